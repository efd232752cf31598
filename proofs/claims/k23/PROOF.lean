import PyProof.Rows.All
import Wide.All
import OpenK.AllK
import Wide.FinOn
import HandS.ForMost
import HandS.Zip
import HandS.IsInst
import HandS.Wide
import HandS.WideMore
import HandS.SortInts
import HandS.TupAny
import HandS.TupMul
import HandS.Conv
import HandS.Flow
import HandS.Style
import HandS.Walk
import KE.KStar
import KE.GoesMore
import KE.GoesZip
import PyProof.ZipIter
import PyProof.ListNew
import HandS.ExcValue
import HandS.More
import PySem.Challenge.RW_wholesworn_k23_whole_common_divisors_of
set_option Elab.async false
set_option linter.all false
set_option maxRecDepth 100000
/-! the D layer: values without addresses -/
namespace DK
open PySem PySem.Spec PyProof.Rows L2

/-- a value: tuples and frozen lists by what is in them, a list that changes by its number -/
inductive D where
  | non | bl (b : Bool) | int (i : Int) | str (s : Str) | tup (xs : List D) | lst (xs : List D) | ro (xs : List D) | ref (n : Nat)
inductive Cell where
  | lst (xs : List D) | dK (kvs : List (Key × D))
abbrev Hd := List Cell
abbrev Sl := List (Option D)
structure Gh where
  al : Nat → Addr
  G : Addr → Prop

def KL (K : PySem.W.Frag) (a : Addr) (xs : List V) : Prop :=
  ∃ (o : Obj) (its : Array Value) (n : Nat), K.lookup a = some o ∧ o.cls = .type "list" ∧ o.dict = none ∧ o.data = .seq its n ∧ its.size ≤ sizeLine ∧ Vals xs its.toList
def FrzL (g : Gh) (H : Hp) (a : Addr) (vs : List V) : Prop := g.G a ∧ H a = some (.lst vs)
def RoL (K : PySem.W.Frag) (H : Hp) (a : Addr) (vs : List V) : Prop := (∃ o, H a = some (.frz o (.lst vs))) ∨ KL K a vs
theorem FrzL.sq {K : PySem.W.Frag} {g : Gh} {H : Hp} {a : Addr} {vs : List V} (h : FrzL g H a vs) : SqL K H a vs := .inl (.inl h.2)
theorem RoL.sq {K : PySem.W.Frag} {H : Hp} {a : Addr} {vs : List V} (h : RoL K H a vs) : SqL K H a vs := by
  rcases h with h | h
  · exact .inl (.inr h)
  · exact .inr h

mutual
inductive Rl (K : PySem.W.Frag) (g : Gh) (n : Nat) (H : Hp) : D → V → Prop where
  | non : Rl K g n H .non .non
  | bl (b : Bool) : Rl K g n H (.bl b) (.bl b)
  | int (i : Int) : Rl K g n H (.int i) (.int i)
  | str (s : Str) : Rl K g n H (.str s) (.str s)
  | tup {xs : List D} {a : Addr} {vs : List V} (h : SqT K H a vs) (r : Rls K g n H xs vs) : Rl K g n H (.tup xs) (.ref a)
  | lst {xs : List D} {a : Addr} {vs : List V} (h : FrzL g H a vs) (r : Rls K g n H xs vs) : Rl K g n H (.lst xs) (.ref a)
  | ro {xs : List D} {a : Addr} {vs : List V} (h : RoL K H a vs) (r : Rls K g n H xs vs) : Rl K g n H (.ro xs) (.ref a)
  | ref {i : Nat} (h : i < n) : Rl K g n H (.ref i) (.ref (g.al i))
inductive Rls (K : PySem.W.Frag) (g : Gh) (n : Nat) (H : Hp) : List D → List V → Prop where
  | nil : Rls K g n H [] []
  | cons {x : D} {v : V} {xs : List D} {vs : List V} (r : Rl K g n H x v) (t : Rls K g n H xs vs) : Rls K g n H (x :: xs) (v :: vs)
end

section
variable {K : PySem.W.Frag} {g g' : Gh} {n n' : Nat} {H H' : Hp}
/-! a general passage of the relation -/
mutual
theorem Rl.pass (ht : ∀ a vs, SqT K H a vs → SqT K H' a vs) (hl : ∀ a vs, FrzL g H a vs → FrzL g' H' a vs) (hr : ∀ a vs, RoL K H a vs → RoL K H' a vs) : ∀ {d : D} {v : V}, Rl K g n H d v → (∀ i, i < n → i < n' ∧ g'.al i = g.al i) → Rl K g' n' H' d v
  | _, _, .non, _ => .non
  | _, _, .bl b, _ => .bl b
  | _, _, .int i, _ => .int i
  | _, _, .str s, _ => .str s
  | _, _, .tup h r, ha => .tup (ht _ _ h) (Rls.pass ht hl hr r ha)
  | _, _, .lst h r, ha => .lst (hl _ _ h) (Rls.pass ht hl hr r ha)
  | _, _, .ro h r, ha => .ro (hr _ _ h) (Rls.pass ht hl hr r ha)
  | _, _, .ref (i := i) h, ha => by
    obtain ⟨h1, h2⟩ := ha i h
    have := Rl.ref (K := K) (g := g') (H := H') h1
    rw [h2] at this
    exact this
theorem Rls.pass (ht : ∀ a vs, SqT K H a vs → SqT K H' a vs) (hl : ∀ a vs, FrzL g H a vs → FrzL g' H' a vs) (hr : ∀ a vs, RoL K H a vs → RoL K H' a vs) : ∀ {ds : List D} {vs : List V}, Rls K g n H ds vs → (∀ i, i < n → i < n' ∧ g'.al i = g.al i) → Rls K g' n' H' ds vs
  | _, _, .nil, _ => .nil
  | _, _, .cons r t, ha => .cons (Rl.pass ht hl hr r ha) (Rls.pass ht hl hr t ha)
end
theorem Rls.length : ∀ {ds : List D} {vs : List V}, Rls K g n H ds vs → ds.length = vs.length
  | _, _, .nil => rfl
  | _, _, .cons _ t => by simp [Rls.length t]
theorem Rls.get : ∀ {ds : List D} {vs : List V} {i : Nat} {d : D}, Rls K g n H ds vs → ds[i]? = some d → ∃ v, vs[i]? = some v ∧ Rl K g n H d v
  | _, _, _, _, .nil, e => by simp at e
  | _, _, 0, _, .cons r _, e => by simp at e; subst e; exact ⟨_, rfl, r⟩
  | _, _, i + 1, d, .cons _ t, e => by
    obtain ⟨v, h1, h2⟩ := Rls.get (i := i) (d := d) t (by simpa using e)
    exact ⟨v, by simpa using h1, h2⟩
theorem Rls.get2 : ∀ {ds : List D} {vs : List V} {i : Nat} {v : V}, Rls K g n H ds vs → vs[i]? = some v → ∃ d, ds[i]? = some d ∧ Rl K g n H d v
  | _, _, _, _, .nil, e => by simp at e
  | _, _, 0, _, .cons r _, e => by simp at e; subst e; exact ⟨_, rfl, r⟩
  | _, _, i + 1, v, .cons _ t, e => by
    obtain ⟨d, h1, h2⟩ := Rls.get2 (i := i) (v := v) t (by simpa using e)
    exact ⟨d, by simpa using h1, h2⟩
theorem Rls.append : ∀ {ds es : List D} {vs ws : List V}, Rls K g n H ds vs → Rls K g n H es ws → Rls K g n H (ds ++ es) (vs ++ ws)
  | _, _, _, _, .nil, s => s
  | _, _, _, _, .cons r t, s => .cons r (Rls.append t s)
theorem Rls.set {d : D} {v : V} (r : Rl K g n H d v) : ∀ {ds : List D} {vs : List V} (i : Nat), Rls K g n H ds vs → Rls K g n H (ds.set i d) (vs.set i v)
  | _, _, _, .nil => .nil
  | _, _, 0, .cons _ t => .cons r t
  | _, _, i + 1, .cons q t => .cons q (Rls.set r i t)
theorem Rls.take : ∀ {ds : List D} {vs : List V} (k : Nat), Rls K g n H ds vs → Rls K g n H (ds.take k) (vs.take k)
  | _, _, 0, _ => .nil
  | _, _, _ + 1, .nil => .nil
  | _, _, k + 1, .cons r t => .cons r (Rls.take k t)
theorem Rls.drop : ∀ {ds : List D} {vs : List V} (k : Nat), Rls K g n H ds vs → Rls K g n H (ds.drop k) (vs.drop k)
  | _, _, 0, r => r
  | _, _, _ + 1, .nil => .nil
  | _, _, k + 1, .cons _ t => Rls.drop k t
theorem Rls.reverse {ds : List D} {vs : List V} (r : Rls K g n H ds vs) : Rls K g n H ds.reverse vs.reverse := by
  induction ds generalizing vs with
  | nil => cases r; exact .nil
  | cons d ds ih =>
    cases r with
    | cons r t =>
      rw [List.reverse_cons, List.reverse_cons]
      exact (ih t).append (.cons r .nil)
theorem Rls.eraseIdx : ∀ {ds : List D} {vs : List V} (k : Nat), Rls K g n H ds vs → Rls K g n H (ds.eraseIdx k) (vs.eraseIdx k)
  | _, _, _, .nil => .nil
  | _, _, 0, .cons _ t => t
  | _, _, k + 1, .cons r t => .cons r (Rls.eraseIdx k t)
theorem Rls.dropLast {ds : List D} {vs : List V} (r : Rls K g n H ds vs) : Rls K g n H ds.dropLast vs.dropLast := by
  rw [List.dropLast_eq_take, List.dropLast_eq_take, ← r.length]
  exact r.take _
theorem Rls.ints {is : List Int} : Rls K g n H (is.map D.int) (is.map V.int) := by
  induction is with
  | nil => exact .nil
  | cons i is ih => exact .cons (.int i) ih
theorem Rls.ints_inv : ∀ {is : List Int} {vs : List V}, Rls K g n H (is.map D.int) vs → vs = is.map V.int
  | [], _, .nil => rfl
  | i :: is, _, .cons r t => by cases r; rw [Rls.ints_inv t]; rfl
theorem Rls.bls_inv : ∀ {bs : List Bool} {vs : List V}, Rls K g n H (bs.map D.bl) vs → vs = bs.map V.bl
  | [], _, .nil => rfl
  | i :: is, _, .cons r t => by cases r; rw [Rls.bls_inv t]; rfl
theorem Rls.replicate {ds : List D} {vs : List V} (r : Rls K g n H ds vs) : ∀ k : Nat, Rls K g n H (List.replicate k ds).flatten (List.replicate k vs).flatten
  | 0 => .nil
  | k + 1 => by
    rw [List.replicate_succ, List.replicate_succ, List.flatten_cons, List.flatten_cons]
    exact r.append (Rls.replicate r k)

/-! ### the numbers that stand in a value -/
mutual
def D.okR (n : Nat) : D → Bool
  | .ref i => decide (i < n)
  | .tup xs => okRs n xs
  | .lst xs => okRs n xs
  | .ro xs => okRs n xs
  | _ => true
def okRs (n : Nat) : List D → Bool
  | [] => true
  | x :: xs => x.okR n && okRs n xs
end
mutual
theorem Rl.okR : ∀ {d : D} {v : V}, Rl K g n H d v → d.okR n = true
  | _, _, .non => rfl
  | _, _, .bl _ => rfl
  | _, _, .int _ => rfl
  | _, _, .str _ => rfl
  | _, _, .tup _ r => by rw [D.okR]; exact Rls.okR r
  | _, _, .lst _ r => by rw [D.okR]; exact Rls.okR r
  | _, _, .ro _ r => by rw [D.okR]; exact Rls.okR r
  | _, _, .ref h => by rw [D.okR]; exact decide_eq_true h
theorem Rls.okR : ∀ {ds : List D} {vs : List V}, Rls K g n H ds vs → okRs n ds = true
  | _, _, .nil => rfl
  | _, _, .cons r t => by rw [okRs, Rl.okR r, Rls.okR t]; rfl
end
mutual
theorem Rl.cut {m : Nat} : ∀ {d : D} {v : V}, Rl K g n H d v → d.okR m = true → Rl K g m H d v
  | _, _, .non, _ => .non
  | _, _, .bl b, _ => .bl b
  | _, _, .int i, _ => .int i
  | _, _, .str s, _ => .str s
  | _, _, .tup h r, k => .tup h (Rls.cut r (by rw [D.okR] at k; exact k))
  | _, _, .lst h r, k => .lst h (Rls.cut r (by rw [D.okR] at k; exact k))
  | _, _, .ro h r, k => .ro h (Rls.cut r (by rw [D.okR] at k; exact k))
  | _, _, .ref h, k => .ref (by rw [D.okR] at k; exact of_decide_eq_true k)
theorem Rls.cut {m : Nat} : ∀ {ds : List D} {vs : List V}, Rls K g n H ds vs → okRs m ds = true → Rls K g m H ds vs
  | _, _, .nil, _ => .nil
  | _, _, .cons r t, k => by
    rw [okRs, Bool.and_eq_true] at k
    exact .cons (Rl.cut r k.1) (Rls.cut t k.2)
end
end

/-! ### the heap, the slots -/
def CellOk (K : PySem.W.Frag) (g : Gh) (n : Nat) (H : Hp) (a : Addr) : Cell → Prop
  | .lst xs => ∃ vs, H a = some (.lst vs) ∧ Rls K g n H xs vs
  | .dK kvs => ∃ kv : List (Key × V), H a = some (.dK kv) ∧ kvs.map (·.1) = kv.map (·.1) ∧ Rls K g n H (kvs.map (·.2)) (kv.map (·.2))
structure HS (K : PySem.W.Frag) (g : Gh) (H : Hp) (h : Hd) : Prop where
  cell : ∀ i c, h[i]? = some c → CellOk K g h.length H (g.al i) c
  inj : ∀ i j, i < h.length → j < h.length → g.al i = g.al j → i = j
  gap : ∀ i, i < h.length → ¬ g.G (g.al i)
  gs : ∀ a, g.G a → ∃ o, H a = some o
structure SlS (K : PySem.W.Frag) (g : Gh) (n : Nat) (H : Hp) (σ : L2.St) (ds : Sl) : Prop where
  len : σ.length = ds.length
  at_ : ∀ (i : Nat) (d : D), ds[i]? = some (some d) → ∃ v, σ[i]? = some (some v) ∧ Rl K g n H d v
structure Sim (K : PySem.W.Frag) (g : Gh) (H : Hp) (σ : L2.St) (ds : Sl) (h : Hd) : Prop where
  hs : HS K g H h
  sl : SlS K g h.length H σ ds

structure Ext (K : PySem.W.Frag) (g : Gh) (n : Nat) (H : Hp) (g' : Gh) (n' : Nat) (H' : Hp) : Prop where
  le : n ≤ n'
  al : ∀ i, i < n → g'.al i = g.al i
  nal : ∀ i, n ≤ i → i < n' → H (g'.al i) = none
  G : ∀ a, g.G a → g'.G a
  nG : ∀ a, g'.G a → g.G a ∨ H a = none
  frame : ∀ a o, H a = some o → (∀ i, i < n → g.al i ≠ a) → H' a = some o
  dom : ∀ a, H' a = none → H a = none
  tup : ∀ a vs, SqT K H a vs → SqT K H' a vs
  frz : ∀ a vs, FrzL g H a vs → FrzL g' H' a vs
  ro : ∀ a vs, RoL K H a vs → RoL K H' a vs

section
variable {K : PySem.W.Frag} {g g' g1 g2 : Gh} {n n' n1 n2 : Nat} {H H' H1 H2 : Hp} {h h' : Hd} {σ σ' : L2.St} {ds ds' : Sl}
theorem Ext.refl : Ext K g n H g n H := ⟨Nat.le_refl _, fun _ _ => rfl, fun i a b => by omega, fun _ q => q, fun _ q => .inl q, fun _ _ e _ => e, fun _ e => e, fun _ _ q => q, fun _ _ q => q, fun _ _ q => q⟩
theorem Ext.trans (a : Ext K g n H g1 n1 H1) (b : Ext K g1 n1 H1 g2 n2 H2) : Ext K g n H g2 n2 H2 where
  le := Nat.le_trans a.le b.le
  al := fun i hi => (b.al i (Nat.lt_of_lt_of_le hi a.le)).trans (a.al i hi)
  nal := fun i h1 h2 => by
    by_cases q : i < n1
    · rw [b.al i q]; exact a.nal i h1 q
    · exact a.dom _ (b.nal i (by omega) h2)
  G := fun x q => b.G x (a.G x q)
  nG := fun x q => by
    rcases b.nG x q with q | q
    · exact a.nG x q
    · exact .inr (a.dom x q)
  frame := fun x o e hi => by
    refine b.frame x o (a.frame x o e hi) fun i h1 z => ?_
    by_cases q : i < n
    · exact hi i q (by rw [← a.al i q]; exact z)
    · have := a.nal i (by omega) h1
      rw [z, e] at this
      cases this
  dom := fun x e => a.dom x (b.dom x e)
  tup := fun x vs q => b.tup x vs (a.tup x vs q)
  frz := fun x vs q => b.frz x vs (a.frz x vs q)
  ro := fun x vs q => b.ro x vs (a.ro x vs q)
theorem Ext.rl (E : Ext K g n H g' n' H') {d : D} {v : V} (r : Rl K g n H d v) : Rl K g' n' H' d v := r.pass E.tup E.frz E.ro fun i hi => ⟨Nat.lt_of_lt_of_le hi E.le, E.al i hi⟩
theorem Ext.rls (E : Ext K g n H g' n' H') {d : List D} {v : List V} (r : Rls K g n H d v) : Rls K g' n' H' d v := r.pass E.tup E.frz E.ro fun i hi => ⟨Nat.lt_of_lt_of_le hi E.le, E.al i hi⟩
theorem Ext.sl (E : Ext K g n H g' n' H') (s : SlS K g n H σ ds) : SlS K g' n' H' σ ds := ⟨s.len, fun i d e => by
  obtain ⟨v, h1, h2⟩ := s.at_ i d e
  exact ⟨v, h1, E.rl h2⟩⟩
theorem HS.ne_none (hs : HS K g H h) {i : Nat} (hi : i < h.length) : ∃ o, H (g.al i) = some o ∧ ((∃ vs, o = .lst vs) ∨ ∃ kv, o = .dK kv) := by
  have := hs.cell i _ (List.getElem?_eq_getElem hi)
  cases e : h[i] with
  | lst xs => rw [e] at this; obtain ⟨vs, q, _⟩ := this; exact ⟨_, q, .inl ⟨_, rfl⟩⟩
  | dK xs => rw [e] at this; obtain ⟨vs, q, _⟩ := this; exact ⟨_, q, .inr ⟨_, rfl⟩⟩
/-- a new object at p -/
theorem Ext.new {p : Addr} {o : HO} (hp : H p = none) : Ext K g n H g n (upd H p o) := by
  have ne : ∀ a u, H a = some u → upd H p o a = some u := fun a u e => by rw [upd_ne (ne_of_none e hp)]; exact e
  have rd : ∀ a u, Rd H a u → Rd (upd H p o) a u := fun a u e => by
    rcases e with e | ⟨q, e⟩
    · exact .inl (ne _ _ e)
    · exact .inr ⟨q, ne _ _ e⟩
  refine ⟨Nat.le_refl _, fun _ _ => rfl, fun i a b => by omega, fun _ q => q, fun _ q => .inl q, fun a u e _ => ne a u e, fun a e => ?_, fun a vs q => ?_, fun a vs q => ?_, fun a vs q => ?_⟩
  · by_cases z : a = p
    · rw [z]; exact hp
    · rw [upd_ne z] at e; exact e
  · rcases q with q | q
    · exact .inl (rd _ _ q)
    · exact .inr q
  · exact ⟨q.1, ne _ _ q.2⟩
  · rcases q with ⟨o, q⟩ | q
    · exact .inl ⟨o, ne _ _ q⟩
    · exact .inr q
theorem CellOk.rl {a : Addr} {c : Cell} (he : H' a = H a) (r : ∀ {d : List D} {v : List V}, Rls K g n H d v → Rls K g' n' H' d v) (k : CellOk K g n H a c) : CellOk K g' n' H' a c := by
  cases c with
  | lst xs => obtain ⟨vs, e, q⟩ := k; exact ⟨vs, by rw [he]; exact e, r q⟩
  | dK kvs => obtain ⟨vs, e, q1, q⟩ := k; exact ⟨vs, by rw [he]; exact e, q1, r q⟩
theorem HS.new (hs : HS K g H h) {p : Addr} {o : HO} (hp : H p = none) : HS K g (upd H p o) h := by
  have E : Ext K g h.length H g h.length (upd H p o) := Ext.new hp
  refine ⟨fun i c e => ?_, hs.inj, hs.gap, fun a q => ?_⟩
  · have hi : i < h.length := (List.getElem?_eq_some_iff.mp e).1
    obtain ⟨u, hu, _⟩ := hs.ne_none hi
    exact (hs.cell i c e).rl (upd_ne (ne_of_none hu hp)) E.rls
  · obtain ⟨u, hu⟩ := hs.gs a q
    exact ⟨u, by rw [upd_ne (ne_of_none hu hp)]; exact hu⟩
theorem Sim.new (s : Sim K g H σ ds h) {p : Addr} {o : HO} (hp : H p = none) : Sim K g (upd H p o) σ ds h := ⟨s.hs.new hp, (Ext.new hp).sl s.sl⟩
/-- a fresh list becomes frozen -/
def Gh.frz (g : Gh) (p : Addr) : Gh := ⟨g.al, fun a => g.G a ∨ a = p⟩
theorem Ext.freeze {p : Addr} {vs : List V} (hp : H p = none) : Ext K g n H (g.frz p) n (upd H p (.lst vs)) := by
  have E : Ext K g n H g n (upd H p (.lst vs)) := Ext.new hp
  refine ⟨E.le, E.al, fun i a b => by omega, fun a q => .inl q, fun a q => ?_, E.frame, E.dom, E.tup, fun a us q => ?_, E.ro⟩
  · rcases q with q | q
    · exact .inl q
    · rw [q]; exact .inr hp
  · exact ⟨.inl q.1, (E.frz a us q).2⟩
theorem HS.freeze (hs : HS K g H h) {p : Addr} {vs : List V} (hp : H p = none) : HS K (g.frz p) (upd H p (.lst vs)) h := by
  have E : Ext K g h.length H (g.frz p) h.length (upd H p (.lst vs)) := Ext.freeze hp
  have hn := hs.new (o := .lst vs) hp
  refine ⟨fun i c e => ?_, hs.inj, fun i hi q => ?_, fun a q => ?_⟩
  · have hi : i < h.length := (List.getElem?_eq_some_iff.mp e).1
    obtain ⟨u, hu, _⟩ := hs.ne_none hi
    exact (hs.cell i c e).rl (upd_ne (ne_of_none hu hp)) E.rls
  · rcases q with q | q
    · exact hs.gap i hi q
    · obtain ⟨u, hu, _⟩ := hs.ne_none hi
      rw [show g.al i = p from q, hp] at hu
      cases hu
  · rcases q with q | q
    · exact hn.gs a q
    · rw [q]; exact ⟨_, upd_same⟩
theorem Rl.frozen {p : Addr} {vs : List V} {xs : List D} (hp : H p = none) (r : Rls K g n H xs vs) : Rl K (g.frz p) n (upd H p (.lst vs)) (.lst xs) (.ref p) :=
  .lst ⟨.inr rfl, upd_same⟩ ((Ext.freeze hp).rls r)
/-- a fresh object gets a number -/
def Gh.put (g : Gh) (n : Nat) (p : Addr) : Gh := ⟨fun i => if i = n then p else g.al i, g.G⟩
theorem Gh.put_same : (g.put n p).al n = p := by simp [Gh.put]
theorem Gh.put_ne {i : Nat} (hi : i ≠ n) : (g.put n p).al i = g.al i := by simp [Gh.put, hi]
theorem Ext.number {p : Addr} {o : HO} (hp : H p = none) : Ext K g n H (g.put n p) (n + 1) (upd H p o) := by
  have E : Ext K g n H g n (upd H p o) := Ext.new hp
  refine ⟨Nat.le_succ _, fun i hi => Gh.put_ne (by omega), fun i a b => ?_, fun a q => q, fun a q => .inl q, E.frame, E.dom, E.tup, E.frz, E.ro⟩
  have : i = n := by omega
  subst this
  rw [Gh.put_same]; exact hp
theorem HS.number (hs : HS K g H h) {p : Addr} {o : HO} {c : Cell} (hp : H p = none) (hc : CellOk K (g.put h.length p) (h.length + 1) (upd H p o) p c) : HS K (g.put h.length p) (upd H p o) (h ++ [c]) := by
  have E : Ext K g h.length H (g.put h.length p) (h.length + 1) (upd H p o) := Ext.number hp
  have nep : ∀ i, i < h.length → g.al i ≠ p := fun i hi z => by
    obtain ⟨u, hu, _⟩ := hs.ne_none hi
    rw [z, hp] at hu; cases hu
  refine ⟨fun i d e => ?_, fun i j hi hj q => ?_, fun i hi q => ?_, fun a q => ?_⟩
  · rw [List.length_append, List.length_singleton]
    by_cases hi : i < h.length
    · rw [List.getElem?_append_left hi] at e
      rw [Gh.put_ne (by omega)]
      exact (hs.cell i d e).rl (upd_ne (nep i hi)) E.rls
    · rw [List.getElem?_append_right (by omega)] at e
      have hi' : i = h.length := by
        have := (List.getElem?_eq_some_iff.mp e).1
        simp at this
        omega
      subst hi'
      simp at e
      subst e
      rw [Gh.put_same]
      exact hc
  · rw [List.length_append, List.length_singleton] at hi hj
    by_cases h1 : i = h.length <;> by_cases h2 : j = h.length
    · omega
    · rw [h1, Gh.put_same, Gh.put_ne h2] at q
      exact absurd q.symm (nep j (by omega))
    · rw [h2, Gh.put_same, Gh.put_ne h1] at q
      exact absurd q (nep i (by omega))
    · rw [Gh.put_ne h1, Gh.put_ne h2] at q
      exact hs.inj i j (by omega) (by omega) q
  · rw [List.length_append, List.length_singleton] at hi
    by_cases h1 : i = h.length
    · rw [h1, Gh.put_same] at q
      obtain ⟨u, hu⟩ := hs.gs p q
      rw [hp] at hu; cases hu
    · rw [Gh.put_ne h1] at q
      exact hs.gap i (by omega) q
  · obtain ⟨u, hu⟩ := hs.gs a q
    exact ⟨u, by rw [upd_ne (ne_of_none hu hp)]; exact hu⟩
/-- a numbered object is written -/
theorem Ext.write (hs : HS K g H h) {i : Nat} {o : HO} (hi : i < h.length) : Ext K g h.length H g h.length (upd H (g.al i) o) := by
  obtain ⟨u, hu, hk⟩ := hs.ne_none hi
  have rd : ∀ a w, (∀ vs, w ≠ .lst vs) → (∀ kv, w ≠ .dK kv) → H a = some w → upd H (g.al i) o a = some w := fun a w h1 h2 e => by
    rw [upd_ne]
    · exact e
    · intro z
      rw [z, hu] at e
      cases e
      rcases hk with ⟨vs, q⟩ | ⟨kv, q⟩
      · exact h1 _ q
      · exact h2 _ q
  refine ⟨Nat.le_refl _, fun _ _ => rfl, fun i a b => by omega, fun _ q => q, fun _ q => .inl q, fun a w e hne => ?_, fun a e => ?_, fun a vs q => ?_, fun a vs q => ?_, fun a vs q => ?_⟩
  · rw [upd_ne (Ne.symm (hne i hi))]; exact e
  · by_cases z : a = g.al i
    · rw [z, upd_same] at e; cases e
    · rw [upd_ne z] at e; exact e
  · rcases q with (q | ⟨w, q⟩) | q
    · exact .inl (.inl (rd _ _ (fun _ z => by cases z) (fun _ z => by cases z) q))
    · exact .inl (.inr ⟨w, rd _ _ (fun _ z => by cases z) (fun _ z => by cases z) q⟩)
    · exact .inr q
  · obtain ⟨q1, q⟩ := q
    refine ⟨q1, ?_⟩
    rw [upd_ne]
    · exact q
    · intro z; rw [z] at q1; exact hs.gap i hi q1
  · rcases q with ⟨w, q⟩ | q
    · exact .inl ⟨w, rd _ _ (fun _ z => by cases z) (fun _ z => by cases z) q⟩
    · exact .inr q
theorem HS.write (hs : HS K g H h) {i : Nat} {o : HO} {c : Cell} (hi : i < h.length) (hc : CellOk K g h.length (upd H (g.al i) o) (g.al i) c) : HS K g (upd H (g.al i) o) (h.set i c) := by
  have E : Ext K g h.length H g h.length (upd H (g.al i) o) := Ext.write hs hi
  refine ⟨fun j d e => ?_, fun a b ha hb => hs.inj a b (by simpa using ha) (by simpa using hb), fun j hj => hs.gap j (by simpa using hj), fun a q => ?_⟩
  · rw [List.length_set]
    by_cases z : i = j
    · subst z
      rw [List.getElem?_set_self hi] at e
      cases e
      exact hc
    · rw [List.getElem?_set_ne z] at e
      have hj : j < h.length := (List.getElem?_eq_some_iff.mp e).1
      exact (hs.cell j d e).rl (upd_ne fun y => z (hs.inj i j hi hj y.symm)) E.rls
  · obtain ⟨u, hu⟩ := hs.gs a q
    by_cases z : a = g.al i
    · exact ⟨o, by rw [z]; exact upd_same⟩
    · exact ⟨u, by rw [upd_ne z]; exact hu⟩
theorem Sim.len (s : Sim K g H σ ds h) : σ.length = ds.length := s.sl.len
theorem SlS.set {d : D} {v : V} {i : Nat} (s : SlS K g n H σ ds) (r : Rl K g n H d v) : SlS K g n H (σ.set i (some v)) (ds.set i (some d)) := by
  refine ⟨by simp [s.len], fun j e q => ?_⟩
  by_cases z : i = j
  · subst z
    have hi : i < ds.length := by
      have := (List.getElem?_eq_some_iff.mp q).1
      simpa using this
    rw [List.getElem?_set_self hi] at q
    cases q
    exact ⟨v, by rw [List.getElem?_set_self (by rw [s.len]; exact hi)], r⟩
  · rw [List.getElem?_set_ne z] at q
    obtain ⟨w, h1, h2⟩ := s.at_ j e q
    exact ⟨w, by rw [List.getElem?_set_ne z]; exact h1, h2⟩
/-- the heap without p -/
def dropP (H : Hp) (p : Addr) : Hp := fun b => if b = p then none else H b
theorem dropP_same {p : Addr} : dropP H p p = none := by simp [dropP]
theorem dropP_ne {p b : Addr} (hb : b ≠ p) : dropP H p b = H b := by simp [dropP, hb]
theorem upd_dropP {p : Addr} {o : HO} : upd (dropP H p) p o = upd H p o := by
  funext b
  unfold upd dropP
  by_cases z : b = p
  · simp [z]
  · simp [z]
theorem upd_self {p : Addr} {o : HO} (e : H p = some o) : upd H p o = H := by
  funext b
  unfold upd
  by_cases z : b = p
  · simp [z, e]
  · simp [z]
section
variable {p : Addr} {us : List V} (hp : H p = some (.lst us)) (hG : ¬ g.G p)
include hp hG
theorem drop_tup : ∀ a vs, SqT K H a vs → SqT K (dropP H p) a vs := fun a vs q => by
  rcases q with (q | ⟨w, q⟩) | q
  · exact .inl (.inl (by rw [dropP_ne (fun z => by rw [z, hp] at q; cases q)]; exact q))
  · exact .inl (.inr ⟨w, by rw [dropP_ne (fun z => by rw [z, hp] at q; cases q)]; exact q⟩)
  · exact .inr q
theorem drop_frz : ∀ a vs, FrzL g H a vs → FrzL g (dropP H p) a vs := fun a vs q => by
  obtain ⟨q1, q⟩ := q
  exact ⟨q1, by rw [dropP_ne (fun z => by rw [z] at q1; exact hG q1)]; exact q⟩
omit hG in
theorem drop_ro : ∀ a vs, RoL K H a vs → RoL K (dropP H p) a vs := fun a vs q => by
  rcases q with ⟨w, q⟩ | q
  · exact .inl ⟨w, by rw [dropP_ne (fun z => by rw [z, hp] at q; cases q)]; exact q⟩
  · exact .inr q
theorem Rl.dropped {d : D} {v : V} (r : Rl K g n H d v) : Rl K g n (dropP H p) d v := r.pass (drop_tup hp hG) (drop_frz hp hG) (drop_ro hp) fun i hi => ⟨hi, rfl⟩
theorem Rls.dropped {d : List D} {v : List V} (r : Rls K g n H d v) : Rls K g n (dropP H p) d v := r.pass (drop_tup hp hG) (drop_frz hp hG) (drop_ro hp) fun i hi => ⟨hi, rfl⟩
theorem HS.dropped (hs : HS K g H h) (hne : ∀ i, i < h.length → g.al i ≠ p) : HS K g (dropP H p) h := by
  refine ⟨fun i c e => ?_, hs.inj, hs.gap, fun a q => ?_⟩
  · have hi : i < h.length := (List.getElem?_eq_some_iff.mp e).1
    exact (hs.cell i c e).rl (dropP_ne (hne i hi)) fun r => r.dropped hp hG
  · obtain ⟨u, hu⟩ := hs.gs a q
    exact ⟨u, by rw [dropP_ne (fun z => by rw [z] at q; exact hG q)]; exact hu⟩
theorem SlS.dropped (s : SlS K g n H σ ds) : SlS K g n (dropP H p) σ ds := ⟨s.len, fun i d e => by
  obtain ⟨v, h1, h2⟩ := s.at_ i d e
  exact ⟨v, h1, h2.dropped hp hG⟩⟩
end
end
end DK

namespace DK
open PySem PySem.Spec PyProof.Rows L2

/-! ### the functional side -/
abbrev M (α : Type) := Hd → Option (α × Hd)
def bindM {α β : Type} (x : M α) (f : α → M β) : M β := fun h => match x h with
  | none => none
  | some (a, h1) => f a h1
def retM {α : Type} (a : α) : M α := fun h => some (a, h)
def failM {α : Type} : M α := fun _ => none
abbrev EV := Nat → Sl → M D
abbrev TV := Nat → Sl → M Bool
abbrev AV := Nat → Sl → M (List D)
theorem bindM_some {α β : Type} {x : M α} {f : α → M β} {h : Hd} {r : β × Hd} (e : bindM x f h = some r) : ∃ a h1, x h = some (a, h1) ∧ f a h1 = some r := by
  unfold bindM at e
  split at e
  · cases e
  · rename_i a h1 q
    exact ⟨a, h1, q, e⟩
@[simp] theorem bindM_eq {α β : Type} {x : M α} {f : α → M β} {h h1 : Hd} {a : α} (e : x h = some (a, h1)) : bindM x f h = f a h1 := by
  unfold bindM; rw [e]

/-! ### the judgements -/
def PostE (K : PySem.W.Frag) (g : Gh) (n : Nat) (H : Hp) (σ : L2.St) (ds : Sl) (h' : Hd) (d : D) (Q : VK) : Prop :=
  ∀ g' H' v, Ext K g n H g' h'.length H' → Sim K g' H' σ ds h' → Rl K g' h'.length H' d v → Q v H'
structure DE (X : Cx) (e : Expr) (ev : EV) : Prop where
  ex : ∃ t : TE, PE X e t ∧ ∀ (n : Nat) (g : Gh) (σ : L2.St) (H : Hp) (ds : Sl) (h : Hd) (d : D) (h' : Hd) (Q : VK),
    Sim X.K g H σ ds h → ev n ds h = some (d, h') → PostE X.K g h.length H σ ds h' d Q → t σ H Q
def PostT (K : PySem.W.Frag) (g : Gh) (n : Nat) (H : Hp) (σ : L2.St) (ds : Sl) (h' : Hd) (b : Bool) (Q : Bool → Hp → Prop) : Prop :=
  ∀ g' H', Ext K g n H g' h'.length H' → Sim K g' H' σ ds h' → Q b H'
structure DT (X : Cx) (e : Expr) (ev : TV) : Prop where
  ex : ∃ t : TT, PT X e t ∧ ∀ (n : Nat) (g : Gh) (σ : L2.St) (H : Hp) (ds : Sl) (h : Hd) (b : Bool) (h' : Hd) (Q : Bool → Hp → Prop),
    Sim X.K g H σ ds h → ev n ds h = some (b, h') → PostT X.K g h.length H σ ds h' b Q → t σ H Q
structure DW (X : Cx) (e : Expr) (ev : TV) : Prop where
  ex : ∃ t : TT, PW X e t ∧ ∀ (n : Nat) (g : Gh) (σ : L2.St) (H : Hp) (ds : Sl) (h : Hd) (b : Bool) (h' : Hd) (Q : Bool → Hp → Prop),
    Sim X.K g H σ ds h → ev n ds h = some (b, h') → PostT X.K g h.length H σ ds h' b Q → t σ H Q
def PostA (K : PySem.W.Frag) (g : Gh) (n : Nat) (H : Hp) (σ : L2.St) (ds : Sl) (h' : Hd) (xs : List D) (Q : List V → Hp → Prop) : Prop :=
  ∀ g' H' vs, Ext K g n H g' h'.length H' → Sim K g' H' σ ds h' → Rls K g' h'.length H' xs vs → Q vs H'
structure DA (X : Cx) (es : List Expr) (ev : AV) : Prop where
  ex : ∃ t : TA, PA X es t ∧ ∀ (n : Nat) (g : Gh) (σ : L2.St) (H : Hp) (ds : Sl) (h : Hd) (xs : List D) (h' : Hd) (Q : List V → Hp → Prop),
    Sim X.K g H σ ds h → ev n ds h = some (xs, h') → PostA X.K g h.length H σ ds h' xs Q → t σ H Q
/-- a new list: p is its place, H' the heap ahead of it -/
def PostL (K : PySem.W.Frag) (g : Gh) (n : Nat) (H : Hp) (σ : L2.St) (ds : Sl) (h' : Hd) (xs : List D) (Q : VK) : Prop :=
  ∀ g' H' p vs, Ext K g n H g' h'.length H' → Sim K g' H' σ ds h' → Rls K g' h'.length H' xs vs → H' p = none → Q (.ref p) (upd H' p (.lst vs))
structure DL (X : Cx) (e : Expr) (ev : AV) : Prop where
  ex : ∃ t : TE, PE X e t ∧ ∀ (n : Nat) (g : Gh) (σ : L2.St) (H : Hp) (ds : Sl) (h : Hd) (xs : List D) (h' : Hd) (Q : VK),
    Sim X.K g H σ ds h → ev n ds h = some (xs, h') → PostL X.K g h.length H σ ds h' xs Q → t σ H Q

/-! operations on values -/
def PostO (K : PySem.W.Frag) (g : Gh) (n : Nat) (H : Hp) (h' : Hd) (d : D) (Q : VK) : Prop :=
  ∀ g' H' v, Ext K g n H g' h'.length H' → HS K g' H' h' → Rl K g' h'.length H' d v → Q v H'
def PostOL (K : PySem.W.Frag) (g : Gh) (n : Nat) (H : Hp) (h' : Hd) (xs : List D) (Q : VK) : Prop :=
  ∀ g' H' p vs, Ext K g n H g' h'.length H' → HS K g' H' h' → Rls K g' h'.length H' xs vs → H' p = none → Q (.ref p) (upd H' p (.lst vs))
structure DOp (X : Cx) (f : Value → Value → Sem Value) (op : D → D → M D) : Prop where
  ex : ∃ r : R2, OpR X f r ∧ ∀ (g : Gh) (H : Hp) (h : Hd) (x y : D) (vx vy : V) (d : D) (h' : Hd) (Q : VK), HS X.K g H h → Rl X.K g h.length H x vx → Rl X.K g h.length H y vy →
    op x y h = some (d, h') → PostO X.K g h.length H h' d Q → r vx vy H Q
structure LOp (X : Cx) (f : Value → Value → Sem Value) (op : D → D → M (List D)) : Prop where
  ex : ∃ r : R2, OpR X f r ∧ ∀ (g : Gh) (H : Hp) (h : Hd) (x y : D) (vx vy : V) (d : List D) (h' : Hd) (Q : VK), HS X.K g H h → Rl X.K g h.length H x vx → Rl X.K g h.length H y vy →
    op x y h = some (d, h') → PostOL X.K g h.length H h' d Q → r vx vy H Q
structure DCall (X : Cx) (f : Value) (op : List D → M D) : Prop where
  ex : ∃ r : List V → Hp → VK → Prop, CallR X f r ∧ ∀ (g : Gh) (H : Hp) (h : Hd) (xs : List D) (vs : List V) (d : D) (h' : Hd) (Q : VK), HS X.K g H h → Rls X.K g h.length H xs vs →
    op xs h = some (d, h') → PostO X.K g h.length H h' d Q → r vs H Q
structure LCall (X : Cx) (f : Value) (op : List D → M (List D)) : Prop where
  ex : ∃ r : List V → Hp → VK → Prop, CallR X f r ∧ ∀ (g : Gh) (H : Hp) (h : Hd) (xs : List D) (vs : List V) (d : List D) (h' : Hd) (Q : VK), HS X.K g H h → Rls X.K g h.length H xs vs →
    op xs h = some (d, h') → PostOL X.K g h.length H h' d Q → r vs H Q

section
variable {X : Cx} {a b c e : Expr} {es : List Expr} {pos : Pos} {ea eb ec : EV} {ta tb : TV}
/-- nothing changes in the heap -/
theorem PostO.here {K : PySem.W.Frag} {g : Gh} {H : Hp} {h : Hd} {d : D} {v : V} {Q : VK} (q : PostO K g h.length H h d Q) (hs : HS K g H h) (r : Rl K g h.length H d v) : Q v H := q g H v .refl hs r

/-! ### names, constants -/
def eVar (i : Nat) : EV := fun _ ds h => match ds[i]? with
  | some (some d) => some (d, h)
  | _ => none
def eC (d : D) : EV := fun _ _ h => some (d, h)
theorem de_of_var {i : Nat} (p : PE X e (tVar i)) : DE X e (eVar i) := by
  refine ⟨tVar i, p, fun n g σ H ds h d h' Q S ev q => ?_⟩
  unfold eVar at ev
  split at ev
  · rename_i d' hd
    cases ev
    obtain ⟨v, h1, r⟩ := S.sl.at_ i d hd
    exact ⟨v, h1, q g H v .refl S r⟩
  · cases ev
theorem de_of_c {v : V} {d : D} (p : PE X e (tC v)) (r : ∀ K g n H, Rl K g n H d v) : DE X e (eC d) := by
  refine ⟨tC v, p, fun n g σ H ds h d' h' Q S ev q => ?_⟩
  cases ev
  exact q g H v .refl S (r _ _ _ _)
theorem de_int {i j} : DE X (.Constant (.int i) j pos) (eC (.int i)) := de_of_c pe_int fun _ _ _ _ => .int i
theorem de_bl {i j} : DE X (.Constant (.bool i) j pos) (eC (.bl i)) := de_of_c pe_bl fun _ _ _ _ => .bl i
theorem de_str {i j} : DE X (.Constant (.str i) j pos) (eC (.str i)) := de_of_c pe_str fun _ _ _ _ => .str i
theorem de_non {j} : DE X (.Constant .none j pos) (eC .non) := de_of_c pe_non fun _ _ _ _ => .non
theorem de_glob {x : Str} {i : Int} {u : Value} (hg : Gl X x) (hm : X.mg x = some u) (r : RelV (.int i) u) (hd : (x == ("__debug__" : Str)) = false := by decide) : DE X (.Name x pos) (eC (.int i)) :=
  de_of_c (pe_glob hg hm r hd) fun _ _ _ _ => .int i

/-! ### two places -/
def eBin (op : D → D → M D) (a b : EV) : EV := fun n ds => bindM (a n ds) fun x => bindM (b n ds) fun y => op x y
def lBin (op : D → D → M (List D)) (a b : EV) : AV := fun n ds => bindM (a n ds) fun x => bindM (b n ds) fun y => op x y
theorem bin_sound {t t' : TE} {K : PySem.W.Frag} {α : Type} {op : D → D → M α} {R : V → V → Hp → Prop} {n : Nat} {g : Gh} {σ : L2.St} {H : Hp} {ds : Sl} {h : Hd} {d : α} {h' : Hd} {ea eb : EV}
    (sa : ∀ (n : Nat) (g : Gh) (σ : L2.St) (H : Hp) (ds : Sl) (h : Hd) (d : D) (h' : Hd) (Q : VK), Sim K g H σ ds h → ea n ds h = some (d, h') → PostE K g h.length H σ ds h' d Q → t σ H Q)
    (sb : ∀ (n : Nat) (g : Gh) (σ : L2.St) (H : Hp) (ds : Sl) (h : Hd) (d : D) (h' : Hd) (Q : VK), Sim K g H σ ds h → eb n ds h = some (d, h') → PostE K g h.length H σ ds h' d Q → t' σ H Q)
    (S : Sim K g H σ ds h) (ev : bindM (ea n ds) (fun x => bindM (eb n ds) fun y => op x y) h = some (d, h'))
    (k : ∀ g2 H2 h2 x y vx vy, Ext K g h.length H g2 h2.length H2 → Sim K g2 H2 σ ds h2 → Rl K g2 h2.length H2 x vx → Rl K g2 h2.length H2 y vy → op x y h2 = some (d, h') → R vx vy H2) :
    t σ H fun x H1 => t' σ H1 fun y H2 => R x y H2 := by
  obtain ⟨x, h1, e1, ev⟩ := bindM_some ev
  obtain ⟨y, h2, e2, ev⟩ := bindM_some ev
  refine sa n g σ H ds h x h1 _ S e1 fun g1 H1 vx E1 S1 r1 => ?_
  refine sb n g1 σ H1 ds h1 y h2 _ S1 e2 fun g2 H2 vy E2 S2 r2 => ?_
  exact k g2 H2 h2 x y vx vy (E1.trans E2) S2 (E2.rl r1) r2 ev
theorem de_bin {op : Operator} {f : D → D → M D} (ho : DOp X (binaryOp op) f) (ha : DE X a ea) (hb : DE X b eb) : DE X (.BinOp a op b pos) (eBin f ea eb) := by
  obtain ⟨r, hr, so⟩ := ho.ex
  obtain ⟨ta, pa, sa⟩ := ha.ex
  obtain ⟨tb, pb, sb⟩ := hb.ex
  refine ⟨_, pe_op hr pa pb, fun n g σ H ds h d h' Q S ev q => ?_⟩
  refine bin_sound (R := fun x y H2 => r x y H2 Q) sa sb S ev fun g2 H2 h2 x y vx vy E S2 r1 r2 e => ?_
  exact so g2 H2 h2 x y vx vy d h' Q S2.hs r1 r2 e fun g3 H3 v E3 hs3 r3 => q g3 H3 v (E.trans E3) ⟨hs3, E3.sl S2.sl⟩ r3
theorem dl_bin {op : Operator} {f : D → D → M (List D)} (ho : LOp X (binaryOp op) f) (ha : DE X a ea) (hb : DE X b eb) : DL X (.BinOp a op b pos) (lBin f ea eb) := by
  obtain ⟨r, hr, so⟩ := ho.ex
  obtain ⟨ta, pa, sa⟩ := ha.ex
  obtain ⟨tb, pb, sb⟩ := hb.ex
  refine ⟨_, pe_op hr pa pb, fun n g σ H ds h d h' Q S ev q => ?_⟩
  refine bin_sound (R := fun x y H2 => r x y H2 Q) sa sb S ev fun g2 H2 h2 x y vx vy E S2 r1 r2 e => ?_
  exact so g2 H2 h2 x y vx vy d h' Q S2.hs r1 r2 e fun g3 H3 p vs E3 hs3 r3 hp => q g3 H3 p vs (E.trans E3) ⟨hs3, E3.sl S2.sl⟩ r3 hp
theorem de_cmp {op : CmpOp} {f : D → D → M D} (ho : DOp X (compareOp op) f) (ha : DE X a ea) (hb : DE X b eb) (hm : behindInMarks op b = false) : DE X (.Compare a [op] [b] pos) (eBin f ea eb) := by
  obtain ⟨r, hr, so⟩ := ho.ex
  obtain ⟨ta, pa, sa⟩ := ha.ex
  obtain ⟨tb, pb, sb⟩ := hb.ex
  refine ⟨_, pe_cmpR hr pa pb hm, fun n g σ H ds h d h' Q S ev q => ?_⟩
  refine bin_sound (R := fun x y H2 => r x y H2 Q) sa sb S ev fun g2 H2 h2 x y vx vy E S2 r1 r2 e => ?_
  exact so g2 H2 h2 x y vx vy d h' Q S2.hs r1 r2 e fun g3 H3 v E3 hs3 r3 => q g3 H3 v (E.trans E3) ⟨hs3, E3.sl S2.sl⟩ r3
/-- a value that is a truth value, as a test -/
def asB (x : M D) : M Bool := fun h => match x h with
  | some (.bl b, h1) => some (b, h1)
  | _ => none
theorem asB_some {x : M D} {h h' : Hd} {b : Bool} (e : asB x h = some (b, h')) : x h = some (.bl b, h') := by
  unfold asB at e
  split at e
  · rename_i b' h1 q
    cases e
    exact q
  · cases e
theorem Rl.bl_inv {K : PySem.W.Frag} {g : Gh} {n : Nat} {H : Hp} {b : Bool} {v : V} (r : Rl K g n H (.bl b) v) : v = .bl b := by cases r; rfl
theorem Rl.int_inv {K : PySem.W.Frag} {g : Gh} {n : Nat} {H : Hp} {b : Int} {v : V} (r : Rl K g n H (.int b) v) : v = .int b := by cases r; rfl
def tT (ev : EV) : TV := fun n ds => asB (ev n ds)
theorem dt_cmp {op : CmpOp} {f : D → D → M D} (ho : DOp X (compareOp op) f) (ha : DE X a ea) (hb : DE X b eb) (hm : behindInMarks op b = false) : DT X (.Compare a [op] [b] pos) (tT (eBin f ea eb)) := by
  obtain ⟨r, hr, so⟩ := ho.ex
  obtain ⟨ta, pa, sa⟩ := ha.ex
  obtain ⟨tb, pb, sb⟩ := hb.ex
  refine ⟨_, pt_cmpR hr pa pb hm, fun n g σ H ds h d h' Q S ev q => ?_⟩
  have ev := asB_some ev
  refine bin_sound (R := fun x y H2 => r x y H2 fun z H3 => ∃ k, z = .bl k ∧ Q k H3) sa sb S ev fun g2 H2 h2 x y vx vy E S2 r1 r2 e => ?_
  exact so g2 H2 h2 x y vx vy _ h' _ S2.hs r1 r2 e fun g3 H3 v E3 hs3 r3 => ⟨d, r3.bl_inv, q g3 H3 (E.trans E3) ⟨hs3, E3.sl S2.sl⟩⟩
/-- a op b op c -/
def eChain (f f' : D → D → M D) (a b c : EV) : EV := fun n ds => bindM (a n ds) fun x => bindM (b n ds) fun y => bindM (asB (f x y)) fun k => if k = true then bindM (c n ds) fun z => f' y z else retM (.bl false)
theorem chain_sound {ta tb tc : TE} {r r' : R2} {f f' : D → D → M D} {n : Nat} {g : Gh} {σ : L2.St} {H : Hp} {ds : Sl} {h : Hd} {d : D} {h' : Hd} {Q : VK}
    (sa : ∀ (n : Nat) (g : Gh) (σ : L2.St) (H : Hp) (ds : Sl) (h : Hd) (d : D) (h' : Hd) (Q : VK), Sim X.K g H σ ds h → ea n ds h = some (d, h') → PostE X.K g h.length H σ ds h' d Q → ta σ H Q)
    (sb : ∀ (n : Nat) (g : Gh) (σ : L2.St) (H : Hp) (ds : Sl) (h : Hd) (d : D) (h' : Hd) (Q : VK), Sim X.K g H σ ds h → eb n ds h = some (d, h') → PostE X.K g h.length H σ ds h' d Q → tb σ H Q)
    (sc : ∀ (n : Nat) (g : Gh) (σ : L2.St) (H : Hp) (ds : Sl) (h : Hd) (d : D) (h' : Hd) (Q : VK), Sim X.K g H σ ds h → ec n ds h = some (d, h') → PostE X.K g h.length H σ ds h' d Q → tc σ H Q)
    (so : ∀ (g : Gh) (H : Hp) (h : Hd) (x y : D) (vx vy : V) (d : D) (h' : Hd) (Q : VK), HS X.K g H h → Rl X.K g h.length H x vx → Rl X.K g h.length H y vy → f x y h = some (d, h') → PostO X.K g h.length H h' d Q → r vx vy H Q)
    (so' : ∀ (g : Gh) (H : Hp) (h : Hd) (x y : D) (vx vy : V) (d : D) (h' : Hd) (Q : VK), HS X.K g H h → Rl X.K g h.length H x vx → Rl X.K g h.length H y vy → f' x y h = some (d, h') → PostO X.K g h.length H h' d Q → r' vx vy H Q)
    (S : Sim X.K g H σ ds h) (ev : eChain f f' ea eb ec n ds h = some (d, h')) (q : PostE X.K g h.length H σ ds h' d Q) : tChain r r' ta tb tc σ H Q := by
  refine bin_sound (R := fun x y H2 => r x y H2 fun z H3 => ∃ k, z = .bl k ∧ (if k = true then tc σ H3 fun w' H4 => r' y w' H4 Q else Q (.bl false) H3)) sa sb S ev fun g2 H2 h2 x y vx vy E S2 r1 r2 e => ?_
  obtain ⟨k, h3, e3, e⟩ := bindM_some e
  refine so g2 H2 h2 x y vx vy _ h3 _ S2.hs r1 r2 (asB_some e3) fun g3 H3 v E3 hs3 r3 => ⟨k, r3.bl_inv, ?_⟩
  have S3 : Sim X.K g3 H3 σ ds h3 := ⟨hs3, E3.sl S2.sl⟩
  cases k with
  | false =>
    rw [if_neg Bool.false_ne_true] at e ⊢
    cases e
    exact q g3 H3 _ (E.trans E3) S3 (.bl false)
  | true =>
    rw [if_pos rfl] at e ⊢
    obtain ⟨z, h4, e4, e⟩ := bindM_some e
    refine sc n g3 σ H3 ds h3 z h4 _ S3 e4 fun g4 H4 vz E4 S4 r4 => ?_
    exact so' g4 H4 h4 y z vy vz d h' Q S4.hs ((E3.trans E4).rl r2) r4 e fun g5 H5 v5 E5 hs5 r5 => q g5 H5 v5 (((E.trans E3).trans E4).trans E5) ⟨hs5, E5.sl S4.sl⟩ r5
theorem de_chain {op op' : CmpOp} {f f' : D → D → M D} (ho : DOp X (compareOp op) f) (ho' : DOp X (compareOp op') f') (ha : DE X a ea) (hb : DE X b eb) (hc : DE X c ec)
    (hm : lastMarks [op, op'] [b, c] = false := by with_unfolding_all rfl) : DE X (.Compare a [op, op'] [b, c] pos) (eChain f f' ea eb ec) := by
  obtain ⟨r, hr, so⟩ := ho.ex
  obtain ⟨r', hr', so'⟩ := ho'.ex
  obtain ⟨ta, pa, sa⟩ := ha.ex
  obtain ⟨tb, pb, sb⟩ := hb.ex
  obtain ⟨tc, pc, sc⟩ := hc.ex
  exact ⟨_, pe_chain hr hr' pa pb pc hm, fun n g σ H ds h d h' Q S ev q => chain_sound sa sb sc so so' S ev q⟩
theorem dt_chain {op op' : CmpOp} {f f' : D → D → M D} (ho : DOp X (compareOp op) f) (ho' : DOp X (compareOp op') f') (ha : DE X a ea) (hb : DE X b eb) (hc : DE X c ec)
    (hm : lastMarks [op, op'] [b, c] = false := by with_unfolding_all rfl) : DT X (.Compare a [op, op'] [b, c] pos) (tT (eChain f f' ea eb ec)) := by
  obtain ⟨r, hr, so⟩ := ho.ex
  obtain ⟨r', hr', so'⟩ := ho'.ex
  obtain ⟨ta, pa, sa⟩ := ha.ex
  obtain ⟨tb, pb, sb⟩ := hb.ex
  obtain ⟨tc, pc, sc⟩ := hc.ex
  refine ⟨_, pt_chain hr hr' pa pb pc hm, fun n g σ H ds h d h' Q S ev q => ?_⟩
  exact chain_sound sa sb sc so so' S (asB_some ev) fun g' H' v E S' r => ⟨d, r.bl_inv, q g' H' E S'⟩

/-! ### one place, if, and, or, not -/
def eNeg (a : EV) : EV := fun n ds => bindM (a n ds) fun x => match x with
  | .int i => retM (.int (-i))
  | _ => failM
theorem de_neg (ha : DE X a ea) : DE X (.UnaryOp .USub a pos) (eNeg ea) := by
  obtain ⟨ta, pa, sa⟩ := ha.ex
  refine ⟨_, pe_un un_neg pa, fun n g σ H ds h d h' Q S ev q => ?_⟩
  obtain ⟨x, h1, e1, ev⟩ := bindM_some ev
  refine sa n g σ H ds h x h1 _ S e1 fun g1 H1 vx E1 S1 r1 => ?_
  cases x with
  | int i =>
    cases ev
    exact ⟨i, r1.int_inv, q g1 H1 _ E1 S1 (.int _)⟩
  | _ => cases ev
/-- the truth of a value -/
def truD (h : Hd) : D → Option Bool
  | .non => some false
  | .bl b => some b
  | .int i => some (i != 0)
  | .tup xs => some (!xs.isEmpty)
  | .lst xs => some (!xs.isEmpty)
  | .ro xs => some (!xs.isEmpty)
  | .ref i => match h[i]? with
    | some (.lst xs) => some (!xs.isEmpty)
    | some (.dK kvs) => some (!kvs.isEmpty)
    | none => none
  | .str _ => none
theorem isEmpty_rls {K : PySem.W.Frag} {g : Gh} {n : Nat} {H : Hp} {xs : List D} {vs : List V} (r : Rls K g n H xs vs) : (!xs.isEmpty) = !vs.isEmpty := by cases r <;> rfl
theorem isEmpty_len {α β : Type} {xs : List α} {ys : List β} (e : xs.length = ys.length) : (!xs.isEmpty) = !ys.isEmpty := by
  cases xs <;> cases ys <;> first | rfl | simp at e
theorem truD_ok {K : PySem.W.Frag} {g : Gh} {H : Hp} {h : Hd} {d : D} {v : V} {b : Bool} (hs : HS K g H h) (r : Rl K g h.length H d v) (e : truD h d = some b) : TruV K v H b := by
  cases r with
  | non => cases e; rfl
  | bl c => cases e; rfl
  | int i => cases e; rfl
  | str s => cases e
  | tup q r => cases e; exact .inr (.inl ⟨_, q, isEmpty_rls r⟩)
  | lst q r => cases e; exact .inl ⟨_, q.sq, isEmpty_rls r⟩
  | ro q r => cases e; exact .inl ⟨_, q.sq, isEmpty_rls r⟩
  | @ref i hi =>
    have hc := hs.cell i
    have e : (match h[i]? with
      | some (.lst xs) => some (!xs.isEmpty)
      | some (.dK kvs) => some (!kvs.isEmpty)
      | none => none) = some b := e
    split at e
    · rename_i xs q
      cases e
      obtain ⟨vs, e1, r1⟩ := hc _ q
      exact .inl ⟨vs, .inl (.inl e1), isEmpty_rls r1⟩
    · rename_i kvs q
      cases e
      obtain ⟨kv, e1, e2, r1⟩ := hc _ q
      exact .inr (.inr ⟨kv, e1, isEmpty_len (by rw [← List.length_map (f := (·.1)), e2, List.length_map])⟩)
    · cases e
def truM (x : D) : M Bool := fun h => match truD h x with
  | some b => some (b, h)
  | none => none
theorem truM_some {x : D} {h h' : Hd} {b : Bool} (e : truM x h = some (b, h')) : h' = h ∧ truD h x = some b := by
  unfold truM at e
  split at e
  · rename_i c q
    cases e
    exact ⟨rfl, q⟩
  · cases e
def tTru (a : EV) : TV := fun n ds => bindM (a n ds) truM
theorem dt_truth (ha : DE X a ea) (he : ∀ whole, isTrue a X.env whole = (do let v ← whole; standAt a.pos; holding [v] (truthy v)) := by intro _; rfl) : DT X a (tTru ea) := by
  obtain ⟨ta, pa, sa⟩ := ha.ex
  refine ⟨_, pt_truth pa he, fun n g σ H ds h d h' Q S ev q => ?_⟩
  obtain ⟨x, h1, e1, ev⟩ := bindM_some ev
  refine sa n g σ H ds h x h1 _ S e1 fun g1 H1 vx E1 S1 r1 => ?_
  obtain ⟨rfl, ev⟩ := truM_some ev
  exact ⟨d, truD_ok S1.hs r1 ev, q g1 H1 E1 S1⟩
def tNt (a : TV) : TV := fun n ds => bindM (a n ds) fun k => retM (!k)
theorem dt_not (ha : DT X a ta) : DT X (.UnaryOp .Not a pos) (tNt ta) := by
  obtain ⟨t, pa, sa⟩ := ha.ex
  refine ⟨_, pt_not pa, fun n g σ H ds h d h' Q S ev q => ?_⟩
  obtain ⟨x, h1, e1, ev⟩ := bindM_some ev
  refine sa n g σ H ds h x h1 _ S e1 fun g1 H1 E1 S1 => ?_
  cases ev
  exact q g1 H1 E1 S1
def eNt (a : EV) : EV := fun n ds => bindM (a n ds) fun x => bindM (truM x) fun k => retM (.bl (!k))
theorem de_not (ha : DE X a ea) : DE X (.UnaryOp .Not a pos) (eNt ea) := by
  obtain ⟨t, pa, sa⟩ := ha.ex
  refine ⟨_, pe_notT pa, fun n g σ H ds h d h' Q S ev q => ?_⟩
  obtain ⟨x, h1, e1, ev1⟩ := bindM_some ev
  refine sa n g σ H ds h x h1 _ S e1 fun g1 H1 vx E1 S1 r1 => ?_
  obtain ⟨k, h2, e2, ev2⟩ := bindM_some ev1
  obtain ⟨rfl, e2⟩ := truM_some e2
  cases ev2
  exact ⟨k, truD_ok S1.hs r1 e2, q g1 H1 _ E1 S1 (.bl _)⟩
variable {rest : List Expr}
def eAnd (a b : EV) : EV := fun n ds => bindM (a n ds) fun x => bindM (truM x) fun k => if k = true then b n ds else retM x
def eOr (a b : EV) : EV := fun n ds => bindM (a n ds) fun x => bindM (truM x) fun k => if k = true then retM x else b n ds
theorem de_and (ha : DE X a ea) (hb : DE X (.BoolOp .And (b :: rest) pos) eb) : DE X (.BoolOp .And (a :: b :: rest) pos) (eAnd ea eb) := by
  obtain ⟨t, pa, sa⟩ := ha.ex
  obtain ⟨t', pb, sb⟩ := hb.ex
  refine ⟨_, pe_andT pa pb, fun n g σ H ds h d h' Q S ev q => ?_⟩
  obtain ⟨x, h1, e1, ev⟩ := bindM_some ev
  refine sa n g σ H ds h x h1 _ S e1 fun g1 H1 vx E1 S1 r1 => ?_
  obtain ⟨k, h2, e2, ev⟩ := bindM_some ev
  obtain ⟨rfl, e2⟩ := truM_some e2
  refine ⟨k, truD_ok S1.hs r1 e2, ?_⟩
  cases k with
  | true =>
    rw [if_pos rfl] at ev ⊢
    exact sb n g1 σ H1 ds _ d h' Q S1 ev fun g2 H2 v E2 S2 r2 => q g2 H2 v (E1.trans E2) S2 r2
  | false =>
    rw [if_neg Bool.false_ne_true] at ev ⊢
    cases ev
    exact q g1 H1 _ E1 S1 r1
theorem de_or (ha : DE X a ea) (hb : DE X (.BoolOp .Or (b :: rest) pos) eb) : DE X (.BoolOp .Or (a :: b :: rest) pos) (eOr ea eb) := by
  obtain ⟨t, pa, sa⟩ := ha.ex
  obtain ⟨t', pb, sb⟩ := hb.ex
  refine ⟨_, pe_orT pa pb, fun n g σ H ds h d h' Q S ev q => ?_⟩
  obtain ⟨x, h1, e1, ev⟩ := bindM_some ev
  refine sa n g σ H ds h x h1 _ S e1 fun g1 H1 vx E1 S1 r1 => ?_
  obtain ⟨k, h2, e2, ev⟩ := bindM_some ev
  obtain ⟨rfl, e2⟩ := truM_some e2
  refine ⟨k, truD_ok S1.hs r1 e2, ?_⟩
  cases k with
  | false =>
    rw [if_neg Bool.false_ne_true] at ev ⊢
    exact sb n g1 σ H1 ds _ d h' Q S1 ev fun g2 H2 v E2 S2 r2 => q g2 H2 v (E1.trans E2) S2 r2
  | true =>
    rw [if_pos rfl] at ev ⊢
    cases ev
    exact q g1 H1 _ E1 S1 r1
theorem de_one {op} (ha : DE X a ea) : DE X (.BoolOp op [a] pos) ea := by
  obtain ⟨t, pa, sa⟩ := ha.ex
  exact ⟨t, pe_one pa, sa⟩
def tAn (a b : TV) : TV := fun n ds => bindM (a n ds) fun k => if k = true then b n ds else retM false
def tOrr (a b : TV) : TV := fun n ds => bindM (a n ds) fun k => if k = true then retM true else b n ds
theorem dw_and1 (ha : DT X a ta) : DW X (.BoolOp .And [a] pos) ta := by obtain ⟨t, pa, sa⟩ := ha.ex; exact ⟨t, pw_and1 pa, sa⟩
theorem dw_or1 (ha : DT X a ta) : DW X (.BoolOp .Or [a] pos) ta := by obtain ⟨t, pa, sa⟩ := ha.ex; exact ⟨t, pw_or1 pa, sa⟩
theorem dw_and (ha : DT X a ta) (hb : DW X (.BoolOp .And (b :: rest) pos) tb) : DW X (.BoolOp .And (a :: b :: rest) pos) (tAn ta tb) := by
  obtain ⟨t, pa, sa⟩ := ha.ex
  obtain ⟨t', pb, sb⟩ := hb.ex
  refine ⟨_, pw_and pa pb, fun n g σ H ds h d h' Q S ev q => ?_⟩
  obtain ⟨k, h1, e1, ev⟩ := bindM_some ev
  refine sa n g σ H ds h k h1 _ S e1 fun g1 H1 E1 S1 => ?_
  cases k with
  | true =>
    rw [if_pos rfl] at ev ⊢
    exact sb n g1 σ H1 ds _ d h' Q S1 ev fun g2 H2 E2 S2 => q g2 H2 (E1.trans E2) S2
  | false =>
    rw [if_neg Bool.false_ne_true] at ev ⊢
    cases ev
    exact q g1 H1 E1 S1
theorem dw_or (ha : DT X a ta) (hb : DW X (.BoolOp .Or (b :: rest) pos) tb) : DW X (.BoolOp .Or (a :: b :: rest) pos) (tOrr ta tb) := by
  obtain ⟨t, pa, sa⟩ := ha.ex
  obtain ⟨t', pb, sb⟩ := hb.ex
  refine ⟨_, pw_or pa pb, fun n g σ H ds h d h' Q S ev q => ?_⟩
  obtain ⟨k, h1, e1, ev⟩ := bindM_some ev
  refine sa n g σ H ds h k h1 _ S e1 fun g1 H1 E1 S1 => ?_
  cases k with
  | false =>
    rw [if_neg Bool.false_ne_true] at ev ⊢
    exact sb n g1 σ H1 ds _ d h' Q S1 ev fun g2 H2 E2 S2 => q g2 H2 (E1.trans E2) S2
  | true =>
    rw [if_pos rfl] at ev ⊢
    cases ev
    exact q g1 H1 E1 S1
theorem dt_w (h : DW X a ta) : DT X a ta := by obtain ⟨t, pa, sa⟩ := h.ex; exact ⟨t, pa.pt, sa⟩
def eIf (c : TV) (a b : EV) : EV := fun n ds => bindM (c n ds) fun k => if k = true then a n ds else b n ds
theorem de_if (hc : DT X c ta) (ha : DE X a ea) (hb : DE X b eb) : DE X (.IfExp c a b pos) (eIf ta ea eb) := by
  obtain ⟨t, pc, sc⟩ := hc.ex
  obtain ⟨t', pa, sa⟩ := ha.ex
  obtain ⟨t'', pb, sb⟩ := hb.ex
  refine ⟨_, pe_ifExp pc pa pb, fun n g σ H ds h d h' Q S ev q => ?_⟩
  obtain ⟨k, h1, e1, ev⟩ := bindM_some ev
  refine sc n g σ H ds h k h1 _ S e1 fun g1 H1 E1 S1 => ?_
  cases k with
  | true =>
    rw [if_pos rfl] at ev ⊢
    exact sa n g1 σ H1 ds _ d h' Q S1 ev fun g2 H2 v E2 S2 r2 => q g2 H2 v (E1.trans E2) S2 r2
  | false =>
    rw [if_neg Bool.false_ne_true] at ev ⊢
    exact sb n g1 σ H1 ds _ d h' Q S1 ev fun g2 H2 v E2 S2 r2 => q g2 H2 v (E1.trans E2) S2 r2

/-! ### argument lists, displays -/
def aNil : AV := fun _ _ => retM []
def aCons (a : EV) (r : AV) : AV := fun n ds => bindM (a n ds) fun x => bindM (r n ds) fun xs => retM (x :: xs)
theorem da_nil : DA X [] aNil := ⟨_, pa_nil, fun n g σ H ds h d h' Q S ev q => by cases ev; exact q g H [] .refl S .nil⟩
theorem da_cons {ar : AV} (ha : DE X e ea) (hr : DA X es ar) (hs : starEach (e :: es) X.env = (false, eval e X.env) :: starEach es X.env := by rfl) : DA X (e :: es) (aCons ea ar) := by
  obtain ⟨t, pa, sa⟩ := ha.ex
  obtain ⟨t', pr, sr⟩ := hr.ex
  refine ⟨_, pa_cons pa pr hs, fun n g σ H ds h d h' Q S ev q => ?_⟩
  obtain ⟨x, h1, e1, ev⟩ := bindM_some ev
  refine sa n g σ H ds h x h1 _ S e1 fun g1 H1 vx E1 S1 r1 => ?_
  obtain ⟨xs, h2, e2, ev⟩ := bindM_some ev
  refine sr n g1 σ H1 ds h1 xs h2 _ S1 e2 fun g2 H2 vs E2 S2 r2 => ?_
  cases ev
  exact q g2 H2 _ (E1.trans E2) S2 (.cons (E2.rl r1) r2)
def lineOk {α : Type} (xs : List α) : Bool := decide (xs.length ≤ 16777216)
theorem lineOk_le {α β : Type} {xs : List α} {ys : List β} (h : lineOk xs = true) (e : xs.length = ys.length) : ys.length ≤ sizeLine := by
  have := of_decide_eq_true h
  rw [sizeLine_eq]; omega
def eTup (a : AV) : EV := fun n ds => bindM (a n ds) fun xs => if lineOk xs = true then retM (.tup xs) else failM
theorem de_tup {x1} {ar : AV} (ha : DA X es ar) : DE X (.Tuple es x1 pos) (eTup ar) := by
  obtain ⟨t, pa, sa⟩ := ha.ex
  refine ⟨_, pe_tup pa, fun n g σ H ds h d h' Q S ev q => ?_⟩
  obtain ⟨xs, h1, e1, ev⟩ := bindM_some ev
  refine sa n g σ H ds h xs h1 _ S e1 fun g1 H1 vs E1 S1 r1 => ?_
  split at ev
  · rename_i hl
    cases ev
    refine ⟨lineOk_le hl r1.length, fun p hp => ?_⟩
    have E2 : Ext X.K g1 h'.length H1 g1 h'.length (upd H1 p (.tup vs)) := Ext.new hp
    exact q g1 _ _ (E1.trans E2) (S1.new hp) (.tup (.inl (.inl upd_same)) (E2.rls r1))
  · cases ev
def lLst (a : AV) : AV := fun n ds => bindM (a n ds) fun xs => if lineOk xs = true then retM xs else failM
theorem dl_lst {ar : AV} (ha : DA X es ar) : DL X (.List es pos) (lLst ar) := by
  obtain ⟨t, pa, sa⟩ := ha.ex
  refine ⟨_, pe_lst pa, fun n g σ H ds h d h' Q S ev q => ?_⟩
  obtain ⟨xs, h1, e1, ev⟩ := bindM_some ev
  refine sa n g σ H ds h xs h1 _ S e1 fun g1 H1 vs E1 S1 r1 => ?_
  split at ev
  · rename_i hl
    cases ev
    exact ⟨lineOk_le hl r1.length, fun p hp => q g1 H1 p vs E1 S1 r1 hp⟩
  · cases ev
/-- a new list, frozen; numbered -/
def eFrz (l : AV) : EV := fun n ds => bindM (l n ds) fun xs => retM (.lst xs)
def eNew (l : AV) : EV := fun n ds => bindM (l n ds) fun xs => fun h => some (.ref h.length, h ++ [.lst xs])
theorem de_frz {l : AV} (hl : DL X e l) : DE X e (eFrz l) := by
  obtain ⟨t, pa, sa⟩ := hl.ex
  refine ⟨t, pa, fun n g σ H ds h d h' Q S ev q => ?_⟩
  obtain ⟨xs, h1, e1, ev⟩ := bindM_some ev
  refine sa n g σ H ds h xs h1 _ S e1 fun g1 H1 p vs E1 S1 r1 hp => ?_
  cases ev
  have E2 : Ext X.K g1 h'.length H1 (g1.frz p) h'.length (upd H1 p (.lst vs)) := Ext.freeze hp
  exact q _ _ _ (E1.trans E2) ⟨S1.hs.freeze hp, E2.sl S1.sl⟩ (.frozen hp r1)
theorem de_new {l : AV} (hl : DL X e l) : DE X e (eNew l) := by
  obtain ⟨t, pa, sa⟩ := hl.ex
  refine ⟨t, pa, fun n g σ H ds h d h' Q S ev q => ?_⟩
  obtain ⟨xs, h1, e1, ev⟩ := bindM_some ev
  refine sa n g σ H ds h xs h1 _ S e1 fun g1 H1 p vs E1 S1 r1 hp => ?_
  cases ev
  have E2 : Ext X.K g1 h1.length H1 (g1.put h1.length p) (h1.length + 1) (upd H1 p (.lst vs)) := Ext.number hp
  have hl2 : (h1 ++ [Cell.lst xs]).length = h1.length + 1 := by simp
  refine q _ _ _ ?_ ⟨S1.hs.number hp ⟨vs, upd_same, E2.rls r1⟩, ?_⟩ ?_
  · rw [hl2]; exact E1.trans E2
  · rw [hl2]; exact E2.sl S1.sl
  · rw [hl2]
    have := Rl.ref (K := X.K) (g := g1.put h1.length p) (n := h1.length + 1) (H := upd H1 p (.lst vs)) (i := h1.length) (Nat.lt_succ_self _)
    rw [Gh.put_same] at this
    exact this

/-! ### calls of built-ins -/
def eCl (op : List D → M D) (a : AV) : EV := fun n ds => bindM (a n ds) op
def lCl (op : List D → M (List D)) (a : AV) : AV := fun n ds => bindM (a n ds) op
variable {x : Str} {p : Pos} {ar : AV}
theorem de_callB {id : String} {op : List D → M D} (ho : DCall X (.builtin id) op) (hg : Gl X x) (hm : X.mg x = none) (hv : bootBuiltins x = some (.builtin id)) (ha : DA X (e :: es) ar) (hn : x ≠ "__name__" := by decide) (hdb : (x == ("__debug__" : Str)) = false := by decide)
    (he : starEach (e :: es) X.env = (false, eval e X.env) :: starEach es X.env := by rfl) (hpl : (backTo pos (starEach es X.env)).any (·.1) = false := by rfl) : DE X (.Call (.Name x p) (e :: es) [] pos) (eCl op ar) := by
  obtain ⟨r, hr, so⟩ := ho.ex
  obtain ⟨t, pa, sa⟩ := ha.ex
  refine ⟨_, pe_callB hr hg hm hv pa hn hdb he hpl, fun n g σ H ds h d h' Q S ev q => ?_⟩
  obtain ⟨xs, h1, e1, ev⟩ := bindM_some ev
  refine sa n g σ H ds h xs h1 _ S e1 fun g1 H1 vs E1 S1 r1 => ?_
  exact so g1 H1 h1 xs vs d h' Q S1.hs r1 ev fun g2 H2 v E2 hs2 r2 => q g2 H2 v (E1.trans E2) ⟨hs2, E2.sl S1.sl⟩ r2
theorem de_callTy {T : String} {op : List D → M D} (ho : DCall X (.type T) op) (hg : Gl X x) (hm : X.mg x = none) (hv : bootBuiltins x = some (.type T)) (ha : DA X (e :: es) ar) (hn : x ≠ "__name__" := by decide) (hdb : (x == ("__debug__" : Str)) = false := by decide)
    (he : starEach (e :: es) X.env = (false, eval e X.env) :: starEach es X.env := by rfl) (hpl : (backTo pos (starEach es X.env)).any (·.1) = false := by rfl) : DE X (.Call (.Name x p) (e :: es) [] pos) (eCl op ar) := by
  obtain ⟨r, hr, so⟩ := ho.ex
  obtain ⟨t, pa, sa⟩ := ha.ex
  refine ⟨_, pe_callTy hr hg hm hv pa hn hdb he hpl, fun n g σ H ds h d h' Q S ev q => ?_⟩
  obtain ⟨xs, h1, e1, ev⟩ := bindM_some ev
  refine sa n g σ H ds h xs h1 _ S e1 fun g1 H1 vs E1 S1 r1 => ?_
  exact so g1 H1 h1 xs vs d h' Q S1.hs r1 ev fun g2 H2 v E2 hs2 r2 => q g2 H2 v (E1.trans E2) ⟨hs2, E2.sl S1.sl⟩ r2
theorem dl_callB {id : String} {op : List D → M (List D)} (ho : LCall X (.builtin id) op) (hg : Gl X x) (hm : X.mg x = none) (hv : bootBuiltins x = some (.builtin id)) (ha : DA X (e :: es) ar) (hn : x ≠ "__name__" := by decide) (hdb : (x == ("__debug__" : Str)) = false := by decide)
    (he : starEach (e :: es) X.env = (false, eval e X.env) :: starEach es X.env := by rfl) (hpl : (backTo pos (starEach es X.env)).any (·.1) = false := by rfl) : DL X (.Call (.Name x p) (e :: es) [] pos) (lCl op ar) := by
  obtain ⟨r, hr, so⟩ := ho.ex
  obtain ⟨t, pa, sa⟩ := ha.ex
  refine ⟨_, pe_callB hr hg hm hv pa hn hdb he hpl, fun n g σ H ds h d h' Q S ev q => ?_⟩
  obtain ⟨xs, h1, e1, ev⟩ := bindM_some ev
  refine sa n g σ H ds h xs h1 _ S e1 fun g1 H1 vs E1 S1 r1 => ?_
  exact so g1 H1 h1 xs vs d h' Q S1.hs r1 ev fun g2 H2 p v E2 hs2 r2 hp => q g2 H2 p v (E1.trans E2) ⟨hs2, E2.sl S1.sl⟩ r2 hp
theorem dl_callTy {T : String} {op : List D → M (List D)} (ho : LCall X (.type T) op) (hg : Gl X x) (hm : X.mg x = none) (hv : bootBuiltins x = some (.type T)) (ha : DA X (e :: es) ar) (hn : x ≠ "__name__" := by decide) (hdb : (x == ("__debug__" : Str)) = false := by decide)
    (he : starEach (e :: es) X.env = (false, eval e X.env) :: starEach es X.env := by rfl) (hpl : (backTo pos (starEach es X.env)).any (·.1) = false := by rfl) : DL X (.Call (.Name x p) (e :: es) [] pos) (lCl op ar) := by
  obtain ⟨r, hr, so⟩ := ho.ex
  obtain ⟨t, pa, sa⟩ := ha.ex
  refine ⟨_, pe_callTy hr hg hm hv pa hn hdb he hpl, fun n g σ H ds h d h' Q S ev q => ?_⟩
  obtain ⟨xs, h1, e1, ev⟩ := bindM_some ev
  refine sa n g σ H ds h xs h1 _ S e1 fun g1 H1 vs E1 S1 r1 => ?_
  exact so g1 H1 h1 xs vs d h' Q S1.hs r1 ev fun g2 H2 p v E2 hs2 r2 hp => q g2 H2 p v (E1.trans E2) ⟨hs2, E2.sl S1.sl⟩ r2 hp
end
end DK

namespace DK
open PySem PySem.Spec PyProof.Rows L2

/-! ### what stands in a value -/
def cellL (h : Hd) (i : Nat) : Option (List D) := match h[i]? with
  | some (.lst xs) => some xs
  | _ => none
def listOf (h : Hd) : D → Option (List D)
  | .lst xs => some xs
  | .ro xs => some xs
  | .ref i => cellL h i
  | _ => none
def mutOf (h : Hd) : D → Option (List D)
  | .lst xs => some xs
  | .ref i => cellL h i
  | _ => none
def tupOf : D → Option (List D)
  | .tup xs => some xs
  | _ => none
def seqOf (h : Hd) : D → Option (List D)
  | .tup xs => some xs
  | .lst xs => some xs
  | .ro xs => some xs
  | .ref i => cellL h i
  | _ => none
section
variable {K : PySem.W.Frag} {g : Gh} {n : Nat} {H : Hp} {h : Hd} {d : D} {v : V} {xs : List D}
theorem cellL_some {i : Nat} (e : cellL h i = some xs) : h[i]? = some (.lst xs) := by
  unfold cellL at e
  split at e
  · rename_i ys q; cases e; exact q
  · cases e
theorem cellL_ok (hs : HS K g H h) {i : Nat} (e : cellL h i = some xs) : ∃ vs, H (g.al i) = some (.lst vs) ∧ Rls K g h.length H xs vs := hs.cell i _ (cellL_some e)
theorem mutOf_ok (hs : HS K g H h) (r : Rl K g h.length H d v) (e : mutOf h d = some xs) : ∃ a vs, v = .ref a ∧ H a = some (.lst vs) ∧ Rls K g h.length H xs vs := by
  cases r with
  | lst q r => cases e; exact ⟨_, _, rfl, q.2, r⟩
  | ref hi => obtain ⟨vs, q, r⟩ := cellL_ok hs e; exact ⟨_, _, rfl, q, r⟩
  | _ => cases e
theorem listOf_ok (hs : HS K g H h) (r : Rl K g h.length H d v) (e : listOf h d = some xs) : ∃ a vs, v = .ref a ∧ SqL K H a vs ∧ Rls K g h.length H xs vs := by
  cases r with
  | lst q r => cases e; exact ⟨_, _, rfl, q.sq, r⟩
  | ro q r => cases e; exact ⟨_, _, rfl, q.sq, r⟩
  | ref hi => obtain ⟨vs, q, r⟩ := cellL_ok hs e; exact ⟨_, _, rfl, .inl (.inl q), r⟩
  | _ => cases e
theorem tupOf_ok (r : Rl K g n H d v) (e : tupOf d = some xs) : ∃ a vs, v = .ref a ∧ SqT K H a vs ∧ Rls K g n H xs vs := by
  cases r with
  | tup q r => cases e; exact ⟨_, _, rfl, q, r⟩
  | _ => cases e
theorem seqOf_ok (hs : HS K g H h) (r : Rl K g h.length H d v) (e : seqOf h d = some xs) : ∃ a vs, v = .ref a ∧ (SqL K H a vs ∨ SqT K H a vs) ∧ Rls K g h.length H xs vs := by
  cases r with
  | lst q r => cases e; exact ⟨_, _, rfl, .inl q.sq, r⟩
  | ro q r => cases e; exact ⟨_, _, rfl, .inl q.sq, r⟩
  | tup q r => cases e; exact ⟨_, _, rfl, .inr q, r⟩
  | ref hi => obtain ⟨vs, q, r⟩ := cellL_ok hs e; exact ⟨_, _, rfl, .inl (.inl (.inl q)), r⟩
  | _ => cases e
end

/-! ### whole numbers -/
def mulOk (i j : Int) : Bool := decide (j.natAbs < 9223372036854775808) || decide (i.natAbs < 9223372036854775808) || decide (i.natAbs.log2 + j.natAbs.log2 < 100000000)
theorem mulOk_ok {i j : Int} (h : mulOk i j = true) : IntMulOk i j := by
  unfold mulOk at h
  rw [Bool.or_eq_true, Bool.or_eq_true] at h
  rcases h with (h | h) | h
  · have := of_decide_eq_true h
    exact .of_right (intBits_le_64 (by omega) (by omega))
  · have := of_decide_eq_true h
    exact .of_left (intBits_le_64 (by omega) (by omega))
  · have h3 := of_decide_eq_true h
    have b : ∀ x : Int, Builtin.Int.intBits x ≤ x.natAbs.log2 + 1 := fun x => by
      unfold Builtin.Int.intBits
      split <;> omega
    have h1 := b i
    have h2 := b j
    have e : bitsLine = 134217728 := by decide
    unfold IntMulOk
    intro z
    rw [Bool.and_eq_true] at z
    have z2 := z.2
    unfold Builtin.Int.intTooBig at z2
    have z3 := of_decide_eq_true z2
    rw [e] at z3
    omega
def opAdd : D → D → M D
  | .int i, .int j => retM (.int (i + j))
  | .tup xs, .tup ys => if lineOk (xs ++ ys) = true then retM (.tup (xs ++ ys)) else failM
  | _, _ => failM
def opSub : D → D → M D
  | .int i, .int j => retM (.int (i - j))
  | _, _ => failM
def opMul : D → D → M D
  | .int i, .int j => if mulOk i j = true then retM (.int (i * j)) else failM
  | .tup xs, .int k => if xs ≠ [] ∧ 2 ≤ k ∧ k ≤ 1000 ∧ xs.length ≤ 1000 then retM (.tup (List.replicate k.toNat xs).flatten) else failM
  | _, _ => failM
def opDiv : D → D → M D
  | .int i, .int j => if 0 < j ∧ j.natAbs.log2 < 9000 then retM (.int (i / j)) else if j ≠ 0 ∧ j.natAbs < 1073741824 then retM (.int (i.fdiv j)) else failM
  | _, _ => failM
def opMod : D → D → M D
  | .int i, .int j => if 0 < j then retM (.int (i % j)) else if j ≠ 0 then retM (.int (i.fmod j)) else failM
  | _, _ => failM
def opPow : D → D → M D
  | .int i, .int j => if 0 ≤ j ∧ j ≤ 1000000 ∧ i.natAbs < 18446744073709551616 then retM (.int (i ^ j.toNat)) else failM
  | _, _ => failM
def opShl : D → D → M D
  | .int i, .int j => if 0 ≤ j ∧ j ≤ 1000000 ∧ i.natAbs < 18446744073709551616 then retM (.int (i * 2 ^ j.toNat)) else failM
  | _, _ => failM
section
variable {X : Cx}
/-- an operation of whole numbers alone -/
theorem dop_I {f : Value → Value → Sem Value} {C : Int → Int → Prop} {gg : Int → Int → Int} {op : D → D → M D} (ho : OpR X f (rI C fun i j => .int (gg i j)))
    (h : ∀ x y h d h', op x y h = some (d, h') → ∃ i j, x = .int i ∧ y = .int j ∧ C i j ∧ d = .int (gg i j) ∧ h' = h) : DOp X f op := by
  refine ⟨_, ho, fun g H hd x y vx vy d h' Q hs rx ry e q => ?_⟩
  obtain ⟨i, j, rfl, rfl, hc, rfl, rfl⟩ := h x y hd d h' e
  exact ⟨i, j, rx.int_inv, ry.int_inv, hc, q.here hs (.int _)⟩
theorem dop_I0 {f : Value → Value → Sem Value} {gg : Int → Int → Int} {op : D → D → M D} (ho : OpR X f (rI0 fun i j => .int (gg i j)))
    (h : ∀ x y h d h', op x y h = some (d, h') → ∃ i j, x = .int i ∧ y = .int j ∧ d = .int (gg i j) ∧ h' = h) : DOp X f op := by
  refine ⟨_, ho, fun g H hd x y vx vy d h' Q hs rx ry e q => ?_⟩
  obtain ⟨i, j, rfl, rfl, rfl, rfl⟩ := h x y hd d h' e
  exact ⟨i, j, rx.int_inv, ry.int_inv, q.here hs (.int _)⟩
theorem dop_B0 {f : Value → Value → Sem Value} {gg : Int → Int → Bool} {op : D → D → M D} (ho : OpR X f (rI0 fun i j => .bl (gg i j)))
    (h : ∀ x y h d h', op x y h = some (d, h') → ∃ i j, x = .int i ∧ y = .int j ∧ d = .bl (gg i j) ∧ h' = h) : DOp X f op := by
  refine ⟨_, ho, fun g H hd x y vx vy d h' Q hs rx ry e q => ?_⟩
  obtain ⟨i, j, rfl, rfl, rfl, rfl⟩ := h x y hd d h' e
  exact ⟨i, j, rx.int_inv, ry.int_inv, q.here hs (.bl _)⟩
theorem opSub_inv (x y : D) (h : Hd) (d : D) (h' : Hd) (e : opSub x y h = some (d, h')) : ∃ i j, x = .int i ∧ y = .int j ∧ d = .int (i - j) ∧ h' = h := by
  cases x <;> cases y <;> first | (cases e; done) | (cases e; exact ⟨_, _, rfl, rfl, rfl, rfl⟩)
theorem dop_sub : DOp X (binaryOp .Sub) opSub := dop_I0 op_sub opSub_inv
theorem dip_sub : DOp X (inplaceOp .Sub) opSub := dop_I0 iop_sub opSub_inv
theorem catT_ok {g : Gh} {H : Hp} {h : Hd} {xs ys : List D} {vx vy : V} {Q : VK} (hs : HS X.K g H h) (rx : Rl X.K g h.length H (.tup xs) vx) (ry : Rl X.K g h.length H (.tup ys) vy) (hl : lineOk (xs ++ ys) = true)
    (q : PostO X.K g h.length H h (.tup (xs ++ ys)) Q) : rCatA X.K vx vy H Q := by
  obtain ⟨a, us, rfl, ha, ra⟩ := tupOf_ok rx rfl
  obtain ⟨b, ws, rfl, hb, rb⟩ := tupOf_ok ry rfl
  refine ⟨a, b, us, ws, rfl, rfl, ha, hb, ?_, fun e => ?_, fun _ e => ?_, fun _ _ p hp => ?_⟩
  · have := lineOk_le hl (ra.append rb).length
    rw [List.length_append] at this
    exact this
  · subst e
    cases ra
    exact q.here hs ry
  · subst e
    cases rb
    rw [List.append_nil] at q
    exact q.here hs rx
  · have E2 : Ext X.K g h.length H g h.length (upd H p (.tup (us ++ ws))) := Ext.new hp
    exact q g _ _ E2 (hs.new hp) (.tup (.inl (.inl upd_same)) (E2.rls (ra.append rb)))
theorem opAdd_inv (x y : D) (h : Hd) (d : D) (h' : Hd) (e : opAdd x y h = some (d, h')) : (∃ i j, x = .int i ∧ y = .int j ∧ d = .int (i + j) ∧ h' = h) ∨ ∃ xs ys, x = .tup xs ∧ y = .tup ys ∧ lineOk (xs ++ ys) = true ∧ d = .tup (xs ++ ys) ∧ h' = h := by
  cases x <;> cases y <;> first | (cases e; done) | skip
  · cases e; exact .inl ⟨_, _, rfl, rfl, rfl, rfl⟩
  · rename_i xs ys
    have e : (if lineOk (xs ++ ys) = true then retM (D.tup (xs ++ ys)) else failM) h = some (d, h') := e
    split at e
    · rename_i hl
      cases e
      exact .inr ⟨_, _, rfl, rfl, hl, rfl, rfl⟩
    · cases e
theorem dop_add : DOp X (binaryOp .Add) opAdd := by
  refine ⟨_, op_add.or op_catA, fun g H hd x y vx vy d h' Q hs rx ry e q => ?_⟩
  rcases opAdd_inv x y hd d h' e with ⟨i, j, rfl, rfl, rfl, rfl⟩ | ⟨xs, ys, rfl, rfl, hl, rfl, rfl⟩
  · exact .inl ⟨i, j, rx.int_inv, ry.int_inv, q.here hs (.int _)⟩
  · exact .inr (catT_ok hs rx ry hl q)
/-- += of whole numbers -/
def ipAdd : D → D → M D
  | .int i, .int j => retM (.int (i + j))
  | _, _ => failM
theorem ipAdd_inv (x y : D) (h : Hd) (d : D) (h' : Hd) (e : ipAdd x y h = some (d, h')) : ∃ i j, x = .int i ∧ y = .int j ∧ d = .int (i + j) ∧ h' = h := by
  cases x <;> cases y <;> first | (cases e; done) | (cases e; exact ⟨_, _, rfl, rfl, rfl, rfl⟩)
theorem dip_add : DOp X (inplaceOp .Add) ipAdd := dop_I0 iop_add ipAdd_inv
theorem op_mulD : OpR X (binaryOp .Mult) (rI (fun i j => mulOk i j = true) fun i j => .int (i * j)) := opI fun _ _ _ _ _ _ _ hc q => mul_int q (mulOk_ok hc)
theorem iop_mulD : OpR X (inplaceOp .Mult) (rI (fun i j => mulOk i j = true) fun i j => .int (i * j)) := opI fun _ _ _ _ _ _ _ hc q => imul_int q (mulOk_ok hc)
theorem opMul_inv (x y : D) (h : Hd) (d : D) (h' : Hd) (e : opMul x y h = some (d, h')) : (∃ i j, x = .int i ∧ y = .int j ∧ mulOk i j = true ∧ d = .int (i * j) ∧ h' = h) ∨
    ∃ xs k, x = .tup xs ∧ y = .int k ∧ (xs ≠ [] ∧ 2 ≤ k ∧ k ≤ 1000 ∧ xs.length ≤ 1000) ∧ d = .tup (List.replicate k.toNat xs).flatten ∧ h' = h := by
  cases x <;> cases y <;> first | (cases e; done) | skip
  · rename_i i j
    have e : (if mulOk i j = true then retM (D.int (i * j)) else failM) h = some (d, h') := e
    split at e
    · rename_i hl
      cases e
      exact .inl ⟨_, _, rfl, rfl, hl, rfl, rfl⟩
    · cases e
  · rename_i xs k
    have e : (if xs ≠ [] ∧ 2 ≤ k ∧ k ≤ 1000 ∧ xs.length ≤ 1000 then retM (D.tup (List.replicate k.toNat xs).flatten) else failM) h = some (d, h') := e
    split at e
    · rename_i hl
      cases e
      exact .inr ⟨_, _, rfl, rfl, hl, rfl, rfl⟩
    · cases e
theorem dop_mul : DOp X (binaryOp .Mult) opMul := by
  refine ⟨_, op_mulD.or op_repT, fun g H hd x y vx vy d h' Q hs rx ry e q => ?_⟩
  rcases opMul_inv x y hd d h' e with ⟨i, j, rfl, rfl, hc, rfl, rfl⟩ | ⟨xs, k, rfl, rfl, ⟨h1, h2, h3, h4⟩, rfl, rfl⟩
  · exact .inl ⟨i, j, rx.int_inv, ry.int_inv, hc, q.here hs (.int _)⟩
  · obtain ⟨a, us, rfl, ha, ra⟩ := tupOf_ok rx rfl
    have hl := ra.length
    refine .inr ⟨a, k, us, rfl, ry.int_inv, ha, fun z => ?_, h2, h3, by omega, fun p hp => ?_⟩
    · subst z
      cases ra
      exact h1 rfl
    · have E2 : Ext X.K g h'.length H g h'.length (upd H p (.tup (List.replicate k.toNat us).flatten)) := Ext.new hp
      exact q g _ _ E2 (hs.new hp) (.tup (.inl (.inl upd_same)) (E2.rls (ra.replicate _)))
def ipMul : D → D → M D
  | .int i, .int j => if mulOk i j = true then retM (.int (i * j)) else failM
  | _, _ => failM
theorem dip_mul : DOp X (inplaceOp .Mult) ipMul := dop_I iop_mulD fun x y h d h' e => by
  cases x <;> cases y <;> first | (cases e; done) | skip
  rename_i i j
  have e : (if mulOk i j = true then retM (D.int (i * j)) else failM) h = some (d, h') := e
  split at e
  · rename_i hl
    cases e
    exact ⟨_, _, rfl, rfl, hl, rfl, rfl⟩
  · cases e
theorem opDiv_inv (x y : D) (h : Hd) (d : D) (h' : Hd) (e : opDiv x y h = some (d, h')) : (∃ i j, x = .int i ∧ y = .int j ∧ CDivW i j ∧ d = .int (i / j) ∧ h' = h) ∨
    ∃ i j, x = .int i ∧ y = .int j ∧ CDivN i j ∧ d = .int (i.fdiv j) ∧ h' = h := by
  cases x <;> cases y <;> first | (cases e; done) | skip
  rename_i i j
  have e : (if 0 < j ∧ j.natAbs.log2 < 9000 then retM (D.int (i / j)) else if j ≠ 0 ∧ j.natAbs < 1073741824 then retM (D.int (i.fdiv j)) else failM) h = some (d, h') := e
  split at e
  · rename_i hl
    cases e
    exact .inl ⟨_, _, rfl, rfl, hl, rfl, rfl⟩
  · split at e
    · rename_i hl
      cases e
      exact .inr ⟨_, _, rfl, rfl, hl, rfl, rfl⟩
    · cases e
theorem dop_div : DOp X (binaryOp .FloorDiv) opDiv := by
  refine ⟨_, op_fdivW.or op_fdivN, fun g H hd x y vx vy d h' Q hs rx ry e q => ?_⟩
  rcases opDiv_inv x y hd d h' e with ⟨i, j, rfl, rfl, hc, rfl, rfl⟩ | ⟨i, j, rfl, rfl, hc, rfl, rfl⟩
  · exact .inl ⟨i, j, rx.int_inv, ry.int_inv, hc, q.here hs (.int _)⟩
  · exact .inr ⟨i, j, rx.int_inv, ry.int_inv, hc, q.here hs (.int _)⟩
theorem opMod_inv (x y : D) (h : Hd) (d : D) (h' : Hd) (e : opMod x y h = some (d, h')) : (∃ i j, x = .int i ∧ y = .int j ∧ 0 < j ∧ d = .int (i % j) ∧ h' = h) ∨
    ∃ i j, x = .int i ∧ y = .int j ∧ j ≠ 0 ∧ d = .int (i.fmod j) ∧ h' = h := by
  cases x <;> cases y <;> first | (cases e; done) | skip
  rename_i i j
  have e : (if 0 < j then retM (D.int (i % j)) else if j ≠ 0 then retM (D.int (i.fmod j)) else failM) h = some (d, h') := e
  split at e
  · rename_i hl
    cases e
    exact .inl ⟨_, _, rfl, rfl, hl, rfl, rfl⟩
  · split at e
    · rename_i hl
      cases e
      exact .inr ⟨_, _, rfl, rfl, hl, rfl, rfl⟩
    · cases e
theorem dop_mod : DOp X (binaryOp .Mod) opMod := by
  refine ⟨_, op_mod.or op_modN, fun g H hd x y vx vy d h' Q hs rx ry e q => ?_⟩
  rcases opMod_inv x y hd d h' e with ⟨i, j, rfl, rfl, hc, rfl, rfl⟩ | ⟨i, j, rfl, rfl, hc, rfl, rfl⟩
  · exact .inl ⟨i, j, rx.int_inv, ry.int_inv, hc, q.here hs (.int _)⟩
  · exact .inr ⟨i, j, rx.int_inv, ry.int_inv, hc, q.here hs (.int _)⟩
theorem dop_pow : DOp X (binaryOp .Pow) opPow := dop_I op_pow fun x y h d h' e => by
  cases x <;> cases y <;> first | (cases e; done) | skip
  rename_i i j
  have e : (if 0 ≤ j ∧ j ≤ 1000000 ∧ i.natAbs < 18446744073709551616 then retM (D.int (i ^ j.toNat)) else failM) h = some (d, h') := e
  split at e
  · rename_i hl
    cases e
    exact ⟨_, _, rfl, rfl, hl, rfl, rfl⟩
  · cases e
theorem dop_shl : DOp X (binaryOp .LShift) opShl := dop_I op_shl fun x y h d h' e => by
  cases x <;> cases y <;> first | (cases e; done) | skip
  rename_i i j
  have e : (if 0 ≤ j ∧ j ≤ 1000000 ∧ i.natAbs < 18446744073709551616 then retM (D.int (i * 2 ^ j.toNat)) else failM) h = some (d, h') := e
  split at e
  · rename_i hl
    cases e
    exact ⟨_, _, rfl, rfl, hl, rfl, rfl⟩
  · cases e

/-! ### comparisons -/
def opLt : D → D → M D
  | .int i, .int j => retM (.bl (decide (i < j)))
  | _, _ => failM
def opLe : D → D → M D
  | .int i, .int j => retM (.bl (decide (i ≤ j)))
  | _, _ => failM
def opGt : D → D → M D
  | .int i, .int j => retM (.bl (decide (j < i)))
  | _, _ => failM
def opGe : D → D → M D
  | .int i, .int j => retM (.bl (decide (j ≤ i)))
  | _, _ => failM
theorem dop_lt : DOp X (compareOp .Lt) opLt := dop_B0 op_lt fun x y h d h' e => by
  cases x <;> cases y <;> first | (cases e; done) | (cases e; exact ⟨_, _, rfl, rfl, rfl, rfl⟩)
theorem dop_le : DOp X (compareOp .LtE) opLe := dop_B0 op_le fun x y h d h' e => by
  cases x <;> cases y <;> first | (cases e; done) | (cases e; exact ⟨_, _, rfl, rfl, rfl, rfl⟩)
theorem dop_gt : DOp X (compareOp .Gt) opGt := dop_B0 op_gt fun x y h d h' e => by
  cases x <;> cases y <;> first | (cases e; done) | (cases e; exact ⟨_, _, rfl, rfl, rfl, rfl⟩)
theorem dop_ge : DOp X (compareOp .GtE) opGe := dop_B0 op_ge fun x y h d h' e => by
  cases x <;> cases y <;> first | (cases e; done) | (cases e; exact ⟨_, _, rfl, rfl, rfl, rfl⟩)
/-- is None -/
def opIsN : D → D → M D
  | .non, .non => retM (.bl true)
  | .ref _, .non => retM (.bl false)
  | .int _, .non => retM (.bl false)
  | .bl _, .non => retM (.bl false)
  | .str _, .non => retM (.bl false)
  | .tup _, .non => retM (.bl false)
  | .lst _, .non => retM (.bl false)
  | .ro _, .non => retM (.bl false)
  | _, _ => failM
def isNon : D → Bool
  | .non => true
  | _ => false
theorem Rl.non_iff {K : PySem.W.Frag} {g : Gh} {n : Nat} {H : Hp} {d : D} {v : V} (r : Rl K g n H d v) : decide (v = .non) = isNon d := by
  cases r <;> rfl
theorem opIsN_inv {x y : D} {h : Hd} {d : D} {h' : Hd} (e : opIsN x y h = some (d, h')) : y = .non ∧ d = .bl (isNon x) ∧ h' = h := by
  cases y <;> cases x <;> first | (cases e; done) | (cases e; exact ⟨rfl, rfl, rfl⟩)
theorem dop_isN : DOp X (compareOp .Is) opIsN := by
  refine ⟨_, op_isN, fun g H hd x y vx vy d h' Q hs rx ry e q => ?_⟩
  obtain ⟨rfl, rfl, rfl⟩ := opIsN_inv e
  refine ⟨by cases ry; rfl, ?_⟩
  rw [rx.non_iff]
  exact q.here hs (.bl _)
def opNotN (x y : D) : M D := bindM (opIsN x y) fun r => match r with
  | .bl b => retM (.bl (!b))
  | _ => failM
theorem dop_notN : DOp X (compareOp .IsNot) opNotN := by
  refine ⟨_, op_notN, fun g H hd x y vx vy d h' Q hs rx ry e q => ?_⟩
  obtain ⟨r, h1, e1, e2⟩ := bindM_some e
  obtain ⟨rfl, rfl, rfl⟩ := opIsN_inv e1
  cases e2
  refine ⟨by cases ry; rfl, ?_⟩
  rw [rx.non_iff]
  exact q.here hs (.bl _)
/-! == of data -/
mutual
def toPy : D → PyData
  | .non => .none
  | .bl b => .bool b
  | .int i => .int i
  | .str s => .str s
  | .tup xs => .tuple (toPys xs)
  | .lst xs => .list (toPys xs)
  | .ro xs => .list (toPys xs)
  | .ref _ => .none
def toPys : List D → List PyData
  | [] => []
  | x :: xs => toPy x :: toPys xs
end
mutual
def noRef : D → Bool
  | .ref _ => false
  | .tup xs => noRefs xs
  | .lst xs => noRefs xs
  | .ro xs => noRefs xs
  | _ => true
def noRefs : List D → Bool
  | [] => true
  | x :: xs => noRef x && noRefs xs
end
mutual
theorem dp_of {K : PySem.W.Frag} {g : Gh} {n : Nat} {H : Hp} : ∀ {d : D} {v : V}, Rl K g n H d v → noRef d = true → Dp K H v (toPy d)
  | _, _, .non, _ => by rw [toPy]; exact .non
  | _, _, .bl b, _ => by rw [toPy]; exact .bl b
  | _, _, .int i, _ => by rw [toPy]; exact .int i
  | _, _, .str s, _ => by rw [toPy]; exact .str s
  | _, _, .tup h r, k => by rw [toPy]; exact .tup h (dps_of r (by rw [noRef] at k; exact k))
  | _, _, .lst h r, k => by rw [toPy]; exact .lst h.sq (dps_of r (by rw [noRef] at k; exact k))
  | _, _, .ro h r, k => by rw [toPy]; exact .lst h.sq (dps_of r (by rw [noRef] at k; exact k))
  | _, _, .ref h, k => by rw [noRef] at k; cases k
theorem dps_of {K : PySem.W.Frag} {g : Gh} {n : Nat} {H : Hp} : ∀ {ds : List D} {vs : List V}, Rls K g n H ds vs → noRefs ds = true → DpAll K H vs (toPys ds)
  | _, _, .nil, _ => by rw [toPys]; exact .nil
  | _, _, .cons r t, k => by
    rw [noRefs, Bool.and_eq_true] at k
    rw [toPys]
    exact .cons (dp_of r k.1) (dps_of t k.2)
end
/-- a list that changes, as it is now -/
def nowD (h : Hd) : D → D
  | .ref i => match cellL h i with
    | some xs => .lst xs
    | none => .ref i
  | d => d
theorem dp_now {K : PySem.W.Frag} {g : Gh} {H : Hp} {h : Hd} {d : D} {v : V} (hs : HS K g H h) (r : Rl K g h.length H d v) (k : noRef (nowD h d) = true) : Dp K H v (toPy (nowD h d)) := by
  cases r with
  | @ref i hi =>
    unfold nowD at k ⊢
    dsimp only at k ⊢
    cases e : cellL h i with
    | none => rw [e] at k; rw [noRef] at k; cases k
    | some xs =>
      rw [e] at k
      obtain ⟨vs, q, r⟩ := cellL_ok hs e
      dsimp only at k ⊢
      rw [noRef] at k
      rw [toPy]
      exact .lst (.inl (.inl q)) (dps_of r k)
  | non => exact dp_of (g := g) (n := 0) .non k
  | bl b => exact dp_of (g := g) (n := 0) (.bl b) k
  | int b => exact dp_of (g := g) (n := 0) (.int b) k
  | str b => exact dp_of (g := g) (n := 0) (.str b) k
  | tup q r => exact dp_of (.tup q r) k
  | lst q r => exact dp_of (.lst q r) k
  | ro q r => exact dp_of (.ro q r) k
def eqOk (d : D) : Bool := noRef d && SeqAt.shaped (toPy d)
def eqD (x y : D) : Bool := PyData.eqv (toPy x) (toPy y)
def opEq (x y : D) : M D := fun h => if (eqOk (nowD h x) && eqOk (nowD h y)) = true then some (.bl (eqD (nowD h x) (nowD h y)), h) else none
def opNe (x y : D) : M D := fun h => if (eqOk (nowD h x) && eqOk (nowD h y)) = true then some (.bl (!eqD (nowD h x) (nowD h y)), h) else none
theorem dop_eq {k : Nat} (hr : Room k X.A) : DOp X (compareOp .Eq) opEq := by
  refine ⟨_, op_eqD hr.units, fun g H hd x y vx vy d h' Q hs rx ry e q => ?_⟩
  unfold opEq at e
  split at e
  · rename_i k
    cases e
    unfold eqOk at k
    simp only [Bool.and_eq_true] at k
    exact ⟨_, _, dp_now hs rx k.1.1, dp_now hs ry k.2.1, k.1.2, k.2.2, q.here hs (.bl _)⟩
  · cases e
theorem dop_ne {k : Nat} (hr : Room k X.A) : DOp X (compareOp .NotEq) opNe := by
  refine ⟨_, op_neD hr.units, fun g H hd x y vx vy d h' Q hs rx ry e q => ?_⟩
  unfold opNe at e
  split at e
  · rename_i k
    cases e
    unfold eqOk at k
    simp only [Bool.and_eq_true] at k
    exact ⟨_, _, dp_now hs rx k.1.1, dp_now hs ry k.2.1, k.1.2, k.2.2, q.here hs (.bl _)⟩
  · cases e
/-- in, of flat things -/
def flatD : D → Bool
  | .non => true
  | .bl _ => true
  | .int _ => true
  | .str _ => true
  | _ => false
def eqF : D → D → Bool
  | .non, .non => true
  | .bl a, .bl b => a == b
  | .bl a, .int b => (if a then 1 else 0) == b
  | .int a, .bl b => a == (if b then 1 else 0)
  | .int a, .int b => a == b
  | .str a, .str b => a == b
  | _, _ => false
def inF (x : D) (xs : List D) : Bool := xs.any fun y => eqF y x
def opIn (x y : D) : M D := fun h => match seqOf h y with
  | some ys => if (flatD x && ys.all flatD) = true then some (.bl (inF x ys), h) else none
  | none => none
def opNotIn (x y : D) : M D := fun h => match seqOf h y with
  | some ys => if (flatD x && ys.all flatD) = true then some (.bl (!inF x ys), h) else none
  | none => none
theorem flatD_V {K : PySem.W.Frag} {g : Gh} {n : Nat} {H : Hp} {d : D} {v : V} (r : Rl K g n H d v) (k : flatD d = true) : flatV v = true := by
  cases r <;> first | rfl | cases k
theorem flats_V {K : PySem.W.Frag} {g : Gh} {n : Nat} {H : Hp} : ∀ {ds : List D} {vs : List V}, Rls K g n H ds vs → ds.all flatD = true → vs.all flatV = true
  | _, _, .nil, _ => rfl
  | _, _, .cons r t, k => by
    rw [List.all_cons, Bool.and_eq_true] at k ⊢
    exact ⟨flatD_V r k.1, flats_V t k.2⟩
theorem eqF_V {K : PySem.W.Frag} {g : Gh} {n : Nat} {H : Hp} {d e : D} {v w : V} (r : Rl K g n H d v) (s : Rl K g n H e w) (k : flatD d = true) (k2 : flatD e = true) : eqV v w = eqF d e := by
  cases r <;> first | (cases k; done) | (cases s <;> first | rfl | (cases k2; done))
theorem inF_V {K : PySem.W.Frag} {g : Gh} {n : Nat} {H : Hp} {d : D} {v : V} (r : Rl K g n H d v) (k : flatD d = true) : ∀ {ds : List D} {vs : List V}, Rls K g n H ds vs → ds.all flatD = true → inV v vs = inF d ds
  | _, _, .nil, _ => rfl
  | _, _, .cons s t, k2 => by
    rw [List.all_cons, Bool.and_eq_true] at k2
    have ih := inF_V r k t k2.2
    unfold inV inF at ih ⊢
    rw [List.any_cons, List.any_cons, eqF_V s r k2.1 k, ih]
theorem dop_in : DOp X (compareOp .In) opIn := by
  refine ⟨_, op_in_seq, fun g H hd x y vx vy d h' Q hs rx ry e q => ?_⟩
  unfold opIn at e
  split at e
  · rename_i ys e1
    obtain ⟨a, vs, rfl, hq, r⟩ := seqOf_ok hs ry e1
    split at e
    · rename_i k
      cases e
      rw [Bool.and_eq_true] at k
      refine ⟨a, vs, rfl, hq, flatD_V rx k.1, flats_V r k.2, ?_⟩
      rw [if_neg Bool.false_ne_true, inF_V rx k.1 r k.2]
      exact q.here hs (.bl _)
    · cases e
  · cases e
theorem dop_notIn : DOp X (compareOp .NotIn) opNotIn := by
  refine ⟨_, op_notIn_seq, fun g H hd x y vx vy d h' Q hs rx ry e q => ?_⟩
  unfold opNotIn at e
  split at e
  · rename_i ys e1
    obtain ⟨a, vs, rfl, hq, r⟩ := seqOf_ok hs ry e1
    split at e
    · rename_i k
      cases e
      rw [Bool.and_eq_true] at k
      refine ⟨a, vs, rfl, hq, flatD_V rx k.1, flats_V r k.2, ?_⟩
      rw [if_pos rfl, inF_V rx k.1 r k.2]
      exact q.here hs (.bl _)
    · cases e
  · cases e

/-! ### list + list, list * int -/
def loCat (x y : D) : M (List D) := fun h => match mutOf h x, mutOf h y with
  | some xs, some ys => if lineOk (xs ++ ys) = true then some (xs ++ ys, h) else none
  | _, _ => none
theorem lop_cat : LOp X (binaryOp .Add) loCat := by
  refine ⟨_, op_cat, fun g H hd x y vx vy d h' Q hs rx ry e q => ?_⟩
  unfold loCat at e
  split at e
  · rename_i xs ys e1 e2
    split at e
    · rename_i hl
      cases e
      obtain ⟨a, us, rfl, ha, ra⟩ := mutOf_ok hs rx e1
      obtain ⟨b, ws, rfl, hb, rb⟩ := mutOf_ok hs ry e2
      refine ⟨a, b, us, ws, rfl, rfl, ha, hb, ?_, fun p hp => q g H p _ .refl hs (ra.append rb) hp⟩
      have := lineOk_le hl (ra.append rb).length
      rw [List.length_append] at this
      exact this
    · cases e
  · cases e
def loRep (x y : D) : M (List D) := fun h => match mutOf h x, y with
  | some xs, .int k => if -(9223372036854775808) ≤ k ∧ k < 9223372036854775808 ∧ xs.length * k.toNat ≤ 16777216 then some ((List.replicate k.toNat xs).flatten, h) else none
  | _, _ => none
theorem lop_rep : LOp X (binaryOp .Mult) loRep := by
  refine ⟨_, op_rep, fun g H hd x y vx vy d h' Q hs rx ry e q => ?_⟩
  unfold loRep at e
  split at e
  · rename_i xs k e1
    split at e
    · rename_i hl
      cases e
      obtain ⟨a, us, rfl, ha, ra⟩ := mutOf_ok hs rx e1
      have hlen := ra.length
      exact ⟨a, k, us, rfl, ry.int_inv, ha, hl.1, hl.2.1, by rw [sizeLine_eq, ← hlen]; exact hl.2.2, fun p hp => q g H p _ .refl hs (ra.replicate _) hp⟩
    · cases e
  · cases e
end
end DK

namespace DK
open PySem PySem.Spec PyProof.Rows L2

/-! ### lists of one kind -/
def intsOf : List D → Option (List Int)
  | [] => some []
  | .int i :: xs => match intsOf xs with
    | some is => some (i :: is)
    | none => none
  | _ :: _ => none
def blsOf : List D → Option (List Bool)
  | [] => some []
  | .bl i :: xs => match blsOf xs with
    | some is => some (i :: is)
    | none => none
  | _ :: _ => none
theorem intsOf_some : ∀ {xs : List D} {is : List Int}, intsOf xs = some is → xs = is.map D.int
  | [], is, e => by cases e; rfl
  | x :: xs, is, e => by
    cases x with
    | int i =>
      have e : (match intsOf xs with
        | some is => some (i :: is)
        | none => none) = some is := e
      split at e
      · rename_i js q
        cases e
        rw [intsOf_some q]
        rfl
      · cases e
    | _ => cases e
theorem blsOf_some : ∀ {xs : List D} {is : List Bool}, blsOf xs = some is → xs = is.map D.bl
  | [], is, e => by cases e; rfl
  | x :: xs, is, e => by
    cases x with
    | bl i =>
      have e : (match blsOf xs with
        | some is => some (i :: is)
        | none => none) = some is := e
      split at e
      · rename_i js q
        cases e
        rw [blsOf_some q]
        rfl
      · cases e
    | _ => cases e
@[simp] theorem intsOf_map : ∀ is : List Int, intsOf (is.map D.int) = some is
  | [] => rfl
  | i :: is => by show (match intsOf (is.map D.int) with | some is => some (i :: is) | none => none) = _; rw [intsOf_map is]
@[simp] theorem blsOf_map : ∀ is : List Bool, blsOf (is.map D.bl) = some is
  | [] => rfl
  | i :: is => by show (match blsOf (is.map D.bl) with | some is => some (i :: is) | none => none) = _; rw [blsOf_map is]

def maxL : List Int → Int
  | [] => 0
  | [x] => x
  | x :: y :: r => let m := maxL (y :: r); if m > x then m else x
def minL : List Int → Int
  | [] => 0
  | [x] => x
  | x :: y :: r => let m := minL (y :: r); if m < x then m else x
theorem maxL_mem : ∀ {l : List Int}, 0 < l.length → maxL l ∈ l ∧ ∀ y ∈ l, y ≤ maxL l
  | [], h => by simp at h
  | [x], _ => by simp [maxL]
  | x :: y :: r, _ => by
    obtain ⟨h1, h2⟩ := maxL_mem (l := y :: r) (by simp)
    show (if maxL (y :: r) > x then maxL (y :: r) else x) ∈ _ ∧ ∀ z ∈ _, z ≤ (if maxL (y :: r) > x then maxL (y :: r) else x)
    split
    · rename_i q
      refine ⟨List.mem_cons_of_mem _ h1, fun z hz => ?_⟩
      rcases List.mem_cons.mp hz with rfl | hz
      · omega
      · exact h2 z hz
    · rename_i q
      refine ⟨List.mem_cons_self, fun z hz => ?_⟩
      rcases List.mem_cons.mp hz with rfl | hz
      · omega
      · have := h2 z hz; omega
theorem minL_mem : ∀ {l : List Int}, 0 < l.length → minL l ∈ l ∧ ∀ y ∈ l, minL l ≤ y
  | [], h => by simp at h
  | [x], _ => by simp [minL]
  | x :: y :: r, _ => by
    obtain ⟨h1, h2⟩ := minL_mem (l := y :: r) (by simp)
    show (if minL (y :: r) < x then minL (y :: r) else x) ∈ _ ∧ ∀ z ∈ _, (if minL (y :: r) < x then minL (y :: r) else x) ≤ z
    split
    · rename_i q
      refine ⟨List.mem_cons_of_mem _ h1, fun z hz => ?_⟩
      rcases List.mem_cons.mp hz with rfl | hz
      · omega
      · exact h2 z hz
    · rename_i q
      refine ⟨List.mem_cons_self, fun z hz => ?_⟩
      rcases List.mem_cons.mp hz with rfl | hz
      · omega
      · have := h2 z hz; omega
/-- sorted, by insertion -/
def insI (x : Int) : List Int → List Int
  | [] => [x]
  | y :: r => if x ≤ y then x :: y :: r else y :: insI x r
def sortI : List Int → List Int
  | [] => []
  | x :: r => insI x (sortI r)
theorem insI_perm (x : Int) : ∀ l : List Int, (insI x l).Perm (x :: l)
  | [] => .refl _
  | y :: r => by
    unfold insI
    split
    · exact .refl _
    · exact ((insI_perm x r).cons y).trans (.swap x y r)
theorem sortI_perm : ∀ l : List Int, (sortI l).Perm l
  | [] => .refl _
  | x :: r => (insI_perm x (sortI r)).trans ((sortI_perm r).cons x)
theorem insI_sorted (x : Int) : ∀ l : List Int, l.Pairwise (· ≤ ·) → (insI x l).Pairwise (· ≤ ·)
  | [], _ => by simp [insI]
  | y :: r, h => by
    rw [List.pairwise_cons] at h
    unfold insI
    split
    · rename_i q
      rw [List.pairwise_cons]
      refine ⟨fun z hz => ?_, List.pairwise_cons.mpr h⟩
      rcases List.mem_cons.mp hz with rfl | hz
      · exact q
      · have := h.1 z hz; omega
    · rename_i q
      rw [List.pairwise_cons]
      refine ⟨fun z hz => ?_, insI_sorted x r h.2⟩
      rcases List.mem_cons.mp ((insI_perm x r).mem_iff.mp hz) with rfl | hz
      · omega
      · exact h.1 z hz
theorem sortI_sorted : ∀ l : List Int, (sortI l).Pairwise (· ≤ ·)
  | [] => .nil
  | x :: r => insI_sorted x _ (sortI_sorted r)
theorem sorted_unique : ∀ {l m : List Int}, l.Perm m → l.Pairwise (· ≤ ·) → m.Pairwise (· ≤ ·) → l = m
  | [], m, p, _, _ => (List.nil_perm.mp p).symm
  | x :: l, [], p, _, _ => by have := p.length_eq; simp at this
  | x :: l, y :: m, p, h1, h2 => by
    have hx : x ∈ y :: m := p.mem_iff.mp List.mem_cons_self
    have hy : y ∈ x :: l := p.mem_iff.mpr List.mem_cons_self
    rw [List.pairwise_cons] at h1 h2
    have e : x = y := by
      rcases List.mem_cons.mp hx with e | hx
      · exact e
      · rcases List.mem_cons.mp hy with e | hy
        · exact e.symm
        · have a := h2.1 x hx
          have b := h1.1 y hy
          omega
    subst e
    rw [sorted_unique (List.perm_cons x |>.mp p) h1.2 h2.2]

/-! ### built-ins -/
def withL {α : Type} (x : D) (f : List D → M α) : M α := fun h => match listOf h x with
  | some xs => f xs h
  | none => none
def withS {α : Type} (x : D) (f : List D → M α) : M α := fun h => match seqOf h x with
  | some xs => f xs h
  | none => none
def withI {α : Type} (xs : List D) (f : List Int → M α) : M α := fun h => match intsOf xs with
  | some is => f is h
  | none => none
def withB {α : Type} (xs : List D) (f : List Bool → M α) : M α := fun h => match blsOf xs with
  | some is => f is h
  | none => none
theorem withL_some {α : Type} {x : D} {f : List D → M α} {h : Hd} {r : α × Hd} (e : withL x f h = some r) : ∃ xs, listOf h x = some xs ∧ f xs h = some r := by
  unfold withL at e
  split at e
  · rename_i xs q; exact ⟨xs, q, e⟩
  · cases e
theorem withS_some {α : Type} {x : D} {f : List D → M α} {h : Hd} {r : α × Hd} (e : withS x f h = some r) : ∃ xs, seqOf h x = some xs ∧ f xs h = some r := by
  unfold withS at e
  split at e
  · rename_i xs q; exact ⟨xs, q, e⟩
  · cases e
theorem withI_some {α : Type} {x : List D} {f : List Int → M α} {h : Hd} {r : α × Hd} (e : withI x f h = some r) : ∃ xs, intsOf x = some xs ∧ f xs h = some r := by
  unfold withI at e
  split at e
  · rename_i xs q; exact ⟨xs, q, e⟩
  · cases e
theorem withB_some {α : Type} {x : List D} {f : List Bool → M α} {h : Hd} {r : α × Hd} (e : withB x f h = some r) : ∃ xs, blsOf x = some xs ∧ f xs h = some r := by
  unfold withB at e
  split at e
  · rename_i xs q; exact ⟨xs, q, e⟩
  · cases e
def lenD (h : Hd) (x : D) : Option Nat := match seqOf h x with
  | some xs => some xs.length
  | none => match x with
    | .ref i => match h[i]? with
      | some (.dK kvs) => some kvs.length
      | _ => none
    | _ => none
def bLen : List D → M D
  | [x] => fun h => match lenD h x with
    | some n => some (.int n, h)
    | none => none
  | _ => failM
def bAbs : List D → M D
  | [.int i] => retM (.int (if i < 0 then -i else i))
  | _ => failM
def bInt : List D → M D
  | [.int i] => retM (.int i)
  | [.bl b] => retM (.int (if b then 1 else 0))
  | _ => failM
def bMax2 : List D → M D
  | [.int i, .int j] => retM (.int (if j > i then j else i))
  | _ => failM
def bMin2 : List D → M D
  | [.int i, .int j] => retM (.int (if j < i then j else i))
  | _ => failM
def bMax : List D → M D
  | [x] => withL x fun xs => withI xs fun is => if 0 < is.length then retM (.int (maxL is)) else failM
  | _ => failM
def bMin : List D → M D
  | [x] => withL x fun xs => withI xs fun is => if 0 < is.length then retM (.int (minL is)) else failM
  | _ => failM
def bSum : List D → M D
  | [x] => withL x fun xs => withI xs fun is => retM (.int is.sum)
  | _ => failM
def bAll : List D → M D
  | [x] => withL x fun xs => withB xs fun is => retM (.bl (is.all id))
  | _ => failM
def bAny : List D → M D
  | [x] => withL x fun xs => withB xs fun is => retM (.bl (is.any id))
  | _ => failM
def bTuple : List D → M D
  | [x] => withS x fun xs => retM (.tup xs)
  | _ => failM
def bList : List D → M (List D)
  | [x] => withS x fun xs => retM xs
  | _ => failM
def bSorted : List D → M (List D)
  | [x] => withL x fun xs => withI xs fun is => retM ((sortI is).map D.int)
  | _ => failM
section
variable {X : Cx} {K : PySem.W.Frag} {g : Gh} {n : Nat} {H : Hp} {h : Hd}
theorem Rls.one {d : D} {vs : List V} (r : Rls K g n H [d] vs) : ∃ v, vs = [v] ∧ Rl K g n H d v := by
  cases r with
  | cons r t => cases t; exact ⟨_, rfl, r⟩
theorem Rls.two {d e : D} {vs : List V} (r : Rls K g n H [d, e] vs) : ∃ v w, vs = [v, w] ∧ Rl K g n H d v ∧ Rl K g n H e w := by
  cases r with
  | cons r t =>
    cases t with
    | cons s t => cases t; exact ⟨_, _, rfl, r, s⟩
theorem lenD_ok {d : D} {v : V} {m : Nat} (hs : HS K g H h) (r : Rl K g h.length H d v) (e : lenD h d = some m) : LenV K v H m ∨ ∃ a kvs, v = .ref a ∧ H a = some (.dK kvs) ∧ m = kvs.length := by
  unfold lenD at e
  split at e
  · rename_i xs q
    cases e
    obtain ⟨a, us, rfl, hq, ra⟩ := seqOf_ok hs r q
    rw [ra.length]
    exact .inl (hq.elim (fun k => .inl ⟨us, k, rfl⟩) (fun k => .inr ⟨us, k, rfl⟩))
  · split at e
    · rename_i i _
      split at e
      · rename_i kvs q
        cases e
        obtain ⟨kv, h1, h2, _⟩ := hs.cell i _ q
        cases r with
        | ref hi => exact .inr ⟨_, kv, rfl, h1, by rw [← List.length_map (f := (·.1)), h2, List.length_map]⟩
      · cases e
    · cases e
theorem dcall_len : DCall X (.builtin "len") bLen := by
  refine ⟨fun xs H Q => (∃ x n, xs = [x] ∧ LenV X.K x H n ∧ Q (.int n) H) ∨ ∃ a kvs, xs = [.ref a] ∧ H a = some (.dK kvs) ∧ Q (.int kvs.length) H, ?_, fun g H h xs vs d h' Q hs r e q => ?_⟩
  · intro pins s σ H xs us Q I r h
    rcases h with h | ⟨a, kvs, rfl, ha, q⟩
    · exact call_len pins s σ H xs us Q I r h
    · rw [Vals.ref1 r]
      exact d_len I (.inl ha) fun t s' I' => ⟨.int kvs.length, H, I', ⟨_, rfl⟩, q⟩
  · match xs, e, r with
    | [x], e, r =>
      obtain ⟨v, rfl, rx⟩ := r.one
      unfold bLen at e
      dsimp only at e
      split at e
      · rename_i m e1
        cases e
        rcases lenD_ok hs rx e1 with k | ⟨a, kvs, rfl, ha, rfl⟩
        · exact .inl ⟨_, m, rfl, k, q.here hs (.int _)⟩
        · exact .inr ⟨a, kvs, rfl, ha, q.here hs (.int _)⟩
      · cases e
theorem dcall_abs : DCall X (.builtin "abs") bAbs := by
  refine ⟨_, call_abs, fun g H h xs vs d h' Q hs r e q => ?_⟩
  match xs, e, r with
  | [.int i], e, r =>
    cases e
    obtain ⟨v, rfl, rx⟩ := r.one
    rw [rx.int_inv]
    exact ⟨i, rfl, q.here hs (.int _)⟩
theorem dcall_int : DCall X (.type "int") bInt := by
  refine ⟨_, call_int1, fun g H h xs vs d h' Q hs r e q => ?_⟩
  match xs, e, r with
  | [.int i], e, r =>
    cases e
    obtain ⟨v, rfl, rx⟩ := r.one
    rw [rx.int_inv]
    exact .inl ⟨i, rfl, q.here hs (.int _)⟩
  | [.bl i], e, r =>
    cases e
    obtain ⟨v, rfl, rx⟩ := r.one
    rw [rx.bl_inv]
    exact .inr ⟨i, rfl, q.here hs (.int _)⟩
theorem intsArg {d : D} {xs : List D} {is : List Int} {v : V} (hs : HS K g H h) (r : Rl K g h.length H d v) (e1 : listOf h d = some xs) (e2 : intsOf xs = some is) : ∃ a, v = .ref a ∧ SqL K H a (is.map V.int) := by
  obtain ⟨a, us, rfl, hq, ra⟩ := listOf_ok hs r e1
  rw [intsOf_some e2] at ra
  rw [← ra.ints_inv]
  exact ⟨a, rfl, hq⟩
theorem blsArg {d : D} {xs : List D} {is : List Bool} {v : V} (hs : HS K g H h) (r : Rl K g h.length H d v) (e1 : listOf h d = some xs) (e2 : blsOf xs = some is) : ∃ a, v = .ref a ∧ SqL K H a (is.map V.bl) := by
  obtain ⟨a, us, rfl, hq, ra⟩ := listOf_ok hs r e1
  rw [blsOf_some e2] at ra
  rw [← ra.bls_inv]
  exact ⟨a, rfl, hq⟩
theorem max_unique {l : List Int} {m k : Int} (h1 : m ∈ l) (h2 : ∀ y, y ∈ l → y ≤ m) (h3 : k ∈ l) (h4 : ∀ y ∈ l, y ≤ k) : m = k := by
  have := h2 k h3
  have := h4 m h1
  omega
theorem min_unique {l : List Int} {m k : Int} (h1 : m ∈ l) (h2 : ∀ y, y ∈ l → m ≤ y) (h3 : k ∈ l) (h4 : ∀ y ∈ l, k ≤ y) : m = k := by
  have := h2 k h3
  have := h4 m h1
  omega
theorem dcall_max2 (hc : X.calm = true) : DCall X (.builtin "max") bMax2 := by
  refine ⟨_, call_max2 hc, fun g H h xs vs d h' Q hs r e q => ?_⟩
  match xs, e, r with
  | [.int i, .int j], e, r =>
    cases e
    obtain ⟨v, w, rfl, rx, ry⟩ := r.two
    rw [rx.int_inv, ry.int_inv]
    exact ⟨i, j, rfl, q.here hs (.int _)⟩
theorem dcall_min2 (hc : X.calm = true) : DCall X (.builtin "min") bMin2 := by
  refine ⟨_, call_min2 hc, fun g H h xs vs d h' Q hs r e q => ?_⟩
  match xs, e, r with
  | [.int i, .int j], e, r =>
    cases e
    obtain ⟨v, w, rfl, rx, ry⟩ := r.two
    rw [rx.int_inv, ry.int_inv]
    exact ⟨i, j, rfl, q.here hs (.int _)⟩
theorem dcall_max (hc : X.calm = true) : DCall X (.builtin "max") bMax := by
  refine ⟨_, cr_max hc, fun g H h xs vs d h' Q hs r e q => ?_⟩
  match xs, e, r with
  | [x], e, r =>
    obtain ⟨v, rfl, rx⟩ := r.one
    obtain ⟨xs, e1, e2⟩ := withL_some e
    obtain ⟨is, e3, e4⟩ := withI_some e2
    split at e4
    · rename_i hl
      cases e4
      obtain ⟨a, rfl, hq⟩ := intsArg hs rx e1 e3
      refine ⟨a, is, rfl, hq, hl, fun m h1 h2 => ?_⟩
      obtain ⟨h3, h4⟩ := maxL_mem hl
      rw [max_unique h1 h2 h3 h4]
      exact q.here hs (.int _)
    · cases e4
theorem dcall_min (hc : X.calm = true) : DCall X (.builtin "min") bMin := by
  refine ⟨_, cr_min hc, fun g H h xs vs d h' Q hs r e q => ?_⟩
  match xs, e, r with
  | [x], e, r =>
    obtain ⟨v, rfl, rx⟩ := r.one
    obtain ⟨xs, e1, e2⟩ := withL_some e
    obtain ⟨is, e3, e4⟩ := withI_some e2
    split at e4
    · rename_i hl
      cases e4
      obtain ⟨a, rfl, hq⟩ := intsArg hs rx e1 e3
      refine ⟨a, is, rfl, hq, hl, fun m h1 h2 => ?_⟩
      obtain ⟨h3, h4⟩ := minL_mem hl
      rw [min_unique h1 h2 h3 h4]
      exact q.here hs (.int _)
    · cases e4
theorem dcall_sum (hc : X.calm = true) : DCall X (.builtin "sum") bSum := by
  refine ⟨_, cr_sum hc, fun g H h xs vs d h' Q hs r e q => ?_⟩
  match xs, e, r with
  | [x], e, r =>
    obtain ⟨v, rfl, rx⟩ := r.one
    obtain ⟨xs, e1, e2⟩ := withL_some e
    obtain ⟨is, e3, e4⟩ := withI_some e2
    cases e4
    obtain ⟨a, rfl, hq⟩ := intsArg hs rx e1 e3
    exact ⟨a, is, rfl, hq, q.here hs (.int _)⟩
theorem dcall_all (hc : X.calm = true) : DCall X (.builtin "all") bAll := by
  refine ⟨_, cr_all hc, fun g H h xs vs d h' Q hs r e q => ?_⟩
  match xs, e, r with
  | [x], e, r =>
    obtain ⟨v, rfl, rx⟩ := r.one
    obtain ⟨xs, e1, e2⟩ := withL_some e
    obtain ⟨is, e3, e4⟩ := withB_some e2
    cases e4
    obtain ⟨a, rfl, hq⟩ := blsArg hs rx e1 e3
    exact ⟨a, is, rfl, hq, q.here hs (.bl _)⟩
theorem dcall_any (hc : X.calm = true) : DCall X (.builtin "any") bAny := by
  refine ⟨_, cr_any hc, fun g H h xs vs d h' Q hs r e q => ?_⟩
  match xs, e, r with
  | [x], e, r =>
    obtain ⟨v, rfl, rx⟩ := r.one
    obtain ⟨xs, e1, e2⟩ := withL_some e
    obtain ⟨is, e3, e4⟩ := withB_some e2
    cases e4
    obtain ⟨a, rfl, hq⟩ := blsArg hs rx e1 e3
    exact ⟨a, is, rfl, hq, q.here hs (.bl _)⟩
theorem dcall_tuple : DCall X (.type "tuple") bTuple := by
  refine ⟨_, call_tuple_of, fun g H h xs vs d h' Q hs r e q => ?_⟩
  match xs, e, r with
  | [x], e, r =>
    obtain ⟨v, rfl, rx⟩ := r.one
    obtain ⟨xs, e1, e2⟩ := withS_some e
    cases e2
    obtain ⟨a, us, rfl, hq, ra⟩ := seqOf_ok hs rx e1
    refine ⟨a, us, rfl, ?_⟩
    rcases hq with hq | hq
    · refine .inl ⟨hq, fun p hp => ?_⟩
      have E2 : Ext X.K g h.length H g h.length (upd H p (.tup us)) := Ext.new hp
      exact q g _ _ E2 (hs.new hp) (.tup (.inl (.inl upd_same)) (E2.rls ra))
    · exact .inr ⟨hq, q.here hs (.tup hq ra)⟩
theorem lcall_list : LCall X (.type "list") bList := by
  refine ⟨_, call_list_of, fun g H h xs vs d h' Q hs r e q => ?_⟩
  match xs, e, r with
  | [x], e, r =>
    obtain ⟨v, rfl, rx⟩ := r.one
    obtain ⟨xs, e1, e2⟩ := withS_some e
    cases e2
    obtain ⟨a, us, rfl, hq, ra⟩ := seqOf_ok hs rx e1
    exact ⟨a, us, rfl, hq, fun p hp => q g H p us .refl hs ra hp⟩
theorem lcall_sorted : LCall X (.builtin "sorted") bSorted := by
  refine ⟨_, cr_sortedI, fun g H h xs vs d h' Q hs r e q => ?_⟩
  match xs, e, r with
  | [x], e, r =>
    obtain ⟨v, rfl, rx⟩ := r.one
    obtain ⟨xs, e1, e2⟩ := withL_some e
    obtain ⟨is, e3, e4⟩ := withI_some e2
    cases e4
    obtain ⟨a, rfl, hq⟩ := intsArg hs rx e1 e3
    refine ⟨a, is, rfl, hq, fun ns' p hp1 hp2 hp => ?_⟩
    have : ns' = sortI is := sorted_unique (hp1.trans (sortI_perm is).symm) hp2 (sortI_sorted is)
    subst this
    exact q g H p _ .refl hs .ints hp

/-! ### isinstance -/
def tyD (h : Hd) : D → String
  | .non => "NoneType"
  | .bl _ => "bool"
  | .int _ => "int"
  | .str _ => "str"
  | .tup _ => "tuple"
  | .lst _ => "list"
  | .ro _ => "list"
  | .ref i => match h[i]? with
    | some (.dK _) => "dict"
    | _ => "list"
theorem tyD_ok {d : D} {v : V} (hs : HS K g H h) (r : Rl K g h.length H d v) : TyX K H v (.type (tyD h d)) := by
  cases r with
  | non => exact .base .non
  | bl b => exact .base (.bl b)
  | int b => exact .base (.int b)
  | str b => exact .base (.str b)
  | tup q r =>
    rcases q with (q | ⟨o, q⟩) | ⟨o, its, n, k, c, _⟩
    · exact .base (.tup q)
    · exact .fTuple q
    · exact .kTuple k c
  | lst q r => exact .base (.lst q.2)
  | ro q r =>
    rcases q with ⟨o, q⟩ | ⟨o, its, n, k, c, _⟩
    · exact .base (.frz q)
    · exact .kList k c
  | @ref i hi =>
    obtain ⟨u, hu, hk⟩ := hs.ne_none hi
    have hc := hs.cell i _ (List.getElem?_eq_getElem hi)
    cases e : h[i] with
    | lst xs =>
      rw [e] at hc
      obtain ⟨vs, q, _⟩ := hc
      have : tyD h (.ref i) = "list" := by
        show (match h[i]? with | some (.dK _) => "dict" | _ => "list") = _
        rw [List.getElem?_eq_getElem hi, e]
      rw [this]
      exact .base (.lst q)
    | dK kvs =>
      rw [e] at hc
      obtain ⟨vs, q, _⟩ := hc
      have : tyD h (.ref i) = "dict" := by
        show (match h[i]? with | some (.dK _) => "dict" | _ => "list") = _
        rw [List.getElem?_eq_getElem hi, e]
      rw [this]
      exact .base (.dK q)
/-- what isinstance says of two built-in types -/
def subTy : String → String → Option Bool
  | "NoneType", _ => some false
  | "bool", "int" => some true
  | "bool", "bool" => some true
  | "bool", _ => some false
  | "int", "int" => some true
  | "int", _ => some false
  | "str", "str" => some true
  | "str", _ => some false
  | "tuple", "tuple" => some true
  | "tuple", _ => some false
  | "list", "list" => some true
  | "list", _ => some false
  | "dict", "dict" => some true
  | "dict", _ => some false
  | _, _ => none
def isiM (T : String) (x : D) : M D := fun h => match subTy (tyD h x) T with
  | some b => some (.bl b, h)
  | none => none
def eIsi (T : String) (a : EV) : EV := fun n ds => bindM (a n ds) (isiM T)
def kitAll (T : String) : Bool := ["NoneType", "bool", "int", "str", "tuple", "list", "dict"].all fun a => match subTy a T with
  | some b => kitB a T == some b
  | none => false
theorem kitAll_ok {T a : String} {b : Bool} (h : kitAll T = true) (e : subTy a T = some b) (ha : a ∈ ["NoneType", "bool", "int", "str", "tuple", "list", "dict"]) : PySem.W.kitOne K (.type a) (.type T) = some b := by
  have h1 := List.all_eq_true.mp h a ha
  rw [e] at h1
  exact kit_ty (by simpa using h1)
theorem tyD_mem (d : D) : tyD h d ∈ ["NoneType", "bool", "int", "str", "tuple", "list", "dict"] := by
  cases d with
  | ref i =>
    unfold tyD
    dsimp only
    split <;> simp
  | _ => unfold tyD; simp
theorem de_isi {e : Expr} {ev : EV} {T : Str} {Ts : String} {p p2 pos : Pos} (he : DE X e ev) (hg : Gl X "isinstance") (hm : X.mg "isinstance" = none) (hg2 : Gl X T) (hm2 : X.mg T = none) (hv : bootBuiltins "isinstance" = some (.builtin "isinstance")) (hv2 : bootBuiltins T = some (.type Ts)) (hk : kitAll Ts = true)
    (hn2 : T ≠ "__name__" := by decide) (hdb2 : (T == ("__debug__" : Str)) = false := by decide)
    (he1 : starEach [e, .Name T p2] X.env = (false, eval e X.env) :: starEach [.Name T p2] X.env := by rfl) (he2 : starEach [.Name T p2] X.env = (false, eval (.Name T p2) X.env) :: starEach [] X.env := by rfl)
    (hpl : (backTo pos (starEach [.Name T p2] X.env)).any (·.1) = false := by rfl) :
    DE X (.Call (.Name "isinstance" p) [e, .Name T p2] [] pos) (eIsi Ts ev) := by
  obtain ⟨t, pa, sa⟩ := he.ex
  have pt : PE X (.Name T p2) (tC (.ty Ts)) := pe_bltn hg2 hm2 hv2 rfl hn2 hdb2
  refine ⟨_, pe_callB call_isi hg hm hv (pa_cons pa (pa_cons pt pa_nil he2) he1) (by decide) (by decide) he1 hpl, fun n g σ H ds h d h' Q S ev q => ?_⟩
  obtain ⟨x, h1, e1, ev1⟩ := bindM_some ev
  refine sa n g σ H ds h x h1 _ S e1 fun g1 H1 vx E1 S1 r1 => ?_
  unfold isiM at ev1
  split at ev1
  · rename_i b e2
    cases ev1
    exact ⟨vx, .ty Ts, .type (tyD h' x), .type Ts, b, rfl, .ty Ts, tyD_ok S1.hs r1, kitAll_ok hk e2 (tyD_mem x), q g1 H1 _ E1 S1 (.bl b)⟩
  · cases ev1

/-! ### items, slices -/
def opIx (x y : D) : M D := fun h => match seqOf h x, y with
  | some xs, .int i => match atI xs i with
    | some d => some (d, h)
    | none => none
  | _, _ => none
theorem atI_rls {xs : List D} {vs : List V} {i : Int} {d : D} (r : Rls K g n H xs vs) (e : atI xs i = some d) : ∃ v, atI vs i = some v ∧ Rl K g n H d v := by
  unfold atI at e ⊢
  rw [r.length] at e
  cases k : ixN vs.length i with
  | none => rw [k] at e; cases e
  | some j =>
    rw [k] at e
    exact r.get (show xs[j]? = some d from e)
theorem de_ix {a b : Expr} {ea eb : EV} {pos : Pos} (ha : DE X a ea) (hb : DE X b eb) (hs : PlainIx b := by exact fun _ _ => rfl) : DE X (.Subscript a b pos) (eBin opIx ea eb) := by
  obtain ⟨ta, pa, sa⟩ := ha.ex
  obtain ⟨tb, pb, sb⟩ := hb.ex
  refine ⟨_, pe_ix ix_seq pa pb hs, fun n g σ H ds h d h' Q S ev q => ?_⟩
  refine bin_sound (R := fun x y H2 => rIx X.K x y H2 Q) sa sb S ev fun g2 H2 h2 x y vx vy E S2 r1 r2 e => ?_
  unfold opIx at e
  split at e
  · rename_i xs i e1
    split at e
    · rename_i d' e2
      cases e
      obtain ⟨p, vs, rfl, hq, ra⟩ := seqOf_ok S2.hs r1 e1
      obtain ⟨v, hv, rv⟩ := atI_rls ra e2
      have fin : Q v H2 := q g2 H2 v E S2 rv
      rcases hq with hq | hq
      · exact .inl ⟨p, vs, i, v, rfl, r2.int_inv, hq, hv, fin⟩
      · exact .inr (.inl ⟨p, vs, i, v, rfl, r2.int_inv, hq, hv, fin⟩)
    · cases e
  · cases e
/-- the parts of a slice -/
abbrev OV := Nat → Sl → M (Option Int)
structure DO (X : Cx) (e : Option Expr) (ev : OV) : Prop where
  ex : ∃ t : TO, PO X e t ∧ ∀ (n : Nat) (g : Gh) (σ : L2.St) (H : Hp) (ds : Sl) (h : Hd) (d : Option Int) (h' : Hd) (Q : Option Int → Hp → Prop),
    Sim X.K g H σ ds h → ev n ds h = some (d, h') → (∀ g' H', Ext X.K g h.length H g' h'.length H' → Sim X.K g' H' σ ds h' → Q d H') → t σ H Q
def oNone : OV := fun _ _ => retM none
def oSome (a : EV) : OV := fun n ds => bindM (a n ds) fun x => match x with
  | .int i => retM (some i)
  | _ => failM
theorem do_none : DO X none oNone := ⟨_, po_none, fun n g σ H ds h d h' Q S ev q => by cases ev; exact q g H .refl S⟩
theorem do_some {e : Expr} {ev : EV} (he : DE X e ev) : DO X (some e) (oSome ev) := by
  obtain ⟨t, pa, sa⟩ := he.ex
  refine ⟨_, po_some pa, fun n g σ H ds h d h' Q S ev q => ?_⟩
  obtain ⟨x, h1, e1, ev1⟩ := bindM_some ev
  refine sa n g σ H ds h x h1 _ S e1 fun g1 H1 vx E1 S1 r1 => ?_
  cases x with
  | int i => cases ev1; exact ⟨i, r1.int_inv, q g1 H1 E1 S1⟩
  | _ => cases ev1
def cutD (xs : List D) (lo hi : Option Int) : List D := (xs.drop (HT.sIx xs.length 0 lo)).take (HT.sIx xs.length xs.length hi - HT.sIx xs.length 0 lo)
theorem cutD_rls {xs : List D} {vs : List V} {lo hi : Option Int} (r : Rls K g n H xs vs) : Rls K g n H (cutD xs lo hi) (cutV vs lo hi) := by
  unfold cutD cutV
  rw [r.length]
  exact (r.drop _).take _
def slD (x : D) (lo hi : Option Int) : M D := fun h => match x with
  | .tup xs => some (.tup (cutD xs lo hi), h)
  | x => match listOf h x with
    | some xs => some (.lst (cutD xs lo hi), h)
    | none => none
def eSl (a : EV) (l u : OV) : EV := fun n ds => bindM (a n ds) fun x => bindM (l n ds) fun lo => bindM (u n ds) fun hi => slD x lo hi
def slL (x : D) (lo hi : Option Int) : M (List D) := fun h => match listOf h x with
    | some xs => some (cutD xs lo hi, h)
    | none => none
def lSl (a : EV) (l u : OV) : AV := fun n ds => bindM (a n ds) fun x => bindM (l n ds) fun lo => bindM (u n ds) fun hi => slL x lo hi
theorem cut_whole {xs : List D} {lo hi : Option Int} (h : HT.sIx xs.length 0 lo = 0 ∧ HT.sIx xs.length xs.length hi = xs.length) : cutD xs lo hi = xs := by
  unfold cutD
  rw [h.1, h.2]
  simp
theorem slD_list {x : D} {lo hi : Option Int} {h : Hd} {d : D} {h' : Hd} (e : slD x lo hi h = some (d, h')) : (∃ xs, x = .tup xs ∧ d = .tup (cutD xs lo hi) ∧ h' = h) ∨ ∃ xs, listOf h x = some xs ∧ d = .lst (cutD xs lo hi) ∧ h' = h := by
  unfold slD at e
  split at e
  · cases e; exact .inl ⟨_, rfl, rfl, rfl⟩
  · split at e
    · rename_i xs e1
      cases e
      exact .inr ⟨xs, e1, rfl, rfl⟩
    · cases e
theorem de_sl {a : Expr} {lo hi : Option Expr} {ea : EV} {el eh : OV} {p2 pos : Pos} (ha : DE X a ea) (hl : DO X lo el) (hh : DO X hi eh) : DE X (.Subscript a (.Slice lo hi none p2) pos) (eSl ea el eh) := by
  obtain ⟨ta, pa, sa⟩ := ha.ex
  obtain ⟨tl, pl, sl⟩ := hl.ex
  obtain ⟨th, ph, sh⟩ := hh.ex
  refine ⟨_, pe_slice (sl_list.or sl_tupA) pa pl ph, fun n g σ H ds h d h' Q S ev q => ?_⟩
  obtain ⟨x, h1, e1, ev1⟩ := bindM_some ev
  refine sa n g σ H ds h x h1 _ S e1 fun g1 H1 vx E1 S1 r1 => ?_
  obtain ⟨l, h2, e2, ev2⟩ := bindM_some ev1
  refine sl n g1 σ H1 ds h1 l h2 _ S1 e2 fun g2 H2 E2 S2 => ?_
  obtain ⟨u, h3, e3, ev3⟩ := bindM_some ev2
  refine sh n g2 σ H2 ds h2 u h3 _ S2 e3 fun g3 H3 E3 S3 => ?_
  have r3 := (E2.trans E3).rl r1
  have E := (E1.trans E2).trans E3
  rcases slD_list ev3 with ⟨xs, rfl, rfl, rfl⟩ | ⟨xs, e4, rfl, rfl⟩
  · obtain ⟨p, vs, rfl, hq, ra⟩ := tupOf_ok r3 rfl
    refine .inr ⟨p, vs, rfl, hq, fun hw => ?_, fun hw p hp => ?_⟩
    · rw [← ra.length] at hw
      rw [cut_whole hw] at q
      exact q g3 H3 _ E S3 r3
    · have E4 : Ext X.K g3 h'.length H3 g3 h'.length (upd H3 p (.tup (cutV vs l u))) := Ext.new hp
      exact q g3 _ _ (E.trans E4) (S3.new hp) (.tup (.inl (.inl upd_same)) (E4.rls (cutD_rls ra)))
  · obtain ⟨p, vs, rfl, hq, ra⟩ := listOf_ok S3.hs r3 e4
    refine .inl ⟨p, vs, rfl, hq, fun p hp => ?_⟩
    have E4 : Ext X.K g3 h'.length H3 (g3.frz p) h'.length (upd H3 p (.lst (cutV vs l u))) := Ext.freeze hp
    exact q _ _ _ (E.trans E4) ⟨S3.hs.freeze hp, E4.sl S3.sl⟩ (.frozen hp (cutD_rls ra))
theorem dl_sl {a : Expr} {lo hi : Option Expr} {ea : EV} {el eh : OV} {p2 pos : Pos} (ha : DE X a ea) (hl : DO X lo el) (hh : DO X hi eh) : DL X (.Subscript a (.Slice lo hi none p2) pos) (lSl ea el eh) := by
  obtain ⟨ta, pa, sa⟩ := ha.ex
  obtain ⟨tl, pl, sl⟩ := hl.ex
  obtain ⟨th, ph, sh⟩ := hh.ex
  refine ⟨_, pe_slice sl_list pa pl ph, fun n g σ H ds h d h' Q S ev q => ?_⟩
  obtain ⟨x, h1, e1, ev1⟩ := bindM_some ev
  refine sa n g σ H ds h x h1 _ S e1 fun g1 H1 vx E1 S1 r1 => ?_
  obtain ⟨l, h2, e2, ev2⟩ := bindM_some ev1
  refine sl n g1 σ H1 ds h1 l h2 _ S1 e2 fun g2 H2 E2 S2 => ?_
  obtain ⟨u, h3, e3, ev3⟩ := bindM_some ev2
  refine sh n g2 σ H2 ds h2 u h3 _ S2 e3 fun g3 H3 E3 S3 => ?_
  have r3 := (E2.trans E3).rl r1
  unfold slL at ev3
  split at ev3
  · rename_i xs e4
    cases ev3
    obtain ⟨p, vs, rfl, hq, ra⟩ := listOf_ok S3.hs r3 e4
    exact ⟨p, vs, rfl, hq, fun p hp => q g3 H3 p _ ((E1.trans E2).trans E3) S3 (cutD_rls ra) hp⟩
  · cases ev3
def revL (x : D) : M (List D) := fun h => match listOf h x with
    | some xs => some (xs.reverse, h)
    | none => none
def lRev (a : EV) : AV := fun n ds => bindM (a n ds) revL
theorem dl_rev {a : Expr} {ea : EV} {k : Nat} {p1 p2 p3 pos : Pos} (ha : DE X a ea) : DL X (.Subscript a (.Slice none none (some (.UnaryOp .USub (.Constant (.int 1) k p1) p2)) p3) pos) (lRev ea) := by
  obtain ⟨ta, pa, sa⟩ := ha.ex
  refine ⟨_, pe_revL pa, fun n g σ H ds h d h' Q S ev q => ?_⟩
  obtain ⟨x, h1, e1, ev1⟩ := bindM_some ev
  refine sa n g σ H ds h x h1 _ S e1 fun g1 H1 vx E1 S1 r1 => ?_
  unfold revL at ev1
  split at ev1
  · rename_i xs e4
    cases ev1
    obtain ⟨p, vs, rfl, hq, ra⟩ := listOf_ok S1.hs r1 e4
    exact ⟨p, vs, rfl, hq, fun p hp => q g1 H1 p _ E1 S1 ra.reverse hp⟩
  · cases ev1

/-! ### methods of lists -/
def opApp (x y : D) : M D := fun h => match x with
  | .ref i => match cellL h i with
    | some xs => if xs.length < 16777216 then some (.non, h.set i (.lst (xs ++ [y]))) else none
    | none => none
  | _ => none
def needL (x : D) : M Unit := fun h => match x with
  | .ref i => match cellL h i with
    | some _ => some ((), h)
    | none => none
  | _ => none
def eApp (a b : EV) : EV := fun n ds => bindM (a n ds) fun x => bindM (needL x) fun _ => bindM (b n ds) fun y => opApp x y
theorem needL_some {x : D} {h : Hd} {r : Unit × Hd} (e : needL x h = some r) : ∃ i xs, x = .ref i ∧ cellL h i = some xs ∧ r.2 = h := by
  unfold needL at e
  split at e
  · rename_i i
    split at e
    · rename_i xs q
      cases e
      exact ⟨i, xs, rfl, q, rfl⟩
    · cases e
  · cases e
theorem opApp_some {x y : D} {h : Hd} {d : D} {h' : Hd} (e : opApp x y h = some (d, h')) : ∃ i xs, x = .ref i ∧ cellL h i = some xs ∧ xs.length < 16777216 ∧ d = .non ∧ h' = h.set i (.lst (xs ++ [y])) := by
  unfold opApp at e
  split at e
  · rename_i i
    split at e
    · rename_i xs q
      split at e
      · rename_i hl
        cases e
        exact ⟨i, xs, rfl, q, hl, rfl, rfl⟩
      · cases e
    · cases e
  · cases e
theorem write_ok {g : Gh} {H : Hp} {h : Hd} {i : Nat} {xs ys : List D} {vs : List V} (hs : HS K g H h) (e : cellL h i = some xs) (r : Rls K g h.length H ys vs) :
    Ext K g h.length H g h.length (upd H (g.al i) (.lst vs)) ∧ HS K g (upd H (g.al i) (.lst vs)) (h.set i (.lst ys)) ∧ i < h.length := by
  have hi : i < h.length := (List.getElem?_eq_some_iff.mp (cellL_some e)).1
  have E : Ext K g h.length H g h.length (upd H (g.al i) (.lst vs)) := Ext.write hs hi
  exact ⟨E, hs.write hi ⟨vs, upd_same, E.rls r⟩, hi⟩
theorem tyL_ok {g : Gh} {H : Hp} {h : Hd} {i : Nat} {xs : List D} (hs : HS K g H h) (e : cellL h i = some xs) : tyV K "list" (.ref (g.al i)) H := by
  obtain ⟨vs, q, _⟩ := cellL_ok hs e
  exact .inl ⟨rfl, vs, .inl (.inl q)⟩
/-- o.m(e) of a list that changes -/
theorem de_meth1 {o e : Expr} {eo ee : EV} {apos pos : Pos} {name : Str} {id : String} {r : V → List V → Hp → VK → Prop} {op : D → D → M D} (slot : Slot "list" name id) (hty : typeOf (.builtin id) = pure (.type "method_descriptor")) (hm : MtR X id r)
    (so : ∀ (g : Gh) (H : Hp) (h : Hd) (x y : D) (vx vy : V) (d : D) (h' : Hd) (Q : VK), HS X.K g H h → Rl X.K g h.length H x vx → Rl X.K g h.length H y vy → op x y h = some (d, h') → PostO X.K g h.length H h' d Q → r vx [vy] H Q)
    (ho : DE X o eo) (he : DE X e ee) (hbase : attributeBase o name X.env (eval o X.env) = eval o X.env := by rfl)
    (hfew : ((backTo pos (starEach [e] X.env)).all (fun x => !x.1) && (backToKw pos (keywordEach [] X.env)).all (fun x => x.1.isSome)
      && decide ([e].length + ([] : List Keyword).length + (if ([] : List Keyword).isEmpty then 0 else 1) < 30)) = true := by rfl)
    (hline : (apos.endLine == pos.line) = true := by rfl) (hs : starEach [e] X.env = (false, eval e X.env) :: starEach [] X.env := by rfl) (hplain : (backTo pos (starEach [] X.env)).any (·.1) = false := by rfl) :
    DE X (.Call (.Attribute o name apos) [e] [] pos) (fun n ds => bindM (eo n ds) fun x => bindM (needL x) fun _ => bindM (ee n ds) fun y => op x y) := by
  obtain ⟨ta, pa, sa⟩ := ho.ex
  obtain ⟨tb, pb, sb⟩ := he.ex
  refine ⟨_, pe_bm PySem.F.plainAttrs_list slot hty hm pa (pa_cons pb pa_nil hs) hbase hfew hline hs hplain, fun n g σ H ds h d h' Q S ev q => ?_⟩
  obtain ⟨x, h1, e1, ev1⟩ := bindM_some ev
  refine sa n g σ H ds h x h1 _ S e1 fun g1 H1 vx E1 S1 r1 => ?_
  obtain ⟨u, h2, e2, ev2⟩ := bindM_some ev1
  obtain ⟨i, xs, rfl, e3, e4⟩ := needL_some e2
  dsimp only at e4
  subst e4
  obtain ⟨y, h3, e5, ev3⟩ := bindM_some ev2
  refine ⟨by cases r1; exact tyL_ok S1.hs e3, ?_⟩
  refine sb n g1 σ H1 ds h2 y h3 _ S1 e5 fun g2 H2 vy E2 S2 r2 => ?_
  exact so g2 H2 h3 _ y vx vy d h' Q S2.hs (E2.rl r1) r2 ev3 fun g3 H3 v E3 hs3 r3 => q g3 H3 v ((E1.trans E2).trans E3) ⟨hs3, E3.sl S2.sl⟩ r3
theorem de_meth0 {o : Expr} {eo : EV} {apos pos : Pos} {name : Str} {id : String} {r : V → List V → Hp → VK → Prop} {op : D → M D} (slot : Slot "list" name id) (hty : typeOf (.builtin id) = pure (.type "method_descriptor")) (hm : MtR X id r)
    (so : ∀ (g : Gh) (H : Hp) (h : Hd) (x : D) (vx : V) (d : D) (h' : Hd) (Q : VK), HS X.K g H h → Rl X.K g h.length H x vx → op x h = some (d, h') → PostO X.K g h.length H h' d Q → r vx [] H Q)
    (ho : DE X o eo) (hbase : attributeBase o name X.env (eval o X.env) = eval o X.env := by rfl) (hline : (apos.endLine == pos.line) = true := by rfl) :
    DE X (.Call (.Attribute o name apos) [] [] pos) (fun n ds => bindM (eo n ds) fun x => bindM (needL x) fun _ => op x) := by
  obtain ⟨ta, pa, sa⟩ := ho.ex
  refine ⟨_, pe_bm0 PySem.F.plainAttrs_list slot hty hm pa hbase hline, fun n g σ H ds h d h' Q S ev q => ?_⟩
  obtain ⟨x, h1, e1, ev1⟩ := bindM_some ev
  refine sa n g σ H ds h x h1 _ S e1 fun g1 H1 vx E1 S1 r1 => ?_
  obtain ⟨u, h2, e2, ev2⟩ := bindM_some ev1
  obtain ⟨i, xs, rfl, e3, e4⟩ := needL_some e2
  dsimp only at e4
  subst e4
  refine ⟨by cases r1; exact tyL_ok S1.hs e3, ?_⟩
  exact so g1 H1 h2 _ vx d h' Q S1.hs r1 ev2 fun g3 H3 v E3 hs3 r3 => q g3 H3 v (E1.trans E3) ⟨hs3, E3.sl S1.sl⟩ r3
/-- the list behind a write -/
theorem PostO.wrote {g : Gh} {H : Hp} {h : Hd} {i : Nat} {xs ys : List D} {vs : List V} {d : D} {v : V} {Q : VK} (hs : HS K g H h) (e : cellL h i = some xs) (r : Rls K g h.length H ys vs) (rd : Rl K g h.length H d v)
    (q : PostO K g h.length H (h.set i (.lst ys)) d Q) : Q v (upd H (g.al i) (.lst vs)) := by
  obtain ⟨E3, hs3, hi⟩ := write_ok hs e r
  have e3l : (h.set i (Cell.lst ys)).length = h.length := List.length_set
  refine q g _ v ?_ hs3 ?_
  · rw [e3l]; exact E3
  · rw [e3l]; exact E3.rl rd
theorem app_so (g : Gh) (H : Hp) (h : Hd) (x y : D) (vx vy : V) (d : D) (h' : Hd) (Q : VK) (hs : HS X.K g H h) (rx : Rl X.K g h.length H x vx) (ry : Rl X.K g h.length H y vy) (e : opApp x y h = some (d, h')) (q : PostO X.K g h.length H h' d Q) : rAppend vx [vy] H Q := by
  obtain ⟨i, xs, rfl, e1, hl, rfl, rfl⟩ := opApp_some e
  obtain ⟨vs, hv, rv⟩ := cellL_ok hs e1
  cases rx with
  | ref hi =>
    refine ⟨g.al i, vs, vy, rfl, rfl, hv, ?_, q.wrote hs e1 (rv.append (.cons ry .nil)) .non⟩
    rw [sizeLine_eq, ← rv.length]; exact hl
theorem de_app {o e : Expr} {eo ee : EV} {apos pos : Pos} (ho : DE X o eo) (he : DE X e ee) (hbase : attributeBase o "append" X.env (eval o X.env) = eval o X.env := by rfl)
    (hfew : ((backTo pos (starEach [e] X.env)).all (fun x => !x.1) && (backToKw pos (keywordEach [] X.env)).all (fun x => x.1.isSome)
      && decide ([e].length + ([] : List Keyword).length + (if ([] : List Keyword).isEmpty then 0 else 1) < 30)) = true := by rfl)
    (hline : (apos.endLine == pos.line) = true := by rfl) (hs : starEach [e] X.env = (false, eval e X.env) :: starEach [] X.env := by rfl) (hplain : (backTo pos (starEach [] X.env)).any (·.1) = false := by rfl) :
    DE X (.Call (.Attribute o "append" apos) [e] [] pos) (eApp eo ee) :=
  de_meth1 PySem.F.slot_list_append PySem.F.type_list_append mt_append app_so ho he hbase hfew hline hs hplain
def opExt (x y : D) : M D := fun h => match x with
  | .ref i => match cellL h i, mutOf h y with
    | some xs, some ys => if xs.length + ys.length ≤ 16777216 then some (.non, h.set i (.lst (xs ++ ys))) else none
    | _, _ => none
  | _ => none
def eExt (a b : EV) : EV := fun n ds => bindM (a n ds) fun x => bindM (needL x) fun _ => bindM (b n ds) fun y => opExt x y
theorem ext_so (g : Gh) (H : Hp) (h : Hd) (x y : D) (vx vy : V) (d : D) (h' : Hd) (Q : VK) (hs : HS X.K g H h) (rx : Rl X.K g h.length H x vx) (ry : Rl X.K g h.length H y vy) (e : opExt x y h = some (d, h')) (q : PostO X.K g h.length H h' d Q) : rExtend vx [vy] H Q := by
  unfold opExt at e
  split at e
  · rename_i i
    split at e
    · rename_i xs ys e1 e2
      split at e
      · rename_i hl
        cases e
        obtain ⟨vs, hv, rv⟩ := cellL_ok hs e1
        obtain ⟨b, ws, rfl, hw, rw'⟩ := mutOf_ok hs ry e2
        cases rx with
        | ref hi =>
          refine ⟨g.al i, b, vs, ws, rfl, rfl, hv, hw, ?_, q.wrote hs e1 (rv.append rw') .non⟩
          rw [sizeLine_eq, ← rv.length, ← rw'.length]; exact hl
      · cases e
    · cases e
  · cases e
theorem de_ext {o e : Expr} {eo ee : EV} {apos pos : Pos} (ho : DE X o eo) (he : DE X e ee) (hbase : attributeBase o "extend" X.env (eval o X.env) = eval o X.env := by rfl)
    (hfew : ((backTo pos (starEach [e] X.env)).all (fun x => !x.1) && (backToKw pos (keywordEach [] X.env)).all (fun x => x.1.isSome)
      && decide ([e].length + ([] : List Keyword).length + (if ([] : List Keyword).isEmpty then 0 else 1) < 30)) = true := by rfl)
    (hline : (apos.endLine == pos.line) = true := by rfl) (hs : starEach [e] X.env = (false, eval e X.env) :: starEach [] X.env := by rfl) (hplain : (backTo pos (starEach [] X.env)).any (·.1) = false := by rfl) :
    DE X (.Call (.Attribute o "extend" apos) [e] [] pos) (eExt eo ee) :=
  de_meth1 PySem.F.slot_list_extend PySem.F.type_list_extend mt_extend ext_so ho he hbase hfew hline hs hplain
def opPop (x : D) : M D := fun h => match x with
  | .ref i => match cellL h i with
    | some xs => match xs[xs.length - 1]? with
      | some y => some (y, h.set i (.lst xs.dropLast))
      | none => none
    | _ => none
  | _ => none
def ePop (a : EV) : EV := fun n ds => bindM (a n ds) fun x => bindM (needL x) fun _ => opPop x
theorem pop_so (g : Gh) (H : Hp) (h : Hd) (x : D) (vx : V) (d : D) (h' : Hd) (Q : VK) (hs : HS X.K g H h) (rx : Rl X.K g h.length H x vx) (e : opPop x h = some (d, h')) (q : PostO X.K g h.length H h' d Q) : rPop vx [] H Q := by
  unfold opPop at e
  split at e
  · rename_i i
    split at e
    · rename_i xs e1
      split at e
      · rename_i y e2
        cases e
        obtain ⟨vs, hv, rv⟩ := cellL_ok hs e1
        obtain ⟨w, hw, rw'⟩ := rv.get e2
        cases rx with
        | ref hi => exact ⟨g.al i, vs, w, rfl, rfl, hv, by rw [← rv.length]; exact hw, q.wrote hs e1 rv.dropLast rw'⟩
      · cases e
    · cases e
  · cases e
theorem de_pop {o : Expr} {eo : EV} {apos pos : Pos} (ho : DE X o eo) (hbase : attributeBase o "pop" X.env (eval o X.env) = eval o X.env := by rfl) (hline : (apos.endLine == pos.line) = true := by rfl) :
    DE X (.Call (.Attribute o "pop" apos) [] [] pos) (ePop eo) :=
  de_meth0 PySem.F.slot_list_pop PySem.F.type_list_pop mt_pop pop_so ho hbase hline
def opPopAt (x y : D) : M D := fun h => match x, y with
  | .ref i, .int j => match cellL h i with
    | some xs => if -(9223372036854775808) ≤ j ∧ j < 9223372036854775808 then match ixN xs.length j with
      | some k => match xs[k]? with
        | some y => some (y, h.set i (.lst (xs.eraseIdx k)))
        | none => none
      | none => none
      else none
    | _ => none
  | _, _ => none
def ePopAt (a b : EV) : EV := fun n ds => bindM (a n ds) fun x => bindM (needL x) fun _ => bindM (b n ds) fun y => opPopAt x y
theorem popAt_so (g : Gh) (H : Hp) (h : Hd) (x y : D) (vx vy : V) (d : D) (h' : Hd) (Q : VK) (hs : HS X.K g H h) (rx : Rl X.K g h.length H x vx) (ry : Rl X.K g h.length H y vy) (e : opPopAt x y h = some (d, h')) (q : PostO X.K g h.length H h' d Q) : rPopAt vx [vy] H Q := by
  unfold opPopAt at e
  split at e
  · rename_i i j
    split at e
    · rename_i xs e1
      split at e
      · rename_i hj
        split at e
        · rename_i k e2
          split at e
          · rename_i y e3
            cases e
            obtain ⟨vs, hv, rv⟩ := cellL_ok hs e1
            obtain ⟨w, hw, rw'⟩ := rv.get e3
            rw [rv.length] at e2
            cases rx with
            | ref hi =>
              rw [ry.int_inv]
              exact ⟨g.al i, vs, j, k, w, rfl, rfl, hv, hj.1, hj.2, (ixN_seq e2).1, hw, q.wrote hs e1 (rv.eraseIdx k) rw'⟩
          · cases e
        · cases e
      · cases e
    · cases e
  · cases e
theorem de_popAt {o e : Expr} {eo ee : EV} {apos pos : Pos} (ho : DE X o eo) (he : DE X e ee) (hbase : attributeBase o "pop" X.env (eval o X.env) = eval o X.env := by rfl)
    (hfew : ((backTo pos (starEach [e] X.env)).all (fun x => !x.1) && (backToKw pos (keywordEach [] X.env)).all (fun x => x.1.isSome)
      && decide ([e].length + ([] : List Keyword).length + (if ([] : List Keyword).isEmpty then 0 else 1) < 30)) = true := by rfl)
    (hline : (apos.endLine == pos.line) = true := by rfl) (hs : starEach [e] X.env = (false, eval e X.env) :: starEach [] X.env := by rfl) (hplain : (backTo pos (starEach [] X.env)).any (·.1) = false := by rfl) :
    DE X (.Call (.Attribute o "pop" apos) [e] [] pos) (ePopAt eo ee) :=
  de_meth1 PySem.F.slot_list_pop PySem.F.type_list_pop mt_popAt popAt_so ho he hbase hfew hline hs hplain
end
end DK

namespace DK
open PySem PySem.Spec PyProof.Rows L2

mutual
def D.eqb : D → D → Bool
  | .non, .non => true
  | .bl a, .bl b => a == b
  | .int a, .int b => decide (a = b)
  | .str a, .str b => decide (a = b)
  | .tup a, .tup b => eqbs a b
  | .lst a, .lst b => eqbs a b
  | .ro a, .ro b => eqbs a b
  | .ref a, .ref b => a == b
  | _, _ => false
def eqbs : List D → List D → Bool
  | [], [] => true
  | x :: xs, y :: ys => x.eqb y && eqbs xs ys
  | _, _ => false
end
mutual
theorem eqb_eq : ∀ (a b : D), a.eqb b = true → a = b
  | .non, b, h => by cases b <;> first | rfl | (simp [D.eqb] at h)
  | .bl a, b, h => by cases b <;> first | (simp [D.eqb] at h; rw [h]) | (simp [D.eqb] at h)
  | .int a, b, h => by cases b <;> first | (simp [D.eqb] at h; rw [h]) | (simp [D.eqb] at h)
  | .str a, b, h => by cases b <;> first | (simp [D.eqb] at h; rw [h]) | (simp [D.eqb] at h)
  | .tup a, b, h => by cases b <;> first | (rw [D.eqb] at h; rw [eqbs_eq _ _ h]) | (simp [D.eqb] at h)
  | .lst a, b, h => by cases b <;> first | (rw [D.eqb] at h; rw [eqbs_eq _ _ h]) | (simp [D.eqb] at h)
  | .ro a, b, h => by cases b <;> first | (rw [D.eqb] at h; rw [eqbs_eq _ _ h]) | (simp [D.eqb] at h)
  | .ref a, b, h => by cases b <;> first | (simp [D.eqb] at h; rw [h]) | (simp [D.eqb] at h)
theorem eqbs_eq : ∀ (a b : List D), eqbs a b = true → a = b
  | [], [], _ => rfl
  | [], _ :: _, h => by simp [eqbs] at h
  | _ :: _, [], h => by simp [eqbs] at h
  | x :: xs, y :: ys, h => by
    rw [eqbs, Bool.and_eq_true] at h
    rw [eqb_eq x y h.1, eqbs_eq xs ys h.2]
end
mutual
theorem eqb_refl : ∀ (a : D), a.eqb a = true
  | .non => by simp [D.eqb]
  | .bl a => by simp [D.eqb]
  | .int a => by simp [D.eqb]
  | .str a => by simp [D.eqb]
  | .tup a => by rw [D.eqb]; exact eqbs_refl a
  | .lst a => by rw [D.eqb]; exact eqbs_refl a
  | .ro a => by rw [D.eqb]; exact eqbs_refl a
  | .ref a => by simp [D.eqb]
theorem eqbs_refl : ∀ (a : List D), eqbs a a = true
  | [] => by simp [eqbs]
  | x :: xs => by rw [eqbs, eqb_refl x, eqbs_refl xs]; rfl
end

/-! ### statements -/
inductive Fl where
  | nx (ds : Sl) | rt (d : D) | bk (ds : Sl) | ct (ds : Sl)
abbrev SV := Nat → Sl → M Fl
def PostS (K : PySem.W.Frag) (g : Gh) (n : Nat) (H : Hp) (h' : Hd) (E : Ends) : Fl → Prop
  | .nx ds' => ∀ g' H' σ', Ext K g n H g' h'.length H' → Sim K g' H' σ' ds' h' → E.nx σ' H'
  | .bk ds' => ∀ g' H' σ', Ext K g n H g' h'.length H' → Sim K g' H' σ' ds' h' → E.bk σ' H'
  | .ct ds' => ∀ g' H' σ', Ext K g n H g' h'.length H' → Sim K g' H' σ' ds' h' → E.ct σ' H'
  | .rt d => ∀ g' H' v, Ext K g n H g' h'.length H' → HS K g' H' h' → Rl K g' h'.length H' d v → E.rt v H'
structure DS (X : Cx) (st : Stmt) (sv : SV) : Prop where
  ex : ∃ t : TS, PS X st t ∧ ∀ (n : Nat) (g : Gh) (σ : L2.St) (H : Hp) (ds : Sl) (h : Hd) (fl : Fl) (h' : Hd) (E : Ends), Sim X.K g H σ ds h → sv n ds h = some (fl, h') → PostS X.K g h.length H h' E fl → t E σ H
structure DSs (X : Cx) (st : List Stmt) (sv : SV) : Prop where
  ex : ∃ t : TS, PSs X st t ∧ ∀ (n : Nat) (g : Gh) (σ : L2.St) (H : Hp) (ds : Sl) (h : Hd) (fl : Fl) (h' : Hd) (E : Ends), Sim X.K g H σ ds h → sv n ds h = some (fl, h') → PostS X.K g h.length H h' E fl → t E σ H
theorem PostS.ext {K : PySem.W.Frag} {g g1 : Gh} {n n1 : Nat} {H H1 : Hp} {h' : Hd} {E : Ends} {fl : Fl} (x : Ext K g n H g1 n1 H1) (q : PostS K g n H h' E fl) : PostS K g1 n1 H1 h' E fl := by
  cases fl with
  | nx ds' => exact fun g' H' σ' E1 S => q g' H' σ' (x.trans E1) S
  | bk ds' => exact fun g' H' σ' E1 S => q g' H' σ' (x.trans E1) S
  | ct ds' => exact fun g' H' σ' E1 S => q g' H' σ' (x.trans E1) S
  | rt d => exact fun g' H' v E1 S r => q g' H' v (x.trans E1) S r
section
variable {X : Cx} {st : Stmt} {rest : List Stmt} {s t u : SV} {e : Expr} {ev : EV} {pos : Pos}
def sNil : SV := fun _ ds => retM (.nx ds)
def sSeq (a b : SV) : SV := fun n ds => bindM (a n ds) fun fl => match fl with
  | .nx ds' => b n ds'
  | fl => retM fl
theorem dss_nil : DSs X [] sNil := ⟨_, pss_nil, fun n g σ H ds h fl h' E S ev q => by cases ev; exact q g H σ .refl S⟩
theorem dss_cons (h1 : DS X st s) (h2 : DSs X rest t) : DSs X (st :: rest) (sSeq s t) := by
  obtain ⟨t1, p1, s1⟩ := h1.ex
  obtain ⟨t2, p2, s2⟩ := h2.ex
  refine ⟨_, pss_cons p1 p2, fun n g σ H ds h fl h' E S ev q => ?_⟩
  obtain ⟨f1, h1, e1, ev1⟩ := bindM_some ev
  refine s1 n g σ H ds h f1 h1 _ S e1 ?_
  cases f1 with
  | nx ds' => exact fun g1 H1 σ1 E1 S1 => s2 n g1 σ1 H1 ds' h1 fl h' E S1 ev1 (q.ext E1)
  | bk ds' => cases ev1; exact q
  | ct ds' => cases ev1; exact q
  | rt d => cases ev1; exact q
theorem dss_one (h1 : DS X st s) : DSs X [st] s := by
  obtain ⟨t1, p1, s1⟩ := h1.ex
  exact ⟨t1, pss_one p1, s1⟩
theorem ds_pass : DS X (.Pass pos) sNil := ⟨_, ps_pass, fun n g σ H ds h fl h' E S ev q => by cases ev; exact q g H σ .refl S⟩
def sBreak : SV := fun _ ds => retM (.bk ds)
def sCont : SV := fun _ ds => retM (.ct ds)
theorem ds_break : DS X (.Break pos) sBreak := ⟨_, ps_break, fun n g σ H ds h fl h' E S ev q => by cases ev; exact q g H σ .refl S⟩
theorem ds_cont : DS X (.Continue pos) sCont := ⟨_, ps_continue, fun n g σ H ds h fl h' E S ev q => by cases ev; exact q g H σ .refl S⟩
/-- what is never come to -/
def sFail : SV := fun _ _ => failM
theorem ds_fail : DS X st sFail := ⟨_, ps_never, fun n g σ H ds h fl h' E S ev q => by cases ev⟩
def sExpr (a : EV) : SV := fun n ds => bindM (a n ds) fun _ => retM (.nx ds)
theorem ds_expr (he : DE X e ev) (hs : swapsWith e none pos.line X.env = pure false := by rfl) : DS X (.Expr e pos) (sExpr ev) := by
  obtain ⟨t1, p1, s1⟩ := he.ex
  refine ⟨_, ps_expr p1 hs, fun n g σ H ds h fl h' E S ev q => ?_⟩
  obtain ⟨x, h1, e1, ev1⟩ := bindM_some ev
  cases ev1
  exact s1 n g σ H ds h x h' _ S e1 fun g1 H1 v E1 S1 r => q g1 H1 σ E1 S1
def sRet (a : EV) : SV := fun n ds => bindM (a n ds) fun d => retM (.rt d)
theorem ds_ret (he : DE X e ev) : DS X (.Return (some e) pos) (sRet ev) := by
  obtain ⟨t1, p1, s1⟩ := he.ex
  refine ⟨_, ps_ret p1, fun n g σ H ds h fl h' E S ev q => ?_⟩
  obtain ⟨x, h1, e1, ev1⟩ := bindM_some ev
  cases ev1
  exact s1 n g σ H ds h x h' _ S e1 fun g1 H1 v E1 S1 r => q g1 H1 v E1 S1.hs r
def sRetN : SV := fun _ _ => retM (.rt .non)
theorem ds_retN : DS X (.Return none pos) sRetN := ⟨_, ps_retN, fun n g σ H ds h fl h' E S ev q => by cases ev; exact q g H _ .refl S.hs .non⟩
def sIf (c : TV) (a b : SV) : SV := fun n ds => bindM (c n ds) fun k => if k = true then a n ds else b n ds
theorem ds_if {c : Expr} {a b : List Stmt} {tc : TV} (hc : DT X c tc) (ha : DSs X a s) (hb : DSs X b t) : DS X (.If c a b pos) (sIf tc s t) := by
  obtain ⟨t0, p0, s0⟩ := hc.ex
  obtain ⟨t1, p1, s1⟩ := ha.ex
  obtain ⟨t2, p2, s2⟩ := hb.ex
  refine ⟨_, ps_if p0 p1 p2, fun n g σ H ds h fl h' E S ev q => ?_⟩
  obtain ⟨k, h1, e1, ev1⟩ := bindM_some ev
  refine s0 n g σ H ds h k h1 _ S e1 fun g1 H1 E1 S1 => ?_
  cases k with
  | true => rw [if_pos rfl] at ev1 ⊢; exact s1 n g1 σ H1 ds h1 fl h' E S1 ev1 (q.ext E1)
  | false => rw [if_neg Bool.false_ne_true] at ev1 ⊢; exact s2 n g1 σ H1 ds h1 fl h' E S1 ev1 (q.ext E1)

/-! ### targets -/
abbrev GV := D → Nat → Sl → M Sl
abbrev GVs := List D → Nat → Sl → M Sl
/-- ts: the slots that are stored -/
structure DG (X : Cx) (tg : Expr) (gv : GV) (ts : List Nat) : Prop where
  ex : ∃ t : TG, PG X tg t ∧ ∀ (n : Nat) (g : Gh) (σ : L2.St) (H : Hp) (ds : Sl) (h : Hd) (d : D) (v : V) (ds' : Sl) (h' : Hd) (Q : L2.St → Hp → Prop), Sim X.K g H σ ds h → Rl X.K g h.length H d v → gv d n ds h = some (ds', h') →
    (∀ g' H' σ', Ext X.K g h.length H g' h'.length H' → Sim X.K g' H' σ' ds' h' → (∀ vs : List Nat, (∀ i ∈ ts, i ∈ vs) → wipe σ' vs = wipe σ vs) → Q σ' H') → t v σ H Q
structure DGs (X : Cx) (tgs : List Expr) (gv : GVs) (ts : List Nat) : Prop where
  ex : ∃ t : TGs, PGs X tgs t ∧ ∀ (n : Nat) (g : Gh) (σ : L2.St) (H : Hp) (ds : Sl) (h : Hd) (xs : List D) (vs : List V) (ds' : Sl) (h' : Hd) (Q : L2.St → Hp → Prop), Sim X.K g H σ ds h → Rls X.K g h.length H xs vs → gv xs n ds h = some (ds', h') →
    (∀ g' H' σ', Ext X.K g h.length H g' h'.length H' → Sim X.K g' H' σ' ds' h' → (∀ vs : List Nat, (∀ i ∈ ts, i ∈ vs) → wipe σ' vs = wipe σ vs) → Q σ' H') → t vs σ H Q
theorem wipe_set {σ : L2.St} {i : Nat} {x : Option V} : ∀ {vs : List Nat}, i ∈ vs → wipe (σ.set i x) vs = wipe σ vs
  | v :: vs, h => by
    by_cases hv : i ∈ vs
    · show (wipe (σ.set i x) vs).set v none = (wipe σ vs).set v none
      rw [wipe_set hv]
    · have e : i = v := by
        rcases List.mem_cons.mp h with e | e
        · exact e
        · exact absurd e hv
      subst e
      show (wipe (σ.set i x) vs).set i none = (wipe σ vs).set i none
      have key : ∀ ws : List Nat, i ∉ ws → wipe (σ.set i x) ws = (wipe σ ws).set i x := fun ws => by
        induction ws with
        | nil => intro _; rfl
        | cons w ws ih =>
          intro hw
          show (wipe (σ.set i x) ws).set w none = ((wipe σ ws).set w none).set i x
          rw [ih (fun z => hw (List.mem_cons_of_mem _ z)), List.set_comm _ _ (fun z : i = w => hw (by rw [z]; exact List.mem_cons_self))]
      rw [key vs hv, List.set_set]
def gNm (i : Nat) : GV := fun d _ ds => retM (ds.set i (some d))
theorem dg_name {i : Nat} {x : Str} (hN : X.N.Nodup) (hi : X.N[i]? = some x) (hx : Loc X.env.scope x) (hf : X.fn x = true ∨ X.env.scope.names.lookup x = some .local := by first | exact .inl rfl | exact .inr rfl | assumption) : DG X (.Name x pos) (gNm i) [i] := by
  refine ⟨_, pg_name hN hi hx hf, fun n g σ H ds h d v ds' h' Q S r ev q => ?_⟩
  cases ev
  exact q g H _ .refl ⟨S.hs, S.sl.set r⟩ fun vs hv => wipe_set (hv i List.mem_cons_self)
def gsNil : GVs := fun xs _ ds => match xs with
  | [] => retM ds
  | _ => failM
def gsCons (a : GV) (b : GVs) : GVs := fun xs n ds => match xs with
  | x :: xs => bindM (a x n ds) fun ds1 => b xs n ds1
  | [] => failM
theorem dgs_nil : DGs X [] gsNil [] := by
  refine ⟨_, pgs_nil, fun n g σ H ds h xs vs ds' h' Q S r ev q => ?_⟩
  cases r with
  | nil => cases ev; exact ⟨rfl, q g H σ .refl S fun _ _ => rfl⟩
  | cons _ _ => cases ev
theorem dgs_cons {tg : Expr} {tgs : List Expr} {a : GV} {b : GVs} {ts us : List Nat} (h1 : DG X tg a ts) (h2 : DGs X tgs b us)
    (hs : (assignEach (tg :: tgs) X.env).map (·.2) = assign tg X.env :: (assignEach tgs X.env).map (·.2) := by rfl) : DGs X (tg :: tgs) (gsCons a b) (ts ++ us) := by
  obtain ⟨t1, p1, s1⟩ := h1.ex
  obtain ⟨t2, p2, s2⟩ := h2.ex
  refine ⟨_, pgs_cons p1 p2 hs, fun n g σ H ds h xs vs ds' h' Q S r ev q => ?_⟩
  cases r with
  | nil => cases ev
  | @cons x v xs vs r r2 =>
    refine ⟨v, vs, rfl, ?_⟩
    obtain ⟨ds1, h1, e1, ev1⟩ := bindM_some (show bindM (a x n ds) (fun ds1 => b xs n ds1) h = some (ds', h') from ev)
    refine s1 n g σ H ds h x v ds1 h1 _ S r e1 fun g1 H1 σ1 E1 S1 w1 => ?_
    exact s2 n g1 σ1 H1 ds1 h1 xs vs ds' h' _ S1 (E1.rls r2) ev1 fun g2 H2 σ2 E2 S2 w2 => q g2 H2 σ2 (E1.trans E2) S2 fun vs hv => (w2 vs fun i hi => hv i (List.mem_append_right _ hi)).trans (w1 vs fun i hi => hv i (List.mem_append_left _ hi))
def gTp (k : Nat) (gs : GVs) : GV := fun d n ds h => match tupOf d with
  | some xs => if xs.length = k then gs xs n ds h else none
  | none => none
theorem dg_tup {es : List Expr} {kk m : Nat} {gs : GVs} {ts : List Nat} (hc : X.calm = true) (h : DGs X es gs ts)
    (hn : (assignEach es X.env).length = m := by rfl) (hst : (assignEach es X.env).findIdx? (·.1) = none := by rfl) : DG X (.Tuple es kk pos) (gTp m gs) ts := by
  obtain ⟨t1, p1, s1⟩ := h.ex
  refine ⟨_, pg_tup hc p1 hn hst, fun n g σ H ds h d v ds' h' Q S r ev q => ?_⟩
  unfold gTp at ev
  split at ev
  · rename_i xs e1
    split at ev
    · rename_i hl
      obtain ⟨a, vs, rfl, hq, ra⟩ := tupOf_ok r e1
      exact ⟨a, vs, rfl, hq, by rw [← ra.length]; exact hl, s1 n g σ H ds h xs vs ds' h' Q S ra ev q⟩
    · cases ev
  · cases ev
/-- o[i] = .. -/
def opSet (o i v : D) : M Unit := fun h => match o, i with
  | .ref p, .int k => match cellL h p with
    | some xs => match ixN xs.length k with
      | some j => some ((), h.set p (.lst (xs.set j v)))
      | none => none
    | none => none
  | _, _ => none
def gSb (o i : EV) : GV := fun d n ds => bindM (o n ds) fun x => bindM (i n ds) fun y => bindM (opSet x y d) fun _ => retM ds
theorem set_so {g : Gh} {σ : L2.St} {H : Hp} {ds : Sl} {h : Hd} {o i v : D} {vo vi vv : V} {h' : Hd} {u : Unit} {Q : Hp → Prop} (S : Sim X.K g H σ ds h) (ro : Rl X.K g h.length H o vo) (ri : Rl X.K g h.length H i vi) (rv : Rl X.K g h.length H v vv)
    (e : opSet o i v h = some (u, h')) (q : ∀ H', Ext X.K g h.length H g h'.length H' → Sim X.K g H' σ ds h' → Q H') : rSetL vo vi vv H Q := by
  unfold opSet at e
  split at e
  · rename_i p k
    split at e
    · rename_i xs e1
      split at e
      · rename_i j e2
        cases e
        obtain ⟨vs, hv, rvs⟩ := cellL_ok S.hs e1
        rw [rvs.length] at e2
        cases ro with
        | ref hp =>
          obtain ⟨E3, hs3, hi⟩ := write_ok S.hs e1 (rvs.set rv j)
          have e3l : (h.set p (Cell.lst (xs.set j v))).length = h.length := List.length_set
          refine ⟨g.al p, vs, k, j, rfl, ri.int_inv, hv, e2, q _ ?_ ⟨hs3, ?_⟩⟩
          · rw [e3l]; exact E3
          · rw [e3l]; exact E3.sl S.sl
      · cases e
    · cases e
  · cases e
theorem dg_sub {o i : Expr} {eo ei : EV} (ho : DE X o eo) (hi : DE X i ei)
    (ha : ∀ v, assign (.Subscript o i pos) X.env v = (do
      let ov ← holding [v] (eval o X.env)
      let iv ← holding [v, ov] (eval i X.env)
      standAt pos
      holding [v, ov, iv] (setItem ov iv v)
      release [v, ov, iv] []) := by intro _; rfl) : DG X (.Subscript o i pos) (gSb eo ei) [] := by
  obtain ⟨t1, p1, s1⟩ := ho.ex
  obtain ⟨t2, p2, s2⟩ := hi.ex
  refine ⟨_, pg_sub p1 p2 set_list ha, fun n g σ H ds h d v ds' h' Q S r ev q => ?_⟩
  obtain ⟨x, h1, e1, ev1⟩ := bindM_some ev
  refine s1 n g σ H ds h x h1 _ S e1 fun g1 H1 vx E1 S1 r1 => ?_
  obtain ⟨y, h2, e2, ev2⟩ := bindM_some ev1
  refine s2 n g1 σ H1 ds h1 y h2 _ S1 e2 fun g2 H2 vy E2 S2 r2 => ?_
  obtain ⟨_, h3, e3, ev3⟩ := bindM_some ev2
  cases ev3
  exact set_so S2 (E2.rl r1) r2 ((E1.trans E2).rl r) e3 fun H3 E3 S3 => q g2 H3 σ ((E1.trans E2).trans E3) S3 fun _ _ => rfl

/-! ### assignments -/
def sAsg (a : EV) (gv : GV) : SV := fun n ds => bindM (a n ds) fun d => bindM (gv d n ds) fun ds' => retM (.nx ds')
theorem asg_sound {te : TE} {tg : TG} {gv : GV} {ts : List Nat}
    (s1 : ∀ (n : Nat) (g : Gh) (σ : L2.St) (H : Hp) (ds : Sl) (h : Hd) (d : D) (h' : Hd) (Q : VK), Sim X.K g H σ ds h → ev n ds h = some (d, h') → PostE X.K g h.length H σ ds h' d Q → te σ H Q)
    (s2 : ∀ (n : Nat) (g : Gh) (σ : L2.St) (H : Hp) (ds : Sl) (h : Hd) (d : D) (v : V) (ds' : Sl) (h' : Hd) (Q : L2.St → Hp → Prop), Sim X.K g H σ ds h → Rl X.K g h.length H d v → gv d n ds h = some (ds', h') →
      (∀ g' H' σ', Ext X.K g h.length H g' h'.length H' → Sim X.K g' H' σ' ds' h' → (∀ vs : List Nat, (∀ i ∈ ts, i ∈ vs) → wipe σ' vs = wipe σ vs) → Q σ' H') → tg v σ H Q)
    (n : Nat) (g : Gh) (σ : L2.St) (H : Hp) (ds : Sl) (h : Hd) (fl : Fl) (h' : Hd) (E : Ends) (S : Sim X.K g H σ ds h) (e : sAsg ev gv n ds h = some (fl, h')) (q : PostS X.K g h.length H h' E fl) : tAsg te tg E σ H := by
  obtain ⟨x, h1, e1, ev1⟩ := bindM_some e
  refine s1 n g σ H ds h x h1 _ S e1 fun g1 H1 vx E1 S1 r1 => ?_
  obtain ⟨ds', h2, e2, ev2⟩ := bindM_some ev1
  cases ev2
  exact s2 n g1 σ H1 ds h1 x vx ds' h' _ S1 r1 e2 fun g2 H2 σ2 E2 S2 _ => q g2 H2 σ2 (E1.trans E2) S2
theorem ds_asg {tg : Expr} {gv : GV} {ts : List Nat} (he : DE X e ev) (hg : DG X tg gv ts) (hs : swapsWithSole [tg] e pos.line X.env = pure false := by rfl) (hw : swappedStores [tg] e X.env = pure none := by rfl)
    (h1 : (assignEach [tg] X.env).map (·.2) = [assign tg X.env] := by rfl) : DS X (.Assign [tg] e pos) (sAsg ev gv) := by
  obtain ⟨t1, p1, s1⟩ := he.ex
  obtain ⟨t2, p2, s2⟩ := hg.ex
  exact ⟨_, ps_asg p1 p2 hs hw h1, asg_sound s1 s2⟩
theorem ds_set {i : Nat} {x : Str} {pos' : Pos} (hN : X.N.Nodup) (hi : X.N[i]? = some x) (hx : Loc X.env.scope x) (he : DE X e ev) (hs : swapsWith e (some (.Name x pos')) pos.line X.env = pure false := by rfl) (hf : X.fn x = true ∨ X.env.scope.names.lookup x = some .local := by first | exact .inl rfl | exact .inr rfl | assumption) :
    DS X (.Assign [.Name x pos'] e pos) (sAsg ev (gNm i)) := by
  obtain ⟨t1, p1, s1⟩ := he.ex
  refine ⟨_, ps_set hN hi hx p1 hs hf, asg_sound (ts := [i]) s1 fun n g σ H ds h d v ds' h' Q S r ev q => ?_⟩
  cases ev
  exact q g H _ .refl ⟨S.hs, S.sl.set r⟩ fun vs hv => wipe_set (hv i List.mem_cons_self)
/-- a, b = x, y -/
def sPar2 (i j : Nat) (a : AV) : SV := fun n ds => bindM (a n ds) fun xs => match xs with
  | [x, y] => retM (.nx ((ds.set i (some x)).set j (some y)))
  | _ => failM
theorem ds_par2 {i j : Nat} {x y : Str} {a b : Expr} {av : AV} {px py pt : Pos} {kt k2 pt2} (hc : X.calm = true) (hN : X.N.Nodup) (hi : X.N[i]? = some x) (hj : X.N[j]? = some y) (hij : i ≠ j)
    (hx : X.env.scope.names.lookup x = some .local) (hy : X.env.scope.names.lookup y = some .local) (ha : DA X [a, b] av)
    (hw : swappedStores [.Tuple [.Name x px, .Name y py] kt pt] (.Tuple [a, b] k2 pt2) X.env = pure (some [x, y]) := by rfl)
    (hs : swapsWithSole [.Tuple [.Name x px, .Name y py] kt pt] (.Tuple [a, b] k2 pt2) pos.line X.env = pure false := by rfl) :
    DS X (.Assign [.Tuple [.Name x px, .Name y py] kt pt] (.Tuple [a, b] k2 pt2) pos) (sPar2 i j av) := by
  obtain ⟨t1, p1, s1⟩ := ha.ex
  refine ⟨_, ps_par hc hN hi hj hij hx hy p1 hw hs, fun n g σ H ds h fl h' E S ev q => ?_⟩
  obtain ⟨xs, h1, e1, ev1⟩ := bindM_some ev
  refine s1 n g σ H ds h xs h1 _ S e1 fun g1 H1 vs E1 S1 r1 => ?_
  match xs, r1, ev1 with
  | [x, y], r1, ev1 =>
    cases ev1
    obtain ⟨v, w, rfl, r2, r3⟩ := r1.two
    exact ⟨v, w, rfl, q g1 H1 _ E1 ⟨S1.hs, (S1.sl.set r2).set r3⟩⟩
/-- the same by way of the pair itself -/
theorem ds_par2T {i j : Nat} {x y : Str} {a b : Expr} {av : AV} {px py pt : Pos} {kt k2 pt2} (hc : X.calm = true) (hN : X.N.Nodup) (hi : X.N[i]? = some x) (hj : X.N[j]? = some y)
    (hx : Loc X.env.scope x) (hy : Loc X.env.scope y) (ha : DA X [a, b] av) (hfx : X.fn x = true ∨ X.env.scope.names.lookup x = some .local := by first | exact .inl rfl | exact .inr rfl | assumption) (hfy : X.fn y = true ∨ X.env.scope.names.lookup y = some .local := by first | exact .inl rfl | exact .inr rfl | assumption)
    (hw : swappedStores [.Tuple [.Name x px, .Name y py] kt pt] (.Tuple [a, b] k2 pt2) X.env = pure none := by rfl)
    (hs : swapsWithSole [.Tuple [.Name x px, .Name y py] kt pt] (.Tuple [a, b] k2 pt2) pos.line X.env = pure false := by rfl)
    (h1 : (assignEach [.Tuple [.Name x px, .Name y py] kt pt] X.env).map (·.2) = [assign (.Tuple [.Name x px, .Name y py] kt pt) X.env] := by rfl)
    (h2 : (assignEach [.Name x px, .Name y py] X.env).map (·.2) = [assign (.Name x px) X.env, assign (.Name y py) X.env] := by rfl)
    (h3 : (assignEach [.Name y py] X.env).map (·.2) = [assign (.Name y py) X.env] := by rfl) (hst : (assignEach [.Name x px, .Name y py] X.env).findIdx? (·.1) = none := by rfl) (hln : (assignEach [.Name x px, .Name y py] X.env).length = 2 := by rfl) :
    DS X (.Assign [.Tuple [.Name x px, .Name y py] kt pt] (.Tuple [a, b] k2 pt2) pos) (sPar2 i j av) := by
  obtain ⟨t1, p1, s1⟩ := ha.ex
  refine ⟨_, ps_asg (pe_tup p1) (pg_tup hc (pgs_cons (pg_name hN hi hx hfx) (pgs_cons (pg_name hN hj hy hfy) pgs_nil (by rw [h3]; rfl)) (by rw [h2, h3])) hln hst) hs hw h1, fun n g σ H ds h fl h' E S ev q => ?_⟩
  obtain ⟨xs, h1, e1, ev1⟩ := bindM_some ev
  refine s1 n g σ H ds h xs h1 _ S e1 fun g1 H1 vs E1 S1 r1 => ?_
  match xs, r1, ev1 with
  | [x, y], r1, ev1 =>
    cases ev1
    obtain ⟨v, w, rfl, r2, r3⟩ := r1.two
    refine ⟨by show 2 ≤ sizeLine; rw [sizeLine_eq]; decide, fun p hp => ⟨p, [v, w], rfl, .inl (.inl upd_same), rfl, v, [w], rfl, w, [], rfl, rfl, ?_⟩⟩
    have E2 : Ext X.K g1 h'.length H1 g1 h'.length (upd H1 p (.tup [v, w])) := Ext.new hp
    exact q g1 _ _ (E1.trans E2) ⟨S1.hs.new hp, ((E2.sl S1.sl).set (E2.rl r2)).set (E2.rl r3)⟩
def sPar3 (i j k : Nat) (a : AV) : SV := fun n ds => bindM (a n ds) fun xs => match xs with
  | [x, y, z] => retM (.nx (((ds.set i (some x)).set j (some y)).set k (some z)))
  | _ => failM
theorem Rls.three {K : PySem.W.Frag} {g : Gh} {n : Nat} {H : Hp} {d e f : D} {vs : List V} (r : Rls K g n H [d, e, f] vs) : ∃ v w u, vs = [v, w, u] ∧ Rl K g n H d v ∧ Rl K g n H e w ∧ Rl K g n H f u := by
  cases r with
  | cons r t =>
    obtain ⟨w, u, rfl, r2, r3⟩ := t.two
    exact ⟨_, w, u, rfl, r, r2, r3⟩
theorem ds_par3 {i j l : Nat} {x y z : Str} {a b c : Expr} {av : AV} {px py pz pt : Pos} {kt k2 pt2} (hc : X.calm = true) (hN : X.N.Nodup) (hi : X.N[i]? = some x) (hj : X.N[j]? = some y) (hl : X.N[l]? = some z) (hij : i ≠ j) (hil : i ≠ l) (hjl : j ≠ l)
    (hx : X.env.scope.names.lookup x = some .local) (hy : X.env.scope.names.lookup y = some .local) (hz : X.env.scope.names.lookup z = some .local) (ha : DA X [a, b, c] av)
    (hw : swappedStores [.Tuple [.Name x px, .Name y py, .Name z pz] kt pt] (.Tuple [a, b, c] k2 pt2) X.env = pure (some [x, y, z]) := by rfl)
    (hs : swapsWithSole [.Tuple [.Name x px, .Name y py, .Name z pz] kt pt] (.Tuple [a, b, c] k2 pt2) pos.line X.env = pure false := by rfl) :
    DS X (.Assign [.Tuple [.Name x px, .Name y py, .Name z pz] kt pt] (.Tuple [a, b, c] k2 pt2) pos) (sPar3 i j l av) := by
  obtain ⟨t1, p1, s1⟩ := ha.ex
  refine ⟨_, ps_par3 hc hN hi hj hl hij hil hjl hx hy hz p1 hw hs, fun n g σ H ds h fl h' E S ev q => ?_⟩
  obtain ⟨xs, h1, e1, ev1⟩ := bindM_some ev
  refine s1 n g σ H ds h xs h1 _ S e1 fun g1 H1 vs E1 S1 r1 => ?_
  match xs, r1, ev1 with
  | [x, y, z], r1, ev1 =>
    cases ev1
    obtain ⟨v, w, u, rfl, r2, r3, r4⟩ := r1.three
    exact ⟨v, w, u, rfl, q g1 H1 _ E1 ⟨S1.hs, ((S1.sl.set r2).set r3).set r4⟩⟩
/-- x op= e -/
def sAug (op : D → D → M D) (i : Nat) (a : EV) : SV := fun n ds => bindM (eVar i n ds) fun x => bindM (a n ds) fun y => bindM (op x y) fun z => retM (.nx (ds.set i (some z)))
theorem eVar_some {i n : Nat} {ds : Sl} {h h' : Hd} {d : D} (e : eVar i n ds h = some (d, h')) : ds[i]? = some (some d) ∧ h' = h := by
  unfold eVar at e
  split at e
  · rename_i d' q; cases e; exact ⟨q, rfl⟩
  · cases e
theorem ds_aug {i : Nat} {x : Str} {op : Operator} {f : D → D → M D} {pos' : Pos} (hN : X.N.Nodup) (hi : X.N[i]? = some x) (hx : Loc X.env.scope x) (he : DE X e ev) (ho : DOp X (inplaceOp op) f) (hf : X.fn x = true ∨ X.env.scope.names.lookup x = some .local := by first | exact .inl rfl | exact .inr rfl | assumption) :
    DS X (.AugAssign (.Name x pos') op e pos) (sAug f i ev) := by
  obtain ⟨t1, p1, s1⟩ := he.ex
  obtain ⟨r, hr, so⟩ := ho.ex
  refine ⟨_, ps_aug hN hi hx p1 (fun pins s σ H x y v u Q I rx ry q => hr pins s σ H x y v u Q I rx ry q) hf, fun n g σ H ds h fl h' E S ev q => ?_⟩
  obtain ⟨d, h1, e0, ev1⟩ := bindM_some ev
  obtain ⟨e1, rfl⟩ := eVar_some e0
  obtain ⟨v, hv, rv⟩ := S.sl.at_ i d e1
  obtain ⟨y, h2, e2, ev2⟩ := bindM_some ev1
  refine ⟨v, hv, s1 n g σ H ds h1 y h2 _ S e2 fun g1 H1 vy E1 S1 r1 => ?_⟩
  obtain ⟨z, h3, e3, ev3⟩ := bindM_some ev2
  cases ev3
  exact so g1 H1 h2 d y v vy z h' _ S1.hs (E1.rl rv) r1 e3 fun g2 H2 vz E2 hs2 r2 => q g2 H2 _ (E1.trans E2) ⟨hs2, (E2.sl S1.sl).set r2⟩
/-- o[i] op= e -/
def sAugS (op : D → D → M D) (o i a : EV) : SV := fun n ds => bindM (o n ds) fun x => bindM (i n ds) fun y => bindM (opIx x y) fun z => bindM (a n ds) fun w => bindM (op z w) fun r => bindM (opSet x y r) fun _ => retM (.nx ds)
end
end DK

namespace DK
open PySem PySem.Spec PyProof.Rows L2

/-! ### while -/
def whileE (c : Sl → M Bool) (b : Sl → M Fl) : Nat → Sl → M Fl
  | 0 => fun _ => failM
  | k + 1 => fun ds => bindM (c ds) fun t => if t = true then bindM (b ds) fun fl => (match fl with
      | .nx ds' => whileE c b k ds'
      | .ct ds' => whileE c b k ds'
      | .bk ds' => retM (.nx ds')
      | .rt d => retM (.rt d)) else retM (.nx ds)
def sWhile (c : TV) (b : SV) : SV := fun n ds => whileE (c n) (b n) n ds
section
variable {X : Cx} {s t u : SV} {e : Expr} {ev : EV} {pos : Pos}
theorem ds_while {c : Expr} {body : List Stmt} {tc : TV} (hp : PassesOwn (model X.prog X.w) X.A X.env X.xe) (hc : DT X c tc) (hb : DSs X body s) : DS X (.While c body [] pos) (sWhile tc s) := by
  obtain ⟨t0, p0, s0⟩ := hc.ex
  obtain ⟨t1, p1, s1⟩ := hb.ex
  refine ⟨_, ps_while hp p0 p1, fun n g σ H ds h fl h' E S ev q => ?_⟩
  refine ⟨fun m σ1 H1 => ∃ g1 ds1 h1, Ext X.K g h.length H g1 h1.length H1 ∧ Sim X.K g1 H1 σ1 ds1 h1 ∧ whileE (tc n) (s n) m ds1 h1 = some (fl, h'), ⟨n, g, ds, h, .refl, S, ev⟩, fun m σ1 H1 hw => ?_⟩
  obtain ⟨g1, ds1, h1, E1, S1, ev1⟩ := hw
  cases m with
  | zero => cases ev1
  | succ m =>
    obtain ⟨k, h2, e2, ev2⟩ := bindM_some (show bindM (tc n ds1) (fun t => if t = true then bindM (s n ds1) fun fl => (match fl with
      | .nx ds' => whileE (tc n) (s n) m ds'
      | .ct ds' => whileE (tc n) (s n) m ds'
      | .bk ds' => retM (.nx ds')
      | .rt d => retM (.rt d)) else retM (.nx ds1)) h1 = some (fl, h') from ev1)
    refine s0 n g1 σ1 H1 ds1 h1 k h2 _ S1 e2 fun g2 H2 E2 S2 => ?_
    cases k with
    | false =>
      rw [if_neg Bool.false_ne_true] at ev2 ⊢
      cases ev2
      exact q g2 H2 σ1 (E1.trans E2) S2
    | true =>
      rw [if_pos rfl] at ev2 ⊢
      obtain ⟨f3, h3, e3, ev3⟩ := bindM_some ev2
      refine ⟨fun σ' H' => ∃ g4 ds4, Ext X.K g h.length H g4 h3.length H' ∧ Sim X.K g4 H' σ' ds4 h3 ∧ whileE (tc n) (s n) m ds4 h3 = some (fl, h'), fun σ' H' hN => ?_, ?_⟩
      · obtain ⟨g4, ds4, E4, S4, ev4⟩ := hN
        exact ⟨m, Nat.lt_succ_self _, g4, ds4, h3, E4, S4, ev4⟩
      · refine s1 n g2 σ1 H2 ds1 h2 f3 h3 _ S2 e3 ?_
        cases f3 with
        | nx ds' => exact fun g4 H4 σ4 E4 S4 => ⟨g4, ds', (E1.trans E2).trans E4, S4, ev3⟩
        | ct ds' => exact fun g4 H4 σ4 E4 S4 => ⟨g4, ds', (E1.trans E2).trans E4, S4, ev3⟩
        | bk ds' => cases ev3; exact fun g4 H4 σ4 E4 S4 => q g4 H4 σ4 ((E1.trans E2).trans E4) S4
        | rt d => cases ev3; exact fun g4 H4 v E4 S4 r => q g4 H4 v ((E1.trans E2).trans E4) S4 r

/-! ### what a loop walks -/
/-- the items; the changing lists that must stand still -/
structure Src where
  items : List D
  live : List (Nat × List D)
def liveOk (h : Hd) : List (Nat × List D) → Bool
  | [] => true
  | (i, xs) :: r => (match cellL h i with
    | some ys => eqbs ys xs
    | none => false) && liveOk h r
theorem liveOk_cons {h : Hd} {i : Nat} {xs : List D} {r : List (Nat × List D)} (e : liveOk h ((i, xs) :: r) = true) : cellL h i = some xs ∧ liveOk h r = true := by
  rw [liveOk, Bool.and_eq_true] at e
  obtain ⟨e1, e2⟩ := e
  split at e1
  · rename_i ys q
    rw [q, eqbs_eq _ _ e1]
    exact ⟨rfl, e2⟩
  · cases e1
theorem liveOk_app {h : Hd} : ∀ {a b : List (Nat × List D)}, liveOk h (a ++ b) = true → liveOk h a = true ∧ liveOk h b = true
  | [], b, e => ⟨rfl, e⟩
  | (i, xs) :: a, b, e => by
    rw [List.cons_append, liveOk, Bool.and_eq_true] at e
    obtain ⟨h1, h2⟩ := liveOk_app e.2
    exact ⟨by rw [liveOk, e.1, h1]; rfl, h2⟩
abbrev IV := Nat → Sl → M Src
def ItOk (K : PySem.W.Frag) (J : It) (g0 : Gh) (n0 : Nat) (H0 : Hp) (src : Src) : Prop := ∀ (g : Gh) (H : Hp) (h : Hd), Ext K g0 n0 H0 g h.length H → HS K g H h → liveOk h src.live = true →
  (∀ i x, src.items[i]? = some x → J.go i H ∧ ∀ v H', J.yld i H v H' → Ext K g h.length H g h.length H' ∧ HS K g H' h ∧ Rl K g h.length H' x v) ∧ J.stop src.items.length H
structure DI (X : Cx) (tg iter : Expr) (iv : IV) : Prop where
  ex : ∃ wi : TI, PI X tg iter wi ∧ ∀ (n : Nat) (g : Gh) (σ : L2.St) (H : Hp) (ds : Sl) (h : Hd) (src : Src) (h' : Hd) (R : It → Hp → Prop), Sim X.K g H σ ds h → iv n ds h = some (src, h') →
    (∀ g' H' J, Ext X.K g h.length H g' h'.length H' → Sim X.K g' H' σ ds h' → ItOk X.K J g' h'.length H' src → R J H') → wi σ H R
/-- a list or a tuple, as a value -/
def srcM (x : D) : M Src := fun h => match x with
  | .tup xs => some (⟨xs, []⟩, h)
  | .lst xs => some (⟨xs, []⟩, h)
  | .ro xs => some (⟨xs, []⟩, h)
  | .ref i => match cellL h i with
    | some xs => some (⟨xs, [(i, xs)]⟩, h)
    | none => none
  | _ => none
def iSeq (a : EV) : IV := fun n ds => bindM (a n ds) srcM
/-- how a value stays a list (a tuple) of these things -/
def StayL (K : PySem.W.Frag) (g0 : Gh) (n0 : Nat) (H0 : Hp) (xs : List D) (lv : List (Nat × List D)) (a : Addr) : Prop :=
  ∀ (g : Gh) (H : Hp) (h : Hd), Ext K g0 n0 H0 g h.length H → HS K g H h → liveOk h lv = true → ∃ vs, SqL K H a vs ∧ Rls K g h.length H xs vs
def StayT (K : PySem.W.Frag) (g0 : Gh) (n0 : Nat) (H0 : Hp) (xs : List D) (a : Addr) : Prop :=
  ∀ (g : Gh) (H : Hp) (h : Hd), Ext K g0 n0 H0 g h.length H → HS K g H h → ∃ vs, SqT K H a vs ∧ Rls K g h.length H xs vs
theorem srcM_some {K : PySem.W.Frag} {g : Gh} {H : Hp} {x : D} {h : Hd} {src : Src} {h' : Hd} {v : V} (e : srcM x h = some (src, h')) (r : Rl K g h.length H x v) (hs : HS K g H h) : h' = h ∧ ∃ a, v = .ref a ∧
    ((src.live = [] ∧ (∃ vs, SqT K H a vs) ∧ StayT K g h.length H src.items a ∧ x = .tup src.items) ∨ ((∃ vs, SqL K H a vs) ∧ StayL K g h.length H src.items src.live a ∧ listOf h x = some src.items)) := by
  unfold srcM at e
  split at e
  · rename_i xs
    cases e
    refine ⟨rfl, ?_⟩
    cases r with
    | tup q r => exact ⟨_, rfl, .inl ⟨rfl, ⟨_, q⟩, fun g' H' h' E _ => ⟨_, E.tup _ _ q, E.rls r⟩, rfl⟩⟩
  · rename_i xs
    cases e
    refine ⟨rfl, ?_⟩
    cases r with
    | lst q r => exact ⟨_, rfl, .inr ⟨⟨_, q.sq⟩, fun g' H' h' E _ _ => ⟨_, (E.frz _ _ q).sq, E.rls r⟩, rfl⟩⟩
  · rename_i xs
    cases e
    refine ⟨rfl, ?_⟩
    cases r with
    | ro q r => exact ⟨_, rfl, .inr ⟨⟨_, q.sq⟩, fun g' H' h' E _ _ => ⟨_, (E.ro _ _ q).sq, E.rls r⟩, rfl⟩⟩
  · rename_i i
    split at e
    · rename_i xs e1
      cases e
      refine ⟨rfl, ?_⟩
      cases r with
      | ref hi =>
        obtain ⟨vs0, q0, _⟩ := cellL_ok hs e1
        refine ⟨_, rfl, .inr ⟨⟨vs0, .inl (.inl q0)⟩, fun g' H' h' E hs' hl => ?_, e1⟩⟩
        obtain ⟨e2, _⟩ := liveOk_cons hl
        obtain ⟨vs, q, r⟩ := cellL_ok hs' e2
        rw [E.al i hi] at q
        exact ⟨vs, .inl (.inl q), r⟩
    · cases e
  · cases e
theorem itOk_list {K : PySem.W.Frag} {g : Gh} {n : Nat} {H : Hp} {src : Src} {a : Addr} (st : StayL K g n H src.items src.live a) : ItOk K (Itl K a) g n H src := by
  intro g' H' h' E hs hl
  obtain ⟨vs, q, r⟩ := st g' H' h' E hs hl
  refine ⟨fun i x e => ?_, ⟨vs, q, by rw [r.length]; exact Nat.le_refl _⟩⟩
  obtain ⟨v, hv, rv⟩ := r.get e
  refine ⟨⟨vs, v, q, hv⟩, fun w H2 y => ?_⟩
  obtain ⟨rfl, y⟩ := y
  have : w = v := Option.some.inj ((y vs q).symm.trans hv)
  subst this
  exact ⟨.refl, hs, rv⟩
theorem itOk_tup {K : PySem.W.Frag} {g : Gh} {n : Nat} {H : Hp} {src : Src} {a : Addr} (st : StayT K g n H src.items a) : ItOk K (Itt K a) g n H src := by
  intro g' H' h' E hs hl
  obtain ⟨vs, q, r⟩ := st g' H' h' E hs
  refine ⟨fun i x e => ?_, ⟨vs, q, by rw [r.length]; exact Nat.le_refl _⟩⟩
  obtain ⟨v, hv, rv⟩ := r.get e
  refine ⟨⟨vs, v, q, hv⟩, fun w H2 y => ?_⟩
  obtain ⟨rfl, y⟩ := y
  have : w = v := Option.some.inj ((y vs q).symm.trans hv)
  subst this
  exact ⟨.refl, hs, rv⟩
theorem PI.or {tg iter : Expr} {a b : TI} (h : PI X tg iter a) (k : PI X tg iter b) : PI X tg iter (fun σ H R => a σ H R ∨ b σ H R) := ⟨fun pins s σ H R I q => by
  rcases q with q | q
  · exact h.run pins s σ H R I q
  · exact k.run pins s σ H R I q⟩
/-- a list or a tuple: the reading that serves both -/
def iBoth (K : PySem.W.Frag) (te : TE) : TI := fun σ H R => te σ H fun x H1 => ∃ a, x = .ref a ∧ (((∃ xs, SqL K H1 a xs) ∧ R (Itl K a) H1) ∨ ((∃ xs, SqT K H1 a xs) ∧ R (Itt K a) H1))
theorem pi_both {tg l : Expr} {tl : TE} (hl : PE X l tl) : PI X tg l (iBoth X.K tl) := by
  refine ⟨fun pins s σ H R I h => ?_⟩
  refine thn (hl.run pins s σ H _ I h) fun v s1 ⟨x, H1, I1, r1, q1⟩ => ?_
  obtain ⟨a, e, q1⟩ := q1
  subst e
  cases r1
  rcases q1 with ⟨⟨xs, hq⟩, q⟩ | ⟨⟨xs, hq⟩, q⟩
  · obtain ⟨its, rv, p, hz⟩ := I1.list hq
    refine wpAny_pyIter_list p.isList ?_
    refine ⟨s1.heap.objs.size, [s1.heap.objs.size], _, _, H1, rfl, I1.kept (t' := s1.toks) fun b o e => Heap.get?_push_of_some _ e, turn_list a _, ⟨_, Heap.get?_push_size _ rfl, rfl, rfl⟩, fun b hb => ?_, q⟩
    have e : b = s1.heap.objs.size := by simpa using hb
    subst e
    exact I1.fpOk (Nat.le_refl _) (I1.hok.fresh (Nat.le_refl _))
  · obtain ⟨its, rv, p, hz⟩ := I1.tuple hq
    refine wpAny_pyIter_tuple (show s1.heap.IsTuple a its.toArray from p) ?_
    refine ⟨s1.heap.objs.size, [s1.heap.objs.size], _, _, H1, rfl, I1.kept (t' := s1.toks) fun b o e => Heap.get?_push_of_some _ e, turn_tuple a _, ⟨_, Heap.get?_push_size _ rfl, rfl, rfl⟩, fun b hb => ?_, q⟩
    have e : b = s1.heap.objs.size := by simpa using hb
    subst e
    exact I1.fpOk (Nat.le_refl _) (I1.hok.fresh (Nat.le_refl _))
theorem di_seq {tg : Expr} (he : DE X e ev) : DI X tg e (iSeq ev) := by
  obtain ⟨t0, p0, s0⟩ := he.ex
  refine ⟨_, pi_both p0, fun n g σ H ds h src h' R S ev q => ?_⟩
  obtain ⟨x, h1, e1, ev1⟩ := bindM_some ev
  refine s0 n g σ H ds h x h1 _ S e1 fun g1 H1 v E1 S1 r1 => ?_
  obtain ⟨rfl, a, rfl, k⟩ := srcM_some ev1 r1 S1.hs
  refine ⟨a, rfl, ?_⟩
  rcases k with ⟨_, ⟨vs, hv⟩, st, _⟩ | ⟨⟨vs, hv⟩, st, _⟩
  · exact .inr ⟨⟨vs, hv⟩, q g1 H1 _ E1 S1 (itOk_tup st)⟩
  · exact .inl ⟨⟨vs, hv⟩, q g1 H1 _ E1 S1 (itOk_list st)⟩
/-- ranges -/
def rgItems (lo c : Int) (n : Nat) : List D := (List.range n).map fun i => D.int (lo + (i : Nat) * c)
def rgM (lo hi : Int) : M Src := fun h => if -(4611686018427387904) ≤ lo ∧ lo < 4611686018427387904 ∧ -(4611686018427387904) ≤ hi ∧ hi < 4611686018427387904 ∧ (hi - lo).toNat ≤ 16777216 then
    some (⟨rgItems lo 1 (hi - lo).toNat, []⟩, h) else none
def rg3M (lo hi c : Int) : M Src := fun h => if c ≠ 0 ∧ c.natAbs < 1073741824 ∧ Builtin.Range.small lo hi c = true ∧ 0 ≤ Builtin.Range.rangeSize lo hi c ∧ (Builtin.Range.rangeSize lo hi c).toNat ≤ 16777216 then
    some (⟨rgItems lo c (Builtin.Range.rangeSize lo hi c).toNat, []⟩, h) else none
def iRg1 (a : AV) : IV := fun n ds => bindM (a n ds) fun xs => match xs with
  | [.int hi] => rgM 0 hi
  | _ => failM
def iRg2 (a : AV) : IV := fun n ds => bindM (a n ds) fun xs => match xs with
  | [.int lo, .int hi] => rgM lo hi
  | _ => failM
def iRg3 (a : AV) : IV := fun n ds => bindM (a n ds) fun xs => match xs with
  | [.int lo, .int hi, .int c] => rg3M lo hi c
  | _ => failM
theorem rgItems_get {lo c : Int} {n i : Nat} {x : D} (e : (rgItems lo c n)[i]? = some x) : i < n ∧ x = .int (lo + (i : Nat) * c) := by
  unfold rgItems at e
  rw [List.getElem?_map] at e
  by_cases hi : i < n
  · rw [List.getElem?_range hi] at e
    cases e
    exact ⟨hi, rfl⟩
  · rw [List.getElem?_eq_none (by rw [List.length_range]; omega)] at e
    cases e
theorem rgItems_len {lo c : Int} {n : Nat} : (rgItems lo c n).length = n := by unfold rgItems; rw [List.length_map, List.length_range]
theorem itOk_range {K : PySem.W.Frag} {g : Gh} {n : Nat} {H : Hp} {lo : Int} {m : Nat} {lv : List (Nat × List D)} : ItOk K (Itr lo m) g n H ⟨rgItems lo 1 m, lv⟩ := by
  intro g' H' h' E hs hl
  refine ⟨fun i x e => ?_, by rw [rgItems_len]; exact Nat.le_refl _⟩
  obtain ⟨hi, rfl⟩ := rgItems_get e
  refine ⟨hi, fun w H2 y => ?_⟩
  obtain ⟨rfl, rfl⟩ := y
  rw [Int.mul_one]
  exact ⟨.refl, hs, .int _⟩
theorem itOk_rangeC {K : PySem.W.Frag} {g : Gh} {n : Nat} {H : Hp} {lo c : Int} {m : Nat} {lv : List (Nat × List D)} : ItOk K (Itc lo c m) g n H ⟨rgItems lo c m, lv⟩ := by
  intro g' H' h' E hs hl
  refine ⟨fun i x e => ?_, by rw [rgItems_len]; exact Nat.le_refl _⟩
  obtain ⟨hi, rfl⟩ := rgItems_get e
  refine ⟨hi, fun w H2 y => ?_⟩
  obtain ⟨rfl, rfl⟩ := y
  exact ⟨.refl, hs, .int _⟩
theorem rgM_one {lo hi : Int} {h : Hd} {src : Src} {h' : Hd} (e : rgM lo hi h = some (src, h')) : (-(2 ^ 62) ≤ lo ∧ lo < 2 ^ 62 ∧ -(2 ^ 62) ≤ hi ∧ hi < 2 ^ 62) ∧ src = ⟨rgItems lo 1 (hi - lo).toNat, []⟩ ∧ h' = h := by
  unfold rgM at e
  split at e
  · rename_i hb
    cases e
    exact ⟨⟨by omega, by omega, by omega, by omega⟩, rfl, rfl⟩
  · cases e
theorem rg3M_one {lo hi c : Int} {h : Hd} {src : Src} {h' : Hd} (e : rg3M lo hi c h = some (src, h')) : ∃ n, RgC lo hi c n ∧ src = ⟨rgItems lo c n, []⟩ ∧ h' = h := by
  unfold rg3M at e
  split at e
  · rename_i hb
    cases e
    obtain ⟨h1, h2, h3, h4, _⟩ := hb
    exact ⟨_, ⟨h1, h2, h3, (Int.toNat_of_nonneg h4).symm⟩, rfl, rfl⟩
  · cases e
variable {x : Str} {p : Pos} {es : List Expr} {ar : AV}
theorem di_range1 {tg a : Expr} (hg : Gl X "range") (hm : X.mg "range" = none) (ha : DA X [a] ar) (hs : starEach [a] X.env = [(false, eval a X.env)] := by rfl) : DI X tg (.Call (.Name "range" p) [a] [] pos) (iRg1 ar) := by
  obtain ⟨t0, p0, s0⟩ := ha.ex
  refine ⟨_, pi_range1 hg hm p0 hs, fun n g σ H ds h src h' R S ev q => ?_⟩
  obtain ⟨xs, h1, e1, ev1⟩ := bindM_some ev
  refine s0 n g σ H ds h xs h1 _ S e1 fun g1 H1 vs E1 S1 r1 => ?_
  match xs, r1, ev1 with
  | [.int hi], r1, ev1 =>
    obtain ⟨b, rfl, rfl⟩ := rgM_one ev1
    obtain ⟨v, rfl, rx⟩ := r1.one
    rw [rx.int_inv]
    rw [Int.sub_zero] at q
    exact ⟨hi, rfl, b.2.2.1, b.2.2.2, q g1 H1 _ E1 S1 itOk_range⟩
theorem di_range2 {tg a b : Expr} (hg : Gl X "range") (hm : X.mg "range" = none) (ha : DA X [a, b] ar) (hs : starEach [a, b] X.env = [(false, eval a X.env), (false, eval b X.env)] := by rfl) (hs2 : starEach [b] X.env = [(false, eval b X.env)] := by rfl) : DI X tg (.Call (.Name "range" p) [a, b] [] pos) (iRg2 ar) := by
  obtain ⟨t0, p0, s0⟩ := ha.ex
  refine ⟨_, pi_range2 hg hm p0 hs hs2, fun n g σ H ds h src h' R S ev q => ?_⟩
  obtain ⟨xs, h1, e1, ev1⟩ := bindM_some ev
  refine s0 n g σ H ds h xs h1 _ S e1 fun g1 H1 vs E1 S1 r1 => ?_
  match xs, r1, ev1 with
  | [.int lo, .int hi], r1, ev1 =>
    obtain ⟨b, rfl, rfl⟩ := rgM_one ev1
    obtain ⟨v, w, rfl, rx, ry⟩ := r1.two
    rw [rx.int_inv, ry.int_inv]
    exact ⟨lo, hi, rfl, b, q g1 H1 _ E1 S1 itOk_range⟩
theorem di_range3 {tg a b c : Expr} (hg : Gl X "range") (hm : X.mg "range" = none) (ha : DA X [a, b, c] ar)
    (hs : starEach [a, b, c] X.env = (false, eval a X.env) :: starEach [b, c] X.env := by rfl) (hpl : (backTo pos (starEach [b, c] X.env)).any (·.1) = false := by rfl) : DI X tg (.Call (.Name "range" p) [a, b, c] [] pos) (iRg3 ar) := by
  obtain ⟨t0, p0, s0⟩ := ha.ex
  refine ⟨_, pi_range3 hg hm p0 hs hpl, fun n g σ H ds h src h' R S ev q => ?_⟩
  obtain ⟨xs, h1, e1, ev1⟩ := bindM_some ev
  refine s0 n g σ H ds h xs h1 _ S e1 fun g1 H1 vs E1 S1 r1 => ?_
  match xs, r1, ev1 with
  | [.int lo, .int hi, .int c], r1, ev1 =>
    obtain ⟨m, hc, rfl, rfl⟩ := rg3M_one ev1
    obtain ⟨v, w, u, rfl, rx, ry, rz⟩ := r1.three
    rw [rx.int_inv, ry.int_inv, rz.int_inv]
    exact ⟨lo, hi, c, m, rfl, hc, q g1 H1 _ E1 S1 itOk_rangeC⟩

/-! ### zip, enumerate -/
def zipD : List D → List D → List D
  | x :: xs, y :: ys => .tup [x, y] :: zipD xs ys
  | _, _ => []
theorem zipD_len : ∀ (xs ys : List D), (zipD xs ys).length = min xs.length ys.length
  | [], _ => by simp [zipD]
  | _ :: _, [] => by simp [zipD]
  | x :: xs, y :: ys => by simp [zipD, zipD_len xs ys]
theorem zipD_get : ∀ {xs ys : List D} {i : Nat} {z : D}, (zipD xs ys)[i]? = some z → ∃ x y, xs[i]? = some x ∧ ys[i]? = some y ∧ z = .tup [x, y]
  | [], _, _, _, e => by simp [zipD] at e
  | _ :: _, [], _, _, e => by simp [zipD] at e
  | x :: xs, y :: ys, 0, z, e => by
    have : some (D.tup [x, y]) = some z := e
    cases this
    exact ⟨x, y, rfl, rfl, rfl⟩
  | x :: xs, y :: ys, i + 1, z, e => by
    obtain ⟨a, b, h1, h2, h3⟩ := zipD_get (xs := xs) (ys := ys) (i := i) (z := z) (by simpa [zipD] using e)
    exact ⟨a, b, by simpa using h1, by simpa using h2, h3⟩
/-- both lists, or both tuples -/
def zipM : List D → M Src
  | [x, y] => bindM (srcM x) fun s => bindM (srcM y) fun t => if (tupOf x).isSome = (tupOf y).isSome then retM ⟨zipD s.items t.items, s.live ++ t.live⟩ else failM
  | _ => failM
def iZp (a : AV) : IV := fun n ds => bindM (a n ds) zipM
theorem itOk_zip {K : PySem.W.Frag} {g : Gh} {n : Nat} {H : Hp} {s t : Src} {a b : Addr} (sa : StayL K g n H s.items s.live a) (sb : StayL K g n H t.items t.live b) : ItOk K (Itz K a b) g n H ⟨zipD s.items t.items, s.live ++ t.live⟩ := by
  intro g' H' h' E hs hl
  obtain ⟨l1, l2⟩ := liveOk_app hl
  obtain ⟨vs, q, r⟩ := sa g' H' h' E hs l1
  obtain ⟨ws, q2, r2⟩ := sb g' H' h' E hs l2
  refine ⟨fun i x e => ?_, ⟨vs, ws, q, q2, by rw [zipD_len, r.length, r2.length]; omega⟩⟩
  obtain ⟨x1, y1, e1, e2, rfl⟩ := zipD_get e
  obtain ⟨v, hv, rv⟩ := r.get e1
  obtain ⟨w, hw, rw'⟩ := r2.get e2
  refine ⟨⟨vs, ws, v, w, q, q2, hv, hw⟩, fun u H2 y => ?_⟩
  obtain ⟨T, v', w', rfl, hT, rfl, y1, y2⟩ := y
  have e3 : v' = v := Option.some.inj ((y1 vs q).symm.trans hv)
  have e4 : w' = w := Option.some.inj ((y2 ws q2).symm.trans hw)
  subst e3 e4
  have E2 : Ext K g' h'.length H' g' h'.length (upd H' T (.tup [v', w'])) := Ext.new hT
  exact ⟨E2, hs.new hT, .tup (.inl (.inl upd_same)) (.cons (E2.rl rv) (.cons (E2.rl rw') .nil))⟩
theorem itOk_zipT {K : PySem.W.Frag} {g : Gh} {n : Nat} {H : Hp} {s t : Src} {lv : List (Nat × List D)} {a b : Addr} (sa : StayT K g n H s.items a) (sb : StayT K g n H t.items b) : ItOk K (RZ.ItzT K a b) g n H ⟨zipD s.items t.items, lv⟩ := by
  intro g' H' h' E hs hl
  obtain ⟨vs, q, r⟩ := sa g' H' h' E hs
  obtain ⟨ws, q2, r2⟩ := sb g' H' h' E hs
  refine ⟨fun i x e => ?_, ⟨vs, ws, q, q2, by rw [zipD_len, r.length, r2.length]; omega⟩⟩
  obtain ⟨x1, y1, e1, e2, rfl⟩ := zipD_get e
  obtain ⟨v, hv, rv⟩ := r.get e1
  obtain ⟨w, hw, rw'⟩ := r2.get e2
  refine ⟨⟨vs, ws, v, w, q, q2, hv, hw⟩, fun u H2 y => ?_⟩
  obtain ⟨T, v', w', rfl, hT, rfl, y1, y2⟩ := y
  have e3 : v' = v := Option.some.inj ((y1 vs q).symm.trans hv)
  have e4 : w' = w := Option.some.inj ((y2 ws q2).symm.trans hw)
  subst e3 e4
  have E2 : Ext K g' h'.length H' g' h'.length (upd H' T (.tup [v', w'])) := Ext.new hT
  exact ⟨E2, hs.new hT, .tup (.inl (.inl upd_same)) (.cons (E2.rl rv) (.cons (E2.rl rw') .nil))⟩
theorem listOf_tup {h : Hd} {x : D} {xs : List D} (e : listOf h x = some xs) : (tupOf x).isSome = false := by
  cases x <;> first | rfl | cases e
theorem di_zip {e2 : Expr} {elts : List Expr} {kk : Nat} {tpos : Pos} (hg : Gl X "zip") (hm : X.mg "zip" = none) (ha : DA X [e, e2] ar)
    (hs : starEach [e, e2] X.env = (false, eval e X.env) :: starEach [e2] X.env := by rfl) (hpl : (backTo pos (starEach [e2] X.env)).any (·.1) = false := by rfl) :
    DI X (.Tuple elts kk tpos) (.Call (.Name "zip" p) [e, e2] [] pos) (iZp ar) := by
  obtain ⟨t0, p0, s0⟩ := ha.ex
  refine ⟨_, RZ.pi_zipA hg hm p0 hs hpl, fun n g σ H ds h src h' R S ev q => ?_⟩
  obtain ⟨xs, h1, e1, ev1⟩ := bindM_some ev
  refine s0 n g σ H ds h xs h1 _ S e1 fun g1 H1 vs E1 S1 r1 => ?_
  match xs, r1, ev1 with
  | [x, y], r1, ev1 =>
    obtain ⟨v, w, rfl, rx, ry⟩ := r1.two
    obtain ⟨s, h2, e2, ev2⟩ := bindM_some (show bindM (srcM x) (fun s => bindM (srcM y) fun t => if (tupOf x).isSome = (tupOf y).isSome then retM ⟨zipD s.items t.items, s.live ++ t.live⟩ else failM) h1 = some (src, h') from ev1)
    obtain ⟨e20, a, rfl, k1⟩ := srcM_some e2 rx S1.hs
    subst e20
    obtain ⟨t, h3, e3, ev3⟩ := bindM_some ev2
    obtain ⟨e30, b, rfl, k2⟩ := srcM_some e3 ry S1.hs
    subst e30
    split at ev3
    · rename_i heq
      cases ev3
      rcases k1 with ⟨l1, ⟨v1, q1⟩, st1, ex⟩ | ⟨⟨v1, q1⟩, st1, ex⟩
      · rcases k2 with ⟨l2, ⟨v2, q2⟩, st2, ey⟩ | ⟨⟨v2, q2⟩, st2, ey⟩
        · exact ⟨a, b, v1, v2, rfl, .inr ⟨q1, q2, q g1 H1 _ E1 S1 (itOk_zipT st1 st2)⟩⟩
        · rw [ex, listOf_tup ey] at heq; cases heq
      · rcases k2 with ⟨l2, ⟨v2, q2⟩, st2, ey⟩ | ⟨⟨v2, q2⟩, st2, ey⟩
        · rw [ey, listOf_tup ex] at heq; cases heq
        · exact ⟨a, b, v1, v2, rfl, .inl ⟨q1, q2, q g1 H1 _ E1 S1 (itOk_zip st1 st2)⟩⟩
    · cases ev3
def enumD : Nat → List D → List D
  | _, [] => []
  | i, x :: xs => .tup [.int (i : Nat), x] :: enumD (i + 1) xs
theorem enumD_len : ∀ (k : Nat) (xs : List D), (enumD k xs).length = xs.length
  | _, [] => rfl
  | k, x :: xs => by rw [enumD, List.length_cons, List.length_cons, enumD_len]
theorem enumD_get : ∀ {k : Nat} {xs : List D} {i : Nat} {z : D}, (enumD k xs)[i]? = some z → ∃ x, xs[i]? = some x ∧ z = .tup [.int ((k + i : Nat) : Int), x]
  | _, [], _, _, e => by simp [enumD] at e
  | k, x :: xs, 0, z, e => by
    have : some (D.tup [.int (k : Nat), x]) = some z := e
    cases this
    exact ⟨x, rfl, rfl⟩
  | k, x :: xs, i + 1, z, e => by
    obtain ⟨a, h1, h3⟩ := enumD_get (k := k + 1) (xs := xs) (i := i) (z := z) (by simpa [enumD] using e)
    refine ⟨a, by simpa using h1, ?_⟩
    rw [h3, show k + 1 + i = k + (i + 1) by omega]
def enumM : List D → M Src
  | [x] => bindM (srcM x) fun s => if (tupOf x).isSome = false then retM ⟨enumD 0 s.items, s.live⟩ else failM
  | _ => failM
def iEn (a : AV) : IV := fun n ds => bindM (a n ds) enumM
theorem itOk_enum {K : PySem.W.Frag} {g : Gh} {n : Nat} {H : Hp} {s : Src} {a : Addr} (sa : StayL K g n H s.items s.live a) : ItOk K (Ite K a) g n H ⟨enumD 0 s.items, s.live⟩ := by
  intro g' H' h' E hs hl
  obtain ⟨vs, q, r⟩ := sa g' H' h' E hs hl
  refine ⟨fun i x e => ?_, ⟨vs, q, by rw [enumD_len, r.length]; exact Nat.le_refl _⟩⟩
  obtain ⟨x1, e1, rfl⟩ := enumD_get e
  obtain ⟨v, hv, rv⟩ := r.get e1
  refine ⟨⟨vs, v, q, hv⟩, fun u H2 y => ?_⟩
  obtain ⟨T, v', rfl, hT, rfl, y1⟩ := y
  have e3 : v' = v := Option.some.inj ((y1 vs q).symm.trans hv)
  subst e3
  have E2 : Ext K g' h'.length H' g' h'.length (upd H' T (.tup [.int (i : Nat), v'])) := Ext.new hT
  rw [Nat.zero_add]
  exact ⟨E2, hs.new hT, .tup (.inl (.inl upd_same)) (.cons (.int _) (.cons (E2.rl rv) .nil))⟩
theorem di_enum {elts : List Expr} {kk : Nat} {tpos : Pos} (hg : Gl X "enumerate") (hm : X.mg "enumerate" = none) (ha : DA X [e] ar) (hs : starEach [e] X.env = [(false, eval e X.env)] := by rfl) :
    DI X (.Tuple elts kk tpos) (.Call (.Name "enumerate" p) [e] [] pos) (iEn ar) := by
  obtain ⟨t0, p0, s0⟩ := ha.ex
  refine ⟨_, pi_enum hg hm p0 hs, fun n g σ H ds h src h' R S ev q => ?_⟩
  obtain ⟨xs, h1, e1, ev1⟩ := bindM_some ev
  refine s0 n g σ H ds h xs h1 _ S e1 fun g1 H1 vs E1 S1 r1 => ?_
  match xs, r1, ev1 with
  | [x], r1, ev1 =>
    obtain ⟨v, rfl, rx⟩ := r1.one
    obtain ⟨s, h2, e2, ev2⟩ := bindM_some (show bindM (srcM x) (fun s => if (tupOf x).isSome = false then retM ⟨enumD 0 s.items, s.live⟩ else failM) h1 = some (src, h') from ev1)
    obtain ⟨e20, a, rfl, k1⟩ := srcM_some e2 rx S1.hs
    subst e20
    split at ev2
    · rename_i heq
      cases ev2
      rcases k1 with ⟨l1, ⟨v1, q1⟩, st1, ex⟩ | ⟨⟨v1, q1⟩, st1, ex⟩
      · rw [ex] at heq; cases heq
      · exact ⟨a, v1, rfl, q1, q g1 H1 _ E1 S1 (itOk_enum st1)⟩
    · cases ev2

/-! ### for -/
def forL (live : List (Nat × List D)) (gv : D → Sl → M Sl) (b : Sl → M Fl) : List D → Sl → M Fl
  | [], ds => fun h => if liveOk h live = true then some (.nx ds, h) else none
  | x :: xs, ds => fun h => if liveOk h live = true then bindM (gv x ds) (fun ds2 => bindM (b ds2) fun fl => match fl with
      | .nx ds3 => forL live gv b xs ds3
      | .ct ds3 => forL live gv b xs ds3
      | .bk ds3 => retM (.nx ds3)
      | .rt d => retM (.rt d)) h else none
def sFor (iv : IV) (gv : GV) (b : SV) : SV := fun n ds => bindM (iv n ds) fun src => forL src.live (fun x ds => gv x n ds) (b n) src.items ds
theorem ds_for {tg iter : Expr} {body : List Stmt} {iv : IV} {gv : GV} {ts : List Nat} (hp : PassesOwn (model X.prog X.w) X.A X.env X.xe) (hc : X.calm = true) (hi : DI X tg iter iv) (hg : DG X tg gv ts) (hb : DSs X body s)
    (hs : ∀ x, foldedSetIterable iter X.env x = pure x := by intro _; rfl) : DS X (.For tg iter body [] pos) (sFor iv gv s) := by
  obtain ⟨t0, p0, s0⟩ := hi.ex
  obtain ⟨t1, p1, s1⟩ := hg.ex
  obtain ⟨t2, p2, s2⟩ := hb.ex
  refine ⟨_, ps_for hp hc p0 p1 p2 hs, fun n g σ H ds h fl h' E S ev q => ?_⟩
  obtain ⟨src, h1, e1, ev1⟩ := bindM_some ev
  refine s0 n g σ H ds h src h1 _ S e1 fun g1 H1 J E1 S1 ok => ?_
  refine ⟨fun i m σ2 H2 => m = src.items.length - i ∧ i ≤ src.items.length ∧ ∃ g2 ds2 h2, Ext X.K g1 h1.length H1 g2 h2.length H2 ∧ Sim X.K g2 H2 σ2 ds2 h2 ∧ forL src.live (fun x ds => gv x n ds) (s n) (src.items.drop i) ds2 h2 = some (fl, h'),
    ⟨_, rfl, Nat.zero_le _, g1, ds, h1, .refl, S1, ev1⟩, ?_⟩
  rintro i m σ2 H2 ⟨rfl, hi, g2, ds2, h2, E2, S2, ev2⟩
  by_cases hlt : i < src.items.length
  · rw [List.drop_eq_getElem_cons hlt] at ev2
    unfold forL at ev2
    split at ev2
    · rename_i hlv
      obtain ⟨ok1, _⟩ := ok g2 H2 h2 E2 S2.hs hlv
      obtain ⟨go, yld⟩ := ok1 i _ (List.getElem?_eq_getElem hlt)
      obtain ⟨ds3, h3, e3, ev3⟩ := bindM_some ev2
      obtain ⟨f4, h4, e4, ev4⟩ := bindM_some ev3
      refine .inr ⟨go, fun σ' H' => ∃ g5 ds5, Ext X.K g1 h1.length H1 g5 h4.length H' ∧ Sim X.K g5 H' σ' ds5 h4 ∧ forL src.live (fun x ds => gv x n ds) (s n) (src.items.drop (i + 1)) ds5 h4 = some (fl, h'), fun σ' H' hN => ?_, fun v H3 hy => ?_⟩
      · obtain ⟨g5, ds5, E5, S5, ev5⟩ := hN
        exact ⟨src.items.length - (i + 1), by omega, rfl, hlt, g5, ds5, h4, E5, S5, ev5⟩
      · obtain ⟨E3, hs3, r3⟩ := yld v H3 hy
        have S3 : Sim X.K g2 H3 σ2 ds2 h2 := ⟨hs3, E3.sl S2.sl⟩
        refine s1 n g2 σ2 H3 ds2 h2 _ v ds3 h3 _ S3 r3 e3 fun g4 H4 σ4 E4 S4 _ => ?_
        have E04 := (E2.trans E3).trans E4
        refine s2 n g4 σ4 H4 ds3 h3 f4 h4 _ S4 e4 ?_
        cases f4 with
        | nx ds' => exact fun g5 H5 σ5 E5 S5 => ⟨g5, ds', E04.trans E5, S5, ev4⟩
        | ct ds' => exact fun g5 H5 σ5 E5 S5 => ⟨g5, ds', E04.trans E5, S5, ev4⟩
        | bk ds' => cases ev4; exact fun g5 H5 σ5 E5 S5 => q g5 H5 σ5 (E1.trans (E04.trans E5)) S5
        | rt d => cases ev4; exact fun g5 H5 v5 E5 S5 r5 => q g5 H5 v5 (E1.trans (E04.trans E5)) S5 r5
    · cases ev2
  · have e : i = src.items.length := by omega
    subst e
    rw [List.drop_length] at ev2
    unfold forL at ev2
    split at ev2
    · rename_i hlv
      cases ev2
      obtain ⟨_, ok2⟩ := ok g2 H2 h' E2 S2.hs hlv
      exact .inl ⟨ok2, q g2 H2 σ2 (E1.trans E2) S2⟩
    · cases ev2
end
end DK

namespace DK
open PySem PySem.Spec PyProof.Rows L2

def dwipe (ds : Sl) : List Nat → Sl
  | [] => ds
  | v :: vs => (dwipe ds vs).set v none
theorem dwipe_len (ds : Sl) : ∀ vs : List Nat, (dwipe ds vs).length = ds.length
  | [] => rfl
  | v :: vs => by unfold dwipe; rw [List.length_set, dwipe_len ds vs]
section
variable {K : PySem.W.Frag} {g g' : Gh} {n n' : Nat} {H H' H0 : Hp} {h : Hd} {σ : L2.St} {ds : Sl} {p : Addr} {a b : List V}
theorem SlS.wiped (s : SlS K g n H σ ds) : ∀ vs : List Nat, SlS K g n H (wipe σ vs) (dwipe ds vs)
  | [] => s
  | v :: vs => by
    have ih := SlS.wiped s vs
    refine ⟨by rw [wipe_length, dwipe_len, s.len], fun i d e => ?_⟩
    have e : ((dwipe ds vs).set v none)[i]? = some (some d) := e
    by_cases hv : v = i
    · subst hv
      by_cases hl : v < (dwipe ds vs).length
      · rw [List.getElem?_set_self hl] at e; cases e
      · rw [List.getElem?_eq_none (by simpa using hl)] at e; cases e
    · rw [List.getElem?_set_ne hv] at e
      obtain ⟨w, h1, h2⟩ := ih.at_ i d e
      exact ⟨w, by show ((wipe σ vs).set v none)[i]? = _; rw [List.getElem?_set_ne hv]; exact h1, h2⟩
theorem wipe_wipe : ∀ (own vs : List Nat), (∀ i ∈ own, i ∈ vs) → wipe (wipe σ own) vs = wipe σ vs
  | [], _, _ => rfl
  | o :: os, vs, hv => by
    show wipe ((wipe σ os).set o none) vs = _
    rw [wipe_set (hv o List.mem_cons_self)]
    exact wipe_wipe os vs fun i hi => hv i (List.mem_cons_of_mem _ hi)
theorem HS.apart (hs : HS K g H h) (hp : H p = none) : (∀ i, i < h.length → g.al i ≠ p) ∧ ¬ g.G p := by
  refine ⟨fun i hi z => ?_, fun z => ?_⟩
  · obtain ⟨u, hu, _⟩ := hs.ne_none hi
    rw [z, hp] at hu; cases hu
  · obtain ⟨u, hu⟩ := hs.gs p z
    rw [hp] at hu; cases hu
/-- what a step does above an object that is not its own -/
theorem Ext.above (E : Ext K g n (upd H0 p (.lst a)) g' n' H') (hp : H0 p = none) (h1 : ∀ i, i < n → g.al i ≠ p) (h2 : ¬ g.G p) :
    H' p = some (.lst a) ∧ ¬ g'.G p ∧ (∀ i, i < n' → g'.al i ≠ p) ∧ Ext K g n H0 g' n' (dropP H' p) := by
  have e1 : H' p = some (.lst a) := E.frame p _ upd_same h1
  have e2 : ¬ g'.G p := fun z => by
    rcases E.nG p z with z | z
    · exact h2 z
    · rw [upd_same] at z; cases z
  have e3 : ∀ i, i < n' → g'.al i ≠ p := fun i hi z => by
    by_cases q : i < n
    · rw [E.al i q] at z; exact h1 i q z
    · have := E.nal i (by omega) hi
      rw [z, upd_same] at this; cases this
  have N : Ext K g n H0 g n (upd H0 p (.lst a)) := Ext.new hp
  have back : ∀ x, upd H0 p (.lst a) x = none → H0 x = none := fun x e => N.dom x e
  refine ⟨e1, e2, e3, ⟨E.le, E.al, fun i x y => back _ (E.nal i x y), E.G, fun x z => ?_, fun x o e hx => ?_, fun x e => ?_, fun x vs q => ?_, fun x vs q => ?_, fun x vs q => ?_⟩⟩
  · rcases E.nG x z with z | z
    · exact .inl z
    · exact .inr (back x z)
  · have hne : x ≠ p := fun z => by rw [z, hp] at e; cases e
    rw [dropP_ne hne]
    exact E.frame x o (by rw [upd_ne hne]; exact e) hx
  · by_cases hne : x = p
    · rw [hne]; exact hp
    · rw [dropP_ne hne] at e
      exact back x (E.dom x e)
  · exact drop_tup (g := g') e1 e2 x vs (E.tup x vs (N.tup x vs q))
  · exact drop_frz (g := g') e1 e2 x vs (E.frz x vs (N.frz x vs q))
  · exact drop_ro e1 x vs (E.ro x vs (N.ro x vs q))
end

/-! ### list comprehensions -/
structure DTs (X : Cx) (ifs : List Expr) (tv : TV) : Prop where
  ex : ∃ t : TT, PTs X ifs t ∧ ∀ (n : Nat) (g : Gh) (σ : L2.St) (H : Hp) (ds : Sl) (h : Hd) (b : Bool) (h' : Hd) (Q : Bool → Hp → Prop),
    Sim X.K g H σ ds h → tv n ds h = some (b, h') → PostT X.K g h.length H σ ds h' b Q → t σ H Q
def tYs : TV := fun _ _ => retM true
theorem dts_nil {X : Cx} : DTs X [] tYs := ⟨_, pts_nil, fun n g σ H ds h d h' Q S ev q => by cases ev; exact q g H .refl S⟩
theorem dts_one {X : Cx} {c : Expr} {tv : TV} (hc : DT X c tv) : DTs X [c] tv := by
  obtain ⟨t, p, s⟩ := hc.ex
  exact ⟨t, pts_one p, s⟩
def compL (live : List (Nat × List D)) (gt : D → Sl → M Sl) (tt : Sl → M Bool) (te : Sl → M D) (dw : Sl) : List D → M (List D)
  | [] => fun h => if liveOk h live = true then some ([], h) else none
  | x :: xs => fun h => if liveOk h live = true then bindM (gt x dw) (fun ds2 => bindM (tt ds2) fun b => if b = true then bindM (te ds2) fun y => bindM (compL live gt tt te dw xs) fun ys => retM (y :: ys) else compL live gt tt te dw xs) h else none
def lLc (iv : IV) (gv : GV) (tv : TV) (ev : EV) (own : List Nat) : AV := fun n ds => bindM (iv n ds) fun src => if src.items.length ≤ 16777216 then compL src.live (fun x ds => gv x n ds) (tv n) (ev n) (dwipe ds own) src.items else failM
section
variable {X : Cx} {iv : IV} {gv : GV} {tv : TV} {ev : EV}
theorem lc_sound {wi : TI} {tg : TG} {tt : TT} {te : TE} {own ts : List Nat}
    (s0 : ∀ (n : Nat) (g : Gh) (σ : L2.St) (H : Hp) (ds : Sl) (h : Hd) (src : Src) (h' : Hd) (R : It → Hp → Prop), Sim X.K g H σ ds h → iv n ds h = some (src, h') → (∀ g' H' J, Ext X.K g h.length H g' h'.length H' → Sim X.K g' H' σ ds h' → ItOk X.K J g' h'.length H' src → R J H') → wi σ H R)
    (s1 : ∀ (n : Nat) (g : Gh) (σ : L2.St) (H : Hp) (ds : Sl) (h : Hd) (d : D) (v : V) (ds' : Sl) (h' : Hd) (Q : L2.St → Hp → Prop), Sim X.K g H σ ds h → Rl X.K g h.length H d v → gv d n ds h = some (ds', h') →
      (∀ g' H' σ', Ext X.K g h.length H g' h'.length H' → Sim X.K g' H' σ' ds' h' → (∀ vs : List Nat, (∀ i ∈ ts, i ∈ vs) → wipe σ' vs = wipe σ vs) → Q σ' H') → tg v σ H Q)
    (s2 : ∀ (n : Nat) (g : Gh) (σ : L2.St) (H : Hp) (ds : Sl) (h : Hd) (b : Bool) (h' : Hd) (Q : Bool → Hp → Prop), Sim X.K g H σ ds h → tv n ds h = some (b, h') → PostT X.K g h.length H σ ds h' b Q → tt σ H Q)
    (s3 : ∀ (n : Nat) (g : Gh) (σ : L2.St) (H : Hp) (ds : Sl) (h : Hd) (d : D) (h' : Hd) (Q : VK), Sim X.K g H σ ds h → ev n ds h = some (d, h') → PostE X.K g h.length H σ ds h' d Q → te σ H Q)
    (hts : ∀ i ∈ ts, i ∈ own)
    (n : Nat) (g : Gh) (σ : L2.St) (H : Hp) (ds : Sl) (h : Hd) (xs : List D) (h' : Hd) (Q : VK) (S : Sim X.K g H σ ds h) (e : lLc iv gv tv ev own n ds h = some (xs, h')) (q : PostL X.K g h.length H σ ds h' xs Q) : tLc wi tg tt te own σ H Q := by
  obtain ⟨src, h1, e1, ev1⟩ := bindM_some e
  refine s0 n g σ H ds h src h1 _ S e1 fun g1 H1 J E1 S1 ok => ?_
  split at ev1
  · rename_i hlen
    intro p hp
    refine ⟨fun i m HH => m = src.items.length - i ∧ i ≤ src.items.length ∧ ∃ g2 H0 h2 accD accV rest, H0 p = none ∧ HH = upd H0 p (.lst accV) ∧ Ext X.K g1 h1.length H1 g2 h2.length H0 ∧ Sim X.K g2 H0 σ ds h2 ∧ Rls X.K g2 h2.length H0 accD accV ∧ accD.length ≤ i ∧
        compL src.live (fun x ds => gv x n ds) (tv n) (ev n) (dwipe ds own) (src.items.drop i) h2 = some (rest, h') ∧ accD ++ rest = xs, ⟨_, rfl, Nat.zero_le _, g1, H1, h1, [], [], xs, hp, rfl, .refl, S1, .nil, Nat.le_refl _, ev1, rfl⟩, ?_⟩
    rintro i m HH ⟨rfl, hi, g2, H0, h2, accD, accV, rest, hp0, rfl, E2, S2, ra, hal, ev2, hxs⟩
    obtain ⟨ap1, ap2⟩ := S2.hs.apart hp0
    have N : Ext X.K g2 h2.length H0 g2 h2.length (upd H0 p (.lst accV)) := Ext.new hp0
    have S2' : Sim X.K g2 (upd H0 p (.lst accV)) σ ds h2 := S2.new hp0
    by_cases hlt : i < src.items.length
    · rw [List.drop_eq_getElem_cons hlt] at ev2
      unfold compL at ev2
      split at ev2
      · rename_i hlv
        obtain ⟨ok1, _⟩ := ok g2 _ h2 (E2.trans N) S2'.hs hlv
        obtain ⟨go, yld⟩ := ok1 i _ (List.getElem?_eq_getElem hlt)
        obtain ⟨ds3, h3, e3, ev3⟩ := bindM_some ev2
        obtain ⟨b, h4, e4, ev4⟩ := bindM_some ev3
        -- what the turn is to reach
        let Nx : Hp → Prop := fun H' => ∃ g5 H5 h5 accD5 accV5 rest5, H5 p = none ∧ H' = upd H5 p (.lst accV5) ∧ Ext X.K g1 h1.length H1 g5 h5.length H5 ∧ Sim X.K g5 H5 σ ds h5 ∧ Rls X.K g5 h5.length H5 accD5 accV5 ∧ accD5.length ≤ i + 1 ∧
          compL src.live (fun x ds => gv x n ds) (tv n) (ev n) (dwipe ds own) (src.items.drop (i + 1)) h5 = some (rest5, h') ∧ accD5 ++ rest5 = xs
        refine .inr ⟨go, Nx, fun H' hN => ⟨src.items.length - (i + 1), by omega, rfl, hlt, hN⟩, fun v H3 hy => ?_⟩
        obtain ⟨E3, hs3, r3⟩ := yld v H3 hy
        have S3 : Sim X.K g2 H3 (wipe σ own) (dwipe ds own) h2 := ⟨hs3, E3.sl ((S2'.sl).wiped own)⟩
        refine s1 n g2 (wipe σ own) H3 (dwipe ds own) h2 _ v ds3 h3 _ S3 r3 e3 fun g4 H4 σ4 E4 S4 w4 => ?_
        refine ⟨?_, ?_⟩
        · rw [w4 own hts]
          exact wipe_wipe own own fun i hi => hi
        · refine s2 n g4 σ4 H4 ds3 h3 b h4 _ S4 e4 fun g5 H5 E5 S5 => ?_
          have E35 := (E3.trans E4).trans E5
          cases b with
          | false =>
            rw [if_neg Bool.false_ne_true] at ev4 ⊢
            obtain ⟨k1, k2, k3, k4⟩ := E35.above hp0 ap1 ap2
            refine ⟨g5, dropP H5 p, h4, accD, accV, rest, dropP_same, ?_, E2.trans k4, ⟨S5.hs.dropped k1 k2 k3, k4.sl S2.sl⟩, k4.rls ra, by omega, ev4, hxs⟩
            rw [upd_dropP, upd_self k1]
          | true =>
            rw [if_pos rfl] at ev4 ⊢
            obtain ⟨y, h6, e6, ev6⟩ := bindM_some ev4
            obtain ⟨ys, h7, e7, ev7⟩ := bindM_some ev6
            refine s3 n g5 σ4 H5 ds3 h4 y h6 _ S5 e6 fun g6 H6 vy E6 S6 r6 => ?_
            have E36 := E35.trans E6
            obtain ⟨k1, k2, k3, k4⟩ := E36.above hp0 ap1 ap2
            cases ev7
            refine ⟨accV, k1, ?_, g6, dropP H6 p, h6, accD ++ [y], accV ++ [vy], ys, dropP_same, ?_, E2.trans k4, ⟨S6.hs.dropped k1 k2 k3, k4.sl S2.sl⟩, (k4.rls ra).append (.cons (r6.dropped k1 k2) .nil), ?_, e7, ?_⟩
            · rw [← ra.length, sizeLine_eq]; omega
            · rw [upd_dropP]
            · rw [List.length_append, List.length_singleton]; omega
            · rw [List.append_assoc]; exact hxs
      · cases ev2
    · have e : i = src.items.length := by omega
      subst e
      rw [List.drop_length] at ev2
      unfold compL at ev2
      split at ev2
      · rename_i hlv
        cases ev2
        obtain ⟨_, ok2⟩ := ok g2 _ h' (E2.trans N) S2'.hs hlv
        rw [List.append_nil] at hxs
        subst hxs
        exact .inl ⟨ok2, q g2 H0 p accV (E1.trans E2) S2 ra hp0⟩
      · cases ev2
  · cases ev1
/-! the readings that need no context -/
def tOfE (K : PySem.W.Frag) (ev : EV) : TE := fun σ H Q => ∃ n g ds h d h', Sim K g H σ ds h ∧ ev n ds h = some (d, h') ∧ PostE K g h.length H σ ds h' d Q
theorem DE.canon {e : Expr} (h : DE X e ev) : PE X e (tOfE X.K ev) := by
  obtain ⟨t, p, s⟩ := h.ex
  exact ⟨fun pins st σ H Q I q => p.run pins st σ H Q I (let ⟨n, g, ds, h, d, h', S, e, k⟩ := q; s n g σ H ds h d h' Q S e k)⟩
def tOfT (K : PySem.W.Frag) (tv : TV) : TT := fun σ H Q => ∃ n g ds h d h', Sim K g H σ ds h ∧ tv n ds h = some (d, h') ∧ PostT K g h.length H σ ds h' d Q
theorem DTs.canon {ifs : List Expr} (h : DTs X ifs tv) : PTs X ifs (tOfT X.K tv) := by
  obtain ⟨t, p, s⟩ := h.ex
  exact ⟨fun pins st σ H Q I q => p.run pins st σ H Q I (let ⟨n, g, ds, h, d, h', S, e, k⟩ := q; s n g σ H ds h d h' Q S e k)⟩
def tOfG (K : PySem.W.Frag) (gv : GV) (ts : List Nat) : TG := fun v σ H Q => ∃ n g ds h d ds' h', Sim K g H σ ds h ∧ Rl K g h.length H d v ∧ gv d n ds h = some (ds', h') ∧
  ∀ g' H' σ', Ext K g h.length H g' h'.length H' → Sim K g' H' σ' ds' h' → (∀ vs : List Nat, (∀ i ∈ ts, i ∈ vs) → wipe σ' vs = wipe σ vs) → Q σ' H'
theorem DG.canon {tg : Expr} {ts : List Nat} (h : DG X tg gv ts) : PG X tg (tOfG X.K gv ts) := by
  obtain ⟨t, p, s⟩ := h.ex
  exact ⟨fun pins st σ H v u Q I r q => p.run pins st σ H v u Q I r (let ⟨n, g, ds, h, d, ds', h', S, rr, e, k⟩ := q; s n g σ H ds h d v ds' h' Q S rr e k)⟩
variable {elt tg iter : Expr} {ifs : List Expr} {scope : Scope} {own : List (Str × Nat)} {ts : List Nat} {pos : Pos}
theorem dl_lc (hc : X.calm = true) (hN : X.N.Nodup) (hi : DI X tg iter iv) (ok : BlkOk X.N X.env.scope scope own) (hts : ∀ i ∈ ts, i ∈ own.map (·.2))
    (hg : ∀ (s : Shared) (H : Hp) (C : Addr) (cl : List (Str × Addr)) (fp : List Addr), DG (X.blk s H scope (compEnvC scope cl C X.env) fp) tg gv ts)
    (ht : ∀ (s : Shared) (H : Hp) (C : Addr) (cl : List (Str × Addr)) (fp : List Addr), DTs (X.blk s H scope (compEnvC scope cl C X.env) fp) ifs tv)
    (he : ∀ (s : Shared) (H : Hp) (C : Addr) (cl : List (Str × Addr)) (fp : List Addr), DE (X.blk s H scope (compEnvC scope cl C X.env) fp) elt ev) (hs : ∀ x, foldedSetIterable iter X.env x = pure x := by intro _; rfl) :
    DL X (.ListComp elt [⟨tg, iter, ifs, 0⟩] scope pos) (lLc iv gv tv ev (own.map (·.2))) := by
  obtain ⟨t0, p0, s0⟩ := hi.ex
  refine ⟨_, pe_lc (g := tOfG X.K gv ts) (tt := tOfT X.K tv) (te := tOfE X.K ev) hc hN p0 ok (fun s H C cl fp => (hg s H C cl fp).canon) (fun s H C cl fp => (ht s H C cl fp).canon) (fun s H C cl fp => (he s H C cl fp).canon) hs, ?_⟩
  exact lc_sound s0 (fun n g σ H ds h d v ds' h' Q S r e k => ⟨n, g, ds, h, d, ds', h', S, r, e, k⟩) (fun n g σ H ds h d h' Q S e k => ⟨n, g, ds, h, d, h', S, e, k⟩) (fun n g σ H ds h d h' Q S e k => ⟨n, g, ds, h, d, h', S, e, k⟩) hts
/-- y = [..] on one line: frozen, numbered -/
theorem ds_setLc {i : Nat} {y : Str} {py spos : Pos} (hc : X.calm = true) (hN : X.N.Nodup) (hy : X.N[i]? = some y) (hyl : X.env.scope.names.lookup y = some .local)
    (hsw : swapsWith (.ListComp elt [⟨tg, iter, ifs, 0⟩] scope pos) (some (.Name y py)) spos.line X.env = pure true) (hi : DI X tg iter iv) (ok : BlkOk X.N X.env.scope scope own) (hts : ∀ i ∈ ts, i ∈ own.map (·.2))
    (hg : ∀ (s : Shared) (H : Hp) (C : Addr) (cl : List (Str × Addr)) (fp : List Addr), DG (X.blk s H scope (compEnvC scope cl C X.env) fp) tg gv ts)
    (ht : ∀ (s : Shared) (H : Hp) (C : Addr) (cl : List (Str × Addr)) (fp : List Addr), DTs (X.blk s H scope (compEnvC scope cl C X.env) fp) ifs tv)
    (he : ∀ (s : Shared) (H : Hp) (C : Addr) (cl : List (Str × Addr)) (fp : List Addr), DE (X.blk s H scope (compEnvC scope cl C X.env) fp) elt ev) (hs : ∀ x, foldedSetIterable iter X.env x = pure x := by intro _; rfl) :
    DS X (.Assign [.Name y py] (.ListComp elt [⟨tg, iter, ifs, 0⟩] scope pos) spos) (sAsg (eFrz (lLc iv gv tv ev (own.map (·.2)))) (gNm i)) := by
  obtain ⟨t0, p0, s0⟩ := hi.ex
  refine ⟨_, ps_setLc (g := tOfG X.K gv ts) (tt := tOfT X.K tv) (te := tOfE X.K ev) hc hN hy hyl hsw p0 ok (fun s H C cl fp => (hg s H C cl fp).canon) (fun s H C cl fp => (ht s H C cl fp).canon) (fun s H C cl fp => (he s H C cl fp).canon) hs, ?_⟩
  have sl := lc_sound s0 (fun n g σ H ds h d v ds' h' Q S r e k => (⟨n, g, ds, h, d, ds', h', S, r, e, k⟩ : tOfG X.K gv ts v σ H Q)) (fun n g σ H ds h d h' Q S e k => (⟨n, g, ds, h, d, h', S, e, k⟩ : tOfT X.K tv σ H Q)) (fun n g σ H ds h d h' Q S e k => (⟨n, g, ds, h, d, h', S, e, k⟩ : tOfE X.K ev σ H Q)) hts
  refine asg_sound (ts := [i]) (fun n g σ H ds h d h' Q S ev q => ?_) (fun n g σ H ds h d v ds' h' Q S r ev q => ?_)
  · obtain ⟨xs, h1, e1, ev1⟩ := bindM_some ev
    refine sl n g σ H ds h xs h1 _ S e1 fun g1 H1 p vs E1 S1 r1 hp => ?_
    cases ev1
    have E2 : Ext X.K g1 h'.length H1 (g1.frz p) h'.length (upd H1 p (.lst vs)) := Ext.freeze hp
    exact q _ _ _ (E1.trans E2) ⟨S1.hs.freeze hp, E2.sl S1.sl⟩ (.frozen hp r1)
  · cases ev
    exact q g H _ .refl ⟨S.hs, S.sl.set r⟩ fun vs hv => wipe_set (hv i List.mem_cons_self)
theorem ds_setLcN {i : Nat} {y : Str} {py spos : Pos} (hc : X.calm = true) (hN : X.N.Nodup) (hy : X.N[i]? = some y) (hyl : X.env.scope.names.lookup y = some .local)
    (hsw : swapsWith (.ListComp elt [⟨tg, iter, ifs, 0⟩] scope pos) (some (.Name y py)) spos.line X.env = pure true) (hi : DI X tg iter iv) (ok : BlkOk X.N X.env.scope scope own) (hts : ∀ i ∈ ts, i ∈ own.map (·.2))
    (hg : ∀ (s : Shared) (H : Hp) (C : Addr) (cl : List (Str × Addr)) (fp : List Addr), DG (X.blk s H scope (compEnvC scope cl C X.env) fp) tg gv ts)
    (ht : ∀ (s : Shared) (H : Hp) (C : Addr) (cl : List (Str × Addr)) (fp : List Addr), DTs (X.blk s H scope (compEnvC scope cl C X.env) fp) ifs tv)
    (he : ∀ (s : Shared) (H : Hp) (C : Addr) (cl : List (Str × Addr)) (fp : List Addr), DE (X.blk s H scope (compEnvC scope cl C X.env) fp) elt ev) (hs : ∀ x, foldedSetIterable iter X.env x = pure x := by intro _; rfl) :
    DS X (.Assign [.Name y py] (.ListComp elt [⟨tg, iter, ifs, 0⟩] scope pos) spos) (sAsg (eNew (lLc iv gv tv ev (own.map (·.2)))) (gNm i)) := by
  obtain ⟨t0, p0, s0⟩ := hi.ex
  refine ⟨_, ps_setLc (g := tOfG X.K gv ts) (tt := tOfT X.K tv) (te := tOfE X.K ev) hc hN hy hyl hsw p0 ok (fun s H C cl fp => (hg s H C cl fp).canon) (fun s H C cl fp => (ht s H C cl fp).canon) (fun s H C cl fp => (he s H C cl fp).canon) hs, ?_⟩
  have sl := lc_sound s0 (fun n g σ H ds h d v ds' h' Q S r e k => (⟨n, g, ds, h, d, ds', h', S, r, e, k⟩ : tOfG X.K gv ts v σ H Q)) (fun n g σ H ds h d h' Q S e k => (⟨n, g, ds, h, d, h', S, e, k⟩ : tOfT X.K tv σ H Q)) (fun n g σ H ds h d h' Q S e k => (⟨n, g, ds, h, d, h', S, e, k⟩ : tOfE X.K ev σ H Q)) hts
  refine asg_sound (ts := [i]) (fun n g σ H ds h d h' Q S ev q => ?_) (fun n g σ H ds h d v ds' h' Q S r ev q => ?_)
  · obtain ⟨xs, h1, e1, ev1⟩ := bindM_some ev
    refine sl n g σ H ds h xs h1 _ S e1 fun g1 H1 p vs E1 S1 r1 hp => ?_
    cases ev1
    have E2 : Ext X.K g1 h1.length H1 (g1.put h1.length p) (h1.length + 1) (upd H1 p (.lst vs)) := Ext.number hp
    have hl2 : (h1 ++ [Cell.lst xs]).length = h1.length + 1 := by simp
    refine q _ _ _ ?_ ⟨S1.hs.number hp ⟨vs, upd_same, E2.rls r1⟩, ?_⟩ ?_
    · rw [hl2]; exact E1.trans E2
    · rw [hl2]; exact E2.sl S1.sl
    · rw [hl2]
      have := Rl.ref (K := X.K) (g := g1.put h1.length p) (n := h1.length + 1) (H := upd H1 p (.lst vs)) (i := h1.length) (Nat.lt_succ_self _)
      rw [Gh.put_same] at this
      exact this
  · cases ev
    exact q g H _ .refl ⟨S.hs, S.sl.set r⟩ fun vs hv => wipe_set (hv i List.mem_cons_self)
end

/-! ### defs -/
inductive Res where
  | val (d : D) | fresh (xs : List D)
abbrev Fn := List D → M Res
def PostR (K : PySem.W.Frag) (g : Gh) (n : Nat) (H : Hp) (h' : Hd) (Q : VK) : Res → Prop
  | .val d => ∀ g' H' v, Ext K g n H g' h'.length H' → HS K g' H' h' → Rl K g' h'.length H' d v → Q v H'
  | .fresh xs => ∀ g' H' p vs, Ext K g n H g' h'.length H' → HS K g' H' h' → Rls K g' h'.length H' xs vs → H' p = none → Q (.ref p) (upd H' p (.lst vs))
def spD (K : PySem.W.Frag) (k : Nat) (m : Fn) : Sp := fun vs H Q _ => vs.length = k ∧ ∃ g ds h res h', HS K g H h ∧ Rls K g h.length H ds vs ∧ m ds h = some (res, h') ∧ PostR K g h.length H h' Q res
/-- a def of the text that does what m says -/
structure Callee (P : Program) (w : World) (K : PySem.W.Frag) (mg : Str → Option Value) (base : Heap) (k : Nat) (x : Str) (ar : Nat) (m : Fn) : Prop where
  ex : ∃ (f : Addr) (fd : FuncData) (ps : List Str), FnOk P w K mg base CX0 k f fd ps (spD K ar m) ∧ mg x = some (.ref f) ∧ PySem.W.keepIn K (.ref f) = true ∧ Binds K fd ps []
def resD : Res → D
  | .val d => d
  | .fresh xs => .lst xs
def eCall (m : Fn) (ar : Nat) (a : AV) : EV := fun n ds => bindM (a n ds) fun xs => if xs.length = ar then bindM (m xs) fun r => retM (resD r) else failM
def lCall (m : Fn) (ar : Nat) (a : AV) : AV := fun n ds => bindM (a n ds) fun xs => if xs.length = ar then bindM (m xs) fun r => match r with
  | .fresh xs => retM xs
  | .val _ => failM else failM
section
variable {X : Cx} {x : Str} {p pos : Pos} {e : Expr} {es : List Expr} {ar : AV} {k a : Nat} {m : Fn}
theorem de_call (hc : Callee X.prog X.w X.K X.mg X.base k x a m) (hr : Room k X.A) (hg : Gl X x) (ha : DA X (e :: es) ar) (hdb : (x == ("__debug__" : Str)) = false := by decide) (he : starEach (e :: es) X.env = (false, eval e X.env) :: starEach es X.env := by rfl) (hpl : (backTo pos (starEach es X.env)).any (·.1) = false := by rfl) :
    DE X (.Call (.Name x p) (e :: es) [] pos) (eCall m a ar) := by
  obtain ⟨f, fd, ps, F, hm, hk, hb⟩ := hc.ex
  obtain ⟨t, pa, sa⟩ := ha.ex
  refine ⟨_, pe_call F hr hg hm hk hb .nil pass0 pa hdb he hpl, fun n g σ H ds h d h' Q S ev q => ?_⟩
  obtain ⟨xs, h1, e1, ev1⟩ := bindM_some ev
  refine sa n g σ H ds h xs h1 _ S e1 fun g1 H1 vs E1 S1 r1 => ?_
  split at ev1
  · rename_i hl
    obtain ⟨res, h2, e2, ev2⟩ := bindM_some ev1
    cases ev2
    rw [List.append_nil]
    refine ⟨by rw [← r1.length]; exact hl, g1, xs, h1, res, h', S1.hs, r1, e2, ?_⟩
    cases res with
    | val d => exact fun g2 H2 v E2 hs2 r2 => q g2 H2 v (E1.trans E2) ⟨hs2, E2.sl S1.sl⟩ r2
    | fresh ys =>
      intro g2 H2 p us E2 hs2 r2 hp
      have E3 : Ext X.K g2 h'.length H2 (g2.frz p) h'.length (upd H2 p (.lst us)) := Ext.freeze hp
      exact q _ _ _ ((E1.trans E2).trans E3) ⟨hs2.freeze hp, E3.sl (E2.sl S1.sl)⟩ (.frozen hp r2)
  · cases ev1
theorem dl_call (hc : Callee X.prog X.w X.K X.mg X.base k x a m) (hr : Room k X.A) (hg : Gl X x) (ha : DA X (e :: es) ar) (hdb : (x == ("__debug__" : Str)) = false := by decide) (he : starEach (e :: es) X.env = (false, eval e X.env) :: starEach es X.env := by rfl) (hpl : (backTo pos (starEach es X.env)).any (·.1) = false := by rfl) :
    DL X (.Call (.Name x p) (e :: es) [] pos) (lCall m a ar) := by
  obtain ⟨f, fd, ps, F, hm, hk, hb⟩ := hc.ex
  obtain ⟨t, pa, sa⟩ := ha.ex
  refine ⟨_, pe_call F hr hg hm hk hb .nil pass0 pa hdb he hpl, fun n g σ H ds h ys h' Q S ev q => ?_⟩
  obtain ⟨xs, h1, e1, ev1⟩ := bindM_some ev
  refine sa n g σ H ds h xs h1 _ S e1 fun g1 H1 vs E1 S1 r1 => ?_
  split at ev1
  · rename_i hl
    obtain ⟨res, h2, e2, ev2⟩ := bindM_some ev1
    cases res with
    | val d => cases ev2
    | fresh zs =>
      cases ev2
      rw [List.append_nil]
      exact ⟨by rw [← r1.length]; exact hl, g1, xs, h1, .fresh ys, h', S1.hs, r1, e2, fun g2 H2 p us E2 hs2 r2 hp => q g2 H2 p us (E1.trans E2) ⟨hs2, E2.sl S1.sl⟩ r2 hp⟩
  · cases ev1
end

/-- what a body hands back: the value d over hf is res over h' -/
def okCell (n : Nat) : Cell → Bool
  | .lst xs => okRs n xs
  | .dK kvs => okRs n (kvs.map (·.2))
structure Back (h : Hd) (d : D) (hf : Hd) (res : Res) (h' : Hd) : Prop where
  le : h.length ≤ hf.length
  len : h'.length = h.length
  take : h' = hf.take h.length
  ok : ∀ (i : Nat) (c : Cell), h'[i]? = some c → h[i]? = some c ∨ okCell h.length c = true
  res : (res = .val d ∧ d.okR h.length = true) ∨ ∃ i xs, d = .ref i ∧ h.length ≤ i ∧ cellL hf i = some xs ∧ okRs h.length xs = true ∧ res = .fresh xs
def flD : Fl → Option D
  | .rt d => some d
  | .nx _ => some .non
  | _ => none
def startD (N k : Nat) (ds : List D) : Sl := ds.map some ++ List.replicate (N - k) none
/-- a body does m -/
def Does (sv : SV) (N k : Nat) (m : Fn) : Prop := ∀ (ds : List D) (h : Hd) (res : Res) (h' : Hd), ds.length = k → m ds h = some (res, h') → ∃ n fl hf d, sv n (startD N k ds) h = some (fl, hf) ∧ flD fl = some d ∧ Back h d hf res h'
section
variable {K : PySem.W.Frag} {g g' : Gh} {H H' : Hp} {h hf h' : Hd}
theorem cell_cut {n m : Nat} {a : Addr} {c : Cell} (k : CellOk K g n H a c) (o : okCell m c = true) : CellOk K g m H a c := by
  cases c with
  | lst xs => obtain ⟨vs, e, r⟩ := k; exact ⟨vs, e, r.cut o⟩
  | dK kvs => obtain ⟨kv, e, e2, r⟩ := k; exact ⟨kv, e, e2, r.cut o⟩
theorem cell_okR {n : Nat} {a : Addr} {c : Cell} (k : CellOk K g n H a c) : okCell n c = true := by
  cases c with
  | lst xs => obtain ⟨vs, e, r⟩ := k; exact r.okR
  | dK kvs => obtain ⟨kv, e, e2, r⟩ := k; exact r.okR
theorem back_post {d : D} {res : Res} {Q : VK} {v : V} (hs : HS K g H h) (b : Back h d hf res h') (E : Ext K g h.length H g' hf.length H') (hs' : HS K g' H' hf) (r : Rl K g' hf.length H' d v) (q : PostR K g h.length H h' Q res) : Q v H' := by
  have hcell : ∀ (i : Nat) (c : Cell), h'[i]? = some c → CellOk K g' h'.length H' (g'.al i) c := fun i c e => by
    have e2 : hf[i]? = some c := by
      rw [b.take] at e
      have hi : i < h.length := by
        have := (List.getElem?_eq_some_iff.mp e).1
        rw [List.length_take] at this
        omega
      rw [List.getElem?_take_of_lt hi] at e
      exact e
    have k := hs'.cell i c e2
    rw [b.len]
    refine cell_cut k ?_
    rcases b.ok i c e with z | z
    · exact cell_okR (hs.cell i c z)
    · exact z
  have hl : h'.length = h.length := b.len
  have hsB : HS K g' H' h' := ⟨hcell, fun i j hi hj => hs'.inj i j (by have := b.le; omega) (by have := b.le; omega), fun i hi => hs'.gap i (by have := b.le; omega), hs'.gs⟩
  have EB : Ext K g h.length H g' h'.length H' := by
    rw [hl]
    exact ⟨Nat.le_refl _, E.al, fun i a c => by omega, E.G, E.nG, E.frame, E.dom, E.tup, E.frz, E.ro⟩
  rcases b.res with ⟨rfl, k⟩ | ⟨i, xs, rfl, hi, ex, ok, rfl⟩
  · exact q g' H' v EB hsB (by rw [hl]; exact r.cut k)
  · obtain ⟨vs, hv, rv⟩ := cellL_ok hs' ex
    cases r with
    | ref hi2 =>
      have hG := hs'.gap i hi2
      have hne : ∀ j, j < h'.length → g'.al j ≠ g'.al i := fun j hj z => by
        have := hs'.inj j i (by have := b.le; omega) hi2 z
        omega
      have hpn : H (g'.al i) = none := E.nal i hi hi2
      have hs2 : HS K g' (dropP H' (g'.al i)) h' := hsB.dropped hv hG hne
      have E2 : Ext K g h.length H g' h'.length (dropP H' (g'.al i)) := by
        refine ⟨EB.le, EB.al, EB.nal, EB.G, EB.nG, fun x o e hx => ?_, fun x e => ?_, fun x us y => drop_tup (g := g') hv hG x us (EB.tup x us y), fun x us y => drop_frz (g := g') hv hG x us (EB.frz x us y), fun x us y => drop_ro hv x us (EB.ro x us y)⟩
        · rw [dropP_ne (fun z => by rw [z, hpn] at e; cases e)]
          exact EB.frame x o e hx
        · by_cases z : x = g'.al i
          · rw [z]; exact hpn
          · rw [dropP_ne z] at e
            exact EB.dom x e
      have := q g' (dropP H' (g'.al i)) (g'.al i) vs E2 hs2 (by rw [hl]; exact (rv.cut ok).dropped hv hG) dropP_same
      rw [upd_dropP, upd_self hv] at this
      exact this
theorem startD_ok {N : List Str} {ds : List D} {vs : List V} {n : Nat} {k : Nat} (r : Rls K g n H ds vs) (hk : vs.length = k) : SlS K g n H (L2.start N vs) (startD N.length k ds) := by
  have hl := r.length
  unfold L2.start startD
  refine ⟨by simp [hl, hk], fun i d e => ?_⟩
  by_cases hi : i < ds.length
  · rw [List.getElem?_append_left (by simpa using hi), List.getElem?_map] at e
    cases e1 : ds[i]? with
    | none => rw [e1] at e; cases e
    | some d' =>
      rw [e1] at e
      cases e
      obtain ⟨v, hv, rv⟩ := r.get e1
      exact ⟨v, by rw [List.getElem?_append_left (by simpa using (by omega : i < vs.length)), List.getElem?_map, hv]; rfl, rv⟩
  · rw [List.getElem?_append_right (by simpa using (by omega : ds.length ≤ i)), List.getElem?_replicate] at e
    split at e <;> cases e
/-- THE RULE for a def -/
theorem fn_does {P : Program} {w : World} {mg : Str → Option Value} {base : Heap} {x qual : Str} {st : Stmt} {f : Addr} {fd : FuncData} {N ps : List Str} {k : Nat} {sv : SV} {m : Fn} (F : Fun K x qual st f fd) (S : FnScope N ps (defScope st))
    (hb : Binds K fd ps []) (hm : mg x = some (.ref f))
    (hbody : ∀ (cdv : Value) (A : Around) (outer : List Env) (s : Shared) (H : Hp) (E : XK), Room k (A.deeper (envOfC qual (defScope st) s.heap.objs.size f cdv)) →
      DSs (cxOf CX0 P w K mg base N qual (defScope st) f cdv A outer s H E).nox (defBody st) sv)
    (hd : Does sv N.length ps.length m) : Callee P w K mg base (k + 1) x ps.length m := by
  refine ⟨f, fd, ps, F.ok S (fun vs H Q E q => q.1) (fun cdv A outer s H vs Q E hr q => ?_), hm, F.kp, hb⟩
  obtain ⟨t, pt, sd⟩ := (hbody cdv A outer s H E hr).ex
  obtain ⟨hl, g, ds, h, res, h', hs, r, e, post⟩ := q
  obtain ⟨n, fl, hf, d, e1, e2, b⟩ := hd ds h res h' (by rw [r.length]; exact hl) e
  refine ⟨t, pt, sd n g _ H _ h fl hf _ ⟨hs, startD_ok r hl⟩ e1 ?_⟩
  cases fl with
  | nx ds' => cases e2; exact fun g' H' σ' E' S' => back_post hs b E' S'.hs .non post
  | rt d' => cases e2; exact fun g' H' v E' S' r' => back_post hs b E' S' r' post
  | bk _ => cases e2
  | ct _ => cases e2
end
end DK

namespace DK
open PySem PySem.Spec PyProof.Rows L2

/-! ### a body run: the mirror that needs no hand -/
def resOf (n : Nat) (d : D) (hf : Hd) : Option Res := if d.okR n = true then some (.val d) else match d with
  | .ref i => match cellL hf i with
    | some xs => if (decide (n ≤ i) && okRs n xs) = true then some (.fresh xs) else none
    | none => none
  | _ => none
def mRun (sv : SV) (N k fuel : Nat) : Fn := fun ds h => match sv fuel (startD N k ds) h with
  | some (fl, hf) => match flD fl with
    | some d => if (decide (h.length ≤ hf.length) && (hf.take h.length).all (okCell h.length)) = true then match resOf h.length d hf with
        | some res => some (res, hf.take h.length)
        | none => none
      else none
    | none => none
  | none => none
theorem does_run {sv : SV} {N k fuel : Nat} : Does sv N k (mRun sv N k fuel) := by
  intro ds h res h' hk e
  unfold mRun at e
  split at e
  · rename_i fl hf e1
    split at e
    · rename_i d e2
      split at e
      · rename_i hc
        rw [Bool.and_eq_true, decide_eq_true_eq, List.all_eq_true] at hc
        split at e
        · rename_i res' e3
          cases e
          refine ⟨fuel, fl, hf, d, e1, e2, hc.1, by rw [List.length_take]; omega, rfl, fun i c q => .inr (hc.2 c (List.mem_of_getElem? q)), ?_⟩
          unfold resOf at e3
          split at e3
          · rename_i hd
            cases e3
            exact .inl ⟨rfl, hd⟩
          · split at e3
            · split at e3
              · rename_i xs e4
                split at e3
                · rename_i h5
                  cases e3
                  rw [Bool.and_eq_true, decide_eq_true_eq] at h5
                  exact .inr ⟨_, xs, rfl, h5.1, e4, h5.2, rfl⟩
                · cases e3
              · cases e3
            · cases e3
        · cases e
      · cases e
    · cases e
  · cases e

/-! ### + and * of what there is -/
section
variable {X : Cx}
def orFrz (a : M D) (b : M (List D)) : M D := fun h => match a h with
  | some r => some r
  | none => match b h with
    | some (xs, h') => some (.lst xs, h')
    | none => none
theorem dop_or {f : Value → Value → Sem Value} {o1 : D → D → M D} {o2 : D → D → M (List D)} (h1 : DOp X f o1) (h2 : LOp X f o2) : DOp X f fun x y => orFrz (o1 x y) (o2 x y) := by
  obtain ⟨r1, p1, s1⟩ := h1.ex
  obtain ⟨r2, p2, s2⟩ := h2.ex
  refine ⟨fun x y H Q => r1 x y H Q ∨ r2 x y H Q, fun pins s σ H x y v u Q I rx ry q => q.elim (p1 pins s σ H x y v u Q I rx ry) (p2 pins s σ H x y v u Q I rx ry), fun g H h x y vx vy d h' Q hs rx ry e q => ?_⟩
  unfold orFrz at e
  split at e
  · rename_i r e1
    cases e
    exact .inl (s1 g H h x y vx vy _ _ Q hs rx ry e1 q)
  · split at e
    · rename_i xs h2 e2
      cases e
      refine .inr (s2 g H h x y vx vy xs h' Q hs rx ry e2 fun g1 H1 p vs E1 hs1 r1 hp => ?_)
      have E2 : Ext X.K g1 h'.length H1 (g1.frz p) h'.length (upd H1 p (.lst vs)) := Ext.freeze hp
      exact q _ _ _ (E1.trans E2) (hs1.freeze hp) (.frozen hp r1)
    · cases e
def opAddA (x y : D) : M D := orFrz (opAdd x y) (loCat x y)
def opMulA (x y : D) : M D := orFrz (opMul x y) (loRep x y)
def ipMod (x y : D) : M D := match x, y with
  | .int i, .int j => if 0 < j then retM (.int (i % j)) else failM
  | _, _ => failM
def ipDiv (x y : D) : M D := match x, y with
  | .int i, .int j => if j ≠ 0 ∧ j.natAbs < 1073741824 ∧ 0 < j then retM (.int (i / j)) else failM
  | _, _ => failM
theorem dip_mod : DOp X (inplaceOp .Mod) ipMod := dop_I iop_mod fun x y h d h' e => by
  cases x <;> cases y <;> first | (cases e; done) | skip
  rename_i i j
  have e : (if 0 < j then retM (D.int (i % j)) else failM) h = some (d, h') := e
  split at e
  · rename_i hl
    cases e
    exact ⟨_, _, rfl, rfl, hl, rfl, rfl⟩
  · cases e
theorem dip_div : DOp X (inplaceOp .FloorDiv) ipDiv := dop_I iop_fdiv fun x y h d h' e => by
  cases x <;> cases y <;> first | (cases e; done) | skip
  rename_i i j
  have e : (if j ≠ 0 ∧ j.natAbs < 1073741824 ∧ 0 < j then retM (D.int (i / j)) else failM) h = some (d, h') := e
  split at e
  · rename_i hl
    cases e
    exact ⟨_, _, rfl, rfl, ⟨hl.2.2, by omega⟩, rfl, rfl⟩
  · cases e
theorem dop_addA : DOp X (binaryOp .Add) opAddA := dop_or dop_add lop_cat
theorem dop_mulA : DOp X (binaryOp .Mult) opMulA := dop_or dop_mul lop_rep
end
theorem dkb_abs : bootBuiltins "abs" = some (.builtin "abs") := by decide +kernel
theorem dkb_sum : bootBuiltins "sum" = some (.builtin "sum") := by decide +kernel
theorem dkb_all : bootBuiltins "all" = some (.builtin "all") := by decide +kernel
theorem dkb_any : bootBuiltins "any" = some (.builtin "any") := by decide +kernel
theorem dkb_max : bootBuiltins "max" = some (.builtin "max") := by decide +kernel
theorem dkb_min : bootBuiltins "min" = some (.builtin "min") := by decide +kernel
theorem dkb_sorted : bootBuiltins "sorted" = some (.builtin "sorted") := by decide +kernel
theorem dkb_isinstance : bootBuiltins "isinstance" = some (.builtin "isinstance") := by decide +kernel
theorem dkb_len : bootBuiltins "len" = some (.builtin "len") := by decide +kernel
theorem dkb_int : bootBuiltins "int" = some (.type "int") := by decide +kernel
theorem dkb_bool : bootBuiltins "bool" = some (.type "bool") := by decide +kernel
theorem dkb_str : bootBuiltins "str" = some (.type "str") := by decide +kernel
theorem dkb_list : bootBuiltins "list" = some (.type "list") := by decide +kernel
theorem dkb_tuple : bootBuiltins "tuple" = some (.type "tuple") := by decide +kernel
theorem dkb_dict : bootBuiltins "dict" = some (.type "dict") := by decide +kernel
end DK

namespace DZ
open PySem PySem.Spec PyProof.Rows
open Sem (wp)

section
variable {M : Model} {A : Around} {E : Value → Shared → Prop}
/-- a for that goes through -/
theorem forIn_all {α β : Type} {f : α → β → Sem (ForInStep β)} (bs : Nat → β) (Inv : Nat → Shared → Prop) {Q : β → Shared → Prop} : ∀ (l : List α) (i : Nat) (s : Shared),
    (∀ j x s', l[j]? = some x → Inv (i + j) s' → wpAny M A (f x (bs (i + j))) (fun r s2 => r = .yield (bs (i + j + 1)) ∧ Inv (i + j + 1) s2) E s') → Inv i s → (∀ s', Inv (i + l.length) s' → Q (bs (i + l.length)) s') → wpAny M A (forIn l (bs i) f) Q E s
  | [], i, s, _, h, q => by
    rw [List.forIn_nil]
    exact wpAny_pure (q s h)
  | x :: r, i, s, st, h, q => by
    rw [List.forIn_cons]
    refine wpAny_bind (wpAny_mono (st 0 x s rfl h) (fun y s2 hy => ?_) fun _ _ e => e)
    obtain ⟨rfl, hi⟩ := hy
    have e1 : ∀ j, i + 1 + j = i + (j + 1) := fun j => by omega
    refine forIn_all bs Inv r (i + 1) s2 (fun j x s' hx hj => ?_) hi fun s' hs => ?_
    · rw [e1] at hj ⊢
      exact st (j + 1) x s' hx hj
    · rw [e1] at hs ⊢
      exact q s' hs
end

abbrev IsZ (h : Heap) (z TI TO : Addr) (f0 f1 : Value) : Prop := h.get? z = some { cls := .type "zip", dict := none, data := .fields #[f0, f1, .bool false, .ref TI, .ref TO], slots := #[] }
abbrev IsT (h : Heap) (T : Addr) (vs : Array Value) : Prop := h.get? T = some { cls := .type "tuple", data := .seq vs }
def refs (is : List Addr) : List Value := is.map Value.ref
/-- where all stands -/
structure ZA (h : Heap) (b z TI TO : Addr) (is : List Addr) (rows : List (Addr × Array Value)) : Prop where
  zb : b ≤ z
  tb : b ≤ TI
  ob : b ≤ TO
  zt : z ≠ TI
  zo : z ≠ TO
  to_ : TI ≠ TO
  ib : ∀ i ∈ is, b ≤ i ∧ i ≠ z ∧ i ≠ TI ∧ i ≠ TO
  nd : is.Nodup
  len : is.length = rows.length
  tup : ∀ r ∈ rows, r.1 < b ∧ h.IsTuple r.1 r.2
/-- the iterators, the first n of them a step on -/
def Its (h : Heap) (is : List Addr) (rows : List (Addr × Array Value)) (k n : Nat) : Prop := ∀ (j : Nat) (i : Addr) (r : Addr × Array Value), is[j]? = some i → rows[j]? = some r → h.IsTupleIter i r.1 (if j < n then k + 1 else k)
def Keep (xs : List Addr) (h h' : Heap) : Prop := h.objs.size ≤ h'.objs.size ∧ ∀ c o, c ∉ xs → h.get? c = some o → h'.get? c = some o
theorem Keep.refl {xs : List Addr} {h : Heap} : Keep xs h h := ⟨Nat.le_refl _, fun _ _ _ e => e⟩
theorem Keep.trans {xs : List Addr} {h h1 h2 : Heap} (a : Keep xs h h1) (b : Keep xs h1 h2) : Keep xs h h2 := ⟨Nat.le_trans a.1 b.1, fun c o n e => b.2 c o n (a.2 c o n e)⟩
theorem Keep.but {xs : List Addr} {h h' : Heap} {a : Addr} (ha : a ∈ xs) (hs : Heap.SameBut a h h') : Keep xs h h' := ⟨Nat.le_of_eq hs.1.symm, fun c o n e => hs.extBut c o (fun z => n (z ▸ ha)) e⟩
theorem Keep.push {xs : List Addr} {h : Heap} {o : Obj} : Keep xs h (h.push o) := ⟨by rw [Heap.size_push]; exact Nat.le_succ _, fun c o _ e => Heap.get?_push_of_some _ e⟩
def mv (z TO : Addr) (is : List Addr) : List Addr := z :: TO :: is
section
variable {h h' : Heap} {b z TI TO : Addr} {is : List Addr} {rows : List (Addr × Array Value)} {k n : Nat}
theorem ZA.row (Z : ZA h b z TI TO is rows) {j : Nat} {i : Addr} (hi : is[j]? = some i) : ∃ r, rows[j]? = some r := by
  have := (List.getElem?_eq_some_iff.mp hi).1
  exact ⟨_, List.getElem?_eq_getElem (by rw [← Z.len]; exact this)⟩
theorem ZA.notIn (Z : ZA h b z TI TO is rows) {t : Addr} (ht : t < b) : t ∉ mv z TO is := by
  intro q
  rcases List.mem_cons.mp q with e | q
  · rw [e] at ht; exact absurd ht (Nat.not_lt.mpr Z.zb)
  · rcases List.mem_cons.mp q with e | q
    · rw [e] at ht; exact absurd ht (Nat.not_lt.mpr Z.ob)
    · exact absurd ht (Nat.not_lt.mpr (Z.ib t q).1)
theorem ZA.tiNot (Z : ZA h b z TI TO is rows) : TI ∉ mv z TO is := by
  intro q
  rcases List.mem_cons.mp q with e | q
  · exact Z.zt e.symm
  · rcases List.mem_cons.mp q with e | q
    · exact Z.to_ e
    · exact (Z.ib TI q).2.2.1 rfl
theorem ZA.tupAt (Z : ZA h b z TI TO is rows) (K : Keep (mv z TO is) h h') {r : Addr × Array Value} (hr : r ∈ rows) : h'.IsTuple r.1 r.2 := by
  obtain ⟨hb, o, ho, q⟩ := Z.tup r hr
  exact ⟨o, K.2 _ o (Z.notIn hb) ho, q⟩
/-- a step of the iterator at j -/
theorem Its.step (Z : ZA h b z TI TO is rows) {h1 h2 : Heap} {j : Nat} {i : Addr} {r : Addr × Array Value} (I : Its h1 is rows k j) (hi : is[j]? = some i) (hr : rows[j]? = some r) (hs : Heap.SameBut i h1 h2) (ht : h2.IsTupleIter i r.1 (k + 1)) : Its h2 is rows k (j + 1) := by
  intro j' i' r' hi' hr'
  by_cases e : j' = j
  · subst e
    rw [hi] at hi'
    rw [hr] at hr'
    cases hi'
    cases hr'
    rw [if_pos (Nat.lt_succ_self _)]
    exact ht
  · have ne : i' ≠ i := fun z => e ((List.getElem?_inj (List.getElem?_eq_some_iff.mp hi').1 Z.nd).mp (by rw [hi', hi, z]))
    have q := I j' i' r' hi' hr'
    have e2 : (if j' < j + 1 then k + 1 else k) = if j' < j then k + 1 else k := by
      by_cases z : j' < j
      · rw [if_pos z, if_pos (by omega)]
      · rw [if_neg z, if_neg (by omega)]
    rw [e2]
    exact q.extBut hs.extBut ne
theorem Its.other {h1 h2 : Heap} {a : Addr} (I : Its h1 is rows k n) (ha : a ∉ is) (hs : Heap.ExtBut a h1 h2) : Its h2 is rows k n := fun j i r hi hr => (I j i r hi hr).extBut hs fun e => ha (by rw [← e]; exact List.mem_of_getElem? hi)
theorem Its.pushed {h1 : Heap} {o : Obj} (I : Its h1 is rows k n) : Its (h1.push o) is rows k n := fun j i r hi hr => (I j i r hi hr).at fun o e => Heap.get?_push_of_some _ e
theorem Its.all {h1 : Heap} (I : Its h1 is rows k is.length) : Its h1 is rows (k + 1) 0 := fun j i r hi hr => by
  have q := I j i r hi hr
  rw [if_pos (List.getElem?_eq_some_iff.mp hi).1] at q
  rw [if_neg (Nat.not_lt_zero _)]
  exact q
end
section
variable {prog : Program} {w : World} {A : Around} {E : Value → Shared → Prop} {s : Shared} {h0 : Heap} {b z TI TO : Addr} {is : List Addr} {rows : List (Addr × Array Value)} {k : Nat}
/-- the first time: the own tuple again -/
theorem next_first (Z : ZA h0 b z TI TO is rows) (K0 : Keep (mv z TO is) h0 s.heap) {f1 : Value} {kept : Array Value} (hz : IsZ s.heap z TI TO .none f1) (hTI : IsT s.heap TI (refs is).toArray) (hTO : IsT s.heap TO kept) (hk : kept.size = is.length) (hl : is.length ≤ sizeLine) (hne : is ≠ [])
    (hI : Its s.heap is rows k 0) (col : List Value) (hc : col.length = is.length) (hcol : ∀ (j : Nat) (r : Addr × Array Value) (x : Value), rows[j]? = some r → col[j]? = some x → r.2[k]? = some x) {Q : Value → Shared → Prop}
    (hQ : ∀ (h' : Heap) (T : Addr) (f1' : Value), IsZ h' z TI TO (rawInt T) f1' → s.heap.objs.size ≤ T → T < h'.objs.size → IsT h' T col.toArray → Its h' is rows (k + 1) 0 → Keep (mv z TO is) s.heap h' → (∃ o, h'.get? TO = some o) → Q (.ref T) { s with heap := h' }) :
    wpAny (model prog w) A (Builtin.«zip.__next__» ⟨[.ref z], []⟩) (fun fin s' => ∃ v, fin = .done (.ret v) ∧ Q v s') E s := by
  show wpAny _ _ (field (.ref z) 2 >>= _) _ _ _
  refine wpAny_bind (wpAny_field hz rfl (x := .bool false) rfl ?_)
  show wpAny _ _ (field (.ref z) 3 >>= _) _ _ _
  refine wpAny_bind (wpAny_field hz rfl (x := .ref TI) rfl ?_)
  refine wpAny_bind (wpAny_seqItems hTI rfl ?_)
  have hemp : (refs is).toArray.isEmpty = false := by
    cases is with
    | nil => exact absurd rfl hne
    | cons a r => rfl
  simp only [hemp]
  show wpAny _ _ (Builtin.SmallTypes.ownedTupleIsFree (.ref z) >>= _) _ _ _
  refine wpAny_bind ?_
  unfold Builtin.SmallTypes.ownedTupleIsFree
  refine wpAny_bind (wpAny_field hz rfl (x := .none) rfl (wpAny_pure ?_))
  simp only [if_true]
  refine wpAny_bind (wpAny_rule ?_)
  refine wpAny_bind (wpAny_field hz rfl (x := .ref TO) rfl ?_)
  refine wpAny_bind (wpAny_setField_rec hz (by simp) fun h₁ hz₁ hs₁ => ?_)
  replace hz₁ : IsZ h₁ z TI TO .ellipsis f1 := hz₁
  refine wpAny_bind ?_
  have hzin : z ∈ mv z TO is := List.mem_cons_self
  have hTin : TO ∈ mv z TO is := List.mem_cons_of_mem _ List.mem_cons_self
  have hiin : ∀ i ∈ is, i ∈ mv z TO is := fun i hi => List.mem_cons_of_mem _ (List.mem_cons_of_mem _ hi)
  have znis : z ∉ is := fun q => (Z.ib z q).2.1 rfl
  have Tnis : TO ∉ is := fun q => (Z.ib TO q).2.2.2 rfl
  have hI1 : Its h₁ is rows k 0 := hI.other znis hs₁.extBut
  refine forIn_all (fun _ => (none, PUnit.unit)) (fun j s' => ∃ kp : Array Value, s' = { s with heap := s'.heap } ∧ IsZ s'.heap z TI TO .ellipsis f1 ∧ IsT s'.heap TO kp ∧ kp.size = is.length ∧ (∀ (j' : Nat) (x : Value), j' < j → col[j']? = some x → kp[j']? = some x) ∧ Its s'.heap is rows k j ∧ Keep (mv z TO is) s.heap s'.heap ∧ s'.heap.objs.size = s.heap.objs.size)
    _ 0 _ (fun j x s' hx hj => ?_) ⟨kept, rfl, hz₁, hs₁.extBut _ _ Z.zo.symm hTO, hk, fun j' x q => absurd q (Nat.not_lt_zero _), hI1, Keep.but hzin hs₁, hs₁.1⟩ fun s' hs' => ?_
  · obtain ⟨kp, es, hz2, hT2, hk2, hg2, hI2, hK2, hsz2⟩ := hj
    rw [Nat.zero_add] at hI2 hg2 ⊢
    rw [es]
    have hx2 : ∃ i, is[j]? = some i ∧ x = (.ref i, j) := by
      rw [List.getElem?_zipIdx] at hx
      unfold refs at hx
      rw [List.getElem?_map] at hx
      cases e : is[j]? with
      | none => rw [e] at hx; cases hx
      | some i => rw [e] at hx; simp at hx; exact ⟨i, rfl, hx.symm⟩
    obtain ⟨i, hi, rfl⟩ := hx2
    obtain ⟨r, hr⟩ := Z.row hi
    have him : i ∈ is := List.mem_of_getElem? hi
    have hjl : j < is.length := (List.getElem?_eq_some_iff.mp hi).1
    have hcx : ∃ c, col[j]? = some c := ⟨_, List.getElem?_eq_getElem (by rw [hc]; exact hjl)⟩
    obtain ⟨c, hcj⟩ := hcx
    have hit := hI2 j i r hi hr
    rw [if_neg (Nat.lt_irrefl _)] at hit
    refine wpAny_bind (wpAny_onRaise ?_)
    show wpAny _ _ (Builtin.SmallTypes.nextOf (.ref i) >>= _) _ _ _
    refine wpAny_bind (wpAny_nextOf_tuple_item (s := { s with heap := s'.heap }) hit (Z.tupAt (K0.trans hK2) (List.mem_of_getElem? hr)) (hcol j r c hr hcj) fun h₂ hit₂ hs₂ => wpAny_pure ?_)
    have iz : i ≠ z := (Z.ib i him).2.1
    have iT : i ≠ TO := (Z.ib i him).2.2.2
    have hTO₂ : IsT h₂ TO kp := hs₂.extBut _ _ iT.symm hT2
    have hz₂ : IsZ h₂ z TI TO .ellipsis f1 := hs₂.extBut _ _ iz.symm hz2
    refine wpAny_bind (wpAny_seqItems hTO₂ rfl ?_)
    refine wpAny_bind (wpAny_updateSeq hTO₂ rfl ?_ (by rw [hk2]; exact hl) (by rw [Array.size_setIfInBounds, hk2]; omega))
    have hs₃ : Heap.SameBut TO h₂ (h₂.update TO (Obj.mapSeq (·.setIfInBounds j c))) := Heap.SameBut.update ..
    have hT₃ : IsT (h₂.update TO (Obj.mapSeq (·.setIfInBounds j c))) TO (kp.setIfInBounds j c) := by
      show Heap.get? _ _ = _
      rw [Heap.get?_update_self _ hTO₂ rfl]
      simp [Obj.mapSeq]
    refine wpAny_bind (wpAny_letGo (wpAny_pure ⟨rfl, kp.setIfInBounds j c, rfl, hs₃.extBut _ _ Z.zo hz₂, hT₃, by rw [Array.size_setIfInBounds, hk2], fun j' x q e => ?_, (Its.step Z hI2 hi hr hs₂ hit₂).other Tnis hs₃.extBut, (hK2.trans (Keep.but (hiin i him) hs₂)).trans (Keep.but hTin hs₃), ?_⟩))
    · rw [Array.getElem?_setIfInBounds]
      by_cases q2 : j = j'
      · subst q2
        rw [if_pos rfl, if_pos (by rw [hk2]; exact hjl)]
        rw [hcj] at e
        exact e
      · rw [if_neg q2]
        exact hg2 j' x (by omega) e
    · show (h₂.update TO _).objs.size = _
      rw [hs₃.1, hs₂.1]
      exact hsz2
  · obtain ⟨kp, es, hz2, hT2, hk2, hg2, hI2, hK2, hsz2⟩ := hs'
    rw [es]
    have e0 : 0 + (refs is).zipIdx.length = is.length := by simp [refs]
    rw [e0] at hg2 hI2
    have ekp : kp = col.toArray := by
      apply Array.ext_getElem?
      intro j
      by_cases hj : j < is.length
      · have e1 := List.getElem?_eq_getElem (l := col) (i := j) (by rw [hc]; exact hj)
        rw [hg2 j _ hj e1]
        simp [e1]
      · rw [Array.getElem?_eq_none (by rw [hk2]; omega)]
        simp
        omega
    subst ekp
    refine wpAny_bind (wpAny_seqItems hT2 rfl ?_)
    refine wpAny_bind (wpAny_newTuple ?_ (by rw [hc]; exact hl))
    show wpAny _ _ (Builtin.SmallTypes.ownedTupleHandOut (.ref z) (.ref s'.heap.objs.size) >>= _) _ _ _
    refine wpAny_bind ?_
    unfold Builtin.SmallTypes.ownedTupleHandOut
    have hzp : IsZ (s'.heap.push { cls := .type "tuple", data := .seq col.toArray.toList.toArray }) z TI TO .ellipsis f1 := Heap.get?_push_of_some _ hz2
    refine wpAny_bind (wpAny_setField_rec hzp (by simp) fun h₇ hz₇ hs₇ => ?_)
    replace hz₇ : IsZ h₇ z TI TO (rawInt s'.heap.objs.size) f1 := hz₇
    refine wpAny_setField_rec hz₇ (by simp) fun h₈ hz₈ hs₈ => ?_
    replace hz₈ : IsZ h₈ z TI TO (rawInt s'.heap.objs.size) (.bool false) := hz₈
    have zlt : z < s'.heap.objs.size := Heap.lt_size hz2
    have hT₈ : IsT h₈ s'.heap.objs.size col.toArray := hs₈.extBut _ _ (Nat.ne_of_gt zlt) (hs₇.extBut _ _ (Nat.ne_of_gt zlt) (Heap.get?_push_size _ rfl))
    refine wpAny_pure ⟨_, rfl, hQ h₈ s'.heap.objs.size _ hz₈ (by rw [hsz2]; exact Nat.le_refl _) (Heap.lt_size hT₈) hT₈ ((hI2.pushed.all.other znis hs₇.extBut).other znis hs₈.extBut) (((hK2.trans Keep.push).trans (Keep.but hzin hs₇)).trans (Keep.but hzin hs₈)) ⟨_, hs₈.extBut _ _ Z.zo.symm (hs₇.extBut _ _ Z.zo.symm (Heap.get?_push_of_some _ hT2))⟩⟩
theorem wpAny_alive {a : Addr} {o : Obj} {Q : Option Obj → Shared → Prop} (ho : s.heap.get? a = some o) (h : Q (some o) s) : wpAny (model prog w) A (loadIfAlive a) Q E s := by
  intro Γ p hΓ
  unfold loadIfAlive
  rw [Sem.wp_loadIfAlive, ho]
  exact h
theorem wpAny_nextOrE {t : Sem Value} {Q : Value → Shared → Prop} {R : Option Value → Shared → Prop} (h : wpAny (model prog w) A t Q E s) (q : ∀ v s', Q v s' → R (some v) s') : wpAny (model prog w) A (do return some (← t)) R E s :=
  wpAny_bind (wpAny_mono h (fun v s' x => wpAny_pure (q v s' x)) fun _ _ e => e)
/-- later: a new tuple -/
theorem next_more (Z : ZA h0 b z TI TO is rows) (K0 : Keep (mv z TO is) h0 s.heap) {T0 : Addr} {f1 : Value} (hz : IsZ s.heap z TI TO (rawInt T0) f1) (hlive : ∃ vs, IsT s.heap T0 vs) (hTI : IsT s.heap TI (refs is).toArray) (hl : is.length ≤ sizeLine) (hne : is ≠ [])
    (hI : Its s.heap is rows k 0) (col : List Value) (hc : col.length = is.length) (hcol : ∀ (j : Nat) (r : Addr × Array Value) (x : Value), rows[j]? = some r → col[j]? = some x → r.2[k]? = some x) {Q : Value → Shared → Prop}
    (hQ : ∀ (h' : Heap) (T : Addr) (f1' : Value), IsZ h' z TI TO (rawInt T0) f1' → s.heap.objs.size ≤ T → T < h'.objs.size → IsT h' T col.toArray → Its h' is rows (k + 1) 0 → Keep (mv z TO is) s.heap h' → (∀ o, s.heap.get? TO = some o → h'.get? TO = some o) → Q (.ref T) { s with heap := h' }) :
    wpAny (model prog w) A (Builtin.«zip.__next__» ⟨[.ref z], []⟩) (fun fin s' => ∃ v, fin = .done (.ret v) ∧ Q v s') E s := by
  show wpAny _ _ (field (.ref z) 2 >>= _) _ _ _
  refine wpAny_bind (wpAny_field hz rfl (x := .bool false) rfl ?_)
  show wpAny _ _ (field (.ref z) 3 >>= _) _ _ _
  refine wpAny_bind (wpAny_field hz rfl (x := .ref TI) rfl ?_)
  refine wpAny_bind (wpAny_seqItems hTI rfl ?_)
  have hemp : (refs is).toArray.isEmpty = false := by
    cases is with
    | nil => exact absurd rfl hne
    | cons a r => rfl
  simp only [hemp]
  have hzin : z ∈ mv z TO is := List.mem_cons_self
  have hTin : TO ∈ mv z TO is := List.mem_cons_of_mem _ List.mem_cons_self
  have hiin : ∀ i ∈ is, i ∈ mv z TO is := fun i hi => List.mem_cons_of_mem _ (List.mem_cons_of_mem _ hi)
  have znis : z ∉ is := fun q => (Z.ib z q).2.1 rfl
  have Tnis : TO ∉ is := fun q => (Z.ib TO q).2.2.2 rfl
  show wpAny _ _ (Builtin.SmallTypes.ownedTupleIsFree (.ref z) >>= _) _ _ _
  refine wpAny_bind ?_
  have free : wpAny (model prog w) A (Builtin.SmallTypes.ownedTupleIsFree (.ref z)) (fun y s1 => y = false ∧ ∃ h1 f1', s1 = { s with heap := h1 } ∧ IsZ h1 z TI TO (rawInt T0) f1' ∧ Its h1 is rows k 0 ∧ Keep (mv z TO is) s.heap h1 ∧ ∀ o, s.heap.get? TO = some o → h1.get? TO = some o) E s := by
    unfold Builtin.SmallTypes.ownedTupleIsFree
    refine wpAny_bind (wpAny_field hz rfl (x := rawInt T0) rfl ?_)
    obtain ⟨vs, hlv⟩ := hlive
    show wpAny _ _ (loadIfAlive (Int.toNat (T0 : Int)) >>= _) _ _ _
    rw [Int.toNat_natCast]
    refine wpAny_bind (wpAny_alive hlv ?_)
    simp only [Option.isNone_some, Bool.false_eq_true, if_false]
    refine wpAny_bind (wpAny_field hz rfl (x := f1) rfl ?_)
    by_cases q : (f1 != Value.bool true) = true
    · rw [if_pos q]
      refine wpAny_bind (wpAny_setField_rec hz (by simp) fun h₁ hz₁ hs₁ => wpAny_pure ⟨rfl, h₁, .bool true, rfl, hz₁, hI.other znis hs₁.extBut, Keep.but hzin hs₁, fun o e => hs₁.extBut _ _ Z.zo.symm e⟩)
    · rw [if_neg q]
      exact wpAny_pure ⟨rfl, s.heap, f1, rfl, hz, hI, .refl, fun _ e => e⟩
  refine wpAny_mono free (fun y s1 hy => ?_) fun _ _ e => e
  obtain ⟨rfl, h1, f1', rfl, hz1, hI1, hK1, hO1⟩ := hy
  simp only [Bool.false_eq_true, if_false]
  rw [List.forIn_toArray]
  refine wpAny_bind ?_
  refine forIn_all (fun j => (none, (col.take j).toArray)) (fun j s' => s' = { s with heap := s'.heap } ∧ IsZ s'.heap z TI TO (rawInt T0) f1' ∧ Its s'.heap is rows k j ∧ Keep (mv z TO is) s.heap s'.heap ∧ ∀ o, s.heap.get? TO = some o → s'.heap.get? TO = some o)
    _ 0 _ (fun j x s' hx hj => ?_) ⟨rfl, hz1, hI1, hK1, hO1⟩ fun s' hs' => ?_
  · obtain ⟨es, hz2, hI2, hK2, hO2⟩ := hj
    rw [Nat.zero_add] at hI2 ⊢
    rw [es]
    have hx2 : ∃ i, is[j]? = some i ∧ x = .ref i := by
      unfold refs at hx
      rw [List.getElem?_map] at hx
      cases e : is[j]? with
      | none => rw [e] at hx; cases hx
      | some i => rw [e] at hx; simp at hx; exact ⟨i, rfl, hx.symm⟩
    obtain ⟨i, hi, rfl⟩ := hx2
    obtain ⟨r, hr⟩ := Z.row hi
    have him : i ∈ is := List.mem_of_getElem? hi
    have hjl : j < is.length := (List.getElem?_eq_some_iff.mp hi).1
    have hcx : ∃ c, col[j]? = some c := ⟨_, List.getElem?_eq_getElem (by rw [hc]; exact hjl)⟩
    obtain ⟨c, hcj⟩ := hcx
    have hit := hI2 j i r hi hr
    rw [if_neg (Nat.lt_irrefl _)] at hit
    refine wpAny_bind (wpAny_holding ?_)
    show wpAny _ _ (Builtin.SmallTypes.nextOf (.ref i) >>= _) _ _ _
    refine wpAny_bind (wpAny_nextOf_tuple_item (s := { s with heap := s'.heap }) hit (Z.tupAt (K0.trans hK2) (List.mem_of_getElem? hr)) (hcol j r c hr hcj) fun h₂ hit₂ hs₂ => wpAny_pure ?_)
    have iz : i ≠ z := (Z.ib i him).2.1
    refine wpAny_pure ⟨?_, rfl, hs₂.extBut _ _ iz.symm hz2, Its.step Z hI2 hi hr hs₂ hit₂, hK2.trans (Keep.but (hiin i him) hs₂), fun o e => hs₂.extBut _ _ (Z.ib i him).2.2.2.symm (hO2 o e)⟩
    rw [List.take_add_one, hcj]
    simp
  · obtain ⟨es, hz2, hI2, hK2, hO2⟩ := hs'
    rw [es]
    have e0 : 0 + (refs is).length = is.length := by simp [refs]
    rw [e0] at hI2
    have e1 : col.take (0 + (refs is).length) = col := by rw [e0, ← hc]; exact List.take_length
    rw [e1]
    refine wpAny_bind (wpAny_newTuple (wpAny_pure ⟨_, rfl, ?_⟩) (by rw [hc]; exact hl))
    have hn : IsT (s'.heap.push { cls := .type "tuple", data := .seq col.toArray.toList.toArray }) s'.heap.objs.size col.toArray := Heap.get?_push_size _ rfl
    exact hQ _ s'.heap.objs.size f1' (Heap.get?_push_of_some _ hz2) hK2.1 (Heap.lt_size hn) hn hI2.pushed.all (hK2.trans Keep.push) (fun o e => Heap.get?_push_of_some _ (hO2 o e))
/-- the end: the first row is done -/
theorem next_end (hh : A.handled = none) (Z : ZA h0 b z TI TO is rows) (K0 : Keep (mv z TO is) h0 s.heap) {T0 : Addr} {f1 : Value} (hz : IsZ s.heap z TI TO (rawInt T0) f1) (hlive : ∃ vs, IsT s.heap T0 vs) (hTI : IsT s.heap TI (refs is).toArray) (hne : is ≠ [])
    (hI : Its s.heap is rows k 0) (hend : ∀ r : Addr × Array Value, rows[0]? = some r → r.2[k]? = none) {Q : Fin → Shared → Prop}
    (hE : ∀ (h' : Heap) (e : Addr), (∀ c o, c ∉ mv z TO is → s.heap.get? c = some o → h'.get? c = some o) → (∃ o, h'.get? e = some o ∧ o.cls = .type "StopIteration") → E (.ref e) { s with heap := h' }) :
    wpAny (model prog w) A (Builtin.«zip.__next__» ⟨[.ref z], []⟩) Q E s := by
  show wpAny _ _ (field (.ref z) 2 >>= _) _ _ _
  refine wpAny_bind (wpAny_field hz rfl (x := .bool false) rfl ?_)
  show wpAny _ _ (field (.ref z) 3 >>= _) _ _ _
  refine wpAny_bind (wpAny_field hz rfl (x := .ref TI) rfl ?_)
  refine wpAny_bind (wpAny_seqItems hTI rfl ?_)
  cases is with
  | nil => exact absurd rfl hne
  | cons i rest =>
    have hemp : (refs (i :: rest)).toArray.isEmpty = false := rfl
    simp only [hemp]
    have hzin : z ∈ mv z TO (i :: rest) := List.mem_cons_self
    have hiin : i ∈ mv z TO (i :: rest) := List.mem_cons_of_mem _ (List.mem_cons_of_mem _ List.mem_cons_self)
    have znis : z ∉ i :: rest := fun q => (Z.ib z q).2.1 rfl
    have free : wpAny (model prog w) A (Builtin.SmallTypes.ownedTupleIsFree (.ref z)) (fun y s1 => y = false ∧ ∃ h1, s1 = { s with heap := h1 } ∧ Its h1 (i :: rest) rows k 0 ∧ Keep (mv z TO (i :: rest)) s.heap h1) E s := by
      unfold Builtin.SmallTypes.ownedTupleIsFree
      refine wpAny_bind (wpAny_field hz rfl (x := rawInt T0) rfl ?_)
      obtain ⟨vs, hlv⟩ := hlive
      show wpAny _ _ (loadIfAlive (Int.toNat (T0 : Int)) >>= _) _ _ _
      rw [Int.toNat_natCast]
      refine wpAny_bind (wpAny_alive hlv ?_)
      simp only [Option.isNone_some, Bool.false_eq_true, if_false]
      refine wpAny_bind (wpAny_field hz rfl (x := f1) rfl ?_)
      by_cases q : (f1 != Value.bool true) = true
      · rw [if_pos q]
        refine wpAny_bind (wpAny_setField_rec hz (by simp) fun h₁ hz₁ hs₁ => wpAny_pure ⟨rfl, h₁, rfl, hI.other znis hs₁.extBut, Keep.but hzin hs₁⟩)
      · rw [if_neg q]
        exact wpAny_pure ⟨rfl, s.heap, rfl, hI, .refl⟩
    show wpAny _ _ (Builtin.SmallTypes.ownedTupleIsFree (.ref z) >>= _) _ _ _
    refine wpAny_bind (wpAny_mono free (fun y s1 hy => ?_) fun _ _ e => e)
    obtain ⟨rfl, h1, rfl, hI1, hK1⟩ := hy
    simp only [Bool.false_eq_true, if_false]
    rw [List.forIn_toArray]
    refine wpAny_bind ?_
    unfold refs
    rw [List.map_cons, List.forIn_cons]
    refine wpAny_bind (wpAny_bind (wpAny_holding ?_))
    obtain ⟨r, hr⟩ := Z.row (j := 0) (i := i) rfl
    have hit := hI1 0 i r rfl hr
    rw [if_neg (Nat.lt_irrefl _)] at hit
    show wpAny _ _ (Builtin.SmallTypes.nextOf (.ref i) >>= _) _ _ _
    refine wpAny_bind (wpAny_nextOf_tuple_end (s := { s with heap := h1 }) hh hit (Z.tupAt (K0.trans hK1) (List.mem_of_getElem? hr)) (hend r hr) fun h₂ e hs₂ he => ?_)
    exact hE h₂ e (fun c o n q => hs₂ c o (fun zz => n (zz ▸ hiin)) (hK1.2 c o n q)) he
end
end DZ

namespace DZ
open PySem PySem.Spec PyProof.Rows
open Sem (wp)
theorem zip_no_len : typeLookup (.type "zip") "__len__" = pure none := by
  rw [typeLookup_type, builtinLookup_eq_fast]
  kernel_rfl
theorem zip_no_hint : typeLookup (.type "zip") "__length_hint__" = pure none := by
  rw [typeLookup_type, builtinLookup_eq_fast]
  kernel_rfl
section
variable {prog : Program} {w : World} {A : Around} {E : Value → Shared → Prop} {s : Shared} {h0 : Heap} {b z TI TO : Addr} {is : List Addr} {rows : List (Addr × Array Value)} {k : Nat}
theorem ZA.at_ (Z : ZA h0 b z TI TO is rows) {h : Heap} (hr : ∀ r ∈ rows, h.IsTuple r.1 r.2) : ZA h b z TI TO is rows := ⟨Z.zb, Z.tb, Z.ob, Z.zt, Z.zo, Z.to_, Z.ib, Z.nd, Z.len, fun r q => ⟨(Z.tup r q).1, hr r q⟩⟩
theorem pyn_item {x : Value} {Q : Option Value → Shared → Prop} {f0 f1 : Value} (hz : IsZ s.heap z TI TO f0 f1)
    (h : ∀ {A' : Around} {E' : Value → Shared → Prop} {Q' : Value → Shared → Prop}, A'.handled = A.handled → (∀ v s', Q (some v) s' → Q' v s') → wpAny (model prog w) A' (Builtin.«zip.__next__» ⟨[.ref z], []⟩) (fun fin s' => ∃ v, fin = .done (.ret v) ∧ Q' v s') E' s) :
    wpAny (model prog w) A (pyNext (.ref z)) Q E s := by
  have hT : s.TypeIs (.ref z) "zip" := ⟨_, hz, rfl⟩
  unfold pyNext
  exact wpAny_bind (wpAny_attempt (wpAny_callSpecial?_slot (name := Str.ofString "__next__") hT F.slot_zip_next
    (wpAny_call_entry F.slot_zip_next hT F.entry_zip_next (h rfl fun v s' q => wpAny_pure q) (F.args_zip_next_1 _))))
theorem pyn_end {Q : Option Value → Shared → Prop} {f0 f1 : Value} (hz : IsZ s.heap z TI TO f0 f1)
    (h : ∀ {A' : Around} {E' : Value → Shared → Prop} {Q' : Fin → Shared → Prop}, A'.handled = A.handled → (∀ (h' : Heap) (e : Addr), (∀ c o, c ∉ mv z TO is → s.heap.get? c = some o → h'.get? c = some o) → (∃ o, h'.get? e = some o ∧ o.cls = .type "StopIteration") → E' (.ref e) { s with heap := h' }) →
      wpAny (model prog w) A' (Builtin.«zip.__next__» ⟨[.ref z], []⟩) Q' E' s)
    (hQ : ∀ h' : Heap, (∀ c o, c ∉ mv z TO is → s.heap.get? c = some o → h'.get? c = some o) → Q none { s with heap := h' }) : wpAny (model prog w) A (pyNext (.ref z)) Q E s := by
  have hT : s.TypeIs (.ref z) "zip" := ⟨_, hz, rfl⟩
  unfold pyNext
  refine wpAny_bind (wpAny_attempt (wpAny_callSpecial?_slot (name := Str.ofString "__next__") hT F.slot_zip_next
    (wpAny_call_entry F.slot_zip_next hT F.entry_zip_next (h rfl fun h' e hk he => ?_) (F.args_zip_next_1 _))))
  obtain ⟨o, ho, hc⟩ := he
  refine wpAny_bind (wpAny_isInstance (T := "StopIteration") (b := true) ⟨o, ho, hc⟩ isSubtype_stop ?_)
  exact wpAny_pure (hQ _ hk)

/-- what was made: the columns -/
structure Made (S : Addr) (xs : List Addr) (h : Heap) (cols : Nat → List Value) (acc : Array Value) (i : Nat) : Prop where
  size : acc.size = i
  at_ : ∀ j, j < i → ∃ T, acc[j]? = some (.ref T) ∧ IsT h T (cols j).toArray ∧ T ∉ S :: xs ∧ S < T
  inj : ∀ (j j' : Nat) (T : Addr), acc[j]? = some (Value.ref T) → acc[j']? = some (Value.ref T) → j = j'
theorem Made.none {S : Addr} {xs : List Addr} {h : Heap} {cols : Nat → List Value} : Made S xs h cols #[] 0 := ⟨rfl, fun j hj => absurd hj (Nat.not_lt_zero _), fun j j' T e => by simp at e⟩
theorem Made.keep {S : Addr} {xs : List Addr} {h h' : Heap} {cols : Nat → List Value} {acc : Array Value} {i : Nat} (m : Made S xs h cols acc i) (hk : ∀ c o, c ∉ S :: xs → h.get? c = some o → h'.get? c = some o) : Made S xs h' cols acc i :=
  ⟨m.size, fun j hj => let ⟨T, e, t, n, l⟩ := m.at_ j hj; ⟨T, e, hk _ _ n t, n, l⟩, m.inj⟩
theorem Made.push {S : Addr} {xs : List Addr} {h : Heap} {cols : Nat → List Value} {acc : Array Value} {i : Nat} (m : Made S xs h cols acc i) {T : Addr} (t : IsT h T (cols i).toArray) (n : T ∉ S :: xs) (l : S < T) (f : ∀ (j : Nat) (T' : Addr), acc[j]? = some (.ref T') → T' ≠ T) : Made S xs h cols (acc.push (.ref T)) (i + 1) := by
  refine ⟨by rw [Array.size_push, m.size], fun j hj => ?_, fun j j' T' e e' => ?_⟩
  · by_cases e : j = i
    · subst e
      refine ⟨T, ?_, t, n, l⟩
      rw [Array.getElem?_push, if_pos m.size.symm]
    · obtain ⟨T', e', t', n', l'⟩ := m.at_ j (by omega)
      refine ⟨T', ?_, t', n', l'⟩
      rw [Array.getElem?_push, if_neg (by rw [m.size]; exact e)]
      exact e'
  · rw [Array.getElem?_push] at e e'
    by_cases q : j = acc.size
    · rw [if_pos q] at e
      cases e
      by_cases q' : j' = acc.size
      · rw [q, q']
      · rw [if_neg q'] at e'
        exact absurd rfl (f j' T e')
    · rw [if_neg q] at e
      by_cases q' : j' = acc.size
      · rw [if_pos q'] at e'
        cases e'
        exact absurd rfl (f j T e)
      · rw [if_neg q'] at e'
        exact m.inj j j' T' e e'
abbrev IsL (h : Heap) (S : Addr) (acc : Array Value) (c : Nat) : Prop := h.get? S = some { cls := .type "list", dict := none, data := .seq acc c, slots := #[] }
theorem loop_more (hh : A.handled = none) (Z : ZA h0 b z TI TO is rows) {S : Addr} (hS : S ∉ mv z TO is) (hSb : b ≤ S) (hSt : S ≠ TI) (hl : is.length ≤ sizeLine) (hne : is ≠ []) {n : Nat} (hn : n ≤ 1000) (hrow : ∀ r ∈ rows, r.2.size = n) (cols : Nat → List Value) (hc : ∀ i, (cols i).length = is.length)
    (hcol : ∀ (i j : Nat) (r : Addr × Array Value) (x : Value), i < n → rows[j]? = some r → (cols i)[j]? = some x → r.2[i]? = some x) (res : Value) {R : Result → Shared → Prop} :
    ∀ (m i : Nat) (s : Shared) (T0 : Addr) (f1 : Value) (acc : Array Value) (c : Nat), i + m = n → (∀ r ∈ rows, s.heap.IsTuple r.1 r.2) → IsZ s.heap z TI TO (rawInt T0) f1 → (∃ vs, IsT s.heap T0 vs) → T0 ∉ S :: mv z TO is → IsT s.heap TI (refs is).toArray → (∃ o, s.heap.get? TO = some o) → Its s.heap is rows i 0 → IsL s.heap S acc c → Made S (mv z TO is) s.heap cols acc i →
      (∀ s' acc' c', s' = { s with heap := s'.heap } → (∀ c o, c ∉ S :: mv z TO is → s.heap.get? c = some o → s'.heap.get? c = some o) → IsL s'.heap S acc' c' → Made S (mv z TO is) s'.heap cols acc' n → R (.ok (.ret res)) s') →
      codeAny (model prog w) A (.builtin "list.extend.loop" ⟨[.ref S, .ref z, res], []⟩) R s := by
  intro m
  induction m with
  | zero =>
    intro i s T0 f1 acc c hi hrs hz hlv hT0 hTI hTO hI hL hM hR
    have hin : i = n := by omega
    subst hin
    refine codeAny_builtin F.entry_extend_loop ?_
    rw [Around.under_plainId F.plain_extend_loop _]
    show wpAny _ A.in1 (pyNext (.ref z) >>= _) _ _ s
    refine wpAny_bind (pyn_end (is := is) hz (fun hA hE => next_end (hA.trans hh) (Z.at_ hrs) .refl hz hlv hTI hne hI (fun r hr => ?_) hE) fun h' hk => ?_)
    · rw [Array.getElem?_eq_none]
      rw [hrow r (List.mem_of_getElem? hr)]
      exact Nat.le_refl _
    · refine wpAny_pure (hR _ acc c rfl (fun c o n e => hk c o (fun q => n (List.mem_cons_of_mem _ q)) e) (hk _ _ hS hL) (hM.keep fun c o n e => hk c o (fun q => n (List.mem_cons_of_mem _ q)) e))
  | succ m ih =>
    intro i s T0 f1 acc c hi hrs hz hlv hT0 hTI hTO hI hL hM hR
    have hlt : i < n := by omega
    refine codeAny_builtin F.entry_extend_loop ?_
    rw [Around.under_plainId F.plain_extend_loop _]
    show wpAny _ A.in1 (pyNext (.ref z) >>= _) _ _ s
    refine wpAny_bind (pyn_item (x := .none) hz fun hA hQ => next_more (Z.at_ hrs) .refl hz hlv hTI hl hne hI (cols i) (hc i) (fun j r x hr hx => hcol i j r x hlt hr hx) fun h' T f1' hz' hT1 hT2 hT hI' hK hO' => hQ _ _ ?_)
    have hL' : IsL h' S acc c := hK.2 _ _ hS hL
    have hTn : T ∉ S :: mv z TO is := by
      intro q
      have bad : ∀ a : Addr, (∃ o, s.heap.get? a = some o) → T ≠ a := fun a ⟨o, e⟩ zz => absurd (Heap.lt_size e) (Nat.not_lt.mpr (zz ▸ hT1))
      rcases List.mem_cons.mp q with e | q
      · exact bad S ⟨_, hL⟩ e
      · rcases List.mem_cons.mp q with e | q
        · exact bad z ⟨_, hz⟩ e
        · rcases List.mem_cons.mp q with e | q
          · exact bad TO hTO e
          · obtain ⟨j, hj⟩ := List.getElem?_of_mem q
            obtain ⟨r, hr⟩ := Z.row hj
            obtain ⟨o, ho, _⟩ := hI j T r hj hr
            exact bad T ⟨o, ho⟩ rfl
    have hST : S < T := Nat.lt_of_lt_of_le (Heap.lt_size hL) hT1
    show wpAny _ A.in1 (updateSeq S (·.push (.ref T)) >>= _) _ _ _
    refine wpAny_bind ?_
    have hs2 : Heap.SameBut S h' (h'.update S (Obj.mapSeq (·.push (.ref T)))) := Heap.SameBut.update ..
    have hSn : ∀ a : Addr, a ≠ S → ∀ o, h'.get? a = some o → (h'.update S (Obj.mapSeq (·.push (.ref T)))).get? a = some o := fun a ha o e => hs2.extBut _ _ ha e
    have hLn : ∃ c2, IsL (h'.update S (Obj.mapSeq (·.push (.ref T)))) S (acc.push (.ref T)) c2 := ⟨_, by
      show Heap.get? _ _ = _
      rw [Heap.get?_update_self _ hL' rfl]
      rfl⟩
    obtain ⟨c2, hLn⟩ := hLn
    have zS : z ≠ S := fun e => hS (e ▸ List.mem_cons_self)
    have OS : TO ≠ S := fun e => hS (e ▸ List.mem_cons_of_mem _ List.mem_cons_self)
    have iS : S ∉ is := fun q => hS (List.mem_cons_of_mem _ (List.mem_cons_of_mem _ q))
    have keep : ∀ c o, c ∉ S :: mv z TO is → s.heap.get? c = some o → (h'.update S (Obj.mapSeq (·.push (.ref T)))).get? c = some o := fun c o n e => hSn c (fun q => n (q ▸ List.mem_cons_self)) o (hK.2 c o (fun q => n (List.mem_cons_of_mem _ q)) e)
    refine wpAny_updateSeq hL' rfl (wpAny_pure ⟨plainId_quiet F.plain_extend_loop _, ih (i + 1) _ T0 f1' _ c2 (by omega) (fun r hr => ?_) (hSn z zS _ hz') ?_ hT0 (hSn TI hSt.symm _ (hK.2 _ _ Z.tiNot hTI)) ?_ (hI'.other iS hs2.extBut) hLn ((hM.keep keep).push ?_ hTn hST (fun j T' e => ?_)) fun s' acc' c' es hk hL3 hM3 => ?_⟩)
      (by rw [hM.size, sizeLine_eq]; omega) (by rw [Array.size_push, hM.size, sizeLine_eq]; omega)
    · obtain ⟨o, ho, q⟩ := hrs r hr
      have hrb := (Z.tup r hr).1
      exact ⟨o, keep _ o (fun zz => by
        rcases List.mem_cons.mp zz with e | e
        · rw [e] at hrb; exact absurd hrb (Nat.not_lt.mpr hSb)
        · exact Z.notIn hrb e) ho, q⟩
    · obtain ⟨vs, hv⟩ := hlv
      exact ⟨vs, keep _ _ hT0 hv⟩
    · obtain ⟨o, e⟩ := hTO
      exact ⟨o, hSn TO OS _ (hO' o e)⟩
    · exact hSn T (fun q => hTn (q ▸ List.mem_cons_self)) _ hT
    · have hjl : j < i := by
        have := (Array.getElem?_eq_some_iff.mp e).1
        rw [hM.size] at this
        exact this
      obtain ⟨T2, e2, t2, _⟩ := hM.at_ j hjl
      rw [e] at e2
      cases e2
      exact fun zz => absurd (Heap.lt_size t2) (Nat.not_lt.mpr (zz ▸ hT1))
    · exact hR s' acc' c' es (fun c o n e => hk c o n (keep c o n e)) hL3 hM3
/-- from the start -/
theorem loop_zip (hh : A.handled = none) (Z : ZA h0 b z TI TO is rows) {S : Addr} (hS : S ∉ mv z TO is) (hSb : b ≤ S) (hSt : S ≠ TI) (hl : is.length ≤ sizeLine) (hne : is ≠ []) {n : Nat} (hn : n ≤ 1000) (hn0 : 0 < n) (hrow : ∀ r ∈ rows, r.2.size = n) (cols : Nat → List Value) (hc : ∀ i, (cols i).length = is.length)
    (hcol : ∀ (i j : Nat) (r : Addr × Array Value) (x : Value), i < n → rows[j]? = some r → (cols i)[j]? = some x → r.2[i]? = some x) (res : Value) {R : Result → Shared → Prop} {f1 : Value} {kept : Array Value} {c : Nat}
    (hrs : ∀ r ∈ rows, s.heap.IsTuple r.1 r.2) (hz : IsZ s.heap z TI TO .none f1) (hTI : IsT s.heap TI (refs is).toArray) (hTO : IsT s.heap TO kept) (hk : kept.size = is.length) (hI : Its s.heap is rows 0 0) (hL : IsL s.heap S #[] c)
    (hR : ∀ s' acc' c', s' = { s with heap := s'.heap } → (∀ c o, c ∉ S :: mv z TO is → s.heap.get? c = some o → s'.heap.get? c = some o) → IsL s'.heap S acc' c' → Made S (mv z TO is) s'.heap cols acc' n → R (.ok (.ret res)) s') :
    codeAny (model prog w) A (.builtin "list.extend.loop" ⟨[.ref S, .ref z, res], []⟩) R s := by
  refine codeAny_builtin F.entry_extend_loop ?_
  rw [Around.under_plainId F.plain_extend_loop _]
  show wpAny _ A.in1 (pyNext (.ref z) >>= _) _ _ s
  refine wpAny_bind (pyn_item (x := .none) hz fun hA hQ => next_first (Z.at_ hrs) .refl hz hTI hTO hk hl hne hI (cols 0) (hc 0) (fun j r x hr hx => hcol 0 j r x hn0 hr hx) fun h' T f1' hz' hT1 hT2 hT hI' hK hO' => hQ _ _ ?_)
  have hL' : IsL h' S #[] c := hK.2 _ _ hS hL
  have hTn : T ∉ S :: mv z TO is := by
    intro q
    have bad : ∀ a : Addr, (∃ o, s.heap.get? a = some o) → T ≠ a := fun a ⟨o, e⟩ zz => absurd (Heap.lt_size e) (Nat.not_lt.mpr (zz ▸ hT1))
    rcases List.mem_cons.mp q with e | q
    · exact bad S ⟨_, hL⟩ e
    · rcases List.mem_cons.mp q with e | q
      · exact bad z ⟨_, hz⟩ e
      · rcases List.mem_cons.mp q with e | q
        · exact bad TO ⟨_, hTO⟩ e
        · obtain ⟨j, hj⟩ := List.getElem?_of_mem q
          obtain ⟨r, hr⟩ := Z.row hj
          obtain ⟨o, ho, _⟩ := hI j T r hj hr
          exact bad T ⟨o, ho⟩ rfl
  show wpAny _ A.in1 (updateSeq S (·.push (.ref T)) >>= _) _ _ _
  refine wpAny_bind ?_
  have hs2 : Heap.SameBut S h' (h'.update S (Obj.mapSeq (·.push (.ref T)))) := Heap.SameBut.update ..
  have hSn : ∀ a : Addr, a ≠ S → ∀ o, h'.get? a = some o → (h'.update S (Obj.mapSeq (·.push (.ref T)))).get? a = some o := fun a ha o e => hs2.extBut _ _ ha e
  have hLn : ∃ c2, IsL (h'.update S (Obj.mapSeq (·.push (.ref T)))) S ((#[] : Array Value).push (.ref T)) c2 := ⟨_, by
    show Heap.get? _ _ = _
    rw [Heap.get?_update_self _ hL' rfl]
    rfl⟩
  obtain ⟨c2, hLn⟩ := hLn
  have zS : z ≠ S := fun e => hS (e ▸ List.mem_cons_self)
  have OS : TO ≠ S := fun e => hS (e ▸ List.mem_cons_of_mem _ List.mem_cons_self)
  have iS : S ∉ is := fun q => hS (List.mem_cons_of_mem _ (List.mem_cons_of_mem _ q))
  have keep : ∀ c o, c ∉ S :: mv z TO is → s.heap.get? c = some o → (h'.update S (Obj.mapSeq (·.push (.ref T)))).get? c = some o := fun c o n e => hSn c (fun q => n (q ▸ List.mem_cons_self)) o (hK.2 c o (fun q => n (List.mem_cons_of_mem _ q)) e)
  have hST : S < T := Nat.lt_of_lt_of_le (Heap.lt_size hL) hT1
  have hTk := hSn T (fun q => hTn (q ▸ List.mem_cons_self)) _ hT
  refine wpAny_updateSeq hL' rfl (wpAny_pure ⟨plainId_quiet F.plain_extend_loop _, loop_more hh Z hS hSb hSt hl hne hn hrow cols hc hcol res (n - 1) 1 _ T f1' _ c2 (by omega) (fun r hr => ?_) (hSn z zS _ hz') ⟨_, hTk⟩ hTn (hSn TI hSt.symm _ (hK.2 _ _ Z.tiNot hTI)) ?_ (hI'.other iS hs2.extBut) hLn (Made.push (i := 0) Made.none hTk hTn hST (fun j T' e => by simp at e)) fun s' acc' c' es hk3 hL3 hM3 => ?_⟩)
    (by simp) (by simp)
  · obtain ⟨o, ho, q⟩ := hrs r hr
    have hrb := (Z.tup r hr).1
    exact ⟨o, keep _ o (fun zz => by
      rcases List.mem_cons.mp zz with e | e
      · rw [e] at hrb; exact absurd hrb (Nat.not_lt.mpr hSb)
      · exact Z.notIn hrb e) ho, q⟩
  · obtain ⟨o, e⟩ := hO'
    exact ⟨o, hSn TO OS _ e⟩
  · exact hR s' acc' c' es (fun c o n e => hk3 c o n (keep c o n e)) hL3 hM3
end
end DZ

namespace DZ
open PySem PySem.Spec PyProof.Rows
open Sem (wp)
def isOf (b n : Nat) : List Addr := (List.range n).map (b + ·)
theorem isOf_get {b n j : Nat} (h : j < n) : (isOf b n)[j]? = some (b + j) := by
  unfold isOf
  rw [List.getElem?_map, List.getElem?_range h]
  rfl
theorem isOf_len {b n : Nat} : (isOf b n).length = n := by simp [isOf]
section
variable {prog : Program} {w : World} {A : Around} {E : Value → Shared → Prop} {s : Shared}
theorem iterAll_ok (rows : List (Addr × Array Value)) (hr : ∀ r ∈ rows, s.heap.IsTuple r.1 r.2) {Q : List Value → Shared → Prop}
    (hQ : ∀ h' : Heap, h'.objs.size = s.heap.objs.size + rows.length → (∀ c o, s.heap.get? c = some o → h'.get? c = some o) → Its h' (isOf s.heap.objs.size rows.length) rows 0 0 → Q (refs (isOf s.heap.objs.size rows.length)) { s with heap := h' }) :
    wpAny (model prog w) A (Builtin.SmallTypes.iterAll (rows.map fun r => Value.ref r.1)) Q E s := by
  unfold Builtin.SmallTypes.iterAll
  refine wpAny_bind ?_
  refine forIn_all (fun j => (refs (isOf s.heap.objs.size j)).toArray) (fun j s' => s' = { s with heap := s'.heap } ∧ s'.heap.objs.size = s.heap.objs.size + j ∧ (∀ c o, s.heap.get? c = some o → s'.heap.get? c = some o) ∧ ∀ (j' : Nat) (r : Addr × Array Value), j' < j → rows[j']? = some r → s'.heap.IsTupleIter (s.heap.objs.size + j') r.1 0)
    _ 0 s (fun j x s' hx hj => ?_) ⟨rfl, rfl, fun _ _ e => e, fun j' r q => absurd q (Nat.not_lt_zero _)⟩ fun s' hs' => ?_
  · obtain ⟨es, hsz, hk, hit⟩ := hj
    rw [Nat.zero_add] at hsz hit ⊢
    rw [List.getElem?_map] at hx
    cases e : rows[j]? with
    | none => rw [e] at hx; cases hx
    | some r =>
      rw [e] at hx
      obtain rfl : Value.ref r.1 = x := Option.some.inj hx
      obtain ⟨o, ho, q⟩ := hr r (List.mem_of_getElem? e)
      refine wpAny_bind (wpAny_holding (wpAny_pyIter_tuple ⟨o, hk _ _ ho, q⟩ (wpAny_pure ?_)))
      refine ⟨?_, ?_, ?_, fun c o' e' => Heap.get?_push_of_some _ (hk _ _ e'), fun j' r' hj' e' => ?_⟩
      · rw [hsz]
        simp [refs, isOf, List.range_succ]
      · rw [es]
      · show (Heap.push _ _).objs.size = _
        rw [Heap.size_push, hsz]
        rfl
      · by_cases q2 : j' = j
        · subst q2
          rw [e] at e'
          obtain rfl : r = r' := Option.some.inj e'
          refine ⟨{ cls := .type "tuple_iterator", data := .fields #[.ref r.1, .int 0 0] }, ?_, rfl, rfl⟩
          rw [← hsz]
          exact Heap.get?_push_size _ rfl
        · exact (hit j' r' (by omega) e').at fun o e => Heap.get?_push_of_some _ e
  · obtain ⟨es, hsz, hk, hit⟩ := hs'
    have e0 : 0 + (rows.map fun r => Value.ref r.1).length = rows.length := by simp
    rw [e0] at hsz hit ⊢
    rw [es]
    refine wpAny_pure (hQ _ hsz hk fun j i r hi hr' => ?_)
    rw [if_neg (Nat.not_lt_zero _)]
    have hj : j < rows.length := (List.getElem?_eq_some_iff.mp hr').1
    rw [isOf_get hj] at hi
    cases hi
    exact hit j r hj hr'
/-- the new zip -/
theorem zip_new (rows : List (Addr × Array Value)) (hr : ∀ r ∈ rows, s.heap.IsTuple r.1 r.2) (hl : rows.length ≤ 1000) {Q : Value → Shared → Prop}
    (hQ : ∀ (h' : Heap) (z TI TO : Addr), ZA h' s.heap.objs.size z TI TO (isOf s.heap.objs.size rows.length) rows → (∀ c o, s.heap.get? c = some o → h'.get? c = some o) → IsZ h' z TI TO .none (.bool false) → IsT h' TI (refs (isOf s.heap.objs.size rows.length)).toArray →
      IsT h' TO (Array.replicate rows.length Value.none) → Its h' (isOf s.heap.objs.size rows.length) rows 0 0 → s.heap.objs.size ≤ h'.objs.size → Q (.ref z) { s with heap := h' }) :
    wpAny (model prog w) A (Builtin.«zip.__new__» ⟨.type "zip" :: rows.map fun r => Value.ref r.1, []⟩) (fun fin s' => ∃ v, fin = .done (.ret v) ∧ Q v s') E s := by
  have hnc : wpAny (model prog w) A (Builtin.SmallTypes.newClass "zip" ⟨.type "zip" :: rows.map fun r => Value.ref r.1, []⟩) (fun r s' => r = (.type "zip", rows.map fun r => Value.ref r.1) ∧ s' = s) E s := by
    have hsub := sub_zip
    unfold Builtin.SmallTypes.newClass
    wp_walk
    exact ⟨rfl, rfl⟩
  unfold Builtin.«zip.__new__»
  refine wpAny_bind (wpAny_mono hnc (fun r s1 hr1 => ?_) fun _ _ e => e)
  obtain ⟨rfl, rfl⟩ := hr1
  show wpAny _ _ (Builtin.SmallTypes.iterAll _ >>= _) _ _ _
  refine wpAny_bind (iterAll_ok rows hr fun h1 hsz1 hk1 hI1 => ?_)
  refine wpAny_bind (wpAny_newTuple ?_ (by simp [refs, isOf, sizeLine_eq]; omega))
  refine wpAny_bind (wpAny_newTuple ?_ (by simp [refs, isOf, sizeLine_eq]; omega))
  show wpAny _ _ (Builtin.SmallTypes.newRecord (.type "zip") _ >>= _) _ _ _
  unfold Builtin.SmallTypes.newRecord
  refine wpAny_bind (wpAny_newObj_type (wpAny_pure ⟨_, rfl, ?_⟩) (by show 5 ≤ sizeLine + 2; decide))
  have hm : (refs (isOf s1.heap.objs.size rows.length)).map (fun _ => Value.none) = List.replicate rows.length Value.none := by
    rw [List.eq_replicate_iff]
    simp [refs, isOf]
  have big : ∀ (oI oO oZ : Obj), oI.isFreed = false → oO.isFreed = false → oZ.isFreed = false → (((h1.push oI).push oO).push oZ).get? h1.objs.size = some oI ∧ (((h1.push oI).push oO).push oZ).get? (h1.objs.size + 1) = some oO ∧ (((h1.push oI).push oO).push oZ).get? (h1.objs.size + 1 + 1) = some oZ ∧
      (((h1.push oI).push oO).push oZ).objs.size = h1.objs.size + 1 + 1 + 1 ∧ ∀ c o, h1.get? c = some o → (((h1.push oI).push oO).push oZ).get? c = some o := by
    intro oI oO oZ fI fO fZ
    have e2 : (h1.push oI).objs.size = h1.objs.size + 1 := Heap.size_push ..
    have e3 : ((h1.push oI).push oO).objs.size = h1.objs.size + 1 + 1 := by rw [Heap.size_push, e2]
    have gI : (h1.push oI).get? h1.objs.size = some oI := Heap.get?_push_size _ fI
    have gO : ((h1.push oI).push oO).get? (h1.objs.size + 1) = some oO := by rw [← e2]; exact Heap.get?_push_size _ fO
    have gZ : (((h1.push oI).push oO).push oZ).get? (h1.objs.size + 1 + 1) = some oZ := by rw [← e3]; exact Heap.get?_push_size _ fZ
    exact ⟨Heap.get?_push_of_some _ (Heap.get?_push_of_some _ gI), Heap.get?_push_of_some _ gO, gZ, by rw [Heap.size_push, e3], fun c o e => Heap.get?_push_of_some _ (Heap.get?_push_of_some _ (Heap.get?_push_of_some _ e))⟩
  rw [hm]
  simp only [Heap.size_push]
  obtain ⟨gI, gO, gZ, gs, gk⟩ := big { cls := .type "tuple", data := .seq (refs (isOf s1.heap.objs.size rows.length)).toArray } { cls := .type "tuple", data := .seq (List.replicate rows.length Value.none).toArray }
    { cls := .type "zip", data := .fields (Builtin.SmallTypes.ownedTupleFields ++ [Value.bool false, Value.ref h1.objs.size, Value.ref (h1.objs.size + 1)]).toArray } rfl rfl rfl
  have hgo : (List.replicate rows.length Value.none).toArray = Array.replicate rows.length Value.none := by simp
  refine hQ _ (h1.objs.size + 1 + 1) h1.objs.size (h1.objs.size + 1) ⟨?_, ?_, ?_, ?_, ?_, ?_, fun i hi => ?_, ?_, isOf_len, fun r q => ?_⟩ (fun c o e => gk c o (hk1 c o e)) gZ gI ?_ (fun j i r hi hr' => (hI1 j i r hi hr').at fun o e => gk i o e) ?_
  · show (_ : Nat) ≤ _; omega
  · show (_ : Nat) ≤ _; omega
  · show (_ : Nat) ≤ _; omega
  · intro e; have e : (_ : Nat) = _ := e; omega
  · intro e; have e : (_ : Nat) = _ := e; omega
  · intro e; have e : (_ : Nat) = _ := e; omega
  · obtain ⟨j, hj⟩ := List.getElem?_of_mem hi
    have hjl := (List.getElem?_eq_some_iff.mp hj).1
    rw [isOf_len] at hjl
    rw [isOf_get hjl] at hj
    cases hj
    rw [hsz1]
    exact ⟨Nat.le_add_right _ _, fun e => by have e : (_ : Nat) = _ := e; omega, fun e => by have e : (_ : Nat) = _ := e; omega, fun e => by have e : (_ : Nat) = _ := e; omega⟩
  · unfold isOf
    rw [List.nodup_iff_pairwise_ne, List.pairwise_map]
    exact (List.nodup_iff_pairwise_ne.mp List.nodup_range).imp fun n e => n (by have e : (_ : Nat) = _ := e; omega)
  · obtain ⟨o, ho, q2⟩ := hr r q
    exact ⟨Heap.lt_size ho, o, gk _ _ (hk1 _ _ ho), q2⟩
  · rw [← hgo]; exact gO
  · rw [gs]; omega
end
end DZ

namespace DZ
open PySem PySem.Spec PyProof.Rows
open Sem (wp)
section
variable {prog : Program} {w : World} {A : Around} {E : Value → Shared → Prop} {s : Shared} {h0 : Heap} {b z TI TO : Addr} {is : List Addr} {rows : List (Addr × Array Value)}
theorem pyIter_z {Q : Value → Shared → Prop} {f0 f1 : Value} (hz : IsZ s.heap z TI TO f0 f1) (h : Q (.ref z) s) : wpAny (model prog w) A (pyIter (.ref z)) Q E s := by
  have hT : s.TypeIs (.ref z) "zip" := ⟨_, hz, rfl⟩
  refine wpAny_pyIter_slot hT F.slot_zip_iter (wpAny_call_entry F.slot_zip_iter hT F.entry_zip_iter ?_ (F.args_zip_iter_1 _))
  show wpAny _ _ (ret (.ref z)) _ _ s
  exact wpAny_pure ⟨_, rfl, "zip", _, hT, F.slot_zip_next.lookup, h⟩

theorem call_list_z (hh : A.handled = none) (Z : ZA h0 b z TI TO is rows) (hl : is.length ≤ sizeLine) (hne : is ≠ []) {n : Nat} (hn : n ≤ 1000) (hn0 : 0 < n) (hrow : ∀ r ∈ rows, r.2.size = n) (cols : Nat → List Value) (hc : ∀ i, (cols i).length = is.length)
    (hcol : ∀ (i j : Nat) (r : Addr × Array Value) (x : Value), i < n → rows[j]? = some r → (cols i)[j]? = some x → r.2[i]? = some x) {Q : Value → Shared → Prop} {f1 : Value} {kept : Array Value}
    (hrs : ∀ r ∈ rows, s.heap.IsTuple r.1 r.2) (hz : IsZ s.heap z TI TO .none f1) (hTI : IsT s.heap TI (refs is).toArray) (hTO : IsT s.heap TO kept) (hk : kept.size = is.length) (hI : Its s.heap is rows 0 0) (hb : b ≤ s.heap.objs.size)
    (hQ : ∀ (h' : Heap) (acc : Array Value) (c : Nat), (∀ a o, a ∉ mv z TO is → s.heap.get? a = some o → h'.get? a = some o) → IsL h' s.heap.objs.size acc c → Made s.heap.objs.size (mv z TO is) h' cols acc n → Q (.ref s.heap.objs.size) { s with heap := h' }) :
    wpAny (model prog w) A (call (.type "list") [.ref z]) Q E s := by
  have alive : ∀ a : Addr, (∃ o, s.heap.get? a = some o) → s.heap.objs.size ≠ a := fun a ⟨o, e⟩ zz => absurd (Heap.lt_size e) (by rw [← zz]; exact Nat.lt_irrefl _)
  have hS : s.heap.objs.size ∉ mv z TO is := by
    intro q
    rcases List.mem_cons.mp q with e | q
    · exact alive _ ⟨_, hz⟩ e
    · rcases List.mem_cons.mp q with e | q
      · exact alive _ ⟨_, hTO⟩ e
      · obtain ⟨j, hj⟩ := List.getElem?_of_mem q
        obtain ⟨r, hr⟩ := Z.row hj
        obtain ⟨o, ho, _⟩ := hI j _ r hj hr
        exact alive _ ⟨o, ho⟩ rfl
  have hSt : s.heap.objs.size ≠ TI := alive _ ⟨_, hTI⟩
  refine callType_codes (Q₁ := fun obj s₁ => obj = .ref s.heap.objs.size ∧ s₁ = { s with heap := s.heap.push { cls := .type "list", data := .seq #[] } }) F.called_list (F.typeCall_list_1 _) F.entry_list_init
    (code_list_new _ ⟨rfl, rfl⟩) fun obj s₁ h₁ => ?_
  obtain ⟨rfl, rfl⟩ := h₁
  have hL0 : (s.heap.push { cls := .type "list", data := .seq #[] }).get? s.heap.objs.size = some { cls := .type "list", data := .seq #[] } := Heap.get?_push_size _ rfl
  refine ⟨⟨_, hL0, rfl⟩, F.args_list_init_2 _ _, ?_⟩
  have up0 : ∀ a o, s.heap.get? a = some o → (s.heap.push { cls := .type "list", data := .seq #[] }).get? a = some o := fun a o e => Heap.get?_push_of_some _ e
  show wpAny _ A.in1.in1 (do let old ← Builtin.List.listItems (.ref s.heap.objs.size); Builtin.List.listUpdate (.ref s.heap.objs.size) (fun _ => #[]); letGo old.toList.reverse; Builtin.List.listExtendWith (.ref s.heap.objs.size) (.ref z) .none) _ _ _
  refine wpAny_bind ?_
  unfold Builtin.List.listItems
  refine wpAny_bind (wpAny_seqItems hL0 rfl (wpAny_pure ?_))
  show wpAny _ _ (updateSeq s.heap.objs.size (fun _ => #[]) >>= fun _ => letGo (#[] : Array Value).toList.reverse >>= fun _ => Builtin.List.listExtendWith (.ref s.heap.objs.size) (.ref z) .none) _ _ _
  refine wpAny_bind (wpAny_updateSeq hL0 rfl ?_)
  have sb1 : Heap.SameBut s.heap.objs.size (s.heap.push { cls := .type "list", data := .seq #[] }) ((s.heap.push { cls := .type "list", data := .seq #[] }).update s.heap.objs.size (Obj.mapSeq fun _ => (#[] : Array Value))) := Heap.SameBut.update ..
  have hL1 := Heap.get?_update_self (Obj.mapSeq fun _ => (#[] : Array Value)) hL0 rfl
  refine wpAny_bind (wpAny_letGo ?_)
  have up1 : ∀ a o, s.heap.get? a = some o → ((s.heap.push { cls := .type "list", data := .seq #[] }).update s.heap.objs.size (Obj.mapSeq fun _ => (#[] : Array Value))).get? a = some o := fun a o e => sb1.extBut _ _ (Nat.ne_of_lt (Heap.lt_size e)) (up0 a o e)
  have hT : ∀ {h1 : Heap}, IsZ h1 z TI TO .none f1 → ({ s with heap := h1 } : Shared).TypeIs (.ref z) "zip" := fun q => ⟨_, q, rfl⟩
  unfold Builtin.List.listExtendWith
  refine wpAny_bind (wpAny_typeOf (hT (up1 _ _ hz)) ?_)
  have g1 : Builtin.List.listSameRef (.ref s.heap.objs.size) (.ref z) = false := by
    have : s.heap.objs.size ≠ z := alive _ ⟨_, hz⟩
    simp [Builtin.List.listSameRef, this]
  have g2 : (Value.type "zip" == Value.type "list") = false := by decide
  have g3 : (Value.type "zip" == Value.type "tuple") = false := by decide
  simp only [g1, g2, g3, Bool.or_false, Bool.false_eq_true, if_false]
  refine wpAny_bind (pyIter_z (up1 _ _ hz) ?_)
  refine wpAny_bind (wpAny_holding ?_)
  unfold Builtin.List.listLengthHint
  refine wpAny_bind (wpAny_specialOf (hT (up1 _ _ hz)) zip_no_len ?_)
  show wpAny _ _ (specialOf (Value.ref z) (Str.ofString "__length_hint__") >>= _) _ _ _
  refine wpAny_bind (wpAny_specialOf (hT (up1 _ _ hz)) zip_no_hint ?_)
  refine wpAny_pure ?_
  show wpAny _ _ (rule "list.extend.makes-room" >>= fun _ => Builtin.List.listTouch (.ref s.heap.objs.size) >>= fun _ => again (.builtin "list.extend.loop" ⟨[.ref s.heap.objs.size, .ref z, .none], []⟩)) _ _ _
  refine wpAny_bind (wpAny_rule ?_)
  refine wpAny_bind ?_
  show wpAny _ _ (updateSeq s.heap.objs.size (·.push .none) >>= fun _ => updateSeq s.heap.objs.size (·.pop)) _ _ _
  refine wpAny_bind (wpAny_updateSeq hL1 rfl ?_)
  have sb2 := Heap.SameBut.update ((s.heap.push { cls := .type "list", data := .seq #[] }).update s.heap.objs.size (Obj.mapSeq fun _ => (#[] : Array Value))) s.heap.objs.size (Obj.mapSeq (·.push Value.none))
  have hL2 := Heap.get?_update_self (Obj.mapSeq (·.push Value.none)) hL1 rfl
  refine wpAny_updateSeq (hz := by seq_fits) hL2 rfl ?_
  have hL3 := Heap.get?_update_self (Obj.mapSeq (·.pop)) hL2 rfl
  have up3 : ∀ a o, s.heap.get? a = some o → ((((s.heap.push { cls := .type "list", data := .seq #[] }).update s.heap.objs.size (Obj.mapSeq fun _ => (#[] : Array Value))).update s.heap.objs.size (Obj.mapSeq (·.push Value.none))).update s.heap.objs.size (Obj.mapSeq (·.pop))).get? a = some o :=
    fun a o e => (Heap.get?_update_other _ _ (Nat.ne_of_gt (Heap.lt_size e))).trans ((Heap.get?_update_other _ _ (Nat.ne_of_gt (Heap.lt_size e))).trans (up1 a o e))
  have hL4 : ∃ c, IsL ((((s.heap.push { cls := .type "list", data := .seq #[] }).update s.heap.objs.size (Obj.mapSeq fun _ => (#[] : Array Value))).update s.heap.objs.size (Obj.mapSeq (·.push Value.none))).update s.heap.objs.size (Obj.mapSeq (·.pop))) s.heap.objs.size #[] c := by
    exact ⟨_, hL3.trans (show some (Obj.mapSeq (·.pop) (Obj.mapSeq (·.push Value.none) (Obj.mapSeq (fun _ => (#[] : Array Value)) { cls := .type "list", data := .seq #[] }))) = some { cls := .type "list", dict := none, data := .seq #[] 2, slots := #[] } from by first | rfl | (simp [Obj.mapSeq]; done) | (simp only [Obj.mapSeq]; rfl))⟩
  obtain ⟨c3, hL4⟩ := hL4
  have fin : ∀ h3 : Heap, (∀ a o, s.heap.get? a = some o → h3.get? a = some o) → IsL h3 s.heap.objs.size #[] c3 →
      codeAny (model prog w) A.in1 (.builtin "list.extend.loop" ⟨[.ref s.heap.objs.size, .ref z, .none], []⟩) (wants (fun r s₂ => r = .none ∧ Q (.ref s.heap.objs.size) s₂) E) { s with heap := h3 } := by
    intro h3 up hL
    refine loop_zip (A := A.in1) (s := { s with heap := h3 }) hh Z hS hb hSt hl hne hn hn0 hrow cols hc hcol .none (fun r hr => ?_) (up _ _ hz) (up _ _ hTI) (up _ _ hTO) hk (fun j i r hi hr => (hI j i r hi hr).at fun o e => up _ o e) hL fun s' acc' c' es hkk hL' hM => ?_
    · obtain ⟨o, ho, q⟩ := hrs r hr
      exact ⟨o, up _ _ ho, q⟩
    · rw [es]
      exact ⟨rfl, hQ _ acc' c' (fun a o n e => hkk a o (fun q => (List.mem_cons.mp q).elim (fun q => Nat.ne_of_lt (Heap.lt_size e) q) n) (up a o e)) hL' hM⟩
  exact wpAny_pure ⟨plainId_quiet F.plain_extend_loop _, fin _ up3 hL4⟩
end
end DZ

namespace DZ
open PySem PySem.Spec PyProof.Rows L2
theorem typeCall_n : ∀ us : List Value, us.length ≤ 8 → checkTypeCall "zip" ⟨us, []⟩ = pure ()
  | [], _ => by kernel_rfl
  | [_], _ => by kernel_rfl
  | [_, _], _ => by kernel_rfl
  | [_, _, _], _ => by kernel_rfl
  | [_, _, _, _], _ => by kernel_rfl
  | [_, _, _, _, _], _ => by kernel_rfl
  | [_, _, _, _, _, _], _ => by kernel_rfl
  | [_, _, _, _, _, _, _], _ => by kernel_rfl
  | [_, _, _, _, _, _, _, _], _ => by kernel_rfl
  | _ :: _ :: _ :: _ :: _ :: _ :: _ :: _ :: _ :: _, h => absurd h (by simp)
theorem newCall_n : ∀ us : List Value, us.length ≤ 8 → checkBuiltinCall "zip.__new__" ⟨.type "zip" :: us, []⟩ = pure ()
  | [], _ => by kernel_rfl
  | [_], _ => by kernel_rfl
  | [_, _], _ => by kernel_rfl
  | [_, _, _], _ => by kernel_rfl
  | [_, _, _, _], _ => by kernel_rfl
  | [_, _, _, _, _], _ => by kernel_rfl
  | [_, _, _, _, _, _], _ => by kernel_rfl
  | [_, _, _, _, _, _, _], _ => by kernel_rfl
  | [_, _, _, _, _, _, _, _], _ => by kernel_rfl
  | _ :: _ :: _ :: _ :: _ :: _ :: _ :: _ :: _ :: _, h => absurd h (by simp)
theorem objInit_n : ∀ (o : Value) (us : List Value), us.length ≤ 8 → argsOk "object.__init__" ⟨o :: us, []⟩ := by
  intro o us hl
  unfold argsOk
  rw [signature?_of (id := "object.__init__") (n := ['_', '_', 't', 'i', 'n', 'i', '_', '_']) (o := ['t', 'c', 'e', 'j', 'b', 'o']) (by kernel_rfl) F.owner_object]
  match us, hl with
  | [], _ => kernel_rfl
  | [_], _ => kernel_rfl
  | [_, _], _ => kernel_rfl
  | [_, _, _], _ => kernel_rfl
  | [_, _, _, _], _ => kernel_rfl
  | [_, _, _, _, _], _ => kernel_rfl
  | [_, _, _, _, _, _], _ => kernel_rfl
  | [_, _, _, _, _, _, _], _ => kernel_rfl
  | [_, _, _, _, _, _, _, _], _ => kernel_rfl
  | _ :: _ :: _ :: _ :: _ :: _ :: _ :: _ :: _ :: _, h => exact absurd h (by simp)
def specZ (rows : List (Addr × Array Value)) : PySem.Spec := fun _ R s => (∀ r ∈ rows, s.heap.IsTuple r.1 r.2) ∧ ∀ (h' : Heap) (z TI TO : Addr), ZA h' s.heap.objs.size z TI TO (isOf s.heap.objs.size rows.length) rows → (∀ c o, s.heap.get? c = some o → h'.get? c = some o) → IsZ h' z TI TO .none (.bool false) →
  IsT h' TI (refs (isOf s.heap.objs.size rows.length)).toArray → IsT h' TO (Array.replicate rows.length Value.none) → Its h' (isOf s.heap.objs.size rows.length) rows 0 0 → s.heap.objs.size ≤ h'.objs.size → R (.ok (.ret (.ref z))) { s with heap := h' }
theorem meets_z (rows : List (Addr × Array Value)) (hl : rows.length ≤ 1000) : Meets (Builtin.«zip.__new__» ⟨.type "zip" :: rows.map fun r => Value.ref r.1, []⟩) (specZ rows) :=
  .of_wp fun prog w A R s h => zip_new rows h.1 hl h.2
section
variable {prog : Program} {w : World} {A : Around} {E : Value → Shared → Prop} {s : Shared}
theorem call_z (rows : List (Addr × Array Value)) (hr : ∀ r ∈ rows, s.heap.IsTuple r.1 r.2) (hl : rows.length ≤ 8) {Q : Value → Shared → Prop}
    (hQ : ∀ (h' : Heap) (z TI TO : Addr), ZA h' s.heap.objs.size z TI TO (isOf s.heap.objs.size rows.length) rows → (∀ c o, s.heap.get? c = some o → h'.get? c = some o) → IsZ h' z TI TO .none (.bool false) → IsT h' TI (refs (isOf s.heap.objs.size rows.length)).toArray →
      IsT h' TO (Array.replicate rows.length Value.none) → Its h' (isOf s.heap.objs.size rows.length) rows 0 0 → s.heap.objs.size ≤ h'.objs.size → Q (.ref z) { s with heap := h' }) :
    wpAny (model prog w) A (call (.type "zip") (rows.map fun r => Value.ref r.1)) Q E s := by
  have hl2 : (rows.map fun r => Value.ref r.1).length ≤ 8 := by rw [List.length_map]; exact hl
  refine callType_new F.called_zip (by decide) (typeCall_n _ hl2) (newCall_n _ hl2) (fun obj => objInit_n obj _ hl2) F.entry_zip_new (meets_z rows (by omega)) ⟨hr, fun h' z TI TO a1 a2 a3 a4 a5 a6 a7 => ?_⟩
  exact ⟨⟨_, a3, rfl⟩, hQ h' z TI TO a1 a2 a3 a4 a5 a6 a7⟩
end

/-! ### in the layer's words -/
def updT (H : Hp) : List Addr → List (List V) → Hp
  | t :: ts, c :: cs => updT (upd H t (.tup c)) ts cs
  | _, _ => H
theorem updT_off {b : Addr} : ∀ {ts : List Addr} {cs : List (List V)} {H : Hp}, b ∉ ts → updT H ts cs b = H b
  | [], _, _, _ => rfl
  | _ :: _, [], _, _ => rfl
  | t :: ts, c :: cs, H, n => by
    show updT (upd H t (.tup c)) ts cs b = H b
    have ne : b ≠ t := fun q => n (by rw [q]; exact List.mem_cons_self)
    rw [updT_off (fun q => n (List.mem_cons_of_mem _ q)), upd_ne ne]
section
variable {X : Cx} {pins : List (Addr × Obj)} {σ : L2.St} {s : Shared} {h' : Heap}
theorem many_laid : ∀ (ts : List Addr) (cs : List (List V)) (G : Heap) (H : Hp), Inv X pins σ H { s with heap := G } → (∀ b o, G.get? b = some o → h'.get? b = some o) → (∀ t ∈ ts, G.get? t = none ∧ H t = none) → ts.Nodup →
    (∀ (j : Nat) (t : Addr) (c : List V), ts[j]? = some t → cs[j]? = some c → c.length ≤ sizeLine ∧ ∃ its : List Value, Vals c its ∧ IsT h' t its.toArray) →
    ∃ G' : Heap, (∀ b o, G'.get? b = some o → h'.get? b = some o) ∧ (∀ b, b ∉ ts → G.get? b = none → G'.get? b = none) ∧ Inv X pins σ (updT H ts cs) { s with heap := G' }
  | [], _, G, H, I, hk, _, _, _ => ⟨G, hk, fun _ _ e => e, I⟩
  | _ :: _, [], G, H, I, hk, _, _, _ => ⟨G, hk, fun _ _ e => e, I⟩
  | t :: ts, c :: cs, G, H, I, hk, hn, nd, ho => by
    obtain ⟨G1, g1, g2⟩ := restrict h' fun b => (G.get? b).isSome || b == t
    obtain ⟨hz, its, hv, hT⟩ := ho 0 t c rfl rfl
    have hG : ∀ b o, G.get? b = some o → G1.get? b = some o := fun b o e => by
      rw [g1 b (by rw [e]; rfl)]
      exact hk b o e
    have hG1 : G1.get? t = h'.get? t := g1 t (by simp)
    have I1 : Inv X pins σ (upd H t (.tup c)) { s with heap := G1 } := Inv.laidN (s := { s with heap := G }) (t' := s.toks) I hG (hn t List.mem_cons_self).1 (hn t List.mem_cons_self).2 ⟨hz, its, hv, ⟨_, hG1.trans hT, rfl, _, rfl⟩⟩
    obtain ⟨tn, nd2⟩ := List.nodup_cons.mp nd
    have out : ∀ b, b ≠ t → G.get? b = none → G1.get? b = none := fun b hb e => g2 b (by
      rw [e]
      simp [hb])
    obtain ⟨G', k1, k2, J⟩ := many_laid ts cs G1 _ I1 (fun b o e => by
      by_cases q : ((G.get? b).isSome || b == t) = true
      · rw [g1 b q] at e; exact e
      · rw [g2 b (by simpa using q)] at e; cases e) (fun t' ht => by
        have ne : t' ≠ t := fun q => tn (q ▸ ht)
        obtain ⟨q1, q2⟩ := hn t' (List.mem_cons_of_mem _ ht)
        exact ⟨out t' ne q1, by rw [upd_ne ne]; exact q2⟩) nd2 (fun j t' c' e1 e2 => ho (j + 1) t' c' e1 e2)
    exact ⟨G', k1, fun b hb e => k2 b (fun q => hb (List.mem_cons_of_mem _ q)) (out b (fun q => hb (q ▸ List.mem_cons_self)) e), J⟩

/-! ### list(zip( *x)), x a tuple of tuples of one length -/
def RowsOk (K : PySem.W.Frag) (H : Hp) (n : Nat) : List V → List (List V) → Prop
  | [], [] => True
  | u :: us, r :: rs => (∃ t, u = .ref t ∧ SqT K H t r ∧ r.length = n) ∧ RowsOk K H n us rs
  | _, _ => False
def colV (rvs : List (List V)) (i : Nat) : List V := rvs.map fun r => (r[i]?).getD .non
def colsV (n : Nat) (rvs : List (List V)) : List (List V) := (List.range n).map (colV rvs)
def colU (rows : List (Addr × Array Value)) (i : Nat) : List Value := rows.map fun r => (r.2[i]?).getD .none
theorem rows_of {H : Hp} (I : Inv X pins σ H s) {n : Nat} : ∀ (us : List V) (rvs : List (List V)) (us' : List Value), RowsOk X.K H n us rvs → Vals us us' →
    ∃ rows : List (Addr × Array Value), us' = rows.map (fun r => Value.ref r.1) ∧ (∀ r ∈ rows, s.heap.IsTuple r.1 r.2 ∧ r.2.size = n) ∧ rows.length = rvs.length ∧ us.length = rvs.length ∧ ∀ i, i < n → Vals (colV rvs i) (colU rows i)
  | [], [], _, _, .nil => ⟨[], rfl, fun r h => absurd h (by simp), rfl, rfl, fun _ _ => .nil⟩
  | u :: us, r :: rs, _, h, .cons (b := u') a bb => by
    obtain ⟨⟨t, rfl, ht, hl⟩, h2⟩ := h
    obtain ⟨rows, e1, e2, e3, e4, e5⟩ := rows_of I us rs _ h2 bb
    obtain rfl : u' = Value.ref t := a
    obtain ⟨its, rv, p, hz⟩ := I.tuple ht
    have hsz : its.toArray.size = n := by rw [List.size_toArray, ← rv.length]; exact hl
    refine ⟨(t, its.toArray) :: rows, by rw [e1]; rfl, fun r hr => ?_, by simp [e3], by simp [e4], fun i hi => ?_⟩
    · rcases List.mem_cons.mp hr with rfl | q
      · obtain ⟨o, q1, q2, q3, q4⟩ := p
        exact ⟨⟨o, q1, q2, q3, q4⟩, hsz⟩
      · exact e2 r q
    · refine .cons ?_ (e5 i hi)
      have hi1 : i < r.length := by rw [hl]; exact hi
      have g1 := List.getElem?_eq_getElem hi1
      obtain ⟨w, hw, rw'⟩ := rv.get g1
      show RelV ((r[i]?).getD .non) (((its.toArray)[i]?).getD .none)
      rw [g1]
      have : (its.toArray)[i]? = some w := by simpa using hw
      rw [this]
      exact rw'
def tZipS (K : PySem.W.Frag) (ta : TE) : TE := fun σ H Q => ta σ H fun x H1 => ∃ a us rvs n, x = .ref a ∧ SqT K H1 a us ∧ us.length ≤ 8 ∧ us ≠ [] ∧ 0 < n ∧ n ≤ 1000 ∧ RowsOk K H1 n us rvs ∧
  ∀ (ts : List Addr) (p : Addr), ts.length = n → ts.Nodup → (∀ t ∈ ts, H1 t = none) → H1 p = none → p ∉ ts → Q (.ref p) (upd (updT H1 ts (colsV n rvs)) p (.lst (ts.map V.ref)))
theorem made_list {S : Addr} {xs : List Addr} {h : Heap} {cols : Nat → List Value} : ∀ (n : Nat) {acc : Array Value}, Made S xs h cols acc n → ∃ ts : List Addr, ts.length = n ∧ acc.toList = ts.map Value.ref ∧ ∀ (j : Nat) (t : Addr), ts[j]? = some t → IsT h t (cols j).toArray ∧ t ∉ S :: xs ∧ S < t := by
  intro n acc m
  have : ∀ k, k ≤ n → ∃ ts : List Addr, ts.length = k ∧ acc.toList.take k = ts.map Value.ref ∧ ∀ (j : Nat) (t : Addr), ts[j]? = some t → IsT h t (cols j).toArray ∧ t ∉ S :: xs ∧ S < t := by
    intro k
    induction k with
    | zero => exact fun _ => ⟨[], rfl, by simp, fun j t e => by simp at e⟩
    | succ k ih =>
      intro hk
      obtain ⟨ts, e1, e2, e3⟩ := ih (by omega)
      obtain ⟨T, f1, f2, f3, f4⟩ := m.at_ k (by omega)
      refine ⟨ts ++ [T], by simp [e1], ?_, fun j t e => ?_⟩
      · rw [List.take_add_one, e2, Array.getElem?_toList, f1]
        simp
      · by_cases q : j < ts.length
        · rw [List.getElem?_append_left q] at e
          exact e3 j t e
        · rw [List.getElem?_append_right (by omega)] at e
          have : j - ts.length = 0 := by
            have := (List.getElem?_eq_some_iff.mp e).1
            simp at this
            omega
          rw [this] at e
          cases e
          have : j = k := by omega
          subst this
          exact ⟨f2, f3, f4⟩
  obtain ⟨ts, e1, e2, e3⟩ := this n (Nat.le_refl _)
  refine ⟨ts, e1, ?_, e3⟩
  rw [← e2, List.take_of_length_le]
  rw [Array.length_toList, m.size]
  exact Nat.le_refl _
end
section
variable {X : Cx} {a : Expr} {ta : TE} {p p2 pos pos2 pos3 : Pos}
theorem pe_zipS (hcalm : X.calm = true) (hg : Gl X "list") (hm : X.mg "list" = none) (hg2 : Gl X "zip") (hm2 : X.mg "zip" = none) (ha : PE X a ta)
    (na : starEach [.Call (.Name "zip" p2) [.Starred a pos3] [] pos2] X.env = (false, eval (.Call (.Name "zip" p2) [.Starred a pos3] [] pos2) X.env) :: starEach [] X.env := by rfl)
    (nb : starEach [.Starred a pos3] X.env = [(true, eval a X.env)] := by rfl) :
    PE X (.Call (.Name "list" p) [.Call (.Name "zip" p2) [.Starred a pos3] [] pos2] [] pos) (tZipS X.K ta) := by
  refine ⟨fun pins s σ H Q I h => ?_⟩
  refine Call_ (ld_blt I hg hm boot_list (PyProof.Rows.callWith_type1 (args_cons ?_ na) na))
  refine Call_ (ld_blt I hg2 hm2 PyProof.Rows.boot_zip ?_)
  rw [nb]
  refine PySem.W.ks_call (P := fun _ => True) rfl (fun h _ => ⟨.machine, .inr (.inl rfl), PySem.W.Looks.of_pure rfl⟩) (PySem.W.ks_lone (thn (ha.run pins s σ H _ I h) fun u s1 ⟨x, H1, I1, rx, a, us, rvs, n, ex, hS, hl8, hne, hn0, hn, hrows, q⟩ => ?_))
  subst ex
  obtain rfl : u = Value.ref a := rx
  refine star_tup I1 hS fun us' s2 I2 rv => ⟨trivial, ?_⟩
  obtain ⟨rows, e1, e2, e3, e4, e5⟩ := rows_of I2 us rvs us' hrows rv
  subst e1
  have hlen8 : rows.length ≤ 8 := by rw [e3, ← e4]; exact hl8
  have hrne : rows ≠ [] := by
    intro z
    rw [z] at e3
    apply hne
    apply List.eq_nil_of_length_eq_zero
    rw [e4, ← e3]
    rfl
  refine call_z rows (fun r hr => (e2 r hr).1) hlen8 fun h3 z TI TO ZZ k3 hz hTI hTO hI hsz => ?_
  refine args_nil ?_
  have hine : isOf s2.heap.objs.size rows.length ≠ [] := by
    intro zz
    have := congrArg List.length zz
    rw [isOf_len] at this
    exact hrne (List.eq_nil_of_length_eq_zero this)
  refine call_list_z (s := { s2 with heap := h3 }) (I1.ok.hd hcalm) ZZ (by rw [isOf_len, sizeLine_eq]; omega) hine hn hn0 (fun r hr => (e2 r hr).2) (colU rows) (fun i => by simp [colU, isOf_len]) (fun i j r x hi hr hx => ?_) (fun r hr => ?_) hz hTI hTO (by simp [isOf_len]) hI hsz fun h' acc c hk hL hM => ?_
  · unfold colU at hx
    rw [List.getElem?_map, hr] at hx
    have hri : i < r.2.size := by rw [(e2 r (List.mem_of_getElem? hr)).2]; exact hi
    have g1 := Array.getElem?_eq_getElem hri
    simp at hx
    rw [g1] at hx ⊢
    exact congrArg some hx
  · obtain ⟨o, ho, qq⟩ := (e2 r hr).1
    exact ⟨o, k3 _ _ ho, qq⟩
  · obtain ⟨ts, f1, f2, f3⟩ := made_list n hM
    have up : ∀ b o, s2.heap.get? b = some o → h'.get? b = some o := fun b o e => hk b o (ZZ.notIn (Heap.lt_size e)) (k3 b o e)
    have low : ∀ t ∈ ts, s2.heap.get? t = none ∧ H1 t = none := fun t ht => by
      obtain ⟨j, hj⟩ := List.getElem?_of_mem ht
      have lt : s2.heap.objs.size ≤ t := Nat.le_trans hsz (Nat.le_of_lt (f3 j t hj).2.2)
      refine ⟨?_, I2.hok.fresh lt⟩
      cases e : s2.heap.get? t with
      | none => rfl
      | some o => exact absurd (Heap.lt_size e) (Nat.not_lt.mpr lt)
    have nd : ts.Nodup := by
      rw [List.nodup_iff_pairwise_ne, List.pairwise_iff_getElem]
      intro i j hi hj hij e
      have g : ∀ (k : Nat) (hk : k < ts.length), acc[k]? = some (.ref ts[k]) := fun k hk => by
        rw [← Array.getElem?_toList, f2, List.getElem?_map, List.getElem?_eq_getElem hk]
        rfl
      have := hM.inj i j ts[i] (g i hi) (by rw [e]; exact g j hj)
      omega
    have hcl : ∀ i, i < n → (colsV n rvs)[i]? = some (colV rvs i) := fun i hi => by
      unfold colsV
      rw [List.getElem?_map, List.getElem?_range hi]
      rfl
    obtain ⟨G', g1, g2, J⟩ := many_laid (h' := h') ts (colsV n rvs) s2.heap H1 I2 up low nd fun j t c e1 e2 => by
      have hj : j < n := by
        have := (List.getElem?_eq_some_iff.mp e1).1
        omega
      rw [hcl j hj] at e2
      cases e2
      refine ⟨?_, colU rows j, e5 j hj, (f3 j t e1).1⟩
      rw [(e5 j hj).length]
      show (rows.map _).length ≤ _
      rw [List.length_map, sizeLine_eq]
      omega
    have hSn : h3.objs.size ∉ ts := fun q => by
      obtain ⟨j, hj⟩ := List.getElem?_of_mem q
      exact Nat.lt_irrefl _ (f3 j _ hj).2.2
    have hSnone : s2.heap.get? h3.objs.size = none := by
      cases e : s2.heap.get? h3.objs.size with
      | none => rfl
      | some o => exact absurd (Heap.lt_size e) (Nat.not_lt.mpr hsz)
    have hp : H1 h3.objs.size = none := I2.hok.fresh hsz
    have J2 : Inv X pins σ (upd (updT H1 ts (colsV n rvs)) h3.objs.size (.lst (ts.map V.ref))) { s2 with heap := h' } := by
      refine Inv.laidN (s := { s2 with heap := G' }) (t' := s2.toks) J g1 (g2 _ hSn hSnone) (by rw [updT_off hSn]; exact hp) ⟨?_, acc.toList, c, ?_, ?_⟩
      · rw [List.length_map, f1, sizeLine_eq]; omega
      · rw [f2]; exact vals_refs ts
      · rw [Array.toArray_toList]; exact hL
    exact ⟨.ref h3.objs.size, _, J2, rfl, q ts _ f1 nd (fun t ht => (low t ht).2) hp hSn⟩
end
end DZ

namespace DK
open PySem PySem.Spec PyProof.Rows L2

/-- a number that stands at the top -/
def GlobI (mg : Str → Option Value) (x : Str) (i : Int) : Prop := ∃ u, mg x = some u ∧ RelV (.int i) u
section
variable {X : Cx}
theorem de_globI {x : Str} {i : Int} {pos : Pos} (hg : Gl X x) (h : GlobI X.mg x i) (hd : (x == ("__debug__" : Str)) = false := by decide) : DE X (.Name x pos) (eC (.int i)) := by
  obtain ⟨u, hm, r⟩ := h
  exact de_glob hg hm r hd
end
/-! ### list(zip( *rows)), the rows tuples of one length -/
def tupsOf : List D → Option (List (List D))
  | [] => some []
  | .tup xs :: r => match tupsOf r with
    | some l => some (xs :: l)
    | none => none
  | _ => none
def colD (rows : List (List D)) (i : Nat) : List D := rows.map fun r => (r[i]?).getD .non
def zipSM (x : D) : M (List D) := fun h => match x with
  | .tup rs => match tupsOf rs with
    | some (r :: rows) => if ((r :: rows).all (fun r' => decide (r'.length = r.length)) && decide ((r :: rows).length ≤ 8) && decide (0 < r.length) && decide (r.length ≤ 1000)) = true then some ((List.range r.length).map fun i => .tup (colD (r :: rows) i), h) else none
    | _ => none
  | _ => none
def lZipS (a : EV) : AV := fun n ds => bindM (a n ds) zipSM
theorem updT_at {H : Hp} : ∀ {ts : List Addr} {cs : List (List V)} {j : Nat} {t : Addr} {c : List V} {H : Hp}, ts.Nodup → ts[j]? = some t → cs[j]? = some c → DZ.updT H ts cs t = some (.tup c)
  | [], _, _, _, _, _, _, e, _ => by simp at e
  | _ :: _, [], _, _, _, _, _, _, e => by simp at e
  | t0 :: ts, c0 :: cs, 0, t, c, H, nd, e, e2 => by
    cases e
    cases e2
    show DZ.updT (upd H t0 (.tup c0)) ts cs t0 = _
    rw [DZ.updT_off (List.nodup_cons.mp nd).1, upd_same]
  | t0 :: ts, c0 :: cs, j + 1, t, c, H, nd, e, e2 => updT_at (H := H) (ts := ts) (cs := cs) (j := j) (List.nodup_cons.mp nd).2 e e2
section
variable {X : Cx} {K : PySem.W.Frag} {g : Gh} {m : Nat}
theorem extT {n : Nat} : ∀ (ts : List Addr) (cs : List (List V)) (H : Hp), (∀ t ∈ ts, H t = none) → ts.Nodup → Ext K g n H g n (DZ.updT H ts cs) ∧ ∀ σ ds h, Sim K g H σ ds h → h.length = n → Sim K g (DZ.updT H ts cs) σ ds h
  | [], _, H, _, _ => ⟨.refl, fun _ _ _ S _ => S⟩
  | _ :: _, [], H, _, _ => ⟨.refl, fun _ _ _ S _ => S⟩
  | t :: ts, c :: cs, H, hn, nd => by
    obtain ⟨tn, nd2⟩ := List.nodup_cons.mp nd
    have hp := hn t List.mem_cons_self
    have E1 : Ext K g n H g n (upd H t (.tup c)) := Ext.new hp
    obtain ⟨E2, S2⟩ := extT (n := n) ts cs (upd H t (.tup c)) (fun t' ht => by
      have ne : t' ≠ t := fun q => tn (q ▸ ht)
      rw [upd_ne ne]
      exact hn t' (List.mem_cons_of_mem _ ht)) nd2
    exact ⟨E1.trans E2, fun σ ds h S hl => S2 σ ds h (S.new hp) hl⟩
theorem tups_ok {H : Hp} {n : Nat} : ∀ (rs : List D) (rows : List (List D)) (us : List V), tupsOf rs = some rows → (∀ r ∈ rows, r.length = n) → Rls K g m H rs us → ∃ rvs : List (List V), DZ.RowsOk K H n us rvs ∧ us.length = rows.length ∧ ∀ i, i < n → Rls K g m H (colD rows i) (DZ.colV rvs i)
  | [], rows, _, e, hl, .nil => by
    cases e
    exact ⟨[], trivial, rfl, fun _ _ => .nil⟩
  | x :: rs, rows, _, e, hl, .cons (vs := us) rx rr => by
    cases x with
    | tup xs =>
      unfold tupsOf at e
      split at e
      · rename_i l e1
        cases e
        obtain ⟨rvs, k1, k2, k3⟩ := tups_ok rs l us e1 (fun r hr => hl r (List.mem_cons_of_mem _ hr)) rr
        have hx := hl xs List.mem_cons_self
        obtain ⟨a, ws, rfl, ha, ra⟩ := tupOf_ok rx rfl
        refine ⟨ws :: rvs, ⟨⟨a, rfl, ha, by rw [← ra.length]; exact hx⟩, k1⟩, by simp [k2], fun i hi => ?_⟩
        have g1 := List.getElem?_eq_getElem (l := xs) (i := i) (by omega)
        obtain ⟨w, hw, rw'⟩ := ra.get g1
        refine .cons ?_ (k3 i hi)
        show Rl K g m H ((xs[i]?).getD .non) ((ws[i]?).getD .non)
        rw [g1, hw]
        exact rw'
      · cases e
    | _ => cases e
theorem colsRls {H : Hp} {n : Nat} {rows : List (List D)} {rvs : List (List V)} {ts : List Addr} (hc : ∀ i, i < n → Rls K g m H (colD rows i) (DZ.colV rvs i)) (hl : ts.length = n) (hT : ∀ (i : Nat) (t : Addr), ts[i]? = some t → SqT K H t (DZ.colV rvs i)) :
    Rls K g m H ((List.range n).map fun i => .tup (colD rows i)) (ts.map V.ref) := by
  have : ∀ k, k ≤ n → Rls K g m H ((List.range k).map fun i => .tup (colD rows i)) ((ts.take k).map V.ref) := by
    intro k
    induction k with
    | zero => exact fun _ => by simpa using Rls.nil
    | succ k ih =>
      intro hk
      have e : ts[k]? = some (ts[k]'(by omega)) := List.getElem?_eq_getElem _
      rw [List.range_succ, List.map_append, List.take_add_one, e, List.map_append]
      exact Rls.append (ih (by omega)) (.cons (.tup (hT k _ e) (hc k (by omega))) .nil)
  have h := this n (Nat.le_refl _)
  rw [← hl, List.take_length] at h
  rw [← hl]
  exact h
theorem dl_zipS {a : Expr} {ea : EV} {p p2 pos pos2 kk : Pos} (hcalm : X.calm = true) (hg : Gl X "list") (hm : X.mg "list" = none) (hg2 : Gl X "zip") (hm2 : X.mg "zip" = none) (ha : DE X a ea)
    (na : starEach [.Call (.Name "zip" p2) [.Starred a kk] [] pos2] X.env = (false, eval (.Call (.Name "zip" p2) [.Starred a kk] [] pos2) X.env) :: starEach [] X.env := by rfl)
    (nb : starEach [.Starred a kk] X.env = [(true, eval a X.env)] := by rfl) :
    DL X (.Call (.Name "list" p) [.Call (.Name "zip" p2) [.Starred a kk] [] pos2] [] pos) (lZipS ea) := by
  obtain ⟨t, pa, sa⟩ := ha.ex
  refine ⟨_, DZ.pe_zipS hcalm hg hm hg2 hm2 pa na nb, fun n g σ H ds h d h' Q S ev q => ?_⟩
  obtain ⟨x, h1, e1, ev1⟩ := bindM_some ev
  refine sa n g σ H ds h x h1 _ S e1 fun g1 H1 v E1 S1 r1 => ?_
  unfold zipSM at ev1
  split at ev1
  · rename_i rs
    split at ev1
    · rename_i r rows e2
      split at ev1
      · rename_i hk
        cases ev1
        rw [Bool.and_eq_true, Bool.and_eq_true, Bool.and_eq_true, List.all_eq_true, decide_eq_true_eq, decide_eq_true_eq, decide_eq_true_eq] at hk
        obtain ⟨⟨⟨k1, k2⟩, k3⟩, k4⟩ := hk
        obtain ⟨b, us, rfl, hS, ra⟩ := tupOf_ok r1 rfl
        obtain ⟨rvs, c1, c2, c3⟩ := tups_ok (n := r.length) rs (r :: rows) us e2 (fun r' hr => of_decide_eq_true (k1 r' hr)) ra
        refine ⟨b, us, rvs, r.length, rfl, hS, by rw [c2]; exact k2, fun z => by rw [z] at c2; simp at c2, k3, k4, c1, fun ts p hl nd hn hp hpn => ?_⟩
        obtain ⟨E2, S2⟩ := extT (K := X.K) (g := g1) (n := h'.length) ts (DZ.colsV r.length rvs) H1 hn nd
        refine q g1 _ p (ts.map V.ref) (E1.trans E2) (S2 σ ds h' S1 rfl) (colsRls (rvs := rvs) (fun i hi => E2.rls (c3 i hi)) hl fun i t ht => ?_) ?_
        · have hi : i < r.length := by
            have := (List.getElem?_eq_some_iff.mp ht).1
            omega
          have hc : (DZ.colsV r.length rvs)[i]? = some (DZ.colV rvs i) := by
            unfold DZ.colsV
            rw [List.getElem?_map, List.getElem?_range hi]
            rfl
          exact .inl (.inl (updT_at (H := H1) nd ht hc))
        · rw [DZ.updT_off hpn]
          exact hp
      · cases ev1
    · cases ev1
  · cases ev1
end
end DK

namespace DK
open PySem PySem.Spec PyProof.Rows L2

section
variable {K : PySem.W.Frag} {g : Gh} {H : Hp} {h : Hd}
/-- the rule for a def, its promise bare -/
theorem fo_does {P : Program} {w : World} {mg : Str → Option Value} {base : Heap} {x qual : Str} {st : Stmt} {f : Addr} {fd : FuncData} {N ps : List Str} {k : Nat} {sv : SV} {m : Fn} (F : Fun K x qual st f fd) (S : FnScope N ps (defScope st))
    (hbody : ∀ (cdv : Value) (A : Around) (outer : List Env) (s : Shared) (H : Hp) (E : XK), Room k (A.deeper (envOfC qual (defScope st) s.heap.objs.size f cdv)) →
      DSs (cxOf CX0 P w K mg base N qual (defScope st) f cdv A outer s H E).nox (defBody st) sv)
    (hd : Does sv N.length ps.length m) : FnOk P w K mg base CX0 (k + 1) f fd ps (spD K ps.length m) := by
  refine F.ok S (fun vs H Q E q => q.1) (fun cdv A outer s H vs Q E hr q => ?_)
  obtain ⟨t, pt, sd⟩ := (hbody cdv A outer s H E hr).ex
  obtain ⟨hl, g, ds, h, res, h', hs, r, e, post⟩ := q
  obtain ⟨n, fl, hf, d, e1, e2, b⟩ := hd ds h res h' (by rw [r.length]; exact hl) e
  refine ⟨t, pt, sd n g _ H _ h fl hf _ ⟨hs, startD_ok r hl⟩ e1 ?_⟩
  cases fl with
  | nx ds' => cases e2; exact fun g' H' σ' E' S' => back_post hs b E' S'.hs .non post
  | rt d' => cases e2; exact fun g' H' v E' S' r' => back_post hs b E' S' r' post
  | bk _ => cases e2
  | ct _ => cases e2
theorem HS.empty : HS K ⟨fun _ => 0, fun _ => False⟩ H [] := ⟨fun i c e => by simp at e, fun i j hi => absurd hi (Nat.not_lt_zero _), fun i hi => absurd hi (Nat.not_lt_zero _), fun a z => z.elim⟩
theorem Rls.ofInts {n : Nat} : ∀ ns : List Int, Rls K g n H (ns.map D.int) (ns.map V.int)
  | [] => .nil
  | i :: r => .cons (.int i) (Rls.ofInts r)
/-- what the head asks of the law's own promise -/
theorem law_sp {m : Fn} {a : Addr} {ns : List Int} {E : XK} (hm : m [.ro (ns.map D.int)] [] = some (.val (.bl true), [])) (hO : Only H) (hS : SqL K H a (ns.map V.int)) : spD K 1 m [.ref a] H (fun v _ => v = .bl true) E := by
  refine ⟨rfl, ⟨fun _ => 0, fun _ => False⟩, [.ro (ns.map D.int)], [], .val (.bl true), [], HS.empty, .cons (.ro ?_ (Rls.ofInts ns)) .nil, hm, fun g' H' v E hs r => ?_⟩
  · rcases hS with (q | ⟨o, q⟩) | q
    · rcases hO a with z | ⟨o, xs, z⟩
      · rw [z] at q; cases q
      · rw [z] at q; cases q
    · exact .inl ⟨o, q⟩
    · exact .inr q
  · cases r; rfl
theorem globI_of {mg : Str → Option Value} {x : Str} {i : Int} {t : Tok} (h : mg x = some (.int i t)) : GlobI mg x i := ⟨_, h, t, rfl⟩
end
end DK

namespace DK
open PySem PySem.Spec PyProof.Rows L2
def ev_draw : SV := (sSeq (sIf (tAn (tT (eBin opEq (eBin opIx (eVar 0) (eC (.int 2))) (eC (.int 0)))) (tT (eBin opLt (eBin opIx (eVar 0) (eC (.int 1))) (eCl bLen (aCons (eBin opIx (eVar 0) (eC (.int 0))) aNil))))) (sSeq (sAsg (eBin opIx (eBin opIx (eVar 0) (eC (.int 0))) (eBin opIx (eVar 0) (eC (.int 1)))) (gNm 2)) (sSeq (sAsg (eBin opAddA (eBin opIx (eVar 0) (eC (.int 1))) (eC (.int 1))) (gSb (eVar 0) (eC (.int 1)))) (sSeq (sAsg (eBin opMod (eCl bInt (aCons (eBin opAddA (eBin opAddA (eBin opMulA (eBin opIx (eVar 0) (eC (.int 3))) (eC (.int 69621))) (eBin opMulA (eVar 2) (eC (.int 40692)))) (eC (.int 31))) aNil)) (eC (.int 2147483629))) (gSb (eVar 0) (eC (.int 3)))) (sIf (tT (eBin opGe (eVar 2) (eBin opPow (eC (.int 10)) (eC (.int 18))))) (sAsg (eVar 2) (gSb (eVar 0) (eC (.int 2)))) sNil)))) sNil) (sSeq (sIf (tT (eBin opGt (eBin opIx (eVar 0) (eC (.int 2))) (eC (.int 0)))) (sSeq (sAsg (eBin opMod (eCl bInt (aCons (eBin opIx (eVar 0) (eC (.int 2))) aNil)) (eVar 1)) (gNm 3)) (sSeq (sAsg (eBin opDiv (eBin opIx (eVar 0) (eC (.int 2))) (eVar 1)) (gSb (eVar 0) (eC (.int 2)))) (sRet (eVar 3)))) sNil) (sSeq (sAsg (eBin opAddA (eBin opIx (eVar 0) (eC (.int 4))) (eC (.int 1))) (gSb (eVar 0) (eC (.int 4)))) (sSeq (sAsg (eBin opMod (eCl bInt (aCons (eBin opMulA (eCl bInt (aCons (eBin opAddA (eBin opIx (eVar 0) (eC (.int 3))) (eBin opMulA (eC (.int 7919)) (eBin opIx (eVar 0) (eC (.int 4))))) aNil)) (eC (.int 48271))) aNil)) (eC (.int 2147483647))) (gNm 4)) (sSeq (sAsg (eBin opMod (eCl bInt (aCons (eBin opMulA (eVar 4) (eBin opAddA (eBin opDiv (eVar 4) (eC (.int 1009))) (eC (.int 69621)))) aNil)) (eC (.int 2147483647))) (gNm 4)) (sSeq (sAsg (eBin opMod (eCl bInt (aCons (eBin opMulA (eVar 4) (eBin opAddA (eBin opDiv (eVar 4) (eC (.int 2003))) (eC (.int 40014)))) aNil)) (eC (.int 2147483563))) (gNm 4)) (sRet (eBin opMod (eCl bInt (aCons (eBin opDiv (eVar 4) (eC (.int 16))) aNil)) (eVar 1)))))))))
def m_draw : Fn := mRun ev_draw 5 2 10000

/-! steps -/
def handL (cells : List Int) (i j k l : Int) : List D := [.lst (cells.map .int), .int i, .int j, .int k, .int l]
def okH (h : Hd) : Prop := (h.all (okCell h.length)) = true
theorem mulOk_r {i j : Int} (h : j.natAbs < 9223372036854775808) : mulOk i j = true := by
  unfold mulOk
  simp
  omega
theorem mulOk_l {i j : Int} (h : i.natAbs < 9223372036854775808) : mulOk i j = true := by
  unfold mulOk
  simp
  omega
theorem cellL_set {h : Hd} {i : Nat} {xs : List D} (hi : i < h.length) : cellL (h.set i (.lst xs)) i = some xs := by
  unfold cellL
  rw [List.getElem?_set_self hi]
theorem cellL_of {h : Hd} {i : Nat} {xs : List D} (e : h[i]? = some (.lst xs)) : cellL h i = some xs := by
  unfold cellL
  rw [e]
section
variable {h : Hd}
@[simp] theorem addA_int (i j : Int) : opAddA (.int i) (.int j) h = some (.int (i + j), h) := rfl
@[simp] theorem sub_int (i j : Int) : opSub (.int i) (.int j) h = some (.int (i - j), h) := rfl
theorem mulA_int {i j : Int} (ok : mulOk i j = true) : opMulA (.int i) (.int j) h = some (.int (i * j), h) := by
  unfold opMulA orFrz opMul
  simp [ok, retM]
theorem mulA_r {i j : Int} (ok : j.natAbs < 9223372036854775808) : opMulA (.int i) (.int j) h = some (.int (i * j), h) := mulA_int (mulOk_r ok)
theorem mulA_l {i j : Int} (ok : i.natAbs < 9223372036854775808) : opMulA (.int i) (.int j) h = some (.int (i * j), h) := mulA_int (mulOk_l ok)
theorem mod_int {i j : Int} (ok : 0 < j) : opMod (.int i) (.int j) h = some (.int (i % j), h) := by
  unfold opMod
  simp [ok, retM]
theorem div_int {i j : Int} (ok : 0 < j) (ok2 : j.natAbs < 9223372036854775808) : opDiv (.int i) (.int j) h = some (.int (i / j), h) := by
  unfold opDiv
  have : j.natAbs.log2 < 9000 := by
    have h2 : j.natAbs.log2 < 63 := (Nat.log2_lt (by omega)).2 ok2
    omega
  simp [ok, this, retM]
theorem eqv_int (i j : Int) : PyData.eqv (toPy (.int i)) (toPy (.int j)) = decide (i = j) := by
  simp only [toPy, PyData.eqv]
  by_cases e : i = j <;> simp [e]
@[simp] theorem eq_int (i j : Int) : opEq (.int i) (.int j) h = some (.bl (decide (i = j)), h) := by
  unfold opEq eqOk eqD nowD noRef
  rw [eqv_int, if_pos]
  rfl
@[simp] theorem ne_int (i j : Int) : opNe (.int i) (.int j) h = some (.bl (!decide (i = j)), h) := by
  unfold opNe eqOk eqD nowD noRef
  rw [eqv_int, if_pos]
  rfl
@[simp] theorem lt_int (i j : Int) : opLt (.int i) (.int j) h = some (.bl (decide (i < j)), h) := rfl
@[simp] theorem le_int (i j : Int) : opLe (.int i) (.int j) h = some (.bl (decide (i ≤ j)), h) := rfl
@[simp] theorem gt_int (i j : Int) : opGt (.int i) (.int j) h = some (.bl (decide (i > j)), h) := rfl
@[simp] theorem ge_int (i j : Int) : opGe (.int i) (.int j) h = some (.bl (decide (i ≥ j)), h) := rfl
@[simp] theorem int_int (i : Int) : bInt [.int i] h = some (.int i, h) := rfl
@[simp] theorem len_lst (xs : List D) : bLen [.lst xs] h = some (.int xs.length, h) := rfl
@[simp] theorem len_tup (xs : List D) : bLen [.tup xs] h = some (.int xs.length, h) := rfl
@[simp] theorem abs_int (i : Int) : bAbs [.int i] h = some (.int (if i < 0 then -i else i), h) := rfl
theorem ixRef {i : Nat} {xs : List D} {k : Int} {d : D} (e : cellL h i = some xs) (e2 : atI xs k = some d) : opIx (.ref i) (.int k) h = some (d, h) := by
  unfold opIx seqOf
  simp [e, e2]
theorem ixLst {xs : List D} {k : Int} {d : D} (e2 : atI xs k = some d) : opIx (.lst xs) (.int k) h = some (d, h) := by
  unfold opIx seqOf
  simp [e2]
theorem setRef {i j : Nat} {xs : List D} {k : Int} {d : D} (e : cellL h i = some xs) (e2 : ixN xs.length k = some j) : opSet (.ref i) (.int k) d h = some ((), h.set i (.lst (xs.set j d))) := by
  unfold opSet
  simp [e, e2]
theorem pow1018 : opPow (.int 10) (.int 18) h = some (.int 1000000000000000000, h) := rfl
end
/-- a hand at i0: what a draw does -/
structure HandAt (h : Hd) (i0 : Nat) (cells : List Int) (i j k l : Int) : Prop where
  lt : i0 < h.length
  at_ : cellL h i0 = some (handL cells i j k l)
section
variable {h : Hd} {i0 : Nat} {cells : List Int} {i j k l : Int}
theorem HandAt.g0 (H : HandAt h i0 cells i j k l) : opIx (.ref i0) (.int 0) h = some (.lst (cells.map .int), h) := ixRef H.at_ rfl
theorem HandAt.g1 (H : HandAt h i0 cells i j k l) : opIx (.ref i0) (.int 1) h = some (.int i, h) := ixRef H.at_ rfl
theorem HandAt.g2 (H : HandAt h i0 cells i j k l) : opIx (.ref i0) (.int 2) h = some (.int j, h) := ixRef H.at_ rfl
theorem HandAt.g3 (H : HandAt h i0 cells i j k l) : opIx (.ref i0) (.int 3) h = some (.int k, h) := ixRef H.at_ rfl
theorem HandAt.g4 (H : HandAt h i0 cells i j k l) : opIx (.ref i0) (.int 4) h = some (.int l, h) := ixRef H.at_ rfl
theorem HandAt.put (H : HandAt h i0 cells i j k l) {a b c d : Int} : HandAt (h.set i0 (.lst (handL cells a b c d))) i0 cells a b c d := ⟨by rw [List.length_set]; exact H.lt, cellL_set H.lt⟩
theorem HandAt.s1 (H : HandAt h i0 cells i j k l) (x : Int) : opSet (.ref i0) (.int 1) (.int x) h = some ((), h.set i0 (.lst (handL cells x j k l))) := setRef (j := 1) H.at_ rfl
theorem HandAt.s2 (H : HandAt h i0 cells i j k l) (x : Int) : opSet (.ref i0) (.int 2) (.int x) h = some ((), h.set i0 (.lst (handL cells i x k l))) := setRef (j := 2) H.at_ rfl
theorem HandAt.s3 (H : HandAt h i0 cells i j k l) (x : Int) : opSet (.ref i0) (.int 3) (.int x) h = some ((), h.set i0 (.lst (handL cells i j x l))) := setRef (j := 3) H.at_ rfl
theorem HandAt.s4 (H : HandAt h i0 cells i j k l) (x : Int) : opSet (.ref i0) (.int 4) (.int x) h = some ((), h.set i0 (.lst (handL cells i j k x))) := setRef (j := 4) H.at_ rfl
end
/-! the draw, part by part -/
def dr1 : SV := (sIf (tAn (tT (eBin opEq (eBin opIx (eVar 0) (eC (.int 2))) (eC (.int 0)))) (tT (eBin opLt (eBin opIx (eVar 0) (eC (.int 1))) (eCl bLen (aCons (eBin opIx (eVar 0) (eC (.int 0))) aNil))))) (sSeq (sAsg (eBin opIx (eBin opIx (eVar 0) (eC (.int 0))) (eBin opIx (eVar 0) (eC (.int 1)))) (gNm 2)) (sSeq (sAsg (eBin opAddA (eBin opIx (eVar 0) (eC (.int 1))) (eC (.int 1))) (gSb (eVar 0) (eC (.int 1)))) (sSeq (sAsg (eBin opMod (eCl bInt (aCons (eBin opAddA (eBin opAddA (eBin opMulA (eBin opIx (eVar 0) (eC (.int 3))) (eC (.int 69621))) (eBin opMulA (eVar 2) (eC (.int 40692)))) (eC (.int 31))) aNil)) (eC (.int 2147483629))) (gSb (eVar 0) (eC (.int 3)))) (sIf (tT (eBin opGe (eVar 2) (eBin opPow (eC (.int 10)) (eC (.int 18))))) (sAsg (eVar 2) (gSb (eVar 0) (eC (.int 2)))) sNil)))) sNil)
def dr2 : SV := (sIf (tT (eBin opGt (eBin opIx (eVar 0) (eC (.int 2))) (eC (.int 0)))) (sSeq (sAsg (eBin opMod (eCl bInt (aCons (eBin opIx (eVar 0) (eC (.int 2))) aNil)) (eVar 1)) (gNm 3)) (sSeq (sAsg (eBin opDiv (eBin opIx (eVar 0) (eC (.int 2))) (eVar 1)) (gSb (eVar 0) (eC (.int 2)))) (sRet (eVar 3)))) sNil)
def dr3 : SV := (sSeq (sAsg (eBin opAddA (eBin opIx (eVar 0) (eC (.int 4))) (eC (.int 1))) (gSb (eVar 0) (eC (.int 4)))) (sSeq (sAsg (eBin opMod (eCl bInt (aCons (eBin opMulA (eCl bInt (aCons (eBin opAddA (eBin opIx (eVar 0) (eC (.int 3))) (eBin opMulA (eC (.int 7919)) (eBin opIx (eVar 0) (eC (.int 4))))) aNil)) (eC (.int 48271))) aNil)) (eC (.int 2147483647))) (gNm 4)) (sSeq (sAsg (eBin opMod (eCl bInt (aCons (eBin opMulA (eVar 4) (eBin opAddA (eBin opDiv (eVar 4) (eC (.int 1009))) (eC (.int 69621)))) aNil)) (eC (.int 2147483647))) (gNm 4)) (sSeq (sAsg (eBin opMod (eCl bInt (aCons (eBin opMulA (eVar 4) (eBin opAddA (eBin opDiv (eVar 4) (eC (.int 2003))) (eC (.int 40014)))) aNil)) (eC (.int 2147483563))) (gNm 4)) (sRet (eBin opMod (eCl bInt (aCons (eBin opDiv (eVar 4) (eC (.int 16))) aNil)) (eVar 1)))))))
theorem dr_all : ev_draw = sSeq dr1 (sSeq dr2 dr3) := rfl
section
variable {h : Hd} {i0 : Nat} {cells : List Int} {i j k l many : Int} {n : Nat}
theorem dr1_ok (H : HandAt h i0 cells i j k l) (hi : 0 ≤ i) : ∃ s2 h' i' j' k', dr1 n [some (.ref i0), some (.int many), none, none, none] h = some (.nx [some (.ref i0), some (.int many), s2, none, none], h') ∧ 0 ≤ i' ∧
    (h' = h ∧ i' = i ∧ j' = j ∧ k' = k ∨ h' = h.set i0 (.lst (handL cells i' j' k' l))) := by
  by_cases c1 : j = 0 ∧ i < cells.length
  · obtain ⟨rfl, c1⟩ := c1
    have hx : atI (cells.map D.int) i = some (.int (cells[i.toNat]'(by omega))) := by
      unfold atI ixN
      simp [hi, c1]
    by_cases c2 : (cells[i.toNat]'(by omega)) ≥ 1000000000000000000
    · refine ⟨some (.int (cells[i.toNat]'(by omega))), _, i + 1, (cells[i.toNat]'(by omega)), (k * 69621 + (cells[i.toNat]'(by omega)) * 40692 + 31) % 2147483629, ?_, ?_, .inr rfl⟩
      · simp [dr1, sSeq, sIf, sAsg, sRet, sNil, tAn, tT, asB, eBin, eVar, eC, eCl, aCons, aNil, gNm, gSb, bindM, retM, failM, H.g0, H.g1, H.g2, H.g3, c1, ixLst hx, H.s1, H.put.g3, mulA_r, mod_int, H.put.s3, pow1018, c2, H.put.s2]
      · omega
    · refine ⟨some (.int (cells[i.toNat]'(by omega))), _, i + 1, 0, (k * 69621 + (cells[i.toNat]'(by omega)) * 40692 + 31) % 2147483629, ?_, ?_, .inr rfl⟩
      · simp [dr1, sSeq, sIf, sAsg, sRet, sNil, tAn, tT, asB, eBin, eVar, eC, eCl, aCons, aNil, gNm, gSb, bindM, retM, failM, H.g0, H.g1, H.g2, H.g3, c1, ixLst hx, H.s1, H.put.g3, mulA_r, mod_int, H.put.s3, pow1018, c2]
      · omega
  · refine ⟨none, h, i, j, k, ?_, hi, .inl ⟨rfl, rfl, rfl, rfl⟩⟩
    by_cases c2 : j = 0
    · have c3 : ¬ i < cells.length := fun z => c1 ⟨c2, z⟩
      simp [dr1, sSeq, sIf, sAsg, sRet, sNil, tAn, tT, asB, eBin, eVar, eC, eCl, aCons, aNil, gNm, gSb, bindM, retM, failM, H.g0, H.g1, H.g2, H.g3, c2, c3]
    · simp [dr1, sSeq, sIf, sAsg, sRet, sNil, tAn, tT, asB, eBin, eVar, eC, eCl, aCons, aNil, gNm, gSb, bindM, retM, failM, H.g0, H.g1, H.g2, H.g3, c2]
theorem mulA_mod {a c j : Int} {h : Hd} (h1 : 0 < c) (h2 : c.natAbs < 9223372036854775808) : opMulA (.int (a % c)) (.int j) h = some (.int (a % c * j), h) := mulA_l (by
  have := Int.emod_nonneg a (by omega : c ≠ 0)
  have := Int.emod_lt_of_pos a h1
  omega)
theorem dr2_ok (H : HandAt h i0 cells i j k l) (hm : 0 < many) (hm2 : many.natAbs < 9223372036854775808) {s2 : Option D} :
    (∃ r j', dr2 n [some (.ref i0), some (.int many), s2, none, none] h = some (.rt (.int r), h.set i0 (.lst (handL cells i j' k l))) ∧ 0 ≤ r ∧ r < many) ∨
    dr2 n [some (.ref i0), some (.int many), s2, none, none] h = some (.nx [some (.ref i0), some (.int many), s2, none, none], h) := by
  by_cases c1 : j > 0
  · refine .inl ⟨j % many, j / many, ?_, Int.emod_nonneg _ (by omega), Int.emod_lt_of_pos _ hm⟩
    simp [dr2, sSeq, sIf, sAsg, sRet, sNil, tAn, tT, asB, eBin, eVar, eC, eCl, aCons, aNil, gNm, gSb, bindM, retM, failM, H.g0, H.g1, H.g2, H.g3, c1, mod_int hm, div_int hm hm2, H.s2]
  · refine .inr ?_
    simp [dr2, sSeq, sIf, sAsg, sRet, sNil, tAn, tT, asB, eBin, eVar, eC, eCl, aCons, aNil, gNm, gSb, bindM, retM, failM, H.g0, H.g1, H.g2, H.g3, c1]
theorem dr3_ok (H : HandAt h i0 cells i j k l) (hm : 0 < many) {s2 : Option D} :
    ∃ r, dr3 n [some (.ref i0), some (.int many), s2, none, none] h = some (.rt (.int r), h.set i0 (.lst (handL cells i j k (l + 1)))) ∧ 0 ≤ r ∧ r < many := by
  refine ⟨?_, ?_, ?_, ?_⟩
  rotate_left
  · simp [dr3, sSeq, sIf, sAsg, sRet, sNil, tAn, tT, asB, eBin, eVar, eC, eCl, aCons, aNil, gNm, gSb, bindM, retM, failM, H.g4, H.s4, H.put.g3, H.put.g4, mulA_l, mulA_r, mulA_mod, mod_int, div_int, hm]
    rfl
  · exact Int.emod_nonneg _ (by omega)
  · exact Int.emod_lt_of_pos _ hm
theorem m_draw_of {h' : Hd} {r : D} (e : ev_draw 10000 [some (.ref i0), some (.int many), none, none, none] h = some (.rt r, h')) (hl : h'.length = h.length) (ho : h'.all (okCell h.length) = true) (hr : r.okR h.length = true) :
    m_draw [.ref i0, .int many] h = some (.val r, h') := by
  unfold m_draw mRun
  have st : startD 5 2 [.ref i0, .int many] = [some (.ref i0), some (.int many), none, none, none] := rfl
  have ht : h'.take h.length = h' := by rw [← hl]; exact List.take_length
  rw [st, e]
  simp only [flD, ht, hl, ho, resOf, hr]
  simp
theorem okCell_hand : okCell n (.lst (handL cells i j k l)) = true := by
  have : ∀ cs : List Int, okRs n (cs.map D.int) = true := by
    intro cs
    induction cs with
    | nil => simp [okRs]
    | cons x r ih => simp [okRs, D.okR, ih]
  simp [okCell, handL, okRs, D.okR, this]
theorem okH_set {c : Cell} (ho : okH h) (hc : okCell h.length c = true) : (h.set i0 c).all (okCell h.length) = true := by
  unfold okH at ho
  rw [List.all_eq_true] at ho ⊢
  intro x hx
  rcases List.mem_or_eq_of_mem_set hx with z | z
  · exact ho x z
  · rw [z]; exact hc
/-- THE DRAW -/
theorem draw_ok (H : HandAt h i0 cells i j k l) (ho : okH h) (hi : 0 ≤ i) (hm : 0 < many) (hm2 : many.natAbs < 9223372036854775808) :
    ∃ r i' j' k' l', m_draw [.ref i0, .int many] h = some (.val (.int r), h.set i0 (.lst (handL cells i' j' k' l'))) ∧ 0 ≤ r ∧ r < many ∧ 0 ≤ i' := by
  obtain ⟨s2, h1, i1, j1, k1, e1, hi1, hc⟩ := dr1_ok (n := 10000) (many := many) H hi
  have hq : h1.length = h.length ∧ HandAt h1 i0 cells i1 j1 k1 l ∧ ∀ c, h1.set i0 c = h.set i0 c := by
    rcases hc with ⟨rfl, rfl, rfl, rfl⟩ | rfl
    · exact ⟨rfl, H, fun _ => rfl⟩
    · exact ⟨List.length_set, H.put, fun c => by rw [List.set_set]⟩
  obtain ⟨hl, H1, hset⟩ := hq
  rcases dr2_ok (n := 10000) H1 hm hm2 (s2 := s2) with ⟨r, j2, e2, r0, r1⟩ | e2
  · refine ⟨r, i1, j2, k1, l, m_draw_of ?_ List.length_set (okH_set ho okCell_hand) rfl, r0, r1, hi1⟩
    rw [dr_all]
    simp only [sSeq, bindM, e1, e2, hset, retM]
  · obtain ⟨r, e3, r0, r1⟩ := dr3_ok (n := 10000) H1 hm (s2 := s2)
    refine ⟨r, i1, j1, k1, l + 1, m_draw_of ?_ List.length_set (okH_set ho okCell_hand) rfl, r0, r1, hi1⟩
    rw [dr_all]
    simp only [sSeq, bindM, e1, e2, e3, hset, retM]
end
end DK

namespace DK
open PySem PySem.Spec PyProof.Rows L2

/-! ### a def that needs no heap of its callers -/
def pureRun (sv : SV) (N k fuel : Nat) (ds : List D) : Option Res := if okRs 0 ds = true then match sv fuel (startD N k ds) [] with
  | some (fl, hf) => match flD fl with
    | some d => resOf 0 d hf
    | none => none
  | none => none else none
def mPure (sv : SV) (N k fuel : Nat) : Fn := fun ds h => match pureRun sv N k fuel ds with
  | some r => some (r, h)
  | none => none
section
variable {K : PySem.W.Frag} {g g' : Gh} {H H' : Hp} {h : Hd}
theorem lift0 (hs : HS K g H h) (E : Ext K g 0 H g' 0 H') (hs' : HS K g' H' []) :
    Ext K g h.length H ⟨g.al, g'.G⟩ h.length H' ∧ HS K ⟨g.al, g'.G⟩ H' h ∧ (∀ d v, Rl K g' 0 H' d v → Rl K ⟨g.al, g'.G⟩ h.length H' d v) ∧ ∀ ds vs, Rls K g' 0 H' ds vs → Rls K ⟨g.al, g'.G⟩ h.length H' ds vs := by
  have fr : ∀ a o, H a = some o → H' a = some o := fun a o e => E.frame a o e fun i hi => absurd hi (Nat.not_lt_zero _)
  have EX : Ext K g h.length H ⟨g.al, g'.G⟩ h.length H' := ⟨Nat.le_refl _, fun _ _ => rfl, fun i a b => by omega, E.G, E.nG, fun a o e _ => fr a o e, E.dom, E.tup, fun a vs q => E.frz a vs q, E.ro⟩
  refine ⟨EX, ⟨fun i c e => ?_, hs.inj, fun i hi q => ?_, fun a q => hs'.gs a q⟩, fun d v r => ?_, fun ds vs r => ?_⟩
  · have k := hs.cell i c e
    cases c with
    | lst xs => obtain ⟨vs, e1, r⟩ := k; exact ⟨vs, fr _ _ e1, EX.rls r⟩
    | dK kvs => obtain ⟨kv, e1, e2, r⟩ := k; exact ⟨kv, fr _ _ e1, e2, EX.rls r⟩
  · rcases E.nG _ q with z | z
    · exact hs.gap i hi z
    · obtain ⟨o, e, _⟩ := hs.ne_none hi
      rw [e] at z
      cases z
  · exact r.pass (g := g') (g' := ⟨g.al, g'.G⟩) (fun _ _ q => q) (fun _ _ q => q) (fun _ _ q => q) fun i hi => absurd hi (Nat.not_lt_zero _)
  · exact r.pass (g := g') (g' := ⟨g.al, g'.G⟩) (fun _ _ q => q) (fun _ _ q => q) (fun _ _ q => q) fun i hi => absurd hi (Nat.not_lt_zero _)
theorem postR0 {Q : VK} {res : Res} (hs : HS K g H h) (post : PostR K g h.length H h Q res) : PostR K g 0 H [] Q res := by
  cases res with
  | val d =>
    intro g' H' v E hs' r
    obtain ⟨E2, hs2, k, _⟩ := lift0 hs E hs'
    exact post _ H' v E2 hs2 (k _ _ r)
  | fresh xs =>
    intro g' H' p vs E hs' r hp
    obtain ⟨E2, hs2, _, k⟩ := lift0 hs E hs'
    exact post _ H' p vs E2 hs2 (k _ _ r) hp
theorem fo_pure {P : Program} {w : World} {mg : Str → Option Value} {base : Heap} {x qual : Str} {st : Stmt} {f : Addr} {fd : FuncData} {N ps : List Str} {k N0 k0 fuel : Nat} {sv : SV} {m : Fn} (F : Fun K x qual st f fd) (S : FnScope N ps (defScope st))
    (hbody : ∀ (cdv : Value) (A : Around) (outer : List Env) (s : Shared) (H : Hp) (E : XK), Room k (A.deeper (envOfC qual (defScope st) s.heap.objs.size f cdv)) →
      DSs (cxOf CX0 P w K mg base N qual (defScope st) f cdv A outer s H E).nox (defBody st) sv)
    (hm : m = mPure sv N0 k0 fuel) (hN0 : N0 = N.length) (hk0 : k0 = ps.length) :
    FnOk P w K mg base CX0 (k + 1) f fd ps (spD K ps.length m) := by
  subst hm hN0 hk0
  refine F.ok S (fun vs H Q E q => q.1) (fun cdv A outer s H vs Q E hr q => ?_)
  obtain ⟨t, pt, sd⟩ := (hbody cdv A outer s H E hr).ex
  obtain ⟨hl, g, ds, h, res, h', hs, r, e, post⟩ := q
  unfold mPure at e
  split at e
  · rename_i res' e1
    cases e
    unfold pureRun at e1
    split at e1
    · rename_i hok
      split at e1
      · rename_i fl hf e2
        split at e1
        · rename_i d e3
          have r0 : Rls K g 0 H ds vs := r.cut hok
          have hs0 : HS K g H [] := ⟨fun i c e => by simp at e, fun i j hi => absurd hi (Nat.not_lt_zero _), fun i hi => absurd hi (Nat.not_lt_zero _), hs.gs⟩
          have b : Back [] d hf res [] := by
            refine ⟨Nat.zero_le _, rfl, by simp, fun i c q => by simp at q, ?_⟩
            unfold resOf at e1
            split at e1
            · rename_i hd
              cases e1
              exact .inl ⟨rfl, hd⟩
            · split at e1
              · split at e1
                · rename_i xs e4
                  split at e1
                  · rename_i h5
                    cases e1
                    rw [Bool.and_eq_true, decide_eq_true_eq] at h5
                    exact .inr ⟨_, xs, rfl, h5.1, e4, h5.2, rfl⟩
                  · cases e1
                · cases e1
              · cases e1
          have post0 := postR0 hs post
          refine ⟨t, pt, sd fuel g _ H _ [] fl hf _ ⟨hs0, startD_ok r0 hl⟩ e2 ?_⟩
          cases fl with
          | nx ds' => cases e3; exact fun g' H' σ' E' S' => back_post hs0 b E' S'.hs .non post0
          | rt d' => cases e3; exact fun g' H' v E' S' r' => back_post hs0 b E' S' r' post0
          | bk _ => cases e3
          | ct _ => cases e3
        · cases e1
      · cases e1
    · cases e1
  · cases e
end
end DK

namespace DK
open PySem PySem.Spec PyProof.Rows L2
/-! ### loops, by a number that grows less -/
theorem whileE_ind {c : Sl → M Bool} {b : Sl → M Fl} {h : Hd} (I : Nat → Sl → Prop) (P : Sl → Prop)
    (hs : ∀ m ds, I m ds → (c ds h = some (false, h) ∧ P ds) ∨ (c ds h = some (true, h) ∧ ∃ m' ds', m' < m ∧ b ds h = some (.nx ds', h) ∧ I m' ds')) :
    ∀ fuel m ds, I m ds → m < fuel → ∃ ds', whileE c b fuel ds h = some (.nx ds', h) ∧ P ds'
  | 0, m, ds, _, hl => absurd hl (Nat.not_lt_zero _)
  | fuel + 1, m, ds, hi, hl => by
    unfold whileE
    rcases hs m ds hi with ⟨e, p⟩ | ⟨e, m', ds', hm, e2, hi2⟩
    · rw [bindM_eq e]
      exact ⟨ds, rfl, p⟩
    · rw [bindM_eq e, if_pos rfl, bindM_eq e2]
      exact whileE_ind I P hs fuel m' ds' hi2 (by omega)
/-! ### Euclid's steps -/
theorem euc_step {x y : Int} {k : Nat} (hy : 0 < y) (hyx : y ≤ x) (hb : x * y < 2 ^ (k + 1)) : y * (x % y) < 2 ^ k := by
  have h1 : 1 ≤ x / y := Int.le_ediv_of_mul_le hy (by omega)
  have h2 : x % y = x - y * (x / y) := by
    have := Int.emod_add_mul_ediv x y
    omega
  have h3 : y * 1 ≤ y * (x / y) := Int.mul_le_mul_of_nonneg_left h1 (by omega)
  have h4 : x % y < y := Int.emod_lt_of_pos x hy
  have h5 : 2 * (x % y) ≤ x := by omega
  have h6 : y * (2 * (x % y)) ≤ y * x := Int.mul_le_mul_of_nonneg_left h5 (by omega)
  have h7 : y * (2 * (x % y)) = 2 * (y * (x % y)) := by rw [Int.mul_left_comm]
  have h8 : y * x = x * y := Int.mul_comm _ _
  have h9 : (2 : Int) ^ (k + 1) = 2 ^ k * 2 := Int.pow_succ _ _
  omega
/-- how many steps are enough -/
def Euc (m : Nat) (x y : Int) : Prop := 0 ≤ x ∧ 0 ≤ y ∧ (y = 0 ∨ (y ≤ x ∧ x * y < 2 ^ m) ∨ (x < y ∧ ∃ k, m = k + 1 ∧ y * x < 2 ^ k))
theorem Euc.next {m : Nat} {x y : Int} (e : Euc m x y) (hy : 0 < y) : ∃ m', m' < m ∧ Euc m' y (x % y) := by
  obtain ⟨hx, hy0, h⟩ := e
  have r0 : 0 ≤ x % y := Int.emod_nonneg _ (by omega)
  have r1 : x % y < y := Int.emod_lt_of_pos x hy
  rcases h with h | ⟨h1, h2⟩ | ⟨h1, k, rfl, h2⟩
  · omega
  · cases m with
    | zero =>
      have : 1 * 1 ≤ x * y := Int.mul_le_mul (by omega) (by omega) (by omega) (by omega)
      omega
    | succ k => exact ⟨k, Nat.lt_succ_self _, hy0, r0, .inr (.inl ⟨by omega, euc_step hy h1 h2⟩)⟩
  · refine ⟨k, Nat.lt_succ_self _, hy0, r0, .inr (.inl ⟨by omega, ?_⟩)⟩
    rw [Int.emod_eq_of_lt hx h1]
    exact h2
theorem Euc.start {x y : Int} (hx : 0 ≤ x) (hy : 0 ≤ y) (hx2 : x < 2 ^ 100) (hy2 : y < 2 ^ 100) : Euc 201 x y := by
  have h : x * y < 2 ^ 200 := by
    have h1 : x * y ≤ x * 2 ^ 100 := Int.mul_le_mul_of_nonneg_left (by omega) hx
    have h2 : x * 2 ^ 100 < 2 ^ 100 * 2 ^ 100 := Int.mul_lt_mul_of_pos_right hx2 (by decide)
    have h3 : (2 : Int) ^ 100 * 2 ^ 100 = 2 ^ 200 := by decide
    omega
  refine ⟨hx, hy, ?_⟩
  by_cases c : y ≤ x
  · refine .inr (.inl ⟨c, ?_⟩)
    have : (2 : Int) ^ 201 = 2 ^ 200 * 2 := by decide
    omega
  · refine .inr (.inr ⟨by omega, 200, rfl, ?_⟩)
    rw [Int.mul_comm]
    exact h
theorem gcd_step {x y : Int} (hx : 0 ≤ x) (hy : 0 < y) : Int.gcd y (x % y) = Int.gcd x y := by
  obtain ⟨a, rfl⟩ := Int.eq_ofNat_of_zero_le hx
  obtain ⟨b, rfl⟩ := Int.eq_ofNat_of_zero_le (Int.le_of_lt hy)
  show Nat.gcd b (a % b) = Nat.gcd a b
  rw [Nat.gcd_comm b, ← Nat.gcd_rec, Nat.gcd_comm]
def ev_gcd : SV := (sSeq (sPar2 0 1 (aCons (eCl bAbs (aCons (eVar 0) aNil)) (aCons (eCl bAbs (aCons (eVar 1) aNil)) aNil))) (sSeq (sWhile (tT (eBin opGt (eVar 1) (eC (.int 0)))) (sPar2 0 1 (aCons (eVar 1) (aCons (eBin opMod (eCl bInt (aCons (eVar 0) aNil)) (eVar 1)) aNil)))) (sRet (eVar 0))))
theorem gcd_loop {n : Nat} {h : Hd} {x y : Int} {m : Nat} (e : Euc m x y) (hm : m < n) :
    whileE (tT (eBin opGt (eVar 1) (eC (.int 0))) n) (sPar2 0 1 (aCons (eVar 1) (aCons (eBin opMod (eCl bInt (aCons (eVar 0) aNil)) (eVar 1)) aNil)) n) n [some (.int x), some (.int y)] h = some (.nx [some (.int (Int.gcd x y)), some (.int 0)], h) := by
  have key := whileE_ind (h := h) (c := tT (eBin opGt (eVar 1) (eC (.int 0))) n) (b := sPar2 0 1 (aCons (eVar 1) (aCons (eBin opMod (eCl bInt (aCons (eVar 0) aNil)) (eVar 1)) aNil)) n) (fun m ds => ∃ a b : Int, ds = [some (.int a), some (.int b)] ∧ Int.gcd a b = Int.gcd x y ∧ Euc m a b) (fun ds => ds = [some (.int (Int.gcd x y)), some (.int 0)]) (by
    intro m ds hi
    obtain ⟨a, b, rfl, g, eu⟩ := hi
    by_cases hb : 0 < b
    · refine .inr ⟨by simp [tT, asB, eBin, eVar, eC, bindM, hb], ?_⟩
      obtain ⟨m', hm', eu'⟩ := eu.next hb
      refine ⟨m', _, hm', ?_, b, a % b, rfl, by rw [gcd_step eu.1 hb, g], eu'⟩
      simp [sPar2, aCons, aNil, eBin, eVar, eCl, bindM, retM, mod_int hb]
    · have hb0 : b = 0 := by have := eu.2.1; omega
      subst hb0
      refine .inl ⟨by simp [tT, asB, eBin, eVar, eC, bindM], ?_⟩
      have ha : (a.natAbs : Int) = a := Int.natAbs_of_nonneg eu.1
      rw [← g, Int.gcd_zero_right, ha]) n m [some (.int x), some (.int y)] ⟨x, y, rfl, rfl, e⟩ hm
  obtain ⟨ds', e1, e2⟩ := key
  exact e1.trans (by rw [e2])
theorem gcd_run {x y : Int} (hx : x.natAbs < 2 ^ 100) (hy : y.natAbs < 2 ^ 100) : pureRun ev_gcd 2 2 10000 [.int x, .int y] = some (.val (.int (Int.gcd x y))) := by
  have hab : ∀ z : Int, (if z < 0 then -z else z) = (z.natAbs : Int) := fun z => by split <;> omega
  have hok : okRs 0 [.int x, .int y] = true := rfl
  unfold pureRun
  rw [if_pos hok]
  have st : startD 2 2 [.int x, .int y] = [some (.int x), some (.int y)] := rfl
  rw [st]
  have e1 : sPar2 0 1 (aCons (eCl bAbs (aCons (eVar 0) aNil)) (aCons (eCl bAbs (aCons (eVar 1) aNil)) aNil)) 10000 [some (.int x), some (.int y)] [] = some (.nx [some (.int x.natAbs), some (.int y.natAbs)], []) := by
    simp [sPar2, aCons, aNil, eVar, eCl, bindM, retM, hab]
  have e2 := gcd_loop (n := 10000) (h := []) (Euc.start (x := (x.natAbs : Int)) (y := (y.natAbs : Int)) (by omega) (by omega) (by omega) (by omega)) (by decide)
  unfold ev_gcd sSeq sWhile
  simp only [bindM, e1, e2, retM, sRet, eVar, List.getElem?_cons_zero, flD, resOf, D.okR, if_true]
  rfl
end DK

namespace K23
open PySem PySem.Spec PyProof.Rows L2 DK
def topS (i : Nat) : Stmt := PySem.Challenge.pw_wholesworn_k23_whole_common_divisors_of.main.body.getD i (.Pass ⟨0, 0, 0, 0⟩)
structure Gs (K : PySem.W.Frag) (mg : Str → Option Value) : Prop where
  b_abs : mg "abs" = none
  b_all : mg "all" = none
  b_bool : mg "bool" = none
  b_int : mg "int" = none
  b_isinstance : mg "isinstance" = none
  b_len : mg "len" = none
  b_list : mg "list" = none
  b_max : mg "max" = none
  b_min : mg "min" = none
  b_range : mg "range" = none
  b_sum : mg "sum" = none
  b_tuple : mg "tuple" = none
  b_zip : mg "zip" = none
  c_MOST_MANY : GlobI mg "MOST_MANY" 20
  c_MOST_SIDE : GlobI mg "MOST_SIDE" 8
  c_MOST_commons : GlobI mg "MOST_commons" 1000000000000
  c_MOST_digits : GlobI mg "MOST_digits" 1000000000000000000
  c_MOST_tables : GlobI mg "MOST_tables" 1000000000
abbrev st__law_hand : Stmt := topS 34
theorem sc__law_hand : FnScope ["script", "cells", "cell"] ["script"] (defScope st__law_hand) := ⟨rfl, rfl, rfl, by decide +kernel, rfl, by decide +kernel, by decide +kernel⟩
def ev__law_hand : SV := (sSeq (sAsg (eFrz (lLc (iSeq (eSl (eVar 0) oNone (oSome (eC (.int 63))))) (gNm 2) tYs (eCl bAbs (aCons (eCl bInt (aCons (eVar 2) aNil)) aNil)) [2])) (gNm 1)) (sRet (eNew (lLst (aCons (eVar 1) (aCons (eC (.int 0)) (aCons (eC (.int 0)) (aCons (eBin opAddA (eC (.int 99001)) (eBin opMulA (eC (.int 7)) (eCl bLen (aCons (eVar 1) aNil)))) (aCons (eC (.int 0)) aNil)))))))))
def m__law_hand : Fn := mPure ev__law_hand 3 1 10000
abbrev st_is_integer : Stmt := topS 1
theorem sc_is_integer : FnScope ["thing"] ["thing"] (defScope st_is_integer) := ⟨rfl, rfl, rfl, by decide +kernel, rfl, by decide +kernel, by decide +kernel⟩
def ev_is_integer : SV := (sRet (eAnd (eIsi "int" (eVar 0)) (eNt (eIsi "bool" (eVar 0)))))
def m_is_integer : Fn := mPure ev_is_integer 1 1 10000
abbrev st_is_within : Stmt := topS 2
theorem sc_is_within : FnScope ["thing", "least", "most"] ["thing", "least", "most"] (defScope st_is_within) := ⟨rfl, rfl, rfl, by decide +kernel, rfl, by decide +kernel, by decide +kernel⟩
def ev_is_within : SV := (sRet (eAnd (eCall m_is_integer 1 (aCons (eVar 0) aNil)) (eChain opLe opLe (eVar 1) (eVar 0) (eVar 2))))
def m_is_within : Fn := mPure ev_is_within 3 3 10000
abbrev st_is_table : Stmt := topS 24
theorem sc_is_table : FnScope ["thing", "row", "one"] ["thing"] (defScope st_is_table) := ⟨rfl, rfl, rfl, by decide +kernel, rfl, by decide +kernel, by decide +kernel⟩
def ev_is_table : SV := (sSeq (sIf (tOrr (tNt (tTru (eIsi "tuple" (eVar 0)))) (tNt (tT (eChain opLe opLe (eC (.int 1)) (eCl bLen (aCons (eVar 0) aNil)) (eC (.int 8)))))) (sRet (eC (.bl false))) sNil) (sSeq (sIf (tNt (tTru (eCl bAll (aCons (eFrz (lLc (iSeq (eVar 0)) (gNm 1) tYs (eAnd (eIsi "tuple" (eVar 1)) (eChain opLe opLe (eC (.int 1)) (eCl bLen (aCons (eVar 1) aNil)) (eC (.int 8)))) [1])) aNil)))) (sRet (eC (.bl false))) sNil) (sSeq (sIf (tNt (tTru (eCl bAll (aCons (eFrz (lLc (iSeq (eVar 0)) (gNm 1) tYs (eBin opEq (eCl bLen (aCons (eVar 1) aNil)) (eCl bLen (aCons (eBin opIx (eVar 0) (eC (.int 0))) aNil))) [1])) aNil)))) (sRet (eC (.bl false))) sNil) (sRet (eCl bAll (aCons (eFrz (lLc (iSeq (eVar 0)) (gNm 1) tYs (eCl bAll (aCons (eFrz (lLc (iSeq (eVar 1)) (gNm 2) tYs (eCall m_is_within 3 (aCons (eVar 2) (aCons (eNeg (eC (.int 1000000000))) (aCons (eC (.int 1000000000)) aNil)))) [2])) aNil)) [1])) aNil))))))
def m_is_table : Fn := mPure ev_is_table 3 1 10000
abbrev st_check_table : Stmt := topS 25
theorem sc_check_table : FnScope ["table"] ["table"] (defScope st_check_table) := ⟨rfl, rfl, rfl, by decide +kernel, rfl, by decide +kernel, by decide +kernel⟩
def ev_check_table : SV := (sIf (tNt (tTru (eCall m_is_table 1 (aCons (eVar 0) aNil)))) sFail sNil)
def m_check_table : Fn := mPure ev_check_table 1 1 10000
abbrev st_check_square : Stmt := topS 26
theorem sc_check_square : FnScope ["table"] ["table"] (defScope st_check_square) := ⟨rfl, rfl, rfl, by decide +kernel, rfl, by decide +kernel, by decide +kernel⟩
def ev_check_square : SV := (sSeq (sExpr (eCall m_check_table 1 (aCons (eVar 0) aNil))) (sIf (tT (eBin opNe (eCl bLen (aCons (eVar 0) aNil)) (eCl bLen (aCons (eBin opIx (eVar 0) (eC (.int 0))) aNil)))) sFail sNil))
def m_check_square : Fn := mPure ev_check_square 1 1 10000
abbrev st_unit_table : Stmt := topS 28
theorem sc_unit_table : FnScope ["many", "other", "one"] ["many"] (defScope st_unit_table) := ⟨rfl, rfl, rfl, by decide +kernel, rfl, by decide +kernel, by decide +kernel⟩
def ev_unit_table : SV := (sRet (eCl bTuple (aCons (eFrz (lLc (iRg1 (aCons (eVar 0) aNil)) (gNm 2) tYs (eCl bTuple (aCons (eFrz (lLc (iRg1 (aCons (eVar 0) aNil)) (gNm 1) tYs (eCl bInt (aCons (eBin opEq (eVar 2) (eVar 1)) aNil)) [1])) aNil)) [2])) aNil)))
def m_unit_table : Fn := mPure ev_unit_table 3 1 10000
abbrev st_times : Stmt := topS 27
theorem sc_times : FnScope ["one", "other", "turned_over", "a", "b", "column", "row"] ["one", "other"] (defScope st_times) := ⟨rfl, rfl, rfl, by decide +kernel, rfl, by decide +kernel, by decide +kernel⟩
def ev_times : SV := (sSeq (sAsg (eFrz (lZipS (eVar 1))) (gNm 2)) (sRet (eCl bTuple (aCons (eFrz (lLc (iSeq (eVar 0)) (gNm 6) tYs (eCl bTuple (aCons (eFrz (lLc (iSeq (eVar 2)) (gNm 5) tYs (eCl bSum (aCons (eFrz (lLc (iZp (aCons (eVar 6) (aCons (eVar 5) aNil))) (gTp 2 (gsCons (gNm 3) (gsCons (gNm 4) gsNil))) tYs (eBin opMulA (eVar 3) (eVar 4)) [3, 4])) aNil)) [5])) aNil)) [6])) aNil))))
def m_times : Fn := mPure ev_times 7 2 10000
abbrev st_power_of_table : Stmt := topS 32
theorem sc_power_of_table : FnScope ["table", "exponent", "found", "turn"] ["table", "exponent"] (defScope st_power_of_table) := ⟨rfl, rfl, rfl, by decide +kernel, rfl, by decide +kernel, by decide +kernel⟩
def ev_power_of_table : SV := (sSeq (sExpr (eCall m_check_square 1 (aCons (eVar 0) aNil))) (sSeq (sIf (tNt (tTru (eCall m_is_within 3 (aCons (eVar 1) (aCons (eC (.int 0)) (aCons (eC (.int 64)) aNil)))))) sFail sNil) (sSeq (sAsg (eCall m_unit_table 1 (aCons (eCl bLen (aCons (eVar 0) aNil)) aNil)) (gNm 2)) (sSeq (sFor (iRg1 (aCons (eVar 1) aNil)) (gNm 3) (sAsg (eCall m_times 2 (aCons (eVar 2) (aCons (eVar 0) aNil))) (gNm 2))) (sRet (eVar 2))))))
def m_power_of_table : Fn := mPure ev_power_of_table 4 2 10000
abbrev st__law_draw : Stmt := topS 35
theorem sc__law_draw : FnScope ["hand", "many", "cell", "digit", "mixed_here"] ["hand", "many"] (defScope st__law_draw) := ⟨rfl, rfl, rfl, by decide +kernel, rfl, by decide +kernel, by decide +kernel⟩
def ev__law_draw : SV := (sSeq (sIf (tAn (tT (eBin opEq (eBin opIx (eVar 0) (eC (.int 2))) (eC (.int 0)))) (tT (eBin opLt (eBin opIx (eVar 0) (eC (.int 1))) (eCl bLen (aCons (eBin opIx (eVar 0) (eC (.int 0))) aNil))))) (sSeq (sAsg (eBin opIx (eBin opIx (eVar 0) (eC (.int 0))) (eBin opIx (eVar 0) (eC (.int 1)))) (gNm 2)) (sSeq (sAsg (eBin opAddA (eBin opIx (eVar 0) (eC (.int 1))) (eC (.int 1))) (gSb (eVar 0) (eC (.int 1)))) (sSeq (sAsg (eBin opMod (eCl bInt (aCons (eBin opAddA (eBin opAddA (eBin opMulA (eBin opIx (eVar 0) (eC (.int 3))) (eC (.int 69621))) (eBin opMulA (eVar 2) (eC (.int 40692)))) (eC (.int 31))) aNil)) (eC (.int 2147483629))) (gSb (eVar 0) (eC (.int 3)))) (sIf (tT (eBin opGe (eVar 2) (eBin opPow (eC (.int 10)) (eC (.int 18))))) (sAsg (eVar 2) (gSb (eVar 0) (eC (.int 2)))) sNil)))) sNil) (sSeq (sIf (tT (eBin opGt (eBin opIx (eVar 0) (eC (.int 2))) (eC (.int 0)))) (sSeq (sAsg (eBin opMod (eCl bInt (aCons (eBin opIx (eVar 0) (eC (.int 2))) aNil)) (eVar 1)) (gNm 3)) (sSeq (sAsg (eBin opDiv (eBin opIx (eVar 0) (eC (.int 2))) (eVar 1)) (gSb (eVar 0) (eC (.int 2)))) (sRet (eVar 3)))) sNil) (sSeq (sAsg (eBin opAddA (eBin opIx (eVar 0) (eC (.int 4))) (eC (.int 1))) (gSb (eVar 0) (eC (.int 4)))) (sSeq (sAsg (eBin opMod (eCl bInt (aCons (eBin opMulA (eCl bInt (aCons (eBin opAddA (eBin opIx (eVar 0) (eC (.int 3))) (eBin opMulA (eC (.int 7919)) (eBin opIx (eVar 0) (eC (.int 4))))) aNil)) (eC (.int 48271))) aNil)) (eC (.int 2147483647))) (gNm 4)) (sSeq (sAsg (eBin opMod (eCl bInt (aCons (eBin opMulA (eVar 4) (eBin opAddA (eBin opDiv (eVar 4) (eC (.int 1009))) (eC (.int 69621)))) aNil)) (eC (.int 2147483647))) (gNm 4)) (sSeq (sAsg (eBin opMod (eCl bInt (aCons (eBin opMulA (eVar 4) (eBin opAddA (eBin opDiv (eVar 4) (eC (.int 2003))) (eC (.int 40014)))) aNil)) (eC (.int 2147483563))) (gNm 4)) (sRet (eBin opMod (eCl bInt (aCons (eBin opDiv (eVar 4) (eC (.int 16))) aNil)) (eVar 1)))))))))
def m__law_draw : Fn := mRun ev__law_draw 5 2 10000
abbrev st__law_any : Stmt := topS 36
theorem sc__law_any : FnScope ["hand", "some"] ["hand", "some"] (defScope st__law_any) := ⟨rfl, rfl, rfl, by decide +kernel, rfl, by decide +kernel, by decide +kernel⟩
def ev__law_any : SV := (sRet (eBin opIx (eVar 1) (eCall m__law_draw 2 (aCons (eVar 0) (aCons (eCl bLen (aCons (eVar 1) aNil)) aNil)))))
def m__law_any : Fn := mRun ev__law_any 2 2 10000
abbrev st__law_gcd : Stmt := topS 37
theorem sc__law_gcd : FnScope ["one", "other"] ["one", "other"] (defScope st__law_gcd) := ⟨rfl, rfl, rfl, by decide +kernel, rfl, by decide +kernel, by decide +kernel⟩
def ev__law_gcd : SV := (sSeq (sPar2 0 1 (aCons (eCl bAbs (aCons (eVar 0) aNil)) (aCons (eCl bAbs (aCons (eVar 1) aNil)) aNil))) (sSeq (sWhile (tT (eBin opGt (eVar 1) (eC (.int 0)))) (sPar2 0 1 (aCons (eVar 1) (aCons (eBin opMod (eCl bInt (aCons (eVar 0) aNil)) (eVar 1)) aNil)))) (sRet (eVar 0))))
def m__law_gcd : Fn := mPure ev__law_gcd 2 2 10000
abbrev st__law_row : Stmt := topS 39
theorem sc__law_row : FnScope ["rule", "many", "found"] ["rule", "many"] (defScope st__law_row) := ⟨rfl, rfl, rfl, by decide +kernel, rfl, by decide +kernel, by decide +kernel⟩
def ev__law_row : SV := (sSeq (sAsg (eNew (lLst (aCons (eC (.int 0)) (aCons (eC (.int 1)) aNil)))) (gNm 2)) (sSeq (sWhile (tT (eBin opLt (eCl bLen (aCons (eVar 2) aNil)) (eVar 1))) (sExpr (eApp (eVar 2) (eBin opAddA (eBin opMulA (eBin opIx (eVar 0) (eC (.int 0))) (eBin opIx (eVar 2) (eNeg (eC (.int 1))))) (eBin opMulA (eBin opIx (eVar 0) (eC (.int 1))) (eBin opIx (eVar 2) (eNeg (eC (.int 2))))))))) (sRet (eVar 2))))
def m__law_row : Fn := mPure ev__law_row 3 2 10000
abbrev st_product : Stmt := topS 29
theorem sc_product : FnScope ["one", "other"] ["one", "other"] (defScope st_product) := ⟨rfl, rfl, rfl, by decide +kernel, rfl, by decide +kernel, by decide +kernel⟩
def ev_product : SV := (sSeq (sExpr (eCall m_check_table 1 (aCons (eVar 0) aNil))) (sSeq (sExpr (eCall m_check_table 1 (aCons (eVar 1) aNil))) (sSeq (sIf (tT (eBin opNe (eCl bLen (aCons (eBin opIx (eVar 0) (eC (.int 0))) aNil)) (eCl bLen (aCons (eVar 1) aNil)))) sFail sNil) (sRet (eCall m_times 2 (aCons (eVar 0) (aCons (eVar 1) aNil)))))))
def m_product : Fn := mPure ev_product 2 2 10000
abbrev st_worth : Stmt := topS 30
theorem sc_worth : FnScope ["rows", "sign", "last", "row", "at", "some", "here", "column", "number"] ["rows"] (defScope st_worth) := ⟨rfl, rfl, rfl, by decide +kernel, rfl, by decide +kernel, by decide +kernel⟩
def ev_worth : SV := (sSeq (sAsg (eTup (aCons (eNew (lLc (iSeq (eVar 0)) (gNm 3) tYs (eNew (lCl bList (aCons (eVar 3) aNil))) [3])) (aCons (eC (.int 1)) (aCons (eC (.int 1)) aNil)))) (gTp 3 (gsCons (gNm 0) (gsCons (gNm 1) (gsCons (gNm 2) gsNil))))) (sSeq (sFor (iRg1 (aCons (eCl bLen (aCons (eVar 0) aNil)) aNil)) (gNm 4) (sSeq (sAsg (eFrz (lLc (iRg2 (aCons (eVar 4) (aCons (eCl bLen (aCons (eVar 0) aNil)) aNil))) (gNm 6) (tT (eBin opNe (eBin opIx (eBin opIx (eVar 0) (eVar 6)) (eVar 4)) (eC (.int 0)))) (eVar 6) [6])) (gNm 5)) (sSeq (sIf (tT (eBin opEq (eCl bLen (aCons (eVar 5) aNil)) (eC (.int 0)))) (sRet (eC (.int 0))) sNil) (sSeq (sIf (tT (eBin opNe (eBin opIx (eVar 5) (eC (.int 0))) (eVar 4))) (sAsg (eTup (aCons (eBin opIx (eVar 0) (eBin opIx (eVar 5) (eC (.int 0)))) (aCons (eBin opIx (eVar 0) (eVar 4)) (aCons (eNeg (eVar 1)) aNil)))) (gTp 3 (gsCons (gSb (eVar 0) (eVar 4)) (gsCons (gSb (eVar 0) (eBin opIx (eVar 5) (eC (.int 0)))) (gsCons (gNm 1) gsNil))))) sNil) (sSeq (sFor (iRg2 (aCons (eBin opAddA (eVar 4) (eC (.int 1))) (aCons (eCl bLen (aCons (eVar 0) aNil)) aNil))) (gNm 6) (sFor (iRg2 (aCons (eBin opAddA (eVar 4) (eC (.int 1))) (aCons (eCl bLen (aCons (eVar 0) aNil)) aNil))) (gNm 7) (sSeq (sAsg (eBin opSub (eBin opMulA (eBin opIx (eBin opIx (eVar 0) (eVar 6)) (eVar 7)) (eBin opIx (eBin opIx (eVar 0) (eVar 4)) (eVar 4))) (eBin opMulA (eBin opIx (eBin opIx (eVar 0) (eVar 6)) (eVar 4)) (eBin opIx (eBin opIx (eVar 0) (eVar 4)) (eVar 7)))) (gNm 8)) (sAsg (eBin opDiv (eVar 8) (eVar 2)) (gSb (eBin opIx (eVar 0) (eVar 6)) (eVar 7)))))) (sAsg (eBin opIx (eBin opIx (eVar 0) (eVar 4)) (eVar 4)) (gNm 2))))))) (sRet (eIf (tT (eBin opGt (eCl bLen (aCons (eVar 0) aNil)) (eC (.int 0)))) (eBin opMulA (eVar 1) (eVar 2)) (eC (.int 1))))))
def m_worth : Fn := mPure ev_worth 9 1 10000
abbrev st_determinant : Stmt := topS 31
theorem sc_determinant : FnScope ["table"] ["table"] (defScope st_determinant) := ⟨rfl, rfl, rfl, by decide +kernel, rfl, by decide +kernel, by decide +kernel⟩
def ev_determinant : SV := (sSeq (sExpr (eCall m_check_square 1 (aCons (eVar 0) aNil))) (sRet (eCall m_worth 1 (aCons (eVar 0) aNil))))
def m_determinant : Fn := mPure ev_determinant 1 1 10000
abbrev st__law_raised : Stmt := topS 38
theorem sc__law_raised : FnScope ["one", "many", "found", "turn"] ["one", "many"] (defScope st__law_raised) := ⟨rfl, rfl, rfl, by decide +kernel, rfl, by decide +kernel, by decide +kernel⟩
def ev__law_raised : SV := (sSeq (sAsg (eC (.int 1)) (gNm 2)) (sSeq (sFor (iRg1 (aCons (eVar 1) aNil)) (gNm 3) (sAsg (eBin opMulA (eVar 2) (eVar 0)) (gNm 2))) (sRet (eVar 2))))
def m__law_raised : Fn := mPure ev__law_raised 4 2 10000
abbrev st_fibonacci_to : Stmt := topS 19
theorem sc_fibonacci_to : FnScope ["most", "found", "one"] ["most"] (defScope st_fibonacci_to) := ⟨rfl, rfl, rfl, by decide +kernel, rfl, by decide +kernel, by decide +kernel⟩
def ev_fibonacci_to : SV := (sSeq (sAsg (eNew (lLst (aCons (eC (.int 1)) (aCons (eC (.int 2)) aNil)))) (gNm 1)) (sSeq (sWhile (tT (eBin opLe (eBin opIx (eVar 1) (eNeg (eC (.int 1)))) (eVar 0))) (sExpr (eApp (eVar 1) (eBin opAddA (eBin opIx (eVar 1) (eNeg (eC (.int 1)))) (eBin opIx (eVar 1) (eNeg (eC (.int 2)))))))) (sRet (eNew (lLc (iSeq (eVar 1)) (gNm 2) (tT (eBin opLe (eVar 2) (eVar 0))) (eVar 2) [2])))))
def m_fibonacci_to : Fn := mPure ev_fibonacci_to 3 1 10000
abbrev st_by_fibonacci : Stmt := topS 20
theorem sc_by_fibonacci : FnScope ["number", "found", "one"] ["number"] (defScope st_by_fibonacci) := ⟨rfl, rfl, rfl, by decide +kernel, rfl, by decide +kernel, by decide +kernel⟩
def ev_by_fibonacci : SV := (sSeq (sIf (tNt (tTru (eCall m_is_within 3 (aCons (eVar 0) (aCons (eC (.int 0)) (aCons (eC (.int 1000000000000000000)) aNil)))))) sFail sNil) (sSeq (sAsg (eNew (lLst aNil)) (gNm 1)) (sSeq (sFor (iSeq (eFrz (lRev (eCall m_fibonacci_to 1 (aCons (eVar 0) aNil))))) (gNm 2) (sIf (tT (eBin opLe (eVar 2) (eVar 0))) (sSeq (sExpr (eApp (eVar 1) (eVar 2))) (sAug opSub 0 (eVar 2))) sNil)) (sRet (eCl bTuple (aCons (eVar 1) aNil))))))
def m_by_fibonacci : Fn := mPure ev_by_fibonacci 3 1 10000
abbrev st_are_integers : Stmt := topS 3
theorem sc_are_integers : FnScope ["thing", "least_many", "most_many", "most", "one"] ["thing", "least_many", "most_many", "most"] (defScope st_are_integers) := ⟨rfl, rfl, rfl, by decide +kernel, rfl, by decide +kernel, by decide +kernel⟩
def ev_are_integers : SV := (sSeq (sIf (tOrr (tNt (tTru (eIsi "tuple" (eVar 0)))) (tNt (tT (eChain opLe opLe (eVar 1) (eCl bLen (aCons (eVar 0) aNil)) (eVar 2))))) (sRet (eC (.bl false))) sNil) (sRet (eCl bAll (aCons (eFrz (lLc (iSeq (eVar 0)) (gNm 4) tYs (eCall m_is_within 3 (aCons (eVar 4) (aCons (eNeg (eVar 3)) (aCons (eVar 3) aNil)))) [4])) aNil))))
def m_are_integers : Fn := mPure ev_are_integers 5 4 10000
abbrev st_check_numbers : Stmt := topS 14
theorem sc_check_numbers : FnScope ["numbers"] ["numbers"] (defScope st_check_numbers) := ⟨rfl, rfl, rfl, by decide +kernel, rfl, by decide +kernel, by decide +kernel⟩
def ev_check_numbers : SV := (sIf (tNt (tTru (eCall m_are_integers 4 (aCons (eVar 0) (aCons (eC (.int 1)) (aCons (eC (.int 20)) (aCons (eC (.int 1000000000000)) aNil))))))) sFail sNil)
def m_check_numbers : Fn := mPure ev_check_numbers 1 1 10000
abbrev st_sum_for_two : Stmt := topS 15
theorem sc_sum_for_two : FnScope ["one", "other", "here", "there", "often", "a", "b"] ["one", "other"] (defScope st_sum_for_two) := ⟨rfl, rfl, rfl, by decide +kernel, rfl, by decide +kernel, by decide +kernel⟩
def ev_sum_for_two : SV := (sSeq (sPar2 2 3 (aCons (eTup (aCons (eCl bAbs (aCons (eVar 0) aNil)) (aCons (eIf (tT (eBin opGe (eVar 0) (eC (.int 0)))) (eC (.int 1)) (eNeg (eC (.int 1)))) (aCons (eC (.int 0)) aNil)))) (aCons (eTup (aCons (eCl bAbs (aCons (eVar 1) aNil)) (aCons (eC (.int 0)) (aCons (eIf (tT (eBin opGe (eVar 1) (eC (.int 0)))) (eC (.int 1)) (eNeg (eC (.int 1)))) aNil)))) aNil))) (sSeq (sWhile (tT (eBin opGt (eBin opIx (eVar 3) (eC (.int 0))) (eC (.int 0)))) (sSeq (sAsg (eBin opDiv (eBin opIx (eVar 2) (eC (.int 0))) (eBin opIx (eVar 3) (eC (.int 0)))) (gNm 4)) (sPar2 2 3 (aCons (eVar 3) (aCons (eCl bTuple (aCons (eFrz (lLc (iZp (aCons (eVar 2) (aCons (eVar 3) aNil))) (gTp 2 (gsCons (gNm 5) (gsCons (gNm 6) gsNil))) tYs (eBin opSub (eVar 5) (eBin opMulA (eVar 4) (eVar 6))) [5, 6])) aNil)) aNil))))) (sRet (eVar 2))))
def m_sum_for_two : Fn := mPure ev_sum_for_two 7 2 10000
abbrev st_common : Stmt := topS 16
theorem sc_common : FnScope ["numbers", "found", "factors", "number", "x", "y", "factor"] ["numbers"] (defScope st_common) := ⟨rfl, rfl, rfl, by decide +kernel, rfl, by decide +kernel, by decide +kernel⟩
def ev_common : SV := (sSeq (sExpr (eCall m_check_numbers 1 (aCons (eVar 0) aNil))) (sSeq (sPar2 1 2 (aCons (eCl bAbs (aCons (eBin opIx (eVar 0) (eC (.int 0))) aNil)) (aCons (eFrz (lLst (aCons (eIf (tT (eBin opGe (eBin opIx (eVar 0) (eC (.int 0))) (eC (.int 0)))) (eC (.int 1)) (eNeg (eC (.int 1)))) aNil))) aNil))) (sSeq (sFor (iSeq (eSl (eVar 0) (oSome (eC (.int 1))) oNone)) (gNm 3) (sSeq (sAsg (eCall m_sum_for_two 2 (aCons (eVar 1) (aCons (eVar 3) aNil))) (gTp 3 (gsCons (gNm 1) (gsCons (gNm 4) (gsCons (gNm 5) gsNil))))) (sAsg (eFrz (lBin loCat (eFrz (lLc (iSeq (eVar 2)) (gNm 6) tYs (eBin opMulA (eVar 4) (eVar 6)) [6])) (eFrz (lLst (aCons (eVar 5) aNil))))) (gNm 2)))) (sRet (eTup (aCons (eVar 1) (aCons (eCl bTuple (aCons (eVar 2) aNil)) aNil)))))))
def m_common : Fn := mPure ev_common 7 1 10000
abbrev st__law_is_right : Stmt := topS 40
theorem sc__law_is_right : FnScope ["hand", "rule", "most", "row", "table", "one", "other", "by", "told", "number", "times_v", "few", "its", "here", "there"] ["hand"] (defScope st__law_is_right) := ⟨rfl, rfl, rfl, by decide +kernel, rfl, by decide +kernel, by decide +kernel⟩
def ev__law_is_right : SV := (sSeq (sAsg (eCall m__law_any 2 (aCons (eVar 0) (aCons (eFrz (lLst (aCons (eTup (aCons (eC (.int 1)) (aCons (eC (.int 1)) aNil))) (aCons (eTup (aCons (eC (.int 1)) (aCons (eC (.int 1)) aNil))) (aCons (eTup (aCons (eC (.int 2)) (aCons (eC (.int 1)) aNil))) (aCons (eTup (aCons (eC (.int 3)) (aCons (eC (.int 1)) aNil))) (aCons (eTup (aCons (eC (.int 1)) (aCons (eC (.int 2)) aNil))) (aCons (eTup (aCons (eC (.int 3)) (aCons (eNeg (eC (.int 2))) aNil))) (aCons (eTup (aCons (eC (.int 1)) (aCons (eNeg (eC (.int 1))) aNil))) (aCons (eTup (aCons (eC (.int 2)) (aCons (eC (.int 3)) aNil))) (aCons (eTup (aCons (eC (.int 3)) (aCons (eC (.int 2)) aNil))) (aCons (eTup (aCons (eC (.int 1)) (aCons (eC (.int 3)) aNil))) (aCons (eTup (aCons (eC (.int 4)) (aCons (eNeg (eC (.int 1))) aNil))) aNil))))))))))))) aNil))) (gNm 1)) (sSeq (sAsg (eIf (tT (eBin opEq (eVar 1) (eTup (aCons (eC (.int 1)) (aCons (eC (.int 1)) aNil))))) (eC (.int 58)) (eC (.int 18))) (gNm 2)) (sSeq (sPar2 3 4 (aCons (eCall m__law_row 2 (aCons (eVar 1) (aCons (eBin opAddA (eVar 2) (eC (.int 2))) aNil))) (aCons (eTup (aCons (eVar 1) (aCons (eTup (aCons (eC (.int 1)) (aCons (eC (.int 0)) aNil))) aNil))) aNil))) (sSeq (sPar2 5 6 (aCons (eBin opAddA (eC (.int 1)) (eCall m__law_draw 2 (aCons (eVar 0) (aCons (eVar 2) aNil)))) (aCons (eBin opAddA (eC (.int 1)) (eCall m__law_draw 2 (aCons (eVar 0) (aCons (eVar 2) aNil)))) aNil))) (sSeq (sAsg (eCall m__law_gcd 2 (aCons (eVar 5) (aCons (eVar 6) aNil))) (gNm 7)) (sSeq (sAsg (eCall m_power_of_table 2 (aCons (eVar 4) (aCons (eVar 5) aNil))) (gNm 8)) (sSeq (sIf (tT (eBin opNe (eVar 8) (eTup (aCons (eTup (aCons (eBin opIx (eVar 3) (eBin opAddA (eVar 5) (eC (.int 1)))) (aCons (eBin opMulA (eBin opIx (eVar 1) (eC (.int 1))) (eBin opIx (eVar 3) (eVar 5))) aNil))) (aCons (eTup (aCons (eBin opIx (eVar 3) (eVar 5)) (aCons (eBin opMulA (eBin opIx (eVar 1) (eC (.int 1))) (eBin opIx (eVar 3) (eBin opSub (eVar 5) (eC (.int 1))))) aNil))) aNil))))) (sRet (eC (.bl false))) sNil) (sSeq (sIf (tT (eBin opGt (eCl bMax (aCons (eFrz (lLc (iSeq (eTup (aCons (eBin opIx (eVar 3) (eVar 5)) (aCons (eBin opIx (eVar 3) (eVar 6)) aNil)))) (gNm 9) tYs (eCl bAbs (aCons (eVar 9) aNil)) [9])) aNil)) (eBin opPow (eC (.int 10)) (eC (.int 12))))) (sRet (eC (.bl true))) sNil) (sSeq (sIf (tT (eBin opNe (eBin opIx (eCall m_common 1 (aCons (eTup (aCons (eBin opIx (eVar 3) (eVar 5)) (aCons (eBin opIx (eVar 3) (eVar 6)) aNil))) aNil)) (eC (.int 0))) (eCl bAbs (aCons (eBin opIx (eVar 3) (eVar 7)) aNil)))) (sRet (eC (.bl false))) sNil) (sSeq (sIf (tAn (tT (eBin opNe (eBin opIx (eVar 3) (eVar 5)) (eC (.int 0)))) (tT (eBin opNe (eBin opIx (eCall m_common 1 (aCons (eTup (aCons (eBin opIx (eVar 3) (eVar 5)) (aCons (eIf (tT (eBin opLt (eCl bAbs (aCons (eBin opIx (eVar 3) (eBin opAddA (eVar 5) (eC (.int 1)))) aNil)) (eBin opPow (eC (.int 10)) (eC (.int 12))))) (eBin opIx (eVar 3) (eBin opAddA (eVar 5) (eC (.int 1)))) (eBin opIx (eVar 3) (eBin opSub (eVar 5) (eC (.int 1))))) aNil))) aNil)) (eC (.int 0))) (eC (.int 1))))) (sRet (eC (.bl false))) sNil) (sSeq (sAsg (eBin opMulA (eVar 5) (eBin opAddA (eC (.int 1)) (eCall m__law_draw 2 (aCons (eVar 0) (aCons (eBin opDiv (eVar 2) (eVar 5)) aNil))))) (gNm 10)) (sSeq (sIf (tAn (tT (eBin opNe (eBin opIx (eVar 3) (eVar 5)) (eC (.int 0)))) (tT (eBin opNe (eBin opMod (eCl bInt (aCons (eBin opIx (eVar 3) (eVar 10)) aNil)) (eCl bAbs (aCons (eBin opIx (eVar 3) (eVar 5)) aNil))) (eC (.int 0))))) (sRet (eC (.bl false))) sNil) (sSeq (sPar2 11 12 (aCons (eCl bMin2 (aCons (eVar 5) (aCons (eC (.int 9)) aNil))) (aCons (eCl bMin2 (aCons (eVar 6) (aCons (eC (.int 9)) aNil))) aNil))) (sSeq (sPar2 13 14 (aCons (eCall m_power_of_table 2 (aCons (eVar 4) (aCons (eVar 11) aNil))) (aCons (eCall m_power_of_table 2 (aCons (eVar 4) (aCons (eVar 12) aNil))) aNil))) (sSeq (sIf (tT (eBin opNe (eCall m_product 2 (aCons (eVar 13) (aCons (eVar 14) aNil))) (eCall m_power_of_table 2 (aCons (eVar 4) (aCons (eBin opAddA (eVar 11) (eVar 12)) aNil))))) (sRet (eC (.bl false))) sNil) (sSeq (sIf (tT (eBin opNe (eCall m_determinant 1 (aCons (eVar 13) aNil)) (eCall m__law_raised 2 (aCons (eBin opSub (eC (.int 0)) (eBin opIx (eVar 1) (eC (.int 1)))) (aCons (eVar 11) aNil))))) (sRet (eC (.bl false))) sNil) (sSeq (sIf (tT (eBin opNe (eBin opIx (eVar 3) (eBin opAddA (eVar 11) (eVar 12))) (eBin opAddA (eBin opMulA (eBin opIx (eVar 3) (eVar 11)) (eBin opIx (eVar 3) (eBin opAddA (eVar 12) (eC (.int 1))))) (eBin opMulA (eBin opMulA (eBin opIx (eVar 1) (eC (.int 1))) (eBin opIx (eVar 3) (eBin opSub (eVar 11) (eC (.int 1))))) (eBin opIx (eVar 3) (eVar 12)))))) (sRet (eC (.bl false))) sNil) (sSeq (sIf (tOrr (tT (eBin opNe (eVar 1) (eTup (aCons (eC (.int 1)) (aCons (eC (.int 1)) aNil))))) (tT (eBin opLt (eVar 5) (eC (.int 4))))) (sRet (eC (.bl true))) sNil) (sSeq (sPar2 13 14 (aCons (eCall m_by_fibonacci 1 (aCons (eBin opIx (eVar 3) (eVar 5)) aNil)) (aCons (eCall m_by_fibonacci 1 (aCons (eBin opMulA (eC (.int 2)) (eBin opIx (eVar 3) (eVar 5))) aNil)) aNil))) (sRet (eAnd (eBin opEq (eCl bLen (aCons (eVar 13) aNil)) (eC (.int 1))) (eBin opEq (eCl bLen (aCons (eVar 14) aNil)) (eC (.int 2))))))))))))))))))))))))
def m__law_is_right : Fn := mRun ev__law_is_right 15 1 10000
abbrev st_law : Stmt := topS 41
theorem sc_law : FnScope ["script", "hand", "lap"] ["script"] (defScope st_law) := ⟨rfl, rfl, rfl, by decide +kernel, rfl, by decide +kernel, by decide +kernel⟩
def ev_law : SV := (sSeq (sAsg (eNew (lCall m__law_hand 1 (aCons (eVar 0) aNil))) (gNm 1)) (sSeq (sIf (tOrr (tT (eBin opNe (eBin opIx (eCall m_common 1 (aCons (eTup (aCons (eC (.int 144)) (aCons (eC (.int 55)) aNil))) aNil)) (eC (.int 0))) (eC (.int 1)))) (tT (eBin opNe (eCall m_power_of_table 2 (aCons (eTup (aCons (eTup (aCons (eC (.int 1)) (aCons (eC (.int 1)) aNil))) (aCons (eTup (aCons (eC (.int 1)) (aCons (eC (.int 0)) aNil))) aNil))) (aCons (eC (.int 6)) aNil))) (eTup (aCons (eTup (aCons (eC (.int 13)) (aCons (eC (.int 8)) aNil))) (aCons (eTup (aCons (eC (.int 8)) (aCons (eC (.int 5)) aNil))) aNil)))))) (sRet (eC (.bl false))) sNil) (sRet (eCl bAll (aCons (eFrz (lLc (iRg1 (aCons (eC (.int 8)) aNil)) (gNm 2) tYs (eCall m__law_is_right 1 (aCons (eVar 1) aNil)) [2])) aNil)))))
def m_law : Fn := mPure ev_law 3 1 10000
section
variable {P : Program} {w : World} {K : PySem.W.Frag} {mg : Str → Option Value} {base : Heap}
theorem fo__law_hand {f : Addr} {fd : FuncData} (F : Fun K "_law_hand" "_law_hand" st__law_hand f fd) (G : Gs K mg)  : FnOk P w K mg base CX0 1 f fd ["script"] (spD K 1 m__law_hand) :=
  fo_pure (k := 0) (m := m__law_hand) (sv := ev__law_hand) F sc__law_hand (fun cdv A outer s H E hr =>
      (dss_cons (ds_setLc (i := 1) rfl (sc__law_hand).nd (by rfl) (by rfl) (by rfl) (di_seq (de_sl (de_of_var (pv 0)) do_none (do_some de_int))) (blkOk_by (own := [("cell", 2)]) (by kernel_rfl)) (by decide) (fun _ _ _ _ _ => (dg_name (i := 2) (sc__law_hand).nd (by rfl) (by first | exact .inl rfl | exact .inr rfl))) (fun _ _ _ _ _ => dts_nil) (fun _ _ _ _ _ => (de_callB dcall_abs (by rfl) G.b_abs dkb_abs (da_cons (de_callTy dcall_int (by rfl) G.b_int dkb_int (da_cons (de_of_var (pv 2)) da_nil)) da_nil))))
      (dss_one (ds_ret (de_new (dl_lst (da_cons (de_of_var (pv 1)) (da_cons de_int (da_cons de_int (da_cons (de_bin dop_addA de_int (de_bin dop_mulA de_int (de_callB dcall_len (by rfl) G.b_len dkb_len (da_cons (de_of_var (pv 1)) da_nil)))) (da_cons de_int da_nil))))))))))) rfl rfl rfl
theorem fo_is_integer {f : Addr} {fd : FuncData} (F : Fun K "is_integer" "is_integer" st_is_integer f fd) (G : Gs K mg)  : FnOk P w K mg base CX0 1 f fd ["thing"] (spD K 1 m_is_integer) :=
  fo_pure (k := 0) (m := m_is_integer) (sv := ev_is_integer) F sc_is_integer (fun cdv A outer s H E hr =>
      (dss_one (ds_ret (de_and (de_isi (de_of_var (pv 0)) (by rfl) G.b_isinstance (by rfl) G.b_int dkb_isinstance dkb_int (by decide +kernel)) (de_one (de_not (de_isi (de_of_var (pv 0)) (by rfl) G.b_isinstance (by rfl) G.b_bool dkb_isinstance dkb_bool (by decide +kernel)))))))) rfl rfl rfl
theorem fo_is_within {f : Addr} {fd : FuncData} (F : Fun K "is_within" "is_within" st_is_within f fd) (G : Gs K mg) (h_is_integer : Callee P w K mg base 1 "is_integer" 1 m_is_integer) : FnOk P w K mg base CX0 2 f fd ["thing", "least", "most"] (spD K 3 m_is_within) :=
  fo_pure (k := 1) (m := m_is_within) (sv := ev_is_within) F sc_is_within (fun cdv A outer s H E hr =>
      (dss_one (ds_ret (de_and (de_call h_is_integer (hr.mono (by decide)) (by rfl) (da_cons (de_of_var (pv 0)) da_nil)) (de_one (de_chain dop_le dop_le (de_of_var (pv 1)) (de_of_var (pv 0)) (de_of_var (pv 2)))))))) rfl rfl rfl
theorem fo_is_table {f : Addr} {fd : FuncData} (F : Fun K "is_table" "is_table" st_is_table f fd) (G : Gs K mg) (h_is_within : Callee P w K mg base 2 "is_within" 3 m_is_within) : FnOk P w K mg base CX0 3 f fd ["thing"] (spD K 1 m_is_table) :=
  fo_pure (k := 2) (m := m_is_table) (sv := ev_is_table) F sc_is_table (fun cdv A outer s H E hr =>
      (dss_cons (ds_if (dt_w (dw_or (dt_not (dt_truth (de_isi (de_of_var (pv 0)) (by rfl) G.b_isinstance (by rfl) G.b_tuple dkb_isinstance dkb_tuple (by decide +kernel)))) (dw_or1 (dt_not (dt_chain dop_le dop_le de_int (de_callB dcall_len (by rfl) G.b_len dkb_len (da_cons (de_of_var (pv 0)) da_nil)) (de_globI (by rfl) G.c_MOST_SIDE))))))
       (dss_one (ds_ret de_bl))
       dss_nil)
      (dss_cons (ds_if (dt_not (dt_truth (de_callB (dcall_all rfl) (by rfl) G.b_all dkb_all (da_cons (de_frz (dl_lc rfl (sc_is_table).nd (di_seq (de_of_var (pv 0))) (blkOk_by (own := [("row", 1)]) (by kernel_rfl)) (by decide) (fun _ _ _ _ _ => (dg_name (i := 1) (sc_is_table).nd (by rfl) (by first | exact .inl rfl | exact .inr rfl))) (fun _ _ _ _ _ => dts_nil) (fun _ _ _ _ _ => (de_and (de_isi (de_of_var (pv 1)) (by rfl) G.b_isinstance (by rfl) G.b_tuple dkb_isinstance dkb_tuple (by decide +kernel)) (de_one (de_chain dop_le dop_le de_int (de_callB dcall_len (by rfl) G.b_len dkb_len (da_cons (de_of_var (pv 1)) da_nil)) (de_globI (by rfl) G.c_MOST_SIDE))))))) da_nil))))
       (dss_one (ds_ret de_bl))
       dss_nil)
      (dss_cons (ds_if (dt_not (dt_truth (de_callB (dcall_all rfl) (by rfl) G.b_all dkb_all (da_cons (de_frz (dl_lc rfl (sc_is_table).nd (di_seq (de_of_var (pv 0))) (blkOk_by (own := [("row", 1)]) (by kernel_rfl)) (by decide) (fun _ _ _ _ _ => (dg_name (i := 1) (sc_is_table).nd (by rfl) (by first | exact .inl rfl | exact .inr rfl))) (fun _ _ _ _ _ => dts_nil) (fun _ _ _ _ _ => (de_cmp (dop_eq hr) (de_callB dcall_len (by rfl) G.b_len dkb_len (da_cons (de_of_var (pv 1)) da_nil)) (de_callB dcall_len (by rfl) G.b_len dkb_len (da_cons (de_ix (de_of_var (pv 0)) de_int) da_nil)) (by first | exact nomark _ | rfl | with_unfolding_all rfl | decide +kernel))))) da_nil))))
       (dss_one (ds_ret de_bl))
       dss_nil)
      (dss_one (ds_ret (de_callB (dcall_all rfl) (by rfl) G.b_all dkb_all (da_cons (de_frz (dl_lc rfl (sc_is_table).nd (di_seq (de_of_var (pv 0))) (blkOk_by (own := [("row", 1)]) (by kernel_rfl)) (by decide) (fun _ _ _ _ _ => (dg_name (i := 1) (sc_is_table).nd (by rfl) (by first | exact .inl rfl | exact .inr rfl))) (fun _ _ _ _ _ => dts_nil) (fun _ _ _ _ _ => (de_callB (dcall_all rfl) (by rfl) G.b_all dkb_all (da_cons (de_frz (dl_lc rfl (sc_is_table).nd (di_seq (de_of_var (pv 1))) (blkOk_by (own := [("one", 2)]) (by kernel_rfl)) (by decide) (fun _ _ _ _ _ => (dg_name (i := 2) (sc_is_table).nd (by rfl) (by first | exact .inl rfl | exact .inr rfl))) (fun _ _ _ _ _ => dts_nil) (fun _ _ _ _ _ => (de_call h_is_within (hr.mono (by decide)) (by rfl) (da_cons (de_of_var (pv 2)) (da_cons (de_neg (de_globI (by rfl) G.c_MOST_tables)) (da_cons (de_globI (by rfl) G.c_MOST_tables) da_nil))))))) da_nil))))) da_nil)))))))) rfl rfl rfl
theorem fo_check_table {f : Addr} {fd : FuncData} (F : Fun K "check_table" "check_table" st_check_table f fd) (G : Gs K mg) (h_is_table : Callee P w K mg base 3 "is_table" 1 m_is_table) : FnOk P w K mg base CX0 4 f fd ["table"] (spD K 1 m_check_table) :=
  fo_pure (k := 3) (m := m_check_table) (sv := ev_check_table) F sc_check_table (fun cdv A outer s H E hr =>
      (dss_one (ds_if (dt_not (dt_truth (de_call h_is_table (hr.mono (by decide)) (by rfl) (da_cons (de_of_var (pv 0)) da_nil))))
       (dss_one ds_fail)
       dss_nil))) rfl rfl rfl
theorem fo_check_square {f : Addr} {fd : FuncData} (F : Fun K "check_square" "check_square" st_check_square f fd) (G : Gs K mg) (h_check_table : Callee P w K mg base 4 "check_table" 1 m_check_table) : FnOk P w K mg base CX0 5 f fd ["table"] (spD K 1 m_check_square) :=
  fo_pure (k := 4) (m := m_check_square) (sv := ev_check_square) F sc_check_square (fun cdv A outer s H E hr =>
      (dss_cons (ds_expr (de_call h_check_table (hr.mono (by decide)) (by rfl) (da_cons (de_of_var (pv 0)) da_nil)))
      (dss_one (ds_if (dt_cmp (dop_ne hr) (de_callB dcall_len (by rfl) G.b_len dkb_len (da_cons (de_of_var (pv 0)) da_nil)) (de_callB dcall_len (by rfl) G.b_len dkb_len (da_cons (de_ix (de_of_var (pv 0)) de_int) da_nil)) (by first | exact nomark _ | rfl | with_unfolding_all rfl | decide +kernel))
       (dss_one ds_fail)
       dss_nil)))) rfl rfl rfl
theorem fo_unit_table {f : Addr} {fd : FuncData} (F : Fun K "unit_table" "unit_table" st_unit_table f fd) (G : Gs K mg)  : FnOk P w K mg base CX0 1 f fd ["many"] (spD K 1 m_unit_table) :=
  fo_pure (k := 0) (m := m_unit_table) (sv := ev_unit_table) F sc_unit_table (fun cdv A outer s H E hr =>
      (dss_one (ds_ret (de_callTy dcall_tuple (by rfl) G.b_tuple dkb_tuple (da_cons (de_frz (dl_lc rfl (sc_unit_table).nd (di_range1 (by rfl) G.b_range (da_cons (de_of_var (pv 0)) da_nil)) (blkOk_by (own := [("one", 2)]) (by kernel_rfl)) (by decide) (fun _ _ _ _ _ => (dg_name (i := 2) (sc_unit_table).nd (by rfl) (by first | exact .inl rfl | exact .inr rfl))) (fun _ _ _ _ _ => dts_nil) (fun _ _ _ _ _ => (de_callTy dcall_tuple (by rfl) G.b_tuple dkb_tuple (da_cons (de_frz (dl_lc rfl (sc_unit_table).nd (di_range1 (by rfl) G.b_range (da_cons (de_of_var (pv 0)) da_nil)) (blkOk_by (own := [("other", 1)]) (by kernel_rfl)) (by decide) (fun _ _ _ _ _ => (dg_name (i := 1) (sc_unit_table).nd (by rfl) (by first | exact .inl rfl | exact .inr rfl))) (fun _ _ _ _ _ => dts_nil) (fun _ _ _ _ _ => (de_callTy dcall_int (by rfl) G.b_int dkb_int (da_cons (de_cmp (dop_eq hr) (de_of_var (pv 2)) (de_of_var (pv 1)) (by first | exact nomark _ | rfl | with_unfolding_all rfl | decide +kernel)) da_nil))))) da_nil))))) da_nil))))) rfl rfl rfl
theorem fo_times {f : Addr} {fd : FuncData} (F : Fun K "times" "times" st_times f fd) (G : Gs K mg)  : FnOk P w K mg base CX0 1 f fd ["one", "other"] (spD K 2 m_times) :=
  fo_pure (k := 0) (m := m_times) (sv := ev_times) F sc_times (fun cdv A outer s H E hr =>
      (dss_cons (ds_set (i := 2) (sc_times).nd (by rfl) (by first | exact .inl rfl | exact .inr rfl) (de_frz (dl_zipS rfl (by rfl) G.b_list (by rfl) G.b_zip (de_of_var (pv 1)))))
      (dss_one (ds_ret (de_callTy dcall_tuple (by rfl) G.b_tuple dkb_tuple (da_cons (de_frz (dl_lc rfl (sc_times).nd (di_seq (de_of_var (pv 0))) (blkOk_by (own := [("row", 6)]) (by kernel_rfl)) (by decide) (fun _ _ _ _ _ => (dg_name (i := 6) (sc_times).nd (by rfl) (by first | exact .inl rfl | exact .inr rfl))) (fun _ _ _ _ _ => dts_nil) (fun _ _ _ _ _ => (de_callTy dcall_tuple (by rfl) G.b_tuple dkb_tuple (da_cons (de_frz (dl_lc rfl (sc_times).nd (di_seq (de_of_var (pv 2))) (blkOk_by (own := [("column", 5)]) (by kernel_rfl)) (by decide) (fun _ _ _ _ _ => (dg_name (i := 5) (sc_times).nd (by rfl) (by first | exact .inl rfl | exact .inr rfl))) (fun _ _ _ _ _ => dts_nil) (fun _ _ _ _ _ => (de_callB (dcall_sum rfl) (by rfl) G.b_sum dkb_sum (da_cons (de_frz (dl_lc rfl (sc_times).nd (di_zip (by rfl) G.b_zip (da_cons (de_of_var (pv 6)) (da_cons (de_of_var (pv 5)) da_nil))) (blkOk_by (own := [("a", 3), ("b", 4)]) (by kernel_rfl)) (by decide) (fun _ _ _ _ _ => (dg_tup rfl (dgs_cons (dg_name (i := 3) (sc_times).nd (by rfl) (by first | exact .inl rfl | exact .inr rfl)) (dgs_cons (dg_name (i := 4) (sc_times).nd (by rfl) (by first | exact .inl rfl | exact .inr rfl)) dgs_nil)))) (fun _ _ _ _ _ => dts_nil) (fun _ _ _ _ _ => (de_bin dop_mulA (de_of_var (pv 3)) (de_of_var (pv 4)))))) da_nil))))) da_nil))))) da_nil)))))) rfl rfl rfl
theorem fo_power_of_table {f : Addr} {fd : FuncData} (F : Fun K "power_of_table" "power_of_table" st_power_of_table f fd) (G : Gs K mg) (h_check_square : Callee P w K mg base 5 "check_square" 1 m_check_square) (h_unit_table : Callee P w K mg base 1 "unit_table" 1 m_unit_table) (h_is_within : Callee P w K mg base 2 "is_within" 3 m_is_within) (h_times : Callee P w K mg base 1 "times" 2 m_times) : FnOk P w K mg base CX0 6 f fd ["table", "exponent"] (spD K 2 m_power_of_table) :=
  fo_pure (k := 5) (m := m_power_of_table) (sv := ev_power_of_table) F sc_power_of_table (fun cdv A outer s H E hr =>
      (dss_cons (ds_expr (de_call h_check_square (hr.mono (by decide)) (by rfl) (da_cons (de_of_var (pv 0)) da_nil)))
      (dss_cons (ds_if (dt_not (dt_truth (de_call h_is_within (hr.mono (by decide)) (by rfl) (da_cons (de_of_var (pv 1)) (da_cons de_int (da_cons de_int da_nil))))))
       (dss_one ds_fail)
       dss_nil)
      (dss_cons (ds_set (i := 2) (sc_power_of_table).nd (by rfl) (by first | exact .inl rfl | exact .inr rfl) (de_call h_unit_table (hr.mono (by decide)) (by rfl) (da_cons (de_callB dcall_len (by rfl) G.b_len dkb_len (da_cons (de_of_var (pv 0)) da_nil)) da_nil)))
      (dss_cons (ds_for PassesOwn.never rfl (di_range1 (by rfl) G.b_range (da_cons (de_of_var (pv 1)) da_nil)) (dg_name (i := 3) (sc_power_of_table).nd (by rfl) (by first | exact .inl rfl | exact .inr rfl))
       (dss_one (ds_set (i := 2) (sc_power_of_table).nd (by rfl) (by first | exact .inl rfl | exact .inr rfl) (de_call h_times (hr.mono (by decide)) (by rfl) (da_cons (de_of_var (pv 2)) (da_cons (de_of_var (pv 0)) da_nil))))))
      (dss_one (ds_ret (de_of_var (pv 2))))))))) rfl rfl rfl
theorem fo__law_draw {f : Addr} {fd : FuncData} (F : Fun K "_law_draw" "_law_draw" st__law_draw f fd) (G : Gs K mg)  : FnOk P w K mg base CX0 1 f fd ["hand", "many"] (spD K 2 m__law_draw) :=
  fo_does (k := 0) (m := m__law_draw) (sv := ev__law_draw) F sc__law_draw (fun cdv A outer s H E hr =>
      (dss_cons (ds_if (dt_w (dw_and (dt_cmp (dop_eq hr) (de_ix (de_of_var (pv 0)) de_int) de_int (by first | exact nomark _ | rfl | with_unfolding_all rfl | decide +kernel)) (dw_and1 (dt_cmp dop_lt (de_ix (de_of_var (pv 0)) de_int) (de_callB dcall_len (by rfl) G.b_len dkb_len (da_cons (de_ix (de_of_var (pv 0)) de_int) da_nil)) (by first | exact nomark _ | rfl | with_unfolding_all rfl | decide +kernel)))))
       (dss_cons (ds_set (i := 2) (sc__law_draw).nd (by rfl) (by first | exact .inl rfl | exact .inr rfl) (de_ix (de_ix (de_of_var (pv 0)) de_int) (de_ix (de_of_var (pv 0)) de_int)))
       (dss_cons (ds_asg (de_bin dop_addA (de_ix (de_of_var (pv 0)) de_int) de_int) (dg_sub (de_of_var (pv 0)) de_int))
       (dss_cons (ds_asg (de_bin dop_mod (de_callTy dcall_int (by rfl) G.b_int dkb_int (da_cons (de_bin dop_addA (de_bin dop_addA (de_bin dop_mulA (de_ix (de_of_var (pv 0)) de_int) de_int) (de_bin dop_mulA (de_of_var (pv 2)) de_int)) de_int) da_nil)) de_int) (dg_sub (de_of_var (pv 0)) de_int))
       (dss_one (ds_if (dt_cmp dop_ge (de_of_var (pv 2)) (de_bin dop_pow de_int de_int) (by first | exact nomark _ | rfl | with_unfolding_all rfl | decide +kernel))
        (dss_one (ds_asg (de_of_var (pv 2)) (dg_sub (de_of_var (pv 0)) de_int)))
        dss_nil)))))
       dss_nil)
      (dss_cons (ds_if (dt_cmp dop_gt (de_ix (de_of_var (pv 0)) de_int) de_int (by first | exact nomark _ | rfl | with_unfolding_all rfl | decide +kernel))
       (dss_cons (ds_set (i := 3) (sc__law_draw).nd (by rfl) (by first | exact .inl rfl | exact .inr rfl) (de_bin dop_mod (de_callTy dcall_int (by rfl) G.b_int dkb_int (da_cons (de_ix (de_of_var (pv 0)) de_int) da_nil)) (de_of_var (pv 1))))
       (dss_cons (ds_asg (de_bin dop_div (de_ix (de_of_var (pv 0)) de_int) (de_of_var (pv 1))) (dg_sub (de_of_var (pv 0)) de_int))
       (dss_one (ds_ret (de_of_var (pv 3))))))
       dss_nil)
      (dss_cons (ds_asg (de_bin dop_addA (de_ix (de_of_var (pv 0)) de_int) de_int) (dg_sub (de_of_var (pv 0)) de_int))
      (dss_cons (ds_set (i := 4) (sc__law_draw).nd (by rfl) (by first | exact .inl rfl | exact .inr rfl) (de_bin dop_mod (de_callTy dcall_int (by rfl) G.b_int dkb_int (da_cons (de_bin dop_mulA (de_callTy dcall_int (by rfl) G.b_int dkb_int (da_cons (de_bin dop_addA (de_ix (de_of_var (pv 0)) de_int) (de_bin dop_mulA de_int (de_ix (de_of_var (pv 0)) de_int))) da_nil)) de_int) da_nil)) de_int))
      (dss_cons (ds_set (i := 4) (sc__law_draw).nd (by rfl) (by first | exact .inl rfl | exact .inr rfl) (de_bin dop_mod (de_callTy dcall_int (by rfl) G.b_int dkb_int (da_cons (de_bin dop_mulA (de_of_var (pv 4)) (de_bin dop_addA (de_bin dop_div (de_of_var (pv 4)) de_int) de_int)) da_nil)) de_int))
      (dss_cons (ds_set (i := 4) (sc__law_draw).nd (by rfl) (by first | exact .inl rfl | exact .inr rfl) (de_bin dop_mod (de_callTy dcall_int (by rfl) G.b_int dkb_int (da_cons (de_bin dop_mulA (de_of_var (pv 4)) (de_bin dop_addA (de_bin dop_div (de_of_var (pv 4)) de_int) de_int)) da_nil)) de_int))
      (dss_one (ds_ret (de_bin dop_mod (de_callTy dcall_int (by rfl) G.b_int dkb_int (da_cons (de_bin dop_div (de_of_var (pv 4)) de_int) da_nil)) (de_of_var (pv 1)))))))))))) does_run
theorem fo__law_any {f : Addr} {fd : FuncData} (F : Fun K "_law_any" "_law_any" st__law_any f fd) (G : Gs K mg) (h__law_draw : Callee P w K mg base 1 "_law_draw" 2 m__law_draw) : FnOk P w K mg base CX0 2 f fd ["hand", "some"] (spD K 2 m__law_any) :=
  fo_does (k := 1) (m := m__law_any) (sv := ev__law_any) F sc__law_any (fun cdv A outer s H E hr =>
      (dss_one (ds_ret (de_ix (de_of_var (pv 1)) (de_call h__law_draw (hr.mono (by decide)) (by rfl) (da_cons (de_of_var (pv 0)) (da_cons (de_callB dcall_len (by rfl) G.b_len dkb_len (da_cons (de_of_var (pv 1)) da_nil)) da_nil))))))) does_run
theorem fo__law_gcd {f : Addr} {fd : FuncData} (F : Fun K "_law_gcd" "_law_gcd" st__law_gcd f fd) (G : Gs K mg)  : FnOk P w K mg base CX0 1 f fd ["one", "other"] (spD K 2 m__law_gcd) :=
  fo_pure (k := 0) (m := m__law_gcd) (sv := ev__law_gcd) F sc__law_gcd (fun cdv A outer s H E hr =>
      (dss_cons (ds_par2 (i := 0) (j := 1) rfl (sc__law_gcd).nd (by rfl) (by rfl) (by decide) (by rfl) (by rfl) (da_cons (de_callB dcall_abs (by rfl) G.b_abs dkb_abs (da_cons (de_of_var (pv 0)) da_nil)) (da_cons (de_callB dcall_abs (by rfl) G.b_abs dkb_abs (da_cons (de_of_var (pv 1)) da_nil)) da_nil)))
      (dss_cons (ds_while PassesOwn.never (dt_cmp dop_gt (de_of_var (pv 1)) de_int (by first | exact nomark _ | rfl | with_unfolding_all rfl | decide +kernel))
       (dss_one (ds_par2 (i := 0) (j := 1) rfl (sc__law_gcd).nd (by rfl) (by rfl) (by decide) (by rfl) (by rfl) (da_cons (de_of_var (pv 1)) (da_cons (de_bin dop_mod (de_callTy dcall_int (by rfl) G.b_int dkb_int (da_cons (de_of_var (pv 0)) da_nil)) (de_of_var (pv 1))) da_nil)))))
      (dss_one (ds_ret (de_of_var (pv 0))))))) rfl rfl rfl
theorem fo__law_row {f : Addr} {fd : FuncData} (F : Fun K "_law_row" "_law_row" st__law_row f fd) (G : Gs K mg)  : FnOk P w K mg base CX0 1 f fd ["rule", "many"] (spD K 2 m__law_row) :=
  fo_pure (k := 0) (m := m__law_row) (sv := ev__law_row) F sc__law_row (fun cdv A outer s H E hr =>
      (dss_cons (ds_set (i := 2) (sc__law_row).nd (by rfl) (by first | exact .inl rfl | exact .inr rfl) (de_new (dl_lst (da_cons de_int (da_cons de_int da_nil)))))
      (dss_cons (ds_while PassesOwn.never (dt_cmp dop_lt (de_callB dcall_len (by rfl) G.b_len dkb_len (da_cons (de_of_var (pv 2)) da_nil)) (de_of_var (pv 1)) (by first | exact nomark _ | rfl | with_unfolding_all rfl | decide +kernel))
       (dss_one (ds_expr (de_app (de_of_var (pv 2)) (de_bin dop_addA (de_bin dop_mulA (de_ix (de_of_var (pv 0)) de_int) (de_ix (de_of_var (pv 2)) (de_neg de_int))) (de_bin dop_mulA (de_ix (de_of_var (pv 0)) de_int) (de_ix (de_of_var (pv 2)) (de_neg de_int))))))))
      (dss_one (ds_ret (de_of_var (pv 2))))))) rfl rfl rfl
theorem fo_product {f : Addr} {fd : FuncData} (F : Fun K "product" "product" st_product f fd) (G : Gs K mg) (h_check_table : Callee P w K mg base 4 "check_table" 1 m_check_table) (h_times : Callee P w K mg base 1 "times" 2 m_times) : FnOk P w K mg base CX0 5 f fd ["one", "other"] (spD K 2 m_product) :=
  fo_pure (k := 4) (m := m_product) (sv := ev_product) F sc_product (fun cdv A outer s H E hr =>
      (dss_cons (ds_expr (de_call h_check_table (hr.mono (by decide)) (by rfl) (da_cons (de_of_var (pv 0)) da_nil)))
      (dss_cons (ds_expr (de_call h_check_table (hr.mono (by decide)) (by rfl) (da_cons (de_of_var (pv 1)) da_nil)))
      (dss_cons (ds_if (dt_cmp (dop_ne hr) (de_callB dcall_len (by rfl) G.b_len dkb_len (da_cons (de_ix (de_of_var (pv 0)) de_int) da_nil)) (de_callB dcall_len (by rfl) G.b_len dkb_len (da_cons (de_of_var (pv 1)) da_nil)) (by first | exact nomark _ | rfl | with_unfolding_all rfl | decide +kernel))
       (dss_one ds_fail)
       dss_nil)
      (dss_one (ds_ret (de_call h_times (hr.mono (by decide)) (by rfl) (da_cons (de_of_var (pv 0)) (da_cons (de_of_var (pv 1)) da_nil))))))))) rfl rfl rfl
theorem fo_worth {f : Addr} {fd : FuncData} (F : Fun K "worth" "worth" st_worth f fd) (G : Gs K mg)  : FnOk P w K mg base CX0 1 f fd ["rows"] (spD K 1 m_worth) :=
  fo_pure (k := 0) (m := m_worth) (sv := ev_worth) F sc_worth (fun cdv A outer s H E hr =>
      (dss_cons (ds_asg (de_tup (da_cons (de_new (dl_lc rfl (sc_worth).nd (di_seq (de_of_var (pv 0))) (blkOk_by (own := [("row", 3)]) (by kernel_rfl)) (by decide) (fun _ _ _ _ _ => (dg_name (i := 3) (sc_worth).nd (by rfl) (by first | exact .inl rfl | exact .inr rfl))) (fun _ _ _ _ _ => dts_nil) (fun _ _ _ _ _ => (de_new (dl_callTy lcall_list (by rfl) G.b_list dkb_list (da_cons (de_of_var (pv 3)) da_nil)))))) (da_cons de_int (da_cons de_int da_nil)))) (dg_tup rfl (dgs_cons (dg_name (i := 0) (sc_worth).nd (by rfl) (by first | exact .inl rfl | exact .inr rfl)) (dgs_cons (dg_name (i := 1) (sc_worth).nd (by rfl) (by first | exact .inl rfl | exact .inr rfl)) (dgs_cons (dg_name (i := 2) (sc_worth).nd (by rfl) (by first | exact .inl rfl | exact .inr rfl)) dgs_nil)))))
      (dss_cons (ds_for PassesOwn.never rfl (di_range1 (by rfl) G.b_range (da_cons (de_callB dcall_len (by rfl) G.b_len dkb_len (da_cons (de_of_var (pv 0)) da_nil)) da_nil)) (dg_name (i := 4) (sc_worth).nd (by rfl) (by first | exact .inl rfl | exact .inr rfl))
       (dss_cons (ds_setLc (i := 5) rfl (sc_worth).nd (by rfl) (by rfl) (by rfl) (di_range2 (by rfl) G.b_range (da_cons (de_of_var (pv 4)) (da_cons (de_callB dcall_len (by rfl) G.b_len dkb_len (da_cons (de_of_var (pv 0)) da_nil)) da_nil))) (blkOk_by (own := [("here", 6)]) (by kernel_rfl)) (by decide) (fun _ _ _ _ _ => (dg_name (i := 6) (sc_worth).nd (by rfl) (by first | exact .inl rfl | exact .inr rfl))) (fun _ _ _ _ _ => (dts_one (dt_cmp (dop_ne hr) (de_ix (de_ix (de_of_var (pv 0)) (de_of_var (pv 6))) (de_of_var (pv 4))) de_int (by first | exact nomark _ | rfl | with_unfolding_all rfl | decide +kernel)))) (fun _ _ _ _ _ => (de_of_var (pv 6))))
       (dss_cons (ds_if (dt_cmp (dop_eq hr) (de_callB dcall_len (by rfl) G.b_len dkb_len (da_cons (de_of_var (pv 5)) da_nil)) de_int (by first | exact nomark _ | rfl | with_unfolding_all rfl | decide +kernel))
        (dss_one (ds_ret de_int))
        dss_nil)
       (dss_cons (ds_if (dt_cmp (dop_ne hr) (de_ix (de_of_var (pv 5)) de_int) (de_of_var (pv 4)) (by first | exact nomark _ | rfl | with_unfolding_all rfl | decide +kernel))
        (dss_one (ds_asg (de_tup (da_cons (de_ix (de_of_var (pv 0)) (de_ix (de_of_var (pv 5)) de_int)) (da_cons (de_ix (de_of_var (pv 0)) (de_of_var (pv 4))) (da_cons (de_neg (de_of_var (pv 1))) da_nil)))) (dg_tup rfl (dgs_cons (dg_sub (de_of_var (pv 0)) (de_of_var (pv 4))) (dgs_cons (dg_sub (de_of_var (pv 0)) (de_ix (de_of_var (pv 5)) de_int)) (dgs_cons (dg_name (i := 1) (sc_worth).nd (by rfl) (by first | exact .inl rfl | exact .inr rfl)) dgs_nil))))))
        dss_nil)
       (dss_cons (ds_for PassesOwn.never rfl (di_range2 (by rfl) G.b_range (da_cons (de_bin dop_addA (de_of_var (pv 4)) de_int) (da_cons (de_callB dcall_len (by rfl) G.b_len dkb_len (da_cons (de_of_var (pv 0)) da_nil)) da_nil))) (dg_name (i := 6) (sc_worth).nd (by rfl) (by first | exact .inl rfl | exact .inr rfl))
        (dss_one (ds_for PassesOwn.never rfl (di_range2 (by rfl) G.b_range (da_cons (de_bin dop_addA (de_of_var (pv 4)) de_int) (da_cons (de_callB dcall_len (by rfl) G.b_len dkb_len (da_cons (de_of_var (pv 0)) da_nil)) da_nil))) (dg_name (i := 7) (sc_worth).nd (by rfl) (by first | exact .inl rfl | exact .inr rfl))
         (dss_cons (ds_set (i := 8) (sc_worth).nd (by rfl) (by first | exact .inl rfl | exact .inr rfl) (de_bin dop_sub (de_bin dop_mulA (de_ix (de_ix (de_of_var (pv 0)) (de_of_var (pv 6))) (de_of_var (pv 7))) (de_ix (de_ix (de_of_var (pv 0)) (de_of_var (pv 4))) (de_of_var (pv 4)))) (de_bin dop_mulA (de_ix (de_ix (de_of_var (pv 0)) (de_of_var (pv 6))) (de_of_var (pv 4))) (de_ix (de_ix (de_of_var (pv 0)) (de_of_var (pv 4))) (de_of_var (pv 7))))))
         (dss_one (ds_asg (de_bin dop_div (de_of_var (pv 8)) (de_of_var (pv 2))) (dg_sub (de_ix (de_of_var (pv 0)) (de_of_var (pv 6))) (de_of_var (pv 7)))))))))
       (dss_one (ds_set (i := 2) (sc_worth).nd (by rfl) (by first | exact .inl rfl | exact .inr rfl) (de_ix (de_ix (de_of_var (pv 0)) (de_of_var (pv 4))) (de_of_var (pv 4))))))))))
      (dss_one (ds_ret (de_if (dt_cmp dop_gt (de_callB dcall_len (by rfl) G.b_len dkb_len (da_cons (de_of_var (pv 0)) da_nil)) de_int (by first | exact nomark _ | rfl | with_unfolding_all rfl | decide +kernel)) (de_bin dop_mulA (de_of_var (pv 1)) (de_of_var (pv 2))) de_int)))))) rfl rfl rfl
theorem fo_determinant {f : Addr} {fd : FuncData} (F : Fun K "determinant" "determinant" st_determinant f fd) (G : Gs K mg) (h_check_square : Callee P w K mg base 5 "check_square" 1 m_check_square) (h_worth : Callee P w K mg base 1 "worth" 1 m_worth) : FnOk P w K mg base CX0 6 f fd ["table"] (spD K 1 m_determinant) :=
  fo_pure (k := 5) (m := m_determinant) (sv := ev_determinant) F sc_determinant (fun cdv A outer s H E hr =>
      (dss_cons (ds_expr (de_call h_check_square (hr.mono (by decide)) (by rfl) (da_cons (de_of_var (pv 0)) da_nil)))
      (dss_one (ds_ret (de_call h_worth (hr.mono (by decide)) (by rfl) (da_cons (de_of_var (pv 0)) da_nil)))))) rfl rfl rfl
theorem fo__law_raised {f : Addr} {fd : FuncData} (F : Fun K "_law_raised" "_law_raised" st__law_raised f fd) (G : Gs K mg)  : FnOk P w K mg base CX0 1 f fd ["one", "many"] (spD K 2 m__law_raised) :=
  fo_pure (k := 0) (m := m__law_raised) (sv := ev__law_raised) F sc__law_raised (fun cdv A outer s H E hr =>
      (dss_cons (ds_set (i := 2) (sc__law_raised).nd (by rfl) (by first | exact .inl rfl | exact .inr rfl) de_int)
      (dss_cons (ds_for PassesOwn.never rfl (di_range1 (by rfl) G.b_range (da_cons (de_of_var (pv 1)) da_nil)) (dg_name (i := 3) (sc__law_raised).nd (by rfl) (by first | exact .inl rfl | exact .inr rfl))
       (dss_one (ds_set (i := 2) (sc__law_raised).nd (by rfl) (by first | exact .inl rfl | exact .inr rfl) (de_bin dop_mulA (de_of_var (pv 2)) (de_of_var (pv 0))))))
      (dss_one (ds_ret (de_of_var (pv 2))))))) rfl rfl rfl
theorem fo_fibonacci_to {f : Addr} {fd : FuncData} (F : Fun K "fibonacci_to" "fibonacci_to" st_fibonacci_to f fd) (G : Gs K mg)  : FnOk P w K mg base CX0 1 f fd ["most"] (spD K 1 m_fibonacci_to) :=
  fo_pure (k := 0) (m := m_fibonacci_to) (sv := ev_fibonacci_to) F sc_fibonacci_to (fun cdv A outer s H E hr =>
      (dss_cons (ds_set (i := 1) (sc_fibonacci_to).nd (by rfl) (by first | exact .inl rfl | exact .inr rfl) (de_new (dl_lst (da_cons de_int (da_cons de_int da_nil)))))
      (dss_cons (ds_while PassesOwn.never (dt_cmp dop_le (de_ix (de_of_var (pv 1)) (de_neg de_int)) (de_of_var (pv 0)) (by first | exact nomark _ | rfl | with_unfolding_all rfl | decide +kernel))
       (dss_one (ds_expr (de_app (de_of_var (pv 1)) (de_bin dop_addA (de_ix (de_of_var (pv 1)) (de_neg de_int)) (de_ix (de_of_var (pv 1)) (de_neg de_int)))))))
      (dss_one (ds_ret (de_new (dl_lc rfl (sc_fibonacci_to).nd (di_seq (de_of_var (pv 1))) (blkOk_by (own := [("one", 2)]) (by kernel_rfl)) (by decide) (fun _ _ _ _ _ => (dg_name (i := 2) (sc_fibonacci_to).nd (by rfl) (by first | exact .inl rfl | exact .inr rfl))) (fun _ _ _ _ _ => (dts_one (dt_cmp dop_le (de_of_var (pv 2)) (de_of_var (pv 0)) (by first | exact nomark _ | rfl | with_unfolding_all rfl | decide +kernel)))) (fun _ _ _ _ _ => (de_of_var (pv 2)))))))))) rfl rfl rfl
theorem fo_by_fibonacci {f : Addr} {fd : FuncData} (F : Fun K "by_fibonacci" "by_fibonacci" st_by_fibonacci f fd) (G : Gs K mg) (h_is_within : Callee P w K mg base 2 "is_within" 3 m_is_within) (h_fibonacci_to : Callee P w K mg base 1 "fibonacci_to" 1 m_fibonacci_to) : FnOk P w K mg base CX0 3 f fd ["number"] (spD K 1 m_by_fibonacci) :=
  fo_pure (k := 2) (m := m_by_fibonacci) (sv := ev_by_fibonacci) F sc_by_fibonacci (fun cdv A outer s H E hr =>
      (dss_cons (ds_if (dt_not (dt_truth (de_call h_is_within (hr.mono (by decide)) (by rfl) (da_cons (de_of_var (pv 0)) (da_cons de_int (da_cons (de_globI (by rfl) G.c_MOST_digits) da_nil))))))
       (dss_one ds_fail)
       dss_nil)
      (dss_cons (ds_set (i := 1) (sc_by_fibonacci).nd (by rfl) (by first | exact .inl rfl | exact .inr rfl) (de_new (dl_lst da_nil)))
      (dss_cons (ds_for PassesOwn.never rfl (di_seq (de_frz (dl_rev (de_call h_fibonacci_to (hr.mono (by decide)) (by rfl) (da_cons (de_of_var (pv 0)) da_nil))))) (dg_name (i := 2) (sc_by_fibonacci).nd (by rfl) (by first | exact .inl rfl | exact .inr rfl))
       (dss_one (ds_if (dt_cmp dop_le (de_of_var (pv 2)) (de_of_var (pv 0)) (by first | exact nomark _ | rfl | with_unfolding_all rfl | decide +kernel))
        (dss_cons (ds_expr (de_app (de_of_var (pv 1)) (de_of_var (pv 2))))
        (dss_one (ds_aug (i := 0) (sc_by_fibonacci).nd (by rfl) (by first | exact .inl rfl | exact .inr rfl) (de_of_var (pv 2)) dip_sub)))
        dss_nil)))
      (dss_one (ds_ret (de_callTy dcall_tuple (by rfl) G.b_tuple dkb_tuple (da_cons (de_of_var (pv 1)) da_nil)))))))) rfl rfl rfl
theorem fo_are_integers {f : Addr} {fd : FuncData} (F : Fun K "are_integers" "are_integers" st_are_integers f fd) (G : Gs K mg) (h_is_within : Callee P w K mg base 2 "is_within" 3 m_is_within) : FnOk P w K mg base CX0 3 f fd ["thing", "least_many", "most_many", "most"] (spD K 4 m_are_integers) :=
  fo_pure (k := 2) (m := m_are_integers) (sv := ev_are_integers) F sc_are_integers (fun cdv A outer s H E hr =>
      (dss_cons (ds_if (dt_w (dw_or (dt_not (dt_truth (de_isi (de_of_var (pv 0)) (by rfl) G.b_isinstance (by rfl) G.b_tuple dkb_isinstance dkb_tuple (by decide +kernel)))) (dw_or1 (dt_not (dt_chain dop_le dop_le (de_of_var (pv 1)) (de_callB dcall_len (by rfl) G.b_len dkb_len (da_cons (de_of_var (pv 0)) da_nil)) (de_of_var (pv 2)))))))
       (dss_one (ds_ret de_bl))
       dss_nil)
      (dss_one (ds_ret (de_callB (dcall_all rfl) (by rfl) G.b_all dkb_all (da_cons (de_frz (dl_lc rfl (sc_are_integers).nd (di_seq (de_of_var (pv 0))) (blkOk_by (own := [("one", 4)]) (by kernel_rfl)) (by decide) (fun _ _ _ _ _ => (dg_name (i := 4) (sc_are_integers).nd (by rfl) (by first | exact .inl rfl | exact .inr rfl))) (fun _ _ _ _ _ => dts_nil) (fun _ _ _ _ _ => (de_call h_is_within (hr.mono (by decide)) (by rfl) (da_cons (de_of_var (pv 4)) (da_cons (de_neg (de_of_var (pv 3))) (da_cons (de_of_var (pv 3)) da_nil))))))) da_nil)))))) rfl rfl rfl
theorem fo_check_numbers {f : Addr} {fd : FuncData} (F : Fun K "check_numbers" "check_numbers" st_check_numbers f fd) (G : Gs K mg) (h_are_integers : Callee P w K mg base 3 "are_integers" 4 m_are_integers) : FnOk P w K mg base CX0 4 f fd ["numbers"] (spD K 1 m_check_numbers) :=
  fo_pure (k := 3) (m := m_check_numbers) (sv := ev_check_numbers) F sc_check_numbers (fun cdv A outer s H E hr =>
      (dss_one (ds_if (dt_not (dt_truth (de_call h_are_integers (hr.mono (by decide)) (by rfl) (da_cons (de_of_var (pv 0)) (da_cons de_int (da_cons (de_globI (by rfl) G.c_MOST_MANY) (da_cons (de_globI (by rfl) G.c_MOST_commons) da_nil)))))))
       (dss_one ds_fail)
       dss_nil))) rfl rfl rfl
theorem fo_sum_for_two {f : Addr} {fd : FuncData} (F : Fun K "sum_for_two" "sum_for_two" st_sum_for_two f fd) (G : Gs K mg)  : FnOk P w K mg base CX0 1 f fd ["one", "other"] (spD K 2 m_sum_for_two) :=
  fo_pure (k := 0) (m := m_sum_for_two) (sv := ev_sum_for_two) F sc_sum_for_two (fun cdv A outer s H E hr =>
      (dss_cons (ds_par2 (i := 2) (j := 3) rfl (sc_sum_for_two).nd (by rfl) (by rfl) (by decide) (by rfl) (by rfl) (da_cons (de_tup (da_cons (de_callB dcall_abs (by rfl) G.b_abs dkb_abs (da_cons (de_of_var (pv 0)) da_nil)) (da_cons (de_if (dt_cmp dop_ge (de_of_var (pv 0)) de_int (by first | exact nomark _ | rfl | with_unfolding_all rfl | decide +kernel)) de_int (de_neg de_int)) (da_cons de_int da_nil)))) (da_cons (de_tup (da_cons (de_callB dcall_abs (by rfl) G.b_abs dkb_abs (da_cons (de_of_var (pv 1)) da_nil)) (da_cons de_int (da_cons (de_if (dt_cmp dop_ge (de_of_var (pv 1)) de_int (by first | exact nomark _ | rfl | with_unfolding_all rfl | decide +kernel)) de_int (de_neg de_int)) da_nil)))) da_nil)))
      (dss_cons (ds_while PassesOwn.never (dt_cmp dop_gt (de_ix (de_of_var (pv 3)) de_int) de_int (by first | exact nomark _ | rfl | with_unfolding_all rfl | decide +kernel))
       (dss_cons (ds_set (i := 4) (sc_sum_for_two).nd (by rfl) (by first | exact .inl rfl | exact .inr rfl) (de_bin dop_div (de_ix (de_of_var (pv 2)) de_int) (de_ix (de_of_var (pv 3)) de_int)))
       (dss_one (ds_par2 (i := 2) (j := 3) rfl (sc_sum_for_two).nd (by rfl) (by rfl) (by decide) (by rfl) (by rfl) (da_cons (de_of_var (pv 3)) (da_cons (de_callTy dcall_tuple (by rfl) G.b_tuple dkb_tuple (da_cons (de_frz (dl_lc rfl (sc_sum_for_two).nd (di_zip (by rfl) G.b_zip (da_cons (de_of_var (pv 2)) (da_cons (de_of_var (pv 3)) da_nil))) (blkOk_by (own := [("a", 5), ("b", 6)]) (by kernel_rfl)) (by decide) (fun _ _ _ _ _ => (dg_tup rfl (dgs_cons (dg_name (i := 5) (sc_sum_for_two).nd (by rfl) (by first | exact .inl rfl | exact .inr rfl)) (dgs_cons (dg_name (i := 6) (sc_sum_for_two).nd (by rfl) (by first | exact .inl rfl | exact .inr rfl)) dgs_nil)))) (fun _ _ _ _ _ => dts_nil) (fun _ _ _ _ _ => (de_bin dop_sub (de_of_var (pv 5)) (de_bin dop_mulA (de_of_var (pv 4)) (de_of_var (pv 6))))))) da_nil)) da_nil))))))
      (dss_one (ds_ret (de_of_var (pv 2))))))) rfl rfl rfl
theorem fo_common {f : Addr} {fd : FuncData} (F : Fun K "common" "common" st_common f fd) (G : Gs K mg) (h_check_numbers : Callee P w K mg base 4 "check_numbers" 1 m_check_numbers) (h_sum_for_two : Callee P w K mg base 1 "sum_for_two" 2 m_sum_for_two) : FnOk P w K mg base CX0 5 f fd ["numbers"] (spD K 1 m_common) :=
  fo_pure (k := 4) (m := m_common) (sv := ev_common) F sc_common (fun cdv A outer s H E hr =>
      (dss_cons (ds_expr (de_call h_check_numbers (hr.mono (by decide)) (by rfl) (da_cons (de_of_var (pv 0)) da_nil)))
      (dss_cons (ds_par2 (i := 1) (j := 2) rfl (sc_common).nd (by rfl) (by rfl) (by decide) (by rfl) (by rfl) (da_cons (de_callB dcall_abs (by rfl) G.b_abs dkb_abs (da_cons (de_ix (de_of_var (pv 0)) de_int) da_nil)) (da_cons (de_frz (dl_lst (da_cons (de_if (dt_cmp dop_ge (de_ix (de_of_var (pv 0)) de_int) de_int (by first | exact nomark _ | rfl | with_unfolding_all rfl | decide +kernel)) de_int (de_neg de_int)) da_nil))) da_nil)))
      (dss_cons (ds_for PassesOwn.never rfl (di_seq (de_sl (de_of_var (pv 0)) (do_some de_int) do_none)) (dg_name (i := 3) (sc_common).nd (by rfl) (by first | exact .inl rfl | exact .inr rfl))
       (dss_cons (ds_asg (de_call h_sum_for_two (hr.mono (by decide)) (by rfl) (da_cons (de_of_var (pv 1)) (da_cons (de_of_var (pv 3)) da_nil))) (dg_tup rfl (dgs_cons (dg_name (i := 1) (sc_common).nd (by rfl) (by first | exact .inl rfl | exact .inr rfl)) (dgs_cons (dg_name (i := 4) (sc_common).nd (by rfl) (by first | exact .inl rfl | exact .inr rfl)) (dgs_cons (dg_name (i := 5) (sc_common).nd (by rfl) (by first | exact .inl rfl | exact .inr rfl)) dgs_nil)))))
       (dss_one (ds_set (i := 2) (sc_common).nd (by rfl) (by first | exact .inl rfl | exact .inr rfl) (de_frz (dl_bin lop_cat (de_frz (dl_lc rfl (sc_common).nd (di_seq (de_of_var (pv 2))) (blkOk_by (own := [("factor", 6)]) (by kernel_rfl)) (by decide) (fun _ _ _ _ _ => (dg_name (i := 6) (sc_common).nd (by rfl) (by first | exact .inl rfl | exact .inr rfl))) (fun _ _ _ _ _ => dts_nil) (fun _ _ _ _ _ => (de_bin dop_mulA (de_of_var (pv 4)) (de_of_var (pv 6)))))) (de_frz (dl_lst (da_cons (de_of_var (pv 5)) da_nil)))))))))
      (dss_one (ds_ret (de_tup (da_cons (de_of_var (pv 1)) (da_cons (de_callTy dcall_tuple (by rfl) G.b_tuple dkb_tuple (da_cons (de_of_var (pv 2)) da_nil)) da_nil))))))))) rfl rfl rfl
theorem fo__law_is_right {f : Addr} {fd : FuncData} (F : Fun K "_law_is_right" "_law_is_right" st__law_is_right f fd) (G : Gs K mg) (h__law_any : Callee P w K mg base 2 "_law_any" 2 m__law_any) (h__law_gcd : Callee P w K mg base 1 "_law_gcd" 2 m__law_gcd) (h_power_of_table : Callee P w K mg base 6 "power_of_table" 2 m_power_of_table) (h__law_row : Callee P w K mg base 1 "_law_row" 2 m__law_row) (h_product : Callee P w K mg base 5 "product" 2 m_product) (h_determinant : Callee P w K mg base 6 "determinant" 1 m_determinant) (h__law_raised : Callee P w K mg base 1 "_law_raised" 2 m__law_raised) (h_by_fibonacci : Callee P w K mg base 3 "by_fibonacci" 1 m_by_fibonacci) (h__law_draw : Callee P w K mg base 1 "_law_draw" 2 m__law_draw) (h_common : Callee P w K mg base 5 "common" 1 m_common) : FnOk P w K mg base CX0 7 f fd ["hand"] (spD K 1 m__law_is_right) :=
  fo_does (k := 6) (m := m__law_is_right) (sv := ev__law_is_right) F sc__law_is_right (fun cdv A outer s H E hr =>
      (dss_cons (ds_set (i := 1) (sc__law_is_right).nd (by rfl) (by first | exact .inl rfl | exact .inr rfl) (de_call h__law_any (hr.mono (by decide)) (by rfl) (da_cons (de_of_var (pv 0)) (da_cons (de_frz (dl_lst (da_cons (de_tup (da_cons de_int (da_cons de_int da_nil))) (da_cons (de_tup (da_cons de_int (da_cons de_int da_nil))) (da_cons (de_tup (da_cons de_int (da_cons de_int da_nil))) (da_cons (de_tup (da_cons de_int (da_cons de_int da_nil))) (da_cons (de_tup (da_cons de_int (da_cons de_int da_nil))) (da_cons (de_tup (da_cons de_int (da_cons (de_neg de_int) da_nil))) (da_cons (de_tup (da_cons de_int (da_cons (de_neg de_int) da_nil))) (da_cons (de_tup (da_cons de_int (da_cons de_int da_nil))) (da_cons (de_tup (da_cons de_int (da_cons de_int da_nil))) (da_cons (de_tup (da_cons de_int (da_cons de_int da_nil))) (da_cons (de_tup (da_cons de_int (da_cons (de_neg de_int) da_nil))) da_nil))))))))))))) da_nil))))
      (dss_cons (ds_set (i := 2) (sc__law_is_right).nd (by rfl) (by first | exact .inl rfl | exact .inr rfl) (de_if (dt_cmp (dop_eq hr) (de_of_var (pv 1)) (de_tup (da_cons de_int (da_cons de_int da_nil))) (by first | exact nomark _ | rfl | with_unfolding_all rfl | decide +kernel)) de_int de_int))
      (dss_cons (ds_par2 (i := 3) (j := 4) rfl (sc__law_is_right).nd (by rfl) (by rfl) (by decide) (by rfl) (by rfl) (da_cons (de_call h__law_row (hr.mono (by decide)) (by rfl) (da_cons (de_of_var (pv 1)) (da_cons (de_bin dop_addA (de_of_var (pv 2)) de_int) da_nil))) (da_cons (de_tup (da_cons (de_of_var (pv 1)) (da_cons (de_tup (da_cons de_int (da_cons de_int da_nil))) da_nil))) da_nil)))
      (dss_cons (ds_par2 (i := 5) (j := 6) rfl (sc__law_is_right).nd (by rfl) (by rfl) (by decide) (by rfl) (by rfl) (da_cons (de_bin dop_addA de_int (de_call h__law_draw (hr.mono (by decide)) (by rfl) (da_cons (de_of_var (pv 0)) (da_cons (de_of_var (pv 2)) da_nil)))) (da_cons (de_bin dop_addA de_int (de_call h__law_draw (hr.mono (by decide)) (by rfl) (da_cons (de_of_var (pv 0)) (da_cons (de_of_var (pv 2)) da_nil)))) da_nil)))
      (dss_cons (ds_set (i := 7) (sc__law_is_right).nd (by rfl) (by first | exact .inl rfl | exact .inr rfl) (de_call h__law_gcd (hr.mono (by decide)) (by rfl) (da_cons (de_of_var (pv 5)) (da_cons (de_of_var (pv 6)) da_nil))))
      (dss_cons (ds_set (i := 8) (sc__law_is_right).nd (by rfl) (by first | exact .inl rfl | exact .inr rfl) (de_call h_power_of_table (hr.mono (by decide)) (by rfl) (da_cons (de_of_var (pv 4)) (da_cons (de_of_var (pv 5)) da_nil))))
      (dss_cons (ds_if (dt_cmp (dop_ne hr) (de_of_var (pv 8)) (de_tup (da_cons (de_tup (da_cons (de_ix (de_of_var (pv 3)) (de_bin dop_addA (de_of_var (pv 5)) de_int)) (da_cons (de_bin dop_mulA (de_ix (de_of_var (pv 1)) de_int) (de_ix (de_of_var (pv 3)) (de_of_var (pv 5)))) da_nil))) (da_cons (de_tup (da_cons (de_ix (de_of_var (pv 3)) (de_of_var (pv 5))) (da_cons (de_bin dop_mulA (de_ix (de_of_var (pv 1)) de_int) (de_ix (de_of_var (pv 3)) (de_bin dop_sub (de_of_var (pv 5)) de_int))) da_nil))) da_nil))) (by first | exact nomark _ | rfl | with_unfolding_all rfl | decide +kernel))
       (dss_one (ds_ret de_bl))
       dss_nil)
      (dss_cons (ds_if (dt_cmp dop_gt (de_callB (dcall_max rfl) (by rfl) G.b_max dkb_max (da_cons (de_frz (dl_lc rfl (sc__law_is_right).nd (di_seq (de_tup (da_cons (de_ix (de_of_var (pv 3)) (de_of_var (pv 5))) (da_cons (de_ix (de_of_var (pv 3)) (de_of_var (pv 6))) da_nil)))) (blkOk_by (own := [("number", 9)]) (by kernel_rfl)) (by decide) (fun _ _ _ _ _ => (dg_name (i := 9) (sc__law_is_right).nd (by rfl) (by first | exact .inl rfl | exact .inr rfl))) (fun _ _ _ _ _ => dts_nil) (fun _ _ _ _ _ => (de_callB dcall_abs (by rfl) G.b_abs dkb_abs (da_cons (de_of_var (pv 9)) da_nil))))) da_nil)) (de_bin dop_pow de_int de_int) (by first | exact nomark _ | rfl | with_unfolding_all rfl | decide +kernel))
       (dss_one (ds_ret de_bl))
       dss_nil)
      (dss_cons (ds_if (dt_cmp (dop_ne hr) (de_ix (de_call h_common (hr.mono (by decide)) (by rfl) (da_cons (de_tup (da_cons (de_ix (de_of_var (pv 3)) (de_of_var (pv 5))) (da_cons (de_ix (de_of_var (pv 3)) (de_of_var (pv 6))) da_nil))) da_nil)) de_int) (de_callB dcall_abs (by rfl) G.b_abs dkb_abs (da_cons (de_ix (de_of_var (pv 3)) (de_of_var (pv 7))) da_nil)) (by first | exact nomark _ | rfl | with_unfolding_all rfl | decide +kernel))
       (dss_one (ds_ret de_bl))
       dss_nil)
      (dss_cons (ds_if (dt_w (dw_and (dt_cmp (dop_ne hr) (de_ix (de_of_var (pv 3)) (de_of_var (pv 5))) de_int (by first | exact nomark _ | rfl | with_unfolding_all rfl | decide +kernel)) (dw_and1 (dt_cmp (dop_ne hr) (de_ix (de_call h_common (hr.mono (by decide)) (by rfl) (da_cons (de_tup (da_cons (de_ix (de_of_var (pv 3)) (de_of_var (pv 5))) (da_cons (de_if (dt_cmp dop_lt (de_callB dcall_abs (by rfl) G.b_abs dkb_abs (da_cons (de_ix (de_of_var (pv 3)) (de_bin dop_addA (de_of_var (pv 5)) de_int)) da_nil)) (de_bin dop_pow de_int de_int) (by first | exact nomark _ | rfl | with_unfolding_all rfl | decide +kernel)) (de_ix (de_of_var (pv 3)) (de_bin dop_addA (de_of_var (pv 5)) de_int)) (de_ix (de_of_var (pv 3)) (de_bin dop_sub (de_of_var (pv 5)) de_int))) da_nil))) da_nil)) de_int) de_int (by first | exact nomark _ | rfl | with_unfolding_all rfl | decide +kernel)))))
       (dss_one (ds_ret de_bl))
       dss_nil)
      (dss_cons (ds_set (i := 10) (sc__law_is_right).nd (by rfl) (by first | exact .inl rfl | exact .inr rfl) (de_bin dop_mulA (de_of_var (pv 5)) (de_bin dop_addA de_int (de_call h__law_draw (hr.mono (by decide)) (by rfl) (da_cons (de_of_var (pv 0)) (da_cons (de_bin dop_div (de_of_var (pv 2)) (de_of_var (pv 5))) da_nil))))))
      (dss_cons (ds_if (dt_w (dw_and (dt_cmp (dop_ne hr) (de_ix (de_of_var (pv 3)) (de_of_var (pv 5))) de_int (by first | exact nomark _ | rfl | with_unfolding_all rfl | decide +kernel)) (dw_and1 (dt_cmp (dop_ne hr) (de_bin dop_mod (de_callTy dcall_int (by rfl) G.b_int dkb_int (da_cons (de_ix (de_of_var (pv 3)) (de_of_var (pv 10))) da_nil)) (de_callB dcall_abs (by rfl) G.b_abs dkb_abs (da_cons (de_ix (de_of_var (pv 3)) (de_of_var (pv 5))) da_nil))) de_int (by first | exact nomark _ | rfl | with_unfolding_all rfl | decide +kernel)))))
       (dss_one (ds_ret de_bl))
       dss_nil)
      (dss_cons (ds_par2 (i := 11) (j := 12) rfl (sc__law_is_right).nd (by rfl) (by rfl) (by decide) (by rfl) (by rfl) (da_cons (de_callB (dcall_min2 rfl) (by rfl) G.b_min dkb_min (da_cons (de_of_var (pv 5)) (da_cons de_int da_nil))) (da_cons (de_callB (dcall_min2 rfl) (by rfl) G.b_min dkb_min (da_cons (de_of_var (pv 6)) (da_cons de_int da_nil))) da_nil)))
      (dss_cons (ds_par2 (i := 13) (j := 14) rfl (sc__law_is_right).nd (by rfl) (by rfl) (by decide) (by rfl) (by rfl) (da_cons (de_call h_power_of_table (hr.mono (by decide)) (by rfl) (da_cons (de_of_var (pv 4)) (da_cons (de_of_var (pv 11)) da_nil))) (da_cons (de_call h_power_of_table (hr.mono (by decide)) (by rfl) (da_cons (de_of_var (pv 4)) (da_cons (de_of_var (pv 12)) da_nil))) da_nil)))
      (dss_cons (ds_if (dt_cmp (dop_ne hr) (de_call h_product (hr.mono (by decide)) (by rfl) (da_cons (de_of_var (pv 13)) (da_cons (de_of_var (pv 14)) da_nil))) (de_call h_power_of_table (hr.mono (by decide)) (by rfl) (da_cons (de_of_var (pv 4)) (da_cons (de_bin dop_addA (de_of_var (pv 11)) (de_of_var (pv 12))) da_nil))) (by first | exact nomark _ | rfl | with_unfolding_all rfl | decide +kernel))
       (dss_one (ds_ret de_bl))
       dss_nil)
      (dss_cons (ds_if (dt_cmp (dop_ne hr) (de_call h_determinant (hr.mono (by decide)) (by rfl) (da_cons (de_of_var (pv 13)) da_nil)) (de_call h__law_raised (hr.mono (by decide)) (by rfl) (da_cons (de_bin dop_sub de_int (de_ix (de_of_var (pv 1)) de_int)) (da_cons (de_of_var (pv 11)) da_nil))) (by first | exact nomark _ | rfl | with_unfolding_all rfl | decide +kernel))
       (dss_one (ds_ret de_bl))
       dss_nil)
      (dss_cons (ds_if (dt_cmp (dop_ne hr) (de_ix (de_of_var (pv 3)) (de_bin dop_addA (de_of_var (pv 11)) (de_of_var (pv 12)))) (de_bin dop_addA (de_bin dop_mulA (de_ix (de_of_var (pv 3)) (de_of_var (pv 11))) (de_ix (de_of_var (pv 3)) (de_bin dop_addA (de_of_var (pv 12)) de_int))) (de_bin dop_mulA (de_bin dop_mulA (de_ix (de_of_var (pv 1)) de_int) (de_ix (de_of_var (pv 3)) (de_bin dop_sub (de_of_var (pv 11)) de_int))) (de_ix (de_of_var (pv 3)) (de_of_var (pv 12))))) (by first | exact nomark _ | rfl | with_unfolding_all rfl | decide +kernel))
       (dss_one (ds_ret de_bl))
       dss_nil)
      (dss_cons (ds_if (dt_w (dw_or (dt_cmp (dop_ne hr) (de_of_var (pv 1)) (de_tup (da_cons de_int (da_cons de_int da_nil))) (by first | exact nomark _ | rfl | with_unfolding_all rfl | decide +kernel)) (dw_or1 (dt_cmp dop_lt (de_of_var (pv 5)) de_int (by first | exact nomark _ | rfl | with_unfolding_all rfl | decide +kernel)))))
       (dss_one (ds_ret de_bl))
       dss_nil)
      (dss_cons (ds_par2 (i := 13) (j := 14) rfl (sc__law_is_right).nd (by rfl) (by rfl) (by decide) (by rfl) (by rfl) (da_cons (de_call h_by_fibonacci (hr.mono (by decide)) (by rfl) (da_cons (de_ix (de_of_var (pv 3)) (de_of_var (pv 5))) da_nil)) (da_cons (de_call h_by_fibonacci (hr.mono (by decide)) (by rfl) (da_cons (de_bin dop_mulA de_int (de_ix (de_of_var (pv 3)) (de_of_var (pv 5)))) da_nil)) da_nil)))
      (dss_one (ds_ret (de_and (de_cmp (dop_eq hr) (de_callB dcall_len (by rfl) G.b_len dkb_len (da_cons (de_of_var (pv 13)) da_nil)) de_int (by first | exact nomark _ | rfl | with_unfolding_all rfl | decide +kernel)) (de_one (de_cmp (dop_eq hr) (de_callB dcall_len (by rfl) G.b_len dkb_len (da_cons (de_of_var (pv 14)) da_nil)) de_int (by first | exact nomark _ | rfl | with_unfolding_all rfl | decide +kernel)))))))))))))))))))))))))) does_run
theorem fo_law {f : Addr} {fd : FuncData} (F : Fun K "law" "law" st_law f fd) (G : Gs K mg) (h__law_hand : Callee P w K mg base 1 "_law_hand" 1 m__law_hand) (h_power_of_table : Callee P w K mg base 6 "power_of_table" 2 m_power_of_table) (h__law_is_right : Callee P w K mg base 7 "_law_is_right" 1 m__law_is_right) (h_common : Callee P w K mg base 5 "common" 1 m_common) : FnOk P w K mg base CX0 8 f fd ["script"] (spD K 1 m_law) :=
  fo_pure (k := 7) (m := m_law) (sv := ev_law) F sc_law (fun cdv A outer s H E hr =>
      (dss_cons (ds_set (i := 1) (sc_law).nd (by rfl) (by first | exact .inl rfl | exact .inr rfl) (de_new (dl_call h__law_hand (hr.mono (by decide)) (by rfl) (da_cons (de_of_var (pv 0)) da_nil))))
      (dss_cons (ds_if (dt_w (dw_or (dt_cmp (dop_ne hr) (de_ix (de_call h_common (hr.mono (by decide)) (by rfl) (da_cons (de_tup (da_cons de_int (da_cons de_int da_nil))) da_nil)) de_int) de_int (by first | exact nomark _ | rfl | with_unfolding_all rfl | decide +kernel)) (dw_or1 (dt_cmp (dop_ne hr) (de_call h_power_of_table (hr.mono (by decide)) (by rfl) (da_cons (de_tup (da_cons (de_tup (da_cons de_int (da_cons de_int da_nil))) (da_cons (de_tup (da_cons de_int (da_cons de_int da_nil))) da_nil))) (da_cons de_int da_nil))) (de_tup (da_cons (de_tup (da_cons de_int (da_cons de_int da_nil))) (da_cons (de_tup (da_cons de_int (da_cons de_int da_nil))) da_nil))) (by first | exact nomark _ | rfl | with_unfolding_all rfl | decide +kernel)))))
       (dss_one (ds_ret de_bl))
       dss_nil)
      (dss_one (ds_ret (de_callB (dcall_all rfl) (by rfl) G.b_all dkb_all (da_cons (de_frz (dl_lc rfl (sc_law).nd (di_range1 (by rfl) G.b_range (da_cons de_int da_nil)) (blkOk_by (own := [("lap", 2)]) (by kernel_rfl)) (by decide) (fun _ _ _ _ _ => (dg_name (i := 2) (sc_law).nd (by rfl) (by first | exact .inl rfl | exact .inr rfl))) (fun _ _ _ _ _ => dts_nil) (fun _ _ _ _ _ => (de_call h__law_is_right (hr.mono (by decide)) (by rfl) (da_cons (de_of_var (pv 1)) da_nil))))) da_nil))))))) rfl rfl rfl
theorem all_mk {l : PySem.W.OpenLaw} {w : World} {K : PySem.W.Frag} {h : Heap} {mg : Str → Option Value} {fa : Addr} (X : K.In h) (GN : h.Ns mainGlobals mg) (hfa : mg "law" = some (.ref fa))
    {f0 : Addr} {oc0 kV0 dc0 pm0 cd0 ct0 : Value} {od0 an0 : Option Addr} {sl0 : Array (Option Value)}
    (a0 : PySem.W.nsIn K mainGlobals "_law_hand" = some (some (.ref f0))) (l0 : K.lookup f0 = some ⟨oc0, od0, .func (PySem.W.fnOf "_law_hand" "_law_hand" (defArgs st__law_hand) (defBody st__law_hand) (defScope st__law_hand) .none kV0 dc0 pm0 an0 cd0 ct0), sl0⟩) (c0 : PySem.W.codeIn K cd0 "_law_hand" = true) (k0 : PySem.W.keepIn K (.ref f0) = true)
    {f1 : Addr} {oc1 kV1 dc1 pm1 cd1 ct1 : Value} {od1 an1 : Option Addr} {sl1 : Array (Option Value)}
    (a1 : PySem.W.nsIn K mainGlobals "is_integer" = some (some (.ref f1))) (l1 : K.lookup f1 = some ⟨oc1, od1, .func (PySem.W.fnOf "is_integer" "is_integer" (defArgs st_is_integer) (defBody st_is_integer) (defScope st_is_integer) .none kV1 dc1 pm1 an1 cd1 ct1), sl1⟩) (c1 : PySem.W.codeIn K cd1 "is_integer" = true) (k1 : PySem.W.keepIn K (.ref f1) = true)
    {f2 : Addr} {oc2 kV2 dc2 pm2 cd2 ct2 : Value} {od2 an2 : Option Addr} {sl2 : Array (Option Value)}
    (a2 : PySem.W.nsIn K mainGlobals "is_within" = some (some (.ref f2))) (l2 : K.lookup f2 = some ⟨oc2, od2, .func (PySem.W.fnOf "is_within" "is_within" (defArgs st_is_within) (defBody st_is_within) (defScope st_is_within) .none kV2 dc2 pm2 an2 cd2 ct2), sl2⟩) (c2 : PySem.W.codeIn K cd2 "is_within" = true) (k2 : PySem.W.keepIn K (.ref f2) = true)
    {f3 : Addr} {oc3 kV3 dc3 pm3 cd3 ct3 : Value} {od3 an3 : Option Addr} {sl3 : Array (Option Value)}
    (a3 : PySem.W.nsIn K mainGlobals "is_table" = some (some (.ref f3))) (l3 : K.lookup f3 = some ⟨oc3, od3, .func (PySem.W.fnOf "is_table" "is_table" (defArgs st_is_table) (defBody st_is_table) (defScope st_is_table) .none kV3 dc3 pm3 an3 cd3 ct3), sl3⟩) (c3 : PySem.W.codeIn K cd3 "is_table" = true) (k3 : PySem.W.keepIn K (.ref f3) = true)
    {f4 : Addr} {oc4 kV4 dc4 pm4 cd4 ct4 : Value} {od4 an4 : Option Addr} {sl4 : Array (Option Value)}
    (a4 : PySem.W.nsIn K mainGlobals "check_table" = some (some (.ref f4))) (l4 : K.lookup f4 = some ⟨oc4, od4, .func (PySem.W.fnOf "check_table" "check_table" (defArgs st_check_table) (defBody st_check_table) (defScope st_check_table) .none kV4 dc4 pm4 an4 cd4 ct4), sl4⟩) (c4 : PySem.W.codeIn K cd4 "check_table" = true) (k4 : PySem.W.keepIn K (.ref f4) = true)
    {f5 : Addr} {oc5 kV5 dc5 pm5 cd5 ct5 : Value} {od5 an5 : Option Addr} {sl5 : Array (Option Value)}
    (a5 : PySem.W.nsIn K mainGlobals "check_square" = some (some (.ref f5))) (l5 : K.lookup f5 = some ⟨oc5, od5, .func (PySem.W.fnOf "check_square" "check_square" (defArgs st_check_square) (defBody st_check_square) (defScope st_check_square) .none kV5 dc5 pm5 an5 cd5 ct5), sl5⟩) (c5 : PySem.W.codeIn K cd5 "check_square" = true) (k5 : PySem.W.keepIn K (.ref f5) = true)
    {f6 : Addr} {oc6 kV6 dc6 pm6 cd6 ct6 : Value} {od6 an6 : Option Addr} {sl6 : Array (Option Value)}
    (a6 : PySem.W.nsIn K mainGlobals "unit_table" = some (some (.ref f6))) (l6 : K.lookup f6 = some ⟨oc6, od6, .func (PySem.W.fnOf "unit_table" "unit_table" (defArgs st_unit_table) (defBody st_unit_table) (defScope st_unit_table) .none kV6 dc6 pm6 an6 cd6 ct6), sl6⟩) (c6 : PySem.W.codeIn K cd6 "unit_table" = true) (k6 : PySem.W.keepIn K (.ref f6) = true)
    {f7 : Addr} {oc7 kV7 dc7 pm7 cd7 ct7 : Value} {od7 an7 : Option Addr} {sl7 : Array (Option Value)}
    (a7 : PySem.W.nsIn K mainGlobals "times" = some (some (.ref f7))) (l7 : K.lookup f7 = some ⟨oc7, od7, .func (PySem.W.fnOf "times" "times" (defArgs st_times) (defBody st_times) (defScope st_times) .none kV7 dc7 pm7 an7 cd7 ct7), sl7⟩) (c7 : PySem.W.codeIn K cd7 "times" = true) (k7 : PySem.W.keepIn K (.ref f7) = true)
    {f8 : Addr} {oc8 kV8 dc8 pm8 cd8 ct8 : Value} {od8 an8 : Option Addr} {sl8 : Array (Option Value)}
    (a8 : PySem.W.nsIn K mainGlobals "power_of_table" = some (some (.ref f8))) (l8 : K.lookup f8 = some ⟨oc8, od8, .func (PySem.W.fnOf "power_of_table" "power_of_table" (defArgs st_power_of_table) (defBody st_power_of_table) (defScope st_power_of_table) .none kV8 dc8 pm8 an8 cd8 ct8), sl8⟩) (c8 : PySem.W.codeIn K cd8 "power_of_table" = true) (k8 : PySem.W.keepIn K (.ref f8) = true)
    {f9 : Addr} {oc9 kV9 dc9 pm9 cd9 ct9 : Value} {od9 an9 : Option Addr} {sl9 : Array (Option Value)}
    (a9 : PySem.W.nsIn K mainGlobals "_law_draw" = some (some (.ref f9))) (l9 : K.lookup f9 = some ⟨oc9, od9, .func (PySem.W.fnOf "_law_draw" "_law_draw" (defArgs st__law_draw) (defBody st__law_draw) (defScope st__law_draw) .none kV9 dc9 pm9 an9 cd9 ct9), sl9⟩) (c9 : PySem.W.codeIn K cd9 "_law_draw" = true) (k9 : PySem.W.keepIn K (.ref f9) = true)
    {f10 : Addr} {oc10 kV10 dc10 pm10 cd10 ct10 : Value} {od10 an10 : Option Addr} {sl10 : Array (Option Value)}
    (a10 : PySem.W.nsIn K mainGlobals "_law_any" = some (some (.ref f10))) (l10 : K.lookup f10 = some ⟨oc10, od10, .func (PySem.W.fnOf "_law_any" "_law_any" (defArgs st__law_any) (defBody st__law_any) (defScope st__law_any) .none kV10 dc10 pm10 an10 cd10 ct10), sl10⟩) (c10 : PySem.W.codeIn K cd10 "_law_any" = true) (k10 : PySem.W.keepIn K (.ref f10) = true)
    {f11 : Addr} {oc11 kV11 dc11 pm11 cd11 ct11 : Value} {od11 an11 : Option Addr} {sl11 : Array (Option Value)}
    (a11 : PySem.W.nsIn K mainGlobals "_law_gcd" = some (some (.ref f11))) (l11 : K.lookup f11 = some ⟨oc11, od11, .func (PySem.W.fnOf "_law_gcd" "_law_gcd" (defArgs st__law_gcd) (defBody st__law_gcd) (defScope st__law_gcd) .none kV11 dc11 pm11 an11 cd11 ct11), sl11⟩) (c11 : PySem.W.codeIn K cd11 "_law_gcd" = true) (k11 : PySem.W.keepIn K (.ref f11) = true)
    {f12 : Addr} {oc12 kV12 dc12 pm12 cd12 ct12 : Value} {od12 an12 : Option Addr} {sl12 : Array (Option Value)}
    (a12 : PySem.W.nsIn K mainGlobals "_law_row" = some (some (.ref f12))) (l12 : K.lookup f12 = some ⟨oc12, od12, .func (PySem.W.fnOf "_law_row" "_law_row" (defArgs st__law_row) (defBody st__law_row) (defScope st__law_row) .none kV12 dc12 pm12 an12 cd12 ct12), sl12⟩) (c12 : PySem.W.codeIn K cd12 "_law_row" = true) (k12 : PySem.W.keepIn K (.ref f12) = true)
    {f13 : Addr} {oc13 kV13 dc13 pm13 cd13 ct13 : Value} {od13 an13 : Option Addr} {sl13 : Array (Option Value)}
    (a13 : PySem.W.nsIn K mainGlobals "product" = some (some (.ref f13))) (l13 : K.lookup f13 = some ⟨oc13, od13, .func (PySem.W.fnOf "product" "product" (defArgs st_product) (defBody st_product) (defScope st_product) .none kV13 dc13 pm13 an13 cd13 ct13), sl13⟩) (c13 : PySem.W.codeIn K cd13 "product" = true) (k13 : PySem.W.keepIn K (.ref f13) = true)
    {f14 : Addr} {oc14 kV14 dc14 pm14 cd14 ct14 : Value} {od14 an14 : Option Addr} {sl14 : Array (Option Value)}
    (a14 : PySem.W.nsIn K mainGlobals "worth" = some (some (.ref f14))) (l14 : K.lookup f14 = some ⟨oc14, od14, .func (PySem.W.fnOf "worth" "worth" (defArgs st_worth) (defBody st_worth) (defScope st_worth) .none kV14 dc14 pm14 an14 cd14 ct14), sl14⟩) (c14 : PySem.W.codeIn K cd14 "worth" = true) (k14 : PySem.W.keepIn K (.ref f14) = true)
    {f15 : Addr} {oc15 kV15 dc15 pm15 cd15 ct15 : Value} {od15 an15 : Option Addr} {sl15 : Array (Option Value)}
    (a15 : PySem.W.nsIn K mainGlobals "determinant" = some (some (.ref f15))) (l15 : K.lookup f15 = some ⟨oc15, od15, .func (PySem.W.fnOf "determinant" "determinant" (defArgs st_determinant) (defBody st_determinant) (defScope st_determinant) .none kV15 dc15 pm15 an15 cd15 ct15), sl15⟩) (c15 : PySem.W.codeIn K cd15 "determinant" = true) (k15 : PySem.W.keepIn K (.ref f15) = true)
    {f16 : Addr} {oc16 kV16 dc16 pm16 cd16 ct16 : Value} {od16 an16 : Option Addr} {sl16 : Array (Option Value)}
    (a16 : PySem.W.nsIn K mainGlobals "_law_raised" = some (some (.ref f16))) (l16 : K.lookup f16 = some ⟨oc16, od16, .func (PySem.W.fnOf "_law_raised" "_law_raised" (defArgs st__law_raised) (defBody st__law_raised) (defScope st__law_raised) .none kV16 dc16 pm16 an16 cd16 ct16), sl16⟩) (c16 : PySem.W.codeIn K cd16 "_law_raised" = true) (k16 : PySem.W.keepIn K (.ref f16) = true)
    {f17 : Addr} {oc17 kV17 dc17 pm17 cd17 ct17 : Value} {od17 an17 : Option Addr} {sl17 : Array (Option Value)}
    (a17 : PySem.W.nsIn K mainGlobals "fibonacci_to" = some (some (.ref f17))) (l17 : K.lookup f17 = some ⟨oc17, od17, .func (PySem.W.fnOf "fibonacci_to" "fibonacci_to" (defArgs st_fibonacci_to) (defBody st_fibonacci_to) (defScope st_fibonacci_to) .none kV17 dc17 pm17 an17 cd17 ct17), sl17⟩) (c17 : PySem.W.codeIn K cd17 "fibonacci_to" = true) (k17 : PySem.W.keepIn K (.ref f17) = true)
    {f18 : Addr} {oc18 kV18 dc18 pm18 cd18 ct18 : Value} {od18 an18 : Option Addr} {sl18 : Array (Option Value)}
    (a18 : PySem.W.nsIn K mainGlobals "by_fibonacci" = some (some (.ref f18))) (l18 : K.lookup f18 = some ⟨oc18, od18, .func (PySem.W.fnOf "by_fibonacci" "by_fibonacci" (defArgs st_by_fibonacci) (defBody st_by_fibonacci) (defScope st_by_fibonacci) .none kV18 dc18 pm18 an18 cd18 ct18), sl18⟩) (c18 : PySem.W.codeIn K cd18 "by_fibonacci" = true) (k18 : PySem.W.keepIn K (.ref f18) = true)
    {f19 : Addr} {oc19 kV19 dc19 pm19 cd19 ct19 : Value} {od19 an19 : Option Addr} {sl19 : Array (Option Value)}
    (a19 : PySem.W.nsIn K mainGlobals "are_integers" = some (some (.ref f19))) (l19 : K.lookup f19 = some ⟨oc19, od19, .func (PySem.W.fnOf "are_integers" "are_integers" (defArgs st_are_integers) (defBody st_are_integers) (defScope st_are_integers) .none kV19 dc19 pm19 an19 cd19 ct19), sl19⟩) (c19 : PySem.W.codeIn K cd19 "are_integers" = true) (k19 : PySem.W.keepIn K (.ref f19) = true)
    {f20 : Addr} {oc20 kV20 dc20 pm20 cd20 ct20 : Value} {od20 an20 : Option Addr} {sl20 : Array (Option Value)}
    (a20 : PySem.W.nsIn K mainGlobals "check_numbers" = some (some (.ref f20))) (l20 : K.lookup f20 = some ⟨oc20, od20, .func (PySem.W.fnOf "check_numbers" "check_numbers" (defArgs st_check_numbers) (defBody st_check_numbers) (defScope st_check_numbers) .none kV20 dc20 pm20 an20 cd20 ct20), sl20⟩) (c20 : PySem.W.codeIn K cd20 "check_numbers" = true) (k20 : PySem.W.keepIn K (.ref f20) = true)
    {f21 : Addr} {oc21 kV21 dc21 pm21 cd21 ct21 : Value} {od21 an21 : Option Addr} {sl21 : Array (Option Value)}
    (a21 : PySem.W.nsIn K mainGlobals "sum_for_two" = some (some (.ref f21))) (l21 : K.lookup f21 = some ⟨oc21, od21, .func (PySem.W.fnOf "sum_for_two" "sum_for_two" (defArgs st_sum_for_two) (defBody st_sum_for_two) (defScope st_sum_for_two) .none kV21 dc21 pm21 an21 cd21 ct21), sl21⟩) (c21 : PySem.W.codeIn K cd21 "sum_for_two" = true) (k21 : PySem.W.keepIn K (.ref f21) = true)
    {f22 : Addr} {oc22 kV22 dc22 pm22 cd22 ct22 : Value} {od22 an22 : Option Addr} {sl22 : Array (Option Value)}
    (a22 : PySem.W.nsIn K mainGlobals "common" = some (some (.ref f22))) (l22 : K.lookup f22 = some ⟨oc22, od22, .func (PySem.W.fnOf "common" "common" (defArgs st_common) (defBody st_common) (defScope st_common) .none kV22 dc22 pm22 an22 cd22 ct22), sl22⟩) (c22 : PySem.W.codeIn K cd22 "common" = true) (k22 : PySem.W.keepIn K (.ref f22) = true)
    {f23 : Addr} {oc23 kV23 dc23 pm23 cd23 ct23 : Value} {od23 an23 : Option Addr} {sl23 : Array (Option Value)}
    (a23 : PySem.W.nsIn K mainGlobals "_law_is_right" = some (some (.ref f23))) (l23 : K.lookup f23 = some ⟨oc23, od23, .func (PySem.W.fnOf "_law_is_right" "_law_is_right" (defArgs st__law_is_right) (defBody st__law_is_right) (defScope st__law_is_right) .none kV23 dc23 pm23 an23 cd23 ct23), sl23⟩) (c23 : PySem.W.codeIn K cd23 "_law_is_right" = true) (k23 : PySem.W.keepIn K (.ref f23) = true)
    {f24 : Addr} {oc24 kV24 dc24 pm24 cd24 ct24 : Value} {od24 an24 : Option Addr} {sl24 : Array (Option Value)}
    (a24 : PySem.W.nsIn K mainGlobals "law" = some (some (.ref f24))) (l24 : K.lookup f24 = some ⟨oc24, od24, .func (PySem.W.fnOf "law" "law" (defArgs st_law) (defBody st_law) (defScope st_law) .none kV24 dc24 pm24 an24 cd24 ct24), sl24⟩) (c24 : PySem.W.codeIn K cd24 "law" = true) (k24 : PySem.W.keepIn K (.ref f24) = true)
    (z_abs : PySem.W.nsIn K mainGlobals "abs" = some none)
    (z_all : PySem.W.nsIn K mainGlobals "all" = some none)
    (z_bool : PySem.W.nsIn K mainGlobals "bool" = some none)
    (z_int : PySem.W.nsIn K mainGlobals "int" = some none)
    (z_isinstance : PySem.W.nsIn K mainGlobals "isinstance" = some none)
    (z_len : PySem.W.nsIn K mainGlobals "len" = some none)
    (z_list : PySem.W.nsIn K mainGlobals "list" = some none)
    (z_max : PySem.W.nsIn K mainGlobals "max" = some none)
    (z_min : PySem.W.nsIn K mainGlobals "min" = some none)
    (z_range : PySem.W.nsIn K mainGlobals "range" = some none)
    (z_sum : PySem.W.nsIn K mainGlobals "sum" = some none)
    (z_tuple : PySem.W.nsIn K mainGlobals "tuple" = some none)
    (z_zip : PySem.W.nsIn K mainGlobals "zip" = some none)
    {t_MOST_MANY : Tok} (g_MOST_MANY : PySem.W.nsIn K mainGlobals "MOST_MANY" = some (some (.int 20 t_MOST_MANY)))
    {t_MOST_SIDE : Tok} (g_MOST_SIDE : PySem.W.nsIn K mainGlobals "MOST_SIDE" = some (some (.int 8 t_MOST_SIDE)))
    {t_MOST_commons : Tok} (g_MOST_commons : PySem.W.nsIn K mainGlobals "MOST_commons" = some (some (.int 1000000000000 t_MOST_commons)))
    {t_MOST_digits : Tok} (g_MOST_digits : PySem.W.nsIn K mainGlobals "MOST_digits" = some (some (.int 1000000000000000000 t_MOST_digits)))
    {t_MOST_tables : Tok} (g_MOST_tables : PySem.W.nsIn K mainGlobals "MOST_tables" = some (some (.int 1000000000 t_MOST_tables)))
    : ∃ fd : FuncData, (∀ (s : Shared) (v : Value), BindsTo s fd ⟨[v], []⟩ [("script", v)]) ∧ ∀ base : Heap, K.In base → base.Ns mainGlobals mg → FnOk l.prog w K mg base CX0 8 fa fd ["script"] (spD K 1 m_law) := by
  have e := hfa.symm.trans (PySem.W.mg_of X GN a24)
  cases e
  have G : Gs K mg := ⟨PySem.W.mg_none_of X GN z_abs, PySem.W.mg_none_of X GN z_all, PySem.W.mg_none_of X GN z_bool, PySem.W.mg_none_of X GN z_int, PySem.W.mg_none_of X GN z_isinstance, PySem.W.mg_none_of X GN z_len, PySem.W.mg_none_of X GN z_list, PySem.W.mg_none_of X GN z_max, PySem.W.mg_none_of X GN z_min, PySem.W.mg_none_of X GN z_range, PySem.W.mg_none_of X GN z_sum, PySem.W.mg_none_of X GN z_tuple, PySem.W.mg_none_of X GN z_zip, globI_of (PySem.W.mg_of X GN g_MOST_MANY), globI_of (PySem.W.mg_of X GN g_MOST_SIDE), globI_of (PySem.W.mg_of X GN g_MOST_commons), globI_of (PySem.W.mg_of X GN g_MOST_digits), globI_of (PySem.W.mg_of X GN g_MOST_tables)⟩
  refine ⟨PySem.W.fnOf "law" "law" (defArgs st_law) (defBody st_law) (defScope st_law) .none kV24 dc24 pm24 an24 cd24 ct24, fun s v => .of_eq rfl, fun base _ _ => ?_⟩
  have F0 := fun_mk (st := st__law_hand) l0 c0 k0
  have h__law_hand : Callee l.prog w K mg base 1 "_law_hand" 1 m__law_hand := ⟨_, _, _, fo__law_hand F0 G , PySem.W.mg_of X GN a0, F0.kp, F0.binds (ps := ["script"]) fun _ _ _ _ _ _ us hl => match us, hl with | [_], _ => rfl⟩
  have F1 := fun_mk (st := st_is_integer) l1 c1 k1
  have h_is_integer : Callee l.prog w K mg base 1 "is_integer" 1 m_is_integer := ⟨_, _, _, fo_is_integer F1 G , PySem.W.mg_of X GN a1, F1.kp, F1.binds (ps := ["thing"]) fun _ _ _ _ _ _ us hl => match us, hl with | [_], _ => rfl⟩
  have F2 := fun_mk (st := st_is_within) l2 c2 k2
  have h_is_within : Callee l.prog w K mg base 2 "is_within" 3 m_is_within := ⟨_, _, _, fo_is_within F2 G h_is_integer, PySem.W.mg_of X GN a2, F2.kp, F2.binds (ps := ["thing", "least", "most"]) fun _ _ _ _ _ _ us hl => match us, hl with | [_, _, _], _ => rfl⟩
  have F3 := fun_mk (st := st_is_table) l3 c3 k3
  have h_is_table : Callee l.prog w K mg base 3 "is_table" 1 m_is_table := ⟨_, _, _, fo_is_table F3 G h_is_within, PySem.W.mg_of X GN a3, F3.kp, F3.binds (ps := ["thing"]) fun _ _ _ _ _ _ us hl => match us, hl with | [_], _ => rfl⟩
  have F4 := fun_mk (st := st_check_table) l4 c4 k4
  have h_check_table : Callee l.prog w K mg base 4 "check_table" 1 m_check_table := ⟨_, _, _, fo_check_table F4 G h_is_table, PySem.W.mg_of X GN a4, F4.kp, F4.binds (ps := ["table"]) fun _ _ _ _ _ _ us hl => match us, hl with | [_], _ => rfl⟩
  have F5 := fun_mk (st := st_check_square) l5 c5 k5
  have h_check_square : Callee l.prog w K mg base 5 "check_square" 1 m_check_square := ⟨_, _, _, fo_check_square F5 G h_check_table, PySem.W.mg_of X GN a5, F5.kp, F5.binds (ps := ["table"]) fun _ _ _ _ _ _ us hl => match us, hl with | [_], _ => rfl⟩
  have F6 := fun_mk (st := st_unit_table) l6 c6 k6
  have h_unit_table : Callee l.prog w K mg base 1 "unit_table" 1 m_unit_table := ⟨_, _, _, fo_unit_table F6 G , PySem.W.mg_of X GN a6, F6.kp, F6.binds (ps := ["many"]) fun _ _ _ _ _ _ us hl => match us, hl with | [_], _ => rfl⟩
  have F7 := fun_mk (st := st_times) l7 c7 k7
  have h_times : Callee l.prog w K mg base 1 "times" 2 m_times := ⟨_, _, _, fo_times F7 G , PySem.W.mg_of X GN a7, F7.kp, F7.binds (ps := ["one", "other"]) fun _ _ _ _ _ _ us hl => match us, hl with | [_, _], _ => rfl⟩
  have F8 := fun_mk (st := st_power_of_table) l8 c8 k8
  have h_power_of_table : Callee l.prog w K mg base 6 "power_of_table" 2 m_power_of_table := ⟨_, _, _, fo_power_of_table F8 G h_check_square h_unit_table h_is_within h_times, PySem.W.mg_of X GN a8, F8.kp, F8.binds (ps := ["table", "exponent"]) fun _ _ _ _ _ _ us hl => match us, hl with | [_, _], _ => rfl⟩
  have F9 := fun_mk (st := st__law_draw) l9 c9 k9
  have h__law_draw : Callee l.prog w K mg base 1 "_law_draw" 2 m__law_draw := ⟨_, _, _, fo__law_draw F9 G , PySem.W.mg_of X GN a9, F9.kp, F9.binds (ps := ["hand", "many"]) fun _ _ _ _ _ _ us hl => match us, hl with | [_, _], _ => rfl⟩
  have F10 := fun_mk (st := st__law_any) l10 c10 k10
  have h__law_any : Callee l.prog w K mg base 2 "_law_any" 2 m__law_any := ⟨_, _, _, fo__law_any F10 G h__law_draw, PySem.W.mg_of X GN a10, F10.kp, F10.binds (ps := ["hand", "some"]) fun _ _ _ _ _ _ us hl => match us, hl with | [_, _], _ => rfl⟩
  have F11 := fun_mk (st := st__law_gcd) l11 c11 k11
  have h__law_gcd : Callee l.prog w K mg base 1 "_law_gcd" 2 m__law_gcd := ⟨_, _, _, fo__law_gcd F11 G , PySem.W.mg_of X GN a11, F11.kp, F11.binds (ps := ["one", "other"]) fun _ _ _ _ _ _ us hl => match us, hl with | [_, _], _ => rfl⟩
  have F12 := fun_mk (st := st__law_row) l12 c12 k12
  have h__law_row : Callee l.prog w K mg base 1 "_law_row" 2 m__law_row := ⟨_, _, _, fo__law_row F12 G , PySem.W.mg_of X GN a12, F12.kp, F12.binds (ps := ["rule", "many"]) fun _ _ _ _ _ _ us hl => match us, hl with | [_, _], _ => rfl⟩
  have F13 := fun_mk (st := st_product) l13 c13 k13
  have h_product : Callee l.prog w K mg base 5 "product" 2 m_product := ⟨_, _, _, fo_product F13 G h_check_table h_times, PySem.W.mg_of X GN a13, F13.kp, F13.binds (ps := ["one", "other"]) fun _ _ _ _ _ _ us hl => match us, hl with | [_, _], _ => rfl⟩
  have F14 := fun_mk (st := st_worth) l14 c14 k14
  have h_worth : Callee l.prog w K mg base 1 "worth" 1 m_worth := ⟨_, _, _, fo_worth F14 G , PySem.W.mg_of X GN a14, F14.kp, F14.binds (ps := ["rows"]) fun _ _ _ _ _ _ us hl => match us, hl with | [_], _ => rfl⟩
  have F15 := fun_mk (st := st_determinant) l15 c15 k15
  have h_determinant : Callee l.prog w K mg base 6 "determinant" 1 m_determinant := ⟨_, _, _, fo_determinant F15 G h_check_square h_worth, PySem.W.mg_of X GN a15, F15.kp, F15.binds (ps := ["table"]) fun _ _ _ _ _ _ us hl => match us, hl with | [_], _ => rfl⟩
  have F16 := fun_mk (st := st__law_raised) l16 c16 k16
  have h__law_raised : Callee l.prog w K mg base 1 "_law_raised" 2 m__law_raised := ⟨_, _, _, fo__law_raised F16 G , PySem.W.mg_of X GN a16, F16.kp, F16.binds (ps := ["one", "many"]) fun _ _ _ _ _ _ us hl => match us, hl with | [_, _], _ => rfl⟩
  have F17 := fun_mk (st := st_fibonacci_to) l17 c17 k17
  have h_fibonacci_to : Callee l.prog w K mg base 1 "fibonacci_to" 1 m_fibonacci_to := ⟨_, _, _, fo_fibonacci_to F17 G , PySem.W.mg_of X GN a17, F17.kp, F17.binds (ps := ["most"]) fun _ _ _ _ _ _ us hl => match us, hl with | [_], _ => rfl⟩
  have F18 := fun_mk (st := st_by_fibonacci) l18 c18 k18
  have h_by_fibonacci : Callee l.prog w K mg base 3 "by_fibonacci" 1 m_by_fibonacci := ⟨_, _, _, fo_by_fibonacci F18 G h_is_within h_fibonacci_to, PySem.W.mg_of X GN a18, F18.kp, F18.binds (ps := ["number"]) fun _ _ _ _ _ _ us hl => match us, hl with | [_], _ => rfl⟩
  have F19 := fun_mk (st := st_are_integers) l19 c19 k19
  have h_are_integers : Callee l.prog w K mg base 3 "are_integers" 4 m_are_integers := ⟨_, _, _, fo_are_integers F19 G h_is_within, PySem.W.mg_of X GN a19, F19.kp, F19.binds (ps := ["thing", "least_many", "most_many", "most"]) fun _ _ _ _ _ _ us hl => match us, hl with | [_, _, _, _], _ => rfl⟩
  have F20 := fun_mk (st := st_check_numbers) l20 c20 k20
  have h_check_numbers : Callee l.prog w K mg base 4 "check_numbers" 1 m_check_numbers := ⟨_, _, _, fo_check_numbers F20 G h_are_integers, PySem.W.mg_of X GN a20, F20.kp, F20.binds (ps := ["numbers"]) fun _ _ _ _ _ _ us hl => match us, hl with | [_], _ => rfl⟩
  have F21 := fun_mk (st := st_sum_for_two) l21 c21 k21
  have h_sum_for_two : Callee l.prog w K mg base 1 "sum_for_two" 2 m_sum_for_two := ⟨_, _, _, fo_sum_for_two F21 G , PySem.W.mg_of X GN a21, F21.kp, F21.binds (ps := ["one", "other"]) fun _ _ _ _ _ _ us hl => match us, hl with | [_, _], _ => rfl⟩
  have F22 := fun_mk (st := st_common) l22 c22 k22
  have h_common : Callee l.prog w K mg base 5 "common" 1 m_common := ⟨_, _, _, fo_common F22 G h_check_numbers h_sum_for_two, PySem.W.mg_of X GN a22, F22.kp, F22.binds (ps := ["numbers"]) fun _ _ _ _ _ _ us hl => match us, hl with | [_], _ => rfl⟩
  have F23 := fun_mk (st := st__law_is_right) l23 c23 k23
  have h__law_is_right : Callee l.prog w K mg base 7 "_law_is_right" 1 m__law_is_right := ⟨_, _, _, fo__law_is_right F23 G h__law_any h__law_gcd h_power_of_table h__law_row h_product h_determinant h__law_raised h_by_fibonacci h__law_draw h_common, PySem.W.mg_of X GN a23, F23.kp, F23.binds (ps := ["hand"]) fun _ _ _ _ _ _ us hl => match us, hl with | [_], _ => rfl⟩
  exact fo_law (fun_mk (st := st_law) l24 c24 k24) G h__law_hand h_power_of_table h__law_is_right h_common
end
end K23

namespace K23
open PySem PySem.Spec PyProof.Rows L2 DK
theorem pure_eq {sv : SV} {N k fuel : Nat} {ds : List D} {r : Res} {h : Hd} (e : pureRun sv N k fuel ds = some r) : mPure sv N k fuel ds h = some (r, h) := by
  unfold mPure
  rw [e]
theorem is_int {a : Int} {h : Hd} : m_is_integer [.int a] h = some (.val (.bl true), h) := rfl
theorem is_within {a b c : Int} {h : Hd} (h1 : b ≤ a) (h2 : a ≤ c) : m_is_within [.int a, .int b, .int c] h = some (.val (.bl true), h) := by
  apply pure_eq
  have st : startD 3 3 [.int a, .int b, .int c] = [some (.int a), some (.int b), some (.int c)] := rfl
  have ok : okRs 0 [.int a, .int b, .int c] = true := rfl
  unfold pureRun
  rw [if_pos ok, st]
  simp [ev_is_within, sRet, eAnd, eCall, eVar, aCons, aNil, eChain, asB, truM, truD, DK.bindM, retM, is_int, resD, h1, h2, flD, resOf, D.okR]
theorem are_ints {x y : Int} {h : Hd} (hx : x.natAbs ≤ 1000000000000) (hy : y.natAbs ≤ 1000000000000) : m_are_integers [.tup [.int x, .int y], .int 1, .int 20, .int 1000000000000] h = some (.val (.bl true), h) := by
  apply pure_eq
  have st : startD 5 4 [.tup [.int x, .int y], .int 1, .int 20, .int 1000000000000] = [some (.tup [.int x, .int y]), some (.int 1), some (.int 20), some (.int 1000000000000), none] := rfl
  have ok : okRs 0 [.tup [.int x, .int y], .int 1, .int 20, .int 1000000000000] = true := rfl
  unfold pureRun
  rw [if_pos ok, st]
  have w1 : m_is_within [.int x, .int (-1000000000000), .int 1000000000000] [] = some (.val (.bl true), []) := is_within (by omega) (by omega)
  have w2 : m_is_within [.int y, .int (-1000000000000), .int 1000000000000] [] = some (.val (.bl true), []) := is_within (by omega) (by omega)
  have i1 : isiM "tuple" (.tup [.int x, .int y]) [] = some (.bl true, []) := rfl
  simp [ev_are_integers, sRet, sSeq, sIf, sNil, tOrr, tNt, tTru, tT, eIsi, eCall, eVar, eC, eNeg, eCl, eFrz, lLc, iSeq, srcM, gNm, tYs, compL, liveOk, dwipe, aCons, aNil, eChain, asB, truM, truD, DK.bindM, retM, resD, flD, resOf, D.okR, i1, w1, w2, bAll, withL, withB, blsOf, DK.listOf]
/-! sum_for_two -/
theorem ix3 {a b c : D} {h : Hd} : opIx (.tup [a, b, c]) (.int 0) h = some (a, h) := rfl
theorem ix2a {a b : D} {h : Hd} : opIx (.tup [a, b]) (.int 0) h = some (a, h) := rfl
theorem ix2b {a b : D} {h : Hd} : opIx (.tup [a, b]) (.int 1) h = some (b, h) := rfl
def sft_c : TV := (tT (eBin opGt (eBin opIx (eVar 3) (eC (.int 0))) (eC (.int 0))))
def sft_b : SV := (sSeq (sAsg (eBin opDiv (eBin opIx (eVar 2) (eC (.int 0))) (eBin opIx (eVar 3) (eC (.int 0)))) (gNm 4)) (sPar2 2 3 (aCons (eVar 3) (aCons (eCl bTuple (aCons (eFrz (lLc (iZp (aCons (eVar 2) (aCons (eVar 3) aNil))) (gTp 2 (gsCons (gNm 5) (gsCons (gNm 6) gsNil))) tYs (eBin opSub (eVar 5) (eBin opMulA (eVar 4) (eVar 6))) [5, 6])) aNil)) aNil))))
def sftS (x y : Int) (a0 a1 a2 b0 b1 b2 : Int) (o : Option D) : Sl := [some (.int x), some (.int y), some (.tup [.int a0, .int a1, .int a2]), some (.tup [.int b0, .int b1, .int b2]), o, none, none]
theorem sft_step {x y a0 a1 a2 b0 b1 b2 : Int} {o : Option D} {n : Nat} {h : Hd} (ha : 0 ≤ a0) (ha2 : a0 < 4611686018427387904) (hb : 0 < b0) (hb2 : b0 < 4611686018427387904) :
    sft_b n (sftS x y a0 a1 a2 b0 b1 b2 o) h = some (.nx (sftS x y b0 b1 b2 (a0 % b0) (a1 - a0 / b0 * b1) (a2 - a0 / b0 * b2) (some (.int (a0 / b0)))), h) := by
  have ho : 0 ≤ a0 / b0 := Int.ediv_nonneg ha (by omega)
  have ho2 : a0 / b0 ≤ a0 := Int.ediv_le_self _ ha
  have hn : (a0 / b0).natAbs < 9223372036854775808 := by omega
  have e1 : a0 - a0 / b0 * b0 = a0 % b0 := by
    have := Int.emod_add_mul_ediv a0 b0
    have h2 : a0 / b0 * b0 = b0 * (a0 / b0) := Int.mul_comm _ _
    omega
  simp [sft_b, sftS, sSeq, sAsg, sPar2, gNm, gTp, gsCons, gsNil, eBin, eVar, eC, eCl, eFrz, aCons, aNil, lLc, iZp, zipM, zipD, srcM, tYs, compL, liveOk, dwipe, tupOf, bTuple, withS, seqOf, DK.bindM, retM, failM, ix3, div_int hb (by omega), mulA_l hn, e1]
theorem sft_loop {x y a0 a1 a2 b0 b1 b2 : Int} {n m : Nat} {h : Hd} (eu : Euc m a0 b0) (ha : a0 < 4611686018427387904) (hb : b0 < 4611686018427387904) (hm : m < n) :
    ∃ s t u v w o, whileE (sft_c n) (sft_b n) n (sftS x y a0 a1 a2 b0 b1 b2 none) h = some (.nx (sftS x y (Int.gcd a0 b0) s t u v w o), h) := by
  have key := whileE_ind (h := h) (c := sft_c n) (b := sft_b n) (fun m ds => ∃ c0 c1 c2 d0 d1 d2 o, ds = sftS x y c0 c1 c2 d0 d1 d2 o ∧ Int.gcd c0 d0 = Int.gcd a0 b0 ∧ Euc m c0 d0 ∧ c0 < 4611686018427387904 ∧ d0 < 4611686018427387904) (fun ds => ∃ s t u v w o, ds = sftS x y (Int.gcd a0 b0) s t u v w o) (by
    intro m ds hi
    obtain ⟨c0, c1, c2, d0, d1, d2, o, rfl, g, eu, h1, h2⟩ := hi
    by_cases hd : 0 < d0
    · refine .inr ⟨by simp [sft_c, sftS, tT, asB, eBin, eVar, eC, DK.bindM, ix3, hd], ?_⟩
      obtain ⟨m', hm', eu'⟩ := eu.next hd
      exact ⟨m', _, hm', sft_step eu.1 h1 hd h2, d0, d1, d2, c0 % d0, _, _, _, rfl, by rw [gcd_step eu.1 hd, g], eu', h2, by have := Int.emod_lt_of_pos c0 hd; omega⟩
    · have hd0 : d0 = 0 := by have := eu.2.1; omega
      subst hd0
      refine .inl ⟨by simp [sft_c, sftS, tT, asB, eBin, eVar, eC, DK.bindM, ix3], c1, c2, 0, d1, d2, o, ?_⟩
      have hc : (c0.natAbs : Int) = c0 := Int.natAbs_of_nonneg eu.1
      rw [← g, Int.gcd_zero_right, hc]) n m (sftS x y a0 a1 a2 b0 b1 b2 none) ⟨a0, a1, a2, b0, b1, b2, none, rfl, rfl, eu, ha, hb⟩ hm
  obtain ⟨ds', e1, s, t, u, v, w, o, e2⟩ := key
  exact ⟨s, t, u, v, w, o, e1.trans (by rw [e2])⟩
theorem abs_if (z : Int) : (if z < 0 then -z else z) = (z.natAbs : Int) := by split <;> omega
theorem sft_run {x y : Int} {h : Hd} (hx : x.natAbs ≤ 1000000000000) (hy : y.natAbs ≤ 1000000000000) : ∃ s t, m_sum_for_two [.int x, .int y] h = some (.val (.tup [.int (Int.gcd x y), .int s, .int t]), h) := by
  obtain ⟨s, t, u, v, w, o, e2⟩ := sft_loop (x := x) (y := y) (a0 := x.natAbs) (b0 := y.natAbs) (a1 := if x ≥ 0 then 1 else -1) (a2 := 0) (b1 := 0) (b2 := if y ≥ 0 then 1 else -1) (n := 10000) (h := []) (Euc.start (by omega) (by omega) (by omega) (by omega)) (by omega) (by omega) (by decide)
  refine ⟨s, t, ?_⟩
  apply pure_eq
  have st : startD 7 2 [.int x, .int y] = [some (.int x), some (.int y), none, none, none, none, none] := rfl
  have ok : okRs 0 [.int x, .int y] = true := rfl
  unfold pureRun
  rw [if_pos ok, st]
  have e1 : (sPar2 2 3 (aCons (eTup (aCons (eCl bAbs (aCons (eVar 0) aNil)) (aCons (eIf (tT (eBin opGe (eVar 0) (eC (.int 0)))) (eC (.int 1)) (eNeg (eC (.int 1)))) (aCons (eC (.int 0)) aNil)))) (aCons (eTup (aCons (eCl bAbs (aCons (eVar 1) aNil)) (aCons (eC (.int 0)) (aCons (eIf (tT (eBin opGe (eVar 1) (eC (.int 0)))) (eC (.int 1)) (eNeg (eC (.int 1)))) aNil)))) aNil))) 10000 [some (.int x), some (.int y), none, none, none, none, none] [] =
      some (.nx (sftS x y x.natAbs (if x ≥ 0 then 1 else -1) 0 y.natAbs 0 (if y ≥ 0 then 1 else -1) none), []) := by
    by_cases c1 : 0 ≤ x <;> by_cases c2 : 0 ≤ y <;> simp [sftS, sPar2, eTup, lineOk, eCl, eVar, eC, eNeg, eIf, eBin, tT, asB, aCons, aNil, DK.bindM, retM, failM, abs_if, c1, c2]
  have e3 : ev_sum_for_two = sSeq (sPar2 2 3 (aCons (eTup (aCons (eCl bAbs (aCons (eVar 0) aNil)) (aCons (eIf (tT (eBin opGe (eVar 0) (eC (.int 0)))) (eC (.int 1)) (eNeg (eC (.int 1)))) (aCons (eC (.int 0)) aNil)))) (aCons (eTup (aCons (eCl bAbs (aCons (eVar 1) aNil)) (aCons (eC (.int 0)) (aCons (eIf (tT (eBin opGe (eVar 1) (eC (.int 0)))) (eC (.int 1)) (eNeg (eC (.int 1)))) aNil)))) aNil))) (sSeq (sWhile sft_c sft_b) (sRet (eVar 2))) := rfl
  rw [e3]
  unfold sSeq sWhile
  simp only [DK.bindM, e1, e2]
  rfl
theorem checked {x y : Int} {h : Hd} (hx : x.natAbs ≤ 1000000000000) (hy : y.natAbs ≤ 1000000000000) : m_check_numbers [.tup [.int x, .int y]] h = some (.val .non, h) := by
  apply pure_eq
  have st : startD 1 1 [.tup [.int x, .int y]] = [some (.tup [.int x, .int y])] := rfl
  have ok : okRs 0 [.tup [.int x, .int y]] = true := rfl
  unfold pureRun
  rw [if_pos ok, st]
  simp [ev_check_numbers, sIf, sNil, tNt, tTru, eCall, eVar, eC, aCons, aNil, truM, truD, DK.bindM, retM, resD, flD, resOf, D.okR, are_ints hx hy]
theorem common_run {x y : Int} {h : Hd} (hx : x.natAbs ≤ 1000000000000) (hy : y.natAbs ≤ 1000000000000) : ∃ d, m_common [.tup [.int x, .int y]] h = some (.val (.tup [.int (Int.gcd x y), .tup d]), h) := by
  obtain ⟨s, t, e⟩ := sft_run (x := (x.natAbs : Int)) (y := y) (h := []) (by omega) hy
  have eg : Int.gcd (x.natAbs : Int) y = Int.gcd x y := rfl
  rw [eg] at e
  refine ⟨[.int (s * (if x ≥ 0 then 1 else -1)), .int t], ?_⟩
  apply pure_eq
  have st : startD 7 1 [.tup [.int x, .int y]] = [some (.tup [.int x, .int y]), none, none, none, none, none, none] := rfl
  have ok : okRs 0 [.tup [.int x, .int y]] = true := rfl
  unfold pureRun
  rw [if_pos ok, st]
  have sl : slD (.tup [.int x, .int y]) (some 1) none [] = some (.tup [.int y], []) := rfl
  by_cases c1 : 0 ≤ x
  · simp [ev_common, sSeq, sExpr, sPar2, sFor, sAsg, sRet, forL, liveOk, iSeq, srcM, eSl, oSome, oNone, eTup, eIf, tT, asB, lineOk, eCall, eCl, eFrz, lLst, lLc, lBin, loCat, mutOf, compL, tYs, dwipe, gTp, gsCons, gsNil, gNm, tupOf, eBin, eVar, eC, eNeg, aCons, aNil, DK.bindM, retM, failM, resD, flD, resOf, D.okR, okRs, checked hx hy, ix2a, abs_if, sl, e, c1, mulA_r, bTuple, withS, seqOf]
  · simp [ev_common, sSeq, sExpr, sPar2, sFor, sAsg, sRet, forL, liveOk, iSeq, srcM, eSl, oSome, oNone, eTup, eIf, tT, asB, lineOk, eCall, eCl, eFrz, lLst, lLc, lBin, loCat, mutOf, compL, tYs, dwipe, gTp, gsCons, gsNil, gNm, tupOf, eBin, eVar, eC, eNeg, aCons, aNil, DK.bindM, retM, failM, resD, flD, resOf, D.okR, okRs, checked hx hy, ix2a, abs_if, sl, e, c1, mulA_r, bTuple, withS, seqOf]
end K23

namespace K23
open PySem PySem.Spec PyProof.Rows L2 DK
def H1 (h : Hd) : Prop := ∃ cells i j k l, h = [.lst (handL cells i j k l)] ∧ 0 ≤ i
theorem H1.okH {h : Hd} (H : H1 h) : okH h := by
  obtain ⟨cells, i, j, k, l, rfl, _⟩ := H
  unfold DK.okH
  simp [okCell_hand]
theorem draw1 {h : Hd} {many : Int} (H : H1 h) (hm : 0 < many) (hm2 : many.natAbs < 9223372036854775808) : ∃ r h', m__law_draw [.ref 0, .int many] h = some (.val (.int r), h') ∧ H1 h' ∧ 0 ≤ r ∧ r < many := by
  have ho := H.okH
  obtain ⟨cells, i, j, k, l, rfl, hi⟩ := H
  obtain ⟨r, i', j', k', l', e, r0, r1, hi'⟩ := draw_ok (h := [.lst (handL cells i j k l)]) (i0 := 0) ⟨by simp, rfl⟩ ho hi hm hm2
  exact ⟨r, _, e, ⟨cells, i', j', k', l', rfl, hi'⟩, r0, r1⟩
theorem mRun_of {sv : SV} {N k fuel : Nat} {ds : List D} {h h' : Hd} {d : D} (e : sv fuel (startD N k ds) h = some (.rt d, h')) (H : H1 h) (H' : H1 h') (hd : d.okR 1 = true) : mRun sv N k fuel ds h = some (.val d, h') := by
  have ho := H'.okH
  obtain ⟨_, _, _, _, _, rfl, _⟩ := H
  obtain ⟨cells, i, j, k, l, rfl, _⟩ := H'
  unfold mRun
  rw [e]
  unfold DK.okH at ho
  simp only [List.length_cons, List.length_nil] at ho
  simp [flD, ho, resOf, hd, okCell_hand]
theorem any1 {h : Hd} {xs : List D} (H : H1 h) (hx : 0 < xs.length) (hx2 : xs.length < 1000) (hd : ∀ d ∈ xs, d.okR 1 = true) : ∃ d h', m__law_any [.ref 0, .lst xs] h = some (.val d, h') ∧ H1 h' ∧ d ∈ xs := by
  obtain ⟨r, h', e, H', r0, r1⟩ := draw1 (many := (xs.length : Int)) H (by omega) (by omega)
  have hlt : r.toNat < xs.length := by omega
  have ha : atI xs r = some (xs[r.toNat]) := by
    unfold atI ixN
    rw [if_pos r0, if_pos r1]
    exact List.getElem?_eq_getElem hlt
  refine ⟨xs[r.toNat], h', mRun_of (h' := h') ?_ H H' (hd _ (List.getElem_mem hlt)), H', List.getElem_mem hlt⟩
  have st : startD 2 2 [.ref 0, .lst xs] = [some (.ref 0), some (.lst xs)] := rfl
  rw [st]
  simp [ev__law_any, sRet, eBin, eVar, eCall, eCl, aCons, aNil, DK.bindM, retM, e, resD, ixLst ha]
/-! the row, the tables -/
def rowP (p q : Int) : Nat → Int × Int
  | 0 => (0, 1)
  | n + 1 => ((rowP p q n).2, p * (rowP p q n).2 + q * (rowP p q n).1)
def F (p q : Int) (k : Nat) : Int := (rowP p q k).1
def rowL (p q : Int) (n : Nat) : List D := (List.range n).map fun k => .int (F p q k)
def ruleL : List (Int × Int) := [(1, 1), (2, 1), (3, 1), (1, 2), (3, -2), (1, -1), (2, 3), (3, 2), (1, 3), (4, -1)]
def mostOf (r : Int × Int) : Nat := if r = (1, 1) then 58 else 18
def ruleD (r : Int × Int) : D := .tup [.int r.1, .int r.2]
def tabD (r : Int × Int) : D := .tup [ruleD r, .tup [.int 1, .int 0]]
def tbl (a b c d : Int) : D := .tup [.tup [.int a, .int b], .tup [.int c, .int d]]
/-- the table of the place k; of place 0 the one -/
def T (r : Int × Int) (k : Nat) : D := tbl (F r.1 r.2 (k + 1)) (r.2 * F r.1 r.2 k) (F r.1 r.2 k) (if k = 0 then 1 else r.2 * F r.1 r.2 (k - 1))
def isV (d : D) : Option Res → Bool
  | some (.val e) => D.eqb e d
  | _ => false
def isF (d : List D) : Option Res → Bool
  | some (.fresh e) => eqbs e d
  | _ => false
theorem isV_ok {d : D} {x : Option Res} (e : isV d x = true) : x = some (.val d) := by
  unfold isV at e
  split at e
  · rw [eqb_eq _ _ e]
  · cases e
theorem isF_ok {d : List D} {x : Option Res} (e : isF d x = true) : x = some (.fresh d) := by
  unfold isF at e
  split at e
  · rw [eqbs_eq _ _ e]
  · cases e
set_option maxHeartbeats 0
theorem row_chk : (ruleL.all fun r => isF (rowL r.1 r.2 (mostOf r + 2)) (pureRun ev__law_row 3 2 10000 [ruleD r, .int (mostOf r + 2)])) = true := by decide +kernel
theorem big_chk : (ruleL.all fun r => (List.range (mostOf r + 1)).all fun k => decide ((F r.1 r.2 k).natAbs ≤ 1000000000000)) = true := by decide +kernel
theorem gcd_chk : (ruleL.all fun r => (List.range (mostOf r)).all fun a => (List.range (mostOf r)).all fun b => decide ((Int.gcd (F r.1 r.2 (a + 1)) (F r.1 r.2 (b + 1)) : Int) = (F r.1 r.2 (Nat.gcd (a + 1) (b + 1))).natAbs)) = true := by decide +kernel
theorem nei_chk : (ruleL.all fun r => (List.range (mostOf r)).all fun a => decide (Int.gcd (F r.1 r.2 (a + 1)) (if (F r.1 r.2 (a + 2)).natAbs < 1000000000000 then F r.1 r.2 (a + 2) else F r.1 r.2 a) = 1)) = true := by decide +kernel
theorem mul_chk : (ruleL.all fun r => (List.range (mostOf r)).all fun a => (List.range (mostOf r / (a + 1))).all fun b => decide (F r.1 r.2 (a + 1) = 0) || decide (F r.1 r.2 ((a + 1) * (b + 1)) % ((F r.1 r.2 (a + 1)).natAbs : Int) = 0)) = true := by decide +kernel
theorem id_chk : (ruleL.all fun r => (List.range 9).all fun a => (List.range 9).all fun b => decide (F r.1 r.2 (a + 1 + (b + 1)) = F r.1 r.2 (a + 1) * F r.1 r.2 (b + 1 + 1) + r.2 * F r.1 r.2 (a + 1 - 1) * F r.1 r.2 (b + 1))) = true := by decide +kernel
end K23

namespace K23
open PySem PySem.Spec PyProof.Rows L2 DK
set_option maxHeartbeats 0
theorem pow_chk : (ruleL.all fun r => (List.range (mostOf r + 1)).all fun k => isV (T r k) (pureRun ev_power_of_table 4 2 10000 [tabD r, .int k])) = true := by decide +kernel
end K23

namespace K23
open PySem PySem.Spec PyProof.Rows L2 DK
set_option maxHeartbeats 0
theorem det_chk : (ruleL.all fun r => (List.range 9).all fun a => isV (.int ((0 - r.2) ^ (a + 1))) (pureRun ev_determinant 1 1 10000 [T r (a + 1)]) && isV (.int ((0 - r.2) ^ (a + 1))) (pureRun ev__law_raised 4 2 10000 [.int (0 - r.2), .int ((a + 1 : Nat) : Int)])) = true := by decide +kernel
def prodOk (r : Int × Int) : Bool := (List.range 9).all fun a => (List.range 9).all fun b => isV (T r (a + 1 + (b + 1))) (pureRun ev_product 2 2 10000 [T r (a + 1), T r (b + 1)])
theorem prod0 : prodOk (1, 1) = true := by decide +kernel
theorem prod1 : prodOk (2, 1) = true := by decide +kernel
theorem prod2 : prodOk (3, 1) = true := by decide +kernel
theorem prod3 : prodOk (1, 2) = true := by decide +kernel
theorem prod4 : prodOk (3, -2) = true := by decide +kernel
theorem prod5 : prodOk (1, -1) = true := by decide +kernel
theorem prod6 : prodOk (2, 3) = true := by decide +kernel
theorem prod7 : prodOk (3, 2) = true := by decide +kernel
theorem prod8 : prodOk (1, 3) = true := by decide +kernel
theorem prod9 : prodOk (4, -1) = true := by decide +kernel
theorem prod_chk {r : Int × Int} (hr : r ∈ ruleL) : prodOk r = true := by
  simp only [ruleL, List.mem_cons, List.not_mem_nil, or_false] at hr
  rcases hr with rfl | rfl | rfl | rfl | rfl | rfl | rfl | rfl | rfl | rfl
  · exact prod0
  · exact prod1
  · exact prod2
  · exact prod3
  · exact prod4
  · exact prod5
  · exact prod6
  · exact prod7
  · exact prod8
  · exact prod9
end K23

namespace K23
open PySem PySem.Spec PyProof.Rows L2 DK
set_option maxHeartbeats 0
def lenIs (n : Nat) : Option Res → Bool
  | some (.val (.tup xs)) => decide (xs.length = n)
  | _ => false
theorem fib_chk : ((List.range 55).all fun a => lenIs 1 (pureRun ev_by_fibonacci 3 1 10000 [.int (F 1 1 (a + 4))]) && lenIs 2 (pureRun ev_by_fibonacci 3 1 10000 [.int (2 * F 1 1 (a + 4))])) = true := by decide +kernel
end K23

namespace K23
open PySem PySem.Spec PyProof.Rows L2 DK
theorem seq_nx {a b : SV} {n : Nat} {ds ds' : Sl} {h h' : Hd} (e : a n ds h = some (.nx ds', h')) : sSeq a b n ds h = b n ds' h' := by
  unfold sSeq DK.bindM
  rw [e]
theorem seq_rt {a b : SV} {n : Nat} {ds : Sl} {h h' : Hd} {d : D} (e : a n ds h = some (.rt d, h')) : sSeq a b n ds h = some (.rt d, h') := by
  unfold sSeq DK.bindM
  rw [e]
  rfl
theorem gcd1 {x y : Int} {h : Hd} (hx : x.natAbs < 2 ^ 100) (hy : y.natAbs < 2 ^ 100) : m__law_gcd [.int x, .int y] h = some (.val (.int (Int.gcd x y)), h) := pure_eq (gcd_run hx hy)
theorem ne_self4 {a b c d : Int} {h : Hd} : opNe (.tup [.tup [.int a, .int b], .tup [.int c, .int d]]) (.tup [.tup [.int a, .int b], .tup [.int c, .int d]]) h = some (.bl false, h) := by
  have e1 : eqD (.tup [.tup [.int a, .int b], .tup [.int c, .int d]]) (.tup [.tup [.int a, .int b], .tup [.int c, .int d]]) = true := by
    simp [eqD, toPy, toPys, PyData.eqv, PyData.eqvAll]
  unfold opNe
  rw [if_pos (by rfl)]
  show some (D.bl (!(eqD (.tup [.tup [.int a, .int b], .tup [.int c, .int d]]) (.tup [.tup [.int a, .int b], .tup [.int c, .int d]]))), h) = _
  rw [e1]
  rfl
theorem all_of {α : Type} {l : List α} {f : α → Bool} (h : l.all f = true) {a : α} (ha : a ∈ l) : f a = true := List.all_eq_true.mp h a ha
section
variable {r : Int × Int} {h : Hd}
theorem eqRule (hr : r ∈ ruleL) : opEq (ruleD r) (.tup [.int 1, .int 1]) h = some (.bl (decide (r = (1, 1))), h) := by
  simp only [ruleL, List.mem_cons, List.not_mem_nil, or_false] at hr
  rcases hr with rfl | rfl | rfl | rfl | rfl | rfl | rfl | rfl | rfl | rfl <;> rfl
theorem neRule (hr : r ∈ ruleL) : opNe (ruleD r) (.tup [.int 1, .int 1]) h = some (.bl (!decide (r = (1, 1))), h) := by
  simp only [ruleL, List.mem_cons, List.not_mem_nil, or_false] at hr
  rcases hr with rfl | rfl | rfl | rfl | rfl | rfl | rfl | rfl | rfl | rfl <;> rfl
theorem rule_small (hr : r ∈ ruleL) : r.1.natAbs ≤ 4 ∧ r.2.natAbs ≤ 4 := by
  simp only [ruleL, List.mem_cons, List.not_mem_nil, or_false] at hr
  rcases hr with rfl | rfl | rfl | rfl | rfl | rfl | rfl | rfl | rfl | rfl <;> decide
theorem most_ge (r : Int × Int) : 18 ≤ mostOf r ∧ mostOf r ≤ 58 := by
  unfold mostOf
  split <;> omega
def R (r : Int × Int) : List D := rowL r.1 r.2 (mostOf r + 2)
theorem rowAt {k : Nat} (hk : k < mostOf r + 2) {x : Int} (hx : x = k) : opIx (.lst (R r)) (.int x) h = some (.int (F r.1 r.2 k), h) := by
  subst hx
  apply ixLst
  unfold atI ixN R rowL
  rw [List.length_map, List.length_range, if_pos (Int.natCast_nonneg k), if_pos (by omega), Int.toNat_natCast]
  show (List.map _ _)[k]? = _
  rw [List.getElem?_map, List.getElem?_range hk]
  rfl
theorem row1 (hr : r ∈ ruleL) : m__law_row [ruleD r, .int (mostOf r + 2)] h = some (.fresh (R r), h) := pure_eq (isF_ok (all_of row_chk hr))
theorem big1 (hr : r ∈ ruleL) {k : Nat} (hk : k ≤ mostOf r) : (F r.1 r.2 k).natAbs ≤ 1000000000000 := of_decide_eq_true (all_of (all_of big_chk hr) (List.mem_range.mpr (by omega)))
theorem bmax2 {x y : Int} : ∃ m, bMax [.lst [.int x, .int y]] h = some (.int m, h) ∧ (m = x ∨ m = y) := by
  by_cases c : y > x
  · exact ⟨y, by simp [bMax, withL, withI, DK.listOf, intsOf, maxL, retM, c], .inr rfl⟩
  · exact ⟨x, by simp [bMax, withL, withI, DK.listOf, intsOf, maxL, retM, c], .inl rfl⟩
end
end K23

namespace K23
open PySem PySem.Spec PyProof.Rows L2 DK
section
variable {r : Int × Int} {h : Hd}
theorem powT (hr : r ∈ ruleL) {k : Nat} (hk : k ≤ mostOf r) {x : Int} (hx : x = k) : m_power_of_table [tabD r, .int x] h = some (.val (T r k), h) := by
  subst hx
  exact pure_eq (isV_ok (all_of (all_of pow_chk hr) (List.mem_range.mpr (by omega))))
theorem T_pos {k : Nat} (hk : 0 < k) : T r k = .tup [.tup [.int (F r.1 r.2 (k + 1)), .int (r.2 * F r.1 r.2 k)], .tup [.int (F r.1 r.2 k), .int (r.2 * F r.1 r.2 (k - 1))]] := by
  unfold T tbl
  rw [if_neg (by omega)]
theorem mul_r2 (hr : r ∈ ruleL) (x : Int) : opMulA (.int r.2) (.int x) h = some (.int (r.2 * x), h) := mulA_l (by have := rule_small hr; omega)
theorem pow1012 : opPow (.int 10) (.int 12) h = some (.int 1000000000000, h) := rfl
theorem absb (x : Int) : bAbs [.int x] h = some (.int x.natAbs, h) := by rw [abs_int, abs_if]
def xs11 : List D := [.tup [.int 1, .int 1], .tup [.int 1, .int 1], .tup [.int 2, .int 1], .tup [.int 3, .int 1], .tup [.int 1, .int 2], .tup [.int 3, .int (-2)], .tup [.int 1, .int (-1)], .tup [.int 2, .int 3], .tup [.int 3, .int 2], .tup [.int 1, .int 3], .tup [.int 4, .int (-1)]]
theorem xs11_rule {d : D} (hd : d ∈ xs11) : ∃ r ∈ ruleL, d = ruleD r := by
  simp only [xs11, List.mem_cons, List.not_mem_nil, or_false] at hd
  rcases hd with rfl | rfl | rfl | rfl | rfl | rfl | rfl | rfl | rfl | rfl | rfl
  · exact ⟨(1, 1), by simp [ruleL], rfl⟩
  · exact ⟨(1, 1), by simp [ruleL], rfl⟩
  · exact ⟨(2, 1), by simp [ruleL], rfl⟩
  · exact ⟨(3, 1), by simp [ruleL], rfl⟩
  · exact ⟨(1, 2), by simp [ruleL], rfl⟩
  · exact ⟨(3, -2), by simp [ruleL], rfl⟩
  · exact ⟨(1, -1), by simp [ruleL], rfl⟩
  · exact ⟨(2, 3), by simp [ruleL], rfl⟩
  · exact ⟨(3, 2), by simp [ruleL], rfl⟩
  · exact ⟨(1, 3), by simp [ruleL], rfl⟩
  · exact ⟨(4, -1), by simp [ruleL], rfl⟩
end
theorem det_both {r : Int × Int} (hr : r ∈ ruleL) {k : Nat} (hk : k < 9) : ∃ x : Int, pureRun ev_determinant 1 1 10000 [T r (k + 1)] = some (.val (.int x)) ∧ pureRun ev__law_raised 4 2 10000 [.int (0 - r.2), .int ((k + 1 : Nat) : Int)] = some (.val (.int x)) := by
  have dc := all_of (all_of det_chk hr) (List.mem_range.mpr hk)
  rw [Bool.and_eq_true] at dc
  exact ⟨_, isV_ok dc.1, isV_ok dc.2⟩
theorem dt1 {T1 : D} {x : Int} {ds : Sl} {h : Hd} (hs : ds[13]? = some (some T1)) (d1 : m_determinant [T1] h = some (.val (.int x), h)) : eCall m_determinant 1 (aCons (eVar 13) aNil) 10000 ds h = some (.int x, h) := by
  simp only [eCall, aCons, aNil, eVar, hs, DK.bindM, retM, List.length_cons, List.length_nil, if_true, d1, resD]
theorem dt2 {p q x f : Int} {ds : Sl} {h : Hd} (hs : ds[1]? = some (some (.tup [.int p, .int q]))) (hs2 : ds[11]? = some (some (.int f))) (d2 : m__law_raised [.int (0 - q), .int f] h = some (.val (.int x), h)) :
    eCall m__law_raised 2 (aCons (eBin opSub (eC (.int 0)) (eBin opIx (eVar 1) (eC (.int 1)))) (aCons (eVar 11) aNil)) 10000 ds h = some (.int x, h) := by
  simp only [eCall, aCons, aNil, eVar, eBin, eC, hs, hs2, DK.bindM, retM, List.length_cons, List.length_nil, if_true, ix2b, DK.sub_int, d2, resD]
theorem nechk {a b : EV} {n : Nat} {ds : Sl} {h : Hd} {x : Int} {s : SV} (e1 : a n ds h = some (.int x, h)) (e2 : b n ds h = some (.int x, h)) : sIf (tT (eBin opNe a b)) s sNil n ds h = some (.nx ds, h) := by
  have e3 : eBin opNe a b n ds h = some (.bl false, h) := by
    unfold eBin
    rw [bindM_eq e1, bindM_eq e2, DK.ne_int]
    simp
  have e4 : tT (eBin opNe a b) n ds h = some (false, h) := by
    unfold tT asB
    rw [e3]
  unfold sIf
  rw [bindM_eq e4]
  rfl
theorem right1 {h : Hd} (H : H1 h) : ∃ h', ev__law_is_right 10000 (startD 15 1 [.ref 0]) h = some (.rt (.bl true), h') ∧ H1 h' := by
  have st : startD 15 1 [.ref 0] = [some (.ref 0), none, none, none, none, none, none, none, none, none, none, none, none, none, none] := rfl
  rw [st]
  obtain ⟨d, h1, e1, H2, hd⟩ := any1 (xs := xs11) H (by decide) (by decide) (by
    intro d hd
    obtain ⟨r, _, rfl⟩ := xs11_rule hd
    rfl)
  obtain ⟨r, hr, rfl⟩ := xs11_rule hd
  obtain ⟨m1, m2⟩ := most_ge r
  obtain ⟨q1, q2⟩ := rule_small hr
  unfold xs11 at e1
  unfold ev__law_is_right
  -- rule
  rw [seq_nx (h' := h1) (ds' := [some (.ref 0), some (ruleD r), none, none, none, none, none, none, none, none, none, none, none, none, none]) (by
    simp [sAsg, eFrz, lLst, eTup, lineOk, eCall, eVar, eC, eNeg, aCons, aNil, gNm, DK.bindM, retM, resD, e1])]
  -- most
  rw [seq_nx (h' := h1) (ds' := [some (.ref 0), some (ruleD r), some (.int (mostOf r)), none, none, none, none, none, none, none, none, none, none, none, none]) (by
    by_cases c : r = (1, 1)
    · have cm : mostOf r = 58 := by unfold mostOf; rw [if_pos c]
      simp [sAsg, eIf, tT, asB, eBin, eTup, lineOk, eVar, eC, aCons, aNil, gNm, DK.bindM, retM, eqRule hr, cm, decide_eq_true c]
    · have cm : mostOf r = 18 := by unfold mostOf; rw [if_neg c]
      simp [sAsg, eIf, tT, asB, eBin, eTup, lineOk, eVar, eC, aCons, aNil, gNm, DK.bindM, retM, eqRule hr, cm, decide_eq_false c])]
  -- row, table
  rw [seq_nx (h' := h1) (ds' := [some (.ref 0), some (ruleD r), some (.int (mostOf r)), some (.lst (R r)), some (tabD r), none, none, none, none, none, none, none, none, none, none]) (by
    simp [sPar2, eTup, lineOk, eCall, eBin, eVar, eC, aCons, aNil, DK.bindM, retM, resD, row1 hr, tabD])]
  -- one, other
  obtain ⟨ra, h2, e2, H3, ra0, ra1⟩ := draw1 (many := (mostOf r : Int)) H2 (by omega) (by omega)
  obtain ⟨rb, h3, e3, H4, rb0, rb1⟩ := draw1 (many := (mostOf r : Int)) H3 (by omega) (by omega)
  obtain ⟨a, rfl⟩ := Int.eq_ofNat_of_zero_le ra0
  obtain ⟨b, rfl⟩ := Int.eq_ofNat_of_zero_le rb0
  have ha : a < mostOf r := by omega
  have hb : b < mostOf r := by omega
  have ca : (1 : Int) + (a : Int) = ((a + 1 : Nat) : Int) := by omega
  have cb : (1 : Int) + (b : Int) = ((b + 1 : Nat) : Int) := by omega
  rw [seq_nx (h' := h3) (ds' := [some (.ref 0), some (ruleD r), some (.int (mostOf r)), some (.lst (R r)), some (tabD r), some (.int ((a + 1 : Nat) : Int)), some (.int ((b + 1 : Nat) : Int)), none, none, none, none, none, none, none, none]) (by
    rw [← ca, ← cb]
    simp [sPar2, eCall, eBin, eVar, eC, aCons, aNil, DK.bindM, retM, resD, e2, e3])]
  obtain ⟨A, hA⟩ : ∃ A, A = a + 1 := ⟨_, rfl⟩
  obtain ⟨B, hB⟩ : ∃ B, B = b + 1 := ⟨_, rfl⟩
  rw [← hA, ← hB]
  have hA0 : 0 < A := by omega
  have hB0 : 0 < B := by omega
  have hAm : A ≤ mostOf r := by omega
  have hBm : B ≤ mostOf r := by omega
  -- by
  have hg : Nat.gcd A B ≤ mostOf r := Nat.le_trans (Nat.le_of_dvd hA0 (Nat.gcd_dvd_left A B)) hAm
  have hgi : Int.gcd (A : Int) (B : Int) = Nat.gcd A B := rfl
  rw [seq_nx (h' := h3) (ds' := [some (.ref 0), some (ruleD r), some (.int (mostOf r)), some (.lst (R r)), some (tabD r), some (.int A), some (.int B), some (.int (Nat.gcd A B)), none, none, none, none, none, none, none]) (by
    simp [sAsg, eCall, eVar, aCons, aNil, gNm, DK.bindM, retM, resD, gcd1 (h := h3) (x := (A : Int)) (y := (B : Int)) (by omega) (by omega)])]
  -- told
  rw [seq_nx (h' := h3) (ds' := [some (.ref 0), some (ruleD r), some (.int (mostOf r)), some (.lst (R r)), some (tabD r), some (.int A), some (.int B), some (.int (Nat.gcd A B)), some (T r A), none, none, none, none, none, none]) (by
    simp [sAsg, eCall, eVar, aCons, aNil, gNm, DK.bindM, retM, resD, powT hr hAm rfl])]
  have rA : opIx (.lst (R r)) (.int (A : Int)) h3 = some (.int (F r.1 r.2 A), h3) := rowAt (by omega) rfl
  have rB : opIx (.lst (R r)) (.int (B : Int)) h3 = some (.int (F r.1 r.2 B), h3) := rowAt (by omega) rfl
  have rA1 : opIx (.lst (R r)) (.int ((A : Int) + 1)) h3 = some (.int (F r.1 r.2 (A + 1)), h3) := rowAt (by omega) (by omega)
  have rAm : opIx (.lst (R r)) (.int ((A : Int) - 1)) h3 = some (.int (F r.1 r.2 (A - 1)), h3) := rowAt (by omega) (by omega)
  have rG : opIx (.lst (R r)) (.int ((Nat.gcd A B : Nat) : Int)) h3 = some (.int (F r.1 r.2 (Nat.gcd A B)), h3) := rowAt (by omega) rfl
  -- if told != ..
  rw [seq_nx (h' := h3) (ds' := [some (.ref 0), some (ruleD r), some (.int (mostOf r)), some (.lst (R r)), some (tabD r), some (.int A), some (.int B), some (.int (Nat.gcd A B)), some (T r A), none, none, none, none, none, none]) (by
    rw [T_pos hA0]
    simp [sIf, sNil, tT, asB, eBin, eTup, lineOk, eVar, eC, aCons, aNil, DK.bindM, retM, rA, rA1, rAm, ruleD, ix2b, mul_r2 hr, ne_self4])]
  -- max
  have bA := big1 hr hAm
  have bB := big1 hr hBm
  obtain ⟨m, em, hm⟩ := bmax2 (h := h3) (x := ((F r.1 r.2 A).natAbs : Int)) (y := ((F r.1 r.2 B).natAbs : Int))
  have hm2 : ¬ m > 1000000000000 := by omega
  rw [seq_nx (h' := h3) (ds' := [some (.ref 0), some (ruleD r), some (.int (mostOf r)), some (.lst (R r)), some (tabD r), some (.int A), some (.int B), some (.int (Nat.gcd A B)), some (T r A), none, none, none, none, none, none]) (by
    simp [sIf, sNil, tT, asB, eBin, eTup, lineOk, eCl, eFrz, lLc, iSeq, srcM, gNm, tYs, compL, liveOk, dwipe, eVar, eC, aCons, aNil, DK.bindM, retM, rA, rB, abs_if, em, pow1012, hm2])]
  -- common
  obtain ⟨d1, ec⟩ := common_run (h := h3) bA bB
  have gc : (Int.gcd (F r.1 r.2 A) (F r.1 r.2 B) : Int) = (F r.1 r.2 (Nat.gcd A B)).natAbs := by
    subst hA hB
    exact of_decide_eq_true (all_of (all_of (all_of gcd_chk hr) (List.mem_range.mpr ha)) (List.mem_range.mpr hb))
  rw [gc] at ec
  rw [seq_nx (h' := h3) (ds' := [some (.ref 0), some (ruleD r), some (.int (mostOf r)), some (.lst (R r)), some (tabD r), some (.int A), some (.int B), some (.int (Nat.gcd A B)), some (T r A), none, none, none, none, none, none]) (by
    simp [sIf, sNil, tT, asB, eBin, eTup, lineOk, eCall, eCl, eVar, eC, aCons, aNil, DK.bindM, retM, resD, rA, rB, rG, abs_if, ec, ix2a])]
  -- neighbours
  have nc : Int.gcd (F r.1 r.2 A) (if (F r.1 r.2 (A + 1)).natAbs < 1000000000000 then F r.1 r.2 (A + 1) else F r.1 r.2 (A - 1)) = 1 := by
    subst hA
    exact of_decide_eq_true (all_of (all_of nei_chk hr) (List.mem_range.mpr ha))
  have bAm : (F r.1 r.2 (A - 1)).natAbs ≤ 1000000000000 := big1 hr (by omega)
  rw [seq_nx (h' := h3) (ds' := [some (.ref 0), some (ruleD r), some (.int (mostOf r)), some (.lst (R r)), some (tabD r), some (.int A), some (.int B), some (.int (Nat.gcd A B)), some (T r A), none, none, none, none, none, none]) (by
    by_cases c0 : F r.1 r.2 A = 0
    · simp [sIf, sNil, tAn, tT, asB, eBin, eVar, eC, DK.bindM, retM, rA, c0]
    · by_cases c1 : (F r.1 r.2 (A + 1)).natAbs < 1000000000000
      · rw [if_pos c1] at nc
        obtain ⟨d2, e4⟩ := common_run (h := h3) bA (Nat.le_of_lt c1)
        rw [nc] at e4
        have c2 : ((F r.1 r.2 (A + 1)).natAbs : Int) < 1000000000000 := by omega
        simp [sIf, sNil, tAn, tT, asB, eBin, eIf, eTup, lineOk, eCall, eCl, eVar, eC, aCons, aNil, DK.bindM, retM, resD, rA, rA1, abs_if, pow1012, c0, c2, e4, ix2a]
      · rw [if_neg c1] at nc
        obtain ⟨d2, e4⟩ := common_run (h := h3) bA bAm
        rw [nc] at e4
        have c2 : ¬ ((F r.1 r.2 (A + 1)).natAbs : Int) < 1000000000000 := by omega
        simp [sIf, sNil, tAn, tT, asB, eBin, eIf, eTup, lineOk, eCall, eCl, eVar, eC, aCons, aNil, DK.bindM, retM, resD, rA, rA1, rAm, abs_if, pow1012, c0, c2, e4, ix2a])]
  -- a multiple's place
  have hdiv : (mostOf r : Int) / (A : Int) = ((mostOf r / A : Nat) : Int) := rfl
  have hdp : 0 < mostOf r / A := Nat.div_pos hAm hA0
  have hdl : mostOf r / A ≤ mostOf r := Nat.div_le_self _ _
  obtain ⟨rc, h4, e5, H5, rc0, rc1⟩ := draw1 (many := ((mostOf r / A : Nat) : Int)) H4 (by omega) (by omega)
  obtain ⟨c, rfl⟩ := Int.eq_ofNat_of_zero_le rc0
  have hc : c < mostOf r / A := by omega
  have hAc : A * (c + 1) ≤ mostOf r := Nat.le_trans (Nat.mul_le_mul_left A (by omega : c + 1 ≤ mostOf r / A)) (Nat.mul_div_le _ _)
  have ctv : (A : Int) * (1 + (c : Int)) = ((A * (c + 1) : Nat) : Int) := by
    rw [Int.natCast_mul]
    congr 1
    omega
  rw [seq_nx (h' := h4) (ds' := [some (.ref 0), some (ruleD r), some (.int (mostOf r)), some (.lst (R r)), some (tabD r), some (.int A), some (.int B), some (.int (Nat.gcd A B)), some (T r A), none, some (.int ((A * (c + 1) : Nat) : Int)), none, none, none, none]) (by
    rw [← ctv]
    have dv : opDiv (.int (mostOf r : Int)) (.int (A : Int)) h3 = some (.int ((mostOf r : Int) / (A : Int)), h3) := div_int (by omega) (by omega)
    have e6 : m__law_draw [.ref 0, .int ((mostOf r : Int) / (A : Int))] h3 = some (.val (.int (c : Int)), h4) := e5
    simp [sAsg, gNm, eBin, eCall, eVar, eC, aCons, aNil, DK.bindM, retM, resD, dv, e6, mulA_l (h := h4) (i := (A : Int)) (by omega)])]
  have rA : opIx (.lst (R r)) (.int (A : Int)) h4 = some (.int (F r.1 r.2 A), h4) := rowAt (by omega) rfl
  have rT : opIx (.lst (R r)) (.int ((A * (c + 1) : Nat) : Int)) h4 = some (.int (F r.1 r.2 (A * (c + 1))), h4) := rowAt (by omega) rfl
  rw [seq_nx (h' := h4) (ds' := [some (.ref 0), some (ruleD r), some (.int (mostOf r)), some (.lst (R r)), some (tabD r), some (.int A), some (.int B), some (.int (Nat.gcd A B)), some (T r A), none, some (.int ((A * (c + 1) : Nat) : Int)), none, none, none, none]) (by
    have mc := all_of (all_of (all_of mul_chk hr) (List.mem_range.mpr ha)) (List.mem_range.mpr (show c < mostOf r / (a + 1) by rw [← hA]; exact hc))
    simp only [Bool.or_eq_true, decide_eq_true_eq] at mc
    rw [← hA] at mc
    by_cases c0 : F r.1 r.2 A = 0
    · simp [sIf, sNil, tAn, tT, asB, eBin, eVar, eC, DK.bindM, retM, rA, c0]
    · have mc2 := mc.resolve_left c0
      have pos : 0 < ((F r.1 r.2 A).natAbs : Int) := by omega
      have rT2 : opIx (.lst (R r)) (.int ((A : Int) * ((c : Int) + 1))) h4 = some (.int (F r.1 r.2 (A * (c + 1))), h4) := rT
      simp [sIf, sNil, tAn, tT, asB, eBin, eCl, eVar, eC, aCons, aNil, DK.bindM, retM, rA, rT2, abs_if, DK.mod_int pos, mc2, c0])]
  -- few, its
  obtain ⟨f, hf⟩ : ∃ f, f = min A 9 := ⟨_, rfl⟩
  obtain ⟨g, hgg⟩ : ∃ g, g = min B 9 := ⟨_, rfl⟩
  have mf : bMin2 [.int (A : Int), .int 9] h4 = some (.int (f : Int), h4) := by
    show some (D.int (if (9 : Int) < (A : Int) then 9 else (A : Int)), h4) = _
    congr 3
    split <;> omega
  have mg : bMin2 [.int (B : Int), .int 9] h4 = some (.int (g : Int), h4) := by
    show some (D.int (if (9 : Int) < (B : Int) then 9 else (B : Int)), h4) = _
    congr 3
    split <;> omega
  have f0 : 0 < f := by omega
  have g0 : 0 < g := by omega
  rw [seq_nx (h' := h4) (ds' := [some (.ref 0), some (ruleD r), some (.int (mostOf r)), some (.lst (R r)), some (tabD r), some (.int A), some (.int B), some (.int (Nat.gcd A B)), some (T r A), none, some (.int ((A * (c + 1) : Nat) : Int)), some (.int (f : Int)), some (.int (g : Int)), none, none]) (by
    simp [sPar2, eCl, eVar, eC, aCons, aNil, DK.bindM, retM, mf, mg])]
  rw [seq_nx (h' := h4) (ds' := [some (.ref 0), some (ruleD r), some (.int (mostOf r)), some (.lst (R r)), some (tabD r), some (.int A), some (.int B), some (.int (Nat.gcd A B)), some (T r A), none, some (.int ((A * (c + 1) : Nat) : Int)), some (.int (f : Int)), some (.int (g : Int)), some (T r f), some (T r g)]) (by
    simp [sPar2, eCall, eVar, aCons, aNil, DK.bindM, retM, resD, powT (h := h4) hr (k := f) (by omega) rfl, powT (h := h4) hr (k := g) (by omega) rfl])]
  -- product
  obtain ⟨f', rfl⟩ : ∃ f', f = f' + 1 := ⟨f - 1, by omega⟩
  obtain ⟨g', rfl⟩ : ∃ g', g = g' + 1 := ⟨g - 1, by omega⟩
  have pr : m_product [T r (f' + 1), T r (g' + 1)] h4 = some (.val (T r (f' + 1 + (g' + 1))), h4) := pure_eq (isV_ok (all_of (all_of (prod_chk hr) (List.mem_range.mpr (show f' < 9 by omega))) (List.mem_range.mpr (show g' < 9 by omega))))
  rw [seq_nx (h' := h4) (ds' := [some (.ref 0), some (ruleD r), some (.int (mostOf r)), some (.lst (R r)), some (tabD r), some (.int A), some (.int B), some (.int (Nat.gcd A B)), some (T r A), none, some (.int ((A * (c + 1) : Nat) : Int)), some (.int ((f' + 1 : Nat) : Int)), some (.int ((g' + 1 : Nat) : Int)), some (T r (f' + 1)), some (T r (g' + 1))]) (by
    have pw : m_power_of_table [tabD r, .int (((f' + 1 : Nat) : Int) + ((g' + 1 : Nat) : Int))] h4 = some (.val (T r (f' + 1 + (g' + 1))), h4) := powT hr (by omega) (by omega)
    have ns : opNe (T r (f' + 1 + (g' + 1))) (T r (f' + 1 + (g' + 1))) h4 = some (.bl false, h4) := by
      rw [T_pos (by omega)]
      exact ne_self4
    simp only [sIf, sNil, tT, asB, eBin, eCall, eVar, eC, aCons, aNil, DK.bindM, retM, resD, pr, pw, ns, DK.addA_int, List.getElem?_cons_zero, List.getElem?_cons_succ, List.length_cons, List.length_nil, if_true]
    simp [retM])]
  -- determinant
  rw [seq_nx (h' := h4) (ds' := [some (.ref 0), some (ruleD r), some (.int (mostOf r)), some (.lst (R r)), some (tabD r), some (.int A), some (.int B), some (.int (Nat.gcd A B)), some (T r A), none, some (.int ((A * (c + 1) : Nat) : Int)), some (.int ((f' + 1 : Nat) : Int)), some (.int ((g' + 1 : Nat) : Int)), some (T r (f' + 1)), some (T r (g' + 1))]) (by
    obtain ⟨x, x1, x2⟩ := det_both hr (k := f') (by omega)
    have d1 : m_determinant [T r (f' + 1)] h4 = some (.val (.int x), h4) := pure_eq x1
    have d2 : m__law_raised [.int (0 - r.2), .int ((f' + 1 : Nat) : Int)] h4 = some (.val (.int x), h4) := pure_eq x2
    exact nechk (dt1 rfl d1) (dt2 (p := r.1) rfl rfl d2))]
  -- the row's own sum
  rw [seq_nx (h' := h4) (ds' := [some (.ref 0), some (ruleD r), some (.int (mostOf r)), some (.lst (R r)), some (tabD r), some (.int A), some (.int B), some (.int (Nat.gcd A B)), some (T r A), none, some (.int ((A * (c + 1) : Nat) : Int)), some (.int ((f' + 1 : Nat) : Int)), some (.int ((g' + 1 : Nat) : Int)), some (T r (f' + 1)), some (T r (g' + 1))]) (by
    have ic := of_decide_eq_true (all_of (all_of (all_of id_chk hr) (List.mem_range.mpr (show f' < 9 by omega))) (List.mem_range.mpr (show g' < 9 by omega)))
    have i1 : opIx (.lst (R r)) (.int (((f' + 1 : Nat) : Int) + ((g' + 1 : Nat) : Int))) h4 = some (.int (F r.1 r.2 (f' + 1 + (g' + 1))), h4) := rowAt (by omega) (by omega)
    have i2 : opIx (.lst (R r)) (.int ((f' + 1 : Nat) : Int)) h4 = some (.int (F r.1 r.2 (f' + 1)), h4) := rowAt (by omega) rfl
    have i3 : opIx (.lst (R r)) (.int (((g' + 1 : Nat) : Int) + 1)) h4 = some (.int (F r.1 r.2 (g' + 1 + 1)), h4) := rowAt (by omega) (by omega)
    have i4 : opIx (.lst (R r)) (.int (((f' + 1 : Nat) : Int) - 1)) h4 = some (.int (F r.1 r.2 (f' + 1 - 1)), h4) := rowAt (by omega) (by omega)
    have i5 : opIx (.lst (R r)) (.int ((g' + 1 : Nat) : Int)) h4 = some (.int (F r.1 r.2 (g' + 1)), h4) := rowAt (by omega) rfl
    have b2 := big1 hr (k := f' + 1) (by omega)
    have b5 := big1 hr (k := g' + 1) (by omega)
    have u1 : opMulA (.int (F r.1 r.2 (f' + 1))) (.int (F r.1 r.2 (g' + 1 + 1))) h4 = some (.int (F r.1 r.2 (f' + 1) * F r.1 r.2 (g' + 1 + 1)), h4) := mulA_l (by omega)
    have u2 : opMulA (.int (r.2 * F r.1 r.2 (f' + 1 - 1))) (.int (F r.1 r.2 (g' + 1))) h4 = some (.int (r.2 * F r.1 r.2 (f' + 1 - 1) * F r.1 r.2 (g' + 1)), h4) := mulA_r (by omega)
    simp only [sIf, sNil, tT, asB, eBin, eVar, eC, DK.bindM, retM, ruleD, ix2b, DK.addA_int, DK.sub_int, i1, i2, i3, i4, i5, u1, u2, mul_r2 hr, DK.ne_int, List.getElem?_cons_zero, List.getElem?_cons_succ]
    rw [← ic]
    simp [retM])]
  -- Fibonacci's own
  by_cases last : r = (1, 1) ∧ ¬ A < 4
  · obtain ⟨rfl, hA4⟩ := last
    rw [seq_nx (h' := h4) (ds' := [some (.ref 0), some (ruleD (1, 1)), some (.int (mostOf (1, 1))), some (.lst (R (1, 1))), some (tabD (1, 1)), some (.int A), some (.int B), some (.int (Nat.gcd A B)), some (T (1, 1) A), none, some (.int ((A * (c + 1) : Nat) : Int)), some (.int ((f' + 1 : Nat) : Int)), some (.int ((g' + 1 : Nat) : Int)), some (T (1, 1) (f' + 1)), some (T (1, 1) (g' + 1))]) (by
      have hlt : ¬ (A : Int) < 4 := by omega
      simp [sIf, sNil, tOrr, tT, asB, eBin, eTup, lineOk, eVar, eC, aCons, aNil, DK.bindM, retM, neRule hr, hlt])]
    have fc := all_of fib_chk (List.mem_range.mpr (show A - 4 < 55 by have : mostOf (1, 1) = 58 := rfl; omega))
    rw [Bool.and_eq_true, show A - 4 + 4 = A by omega] at fc
    have ln : ∀ {n : Nat} {x : Option Res}, lenIs n x = true → ∃ xs : List D, x = some (.val (.tup xs)) ∧ xs.length = n := by
      intro n x hx
      unfold lenIs at hx
      split at hx
      · exact ⟨_, rfl, of_decide_eq_true hx⟩
      · cases hx
    obtain ⟨x1, y1, l1⟩ := ln fc.1
    obtain ⟨x2, y2, l2⟩ := ln fc.2
    have w1 : m_by_fibonacci [.int (F 1 1 A)] h4 = some (.val (.tup x1), h4) := pure_eq y1
    have w2 : m_by_fibonacci [.int (2 * F 1 1 A)] h4 = some (.val (.tup x2), h4) := pure_eq y2
    refine ⟨h4, ?_, H5⟩
    have u3 : opMulA (.int 2) (.int (F 1 1 A)) h4 = some (.int (2 * F 1 1 A), h4) := mulA_l (by decide)
    simp [sSeq, sPar2, sRet, eAnd, eBin, eCall, eCl, eVar, eC, aCons, aNil, truM, truD, DK.bindM, retM, resD, rA, u3, w1, w2, l1, l2]
  · refine ⟨h4, ?_, H5⟩
    apply seq_rt
    by_cases c1 : r = (1, 1)
    · have hlt : (A : Int) < 4 := by
        have : A < 4 := Classical.byContradiction fun z => last ⟨c1, z⟩
        omega
      subst c1
      simp [sIf, sNil, sRet, tOrr, tT, asB, eBin, eTup, lineOk, eVar, eC, aCons, aNil, DK.bindM, retM, neRule hr, hlt]
    · simp [sIf, sNil, sRet, tOrr, tT, asB, eBin, eTup, lineOk, eVar, eC, aCons, aNil, DK.bindM, retM, neRule hr, c1]
end K23

namespace K23
open PySem PySem.Spec PyProof.Rows L2 DK
theorem right_ok {h : Hd} (H : H1 h) : ∃ h', m__law_is_right [.ref 0] h = some (.val (.bl true), h') ∧ H1 h' := by
  obtain ⟨h', e, H'⟩ := right1 H
  exact ⟨h', mRun_of e H H' rfl, H'⟩
/-! the laps -/
theorem laps (n : Nat) (x : D) (dw : Sl) (hd : dw = [some (.ro []), some (.ref 0), none] ∨ ∃ a, dw = [a, some (.ref 0), none]) : ∀ (items : List D) (h : Hd), H1 h →
    ∃ h', compL [] (fun x ds => gNm 2 x n ds) (tYs n) (eCall m__law_is_right 1 (aCons (eVar 1) aNil) n) dw items h = some (List.replicate items.length (.bl true), h') ∧ H1 h' := by
  obtain ⟨a, rfl⟩ : ∃ a, dw = [a, some (.ref 0), none] := hd.elim (fun e => ⟨_, e⟩) id
  intro items
  induction items with
  | nil => exact fun h H => ⟨h, rfl, H⟩
  | cons y ys ih =>
    intro h H
    obtain ⟨h1, e1, H1'⟩ := right_ok H
    obtain ⟨h2, e2, H2⟩ := ih h1 H1'
    refine ⟨h2, ?_, H2⟩
    unfold compL
    simp only [liveOk, if_true, gNm, tYs, eCall, aCons, aNil, eVar, DK.bindM, retM, List.set_cons_succ, List.set_cons_zero, List.getElem?_cons_zero, List.getElem?_cons_succ, List.length_cons, List.length_nil, e1, resD]
    simp only [gNm, tYs, eCall, aCons, aNil, eVar, DK.bindM, retM] at e2
    rw [e2]
    simp [List.replicate_succ]
/-! the hand -/
theorem cells_ok (n : Nat) (a b : Option D) : ∀ (ns : List Int), compL [] (fun x ds => gNm 2 x n ds) (tYs n) (eCl bAbs (aCons (eCl bInt (aCons (eVar 2) aNil)) aNil) n) [a, b, none] (ns.map D.int) [] = some ((ns.map fun i => (i.natAbs : Int)).map D.int, [])
  | [] => rfl
  | i :: r => by
    have ih := cells_ok n a b r
    rw [List.map_cons]
    unfold compL
    simp only [gNm, tYs, eCl, aCons, aNil, eVar, DK.bindM, retM] at ih
    simp only [liveOk, if_true, gNm, tYs, eCl, aCons, aNil, eVar, DK.bindM, retM, List.set_cons_succ, List.set_cons_zero, List.getElem?_cons_zero, List.getElem?_cons_succ, DK.int_int, absb, ih]
    rfl
theorem okRs_ints (n : Nat) : ∀ cs : List Int, okRs n (cs.map D.int) = true
  | [] => by simp [okRs]
  | x :: r => by simp [okRs, D.okR, okRs_ints n r]
theorem cut63 {ns : List Int} (hl : ns.length ≤ 63) : cutD (ns.map D.int) none (some 63) = ns.map D.int := by
  apply cut_whole
  constructor
  · exact HT.sIx_none _ _
  · exact (HT.sIx_nat _ _ 63).trans (Nat.min_eq_right (by rw [List.length_map]; exact hl))
theorem hand_ok {ns : List Int} (hl : ns.length ≤ 63) : ∃ cells k, m__law_hand [.ro (ns.map D.int)] [] = some (.fresh (handL cells 0 0 k 0), []) := by
  refine ⟨ns.map fun i => (i.natAbs : Int), 99001 + 7 * ((ns.map fun i => (i.natAbs : Int)).length : Int), pure_eq ?_⟩
  have st : startD 3 1 [.ro (ns.map D.int)] = [some (.ro (ns.map D.int)), none, none] := rfl
  have ok : okRs 0 [.ro (ns.map D.int)] = true := by simp [okRs, D.okR, okRs_ints]
  unfold pureRun
  rw [if_pos ok, st]
  have sl : slD (.ro (ns.map D.int)) none (some 63) [] = some (.lst (ns.map D.int), []) := by
    show some (D.lst (DK.cutD (ns.map D.int) none (some 63)), ([] : Hd)) = _
    rw [cut63 hl]
  have cc := cells_ok 10000 (some (.ro (ns.map D.int))) none ns
  simp only [ev__law_hand, sSeq, sAsg, sRet, eFrz, eNew, lLst, lLc, iSeq, eSl, oNone, oSome, srcM, dwipe, gNm, eBin, eVar, eC, aCons, aNil, DK.bindM, retM, List.set_cons_succ, List.set_cons_zero, List.getElem?_cons_zero, List.getElem?_cons_succ, sl] at cc ⊢
  rw [if_pos (show (ns.map D.int).length ≤ 16777216 by rw [List.length_map]; omega), cc]
  simp [eVar, eC, eCl, eBin, aCons, aNil, DK.bindM, retM, lineOk, mulA_l, flD, resOf, D.okR, cellL, okRs, okRs_ints, handL]
  have z := okRs_ints 0 (ns.map fun i => (i.natAbs : Int))
  rw [List.map_map] at z
  exact z
/-! the law -/
theorem one_of {a : EV} {n : Nat} {ds : Sl} {h h1 : Hd} {x : D} (e : a n ds h = some (x, h1)) : aCons a aNil n ds h = some ([x], h1) := by
  unfold aCons
  rw [bindM_eq e]
  rfl
theorem frz_of {l : AV} {n : Nat} {ds : Sl} {h h1 : Hd} {xs : List D} (e : l n ds h = some (xs, h1)) : eFrz l n ds h = some (.lst xs, h1) := by
  unfold eFrz
  rw [bindM_eq e]
  rfl
theorem first_ok {h : Hd} : m_common [.tup [.int 144, .int 55]] h = some (.val (.tup [.int 1, .tup [.int (-21), .int 55]]), h) := pure_eq (isV_ok (by decide +kernel))
theorem second_ok {h : Hd} : m_power_of_table [.tup [.tup [.int 1, .int 1], .tup [.int 1, .int 0]], .int 6] h = some (.val (.tup [.tup [.int 13, .int 8], .tup [.int 8, .int 5]]), h) := pure_eq (isV_ok (by decide +kernel))
theorem law_true (ns : List Int) (hl : ns.length ≤ 63) : m_law [.ro (ns.map D.int)] [] = some (.val (.bl true), []) := by
  obtain ⟨cells, k, e1⟩ := hand_ok hl
  have H : H1 [.lst (handL cells 0 0 k 0)] := ⟨cells, 0, 0, k, 0, rfl, by omega⟩
  obtain ⟨h', e2, H'⟩ := laps 10000 .non [some (.ro (ns.map D.int)), some (.ref 0), none] (.inr ⟨_, rfl⟩) [.int 0, .int 1, .int 2, .int 3, .int 4, .int 5, .int 6, .int 7] _ H
  apply pure_eq
  have st : startD 3 1 [.ro (ns.map D.int)] = [some (.ro (ns.map D.int)), none, none] := rfl
  have ok : okRs 0 [.ro (ns.map D.int)] = true := by simp [okRs, D.okR, okRs_ints]
  have rg : iRg1 (aCons (eC (.int 8)) aNil) 10000 [some (.ro (ns.map D.int)), some (.ref 0), none] [.lst (handL cells 0 0 k 0)] = some (⟨[.int 0, .int 1, .int 2, .int 3, .int 4, .int 5, .int 6, .int 7], []⟩, [.lst (handL cells 0 0 k 0)]) := rfl
  unfold pureRun
  rw [if_pos ok, st]
  simp only [ev_law]
  rw [seq_nx (h' := [.lst (handL cells 0 0 k 0)]) (ds' := [some (.ro (ns.map D.int)), some (.ref 0), none]) (by
    simp [sAsg, eNew, lCall, gNm, eVar, aCons, aNil, DK.bindM, retM, e1])]
  rw [seq_nx (h' := [.lst (handL cells 0 0 k 0)]) (ds' := [some (.ro (ns.map D.int)), some (.ref 0), none]) (by
    simp [sIf, sNil, tOrr, tT, asB, eBin, eCall, eTup, lineOk, eVar, eC, aCons, aNil, DK.bindM, retM, resD, first_ok, second_ok, ix2a, ne_self4])]
  have fin : eCl bAll (aCons (eFrz (lLc (iRg1 (aCons (eC (.int 8)) aNil)) (gNm 2) tYs (eCall m__law_is_right 1 (aCons (eVar 1) aNil)) [2])) aNil) 10000 [some (.ro (ns.map D.int)), some (.ref 0), none] [.lst (handL cells 0 0 k 0)] = some (.bl true, h') := by
    have l1 : lLc (iRg1 (aCons (eC (.int 8)) aNil)) (gNm 2) tYs (eCall m__law_is_right 1 (aCons (eVar 1) aNil)) [2] 10000 [some (.ro (ns.map D.int)), some (.ref 0), none] [.lst (handL cells 0 0 k 0)] = some (List.replicate 8 (.bl true), h') := by
      unfold lLc
      rw [bindM_eq rg, if_pos (by decide)]
      exact e2
    have a1 : aCons (eFrz (lLc (iRg1 (aCons (eC (.int 8)) aNil)) (gNm 2) tYs (eCall m__law_is_right 1 (aCons (eVar 1) aNil)) [2])) aNil 10000 [some (.ro (ns.map D.int)), some (.ref 0), none] [.lst (handL cells 0 0 k 0)] = some ([.lst (List.replicate 8 (.bl true))], h') := one_of (frz_of l1)
    unfold eCl
    rw [bindM_eq a1]
    rfl
  unfold sRet
  rw [bindM_eq fin]
  rfl
end K23

open PySem PySem.W PyProof.Rows
set_option maxHeartbeats 0 in
theorem PySem.Challenge.cw_wholesworn_k23_whole_common_divisors_of_holds : PySem.Challenge.rw_wholesworn_k23_whole_common_divisors_of.Holds := by
  w_on; o_law; k_head; (case hw => w_witness2)
  k_fill
  refine L2.walk_of (l := PySem.Challenge.rw_wholesworn_k23_whole_common_divisors_of) (n := 63) (k := 8) (x := "script") (CX := fun _ => L2.CX0) (sp := fun w => DK.spD _ 1 K23.m_law) rfl (by decide) rfl ⟨rfl, by decide, by decide⟩ (fun w h Y => PySem.W.kIn_of Y) ?F (fun _ _ a ns hl hO hS => DK.law_sp (K23.law_true ns hl) hO hS) (fun _ _ _ _ _ h => h)
  case F =>
    intro w mg fa h KX G hmg
    refine' K23.all_mk KX G hmg ?a0 ?l0 ?c0 ?k0 ?a1 ?l1 ?c1 ?k1 ?a2 ?l2 ?c2 ?k2 ?a3 ?l3 ?c3 ?k3 ?a4 ?l4 ?c4 ?k4 ?a5 ?l5 ?c5 ?k5 ?a6 ?l6 ?c6 ?k6 ?a7 ?l7 ?c7 ?k7 ?a8 ?l8 ?c8 ?k8 ?a9 ?l9 ?c9 ?k9 ?a10 ?l10 ?c10 ?k10 ?a11 ?l11 ?c11 ?k11 ?a12 ?l12 ?c12 ?k12 ?a13 ?l13 ?c13 ?k13 ?a14 ?l14 ?c14 ?k14 ?a15 ?l15 ?c15 ?k15 ?a16 ?l16 ?c16 ?k16 ?a17 ?l17 ?c17 ?k17 ?a18 ?l18 ?c18 ?k18 ?a19 ?l19 ?c19 ?k19 ?a20 ?l20 ?c20 ?k20 ?a21 ?l21 ?c21 ?k21 ?a22 ?l22 ?c22 ?k22 ?a23 ?l23 ?c23 ?k23 ?a24 ?l24 ?c24 ?k24 ?z_abs ?z_all ?z_bool ?z_int ?z_isinstance ?z_len ?z_list ?z_max ?z_min ?z_range ?z_sum ?z_tuple ?z_zip ?g_MOST_MANY ?g_MOST_SIDE ?g_MOST_commons ?g_MOST_digits ?g_MOST_tables
    (case a0 => k_is); (case l0 => k_is); (case c0 => k_is); (case k0 => k_is); (case a1 => k_is); (case l1 => k_is); (case c1 => k_is); (case k1 => k_is); (case a2 => k_is); (case l2 => k_is); (case c2 => k_is); (case k2 => k_is); (case a3 => k_is); (case l3 => k_is); (case c3 => k_is); (case k3 => k_is); (case a4 => k_is); (case l4 => k_is); (case c4 => k_is); (case k4 => k_is); (case a5 => k_is); (case l5 => k_is); (case c5 => k_is); (case k5 => k_is); (case a6 => k_is); (case l6 => k_is); (case c6 => k_is); (case k6 => k_is); (case a7 => k_is); (case l7 => k_is); (case c7 => k_is); (case k7 => k_is); (case a8 => k_is); (case l8 => k_is); (case c8 => k_is); (case k8 => k_is); (case a9 => k_is); (case l9 => k_is); (case c9 => k_is); (case k9 => k_is); (case a10 => k_is); (case l10 => k_is); (case c10 => k_is); (case k10 => k_is); (case a11 => k_is); (case l11 => k_is); (case c11 => k_is); (case k11 => k_is); (case a12 => k_is); (case l12 => k_is); (case c12 => k_is); (case k12 => k_is); (case a13 => k_is); (case l13 => k_is); (case c13 => k_is); (case k13 => k_is); (case a14 => k_is); (case l14 => k_is); (case c14 => k_is); (case k14 => k_is); (case a15 => k_is); (case l15 => k_is); (case c15 => k_is); (case k15 => k_is); (case a16 => k_is); (case l16 => k_is); (case c16 => k_is); (case k16 => k_is); (case a17 => k_is); (case l17 => k_is); (case c17 => k_is); (case k17 => k_is); (case a18 => k_is); (case l18 => k_is); (case c18 => k_is); (case k18 => k_is); (case a19 => k_is); (case l19 => k_is); (case c19 => k_is); (case k19 => k_is); (case a20 => k_is); (case l20 => k_is); (case c20 => k_is); (case k20 => k_is); (case a21 => k_is); (case l21 => k_is); (case c21 => k_is); (case k21 => k_is); (case a22 => k_is); (case l22 => k_is); (case c22 => k_is); (case k22 => k_is); (case a23 => k_is); (case l23 => k_is); (case c23 => k_is); (case k23 => k_is); (case a24 => k_is); (case l24 => k_is); (case c24 => k_is); (case k24 => k_is); (case z_abs => k_is); (case z_all => k_is); (case z_bool => k_is); (case z_int => k_is); (case z_isinstance => k_is); (case z_len => k_is); (case z_list => k_is); (case z_max => k_is); (case z_min => k_is); (case z_range => k_is); (case z_sum => k_is); (case z_tuple => k_is); (case z_zip => k_is); (case g_MOST_MANY => k_is); (case g_MOST_SIDE => k_is); (case g_MOST_commons => k_is); (case g_MOST_digits => k_is); (case g_MOST_tables => k_is)

