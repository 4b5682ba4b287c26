import PyProof.Rows.All
import Wide.All
import OpenK.AllK
import Wide.FinOn
import HandS.ForMost
import HandS.Exc
import HandS.Style
import HandS.TryOnly
import HandS.TryMany
import HandS.ExcInit
import HandS.ExcField
import HandS.Star
import HandS.IsInst
import HandS.FStr
import HandS.Deep
import HandS.NoneIn
import HandS.DictComp
import HandS.DictTup
import HandS.TupAny
import HandS.Wide
import HandS.CallSlots
import HandS.RaiseMore
import HandS.Small
import PyProof.ReprRoads
import HandS.Flow
import HandS.Zip
import HandS.More
import HandS.Iter
import KE.GoesMore
import KE.GoesEnum
import HandS.Comp
import HandS.Defaults
import HandS.Ends
import PySem.Challenge.RW_answersalone_k54_things_and_splits_told
set_option Elab.async false
set_option linter.all false
set_option maxRecDepth 100000
set_option maxHeartbeats 4000000
/-! DL1: data trees over the abstract heap -/
namespace DL
open PySem PySem.Spec PyProof.Rows L2

/-- a value as data: frozen lists, tuples, instances are trees; a mutable object is a place of the small heap -/
inductive D where
  | non | bl (b : Bool) | int (i : Int) | str (x : Str)
  | lst (xs : List D) | tup (xs : List D)
  | ins (c : Nat) (ns : List Nat) (xs : List D)
  | loc (n : Nat)
  | ty (n : String)
  | cls (c : Nat)
  | fn (f : Nat)
  | rng (lo hi : Int)
instance : Inhabited D := ⟨.non⟩

/-- a mutable object -/
inductive MO where
  | lst (xs : List D)
  | dK (kvs : List (Key × D))
  | dT (kvs : List (List Key × D))
  | ins (c : Nat) (ns : List Nat) (xs : List D)
  | gone
abbrev Me := List MO

structure GT where
  K : PySem.W.Frag
  cadr : Nat → Addr
  fadr : Nat → Addr
  fnm : Nat → Str

/-- a text of the size that all texts here have -/
def SOk (x : Str) : Prop := x.length ≤ sizeLine

abbrev Hle (F F' : Hp) : Prop := ∀ a o, F a = some o → F' a = some o

mutual
def RepC (G : GT) (F : Hp) (r : Nat → Addr) (k : Nat) : D → V → Prop
  | .non, v => v = .non
  | .bl b, v => v = .bl b
  | .int i, v => v = .int i
  | .str x, v => v = .str x ∧ SOk x
  | .lst ds, v => ∃ a xs, v = .ref a ∧ SqL G.K F a xs ∧ RepCL G F r k ds xs
  | .tup ds, v => ∃ a xs, v = .ref a ∧ F a = some (.tup xs) ∧ RepCL G F r k ds xs
  | .ins c ns ds, v => ∃ a dx fs, v = .ref a ∧ F a = some (.ins (G.cadr c) dx fs) ∧ fs.map (·.1) = ns.map G.fnm ∧ RepCL G F r k ds (fs.map (·.2))
  | .loc n, v => n < k ∧ v = .ref (r n)
  | .ty n, v => v = .ty n
  | .cls c, v => v = .ref (G.cadr c)
  | .fn f, v => v = .ref (G.fadr f)
  | .rng lo hi, v => ∃ a, v = .ref a ∧ F a = some (.rng lo hi)
def RepCL (G : GT) (F : Hp) (r : Nat → Addr) (k : Nat) : List D → List V → Prop
  | [], xs => xs = []
  | d :: ds, xs => ∃ x ys, xs = x :: ys ∧ RepC G F r k d x ∧ RepCL G F r k ds ys
end

mutual
def bnd (k : Nat) : D → Bool
  | .lst ds => bndL k ds
  | .tup ds => bndL k ds
  | .ins _ _ ds => bndL k ds
  | .loc n => decide (n < k)
  | _ => true
def bndL (k : Nat) : List D → Bool
  | [] => true
  | d :: ds => bnd k d && bndL k ds
end

theorem SqL.le {K : PySem.W.Frag} {F F' : Hp} (h : Hle F F') {a : Addr} {xs : List V} (q : SqL K F a xs) : SqL K F' a xs := by
  rcases q with (q | ⟨o, q⟩) | q
  · exact .inl (.inl (h _ _ q))
  · exact .inl (.inr ⟨o, h _ _ q⟩)
  · exact .inr q
theorem SqT.le {K : PySem.W.Frag} {F F' : Hp} (h : Hle F F') {a : Addr} {xs : List V} (q : SqT K F a xs) : SqT K F' a xs := by
  rcases q with (q | ⟨o, q⟩) | q
  · exact .inl (.inl (h _ _ q))
  · exact .inl (.inr ⟨o, h _ _ q⟩)
  · exact .inr q

section
variable {G : GT} {F F' : Hp} {r r' : Nat → Addr} {k k' : Nat}
mutual
theorem RepC.mono (hF : Hle F F') (hr : ∀ n, n < k → r' n = r n) (hk : k ≤ k') : ∀ (d : D) (v : V), RepC G F r k d v → RepC G F' r' k' d v
  | .non, _, h | .bl _, _, h | .int _, _, h | .str _, _, h | .ty _, _, h | .cls _, _, h | .fn _, _, h => by
    unfold RepC at h ⊢; exact h
  | .lst ds, v, h => by
    unfold RepC at h ⊢
    obtain ⟨a, xs, e, q, t⟩ := h
    exact ⟨a, xs, e, SqL.le hF q, RepCL.mono hF hr hk ds xs t⟩
  | .tup ds, v, h => by
    unfold RepC at h ⊢
    obtain ⟨a, xs, e, q, t⟩ := h
    exact ⟨a, xs, e, hF _ _ q, RepCL.mono hF hr hk ds xs t⟩
  | .ins c ns ds, v, h => by
    unfold RepC at h ⊢
    obtain ⟨a, dx, fs, e, q, en, t⟩ := h
    exact ⟨a, dx, fs, e, hF _ _ q, en, RepCL.mono hF hr hk ds _ t⟩
  | .loc n, v, h => by
    unfold RepC at h ⊢
    exact ⟨Nat.lt_of_lt_of_le h.1 hk, by rw [hr n h.1]; exact h.2⟩
  | .rng lo hi, v, h => by
    unfold RepC at h ⊢
    obtain ⟨a, e, q⟩ := h
    exact ⟨a, e, hF _ _ q⟩
theorem RepCL.mono (hF : Hle F F') (hr : ∀ n, n < k → r' n = r n) (hk : k ≤ k') : ∀ (ds : List D) (xs : List V), RepCL G F r k ds xs → RepCL G F' r' k' ds xs
  | [], _, h => by unfold RepCL at h ⊢; exact h
  | d :: ds, _, h => by
    unfold RepCL at h ⊢
    obtain ⟨x, ys, e, a, b⟩ := h
    exact ⟨x, ys, e, RepC.mono hF hr hk d x a, RepCL.mono hF hr hk ds ys b⟩
end
mutual
theorem RepC.cut : ∀ (d : D) (v : V), RepC G F r k d v → bnd k' d = true → RepC G F r k' d v
  | .non, _, h, _ | .bl _, _, h, _ | .int _, _, h, _ | .str _, _, h, _ | .ty _, _, h, _ | .cls _, _, h, _ | .fn _, _, h, _ => by
    unfold RepC at h ⊢; exact h
  | .lst ds, v, h, b => by
    unfold RepC at h ⊢; unfold bnd at b
    obtain ⟨a, xs, e, q, t⟩ := h
    exact ⟨a, xs, e, q, RepCL.cut ds xs t b⟩
  | .tup ds, v, h, b => by
    unfold RepC at h ⊢; unfold bnd at b
    obtain ⟨a, xs, e, q, t⟩ := h
    exact ⟨a, xs, e, q, RepCL.cut ds xs t b⟩
  | .ins c ns ds, v, h, b => by
    unfold RepC at h ⊢; unfold bnd at b
    obtain ⟨a, dx, fs, e, q, en, t⟩ := h
    exact ⟨a, dx, fs, e, q, en, RepCL.cut ds _ t b⟩
  | .loc n, v, h, b => by
    unfold RepC at h ⊢; unfold bnd at b
    exact ⟨of_decide_eq_true b, h.2⟩
  | .rng lo hi, v, h, _ => by
    unfold RepC at h ⊢
    exact h
theorem RepCL.cut : ∀ (ds : List D) (xs : List V), RepCL G F r k ds xs → bndL k' ds = true → RepCL G F r k' ds xs
  | [], _, h, _ => by unfold RepCL at h ⊢; exact h
  | d :: ds, _, h, b => by
    unfold RepCL at h ⊢; unfold bndL at b
    obtain ⟨x, ys, e, a, t⟩ := h
    have b' := Bool.and_eq_true_iff.mp b
    exact ⟨x, ys, e, RepC.cut d x a b'.1, RepCL.cut ds ys t b'.2⟩
end
theorem RepCL.nil : RepCL G F r k [] [] := by unfold RepCL; rfl
theorem RepCL.cons {d : D} {v : V} {ds : List D} {vs : List V} (h : RepC G F r k d v) (t : RepCL G F r k ds vs) : RepCL G F r k (d :: ds) (v :: vs) := by
  unfold RepCL; exact ⟨v, vs, rfl, h, t⟩
theorem RepCL.nil_inv {vs : List V} (h : RepCL G F r k [] vs) : vs = [] := by unfold RepCL at h; exact h
theorem RepCL.cons_inv {d : D} {ds : List D} {vs : List V} (h : RepCL G F r k (d :: ds) vs) : ∃ x ys, vs = x :: ys ∧ RepC G F r k d x ∧ RepCL G F r k ds ys := by
  unfold RepCL at h; exact h
theorem RepCL.length : ∀ {ds : List D} {vs : List V}, RepCL G F r k ds vs → vs.length = ds.length
  | [], _, h => by rw [h.nil_inv]; rfl
  | d :: ds, _, h => by
    obtain ⟨x, ys, rfl, _, t⟩ := h.cons_inv
    rw [List.length_cons, List.length_cons, t.length]
theorem RepCL.append : ∀ {ds es : List D} {vs us : List V}, RepCL G F r k ds vs → RepCL G F r k es us → RepCL G F r k (ds ++ es) (vs ++ us)
  | [], _, _, _, h, g => by rw [h.nil_inv]; exact g
  | d :: ds, _, _, _, h, g => by
    obtain ⟨x, ys, rfl, a, t⟩ := h.cons_inv
    exact .cons a (t.append g)
theorem RepCL.get : ∀ {ds : List D} {vs : List V} {i : Nat} {d : D}, RepCL G F r k ds vs → ds[i]? = some d → ∃ v, vs[i]? = some v ∧ RepC G F r k d v
  | [], _, _, _, _, e => by simp at e
  | d :: ds, _, 0, _, h, e => by
    obtain ⟨x, ys, rfl, a, t⟩ := h.cons_inv
    simp at e; subst e; exact ⟨x, rfl, a⟩
  | d :: ds, _, i + 1, _, h, e => by
    obtain ⟨x, ys, rfl, a, t⟩ := h.cons_inv
    obtain ⟨v, e1, q⟩ := t.get (i := i) (by simpa using e)
    exact ⟨v, by simpa using e1, q⟩
theorem RepCL.get' {ds : List D} {vs : List V} {i : Nat} {v : V} (h : RepCL G F r k ds vs) (e : vs[i]? = some v) : ∃ d, ds[i]? = some d ∧ RepC G F r k d v := by
  have hl := h.length
  have hi : i < vs.length := (List.getElem?_eq_some_iff.mp e).1
  obtain ⟨v', e1, q⟩ := h.get (i := i) (d := ds[i]'(by omega)) (by simp)
  rw [e] at e1; cases e1
  exact ⟨_, by simp, q⟩
theorem RepCL.set : ∀ {ds : List D} {vs : List V} {d : D} {v : V} (i : Nat), RepCL G F r k ds vs → RepC G F r k d v → RepCL G F r k (ds.set i d) (vs.set i v)
  | [], _, _, _, _, h, _ => by rw [h.nil_inv]; exact .nil
  | d :: ds, _, _, _, 0, h, q => by
    obtain ⟨x, ys, rfl, a, t⟩ := h.cons_inv
    exact .cons q t
  | d :: ds, _, _, _, i + 1, h, q => by
    obtain ⟨x, ys, rfl, a, t⟩ := h.cons_inv
    exact .cons a (t.set i q)
theorem RepCL.take : ∀ {ds : List D} {vs : List V} (n : Nat), RepCL G F r k ds vs → RepCL G F r k (ds.take n) (vs.take n)
  | _, _, 0, _ => .nil
  | [], _, n + 1, h => by rw [h.nil_inv]; exact .nil
  | d :: ds, _, n + 1, h => by
    obtain ⟨x, ys, rfl, a, t⟩ := h.cons_inv
    exact .cons a (t.take n)
theorem RepCL.drop : ∀ {ds : List D} {vs : List V} (n : Nat), RepCL G F r k ds vs → RepCL G F r k (ds.drop n) (vs.drop n)
  | _, _, 0, h => h
  | [], _, n + 1, h => by rw [h.nil_inv]; exact .nil
  | d :: ds, _, n + 1, h => by
    obtain ⟨x, ys, rfl, a, t⟩ := h.cons_inv
    exact t.drop n
theorem RepCL.eraseIdx : ∀ {ds : List D} {vs : List V} (n : Nat), RepCL G F r k ds vs → RepCL G F r k (ds.eraseIdx n) (vs.eraseIdx n)
  | [], _, _, h => by rw [h.nil_inv]; exact .nil
  | d :: ds, _, 0, h => by
    obtain ⟨x, ys, rfl, a, t⟩ := h.cons_inv
    exact t
  | d :: ds, _, n + 1, h => by
    obtain ⟨x, ys, rfl, a, t⟩ := h.cons_inv
    exact .cons a (t.eraseIdx n)
theorem RepCL.reverse : ∀ {ds : List D} {vs : List V}, RepCL G F r k ds vs → RepCL G F r k ds.reverse vs.reverse
  | [], _, h => by rw [h.nil_inv]; exact .nil
  | d :: ds, _, h => by
    obtain ⟨x, ys, rfl, a, t⟩ := h.cons_inv
    rw [List.reverse_cons, List.reverse_cons]
    exact t.reverse.append (.cons a .nil)
theorem RepCL.dropLast {ds : List D} {vs : List V} (h : RepCL G F r k ds vs) : RepCL G F r k ds.dropLast vs.dropLast := by
  rw [List.dropLast_eq_take, List.dropLast_eq_take, h.length]
  exact h.take _
end

/-! ### the world: what is frozen, where the mutable objects stand -/
structure Wd where
  F : Hp
  r : Nat → Addr
  m : Me
abbrev Rep (G : GT) (w : Wd) (d : D) (v : V) : Prop := RepC G w.F w.r w.m.length d v
abbrev RepL (G : GT) (w : Wd) (ds : List D) (vs : List V) : Prop := RepCL G w.F w.r w.m.length ds vs

/-- a key's list of values: one int or text each -/
def RepKV {κ : Type} (G : GT) (w : Wd) : List (κ × D) → List (κ × V) → Prop := Paired fun p q => p.1 = q.1 ∧ Rep G w p.2 q.2

/-- a live object of the small heap, at its address -/
def MRep (G : GT) (w : Wd) (H : Hp) (a : Addr) : MO → Prop
  | .lst ds => ∃ xs, H a = some (.lst xs) ∧ RepL G w ds xs
  | .dK kvs => ∃ ks, H a = some (.dK ks) ∧ RepKV G w kvs ks
  | .dT kvs => ∃ ks, H a = some (.dT ks) ∧ RepKV G w kvs ks
  | .ins c ns ds => ∃ dx fs, H a = some (.ins (G.cadr c) dx fs) ∧ fs.map (·.1) = ns.map G.fnm ∧ RepL G w ds (fs.map (·.2))
  | .gone => True
def MO.live : MO → Bool
  | .gone => false
  | _ => true

structure SR (G : GT) (w : Wd) (H : Hp) : Prop where
  sub : Hle w.F H
  lv : ∀ n o, w.m[n]? = some o → MRep G w H (w.r n) o
  out : ∀ n o, w.m[n]? = some o → o.live = true → w.F (w.r n) = none
  inj : ∀ n n' o o', w.m[n]? = some o → o.live = true → w.m[n']? = some o' → o'.live = true → w.r n = w.r n' → n = n'

structure Ext (w w' : Wd) : Prop where
  sub : Hle w.F w'.F
  rho : ∀ n, n < w.m.length → w'.r n = w.r n
  len : w.m.length ≤ w'.m.length
theorem Ext.refl (w : Wd) : Ext w w := ⟨fun _ _ h => h, fun _ _ => rfl, Nat.le_refl _⟩
theorem Ext.trans {a b c : Wd} (h : Ext a b) (g : Ext b c) : Ext a c :=
  ⟨fun x o e => g.sub x o (h.sub x o e), fun n hn => (g.rho n (Nat.lt_of_lt_of_le hn h.len)).trans (h.rho n hn), Nat.le_trans h.len g.len⟩

section
variable {G : GT} {w w' : Wd} {H H' : Hp}
theorem Rep.ext {d : D} {v : V} (h : Rep G w d v) (e : Ext w w') : Rep G w' d v := RepC.mono e.sub e.rho e.len d v h
theorem RepL.ext {ds : List D} {vs : List V} (h : RepL G w ds vs) (e : Ext w w') : RepL G w' ds vs := RepCL.mono e.sub e.rho e.len ds vs h
theorem RepKV.ext {κ : Type} : ∀ {kvs : List (κ × D)} {ks : List (κ × V)}, RepKV G w kvs ks → Ext w w' → RepKV G w' kvs ks
  | _, _, .nil, _ => .nil
  | _, _, .cons a t, e => .cons ⟨a.1, a.2.ext e⟩ (RepKV.ext t e)
theorem MRep.ext {a : Addr} {o : MO} (h : MRep G w H a o) (e : Ext w w') : MRep G w' H a o := by
  cases o with
  | lst ds => obtain ⟨xs, q, t⟩ := h; exact ⟨xs, q, t.ext e⟩
  | dK kvs => obtain ⟨xs, q, t⟩ := h; exact ⟨xs, q, t.ext e⟩
  | dT kvs => obtain ⟨xs, q, t⟩ := h; exact ⟨xs, q, t.ext e⟩
  | ins c ns ds => obtain ⟨dx, fs, q, en, t⟩ := h; exact ⟨dx, fs, q, en, t.ext e⟩
  | gone => trivial
/-- a live object is told by the heap at its address alone -/
theorem MRep.heap {a : Addr} {o : MO} (h : MRep G w H a o) (e : o.live = true → H' a = H a) : MRep G w H' a o := by
  cases o with
  | lst ds => obtain ⟨xs, q, t⟩ := h; exact ⟨xs, (e rfl).trans q, t⟩
  | dK kvs => obtain ⟨xs, q, t⟩ := h; exact ⟨xs, (e rfl).trans q, t⟩
  | dT kvs => obtain ⟨xs, q, t⟩ := h; exact ⟨xs, (e rfl).trans q, t⟩
  | ins c ns ds => obtain ⟨dx, fs, q, en, t⟩ := h; exact ⟨dx, fs, (e rfl).trans q, en, t⟩
  | gone => trivial
theorem MRep.there {a : Addr} {o : MO} (h : MRep G w H a o) (l : o.live = true) : ∃ u, H a = some u := by
  cases o with
  | lst ds => obtain ⟨xs, q, t⟩ := h; exact ⟨_, q⟩
  | dK kvs => obtain ⟨xs, q, t⟩ := h; exact ⟨_, q⟩
  | dT kvs => obtain ⟨xs, q, t⟩ := h; exact ⟨_, q⟩
  | ins c ns ds => obtain ⟨dx, fs, q, en, t⟩ := h; exact ⟨_, q⟩
  | gone => cases l
theorem SR.free (s : SR G w H) {p : Addr} (hp : H p = none) : w.F p = none := by
  cases e : w.F p with
  | none => rfl
  | some o => rw [s.sub p o e] at hp; cases hp

/-- the heap grows by something that is not told -/
theorem SR.grow (s : SR G w H) (h : Hle H H') : SR G w H' := by
  refine ⟨fun a o e => h a o (s.sub a o e), fun n o e => (s.lv n o e).heap fun l => ?_, s.out, s.inj⟩
  obtain ⟨u, q⟩ := (s.lv n o e).there l
  rw [q, h _ _ q]
theorem Hle.put {H : Hp} {p : Addr} {o : HO} (hp : H p = none) : Hle H (upd H p o) := fun b u e => by
  rw [upd_ne (ne_of_none e hp)]; exact e
theorem Hle.put2 {F H : Hp} (h : Hle F H) {p : Addr} {o : HO} (hp : F p = none) : Hle F (upd H p o) := fun b u e => by
  rw [upd_ne (ne_of_none e hp)]; exact h _ _ e
/-- a new object is frozen at once -/
def Wd.fz (w : Wd) (p : Addr) (o : HO) : Wd := { w with F := upd w.F p o }
theorem SR.fz (s : SR G w H) {p : Addr} {o : HO} (hp : H p = none) : SR G (w.fz p o) (upd H p o) ∧ Ext w (w.fz p o) := by
  have hf := s.free hp
  have ex : Ext w (w.fz p o) := ⟨Hle.put hf, fun _ _ => rfl, Nat.le_refl _⟩
  have g := s.grow (Hle.put (o := o) hp)
  refine ⟨⟨fun b u e => ?_, fun n u e => (g.lv n u e).ext ex, fun n u e l => ?_, s.inj⟩, ex⟩
  · by_cases hb : b = p
    · subst hb
      have e' : upd w.F b o b = some u := e
      rw [upd_same] at e' ⊢; exact e'
    · have e' : upd w.F p o b = some u := e
      rw [upd_ne hb] at e' ⊢; exact s.sub b u e'
  · show upd w.F p o (w.r n) = none
    obtain ⟨z, q⟩ := (s.lv n u e).there l
    rw [upd_ne (ne_of_none q hp)]
    exact s.out n u e l
/-- a new object is a place of the small heap -/
def Wd.al (w : Wd) (p : Addr) (o : MO) : Wd := ⟨w.F, fun n => if n = w.m.length then p else w.r n, w.m ++ [o]⟩
theorem Ext.al (w : Wd) (p : Addr) (o : MO) : Ext w (w.al p o) :=
  ⟨fun _ _ h => h, fun n hn => by show (if n = w.m.length then p else w.r n) = _; rw [if_neg (Nat.ne_of_lt hn)], by show _ ≤ (w.m ++ [o]).length; simp⟩
theorem SR.al (s : SR G w H) {p : Addr} {o : MO} {u : HO} (hp : H p = none) (ho : MRep G (w.al p o) (upd H p u) p o) : SR G (w.al p o) (upd H p u) := by
  have hf := s.free hp
  have g := s.grow (Hle.put (o := u) hp)
  have rl : ∀ n, n < w.m.length → (w.al p o).r n = w.r n := (Ext.al w p o).rho
  have rn : (w.al p o).r w.m.length = p := if_pos rfl
  have split : ∀ n x, (w.al p o).m[n]? = some x → (n < w.m.length ∧ w.m[n]? = some x) ∨ (n = w.m.length ∧ x = o) := fun n x e => by
    have e' : (w.m ++ [o])[n]? = some x := e
    by_cases hn : n < w.m.length
    · rw [List.getElem?_append_left hn] at e'; exact .inl ⟨hn, e'⟩
    · rw [List.getElem?_append_right (by omega)] at e'
      have hz : n - w.m.length = 0 := by
        by_cases z : n - w.m.length = 0
        · exact z
        · rw [List.getElem?_eq_none (by simp; omega)] at e'; cases e'
      rw [hz] at e'
      simp at e'
      exact .inr ⟨by omega, e'.symm⟩
  refine ⟨fun b z e => g.sub b z e, fun n x e => ?_, fun n x e l => ?_, fun n n' x x' e l e' l' h => ?_⟩
  · rcases split n x e with ⟨hn, e'⟩ | ⟨rfl, rfl⟩
    · rw [rl n hn]; exact (g.lv n x e').ext (Ext.al w p o)
    · rw [rn]; exact ho
  · rcases split n x e with ⟨hn, e'⟩ | ⟨rfl, rfl⟩
    · rw [rl n hn]; exact s.out n x e' l
    · rw [rn]; exact hf
  · rcases split n x e with ⟨hn, e1⟩ | ⟨rfl, rfl⟩ <;> rcases split n' x' e' with ⟨hn', e2⟩ | ⟨rfl, rfl⟩
    · rw [rl n hn, rl n' hn'] at h; exact s.inj n n' x x' e1 l e2 l' h
    · rw [rl n hn, rn] at h
      obtain ⟨z, q⟩ := (s.lv n x e1).there l
      rw [h, hp] at q; cases q
    · rw [rl n' hn', rn] at h
      obtain ⟨z, q⟩ := (s.lv n' x' e2).there l'
      rw [← h, hp] at q; cases q
    · rfl
/-- a place is written -/
def Wd.wr (w : Wd) (n : Nat) (o : MO) : Wd := { w with m := w.m.set n o }
theorem Ext.wr (w : Wd) (n : Nat) (o : MO) : Ext w (w.wr n o) := ⟨fun _ _ h => h, fun _ _ => rfl, by show _ ≤ (w.m.set n o).length; simp⟩
theorem SR.wr (s : SR G w H) {n : Nat} {o o' : MO} {u : HO} (hn : w.m[n]? = some o) (l : o.live = true) (ho : MRep G (w.wr n o') (upd H (w.r n) u) (w.r n) o') : SR G (w.wr n o') (upd H (w.r n) u) := by
  have hf := s.out n o hn l
  have nl : n < w.m.length := (List.getElem?_eq_some_iff.mp hn).1
  have split : ∀ i x, (w.wr n o').m[i]? = some x → (i ≠ n ∧ w.m[i]? = some x) ∨ (i = n ∧ x = o') := fun i x e => by
    have e' : (w.m.set n o')[i]? = some x := e
    by_cases hi : i = n
    · subst hi; rw [List.getElem?_set_self nl] at e'; exact .inr ⟨rfl, (Option.some.inj e').symm⟩
    · rw [List.getElem?_set_ne (Ne.symm hi)] at e'; exact .inl ⟨hi, e'⟩
  refine ⟨Hle.put2 s.sub hf, fun i x e => ?_, fun i x e l' => ?_, fun i j x y e l1 e' l2 h => ?_⟩
  · rcases split i x e with ⟨hi, e'⟩ | ⟨rfl, rfl⟩
    · refine ((s.lv i x e').heap fun l' => ?_).ext (Ext.wr w n o')
      exact upd_ne fun h => hi (s.inj i n x o e' l' hn l h)
    · exact ho
  · rcases split i x e with ⟨hi, e'⟩ | ⟨rfl, rfl⟩
    · exact s.out i x e' l'
    · exact hf
  · rcases split i x e with ⟨hi, e1⟩ | ⟨rfl, rfl⟩ <;> rcases split j y e' with ⟨hj, e2⟩ | ⟨rfl, rfl⟩
    · exact s.inj i j x y e1 l1 e2 l2 h
    · exact s.inj _ _ x o e1 l1 hn l h
    · exact s.inj _ _ o y hn l e2 l2 h
    · rfl
/-- a place's object is frozen: the place is gone -/
def Wd.frz (w : Wd) (n : Nat) (o : HO) : Wd := ⟨upd w.F (w.r n) o, w.r, w.m.set n .gone⟩
theorem SR.frz (s : SR G w H) {n : Nat} {o : MO} {u : HO} (hn : w.m[n]? = some o) (l : o.live = true) (hu : H (w.r n) = some u) : SR G (w.frz n u) H ∧ Ext w (w.frz n u) := by
  have hf := s.out n o hn l
  have nl : n < w.m.length := (List.getElem?_eq_some_iff.mp hn).1
  have ex : Ext w (w.frz n u) := ⟨Hle.put hf, fun _ _ => rfl, by show _ ≤ (w.m.set n .gone).length; simp⟩
  have split : ∀ i x, (w.frz n u).m[i]? = some x → (i ≠ n ∧ w.m[i]? = some x) ∨ (i = n ∧ x = .gone) := fun i x e => by
    have e' : (w.m.set n .gone)[i]? = some x := e
    by_cases hi : i = n
    · subst hi; rw [List.getElem?_set_self nl] at e'; exact .inr ⟨rfl, (Option.some.inj e').symm⟩
    · rw [List.getElem?_set_ne (Ne.symm hi)] at e'; exact .inl ⟨hi, e'⟩
  refine ⟨⟨fun b z e => ?_, fun i x e => ?_, fun i x e l' => ?_, fun i j x y e l1 e' l2 h => ?_⟩, ex⟩
  · by_cases hb : b = w.r n
    · subst hb
      have e' : upd w.F (w.r n) u (w.r n) = Option.some z := e
      rw [upd_same] at e'; rw [hu]; exact e'
    · have e' : upd w.F (w.r n) u b = Option.some z := e
      rw [upd_ne hb] at e'; exact s.sub b z e'
  · rcases split i x e with ⟨hi, e'⟩ | ⟨rfl, rfl⟩
    · exact (s.lv i x e').ext ex
    · trivial
  · rcases split i x e with ⟨hi, e'⟩ | ⟨rfl, rfl⟩
    · show upd w.F (w.r n) u (w.r i) = none
      rw [upd_ne fun h => hi (s.inj i n x o e' l' hn l h)]
      exact s.out i x e' l'
    · cases l'
  · rcases split i x e with ⟨hi, e1⟩ | ⟨rfl, rfl⟩
    · rcases split j y e' with ⟨hj, e2⟩ | ⟨rfl, rfl⟩
      · exact s.inj i j x y e1 l1 e2 l2 h
      · cases l2
    · cases l1
/-- the younger places are dropped -/
def bndO (k : Nat) : MO → Bool
  | .lst ds => bndL k ds
  | .dK kvs => kvs.all fun p => bnd k p.2
  | .dT kvs => kvs.all fun p => bnd k p.2
  | .ins _ _ ds => bndL k ds
  | .gone => true
def Wd.tk (w : Wd) (k : Nat) : Wd := { w with m := w.m.take k }
theorem RepKV.cut {κ : Type} {F : Hp} {r : Nat → Addr} {m m' : Me} : ∀ {kvs : List (κ × D)} {ks : List (κ × V)}, RepKV G ⟨F, r, m⟩ kvs ks → (kvs.all fun p => bnd m'.length p.2) = true → RepKV G ⟨F, r, m'⟩ kvs ks
  | _, _, .nil, _ => .nil
  | _, _, .cons a t, e => by
    rw [List.all_cons, Bool.and_eq_true] at e
    exact .cons ⟨a.1, RepC.cut _ _ a.2 e.1⟩ (RepKV.cut t e.2)
theorem SR.tk (s : SR G w H) {k : Nat} (hk : k ≤ w.m.length) (hb : (w.m.take k).all (bndO k) = true) : SR G (w.tk k) H := by
  have lk : (w.m.take k).length = k := by rw [List.length_take]; omega
  have get : ∀ i x, (w.tk k).m[i]? = Option.some x → i < k ∧ w.m[i]? = Option.some x := fun i x e => by
    have e' : (w.m.take k)[i]? = Option.some x := e
    have hi : i < (w.m.take k).length := (List.getElem?_eq_some_iff.mp e').1
    rw [lk] at hi
    rw [List.getElem?_take_of_lt hi] at e'
    exact ⟨hi, e'⟩
  refine ⟨s.sub, fun i x e => ?_, fun i x e l => s.out i x (get i x e).2 l, fun i j x y e l e' l' h => s.inj i j x y (get i x e).2 l (get j y e').2 l' h⟩
  have b : bndO k x = true := List.all_eq_true.mp hb x (List.mem_of_getElem? (show (w.m.take k)[i]? = _ from e))
  have q := s.lv i x (get i x e).2
  cases x with
  | lst ds =>
    obtain ⟨xs, q, t⟩ := q
    refine ⟨xs, q, ?_⟩
    show RepCL G w.F w.r (w.m.take k).length ds xs
    rw [lk]; exact RepCL.cut _ _ t b
  | dK kvs =>
    obtain ⟨xs, q, t⟩ := q
    exact ⟨xs, q, RepKV.cut (m' := w.m.take k) t (by rw [lk]; exact b)⟩
  | dT kvs =>
    obtain ⟨xs, q, t⟩ := q
    exact ⟨xs, q, RepKV.cut (m' := w.m.take k) t (by rw [lk]; exact b)⟩
  | ins c ns ds =>
    obtain ⟨dx, fs, q, en, t⟩ := q
    refine ⟨dx, fs, q, en, ?_⟩
    show RepCL G w.F w.r (w.m.take k).length ds _
    rw [lk]; exact RepCL.cut _ _ t b
  | gone => trivial
/-- an object of the heap that no data and no place tells of -/
def Oth (w : Wd) (a : Addr) : Prop := w.F a = none ∧ ∀ n o, w.m[n]? = some o → o.live = true → w.r n ≠ a
/-- from one moment to a later one -/
structure Stp (w : Wd) (H : Hp) (w' : Wd) (H' : Hp) : Prop where
  ext : Ext w w'
  oth : ∀ a o, (∀ xs, o ≠ .tup xs) → H a = some o → Oth w a → H' a = some o ∧ Oth w' a
theorem Stp.refl (w : Wd) (H : Hp) : Stp w H w H := ⟨.refl w, fun _ _ _ e o => ⟨e, o⟩⟩
theorem Stp.trans {a b c : Wd} {H1 H2 H3 : Hp} (h : Stp a H1 b H2) (g : Stp b H2 c H3) : Stp a H1 c H3 :=
  ⟨h.ext.trans g.ext, fun x o nt e q => let ⟨e1, q1⟩ := h.oth x o nt e q; g.oth x o nt e1 q1⟩
theorem Stp.fz (s : SR G w H) {p : Addr} {o : HO} (hp : H p = none) : Stp w H (w.fz p o) (upd H p o) :=
  ⟨(s.fz hp).2, fun a u nt e q => by
    have ne : a ≠ p := ne_of_none e hp
    exact ⟨by rw [upd_ne ne]; exact e, by show upd w.F p o a = none; rw [upd_ne ne]; exact q.1, q.2⟩⟩
theorem Stp.al (s : SR G w H) {p : Addr} {o : MO} {u : HO} (hp : H p = none) : Stp w H (w.al p o) (upd H p u) :=
  ⟨.al w p o, fun a z nt e q => by
    have ne : a ≠ p := ne_of_none e hp
    refine ⟨by rw [upd_ne ne]; exact e, q.1, fun n x hn l => ?_⟩
    show (if n = w.m.length then p else w.r n) ≠ a
    by_cases h : n = w.m.length
    · rw [if_pos h]; exact ne.symm
    · rw [if_neg h]
      have hn' : (w.m ++ [o])[n]? = some x := hn
      have hl : n < w.m.length := by
        have := (List.getElem?_eq_some_iff.mp hn').1
        rw [List.length_append, List.length_singleton] at this
        omega
      rw [List.getElem?_append_left hl] at hn'
      exact q.2 n x hn' l⟩
theorem Stp.wr (s : SR G w H) {n : Nat} {o o' : MO} {u : HO} (hn : w.m[n]? = some o) (l : o.live = true) : Stp w H (w.wr n o') (upd H (w.r n) u) :=
  ⟨.wr w n o', fun a z nt e q => by
    have ne : a ≠ w.r n := fun h => q.2 n o hn l h.symm
    refine ⟨by rw [upd_ne ne]; exact e, q.1, fun i x hi lx => ?_⟩
    show w.r i ≠ a
    by_cases h : i = n
    · rw [h]; exact ne.symm
    · have hi' : (w.m.set n o')[i]? = some x := hi
      rw [List.getElem?_set_ne (Ne.symm h)] at hi'
      exact q.2 i x hi' lx⟩
theorem Stp.frz (s : SR G w H) {n : Nat} {o : MO} {u : HO} (hn : w.m[n]? = some o) (l : o.live = true) (hu : H (w.r n) = some u) : Stp w H (w.frz n u) H :=
  ⟨(s.frz hn l hu).2, fun a z nt e q => by
    have ne : a ≠ w.r n := fun h => q.2 n o hn l h.symm
    refine ⟨e, by show upd w.F (w.r n) u a = none; rw [upd_ne ne]; exact q.1, fun i x hi lx => ?_⟩
    show w.r i ≠ a
    by_cases h : i = n
    · rw [h]; exact ne.symm
    · have hi' : (w.m.set n .gone)[i]? = some x := hi
      rw [List.getElem?_set_ne (Ne.symm h)] at hi'
      exact q.2 i x hi' lx⟩
/-- the younger places are dropped, seen from a moment at which they were not there -/
theorem Stp.tk {w0 : Wd} {H0 : Hp} (h : Stp w0 H0 w H) : Stp w0 H0 (w.tk w0.m.length) H := by
  have hl := h.ext.len
  refine ⟨⟨h.ext.sub, h.ext.rho, by show _ ≤ (w.m.take w0.m.length).length; rw [List.length_take]; omega⟩, fun a o nt e q => ?_⟩
  obtain ⟨e1, q1, q2⟩ := h.oth a o nt e q
  refine ⟨e1, q1, fun n x hn l => q2 n x ?_ l⟩
  have hn' : (w.m.take w0.m.length)[n]? = some x := hn
  have hi : n < (w.m.take w0.m.length).length := (List.getElem?_eq_some_iff.mp hn').1
  rw [List.length_take] at hi
  rw [List.getElem?_take_of_lt (by omega)] at hn'
  exact hn'
/-- the heap grows by something that no data tells of -/
theorem Stp.grow (h : Hle H H') : Stp w H w H' := ⟨.refl w, fun a o _ e q => ⟨h a o e, q⟩⟩
/-- a tuple is taken in -/
def Wd.tp (w : Wd) (q : Addr) (ys : List V) : Wd := { w with F := upd w.F q (.tup ys) }
theorem SR.tp (s : SR G w H) {q : Addr} {ys : List V} (hq : H q = some (.tup ys)) : SR G (w.tp q ys) H ∧ Stp w H (w.tp q ys) H := by
  have ex : Ext w (w.tp q ys) := ⟨fun a o e => by
    show upd w.F q _ a = _
    by_cases ha : a = q
    · subst ha
      have := s.sub _ _ e
      rw [hq] at this
      rw [upd_same]; exact this
    · rw [upd_ne ha]; exact e, fun _ _ => rfl, Nat.le_refl _⟩
  refine ⟨⟨fun b u e => ?_, fun n u e => (s.lv n u e).ext ex, fun n u e l => ?_, s.inj⟩, ex, fun a u nt e q' => ⟨e, ?_, q'.2⟩⟩
  · have e' : upd w.F q (.tup ys) b = some u := e
    by_cases hb : b = q
    · subst hb
      rw [upd_same] at e'; rw [hq]; exact e'
    · rw [upd_ne hb] at e'; exact s.sub b u e'
  · show upd w.F q _ (w.r n) = none
    have ne : w.r n ≠ q := fun z => by
      have m := s.lv n u e
      rw [z] at m
      cases u with
      | lst ds => obtain ⟨xs, y, t⟩ := m; rw [hq] at y; cases y
      | dK kvs => obtain ⟨xs, y, t⟩ := m; rw [hq] at y; cases y
      | dT kvs => obtain ⟨xs, y, t⟩ := m; rw [hq] at y; cases y
      | ins c ns ds => obtain ⟨dx, fs, y, en, t⟩ := m; rw [hq] at y; cases y
      | gone => cases l
    rw [upd_ne ne]
    exact s.out n u e l
  · show upd w.F q _ a = none
    have ne : a ≠ q := fun z => by
      subst z
      rw [hq] at e
      cases e
      exact nt _ rfl
    rw [upd_ne ne]
    exact q'.1
/-- an other object is frozen -/
theorem SR.adopt (s : SR G w H) {p : Addr} {o : HO} (hp : H p = some o) (q : Oth w p) : SR G (w.fz p o) H ∧ Ext w (w.fz p o) := by
  have hf := q.1
  have ex : Ext w (w.fz p o) := ⟨Hle.put hf, fun _ _ => rfl, Nat.le_refl _⟩
  refine ⟨⟨fun b u e => ?_, fun n u e => (s.lv n u e).ext ex, fun n u e l => ?_, s.inj⟩, ex⟩
  · by_cases hb : b = p
    · subst hb
      have e' : upd w.F b o b = some u := e
      rw [upd_same] at e'; rw [hp]; exact e'
    · have e' : upd w.F p o b = some u := e
      rw [upd_ne hb] at e'; exact s.sub b u e'
  · show upd w.F p o (w.r n) = none
    rw [upd_ne (q.2 n u e l)]
    exact s.out n u e l
/-- an other object becomes a place -/
theorem SR.adoptP (s : SR G w H) {p : Addr} {o : MO} {u : HO} (hp : H p = some u) (q : Oth w p) (ho : MRep G (w.al p o) H p o) : SR G (w.al p o) H := by
  have rl : ∀ n, n < w.m.length → (w.al p o).r n = w.r n := (Ext.al w p o).rho
  have rn : (w.al p o).r w.m.length = p := if_pos rfl
  have split : ∀ n x, (w.al p o).m[n]? = some x → (n < w.m.length ∧ w.m[n]? = some x) ∨ (n = w.m.length ∧ x = o) := fun n x e => by
    have e' : (w.m ++ [o])[n]? = some x := e
    by_cases hn : n < w.m.length
    · rw [List.getElem?_append_left hn] at e'; exact .inl ⟨hn, e'⟩
    · rw [List.getElem?_append_right (by omega)] at e'
      have hz : n - w.m.length = 0 := by
        by_cases z : n - w.m.length = 0
        · exact z
        · rw [List.getElem?_eq_none (by simp; omega)] at e'; cases e'
      rw [hz] at e'
      simp at e'
      exact .inr ⟨by omega, e'.symm⟩
  refine ⟨fun b z e => s.sub b z e, fun n x e => ?_, fun n x e l => ?_, fun n n' x x' e l e' l' h => ?_⟩
  · rcases split n x e with ⟨hn, e'⟩ | ⟨rfl, rfl⟩
    · rw [rl n hn]; exact (s.lv n x e').ext (Ext.al w p o)
    · rw [rn]; exact ho
  · rcases split n x e with ⟨hn, e'⟩ | ⟨rfl, rfl⟩
    · rw [rl n hn]; exact s.out n x e' l
    · rw [rn]; exact q.1
  · rcases split n x e with ⟨hn, e1⟩ | ⟨rfl, rfl⟩ <;> rcases split n' x' e' with ⟨hn', e2⟩ | ⟨rfl, rfl⟩
    · rw [rl n hn, rl n' hn'] at h; exact s.inj n n' x x' e1 l e2 l' h
    · rw [rl n hn, rn] at h; exact (q.2 n x e1 l h).elim
    · rw [rl n' hn', rn] at h; exact (q.2 n' x' e2 l' h.symm).elim
    · rfl
end
end DL

/-! DL2: results, readings by data -/
namespace DL
open PySem PySem.Spec PyProof.Rows L2

/-- an exception of an own class -/
structure Er where
  cls : Nat
  ns : List Nat
  xs : List D
inductive Res (α : Type) where
  | ok (a : α) (m : Me)
  | err (x : Er) (m : Me)
  | bad
def Res.bind {α β : Type} (r : Res α) (f : α → Me → Res β) : Res β :=
  match r with
  | .ok a m => f a m
  | .err x m => .err x m
  | .bad => .bad
@[simp] theorem Res.bind_ok {α β : Type} (a : α) (m : Me) (f : α → Me → Res β) : (Res.ok a m).bind f = f a m := rfl
@[simp] theorem Res.bind_err {α β : Type} (x : Er) (m : Me) (f : α → Me → Res β) : (Res.err x m).bind f = .err x m := rfl
@[simp] theorem Res.bind_bad {α β : Type} (f : α → Me → Res β) : (Res.bad : Res α).bind f = .bad := rfl
/-- .. where an exception is not looked for -/
def Res.bindN {α β : Type} (r : Res α) (f : α → Me → Res β) : Res β :=
  match r with
  | .ok a m => f a m
  | _ => .bad
@[simp] theorem Res.bindN_ok {α β : Type} (a : α) (m : Me) (f : α → Me → Res β) : (Res.ok a m).bindN f = f a m := rfl
theorem Res.bind_assoc {α β γ : Type} (r : Res α) (f : α → Me → Res β) (g : β → Me → Res γ) : (r.bind f).bind g = r.bind fun a m => (f a m).bind g := by
  cases r <;> rfl
abbrev En := List (Option D)
abbrev Ev (α : Type) := En → Me → Res α

def ErR (G : GT) (w : Wd) (x : Er) (cls : Value) (dx : Option Addr) : Prop :=
  cls = .ref (G.cadr x.cls) ∧ ((dx = none ∧ x.ns = [] ∧ x.xs = []) ∨
    ∃ (d : Addr) (fs : List (Str × V)), dx = some d ∧ w.F d = some (.xd fs) ∧ x.ns.length = x.xs.length ∧ ∀ (i n : Nat) (e : D), x.ns[i]? = some n → x.xs[i]? = some e → ∃ v, fs.lookup (G.fnm n) = some v ∧ Rep G w e v)
theorem ErR.ext {G : GT} {w w' : Wd} {x : Er} {cls : Value} {dx : Option Addr} (h : ErR G w x cls dx) (e : Ext w w') : ErR G w' x cls dx := by
  obtain ⟨h1, h2⟩ := h
  refine ⟨h1, ?_⟩
  rcases h2 with h2 | ⟨d, fs, a, b, l, c⟩
  · exact .inl h2
  · exact .inr ⟨d, fs, a, e.sub _ _ b, l, fun i n z p q => let ⟨v, y, r⟩ := c i n z p q; ⟨v, y, r.ext e⟩⟩

structure EnvR (G : GT) (w : Wd) (env : En) (σ : L2.St) : Prop where
  len : env.length = σ.length
  get : ∀ (i : Nat) (d : D), env[i]? = some (some d) → ∃ v : V, σ[i]? = some (some v) ∧ Rep G w d v
theorem EnvR.ext {G : GT} {w w' : Wd} {env : En} {σ : L2.St} (h : EnvR G w env σ) (e : Ext w w') : EnvR G w' env σ :=
  ⟨h.len, fun i d q => let ⟨v, y, r⟩ := h.get i d q; ⟨v, y, r.ext e⟩⟩
theorem EnvR.set {G : GT} {w : Wd} {env : En} {σ : L2.St} (h : EnvR G w env σ) {d : D} {v : V} (i : Nat) (r : Rep G w d v) : EnvR G w (env.set i (some d)) (σ.set i (some v)) := by
  refine ⟨by rw [List.length_set, List.length_set, h.len], fun j e q => ?_⟩
  by_cases hj : j = i
  · subst hj
    by_cases hl : j < env.length
    · rw [List.getElem?_set_self hl] at q
      cases q
      exact ⟨v, by rw [List.getElem?_set_self (by rw [← h.len]; exact hl)], r⟩
    · rw [List.getElem?_eq_none (by simpa using hl)] at q; cases q
  · rw [List.getElem?_set_ne (Ne.symm hj)] at q
    rw [List.getElem?_set_ne (Ne.symm hj)]
    exact h.get j e q

/-- what a result asks of its end: R tells how results stand for what the reading hands on -/
def Post {α β : Type} (G : GT) (R : Wd → α → β → Prop) (W : WX) (σ : L2.St) (w : Wd) (H : Hp) (Q : β → Hp → Prop) : Res α → Prop
  | .ok a m' => ∀ b H' w', w'.m = m' → Stp w H w' H' → SR G w' H' → R w' a b → Q b H'
  | .err x m' => ∀ cls dx H' w', w'.m = m' → Stp w H w' H' → SR G w' H' → ErR G w' x cls dx → W cls dx σ H'
  | .bad => False
theorem Post.mono {α β : Type} {G : GT} {R : Wd → α → β → Prop} {W : WX} {σ : L2.St} {w : Wd} {H : Hp} {Q Q' : β → Hp → Prop} {r : Res α} (h : Post G R W σ w H Q r) (hq : ∀ b H, Q b H → Q' b H) : Post G R W σ w H Q' r := by
  cases r with
  | ok a m => exact fun b H' w' e x s q => hq _ _ (h b H' w' e x s q)
  | err x m => exact h
  | bad => exact h
theorem Post.step {α β : Type} {G : GT} {R : Wd → α → β → Prop} {W : WX} {σ : L2.St} {w w1 : Wd} {H H1 : Hp} {Q : β → Hp → Prop} {r : Res α} (h : Post G R W σ w H Q r) (e1 : Stp w H w1 H1) : Post G R W σ w1 H1 Q r := by
  cases r with
  | ok a m => exact fun b H' w' e x s q => h b H' w' e (e1.trans x) s q
  | err x m => exact fun c d H' w' e x s q => h c d H' w' e (e1.trans x) s q
  | bad => exact h
/-- the reading of an evaluation -/
def tG {α β : Type} (G : GT) (R : Wd → α → β → Prop) (W : WX) (g : Ev α) : L2.St → Hp → (β → Hp → Prop) → Prop :=
  fun σ H Q => ∃ w env, SR G w H ∧ EnvR G w env σ ∧ Post G R W σ w H Q (g env w.m)
/-- .. and with something in hand -/
def kG {γ δ α β : Type} (G : GT) (S : Wd → γ → δ → Prop) (R : Wd → α → β → Prop) (W : WX) (k : γ → Ev α) (d : δ) : L2.St → Hp → (β → Hp → Prop) → Prop :=
  fun σ H Q => ∃ w env c, SR G w H ∧ EnvR G w env σ ∧ S w c d ∧ Post G R W σ w H Q (k c env w.m)
def Mono {γ δ : Type} (S : Wd → γ → δ → Prop) : Prop := ∀ w w' c d, Ext w w' → S w c d → S w' c d
def RPair {α β γ δ : Type} (R : Wd → α → β → Prop) (S : Wd → γ → δ → Prop) : Wd → α × γ → β × δ → Prop := fun w x y => R w x.1 y.1 ∧ S w x.2 y.2
theorem Mono.pair {α β γ δ : Type} {R : Wd → α → β → Prop} {S : Wd → γ → δ → Prop} (h : Mono R) (g : Mono S) : Mono (RPair R S) := fun w w' _ _ e q => ⟨h w w' _ _ e q.1, g w w' _ _ e q.2⟩
theorem mono_rep (G : GT) : Mono (Rep G) := fun _ _ _ _ e q => q.ext e
theorem mono_repL (G : GT) : Mono (RepL G) := fun _ _ _ _ e q => RepL.ext q e
def REq {α : Type} : Wd → α → α → Prop := fun _ a b => a = b
theorem mono_eq {α : Type} : Mono (REq (α := α)) := fun _ _ _ _ _ q => q
section
variable {α β γ δ ε ζ : Type} {G : GT} {R : Wd → α → β → Prop} {S : Wd → γ → δ → Prop} {T : Wd → ε → ζ → Prop} {W : WX} {σ : L2.St} {H : Hp}
theorem tG.bind {g : Ev γ} {k : γ → Ev α} {Q : β → Hp → Prop} (h : tG G R W (fun env m => (g env m).bind fun c m' => k c env m') σ H Q) : tG G S W g σ H fun d H1 => kG G S R W k d σ H1 Q := by
  obtain ⟨w, env, s, e, p⟩ := h
  refine ⟨w, env, s, e, ?_⟩
  dsimp only at p
  cases q : g env w.m with
  | bad => rw [q] at p; exact p
  | err x m => rw [q] at p; exact p
  | ok c m =>
    rw [q] at p
    intro d H' w' em ex s' r
    subst em
    exact ⟨w', env, c, s', e.ext ex.ext, r, Post.step p ex⟩
theorem kG.bind (hT : Mono T) {g : Ev γ} {k : ε × γ → Ev α} {z : ζ} {Q : β → Hp → Prop} (h : kG G T R W (fun x env m => (g env m).bind fun c m' => k (x, c) env m') z σ H Q) : tG G S W g σ H fun d H1 => kG G (RPair T S) R W k (z, d) σ H1 Q := by
  obtain ⟨w, env, x, s, e, t, p⟩ := h
  refine ⟨w, env, s, e, ?_⟩
  dsimp only at p
  cases q : g env w.m with
  | bad => rw [q] at p; exact p
  | err x m => rw [q] at p; exact p
  | ok c m =>
    rw [q] at p
    intro d H' w' em ex s' r
    subst em
    exact ⟨w', env, (x, c), s', e.ext ex.ext, ⟨hT w w' _ _ ex.ext t, r⟩, Post.step p ex⟩
theorem tG.mono {g : Ev α} {Q Q' : β → Hp → Prop} (h : tG G R W g σ H Q) (hq : ∀ b H, Q b H → Q' b H) : tG G R W g σ H Q' := by
  obtain ⟨w, env, s, e, p⟩ := h
  exact ⟨w, env, s, e, p.mono hq⟩
end

abbrev tE (G : GT) (W : WX) (g : Ev D) : TE := tG G (Rep G) W g
abbrev tB' (G : GT) (W : WX) (g : Ev Bool) : TT := tG G REq W g
abbrev tL (G : GT) (W : WX) (g : Ev (List D)) : TA := tG G (RepL G) W g

theorem _root_.L2.PE.imp {X : Cx} {e : Expr} {t t' : TE} (h : PE X e t) (i : ∀ σ H Q, t' σ H Q → t σ H Q) : PE X e t' := ⟨fun pins s σ H Q I hw => h.run pins s σ H Q I (i σ H Q hw)⟩
theorem _root_.L2.PT.imp {X : Cx} {e : Expr} {t t' : TT} (h : PT X e t) (i : ∀ σ H Q, t' σ H Q → t σ H Q) : PT X e t' := ⟨fun pins s σ H Q I hw => h.run pins s σ H Q I (i σ H Q hw)⟩
theorem _root_.L2.PA.imp {X : Cx} {es : List Expr} {t t' : TA} (h : PA X es t) (i : ∀ σ H Q, t' σ H Q → t σ H Q) : PA X es t' := ⟨fun pos pins s σ H Q I hw => h.run pos pins s σ H Q I (i σ H Q hw)⟩
theorem _root_.L2.PE.or {X : Cx} {e : Expr} {t t' : TE} (h : PE X e t) (g : PE X e t') : PE X e fun σ H Q => t σ H Q ∨ t' σ H Q := ⟨fun pins s σ H Q I hw => hw.elim (h.run pins s σ H Q I) (g.run pins s σ H Q I)⟩

/-! ### operators by data -/
/-- an operator that raises nothing -/
def rop (G : GT) (f : D → D → Me → Res D) : R2 := fun x y H Q => ∃ w d e, SR G w H ∧ Rep G w d x ∧ Rep G w e y ∧ Post G (Rep G) (fun _ _ _ _ => False) [] w H Q (f d e w.m)
theorem kG.rop {G : GT} {W : WX} {σ : L2.St} {H : Hp} {Q : VK} {f : D → D → Me → Res D} (hne : ∀ d e m x m', f d e m ≠ .err x m') {x y : V} (h : kG G (RPair (Rep G) (Rep G)) (Rep G) W (fun p _ m => f p.1 p.2 m) (x, y) σ H Q) : rop G f x y H Q := by
  obtain ⟨w, env, c, s, e, ⟨r1, r2⟩, p⟩ := h
  refine ⟨w, c.1, c.2, s, r1, r2, ?_⟩
  dsimp only at p
  cases q : f c.1 c.2 w.m with
  | bad => rw [q] at p; exact p
  | err x m => exact (hne _ _ _ _ _ q).elim
  | ok a m => rw [q] at p; exact p
theorem pe_bin {X : Cx} {G : GT} {W : WX} {a b : Expr} {op : Operator} {pos : Pos} {ga gb : Ev D} {f : D → D → Me → Res D} (ho : OpR X (binaryOp op) (rop G f)) (hne : ∀ d e m x m', f d e m ≠ .err x m') (ha : PE X a (tE G W ga)) (hb : PE X b (tE G W gb)) :
    PE X (.BinOp a op b pos) (tE G W fun env m => (ga env m).bind fun d m1 => (gb env m1).bind fun e m2 => f d e m2) :=
  (pe_op ho ha hb).imp fun σ H Q h => (tG.bind (S := Rep G) (g := ga) (k := fun d env m1 => (gb env m1).bind fun e m2 => f d e m2) h).mono fun x H1 h1 =>
    (kG.bind (mono_rep G) (S := Rep G) (g := gb) (k := fun p _ m => f p.1 p.2 m) h1).mono fun y H2 h2 => kG.rop hne h2
end DL

/-! DL3: views, new objects, operators -/
namespace DL
open PySem PySem.Spec PyProof.Rows L2

/-- a place is seen as what stands there -/
def vw (m : Me) : D → D
  | .loc n => match m[n]? with
    | some (.lst ds) => .lst ds
    | some (.ins c ns ds) => .ins c ns ds
    | _ => .loc n
  | d => d
section
variable {G : GT} {w : Wd} {H : Hp} {d : D} {v : V}
theorem rep_non (h : Rep G w .non v) : v = .non := by unfold Rep RepC at h; exact h
theorem rep_bl {b : Bool} (h : Rep G w (.bl b) v) : v = .bl b := by unfold Rep RepC at h; exact h
theorem rep_int {i : Int} (h : Rep G w (.int i) v) : v = .int i := by unfold Rep RepC at h; exact h
theorem rep_str {x : Str} (h : Rep G w (.str x) v) : v = .str x ∧ SOk x := by unfold Rep RepC at h; exact h
theorem rep_ty {x : String} (h : Rep G w (.ty x) v) : v = .ty x := by unfold Rep RepC at h; exact h
theorem rep_cls {x : Nat} (h : Rep G w (.cls x) v) : v = .ref (G.cadr x) := by unfold Rep RepC at h; exact h
theorem rep_fn {x : Nat} (h : Rep G w (.fn x) v) : v = .ref (G.fadr x) := by unfold Rep RepC at h; exact h
theorem rep_loc {n : Nat} (h : Rep G w (.loc n) v) : n < w.m.length ∧ v = .ref (w.r n) := by unfold Rep RepC at h; exact h
theorem rep_lst {ds : List D} (h : Rep G w (.lst ds) v) : ∃ a xs, v = .ref a ∧ SqL G.K w.F a xs ∧ RepL G w ds xs := by unfold Rep RepC at h; exact h
theorem rep_tupF {ds : List D} (h : Rep G w (.tup ds) v) : ∃ a xs, v = .ref a ∧ w.F a = some (.tup xs) ∧ RepL G w ds xs := by unfold Rep RepC at h; exact h
theorem rep_tup {ds : List D} (h : Rep G w (.tup ds) v) : ∃ a xs, v = .ref a ∧ SqT G.K w.F a xs ∧ RepL G w ds xs := by
  obtain ⟨a, xs, e, q, t⟩ := rep_tupF h
  exact ⟨a, xs, e, .inl (.inl q), t⟩
theorem rep_ins {c : Nat} {ns : List Nat} {ds : List D} (h : Rep G w (.ins c ns ds) v) : ∃ a dx fs, v = .ref a ∧ w.F a = some (.ins (G.cadr c) dx fs) ∧ fs.map (·.1) = ns.map G.fnm ∧ RepL G w ds (fs.map (·.2)) := by unfold Rep RepC at h; exact h
theorem rep_rng {lo hi : Int} (h : Rep G w (.rng lo hi) v) : ∃ a, v = .ref a ∧ w.F a = some (.rng lo hi) := by unfold Rep RepC at h; exact h
theorem mk_non : Rep G w .non .non := by unfold Rep RepC; rfl
theorem mk_bl {b : Bool} : Rep G w (.bl b) (.bl b) := by unfold Rep RepC; rfl
theorem mk_int {i : Int} : Rep G w (.int i) (.int i) := by unfold Rep RepC; rfl
theorem mk_str {x : Str} (h : SOk x) : Rep G w (.str x) (.str x) := by unfold Rep RepC; exact ⟨rfl, h⟩
theorem mk_lst {ds : List D} {a : Addr} {xs : List V} (h : SqL G.K w.F a xs) (t : RepL G w ds xs) : Rep G w (.lst ds) (.ref a) := by unfold Rep RepC; exact ⟨a, xs, rfl, h, t⟩
theorem mk_tup {ds : List D} {a : Addr} {xs : List V} (h : w.F a = some (.tup xs)) (t : RepL G w ds xs) : Rep G w (.tup ds) (.ref a) := by unfold Rep RepC; exact ⟨a, xs, rfl, h, t⟩
theorem mk_loc {n : Nat} (h : n < w.m.length) : Rep G w (.loc n) (.ref (w.r n)) := by unfold Rep RepC; exact ⟨h, rfl⟩

theorem vw_cases (m : Me) (d : D) : vw m d = d ∨ ∃ n, d = .loc n ∧ ((∃ ds, m[n]? = some (.lst ds) ∧ vw m d = .lst ds) ∨ (∃ c ns ds, m[n]? = some (.ins c ns ds) ∧ vw m d = .ins c ns ds)) := by
  cases d with
  | loc n =>
    cases e : m[n]? with
    | none => exact .inl (by simp only [vw, e])
    | some o =>
      cases o with
      | lst ds => exact .inr ⟨n, rfl, .inl ⟨ds, e, by simp only [vw, e]⟩⟩
      | ins c ns ds => exact .inr ⟨n, rfl, .inr ⟨c, ns, ds, e, by simp only [vw, e]⟩⟩
      | dK _ => exact .inl (by simp only [vw, e])
      | dT _ => exact .inl (by simp only [vw, e])
      | gone => exact .inl (by simp only [vw, e])
  | _ => exact .inl rfl
theorem vw_flat {e : D} (h : vw w.m d = e) (r : Rep G w d v) (f : ∀ ds, e ≠ .lst ds) (g : ∀ c ns ds, e ≠ .ins c ns ds) : Rep G w e v := by
  rcases vw_cases w.m d with q | ⟨n, rfl, ⟨ds, _, q⟩ | ⟨c, ns, ds, _, q⟩⟩
  · rw [← h, q]; exact r
  · exact (f ds (h.symm.trans q)).elim
  · exact (g c ns ds (h.symm.trans q)).elim
theorem vw_non (r : Rep G w d v) (h : vw w.m d = .non) : v = .non := rep_non (vw_flat h r (fun _ z => nomatch z) fun _ _ _ z => nomatch z)
theorem vw_bl {b : Bool} (r : Rep G w d v) (h : vw w.m d = .bl b) : v = .bl b := rep_bl (vw_flat h r (fun _ z => nomatch z) fun _ _ _ z => nomatch z)
theorem vw_int {i : Int} (r : Rep G w d v) (h : vw w.m d = .int i) : v = .int i := rep_int (vw_flat h r (fun _ z => nomatch z) fun _ _ _ z => nomatch z)
theorem vw_str {x : Str} (r : Rep G w d v) (h : vw w.m d = .str x) : v = .str x ∧ SOk x := rep_str (vw_flat h r (fun _ z => nomatch z) fun _ _ _ z => nomatch z)
theorem vw_tup {ds : List D} (s : SR G w H) (r : Rep G w d v) (h : vw w.m d = .tup ds) : ∃ a xs, v = .ref a ∧ SqT G.K H a xs ∧ RepL G w ds xs := by
  obtain ⟨a, xs, e, q, t⟩ := rep_tup (vw_flat h r (fun _ z => nomatch z) fun _ _ _ z => nomatch z)
  exact ⟨a, xs, e, SqT.le s.sub q, t⟩
theorem vw_lst {ds : List D} (s : SR G w H) (r : Rep G w d v) (h : vw w.m d = .lst ds) : ∃ a xs, v = .ref a ∧ SqL G.K H a xs ∧ RepL G w ds xs := by
  rcases vw_cases w.m d with q | ⟨n, rfl, ⟨es, e, q⟩ | ⟨c, ns, es, _, q⟩⟩
  · rw [q] at h; subst h
    obtain ⟨a, xs, e, q, t⟩ := rep_lst r
    exact ⟨a, xs, e, SqL.le s.sub q, t⟩
  · rw [q] at h; cases h
    obtain ⟨xs, hx, t⟩ := s.lv n _ e
    exact ⟨_, xs, (rep_loc r).2, .of hx, t⟩
  · rw [q] at h; cases h
theorem vw_ins {c : Nat} {ns : List Nat} {ds : List D} (s : SR G w H) (r : Rep G w d v) (h : vw w.m d = .ins c ns ds) :
    ∃ a dx fs, v = .ref a ∧ H a = some (.ins (G.cadr c) dx fs) ∧ fs.map (·.1) = ns.map G.fnm ∧ RepL G w ds (fs.map (·.2)) := by
  rcases vw_cases w.m d with q | ⟨n, rfl, ⟨es, e, q⟩ | ⟨c, ns, es, e, q⟩⟩
  · rw [q] at h; subst h
    obtain ⟨a, dx, fs, e, q, en, t⟩ := rep_ins r
    exact ⟨a, dx, fs, e, s.sub _ _ q, en, t⟩
  · rw [q] at h; cases h
  · rw [q] at h; cases h
    obtain ⟨dx, fs, hx, en, t⟩ := s.lv n _ e
    exact ⟨_, dx, fs, (rep_loc r).2, hx, en, t⟩
end

/-! ### results that an operator hands on -/
abbrev WN : WX := fun _ _ _ _ => False
section
variable {G : GT} {w : Wd} {H : Hp} {W : WX} {σ : L2.St} {Q : VK}
theorem post_ret {α β : Type} {R : Wd → α → β → Prop} {a : α} {b : β} {Q : β → Hp → Prop} (s : SR G w H) (r : R w a b) (h : Post G R W σ w H Q (.ok a w.m)) : Q b H := h b H w rfl (.refl w H) s r
/-- a new list: frozen at once, or a place -/
def newL (p : Bool) (ds : List D) (m : Me) : Res D := if p then .ok (.loc m.length) (m ++ [.lst ds]) else .ok (.lst ds) m
def newT (ds : List D) (m : Me) : Res D := .ok (.tup ds) m
theorem post_newL {p : Bool} {ds : List D} {xs : List V} {a : Addr} (s : SR G w H) (r : RepL G w ds xs) (ha : H a = none) (h : Post G (Rep G) W σ w H Q (newL p ds w.m)) : Q (.ref a) (upd H a (.lst xs)) := by
  unfold newL at h
  cases p with
  | true =>
    rw [if_pos rfl] at h
    have rn : (w.al a (.lst ds)).r w.m.length = a := if_pos rfl
    refine h _ _ (w.al a (.lst ds)) rfl (Stp.al s ha) (s.al ha ⟨xs, upd_same, r.ext (Ext.al w a _)⟩) ?_
    have q := mk_loc (G := G) (w := w.al a (.lst ds)) (n := w.m.length) (by show _ < (w.m ++ [_]).length; simp)
    rw [rn] at q
    exact q
  | false =>
    rw [if_neg (by decide)] at h
    obtain ⟨s', ex⟩ := s.fz (o := .lst xs) ha
    exact h _ _ (w.fz a (.lst xs)) rfl (Stp.fz s ha) s' (mk_lst (.of upd_same) (r.ext ex))
theorem post_newT {ds : List D} {xs : List V} {a : Addr} (s : SR G w H) (r : RepL G w ds xs) (ha : H a = none) (h : Post G (Rep G) W σ w H Q (newT ds w.m)) : Q (.ref a) (upd H a (.tup xs)) := by
  obtain ⟨s', ex⟩ := s.fz (o := .tup xs) ha
  exact h _ _ (w.fz a (.tup xs)) rfl (Stp.fz s ha) s' (mk_tup upd_same (r.ext ex))
end

/-! ### arithmetic -/
theorem SOk.app {x y : Str} (l : x.length + y.length ≤ sizeLine) : SOk (x ++ y) := by
  have e : (x ++ y).length = x.length + y.length := by
    show (x.cps ++ y.cps).size = _
    rw [Array.size_append]; rfl
  unfold SOk
  rw [e]; exact l
def addD (p : Bool) (d e : D) (m : Me) : Res D :=
  match vw m d, vw m e with
  | .int i, .int j => .ok (.int (i + j)) m
  | .str x, .str y => if x.length + y.length ≤ sizeLine then .ok (.str (x ++ y)) m else .bad
  | .lst xs, .lst ys => if xs.length + ys.length ≤ sizeLine then newL p (xs ++ ys) m else .bad
  | .tup xs, .tup ys => if xs.length + ys.length ≤ sizeLine then (if xs.isEmpty then .ok (.tup ys) m else if ys.isEmpty then .ok (.tup xs) m else newT (xs ++ ys) m) else .bad
  | _, _ => .bad
/-- list + list, any that can be read -/
theorem op_catK {X : Cx} : OpR X (binaryOp .Add) fun x y H Q => ∃ l b xs zs, x = .ref l ∧ y = .ref b ∧ SqL X.K H l xs ∧ SqL X.K H b zs ∧ xs.length + zs.length ≤ sizeLine ∧ ∀ p, H p = none → Q (.ref p) (upd H p (.lst (xs ++ zs))) := by
  intro pins s σ H x y v u Q I rx ry h
  obtain ⟨l, b, xs, zs, rfl, rfl, hH, hB, hz, q⟩ := h
  cases rx
  cases ry
  obtain ⟨its, r, pl, z⟩ := I.list hH
  obtain ⟨its2, r2, pl2, z2⟩ := I.list hB
  have hl := r.length
  have hl2 := r2.length
  obtain ⟨⟨cls, dd, data, sl⟩, ho, hc, n, hd⟩ := pl.isList
  obtain ⟨⟨cls2, dd2, data2, sl2⟩, ho2, hc2, n2, hd2⟩ := pl2.isList
  simp only at hc hd hc2 hd2
  subst hc hd hc2 hd2
  have e : its.toArray ++ its2.toArray = (its ++ its2).toArray := by simp
  refine PySem.concat_meets ⟨_, ho, rfl⟩ ⟨_, ho2, rfl⟩ noFill_list_add seq_list_add PySem.F.slot_list_add PySem.F.entry_list_add (PySem.F.args_list_add_2 _ _) (list_addW l b its.toArray its2.toArray n n2 dd dd2 sl sl2 (by simp; omega)) ⟨ho, ho2, ?_⟩
  rw [e]
  exact ⟨.ref _, _, I.lnew (t' := s.toks) (r.append r2) (by rw [List.length_append]; omega), rfl, q _ I.fresh⟩
section
variable {X : Cx} {G : GT}
theorem op_addD {p : Bool} (hK : X.K = G.K) : OpR X (binaryOp .Add) (rop G (addD p)) := by
  intro pins s σ H x y v u Q I rx ry h
  obtain ⟨w, d, e, S, r1, r2, q⟩ := h
  unfold addD at q
  split at q
  · rename_i i j h1 h2
    cases vw_int r1 h1
    cases vw_int r2 h2
    exact op_add pins s σ H _ _ v u Q I rx ry ⟨i, j, rfl, rfl, post_ret S mk_int q⟩
  · rename_i i j h1 h2
    obtain ⟨rfl, o1⟩ := vw_str r1 h1
    obtain ⟨rfl, o2⟩ := vw_str r2 h2
    split at q
    · rename_i hl
      exact op_add_str pins s σ H _ _ v u Q I rx ry ⟨i, j, rfl, rfl, hl, post_ret S (mk_str (SOk.app hl)) q⟩
    · exact q.elim
  · rename_i xs ys h1 h2
    obtain ⟨a, vs, rfl, g1, t1⟩ := vw_lst S r1 h1
    obtain ⟨b, us, rfl, g2, t2⟩ := vw_lst S r2 h2
    rw [← hK] at g1 g2
    have l1 := t1.length
    have l2 := t2.length
    split at q
    · rename_i hl
      exact op_catK pins s σ H _ _ v u Q I rx ry ⟨a, b, vs, us, rfl, rfl, g1, g2, by omega, fun p hp => post_newL S (t1.append t2) hp q⟩
    · exact q.elim
  · rename_i xs ys h1 h2
    obtain ⟨a, vs, rfl, g1, t1⟩ := vw_tup S r1 h1
    obtain ⟨b, us, rfl, g2, t2⟩ := vw_tup S r2 h2
    rw [← hK] at g1 g2
    have l1 := t1.length
    have l2 := t2.length
    split at q
    · rename_i hl
      refine op_catA pins s σ H _ _ v u Q I rx ry ⟨a, b, vs, us, rfl, rfl, g1, g2, by omega, fun e1 => ?_, fun e1 e2 => ?_, fun e1 e2 p hp => ?_⟩
      · subst e1
        have e0 : xs = [] := List.eq_nil_of_length_eq_zero l1.symm
        subst e0
        exact post_ret S (vw_flat h2 r2 (fun _ z => nomatch z) fun _ _ _ z => nomatch z) q
      · subst e2
        have e0 : ys = [] := List.eq_nil_of_length_eq_zero l2.symm
        subst e0
        have ex : xs.isEmpty = false := by
          cases xs with
          | nil => exact (e1 (List.eq_nil_of_length_eq_zero l1)).elim
          | cons _ _ => rfl
        rw [if_neg (by rw [ex]; decide)] at q
        exact post_ret S (vw_flat h1 r1 (fun _ z => nomatch z) fun _ _ _ z => nomatch z) q
      · have ex : xs.isEmpty = false := by
          cases xs with
          | nil => exact (e1 (List.eq_nil_of_length_eq_zero l1)).elim
          | cons _ _ => rfl
        have ey : ys.isEmpty = false := by
          cases ys with
          | nil => exact (e2 (List.eq_nil_of_length_eq_zero l2)).elim
          | cons _ _ => rfl
        rw [if_neg (by rw [ex]; decide), if_neg (by rw [ey]; decide)] at q
        exact post_newT S (t1.append t2) hp q
    · exact q.elim
  · exact q.elim
end

def intOp (f : Int → Int → Res D) (d e : D) (m : Me) : Res D :=
  match vw m d, vw m e with
  | .int i, .int j => f i j
  | _, _ => .bad
def subD (d e : D) (m : Me) : Res D := intOp (fun i j => .ok (.int (i - j)) m) d e m
def mulD (d e : D) (m : Me) : Res D := intOp (fun i j => if i.natAbs.log2 + j.natAbs.log2 < 1000000 then .ok (.int (i * j)) m else .bad) d e m
def fdivD (d e : D) (m : Me) : Res D := intOp (fun i j => if 0 < j ∧ j.natAbs.log2 < 9000 then .ok (.int (i / j)) m else .bad) d e m
def modD (d e : D) (m : Me) : Res D := intOp (fun i j => if 0 < j then .ok (.int (i % j)) m else .bad) d e m
def powD (d e : D) (m : Me) : Res D := intOp (fun i j => if 0 ≤ j ∧ j ≤ 1000000 ∧ i.natAbs < 2 ^ 64 then .ok (.int (i ^ j.toNat)) m else .bad) d e m
section
variable {X : Cx} {G : GT}
theorem intOp_ok {f : Int → Int → Me → Res D} {g : Value → Value → Sem Value} {C : Int → Int → Prop} {h : Int → Int → V} (ho : OpR X g (rI C h))
    (hf : ∀ i j w H Q, SR G w H → Post G (Rep G) WN [] w H Q (f i j w.m) → C i j ∧ Q (h i j) H) : OpR X g (rop G fun d e m => intOp (fun i j => f i j m) d e m) := by
  intro pins s σ H x y v u Q I rx ry hh
  obtain ⟨w, d, e, S, r1, r2, q⟩ := hh
  unfold intOp at q
  dsimp only at q
  split at q
  · rename_i i j h1 h2
    cases vw_int r1 h1
    cases vw_int r2 h2
    obtain ⟨c, q⟩ := hf i j w H Q S q
    exact ho pins s σ H _ _ v u Q I rx ry ⟨i, j, rfl, rfl, c, q⟩
  · exact q.elim
theorem op_subD : OpR X (binaryOp .Sub) (rop G subD) := by
  have h : OpR X (binaryOp .Sub) (rI (fun _ _ => True) fun i j => .int (i - j)) := fun pins s σ H x y v u Q I rx ry ⟨i, j, a, b, _, q⟩ => op_sub pins s σ H x y v u Q I rx ry ⟨i, j, a, b, q⟩
  exact intOp_ok h fun i j w H Q S q => ⟨trivial, post_ret S mk_int q⟩
theorem op_mulD : OpR X (binaryOp .Mult) (rop G mulD) := intOp_ok op_mulW fun i j w H Q S q => by
  split at q
  · rename_i c; exact ⟨c, post_ret S mk_int q⟩
  · exact q.elim
theorem op_fdivD : OpR X (binaryOp .FloorDiv) (rop G fdivD) := intOp_ok op_fdivW fun i j w H Q S q => by
  split at q
  · rename_i c; exact ⟨c, post_ret S mk_int q⟩
  · exact q.elim
theorem op_modD : OpR X (binaryOp .Mod) (rop G modD) := intOp_ok op_mod fun i j w H Q S q => by
  split at q
  · rename_i c; exact ⟨c, post_ret S mk_int q⟩
  · exact q.elim
theorem op_powD : OpR X (binaryOp .Pow) (rop G powD) := intOp_ok op_pow fun i j w H Q S q => by
  split at q
  · rename_i c; exact ⟨c, post_ret S mk_int q⟩
  · exact q.elim
end

/-- a unary operator -/
def run1 (G : GT) (f : D → Me → Res D) : V → Hp → VK → Prop := fun x H Q => ∃ w d, SR G w H ∧ Rep G w d x ∧ Post G (Rep G) WN [] w H Q (f d w.m)
def negD (d : D) (m : Me) : Res D := match vw m d with | .int i => .ok (.int (-i)) m | _ => .bad
theorem un_negD {X : Cx} {G : GT} : UnR X (unaryOp .USub) (run1 G negD) := by
  intro pins s σ H x v Q I rx h
  obtain ⟨w, d, S, r1, q⟩ := h
  unfold negD at q
  split at q
  · rename_i i h1
    cases vw_int r1 h1
    exact un_neg pins s σ H _ v Q I rx ⟨i, rfl, post_ret S mk_int q⟩
  · exact q.elim

/-! ### data of any depth -/
def pyF (m : Me) : Nat → D → Option PyData
  | 0, _ => none
  | n + 1, d => match vw m d with
    | .non => some .none
    | .bl b => some (.bool b)
    | .int i => some (.int i)
    | .str x => some (.str x)
    | .lst ds => (ds.mapM (pyF m n)).map .list
    | .tup ds => (ds.mapM (pyF m n)).map .tuple
    | _ => none
theorem pyF_ok {G : GT} {w : Wd} {H : Hp} (S : SR G w H) : ∀ (n : Nat) (d : D) (v : V) (p : PyData), Rep G w d v → pyF w.m n d = some p → Dp G.K H v p
  | 0, d, v, p, r, h => by simp [pyF] at h
  | n + 1, d, v, p, r, h => by
    have all : ∀ (ds : List D) (vs : List V) (ps : List PyData), RepL G w ds vs → ds.mapM (pyF w.m n) = some ps → DpAll G.K H vs ps := by
      intro ds
      induction ds with
      | nil =>
        intro vs ps r h
        have e : vs = [] := RepCL.nil_inv r
        subst e
        have e2 : some [] = some ps := h
        cases e2
        exact .nil
      | cons d ds ih =>
        intro vs ps r h
        obtain ⟨x, ys, rfl, a, t⟩ := RepCL.cons_inv r
        rw [List.mapM_cons] at h
        cases e1 : pyF w.m n d with
        | none => rw [e1] at h; cases h
        | some q =>
          rw [e1] at h
          cases e2 : ds.mapM (pyF w.m n) with
          | none => rw [e2] at h; cases h
          | some qs =>
            rw [e2] at h
            cases h
            exact .cons (pyF_ok S n d x q a e1) (ih ys qs t e2)
    unfold pyF at h
    split at h
    · rename_i e; cases h; cases vw_non r e; exact .non
    · rename_i b e; cases h; cases vw_bl r e; exact .bl b
    · rename_i b e; cases h; cases vw_int r e; exact .int b
    · rename_i b e; cases h; obtain ⟨rfl, _⟩ := vw_str r e; exact .str b
    · rename_i ds e
      obtain ⟨a, xs, rfl, g, t⟩ := vw_lst S r e
      cases e2 : ds.mapM (pyF w.m n) with
      | none => rw [e2] at h; cases h
      | some qs => rw [e2] at h; cases h; exact .lst g (all ds xs qs t e2)
    · rename_i ds e
      obtain ⟨a, xs, rfl, g, t⟩ := vw_tup S r e
      cases e2 : ds.mapM (pyF w.m n) with
      | none => rw [e2] at h; cases h
      | some qs => rw [e2] at h; cases h; exact .tup g (all ds xs qs t e2)
    · cases h
abbrev py (m : Me) (d : D) : Option PyData := pyF m 60 d

/-! ### comparisons -/
def strLt (x y : Str) : Bool := decide (x.cps.toList < y.cps.toList)
def ltD (d e : D) (m : Me) : Res D :=
  match vw m d, vw m e with
  | .int i, .int j => .ok (.bl (decide (i < j))) m
  | .str x, .str y => .ok (.bl (strLt x y)) m
  | _, _ => .bad
def leD (d e : D) (m : Me) : Res D :=
  match vw m d, vw m e with
  | .int i, .int j => .ok (.bl (decide (i ≤ j))) m
  | .str x, .str y => .ok (.bl (!strLt y x)) m
  | _, _ => .bad
def gtD (d e : D) (m : Me) : Res D :=
  match vw m d, vw m e with
  | .int i, .int j => .ok (.bl (decide (j < i))) m
  | .str x, .str y => .ok (.bl (strLt y x)) m
  | _, _ => .bad
def geD (d e : D) (m : Me) : Res D :=
  match vw m d, vw m e with
  | .int i, .int j => .ok (.bl (decide (j ≤ i))) m
  | .str x, .str y => .ok (.bl (!strLt x y)) m
  | _, _ => .bad
/-- == of data -/
def eqB (m : Me) (d e : D) : Option Bool :=
  match vw m d, vw m e with
  | .int i, .int j => some (decide (i = j))
  | .str x, .str y => some (decide (x = y))
  | .bl x, .bl y => some (decide (x = y))
  | _, _ => match py m d, py m e with
    | some p, some q => if SeqAt.shaped p && SeqAt.shaped q then some (PyData.eqv p q) else none
    | _, _ => none
def ofB (m : Me) : Option Bool → Res D
  | some b => .ok (.bl b) m
  | none => .bad
def eqD (d e : D) (m : Me) : Res D := ofB m (eqB m d e)
def neD (d e : D) (m : Me) : Res D := ofB m ((eqB m d e).map (!·))
def isB (m : Me) (d e : D) : Option Bool :=
  match vw m e with
  | .non => some (match vw m d with | .non => true | _ => false)
  | .bl b => match vw m d with | .bl a => some (decide (a = b)) | _ => none
  | _ => none
def isD (d e : D) (m : Me) : Res D := ofB m (isB m d e)
def isNotD (d e : D) (m : Me) : Res D := ofB m ((isB m d e).map (!·))
def inB (m : Me) (d e : D) : Option Bool :=
  match vw m e with
  | .str y => match vw m d with | .str x => some (!(Builtin.Str.occurrences y x 0 y.length 1).isEmpty) | _ => none
  | .lst _ | .tup _ => match py m d, py m e with
    | some p, some (.list qs) => if SeqAt.shaped p && SeqAt.shaped (.list qs) then some (qs.any fun z => PyData.eqv z p) else none
    | some p, some (.tuple qs) => if SeqAt.shaped p && SeqAt.shaped (.list qs) then some (qs.any fun z => PyData.eqv z p) else none
    | _, _ => none
  | _ => none
def inD (d e : D) (m : Me) : Res D := ofB m (inB m d e)
def notInD (d e : D) (m : Me) : Res D := ofB m ((inB m d e).map (!·))
def cmpD : CmpOp → D → D → Me → Res D
  | .Lt => ltD | .LtE => leD | .Gt => gtD | .GtE => geD | .Eq => eqD | .NotEq => neD | .Is => isD | .IsNot => isNotD | .In => inD | .NotIn => notInD
section
variable {X : Cx} {G : GT}
theorem ordD_ok {op : CmpOp} {f : Int → Int → Bool} {g : Str → Str → Bool} {F : D → D → Me → Res D}
    (hF : ∀ d e m, F d e m = match vw m d, vw m e with | .int i, .int j => .ok (.bl (f i j)) m | .str x, .str y => .ok (.bl (g x y)) m | _, _ => .bad)
    (h1 : OpR X (compareOp op) (rI0 fun i j => .bl (f i j))) (h2 : OpR X (compareOp op) fun x y H Q => ∃ i j, x = .str i ∧ y = .str j ∧ Q (.bl (g i j)) H) : OpR X (compareOp op) (rop G F) := by
  intro pins s σ H x y v u Q I rx ry hh
  obtain ⟨w, d, e, S, r1, r2, q⟩ := hh
  rw [hF] at q
  split at q
  · rename_i i j e1 e2
    cases vw_int r1 e1
    cases vw_int r2 e2
    exact h1 pins s σ H _ _ v u Q I rx ry ⟨i, j, rfl, rfl, post_ret S mk_bl q⟩
  · rename_i i j e1 e2
    obtain ⟨rfl, _⟩ := vw_str r1 e1
    obtain ⟨rfl, _⟩ := vw_str r2 e2
    exact h2 pins s σ H _ _ v u Q I rx ry ⟨i, j, rfl, rfl, post_ret S mk_bl q⟩
  · exact q.elim
theorem op_ltD : OpR X (compareOp .Lt) (rop G ltD) := ordD_ok (f := fun i j => decide (i < j)) (g := strLt) (fun _ _ _ => rfl) op_lt op_lt_str
theorem op_leD : OpR X (compareOp .LtE) (rop G leD) := ordD_ok (f := fun i j => decide (i ≤ j)) (g := fun x y => !strLt y x) (fun _ _ _ => rfl) op_le op_le_str
theorem op_gtD : OpR X (compareOp .Gt) (rop G gtD) := ordD_ok (f := fun i j => decide (j < i)) (g := fun x y => strLt y x) (fun _ _ _ => rfl) op_gt op_gt_str
theorem op_geD : OpR X (compareOp .GtE) (rop G geD) := ordD_ok (f := fun i j => decide (j ≤ i)) (g := fun x y => !strLt x y) (fun _ _ _ => rfl) op_ge op_ge_str
theorem ofB_post {w : Wd} {H : Hp} {Q : VK} (S : SR G w H) : ∀ {o : Option Bool}, Post G (Rep G) WN [] w H Q (ofB w.m o) → ∃ b, o = some b ∧ Q (.bl b) H
  | some b, q => ⟨b, rfl, post_ret S mk_bl q⟩
  | none, q => q.elim
theorem op_eqDD (hK : X.K = G.K) (hu : X.A.units + 64 < cLine) : OpR X (compareOp .Eq) (rop G eqD) := by
  intro pins s σ H x y v u Q I rx ry hh
  obtain ⟨w, d, e, S, r1, r2, q⟩ := hh
  obtain ⟨b, hb, q⟩ := ofB_post S q
  unfold eqB at hb
  split at hb
  · rename_i i j e1 e2
    cases vw_int r1 e1; cases vw_int r2 e2; cases hb
    refine op_eq pins s σ H _ _ v u Q I rx ry ⟨rfl, ?_⟩
    have e : decide (V.int i = V.int j) = decide (i = j) := by rw [Bool.eq_iff_iff]; simp
    rw [e]; exact q
  · rename_i i j e1 e2
    obtain ⟨rfl, _⟩ := vw_str r1 e1
    obtain ⟨rfl, _⟩ := vw_str r2 e2
    cases hb
    refine op_eq pins s σ H _ _ v u Q I rx ry ⟨rfl, ?_⟩
    have e : decide (V.str i = V.str j) = decide (i = j) := by rw [Bool.eq_iff_iff]; simp
    rw [e]; exact q
  · rename_i i j e1 e2
    cases vw_bl r1 e1; cases vw_bl r2 e2; cases hb
    refine op_eq pins s σ H _ _ v u Q I rx ry ⟨rfl, ?_⟩
    have e : decide (V.bl i = V.bl j) = decide (i = j) := by rw [Bool.eq_iff_iff]; simp
    rw [e]; exact q
  · split at hb
    · rename_i p1 p2 e1 e2
      split at hb
      · rename_i hs
        cases hb
        rw [Bool.and_eq_true] at hs
        exact op_eqD hu pins s σ H _ _ v u Q I rx ry ⟨p1, p2, by rw [hK]; exact pyF_ok S _ d x p1 r1 e1, by rw [hK]; exact pyF_ok S _ e y p2 r2 e2, hs.1, hs.2, q⟩
      · cases hb
    · cases hb
theorem op_neDD (hK : X.K = G.K) (hu : X.A.units + 64 < cLine) : OpR X (compareOp .NotEq) (rop G neD) := by
  intro pins s σ H x y v u Q I rx ry hh
  obtain ⟨w, d, e, S, r1, r2, q⟩ := hh
  obtain ⟨b, hb, q⟩ := ofB_post S q
  unfold eqB at hb
  split at hb
  · rename_i i j e1 e2
    cases vw_int r1 e1; cases vw_int r2 e2; cases hb
    refine op_ne pins s σ H _ _ v u Q I rx ry ⟨rfl, ?_⟩
    have e : decide (V.int i = V.int j) = decide (i = j) := by rw [Bool.eq_iff_iff]; simp
    rw [e]; exact q
  · rename_i i j e1 e2
    obtain ⟨rfl, _⟩ := vw_str r1 e1
    obtain ⟨rfl, _⟩ := vw_str r2 e2
    cases hb
    refine op_ne pins s σ H _ _ v u Q I rx ry ⟨rfl, ?_⟩
    have e : decide (V.str i = V.str j) = decide (i = j) := by rw [Bool.eq_iff_iff]; simp
    rw [e]; exact q
  · rename_i i j e1 e2
    cases vw_bl r1 e1; cases vw_bl r2 e2; cases hb
    refine op_ne pins s σ H _ _ v u Q I rx ry ⟨rfl, ?_⟩
    have e : decide (V.bl i = V.bl j) = decide (i = j) := by rw [Bool.eq_iff_iff]; simp
    rw [e]; exact q
  · split at hb
    · rename_i p1 p2 e1 e2
      split at hb
      · rename_i hs
        cases hb
        rw [Bool.and_eq_true] at hs
        exact op_neD hu pins s σ H _ _ v u Q I rx ry ⟨p1, p2, by rw [hK]; exact pyF_ok S _ d x p1 r1 e1, by rw [hK]; exact pyF_ok S _ e y p2 r2 e2, hs.1, hs.2, q⟩
      · cases hb
    · cases hb
theorem isN_of {w : Wd} {d : D} {v : V} {H : Hp} (S : SR G w H) (r : Rep G w d v) : decide (v = .non) = (match vw w.m d with | .non => true | _ => false) := by
  cases e : vw w.m d with
  | non => cases vw_non r e; rfl
  | bl b => cases vw_bl r e; rfl
  | int b => cases vw_int r e; rfl
  | str b => obtain ⟨rfl, _⟩ := vw_str r e; rfl
  | lst b => obtain ⟨a, xs, rfl, _⟩ := vw_lst S r e; rfl
  | tup b => obtain ⟨a, xs, rfl, _⟩ := vw_tup S r e; rfl
  | ins c ns ds => obtain ⟨a, _, _, rfl, _⟩ := vw_ins S r e; rfl
  | loc n => have q := rep_loc (vw_flat e r (fun _ z => nomatch z) fun _ _ _ z => nomatch z); rw [q.2]; rfl
  | ty n => cases rep_ty (vw_flat e r (fun _ z => nomatch z) fun _ _ _ z => nomatch z); rfl
  | cls n => cases rep_cls (vw_flat e r (fun _ z => nomatch z) fun _ _ _ z => nomatch z); rfl
  | fn n => cases rep_fn (vw_flat e r (fun _ z => nomatch z) fun _ _ _ z => nomatch z); rfl
  | rng a b => obtain ⟨_, rfl, _⟩ := rep_rng (vw_flat e r (fun _ z => nomatch z) fun _ _ _ z => nomatch z); rfl
theorem op_isD : OpR X (compareOp .Is) (rop G isD) := by
  intro pins s σ H x y v u Q I rx ry hh
  obtain ⟨w, d, e, S, r1, r2, q⟩ := hh
  obtain ⟨b, hb, q⟩ := ofB_post S q
  unfold isB at hb
  split at hb
  · rename_i e2
    cases vw_non r2 e2
    cases hb
    refine op_isN pins s σ H _ _ v u Q I rx ry ⟨rfl, ?_⟩
    rw [isN_of S r1]; exact q
  · rename_i b' e2
    cases vw_bl r2 e2
    split at hb
    · rename_i a e1
      cases vw_bl r1 e1
      cases hb
      exact op_isBl pins s σ H _ _ v u Q I rx ry ⟨_, _, rfl, rfl, q⟩
    · cases hb
  · cases hb
theorem op_isNotD : OpR X (compareOp .IsNot) (rop G isNotD) := by
  intro pins s σ H x y v u Q I rx ry hh
  obtain ⟨w, d, e, S, r1, r2, q⟩ := hh
  obtain ⟨b, hb, q⟩ := ofB_post S q
  unfold isB at hb
  split at hb
  · rename_i e2
    cases vw_non r2 e2
    cases hb
    refine op_notN pins s σ H _ _ v u Q I rx ry ⟨rfl, ?_⟩
    rw [isN_of S r1]; exact q
  · rename_i b' e2
    cases vw_bl r2 e2
    split at hb
    · rename_i a e1
      cases vw_bl r1 e1
      cases hb
      exact op_notBl pins s σ H _ _ v u Q I rx ry ⟨_, _, rfl, rfl, q⟩
    · cases hb
  · cases hb
theorem op_inT (hu : X.A.units + 65 < cLine) : OpR X (compareOp .In) (fun x y H Q => ∃ d ds, Dp X.K H x d ∧ Dp X.K H y (.tuple ds) ∧ SeqAt.shaped d = true ∧ SeqAt.shaped (.list ds) = true ∧ Q (.bl (ds.any fun z => PyData.eqv z d)) H) := by
  intro pins s σ H x y v u Q I rx ry h
  obtain ⟨d, ds, hd, he, sd, se, q⟩ := h
  obtain ⟨as, r1⟩ := Dp.reads I d x v hd rx
  obtain ⟨bs, r2⟩ := Dp.reads I (.tuple ds) y u he ry
  exact SeqAt.in_tuple_reads r2 r1 (SeqAt.canLay_of_shaped se) (SeqAt.canLay_of_shaped sd) (room_in_shaped sd hu) ⟨.bl _, H, I, rfl, q⟩
theorem op_notInT (hu : X.A.units + 65 < cLine) : OpR X (compareOp .NotIn) (fun x y H Q => ∃ d ds, Dp X.K H x d ∧ Dp X.K H y (.tuple ds) ∧ SeqAt.shaped d = true ∧ SeqAt.shaped (.list ds) = true ∧ Q (.bl (!ds.any fun z => PyData.eqv z d)) H) := by
  intro pins s σ H x y v u Q I rx ry h
  obtain ⟨d, ds, hd, he, sd, se, q⟩ := h
  obtain ⟨as, r1⟩ := Dp.reads I d x v hd rx
  obtain ⟨bs, r2⟩ := Dp.reads I (.tuple ds) y u he ry
  exact SeqAt.notIn_tuple_reads r2 r1 (SeqAt.canLay_of_shaped se) (SeqAt.canLay_of_shaped sd) (room_in_shaped sd hu) ⟨.bl _, H, I, rfl, q⟩
theorem op_inDD (hK : X.K = G.K) (hu : X.A.units + 65 < cLine) : OpR X (compareOp .In) (rop G inD) := by
  intro pins s σ H x y v u Q I rx ry hh
  obtain ⟨w, d, e, S, r1, r2, q⟩ := hh
  obtain ⟨b, hb, q⟩ := ofB_post S q
  unfold inB at hb
  split at hb
  · rename_i y' e2
    obtain ⟨rfl, _⟩ := vw_str r2 e2
    split at hb
    · rename_i x' e1
      obtain ⟨rfl, _⟩ := vw_str r1 e1
      cases hb
      exact op_in_str pins s σ H _ _ v u Q I rx ry ⟨_, _, rfl, rfl, q⟩
    · cases hb
  all_goals first
    | (cases hb; done)
    | (split at hb
       · rename_i p qs e1 e2
         split at hb
         · rename_i hs
           cases hb
           rw [Bool.and_eq_true] at hs
           exact op_inD hu pins s σ H _ _ v u Q I rx ry ⟨p, qs, by rw [hK]; exact pyF_ok S _ d x p r1 e1, by rw [hK]; exact pyF_ok S _ e y _ r2 e2, hs.1, hs.2, q⟩
         · cases hb
       · rename_i p qs e1 e2
         split at hb
         · rename_i hs
           cases hb
           rw [Bool.and_eq_true] at hs
           exact op_inT hu pins s σ H _ _ v u Q I rx ry ⟨p, qs, by rw [hK]; exact pyF_ok S _ d x p r1 e1, by rw [hK]; exact pyF_ok S _ e y _ r2 e2, hs.1, hs.2, q⟩
         · cases hb
       · cases hb)
theorem op_notInDD (hK : X.K = G.K) (hu : X.A.units + 65 < cLine) : OpR X (compareOp .NotIn) (rop G notInD) := by
  intro pins s σ H x y v u Q I rx ry hh
  obtain ⟨w, d, e, S, r1, r2, q⟩ := hh
  obtain ⟨b, hb, q⟩ := ofB_post S q
  unfold inB at hb
  split at hb
  · rename_i y' e2
    obtain ⟨rfl, _⟩ := vw_str r2 e2
    split at hb
    · rename_i x' e1
      obtain ⟨rfl, _⟩ := vw_str r1 e1
      cases hb
      exact op_notin_str pins s σ H _ _ v u Q I rx ry ⟨_, _, rfl, rfl, q⟩
    · cases hb
  all_goals first
    | (cases hb; done)
    | (split at hb
       · rename_i p qs e1 e2
         split at hb
         · rename_i hs
           cases hb
           rw [Bool.and_eq_true] at hs
           exact op_notInD hu pins s σ H _ _ v u Q I rx ry ⟨p, qs, by rw [hK]; exact pyF_ok S _ d x p r1 e1, by rw [hK]; exact pyF_ok S _ e y _ r2 e2, hs.1, hs.2, q⟩
         · cases hb
       · rename_i p qs e1 e2
         split at hb
         · rename_i hs
           cases hb
           rw [Bool.and_eq_true] at hs
           exact op_notInT hu pins s σ H _ _ v u Q I rx ry ⟨p, qs, by rw [hK]; exact pyF_ok S _ d x p r1 e1, by rw [hK]; exact pyF_ok S _ e y _ r2 e2, hs.1, hs.2, q⟩
         · cases hb
       · cases hb)
end
end DL

/-! DL4: the small language and what it computes -/
namespace DL
open PySem PySem.Spec PyProof.Rows L2

inductive Bop where | add | sub | mul | fdiv | mod | pow
inductive Blt where | abs_ | all_ | any_ | bool_ | int_ | len | list_ | max2 | min2 | ord_ | repr_ | str_ | sum_ | tuple_ | isinst
inductive Bm where | append | insert | pop | clear | extend | count | join | split | startswith | find

mutual
inductive Ex where
  | bad
  | var (i : Nat)
  | cst (d : D)
  | bin (o : Bop) (p : Bool) (a b : Ex)
  | neg (a : Ex)
  | cmp (o : CmpOp) (a b : Ex)
  | chain (o o2 : CmpOp) (a b c : Ex)
  | not (c : Cn)
  | and (a b : Ex)
  | or (a b : Ex)
  | ite (c : Cn) (a b : Ex)
  | lst (p : Bool) (es : List Ex)
  | tup (es : List Ex)
  | app (f : Ex) (es : List Ex) (kn : List Nat) (ks : List Ex)
  | blt (b : Blt) (p : Bool) (es : List Ex)
  | meth (o : Ex) (nm : Nat) (bm : Option Bm) (p : Bool) (es : List Ex) (kn : List Nat) (ks : List Ex)
  | fld (o : Ex) (f : Nat)
  | ix (a i : Ex)
  | sl (p : Bool) (a : Ex) (lo hi : Option Ex)
  | rev (p : Bool) (a : Ex)
  | lc (p : Bool) (elt : Ex) (t : Tg) (it : It) (ifs : List Cn) (own : List Nat)
  | dc (k v : Ex) (t : Tg) (it : It) (ifs : List Cn) (own : List Nat)
  | fstr (es : List Ex)
  | fmt (e : Ex)
inductive Cn where
  | val (e : Ex)
  | not (c : Cn)
  | and (a b : Cn)
  | or (a b : Cn)
inductive It where
  | seq (e : Ex)
  | range1 (a : Ex)
  | range2 (a b : Ex)
  | enum (e : Ex)
  | zip (a b : Ex)
  | items (e : Ex)
inductive Tg where
  | bad
  | name (i : Nat)
  | fld (o : Ex) (f : Nat)
  | sub (o i : Ex)
  | tup (ts : List Tg)
end

mutual
inductive St where
  | bad | pass | brk | cont
  | ret (e : Option Ex) (fz : Bool)
  | exp (e : Ex)
  | asg (t : Tg) (e : Ex)
  | par (is : List Nat) (es : List Ex)
  | aug (i : Nat) (o : Bop) (p : Bool) (e : Ex)
  | augF (o : Ex) (f : Nat) (op : Bop) (e : Ex)
  | augS (o i : Ex) (op : Bop) (e : Ex)
  | ite (c : Cn) (a b : List St)
  | loop (t : Tg) (it : It) (body : List St)
  | whl (c : Cn) (body : List St)
  | raise (c : Nat) (es : List Ex)
  | try_ (body : List St) (hs : List Hd)
  | frz (i : Nat)
inductive Hd where
  | mk (cs : List Nat) (as : Option Nat) (body : List St)
end

/-- a def's parameters: positional names, those behind the star, defaults, whether what is left over is a tuple -/
structure PInfo where
  pos : List Nat
  kwo : List Nat := []
  dfl : List (Nat × D) := []
  star : Bool := false
/-- what a class says of a name: nothing known, no such name, a method, a property, a static method -/
inductive At where | unk | no | obj | meth (f : Nat) | prop (f : Nat) | stat (f : Nat)
/-- what the program's defs and classes are -/
structure Prg where
  call : Nat → List D → Me → Res D
  pi : Nat → PInfo
  at_ : Nat → Nat → At
  mks : Nat → Bool
  fz : Nat → Bool
  isi : (String ⊕ Nat) → (String ⊕ Nat) → Option Bool
  fok : Nat → Bool
  ity : Nat → Bool
  nf : Nat → (String ⊕ Nat) → Bool
/-- names of a fixed number -/
abbrev nInit : Nat := 0
abbrev nEq : Nat := 1
abbrev nLen : Nat := 2
abbrev nRepr : Nat := 3
abbrev nBool : Nat := 4
abbrev nNe : Nat := 5

/-! ### attributes, arguments -/
def getF : List Nat → List D → Nat → Option D
  | n :: ns, x :: xs, f => if n = f then some x else getF ns xs f
  | _, _, _ => none
def putN (f : Nat) : List Nat → List Nat
  | [] => [f]
  | n :: ns => if n = f then n :: ns else n :: putN f ns
def putX (f : Nat) (v : D) : List Nat → List D → List D
  | [], _ => [v]
  | n :: ns, x :: xs => if n = f then v :: xs else x :: putX f v ns xs
  | _ :: _, [] => []
def bindPos (pi : PInfo) (kn : List Nat) (ks : List D) : List Nat → List D → Option (List D)
  | [], _ => some []
  | _ :: ps, d :: ds => (bindPos pi kn ks ps ds).map (d :: ·)
  | p :: ps, [] => match getF kn ks p with
    | some d => (bindPos pi kn ks ps []).map (d :: ·)
    | none => match pi.dfl.lookup p with
      | some d => (bindPos pi kn ks ps []).map (d :: ·)
      | none => none
def bindA (pi : PInfo) (ds : List D) (kn : List Nat) (ks : List D) : Option (List D) :=
  if pi.star then (if kn.isEmpty ∧ ds.length ≤ 1000 then (bindPos pi kn ks pi.pos ds).map (· ++ [.tup (ds.drop pi.pos.length)]) else none)
  else if ds.length ≤ pi.pos.length ∧ kn.Nodup ∧ kn.all (fun k => (pi.pos.drop ds.length).contains k || pi.kwo.contains k) then
    (bindPos pi kn ks pi.pos ds).bind fun as => (bindPos pi kn ks pi.kwo []).map (as ++ ·)
  else none
def appF (P : Prg) (f : Nat) (ds : List D) (kn : List Nat) (ks : List D) (m : Me) : Res D :=
  match bindA (P.pi f) ds kn ks with
  | some as => P.call f as m
  | none => .bad
/-- places younger than k are dropped where nothing told leans on them -/
def sealR (k : Nat) (d : D) (m : Me) : Res D := if m.length ≤ k then .ok d m else if (m.take k).all (bndO k) then (match d with
  | .loc n => if n < k then .ok d (m.take k) else (match m[n]? with
    | some o => if o.live && bndO k o then .ok (.loc k) (m.take k ++ [o]) else .ok d m
    | none => .ok d m)
  | d => if bnd k d then .ok d (m.take k) else .ok d m) else .ok d m
/-- a new instance -/
def newC (P : Prg) (c : Nat) (ds : List D) (kn : List Nat) (ks : List D) (m : Me) : Res D :=
  match P.mks c, P.at_ c nInit with
  | true, .meth f => (appF P f (.loc m.length :: ds) kn ks (m ++ [.ins c [] []])).bind fun r m' => match r with
    | .non => if P.fz c then (match m'[m.length]? with
        | some (.ins c' ns xs) => sealR m.length (.ins c' ns xs) (m'.set m.length .gone)
        | _ => .bad) else .ok (.loc m.length) m'
    | _ => .bad
  | _, _ => .bad
def appD (P : Prg) (f : D) (ds : List D) (kn : List Nat) (ks : List D) (m : Me) : Res D :=
  match f with
  | .fn f => appF P f ds kn ks m
  | .cls c => newC P c ds kn ks m
  | _ => .bad
def okFn (P : Prg) : D → Bool
  | .fn f => P.fok f
  | .cls c => P.mks c
  | _ => false

/-! ### truth -/
def truB (m : Me) (d : D) : Option Bool :=
  match vw m d with
  | .non => some false
  | .bl b => some b
  | .int i => some (i != 0)
  | .str x => some ((x.length : Int) != 0)
  | .lst xs => some (!xs.isEmpty)
  | .tup xs => some (!xs.isEmpty)
  | .loc n => match m[n]? with
    | some (.dK kvs) => some (!kvs.isEmpty)
    | _ => none
  | _ => none
def ofO {α : Type} (m : Me) : Option α → Res α
  | some b => .ok b m
  | none => .bad
def truD (P : Prg) (d : D) (m : Me) : Res Bool :=
  match vw m d with
  | .ins c _ _ => match P.at_ c nBool, P.at_ c nLen with
    | .no, .meth f => (appF P f [d] [] [] m).bindN fun r m' => match r with
      | .int n => if 0 ≤ n ∧ n < 2 ^ 63 then .ok (n != 0) m' else .bad
      | _ => .bad
    | .no, .no => .ok true m
    | _, _ => .bad
  | _ => ofO m (truB m d)

/-! ### the built-in functions -/
def allInts : List D → Option (List Int)
  | [] => some []
  | .int i :: ds => (allInts ds).map (i :: ·)
  | _ => none
def allBls : List D → Option (List Bool)
  | [] => some []
  | .bl i :: ds => (allBls ds).map (i :: ·)
  | _ => none
def allStrs : List D → Option (List Str)
  | [] => some []
  | .str i :: ds => (allStrs ds).map (i :: ·)
  | _ => none
def typ (P : Prg) (m : Me) (d : D) : Option (String ⊕ Nat) :=
  match vw m d with
  | .non => some (.inl "NoneType")
  | .bl _ => some (.inl "bool")
  | .int _ => some (.inl "int")
  | .str _ => some (.inl "str")
  | .lst _ => some (.inl "list")
  | .tup _ => some (.inl "tuple")
  | .ins c _ _ => if P.ity c then some (.inr c) else none
  | _ => none
def isiC (P : Prg) (t : String ⊕ Nat) : D → Option Bool
  | .ty n => P.isi t (.inl n)
  | .cls c => P.isi t (.inr c)
  | _ => none
def isiL (P : Prg) (t : String ⊕ Nat) : List D → Option Bool
  | [] => some false
  | c :: cs => match isiC P t c with
    | some true => some true
    | some false => isiL P t cs
    | none => none
def isClsD : D → Bool
  | .ty _ => true
  | .cls _ => true
  | _ => false
def isiD (P : Prg) (m : Me) (d c : D) : Option Bool :=
  match typ P m d with
  | none => none
  | some t => match c with
    | .tup cs => if cs.all isClsD then isiL P t cs else none
    | c => isiC P t c
def showOk (p : PyData) : Bool := PyData.showable p && decide (p.depth ≤ 60) && decide (p.shown.length ≤ sizeLine)
def bltD (P : Prg) : Blt → Bool → List D → Me → Res D
  | .abs_, _, [d], m => match vw m d with
    | .int i => .ok (.int (if i < 0 then -i else i)) m
    | _ => .bad
  | .all_, _, [d], m => match vw m d with
    | .lst ds => ofO m ((allBls ds).map fun bs => .bl (bs.all id))
    | _ => .bad
  | .any_, _, [d], m => match vw m d with
    | .lst ds => ofO m ((allBls ds).map fun bs => .bl (bs.any id))
    | _ => .bad
  | .bool_, _, [d], m => match vw m d with
    | .int i => .ok (.bl (i != 0)) m
    | .bl b => .ok (.bl b) m
    | .lst xs => .ok (.bl (!xs.isEmpty)) m
    | _ => .bad
  | .int_, _, [d], m => match vw m d with
    | .int i => .ok (.int i) m
    | .bl b => .ok (.int (if b then 1 else 0)) m
    | _ => .bad
  | .len, _, [d], m => match vw m d with
    | .lst xs => .ok (.int xs.length) m
    | .tup xs => .ok (.int xs.length) m
    | .str x => .ok (.int x.length) m
    | .ins c _ _ => match P.at_ c nLen with
      | .meth f => (appF P f [d] [] [] m).bindN fun r m' => match r with
        | .int n => if 0 ≤ n ∧ n < 2 ^ 63 then .ok (.int n) m' else .bad
        | _ => .bad
      | _ => .bad
    | _ => .bad
  | .list_, p, [d], m => match vw m d with
    | .lst xs => newL p xs m
    | .tup xs => newL p xs m
    | _ => .bad
  | .max2, _, [d, e], m => match vw m d, vw m e with
    | .int i, .int j => .ok (.int (if j > i then j else i)) m
    | _, _ => .bad
  | .min2, _, [d, e], m => match vw m d, vw m e with
    | .int i, .int j => .ok (.int (if j < i then j else i)) m
    | _, _ => .bad
  | .ord_, _, [d], m => match vw m d with
    | .str x => if x.length = 1 then .ok (.int (x.cps.getD 0 0 : Nat)) m else .bad
    | _ => .bad
  | .repr_, _, [d], m => match vw m d with
    | .ins c _ _ => match P.at_ c nRepr with
      | .meth f => (appF P f [d] [] [] m).bindN fun r m' => match r with
        | .str x => .ok (.str x) m'
        | _ => .bad
      | _ => .bad
    | _ => match py m d with
      | some p => if showOk p then .ok (.str p.shown) m else .bad
      | none => .bad
  | .str_, _, [d], m => match vw m d with
    | .int i => if i.natAbs.log2 < 1920 then .ok (.str (toString i)) m else .bad
    | .str x => .ok (.str x) m
    | _ => .bad
  | .sum_, _, [d], m => match vw m d with
    | .lst ds => ofO m ((allInts ds).map fun ns => .int ns.sum)
    | _ => .bad
  | .tuple_, _, [d], m => match vw m d with
    | .lst xs => newT xs m
    | .tup xs => .ok (.tup xs) m
    | _ => .bad
  | .isinst, _, [d, c], m => ofO m ((isiD P m d c).map .bl)
  | _, _, _, _ => .bad

/-! ### subscripts, slices -/
def ixD (d e : D) (m : Me) : Res D :=
  match vw m d, vw m e with
  | .lst xs, .int i => ofO m (atI xs i)
  | .tup xs, .int i => ofO m (atI xs i)
  | .str x, .int i => ofO m ((atI x.cps.toList i).map fun c => .str ⟨#[c]⟩)
  | _, _ => .bad
def cutD (xs : List D) (lo hi : Option Int) : List D := (xs.drop (HT.sIx xs.length 0 lo)).take (HT.sIx xs.length xs.length hi - HT.sIx xs.length 0 lo)
def slD (p : Bool) (d : D) (l h : Option Int) (m : Me) : Res D :=
  match vw m d with
  | .lst xs => newL p (cutD xs l h) m
  | .tup xs => if HT.sIx xs.length 0 l = 0 ∧ HT.sIx xs.length xs.length h = xs.length then .ok (.tup xs) m else newT (cutD xs l h) m
  | .str x => .ok (.str (cutS x l h)) m
  | _ => .bad
def partD (d : D) (m : Me) : Res (Option Int) := match d with
  | .int i => .ok (some i) m
  | _ => .bad
def revD (p : Bool) (d : D) (m : Me) : Res D :=
  match vw m d with
  | .lst xs => newL p xs.reverse m
  | _ => .bad

/-! ### methods of built-in types -/
def bmD : Bm → Bool → D → List D → Me → Res D
  | .append, _, .loc n, [y], m => match m[n]? with
    | some (.lst xs) => if xs.length < sizeLine then .ok .non (m.set n (.lst (xs ++ [y]))) else .bad
    | _ => .bad
  | .insert, _, .loc n, [.int i, y], m => match m[n]? with
    | some (.lst xs) => if xs.length < sizeLine ∧ 0 ≤ i ∧ i < 2 ^ 63 then .ok .non (m.set n (.lst (xs.take i.toNat ++ [y] ++ xs.drop i.toNat))) else .bad
    | _ => .bad
  | .pop, _, .loc n, [], m => match m[n]? with
    | some (.lst xs) => match xs[xs.length - 1]? with
      | some y => .ok y (m.set n (.lst xs.dropLast))
      | none => .bad
    | _ => .bad
  | .pop, _, .loc n, [.int i], m => match m[n]? with
    | some (.lst xs) => match (if -(2 ^ 63) ≤ i ∧ i < 2 ^ 63 then seqIndex? i xs.length else none) with
      | some k => match xs[k]? with
        | some y => .ok y (m.set n (.lst (xs.eraseIdx k)))
        | none => .bad
      | none => .bad
    | _ => .bad
  | .clear, _, .loc n, [], m => match m[n]? with
    | some (.lst xs) => .ok .non (m.set n (.lst []))
    | _ => .bad
  | .extend, _, .loc n, [.loc j], m => match m[n]?, m[j]? with
    | some (.lst xs), some (.lst ys) => if xs.length + ys.length ≤ sizeLine then .ok .non (m.set n (.lst (xs ++ ys))) else .bad
    | _, _ => .bad
  | .join, _, .str s, [e], m => match vw m e with
    | .lst ds => match allStrs ds with
      | some ys => if (ys.map (·.length)).sum + ys.length * s.length ≤ 16777216 then .ok (.str (Txt.join s ys)) m else .bad
      | none => .bad
    | .tup ds => match allStrs ds with
      | some ys => if (ys.map (·.length)).sum + ys.length * s.length ≤ 16777216 then .ok (.str (Txt.join s ys)) m else .bad
      | none => .bad
    | _ => .bad
  | .split, p, .str s, [.str t], m => if t.length ≠ 0 ∧ s.length + 2 ≤ sizeLine ∧ ((Txt.split s t).all fun x => decide (x.length ≤ sizeLine)) = true then newL p ((Txt.split s t).map .str) m else .bad
  | .startswith, _, .str s, [.str t], m => .ok (.bl (Txt.startswith s t)) m
  | .find, _, .str s, [.str t], m => .ok (.int (Txt.find s t)) m
  | .count, _, .str s, [.str t], m => .ok (.int (Txt.count s t)) m
  | _, _, _, _, _ => .bad
def bmL : Bm → Bool
  | .append => true | .insert => true | .pop => true | .clear => true | .extend => true
  | _ => false
/-- the kind of a built-in method's receiver -/
def recvK (b : Bm) : D → Bool
  | .lst _ => bmL b
  | .str _ => !bmL b
  | _ => false
/-- what a method's name is, at an object: an own def, or a built-in type's -/
def calleeD (P : Prg) (m : Me) (o : D) (nm : Nat) (bm : Option Bm) (kn : List Nat) : Option (Nat ⊕ Bm) :=
  match vw m o with
  | .ins c ns xs => match getF ns xs nm, P.at_ c nm with
    | none, .meth f => some (.inl f)
    | _, _ => none
  | v => match bm with
    | some b => if recvK b v && kn.isEmpty then some (.inr b) else none
    | none => none
def calD (P : Prg) (cal : Nat ⊕ Bm) (o : D) (p : Bool) (ds : List D) (kn : List Nat) (ks : List D) (m : Me) : Res D :=
  match cal with
  | .inl f => appF P f (o :: ds) kn ks m
  | .inr b => bmD b p o ds m
def fldD (P : Prg) (o : D) (f : Nat) (m : Me) : Res D :=
  match vw m o with
  | .ins c ns xs => match getF ns xs f, P.at_ c f with
    | some d, .no => .ok d m
    | _, _ => .bad
  | _ => .bad
def binD : Bop → Bool → D → D → Me → Res D
  | .add, p, d, e, m => addD p d e m
  | .sub, _, d, e, m => subD d e m
  | .mul, _, d, e, m => mulD d e m
  | .fdiv, _, d, e, m => fdivD d e m
  | .mod, _, d, e, m => modD d e m
  | .pow, _, d, e, m => powD d e m
/-- comparisons, with the program's own == -/
def cmpP (P : Prg) (o : CmpOp) (d e : D) (m : Me) : Res D :=
  match o, vw m d with
  | .Eq, .ins c _ _ => match P.at_ c nEq, (typ P m e).map (P.nf c) with
    | .meth f, some true => (appF P f [d, e] [] [] m).bindN fun r m' => match r with
      | .bl b => .ok (.bl b) m'
      | _ => .bad
    | _, _ => .bad
  | .NotEq, .ins c _ _ => match P.at_ c nEq, P.at_ c nNe, (typ P m e).map (P.nf c) with
    | .meth f, .obj, some true => (appF P f [d, e] [] [] m).bindN fun r m' => match r with
      | .bl b => .ok (.bl (!b)) m'
      | _ => .bad
    | _, _, _ => .bad
  | o, _ => cmpD o d e m
/-- what a part of an f-string writes -/
def fmtD (P : Prg) (d : D) (m : Me) : Res D :=
  match vw m d with
  | .str x => .ok (.str x) m
  | .int i => if i.natAbs.log2 < 1920 then .ok (.str (toString i)) m else .bad
  | _ => .bad

/-- x op= y of whole numbers -/
def iopD (o : Bop) (d e : D) (m : Me) : Res D :=
  match o, vw m d, vw m e with
  | .add, .int i, .int j => .ok (.int (i + j)) m
  | .sub, .int i, .int j => .ok (.int (i - j)) m
  | _, _, _ => .bad
/-! ### dicts whose keys are tuples of ints and texts -/
def keyL : List D → Option (List Key)
  | [] => some []
  | .int i :: ds => (keyL ds).map (.inl i :: ·)
  | .str x :: ds => (keyL ds).map (.inr x :: ·)
  | _ => none
def keyD : D → Option (List Key)
  | .tup ds => keyL ds
  | _ => none
def kD : Key → D
  | .inl i => .int i
  | .inr x => .str x
def kOk : Key → Bool
  | .inl _ => true
  | .inr x => decide (x.length ≤ sizeLine)
def getT (kvs : List (List Key × D)) (k : List Key) : Option D := (kvs.find? fun kv => decide (kv.1 = k)).map (·.2)
def putT (kvs : List (List Key × D)) (k : List Key) (v : D) : List (List Key × D) :=
  if (kvs.any fun kv => decide (kv.1 = k)) = true then kvs.map (fun kv => if kv.1 = k then (kv.1, v) else kv) else kvs ++ [(k, v)]
def itemT (kv : List Key × D) : D := .tup [.tup (kv.1.map kD), kv.2]
/-! ### what is walked -/
inductive IV where
  | fix (ds : List D)
  | mut (n : Nat) (ds : List D)
  | emut (n : Nat) (ds : List D)
def seqI (m : Me) (d : D) : Option IV :=
  match d with
  | .loc n => match m[n]? with
    | some (.lst ds) => some (.mut n ds)
    | _ => none
  | .lst ds => some (.fix ds)
  | .tup ds => some (.fix ds)
  | .str x => some (.fix (x.cps.toList.map fun c => .str ⟨#[c]⟩))
  | _ => none
def rngL (lo : Int) (n : Nat) : List D := (List.range n).map fun (i : Nat) => D.int (lo + (i : Int))
def b62 (i : Int) : Bool := decide (-(2 ^ 62) ≤ i ∧ i < 2 ^ 62)
def rngI : List D → Option IV
  | [.int j] => if b62 j then some (.fix (rngL 0 j.toNat)) else none
  | [.int i, .int j] => if b62 i && b62 j then some (.fix (rngL i (j - i).toNat)) else none
  | _ => none
def enumL : Nat → List D → List D
  | _, [] => []
  | i, d :: ds => .tup [.int (i : Int), d] :: enumL (i + 1) ds
def enumI (m : Me) (d : D) : Option IV :=
  match d with
  | .loc n => match m[n]? with
    | some (.lst ds) => some (.emut n ds)
    | _ => none
  | .lst ds => some (.fix (enumL 0 ds))
  | .tup ds => some (.fix (enumL 0 ds))
  | _ => none
/-- a dict's items: the dict is not written any more -/
def itemsI (d : D) (m : Me) : Res IV :=
  match d with
  | .loc n => match m[n]? with
    | some (.dT kvs) => if kvs.all (fun kv => kv.1.all kOk) then .ok (.fix (kvs.map itemT)) (m.set n .gone) else .bad
    | _ => .bad
  | _ => .bad
def zipI (d e : D) : Option IV :=
  match d, e with
  | .lst xs, .lst ys => some (.fix (List.zipWith (fun x y => .tup [x, y]) xs ys))
  | .tup xs, .tup ys => some (.fix (List.zipWith (fun x y => .tup [x, y]) xs ys))
  | _, _ => none
def IV.items : IV → List D
  | .fix ds => ds
  | .mut _ ds => ds
  | .emut _ ds => enumL 0 ds
/-- the list that is walked stands as it stood -/
def IV.still (m : Me) : IV → Prop
  | .fix _ => True
  | .mut n ds => m[n]? = some (.lst ds)
  | .emut n ds => m[n]? = some (.lst ds)
open Classical in
noncomputable def stillR {α : Type} (v : IV) (m : Me) (r : Res α) : Res α := if v.still m then r else .bad
/-- a comprehension's turns: f gives an item, or none where a test fails -/
noncomputable def lcGo (v : IV) (f : D → Me → Res (Option D)) : List D → List D → Me → Res (List D)
  | acc, [], m => stillR v m (.ok acc m)
  | acc, d :: ds, m => stillR v m ((f d m).bindN fun o m' => match o with
    | some y => if acc.length < sizeLine then lcGo v f (acc ++ [y]) ds m' else .bad
    | none => lcGo v f acc ds m')
/-- a dict comprehension's turns -/
noncomputable def dcGo (v : IV) (f : D → Me → Res (Option (D × D))) : List (List Key × D) → List D → Me → Res (List (List Key × D))
  | acc, [], m => stillR v m (.ok acc m)
  | acc, d :: ds, m => stillR v m ((f d m).bindN fun o m' => match o with
    | some (k, y) => match keyD k with
      | some ks => if acc.length < sizeLine then dcGo v f (putT acc ks y) ds m' else .bad
      | none => .bad
    | none => dcGo v f acc ds m')
def wipeE (env : En) : List Nat → En
  | [] => env
  | v :: vs => (wipeE env vs).set v none

/-! ### what an expression computes -/
mutual
noncomputable def den (P : Prg) : Ex → Ev D
  | .bad, _, _ => .bad
  | .var i, env, m => match env[i]? with
    | some (some d) => .ok d m
    | _ => .bad
  | .cst d, _, m => .ok d m
  | .bin o p a b, env, m => (den P a env m).bind fun d m1 => (den P b env m1).bind fun e m2 => binD o p d e m2
  | .neg a, env, m => (den P a env m).bind fun d m1 => negD d m1
  | .cmp o a b, env, m => (den P a env m).bind fun d m1 => (den P b env m1).bind fun e m2 => cmpP P o d e m2
  | .chain o o2 a b c, env, m => (den P a env m).bind fun d m1 => (den P b env m1).bind fun e m2 => (cmpD o d e m2).bind fun r m3 => match r with
    | .bl true => (den P c env m3).bind fun g m4 => cmpD o2 e g m4
    | .bl false => .ok (.bl false) m3
    | _ => .bad
  | .not c, env, m => (denC P c env m).bind fun b m1 => .ok (.bl (!b)) m1
  | .and a b, env, m => (den P a env m).bind fun d m1 => (ofO m1 (truB m1 d)).bind fun k m2 => if k then den P b env m2 else .ok d m2
  | .or a b, env, m => (den P a env m).bind fun d m1 => (ofO m1 (truB m1 d)).bind fun k m2 => if k then .ok d m2 else den P b env m2
  | .ite c a b, env, m => (denC P c env m).bind fun k m1 => if k then den P a env m1 else den P b env m1
  | .lst p es, env, m => (denL P es env m).bind fun ds m1 => if ds.length ≤ sizeLine then newL p ds m1 else .bad
  | .tup es, env, m => (denL P es env m).bind fun ds m1 => if ds.length ≤ sizeLine then newT ds m1 else .bad
  | .app f es kn ks, env, m => (den P f env m).bind fun g m1 => if okFn P g then (denL P es env m1).bind fun ds m2 => (denL P ks env m2).bind fun kds m3 => appD P g ds kn kds m3 else .bad
  | .blt b p es, env, m => (denL P es env m).bind fun ds m1 => bltD P b p ds m1
  | .meth o nm bm p es kn ks, env, m => (den P o env m).bind fun d m1 => (ofO m1 (calleeD P m1 d nm bm kn)).bind fun cal m2 => (denL P es env m2).bind fun ds m3 => (denL P ks env m3).bind fun kds m4 => calD P cal d p ds kn kds m4
  | .fld o f, env, m => (den P o env m).bind fun d m1 => fldD P d f m1
  | .ix a i, env, m => (den P a env m).bind fun d m1 => (den P i env m1).bind fun e m2 => ixD d e m2
  | .sl p a lo hi, env, m => (den P a env m).bind fun d m1 => (denO P lo env m1).bind fun l m2 => (denO P hi env m2).bind fun h m3 => slD p d l h m3
  | .rev p a, env, m => (den P a env m).bind fun d m1 => revD p d m1
  | .lc p elt t it ifs own, env, m => (denI P it env m).bind fun v m1 => (lcGo v (fun d m2 => (denT P t d (wipeE env own) m2).bind fun env' m3 => (denCs P ifs env' m3).bind fun k m4 =>
      if k then (den P elt env' m4).bind fun y m5 => .ok (some y) m5 else .ok none m4) [] v.items m1).bind fun ys m6 => newL p ys m6
  | .dc ke ve t it ifs own, env, m => (denI P it env m).bind fun v m1 => (dcGo v (fun d m2 => (denT P t d (wipeE env own) m2).bind fun env' m3 => (denCs P ifs env' m3).bind fun k m4 =>
      if k then (den P ke env' m4).bind fun y m5 => (den P ve env' m5).bind fun z m6 => .ok (some (y, z)) m6 else .ok none m4) [] v.items m1).bind fun kvs m7 => .ok (.loc m7.length) (m7 ++ [.dT kvs])
  | .fstr es, env, m => (denF P Str.empty es env m).bind fun x m1 => .ok (.str x) m1
  | .fmt e, env, m => (den P e env m).bind fun d m1 => fmtD P d m1
noncomputable def denC (P : Prg) : Cn → Ev Bool
  | .val e, env, m => (den P e env m).bind fun d m1 => truD P d m1
  | .not c, env, m => (denC P c env m).bind fun k m1 => .ok (!k) m1
  | .and a b, env, m => (denC P a env m).bind fun k m1 => if k then denC P b env m1 else .ok false m1
  | .or a b, env, m => (denC P a env m).bind fun k m1 => if k then .ok true m1 else denC P b env m1
noncomputable def denCs (P : Prg) : List Cn → Ev Bool
  | [], _, m => .ok true m
  | c :: cs, env, m => (denC P c env m).bind fun k m1 => if k then denCs P cs env m1 else .ok false m1
noncomputable def denL (P : Prg) : List Ex → Ev (List D)
  | [], _, m => .ok [] m
  | e :: es, env, m => (den P e env m).bind fun d m1 => (denL P es env m1).bind fun ds m2 => .ok (d :: ds) m2
noncomputable def denF (P : Prg) (acc : Str) : List Ex → Ev Str
  | [], _, m => .ok acc m
  | e :: es, env, m => (den P e env m).bind fun d m1 => match d with
    | .str y => if (acc ++ y).length ≤ sizeLine then denF P (acc ++ y) es env m1 else .bad
    | _ => .bad
noncomputable def denO (P : Prg) : Option Ex → Ev (Option Int)
  | none, _, m => .ok none m
  | some e, env, m => (den P e env m).bind fun d m1 => partD d m1
noncomputable def denI (P : Prg) : It → Ev IV
  | .seq e, env, m => (den P e env m).bind fun d m1 => ofO m1 (seqI m1 d)
  | .range1 a, env, m => (den P a env m).bind fun d m1 => ofO m1 (rngI [d])
  | .range2 a b, env, m => (den P a env m).bind fun d m1 => (den P b env m1).bind fun e m2 => ofO m2 (rngI [d, e])
  | .enum e, env, m => (den P e env m).bind fun d m1 => ofO m1 (enumI m1 d)
  | .zip a b, env, m => (den P a env m).bind fun d m1 => (den P b env m1).bind fun e m2 => ofO m2 (zipI d e)
  | .items e, env, m => (den P e env m).bind fun d m1 => itemsI d m1
noncomputable def denT (P : Prg) : Tg → D → Ev En
  | .bad, _, _, _ => .bad
  | .name i, d, env, m => .ok (env.set i (some d)) m
  | .fld o f, d, env, m => (den P o env m).bind fun x m1 => match x with
    | .loc n => match m1[n]? with
      | some (.ins c ns xs) => match P.at_ c f with
        | .no => if xs.length < 1000 then .ok env (m1.set n (.ins c (putN f ns) (putX f d ns xs))) else .bad
        | _ => .bad
      | _ => .bad
    | _ => .bad
  | .sub o i, d, env, m => (den P o env m).bind fun x m1 => (den P i env m1).bind fun j m2 => match x, j with
    | .loc n, .int j => match m2[n]? with
      | some (.lst xs) => match ixN xs.length j with
        | some k => .ok env (m2.set n (.lst (xs.set k d)))
        | none => .bad
      | _ => .bad
    | _, _ => .bad
  | .tup ts, d, env, m => match vw m d with
    | .lst xs => if xs.length = ts.length then denTs P ts xs env m else .bad
    | .tup xs => if xs.length = ts.length then denTs P ts xs env m else .bad
    | _ => .bad
noncomputable def denTs (P : Prg) : List Tg → List D → Ev En
  | [], [], env, m => .ok env m
  | t :: ts, d :: ds, env, m => (denT P t d env m).bind fun env' m1 => denTs P ts ds env' m1
  | _, _, _, _ => .bad
end
end DL

/-! DL5: statements -/
namespace DL
open PySem PySem.Spec PyProof.Rows L2

inductive Fl where | nx | rt (d : D) | bk | ct
inductive SR' where
  | ok (f : Fl) (env : En) (m : Me)
  | err (x : Er) (env : En) (m : Me)
  | bad
abbrev Sv := En → Me → SR'
/-- from an expression's result to a statement's -/
def Res.st {α : Type} (r : Res α) (env : En) (k : α → Me → SR') : SR' :=
  match r with
  | .ok a m => k a m
  | .err x m => .err x env m
  | .bad => .bad
@[simp] theorem Res.st_ok {α : Type} (a : α) (m : Me) (env : En) (k : α → Me → SR') : (Res.ok a m).st env k = k a m := rfl
@[simp] theorem Res.st_err {α : Type} (x : Er) (m : Me) (env : En) (k : α → Me → SR') : (Res.err x m : Res α).st env k = .err x env m := rfl
@[simp] theorem Res.st_bad {α : Type} (env : En) (k : α → Me → SR') : (Res.bad : Res α).st env k = .bad := rfl
def Res.stN {α : Type} (r : Res α) (k : α → Me → SR') : SR' :=
  match r with
  | .ok a m => k a m
  | _ => .bad
@[simp] theorem Res.stN_ok {α : Type} (a : α) (m : Me) (k : α → Me → SR') : (Res.ok a m).stN k = k a m := rfl
def SR'.seq (r : SR') (k : Sv) : SR' :=
  match r with
  | .ok .nx env m => k env m
  | r => r
@[simp] theorem SR'.seq_nx (env : En) (m : Me) (k : Sv) : (SR'.ok .nx env m).seq k = k env m := rfl
@[simp] theorem SR'.seq_rt (d : D) (env : En) (m : Me) (k : Sv) : (SR'.ok (.rt d) env m).seq k = .ok (.rt d) env m := rfl
@[simp] theorem SR'.seq_bk (env : En) (m : Me) (k : Sv) : (SR'.ok .bk env m).seq k = .ok .bk env m := rfl
@[simp] theorem SR'.seq_ct (env : En) (m : Me) (k : Sv) : (SR'.ok .ct env m).seq k = .ok .ct env m := rfl
@[simp] theorem SR'.seq_err (x : Er) (env : En) (m : Me) (k : Sv) : (SR'.err x env m).seq k = .err x env m := rfl
@[simp] theorem SR'.seq_bad (k : Sv) : (SR'.bad).seq k = .bad := rfl

/-! ### freezing -/
mutual
def frzD : Nat → Me → D → Option (D × Me)
  | 0, _, _ => none
  | n + 1, m, d => match d with
    | .loc i => match m[i]? with
      | some (.lst ds) => (frzL n (m.set i .gone) ds).map fun r => (.lst r.1, r.2)
      | some (.ins c ns ds) => (frzL n (m.set i .gone) ds).map fun r => (.ins c ns r.1, r.2)
      | _ => none
    | .lst ds => (frzL n m ds).map fun r => (.lst r.1, r.2)
    | .tup ds => (frzL n m ds).map fun r => (.tup r.1, r.2)
    | .ins c ns ds => (frzL n m ds).map fun r => (.ins c ns r.1, r.2)
    | d => some (d, m)
def frzL : Nat → Me → List D → Option (List D × Me)
  | 0, _, _ => none
  | _ + 1, m, [] => some ([], m)
  | n + 1, m, d :: ds => match frzD n m d with
    | some (d', m') => (frzL n m' ds).map fun r => (d' :: r.1, r.2)
    | none => none
end
abbrev frzFuel : Nat := 1000000
def frzR (m : Me) (d : D) : Res D := match frzD frzFuel m d with
  | some (d', m') => .ok d' m'
  | none => .bad

/-! ### loops -/
open Classical in
noncomputable def stillS (v : IV) (m : Me) (r : SR') : SR' := if v.still m then r else .bad
/-- a for loop's turns -/
noncomputable def loopGo (v : IV) (f : D → Sv) : List D → Sv
  | [], env, m => stillS v m (.ok .nx env m)
  | d :: ds, env, m => stillS v m (match f d env m with
    | .ok .nx env' m' => loopGo v f ds env' m'
    | .ok .ct env' m' => loopGo v f ds env' m'
    | .ok .bk env' m' => .ok .nx env' m'
    | .ok (.rt d) env' m' => .ok (.rt d) env' m'
    | .err x env' m' => .err x env' m'
    | .bad => .bad)
/-- a while loop's turns: so many at most -/
noncomputable def whlGo (c : Ev Bool) (f : Sv) : Nat → Sv
  | 0, _, _ => .bad
  | n + 1, env, m => (c env m).st env fun k m1 => if k then (match f env m1 with
    | .ok .nx env' m' => whlGo c f n env' m'
    | .ok .ct env' m' => whlGo c f n env' m'
    | .ok .bk env' m' => .ok .nx env' m'
    | .ok (.rt d) env' m' => .ok (.rt d) env' m'
    | .err x env' m' => .err x env' m'
    | .bad => .bad) else .ok .nx env m1
abbrev whlFuel : Nat := 1000000000
def setMany : List Nat → List D → En → En
  | i :: is, d :: ds, env => setMany is ds (env.set i (some d))
  | _, _, env => env
/-- an own exception: its class's __init__ stores fields -/
def raiseD (P : Prg) (c : Nat) (ds : List D) (m : Me) : Res Er :=
  match P.at_ c nInit with
  | .no => if ds.isEmpty then .ok ⟨c, [], []⟩ m else .bad
  | .meth f => .ok ⟨c, (P.pi f).pos.drop 1, ds⟩ m
  | _ => .bad
def Hd.cs : Hd → List Nat | .mk cs _ _ => cs
/-- the first except clause that takes a class -/
def hdFor (sub : Nat → Nat → Bool) (c : Nat) : List Hd → Option Hd
  | [] => none
  | h :: hs => if h.cs.any (sub c) then some h else hdFor sub c hs

mutual
noncomputable def denS (P : Prg) : St → Sv
  | .bad, _, _ => .bad
  | .pass, env, m => .ok .nx env m
  | .brk, env, m => .ok .bk env m
  | .cont, env, m => .ok .ct env m
  | .ret none _, env, m => .ok (.rt .non) env m
  | .ret (some e) fz, env, m => (den P e env m).st env fun d m1 => if fz then (frzR m1 d).st env fun d' m2 => .ok (.rt d') env m2 else .ok (.rt d) env m1
  | .exp e, env, m => (den P e env m).st env fun _ m1 => .ok .nx env m1
  | .asg t e, env, m => (den P e env m).st env fun d m1 => (denT P t d env m1).stN fun env' m2 => .ok .nx env' m2
  | .par is es, env, m => (denL P es env m).st env fun ds m1 => if is.length = ds.length then .ok .nx (setMany is ds env) m1 else .bad
  | .aug i o p e, env, m => match env[i]? with
    | some (some x) => (den P e env m).st env fun d m1 => (iopD o x d m1).st env fun z m2 => .ok .nx (env.set i (some z)) m2
    | _ => .bad
  | .augF o f op e, env, m => (den P o env m).st env fun x m1 => match x with
    | .loc n => match m1[n]? with
      | some (.ins c ns xs) => match getF ns xs f with
        | some y => match P.at_ c f with
          | .no => (den P e env m1).st env fun d m2 => (iopD op y d m2).st env fun z m3 => match m3[n]? with
            | some (.ins c' ns' xs') => if c' = c ∧ xs'.length < 1000 then .ok .nx env (m3.set n (.ins c (putN f ns') (putX f z ns' xs'))) else .bad
            | _ => .bad
          | _ => .bad
        | none => .bad
      | _ => .bad
    | _ => .bad
  | .augS o i op e, env, m => (den P o env m).st env fun x m1 => (den P i env m1).st env fun y m2 => match x with
    | .loc n => match m2[n]?, keyD y with
      | some (.dT kvs), some ks => match getT kvs ks with
        | some v => (den P e env m2).st env fun d m3 => (iopD op v d m3).st env fun z m4 => match m4[n]? with
          | some (.dT kvs') => if kvs'.length < sizeLine then .ok .nx env (m4.set n (.dT (putT kvs' ks z))) else .bad
          | _ => .bad
        | none => .bad
      | _, _ => .bad
    | _ => .bad
  | .ite c a b, env, m => (denC P c env m).st env fun k m1 => if k then denSs P a env m1 else denSs P b env m1
  | .loop t it body, env, m => (denI P it env m).st env fun v m1 => loopGo v (fun d env' m2 => (denT P t d env' m2).stN fun env2 m3 => denSs P body env2 m3) v.items env m1
  | .whl c body, env, m => whlGo (denC P c) (denSs P body) whlFuel env m
  | .raise c es, env, m => (denL P es env m).st env fun ds m1 => (raiseD P c ds m1).st env fun x m2 => .err x env m2
  | .try_ _ _, _, _ => .bad
  | .frz i, env, m => match env[i]? with
    | some (some d) => (frzR m d).st env fun d' m' => .ok .nx (env.set i (some d')) m'
    | _ => .bad
noncomputable def denSs (P : Prg) : List St → Sv
  | [], env, m => .ok .nx env m
  | s :: ss, env, m => (denS P s env m).seq fun env' m' => denSs P ss env' m'
end

/-! ### the program's defs -/
structure Fd where
  pi : PInfo
  slots : Nat
  body : List St
def sealX (k : Nat) (x : Er) (m : Me) : Res D := if m.length ≤ k then .err x m else if bndL k x.xs && (m.take k).all (bndO k) then .err x (m.take k) else .err x m
noncomputable def runF (P : Prg) (fd : Fd) (as : List D) (m : Me) : Res D :=
  match denSs P fd.body (as.map some ++ List.replicate (fd.slots - as.length) none) m with
  | .ok (.rt d) _ m' => sealR m.length d m'
  | .ok .nx _ m' => sealR m.length .non m'
  | .err x _ m' => sealX m.length x m'
  | _ => .bad
/-- the program, so many calls deep -/
noncomputable def prgAt (B : Prg) (T : Nat → Option Fd) : Nat → Prg
  | 0 => { B with call := fun _ _ _ => .bad, pi := fun f => match T f with | some fd => fd.pi | none => ⟨[], [], [], false⟩ }
  | n + 1 => { B with call := fun f as m => (match T f with | some fd => runF (prgAt B T n) fd as m | none => .bad), pi := fun f => match T f with | some fd => fd.pi | none => ⟨[], [], [], false⟩ }
end DL

/-! DL6: what each form of expression reads -/
namespace DL
open PySem PySem.Spec PyProof.Rows L2

/-! ### forms of syntax, for any parts -/
def superForm : Expr → Bool
  | .Call (.Name _ _) [] [] _ => true
  | _ => false
theorem attrBase {o : Expr} {attr : Str} {env : Env} {whole : Sem Value} (h : superForm o = false) : attributeBase o attr env whole = whole := by
  unfold attributeBase
  split
  · cases h
  · rfl
def isStar : Expr → Bool
  | .Starred _ _ => true
  | _ => false
theorem starCons {e : Expr} {es : List Expr} {env : Env} (h : isStar e = false) : starEach (e :: es) env = (false, eval e env) :: starEach es env := by
  cases e <;> first | rfl | (cases h)
def isSlice : Expr → Bool
  | .Slice _ _ _ _ => true
  | _ => false
theorem plainIx {e : Expr} (h : isSlice e = false) : PlainIx e := by
  intro o i
  cases e <;> first | rfl | (cases h)
/-- the forms whose test is their value's truth -/
def plainTest : Expr → Bool
  | .UnaryOp .Not _ _ => false
  | .BoolOp _ _ _ => false
  | .IfExp _ _ _ _ => false
  | .Compare _ _ _ _ => false
  | _ => true
theorem plainT {e : Expr} {env : Env} (h : plainTest e = true) : ∀ whole, isTrue e env whole = (do let v ← whole; standAt e.pos; holding [v] (truthy v)) := by
  intro whole
  cases e with
  | UnaryOp op a p => cases op <;> first | rfl | (cases h)
  | _ => first | rfl | (cases h)
def isComp : Expr → Bool
  | .ListComp _ _ _ _ => true
  | .SetComp _ _ _ _ => true
  | .DictComp _ _ _ _ _ => true
  | _ => false
theorem noSwap {e : Expr} {t : Option Expr} {l : Nat} {env : Env} (h : isComp e = false) : swapsWith e t l env = pure false := by
  cases e <;> first | rfl | (cases h)
theorem noSwapT {e : Expr} {t : Expr} {l : Nat} {env : Env} (h : ∀ x p, t ≠ .Name x p) : swapsWith e (some t) l env = pure false := by
  cases e <;> first | rfl | (cases t <;> first | rfl | (exact absurd rfl (h _ _)))
theorem noFold {e : Expr} {env : Env} (h : (match e with | .Set _ _ _ => false | _ => true) = true) : ∀ x, foldedSetIterable e env x = pure x := by
  intro x
  cases e <;> first | rfl | (cases h)
theorem noMark {op : CmpOp} {e : Expr} (h : (match e with | .Set _ _ _ => false | _ => true) = true) : behindInMarks op e = false := by
  cases e <;> first | rfl | (cases h)
theorem noStarB : ∀ {es : List Expr} {env : Env} {pos : Pos}, es.all (fun e => !isStar e) = true → (backTo pos (starEach es env)).any (·.1) = false
  | [], _, _, _ => rfl
  | e :: es, env, pos, h => by
    rw [List.all_cons, Bool.and_eq_true] at h
    rw [starCons (by simpa using h.1)]
    show (false || (backTo pos (starEach es env)).any (·.1)) = false
    rw [noStarB h.2]; rfl
theorem kwNamed : ∀ {kws : List Keyword} {env : Env} {pos : Pos}, kws.all (fun k => k.arg.isSome) = true → (backToKw pos (keywordEach kws env)).all (·.1.isSome) = true
  | [], _, _, _ => rfl
  | ⟨n, e, p⟩ :: ks, env, pos, h => by
    rw [List.all_cons, Bool.and_eq_true] at h
    have h1 : n.isSome = true := h.1
    show (n.isSome && (backToKw pos (keywordEach ks env)).all (·.1.isSome)) = true
    rw [h1, kwNamed h.2]; rfl
theorem methEval {o : Expr} {name : Str} {apos pos : Pos} {args : List Expr} {kws : List Keyword} {env : Env} (h1 : superForm o = false) (h2 : args.all (fun e => !isStar e) = true)
    (h3 : kws.all (fun k => k.arg.isSome) = true) (h4 : args.length + kws.length < 29) (h5 : (apos.endLine == pos.line) = true) :
    eval (.Call (.Attribute o name apos) args kws pos) env = (do
      let ov ← eval o env
      standAt apos.atName
      let (f, first) ← holding [ov] (getMethod ov name (do return (← importBound o env).getD true))
      callWith pos f first (backTo pos (starEach args env)) (backToKw pos (keywordEach kws env))) := by
  have few : methodCallForm (args.length + kws.length) (backTo pos (starEach args env)) (backToKw pos (keywordEach kws env)) = true := by
    unfold methodCallForm
    rw [kwNamed h3]
    have e1 : (backTo pos (starEach args env)).all (!·.1) = true := by
      have q := noStarB (env := env) (pos := pos) h2
      rw [List.any_eq_false] at q
      rw [List.all_eq_true]
      intro x hx
      have := q x hx
      simpa using this
    rw [e1]
    simp only [Bool.true_and, decide_eq_true_eq]
    split <;> omega
  have e0 : eval (.Call (.Attribute o name apos) args kws pos) env = (do
      let ov ← attributeBase o name env (eval o env)
      standAt apos.atName
      methodCall o name apos pos env ov (args.length + kws.length) (backTo pos (starEach args env)) (backToKw pos (keywordEach kws env))) := by
    first | rfl | (unfold eval; rfl)
  rw [e0, attrBase h1]
  unfold methodCall calleeOf methodCallPos
  rw [few]
  simp only [if_true, h5, Bool.not_true, Bool.false_or, Bool.false_eq_true, if_false]
  rfl

/-! ### the context of a body -/
structure Bs (X : Cx) (G : GT) : Prop where
  K : X.K = G.K
  calm : X.calm = true
  nd : X.N.Nodup
  un : X.A.units + 200 < cLine
  gd : X.A.guards = some []
section
variable {X : Cx} {G : GT} {W : WX} {P : Prg}
/-! ### names and constants -/
theorem e_var {x : Str} {pos : Pos} {i : Nat} (hN : X.N[i]? = some x) (hv : Vis X.env.scope x) (h1 : (x == ("__debug__" : Str)) = false) (h2 : (x == ("__classdict__" : Str)) = false) : PE X (.Name x pos) (tE G W (den P (.var i))) :=
  (pe_var hN hv h1 h2).imp fun σ H Q ⟨w, env, S, e, p⟩ => by
    unfold den at p
    split at p
    · rename_i d hd
      obtain ⟨v, hv, r⟩ := e.get i d hd
      exact ⟨v, hv, post_ret S r p⟩
    · exact p.elim
theorem e_cst {e : Expr} {d : D} {v : V} (h : PE X e (tC v)) (r : RepC G (fun _ => none) (fun _ => 0) 0 d v) : PE X e (tE G W (den P (.cst d))) :=
  h.imp fun σ H Q ⟨w, env, S, e, p⟩ => by
    unfold den at p
    have r' : Rep G w d v := RepC.mono (fun _ _ z => by cases z) (fun n z => absurd z (Nat.not_lt_zero n)) (Nat.zero_le _) d v r
    exact post_ret S r' p
theorem post_ne {w : Wd} {H : Hp} {W W' : WX} {σ σ' : L2.St} {Q : VK} {r : Res D} (hne : ∀ x m, r ≠ .err x m) (h : Post G (Rep G) W σ w H Q r) : Post G (Rep G) W' σ' w H Q r := by
  cases r with
  | bad => exact h
  | err x m => exact (hne x m rfl).elim
  | ok a m => exact h

/-! ### operators -/
theorem newL_ne {p : Bool} {ds : List D} {m : Me} {x : Er} {m' : Me} (h : newL p ds m = .err x m') : False := by
  unfold newL at h
  split at h <;> cases h
theorem ofO_ne {α : Type} {o : Option α} {m : Me} {x : Er} {m' : Me} (h : ofO m o = .err x m') : False := by
  cases o <;> cases h
theorem ofB_ne {o : Option Bool} {m : Me} {x : Er} {m' : Me} (h : ofB m o = .err x m') : False := by
  cases o <;> cases h
theorem binD_ne {o : Bop} {p : Bool} : ∀ d e m x m', binD o p d e m ≠ .err x m' := by
  intro d e m x m' h
  cases o <;> simp only [binD] at h
  · unfold addD newT at h
    repeat' split at h
    all_goals first | (cases h; done) | exact newL_ne h
  all_goals
    first | unfold subD at h | unfold mulD at h | unfold fdivD at h | unfold modD at h | unfold powD at h
    unfold intOp at h
    repeat' split at h
    all_goals first | (cases h; done) | (dsimp only at h; repeat' split at h) 
    all_goals (cases h; done)
def bopOf : Bop → Operator
  | .add => .Add | .sub => .Sub | .mul => .Mult | .fdiv => .FloorDiv | .mod => .Mod | .pow => .Pow
theorem op_binD (B : Bs X G) (o : Bop) (p : Bool) : OpR X (binaryOp (bopOf o)) (rop G (binD o p)) := by
  cases o
  · exact op_addD B.K
  · exact op_subD
  · exact op_mulD
  · exact op_fdivD
  · exact op_modD
  · exact op_powD
theorem e_bin (B : Bs X G) {a b : Expr} {o : Bop} {p : Bool} {pos : Pos} {ea eb : Ex} (ha : PE X a (tE G W (den P ea))) (hb : PE X b (tE G W (den P eb))) : PE X (.BinOp a (bopOf o) b pos) (tE G W (den P (.bin o p ea eb))) := by
  have h := pe_bin (pos := pos) (op_binD B o p) binD_ne ha hb
  have e : den P (.bin o p ea eb) = fun env m => (den P ea env m).bind fun d m1 => (den P eb env m1).bind fun e m2 => binD o p d e m2 := by
    funext env m; rw [den]
  rw [e]; exact h
theorem e_neg {a : Expr} {pos : Pos} {ea : Ex} (ha : PE X a (tE G W (den P ea))) : PE X (.UnaryOp .USub a pos) (tE G W (den P (.neg ea))) := by
  refine (pe_un (un_negD (G := G)) ha).imp fun σ H Q h => ?_
  have h : tG G (Rep G) W (fun env m => (den P ea env m).bind fun d m1 => negD d m1) σ H Q := by
    have e : den P (.neg ea) = fun env m => (den P ea env m).bind fun d m1 => negD d m1 := by funext env m; rw [den]
    rw [e] at h; exact h
  refine (tG.bind (S := Rep G) (k := fun d _ m1 => negD d m1) h).mono fun x H1 ⟨w, env, d, S, e, r, p⟩ => ⟨w, d, S, r, post_ne (fun x m z => ?_) p⟩
  unfold negD at z
  split at z <;> cases z
theorem cmpD_ne {o : CmpOp} {d e : D} {m : Me} {x : Er} {m' : Me} (h : cmpD o d e m = .err x m') : False := by
  cases o <;> simp only [cmpD] at h
  case Eq => exact ofB_ne h
  case NotEq => exact ofB_ne h
  case Is => exact ofB_ne h
  case IsNot => exact ofB_ne h
  case In => exact ofB_ne h
  case NotIn => exact ofB_ne h
  case Lt => unfold ltD at h; repeat' split at h
             all_goals cases h
  case LtE => unfold leD at h; repeat' split at h
              all_goals cases h
  case Gt => unfold gtD at h; repeat' split at h
             all_goals cases h
  case GtE => unfold geD at h; repeat' split at h
              all_goals cases h
theorem op_cmpD (B : Bs X G) (o : CmpOp) : OpR X (compareOp o) (rop G (cmpD o)) := by
  have h1 : X.A.units + 64 < cLine := by have := B.un; omega
  have h2 : X.A.units + 65 < cLine := by have := B.un; omega
  cases o
  case Eq => exact op_eqDD B.K h1
  case NotEq => exact op_neDD B.K h1
  case Is => exact op_isD
  case IsNot => exact op_isNotD
  case In => exact op_inDD B.K h2
  case NotIn => exact op_notInDD B.K h2
  case Lt => exact op_ltD
  case LtE => exact op_leD
  case Gt => exact op_gtD
  case GtE => exact op_geD
def noSet (e : Expr) : Bool := match e with | .Set _ _ _ => false | _ => true
/-- two operands, then an operator's rule -/
theorem two_ops {f : D → D → Me → Res D} {a b : Expr} {ea eb : Ex} (hne : ∀ d e m x m', f d e m ≠ .err x m') {σ : L2.St} {H : Hp} {Q : VK}
    (h : tG G (Rep G) W (fun env m => (den P ea env m).bind fun d m1 => (den P eb env m1).bind fun e m2 => f d e m2) σ H Q) : tOp (rop G f) (tE G W (den P ea)) (tE G W (den P eb)) σ H Q :=
  (tG.bind (S := Rep G) (g := den P ea) (k := fun d env m1 => (den P eb env m1).bind fun e m2 => f d e m2) h).mono fun x H1 h1 =>
    (kG.bind (mono_rep G) (S := Rep G) (g := den P eb) (k := fun p _ m => f p.1 p.2 m) h1).mono fun y H2 h2 => kG.rop hne h2
theorem bindN_ne {α β : Type} {r : Res α} {k : α → Me → Res β} {x : Er} {m' : Me} (hk : ∀ a m, k a m ≠ .err x m') (h : r.bindN k = .err x m') : False := by
  cases r with
  | ok a m => exact hk a m h
  | err y m => cases h
  | bad => cases h
theorem cmpP_ne {o : CmpOp} {d e : D} {m : Me} {x : Er} {m' : Me} (h : cmpP P o d e m = .err x m') : False := by
  unfold cmpP at h
  repeat' split at h
  all_goals first
    | (cases h; done)
    | exact cmpD_ne h
    | (refine bindN_ne (fun a m1 z => ?_) h
       split at z <;> cases z)
end
end DL

/-! DL7: the program's defs, called -/
namespace DL
open PySem PySem.Spec PyProof.Rows L2

/-- what a call's result asks -/
def callPost (G : GT) (E : XK) (Q : VK) (H : Hp) (vs zs : List V) (kn : List Nat) (g : List D → List Nat → List D → Me → Res D) : Prop :=
  ∃ w ds ks, SR G w H ∧ RepL G w ds vs ∧ RepL G w ks zs ∧ Post G (Rep G) (fun c d _ H' => E c d H') [] w H Q (g ds kn ks w.m)
/-- a def keeps what g says -/
structure FnG (G : GT) (P : Program) (w : World) (mg : Str → Option Value) (base : Heap) (k : Nat) (f : Addr) (g : List D → List Nat → List D → Me → Res D) : Prop where
  run : ∀ (A : Around) (outer : List Env) (s : Shared) (H : Hp) (us : List Value) (kw : List (Str × Value)) (vs zs : List V) (kn : List Nat) (Q : VK) (E : XK), Room k A → A.guards = some [] → Env0 P w G.K mg base A outer s H →
    Vals vs us → kw.map (·.1) = kn.map G.fnm → Vals zs (kw.map (·.2)) → callPost G E Q H vs zs kn g →
    codeAny (model P w) A (.call (.ref f) ⟨us, kw⟩) (CR (L2.CX P w) outer P w H s Q E) s
theorem FnG.mono {G : GT} {P : Program} {w : World} {mg : Str → Option Value} {base : Heap} {j k : Nat} {f : Addr} {g : List D → List Nat → List D → Me → Res D} (F : FnG G P w mg base j f g) (h : j ≤ k) : FnG G P w mg base k f g :=
  ⟨fun A outer s H us kw vs zs kn Q E hr => F.run A outer s H us kw vs zs kn Q E (hr.mono h)⟩

/-- the type of a value, as the library's deciders take it -/
def tyVal (G : GT) : String ⊕ Nat → Value
  | .inl n => .type n
  | .inr c => .ref (G.cadr c)
/-- what the head tells of the classes -/
structure ClsOk (G : GT) (P : Prg) : Prop where
  no : ∀ c n, P.at_ c n = .no → Cls G.K (G.cadr c) ∧ NoAttr G.K (G.cadr c) (G.fnm n)
  meth : ∀ c n f, P.at_ c n = .meth f → Cls G.K (G.cadr c) ∧ Meth G.K (G.cadr c) (G.fnm n) (G.fadr f)
  obj : ∀ c n, P.at_ c n = .obj → Cls G.K (G.cadr c) ∧ True ∧ PySem.W.findIn G.K (.ref (G.cadr c)) "__ne__" = some (some (.builtin "object.__ne__")) ∧ PySem.W.subIn G.K (.ref (G.cadr c)) (.type "object") = some true
  mks : ∀ c, P.mks c = true → PySem.W.makesIn G.K (G.cadr c) = true ∧ PySem.W.keepIn G.K (.ref (G.cadr c)) = true
  fns : ∀ f, P.fok f = true → PySem.W.keepIn G.K (.ref (G.fadr f)) = true
  isi : ∀ t c b, P.isi t c = some b → PySem.W.kitOne G.K (tyVal G t) (tyVal G c) = some b
  ins : ∀ c, P.ity c = true → Cls G.K (G.cadr c) ∧ PySem.W.findIn G.K (.ref (G.cadr c)) "__class__" = some (some (.builtin "object.__class__")) ∧
    PySem.W.specialIn G.K (.builtin "object.__class__") "__get__" = some (some (.builtin "getset_descriptor.__get__")) ∧ PySem.W.takesIn G.K (.builtin "object.__class__") = some true ∧ PySem.W.mroIn G.K (G.cadr c) (.type "object") = some true
  nf : ∀ c t, P.nf c t = true → PySem.W.notFirst G.K (G.cadr c) (tyVal G t) = true
  inj : ∀ i j, G.fnm i = G.fnm j → i = j
  n0 : G.fnm nInit = "__init__"
  n1 : G.fnm nEq = "__eq__"
  n2 : G.fnm nLen = "__len__"
  n3 : G.fnm nRepr = "__repr__"
  n4 : G.fnm nBool = "__bool__"
  n5 : G.fnm nNe = "__ne__"

/-- the context in which a body's code stands: its room, its wish, what its calls keep -/
structure Ok (X : Cx) (G : GT) (P : Prg) (W : WX) (k : Nat) : Prop where
  B : Bs X G
  room : Room k X.A
  tk : Takes X W
  po : PassesOwn (model X.prog X.w) X.A X.env X.xe
  cls : ClsOk G P

section
variable {X : Cx} {G : GT} {P : Prg} {W : WX} {k : Nat} {pins : List (Addr × Obj)} {σ : L2.St} {H : Hp} {s : Shared}
/-- a def is called -/
theorem run_g {f : Addr} {g : List D → List Nat → List D → Me → Res D} {us : List Value} {kw : List (Str × Value)} {vs zs : List V} {kn : List Nat} {Q : VK} (F : FnG G X.prog X.w X.mg X.base k f g) (hK : X.K = G.K) (hr : Room k X.A) (hg : X.A.guards = some [])
    (tk : Takes X W) (I : Inv X pins σ H s) (r : Vals vs us) (hk : kw.map (·.1) = kn.map G.fnm) (rz : Vals zs (kw.map (·.2))) (h : callPost G (fun c d H' => W c d σ H') Q H vs zs kn g) :
    wpAny (model X.prog X.w) X.A (call (.ref f) us kw) (EP X pins σ Q) X.xe s := by
  have e0 : Env0 X.prog X.w G.K X.mg X.base X.A X.stack s H := hK ▸ I.env0
  refine wpAny_call (codeAny_mono (F.run X.A X.stack s H us kw vs zs kn Q _ hr hg e0 r hk rz h) fun r s' hq => ?_)
  cases r with
  | error e => exact tk e s' (XE.of_call I (fun _ _ _ z => z) hq)
  | ok fl =>
    cases fl with
    | ret u => exact I.after hq
    | next => exact False.elim hq
    | brk => exact False.elim hq
    | cont => exact False.elim hq
/-- .. where nothing may be raised: under any other room of the same frames -/
theorem run_gN {A : Around} {f : Addr} {g : List D → List Nat → List D → Me → Res D} {us : List Value} {vs : List V} {Q : VK} {Ex : Value → Shared → Prop} (F : FnG G X.prog X.w X.mg X.base k f g) (hK : X.K = G.K) (hr : Room k A) (hg : A.guards = some [])
    (hA : A.frames = X.A.frames) (I : Inv X pins σ H s) (r : Vals vs us) (h : callPost G (fun _ _ _ => False) Q H vs [] [] g) :
    wpAny (model X.prog X.w) A (call (.ref f) us) (EP X pins σ Q) Ex s := by
  have e0 : Env0 X.prog X.w G.K X.mg X.base X.A X.stack s H := hK ▸ I.env0
  have e1 : Env0 X.prog X.w G.K X.mg X.base A X.stack s H := ⟨hA.trans e0.frames, e0.mod, e0.bs, e0.bsz, e0.funs, e0.frf, e0.hok, e0.bare⟩
  refine wpAny_call (codeAny_mono (F.run A X.stack s H us [] vs [] [] Q _ hr hg e1 r rfl .nil h) fun r s' hq => ?_)
  cases r with
  | error e =>
    obtain ⟨_, _, _, _, _, _, _, _, _, _, _, _, z⟩ := hq
    exact z.elim
  | ok fl =>
    cases fl with
    | ret u => exact I.after hq
    | next => exact False.elim hq
    | brk => exact False.elim hq
    | cont => exact False.elim hq

/-- a special method's call, from a result that is looked at -/
theorem callPost_bindN {α β : Type} {R : Wd → α → β → Prop} {w : Wd} {ds : List D} {vs : List V} {g : List D → List Nat → List D → Me → Res D} {k' : D → Me → Res α} {Q : β → Hp → Prop} {W' : WX} {σ' : L2.St}
    (S : SR G w H) (r : RepL G w ds vs) (h : Post G R W' σ' w H Q ((g ds [] [] w.m).bindN k')) :
    callPost G (fun _ _ _ => False) (fun v H' => ∃ w' d, SR G w' H' ∧ Rep G w' d v ∧ Post G R W' σ' w' H' Q (k' d w'.m)) H vs [] [] g := by
  refine ⟨w, ds, [], S, r, .nil, ?_⟩
  cases q : g ds [] [] w.m with
  | ok d m =>
    rw [q] at h
    intro v H' w' em st S' r'
    subst em
    exact ⟨w', d, S', r', Post.step h st⟩
  | err x m => rw [q] at h; exact h.elim
  | bad => rw [q] at h; exact h.elim
end
end DL

/-! DL8: own special methods; comparisons, truth, built-in functions by data -/
namespace DL
section
open PySem PySem.W PySem.Calls PyProof.Rows Builtin
section
variable {prog : Program} {w : World} {A : Around} {E : Value → Shared → Prop} {s : Shared} {K : Frag} {x C f : Addr} {ox : Obj} {od : Option Obj} {b tb : Value}
theorem ifBound_obj {M : Model} {args : List Value} {Q : Option Value → Shared → Prop} (X : K.In s.heap) (I : InstAt s.heap x ox C od) (hs : findIn K (.ref C) "__ne__" = some (some (.builtin "object.__ne__")))
    (h : wpAny M A (call (.builtin "object.__ne__") (.ref x :: args)) (fun v => Q (some v)) E s) : wpAny M A (callSpecialIfBound? (.ref x) "__ne__" args) Q E s := by
  simp only [callSpecialIfBound?, bindSpecialIfBound?]
  refine wpAny_holding (wpAny_bind (wpAny_bind (wpAny_bind (I.type.here ((looks_findIn X hs).here ?_)))))
  simp only [PySem.F.cmp_object.ne.bind]
  refine wpAny_bind (wpAny_askSetting (wpAny_ite ?_))
  have fin : wpAny M A (call (.builtin "object.__ne__") ([.ref x] ++ args) >>= fun v => pure (some v)) Q E s := wpAny_bind (wpAny_mono h (fun v s' h' => wpAny_pure h') fun _ _ h' => h')
  split
  · exact wpAny_bind (wpAny_pure (wpAny_pure (by exact fin)))
  · exact wpAny_tryCatch (wpAny_bind (wpAny_pure (wpAny_pure (by exact fin))))
theorem check_slot_K {M : Model} {id n : String} {rest : List Value} {Q : Unit → Shared → Prop} (hk : builtinKind id = some .slot) (hs : splitId id = some ("object", n)) (X : K.In s.heap) (I : InstAt s.heap x ox C od)
    (hsub : subIn K (.ref C) (.type "object") = some true) (ha : argsOk id ⟨.ref x :: rest, []⟩) (hq : Q () s) : wpAny M A (checkBuiltinCall id ⟨.ref x :: rest, []⟩) Q E s := by
  simp only [checkBuiltinCall, hk, hs]
  refine wpAny_bind ?_
  unfold isInstance
  refine wpAny_bind (I.type.here ?_)
  refine (looks_subIn X hsub).here ?_
  repeat (first | wp_step)
  cases hsig : Manifest.signature? id with
  | none => exact wpAny_pure hq
  | some sig =>
    simp only [argsOk, hsig] at ha
    have h2 : Bind.checkArgs id sig ⟨.ref x :: rest, []⟩ = pure () := ha
    show wpAny M A (Bind.checkArgs id sig ⟨.ref x :: rest, []⟩) Q E _
    rw [h2]; exact wpAny_pure hq
theorem objNe_entry_K (hu : A.units < cLine) {Q : Fin → Shared → Prop} (X : K.In s.heap) (I : InstAt s.heap x ox C od) (hs : findIn K (.ref C) "__eq__" = some (some (.ref f))) (hf : isFn K (.ref f) = true)
    (hcall : wpAny (model prog w) A (call (.ref f) [.ref x, b]) (fun v s' => ∃ b, v = .bool b ∧ Q (.done (.ret (.bool (!b)))) s') E s) :
    wpAny (model prog w) A (Builtin.«object.__ne__» ⟨[.ref x, b], []⟩) Q E s := by
  unfold Builtin.«object.__ne__»
  repeat (first
    | with_reducible refine wpAny_cRoomFor hu ?_
    | (refine wpAny_bind (m := callSpecialIfBound? (.ref x) (Str.ofString "__eq__") [b])
        (ifBound_K X I hs hf (wpAny_mono hcall (fun r s' hr => by
          obtain ⟨b, rfl, hq⟩ := hr
          repeat (first | exact hq | exact wpAny_pure hq | exact wpAny_truthy_bool hq | (refine wpAny_bind (m := truthy (.bool _)) (wpAny_truthy_bool ?_)) | wp_step)) fun _ _ e => e)))
    | wp_step)
theorem ne_own {Q : Value → Shared → Prop} (hu : A.units + 1 < cLine) (X : K.In s.heap) (I : InstAt s.heap x ox C od) (hb : Looks (model prog w) s.heap (typeOf b) tb) (hn : notFirst K C tb = true)
    (hne : findIn K (.ref C) "__ne__" = some (some (.builtin "object.__ne__"))) (hsub : subIn K (.ref C) (.type "object") = some true)
    (hs : findIn K (.ref C) "__eq__" = some (some (.ref f))) (hf : isFn K (.ref f) = true)
    (h : wpAny (model prog w) A.in1 (call (.ref f) [.ref x, b]) (fun v s' => ∃ b, v = .bool b ∧ Q (.bool (!b)) s') E s) : wpAny (model prog w) A (richCompare .NotEq (.ref x) b) Q E s := by
  have one : wpAny (model prog w) A (tryCompare (.ref x) "__ne__" b) (fun r s' => ∃ v, r = some v ∧ Q v s') E s := by
    unfold tryCompare
    refine wpAny_bind (ifBound_obj X I hne (wpAny_call (codeAny_call_builtin PySem.F.cmp_object.ne.plain PySem.F.cmpEntry_ne
      (check_slot_K PySem.F.cmpKind_ne PySem.F.cmpSplit_ne X I hsub (PySem.F.cmpArgs_ne _ _) (objNe_entry_K (A := A.in1) hu X I hs hf (wpAny_mono h (fun v s' hv => ?_) fun _ _ e => e))))))
    obtain ⟨b, rfl, hq⟩ := hv
    first | exact ⟨b, rfl, wpAny_pure ⟨_, rfl, hq⟩⟩ | exact ⟨b, rfl, _, rfl, hq⟩
  unfold richCompare
  simp only [oneThing_ref]
  refine wpAny_holding (wpAny_bind (wpAny_cRoomFor (Nat.lt_of_succ_lt hu) ?_))
  refine wpAny_bind (I.type.here (wpAny_bind (hb.here ?_)))
  rw [PySem.cmpInfo_NotEq]
  split
  · rename_i q
    have e : subIn K tb (.ref C) = some false := by
      rcases Bool.or_eq_true_iff.mp hn with e | e
      · rw [beq_iff_eq.mp e] at q; simp at q
      · exact beq_iff_eq.mp e
    refine wpAny_bind ((looks_subIn X e).here ?_)
    simp only [Bool.false_eq_true, if_false]
    refine wpAny_bind (wpAny_mono one (fun r s' z => ?_) fun _ _ e => e)
    obtain ⟨v, rfl, hq⟩ := z
    exact wpAny_pure hq
  · refine wpAny_bind (wpAny_pure ?_)
    simp only [Bool.false_eq_true, if_false]
    refine wpAny_bind (wpAny_mono one (fun r s' z => ?_) fun _ _ e => e)
    obtain ⟨v, rfl, hq⟩ := z
    exact wpAny_pure hq
theorem len_body_K {Q : Fin → Shared → Prop} (X : K.In s.heap) (I : InstAt s.heap x ox C od) (hs : findIn K (.ref C) "__len__" = some (some (.ref f))) (hf : isFn K (.ref f) = true)
    (h : wpAny (model prog w) A (call (.ref f) [.ref x]) (PySem.W.LenBack fun v => Q (.done (.ret v))) E s) : wpAny (model prog w) A (Builtin.«len» ⟨[.ref x], []⟩) Q E s := by
  unfold Builtin.«len»
  refine wpAny_bind (m := oneArg "len" _) (wpAny_pure ?_)
  refine wpAny_bind (m := callSpecial? (.ref x) (Str.ofString "__len__")) (special_fn X I hs (beq_iff_eq.mp hf) (wpAny_mono h (fun r s' hr => ?_) fun _ _ y => y))
  cases r <;> first | exact hr.elim | skip
  rename_i n u
  obtain ⟨⟨h0, h1⟩, hq⟩ := hr
  refine wpAny_bind (wpAny_holding (wpAny_pure ?_))
  refine wpAny_bind (wpAny_letGo ?_)
  show wpAny _ _ (if n < 0 then _ else _) _ _ _
  rw [if_neg (by omega)]
  show wpAny _ _ (if n ≥ 2 ^ 63 then _ else _) _ _ _
  rw [if_neg (by omega)]
  exact wpAny_bind (wpAny_mkInt (wpAny_pure hq))
theorem truthy_len {Q : Bool → Shared → Prop} (X : K.In s.heap) (I : InstAt s.heap x ox C od) (hb : findIn K (.ref C) "__bool__" = some none) (hs : findIn K (.ref C) "__len__" = some (some (.ref f))) (hf : isFn K (.ref f) = true)
    (h : wpAny (model prog w) A.in1 (call (.ref f) [.ref x]) (PySem.W.LenBack fun v s' => ∃ n t, v = .int n t ∧ Q (n != 0) s') E s) : wpAny (model prog w) A (truthy (.ref x)) Q E s := by
  unfold truthy
  refine wpAny_bind (m := callSpecial? (.ref x) (Str.ofString "__bool__")) (wpAny_bind (wpAny_bind (I.type.here ((looks_findIn X hb).here (wpAny_pure ?_)))))
  refine wpAny_bind (wpAny_bind (I.type.here ((looks_findIn X hs).here ?_)))
  have key : wpAny (model prog w) A (runValue (.builtin "len" ⟨[.ref x], []⟩)) (fun r s' => ∃ n t, r = .int n t ∧ Q (n != 0) s') E s := by
    refine wpAny_runValue (codeAny_builtin entry_len ?_)
    rw [Around.under_plainId plain_len _]
    exact wpAny_mono (len_body_K (A := A.in1) (Q := fun fin s' => ∃ r, fin = .done (.ret r) ∧ ∃ n t, r = .int n t ∧ Q (n != 0) s') X I hs hf (wpAny_mono h (fun v s' hv => by
        cases v <;> first | exact hv.elim | skip
        obtain ⟨a, n, t, e, q⟩ := hv
        exact ⟨a, _, rfl, n, t, e, q⟩) fun _ _ e => e))
      (fun fin s' h' => by obtain ⟨r, rfl, hq⟩ := h'; exact hq) fun _ _ e => e
  refine wpAny_bind (wpAny_mono key (fun r s' hr => ?_) fun _ _ e => e)
  obtain ⟨n, t, rfl, q⟩ := hr
  exact wpAny_pure q
end
end

open PySem PySem.Spec PyProof.Rows L2
section
variable {X : Cx} {G : GT} {P : Prg} {W : WX} {k : Nat}
theorem tyX_of {w : Wd} {H : Hp} {d : D} {v : V} {t : String ⊕ Nat} (hK : X.K = G.K) (C : ClsOk G P) (S : SR G w H) (r : Rep G w d v) (h : typ P w.m d = some t) : TyX X.K H v (tyVal G t) := by
  have seqL : ∀ {a : Addr} {xs : List V}, SqL X.K H a xs → TyX X.K H (.ref a) (.type "list") := fun {a xs} q => by
    rcases q with (q | ⟨o, q⟩) | ⟨o, its, n, q, c, _⟩
    · exact .base (.lst q)
    · exact .base (.frz q)
    · exact .kList q c
  have seqT : ∀ {a : Addr} {xs : List V}, SqT X.K H a xs → TyX X.K H (.ref a) (.type "tuple") := fun {a xs} q => by
    rcases q with (q | ⟨o, q⟩) | ⟨o, its, n, q, c, _⟩
    · exact .base (.tup q)
    · exact .fTuple q
    · exact .kTuple q c
  unfold typ at h
  split at h
  · rename_i e; cases h; cases vw_non r e; exact .base .non
  · rename_i b e; cases h; cases vw_bl r e; exact .base (.bl b)
  · rename_i b e; cases h; cases vw_int r e; exact .base (.int b)
  · rename_i b e; cases h; obtain ⟨rfl, _⟩ := vw_str r e; exact .base (.str b)
  · rename_i b e; cases h; obtain ⟨a, xs, rfl, q, _⟩ := vw_lst S r e; exact seqL (hK ▸ q)
  · rename_i b e; cases h; obtain ⟨a, xs, rfl, q, _⟩ := vw_tup S r e; exact seqT (hK ▸ q)
  · rename_i c ns ds e
    split at h
    · rename_i hc
      cases h
      obtain ⟨a, dx, fs, rfl, q, _⟩ := vw_ins S r e
      obtain ⟨c1, c2, c3, c4, c5⟩ := C.ins c hc
      rw [hK]
      exact .base (.ins q c1 c2 c3 c4 c5)
    · cases h
  · cases h
theorem room_in1 {k : Nat} {A : Around} (h : Room (k + 1) A) : Room k A.in1 := h.in1
/-- comparisons, the program's own == among them -/
theorem op_cmpP (O : Ok X G P W (k + 1)) (hcalls : ∀ f, FnG G X.prog X.w X.mg X.base k (G.fadr f) (appF P f)) (o : CmpOp) : OpR X (compareOp o) (rop G (cmpP P o)) := by
  intro pins s σ H x y v u Q I rx ry hh
  obtain ⟨w, d, e, S, r1, r2, q⟩ := hh
  have B := O.B
  have hu : X.A.units + 1 < cLine := by have := B.un; omega
  unfold cmpP at q
  split at q
  · rename_i c ns ds hv
    split at q
    · rename_i f h1 h2
      obtain ⟨t, ht, hnf⟩ := Option.map_eq_some_iff.mp h2
      obtain ⟨a, dx, fs, rfl, ea, _⟩ := vw_ins S r1 hv
      cases rx
      obtain ⟨mA, Ob, _⟩ := ins_get I.hok ea
      obtain ⟨od, J, _⟩ := Ob.look
      obtain ⟨hc, hm⟩ := O.cls.meth c nEq f h1
      have hs := hm.at_
      rw [O.cls.n1, ← B.K] at hs
      have hf := hm.fn
      rw [← B.K] at hf
      obtain ⟨Pq, KX, hP, _⟩ := kit_of I ry (tyX_of B.K O.cls S r2 ht)
      have hnf' := O.cls.nf c t hnf
      rw [← B.K] at hnf'
      obtain ⟨m, hfr⟩ := I.fr
      unfold compareOp
      refine PySem.W.cmp_K (by omega) hfr I.mod.kin J (KX.ty _ _ I.kIn hP) hnf' hs hf ?_
      refine thn (run_gN (hcalls f) B.K (O.room.mono (Nat.le_succ k)) B.gd rfl I (.cons (show L2.RelV (.ref a) (Value.ref a) from rfl) (.cons ry .nil)) (callPost_bindN S (.cons r1 (.cons r2 .nil)) q)) fun z s1 hz => ?_
      obtain ⟨v1, H1, I1, rv, w1, d1, S1, rr, p1⟩ := hz
      split at p1
      · rename_i b
        cases rep_bl rr
        cases rv
        exact ⟨.bl b, H1, I1, rfl, post_ret S1 mk_bl p1⟩
      · exact p1.elim
    · exact q.elim
  · rename_i c ns ds hv
    split at q
    · rename_i f h1 h2 h3
      obtain ⟨t, ht, hnf⟩ := Option.map_eq_some_iff.mp h3
      obtain ⟨a, dx, fs, rfl, ea, _⟩ := vw_ins S r1 hv
      cases rx
      obtain ⟨mA, Ob, _⟩ := ins_get I.hok ea
      obtain ⟨od, J, _⟩ := Ob.look
      obtain ⟨hc, hm⟩ := O.cls.meth c nEq f h1
      have hs := hm.at_
      rw [O.cls.n1, ← B.K] at hs
      have hf := hm.fn
      rw [← B.K] at hf
      obtain ⟨Pq, KX, hP, _⟩ := kit_of I ry (tyX_of B.K O.cls S r2 ht)
      have hnf' := O.cls.nf c t hnf
      rw [← B.K] at hnf'
      obtain ⟨_, _, hob, hsub⟩ := O.cls.obj c nNe h2
      rw [← B.K] at hob hsub
      unfold compareOp
      refine ne_own (by omega) I.kIn J (KX.ty _ _ I.kIn hP) hnf' hob hsub hs hf ?_
      refine thn (run_gN (A := X.A.in1) (hcalls f) B.K O.room.in1 B.gd rfl I (.cons (show L2.RelV (.ref a) (Value.ref a) from rfl) (.cons ry .nil)) (callPost_bindN S (.cons r1 (.cons r2 .nil)) q)) fun z s1 hz => ?_
      obtain ⟨v1, H1, I1, rv, w1, d1, S1, rr, p1⟩ := hz
      split at p1
      · rename_i b
        cases rep_bl rr
        cases rv
        exact ⟨b, rfl, .bl (!b), H1, I1, rfl, post_ret S1 mk_bl p1⟩
      · exact p1.elim
    · exact q.elim
  · exact op_cmpD B _ pins s σ H x y v u Q I rx ry ⟨w, d, e, S, r1, r2, q⟩
/-- truth -/
theorem tru_D (O : Ok X G P W (k + 1)) (hcalls : ∀ f, FnG G X.prog X.w X.mg X.base k (G.fadr f) (appF P f)) : TruR X (fun x H Q => ∃ w d, SR G w H ∧ Rep G w d x ∧ Post G REq WN [] w H Q (truD P d w.m)) := by
  intro pins s σ H x v Q I rx hh
  obtain ⟨w, d, S, r, q⟩ := hh
  have B := O.B
  unfold truD at q
  split at q
  · rename_i c ns ds hv
    obtain ⟨a, dx, fs, rfl, ea, _⟩ := vw_ins S r hv
    cases rx
    obtain ⟨mA, Ob, _⟩ := ins_get I.hok ea
    obtain ⟨od, J, _⟩ := Ob.look
    split at q
    · rename_i f h1 h2
      obtain ⟨_, hb⟩ := O.cls.no c nBool h1
      unfold NoAttr at hb
      rw [O.cls.n4, ← B.K] at hb
      obtain ⟨hc, hm⟩ := O.cls.meth c nLen f h2
      have hs := hm.at_
      rw [O.cls.n2, ← B.K] at hs
      have hf := hm.fn
      rw [← B.K] at hf
      refine truthy_len I.kIn J hb hs hf ?_
      refine thn (run_gN (A := X.A.in1) (hcalls f) B.K O.room.in1 B.gd rfl I (.cons (show L2.RelV (.ref a) (Value.ref a) from rfl) .nil) (callPost_bindN S (.cons r .nil) q)) fun z s1 hz => ?_
      obtain ⟨v1, H1, I1, rv, w1, d1, S1, rr, p1⟩ := hz
      split at p1
      · rename_i n
        cases rep_int rr
        obtain ⟨t, rfl⟩ := rv
        split at p1
        · rename_i hn
          exact ⟨hn, n, _, rfl, H1, I1.tok _, post_ret S1 rfl p1⟩
        · exact p1.elim
      · exact p1.elim
    · rename_i h1 h2
      obtain ⟨_, hb⟩ := O.cls.no c nBool h1
      obtain ⟨_, hl⟩ := O.cls.no c nLen h2
      unfold NoAttr at hb hl
      rw [O.cls.n4, ← B.K] at hb
      rw [O.cls.n2, ← B.K] at hl
      obtain ⟨m, hfr⟩ := I.fr
      exact PySem.W.truthy_K0 hfr I.mod.kin J hb hl ⟨H, I, post_ret S rfl q⟩
    · exact q.elim
  · rename_i hni
    cases e : truB w.m d with
    | none => rw [e] at q; exact q.elim
    | some b =>
      rw [e] at q
      have hq : Q b H := post_ret S rfl q
      refine tru_ok pins s σ H x v Q I rx ⟨b, ?_, hq⟩
      unfold truB at e
      split at e
      · rename_i z; cases e; cases vw_non r z; rfl
      · rename_i b' z; cases e; cases vw_bl r z; rfl
      · rename_i b' z; cases e; cases vw_int r z; rfl
      · rename_i b' z; cases e; obtain ⟨rfl, hl⟩ := vw_str r z; exact ⟨hl, rfl⟩
      · rename_i xs z; cases e
        obtain ⟨a, vs, rfl, g, t⟩ := vw_lst S r z
        refine .inl ⟨vs, B.K ▸ g, ?_⟩
        have l := t.length
        cases xs <;> cases vs <;> first | rfl | simp at l
      · rename_i xs z; cases e
        obtain ⟨a, vs, rfl, g, t⟩ := vw_tup S r z
        refine .inr (.inl ⟨vs, B.K ▸ g, ?_⟩)
        have l := t.length
        cases xs <;> cases vs <;> first | rfl | simp at l
      · rename_i n z
        split at e
        · rename_i kvs hm
          cases e
          obtain ⟨hn, rfl⟩ := rep_loc (vw_flat z r (fun _ z => nomatch z) fun _ _ _ z => nomatch z)
          obtain ⟨ks, hH, hr⟩ := S.lv n _ hm
          refine .inr (.inr ⟨ks, hH, ?_⟩)
          cases hr <;> rfl
        · cases e
      · cases e
end
end DL

/-! DL9: the built-in functions by data -/
namespace DL
open PySem PySem.Spec PyProof.Rows L2

def rcl (G : GT) (g : List D → Me → Res D) : List V → Hp → VK → Prop := fun vs H Q => ∃ w ds, SR G w H ∧ RepL G w ds vs ∧ Post G (Rep G) WN [] w H Q (g ds w.m)
def bltFn : Blt → Value
  | .abs_ => .builtin "abs" | .all_ => .builtin "all" | .any_ => .builtin "any" | .bool_ => .type "bool" | .int_ => .type "int" | .len => .builtin "len" | .list_ => .type "list"
  | .max2 => .builtin "max" | .min2 => .builtin "min" | .ord_ => .builtin "ord" | .repr_ => .builtin "repr" | .str_ => .type "str" | .sum_ => .builtin "sum" | .tuple_ => .type "tuple" | .isinst => .builtin "isinstance"
section
variable {X : Cx} {G : GT} {P : Prg} {W : WX} {k : Nat}
theorem rep1 {w : Wd} {d : D} {vs : List V} (r : RepL G w [d] vs) : ∃ v, vs = [v] ∧ Rep G w d v := by
  obtain ⟨x, ys, rfl, a, t⟩ := RepCL.cons_inv r
  have := RepCL.nil_inv t
  subst this
  exact ⟨x, rfl, a⟩
theorem rep2 {w : Wd} {d e : D} {vs : List V} (r : RepL G w [d, e] vs) : ∃ v u, vs = [v, u] ∧ Rep G w d v ∧ Rep G w e u := by
  obtain ⟨x, ys, rfl, a, t⟩ := RepCL.cons_inv r
  obtain ⟨u, rfl, b⟩ := rep1 t
  exact ⟨x, u, rfl, a, b⟩
theorem ofO_post {α β : Type} {R : Wd → α → β → Prop} {w : Wd} {H : Hp} {W' : WX} {σ' : L2.St} {Q : β → Hp → Prop} : ∀ {o : Option α}, Post G R W' σ' w H Q (ofO w.m o) → ∃ b, o = some b ∧ Post G R W' σ' w H Q (.ok b w.m)
  | some b, q => ⟨b, rfl, q⟩
  | none, q => q.elim
theorem allInts_rep {w : Wd} : ∀ {ds : List D} {ns : List Int} {vs : List V}, allInts ds = some ns → RepL G w ds vs → vs = ns.map V.int
  | [], ns, vs, h, r => by cases h; exact RepCL.nil_inv r
  | d :: ds, ns, vs, h, r => by
    obtain ⟨x, ys, rfl, a, t⟩ := RepCL.cons_inv r
    cases d <;> first | (cases h; done) | skip
    rename_i i
    have h' : (allInts ds).map (i :: ·) = some ns := h
    obtain ⟨ms, e, rfl⟩ := Option.map_eq_some_iff.mp h'
    rw [allInts_rep e t, rep_int a]; rfl
theorem allBls_rep {w : Wd} : ∀ {ds : List D} {ns : List Bool} {vs : List V}, allBls ds = some ns → RepL G w ds vs → vs = ns.map V.bl
  | [], ns, vs, h, r => by cases h; exact RepCL.nil_inv r
  | d :: ds, ns, vs, h, r => by
    obtain ⟨x, ys, rfl, a, t⟩ := RepCL.cons_inv r
    cases d <;> first | (cases h; done) | skip
    rename_i i
    have h' : (allBls ds).map (i :: ·) = some ns := h
    obtain ⟨ms, e, rfl⟩ := Option.map_eq_some_iff.mp h'
    rw [allBls_rep e t, rep_bl a]; rfl
theorem allStrs_rep {w : Wd} : ∀ {ds : List D} {ns : List Str} {vs : List V}, allStrs ds = some ns → RepL G w ds vs → vs = ns.map V.str
  | [], ns, vs, h, r => by cases h; exact RepCL.nil_inv r
  | d :: ds, ns, vs, h, r => by
    obtain ⟨x, ys, rfl, a, t⟩ := RepCL.cons_inv r
    cases d <;> first | (cases h; done) | skip
    rename_i i
    have h' : (allStrs ds).map (i :: ·) = some ns := h
    obtain ⟨ms, e, rfl⟩ := Option.map_eq_some_iff.mp h'
    rw [allStrs_rep e t, (rep_str a).1]; rfl
mutual
theorem dp_nodict {K : PySem.W.Frag} {H : Hp} : ∀ (p : PyData) (v : V), Dp K H v p → p.hasDict = false
  | .none, _, _ => by simp [PyData.hasDict]
  | .bool _, _, _ => by simp [PyData.hasDict]
  | .int _, _, _ => by simp [PyData.hasDict]
  | .str _, _, _ => by simp [PyData.hasDict]
  | .list xs, _, h => by
    cases h with
    | lst a b => simp only [PyData.hasDict]; exact dp_nodictAll xs _ b
  | .tuple xs, _, h => by
    cases h with
    | tup a b => simp only [PyData.hasDict]; exact dp_nodictAll xs _ b
  | .dict _, _, h => by cases h
theorem dp_nodictAll {K : PySem.W.Frag} {H : Hp} : ∀ (ps : List PyData) (vs : List V), DpAll K H vs ps → PyData.hasDictAll ps = false
  | [], _, _ => by simp [PyData.hasDictAll]
  | p :: ps, _, h => by
    cases h with
    | cons a b => simp only [PyData.hasDictAll, dp_nodict p _ a, dp_nodictAll ps _ b]; rfl
end
/-- repr of data -/
theorem repr_data (B : Bs X G) {pins : List (Addr × Obj)} {s : Shared} {σ : L2.St} {H : Hp} {x : V} {p : PyData} {u : Value} {Q : VK} (I : Inv X pins σ H s) (hp : Dp X.K H x p) (rx : RelV x u) (hs : showOk p = true) (q : Q (.str p.shown) H) :
    wpAny (model X.prog X.w) X.A (call (.builtin "repr") [u]) (EP X pins σ Q) X.xe s := by
  unfold showOk at hs
  simp only [Bool.and_eq_true, decide_eq_true_eq] at hs
  obtain ⟨⟨h1, h2⟩, h3⟩ := hs
  have hu := B.un
  have nd := dp_nodict p x hp
  have big : ∀ {a : Addr}, x = .ref a → wpAny (model X.prog X.w) X.A (call (.builtin "repr") [u]) (EP X pins σ Q) X.xe s := fun {a} e => by
    subst e
    cases rx
    obtain ⟨as, r⟩ := Dp.reads I p (.ref a) _ hp rfl
    refine repr_of_reads' r h1 (fun z => by rw [nd] at z; cases z) B.gd (by omega) (fun _ _ e => e) (fun h' u tk hk => ⟨.str p.shown, H, I.kept hk, ⟨_, rfl⟩, q⟩) h3
  cases hp with
  | non => cases rx; exact PySem.P.repr_of_none ⟨.str (Str.ofString "None"), H, I.tok _, ⟨_, rfl⟩, by simpa [PyData.shown] using q⟩
  | bl b => cases rx; exact PySem.P.repr_of_bool ⟨.str (if b then "True" else "False"), H, I.tok _, ⟨_, rfl⟩, by cases b <;> simpa [PyData.shown] using q⟩
  | int i =>
    obtain ⟨t, rfl⟩ := rx
    refine PySem.P.repr_of_int (by simpa [PyData.showable] using h1) ⟨.str (toString i), H, I.tok _, ⟨_, rfl⟩, by simpa [PyData.shown] using q⟩
  | str y =>
    obtain ⟨t, rfl⟩ := rx
    have h3' : (reprText y).length ≤ sizeLine := by simpa [PyData.shown] using h3
    exact PySem.P.repr_of_str (hsz := h3') ⟨.str (reprText y), H, I.tok _, ⟨_, rfl⟩, by simpa [PyData.shown] using q⟩
  | lst a b => exact big rfl
  | tup a b => exact big rfl
def clsU (G : GT) : D → Value
  | .ty n => .type n
  | .cls c => .ref (G.cadr c)
  | _ => .none
theorem clsV_of {w : Wd} {c : D} {x : V} (r : Rep G w c x) (h : isClsD c = true) : ClsV x (clsU G c) := by
  cases c with
  | ty n => cases rep_ty r; exact .ty n
  | cls n => cases rep_cls r; exact .own _
  | _ => cases h
theorem isiC_cls {t : String ⊕ Nat} {c : D} {b : Bool} (h : isiC P t c = some b) : isClsD c = true := by
  cases c <;> first | rfl | cases h
theorem isiC_kit {t : String ⊕ Nat} {c : D} {b : Bool} (C : ClsOk G P) (h : isiC P t c = some b) : PySem.W.kitOne G.K (tyVal G t) (clsU G c) = some b := by
  cases c with
  | ty n => exact C.isi t (.inl n) b h
  | cls n => exact C.isi t (.inr n) b h
  | _ => cases h
theorem isiL_kit {t : String ⊕ Nat} (C : ClsOk G P) : ∀ {cs : List D} {b : Bool}, isiL P t cs = some b → PySem.W.kitAny G.K (tyVal G t) (cs.map (clsU G)) = some b
  | [], b, h => h
  | c :: cs, b, h => by
    unfold isiL at h
    show PySem.W.kitAny G.K (tyVal G t) (clsU G c :: cs.map (clsU G)) = some b
    unfold PySem.W.kitAny
    split at h
    · rename_i e; rw [isiC_kit C e]; exact h
    · rename_i e; rw [isiC_kit C e]; exact isiL_kit C h
    · cases h
theorem clsVs_of {w : Wd} : ∀ {cs : List D} {xs : List V}, RepL G w cs xs → cs.all isClsD = true → Paired ClsV xs (cs.map (clsU G))
  | [], xs, r, _ => by
    have := RepCL.nil_inv r
    subst this
    exact .nil
  | c :: cs, xs, r, h => by
    obtain ⟨x, ys, rfl, a, tt⟩ := RepCL.cons_inv r
    rw [List.all_cons, Bool.and_eq_true] at h
    exact .cons (clsV_of a h.1) (clsVs_of tt h.2)
theorem call_isiS : CallR X (.builtin "isinstance") (fun xs H Q => ∃ (x : V) (tp : Addr) (cs : List V) (t : Value) (us : List Value) (b : Bool), xs = [x, .ref tp] ∧ SqT X.K H tp cs ∧ Paired ClsV cs us ∧ TyX X.K H x t ∧ PySem.W.kitAny X.K t us = some b ∧ Q (.bl b) H) := by
  intro pins s σ H xs us Q I r h
  obtain ⟨x, tp, cs, t, ws, b, rfl, hT, kk, ty, e, q⟩ := h
  obtain ⟨u1, u2, rfl, r1, r2⟩ := vals2 r
  cases (show u2 = Value.ref tp from r2)
  obtain ⟨P, Z, p, hx⟩ := kit_of I r1 ty
  obtain ⟨its, rv, ⟨o, h1, h2, n, h3⟩, _⟩ := I.tuple hT
  have e3 := ClsV.all kk rv
  subst e3
  obtain ⟨oc, od, dt, sl⟩ := o
  simp only at h2 h3
  subst h2 h3
  exact PySem.W.kia_tup Z I.kIn p h1 e hx fun tk => ⟨.bl b, H, I.tok tk, rfl, q⟩
/-- the built-in functions -/
theorem blt_ok (O : Ok X G P W (k + 1)) (hcalls : ∀ f, FnG G X.prog X.w X.mg X.base k (G.fadr f) (appF P f)) (b : Blt) (pl : Bool) : CallR X (bltFn b) (rcl G (bltD P b pl)) := by
  intro pins s σ H vs us Q I rv h
  obtain ⟨w, ds, S, r0, q⟩ := h
  have B := O.B
  unfold bltD at q
  split at q
  · -- abs
    obtain ⟨v, rfl, r⟩ := rep1 r0
    split at q
    · rename_i i e; cases vw_int r e
      exact call_abs pins s σ H _ us Q I rv ⟨i, rfl, post_ret S mk_int q⟩
    · exact q.elim
  · -- all
    obtain ⟨v, rfl, r⟩ := rep1 r0
    split at q
    · rename_i ds e
      obtain ⟨a, xs, rfl, g, t⟩ := vw_lst S r e
      obtain ⟨z, hz, q⟩ := ofO_post q
      obtain ⟨bs, hb, rfl⟩ := Option.map_eq_some_iff.mp hz
      have ex := allBls_rep hb t
      subst ex
      exact cr_all B.calm pins s σ H _ us Q I rv ⟨a, bs, rfl, B.K ▸ g, post_ret S mk_bl q⟩
    · exact q.elim
  · -- any
    obtain ⟨v, rfl, r⟩ := rep1 r0
    split at q
    · rename_i ds e
      obtain ⟨a, xs, rfl, g, t⟩ := vw_lst S r e
      obtain ⟨z, hz, q⟩ := ofO_post q
      obtain ⟨bs, hb, rfl⟩ := Option.map_eq_some_iff.mp hz
      have ex := allBls_rep hb t
      subst ex
      exact cr_any B.calm pins s σ H _ us Q I rv ⟨a, bs, rfl, B.K ▸ g, post_ret S mk_bl q⟩
    · exact q.elim
  · -- bool
    obtain ⟨v, rfl, r⟩ := rep1 r0
    split at q
    · rename_i i e; cases vw_int r e
      exact call_bool1 pins s σ H _ us Q I rv (.inl ⟨i, rfl, post_ret S mk_bl q⟩)
    · rename_i i e; cases vw_bl r e
      exact call_bool1 pins s σ H _ us Q I rv (.inr ⟨i, rfl, post_ret S mk_bl q⟩)
    · rename_i ds e
      obtain ⟨a, xs, rfl, g, t⟩ := vw_lst S r e
      have l := t.length
      have ee : (!xs.isEmpty) = !ds.isEmpty := by cases xs <;> cases ds <;> first | rfl | simp at l
      exact call_boolL pins s σ H _ us Q I rv ⟨a, xs, rfl, B.K ▸ g, by rw [ee]; exact post_ret S mk_bl q⟩
    · exact q.elim
  · -- int
    obtain ⟨v, rfl, r⟩ := rep1 r0
    split at q
    · rename_i i e; cases vw_int r e
      exact call_int1 pins s σ H _ us Q I rv (.inl ⟨i, rfl, post_ret S mk_int q⟩)
    · rename_i i e; cases vw_bl r e
      exact call_int1 pins s σ H _ us Q I rv (.inr ⟨i, rfl, post_ret S mk_int q⟩)
    · exact q.elim
  · -- len
    obtain ⟨v, rfl, r⟩ := rep1 r0
    split at q
    · rename_i ds e
      obtain ⟨a, xs, rfl, g, t⟩ := vw_lst S r e
      have l := t.length
      exact call_len_seq pins s σ H _ us Q I rv ⟨a, xs, rfl, .inl (B.K ▸ g), by rw [l]; exact post_ret S mk_int q⟩
    · rename_i ds e
      obtain ⟨a, xs, rfl, g, t⟩ := vw_tup S r e
      have l := t.length
      exact call_len_seq pins s σ H _ us Q I rv ⟨a, xs, rfl, .inr (B.K ▸ g), by rw [l]; exact post_ret S mk_int q⟩
    · rename_i x e
      obtain ⟨rfl, hl⟩ := vw_str r e
      exact call_len_str pins s σ H _ us Q I rv ⟨x, rfl, hl, post_ret S mk_int q⟩
    · rename_i c ns ds hv
      obtain ⟨a, dx, fs, rfl, ea, _⟩ := vw_ins S r hv
      obtain ⟨u, rfl, ru⟩ := vals1 rv
      cases ru
      obtain ⟨mA, Ob, _⟩ := ins_get I.hok ea
      obtain ⟨od, J, _⟩ := Ob.look
      split at q
      · rename_i f h2
        obtain ⟨hc, hm⟩ := O.cls.meth c nLen f h2
        have hs := hm.at_
        rw [O.cls.n2, ← B.K] at hs
        have hf := hm.fn
        rw [← B.K] at hf
        obtain ⟨m, hfr⟩ := I.fr
        refine PySem.W.len_K hfr I.mod.kin J hs hf ?_
        refine thn (run_gN (A := X.A.in1) (hcalls f) B.K O.room.in1 B.gd rfl I (.cons (show L2.RelV (.ref a) (Value.ref a) from rfl) .nil) (callPost_bindN S (.cons r .nil) q)) fun z s1 hz => ?_
        obtain ⟨v1, H1, I1, rv1, w1, d1, S1, rr, p1⟩ := hz
        split at p1
        · rename_i n
          cases rep_int rr
          obtain ⟨t, rfl⟩ := rv1
          split at p1
          · rename_i hn
            exact ⟨hn, .int n, H1, I1.tok _, ⟨_, rfl⟩, post_ret S1 mk_int p1⟩
          · exact p1.elim
        · exact p1.elim
      · exact q.elim
    · exact q.elim
  · -- list
    obtain ⟨v, rfl, r⟩ := rep1 r0
    split at q
    · rename_i ds e
      obtain ⟨a, xs, rfl, g, t⟩ := vw_lst S r e
      exact call_list_of pins s σ H _ us Q I rv ⟨a, xs, rfl, .inl (B.K ▸ g), fun l hl => post_newL S t hl q⟩
    · rename_i ds e
      obtain ⟨a, xs, rfl, g, t⟩ := vw_tup S r e
      exact call_list_of pins s σ H _ us Q I rv ⟨a, xs, rfl, .inr (B.K ▸ g), fun l hl => post_newL S t hl q⟩
    · exact q.elim
  · -- max
    obtain ⟨v, u, rfl, r1, r2⟩ := rep2 r0
    split at q
    · rename_i i j e1 e2; cases vw_int r1 e1; cases vw_int r2 e2
      exact call_max2 B.calm pins s σ H _ us Q I rv ⟨i, j, rfl, post_ret S mk_int q⟩
    · exact q.elim
  · -- min
    obtain ⟨v, u, rfl, r1, r2⟩ := rep2 r0
    split at q
    · rename_i i j e1 e2; cases vw_int r1 e1; cases vw_int r2 e2
      exact call_min2 B.calm pins s σ H _ us Q I rv ⟨i, j, rfl, post_ret S mk_int q⟩
    · exact q.elim
  · -- ord
    obtain ⟨v, rfl, r⟩ := rep1 r0
    split at q
    · rename_i x e
      obtain ⟨rfl, hl⟩ := vw_str r e
      split at q
      · rename_i h1
        exact call_ord pins s σ H _ us Q I rv ⟨x, rfl, h1, post_ret S mk_int q⟩
      · exact q.elim
    · exact q.elim
  · -- repr
    obtain ⟨v, rfl, r⟩ := rep1 r0
    split at q
    · rename_i c ns ds hv
      obtain ⟨a, dx, fs, rfl, ea, _⟩ := vw_ins S r hv
      obtain ⟨u, rfl, ru⟩ := vals1 rv
      cases ru
      obtain ⟨mA, Ob, _⟩ := ins_get I.hok ea
      obtain ⟨od, J, _⟩ := Ob.look
      split at q
      · rename_i f h2
        obtain ⟨hc, hm⟩ := O.cls.meth c nRepr f h2
        have hs := hm.at_
        rw [O.cls.n3, ← B.K] at hs
        have hf := hm.fn
        rw [← B.K] at hf
        obtain ⟨m, hfr⟩ := I.fr
        have hu : X.A.in1.units < cLine := by show X.A.units + 1 < cLine; have := B.un; omega
        refine PySem.W.repr_K hu hfr I.mod.kin J hs hf ?_
        refine thn (run_gN (A := X.A.in1) (hcalls f) B.K O.room.in1 B.gd rfl I (.cons (show L2.RelV (.ref a) (Value.ref a) from rfl) .nil) (callPost_bindN S (.cons r .nil) q)) fun z s1 hz => ?_
        obtain ⟨v1, H1, I1, rv1, w1, d1, S1, rr, p1⟩ := hz
        split at p1
        · rename_i x
          obtain ⟨rfl, _⟩ := rep_str rr
          obtain ⟨t, rfl⟩ := rv1
          exact ⟨.str x, H1, I1, ⟨_, rfl⟩, post_ret S1 rr p1⟩
        · exact p1.elim
      · exact q.elim
    · split at q
      · rename_i p hp
        split at q
        · rename_i ho
          obtain ⟨u, rfl, ru⟩ := vals1 rv
          refine repr_data B I (B.K ▸ pyF_ok S _ _ _ _ r hp) ru ho (post_ret S (mk_str ?_) q)
          unfold showOk at ho
          simp only [Bool.and_eq_true, decide_eq_true_eq] at ho
          exact ho.2
        · exact q.elim
      · exact q.elim
  · -- str
    obtain ⟨v, rfl, r⟩ := rep1 r0
    split at q
    · rename_i i e; cases vw_int r e
      split at q
      · rename_i hi
        exact call_str_int pins s σ H _ us Q I rv ⟨i, rfl, hi, post_ret S (mk_str (int_text_fits hi)) q⟩
      · exact q.elim
    · rename_i x e
      obtain ⟨rfl, hl⟩ := vw_str r e
      exact SkE.call_str_str pins s σ H _ us Q I rv ⟨x, rfl, post_ret S (mk_str hl) q⟩
    · exact q.elim
  · -- sum
    obtain ⟨v, rfl, r⟩ := rep1 r0
    split at q
    · rename_i ds e
      obtain ⟨a, xs, rfl, g, t⟩ := vw_lst S r e
      obtain ⟨z, hz, q⟩ := ofO_post q
      obtain ⟨bs, hb, rfl⟩ := Option.map_eq_some_iff.mp hz
      have ex := allInts_rep hb t
      subst ex
      exact cr_sum B.calm pins s σ H _ us Q I rv ⟨a, bs, rfl, B.K ▸ g, post_ret S mk_int q⟩
    · exact q.elim
  · -- tuple
    obtain ⟨v, rfl, r⟩ := rep1 r0
    split at q
    · rename_i ds e
      obtain ⟨a, xs, rfl, g, t⟩ := vw_lst S r e
      exact call_tuple_of pins s σ H _ us Q I rv ⟨a, xs, rfl, .inl ⟨B.K ▸ g, fun l hl => post_newT S t hl q⟩⟩
    · rename_i ds e
      obtain ⟨a, xs, rfl, g, t⟩ := vw_tup S r e
      exact call_tuple_of pins s σ H _ us Q I rv ⟨a, xs, rfl, .inr ⟨B.K ▸ g, post_ret S (vw_flat e r (fun _ z => nomatch z) fun _ _ _ z => nomatch z) q⟩⟩
    · exact q.elim
  · -- isinstance
    obtain ⟨v, u, rfl, r1, r2⟩ := rep2 r0
    obtain ⟨z, hz, q⟩ := ofO_post q
    obtain ⟨bb, hb, rfl⟩ := Option.map_eq_some_iff.mp hz
    have hq := post_ret S (mk_bl (b := bb)) q
    unfold isiD at hb
    split at hb
    · cases hb
    · rename_i t ht
      have ty := tyX_of B.K O.cls S r1 ht
      split at hb
      · rename_i cs
        split at hb
        · rename_i ha
          obtain ⟨a, xs, rfl, g, tt⟩ := rep_tup r2
          exact call_isiS pins s σ H _ us Q I rv ⟨v, a, xs, _, _, bb, rfl, B.K ▸ SqT.le S.sub g, clsVs_of tt ha, ty, B.K ▸ isiL_kit O.cls hb, hq⟩
        · cases hb
      · exact call_isi pins s σ H _ us Q I rv ⟨v, u, _, _, bb, rfl, clsV_of r2 (isiC_cls hb), ty, B.K ▸ isiC_kit O.cls hb, hq⟩
  · exact q.elim
end
end DL

/-! DL10: forms of expression: lists of arguments, tests, displays, subscripts, fields, f-strings -/
namespace DL
open PySem PySem.Spec PyProof.Rows L2

section
variable {X : Cx} {G : GT} {W : WX} {P : Prg} {k : Nat}
/-- two evaluations one after the other -/
theorem tG.two {α β γ δ ε ζ : Type} {R : Wd → α → β → Prop} {S : Wd → γ → δ → Prop} {T : Wd → ε → ζ → Prop} (hS : Mono S) {σ : L2.St} {H : Hp} {ga : Ev γ} {gb : Ev ε} {f : γ → ε → Ev α} {Q : β → Hp → Prop}
    (h : tG G R W (fun env m => (ga env m).bind fun c m1 => (gb env m1).bind fun d m2 => f c d env m2) σ H Q) :
    tG G S W ga σ H fun x H1 => tG G T W gb σ H1 fun y H2 => ∃ w env c d, SR G w H2 ∧ EnvR G w env σ ∧ S w c x ∧ T w d y ∧ Post G R W σ w H2 Q (f c d env w.m) :=
  (tG.bind (S := S) (g := ga) (k := fun c env m1 => (gb env m1).bind fun d m2 => f c d env m2) h).mono fun x H1 h1 =>
    (kG.bind hS (S := T) (g := gb) (k := fun p env m => f p.1 p.2 env m) h1).mono fun y H2 h2 => by
      obtain ⟨w, env, c, s, e, ⟨r1, r2⟩, p⟩ := h2
      exact ⟨w, env, c.1, c.2, s, e, r1, r2, p⟩
theorem post_ne' {α β : Type} {R : Wd → α → β → Prop} {w : Wd} {H : Hp} {W W' : WX} {σ σ' : L2.St} {Q : β → Hp → Prop} {r : Res α} (hne : ∀ x m, r ≠ .err x m) (h : Post G R W σ w H Q r) : Post G R W' σ' w H Q r := by
  cases r with
  | bad => exact h
  | err x m => exact (hne x m rfl).elim
  | ok a m => exact h
theorem tG.of_eq {α β : Type} {R : Wd → α → β → Prop} {σ : L2.St} {H : Hp} {Q : β → Hp → Prop} {g g' : Ev α} (e : ∀ env m, g env m = g' env m) (h : tG G R W g σ H Q) : tG G R W g' σ H Q := by
  have : g = g' := by funext env m; exact e env m
  rw [← this]; exact h
/-! ### nothing is known -/
theorem e_bad {e : Expr} : PE X e (tE G W (den P .bad)) := ⟨fun pins s σ H Q I ⟨w, env, S, e, p⟩ => by unfold den at p; exact p.elim⟩
theorem e_of_bad {e : Expr} {t : TE} (h : ∀ σ H Q, ¬ t σ H Q) : PE X e t := ⟨fun pins s σ H Q I q => (h σ H Q q).elim⟩

/-! ### arguments -/
theorem a_nil : PA X [] (tL G W (denL P [])) := pa_nil.imp fun σ H Q ⟨w, env, S, e, p⟩ => by
  unfold denL at p
  exact post_ret S .nil p
theorem a_consT {e : Ex} {es : List Ex} {σ : L2.St} {H : Hp} {Q : List V → Hp → Prop} (h : tL G W (denL P (e :: es)) σ H Q) : tCons (tE G W (den P e)) (tL G W (denL P es)) σ H Q :=
  (tG.two (mono_rep G) (T := RepL G) (ga := den P e) (gb := denL P es) (f := fun d ds _ m => .ok (d :: ds) m) (tG.of_eq (fun env m => by rw [denL]) h)).mono fun x H1 h1 =>
    h1.mono fun y H2 ⟨w, env, c, d, S, e, r1, r2, p⟩ => post_ret S (.cons r1 r2) p
theorem a_cons {e : Expr} {es : List Expr} {e' : Ex} {es' : List Ex} (ha : PE X e (tE G W (den P e'))) (hr : PA X es (tL G W (denL P es'))) (hs : isStar e = false) : PA X (e :: es) (tL G W (denL P (e' :: es'))) :=
  (pa_cons ha hr (starCons hs)).imp fun σ H Q h => a_consT h
theorem _root_.L2.PK.imp {X : Cx} {kws : List Keyword} {t t' : TA} (h : PK X kws t) (i : ∀ σ H Q, t' σ H Q → t σ H Q) : PK X kws t' := ⟨fun pos pins s σ H Q I hw => h.run pos pins s σ H Q I (i σ H Q hw)⟩
theorem k_nil : PK X [] (tL G W (denL P [])) := pk_nil.imp fun σ H Q ⟨w, env, S, e, p⟩ => by
  unfold denL at p
  exact post_ret S .nil p
theorem k_cons {nm : Option Str} {e : Expr} {kpos : Pos} {kws : List Keyword} {e' : Ex} {es' : List Ex} (ha : PE X e (tE G W (den P e'))) (hr : PK X kws (tL G W (denL P es'))) : PK X (⟨nm, e, kpos⟩ :: kws) (tL G W (denL P (e' :: es'))) :=
  (pk_cons ha hr).imp fun σ H Q h => a_consT h

/-! ### tests -/
theorem truD_ne {d : D} {m : Me} {x : Er} {m' : Me} : truD P d m ≠ .err x m' := by
  intro h
  unfold truD at h
  split at h
  · split at h
    · refine bindN_ne (fun a m1 z => ?_) h
      split at z
      · split at z <;> cases z
      · cases z
    · cases h
    · cases h
  · exact ofO_ne h
/-- a test's reading by its value -/
theorem c_of {e : Ex} {σ : L2.St} {H : Hp} {Q : Bool → Hp → Prop} (h : tB' G W (denC P (.val e)) σ H Q) : tE G W (den P e) σ H fun x H1 => ∃ w d, SR G w H1 ∧ Rep G w d x ∧ Post G REq WN [] w H1 Q (truD P d w.m) :=
  (tG.bind (S := Rep G) (g := den P e) (k := fun d _ m1 => truD P d m1) (tG.of_eq (fun env m => by rw [denC]) h)).mono fun x H1 ⟨w, env, d, S, e, r, p⟩ => ⟨w, d, S, r, post_ne' (fun _ _ => truD_ne) p⟩
theorem c_val (O : Ok X G P W (k + 1)) (hcalls : ∀ f, FnG G X.prog X.w X.mg X.base k (G.fadr f) (appF P f)) {e : Expr} {e' : Ex} (ha : PE X e (tE G W (den P e'))) (hp : plainTest e = true) : PT X e (tB' G W (denC P (.val e'))) :=
  ⟨fun pins s σ H Q I h => isTrue_plain (thn (ha.run pins s σ H _ I (c_of h)) fun v s1 ⟨x, H1, I1, r1, q1⟩ => tru_D O hcalls pins s1 σ H1 x v Q I1 r1 q1) (plainT hp _)⟩
theorem c_bad {e : Expr} : PT X e (tB' G W (denC P (.val .bad))) := ⟨fun pins s σ H Q I ⟨w, env, S, e, p⟩ => by unfold denC den at p; exact p.elim⟩
theorem cmpD_bl {o : CmpOp} {d e z : D} {m m' : Me} (h : cmpD o d e m = .ok z m') : ∃ b, z = .bl b := by
  have ob : ∀ {q : Option Bool}, ofB m q = .ok z m' → ∃ b, z = .bl b := fun {q} h => by
    cases q with
    | none => cases h
    | some b => cases h; exact ⟨b, rfl⟩
  cases o <;> simp only [cmpD] at h
  case Eq => exact ob h
  case NotEq => exact ob h
  case Is => exact ob h
  case IsNot => exact ob h
  case In => exact ob h
  case NotIn => exact ob h
  case Lt => unfold ltD at h; repeat' split at h
             all_goals first | (cases h; done) | (cases h; exact ⟨_, rfl⟩)
  case LtE => unfold leD at h; repeat' split at h
              all_goals first | (cases h; done) | (cases h; exact ⟨_, rfl⟩)
  case Gt => unfold gtD at h; repeat' split at h
             all_goals first | (cases h; done) | (cases h; exact ⟨_, rfl⟩)
  case GtE => unfold geD at h; repeat' split at h
              all_goals first | (cases h; done) | (cases h; exact ⟨_, rfl⟩)
theorem cmpP_bl {o : CmpOp} {d e z : D} {m m' : Me} (h : cmpP P o d e m = .ok z m') : ∃ b, z = .bl b := by
  have bn : ∀ {r : Res D} {F : D → Me → Res D}, (∀ a m1, F a m1 = .ok z m' → ∃ b, z = .bl b) → r.bindN F = .ok z m' → ∃ b, z = .bl b := fun {r F} hF h => by
    cases r with
    | ok a m => exact hF a m h
    | err y m => cases h
    | bad => cases h
  unfold cmpP at h
  repeat' split at h
  all_goals first
    | (cases h; done)
    | exact cmpD_bl h
    | (refine bn (fun a m1 z => ?_) h
       split at z
       · cases z; exact ⟨_, rfl⟩
       · cases z)
theorem truD_bl {b : Bool} {m : Me} : truD P (.bl b) m = .ok b m := by
  have e : vw m (.bl b) = .bl b := rfl
  unfold truD
  rw [e]
  show ofO m (truB m (.bl b)) = _
  unfold truB
  rw [e]; rfl
/-- a Post of a truth behind a comparison -/
theorem post_tru {w : Wd} {H : Hp} {σ : L2.St} {Q : Bool → Hp → Prop} {r : Res D} (hb : ∀ z m', r = .ok z m' → ∃ b, z = .bl b) (p : Post G REq W σ w H Q (r.bind fun d m1 => truD P d m1)) :
    Post G (Rep G) W σ w H (fun x H' => ∃ c, x = .bl c ∧ Q c H') r := by
  cases r with
  | bad => exact p
  | err x m => exact p
  | ok z m' =>
    obtain ⟨b, rfl⟩ := hb z m' rfl
    rw [Res.bind_ok, truD_bl] at p
    intro v H' w' em st S r
    cases rep_bl r
    exact ⟨b, rfl, p b H' w' em st S rfl⟩
theorem c_cmp (O : Ok X G P W (k + 1)) (hcalls : ∀ f, FnG G X.prog X.w X.mg X.base k (G.fadr f) (appF P f)) {a b : Expr} {op : CmpOp} {pos : Pos} {ea eb : Ex} (ha : PE X a (tE G W (den P ea))) (hb : PE X b (tE G W (den P eb)))
    (hm : behindInMarks op b = false) : PT X (.Compare a [op] [b] pos) (tB' G W (denC P (.val (.cmp op ea eb)))) := by
  refine (pt_cmpR (op_cmpP O hcalls op) ha hb hm).imp fun σ H Q h => ?_
  have h : tG G REq W (fun env m => (den P ea env m).bind fun d m1 => (den P eb env m1).bind fun e m2 => (cmpP P op d e m2).bind fun d m1 => truD P d m1) σ H Q := by
    refine tG.of_eq (fun env m => ?_) h
    rw [denC, den, Res.bind_assoc]
    congr 1; funext d m1
    rw [Res.bind_assoc]
  refine (tG.two (mono_rep G) (T := Rep G) (f := fun d e _ m2 => (cmpP P op d e m2).bind fun d m1 => truD P d m1) h).mono fun x H1 h1 => h1.mono fun y H2 ⟨w, env, c, d, S, e, r1, r2, p⟩ => ?_
  exact ⟨w, c, d, S, r1, r2, post_ne (fun x m z => cmpP_ne z) (post_tru (fun z m' q => cmpP_bl q) p)⟩
theorem e_cmp (O : Ok X G P W (k + 1)) (hcalls : ∀ f, FnG G X.prog X.w X.mg X.base k (G.fadr f) (appF P f)) {a b : Expr} {op : CmpOp} {pos : Pos} {ea eb : Ex} (ha : PE X a (tE G W (den P ea))) (hb : PE X b (tE G W (den P eb)))
    (hm : behindInMarks op b = false) : PE X (.Compare a [op] [b] pos) (tE G W (den P (.cmp op ea eb))) :=
  (pe_cmpR (op_cmpP O hcalls op) ha hb hm).imp fun σ H Q h => two_ops (a := a) (b := b) (fun _ _ _ _ _ z => cmpP_ne z) (tG.of_eq (fun env m => by rw [den]) h)
/-- a < b < c -/
theorem chain_of {o o2 : CmpOp} {ea eb ec : Ex} {σ : L2.St} {H : Hp} {Q : VK} (h : tE G W (den P (.chain o o2 ea eb ec)) σ H Q) :
    tChain (rop G (cmpD o)) (rop G (cmpD o2)) (tE G W (den P ea)) (tE G W (den P eb)) (tE G W (den P ec)) σ H Q := by
  have h : tG G (Rep G) W (fun env m => (den P ea env m).bind fun d m1 => (den P eb env m1).bind fun e m2 => (cmpD o d e m2).bind fun r m3 => match r with
    | .bl true => (den P ec env m3).bind fun g m4 => cmpD o2 e g m4
    | .bl false => .ok (.bl false) m3
    | _ => .bad) σ H Q := tG.of_eq (fun env m => by rw [den] <;> rfl) h
  refine (tG.two (mono_rep G) (T := Rep G) (f := fun d e env m2 => (cmpD o d e m2).bind fun r m3 => match r with
    | .bl true => (den P ec env m3).bind fun g m4 => cmpD o2 e g m4
    | .bl false => .ok (.bl false) m3
    | _ => .bad) h).mono fun x H1 h1 => h1.mono fun y H2 ⟨w, env, c, d, S, e, r1, r2, p⟩ => ?_
  refine ⟨w, c, d, S, r1, r2, ?_⟩
  cases q : cmpD o c d w.m with
  | bad => rw [q] at p; exact p
  | err x m => exact (cmpD_ne q).elim
  | ok z m' =>
    obtain ⟨b, rfl⟩ := cmpD_bl q
    rw [q, Res.bind_ok] at p
    intro v H' w' em st S' r
    subst em
    cases rep_bl r
    refine ⟨b, rfl, ?_⟩
    have p := Post.step p st
    cases b with
    | false =>
      simp only [Bool.false_eq_true, if_false] at p ⊢
      exact post_ret S' mk_bl p
    | true =>
      simp only [if_true] at p ⊢
      exact (kG.bind (mono_rep G) (S := Rep G) (g := den P ec) (k := fun p _ m => cmpD o2 p.1 p.2 m) (z := y) ⟨w', env, d, S', e.ext st.ext, r2.ext st.ext, p⟩).mono fun u H4 h4 => kG.rop (fun _ _ _ _ _ z => cmpD_ne z) h4
theorem e_chain (B : Bs X G) {a b c : Expr} {o o2 : CmpOp} {pos : Pos} {ea eb ec : Ex} (ha : PE X a (tE G W (den P ea))) (hb : PE X b (tE G W (den P eb))) (hc : PE X c (tE G W (den P ec)))
    (hm : lastMarks [o, o2] [b, c] = false) : PE X (.Compare a [o, o2] [b, c] pos) (tE G W (den P (.chain o o2 ea eb ec))) :=
  (pe_chain (op_cmpD B o) (op_cmpD B o2) ha hb hc hm).imp fun σ H Q h => chain_of h
theorem chain_bl {o o2 : CmpOp} {ea eb ec : Ex} {env : En} {m m' : Me} {z : D} (h : den P (.chain o o2 ea eb ec) env m = .ok z m') : ∃ b, z = .bl b := by
  rw [den] at h
  cases q : den P ea env m with
  | bad => rw [q] at h; cases h
  | err x m => rw [q] at h; cases h
  | ok d m1 =>
    rw [q, Res.bind_ok] at h
    cases q : den P eb env m1 with
    | bad => rw [q] at h; cases h
    | err x m => rw [q] at h; cases h
    | ok e m2 =>
      rw [q, Res.bind_ok] at h
      cases q : cmpD o d e m2 with
      | bad => rw [q] at h; cases h
      | err x m => rw [q] at h; cases h
      | ok r m3 =>
        rw [q, Res.bind_ok] at h
        split at h
        · cases q : den P ec env m3 with
          | bad => rw [q] at h; cases h
          | err x m => rw [q] at h; cases h
          | ok g m4 => rw [q, Res.bind_ok] at h; exact cmpD_bl h
        · cases h; exact ⟨_, rfl⟩
        · cases h
theorem c_chain (B : Bs X G) {a b c : Expr} {o o2 : CmpOp} {pos : Pos} {ea eb ec : Ex} (ha : PE X a (tE G W (den P ea))) (hb : PE X b (tE G W (den P eb))) (hc : PE X c (tE G W (den P ec)))
    (hm : lastMarks [o, o2] [b, c] = false) : PT X (.Compare a [o, o2] [b, c] pos) (tB' G W (denC P (.val (.chain o o2 ea eb ec)))) :=
  (pt_chain (op_cmpD B o) (op_cmpD B o2) ha hb hc hm).imp fun σ H Q ⟨w, env, S, e, p⟩ => by
    refine chain_of ⟨w, env, S, e, ?_⟩
    rw [denC] at p
    exact post_tru (fun z m' q => chain_bl q) p
theorem tG.bindT {α β γ δ : Type} {R : Wd → α → β → Prop} {S : Wd → γ → δ → Prop} {g : Ev γ} {f : γ → Ev α} {σ : L2.St} {H : Hp} {Q : β → Hp → Prop} (h : tG G R W (fun env m => (g env m).bind fun c m1 => f c env m1) σ H Q) :
    tG G S W g σ H fun x H1 => ∃ w env c, SR G w H1 ∧ EnvR G w env σ ∧ S w c x ∧ Post G R W σ w H1 Q (f c env w.m) := tG.bind (k := f) h
theorem c_not {a : Expr} {c : Cn} {pos : Pos} (ha : PT X a (tB' G W (denC P c))) : PT X (.UnaryOp .Not a pos) (tB' G W (denC P (.not c))) :=
  (pt_not ha).imp fun σ H Q h => (tG.bindT (S := REq) (g := denC P c) (f := fun b _ m => .ok (!b) m) (tG.of_eq (fun env m => by rw [denC]) h)).mono fun b H1 ⟨w, env, c, S, e, r, p⟩ => by
    cases r
    exact post_ret S rfl p
theorem c_and {a b : Expr} {rest : List Expr} {ca cb : Cn} {pos : Pos} (ha : PT X a (tB' G W (denC P ca))) (hb : PW X (.BoolOp .And (b :: rest) pos) (tB' G W (denC P cb))) : PW X (.BoolOp .And (a :: b :: rest) pos) (tB' G W (denC P (.and ca cb))) :=
  ⟨fun wh pins s σ H Q I h => (pw_and ha hb).run wh pins s σ H Q I ((tG.bindT (S := REq) (g := denC P ca) (f := fun k env m1 => if k then denC P cb env m1 else .ok false m1) (tG.of_eq (fun env m => by rw [denC]) h)).mono fun k H1 ⟨w, env, c, S, e, r, p⟩ => by
    cases r
    cases k with
    | true => exact ⟨w, env, S, e, p⟩
    | false => exact post_ret S rfl p)⟩
theorem c_or {a b : Expr} {rest : List Expr} {ca cb : Cn} {pos : Pos} (ha : PT X a (tB' G W (denC P ca))) (hb : PW X (.BoolOp .Or (b :: rest) pos) (tB' G W (denC P cb))) : PW X (.BoolOp .Or (a :: b :: rest) pos) (tB' G W (denC P (.or ca cb))) :=
  ⟨fun wh pins s σ H Q I h => (pw_or ha hb).run wh pins s σ H Q I ((tG.bindT (S := REq) (g := denC P ca) (f := fun k env m1 => if k then .ok true m1 else denC P cb env m1) (tG.of_eq (fun env m => by rw [denC]) h)).mono fun k H1 ⟨w, env, c, S, e, r, p⟩ => by
    cases r
    cases k with
    | true => exact post_ret S rfl p
    | false => exact ⟨w, env, S, e, p⟩)⟩
/-- a clause's tests -/
theorem cs_nil : PTs X [] (tB' G W (denCs P [])) := ⟨fun pins s σ H Q I ⟨w, env, S, e, p⟩ => pts_nil.run pins s σ H Q I (by
  rw [denCs] at p
  exact post_ret S rfl p)⟩
theorem cs_one {a : Expr} {c : Cn} (h : PT X a (tB' G W (denC P c))) : PTs X [a] (tB' G W (denCs P [c])) := ⟨fun pins s σ H Q I ⟨w, env, S, e, p⟩ => (pts_one h).run pins s σ H Q I ⟨w, env, S, e, by
  rw [denCs] at p
  cases q : denC P c env w.m with
  | bad => rw [q] at p; exact p
  | err x m => rw [q] at p; exact p
  | ok b m =>
    rw [q, Res.bind_ok, denCs] at p
    cases b <;> exact p⟩⟩
theorem cs_bad {ifs : List Expr} : PTs X ifs (tB' G W (denCs P [.val .bad])) := ⟨fun pins s σ H Q I ⟨w, env, S, e, p⟩ => by unfold denCs denC den at p; exact p.elim⟩

/-! ### and, or, not as values -/
theorem truV_of (hK : X.K = G.K) {w : Wd} {H : Hp} {d : D} {x : V} {b : Bool} (S : SR G w H) (r : Rep G w d x) (e : truB w.m d = some b) : TruV X.K x H b := by
  unfold truB at e
  split at e
  · rename_i z; cases e; cases vw_non r z; rfl
  · rename_i b' z; cases e; cases vw_bl r z; rfl
  · rename_i b' z; cases e; cases vw_int r z; rfl
  · rename_i b' z; cases e; obtain ⟨rfl, hl⟩ := vw_str r z; exact ⟨hl, rfl⟩
  · rename_i xs z; cases e
    obtain ⟨a, vs, rfl, g, t⟩ := vw_lst S r z
    refine .inl ⟨vs, hK ▸ g, ?_⟩
    have l := t.length
    cases xs <;> cases vs <;> first | rfl | simp at l
  · rename_i xs z; cases e
    obtain ⟨a, vs, rfl, g, t⟩ := vw_tup S r z
    refine .inr (.inl ⟨vs, hK ▸ g, ?_⟩)
    have l := t.length
    cases xs <;> cases vs <;> first | rfl | simp at l
  · rename_i n z
    split at e
    · rename_i kvs hm
      cases e
      obtain ⟨hn, rfl⟩ := rep_loc (vw_flat z r (fun _ z => nomatch z) fun _ _ _ z => nomatch z)
      obtain ⟨ks, hH, hr⟩ := S.lv n _ hm
      refine .inr (.inr ⟨ks, hH, ?_⟩)
      cases hr <;> rfl
    · cases e
  · cases e
theorem e_one {op : BoolOp} {a : Expr} {pos : Pos} {ea : Ex} (ha : PE X a (tE G W (den P ea))) : PE X (.BoolOp op [a] pos) (tE G W (den P ea)) := pe_one ha
theorem e_and (B : Bs X G) {a b : Expr} {rest : List Expr} {ea eb : Ex} {pos : Pos} (ha : PE X a (tE G W (den P ea))) (hb : PE X (.BoolOp .And (b :: rest) pos) (tE G W (den P eb))) : PE X (.BoolOp .And (a :: b :: rest) pos) (tE G W (den P (.and ea eb))) :=
  (pe_andT ha hb).imp fun σ H Q h => (tG.bindT (S := Rep G) (g := den P ea) (f := fun d env m1 => (ofO m1 (truB m1 d)).bind fun k m2 => if k then den P eb env m2 else .ok d m2) (tG.of_eq (fun env m => by rw [den]) h)).mono fun x H1 ⟨w, env, c, S, e, r, p⟩ => by
    cases q : truB w.m c with
    | none => rw [q] at p; exact p.elim
    | some b =>
      refine ⟨b, truV_of B.K S r q, ?_⟩
      rw [q] at p
      cases b with
      | true => exact ⟨w, env, S, e, p⟩
      | false => exact post_ret S r p
theorem e_or (B : Bs X G) {a b : Expr} {rest : List Expr} {ea eb : Ex} {pos : Pos} (ha : PE X a (tE G W (den P ea))) (hb : PE X (.BoolOp .Or (b :: rest) pos) (tE G W (den P eb))) : PE X (.BoolOp .Or (a :: b :: rest) pos) (tE G W (den P (.or ea eb))) :=
  (pe_orT ha hb).imp fun σ H Q h => (tG.bindT (S := Rep G) (g := den P ea) (f := fun d env m1 => (ofO m1 (truB m1 d)).bind fun k m2 => if k then .ok d m2 else den P eb env m2) (tG.of_eq (fun env m => by rw [den]) h)).mono fun x H1 ⟨w, env, c, S, e, r, p⟩ => by
    cases q : truB w.m c with
    | none => rw [q] at p; exact p.elim
    | some b =>
      refine ⟨b, truV_of B.K S r q, ?_⟩
      rw [q] at p
      cases b with
      | true => exact post_ret S r p
      | false => exact ⟨w, env, S, e, p⟩
theorem e_not (O : Ok X G P W (k + 1)) (hcalls : ∀ f, FnG G X.prog X.w X.mg X.base k (G.fadr f) (appF P f)) {a : Expr} {ea : Ex} {pos : Pos} (ha : PE X a (tE G W (den P ea))) : PE X (.UnaryOp .Not a pos) (tE G W (den P (.not (.val ea)))) := by
  refine ⟨fun pins s σ H Q I h => ?_⟩
  have h : tB' G W (denC P (.val ea)) σ H fun b H1 => Q (.bl b.not) H1 := by
    obtain ⟨w, env, S, e, p⟩ := h
    refine ⟨w, env, S, e, ?_⟩
    rw [den] at p
    cases q : denC P (.val ea) env w.m with
    | bad => rw [q] at p; exact p
    | err x m => rw [q] at p; exact p
    | ok b m =>
      rw [q, Res.bind_ok] at p
      intro v H' w' em st S' r
      cases r
      exact p _ H' w' em st S' mk_bl
  refine UnaryOp_ (thn (ha.run pins s σ H _ I (c_of h)) fun v s1 ⟨x, H1, I1, r1, q1⟩ => ?_)
  exact not_of (thn (tru_D O hcalls pins s1 σ H1 x v (fun c H2 => Q (.bl (!c)) H2) I1 r1 q1) fun c s2 ⟨H2, I2, q2⟩ => ⟨.bl (!c), H2, I2, rfl, q2⟩)
theorem e_ite {c a b : Expr} {cc : Cn} {ea eb : Ex} {pos : Pos} (hc : PT X c (tB' G W (denC P cc))) (ha : PE X a (tE G W (den P ea))) (hb : PE X b (tE G W (den P eb))) : PE X (.IfExp c a b pos) (tE G W (den P (.ite cc ea eb))) :=
  (pe_ifExp hc ha hb).imp fun σ H Q h => (tG.bindT (S := REq) (g := denC P cc) (f := fun k env m1 => if k then den P ea env m1 else den P eb env m1) (tG.of_eq (fun env m => by rw [den]) h)).mono fun k H1 ⟨w, env, c, S, e, r, p⟩ => by
    cases r
    cases k with
    | true => exact ⟨w, env, S, e, p⟩
    | false => exact ⟨w, env, S, e, p⟩

/-! ### displays -/
theorem e_lst {es : List Expr} {es' : List Ex} {p : Bool} {pos : Pos} (ha : PA X es (tL G W (denL P es'))) : PE X (.List es pos) (tE G W (den P (.lst p es'))) :=
  (pe_lst ha).imp fun σ H Q h => (tG.bindT (S := RepL G) (g := denL P es') (f := fun ds _ m1 => if ds.length ≤ sizeLine then newL p ds m1 else .bad) (tG.of_eq (fun env m => by rw [den]) h)).mono fun xs H1 ⟨w, env, c, S, e, r, q⟩ => by
    split at q
    · rename_i hl
      exact ⟨by rw [r.length]; exact hl, fun a ha => post_newL S r ha q⟩
    · exact q.elim
theorem e_tup {es : List Expr} {es' : List Ex} {x1 : Nat} {pos : Pos} (ha : PA X es (tL G W (denL P es'))) : PE X (.Tuple es x1 pos) (tE G W (den P (.tup es'))) :=
  (pe_tup ha).imp fun σ H Q h => (tG.bindT (S := RepL G) (g := denL P es') (f := fun ds _ m1 => if ds.length ≤ sizeLine then newT ds m1 else .bad) (tG.of_eq (fun env m => by rw [den]) h)).mono fun xs H1 ⟨w, env, c, S, e, r, q⟩ => by
    split at q
    · rename_i hl
      exact ⟨by rw [r.length]; exact hl, fun a ha => post_newT S r ha q⟩
    · exact q.elim
end
end DL

/-! DL11: subscripts, slices, fields, f-strings, calls -/
namespace DL
open PySem PySem.Spec PyProof.Rows L2

section
variable {X : Cx} {G : GT} {W : WX} {P : Prg} {k : Nat}
/-! ### subscripts -/
theorem atI_rep {w : Wd} {xs : List D} {vs : List V} {i : Int} {d : D} (t : RepL G w xs vs) (h : atI xs i = some d) : ∃ v, atI vs i = some v ∧ Rep G w d v := by
  unfold atI at h ⊢
  rw [t.length]
  obtain ⟨j, h1, h2⟩ := Option.bind_eq_some_iff.mp h
  obtain ⟨v, e, r⟩ := t.get h2
  exact ⟨v, Option.bind_eq_some_iff.mpr ⟨j, h1, e⟩, r⟩
theorem ixD_ne {d e : D} {m : Me} {x : Er} {m' : Me} : ixD d e m ≠ .err x m' := by
  intro h
  unfold ixD at h
  split at h <;> first | exact ofO_ne h | cases h
theorem ix_D (B : Bs X G) : IxR X (rop G ixD) := by
  intro value slice pins s σ H x y v u Q I rx ry h hs
  obtain ⟨w, d, e, S, r1, r2, q⟩ := h
  unfold ixD at q
  split at q
  · rename_i xs i e1 e2
    obtain ⟨a, vs, rfl, g, t⟩ := vw_lst S r1 e1
    cases vw_int r2 e2
    obtain ⟨z, hz, q⟩ := ofO_post q
    obtain ⟨zv, hv, rz⟩ := atI_rep t hz
    exact ix_list value slice pins s σ H _ _ v u Q I rx ry ⟨a, vs, i, zv, rfl, rfl, B.K ▸ g, hv, post_ret S rz q⟩ hs
  · rename_i xs i e1 e2
    obtain ⟨a, vs, rfl, g, t⟩ := vw_tup S r1 e1
    cases vw_int r2 e2
    obtain ⟨z, hz, q⟩ := ofO_post q
    obtain ⟨zv, hv, rz⟩ := atI_rep t hz
    exact ix_tup value slice pins s σ H _ _ v u Q I rx ry ⟨a, vs, i, zv, rfl, rfl, B.K ▸ g, hv, post_ret S rz q⟩ hs
  · rename_i x i e1 e2
    obtain ⟨rfl, hl⟩ := vw_str r1 e1
    cases vw_int r2 e2
    obtain ⟨z, hz, q⟩ := ofO_post q
    obtain ⟨c, hc, rfl⟩ := Option.map_eq_some_iff.mp hz
    exact ix_str value slice pins s σ H _ _ v u Q I rx ry ⟨x, i, c, rfl, rfl, hl, hc, post_ret S (mk_str (by show Str.length _ ≤ _; simp [Str.length]; decide)) q⟩ hs
  · exact q.elim
theorem e_ix (B : Bs X G) {a b : Expr} {ea eb : Ex} {pos : Pos} (ha : PE X a (tE G W (den P ea))) (hb : PE X b (tE G W (den P eb))) (hs : isSlice b = false) : PE X (.Subscript a b pos) (tE G W (den P (.ix ea eb))) :=
  (pe_ix (ix_D B) ha hb (plainIx hs)).imp fun σ H Q h => two_ops (a := a) (b := b) (fun _ _ _ _ _ => ixD_ne) (tG.of_eq (fun env m => by rw [den]) h)

/-! ### slices -/
theorem cut_rep {w : Wd} {xs : List D} {vs : List V} {lo hi : Option Int} (t : RepL G w xs vs) : RepL G w (cutD xs lo hi) (cutV vs lo hi) := by
  unfold cutD cutV
  rw [t.length]
  exact (t.drop _).take _
theorem slD_ne {p : Bool} {d : D} {lo hi : Option Int} {m : Me} {x : Er} {m' : Me} : slD p d lo hi m ≠ .err x m' := by
  intro h
  unfold slD at h
  split at h
  · exact newL_ne h
  · split at h <;> cases h
  · cases h
  · cases h
theorem cutS_len {z : Str} {lo hi : Option Int} (h : SOk z) : SOk (cutS z lo hi) := by
  unfold SOk at *
  refine Nat.le_trans ?_ h
  unfold cutS
  show Array.size _ ≤ _
  simp only [List.size_toArray, List.length_take, List.length_drop]
  have : z.cps.toList.length = z.length := by simp [Str.length]
  rw [this]; omega
theorem sl_D (B : Bs X G) (p : Bool) : SlR X (fun x lo hi H Q => ∃ w d, SR G w H ∧ Rep G w d x ∧ Post G (Rep G) (fun _ _ _ _ => False) [] w H Q (slD p d lo hi w.m)) := by
  intro pins s σ H x v vl vu lo hi sl Q I rx hs pl pu h
  obtain ⟨w, d, S, r, q⟩ := h
  unfold slD at q
  split at q
  · rename_i xs z
    obtain ⟨a, vs, rfl, g, t⟩ := vw_lst S r z
    exact sl_list pins s σ H _ v vl vu lo hi sl Q I rx hs pl pu ⟨a, vs, rfl, B.K ▸ g, fun b hb => post_newL S (cut_rep t) hb q⟩
  · rename_i xs z
    obtain ⟨a, vs, rfl, g, t⟩ := vw_tup S r z
    have tl := t.length
    refine sl_tupA pins s σ H _ v vl vu lo hi sl Q I rx hs pl pu ⟨a, vs, rfl, B.K ▸ g, fun c => ?_, fun c b hb => ?_⟩
    · rw [tl] at c
      rw [if_pos c] at q
      exact post_ret S (vw_flat z r (fun _ z => nomatch z) fun _ _ _ z => nomatch z) q
    · rw [tl] at c
      rw [if_neg c] at q
      exact post_newT S (cut_rep t) hb q
  · rename_i x z
    obtain ⟨rfl, hl⟩ := vw_str r z
    exact sl_str pins s σ H _ v vl vu lo hi sl Q I rx hs pl pu ⟨x, rfl, hl, post_ret S (mk_str (cutS_len hl)) q⟩
  · exact q.elim
/-- a slice's part -/
theorem o_none : PO X none (tG G REq W (denO P none)) := ⟨fun pins s σ H Q I ⟨w, env, S, e, p⟩ => po_none.run pins s σ H Q I (by
  unfold denO at p
  exact post_ret S rfl p)⟩
theorem o_some {e : Expr} {e' : Ex} (he : PE X e (tE G W (den P e'))) : PO X (some e) (tG G REq W (denO P (some e'))) := ⟨fun pins s σ H Q I h => (po_some he).run pins s σ H Q I (by
  have h := tG.of_eq (g' := fun env m => (den P e' env m).bind fun d m1 => partD d m1) (fun env m => by rw [denO]) h
  refine (tG.bindT (S := Rep G) (g := den P e') (f := fun d _ m1 => partD d m1) h).mono fun x H1 ⟨w, env, c, S, e, r, p⟩ => ?_
  unfold partD at p
  split at p
  · cases rep_int r
    exact ⟨_, rfl, post_ret S rfl p⟩
  · exact p.elim)⟩
theorem e_sl (B : Bs X G) {a : Expr} {ea : Ex} {lo hi : Option Expr} {el eh : Option Ex} {p : Bool} {pos p2 : Pos} (ha : PE X a (tE G W (den P ea))) (hl : PO X lo (tG G REq W (denO P el))) (hh : PO X hi (tG G REq W (denO P eh))) :
    PE X (.Subscript a (.Slice lo hi none p2) pos) (tE G W (den P (.sl p ea el eh))) := by
  refine (pe_slice (sl_D B p) ha hl hh).imp fun σ H Q h => ?_
  have h := tG.of_eq (g' := fun env m => (den P ea env m).bind fun d m1 => (denO P el env m1).bind fun l m2 => (denO P eh env m2).bind fun h m3 => slD p d l h m3) (fun env m => by rw [den]) h
  refine (tG.bind (S := Rep G) (g := den P ea) (k := fun d env m1 => (denO P el env m1).bind fun l m2 => (denO P eh env m2).bind fun h m3 => slD p d l h m3) h).mono fun x H1 h1 => ?_
  refine (kG.bind (mono_rep G) (S := REq) (g := denO P el) (k := fun q env m2 => (denO P eh env m2).bind fun h m3 => slD p q.1 q.2 h m3) h1).mono fun y H2 h2 => ?_
  refine (kG.bind ((mono_rep G).pair mono_eq) (S := REq) (g := denO P eh) (k := fun q env m2 => slD p q.1.1 q.1.2 q.2 m2) h2).mono fun z H3 h3 => ?_
  obtain ⟨w, env, ⟨⟨d, l⟩, u⟩, S, e, ⟨⟨r1, r2⟩, r3⟩, q⟩ := h3
  cases r2
  cases r3
  exact ⟨w, d, S, r1, post_ne (fun _ _ => slD_ne) q⟩
theorem revD_ne {p : Bool} {d : D} {m : Me} {x : Er} {m' : Me} : revD p d m ≠ .err x m' := by
  intro h
  unfold revD at h
  split at h
  · exact newL_ne h
  · cases h
theorem e_rev (B : Bs X G) {e : Expr} {ee : Ex} {p : Bool} {j : Nat} {p1 p2 p3 pos : Pos} (he : PE X e (tE G W (den P ee))) :
    PE X (.Subscript e (.Slice none none (some (.UnaryOp .USub (.Constant (.int 1) j p1) p2)) p3) pos) (tE G W (den P (.rev p ee))) :=
  (pe_revL he).imp fun σ H Q h => (tG.bindT (S := Rep G) (g := den P ee) (f := fun d _ m1 => revD p d m1) (tG.of_eq (fun env m => by rw [den]) h)).mono fun x H1 ⟨w, env, c, S, e, r, q⟩ => by
    unfold revD at q
    split at q
    · rename_i xs z
      obtain ⟨a, vs, rfl, g, t⟩ := vw_lst S r z
      exact ⟨a, vs, rfl, B.K ▸ g, fun b hb => post_newL S t.reverse hb q⟩
    · exact q.elim

/-! ### fields -/
theorem getF_some {w : Wd} (hi : ∀ i j, G.fnm i = G.fnm j → i = j) {f : Nat} {d : D} : ∀ {ns : List Nat} {xs : List D} {fs : List (Str × V)}, fs.map (·.1) = ns.map G.fnm → RepL G w xs (fs.map (·.2)) → getF ns xs f = some d → ∃ v, fs.lookup (G.fnm f) = some v ∧ Rep G w d v
  | [], _, _, _, _, h => by unfold getF at h; cases h
  | n :: ns, [], _, _, _, h => by unfold getF at h; cases h
  | n :: ns, x :: xs, [], e, _, _ => by simp at e
  | n :: ns, x :: xs, (y, v) :: fs, e, r, h => by
    rw [List.map_cons, List.map_cons] at e
    obtain ⟨e1, e2⟩ := List.cons.inj e
    rw [List.map_cons] at r
    obtain ⟨u, us, e3, r1, r2⟩ := RepCL.cons_inv r
    obtain ⟨e4, e5⟩ := List.cons.inj e3
    have e1' : y = G.fnm n := e1
    have e4' : v = u := e4
    subst e1' e4'
    unfold getF at h
    by_cases hn : n = f
    · subst hn
      rw [if_pos rfl] at h
      cases h
      exact ⟨v, by simp [List.lookup_cons], r1⟩
    · rw [if_neg hn] at h
      rw [← e5] at r2
      obtain ⟨z, q1, q2⟩ := getF_some hi e2 r2 h
      refine ⟨z, ?_, q2⟩
      rw [List.lookup_cons]
      have : (G.fnm f == G.fnm n) = false := by
        rw [beq_eq_false_iff_ne]
        exact fun q => hn (hi _ _ q).symm
      rw [this]; exact q1
theorem getF_none (hi : ∀ i j, G.fnm i = G.fnm j → i = j) {f : Nat} : ∀ {ns : List Nat} {xs : List D} {fs : List (Str × V)}, fs.map (·.1) = ns.map G.fnm → fs.length = xs.length → getF ns xs f = none → fs.lookup (G.fnm f) = none
  | [], _, [], _, _, h => rfl
  | [], _, _ :: _, e, _, h => by simp at e
  | n :: ns, [], [], e, l, h => by simp at e
  | n :: ns, [], _ :: _, e, l, h => by simp at l
  | n :: ns, x :: xs, [], e, _, _ => by simp at e
  | n :: ns, x :: xs, (y, v) :: fs, e, l, h => by
    rw [List.map_cons, List.map_cons] at e
    obtain ⟨e1, e2⟩ := List.cons.inj e
    have e1' : y = G.fnm n := e1
    subst e1'
    unfold getF at h
    by_cases hn : n = f
    · rw [if_pos hn] at h; cases h
    · rw [if_neg hn] at h
      rw [List.lookup_cons]
      have : (G.fnm f == G.fnm n) = false := by
        rw [beq_eq_false_iff_ne]
        exact fun q => hn (hi _ _ q).symm
      rw [this]
      exact getF_none hi e2 (by simpa using l) h
theorem fldD_ne {d : D} {f : Nat} {m : Me} {x : Er} {m' : Me} : fldD P d f m ≠ .err x m' := by
  intro h
  unfold fldD at h
  split at h
  · split at h <;> cases h
  · cases h
theorem e_fld (O : Ok X G P W k) {e : Expr} {ee : Ex} {f : Nat} {x : Str} {pos : Pos} (he : PE X e (tE G W (den P ee))) (hx : G.fnm f = x) (hb : superForm e = false) : PE X (.Attribute e x pos) (tE G W (den P (.fld ee f))) :=
  (pe_fld he (attrBase hb)).imp fun σ H Q h => (tG.bindT (S := Rep G) (g := den P ee) (f := fun d _ m1 => fldD P d f m1) (tG.of_eq (fun env m => by rw [den]) h)).mono fun y H1 ⟨w, env, c, S, e, r, q⟩ => by
    unfold fldD at q
    split at q
    · rename_i cc ns xs hv
      split at q
      · rename_i d h1 h2
        obtain ⟨a, dx, fs, rfl, ea, en, t⟩ := vw_ins S r hv
        obtain ⟨v, l, rv⟩ := getF_some O.cls.inj en t h1
        obtain ⟨hc, hn⟩ := O.cls.no _ _ h2
        rw [hx] at l hn
        rw [← O.B.K] at hc hn
        exact ⟨a, _, dx, fs, v, rfl, ea, hc, hn, l, post_ret S rv q⟩
      · exact q.elim
    · exact q.elim

/-! ### f-strings -/
theorem fmtD_ne {d : D} {m : Me} {x : Er} {m' : Me} : fmtD P d m ≠ .err x m' := by
  intro h
  unfold fmtD at h
  split at h
  · cases h
  · split at h <;> cases h
  · cases h
theorem e_fmt {e : Expr} {ee : Ex} {pos : Pos} (he : PE X e (tE G W (den P ee))) : PE X (.FormattedValue e (-1) none pos) (tE G W (den P (.fmt ee))) :=
  (pe_fmt he).imp fun σ H Q h => (tG.bindT (S := Rep G) (g := den P ee) (f := fun d _ m1 => fmtD P d m1) (tG.of_eq (fun env m => by rw [den]) h)).mono fun y H1 ⟨w, env, c, S, e, r, q⟩ => by
    unfold fmtD at q
    split at q
    · rename_i x hv
      obtain ⟨rfl, hl⟩ := vw_str r hv
      exact .inl ⟨x, rfl, hl, post_ret S (mk_str hl) q⟩
    · rename_i i hv
      cases vw_int r hv
      split at q
      · rename_i hi
        exact .inr ⟨i, rfl, hi, post_ret S (mk_str (int_text_fits hi)) q⟩
      · exact q.elim
    · exact q.elim
/-- the parts of an f-string -/
inductive PF (X : Cx) (G : GT) (W : WX) (P : Prg) : List Expr → List Ex → Prop where
  | nil : PF X G W P [] []
  | cons {e : Expr} {e' : Ex} {es : List Expr} {es' : List Ex} (h : PE X e (tE G W (den P e'))) (r : PF X G W P es es') : PF X G W P (e :: es) (e' :: es')
theorem PF.pj : ∀ {es : List Expr} {es' : List Ex}, PF X G W P es es' → PJ X es (es'.map fun e => tE G W (den P e))
  | _, _, .nil => .nil
  | _, _, .cons h r => .cons h r.pj
theorem fs_of : ∀ {es : List Ex} {acc : Str} {σ : L2.St} {H : Hp} {Q : Str → Hp → Prop}, tG G REq W (denF P acc es) σ H Q → tJs (es.map fun e => tE G W (den P e)) acc σ H Q
  | [], acc, σ, H, Q, ⟨w, env, S, e, p⟩ => by
    unfold denF at p
    exact post_ret S rfl p
  | e :: es, acc, σ, H, Q, h => by
    have h := tG.of_eq (g' := fun env m => (den P e env m).bind fun d m1 => match d with
      | .str y => if (acc ++ y).length ≤ sizeLine then denF P (acc ++ y) es env m1 else .bad
      | _ => .bad) (fun env m => by rw [denF] <;> rfl) h
    refine (tG.bindT (S := Rep G) (g := den P e) (f := fun d env m1 => match d with
      | .str y => if (acc ++ y).length ≤ sizeLine then denF P (acc ++ y) es env m1 else .bad
      | _ => .bad) h).mono fun x H1 ⟨w, env, c, S, e, r, q⟩ => ?_
    split at q
    · rename_i y
      obtain ⟨rfl, _⟩ := rep_str r
      split at q
      · rename_i hl
        exact ⟨y, rfl, hl, fs_of ⟨w, env, S, e, q⟩⟩
      · exact q.elim
    · exact q.elim
theorem denF_len : ∀ {es : List Ex} {acc : Str} {env : En} {m m' : Me} {x : Str}, acc.length ≤ sizeLine → denF P acc es env m = .ok x m' → x.length ≤ sizeLine
  | [], acc, env, m, m', x, hl, h => by rw [denF] at h; cases h; exact hl
  | e :: es, acc, env, m, m', x, hl, h => by
    rw [denF] at h
    cases q : den P e env m with
    | bad => rw [q] at h; cases h
    | err x m => rw [q] at h; cases h
    | ok d m1 =>
      rw [q, Res.bind_ok] at h
      split at h
      · split at h
        · rename_i hl'
          exact denF_len hl' h
        · cases h
      · cases h
theorem e_fstr {v1 v2 : Expr} {rest : List Expr} {es : List Ex} {pos : Pos} (h : PF X G W P (v1 :: v2 :: rest) es) : PE X (.JoinedStr (v1 :: v2 :: rest) pos) (tE G W (den P (.fstr es))) :=
  (pe_joined h.pj).imp fun σ H Q ⟨w, env, S, e, p⟩ => fs_of ⟨w, env, S, e, by
    rw [den] at p
    cases q : denF P Str.empty es env w.m with
    | bad => rw [q] at p; exact p
    | err x m => rw [q] at p; exact p
    | ok x m' =>
      rw [q, Res.bind_ok] at p
      have hx := denF_len (Nat.zero_le _) q
      intro b H' w' em st S' r
      cases r
      exact p _ H' w' em st S' (mk_str hx)⟩

/-! ### calls -/
theorem bltD_ne {b : Blt} {p : Bool} {ds : List D} {m : Me} {x : Er} {m' : Me} (h : bltD P b p ds m = .err x m') : False := by
  unfold bltD at h
  split at h
  all_goals (repeat' split at h)
  all_goals first
    | (cases h; done)
    | exact ofO_ne h
    | exact newL_ne h
    | (refine bindN_ne (fun a m1 z => ?_) h
       repeat' split at z
       all_goals (cases z; done))
    | (unfold newT at h; cases h; done)
/-- a built-in function's name -/
theorem e_blt (O : Ok X G P W (k + 1)) (hcalls : ∀ f, FnG G X.prog X.w X.mg X.base k (G.fadr f) (appF P f)) {b : Blt} {pl : Bool} {x : Str} {e : Expr} {es : List Expr} {es' : List Ex} {p pos : Pos} (hg : Gl X x) (hm : X.mg x = none)
    (hv : bootBuiltins x = some (bltFn b)) (hn : x ≠ "__name__") (hd : (x == ("__debug__" : Str)) = false) (ha : PA X (e :: es) (tL G W (denL P es'))) (hs : (e :: es).all (fun e => !isStar e) = true) : PE X (.Call (.Name x p) (e :: es) [] pos) (tE G W (den P (.blt b pl es'))) := by
  have i : ∀ σ H Q, tE G W (den P (.blt b pl es')) σ H Q → tCB (rcl G (bltD P b pl)) (tL G W (denL P es')) σ H Q := fun σ H Q h =>
    (tG.bindT (S := RepL G) (g := denL P es') (f := fun ds _ m1 => bltD P b pl ds m1) (tG.of_eq (fun env m => by rw [den]) h)).mono fun x H1 ⟨w, env, c, S, e, r, q⟩ => ⟨w, c, S, r, by
      exact post_ne (fun x m z => bltD_ne z) q⟩
  rw [List.all_cons, Bool.and_eq_true] at hs
  have h1 := starCons (es := es) (env := X.env) (by simpa using hs.1)
  have h2 := noStarB (env := X.env) (pos := pos) hs.2
  have key := blt_ok O hcalls b pl
  cases b <;> first
    | exact (pe_callB (id := _) key hg hm hv ha hn hd h1 h2).imp i
    | exact (pe_callTy (T := _) key hg hm hv ha hn hd h1 h2).imp i
/-- a live place's object, cut -/
theorem MRep.cut {w : Wd} {H : Hp} {a : Addr} {o : MO} {m' : Me} (h : MRep G w H a o) (hb : bndO m'.length o = true) : MRep G ⟨w.F, w.r, m'⟩ H a o := by
  cases o with
  | lst ds =>
    obtain ⟨xs, q, t⟩ := h
    exact ⟨xs, q, RepCL.cut _ _ t hb⟩
  | dK kvs =>
    obtain ⟨xs, q, t⟩ := h
    exact ⟨xs, q, RepKV.cut (m' := m') t hb⟩
  | dT kvs =>
    obtain ⟨xs, q, t⟩ := h
    exact ⟨xs, q, RepKV.cut (m' := m') t hb⟩
  | ins c ns ds =>
    obtain ⟨dx, fs, q, en, t⟩ := h
    exact ⟨dx, fs, q, en, RepCL.cut _ _ t hb⟩
  | gone => trivial
/-- a result of which the younger places are dropped -/
theorem post_seal {σ : L2.St} {w0 w : Wd} {H0 H : Hp} {d : D} {v : V} {Q : VK} (st : Stp w0 H0 w H) (S : SR G w H) (r : Rep G w d v) (h : Post G (Rep G) W σ w0 H0 Q (sealR w0.m.length d w.m)) : Q v H := by
  have hl := st.ext.len
  have lk : (w.tk w0.m.length).m.length = w0.m.length := by show (w.m.take _).length = _; rw [List.length_take]; omega
  unfold sealR at h
  split at h
  · exact h v H w rfl st S r
  · split at h
    · rename_i hb
      split at h
      · rename_i n
        split at h
        · rename_i hn
          refine h v H (w.tk w0.m.length) rfl st.tk (S.tk hl hb) ?_
          show RepC G w.F w.r (w.tk w0.m.length).m.length (.loc n) v
          rw [lk]
          obtain ⟨_, e⟩ := rep_loc r
          unfold RepC
          exact ⟨hn, e⟩
        · rename_i hn
          split at h
          · rename_i o ho
            split at h
            · rename_i hlo
              rw [Bool.and_eq_true] at hlo
              obtain ⟨hnl, rfl⟩ := rep_loc r
              obtain ⟨u, hu⟩ := (S.lv n o ho).there hlo.1
              have St := S.tk hl hb
              have oth : Oth (w.tk w0.m.length) (w.r n) := ⟨S.out n o ho hlo.1, fun i x hi lx e => by
                have hi' : (w.m.take w0.m.length)[i]? = some x := hi
                have hil : i < w0.m.length := by
                  have := (List.getElem?_eq_some_iff.mp hi').1
                  rw [List.length_take] at this
                  omega
                rw [List.getElem?_take_of_lt hil] at hi'
                have := S.inj i n x o hi' lx ho hlo.1 e
                omega⟩
              have mr0 : MRep G (w.tk w0.m.length) H (w.r n) o := (S.lv n o ho).cut (m' := w.m.take w0.m.length) (by
                have lk' : (w.m.take w0.m.length).length = w0.m.length := lk
                rw [lk']; exact hlo.2)
              have S2 := St.adoptP hu oth (mr0.ext (Ext.al _ _ _))
              refine h _ H ((w.tk w0.m.length).al (w.r n) o) rfl ⟨st.tk.ext.trans (Ext.al _ _ _), fun a z nt e q => ?_⟩ S2 ?_
              · obtain ⟨e1, q1, q2⟩ := st.tk.oth a z nt e q
                obtain ⟨_, _, q3⟩ := st.oth a z nt e q
                refine ⟨e1, q1, fun i x hi lx => ?_⟩
                show (if i = (w.tk w0.m.length).m.length then w.r n else w.r i) ≠ a
                by_cases hi2 : i = (w.tk w0.m.length).m.length
                · rw [if_pos hi2]
                  exact q3 n o ho hlo.1
                · rw [if_neg hi2]
                  have hi' : ((w.tk w0.m.length).m ++ [o])[i]? = some x := hi
                  have hil : i < (w.tk w0.m.length).m.length := by
                    have := (List.getElem?_eq_some_iff.mp hi').1
                    rw [List.length_append, List.length_singleton] at this
                    omega
                  rw [List.getElem?_append_left hil] at hi'
                  exact q2 i x hi' lx
              · have e : ((w.tk w0.m.length).al (w.r n) o).r (w.tk w0.m.length).m.length = w.r n := if_pos rfl
                have := mk_loc (G := G) (w := (w.tk w0.m.length).al (w.r n) o) (n := (w.tk w0.m.length).m.length) (by show _ < ((w.tk w0.m.length).m ++ [o]).length; simp)
                rw [e, lk] at this
                exact this
            · exact h v H w rfl st S r
          · exact h v H w rfl st S r
      · split at h
        · rename_i hbd
          refine h v H (w.tk w0.m.length) rfl st.tk (S.tk hl hb) ?_
          show RepC G w.F w.r (w.tk w0.m.length).m.length d v
          rw [lk]
          exact RepC.cut _ _ r hbd
        · exact h v H w rfl st S r
    · exact h v H w rfl st S r
theorem run_new (O : Ok X G P W (k + 1)) (hcalls : ∀ f, FnG G X.prog X.w X.mg X.base k (G.fadr f) (appF P f)) {pins : List (Addr × Obj)} {σ : L2.St} {H : Hp} {s : Shared} {Q : VK} {c : Nat} {ds ks : List D} {kn : List Nat} {us : List Value} {kw : List (Str × Value)} {vs zs : List V} {w : Wd}
    (I : Inv X pins σ H s) (r : Vals vs us) (hk : kw.map (·.1) = kn.map G.fnm) (rz : Vals zs (kw.map (·.2))) (S : SR G w H) (rd : RepL G w ds vs) (rk : RepL G w ks zs)
    (h : Post G (Rep G) (fun cl d _ H' => W cl d σ H') [] w H Q (newC P c ds kn ks w.m)) : wpAny (model X.prog X.w) X.A (call (.ref (G.cadr c)) us kw) (EP X pins σ Q) X.xe s := by
  have B := O.B
  unfold newC at h
  split at h
  · rename_i f h1 h2
    obtain ⟨mk1, mk2⟩ := O.cls.mks c h1
    obtain ⟨hc, hm⟩ := O.cls.meth c nInit f h2
    have hs := hm.at_
    rw [O.cls.n0] at hs
    have hf := hm.fn
    rw [← B.K] at mk1 mk2 hs hf
    have I2 := Inv.made (C := G.cadr c) I
    have f1 : H s.heap.objs.size = none := I.hok.fresh (Nat.le_refl _)
    have f2 : (upd H s.heap.objs.size (.own (s.heap.objs.size + 1))) (s.heap.objs.size + 1) = none := by
      rw [upd_ne (Nat.ne_of_gt (Nat.lt_succ_self _))]
      exact I.hok.fresh (Nat.le_succ _)
    have S1 := S.grow (Hle.put (o := HO.own (s.heap.objs.size + 1)) f1)
    have ne : s.heap.objs.size + 1 ≠ s.heap.objs.size := Nat.ne_of_gt (Nat.lt_succ_self _)
    have S2 : SR G (w.al (s.heap.objs.size + 1) (.ins c [] [])) (upd (upd H s.heap.objs.size (.own (s.heap.objs.size + 1))) (s.heap.objs.size + 1) (.ins (G.cadr c) s.heap.objs.size [])) :=
      S1.al f2 ⟨s.heap.objs.size, [], upd_same, rfl, .nil⟩
    have st2 : Stp w H (w.al (s.heap.objs.size + 1) (.ins c [] [])) (upd (upd H s.heap.objs.size (.own (s.heap.objs.size + 1))) (s.heap.objs.size + 1) (.ins (G.cadr c) s.heap.objs.size [])) :=
      (Stp.grow (Hle.put (o := HO.own (s.heap.objs.size + 1)) f1)).trans (Stp.al S1 f2)
    generalize hH2 : upd (upd H s.heap.objs.size (.own (s.heap.objs.size + 1))) (s.heap.objs.size + 1) (.ins (G.cadr c) s.heap.objs.size []) = H2 at I2 S2 st2
    generalize hx : s.heap.objs.size + 1 = x at I2 S2 st2
    have rl : Rep G (w.al x (.ins c [] [])) (.loc w.m.length) (.ref x) := by
      have e : (w.al x (.ins c [] [])).r w.m.length = x := if_pos rfl
      have := mk_loc (G := G) (w := w.al x (.ins c [] [])) (n := w.m.length) (by show _ < (w.m ++ _).length; simp)
      rw [e] at this
      exact this
    have cp : callPost G (fun cl d H' => W cl d σ H') (fun v H' => v = .non ∧ Q (.ref x) H') H2 (.ref x :: vs) zs kn (appF P f) := by
      refine ⟨w.al x (.ins c [] []), .loc w.m.length :: ds, ks, S2, .cons rl (rd.ext st2.ext), rk.ext st2.ext, ?_⟩
      have em : (w.al x (.ins c [] [])).m = w.m ++ [.ins c [] []] := rfl
      rw [em]
      cases q : appF P f (.loc w.m.length :: ds) kn ks (w.m ++ [.ins c [] []]) with
      | bad => rw [q] at h; exact h
      | err y m =>
        rw [q] at h
        intro cl d H' w' e1 st' S' re
        exact h cl d H' w' e1 (st2.trans st') S' re
      | ok z m' =>
        rw [q, Res.bind_ok] at h
        intro v H' w' e1 st' S' rv
        subst e1
        split at h
        · cases rep_non rv
          refine ⟨rfl, ?_⟩
          have rl' : Rep G w' (.loc w.m.length) (.ref x) := rl.ext st'.ext
          split at h
          · split at h
            · rename_i c' ns xs hg
              obtain ⟨hn, ex⟩ := rep_loc rl'
              have ex : x = w'.r w.m.length := by injection ex
              obtain ⟨dx, fs, eH, en, t⟩ := S'.lv _ _ hg
              obtain ⟨S3, ext3⟩ := S'.frz (u := .ins (G.cadr c') dx fs) hg rfl eH
              have st3 := Stp.frz S' hg rfl eH
              have r3 : Rep G (w'.frz w.m.length (.ins (G.cadr c') dx fs)) (.ins c' ns xs) (.ref x) := by
                unfold Rep RepC
                refine ⟨x, dx, fs, rfl, ?_, en, t.ext ext3⟩
                show upd w'.F (w'.r w.m.length) _ x = _
                rw [← ex, upd_same]
              exact post_seal ((st2.trans st').trans st3) S3 r3 h
            · exact h.elim
          · exact h (.ref x) H' w' rfl (st2.trans st') S' rl'
        · exact h.elim
    have e0 := I2.env0
    rw [B.K] at e0
    have F := hcalls f
    refine wpAny_call (make_map (f := G.fadr f) I.kIn mk1 hs (beq_iff_eq.mp hf) (codeAny_mono (F.run _ X.stack _ _ (Value.ref (s.heap.objs.size + 1) :: us) kw (.ref x :: vs) zs kn _ _ (O.room.make (G.cadr c) us kw) ?_
      (e0.make (G.cadr c) us kw) (.cons (by rw [hx]; rfl) r) hk rz cp) fun r s' hq' => ?_))
    · exact (by first | exact B.gd | (simpa [Around.under] using B.gd))
    · cases r with
      | error e => exact O.tk e s' (XE.of_call I2 (fun _ _ _ z => z) hq')
      | ok fl =>
        cases fl with
        | ret u =>
          obtain ⟨v, H', I3, rv, ev, q3⟩ := I2.after hq'
          subst ev
          exact ⟨rv, ⟨V.ref x, H', I3, by rw [hx]; rfl, q3⟩⟩
        | next => exact False.elim hq'
        | brk => exact False.elim hq'
        | cont => exact False.elim hq'
  · exact h.elim
/-- a called value: a def or a class -/
theorem run_app (O : Ok X G P W (k + 1)) (hcalls : ∀ f, FnG G X.prog X.w X.mg X.base k (G.fadr f) (appF P f)) {pins : List (Addr × Obj)} {σ : L2.St} {H : Hp} {s : Shared} {Q : VK} {g : D} {ds ks : List D} {kn : List Nat} {us : List Value} {kw : List (Str × Value)} {vs zs : List V} {w : Wd} {gv : V} {gu : Value}
    (hg : okFn P g = true) (rg : Rep G w g gv) (ru : RelV gv gu) (I : Inv X pins σ H s) (r : Vals vs us) (hk : kw.map (·.1) = kn.map G.fnm) (rz : Vals zs (kw.map (·.2))) (S : SR G w H) (rd : RepL G w ds vs) (rk : RepL G w ks zs)
    (h : Post G (Rep G) (fun cl d _ H' => W cl d σ H') [] w H Q (appD P g ds kn ks w.m)) : wpAny (model X.prog X.w) X.A (call gu us kw) (EP X pins σ Q) X.xe s := by
  cases g with
  | fn f =>
    have e : gv = .ref (G.fadr f) := by unfold Rep RepC at rg; exact rg
    subst e
    cases ru
    exact run_g (hcalls f) O.B.K (O.room.mono (Nat.le_succ k)) O.B.gd O.tk I r hk rz ⟨w, ds, ks, S, rd, rk, h⟩
  | cls c =>
    cases rep_cls rg
    cases ru
    exact run_new O hcalls I r hk rz S rd rk h
  | _ => cases hg
theorem post_E {w : Wd} {H : Hp} {σ : L2.St} {Q : VK} {r : Res D} (h : Post G (Rep G) W σ w H Q r) : Post G (Rep G) (fun cl d _ H' => W cl d σ H') [] w H Q r := by
  cases r with
  | bad => exact h
  | err x m => exact h
  | ok a m => exact h
/-- the arguments of a call, then the call -/
theorem call_with {f : Value} {first : List Value} {pins : List (Addr × Obj)} {σ : L2.St} {H : Hp} {s : Shared} {Q : Value → Shared → Prop} {pos : Pos} {es : List Expr} {kws : List Keyword} {ta tk : TA} {kn : List Nat} (I0 : X.K.In s.heap) (hk : PySem.W.keepIn X.K f = true)
    (hs : es.all (fun e => !isStar e) = true) (hn : kws.all (fun k => k.arg.isSome) = true) (ha : PA X es ta) (h0 : es = [] → ∀ σ H Q, ta σ H Q → Q [] H) (hkw : PK X kws tk) (hnm : (backToKw pos (keywordEach kws X.env)).filterMap (·.1) = kn.map G.fnm) (I : Inv X pins σ H s)
    (h : ta σ H fun vs H1 => tk σ H1 fun zs H2 => ∀ us ws s2, Inv X pins σ H2 s2 → Vals vs us → Vals zs ws → wpAny (model X.prog X.w) X.A (call f (first ++ us) ((kn.map G.fnm).zip ws)) Q X.xe s2) :
    wpAny (model X.prog X.w) X.A (callWith pos f first (backTo pos (starEach es X.env)) (backToKw pos (keywordEach kws X.env))) Q X.xe s := by
  have hall := kwNamed (env := X.env) (pos := pos) hn
  have hpl : ((backTo pos (starEach es X.env)).any (·.1) || (backToKw pos (keywordEach kws X.env)).any (·.1.isNone)) = false := by
    rw [noStarB hs, Bool.false_or, List.any_eq_false]
    intro x hx
    have := List.all_eq_true.mp hall x hx
    cases e : x.1 with
    | none => rw [e] at this; cases this
    | some y => simp
  have fin : ∀ {us : List Value} {vs : List V} {s1 : Shared} {H1 : Hp}, Inv X pins σ H1 s1 → Vals vs us → (tk σ H1 fun zs H2 => ∀ us ws s2, Inv X pins σ H2 s2 → Vals vs us → Vals zs ws → wpAny (model X.prog X.w) X.A (call f (first ++ us) ((kn.map G.fnm).zip ws)) Q X.xe s2) →
      wpAny (model X.prog X.w) X.A (evalAll ((backToKw pos (keywordEach kws X.env)).map (·.2))) (fun ks s₂ => X.K.In s₂.heap ∧ wpAny (model X.prog X.w) X.A (call f (first ++ us) (((backToKw pos (keywordEach kws X.env)).filterMap (·.1)).zip ks)) Q X.xe s₂) X.xe s1 := fun {us vs s1 H1} I1 r1 q1 =>
    thn (hkw.run pos pins s1 σ H1 _ I1 q1) fun ws s2 ⟨zs, H2, I2, rz, q2⟩ => ⟨I2.kIn, by rw [hnm]; exact q2 us ws s2 I2 r1 rz⟩
  cases es with
  | nil =>
    refine PySem.W.callWith_KW0 I0 hk hall ?_ hpl
    exact fin I .nil (h0 rfl _ _ _ h)
  | cons e es =>
    rw [List.all_cons, Bool.and_eq_true] at hs
    refine PySem.W.callWith_KW I0 hk hall (thn (ha.run pos pins s σ H _ I h) fun us s1 ⟨vs, H1, I1, r, q⟩ => fin I1 r q) hpl (starCons (by simpa using hs.1))
theorem tL_nil {σ : L2.St} {H : Hp} {Q : List V → Hp → Prop} (h : tL G W (denL P []) σ H Q) : Q [] H := by
  obtain ⟨w, env, S, e, p⟩ := h
  unfold denL at p
  exact post_ret S .nil p
theorem kw_names {kn : List Nat} {ws : List Value} {zs : List V} (h : zs.length = kn.length) (r : Vals zs ws) : ((kn.map G.fnm).zip ws).map (·.1) = kn.map G.fnm ∧ ((kn.map G.fnm).zip ws).map (·.2) = ws := by
  have l := r.length
  refine ⟨?_, ?_⟩
  · rw [show (fun x : Str × Value => x.1) = Prod.fst from rfl, List.map_fst_zip]
    rw [List.length_map]; omega
  · rw [show (fun x : Str × Value => x.2) = Prod.snd from rfl, List.map_snd_zip]
    rw [List.length_map]; omega
theorem denL_len : ∀ {es : List Ex} {env : En} {m m' : Me} {ds : List D}, denL P es env m = .ok ds m' → ds.length = es.length
  | [], env, m, m', ds, h => by rw [denL] at h; cases h; rfl
  | e :: es, env, m, m', ds, h => by
    rw [denL] at h
    cases q : den P e env m with
    | bad => rw [q] at h; cases h
    | err x m => rw [q] at h; cases h
    | ok d m1 =>
      rw [q, Res.bind_ok] at h
      cases q2 : denL P es env m1 with
      | bad => rw [q2] at h; cases h
      | err x m => rw [q2] at h; cases h
      | ok ds' m2 =>
        rw [q2, Res.bind_ok] at h
        cases h
        rw [List.length_cons, List.length_cons, denL_len q2]
/-- the values of the keywords are as many as the names -/
theorem bind_len {α : Type} {ks : List Ex} {kn : List Nat} (hl : ks.length = kn.length) (env : En) (m : Me) (F : List D → Me → Res α) : (denL P ks env m).bind F = (denL P ks env m).bind fun kds m' => if kds.length = kn.length then F kds m' else .bad := by
  cases q : denL P ks env m with
  | bad => rfl
  | err x m => rfl
  | ok ds m' => rw [Res.bind_ok, Res.bind_ok, if_pos (by rw [denL_len q, hl])]
/-- arguments, then a call whose callee is known -/
theorem args_call {ε ζ : Type} {T : Wd → ε → ζ → Prop} (hT : Mono T) {es' ks' : List Ex} {kn : List Nat} (hl : ks'.length = kn.length) {F : ε → List D → List D → Me → Res D} {σ : L2.St} {H : Hp} {Q : VK} {z : ζ}
    (h : kG G T (Rep G) W (fun c env m1 => (denL P es' env m1).bind fun ds m2 => (denL P ks' env m2).bind fun kds m3 => F c ds kds m3) z σ H Q) :
    tL G W (denL P es') σ H fun vs H1 => tL G W (denL P ks') σ H1 fun zs H2 => ∃ w c ds kds, SR G w H2 ∧ T w c z ∧ RepL G w ds vs ∧ RepL G w kds zs ∧ kds.length = kn.length ∧ Post G (Rep G) W σ w H2 Q (F c ds kds w.m) := by
  have h : kG G T (Rep G) W (fun c env m1 => (denL P es' env m1).bind fun ds m2 => (denL P ks' env m2).bind fun kds m3 => if kds.length = kn.length then F c ds kds m3 else .bad) z σ H Q := by
    have e : (fun c env m1 => (denL P es' env m1).bind fun ds m2 => (denL P ks' env m2).bind fun kds m3 => F c ds kds m3) = (fun c env m1 => (denL P es' env m1).bind fun ds m2 => (denL P ks' env m2).bind fun kds m3 => if kds.length = kn.length then F c ds kds m3 else .bad) := by
      funext c env m1
      congr 1; funext ds m2
      exact bind_len hl env m2 _
    rw [← e]; exact h
  refine (kG.bind hT (S := RepL G) (g := denL P es') (k := fun q env m2 => (denL P ks' env m2).bind fun kds m3 => if kds.length = kn.length then F q.1 q.2 kds m3 else .bad) h).mono fun vs H1 h1 => ?_
  refine (kG.bind (hT.pair (mono_repL G)) (S := RepL G) (g := denL P ks') (k := fun q _ m3 => if q.2.length = kn.length then F q.1.1 q.1.2 q.2 m3 else .bad) h1).mono fun zs H2 ⟨w, env, ⟨⟨c, ds⟩, kds⟩, S, e, ⟨⟨r1, r2⟩, r3⟩, q⟩ => ?_
  dsimp only at q
  split at q
  · rename_i hl
    exact ⟨w, c, ds, kds, S, r1, r2, r3, hl, q⟩
  · exact q.elim
/-- f(e, .., k = v, ..), f a name that stands for a def or a class -/
theorem e_app (O : Ok X G P W (k + 1)) (hcalls : ∀ f, FnG G X.prog X.w X.mg X.base k (G.fadr f) (appF P f)) {x : Str} {p pos : Pos} {es : List Expr} {kws : List Keyword} {ef : Ex} {es' ks' : List Ex} {kn : List Nat} (hf : PE X (.Name x p) (tE G W (den P ef)))
    (hs : es.all (fun e => !isStar e) = true) (hn : kws.all (fun k => k.arg.isSome) = true) (ha : PA X es (tL G W (denL P es'))) (h0 : es = [] → es' = []) (hkw : PK X kws (tL G W (denL P ks'))) (hl : ks'.length = kn.length)
    (hnm : (backToKw pos (keywordEach kws X.env)).filterMap (·.1) = kn.map G.fnm) : PE X (.Call (.Name x p) es kws pos) (tE G W (den P (.app ef es' kn ks'))) := by
  refine ⟨fun pins s σ H Q I h => ?_⟩
  have h := tG.of_eq (g' := fun env m => (den P ef env m).bind fun g m1 => if okFn P g then (denL P es' env m1).bind fun ds m2 => (denL P ks' env m2).bind fun kds m3 => appD P g ds kn kds m3 else .bad) (fun env m => by rw [den]) h
  have h1 := tG.bindT (S := Rep G) (g := den P ef) (f := fun g env m1 => if okFn P g then (denL P es' env m1).bind fun ds m2 => (denL P ks' env m2).bind fun kds m3 => appD P g ds kn kds m3 else .bad) h
  refine wpAny_Call_Name_kw (thn (hf.run pins s σ H _ I h1) fun gu s1 ⟨gv, H1, I1, rg, w, env, g, S, e, r, q⟩ => ?_)
  split at q
  · rename_i hok
    have hkp : PySem.W.keepIn X.K gu = true := by
      cases g with
      | fn f =>
        have e : gv = .ref (G.fadr f) := by unfold Rep RepC at r; exact r
        subst e
        cases rg
        rw [O.B.K]; exact O.cls.fns f hok
      | cls c =>
        cases rep_cls r
        cases rg
        rw [O.B.K]; exact (O.cls.mks c hok).2
      | _ => cases hok
    refine call_with I1.kIn hkp hs hn ha (fun z σ H Q h => by rw [h0 z] at h; exact tL_nil h) hkw hnm I1 ?_
    refine (args_call (T := fun w d v => Rep G w d v ∧ d = g) (fun w w' c d e q => ⟨q.1.ext e, q.2⟩) hl (F := fun g ds kds m => appD P g ds kn kds m) (z := gv) ⟨w, env, g, S, e, ⟨r, rfl⟩, q⟩).mono fun vs H2 h2 => h2.mono fun zs H3 h3 => ?_
    obtain ⟨w, c, ds, kds, S, ⟨r1, rfl⟩, r2, r3, hl3, q⟩ := h3
    intro us ws s2 I2 rv rz
    have hz : zs.length = kn.length := by rw [r3.length, hl3]
    obtain ⟨n1, n2⟩ := kw_names (G := G) (kn := kn) hz rz
    exact run_app O hcalls hok r1 rg I2 (by simpa using rv) n1 (by rw [n2]; exact rz) S r2 r3 (post_E q)
  · exact q.elim
end
end DL

/-! DL12: methods -/
namespace DL
open PySem PySem.Spec PyProof.Rows L2

def bmT (b : Bm) : String := if bmL b then "list" else "str"
def bmId : Bm → String
  | .append => "list.append" | .insert => "list.insert" | .pop => "list.pop" | .clear => "list.clear" | .extend => "list.extend"
  | .count => "str.count" | .join => "str.join" | .split => "str.split" | .startswith => "str.startswith" | .find => "str.find"
def bmNm : Bm → Str
  | .append => "append" | .insert => "insert" | .pop => "pop" | .clear => "clear" | .extend => "extend"
  | .count => "count" | .join => "join" | .split => "split" | .startswith => "startswith" | .find => "find"
theorem bm_slot (b : Bm) : Slot (bmT b) (bmNm b) (bmId b) := by
  cases b
  · exact F.slot_list_append
  · exact F.slot_list_insert
  · exact F.slot_list_pop
  · exact F.slot_list_clear
  · exact F.slot_list_extend
  · exact F.slot_str_count
  · exact F.slot_str_join
  · exact F.slot_str_split
  · exact F.slot_str_startswith
  · exact F.slot_str_find
theorem bm_type (b : Bm) : typeOf (.builtin (bmId b)) = pure (.type "method_descriptor") := by
  cases b
  · exact F.type_list_append
  · exact F.type_list_insert
  · exact F.type_list_pop
  · exact F.type_list_clear
  · exact F.type_list_extend
  · exact F.type_str_count
  · exact F.type_str_join
  · exact F.type_str_split
  · exact F.type_str_startswith
  · exact F.type_str_find
theorem bm_plain (b : Bm) : PlainAttrs (bmT b) := by
  cases b <;> first | exact F.plainAttrs_list | exact F.plainAttrs_str
section
variable {X : Cx} {G : GT} {W : WX} {P : Prg} {k : Nat}
theorem bmD_ne {b : Bm} {p : Bool} {d : D} {ds : List D} {m : Me} {x : Er} {m' : Me} (h : bmD b p d ds m = .err x m') : False := by
  unfold bmD at h
  split at h
  all_goals (repeat' split at h)
  all_goals first
    | (cases h; done)
    | exact newL_ne h
/-- a place is written -/
theorem post_wr {β : Type} {R : Wd → D → β → Prop} {σ : L2.St} {w : Wd} {H : Hp} {Q : β → Hp → Prop} {n : Nat} {o o' : MO} {u : HO} {d : D} {v : β} (S : SR G w H) (hn : w.m[n]? = some o) (l : o.live = true) (ho : MRep G (w.wr n o') (upd H (w.r n) u) (w.r n) o') (r : R (w.wr n o') d v)
    (h : Post G R W σ w H Q (.ok d (w.m.set n o'))) : Q v (upd H (w.r n) u) :=
  h v _ (w.wr n o') rfl (Stp.wr S hn l) (S.wr hn l ho) r
theorem post_wrL {β : Type} {R : Wd → D → β → Prop} {σ : L2.St} {w : Wd} {H : Hp} {Q : β → Hp → Prop} {n : Nat} {o : MO} {ds : List D} {xs : List V} {d : D} {v : β} (S : SR G w H) (hn : w.m[n]? = some o) (l : o.live = true) (t : RepL G w ds xs) (r : ∀ o', R (w.wr n o') d v)
    (h : Post G R W σ w H Q (.ok d (w.m.set n (.lst ds)))) : Q v (upd H (w.r n) (.lst xs)) :=
  post_wr (o' := .lst ds) S hn l ⟨xs, upd_same, t.ext (Ext.wr w n _)⟩ (r _) h
theorem rep_wr {w : Wd} {d : D} {v : V} (r : Rep G w d v) (n : Nat) (o : MO) : Rep G (w.wr n o) d v := r.ext (Ext.wr w n o)
theorem lv_lst {w : Wd} {H : Hp} {n : Nat} {ds : List D} (S : SR G w H) (h : w.m[n]? = some (.lst ds)) : ∃ xs, H (w.r n) = some (.lst xs) ∧ RepL G w ds xs := S.lv n _ h
theorem vals_nil {us : List Value} (r : Vals [] us) : us = [] := by cases r; rfl
open TL in
theorem joinL_len (S : List Nat) : ∀ l : List (List Nat), (joinL S l).length ≤ (l.map List.length).sum + l.length * S.length
  | [] => by simp [joinL]
  | [p] => by simp [joinL]
  | p :: q :: r => by
    have ih := joinL_len S (q :: r)
    simp only [joinL, List.length_append, List.map_cons, List.sum_cons, List.length_cons] at ih ⊢
    have e1 : (r.length + 1 + 1) * S.length = (r.length + 1) * S.length + S.length := by rw [Nat.add_mul (r.length + 1), Nat.one_mul]
    rw [e1]
    omega
open TL in
theorem tl_len (x : Str) : (tl x).length = x.length := by
  unfold tl
  first | rfl | simp [Str.length]
open TL in
theorem join_ok {z : Str} {ys : List Str} (h : (ys.map (·.length)).sum + ys.length * z.length ≤ 16777216) : SOk (Txt.join z ys) := by
  have e := congrArg List.length (tl_join z ys)
  rw [tl_len] at e
  have b := joinL_len (tl z) (ys.map tl)
  rw [tl_len, List.length_map, List.map_map] at b
  have e2 : List.length ∘ tl = fun x : Str => x.length := by funext x; exact tl_len x
  rw [e2] at b
  unfold SOk
  rw [join_eq] <;> first | (rw [e]; exact Nat.le_trans b (Nat.le_trans h (by decide))) | skip
theorem reps_strs {w : Wd} : ∀ {ys : List Str}, (ys.all fun x => decide (x.length ≤ sizeLine)) = true → RepL G w (ys.map .str) (ys.map V.str)
  | [], _ => .nil
  | y :: ys, h => by
    rw [List.all_cons, Bool.and_eq_true] at h
    exact .cons (mk_str (by unfold SOk; exact of_decide_eq_true h.1)) (reps_strs h.2)
/-- the built-in types' methods -/
theorem bm_ok (B : Bs X G) (b : Bm) (p : Bool) : MtR X (bmId b) (fun x xs H Q => ∃ w d ds, SR G w H ∧ Rep G w d x ∧ RepL G w ds xs ∧ Post G (Rep G) WN [] w H Q (bmD b p d ds w.m)) := by
  intro pins s σ H x xs v us Q I rx rs h
  obtain ⟨w, d, ds, S, r, rl, q⟩ := h
  unfold bmD at q
  split at q
  · -- append
    obtain ⟨y, rfl, ry⟩ := rep1 rl
    obtain ⟨hn, rfl⟩ := rep_loc r
    split at q
    · rename_i ys hm
      obtain ⟨vs, hH, t⟩ := lv_lst S hm
      split at q
      · rename_i hz
        exact mt_append pins s σ H _ _ v us Q I rx rs ⟨_, vs, y, rfl, rfl, hH, by rw [t.length]; exact hz, post_wrL S hm rfl (t.append (.cons ry .nil)) (fun _ => mk_non) q⟩
      · exact q.elim
    · exact q.elim
  · -- insert
    obtain ⟨iv, y, rfl, ri, ry⟩ := rep2 rl
    cases rep_int ri
    obtain ⟨hn, rfl⟩ := rep_loc r
    split at q
    · rename_i ys hm
      obtain ⟨vs, hH, t⟩ := lv_lst S hm
      split at q
      · rename_i hz
        exact mt_insert pins s σ H _ _ v us Q I rx rs ⟨_, vs, _, y, rfl, rfl, hH, by rw [t.length]; exact hz.1, hz.2.1, hz.2.2, post_wrL S hm rfl (((t.take _).append (.cons ry .nil)).append (t.drop _)) (fun _ => mk_non) q⟩
      · exact q.elim
    · exact q.elim
  · -- pop
    have := RepCL.nil_inv rl
    subst this
    obtain ⟨hn, rfl⟩ := rep_loc r
    split at q
    · rename_i ys hm
      obtain ⟨vs, hH, t⟩ := lv_lst S hm
      split at q
      · rename_i y hy
        obtain ⟨yv, hyv, ry⟩ := t.get hy
        exact mt_pop pins s σ H _ _ v us Q I rx rs ⟨_, vs, yv, rfl, rfl, hH, by rw [t.length]; exact hyv, post_wrL S hm rfl t.dropLast (fun o => rep_wr ry _ o) q⟩
      · exact q.elim
    · exact q.elim
  · -- pop at
    obtain ⟨iv, rfl, ri⟩ := rep1 rl
    cases rep_int ri
    obtain ⟨hn, rfl⟩ := rep_loc r
    split at q
    · rename_i ys hm
      obtain ⟨vs, hH, t⟩ := lv_lst S hm
      split at q
      · rename_i j hj
        split at hj
        · rename_i hb
          split at q
          · rename_i y hy
            obtain ⟨yv, hyv, ry⟩ := t.get hy
            exact mt_popAt pins s σ H _ _ v us Q I rx rs ⟨_, vs, _, j, yv, rfl, rfl, hH, hb.1, hb.2, by rw [t.length]; exact hj, hyv, post_wrL S hm rfl (t.eraseIdx _) (fun o => rep_wr ry _ o) q⟩
          · exact q.elim
        · cases hj
      · exact q.elim
    · exact q.elim
  · -- clear
    have := RepCL.nil_inv rl
    subst this
    obtain ⟨hn, rfl⟩ := rep_loc r
    split at q
    · rename_i ys hm
      obtain ⟨vs, hH, t⟩ := lv_lst S hm
      exact mt_clear pins s σ H _ _ v us Q I rx rs ⟨_, vs, rfl, rfl, hH, post_wrL S hm rfl .nil (fun _ => mk_non) q⟩
    · exact q.elim
  · -- extend
    obtain ⟨y, rfl, ry⟩ := rep1 rl
    obtain ⟨hn, rfl⟩ := rep_loc r
    obtain ⟨hj, rfl⟩ := rep_loc ry
    split at q
    · rename_i ys zs hm hm2
      obtain ⟨vs, hH, t⟩ := lv_lst S hm
      obtain ⟨us', hH2, t2⟩ := lv_lst S hm2
      split at q
      · rename_i hz
        exact mt_extend pins s σ H _ _ v us Q I rx rs ⟨_, _, vs, us', rfl, rfl, hH, hH2, by rw [t.length, t2.length]; exact hz, post_wrL S hm rfl (t.append t2) (fun _ => mk_non) q⟩
      · exact q.elim
    · exact q.elim
  · -- join
    obtain ⟨y, rfl, ry⟩ := rep1 rl
    obtain ⟨rfl, hs⟩ := rep_str r
    have fin := @join_ok
    split at q
    · rename_i ds hv
      obtain ⟨a, vs, rfl, g, t⟩ := vw_lst S ry hv
      split at q
      · rename_i ys hy
        split at q
        · rename_i hz
          have := allStrs_rep hy t
          subst this
          exact mt_join pins s σ H _ _ v us Q I rx rs ⟨_, a, ys, rfl, rfl, .inl (B.K ▸ g), hz, post_ret S (mk_str (fin hz)) q⟩
        · exact q.elim
      · exact q.elim
    · rename_i ds hv
      obtain ⟨a, vs, rfl, g, t⟩ := vw_tup S ry hv
      split at q
      · rename_i ys hy
        split at q
        · rename_i hz
          have := allStrs_rep hy t
          subst this
          exact mt_join pins s σ H _ _ v us Q I rx rs ⟨_, a, ys, rfl, rfl, .inr (B.K ▸ g), hz, post_ret S (mk_str (fin hz)) q⟩
        · exact q.elim
      · exact q.elim
    · exact q.elim
  · -- split
    obtain ⟨y, rfl, ry⟩ := rep1 rl
    obtain ⟨rfl, hs⟩ := rep_str r
    obtain ⟨rfl, ht⟩ := rep_str ry
    split at q
    · rename_i hz
      refine mt_split pins s σ H _ _ v us Q I rx rs ⟨_, _, rfl, rfl, by simpa using hz.1, hz.2.1, fun a ha => post_newL S (reps_strs hz.2.2) ha q⟩
    · exact q.elim
  · -- startswith
    obtain ⟨y, rfl, ry⟩ := rep1 rl
    obtain ⟨rfl, hs⟩ := rep_str r
    obtain ⟨rfl, ht⟩ := rep_str ry
    exact mt_startswith pins s σ H _ _ v us Q I rx rs ⟨_, _, rfl, rfl, post_ret S mk_bl q⟩
  · -- find
    obtain ⟨y, rfl, ry⟩ := rep1 rl
    obtain ⟨rfl, hs⟩ := rep_str r
    obtain ⟨rfl, ht⟩ := rep_str ry
    exact mt_find pins s σ H _ _ v us Q I rx rs ⟨_, _, rfl, rfl, post_ret S mk_int q⟩
  · -- count
    obtain ⟨y, rfl, ry⟩ := rep1 rl
    obtain ⟨rfl, hs⟩ := rep_str r
    obtain ⟨rfl, ht⟩ := rep_str ry
    exact mt_count pins s σ H _ _ v us Q I rx rs ⟨_, _, rfl, rfl, post_ret S mk_int q⟩
  · exact q.elim
theorem recv_ty (B : Bs X G) {w : Wd} {H : Hp} {d : D} {x : V} {b : Bm} (S : SR G w H) (r : Rep G w d x) (h : recvK b (vw w.m d) = true) : tyV X.K (bmT b) x H := by
  unfold recvK at h
  split at h
  · rename_i ds hv
    obtain ⟨a, vs, rfl, g, t⟩ := vw_lst S r hv
    exact .inl ⟨by unfold bmT; rw [if_pos h], vs, B.K ▸ g⟩
  · rename_i y hv
    obtain ⟨rfl, _⟩ := vw_str r hv
    show bmT b = "str"
    unfold bmT
    rw [if_neg (by simpa using h)]
  · cases h
/-- o.m(e, .., k = v, ..) -/
theorem e_meth (O : Ok X G P W (k + 1)) (hcalls : ∀ f, FnG G X.prog X.w X.mg X.base k (G.fadr f) (appF P f)) {o : Expr} {name : Str} {apos pos : Pos} {es : List Expr} {kws : List Keyword} {eo : Ex} {nm : Nat} {bm : Option Bm} {p : Bool} {es' ks' : List Ex} {kn : List Nat} (ho : PE X o (tE G W (den P eo)))
    (hx : G.fnm nm = name) (hb : ∀ b, bm = some b → bmNm b = name) (h1 : superForm o = false) (hs : es.all (fun e => !isStar e) = true) (hn : kws.all (fun k => k.arg.isSome) = true) (h4 : es.length + kws.length < 29) (h5 : (apos.endLine == pos.line) = true)
    (ha : PA X es (tL G W (denL P es'))) (h0 : es = [] → es' = []) (hkw : PK X kws (tL G W (denL P ks'))) (hl : ks'.length = kn.length) (hk0 : kn = [] → kws = [])
    (hnm : (backToKw pos (keywordEach kws X.env)).filterMap (·.1) = kn.map G.fnm) : PE X (.Call (.Attribute o name apos) es kws pos) (tE G W (den P (.meth eo nm bm p es' kn ks'))) := by
  refine ⟨fun pins s σ H Q I h => ?_⟩
  have h := tG.of_eq (g' := fun env m => (den P eo env m).bind fun d m1 => (ofO m1 (calleeD P m1 d nm bm kn)).bind fun cal m2 => (denL P es' env m2).bind fun ds m3 => (denL P ks' env m3).bind fun kds m4 => calD P cal d p ds kn kds m4) (fun env m => by rw [den]) h
  have h1' := tG.bindT (S := Rep G) (g := den P eo) (f := fun d env m1 => (ofO m1 (calleeD P m1 d nm bm kn)).bind fun cal m2 => (denL P es' env m2).bind fun ds m3 => (denL P ks' env m3).bind fun kds m4 => calD P cal d p ds kn kds m4) h
  refine PySem.W.methodCall_KW (thn (ho.run pins s σ H _ I h1') fun ov s1 ⟨x, H1, I1, rx, w, env, d, S, e, r, q⟩ => ?_) (methEval h1 hs hn h4 h5)
  cases hc : calleeD P w.m d nm bm kn with
  | none => rw [hc] at q; exact q.elim
  | some cal =>
    rw [hc] at q
    have q : Post G (Rep G) W σ w H1 Q ((denL P es' env w.m).bind fun ds m3 => (denL P ks' env m3).bind fun kds m4 => calD P cal d p ds kn kds m4) := q
    have hargs := args_call (G := G) (P := P) (W := W) (T := fun w c y => Rep G w c y ∧ c = d) (fun w w' c z e q => ⟨q.1.ext e, q.2⟩) hl (F := fun c ds kds m => calD P cal c p ds kn kds m) (z := x) (σ := σ) (H := H1) (Q := Q) ⟨w, env, d, S, e, ⟨r, rfl⟩, q⟩
    unfold calleeD at hc
    split at hc
    · rename_i c ns xs hv
      split at hc
      · rename_i f g1 g2
        cases hc
        obtain ⟨a, dx, fs, rfl, ea, en, t⟩ := vw_ins S r hv
        cases rx
        obtain ⟨hcl, hm⟩ := O.cls.meth c nm f g2
        rw [← O.B.K, hx] at hm
        rw [← O.B.K] at hcl
        have l : fs.lookup name = none := by
          rw [← hx]
          refine getF_none O.cls.inj en ?_ g1
          have := t.length
          rw [List.length_map] at this
          exact this
        refine getmeth_ok I1 ea hcl hm l ?_
        refine call_with (first := [.ref a]) I1.kIn hm.kp hs hn ha (fun z σ H Q h => by rw [h0 z] at h; exact tL_nil h) hkw hnm I1 ?_
        refine hargs.mono fun vs H2 h2 => h2.mono fun zs H3 h3 => ?_
        obtain ⟨w3, c3, ds, kds, S3, ⟨r1, rfl⟩, r2, r3, hl3, q3⟩ := h3
        intro us ws s2 I2 rv rz
        have hz : zs.length = kn.length := by rw [r3.length, hl3]
        obtain ⟨n1, n2⟩ := kw_names (G := G) (kn := kn) hz rz
        exact run_g (hcalls f) O.B.K (O.room.mono (Nat.le_succ k)) O.B.gd O.tk I2 (vs := .ref a :: vs) (.cons (show L2.RelV (.ref a) (Value.ref a) from rfl) rv) n1 (by rw [n2]; exact rz) ⟨w3, c3 :: ds, kds, S3, .cons r1 r2, r3, post_E q3⟩
      · cases hc
    · rename_i hni
      cases bm with
      | none => cases hc
      | some b =>
        dsimp only at hc
        split at hc
        · rename_i hr
          cases hc
          rw [Bool.and_eq_true] at hr
          have hkn : kn = [] := by simpa using hr.2
          have hkz := hk0 hkn
          subst hkz
          obtain ⟨t1, t2⟩ := tyV_is I1 rx (recv_ty O.B S r hr.1)
          have slot := bm_slot b
          rw [hb b rfl] at slot
          refine getMethod_builtin t1 (bm_plain b) slot (bm_type b) t2 ?_
          have fin : ∀ {us : List Value} {vs : List V} {s2 : Shared} {H2 : Hp}, Inv X pins σ H2 s2 → Vals vs us → (tL G W (denL P ks') σ H2 fun zs H3 => ∃ w c ds kds, SR G w H3 ∧ (Rep G w c x ∧ c = d) ∧ RepL G w ds vs ∧ RepL G w kds zs ∧ kds.length = kn.length ∧ Post G (Rep G) W σ w H3 Q (calD P (.inr b) c p ds kn kds w.m)) →
              wpAny (model X.prog X.w) X.A (call (.builtin (bmId b)) (ov :: us)) (EP X pins σ Q) X.xe s2 := fun {us vs s2 H2} I2 rv h3 => by
            have : ks' = [] := by
              rw [hkn] at hl
              exact List.eq_nil_of_length_eq_zero hl
            subst this
            obtain ⟨w3, c3, ds, kds, S3, ⟨r1, rfl⟩, r2, r3, hl3, q3⟩ := tL_nil h3
            exact bm_ok O.B b p pins s2 σ H2 x vs ov us Q I2 rx rv ⟨w3, c3, ds, S3, r1, r2, post_ne (fun x m z => bmD_ne z) q3⟩
          cases es with
          | nil =>
            rw [h0 rfl] at hargs
            exact Calls.callWith_builtin (first := [ov]) rfl (PySem.evalArgs_none (fin (us := []) I1 .nil (tL_nil hargs)))
          | cons e es =>
            rw [List.all_cons, Bool.and_eq_true] at hs
            have hsc := starCons (es := es) (env := X.env) (by simpa using hs.1)
            have hA := ha.run pos pins s1 σ H1 _ I1 hargs
            show wpAny _ _ (callWith pos (.builtin (bmId b)) [ov] (backTo pos (starEach (e :: es) X.env)) []) _ _ _
            rw [hsc] at hA ⊢
            refine Calls.callWith_builtin (by show (false || (backTo pos (starEach es X.env)).any (·.1)) = false; rw [noStarB hs.2]; rfl) (Calls.evalArgs_plain ?_)
            exact thn hA fun us s2 ⟨vs, H2, I2, rv, q2⟩ => fin I2 rv q2
        · cases hc
end
end DL

/-! DL13: what is walked -/
namespace DL
section
open PySem PyProof.Rows Builtin
open Sem (wp)
set_option maxHeartbeats 4000000 in
theorem meets_enum1 {v : Value} {o : Obj} {H : Heap → Prop} (B : Begins v o H) :
    Meets (Builtin.«enumerate.__new__» ⟨[.type "enumerate", v], []⟩) (fun _ R s => H s.heap ∧
      R (.ok (.ret (.ref (s.heap.push o).objs.size))) { s with heap := (s.heap.push o).push { cls := .type "enumerate", data := .fields #[.none, .bool false, .ref s.heap.objs.size, rawInt 0, .none, .none] } }) :=
  .of_wp fun prog w A R s h => by
    obtain ⟨hp, g, d, tk, os⟩ := s; obtain ⟨h1, h⟩ := h
    have hsub := sub_enumerate
    have q1 : ∀ {A' : Around} {E : Value → Shared → Prop} {Q : Value → Shared → Prop}, Q (.ref hp.objs.size) ⟨hp.push o, g, d, tk, os⟩ → wpAny (model prog w) A' (pyIter v) Q E ⟨hp, g, d, tk, os⟩ :=
      fun q => B.iter prog w _ _ ⟨hp, g, d, tk, os⟩ _ h1 q
    wp_walk using q1
    refine wpAny_stack_any fun st => wpAny_pure ?_
    split
    · rename_i c _ _ _ _ _
      cases (c == Value.type "enumerate")
      · wp_walk using q1
        exact ⟨_, rfl, h⟩
      · wp_walk using q1
        exact ⟨_, rfl, h⟩
    · wp_walk using q1
      exact ⟨_, rfl, h⟩
theorem enum1 {prog : Program} {w : World} {A : Around} {E : Value → Shared → Prop} {s : Shared} {v : Value} {o : Obj} {H : Heap → Prop} {Q : Value → Shared → Prop} (B : Begins v o H) (h1 : H s.heap)
    (h : ∀ h', IsEnum h' (s.heap.objs.size + 1) s.heap.objs.size 0 .none → h'.get? s.heap.objs.size = some o → h'.objs.size = s.heap.objs.size + 2 →
      (∀ b o, s.heap.get? b = some o → h'.get? b = some o) → Q (.ref (s.heap.objs.size + 1)) { s with heap := h' }) :
    wpAny (model prog w) A (call (.type "enumerate") [v]) Q E s := by
  refine callType_new F.called_enumerate (by decide) (F.typeCall_enumerate_1 _) (F.newCall_enumerate_1 _) (fun obj => F.args_object_init_2 obj _) F.entry_enumerate_new
    (meets_enum1 B) ⟨h1, ?_⟩
  have hz : (s.heap.push o).objs.size = s.heap.objs.size + 1 := Heap.size_push ..
  show _ ∧ _
  rw [hz]
  have he : IsEnum ((s.heap.push o).push { cls := .type "enumerate", data := .fields #[.none, .bool false, .ref s.heap.objs.size, rawInt 0, .none, .none] }) (s.heap.objs.size + 1) s.heap.objs.size 0 .none := by
    have := Heap.get?_push_size (s.heap.push o) (o := { cls := .type "enumerate", data := .fields #[.none, .bool false, .ref s.heap.objs.size, rawInt 0, .none, .none] }) rfl
    rw [hz] at this; exact this
  refine ⟨⟨_, he, rfl⟩, h _ he (Heap.get?_push_of_some _ (Heap.get?_push_size _ B.free)) (by rw [Heap.size_push, hz]) fun b o x => Heap.get?_push_of_some _ (Heap.get?_push_of_some _ x)⟩
end
open PySem PySem.Spec PyProof.Rows L2
/-- the tuple at a, each item in a new pair -/
def IteT (K : PySem.W.Frag) (a : Addr) : L2.It :=
  ⟨fun i H => ∃ (xs : List V) (x : V), SqT K H a xs ∧ xs[i]? = some x, fun i H v H' => ∃ T x, v = .ref T ∧ H T = none ∧ H' = upd H T (.tup [.int (i : Nat), x]) ∧ ∀ xs, SqT K H a xs → xs[i]? = some x, fun i H => ∃ xs : List V, SqT K H a xs ∧ xs.length ≤ i⟩
theorem turn_enumT {P : Program} {w : World} {K : PySem.W.Frag} {elts : List Expr} {kk : Nat} {tpos : Pos} (a e it : Addr) :
    Turn P w K (.Tuple elts kk tpos) (IteT K a) [e, it] e (fun i h => (∃ old, IsEnum h e it ((i : Nat) : Int) old) ∧ h.IsTupleIter it a i ∧ e ≠ it) where
  mem := by simp
  obj := fun i h st b hb => by
    obtain ⟨⟨old, he⟩, ⟨o, ho, hc, hd⟩, _⟩ := st
    have e' : b = e ∨ b = it := by simpa using hb
    rcases e' with z | z
    · rw [z]; exact ⟨_, he, fun v q => nomatch q⟩
    · rw [z]; exact ⟨o, ho, fun v q => by rw [hd] at q; cases q⟩
  keep := fun i h h' st k => let ⟨⟨old, he⟩, hi, hne⟩ := st; ⟨⟨old, k e (by simp) _ he⟩, hi.at fun o q => k it (by simp) o q, hne⟩
  item := by
    intro X hP hw hK hc i pins s σ H E I hf st hg
    subst hP hw hK
    obtain ⟨⟨old, he⟩, hit, hne⟩ := st
    obtain ⟨xs, x, hq, hx⟩ := hg
    obtain ⟨its, rv, p, hz⟩ := I.tuple hq
    obtain ⟨u, hu, ru⟩ := rv.get hx
    have hel : e < s.heap.objs.size := Heap.lt_size he
    have hil : it < s.heap.objs.size := by obtain ⟨_, q, _⟩ := hit; exact Heap.lt_size q
    have hal : s.heap.IsTuple a its.toArray := p
    have hai : a ≠ it := fun q => by
      subst q
      obtain ⟨o, e1, c1, _⟩ := hal
      obtain ⟨o2, e2, c2, _⟩ := hit
      rw [e1] at e2; cases e2
      rw [c1] at c2
      injection c2 with c2
      exact absurd c2 (by decide)
    have hae : a ≠ e := fun q => by
      subst q
      obtain ⟨o, e1, c1, _⟩ := hal
      have he' : s.heap.get? a = some { cls := .type "enumerate", dict := none, data := .fields #[.none, .bool false, .ref it, rawInt ((i : Nat) : Int), .none, old], slots := #[] } := he
      rw [e1] at he'; cases he'
      injection c1 with c1
      exact absurd c1 (by decide)
    have D := Draws.tuple (prog := X.prog) (w := X.w) (A := X.A.in1) (I.ok.hd hc) it a hai its.toArray
    have hlt : i < its.toArray.size := by
      have := (List.getElem?_eq_some_iff.mp hu).1
      simpa using this
    refine wpAny_pyNext_enum_itemD D he ⟨hit, hal⟩ hlt (Ne.symm (Ne.symm hne)) (by simp [hne, Ne.symm hae]) fun x' h' tk hx' ho hst' hT hsz hk => ?_
    have ex : x' = u := by
      have h1 : its.toArray[i]? = some x' := hx'
      have h2 : its.toArray[i]? = some u := by simpa using hu
      rw [h1] at h2; exact Option.some.inj h2
    subst ex
    refine ⟨_, rfl, wpAny_letOwnedTupleGo_enum (s := { s with heap := h', toks := tk + 1 }) ho fun h'' he' sb => ?_⟩
    have hT2 : h''.get? s.heap.objs.size = some { cls := .type "tuple", data := .seq #[.int i tk, x'] } := (sb.2 _ (Nat.ne_of_gt hel)).trans hT
    have new : ObjOk X.prog X.w (upd H s.heap.objs.size (.tup [.int (i : Nat), x])) h'' s.heap.objs.size (.tup [.int (i : Nat), x]) :=
      ⟨by show 2 ≤ sizeLine; decide, [.int i tk, x'], .cons ⟨_, rfl⟩ (.cons ru .nil), ⟨_, hT2, rfl, _, rfl⟩⟩
    have I1 : Inv X pins σ (upd H s.heap.objs.size (.tup [.int (i : Nat), x])) { s with heap := h'', toks := tk + 1 } :=
      I.turnedNew (ch := [e, it]) (fun b ob hb q => (sb.2 b (fun z => hb (by simp [z]))).trans (hk b ob (fun z => hb (by simp [z])) (fun z => hb (by simp [z])) q)) hf (Nat.le_refl _) new
    refine ⟨.ref s.heap.objs.size, _, I1, rfl, ⟨_, x, rfl, I.hok.fresh (Nat.le_refl _), rfl, fun ys hy => by rw [I.tuple_inj hy hq]; exact hx⟩, ⟨⟨x', ?_⟩, hst'.1.at fun o q => (sb.2 it (Ne.symm hne)).trans q, hne⟩, fun b hb => ?_⟩
    · have e1 : ((i + 1 : Nat) : Int) = (i : Int) + 1 := by omega
      rw [e1]; exact he'
    · have hb' : b < s.heap.objs.size := by
        have e' : b = e ∨ b = it := by simpa using hb
        rcases e' with z | z
        · rw [z]; exact hel
        · rw [z]; exact hil
      rw [upd_ne (Nat.ne_of_lt hb')]
      exact (hf b hb).1
  done := by
    intro X hP hw hK hc i pins s σ H E I hf st hg
    subst hP hw hK
    obtain ⟨⟨old, he⟩, hit, hne⟩ := st
    obtain ⟨xs, hq, hx⟩ := hg
    obtain ⟨its, rv, p, hz⟩ := I.tuple hq
    obtain ⟨f0, f1, f2, f3, f4, f5⟩ := hf it (by simp)
    have hl := rv.length
    have hal : s.heap.IsTuple a its.toArray := p
    have hit' := hit
    unfold pyNext
    refine wpAny_bind (wpAny_attempt (wpAny_callSpecial?_slot (name := Str.ofString "__next__") (show s.TypeIs (.ref e) "enumerate" from ⟨_, he, rfl⟩) F.slot_enumerate_next
      (wpAny_call_entry F.slot_enumerate_next ⟨_, he, rfl⟩ F.entry_enumerate_next ?_ (F.args_enumerate_next_1 _))))
    show wpAny _ _ (field (.ref e) 2 >>= _) _ _ _
    refine wpAny_bind (wpAny_field he rfl (x := .ref it) rfl ?_)
    refine wpAny_bind (wpAny_nextOf_tuple_end (I.ok.hd hc) hit hal (by simp; omega) fun h' x he' hx' => ?_)
    obtain ⟨o, ho, hcl⟩ := hx'
    refine wpAny_bind (wpAny_isInstance (T := "StopIteration") (b := true) ⟨o, ho, hcl⟩ isSubtype_stop ?_)
    exact wpAny_pure ⟨rfl, I.turned (t' := s.toks) (fun b o hb q => he' b o hb q) f0 f1 f3 f4 f5⟩
  self := fun A i s Q E st h => let ⟨⟨_, he⟩, _⟩ := st; wpAny_pyIter_enum he h
/-- what an iterator yields, at any later moment at which what is walked stands as it stood -/
def RIv (G : GT) (w : Wd) (v : IV) (J : L2.It) : Prop := ∀ w2 H2, Ext w w2 → SR G w2 H2 → v.still w2.m →
  (∀ i d, v.items[i]? = some d → J.go i H2 ∧ ∀ x H', J.yld i H2 x H' → ∃ w', w'.m = w2.m ∧ Stp w2 H2 w' H' ∧ SR G w' H' ∧ Rep G w' d x) ∧ J.stop v.items.length H2
theorem mono_iv (G : GT) : Mono (RIv G) := fun w w' v J e h w2 H2 e2 => h w2 H2 (e.trans e2)
theorem sqL_of {K : PySem.W.Frag} {H : Hp} {a : Addr} {xs : List V} (h : H a = some (.lst xs)) : SqL K H a xs := .inl (.inl h)
section
variable {X : Cx} {G : GT} {W : WX} {P : Prg} {k : Nat} {pins : List (Addr × Obj)} {σ : L2.St} {H : Hp} {s : Shared} {R : L2.It → Hp → Prop} {tg : Expr}
theorem it_list {E : Value → Shared → Prop} {a : Addr} {xs : List V} (I : Inv X pins σ H s) (hq : SqL X.K H a xs) (q : R (Itl X.K a) H) : wpAny (model X.prog X.w) X.A (pyIter (.ref a)) (PIE X pins σ tg R) E s := by
  obtain ⟨its, rv, p, hz⟩ := I.list hq
  refine wpAny_pyIter_list p.isList ?_
  refine ⟨s.heap.objs.size, [s.heap.objs.size], _, _, H, rfl, I.kept (t' := s.toks) fun b o e => Heap.get?_push_of_some _ e, turn_list a _, ⟨_, Heap.get?_push_size _ rfl, rfl, rfl⟩, fun b hb => ?_, q⟩
  have e : b = s.heap.objs.size := by simpa using hb
  subst e
  exact I.fpOk (Nat.le_refl _) (I.hok.fresh (Nat.le_refl _))
theorem it_tup {E : Value → Shared → Prop} {a : Addr} {xs : List V} (I : Inv X pins σ H s) (hq : SqT X.K H a xs) (q : R (Itt X.K a) H) : wpAny (model X.prog X.w) X.A (pyIter (.ref a)) (PIE X pins σ tg R) E s := by
  obtain ⟨its, rv, p, hz⟩ := I.tuple hq
  refine wpAny_pyIter_tuple (show s.heap.IsTuple a its.toArray from p) ?_
  refine ⟨s.heap.objs.size, [s.heap.objs.size], _, _, H, rfl, I.kept (t' := s.toks) fun b o e => Heap.get?_push_of_some _ e, turn_tuple a _, ⟨_, Heap.get?_push_size _ rfl, rfl, rfl⟩, fun b hb => ?_, q⟩
  have e : b = s.heap.objs.size := by simpa using hb
  subst e
  exact I.fpOk (Nat.le_refl _) (I.hok.fresh (Nat.le_refl _))
theorem it_str {E : Value → Shared → Prop} {x : Str} {t : Tok} (I : Inv X pins σ H s) (q : R (Its x) H) : wpAny (model X.prog X.w) X.A (pyIter (.str x t)) (PIE X pins σ tg R) E s := by
  cases ha : x.cps.all (· < 128)
  · exact wpAny_pyIter_wide ha (pi_one (tk := s.toks) I _ (turn_str _ x t "str_iterator" (.inr rfl)) ⟨_, Heap.get?_push_size _ rfl, rfl, rfl⟩ q)
  · exact wpAny_pyIter_ascii ha (pi_one (tk := s.toks) I _ (turn_str _ x t "str_ascii_iterator" (.inl rfl)) ⟨_, Heap.get?_push_size _ rfl, rfl, rfl⟩ q)
theorem iv_mut (hK : X.K = G.K) {w : Wd} {n : Nat} {ds : List D} (hn : n < w.m.length) : RIv G w (.mut n ds) (Itl X.K (w.r n)) := by
  intro w2 H2 e2 S2 st
  obtain ⟨xs, hH, t⟩ := S2.lv n _ st
  rw [e2.rho n hn] at hH
  refine ⟨fun i d hd => ?_, xs, sqL_of hH, by rw [t.length]; exact Nat.le_refl _⟩
  obtain ⟨x, hx, r⟩ := t.get hd
  refine ⟨⟨xs, x, sqL_of hH, hx⟩, fun y H' ⟨e, hy⟩ => ?_⟩
  subst e
  have := hy xs (sqL_of hH)
  rw [hx] at this
  cases this
  exact ⟨w2, rfl, .refl _ _, S2, r⟩
theorem iv_lst (hK : X.K = G.K) {w : Wd} {a : Addr} {ds : List D} {xs : List V} (hq : SqL G.K w.F a xs) (t : RepL G w ds xs) : RIv G w (.fix ds) (Itl X.K a) := by
  intro w2 H2 e2 S2 st
  have hq2 : SqL X.K H2 a xs := hK ▸ SqL.le S2.sub (SqL.le e2.sub hq)
  have t2 := t.ext e2
  refine ⟨fun i d hd => ?_, xs, hq2, by rw [t.length]; exact Nat.le_refl _⟩
  obtain ⟨x, hx, r⟩ := t2.get hd
  refine ⟨⟨xs, x, hq2, hx⟩, fun y H' ⟨e, hy⟩ => ?_⟩
  subst e
  have := hy xs hq2
  rw [hx] at this
  cases this
  exact ⟨w2, rfl, .refl _ _, S2, r⟩
theorem iv_tup (hK : X.K = G.K) {w : Wd} {a : Addr} {ds : List D} {xs : List V} (hq : SqT G.K w.F a xs) (t : RepL G w ds xs) : RIv G w (.fix ds) (Itt X.K a) := by
  intro w2 H2 e2 S2 st
  have hq2 : SqT X.K H2 a xs := hK ▸ SqT.le S2.sub (SqT.le e2.sub hq)
  have t2 := t.ext e2
  refine ⟨fun i d hd => ?_, xs, hq2, by rw [t.length]; exact Nat.le_refl _⟩
  obtain ⟨x, hx, r⟩ := t2.get hd
  refine ⟨⟨xs, x, hq2, hx⟩, fun y H' ⟨e, hy⟩ => ?_⟩
  subst e
  have := hy xs hq2
  rw [hx] at this
  cases this
  exact ⟨w2, rfl, .refl _ _, S2, r⟩
theorem iv_str {w : Wd} {x : Str} : RIv G w (.fix (x.cps.toList.map fun c => .str ⟨#[c]⟩)) (Its x) := by
  intro w2 H2 e2 S2 st
  refine ⟨fun i d hd => ?_, by show x.cps.size ≤ _; simp [IV.items]⟩
  have hd' : ((x.cps.toList.map fun c => D.str ⟨#[c]⟩))[i]? = some d := hd
  rw [List.getElem?_map] at hd'
  obtain ⟨c, hc, rfl⟩ := Option.map_eq_some_iff.mp hd'
  have hc' : x.cps[i]? = some c := by simpa using hc
  refine ⟨(Array.getElem?_eq_some_iff.mp hc').1, fun y H' ⟨e, c', h1, h2⟩ => ?_⟩
  subst e
  rw [hc'] at h1
  cases h1
  subst h2
  exact ⟨w2, rfl, .refl _ _, S2, mk_str (by show Str.length _ ≤ _; simp [Str.length]; decide)⟩
theorem iv_rng {w : Wd} {lo : Int} {n : Nat} : RIv G w (.fix (rngL lo n)) (Itr lo n) := by
  intro w2 H2 e2 S2 st
  refine ⟨fun i d hd => ?_, by show n ≤ (rngL lo n).length; simp [rngL]⟩
  have hd' : (rngL lo n)[i]? = some d := hd
  unfold rngL at hd'
  rw [List.getElem?_map] at hd'
  obtain ⟨c, hc, rfl⟩ := Option.map_eq_some_iff.mp hd'
  have hi : i < n := by
    have := (List.getElem?_eq_some_iff.mp hc).1
    simpa using this
  have hci : c = i := by
    rw [List.getElem?_range hi] at hc
    exact (Option.some.inj hc).symm
  subst hci
  refine ⟨hi, fun y H' ⟨e, h2⟩ => ?_⟩
  subst e h2
  exact ⟨w2, rfl, .refl _ _, S2, mk_int⟩
theorem i_seq (B : Bs X G) {e : Expr} {e' : Ex} (he : PE X e (tE G W (den P e'))) : PI X tg e (tG G (RIv G) W (denI P (.seq e'))) := by
  refine ⟨fun pins s σ H R I h => ?_⟩
  refine thn (he.run pins s σ H _ I (tG.bindT (S := Rep G) (g := den P e') (f := fun d _ m1 => ofO m1 (seqI m1 d)) (tG.of_eq (fun env m => by rw [denI]) h))) fun v s1 ⟨x, H1, I1, rx, w, env, d, S, e, r, p⟩ => ?_
  obtain ⟨iv, hiv, p⟩ := ofO_post p
  unfold seqI at hiv
  split at hiv
  · rename_i n
    split at hiv
    · rename_i ds hm
      cases hiv
      obtain ⟨hn, rfl⟩ := rep_loc r
      obtain ⟨xs, hH, t⟩ := S.lv n _ hm
      cases rx
      exact it_list I1 (sqL_of hH) (post_ret S (iv_mut B.K hn) p)
    · cases hiv
  · cases hiv
    obtain ⟨a, xs, rfl, g, t⟩ := rep_lst r
    cases rx
    exact it_list I1 (B.K ▸ SqL.le S.sub g) (post_ret S (iv_lst B.K g t) p)
  · cases hiv
    obtain ⟨a, xs, rfl, g, t⟩ := rep_tup r
    cases rx
    exact it_tup I1 (B.K ▸ SqT.le S.sub g) (post_ret S (iv_tup B.K g t) p)
  · cases hiv
    obtain ⟨rfl, _⟩ := rep_str r
    obtain ⟨t, rfl⟩ := rx
    exact it_str I1 (post_ret S iv_str p)
  · cases hiv
theorem b62_ok {i : Int} (h : b62 i = true) : -(2 ^ 62) ≤ i ∧ i < 2 ^ 62 := of_decide_eq_true h
theorem i_bad : PI X tg e (tG G (RIv G) W (denI P (.seq .bad))) := ⟨fun pins s σ H R I ⟨w, env, S, e, p⟩ => by unfold denI den at p; exact p.elim⟩
theorem i_range1 {a : Expr} {a' : Ex} {p pos : Pos} (hg : Gl X "range") (hm : X.mg "range" = none) (ha : PE X a (tE G W (den P a'))) (hs : isStar a = false) : PI X tg (.Call (.Name "range" p) [a] [] pos) (tG G (RIv G) W (denI P (.range1 a'))) := by
  refine ⟨fun pins s σ H R I h => (pi_range1 hg hm (pa_cons ha pa_nil (starCons hs)) (starCons hs)).run pins s σ H R I ?_⟩
  refine (tG.bindT (S := Rep G) (g := den P a') (f := fun d _ m1 => ofO m1 (rngI [d])) (tG.of_eq (fun env m => by rw [denI]) h)).mono fun x H1 ⟨w, env, d, S, e, r, q⟩ => ?_
  obtain ⟨iv, hiv, q⟩ := ofO_post q
  unfold rngI at hiv
  split at hiv
  · rename_i j he
    cases he
    split at hiv
    · rename_i hb
      cases hiv
      cases rep_int r
      exact ⟨_, rfl, (b62_ok hb).1, (b62_ok hb).2, post_ret S iv_rng q⟩
    · cases hiv
  · rename_i he; cases he
  · cases hiv
theorem i_range2 {a b : Expr} {a' b' : Ex} {p pos : Pos} (hg : Gl X "range") (hm : X.mg "range" = none) (ha : PE X a (tE G W (den P a'))) (hb : PE X b (tE G W (den P b'))) (hs : isStar a = false) (hs2 : isStar b = false) :
    PI X tg (.Call (.Name "range" p) [a, b] [] pos) (tG G (RIv G) W (denI P (.range2 a' b'))) := by
  refine ⟨fun pins s σ H R I h => (pi_range2 hg hm (pa_cons ha (pa_cons hb pa_nil (starCons hs2)) (starCons hs)) (by rw [starCons hs, starCons hs2]; rfl) (starCons hs2)).run pins s σ H R I ?_⟩
  refine (tG.two (mono_rep G) (T := Rep G) (ga := den P a') (gb := den P b') (f := fun d e _ m2 => ofO m2 (rngI [d, e])) (tG.of_eq (fun env m => by rw [denI]) h)).mono fun x H1 h1 => h1.mono fun y H2 ⟨w, env, d, e, S, _, r1, r2, q⟩ => ?_
  obtain ⟨iv, hiv, q⟩ := ofO_post q
  unfold rngI at hiv
  split at hiv
  · rename_i j he; cases he
  · rename_i i j he
    cases he
    split at hiv
    · rename_i hb
      rw [Bool.and_eq_true] at hb
      cases hiv
      cases rep_int r1
      cases rep_int r2
      exact ⟨_, _, rfl, ⟨(b62_ok hb.1).1, (b62_ok hb.1).2, (b62_ok hb.2).1, (b62_ok hb.2).2⟩, post_ret S iv_rng q⟩
    · cases hiv
  · cases hiv
theorem enumL_get : ∀ {ds : List D} {j i : Nat} {d : D}, (enumL j ds)[i]? = some d → ∃ e, ds[i]? = some e ∧ d = .tup [.int ((j + i : Nat) : Int), e]
  | [], j, i, d, h => by unfold enumL at h; simp at h
  | e :: ds, j, 0, d, h => by unfold enumL at h; simp at h; exact ⟨e, rfl, by simpa using h.symm⟩
  | e :: ds, j, i + 1, d, h => by
    unfold enumL at h
    obtain ⟨e', h1, h2⟩ := enumL_get (ds := ds) (j := j + 1) (i := i) (by simpa using h)
    refine ⟨e', by simpa using h1, ?_⟩
    rw [h2]
    have : j + 1 + i = j + (i + 1) := by omega
    rw [this]
theorem enumL_len : ∀ {ds : List D} {j : Nat}, (enumL j ds).length = ds.length
  | [], j => rfl
  | e :: ds, j => by unfold enumL; rw [List.length_cons, List.length_cons, enumL_len]
theorem rep_pair {w : Wd} {H : Hp} {d e : D} {x y : V} {T : Addr} (S : SR G w H) (hT : H T = none) (r1 : Rep G w d x) (r2 : Rep G w e y) : ∃ w', w'.m = w.m ∧ Stp w H w' (upd H T (.tup [x, y])) ∧ SR G w' (upd H T (.tup [x, y])) ∧ Rep G w' (.tup [d, e]) (.ref T) := by
  obtain ⟨S', ex⟩ := S.fz (o := .tup [x, y]) hT
  refine ⟨w.fz T (.tup [x, y]), rfl, Stp.fz S hT, S', mk_tup (xs := [x, y]) ?_ (.cons (r1.ext ex) (.cons (r2.ext ex) .nil))⟩
  show upd w.F T _ T = _
  rw [upd_same]
theorem iv_enumL (hK : X.K = G.K) {w : Wd} {a : Addr} {ds : List D} {xs : List V} (hq : SqL G.K w.F a xs) (t : RepL G w ds xs) : RIv G w (.fix (enumL 0 ds)) (Ite X.K a) := by
  intro w2 H2 e2 S2 st
  have hq2 : SqL X.K H2 a xs := hK ▸ SqL.le S2.sub (SqL.le e2.sub hq)
  have t2 := t.ext e2
  refine ⟨fun i d hd => ?_, xs, hq2, by show xs.length ≤ (enumL 0 ds).length; rw [t.length, enumL_len]; exact Nat.le_refl _⟩
  obtain ⟨e, he, rfl⟩ := enumL_get hd
  obtain ⟨x, hx, r⟩ := t2.get he
  refine ⟨⟨xs, x, hq2, hx⟩, fun y H' ⟨T, z, e1, hT, e3, hy⟩ => ?_⟩
  subst e1 e3
  have := hy xs hq2
  rw [hx] at this
  cases this
  have z := rep_pair S2 hT (mk_int (i := ((0 + i : Nat) : Int))) r
  rw [Nat.zero_add] at z ⊢
  exact z
theorem iv_enumT (hK : X.K = G.K) {w : Wd} {a : Addr} {ds : List D} {xs : List V} (hq : SqT G.K w.F a xs) (t : RepL G w ds xs) : RIv G w (.fix (enumL 0 ds)) (IteT X.K a) := by
  intro w2 H2 e2 S2 st
  have hq2 : SqT X.K H2 a xs := hK ▸ SqT.le S2.sub (SqT.le e2.sub hq)
  have t2 := t.ext e2
  refine ⟨fun i d hd => ?_, xs, hq2, by show xs.length ≤ (enumL 0 ds).length; rw [t.length, enumL_len]; exact Nat.le_refl _⟩
  obtain ⟨e, he, rfl⟩ := enumL_get hd
  obtain ⟨x, hx, r⟩ := t2.get he
  refine ⟨⟨xs, x, hq2, hx⟩, fun y H' ⟨T, z, e1, hT, e3, hy⟩ => ?_⟩
  subst e1 e3
  have := hy xs hq2
  rw [hx] at this
  cases this
  have z := rep_pair S2 hT (mk_int (i := ((0 + i : Nat) : Int))) r
  rw [Nat.zero_add] at z ⊢
  exact z
theorem iv_emut (hK : X.K = G.K) {w : Wd} {n : Nat} {ds : List D} (hn : n < w.m.length) : RIv G w (.emut n ds) (Ite X.K (w.r n)) := by
  intro w2 H2 e2 S2 st
  obtain ⟨xs, hH, t2⟩ := S2.lv n _ st
  rw [e2.rho n hn] at hH
  have hq2 : SqL X.K H2 (w.r n) xs := sqL_of hH
  refine ⟨fun i d hd => ?_, xs, hq2, by show xs.length ≤ (enumL 0 ds).length; rw [t2.length, enumL_len]; exact Nat.le_refl _⟩
  obtain ⟨e, he, rfl⟩ := enumL_get hd
  obtain ⟨x, hx, r⟩ := t2.get he
  refine ⟨⟨xs, x, hq2, hx⟩, fun y H' ⟨T, z, e1, hT, e3, hy⟩ => ?_⟩
  subst e1 e3
  have := hy xs hq2
  rw [hx] at this
  cases this
  have z := rep_pair S2 hT (mk_int (i := ((0 + i : Nat) : Int))) r
  rw [Nat.zero_add] at z ⊢
  exact z
theorem i_enum (B : Bs X G) {elts : List Expr} {kk : Nat} {tpos : Pos} {a : Expr} {a' : Ex} {p pos : Pos} (hg : Gl X "enumerate") (hm : X.mg "enumerate" = none) (ha : PE X a (tE G W (den P a'))) (hs : isStar a = false) :
    PI X (.Tuple elts kk tpos) (.Call (.Name "enumerate" p) [a] [] pos) (tG G (RIv G) W (denI P (.enum a'))) := by
  refine ⟨fun pins s σ H R I h => ?_⟩
  have hsa := starCons (es := []) (env := X.env) hs
  have h1 := tG.bindT (S := Rep G) (g := den P a') (f := fun d _ m1 => ofO m1 (enumI m1 d)) (tG.of_eq (fun env m => by rw [denI]) h)
  have h2 : tCons (tE G W (den P a')) tNil σ H fun vs H1 => ∃ x, vs = [x] ∧ ∃ w env c, SR G w H1 ∧ EnvR G w env σ ∧ Rep G w c x ∧ Post G (RIv G) W σ w H1 R (ofO w.m (enumI w.m c)) := h1.mono fun x H1 q => ⟨x, rfl, q⟩
  refine Call_ (ld_blt I hg hm boot_enumerate (PyProof.Rows.callWith_type1 (thn ((pa_cons ha pa_nil hsa).run pos pins s σ H _ I h2) fun us s1 ⟨vs, H1, I1, rv, x, ex, w, env, d, S, e, r, q⟩ => ?_) hsa rfl))
  subst ex
  obtain ⟨u, rfl, rx⟩ := vals1 rv
  obtain ⟨iv, hiv, q⟩ := ofO_post q
  unfold enumI at hiv
  split at hiv
  · rename_i n
    split at hiv
    · rename_i ds hm
      cases hiv
      obtain ⟨hn, rfl⟩ := rep_loc r
      obtain ⟨xs, hH, t⟩ := S.lv n _ hm
      cases rx
      obtain ⟨its, rv', p', hz⟩ := I1.list (sqL_of hH)
      refine call_enumerate_list p'.isList fun h' he hit hsz hk => wpAny_pyIter_enum he ?_
      have I2 : Inv X pins σ H1 { s1 with heap := h' } := I1.kept (t' := s1.toks) hk
      refine ⟨s1.heap.objs.size + 1, [s1.heap.objs.size + 1, s1.heap.objs.size], _, _, H1, rfl, I2, turn_enum (w.r n) (s1.heap.objs.size + 1) s1.heap.objs.size, ⟨⟨.none, he⟩, hit, Nat.succ_ne_self _⟩, fun b hb => ?_, post_ret S (iv_emut B.K hn) q⟩
      have e' : b = s1.heap.objs.size + 1 ∨ b = s1.heap.objs.size := by simpa using hb
      have hle : s1.heap.objs.size ≤ b := by
        rcases e' with z | z
        · rw [z]; exact Nat.le_add_right _ _
        · rw [z]; exact Nat.le_refl _
      exact I1.fpOk hle (I1.hok.fresh hle)
    · cases hiv
  · cases hiv
    obtain ⟨a, xs, rfl, g, t⟩ := rep_lst r
    cases rx
    have hq : SqL X.K H1 a xs := B.K ▸ SqL.le S.sub g
    obtain ⟨its, rv', p', hz⟩ := I1.list hq
    refine call_enumerate_list p'.isList fun h' he hit hsz hk => wpAny_pyIter_enum he ?_
    have I2 : Inv X pins σ H1 { s1 with heap := h' } := I1.kept (t' := s1.toks) hk
    refine ⟨s1.heap.objs.size + 1, [s1.heap.objs.size + 1, s1.heap.objs.size], _, _, H1, rfl, I2, turn_enum a (s1.heap.objs.size + 1) s1.heap.objs.size, ⟨⟨.none, he⟩, hit, Nat.succ_ne_self _⟩, fun b hb => ?_, post_ret S (iv_enumL B.K g t) q⟩
    have e' : b = s1.heap.objs.size + 1 ∨ b = s1.heap.objs.size := by simpa using hb
    have hle : s1.heap.objs.size ≤ b := by
      rcases e' with z | z
      · rw [z]; exact Nat.le_add_right _ _
      · rw [z]; exact Nat.le_refl _
    exact I1.fpOk hle (I1.hok.fresh hle)
  · cases hiv
    obtain ⟨a, xs, rfl, g, t⟩ := rep_tup r
    cases rx
    have hq : SqT X.K H1 a xs := B.K ▸ SqT.le S.sub g
    obtain ⟨its, rv', p', hz⟩ := I1.tuple hq
    have ht : s1.heap.IsTuple a its.toArray := p'
    refine enum1 (begins_tuple a its.toArray) ht fun h' he hit hsz hk => wpAny_pyIter_enum he ?_
    have I2 : Inv X pins σ H1 { s1 with heap := h' } := I1.kept (t' := s1.toks) hk
    refine ⟨s1.heap.objs.size + 1, [s1.heap.objs.size + 1, s1.heap.objs.size], _, _, H1, rfl, I2, turn_enumT a (s1.heap.objs.size + 1) s1.heap.objs.size, ⟨⟨.none, he⟩, ⟨_, hit, rfl, rfl⟩, Nat.succ_ne_self _⟩, fun b hb => ?_, post_ret S (iv_enumT B.K g t) q⟩
    have e' : b = s1.heap.objs.size + 1 ∨ b = s1.heap.objs.size := by simpa using hb
    have hle : s1.heap.objs.size ≤ b := by
      rcases e' with z | z
      · rw [z]; exact Nat.le_add_right _ _
      · rw [z]; exact Nat.le_refl _
    exact I1.fpOk hle (I1.hok.fresh hle)
  · cases hiv
theorem zip_get {xs ys : List D} {i : Nat} {d : D} (h : (List.zipWith (fun x y => D.tup [x, y]) xs ys)[i]? = some d) : ∃ a b, xs[i]? = some a ∧ ys[i]? = some b ∧ d = .tup [a, b] := by
  rw [List.getElem?_zipWith] at h
  split at h
  · rename_i a b h1 h2
    exact ⟨a, b, h1, h2, (Option.some.inj h).symm⟩
  · cases h
theorem i_zip (B : Bs X G) {elts : List Expr} {kk : Nat} {tpos : Pos} {a b : Expr} {a' b' : Ex} {p pos : Pos} (hg : Gl X "zip") (hm : X.mg "zip" = none) (ha : PE X a (tE G W (den P a'))) (hb : PE X b (tE G W (den P b'))) (hs : isStar a = false) (hs2 : isStar b = false) :
    PI X (.Tuple elts kk tpos) (.Call (.Name "zip" p) [a, b] [] pos) (tG G (RIv G) W (denI P (.zip a' b'))) := by
  refine ⟨fun pins s σ H R I h => (RZ.pi_zipA hg hm (pa_cons ha (pa_cons hb pa_nil (starCons hs2)) (starCons hs)) (starCons hs) (by rw [starCons hs2]; rfl)).run pins s σ H R I ?_⟩
  refine (tG.two (mono_rep G) (T := Rep G) (ga := den P a') (gb := den P b') (f := fun d e _ m2 => ofO m2 (zipI d e)) (tG.of_eq (fun env m => by rw [denI]) h)).mono fun x H1 h1 => h1.mono fun y H2 ⟨w, env, d, e, S, _, r1, r2, q⟩ => ?_
  obtain ⟨iv, hiv, q⟩ := ofO_post q
  unfold zipI at hiv
  split at hiv
  · rename_i ds es
    cases hiv
    obtain ⟨l1, xs, rfl, g1, t1⟩ := rep_lst r1
    obtain ⟨l2, ys, rfl, g2, t2⟩ := rep_lst r2
    refine ⟨l1, l2, xs, ys, rfl, .inl ⟨B.K ▸ SqL.le S.sub g1, B.K ▸ SqL.le S.sub g2, post_ret S ?_ q⟩⟩
    intro w2 H3 e2 S2 st
    have q1 : SqL X.K H3 l1 xs := B.K ▸ SqL.le S2.sub (SqL.le e2.sub g1)
    have q2 : SqL X.K H3 l2 ys := B.K ▸ SqL.le S2.sub (SqL.le e2.sub g2)
    have t1 := t1.ext e2
    have t2 := t2.ext e2
    refine ⟨fun i d hd => ?_, xs, ys, q1, q2, by show _ ≤ (List.zipWith _ ds es).length ∨ _ ≤ (List.zipWith _ ds es).length; rw [List.length_zipWith, t1.length, t2.length]; omega⟩
    obtain ⟨a, b, h1, h2, rfl⟩ := zip_get hd
    obtain ⟨x, hx, rx⟩ := t1.get h1
    obtain ⟨y, hy, ry⟩ := t2.get h2
    refine ⟨⟨xs, ys, x, y, q1, q2, hx, hy⟩, fun v H' ⟨T, x', y', e1, hT, e3, h1, h2⟩ => ?_⟩
    subst e1 e3
    have := h1 xs q1; rw [hx] at this; cases this
    have := h2 ys q2; rw [hy] at this; cases this
    exact rep_pair S2 hT rx ry
  · rename_i ds es
    cases hiv
    obtain ⟨l1, xs, rfl, g1, t1⟩ := rep_tup r1
    obtain ⟨l2, ys, rfl, g2, t2⟩ := rep_tup r2
    refine ⟨l1, l2, xs, ys, rfl, .inr ⟨B.K ▸ SqT.le S.sub g1, B.K ▸ SqT.le S.sub g2, post_ret S ?_ q⟩⟩
    intro w2 H3 e2 S2 st
    have q1 : SqT X.K H3 l1 xs := B.K ▸ SqT.le S2.sub (SqT.le e2.sub g1)
    have q2 : SqT X.K H3 l2 ys := B.K ▸ SqT.le S2.sub (SqT.le e2.sub g2)
    have t1 := t1.ext e2
    have t2 := t2.ext e2
    refine ⟨fun i d hd => ?_, xs, ys, q1, q2, by show _ ≤ (List.zipWith _ ds es).length ∨ _ ≤ (List.zipWith _ ds es).length; rw [List.length_zipWith, t1.length, t2.length]; omega⟩
    obtain ⟨a, b, h1, h2, rfl⟩ := zip_get hd
    obtain ⟨x, hx, rx⟩ := t1.get h1
    obtain ⟨y, hy, ry⟩ := t2.get h2
    refine ⟨⟨xs, ys, x, y, q1, q2, hx, hy⟩, fun v H' ⟨T, x', y', e1, hT, e3, h1, h2⟩ => ?_⟩
    subst e1 e3
    have := h1 xs q1; rw [hx] at this; cases this
    have := h2 ys q2; rw [hy] at this; cases this
    exact rep_pair S2 hT rx ry
  · cases hiv
end
end DL

/-! DL14: targets, comprehensions -/
namespace DL
open PySem PySem.Spec PyProof.Rows L2

theorem lst_nt {xs : List V} : ∀ ys, HO.lst xs ≠ .tup ys := fun _ z => by cases z
mutual
/-- the slots that a target writes -/
def slT : Tg → List Nat
  | .name i => [i]
  | .tup ts => slTs ts
  | _ => []
def slTs : List Tg → List Nat
  | [] => []
  | t :: ts => slT t ++ slTs ts
end
/-- a state that differs from another one in some slots alone -/
def Off (is : List Nat) (σ σ' : L2.St) : Prop := ∀ vs : List Nat, (∀ i ∈ is, i ∈ vs) → wipe σ' vs = wipe σ vs
theorem Off.refl (is : List Nat) (σ : L2.St) : Off is σ σ := fun _ _ => rfl
theorem Off.trans {is js : List Nat} {σ σ1 σ2 : L2.St} (h : Off is σ σ1) (g : Off js σ1 σ2) : Off (is ++ js) σ σ2 := fun vs q =>
  (g vs fun i hi => q i (List.mem_append_right _ hi)).trans (h vs fun i hi => q i (List.mem_append_left _ hi))
theorem wipe_get {σ : L2.St} {j : Nat} : ∀ {vs : List Nat}, (wipe σ vs)[j]? = if j ∈ vs ∧ j < σ.length then some none else σ[j]?
  | [] => by simp [wipe]
  | v :: vs => by
    unfold wipe
    have l := wipe_length σ vs
    by_cases hv : v = j
    · subst hv
      by_cases hl : v < σ.length
      · rw [List.getElem?_set_self (by omega), if_pos ⟨List.mem_cons_self, hl⟩]
      · rw [List.getElem?_eq_none (by rw [List.length_set]; omega), if_neg (fun q => hl q.2), List.getElem?_eq_none (by omega)]
    · rw [List.getElem?_set_ne hv, wipe_get]
      have e : (j ∈ v :: vs) ↔ j ∈ vs := by simp [List.mem_cons, Ne.symm hv]
      simp only [e]
theorem Off.set {σ : L2.St} {i : Nat} {x : Option V} : Off [i] σ (σ.set i x) := fun vs h => by
  have hi : i ∈ vs := h i (by simp)
  apply List.ext_getElem?
  intro j
  rw [wipe_get, wipe_get, List.length_set]
  by_cases hj : j ∈ vs ∧ j < σ.length
  · rw [if_pos hj, if_pos hj]
  · rw [if_neg hj, if_neg hj]
    by_cases e : i = j
    · subst e
      have hl : ¬ i < σ.length := fun l => hj ⟨hi, l⟩
      rw [List.getElem?_eq_none (by rw [List.length_set]; omega), List.getElem?_eq_none (by omega)]
    · rw [List.getElem?_set_ne e]
def PostT (G : GT) (is : List Nat) (σ : L2.St) (w : Wd) (H : Hp) (Q : L2.St → Hp → Prop) : Res En → Prop
  | .ok env' m' => ∀ σ' H' w', w'.m = m' → Stp w H w' H' → SR G w' H' → EnvR G w' env' σ' → Off is σ σ' → Q σ' H'
  | _ => False
theorem PostT.mono {G : GT} {is : List Nat} {σ : L2.St} {w : Wd} {H : Hp} {Q Q' : L2.St → Hp → Prop} {r : Res En} (h : PostT G is σ w H Q r) (hq : ∀ σ H, Q σ H → Q' σ H) : PostT G is σ w H Q' r := by
  cases r with
  | ok e m => exact fun σ' H' w' a b c d o => hq _ _ (h σ' H' w' a b c d o)
  | err x m => exact h
  | bad => exact h
/-- a target's reading -/
def gT (G : GT) (P : Prg) (t : Tg) : TG := fun v σ H Q => ∃ w env d, SR G w H ∧ EnvR G w env σ ∧ Rep G w d v ∧ PostT G (slT t) σ w H Q (denT P t d env w.m)
def gTs (G : GT) (P : Prg) (ts : List Tg) : TGs := fun vs σ H Q => ∃ w env ds, SR G w H ∧ EnvR G w env σ ∧ RepL G w ds vs ∧ PostT G (slTs ts) σ w H Q (denTs P ts ds env w.m)
theorem _root_.L2.PG.imp {X : Cx} {e : Expr} {t t' : TG} (h : PG X e t) (i : ∀ v σ H Q, t' v σ H Q → t v σ H Q) : PG X e t' := ⟨fun pins s σ H v u Q I r hw => h.run pins s σ H v u Q I r (i v σ H Q hw)⟩
theorem _root_.L2.PGs.imp {X : Cx} {es : List Expr} {t t' : TGs} (h : PGs X es t) (i : ∀ v σ H Q, t' v σ H Q → t v σ H Q) : PGs X es t' := ⟨fun pins s σ H v u Q I r hw => h.run pins s σ H v u Q I r (i v σ H Q hw)⟩
theorem _root_.L2.PG.or {X : Cx} {e : Expr} {t t' : TG} (h : PG X e t) (g : PG X e t') : PG X e fun v σ H Q => t v σ H Q ∨ t' v σ H Q := ⟨fun pins s σ H v u Q I r hw => hw.elim (h.run pins s σ H v u Q I r) (g.run pins s σ H v u Q I r)⟩
/-- from an evaluation in a target -/
theorem post_T {α β : Type} {G : GT} {R : Wd → α → β → Prop} {W : WX} {is : List Nat} {σ : L2.St} {w : Wd} {H : Hp} {Q : L2.St → Hp → Prop} {r : Res α} {k : α → Me → Res En} (h : PostT G is σ w H Q (r.bind k)) :
    Post G R W σ w H (fun b H1 => ∃ w1 a, SR G w1 H1 ∧ R w1 a b ∧ Ext w w1 ∧ PostT G is σ w1 H1 Q (k a w1.m)) r := by
  cases r with
  | bad => exact h
  | err x m => exact h.elim
  | ok a m =>
    intro b H' w' em st S' r
    subst em
    refine ⟨w', a, S', r, st.ext, ?_⟩
    have h : PostT G is σ w H Q (k a w'.m) := h
    cases q : k a w'.m with
    | ok e m2 =>
      rw [q] at h
      exact fun σ' H2 w2 a b c d o => h σ' H2 w2 a (st.trans b) c d o
    | err x m => rw [q] at h; exact h
    | bad => rw [q] at h; exact h
section
variable {X : Cx} {G : GT} {W : WX} {P : Prg} {k : Nat}
theorem g_bad {e : Expr} : PG X e (gT G P .bad) := ⟨fun pins s σ H v u Q I r ⟨w, env, d, S, e, rd, p⟩ => by unfold denT at p; exact p.elim⟩
theorem g_name {i : Nat} {x : Str} {pos : Pos} (hN : X.N.Nodup) (hi : X.N[i]? = some x) (hx : Loc X.env.scope x) (hf : X.fn x = true ∨ X.env.scope.names.lookup x = some .local) : PG X (.Name x pos) (gT G P (.name i)) :=
  (pg_name hN hi hx hf).imp fun v σ H Q ⟨w, env, d, S, e, rd, p⟩ => by
    unfold denT at p
    exact p _ H w rfl (.refl w H) S (e.set i rd) Off.set
theorem g_fld (O : Ok X G P W k) {o : Expr} {eo : Ex} {f : Nat} {x : Str} {pos : Pos} (ho : PE X o (tE G W (den P eo))) (hx : G.fnm f = x) : PG X (.Attribute o x pos) (gT G P (.fld eo f)) := by
  refine ⟨fun pins s σ H v u Q I r ⟨w, env, d, S, e, rd, p⟩ => ?_⟩
  rw [denT] at p
  rw [assign_Attribute]
  refine wpAny_bind (wpAny_holding (thn (ho.run pins s σ H _ I ⟨w, env, S, e, post_T p⟩) fun ov s1 ⟨y, H1, I1, ry, w1, c, S1, rc, ex, p1⟩ => ?_))
  split at p1
  · rename_i n
    split at p1
    · rename_i cc ns xs hm
      split at p1
      · rename_i ha
        split at p1
        · rename_i hz
          obtain ⟨hn, rfl⟩ := rep_loc rc
          obtain ⟨dx, fs, eH, en, t⟩ := S1.lv n _ hm
          cases ry
          obtain ⟨hc, hno⟩ := O.cls.no _ _ ha
          rw [hx] at hno
          rw [← O.B.K] at hc hno
          have rd1 := rd.ext ex
          have hl : fs.length < 1000 := by
            have := t.length
            rw [List.length_map] at this
            omega
          refine wpAny_bind (wpAny_standAt (wpAny_bind (wpAny_holding (setattr_ok I1 eH hc hno hl r fun s2 I2 => wpAny_release ⟨σ, _, I2, ?_⟩))))
          have put : ∀ {ns : List Nat} {xs : List D} {fs : List (Str × V)}, fs.map (·.1) = ns.map G.fnm → RepL G w1 xs (fs.map (·.2)) → (putF x v fs).map (·.1) = (putN f ns).map G.fnm ∧ RepL G w1 (putX f d ns xs) ((putF x v fs).map (·.2)) := by
            intro ns
            induction ns with
            | nil =>
              intro xs fs en t
              have : fs = [] := by simpa using en
              subst this
              exact ⟨by simp [putF, putN, hx], by unfold putX; exact .cons rd1 .nil⟩
            | cons n ns ih =>
              intro xs fs en t
              cases fs with
              | nil => simp at en
              | cons q fs =>
                obtain ⟨y, z⟩ := q
                rw [List.map_cons, List.map_cons] at en
                obtain ⟨e1, e2⟩ := List.cons.inj en
                cases xs with
                | nil => have := RepCL.length t; simp at this
                | cons a xs =>
                  rw [List.map_cons] at t
                  obtain ⟨u1, us, e3, r1, r2⟩ := RepCL.cons_inv t
                  obtain ⟨e4, e5⟩ := List.cons.inj e3
                  have e1' : y = G.fnm n := e1
                  have e4' : z = u1 := e4
                  subst e1' e4'
                  rw [← e5] at r2
                  by_cases hnf : n = f
                  · subst hnf
                    have hyx : G.fnm n = x := hx
                    simp only [putF, putN, putX, hyx, if_true]
                    refine ⟨by simp [e2, hyx], ?_⟩
                    simp only [List.map_cons]
                    exact .cons rd1 r2
                  · have hne : ¬ G.fnm n = x := fun q => hnf (O.cls.inj _ _ (q.trans hx.symm))
                    obtain ⟨i1, i2⟩ := ih e2 r2
                    simp only [putF, putN, putX, if_neg hnf, if_neg hne]
                    simp only [List.map_cons]
                    exact ⟨by rw [i1], .cons r1 i2⟩
          obtain ⟨q1, q2⟩ := put en t
          have hr : MRep G (w1.wr n (.ins cc (putN f ns) (putX f d ns xs))) (upd H1 (w1.r n) (.ins (G.cadr cc) dx (putF x v fs))) (w1.r n) (.ins cc (putN f ns) (putX f d ns xs)) :=
            ⟨dx, _, upd_same, q1, q2.ext (Ext.wr w1 n _)⟩
          exact p1 σ _ (w1.wr n _) rfl (Stp.wr S1 hm rfl) (S1.wr hm rfl hr) ((e.ext ex).ext (Ext.wr w1 n _)) (Off.refl _ _)
        · exact p1.elim
      · exact p1.elim
    · exact p1.elim
  · exact p1.elim
theorem g_sub (B : Bs X G) {o i : Expr} {eo ei : Ex} {pos : Pos} (ho : PE X o (tE G W (den P eo))) (hi : PE X i (tE G W (den P ei))) (hs : isSlice i = false) : PG X (.Subscript o i pos) (gT G P (.sub eo ei)) := by
  refine (pg_sub ho hi set_list (fun v => by cases i <;> first | rfl | cases hs)).imp fun v σ H Q ⟨w, env, d, S, e, rd, p⟩ => ?_
  rw [denT] at p
  refine ⟨w, env, S, e, (post_T (G := G) (R := Rep G) (W := W) p).mono fun x H1 ⟨w1, c, S1, rc, ex, p1⟩ => ?_⟩
  refine ⟨w1, env, S1, e.ext ex, (post_T (G := G) (R := Rep G) (W := W) p1).mono fun y H2 ⟨w2, j, S2, rj, ex2, p2⟩ => ?_⟩
  split at p2
  · rename_i n j _
    split at p2
    · rename_i xs hm
      split at p2
      · rename_i k' hk
        obtain ⟨hn, rfl⟩ := rep_loc (rc.ext ex2)
        cases rep_int rj
        obtain ⟨vs, hH, t⟩ := S2.lv n _ hm
        have rd2 := (rd.ext ex).ext ex2
        refine ⟨_, vs, j, k', rfl, rfl, hH, by rw [t.length]; exact hk, ?_⟩
        have hr : MRep G (w2.wr n (.lst (xs.set k' d))) (upd H2 (w2.r n) (.lst (vs.set k' v))) (w2.r n) (.lst (xs.set k' d)) := ⟨_, upd_same, RepL.ext (t.set k' rd2) (Ext.wr w2 n _)⟩
        exact p2 σ _ (w2.wr n _) rfl (Stp.wr S2 hm rfl) (S2.wr hm rfl hr) (((e.ext ex).ext ex2).ext (Ext.wr w2 n _)) (Off.refl _ _)
      · exact p2.elim
    · exact p2.elim
  · exact p2.elim
theorem ae_cons {e : Expr} {es : List Expr} {env : Env} (h : isStar e = false) : assignEach (e :: es) env = (false, assign e env) :: assignEach es env := by
  cases e <;> first | rfl | cases h
theorem ae_len : ∀ {es : List Expr} {env : Env}, es.all (fun e => !isStar e) = true → (assignEach es env).length = es.length ∧ (assignEach es env).findIdx? (·.1) = none
  | [], _, _ => ⟨rfl, rfl⟩
  | e :: es, env, h => by
    rw [List.all_cons, Bool.and_eq_true] at h
    rw [ae_cons (by simpa using h.1)]
    obtain ⟨h1, h2⟩ := ae_len (env := env) h.2
    refine ⟨by rw [List.length_cons, List.length_cons, h1], ?_⟩
    rw [List.findIdx?_cons, h2]; rfl
theorem gs_nil : PGs X [] (gTs G P []) := pgs_nil.imp fun vs σ H Q ⟨w, env, ds, S, e, rd, p⟩ => by
  cases ds with
  | nil =>
    rw [denTs] at p
    exact ⟨RepCL.nil_inv rd, p σ H w rfl (.refl w H) S e (Off.refl _ _)⟩
  | cons d ds => rw [denTs] at p <;> first | exact p.elim | (intros; simp)
theorem gs_cons {e : Expr} {es : List Expr} {t : Tg} {ts : List Tg} (h1 : PG X e (gT G P t)) (h2 : PGs X es (gTs G P ts)) (hs : isStar e = false) : PGs X (e :: es) (gTs G P (t :: ts)) :=
  (pgs_cons h1 h2 (by rw [ae_cons hs]; rfl)).imp fun vs σ H Q ⟨w, env, ds, S, e, rd, p⟩ => by
    cases ds with
    | nil => rw [denTs] at p <;> first | exact p.elim | (intros; simp)
    | cons d ds =>
      rw [denTs] at p
      obtain ⟨v, r, rfl, rv, rr⟩ := RepCL.cons_inv rd
      refine ⟨v, r, rfl, w, env, d, S, e, rv, ?_⟩
      cases q : denT P t d env w.m with
      | bad => rw [q] at p; exact p
      | err x m => rw [q] at p; exact p
      | ok env' m' =>
        rw [q, Res.bind_ok] at p
        intro σ' H' w' em st S' e' o
        subst em
        refine ⟨w', env', ds, S', e', RepL.ext rr st.ext, ?_⟩
        cases q2 : denTs P ts ds env' w'.m with
        | bad => rw [q2] at p; exact p
        | err x m => rw [q2] at p; exact p
        | ok env2 m2 =>
          rw [q2] at p
          intro σ2 H2 w2 em2 st2 S2 e2 o2
          refine p σ2 H2 w2 em2 (st.trans st2) S2 e2 ?_
          unfold slTs
          exact o.trans o2
theorem denTs_len : ∀ {ts : List Tg} {ds : List D} {env env' : En} {m m' : Me}, denTs P ts ds env m = .ok env' m' → ts.length = ds.length
  | [], [], _, _, _, _, _ => rfl
  | [], d :: ds, _, _, _, _, h => by rw [denTs] at h <;> first | cases h | (intros; simp)
  | t :: ts, [], _, _, _, _, h => by rw [denTs] at h <;> first | cases h | (intros; simp)
  | t :: ts, d :: ds, env, env', m, m', h => by
    rw [denTs] at h
    cases q : denT P t d env m with
    | bad => rw [q] at h; cases h
    | err x m => rw [q] at h; cases h
    | ok e1 m1 =>
      rw [q, Res.bind_ok] at h
      rw [List.length_cons, List.length_cons, denTs_len h]
theorem g_tup (B : Bs X G) {es : List Expr} {ts : List Tg} {kk : Nat} {pos : Pos} (h : PGs X es (gTs G P ts)) (hs : es.all (fun e => !isStar e) = true) (hl : es.length = ts.length) : PG X (.Tuple es kk pos) (gT G P (.tup ts)) := by
  obtain ⟨a1, a2⟩ := ae_len (env := X.env) hs
  refine ((pg_tup (n := ts.length) B.calm h (by rw [a1, hl]) a2).or (pg_lst (n := ts.length) B.calm h (by rw [a1, hl]) a2)).imp fun v σ H Q ⟨w, env, d, S, e, rd, p⟩ => ?_
  rw [denT] at p
  split at p
  · rename_i xs hv
    split at p
    · rename_i hxl
      obtain ⟨a, vs, rfl, g, t⟩ := vw_lst S rd hv
      exact .inr ⟨a, vs, rfl, B.K ▸ g, by rw [t.length, hxl], w, env, xs, S, e, t, by unfold slT at p; exact p⟩
    · exact p.elim
  · rename_i xs hv
    split at p
    · rename_i hxl
      obtain ⟨a, vs, rfl, g, t⟩ := vw_tup S rd hv
      exact .inl ⟨a, vs, rfl, B.K ▸ g, by rw [t.length, hxl], w, env, xs, S, e, t, by unfold slT at p; exact p⟩
    · exact p.elim
  · exact p.elim
/-! ### comprehensions -/
theorem EnvR.wipe {w : Wd} {env : En} {σ : L2.St} (h : EnvR G w env σ) : ∀ vs : List Nat, EnvR G w (wipeE env vs) (wipe σ vs)
  | [] => h
  | v :: vs => by
    have ih := EnvR.wipe h vs
    unfold wipeE L2.wipe
    refine ⟨by rw [List.length_set, List.length_set, ih.len], fun j e q => ?_⟩
    by_cases hj : v = j
    · subst hj
      by_cases hl : v < (wipeE env vs).length
      · rw [List.getElem?_set_self hl] at q; cases q
      · rw [List.getElem?_eq_none (by simpa using hl)] at q; cases q
    · rw [List.getElem?_set_ne hj] at q ⊢
      exact ih.get j e q
/-- a turn of a comprehension -/
noncomputable def turnD (P : Prg) (t : Tg) (ifs : List Cn) (elt : Ex) (env0 : En) (d : D) (m : Me) : Res (Option D) :=
  (denT P t d env0 m).bind fun env' m3 => (denCs P ifs env' m3).bind fun k m4 => if k then (den P elt env' m4).bind fun y m5 => .ok (some y) m5 else .ok none m4
theorem den_lc {p : Bool} {elt : Ex} {t : Tg} {it : It} {ifs : List Cn} {own : List Nat} {env : En} {m : Me} :
    den P (.lc p elt t it ifs own) env m = (denI P it env m).bind fun v m1 => (lcGo v (turnD P t ifs elt (wipeE env own)) [] v.items m1).bind fun ys m6 => newL p ys m6 := by
  rw [den]
  rfl
theorem Stp.upd {w0 w : Wd} {H0 H : Hp} {D : Addr} {o : HO} (h : Stp w0 H0 w H) (hD : H0 D = none) : Stp w0 H0 w (upd H D o) :=
  ⟨h.ext, fun a u nt e q => by
    obtain ⟨e1, q1⟩ := h.oth a u nt e q
    exact ⟨by rw [upd_ne (ne_of_none e hD)]; exact e1, q1⟩⟩
/-- an other object is written -/
theorem SR.updO {w : Wd} {H : Hp} {D : Addr} {o : HO} (S : SR G w H) (q : Oth w D) : SR G w (upd H D o) :=
  ⟨fun a u e => by
    rw [upd_ne (ne_of_none e q.1)]
    exact S.sub a u e, fun n u e => (S.lv n u e).heap fun l => upd_ne (q.2 n u e l), S.out, S.inj⟩
theorem post_lc {σ : L2.St} {w0 w : Wd} {H0 H : Hp} {D : Addr} {p : Bool} {acc : List DL.D} {xs : List V} {Q : VK} (S : SR G w H) (st : Stp w0 H0 w H) (hD0 : H0 D = none) (hD : H D = some (.lst xs)) (q : Oth w D) (t : RepL G w acc xs)
    (h : Post G (Rep G) W σ w0 H0 Q (newL p acc w.m)) : Q (.ref D) H := by
  unfold newL at h
  cases p with
  | false =>
    simp only [Bool.false_eq_true, if_false] at h
    obtain ⟨S', ex⟩ := S.adopt hD q
    refine h (.ref D) H (w.fz D (.lst xs)) rfl ⟨st.ext.trans ex, fun a u nt e qa => ?_⟩ S' (mk_lst (xs := xs) (.inl (.inl ?_)) (t.ext ex))
    · obtain ⟨e1, q1, q2⟩ := st.oth a u nt e qa
      refine ⟨e1, ?_, q2⟩
      show L2.upd w.F D _ a = none
      rw [upd_ne (ne_of_none e hD0)]; exact q1
    · show L2.upd w.F D _ D = _
      rw [upd_same]
  | true =>
    simp only [if_true] at h
    have S' := S.adoptP (o := .lst acc) hD q ⟨xs, hD, t.ext (Ext.al w D _)⟩
    have e : (w.al D (.lst acc)).r w.m.length = D := if_pos rfl
    have r : Rep G (w.al D (.lst acc)) (.loc w.m.length) (.ref D) := by
      have := mk_loc (G := G) (w := w.al D (.lst acc)) (n := w.m.length) (by show _ < (w.m ++ _).length; simp)
      rw [e] at this; exact this
    refine h (.ref D) H (w.al D (.lst acc)) rfl ⟨st.ext.trans (Ext.al w D _), fun a u nt e qa => ?_⟩ S' r
    obtain ⟨e1, q1, q2⟩ := st.oth a u nt e qa
    refine ⟨e1, q1, fun n x hn l => ?_⟩
    show (if n = w.m.length then D else w.r n) ≠ a
    by_cases h : n = w.m.length
    · rw [if_pos h]; exact (ne_of_none e hD0).symm
    · rw [if_neg h]
      have hn' : (w.m ++ [.lst acc])[n]? = some x := hn
      have hl : n < w.m.length := by
        have := (List.getElem?_eq_some_iff.mp hn').1
        rw [List.length_append, List.length_singleton] at this
        omega
      rw [List.getElem?_append_left hl] at hn'
      exact q2 n x hn' l
theorem lc_of {p : Bool} {elt : Ex} {t : Tg} {it : It} {ifs : List Cn} {own : List Nat} {σ : L2.St} {H : Hp} {Q : VK} (hown : ∀ i ∈ slT t, i ∈ own) (h : tE G W (den P (.lc p elt t it ifs own)) σ H Q) :
    tLc (tG G (RIv G) W (denI P it)) (gT G P t) (tB' G WN (denCs P ifs)) (tE G WN (den P elt)) own σ H Q := by
  have h := tG.of_eq (g' := fun env m => (denI P it env m).bind fun v m1 => (lcGo v (turnD P t ifs elt (wipeE env own)) [] v.items m1).bind fun ys m6 => newL p ys m6) (fun env m => den_lc) h
  refine (tG.bindT (S := RIv G) (g := denI P it) (f := fun v env m1 => (lcGo v (turnD P t ifs elt (wipeE env own)) [] v.items m1).bind fun ys m6 => newL p ys m6) h).mono fun J H1 ⟨w, env, v, S, e, riv, q⟩ D hD => ?_
  have hDf := S.free hD
  have oD : Oth w D := ⟨hDf, fun n o hn l z => by
    obtain ⟨u, hu⟩ := (S.lv n o hn).there l
    rw [z, hD] at hu; cases hu⟩
  refine ⟨fun i m H2 => m = v.items.length - i ∧ i ≤ v.items.length ∧ ∃ w2 acc xs, SR G w2 H2 ∧ Stp w H1 w2 H2 ∧ Oth w2 D ∧ H2 D = some (.lst xs) ∧ RepL G w2 acc xs ∧
    Post G (Rep G) W σ w H1 Q ((lcGo v (turnD P t ifs elt (wipeE env own)) acc (v.items.drop i) w2.m).bind fun ys m6 => newL p ys m6), ⟨_, rfl, Nat.zero_le _, w, [], [], S.grow (Hle.put hD), Stp.grow (Hle.put hD), oD, upd_same, .nil, q⟩, ?_⟩
  rintro i m H2 ⟨rfl, hi, w2, acc, xs, S2, st2, o2, hD2, t2, q2⟩
  by_cases hlt : i < v.items.length
  · -- a turn
    have hdrop : v.items.drop i = v.items[i] :: v.items.drop (i + 1) := List.drop_eq_getElem_cons hlt
    rw [hdrop, lcGo] at q2
    unfold stillR at q2
    split at q2
    · rename_i hst
      obtain ⟨hgo, _⟩ := riv w2 H2 st2.ext S2 hst
      obtain ⟨go, yld⟩ := hgo i v.items[i] (by simp [hlt])
      refine .inr ⟨go, fun H3 => v.items.length - (i + 1) = v.items.length - (i + 1) ∧ i + 1 ≤ v.items.length ∧ ∃ w2 acc xs, SR G w2 H3 ∧ Stp w H1 w2 H3 ∧ Oth w2 D ∧ H3 D = some (.lst xs) ∧ RepL G w2 acc xs ∧
        Post G (Rep G) W σ w H1 Q ((lcGo v (turnD P t ifs elt (wipeE env own)) acc (v.items.drop (i + 1)) w2.m).bind fun ys m6 => newL p ys m6), fun H' z => ⟨v.items.length - (i + 1), by omega, z⟩, fun x H' y => ?_⟩
      obtain ⟨w3, em3, st3, S3, r3⟩ := yld x H' y
      obtain ⟨hD3, o3⟩ := st3.oth D _ lst_nt hD2 o2
      have e3 : EnvR G w3 (wipeE env own) (wipe σ own) := EnvR.wipe ((e.ext st2.ext).ext st3.ext) own
      refine ⟨w3, wipeE env own, v.items[i], S3, e3, r3, ?_⟩
      rw [← em3] at q2
      unfold turnD at q2
      cases hT : denT P t v.items[i] (wipeE env own) w3.m with
      | bad => rw [hT] at q2; exact q2.elim
      | err y m => rw [hT] at q2; exact q2.elim
      | ok env' m4 =>
        rw [hT, Res.bind_ok] at q2
        intro σ4 H4 w4 em4 st4 S4 e4 off
        subst em4
        refine ⟨off own hown |>.trans ?_, ?_⟩
        · apply List.ext_getElem?
          intro j
          rw [wipe_get, wipe_get, wipe_length]
          by_cases hj : j ∈ own ∧ j < σ.length
          · rw [if_pos hj, if_pos hj]
          · rw [if_neg hj, if_neg hj]
        · refine ⟨w4, env', S4, e4, ?_⟩
          obtain ⟨hD4, o4⟩ := st4.oth D _ lst_nt hD3 o3
          cases hC : denCs P ifs env' w4.m with
          | bad => rw [hC] at q2; exact q2.elim
          | err y m => rw [hC] at q2; exact q2.elim
          | ok k m5 =>
            rw [hC, Res.bind_ok] at q2
            intro b H5 w5 em5 st5 S5 rb
            subst em5
            cases rb
            obtain ⟨hD5, o5⟩ := st5.oth D _ lst_nt hD4 o4
            have stAll := ((st2.trans st3).trans st4).trans st5
            cases k with
            | false =>
              simp only [Bool.false_eq_true, if_false] at q2 ⊢
              exact ⟨trivial, by omega, w5, acc, xs, S5, stAll, o5, hD5, t2.ext ((st3.trans st4).trans st5).ext, q2⟩
            | true =>
              simp only [if_true] at q2 ⊢
              refine ⟨w5, env', S5, e4.ext st5.ext, ?_⟩
              cases hE : den P elt env' w5.m with
              | bad => rw [hE] at q2; exact q2.elim
              | err y m => rw [hE] at q2; exact q2.elim
              | ok y m6 =>
                rw [hE, Res.bind_ok] at q2
                intro yv H6 w6 em6 st6 S6 ry
                subst em6
                obtain ⟨hD6, o6⟩ := st6.oth D _ lst_nt hD5 o5
                have q2 : Post G (Rep G) W σ w H1 Q ((if acc.length < sizeLine then lcGo v (turnD P t ifs elt (wipeE env own)) (acc ++ [y]) (v.items.drop (i + 1)) w6.m else .bad).bind fun ys m6 => newL p ys m6) := q2
                have tt := t2.ext (((st3.trans st4).trans st5).trans st6).ext
                split at q2
                · rename_i hz
                  exact ⟨xs, hD6, by rw [tt.length]; exact hz, trivial, by omega, w6, acc ++ [y], xs ++ [yv], S6.updO o6, (stAll.trans st6).upd hD, o6, upd_same, tt.append (.cons ry .nil), q2⟩
                · exact q2.elim
    · exact q2.elim
  · -- the end
    have hie : i = v.items.length := by omega
    subst hie
    rw [List.drop_length, lcGo] at q2
    unfold stillR at q2
    split at q2
    · rename_i hst
      exact .inl ⟨(riv w2 H2 st2.ext S2 hst).2, post_lc S2 st2 hD hD2 o2 t2 q2⟩
    · exact q2.elim
end
end DL

/-! DL15: statements -/
namespace DL
open PySem PySem.Spec PyProof.Rows L2

/-- what a statement's result asks of its ends -/
def PostS (G : GT) (W : WX) (w : Wd) (H : Hp) (D : Ends) : SR' → Prop
  | .ok .nx env' m' => ∀ σ' H' w', w'.m = m' → Stp w H w' H' → SR G w' H' → EnvR G w' env' σ' → D.nx σ' H'
  | .ok .bk env' m' => ∀ σ' H' w', w'.m = m' → Stp w H w' H' → SR G w' H' → EnvR G w' env' σ' → D.bk σ' H'
  | .ok .ct env' m' => ∀ σ' H' w', w'.m = m' → Stp w H w' H' → SR G w' H' → EnvR G w' env' σ' → D.ct σ' H'
  | .ok (.rt d) _ m' => ∀ v H' w', w'.m = m' → Stp w H w' H' → SR G w' H' → Rep G w' d v → D.rt v H'
  | .err x env' m' => ∀ cls dx σ' H' w', w'.m = m' → Stp w H w' H' → SR G w' H' → EnvR G w' env' σ' → ErR G w' x cls dx → W cls dx σ' H'
  | .bad => False
theorem PostS.step {G : GT} {W : WX} {w w1 : Wd} {H H1 : Hp} {D : Ends} {r : SR'} (h : PostS G W w H D r) (st : Stp w H w1 H1) : PostS G W w1 H1 D r := by
  cases r with
  | bad => exact h
  | err x e m => exact fun c d σ' H' w' a b => h c d σ' H' w' a (st.trans b)
  | ok f e m =>
    cases f with
    | nx => exact fun σ' H' w' a b => h σ' H' w' a (st.trans b)
    | bk => exact fun σ' H' w' a b => h σ' H' w' a (st.trans b)
    | ct => exact fun σ' H' w' a b => h σ' H' w' a (st.trans b)
    | rt d => exact fun v H' w' a b => h v H' w' a (st.trans b)
def tSt (G : GT) (W : WX) (P : Prg) (s : St) : TS := fun D σ H => ∃ w env, SR G w H ∧ EnvR G w env σ ∧ PostS G W w H D (denS P s env w.m)
def tSs (G : GT) (W : WX) (P : Prg) (ss : List St) : TS := fun D σ H => ∃ w env, SR G w H ∧ EnvR G w env σ ∧ PostS G W w H D (denSs P ss env w.m)
theorem _root_.L2.PS.imp {X : Cx} {e : Stmt} {t t' : TS} (h : PS X e t) (i : ∀ D σ H, t' D σ H → t D σ H) : PS X e t' := ⟨fun pins s σ H D I hw => h.run pins s σ H D I (i D σ H hw)⟩
theorem _root_.L2.PSs.imp {X : Cx} {e : List Stmt} {t t' : TS} (h : PSs X e t) (i : ∀ D σ H, t' D σ H → t D σ H) : PSs X e t' := ⟨fun pins s σ H D I hw => h.run pins s σ H D I (i D σ H hw)⟩
section
variable {X : Cx} {G : GT} {W : WX} {P : Prg} {k : Nat} {D : Ends} {σ : L2.St} {H : Hp}
/-- a statement's expression -/
theorem st_E {α β : Type} {R : Wd → α → β → Prop} {w : Wd} {env : En} {r : Res α} {k : α → Me → SR'} (e : EnvR G w env σ) (h : PostS G W w H D (r.st env k)) :
    Post G R W σ w H (fun b H1 => ∃ w1 a, SR G w1 H1 ∧ EnvR G w1 env σ ∧ R w1 a b ∧ Ext w w1 ∧ PostS G W w1 H1 D (k a w1.m)) r := by
  cases r with
  | bad => exact h
  | err x m => exact fun cls dx H' w' em st S' re => h cls dx σ H' w' em st S' (e.ext st.ext) re
  | ok a m =>
    intro b H' w' em st S' r
    subst em
    exact ⟨w', a, S', e.ext st.ext, r, st.ext, PostS.step (w := w) (H := H) h st⟩
theorem st_N {w : Wd} {r : Res En} {is : List Nat} {k : En → Me → SR'} (h : PostS G W w H D (r.stN k)) :
    PostT G is σ w H (fun σ1 H1 => ∃ w1 env1, SR G w1 H1 ∧ EnvR G w1 env1 σ1 ∧ PostS G W w1 H1 D (k env1 w1.m)) r := by
  cases r with
  | bad => exact h
  | err x m => exact h
  | ok a m =>
    intro σ' H' w' em st S' e' _
    subst em
    exact ⟨w', a, S', e', PostS.step (w := w) (H := H) h st⟩
/-! ### one after another -/
theorem ss_nil : PSs X [] (tSs G W P []) := pss_nil.imp fun D σ H ⟨w, env, S, e, p⟩ => by
  rw [denSs] at p
  exact p σ H w rfl (.refl w H) S e
theorem ss_seq {s : St} {ss : List St} {w : Wd} {env : En} (p : PostS G W w H D (denSs P (s :: ss) env w.m)) : PostS G W w H { D with nx := tSs G W P ss D } (denS P s env w.m) := by
  rw [denSs] at p
  cases q : denS P s env w.m with
  | bad => rw [q] at p; exact p
  | err x e m => rw [q] at p; exact p
  | ok f env' m' =>
    rw [q] at p
    cases f with
    | nx =>
      intro σ' H' w' em st S' e'
      subst em
      exact ⟨w', env', S', e', PostS.step (w := w) (H := H) p st⟩
    | bk => exact p
    | ct => exact p
    | rt d => exact p
theorem ss_cons {st : Stmt} {rest : List Stmt} {s : St} {ss : List St} (h1 : PS X st (tSt G W P s)) (h2 : PSs X rest (tSs G W P ss)) : PSs X (st :: rest) (tSs G W P (s :: ss)) :=
  (pss_cons h1 h2).imp fun D σ H ⟨w, env, S, e, p⟩ => ⟨w, env, S, e, ss_seq p⟩
/-! ### the plain ones -/
theorem s_bad {st : Stmt} : PS X st (tSt G W P .bad) := ⟨fun pins s σ H D I ⟨w, env, S, e, p⟩ => by unfold denS at p; exact p.elim⟩
theorem s_pass {pos : Pos} : PS X (.Pass pos) (tSt G W P .pass) := ps_pass.imp fun D σ H ⟨w, env, S, e, p⟩ => by
  rw [denS] at p
  exact p σ H w rfl (.refl w H) S e
theorem s_doc {x : Str} {j : Nat} {pos pos' : Pos} : PS X (.Expr (.Constant (.str x) j pos) pos') (tSt G W P .pass) := ps_doc.imp fun D σ H ⟨w, env, S, e, p⟩ => by
  rw [denS] at p
  exact p σ H w rfl (.refl w H) S e
theorem s_brk {pos : Pos} : PS X (.Break pos) (tSt G W P .brk) := ps_break.imp fun D σ H ⟨w, env, S, e, p⟩ => by
  rw [denS] at p
  exact p σ H w rfl (.refl w H) S e
theorem s_cont {pos : Pos} : PS X (.Continue pos) (tSt G W P .cont) := ps_continue.imp fun D σ H ⟨w, env, S, e, p⟩ => by
  rw [denS] at p
  exact p σ H w rfl (.refl w H) S e
theorem s_exp {e : Expr} {e' : Ex} {pos : Pos} (he : PE X e (tE G W (den P e'))) (hs : isComp e = false) : PS X (.Expr e pos) (tSt G W P (.exp e')) :=
  (ps_expr he (noSwap hs)).imp fun D σ H ⟨w, env, S, e, p⟩ => by
    rw [denS] at p
    exact ⟨w, env, S, e, (st_E (R := Rep G) e p).mono fun v H1 ⟨w1, a, S1, e1, r, _, p1⟩ => p1 σ H1 w1 rfl (.refl _ _) S1 e1⟩
/-! ### freezing -/
mutual
theorem frzD_ok {H : Hp} : ∀ {n : Nat} {w : Wd} {d d' : DL.D} {m' : Me} {v : V}, SR G w H → Rep G w d v → frzD n w.m d = some (d', m') → ∃ w', w'.m = m' ∧ Stp w H w' H ∧ SR G w' H ∧ Rep G w' d' v
  | 0, _, _, _, _, _, _, _, h => by unfold frzD at h; cases h
  | n + 1, w, d, d', m', v, S, r, h => by
    unfold frzD at h
    split at h
    · rename_i i
      split at h
      · rename_i ds hm
        obtain ⟨q, hq, e⟩ := Option.map_eq_some_iff.mp h
        cases e
        obtain ⟨hn, rfl⟩ := rep_loc r
        obtain ⟨xs, hH, t⟩ := S.lv i _ hm
        obtain ⟨S1, ex1⟩ := S.frz hm rfl hH
        have st1 := Stp.frz S hm rfl hH
        obtain ⟨w2, em, st2, S2, t2⟩ := frzL_ok (w := w.frz i (.lst xs)) S1 (t.ext ex1) hq
        refine ⟨w2, em, st1.trans st2, S2, mk_lst (xs := xs) (SqL.le st2.ext.sub (.inl (.inl ?_))) t2⟩
        show L2.upd w.F (w.r i) _ (w.r i) = _
        rw [upd_same]
      · rename_i c ns ds hm
        obtain ⟨q, hq, e⟩ := Option.map_eq_some_iff.mp h
        cases e
        obtain ⟨hn, rfl⟩ := rep_loc r
        obtain ⟨dx, fs, hH, en, t⟩ := S.lv i _ hm
        obtain ⟨S1, ex1⟩ := S.frz hm rfl hH
        have st1 := Stp.frz S hm rfl hH
        obtain ⟨w2, em, st2, S2, t2⟩ := frzL_ok (w := w.frz i (.ins (G.cadr c) dx fs)) S1 (t.ext ex1) hq
        refine ⟨w2, em, st1.trans st2, S2, ?_⟩
        unfold Rep RepC
        refine ⟨w.r i, dx, fs, rfl, st2.ext.sub _ _ ?_, en, t2⟩
        show L2.upd w.F (w.r i) _ (w.r i) = _
        rw [upd_same]
      · cases h
    · rename_i ds
      obtain ⟨q, hq, e⟩ := Option.map_eq_some_iff.mp h
      cases e
      obtain ⟨a, xs, rfl, g, t⟩ := rep_lst r
      obtain ⟨w2, em, st2, S2, t2⟩ := frzL_ok S t hq
      exact ⟨w2, em, st2, S2, mk_lst (SqL.le st2.ext.sub g) t2⟩
    · rename_i ds
      obtain ⟨q, hq, e⟩ := Option.map_eq_some_iff.mp h
      cases e
      obtain ⟨a, xs, rfl, g, t⟩ := rep_tupF r
      obtain ⟨w2, em, st2, S2, t2⟩ := frzL_ok S t hq
      exact ⟨w2, em, st2, S2, mk_tup (st2.ext.sub _ _ g) t2⟩
    · rename_i c ns ds
      obtain ⟨q, hq, e⟩ := Option.map_eq_some_iff.mp h
      cases e
      obtain ⟨a, dx, fs, rfl, g, en, t⟩ := rep_ins r
      obtain ⟨w2, em, st2, S2, t2⟩ := frzL_ok S t hq
      refine ⟨w2, em, st2, S2, ?_⟩
      unfold Rep RepC
      exact ⟨a, dx, fs, rfl, st2.ext.sub _ _ g, en, t2⟩
    · cases h
      exact ⟨w, rfl, .refl w H, S, r⟩
theorem frzL_ok {H : Hp} : ∀ {n : Nat} {w : Wd} {ds ds' : List DL.D} {m' : Me} {vs : List V}, SR G w H → RepL G w ds vs → frzL n w.m ds = some (ds', m') → ∃ w', w'.m = m' ∧ Stp w H w' H ∧ SR G w' H ∧ RepL G w' ds' vs
  | 0, _, _, _, _, _, _, _, h => by unfold frzL at h; cases h
  | n + 1, w, [], ds', m', vs, S, r, h => by
    unfold frzL at h
    cases h
    exact ⟨w, rfl, .refl w H, S, r⟩
  | n + 1, w, d :: ds, ds', m', vs, S, r, h => by
    unfold frzL at h
    split at h
    · rename_i d1 m1 hd
      obtain ⟨q, hq, e⟩ := Option.map_eq_some_iff.mp h
      cases e
      obtain ⟨v, us, rfl, rv, ru⟩ := RepCL.cons_inv r
      obtain ⟨w1, em1, st1, S1, r1⟩ := frzD_ok S rv hd
      subst em1
      obtain ⟨w2, em2, st2, S2, r2⟩ := frzL_ok S1 (RepL.ext ru st1.ext) hq
      exact ⟨w2, em2, st1.trans st2, S2, .cons (r1.ext st2.ext) r2⟩
    · cases h
end
theorem frzR_ok {w : Wd} {d : DL.D} {v : V} {env : En} {kk : DL.D → Me → SR'} (S : SR G w H) (r : Rep G w d v) (h : PostS G W w H D ((frzR w.m d).st env kk)) : ∃ w' d', Stp w H w' H ∧ SR G w' H ∧ Rep G w' d' v ∧ PostS G W w' H D (kk d' w'.m) := by
  unfold frzR at h
  split at h
  · rename_i d' m' hd
    obtain ⟨w1, em, st, S1, r1⟩ := frzD_ok S r hd
    subst em
    exact ⟨w1, d', st, S1, r1, PostS.step (w := w) (H := H) h st⟩
  · exact h.elim
theorem ss_frz {i : Nat} {ss : List St} {st : List Stmt} (h : PSs X st (tSs G W P ss)) : PSs X st (tSs G W P (.frz i :: ss)) := h.imp fun D σ H ⟨w, env, S, e, p⟩ => by
  rw [denSs, denS] at p
  split at p
  · rename_i d hd
    obtain ⟨v, hv, r⟩ := e.get i d hd
    have p : PostS G W w H D ((frzR w.m d).st env fun d' m' => denSs P ss (env.set i (some d')) m') := by
      cases q : frzR w.m d with
      | bad => rw [q] at p; exact p
      | err x m => rw [q] at p; exact p
      | ok d' m' => rw [q] at p; exact p
    obtain ⟨w1, d', st, S1, r1, p1⟩ := frzR_ok S r p
    refine ⟨w1, _, S1, ?_, p1⟩
    have e1 := (e.ext st.ext).set i r1
    have e2 : σ.set i (some v) = σ := by
      apply List.ext_getElem?
      intro j
      by_cases hj : i = j
      · subst hj
        rw [List.getElem?_set_self (List.getElem?_eq_some_iff.mp hv).1, hv]
      · rw [List.getElem?_set_ne hj]
    rw [e2] at e1
    exact e1
  · exact p.elim
theorem s_ret {e : Expr} {e' : Ex} {fz : Bool} {pos : Pos} (he : PE X e (tE G W (den P e'))) : PS X (.Return (some e) pos) (tSt G W P (.ret (some e') fz)) :=
  (ps_ret he).imp fun D σ H ⟨w, env, S, e, p⟩ => by
    rw [denS] at p
    refine ⟨w, env, S, e, (st_E (R := Rep G) e p).mono fun v H1 ⟨w1, a, S1, e1, r, _, p1⟩ => ?_⟩
    cases fz with
    | false =>
      simp only [Bool.false_eq_true, if_false] at p1
      exact p1 v H1 w1 rfl (.refl _ _) S1 r
    | true =>
      simp only [if_true] at p1
      obtain ⟨w2, d', st, S2, r2, p2⟩ := frzR_ok S1 r p1
      exact p2 v H1 w2 rfl (.refl _ _) S2 r2
theorem s_retN {fz : Bool} {pos : Pos} : PS X (.Return none pos) (tSt G W P (.ret none fz)) := ps_retN.imp fun D σ H ⟨w, env, S, e, p⟩ => by
  rw [denS] at p
  exact p .non H w rfl (.refl _ _) S mk_non
theorem s_if {c : Expr} {cc : Cn} {a b : List Stmt} {sa sb : List St} {pos : Pos} (hc : PT X c (tB' G W (denC P cc))) (ha : PSs X a (tSs G W P sa)) (hb : PSs X b (tSs G W P sb)) : PS X (.If c a b pos) (tSt G W P (.ite cc sa sb)) :=
  (ps_if hc ha hb).imp fun D σ H ⟨w, env, S, e, p⟩ => by
    rw [denS] at p
    refine ⟨w, env, S, e, (st_E (R := REq) e p).mono fun v H1 ⟨w1, a, S1, e1, r, _, p1⟩ => ?_⟩
    cases r
    cases v with
    | true => exact ⟨w1, env, S1, e1, p1⟩
    | false => exact ⟨w1, env, S1, e1, p1⟩
/-! ### assignments -/
theorem s_asg {tg e : Expr} {e' : Ex} {t : Tg} {pos : Pos} (he : PE X e (tE G W (den P e'))) (hg : PG X tg (gT G P t)) (hs : swapsWith e (some tg) pos.line X.env = pure false) (hw : swappedStores [tg] e X.env = pure none) (h1 : isStar tg = false) :
    PS X (.Assign [tg] e pos) (tSt G W P (.asg t e')) :=
  (ps_asg he hg hs hw (by rw [ae_cons h1]; rfl)).imp fun D σ H ⟨w, env, S, e, p⟩ => by
    rw [denS] at p
    refine ⟨w, env, S, e, (st_E (R := Rep G) e p).mono fun v H1 ⟨w1, a, S1, e1, r, _, p1⟩ => ?_⟩
    refine ⟨w1, env, a, S1, e1, r, (st_N p1).mono fun σ2 H2 ⟨w2, env2, S2, e2, p2⟩ => ?_⟩
    exact p2 σ2 H2 w2 rfl (.refl _ _) S2 e2
/-- name = [..], on one line -/
theorem s_setLc {i : Nat} {y : Str} {py : Pos} {elt tg iter : Expr} {ifs : List Expr} {scope : Scope} {own : List (Str × Nat)} {pos spos : Pos} {p : Bool} {elt' : Ex} {t : Tg} {it : It} {ifs' : List Cn} (B : Bs X G) (hy : X.N[i]? = some y) (hyl : X.env.scope.names.lookup y = some .local)
    (hsw : swapsWith (.ListComp elt [⟨tg, iter, ifs, 0⟩] scope pos) (some (.Name y py)) spos.line X.env = pure true) (hi : PI X tg iter (tG G (RIv G) W (denI P it))) (ok : BlkOk X.N X.env.scope scope own)
    (hg : ∀ (s : Shared) (H : Hp) (C : Addr) (cl : List (Str × Addr)) (fp : List Addr), PG (X.blk s H scope (compEnvC scope cl C X.env) fp) tg (gT G P t))
    (ht : ∀ (s : Shared) (H : Hp) (C : Addr) (cl : List (Str × Addr)) (fp : List Addr), PTs (X.blk s H scope (compEnvC scope cl C X.env) fp) ifs (tB' G WN (denCs P ifs')))
    (he : ∀ (s : Shared) (H : Hp) (C : Addr) (cl : List (Str × Addr)) (fp : List Addr), PE (X.blk s H scope (compEnvC scope cl C X.env) fp) elt (tE G WN (den P elt')))
    (hs : ∀ x, foldedSetIterable iter X.env x = pure x) (hown : ∀ i ∈ slT t, i ∈ own.map (·.2)) :
    PS X (.Assign [.Name y py] (.ListComp elt [⟨tg, iter, ifs, 0⟩] scope pos) spos) (tSt G W P (.asg (.name i) (.lc p elt' t it ifs' (own.map (·.2))))) :=
  (ps_setLc B.calm B.nd hy hyl hsw hi ok hg ht he hs).imp fun D σ H ⟨w, env, S, e, p⟩ => by
    rw [denS] at p
    refine lc_of hown ⟨w, env, S, e, (st_E (R := Rep G) e p).mono fun v H1 ⟨w1, a, S1, e1, r, _, p1⟩ => ?_⟩
    rw [denT] at p1
    exact p1 _ H1 w1 rfl (.refl _ _) S1 (e1.set i r)
theorem e_lc {elt tg iter : Expr} {ifs : List Expr} {scope : Scope} {own : List (Str × Nat)} {pos : Pos} {p : Bool} {elt' : Ex} {t : Tg} {it : It} {ifs' : List Cn} (B : Bs X G) (hi : PI X tg iter (tG G (RIv G) W (denI P it))) (ok : BlkOk X.N X.env.scope scope own)
    (hg : ∀ (s : Shared) (H : Hp) (C : Addr) (cl : List (Str × Addr)) (fp : List Addr), PG (X.blk s H scope (compEnvC scope cl C X.env) fp) tg (gT G P t))
    (ht : ∀ (s : Shared) (H : Hp) (C : Addr) (cl : List (Str × Addr)) (fp : List Addr), PTs (X.blk s H scope (compEnvC scope cl C X.env) fp) ifs (tB' G WN (denCs P ifs')))
    (he : ∀ (s : Shared) (H : Hp) (C : Addr) (cl : List (Str × Addr)) (fp : List Addr), PE (X.blk s H scope (compEnvC scope cl C X.env) fp) elt (tE G WN (den P elt')))
    (hs : ∀ x, foldedSetIterable iter X.env x = pure x) (hown : ∀ i ∈ slT t, i ∈ own.map (·.2)) :
    PE X (.ListComp elt [⟨tg, iter, ifs, 0⟩] scope pos) (tE G W (den P (.lc p elt' t it ifs' (own.map (·.2))))) :=
  (pe_lc B.calm B.nd hi ok hg ht he hs).imp fun σ H Q h => lc_of hown h
theorem setMany_env {w : Wd} : ∀ {is : List Nat} {ds : List DL.D} {vs : List V} {env : En} {σ : L2.St}, EnvR G w env σ → RepL G w ds vs → is.length = ds.length → EnvR G w (setMany is ds env) ((is.zip vs).foldl (fun s p => s.set p.1 (some p.2)) σ)
  | [], ds, vs, env, σ, e, r, h => by
    unfold setMany
    exact e
  | i :: is, [], _, _, _, _, _, h => by simp at h
  | i :: is, d :: ds, vs, env, σ, e, r, h => by
    obtain ⟨v, us, rfl, rv, ru⟩ := RepCL.cons_inv r
    unfold setMany
    exact setMany_env (e.set i rv) ru (by simpa using h)
theorem s_par2 {i j : Nat} {x y : Str} {a b : Expr} {es' : List Ex} {px py pt pos : Pos} {kt k2 : Nat} {pt2 : Pos} (B : Bs X G) (hi : X.N[i]? = some x) (hj : X.N[j]? = some y) (hij : i ≠ j) (hx : X.env.scope.names.lookup x = some .local) (hy : X.env.scope.names.lookup y = some .local)
    (ha : PA X [a, b] (tL G W (denL P es'))) (hw : swappedStores [.Tuple [.Name x px, .Name y py] kt pt] (.Tuple [a, b] k2 pt2) X.env = pure (some [x, y])) : PS X (.Assign [.Tuple [.Name x px, .Name y py] kt pt] (.Tuple [a, b] k2 pt2) pos) (tSt G W P (.par [i, j] es')) :=
  (ps_par B.calm B.nd hi hj hij hx hy ha hw).imp fun D σ H ⟨w, env, S, e, p⟩ => by
    rw [denS] at p
    refine ⟨w, env, S, e, (st_E (R := RepL G) e p).mono fun vs H1 ⟨w1, ds, S1, e1, r, _, p1⟩ => ?_⟩
    split at p1
    · rename_i hl
      have l : vs.length = 2 := by rw [r.length, ← hl]; rfl
      match vs, l with
      | [v, u], _ => exact ⟨v, u, rfl, p1 _ H1 w1 rfl (.refl _ _) S1 (setMany_env e1 r hl)⟩
    · exact p1.elim
theorem s_par3 {i j l : Nat} {x y z : Str} {a b c : Expr} {es' : List Ex} {px py pz pt pos : Pos} {kt k2 : Nat} {pt2 : Pos} (B : Bs X G) (hi : X.N[i]? = some x) (hj : X.N[j]? = some y) (hl : X.N[l]? = some z) (hij : i ≠ j) (hil : i ≠ l) (hjl : j ≠ l)
    (hx : X.env.scope.names.lookup x = some .local) (hy : X.env.scope.names.lookup y = some .local) (hz : X.env.scope.names.lookup z = some .local)
    (ha : PA X [a, b, c] (tL G W (denL P es'))) (hw : swappedStores [.Tuple [.Name x px, .Name y py, .Name z pz] kt pt] (.Tuple [a, b, c] k2 pt2) X.env = pure (some [x, y, z])) : PS X (.Assign [.Tuple [.Name x px, .Name y py, .Name z pz] kt pt] (.Tuple [a, b, c] k2 pt2) pos) (tSt G W P (.par [i, j, l] es')) :=
  (ps_par3 B.calm B.nd hi hj hl hij hil hjl hx hy hz ha hw).imp fun D σ H ⟨w, env, S, e, p⟩ => by
    rw [denS] at p
    refine ⟨w, env, S, e, (st_E (R := RepL G) e p).mono fun vs H1 ⟨w1, ds, S1, e1, r, _, p1⟩ => ?_⟩
    split at p1
    · rename_i hl
      have l : vs.length = 3 := by rw [r.length, ← hl]; rfl
      match vs, l with
      | [v, u, q], _ => exact ⟨v, u, q, rfl, p1 _ H1 w1 rfl (.refl _ _) S1 (setMany_env e1 r hl)⟩
    · exact p1.elim
end
end DL

/-! DL16: augmented stores, loops -/
namespace DL
open PySem PySem.Spec PyProof.Rows L2

section
variable {X : Cx} {G : GT} {W : WX} {P : Prg} {k : Nat} {D : Ends} {σ : L2.St} {H : Hp}
theorem iopD_ne {o : Bop} {d e : DL.D} {m : Me} {x : Er} {m' : Me} : iopD o d e m ≠ .err x m' := by
  intro h
  unfold iopD at h
  split at h <;> cases h
theorem iop_D (o : Bop) : InOp X (bopOf o) (rop G (iopD o)) := by
  intro pins s σ H x y u v Q I rx ry h
  obtain ⟨w, d, e, S, r1, r2, q⟩ := h
  unfold iopD at q
  split at q
  · rename_i i j e1 e2
    cases vw_int r1 e1
    cases vw_int r2 e2
    exact in_add pins s σ H _ _ u v Q I rx ry ⟨i, j, rfl, rfl, post_ret S mk_int q⟩
  · rename_i i j e1 e2
    cases vw_int r1 e1
    cases vw_int r2 e2
    exact in_sub pins s σ H _ _ u v Q I rx ry ⟨i, j, rfl, rfl, post_ret S mk_int q⟩
  · exact q.elim
theorem s_aug {i : Nat} {x : Str} {e : Expr} {e' : Ex} {o : Bop} {p : Bool} {pos pos' : Pos} (B : Bs X G) (hi : X.N[i]? = some x) (hx : Loc X.env.scope x) (he : PE X e (tE G W (den P e'))) (hf : X.fn x = true ∨ X.env.scope.names.lookup x = some .local) :
    PS X (.AugAssign (.Name x pos') (bopOf o) e pos) (tSt G W P (.aug i o p e')) :=
  (ps_aug (ti := rop G (iopD o)) B.nd hi hx he (fun pins s σ H x y v u Q I r1 r2 h => iop_D o pins s σ H x y v u Q I r1 r2 h) hf).imp fun D σ H ⟨w, env, S, e, p⟩ => by
    rw [denS] at p
    split at p
    · rename_i d hd
      obtain ⟨v, hv, rv⟩ := e.get i d hd
      refine ⟨v, hv, w, env, S, e, ?_⟩
      have key := st_E (R := Rep G) e p
      cases q : den P e' env w.m with
      | bad => rw [q] at p; exact p
      | err x m => rw [q] at p; exact fun cls dx H' w' em st S' re => p cls dx _ H' w' em st S' (e.ext st.ext) re
      | ok z m =>
        rw [q] at p
        intro u H1 w1 em st S1 r1
        subst em
        have p : PostS G W w H D ((iopD o d z w1.m).st env fun z m2 => .ok .nx (env.set i (some z)) m2) := p
        refine ⟨w1, d, z, S1, rv.ext st.ext, r1, ?_⟩
        cases q2 : iopD o d z w1.m with
        | bad => rw [q2] at p; exact p
        | err x m => exact (iopD_ne q2).elim
        | ok y m2 =>
          rw [q2] at p
          intro t H2 w2 em2 st2 S2 r2
          subst em2
          exact p _ H2 w2 rfl (st.trans st2) S2 (((e.ext st.ext).ext st2.ext).set i r2)
    · exact p.elim
theorem put_rep (hi : ∀ i j, G.fnm i = G.fnm j → i = j) {w : Wd} {f : Nat} {x : Str} {d : DL.D} {v : V} (hx : G.fnm f = x) (rd : Rep G w d v) : ∀ {ns : List Nat} {xs : List DL.D} {fs : List (Str × V)}, fs.map (·.1) = ns.map G.fnm → RepL G w xs (fs.map (·.2)) → (putF x v fs).map (·.1) = (putN f ns).map G.fnm ∧ RepL G w (putX f d ns xs) ((putF x v fs).map (·.2))
  | [], xs, fs, en, t => by
    have : fs = [] := by simpa using en
    subst this
    exact ⟨by simp [putF, putN, hx], by unfold putX; exact .cons rd .nil⟩
  | n :: ns, xs, [], en, t => by simp at en
  | n :: ns, [], q :: fs, en, t => by have := RepCL.length t; simp at this
  | n :: ns, a :: xs, (y, z) :: fs, en, t => by
    rw [List.map_cons, List.map_cons] at en
    obtain ⟨e1, e2⟩ := List.cons.inj en
    rw [List.map_cons] at t
    obtain ⟨u1, us, e3, r1, r2⟩ := RepCL.cons_inv t
    obtain ⟨e4, e5⟩ := List.cons.inj e3
    have e1' : y = G.fnm n := e1
    have e4' : z = u1 := e4
    subst e1' e4'
    rw [← e5] at r2
    by_cases hnf : n = f
    · subst hnf
      have hyx : G.fnm n = x := hx
      simp only [putF, putN, putX, hyx, if_true]
      refine ⟨by simp [e2, hyx], ?_⟩
      simp only [List.map_cons]
      exact .cons rd r2
    · have hne : ¬ G.fnm n = x := fun q => hnf (hi _ _ (q.trans hx.symm))
      obtain ⟨i1, i2⟩ := put_rep hi hx rd e2 r2
      simp only [putF, putN, putX, if_neg hnf, if_neg hne]
      simp only [List.map_cons]
      exact ⟨by rw [i1], .cons r1 i2⟩
theorem s_augF (O : Ok X G P W k) {o e : Expr} {eo ee : Ex} {f : Nat} {x : Str} {op : Bop} {pos tpos : Pos} (ho : PE X o (tE G W (den P eo))) (hv : PE X e (tE G W (den P ee))) (hx : G.fnm f = x) :
    PS X (.AugAssign (.Attribute o x tpos) (bopOf op) e pos) (tSt G W P (.augF eo f op ee)) :=
  (ps_fldaug ho hv (iop_D (G := G) op)).imp fun D σ H ⟨w, env, S, e, p⟩ => by
    rw [denS] at p
    refine ⟨w, env, S, e, (st_E (R := Rep G) e p).mono fun y H1 ⟨w1, c, S1, e1, rc, ex, p1⟩ => ?_⟩
    split at p1
    · rename_i n
      split at p1
      · rename_i cc ns xs hm
        split at p1
        · rename_i d hd
          split at p1
          · rename_i ha
            obtain ⟨hn, rfl⟩ := rep_loc rc
            obtain ⟨dx, fs, eH, en, t⟩ := S1.lv n _ hm
            obtain ⟨v, hl, rv⟩ := getF_some O.cls.inj en t hd
            obtain ⟨hc, hno⟩ := O.cls.no _ _ ha
            rw [hx] at hl hno
            rw [← O.B.K] at hc hno
            refine ⟨_, _, dx, fs, v, rfl, eH, hc, hno, hl, w1, env, S1, e1, (st_E (R := Rep G) e1 p1).mono fun z H2 ⟨w2, b, S2, e2, rb, ex2, p2⟩ => ?_⟩
            refine ⟨w2, d, b, S2, rv.ext ex2, rb, ?_⟩
            cases q2 : iopD op d b w2.m with
            | bad => rw [q2] at p2; exact p2
            | err x m => exact (iopD_ne q2).elim
            | ok y m2 =>
              rw [q2] at p2
              intro t3 H3 w3 em3 st3 S3 r3
              subst em3
              rw [Res.st_ok] at p2
              split at p2
              · rename_i c' ns' xs' hm3
                split at p2
                · rename_i hcc
                  obtain ⟨rfl, hz⟩ := hcc
                  obtain ⟨dx', fs', eH3, en3, tt3⟩ := S3.lv n _ hm3
                  have er : w3.r n = w1.r n := by rw [st3.ext.rho n (Nat.lt_of_lt_of_le hn ex2.len), ex2.rho n hn]
                  rw [er] at eH3
                  have hfs : fs'.length < 1000 := by
                    have := tt3.length
                    rw [List.length_map] at this
                    omega
                  refine ⟨dx', fs', eH3, hfs, ?_⟩
                  obtain ⟨q1, q2'⟩ := put_rep O.cls.inj hx r3 en3 tt3
                  have hr : MRep G (w3.wr n (.ins c' (putN f ns') (putX f y ns' xs'))) (upd H3 (w3.r n) (.ins (G.cadr c') dx' (putF x t3 fs'))) (w3.r n) (.ins c' (putN f ns') (putX f y ns' xs')) :=
                    ⟨dx', _, upd_same, q1, RepL.ext q2' (Ext.wr w3 n _)⟩
                  rw [← er]
                  exact p2 σ _ (w3.wr n _) rfl (st3.trans (Stp.wr S3 hm3 rfl)) (S3.wr hm3 rfl hr) (((e2.ext st3.ext).ext (Ext.wr w3 n _)))
                · exact p2.elim
              · exact p2.elim
          · exact p1.elim
        · exact p1.elim
      · exact p1.elim
    · exact p1.elim
/-! ### for -/
theorem for_of {t : Tg} {it : It} {body : List St} {D : Ends} {σ : L2.St} {H : Hp} (h : tSt G W P (.loop t it body) D σ H) : tFor (tG G (RIv G) W (denI P it)) (gT G P t) (tSs G W P body) D σ H := by
  obtain ⟨w, env, S, e, p⟩ := h
  rw [denS] at p
  refine ⟨w, env, S, e, (st_E (R := RIv G) e p).mono fun J H1 ⟨w1, v, S1, e1, riv, _, p1⟩ => ?_⟩
  refine ⟨fun i m σ H2 => m = v.items.length - i ∧ i ≤ v.items.length ∧ ∃ w2 env2, SR G w2 H2 ∧ Ext w1 w2 ∧ EnvR G w2 env2 σ ∧
    PostS G W w2 H2 D (loopGo v (fun d env' m2 => (denT P t d env' m2).stN fun env2 m3 => denSs P body env2 m3) (v.items.drop i) env2 w2.m), ⟨_, rfl, Nat.zero_le _, w1, env, S1, .refl w1, e1, p1⟩, ?_⟩
  rintro i m σ2 H2 ⟨rfl, hi, w2, env2, S2, ex2, e2, q2⟩
  by_cases hlt : i < v.items.length
  · have hdrop : v.items.drop i = v.items[i] :: v.items.drop (i + 1) := List.drop_eq_getElem_cons hlt
    rw [hdrop, loopGo] at q2
    unfold stillS at q2
    split at q2
    · rename_i hst
      obtain ⟨hgo, _⟩ := riv w2 H2 ex2 S2 hst
      obtain ⟨go, yld⟩ := hgo i v.items[i] (by simp [hlt])
      refine .inr ⟨go, fun σ3 H3 => i + 1 ≤ v.items.length ∧ ∃ w2 env2, SR G w2 H3 ∧ Ext w1 w2 ∧ EnvR G w2 env2 σ3 ∧
        PostS G W w2 H3 D (loopGo v (fun d env' m2 => (denT P t d env' m2).stN fun env2 m3 => denSs P body env2 m3) (v.items.drop (i + 1)) env2 w2.m), fun σ' H' z => ⟨v.items.length - (i + 1), by omega, rfl, z⟩, fun x H' y => ?_⟩
      obtain ⟨w3, em3, st3, S3, r3⟩ := yld x H' y
      have q3 := PostS.step q2 st3
      rw [← em3] at q3
      refine ⟨w3, env2, v.items[i], S3, e2.ext st3.ext, r3, ?_⟩
      cases hT : denT P t v.items[i] env2 w3.m with
      | bad => rw [hT] at q3; exact q3.elim
      | err y m => rw [hT] at q3; exact q3.elim
      | ok env4 m4 =>
        rw [hT, Res.stN_ok] at q3
        intro σ4 H4 w4 em4 st4 S4 e4 _
        subst em4
        have q4 := PostS.step q3 st4
        refine ⟨w4, env4, S4, e4, ?_⟩
        have ex4 : Ext w1 w4 := (ex2.trans st3.ext).trans st4.ext
        cases hB : denSs P body env4 w4.m with
        | bad => rw [hB] at q4; exact q4
        | err y e m => rw [hB] at q4; exact q4
        | ok f env5 m5 =>
          rw [hB] at q4
          cases f with
          | nx =>
            intro σ5 H5 w5 em5 st5 S5 e5
            subst em5
            exact ⟨by omega, w5, env5, S5, ex4.trans st5.ext, e5, PostS.step q4 st5⟩
          | ct =>
            intro σ5 H5 w5 em5 st5 S5 e5
            subst em5
            exact ⟨by omega, w5, env5, S5, ex4.trans st5.ext, e5, PostS.step q4 st5⟩
          | bk => exact q4
          | rt d => exact q4
    · exact q2.elim
  · have hie : i = v.items.length := by omega
    subst hie
    rw [List.drop_length, loopGo] at q2
    unfold stillS at q2
    split at q2
    · rename_i hst
      exact .inl ⟨(riv w2 H2 ex2 S2 hst).2, q2 σ2 H2 w2 rfl (.refl _ _) S2 e2⟩
    · exact q2.elim
theorem s_for (O : Ok X G P W k) {tg iter : Expr} {body : List Stmt} {t : Tg} {it : It} {body' : List St} {pos : Pos} (hi : PI X tg iter (tG G (RIv G) W (denI P it))) (hg : PG X tg (gT G P t)) (hb : PSs X body (tSs G W P body')) (hs : ∀ x, foldedSetIterable iter X.env x = pure x) :
    PS X (.For tg iter body [] pos) (tSt G W P (.loop t it body')) := (ps_for O.po O.B.calm hi hg hb hs).imp fun D σ H h => for_of h
/-! ### while -/
theorem s_while (O : Ok X G P W k) {c : Expr} {cc : Cn} {body : List Stmt} {body' : List St} {pos : Pos} (hc : PT X c (tB' G W (denC P cc))) (hb : PSs X body (tSs G W P body')) : PS X (.While c body [] pos) (tSt G W P (.whl cc body')) :=
  (ps_while O.po hc hb).imp fun D σ H ⟨w, env, S, e, p⟩ => by
    rw [denS] at p
    refine ⟨fun m σ2 H2 => ∃ w2 env2, SR G w2 H2 ∧ EnvR G w2 env2 σ2 ∧ PostS G W w2 H2 D (whlGo (denC P cc) (denSs P body') m env2 w2.m), ⟨_, w, env, S, e, p⟩, ?_⟩
    rintro m σ2 H2 ⟨w2, env2, S2, e2, p2⟩
    cases m with
    | zero => rw [whlGo] at p2; exact p2.elim
    | succ m =>
      rw [whlGo] at p2
      refine ⟨w2, env2, S2, e2, (st_E (R := REq) e2 p2).mono fun b H3 ⟨w3, a, S3, e3, r, _, p3⟩ => ?_⟩
      cases r
      cases b with
      | false =>
        simp only [Bool.false_eq_true, if_false] at p3 ⊢
        exact p3 σ2 H3 w3 rfl (.refl _ _) S3 e3
      | true =>
        simp only [if_true] at p3 ⊢
        refine ⟨fun σ4 H4 => ∃ w4 env4, SR G w4 H4 ∧ EnvR G w4 env4 σ4 ∧ PostS G W w4 H4 D (whlGo (denC P cc) (denSs P body') m env4 w4.m), fun σ' H' z => ⟨m, Nat.lt_succ_self m, z⟩, w3, env2, S3, e3, ?_⟩
        cases hB : denSs P body' env2 w3.m with
        | bad => rw [hB] at p3; exact p3
        | err y e m => rw [hB] at p3; exact p3
        | ok f env5 m5 =>
          rw [hB] at p3
          cases f with
          | nx =>
            intro σ5 H5 w5 em5 st5 S5 e5
            subst em5
            exact ⟨w5, env5, S5, e5, PostS.step p3 st5⟩
          | ct =>
            intro σ5 H5 w5 em5 st5 S5 e5
            subst em5
            exact ⟨w5, env5, S5, e5, PostS.step p3 st5⟩
          | bk => exact p3
          | rt d => exact p3
end
end DL

/-! DLa: dicts whose keys are tuples -/
namespace DL
open PySem PySem.Spec PyProof.Rows L2
/-- the items of the locked dict at d, each a new pair -/
def ItiT (d : Addr) (o : Obj) (kvs : List (List Key × V)) : L2.It :=
  ⟨fun i H => H d = some (.frz o (.dT kvs)) ∧ i < kvs.length,
   fun i H x H' => ∃ (T q : Addr) (k : List Key) (v : V), kvs[i]? = some (k, v) ∧ x = .ref T ∧ H T = none ∧ H q = some (.tup (k.map kV)) ∧ H' = upd H T (.tup [.ref q, v]),
   fun i H => H d = some (.frz o (.dT kvs)) ∧ kvs.length ≤ i⟩
section
variable {X : Cx} {pins : List (Addr × Obj)} {σ : L2.St} {H : Hp} {s : Shared}
theorem frzT2 {d : Addr} {o : Obj} {kvs : List (List Key × V)} (I : Inv X pins σ H s) (h : H d = some (.frz o (.dT kvs))) :
    (d == sysModules) = false ∧ ∃ (es : Array DictEntry) (ep : Nat), DT.Raw s.heap d es ep ∧ o.data = .dict es ep ∧ es.size = kvs.length ∧
      ∀ (i : Nat) (k : List Key) (v : V), kvs[i]? = some (k, v) → ∃ (en : DictEntry) (q : Addr), es[i]? = some en ∧ en.key = .ref q ∧ H q = some (.tup (k.map kV)) ∧ RelV v en.val := by
  obtain ⟨hd, z, hs, xs, pr, o', es, ep, ho, hx, hdt, he, _⟩ := I.hok d _ h
  rw [hd] at ho
  cases ho
  refine ⟨hs, es, ep, ⟨o, hd, hx, hdt⟩, hdt, ?_, fun i k v e => ?_⟩
  · have l1 : es.size = xs.length := size_of_entries he
    have l2 : kvs.length = xs.length := Paired.length pr
    omega
  · obtain ⟨b, hb, e1, e2, e3⟩ := L2.paired_get pr e
    have q := entry_at he i
    rw [hb] at q
    exact ⟨_, b.2.1, q, rfl, e2, e3⟩
end
theorem turn_itemsT {P : Program} {w : World} {K : PySem.W.Frag} {d : Addr} {o : Obj} {es : Array DictEntry} {ep : Nat} {kvs : List (List Key × V)} {elts : List Expr} {kk : Nat} {tpos : Pos} (it : Addr) (hod : o.data = .dict es ep) :
    Turn P w K (.Tuple elts kk tpos) (ItiT d o kvs) [it] it (fun i h => ∃ ok ov, IsItemIter h it d i kvs.length ep ok ov) where
  mem := by simp
  obj := fun i h st b hb => by
    have e : b = it := by simpa using hb
    subst e
    obtain ⟨ok, ov, e⟩ := st
    exact ⟨_, e, fun v z => nomatch z⟩
  keep := fun i h h' st k => let ⟨ok, ov, e⟩ := st; ⟨ok, ov, k it (by simp) _ e⟩
  item := by
    intro X hP hw hK hc i pins s σ H E I hf st hg
    subst hP hw hK
    obtain ⟨hd, hi⟩ := hg
    obtain ⟨hs, es', ep', hm, hdt, hsz, ent⟩ := frzT2 I hd
    obtain ⟨rfl, rfl⟩ := dict_ep hod hdt
    obtain ⟨⟨k, v⟩, hkv⟩ : ∃ p, kvs[i]? = some p := ⟨kvs[i], List.getElem?_eq_getElem hi⟩
    obtain ⟨en, q, hen, hkey, hq, rv⟩ := ent i k v hkv
    obtain ⟨ok, ov, he⟩ := st
    rw [← hsz] at he
    have hlt : it < s.heap.objs.size := Heap.lt_size he
    have hie : i < es'.size := by omega
    have hee : es'[i] = en := by rw [Array.getElem?_eq_getElem hie] at hen; exact Option.some.inj hen
    refine DT.nextI he hm hie fun h' ho hT hz hk => ?_
    refine ⟨_, rfl, wpAny_letOwnedTupleGo_items (s := { s with heap := h' }) ho fun h'' he' sb => ?_⟩
    rw [hee] at hT
    have hT2 : h''.get? s.heap.objs.size = some { cls := .type "tuple", data := .seq #[en.key, en.val] } := (sb.2 _ (Nat.ne_of_gt hlt)).trans hT
    have new : ObjOk X.prog X.w (upd H s.heap.objs.size (.tup [.ref q, v])) h'' s.heap.objs.size (.tup [.ref q, v]) :=
      ⟨by show 2 ≤ sizeLine; decide, [en.key, en.val], .cons hkey (.cons rv .nil), ⟨_, hT2, rfl, _, rfl⟩⟩
    have I1 : Inv X pins σ (upd H s.heap.objs.size (.tup [.ref q, v])) { s with heap := h'' } :=
      I.turnedNew (t' := s.toks) (ch := [it]) (fun b ob hb e => (sb.2 b (by simpa using hb)).trans (hk b ob (by simpa using hb) e)) hf (Nat.le_refl _) new
    refine ⟨.ref s.heap.objs.size, _, I1, rfl, ⟨_, q, k, v, hkv, rfl, I.hok.fresh (Nat.le_refl _), hq, rfl⟩, ⟨_, _, by rw [← hsz]; exact he'⟩, fun b hb => ?_⟩
    have e : b = it := by simpa using hb
    rw [e, upd_ne (Nat.ne_of_lt hlt)]
    exact (hf it (by simp)).1
  done := by
    intro X hP hw hK hc i pins s σ H E I hf st hg
    subst hP hw hK
    obtain ⟨hd, hi⟩ := hg
    obtain ⟨f0, f1, f2, f3, f4, f5⟩ := hf it (by simp)
    obtain ⟨hs, es', ep', hm, hdt, hsz, ent⟩ := frzT2 I hd
    obtain ⟨rfl, rfl⟩ := dict_ep hod hdt
    obtain ⟨ok, ov, he⟩ := st
    rw [← hsz] at he
    exact DT.endI (I.ok.hd hc) he hm (by omega) fun h' eb => ⟨rfl, I.turned (t' := s.toks) (fun b ob hb e => eb b ob hb e) f0 f1 f3 f4 f5⟩
  self := fun A i s Q E st h => let ⟨_, _, e⟩ := st; PySem.W.kcp_self e h
/-- .. in d.items(): the dict is not written any more -/
def iItemsT (td : TE) : TI := fun σ H R => td σ H fun x H1 => ∃ d kvs, x = .ref d ∧ H1 d = some (.dT kvs) ∧ ∀ od, R (ItiT d od kvs) (upd H1 d (.frz od (.dT kvs)))
theorem pi_itemsT {X : Cx} {e : Expr} {td : TE} {apos cpos : Pos} {elts : List Expr} {kk : Nat} {tpos : Pos} (he : PE X e td) (hbase : attributeBase e "items" X.env (eval e X.env) = eval e X.env) (hline : (apos.endLine == cpos.line) = true) :
    PI X (.Tuple elts kk tpos) (.Call (.Attribute e "items" apos) [] [] cpos) (iItemsT td) := by
  refine ⟨fun pins s σ H R I h => ?_⟩
  refine wpAny_Call_method (T := "dict") (id := "dict.items") hbase rfl hline F.plainAttrs_dict F.slot_dict_items F.type_dict_items (thn (he.run pins s σ H _ I h) fun u s1 ⟨x, H1, I0, rx, d, kvs, ex, hd, q⟩ => ?_)
  subst ex
  obtain rfl : u = Value.ref d := rx
  obtain ⟨od, I1⟩ := I0.lock hd True.intro
  obtain ⟨hs, es, ep, hm, hdt, hsz, ent⟩ := frzT2 I1 upd_same
  have q := q od
  refine ⟨hm.typeIs, ?_, ?_⟩
  · intro b z
    cases z
    obtain ⟨o, ho, hx, _⟩ := hm
    exact ⟨o, ho, hx.2.1⟩
  have I2 : Inv X pins σ _ { s1 with heap := s1.heap.push { cls := .type "dict_items", data := .fields #[.ref d] } } := I1.kept (t' := s1.toks) fun b o q => Heap.get?_push_of_some _ q
  have fin : wpAny (model X.prog X.w) X.A (pyIter (.ref s1.heap.objs.size)) (PIE X pins σ (.Tuple elts kk tpos) R) X.xe { s1 with heap := s1.heap.push { cls := .type "dict_items", data := .fields #[.ref d] } } := by
    refine DT.iterI (d := d) ⟨_, Heap.get?_push_size _ rfl, rfl, rfl⟩ (hm.push _) (pi_one (tk := s1.toks) I2 _ (turn_itemsT _ hdt) ⟨.none, .none, ?_⟩ q)
    rw [← hsz]
    exact Heap.get?_push_size _ rfl
  show wpAny _ _ (callWith cpos (.builtin "dict.items") [.ref d] [] []) _ X.xe s1
  exact method_meetsIn F.slot_dict_items F.entry_dict_items rfl (PySem.evalArgs_none ⟨rfl, hm.typeIs, F.args_dict_items_1 _, _, DT.meetsItems hs, ⟨hm, fin⟩⟩)
end DL

/-! DLb: dict comprehensions whose keys are tuples -/
namespace DL
open PySem PySem.Spec PyProof.Rows L2
theorem d_dictSetT {X : Cx} {pins : List (Addr × Obj)} {σ : L2.St} {H : Hp} {s : Shared} {E : Value → Shared → Prop} {D b : Addr} {kvs : List (List Key × V)} {k : List Key} {v : V} {r : Value} {Q : Unit → Shared → Prop} (hu : X.A.units < cLine)
    (I : Inv X pins σ H s) (hD : H D = some (.dT kvs)) (hz : kvs.length < sizeLine) (eb : H b = some (.tup (k.map kV))) (rv : RelV v r) (h : ∀ s', Inv X pins σ (upd H D (.dT (putK kvs k v))) s' → Q () s') :
    wpAny (model X.prog X.w) X.A (dictSet D (.ref b) r) Q E s := by
  obtain ⟨z, hd, xs, rel, dd⟩ := dt_of I.hok hD
  have hz' : xs.length ≤ sizeLine := by rw [← Paired.length rel]; exact z
  have hl : (putK kvs k v).length ≤ sizeLine := by have := length_putK kvs k v; omega
  refine wpAny_dictSet_heap (hsz := hz') hu (key_of I.hok eb) dd fun h' dd' hs => h _ ?_
  obtain ⟨q, es, ep, hq, h2, h3, h4, _, h5⟩ := dd'
  refine d_write I (by rw [hD]; exact True.intro) hs ⟨q, hq⟩ ⟨hl, hd, _, (rel.put k eb rv).keeps fun c ys ec => ?_, q, es, ep, hq, h2, h3, h4, h5⟩
  rw [upd_ne (ne_of ec hD (fun z => nomatch z))]
  exact ec
section
variable {X : Cx}
/-- {k: v for target in iter if ..}, keys tuples: D the new dict -/
def tDcT (wi : TI) (g : TG) (tt : TT) (tk tv : TE) (vs : List Nat) : TE := fun σ H Q => wi σ H fun J H1 => ∀ D, H1 D = none → ∃ W : Nat → Nat → Hp → Prop, (∃ m, W 0 m (upd H1 D (.dT []))) ∧ ∀ i m H, W i m H →
  (J.stop i H ∧ Q (.ref D) H) ∨ (J.go i H ∧ ∃ Nx : Hp → Prop, (∀ H', Nx H' → ∃ m', m' < m ∧ W (i + 1) m' H') ∧ ∀ x H', J.yld i H x H' → g x (wipe σ vs) H' fun σ2 H2 => wipe σ2 vs = wipe σ vs ∧ tt σ2 H2 fun b H3 =>
    if b = true then tk σ2 H3 fun y H4 => tv σ2 H4 fun z H5 => ∃ kvs k b, y = .ref b ∧ H5 b = some (.tup (k.map kV)) ∧ H5 D = some (.dT kvs) ∧ kvs.length < sizeLine ∧ Nx (upd H5 D (.dT (putK kvs k z))) else Nx H3)
/-- the block of such a comprehension -/
theorem dcT_run {pins : List (Addr × Obj)} {s : Shared} {σ : L2.St} {H : Hp} {Q : VK} {pos' : Pos} {use : Option (Value → Sem Unit)} {Qf : Value → Shared → Prop} {kx vx tg iter : Expr} {ifs : List Expr} {scope : Scope} {own : List (Str × Nat)} {pos : Pos} {wi : TI} {g : TG} {tt : TT} {tk tv : TE} (hu : X.A.units < cLine) (hc : X.calm = true) (hN : X.N.Nodup) (hi : PI X tg iter wi) (ok : BlkOk X.N X.env.scope scope own)
    (hg : ∀ (s : Shared) (H : Hp) (C : Addr) (cl : List (Str × Addr)) (fp : List Addr), PG (X.blk s H scope (compEnvC scope cl C X.env) fp) tg g)
    (ht : ∀ (s : Shared) (H : Hp) (C : Addr) (cl : List (Str × Addr)) (fp : List Addr), PTs (X.blk s H scope (compEnvC scope cl C X.env) fp) ifs tt)
    (hk : ∀ (s : Shared) (H : Hp) (C : Addr) (cl : List (Str × Addr)) (fp : List Addr), PE (X.blk s H scope (compEnvC scope cl C X.env) fp) kx tk)
    (he : ∀ (s : Shared) (H : Hp) (C : Addr) (cl : List (Str × Addr)) (fp : List Addr), PE (X.blk s H scope (compEnvC scope cl C X.env) fp) vx tv)
    (hs : ∀ x, foldedSetIterable iter X.env x = pure x) (I : L2.Inv X pins σ H s) (h : tDcT wi g tt tk tv (own.map (·.2)) σ H Q)
    (hR : ∀ D C s' m H', L2.Inv X pins σ H' s' → Q (.ref D) H' → s'.heap.Ns C m → FpOk X pins H' C → compPost (model X.prog X.w) X.A X.xe use Qf (.ref D) C (.ok .next) s') :
    wpAny (model X.prog X.w) X.A (comprehension (.DictComp kx vx [⟨tg, iter, ifs, 0⟩] scope pos) scope X.env pos' newDict false (eval iter X.env) use) Qf X.xe s := by
  have hfree : ∀ y ∈ scope.names, y.2 = .free → ∃ c, X.env.cells.lookup y.1 = some c := fun y hy e =>
    (ok.free y hy e).elim (fun k => I.ok.has _ (.inl k)) (fun k => I.ok.has _ (.inr k))
  refine wpAny_comprehension_free (use := use) rfl hs (closure_ok hfree) ok.kind (fun y hy e => by rw [ok.uniq y hy, e])
    (thn (hi.run pins s σ H _ I h) fun xv s1 hx => thn hx fun itv s2 ⟨it, fp, tn, J, H2, e, I2, T, st2, f2, q⟩ => ?_)
  subst e
  refine wpAny_newObj_type (newEnv_comp ?_)
  obtain ⟨D, hD⟩ : ∃ D, s2.heap.objs.size = D := ⟨_, rfl⟩
  rw [hD]
  obtain ⟨W, ⟨m0, w0⟩, turn⟩ := q D (I2.hok.fresh (Nat.le_of_eq hD))
  obtain ⟨s3, hs3⟩ : ∃ t : Shared, ({ s2 with heap := s2.heap.push { cls := .type "dict", data := .dict #[] } } : Shared) = t := ⟨_, rfl⟩
  have h3 : s3.heap = s2.heap.push { cls := .type "dict", data := .dict #[] } := by rw [← hs3]
  have I3 : L2.Inv X pins σ (upd H2 D (.dT [])) s3 := by
    rw [← hs3]
    exact I2.laid (t' := s2.toks) (fun b o e => Heap.get?_push_of_some _ e) (Nat.le_of_eq hD) (by rw [← hD]; exact dt_empty s2.heap I2.big)
  have f3 : ∀ b ∈ fp, FpOk X pins (upd H2 D (.dT [])) b ∧ b < s3.heap.objs.size := fun b hb => by
    obtain ⟨o, e, _⟩ := T.obj _ _ st2 b hb
    have hlt := Heap.lt_size e
    refine ⟨⟨?_, (f2 b hb).2⟩, by rw [h3, Heap.size_push]; exact Nat.lt_succ_of_lt hlt⟩
    rw [upd_ne (by rw [← hD]; exact Nat.ne_of_lt hlt)]
    exact (f2 b hb).1
  have I4 := block_start I3 ok hN f3
  obtain ⟨ce, hce⟩ : ∃ c, compEnvC scope (cellsFrom (s3.heap.objs.size + 1) scope.names (cloFrom X.env.cells scope.names [])) s3.heap.objs.size X.env = c := ⟨_, rfl⟩
  have pg : PG (X.blk s3 (upd H2 D (.dT [])) scope ce fp) tg g := by rw [← hce]; exact hg _ _ _ _ _
  have pt : PTs (X.blk s3 (upd H2 D (.dT [])) scope ce fp) ifs tt := by rw [← hce]; exact ht _ _ _ _ _
  have pk : PE (X.blk s3 (upd H2 D (.dT [])) scope ce fp) kx tk := by rw [← hce]; exact hk _ _ _ _ _
  have pe : PE (X.blk s3 (upd H2 D (.dT [])) scope ce fp) vx tv := by rw [← hce]; exact he _ _ _ _ _
  have cL : ce.locals = s3.heap.objs.size := by rw [← hce]; rfl
  suffices goal : codeAny (model X.prog X.w) X.A (.compStart (.DictComp kx vx [⟨tg, iter, ifs, 0⟩] scope pos) 0 (.ref it) (.ref D) ce)
      (compPost (model X.prog X.w) X.A X.xe use Qf (.ref D) s3.heap.objs.size)
      { s3 with heap := pushCells (s3.heap.push { cls := .type "dict", data := .dict #[] }) scope.names } by
    subst hs3
    subst hce
    subst hD
    exact goal
  rw [hce] at I4
  have st3 : tn 0 s3.heap := T.keep _ _ _ st2 fun b _ o e => by rw [h3]; exact Heap.get?_push_of_some _ e
  have nfp : ∀ b ∈ fp, (upd H2 D (.dT [])) b = none := fun b hb => (f3 b hb).1.1
  obtain ⟨s4, hs4⟩ : ∃ t : Shared, ({ s3 with heap := pushCells (s3.heap.push { cls := .type "dict", data := .dict #[] }) scope.names } : Shared) = t := ⟨_, rfl⟩
  rw [hs4] at I4 ⊢
  have st4 : tn 0 s4.heap := T.keep _ _ _ st3 fun b _ o e => by rw [← hs4]; exact pushCells_keeps _ _ _ _ (Heap.get?_push_of_some _ e)
  obtain ⟨H3, hH3⟩ : ∃ K, upd H2 D (.dT []) = K := ⟨_, rfl⟩
  rw [hH3] at I3 I4 pg pt pk pe w0 nfp f3
  have stat : ∀ {σ' : L2.St} {H' : Hp} {s' : Shared}, L2.Inv (X.blk s3 H3 scope ce fp) [] σ' H' s' → (∀ b ∈ fp, H' b = none) → ∀ b ∈ fp, FpOk (X.blk s3 H3 scope ce fp) [] H' b := fun {σ' H' s'} I' hn b hb =>
    ⟨hn b hb, (I'.ok.exf b hb).1, I'.ok.exfs b hb, .inl hb, fun x c e => (I'.ok.exf b hb).2 x c e, fun p hp => absurd (show p ∈ ([] : List (Addr × Obj)) ++ [] from hp) (by simp)⟩
  have loop : codeAny (model X.prog X.w) X.A (.compLoop (.DictComp kx vx [⟨tg, iter, ifs, 0⟩] scope pos) 0 (.ref it) (.ref D) ce) (compPost (model X.prog X.w) X.A X.xe use Qf (.ref D) s3.heap.objs.size) s4 := by
    refine compLoop_anyD (fun n s' => ∃ i H', L2.Inv (X.blk s3 H3 scope ce fp) [] (wipe σ (own.map (·.2))) H' s' ∧ tn i s'.heap ∧ (∀ b ∈ fp, H' b = none) ∧ W i n H') ?_ m0 ⟨0, H3, I4, st4, nfp, w0⟩
    rintro n s5 ⟨i, H5, I5, st5, n5, w5⟩
    rcases turn i n H5 w5 with ⟨stop, qq⟩ | ⟨go, Nx, hNx, step⟩
    · refine thnF (T.done (X.blk s3 H3 scope ce fp) rfl rfl rfl hc i [] s5 _ H5 (fun _ _ => False) I5 (stat I5 n5) st5 stop) fun r s6 ⟨hr, I6⟩ => ?_
      subst hr
      have I7 : L2.Inv X pins σ H5 s6 := I3.call' (ch := fp) I6.os I6.base I6.hok I6.bare fun b hb => ⟨(f3 b hb).1.2.2.2.1, (f3 b hb).1.2.1, (f3 b hb).1.2.2.2.2.1, (f3 b hb).1.2.2.2.2.2⟩
      have nC : H5 s3.heap.objs.size = none := by rw [← cL]; exact I6.free
      obtain ⟨m, hn, _⟩ := I6.loc
      have hn : s6.heap.Ns ce.locals m := hn
      rw [cL] at hn
      exact hR D s3.heap.objs.size s6 m H5 I7 qq hn (I3.fpOk (Nat.le_refl _) nC)
    · refine thnF (T.item (X.blk s3 H3 scope ce fp) rfl rfl rfl hc i [] s5 _ H5 (fun _ _ => False) I5 (stat I5 n5) st5 go) fun r s6 ⟨u, hr, h6⟩ => ?_
      subst hr
      refine thnF h6 fun _ s7 ⟨x, H7, I7, r7, y7, st7, n7⟩ => ?_
      refine thnF (pg.run _ s7 _ H7 x u _ (I7.pinned (stat I7 n7) (T.obj _ _ st7)) r7 (step x H7 y7)) fun _ s8 ⟨σ8, H8, I8, hw8, q8⟩ => ?_
      refine thnF (pt.run _ s8 σ8 H8 _ I8 q8) fun b s9 ⟨H9, I9, q9⟩ => ?_
      have fin : ∀ {s' : Shared} {H' : Hp}, L2.Inv (X.blk s3 H3 scope ce fp) ([] ++ pinsAt fp s7.heap) σ8 H' s' → Nx H' → ∃ m, m < n ∧ ∃ i H', L2.Inv (X.blk s3 H3 scope ce fp) [] (wipe σ (own.map (·.2))) H' s' ∧ tn i s'.heap ∧ (∀ b ∈ fp, H' b = none) ∧ W i m H' := fun {s' H'} I' nx => by
        obtain ⟨m', hm, w'⟩ := hNx H' nx
        have pin' : ∀ b ∈ fp, ∀ o, s7.heap.get? b = some o → s'.heap.get? b = some o ∧ H' b = none := fun b hb o e =>
          let z := I'.pin (b, o) (List.mem_append_right _ (List.mem_append_right _ (mem_pinsAt hb e)))
          ⟨z.1, z.2.1⟩
        refine ⟨m', hm, i + 1, H', (I'.unpinned (pins := [])).weak (by rw [← hw8, wipe_length]) (fun j v e => ?_), T.keep _ _ _ st7 fun b hb o e => (pin' b hb o e).1, fun b hb => ?_, w'⟩
        · rw [← hw8] at e
          exact (wipe_some e).1
        · obtain ⟨o, e, _⟩ := T.obj _ _ st7 b hb
          exact (pin' b hb o e).2
      cases b with
      | false =>
        simp only [Bool.false_eq_true, if_false] at q9 ⊢
        exact fin I9 q9
      | true =>
        simp only [if_true] at q9 ⊢
        refine thnF (pk.run _ s9 σ8 H9 _ I9 q9) fun z s10 ⟨yk, H10, I10, r10, q10⟩ => ?_
        refine thnF (pe.run _ s10 σ8 H10 _ I10 q10) fun z2 s11 ⟨yv, H11, I11, r11, kvs, k, b, ek, eb, hD11, hz11, nx⟩ => ?_
        subst ek
        cases r10
        exact d_dictSetT (X := X.blk s3 H3 scope ce fp) hu I11 hD11 hz11 eb r11 fun s12 I12 => fin I12 nx
  exact codeAny_compStart_dict loop (T.self X.A 0 _ _ _ st4 loop)
/-- as a value -/
theorem pe_dcT {kx vx tg iter : Expr} {ifs : List Expr} {scope : Scope} {own : List (Str × Nat)} {pos : Pos} {wi : TI} {g : TG} {tt : TT} {tk tv : TE} (hu : X.A.units < cLine) (hc : X.calm = true) (hN : X.N.Nodup) (hi : PI X tg iter wi) (ok : BlkOk X.N X.env.scope scope own)
    (hg : ∀ (s : Shared) (H : Hp) (C : Addr) (cl : List (Str × Addr)) (fp : List Addr), PG (X.blk s H scope (compEnvC scope cl C X.env) fp) tg g)
    (ht : ∀ (s : Shared) (H : Hp) (C : Addr) (cl : List (Str × Addr)) (fp : List Addr), PTs (X.blk s H scope (compEnvC scope cl C X.env) fp) ifs tt)
    (hk : ∀ (s : Shared) (H : Hp) (C : Addr) (cl : List (Str × Addr)) (fp : List Addr), PE (X.blk s H scope (compEnvC scope cl C X.env) fp) kx tk)
    (he : ∀ (s : Shared) (H : Hp) (C : Addr) (cl : List (Str × Addr)) (fp : List Addr), PE (X.blk s H scope (compEnvC scope cl C X.env) fp) vx tv)
    (hs : ∀ x, foldedSetIterable iter X.env x = pure x) :
    PE X (.DictComp kx vx [⟨tg, iter, ifs, 0⟩] scope pos) (tDcT wi g tt tk tv (own.map (·.2))) := by
  refine ⟨fun pins s σ H Q I h => ?_⟩
  rw [arm_eval_DictComp]
  refine dcT_run hu hc hN hi ok hg ht hk he hs I h fun D C s' m H' I' q hn ⟨g0, g1, g2, g3, g4, g5⟩ => ⟨m, hn, fun h'' sb => ?_⟩
  exact ⟨.ref D, H', I'.turned (t' := s'.toks) (fun b o hb e => (sb.2 b hb).trans e) g0 g1 g3 g4 g5, rfl, q⟩
/-- name = {..} on one line, the name a local -/
theorem ps_setDcT {i : Nat} {y : Str} {py spos : Pos} {kx vx tg iter : Expr} {ifs : List Expr} {scope : Scope} {own : List (Str × Nat)} {pos : Pos} {wi : TI} {g : TG} {tt : TT} {tk tv : TE} (hy : X.N[i]? = some y) (hyl : X.env.scope.names.lookup y = some .local)
    (hsw : swapsWith (.DictComp kx vx [⟨tg, iter, ifs, 0⟩] scope pos) (some (.Name y py)) spos.line X.env = pure true) (hu : X.A.units < cLine) (hc : X.calm = true) (hN : X.N.Nodup) (hi : PI X tg iter wi) (ok : BlkOk X.N X.env.scope scope own)
    (hg : ∀ (s : Shared) (H : Hp) (C : Addr) (cl : List (Str × Addr)) (fp : List Addr), PG (X.blk s H scope (compEnvC scope cl C X.env) fp) tg g)
    (ht : ∀ (s : Shared) (H : Hp) (C : Addr) (cl : List (Str × Addr)) (fp : List Addr), PTs (X.blk s H scope (compEnvC scope cl C X.env) fp) ifs tt)
    (hk : ∀ (s : Shared) (H : Hp) (C : Addr) (cl : List (Str × Addr)) (fp : List Addr), PE (X.blk s H scope (compEnvC scope cl C X.env) fp) kx tk)
    (he : ∀ (s : Shared) (H : Hp) (C : Addr) (cl : List (Str × Addr)) (fp : List Addr), PE (X.blk s H scope (compEnvC scope cl C X.env) fp) vx tv)
    (hs : ∀ x, foldedSetIterable iter X.env x = pure x) :
    PS X (.Assign [.Name y py] (.DictComp kx vx [⟨tg, iter, ifs, 0⟩] scope pos) spos) (tAsg (tDcT wi g tt tk tv (own.map (·.2))) (gName i)) := by
  refine ⟨fun pins s σ H D I h => ?_⟩
  rw [exec_Assign_Name_used _ _ _ _ hsw]
  refine wpAny_bind (wpAny_standAt (wpAny_bind ?_))
  show wpAny _ X.A (do let _ ← comprehension (.DictComp kx vx [⟨tg, iter, ifs, 0⟩] scope pos) scope X.env (firstIterPos [⟨tg, iter, ifs, 0⟩] pos) newDict false (eval iter X.env) (some (assign (.Name y py) X.env))) _ _ s
  have h : tDcT wi g tt tk tv (own.map (·.2)) σ H (fun x H1 => gName i x σ H1 D.nx) := h
  refine wpAny_bind (thn (dcT_run (Qf := fun _ s' => SP X pins D .next s') hu hc hN hi ok hg ht hk he hs I h fun L C s' m H' I' q hn f => ?_) fun _ s' hq => wpAny_pure (wpAny_pure hq))
  show wpAny _ _ (assign (.Name y py) X.env (.ref L)) _ _ _
  refine wpAny_assign_Name (store_ok2 (v := V.ref L) I' hN hy (.inl hyl) rfl (fun s2 I2 ⟨a, sb, ha⟩ => ?_) (.inr hyl))
  obtain ⟨f0, f1, f2, f3, f4, f5⟩ := f
  have haC : C ≠ a := ha.elim (fun z => by rw [z]; exact f1) fun z e => f4 y a z e.symm
  exact ⟨m, hn.sameBut sb haC, fun h3 sb3 => ⟨_, H', I2.turned (t' := s2.toks) (fun b o hb e => (sb3.2 b hb).trans e) f0 f1 f3 f4 f5, q⟩⟩
end
end DL

/-! DLc: dicts whose keys are tuples, by data -/
namespace DL
open PySem PySem.Spec PyProof.Rows L2
section
variable {G : GT} {w : Wd} {H : Hp}
theorem dT_nt {xs : List (List Key × V)} : ∀ ys, HO.dT xs ≠ .tup ys := fun _ z => by cases z
theorem keyL_rep {F : Hp} {r : Nat → Addr} {k : Nat} : ∀ {ds : List D} {xs : List V} {ks : List Key}, RepCL G F r k ds xs → keyL ds = some ks → xs = ks.map kV
  | [], xs, ks, t, h => by
    unfold keyL at h; cases h
    exact t.nil_inv
  | .int i :: ds, xs, ks, t, h => by
    obtain ⟨x, ys, rfl, a, t⟩ := t.cons_inv
    unfold keyL at h
    obtain ⟨q, hq, rfl⟩ := Option.map_eq_some_iff.mp h
    unfold RepC at a
    rw [List.map_cons, keyL_rep t hq, a]; rfl
  | .str i :: ds, xs, ks, t, h => by
    obtain ⟨x, ys, rfl, a, t⟩ := t.cons_inv
    unfold keyL at h
    obtain ⟨q, hq, rfl⟩ := Option.map_eq_some_iff.mp h
    unfold RepC at a
    rw [List.map_cons, keyL_rep t hq, a.1]; rfl
  | .non :: ds, xs, ks, t, h | .bl _ :: ds, xs, ks, t, h | .lst _ :: ds, xs, ks, t, h | .tup _ :: ds, xs, ks, t, h | .ins _ _ _ :: ds, xs, ks, t, h | .loc _ :: ds, xs, ks, t, h | .ty _ :: ds, xs, ks, t, h
  | .cls _ :: ds, xs, ks, t, h | .fn _ :: ds, xs, ks, t, h | .rng _ _ :: ds, xs, ks, t, h => by unfold keyL at h; cases h
theorem keyD_rep {y : D} {v : V} {ks : List Key} (r : Rep G w y v) (h : keyD y = some ks) : ∃ b, v = .ref b ∧ w.F b = some (.tup (ks.map kV)) := by
  unfold keyD at h
  split at h
  · obtain ⟨a, xs, e, q, t⟩ := rep_tupF r
    rw [keyL_rep t h] at q
    exact ⟨a, e, q⟩
  · cases h
theorem kD_rep : ∀ {ks : List Key}, ks.all kOk = true → RepL G w (ks.map kD) (ks.map kV)
  | [], _ => .nil
  | k :: ks, h => by
    rw [List.all_cons, Bool.and_eq_true] at h
    refine .cons ?_ (kD_rep h.2)
    cases k with
    | inl i => exact mk_int
    | inr x => exact mk_str (show x.length ≤ sizeLine from of_decide_eq_true h.1)
theorem getT_rep : ∀ {kvs : List (List Key × D)} {ks : List (List Key × V)} {k : List Key} {y : D}, RepKV G w kvs ks → getT kvs k = some y → ∃ v, valV ks k = some v ∧ Rep G w y v
  | _, _, k, y, .nil, h => by simp [getT] at h
  | _, _, k, y, .cons (a := p) (b := q) (l₁ := l) (l₂ := l2) a t, h => by
    by_cases e : p.1 = k
    · have e2 : q.1 = k := a.1.symm.trans e
      rw [valV_pos e2]
      have : getT (p :: l) k = some p.2 := by simp [getT, List.find?_cons, e]
      rw [this] at h; cases h
      exact ⟨_, rfl, a.2⟩
    · have e2 : ¬ q.1 = k := fun z => e (a.1.trans z)
      rw [valV_neg e2]
      have : getT (p :: l) k = getT l k := by simp [getT, List.find?_cons, e]
      rw [this] at h
      exact getT_rep t h
theorem any_rep {k : List Key} : ∀ {kvs : List (List Key × D)} {ks : List (List Key × V)}, RepKV G w kvs ks → (kvs.any fun kv => decide (kv.1 = k)) = (ks.any fun kv => decide (kv.1 = k))
  | _, _, .nil => rfl
  | _, _, .cons a t => by rw [List.any_cons, List.any_cons, any_rep t, a.1]
theorem repl_rep {k : List Key} {y : D} {v : V} (r : Rep G w y v) : ∀ {kvs : List (List Key × D)} {ks : List (List Key × V)}, RepKV G w kvs ks →
    RepKV G w (kvs.map (fun kv => if kv.1 = k then (kv.1, y) else kv)) (ks.map (fun kv => if kv.1 = k then (kv.1, v) else kv))
  | _, _, .nil => .nil
  | _, _, .cons (a := p) (b := q) a t => by
    rw [List.map_cons, List.map_cons]
    refine .cons ?_ (repl_rep r t)
    by_cases e : p.1 = k
    · rw [if_pos e, if_pos (a.1.symm.trans e)]; exact ⟨a.1, r⟩
    · rw [if_neg e, if_neg (fun z => e (a.1.trans z))]; exact a
theorem snoc_rep {k : List Key} {y : D} {v : V} (r : Rep G w y v) : ∀ {kvs : List (List Key × D)} {ks : List (List Key × V)}, RepKV G w kvs ks → RepKV G w (kvs ++ [(k, y)]) (ks ++ [(k, v)])
  | _, _, .nil => .cons ⟨rfl, r⟩ .nil
  | _, _, .cons a t => .cons a (snoc_rep r t)
theorem putT_rep {kvs : List (List Key × D)} {ks : List (List Key × V)} {k : List Key} {y : D} {v : V} (t : RepKV G w kvs ks) (r : Rep G w y v) : RepKV G w (putT kvs k y) (putK ks k v) := by
  unfold putT putK
  rw [any_rep t]
  split
  · exact repl_rep r t
  · exact snoc_rep r t
end
section
variable {X : Cx} {G : GT} {W : WX} {P : Prg} {k : Nat}
theorem i_items {e : Expr} {e' : Ex} {elts : List Expr} {kk : Nat} {tpos apos cpos : Pos} (he : PE X e (tE G W (den P e'))) (hbase : attributeBase e "items" X.env (eval e X.env) = eval e X.env) (hline : (apos.endLine == cpos.line) = true) :
    PI X (.Tuple elts kk tpos) (.Call (.Attribute e "items" apos) [] [] cpos) (tG G (RIv G) W (denI P (.items e'))) := by
  refine ⟨fun pins s σ H R I h => (pi_itemsT he hbase hline).run pins s σ H R I ?_⟩
  refine (tG.bindT (S := Rep G) (g := den P e') (f := fun d _ m1 => itemsI d m1) (tG.of_eq (fun env m => by rw [denI]) h)).mono fun x H1 ⟨w, env, d, S, e, r, p⟩ => ?_
  unfold itemsI at p
  split at p
  · rename_i n
    split at p
    · rename_i kvs hm
      split at p
      · rename_i hk
        obtain ⟨hn, rfl⟩ := rep_loc r
        obtain ⟨ks, hH, t⟩ := S.lv n _ hm
        refine ⟨_, ks, rfl, hH, fun od => ?_⟩
        have ho := S.out n _ hm rfl
        have S1 := S.wr (o' := .gone) (u := .frz od (.dT ks)) hm rfl True.intro
        have st1 := Stp.wr S (o' := .gone) (u := .frz od (.dT ks)) hm rfl
        have q1 : Oth (w.wr n .gone) (w.r n) := ⟨ho, fun i x hi lx => by
          have hi' : (w.m.set n .gone)[i]? = some x := hi
          by_cases h : i = n
          · subst h
            rw [List.getElem?_set_self hn] at hi'
            cases hi'; cases lx
          · rw [List.getElem?_set_ne (Ne.symm h)] at hi'
            exact fun z => h (S.inj i n x _ hi' lx hm rfl z)⟩
        obtain ⟨S2, ex2⟩ := S1.adopt upd_same q1
        have st2 : Stp w H1 ((w.wr n .gone).fz (w.r n) (.frz od (.dT ks))) (upd H1 (w.r n) (.frz od (.dT ks))) := ⟨st1.ext.trans ex2, fun a o nt e q => by
          have ne : a ≠ w.r n := fun h => q.2 n _ hm rfl h.symm
          obtain ⟨e1, q1, q2⟩ := st1.oth a o nt e q
          refine ⟨e1, ?_, q2⟩
          show upd w.F (w.r n) _ a = none
          rw [upd_ne ne]; exact q1⟩
        refine p _ _ _ rfl st2 S2 ?_
        intro w3 H3 e3 S3 _
        have hF : w3.F (w.r n) = some (.frz od (.dT ks)) := e3.sub _ _ (by show upd w.F (w.r n) _ (w.r n) = _; rw [upd_same])
        have hH3 := S3.sub _ _ hF
        have t3 : RepKV G w3 kvs ks := t.ext (st2.ext.trans e3)
        have hl : ks.length = kvs.length := (Paired.length t).symm
        refine ⟨fun i d hd => ?_, ⟨hH3, by show ks.length ≤ (kvs.map itemT).length; rw [List.length_map, hl]; exact Nat.le_refl _⟩⟩
        have hd' : (kvs.map itemT)[i]? = some d := hd
        rw [List.getElem?_map] at hd'
        obtain ⟨p, hp, rfl⟩ := Option.map_eq_some_iff.mp hd'
        obtain ⟨q, hq, hpq⟩ := L2.paired_get t3 hp
        refine ⟨⟨hH3, (List.getElem?_eq_some_iff.mp hq).1⟩, ?_⟩
        rintro x H' ⟨T, qa, k2, v2, hk2, rfl, hT, hqa, rfl⟩
        rw [hq] at hk2
        cases hk2
        have hko : p.1.all kOk = true := List.all_eq_true.mp hk p (List.mem_of_getElem? hp)
        obtain ⟨S4, st4⟩ := S3.tp hqa
        have e1 : p.1 = k2 := hpq.1
        subst e1
        have r1 : Rep G (w3.tp qa (p.1.map kV)) (.tup (p.1.map kD)) (.ref qa) := mk_tup (by show upd w3.F qa _ qa = _; rw [upd_same]) (kD_rep hko)
        obtain ⟨w5, em, st5, S5, r5⟩ := rep_pair (H := H3) S4 hT r1 (hpq.2.ext st4.ext)
        exact ⟨w5, em, st4.trans st5, S5, r5⟩
      · exact p.elim
    · exact p.elim
  · exact p.elim
/-- a turn of a dict comprehension -/
noncomputable def turnK (P : Prg) (t : Tg) (ifs : List Cn) (ke ve : Ex) (env0 : En) (d : D) (m : Me) : Res (Option (D × D)) :=
  (denT P t d env0 m).bind fun env' m3 => (denCs P ifs env' m3).bind fun k m4 => if k then (den P ke env' m4).bind fun y m5 => (den P ve env' m5).bind fun z m6 => .ok (some (y, z)) m6 else .ok none m4
theorem den_dc {ke ve : Ex} {t : Tg} {it : It} {ifs : List Cn} {own : List Nat} {env : En} {m : Me} :
    den P (.dc ke ve t it ifs own) env m = (denI P it env m).bind fun v m1 => (dcGo v (turnK P t ifs ke ve (wipeE env own)) [] v.items m1).bind fun kvs m6 => .ok (.loc m6.length) (m6 ++ [.dT kvs]) := by
  rw [den]
  rfl
theorem post_dc {σ : L2.St} {w0 w : Wd} {H0 H : Hp} {D : Addr} {acc : List (List Key × DL.D)} {xs : List (List Key × V)} {Q : VK} (S : SR G w H) (st : Stp w0 H0 w H) (hD0 : H0 D = none) (hD : H D = some (.dT xs)) (q : Oth w D) (t : RepKV G w acc xs)
    (h : Post G (Rep G) W σ w0 H0 Q (.ok (.loc w.m.length) (w.m ++ [.dT acc]))) : Q (.ref D) H := by
  have S' := S.adoptP (o := .dT acc) hD q ⟨xs, hD, t.ext (Ext.al w D _)⟩
  have e : (w.al D (.dT acc)).r w.m.length = D := if_pos rfl
  have r : Rep G (w.al D (.dT acc)) (.loc w.m.length) (.ref D) := by
    have := mk_loc (G := G) (w := w.al D (.dT acc)) (n := w.m.length) (by show _ < (w.m ++ _).length; simp)
    rw [e] at this; exact this
  refine h (.ref D) H (w.al D (.dT acc)) rfl ⟨st.ext.trans (Ext.al w D _), fun a u nt e qa => ?_⟩ S' r
  obtain ⟨e1, q1, q2⟩ := st.oth a u nt e qa
  refine ⟨e1, q1, fun n x hn l => ?_⟩
  show (if n = w.m.length then D else w.r n) ≠ a
  by_cases h : n = w.m.length
  · rw [if_pos h]; exact (ne_of_none e hD0).symm
  · rw [if_neg h]
    have hn' : (w.m ++ [.dT acc])[n]? = some x := hn
    have hl : n < w.m.length := by
      have := (List.getElem?_eq_some_iff.mp hn').1
      rw [List.length_append, List.length_singleton] at this
      omega
    rw [List.getElem?_append_left hl] at hn'
    exact q2 n x hn' l
theorem dc_of {ke ve : Ex} {t : Tg} {it : It} {ifs : List Cn} {own : List Nat} {σ : L2.St} {H : Hp} {Q : VK} (hown : ∀ i ∈ slT t, i ∈ own) (h : tE G W (den P (.dc ke ve t it ifs own)) σ H Q) :
    tDcT (tG G (RIv G) W (denI P it)) (gT G P t) (tB' G WN (denCs P ifs)) (tE G WN (den P ke)) (tE G WN (den P ve)) own σ H Q := by
  have h := tG.of_eq (g' := fun env m => (denI P it env m).bind fun v m1 => (dcGo v (turnK P t ifs ke ve (wipeE env own)) [] v.items m1).bind fun kvs m6 => .ok (DL.D.loc m6.length) (m6 ++ [MO.dT kvs])) (fun env m => den_dc) h
  refine (tG.bindT (S := RIv G) (g := denI P it) (f := fun v env m1 => (dcGo v (turnK P t ifs ke ve (wipeE env own)) [] v.items m1).bind fun kvs m6 => .ok (DL.D.loc m6.length) (m6 ++ [MO.dT kvs])) h).mono fun J H1 ⟨w, env, v, S, e, riv, q⟩ D hD => ?_
  have hDf := S.free hD
  have oD : Oth w D := ⟨hDf, fun n o hn l z => by
    obtain ⟨u, hu⟩ := (S.lv n o hn).there l
    rw [z, hD] at hu; cases hu⟩
  refine ⟨fun i m H2 => m = v.items.length - i ∧ i ≤ v.items.length ∧ ∃ w2 acc xs, SR G w2 H2 ∧ Stp w H1 w2 H2 ∧ Oth w2 D ∧ H2 D = some (.dT xs) ∧ RepKV G w2 acc xs ∧
    Post G (Rep G) W σ w H1 Q ((dcGo v (turnK P t ifs ke ve (wipeE env own)) acc (v.items.drop i) w2.m).bind fun kvs m6 => .ok (DL.D.loc m6.length) (m6 ++ [MO.dT kvs])), ⟨_, rfl, Nat.zero_le _, w, [], [], S.grow (Hle.put hD), Stp.grow (Hle.put hD), oD, upd_same, .nil, q⟩, ?_⟩
  rintro i m H2 ⟨rfl, hi, w2, acc, xs, S2, st2, o2, hD2, t2, q2⟩
  by_cases hlt : i < v.items.length
  · -- a turn
    have hdrop : v.items.drop i = v.items[i] :: v.items.drop (i + 1) := List.drop_eq_getElem_cons hlt
    rw [hdrop, dcGo] at q2
    unfold stillR at q2
    split at q2
    · rename_i hst
      obtain ⟨hgo, _⟩ := riv w2 H2 st2.ext S2 hst
      obtain ⟨go, yld⟩ := hgo i v.items[i] (by simp [hlt])
      refine .inr ⟨go, fun H3 => v.items.length - (i + 1) = v.items.length - (i + 1) ∧ i + 1 ≤ v.items.length ∧ ∃ w2 acc xs, SR G w2 H3 ∧ Stp w H1 w2 H3 ∧ Oth w2 D ∧ H3 D = some (.dT xs) ∧ RepKV G w2 acc xs ∧
        Post G (Rep G) W σ w H1 Q ((dcGo v (turnK P t ifs ke ve (wipeE env own)) acc (v.items.drop (i + 1)) w2.m).bind fun kvs m6 => .ok (DL.D.loc m6.length) (m6 ++ [MO.dT kvs])), fun H' z => ⟨v.items.length - (i + 1), by omega, z⟩, fun x H' y => ?_⟩
      obtain ⟨w3, em3, st3, S3, r3⟩ := yld x H' y
      obtain ⟨hD3, o3⟩ := st3.oth D _ dT_nt hD2 o2
      have e3 : EnvR G w3 (wipeE env own) (wipe σ own) := EnvR.wipe ((e.ext st2.ext).ext st3.ext) own
      refine ⟨w3, wipeE env own, v.items[i], S3, e3, r3, ?_⟩
      rw [← em3] at q2
      unfold turnK at q2
      cases hT : denT P t v.items[i] (wipeE env own) w3.m with
      | bad => rw [hT] at q2; exact q2.elim
      | err y m => rw [hT] at q2; exact q2.elim
      | ok env' m4 =>
        rw [hT, Res.bind_ok] at q2
        intro σ4 H4 w4 em4 st4 S4 e4 off
        subst em4
        refine ⟨off own hown |>.trans ?_, ?_⟩
        · apply List.ext_getElem?
          intro j
          rw [wipe_get, wipe_get, wipe_length]
          by_cases hj : j ∈ own ∧ j < σ.length
          · rw [if_pos hj, if_pos hj]
          · rw [if_neg hj, if_neg hj]
        · refine ⟨w4, env', S4, e4, ?_⟩
          obtain ⟨hD4, o4⟩ := st4.oth D _ dT_nt hD3 o3
          cases hC : denCs P ifs env' w4.m with
          | bad => rw [hC] at q2; exact q2.elim
          | err y m => rw [hC] at q2; exact q2.elim
          | ok k m5 =>
            rw [hC, Res.bind_ok] at q2
            intro b H5 w5 em5 st5 S5 rb
            subst em5
            cases rb
            obtain ⟨hD5, o5⟩ := st5.oth D _ dT_nt hD4 o4
            have stAll := ((st2.trans st3).trans st4).trans st5
            cases k with
            | false =>
              simp only [Bool.false_eq_true, if_false] at q2 ⊢
              exact ⟨trivial, by omega, w5, acc, xs, S5, stAll, o5, hD5, t2.ext ((st3.trans st4).trans st5).ext, q2⟩
            | true =>
              simp only [if_true] at q2 ⊢
              refine ⟨w5, env', S5, e4.ext st5.ext, ?_⟩
              cases hE : den P ke env' w5.m with
              | bad => rw [hE] at q2; exact q2.elim
              | err y m => rw [hE] at q2; exact q2.elim
              | ok y m6 =>
                rw [hE, Res.bind_ok] at q2
                intro yv H6 w6 em6 st6 S6 ry
                subst em6
                obtain ⟨hD6, o6⟩ := st6.oth D _ dT_nt hD5 o5
                refine ⟨w6, env', S6, (e4.ext st5.ext).ext st6.ext, ?_⟩
                cases hV : den P ve env' w6.m with
                | bad => rw [hV] at q2; exact q2.elim
                | err y m => rw [hV] at q2; exact q2.elim
                | ok z m7 =>
                  rw [hV, Res.bind_ok] at q2
                  intro zv H7 w7 em7 st7 S7 rz
                  subst em7
                  obtain ⟨hD7, o7⟩ := st7.oth D _ dT_nt hD6 o6
                  have q2 : Post G (Rep G) W σ w H1 Q ((match keyD y with
                    | some ks => if acc.length < sizeLine then dcGo v (turnK P t ifs ke ve (wipeE env own)) (putT acc ks z) (v.items.drop (i + 1)) w7.m else .bad
                    | none => .bad).bind fun kvs m6 => .ok (DL.D.loc m6.length) (m6 ++ [MO.dT kvs])) := q2
                  have tt := t2.ext ((((st3.trans st4).trans st5).trans st6).trans st7).ext
                  split at q2
                  · rename_i ks hks
                    split at q2
                    · rename_i hz
                      obtain ⟨b, rfl, hb⟩ := keyD_rep (ry.ext st7.ext) hks
                      exact ⟨xs, ks, b, rfl, S7.sub _ _ hb, hD7, by rw [← Paired.length tt]; exact hz, trivial, by omega, w7, putT acc ks z, putK xs ks zv, S7.updO o7, ((stAll.trans st6).trans st7).upd hD, o7, upd_same, putT_rep tt rz, q2⟩
                    · exact q2.elim
                  · exact q2.elim
    · exact q2.elim
  · -- the end
    have hie : i = v.items.length := by omega
    subst hie
    rw [List.drop_length, dcGo] at q2
    unfold stillR at q2
    split at q2
    · rename_i hst
      exact .inl ⟨(riv w2 H2 st2.ext S2 hst).2, post_dc S2 st2 hD hD2 o2 t2 q2⟩
    · exact q2.elim
theorem e_dc {kx vx tg iter : Expr} {ifs : List Expr} {scope : Scope} {own : List (Str × Nat)} {pos : Pos} {ke ve : Ex} {t : Tg} {it : It} {ifs' : List Cn} (B : Bs X G) (hi : PI X tg iter (tG G (RIv G) W (denI P it))) (ok : BlkOk X.N X.env.scope scope own)
    (hg : ∀ (s : Shared) (H : Hp) (C : Addr) (cl : List (Str × Addr)) (fp : List Addr), PG (X.blk s H scope (compEnvC scope cl C X.env) fp) tg (gT G P t))
    (ht : ∀ (s : Shared) (H : Hp) (C : Addr) (cl : List (Str × Addr)) (fp : List Addr), PTs (X.blk s H scope (compEnvC scope cl C X.env) fp) ifs (tB' G WN (denCs P ifs')))
    (hk : ∀ (s : Shared) (H : Hp) (C : Addr) (cl : List (Str × Addr)) (fp : List Addr), PE (X.blk s H scope (compEnvC scope cl C X.env) fp) kx (tE G WN (den P ke)))
    (he : ∀ (s : Shared) (H : Hp) (C : Addr) (cl : List (Str × Addr)) (fp : List Addr), PE (X.blk s H scope (compEnvC scope cl C X.env) fp) vx (tE G WN (den P ve)))
    (hs : ∀ x, foldedSetIterable iter X.env x = pure x) (hown : ∀ i ∈ slT t, i ∈ own.map (·.2)) :
    PE X (.DictComp kx vx [⟨tg, iter, ifs, 0⟩] scope pos) (tE G W (den P (.dc ke ve t it ifs' (own.map (·.2))))) :=
  (pe_dcT (by have := B.un; omega) B.calm B.nd hi ok hg ht hk he hs).imp fun σ H Q h => dc_of hown h
theorem s_setDc {i : Nat} {y : Str} {py spos : Pos} {kx vx tg iter : Expr} {ifs : List Expr} {scope : Scope} {own : List (Str × Nat)} {pos : Pos} {ke ve : Ex} {t : Tg} {it : It} {ifs' : List Cn} (B : Bs X G) (hy : X.N[i]? = some y) (hyl : X.env.scope.names.lookup y = some .local)
    (hsw : swapsWith (.DictComp kx vx [⟨tg, iter, ifs, 0⟩] scope pos) (some (.Name y py)) spos.line X.env = pure true) (hi : PI X tg iter (tG G (RIv G) W (denI P it))) (ok : BlkOk X.N X.env.scope scope own)
    (hg : ∀ (s : Shared) (H : Hp) (C : Addr) (cl : List (Str × Addr)) (fp : List Addr), PG (X.blk s H scope (compEnvC scope cl C X.env) fp) tg (gT G P t))
    (ht : ∀ (s : Shared) (H : Hp) (C : Addr) (cl : List (Str × Addr)) (fp : List Addr), PTs (X.blk s H scope (compEnvC scope cl C X.env) fp) ifs (tB' G WN (denCs P ifs')))
    (hk : ∀ (s : Shared) (H : Hp) (C : Addr) (cl : List (Str × Addr)) (fp : List Addr), PE (X.blk s H scope (compEnvC scope cl C X.env) fp) kx (tE G WN (den P ke)))
    (he : ∀ (s : Shared) (H : Hp) (C : Addr) (cl : List (Str × Addr)) (fp : List Addr), PE (X.blk s H scope (compEnvC scope cl C X.env) fp) vx (tE G WN (den P ve)))
    (hs : ∀ x, foldedSetIterable iter X.env x = pure x) (hown : ∀ i ∈ slT t, i ∈ own.map (·.2)) :
    PS X (.Assign [.Name y py] (.DictComp kx vx [⟨tg, iter, ifs, 0⟩] scope pos) spos) (tSt G W P (.asg (.name i) (.dc ke ve t it ifs' (own.map (·.2))))) :=
  (ps_setDcT hy hyl hsw (by have := B.un; omega) B.calm B.nd hi ok hg ht hk he hs).imp fun D σ H ⟨w, env, S, e, p⟩ => by
    rw [denS] at p
    refine dc_of hown ⟨w, env, S, e, (st_E (R := Rep G) e p).mono fun v H1 ⟨w1, a, S1, e1, r, _, p1⟩ => ?_⟩
    rw [denT] at p1
    exact p1 _ H1 w1 rfl (.refl _ _) S1 (e1.set i r)
theorem s_augS (O : Ok X G P W k) {o i e : Expr} {eo ei ee : Ex} {op : Bop} {pos tpos : Pos} (ho : PE X o (tE G W (den P eo))) (hi : PE X i (tE G W (den P ei))) (hv : PE X e (tE G W (den P ee))) (hs : isSlice i = false) :
    PS X (.AugAssign (.Subscript o i tpos) (bopOf op) e pos) (tSt G W P (.augS eo ei op ee)) :=
  (ps_daug (by have := O.B.un; omega) ho hi hv (iop_D (G := G) op) (fun ov iv new => by cases i <;> first | rfl | cases hs)).imp fun D σ H ⟨w, env, S, e, p⟩ => by
    rw [denS] at p
    refine ⟨w, env, S, e, (st_E (R := Rep G) e p).mono fun x H1 ⟨w1, c, S1, e1, rc, ex, p1⟩ => ?_⟩
    refine ⟨w1, env, S1, e1, (st_E (R := Rep G) e1 p1).mono fun y H2 ⟨w2, j, S2, e2, rj, ex2, p2⟩ => ?_⟩
    split at p2
    · rename_i n _
      split at p2
      · rename_i kvs ks hm hk
        split at p2
        · rename_i v hv'
          obtain ⟨hn, rfl⟩ := rep_loc (rc.ext ex2)
          obtain ⟨vs, hH, t⟩ := S2.lv n _ hm
          obtain ⟨b, rfl, hb⟩ := keyD_rep rj hk
          obtain ⟨u, hu, ru⟩ := getT_rep t hv'
          refine ⟨w2.r n, u, rfl, (by have := DGet.t (a := w2.r n) (k := ks) hH (S2.sub _ _ hb); rw [hu] at this; exact this), w2, env, S2, e2, (st_E (R := Rep G) e2 p2).mono fun z H3 ⟨w3, d, S3, e3, rd, ex3, p3⟩ => ?_⟩
          refine ⟨w3, v, d, S3, ru.ext ex3, rd, ?_⟩
          cases q2 : iopD op v d w3.m with
          | bad => rw [q2] at p3; exact p3
          | err x m => exact (iopD_ne q2).elim
          | ok y m2 =>
            rw [q2] at p3
            intro t3 H4 w4 em4 st4 S4 r4
            subst em4
            rw [Res.st_ok] at p3
            split at p3
            · rename_i kvs' hm4
              split at p3
              · rename_i hz
                obtain ⟨vs', hH4, t4⟩ := S4.lv n _ hm4
                have er : w4.r n = w2.r n := by rw [st4.ext.rho n (Nat.lt_of_lt_of_le hn ex3.len), ex3.rho n hn]
                rw [er] at hH4
                have hb4 : H4 b = some (.tup (ks.map kV)) := S4.sub _ _ (st4.ext.sub _ _ (ex3.sub _ _ hb))
                refine ⟨_, DPut.t (v := t3) hH4 hb4 (by rw [← Paired.length t4]; exact hz), ?_⟩
                have hr : MRep G (w4.wr n (.dT (putT kvs' ks y))) (upd H4 (w4.r n) (.dT (putK vs' ks t3))) (w4.r n) (.dT (putT kvs' ks y)) := ⟨_, upd_same, RepKV.ext (putT_rep t4 r4) (Ext.wr w4 n _)⟩
                have S5 := S4.wr hm4 rfl hr
                have st5 := Stp.wr S4 (o' := .dT (putT kvs' ks y)) (u := .dT (putK vs' ks t3)) hm4 rfl
                rw [er] at S5 st5
                exact p3 _ _ (w4.wr n _) rfl (st4.trans st5) S5 ((e3.ext st4.ext).ext (Ext.wr w4 n _))
              · exact p3.elim
            · exact p3.elim
        · exact p2.elim
      · exact p2.elim
    · exact p2.elim
end
end DL

/-! DL17: from the syntax to the small language -/
namespace DL
open PySem PySem.Spec PyProof.Rows L2

/-- what the reading of a body is told -/
structure TC where
  N : List Str
  sc : Scope
  fnc : Str → Bool
  gl : List (Str × D)
  bl : Str → Bool
  nm : List Str
  mu : List (Nat × Nat)
  rf : List Nat
  fr : List (Nat × List Nat)

def TC.mut (C : TC) (p : Pos) : Bool := C.mu.contains (p.line, p.col)
def TC.num (C : TC) (x : Str) : Option Nat := C.nm.findIdx? (· == x)
def TC.slot (C : TC) (x : Str) : Option Nat := C.N.findIdx? (· == x)
def visB (sc : Scope) (x : Str) : Bool := match sc.names.lookup x with
  | some .local => true
  | some .cell => true
  | some .free => true
  | _ => false
def locB (C : TC) (x : Str) : Bool := match C.sc.names.lookup x with
  | some .local => true
  | some .cell => C.fnc x
  | _ => false
def glB (sc : Scope) (x : Str) : Bool := match sc.names.lookup x with
  | some .globalImplicit => true
  | _ => false
def plainName (x : Str) : Bool := !(x == ("__debug__" : Str)) && !(x == ("__classdict__" : Str)) && !(x == ("__name__" : Str))
def bltTab : List (Str × Blt) := [("abs", .abs_), ("all", .all_), ("any", .any_), ("bool", .bool_), ("int", .int_), ("len", .len), ("list", .list_), ("max", .max2), ("min", .min2), ("ord", .ord_), ("repr", .repr_), ("str", .str_), ("sum", .sum_), ("tuple", .tuple_), ("isinstance", .isinst)]
def bltOf (x : Str) : Option Blt := bltTab.lookup x
def tyTab : List (Str × String) := [("int", "int"), ("bool", "bool"), ("str", "str"), ("list", "list"), ("tuple", "tuple"), ("dict", "dict")]
def tyOf (x : Str) : Option String := tyTab.lookup x
def bmTab : List (Str × Bm) := [("append", .append), ("insert", .insert), ("pop", .pop), ("clear", .clear), ("extend", .extend), ("count", .count), ("join", .join), ("split", .split), ("startswith", .startswith), ("find", .find)]
def bmOf (x : Str) : Option Bm := bmTab.lookup x
def bopI : Operator → Option Bop
  | .Add => some .add | .Sub => some .sub | .Mult => some .mul | .FloorDiv => some .fdiv | .Mod => some .mod | .Pow => some .pow
  | _ => none
/-- a name: a slot, or a global thing -/
def trN (C : TC) (x : Str) : Ex :=
  if plainName x then
    if visB C.sc x then (match C.slot x with | some i => .var i | none => .bad)
    else if glB C.sc x then (match C.gl.lookup x with
      | some d => .cst d
      | none => if C.bl x then (match tyOf x with | some n => .cst (.ty n) | none => .bad) else .bad)
    else .bad
  else .bad
/-- a built-in function's name -/
def trB (C : TC) (x : Str) : Option Blt := if plainName x && glB C.sc x && (C.gl.lookup x).isNone && C.bl x then bltOf x else none
def isBltN (C : TC) (x nm : Str) : Bool := x == nm && plainName x && glB C.sc x && C.bl x
def relS' (scope sc : Scope) : Scope := relS scope sc
/-- a block's own names, with their slots -/
def ownOf (C : TC) (scope : Scope) : List (Str × Nat) := scope.names.filterMap fun y => match y.2 with
  | .local => (C.slot y.1).map fun i => (y.1, i)
  | .cell => (C.slot y.1).map fun i => (y.1, i)
  | _ => none
def TC.blk (C : TC) (scope : Scope) : TC := { C with sc := relS scope C.sc, fnc := fun x => scope.names.lookup x == some .cell }
def noStars (es : List Expr) : Bool := es.all fun e => !isStar e
/-- the names of keywords -/
def kwNums (C : TC) : List Keyword → Option (List Nat)
  | [] => some []
  | ⟨some x, _, _⟩ :: ks => match C.num x, kwNums C ks with
    | some i, some r => some (i :: r)
    | _, _ => none
  | ⟨none, _, _⟩ :: _ => none
def isTupE : Expr → Bool
  | .Tuple _ _ _ => true
  | _ => false
mutual
def trE (C : TC) : Nat → Expr → Ex
  | 0, _ => .bad
  | n + 1, e => match e with
    | .Constant (.int i) _ _ => .cst (.int i)
    | .Constant (.bool b) _ _ => .cst (.bl b)
    | .Constant .none _ _ => .cst .non
    | .Constant (.str x) _ _ => if x.length ≤ sizeLine then .cst (.str x) else .bad
    | .Name x _ => trN C x
    | .BinOp a op b pos => match bopI op with
      | some o => .bin o (C.mut pos) (trE C n a) (trE C n b)
      | none => .bad
    | .UnaryOp .USub a _ => .neg (trE C n a)
    | .UnaryOp .Not a _ => .not (.val (trE C n a))
    | .BoolOp op es _ => trBs C n op es
    | .IfExp c a b _ => .ite (trC C n c) (trE C n a) (trE C n b)
    | .Compare a [op] [b] _ => if behindInMarks op b then .bad else .cmp op (trE C n a) (trE C n b)
    | .Compare a [o1, o2] [b, c] _ => if lastMarks [o1, o2] [b, c] then .bad else .chain o1 o2 (trE C n a) (trE C n b) (trE C n c)
    | .List es pos => if noStars es then .lst (C.mut pos) (trL C n es) else .bad
    | .Tuple es _ _ => if noStars es then .tup (trL C n es) else .bad
    | .Subscript a (.Slice none none (some (.UnaryOp .USub (.Constant (.int 1) _ _) _)) _) pos => .rev (C.mut pos) (trE C n a)
    | .Subscript a (.Slice lo hi none _) pos => .sl (C.mut pos) (trE C n a) (trO C n lo) (trO C n hi)
    | .Subscript a i _ => if isSlice i then .bad else .ix (trE C n a) (trE C n i)
    | .Attribute o x _ => match C.num x with
      | some i => if superForm o then .bad else .fld (trE C n o) i
      | none => .bad
    | .JoinedStr [v] _ => trE C n v
    | .JoinedStr (v1 :: v2 :: rest) _ => .fstr (trL C n (v1 :: v2 :: rest))
    | .FormattedValue v (-1) none _ => .fmt (trE C n v)
    | .Call (.Name x _) args kws pos => match trB C x with
      | some b => match args, kws with
        | a :: as, [] => if noStars (a :: as) then .blt b (C.mut pos) (trL C n (a :: as)) else .bad
        | _, _ => .bad
      | none => match kwNums C kws with
        | some kn => if noStars args then .app (trN C x) (trL C n args) kn (trK C n kws) else .bad
        | none => .bad
    | .Call (.Attribute o x apos) args kws pos => match C.num x, kwNums C kws with
      | some i, some kn => if !superForm o && noStars args && decide (args.length + kws.length < 29) && (apos.endLine == pos.line) then
          .meth (trE C n o) i (bmOf x) (C.mut pos) (trL C n args) kn (trK C n kws) else .bad
      | _, _ => .bad
    | .ListComp elt [⟨tg, iter, ifs, 0⟩] scope pos =>
      if blkC C.N C.sc scope (ownOf C scope) && noSet iter && (slT (trT (C.blk scope) n tg)).all (fun i => (ownOf C scope).any fun p => p.2 == i) then
        .lc (C.mut pos) (trE (C.blk scope) n elt) (trT (C.blk scope) n tg) (trI C n tg iter) (trIf (C.blk scope) n ifs) ((ownOf C scope).map (·.2))
      else .bad
    | .DictComp kx vx [⟨tg, iter, ifs, 0⟩] scope _ =>
      if blkC C.N C.sc scope (ownOf C scope) && noSet iter && (slT (trT (C.blk scope) n tg)).all (fun i => (ownOf C scope).any fun p => p.2 == i) then
        .dc (trE (C.blk scope) n kx) (trE (C.blk scope) n vx) (trT (C.blk scope) n tg) (trI C n tg iter) (trIf (C.blk scope) n ifs) ((ownOf C scope).map (·.2))
      else .bad
    | _ => .bad
def trL (C : TC) : Nat → List Expr → List Ex
  | 0, es => es.map fun _ => .bad
  | _ + 1, [] => []
  | n + 1, e :: es => trE C n e :: trL C n es
def trK (C : TC) : Nat → List Keyword → List Ex
  | 0, ks => ks.map fun _ => .bad
  | _ + 1, [] => []
  | n + 1, ⟨_, e, _⟩ :: ks => trE C n e :: trK C n ks
def trO (C : TC) : Nat → Option Expr → Option Ex
  | 0, none => none
  | 0, some _ => some .bad
  | _ + 1, none => none
  | n + 1, some e => some (trE C n e)
/-- and, or as values -/
def trBs (C : TC) : Nat → BoolOp → List Expr → Ex
  | 0, _, _ => .bad
  | _ + 1, _, [] => .bad
  | n + 1, _, [e] => trE C n e
  | n + 1, .And, e :: f :: es => .and (trE C n e) (trBs C n .And (f :: es))
  | n + 1, .Or, e :: f :: es => .or (trE C n e) (trBs C n .Or (f :: es))
def trC (C : TC) : Nat → Expr → Cn
  | 0, _ => .val .bad
  | n + 1, e => match e with
    | .UnaryOp .Not a _ => .not (trC C n a)
    | .BoolOp op es _ => trCs C n op es
    | .Compare a [op] [b] _ => if behindInMarks op b then .val .bad else .val (.cmp op (trE C n a) (trE C n b))
    | .Compare a [o1, o2] [b, c] _ => if lastMarks [o1, o2] [b, c] then .val .bad else .val (.chain o1 o2 (trE C n a) (trE C n b) (trE C n c))
    | e => if plainTest e then .val (trE C n e) else .val .bad
def trCs (C : TC) : Nat → BoolOp → List Expr → Cn
  | 0, _, _ => .val .bad
  | _ + 1, _, [] => .val .bad
  | n + 1, _, [e] => trC C n e
  | n + 1, .And, e :: f :: es => .and (trC C n e) (trCs C n .And (f :: es))
  | n + 1, .Or, e :: f :: es => .or (trC C n e) (trCs C n .Or (f :: es))
def trIf (C : TC) : Nat → List Expr → List Cn
  | 0, _ => [.val .bad]
  | _ + 1, [] => []
  | n + 1, [e] => [trC C n e]
  | _ + 1, _ => [.val .bad]
def trT (C : TC) : Nat → Expr → Tg
  | 0, _ => .bad
  | n + 1, e => match e with
    | .Name x _ => if locB C x then (match C.slot x with | some i => .name i | none => .bad) else .bad
    | .Attribute o x _ => match C.num x with
      | some i => .fld (trE C n o) i
      | none => .bad
    | .Subscript o i _ => if isSlice i then .bad else .sub (trE C n o) (trE C n i)
    | .Tuple es _ _ => if noStars es then .tup (trTs C n es) else .bad
    | _ => .bad
def trTs (C : TC) : Nat → List Expr → List Tg
  | 0, es => es.map fun _ => .bad
  | _ + 1, [] => []
  | n + 1, e :: es => trT C n e :: trTs C n es
def trI (C : TC) : Nat → Expr → Expr → It
  | 0, _, _ => .seq .bad
  | n + 1, tg, e => match e with
    | .Call (.Name x p) [a] [] pos =>
      if isBltN C x "range" then (if isStar a then .seq .bad else .range1 (trE C n a))
      else if isBltN C x "enumerate" then (match tg with | .Tuple _ _ _ => if isStar a then .seq .bad else .enum (trE C n a) | _ => .seq .bad)
      else .seq (trE C n (.Call (.Name x p) [a] [] pos))
    | .Call (.Name x p) [a, b] [] pos =>
      if isBltN C x "range" then (if isStar a || isStar b then .seq .bad else .range2 (trE C n a) (trE C n b))
      else if isBltN C x "zip" then (match tg with | .Tuple _ _ _ => if isStar a || isStar b then .seq .bad else .zip (trE C n a) (trE C n b) | _ => .seq .bad)
      else .seq (trE C n (.Call (.Name x p) [a, b] [] pos))
    | .Call (.Attribute o x apos) [] [] pos =>
      if x == "items" && isTupE tg && !superForm o && (apos.endLine == pos.line) then .items (trE C n o) else .seq (trE C n (.Call (.Attribute o x apos) [] [] pos))
    | e => .seq (trE C n e)
end

/-! ### statements -/
/-- does a comprehension's value take the target's place at once -/
def swW (sc : Scope) (e tg : Expr) : Bool :=
  match (match e with
    | .ListComp _ _ s _ => some s
    | .SetComp _ _ s _ => some s
    | .DictComp _ _ _ s _ => some s
    | _ => none), tg with
  | some scope, .Name t pos => (sc.names.lookup t == some .local) && (pos.line == e.pos.line) && !(scope.names.any fun (n, k) => n == t && (k == .local || k == .cell))
  | _, _ => false
def swS (sc : Scope) (tg value : Expr) : Option (Option (List Str)) :=
  match (match [tg], value with
    | [.Tuple ts _ _], .Tuple vs _ _ => some (ts, vs)
    | [.List ts _], .Tuple vs _ _ => some (ts, vs)
    | _, _ => none) with
  | none => some none
  | some (ts, vs) =>
    if !(ts.length == 2 || ts.length == 3) || vs.length != ts.length then some none
    else if vs.any (fun | .Starred .. => true | _ => false) then some none
    else
      let line := (ts.head?.map (·.pos.line)).getD 0
      let names := ts.filterMap fun
        | .Name id pos => if sc.names.lookup id == some .local && pos.line == line then some id else none
        | _ => none
      if names.length != ts.length || names.eraseDups.length != names.length then some none
      else if vs.all (foldedForSure 8) then some none
      else if vs.all (constantsAlone 8) then none
      else some (some names)
def frzAt (C : TC) (p : Pos) : List St := match C.fr.lookup p.line with
  | some is => is.map St.frz
  | none => []
mutual
def trS (C : TC) : Nat → Stmt → St
  | 0, _ => .bad
  | n + 1, s => match s with
    | .Pass _ => .pass
    | .Break _ => .brk
    | .Continue _ => .cont
    | .Return none _ => .ret none false
    | .Return (some e) pos => .ret (some (trE C n e)) (C.rf.contains pos.line)
    | .Expr (.Constant (.str _) _ _) _ => .pass
    | .Expr e _ => if isComp e then .bad else .exp (trE C n e)
    | .Assign [tg] e pos =>
      if swW C.sc e tg then (match tg, e with
        | .Name t _, .ListComp elt [⟨gt, gi, gf, 0⟩] scope cpos => match C.slot t with
          | some i => if (C.sc.names.lookup t == some .local) && blkC C.N C.sc scope (ownOf C scope) && noSet gi && (slT (trT (C.blk scope) n gt)).all (fun i => (ownOf C scope).any fun p => p.2 == i) then
            .asg (.name i) (.lc (C.mut cpos) (trE (C.blk scope) n elt) (trT (C.blk scope) n gt) (trI C n gt gi) (trIf (C.blk scope) n gf) ((ownOf C scope).map (·.2))) else .bad
          | none => .bad
        | .Name t _, .DictComp kx vx [⟨gt, gi, gf, 0⟩] scope _ => match C.slot t with
          | some i => if (C.sc.names.lookup t == some .local) && blkC C.N C.sc scope (ownOf C scope) && noSet gi && (slT (trT (C.blk scope) n gt)).all (fun i => (ownOf C scope).any fun p => p.2 == i) then
            .asg (.name i) (.dc (trE (C.blk scope) n kx) (trE (C.blk scope) n vx) (trT (C.blk scope) n gt) (trI C n gt gi) (trIf (C.blk scope) n gf) ((ownOf C scope).map (·.2))) else .bad
          | none => .bad
        | _, _ => .bad)
      else match swS C.sc tg e with
        | some none => if isStar tg then .bad else .asg (trT C n tg) (trE C n e)
        | some (some names) => match tg, e with
          | .Tuple [.Name x _, .Name y _] _ _, .Tuple [a, b] _ _ => match C.slot x, C.slot y with
            | some i, some j => if names == [x, y] && i != j && (C.sc.names.lookup x == some .local) && (C.sc.names.lookup y == some .local) && noStars [a, b] then .par [i, j] (trL C n [a, b]) else .bad
            | _, _ => .bad
          | .Tuple [.Name x _, .Name y _, .Name z _] _ _, .Tuple [a, b, c] _ _ => match C.slot x, C.slot y, C.slot z with
            | some i, some j, some l => if names == [x, y, z] && i != j && i != l && j != l && (C.sc.names.lookup x == some .local) && (C.sc.names.lookup y == some .local) && (C.sc.names.lookup z == some .local) && noStars [a, b, c] then .par [i, j, l] (trL C n [a, b, c]) else .bad
            | _, _, _ => .bad
          | _, _ => .bad
        | none => .bad
    | .AugAssign (.Name x _) op e _ => match bopI op, C.slot x with
      | some o, some i => if locB C x then .aug i o false (trE C n e) else .bad
      | _, _ => .bad
    | .AugAssign (.Attribute o x _) op e _ => match bopI op, C.num x with
      | some p, some i => .augF (trE C n o) i p (trE C n e)
      | _, _ => .bad
    | .AugAssign (.Subscript o i _) op e _ => match bopI op with
      | some p => if isSlice i then .bad else .augS (trE C n o) (trE C n i) p (trE C n e)
      | none => .bad
    | .If c a b _ => .ite (trC C n c) (trSs C n a) (trSs C n b)
    | .For tg iter body [] _ => if noSet iter then .loop (trT C n tg) (trI C n tg iter) (trSs C n body) else .bad
    | .While c body [] _ => .whl (trC C n c) (trSs C n body)
    | _ => .bad
def trSs (C : TC) : Nat → List Stmt → List St
  | 0, _ => [.bad]
  | _ + 1, [] => []
  | n + 1, s :: ss => trS C n s :: (frzAt C s.pos ++ trSs C n ss)
end
end DL

/-! DL18: the reading is sound -/
namespace DL
open PySem PySem.Spec PyProof.Rows L2

structure CtxOk (G : GT) (C : TC) (X : Cx) : Prop where
  N : X.N = C.N
  sc : X.env.scope = C.sc
  kd : C.sc.kind = .function
  fn : ∀ x, C.fnc x = true → X.fn x = true
  gl : ∀ x d, C.gl.lookup x = some d → ∃ v u, X.mg x = some u ∧ RelV v u ∧ RepC G (fun _ => none) (fun _ => 0) 0 d v
  bl : ∀ x, C.bl x = true → X.mg x = none
  nm : ∀ x i, C.num x = some i → G.fnm i = x
structure Cxt (G : GT) (P : Prg) (k : Nat) (C : TC) (X : Cx) (W : WX) : Prop where
  ok : Ok X G P W (k + 1)
  calls : ∀ f, FnG G X.prog X.w X.mg X.base k (G.fadr f) (appF P f)
  c : CtxOk G C X
theorem findIdx_get {α : Type} [BEq α] [LawfulBEq α] {l : List α} {x : α} {i : Nat} (h : l.findIdx? (· == x) = some i) : l[i]? = some x := by
  obtain ⟨h1, h2, _⟩ := List.findIdx?_eq_some_iff_getElem.mp h
  rw [List.getElem?_eq_getElem h1]
  congr 1
  exact eq_of_beq h2
section
variable {G : GT} {P : Prg} {k : Nat} {C : TC} {X : Cx} {W : WX}
theorem CtxOk.slot (c : CtxOk G C X) {x : Str} {i : Nat} (h : C.slot x = some i) : X.N[i]? = some x := by
  rw [c.N]
  exact findIdx_get h
theorem CtxOk.vis (c : CtxOk G C X) {x : Str} (h : visB C.sc x = true) : Vis X.env.scope x := by
  rw [c.sc]
  unfold visB at h
  split at h
  · exact .inl (by assumption)
  · exact .inr (.inl (by assumption))
  · exact .inr (.inr (by assumption))
  · cases h
theorem CtxOk.loc (c : CtxOk G C X) {x : Str} (h : locB C x = true) : Loc X.env.scope x ∧ (X.fn x = true ∨ X.env.scope.names.lookup x = some .local) := by
  rw [c.sc]
  unfold locB at h
  split at h
  · rename_i e; exact ⟨.inl e, .inr e⟩
  · rename_i e; exact ⟨.inr e, .inl (c.fn x h)⟩
  · cases h
theorem CtxOk.glob (c : CtxOk G C X) {x : Str} (h : glB C.sc x = true) : Gl X x := by
  show X.env.scope.names.lookup x = some .globalImplicit
  rw [c.sc]
  unfold glB at h
  split at h
  · assumption
  · cases h
theorem plain_of {x : Str} (h : plainName x = true) : (x == ("__debug__" : Str)) = false ∧ (x == ("__classdict__" : Str)) = false ∧ x ≠ "__name__" := by
  unfold plainName at h
  simp only [Bool.and_eq_true, Bool.not_eq_true'] at h
  refine ⟨h.1.1, h.1.2, fun e => ?_⟩
  have := h.2
  rw [e] at this
  simp at this
theorem Cxt.blk (h : Cxt G P k C X W) {scope : Scope} {own : List (Str × Nat)} (ok : BlkOk X.N X.env.scope scope own) (s : Shared) (H : Hp) (a : Addr) (cl : List (Str × Addr)) (fp : List Addr) : Cxt G P k (C.blk scope) (X.blk s H scope (compEnvC scope cl a X.env) fp) WN := by
  refine ⟨⟨⟨h.ok.B.K, h.ok.B.calm, h.ok.B.nd, h.ok.B.un, h.ok.B.gd⟩, h.ok.room, fun u s' z => ?_, PassesOwn.never, h.ok.cls⟩, h.calls, ⟨h.c.N, ?_, ?_, fun x hx => hx, h.c.gl, h.c.bl, h.c.nm⟩⟩
  · obtain ⟨_, _, _, _, _, _, _, _, _, _, _, _, _, _, _, _, w⟩ := z
    exact w.elim
  · show relS scope X.env.scope = relS scope C.sc
    rw [h.c.sc]
  · show (relS scope C.sc).kind = _
    exact ok.kind
theorem tab_of {α : Type} {p : Str → α → Prop} : ∀ {l : List (Str × α)}, (∀ q ∈ l, p q.1 q.2) → ∀ {x : Str} {b : α}, l.lookup x = some b → p x b := @fun _ h x b e => h (x, b) (PySem.mem_of_lookup e)
theorem blt_boot {x : Str} {b : Blt} (h : bltOf x = some b) : bootBuiltins x = some (bltFn b) := tab_of (p := fun x b => bootBuiltins x = some (bltFn b)) (by decide +kernel) h
theorem ty_boot {x : Str} {n : String} (h : tyOf x = some n) : bootBuiltins x = some (.type n) := tab_of (p := fun x n => bootBuiltins x = some (.type n)) (by decide +kernel) h
theorem bm_name {x : Str} {b : Bm} (h : bmOf x = some b) : bmNm b = x := tab_of (p := fun x b => bmNm b = x) (by decide +kernel) h
theorem bop_of {o : Operator} {b : Bop} (h : bopI o = some b) : o = bopOf b := by
  cases o <;> first | (cases h; done) | (cases h; rfl)
theorem n_ok (h : Cxt G P k C X W) (x : Str) (pos : Pos) : PE X (.Name x pos) (tE G W (den P (trN C x))) := by
  unfold trN
  split
  · rename_i hp
    obtain ⟨p1, p2, p3⟩ := plain_of hp
    split
    · rename_i hv
      split
      · rename_i i hi
        exact e_var (h.c.slot hi) (h.c.vis hv) p1 p2
      · exact e_bad
    · split
      · rename_i hg
        split
        · rename_i d hd
          obtain ⟨v, u, hm, r, rc⟩ := h.c.gl x d hd
          exact e_cst (pe_glob (h.c.glob hg) hm r p1) rc
        · split
          · rename_i hb
            split
            · rename_i n hn
              exact e_cst (v := .ty n) (pe_bltn (h.c.glob hg) (h.c.bl x hb) (ty_boot hn) rfl p3 p1) (by unfold RepC; rfl)
            · exact e_bad
          · exact e_bad
      · exact e_bad
  · exact e_bad
theorem kw_ok (h : Cxt G P k C X W) {pos : Pos} : ∀ {kws : List Keyword} {kn : List Nat}, kwNums C kws = some kn → kws.all (fun k => k.arg.isSome) = true ∧ (backToKw pos (keywordEach kws X.env)).filterMap (·.1) = kn.map G.fnm ∧ kws.length = kn.length
  | [], kn, e => by
    unfold kwNums at e
    cases e
    exact ⟨rfl, rfl, rfl⟩
  | ⟨none, v, p⟩ :: ks, kn, e => by unfold kwNums at e; cases e
  | ⟨some x, v, p⟩ :: ks, kn, e => by
    unfold kwNums at e
    split at e
    · rename_i i r h1 h2
      cases e
      obtain ⟨a, b, c⟩ := kw_ok h (pos := pos) h2
      refine ⟨by rw [List.all_cons, a]; rfl, ?_, by rw [List.length_cons, List.length_cons, c]⟩
      show x :: (backToKw pos (keywordEach ks X.env)).filterMap (·.1) = _
      rw [b, List.map_cons, h.c.nm x i h1]
    · cases e
theorem trL_len : ∀ {n : Nat} {es : List Expr}, (trL C n es).length = es.length
  | 0, es => by unfold trL; rw [List.length_map]
  | n + 1, [] => by unfold trL; rfl
  | n + 1, e :: es => by unfold trL; rw [List.length_cons, List.length_cons, trL_len]
theorem trK_len : ∀ {n : Nat} {es : List Keyword}, (trK C n es).length = es.length
  | 0, es => by unfold trK; rw [List.length_map]
  | n + 1, [] => by unfold trK; rfl
  | n + 1, ⟨_, e, _⟩ :: es => by unfold trK; rw [List.length_cons, List.length_cons, trK_len]
theorem trTs_len : ∀ {n : Nat} {es : List Expr}, (trTs C n es).length = es.length
  | 0, es => by unfold trTs; rw [List.length_map]
  | n + 1, [] => by unfold trTs; rfl
  | n + 1, e :: es => by unfold trTs; rw [List.length_cons, List.length_cons, trTs_len]
theorem a_bad {es : List Expr} {es' : List Ex} : PA X es (tL G W (denL P (.bad :: es'))) := ⟨fun pos pins s σ H Q I ⟨w, env, S, e, p⟩ => by unfold denL den at p; exact p.elim⟩
theorem k_bad {ks : List Keyword} {es' : List Ex} : PK X ks (tL G W (denL P (.bad :: es'))) := ⟨fun pos pins s σ H Q I ⟨w, env, S, e, p⟩ => by unfold denL den at p; exact p.elim⟩
theorem gs_bad {es : List Expr} {ts : List Tg} : PGs X es (gTs G P (.bad :: ts)) := ⟨fun pins s σ H vs us Q I r ⟨w, env, ds, S, e, rd, p⟩ => by
  cases ds with
  | nil => rw [denTs] at p <;> first | exact p.elim | (intros; simp)
  | cons d ds =>
    rw [denTs, denT] at p
    exact p.elim⟩
theorem w_bad {e : Expr} : PW X e (tB' G W (denC P (.val .bad))) := ⟨fun wh pins s σ H Q I ⟨w, env, S, e, p⟩ => by unfold denC den at p; exact p.elim⟩

/-- the reading is sound, so far down -/
structure Snd (G : GT) (P : Prg) (k n : Nat) : Prop where
  e : ∀ {C X W}, Cxt G P k C X W → ∀ e, PE X e (tE G W (den P (trE C n e)))
  l : ∀ {C X W}, Cxt G P k C X W → ∀ es, noStars es = true → PA X es (tL G W (denL P (trL C n es)))
  f : ∀ {C X W}, Cxt G P k C X W → ∀ es, PF X G W P es (trL C n es)
  kw : ∀ {C X W}, Cxt G P k C X W → ∀ es, PK X es (tL G W (denL P (trK C n es)))
  o : ∀ {C X W}, Cxt G P k C X W → ∀ e, PO X e (tG G REq W (denO P (trO C n e)))
  bs : ∀ {C X W}, Cxt G P k C X W → ∀ op es pos, PE X (.BoolOp op es pos) (tE G W (den P (trBs C n op es)))
  c : ∀ {C X W}, Cxt G P k C X W → ∀ e, PT X e (tB' G W (denC P (trC C n e)))
  cs : ∀ {C X W}, Cxt G P k C X W → ∀ op es pos, PW X (.BoolOp op es pos) (tB' G W (denC P (trCs C n op es)))
  ifs : ∀ {C X W}, Cxt G P k C X W → ∀ es, PTs X es (tB' G W (denCs P (trIf C n es)))
  t : ∀ {C X W}, Cxt G P k C X W → ∀ e, PG X e (gT G P (trT C n e))
  ts : ∀ {C X W}, Cxt G P k C X W → ∀ es, noStars es = true → PGs X es (gTs G P (trTs C n es))
  i : ∀ {C X W}, Cxt G P k C X W → ∀ tg e, PI X tg e (tG G (RIv G) W (denI P (trI C n tg e)))
theorem po_bad {e : Expr} : PO X (some e) (tG G REq W (denO P (some .bad))) := ⟨fun pins s σ H Q I ⟨w, env, S, e, p⟩ => by unfold denO den at p; exact p.elim⟩
theorem snd0 : Snd G P k 0 where
  e := fun h e => by unfold trE; exact e_bad
  l := fun h es _ => by
    unfold trL
    cases es with
    | nil => exact a_nil
    | cons e es => exact a_bad
  f := fun h es => by
    unfold trL
    induction es with
    | nil => exact .nil
    | cons e es ih => exact .cons e_bad ih
  kw := fun h es => by
    unfold trK
    cases es with
    | nil => exact k_nil
    | cons e es => exact k_bad
  o := fun h e => by
    cases e with
    | none => unfold trO; exact o_none
    | some e => unfold trO; exact po_bad
  bs := fun h op es pos => by unfold trBs; exact e_bad
  c := fun h e => by unfold trC; exact c_bad
  cs := fun h op es pos => by unfold trCs; exact w_bad
  ifs := fun h es => by unfold trIf; exact cs_bad
  t := fun h e => by unfold trT; exact g_bad
  ts := fun h es _ => by
    unfold trTs
    cases es with
    | nil => exact gs_nil
    | cons e es => exact gs_bad
  i := fun h tg e => by unfold trI; exact i_bad
theorem noStars_cons {e : Expr} {es : List Expr} (h : noStars (e :: es) = true) : isStar e = false ∧ noStars es = true := by
  unfold noStars at h
  rw [List.all_cons, Bool.and_eq_true] at h
  exact ⟨by simpa using h.1, h.2⟩
theorem kwNums_nil {kws : List Keyword} (h : kwNums C kws = some []) : kws = [] := by
  cases kws with
  | nil => rfl
  | cons a ks =>
    obtain ⟨n, v, p⟩ := a
    cases n with
    | none => unfold kwNums at h; cases h
    | some x =>
      unfold kwNums at h
      split at h <;> cases h
theorem own_mem {is : List Nat} {own : List (Str × Nat)} (h : is.all (fun i => own.any fun p => p.2 == i) = true) : ∀ i ∈ is, i ∈ own.map (·.2) := fun i hi => by
  have := List.all_eq_true.mp h i hi
  obtain ⟨p, hp, e⟩ := List.any_eq_true.mp this
  exact List.mem_map.mpr ⟨p, hp, eq_of_beq e⟩
theorem trB_of (h : Cxt G P k C X W) {x : Str} {b : Blt} (e : trB C x = some b) : Gl X x ∧ X.mg x = none ∧ bootBuiltins x = some (bltFn b) ∧ x ≠ "__name__" ∧ (x == ("__debug__" : Str)) = false := by
  unfold trB at e
  split at e
  · rename_i q
    simp only [Bool.and_eq_true] at q
    obtain ⟨p1, p2, p3⟩ := plain_of q.1.1.1
    exact ⟨h.c.glob q.1.1.2, h.c.bl x q.2, blt_boot e, p3, p1⟩
  · cases e
theorem isBltN_of (h : Cxt G P k C X W) {x nm : Str} (e : isBltN C x nm = true) : x = nm ∧ Gl X nm ∧ X.mg nm = none := by
  unfold isBltN at e
  simp only [Bool.and_eq_true] at e
  have q := eq_of_beq e.1.1.1
  subst q
  exact ⟨rfl, h.c.glob e.1.2, h.c.bl _ e.2⟩
variable {n : Nat}
theorem snd_l (s : Snd G P k n) (h : Cxt G P k C X W) : ∀ es, noStars es = true → PA X es (tL G W (denL P (trL C (n + 1) es)))
  | [], _ => by unfold trL; exact a_nil
  | e :: es, hs => by
    obtain ⟨h1, h2⟩ := noStars_cons hs
    unfold trL
    exact a_cons (s.e h e) (s.l h es h2) h1
theorem snd_f (s : Snd G P k n) (h : Cxt G P k C X W) : ∀ es, PF X G W P es (trL C (n + 1) es)
  | [] => by unfold trL; exact .nil
  | e :: es => by unfold trL; exact .cons (s.e h e) (s.f h es)
theorem snd_kw (s : Snd G P k n) (h : Cxt G P k C X W) : ∀ es, PK X es (tL G W (denL P (trK C (n + 1) es)))
  | [] => by unfold trK; exact k_nil
  | ⟨nm, e, p⟩ :: es => by unfold trK; exact k_cons (s.e h e) (s.kw h es)
theorem snd_o (s : Snd G P k n) (h : Cxt G P k C X W) : ∀ e, PO X e (tG G REq W (denO P (trO C (n + 1) e)))
  | none => by unfold trO; exact o_none
  | some e => by unfold trO; exact o_some (s.e h e)
theorem snd_bs (s : Snd G P k n) (h : Cxt G P k C X W) : ∀ op es pos, PE X (.BoolOp op es pos) (tE G W (den P (trBs C (n + 1) op es)))
  | op, [], pos => by unfold trBs; exact e_bad
  | op, [e], pos => by unfold trBs; exact e_one (s.e h e)
  | .And, e :: f :: es, pos => by unfold trBs; exact e_and h.ok.B (s.e h e) (s.bs h .And (f :: es) pos)
  | .Or, e :: f :: es, pos => by unfold trBs; exact e_or h.ok.B (s.e h e) (s.bs h .Or (f :: es) pos)
theorem snd_cs (s : Snd G P k n) (h : Cxt G P k C X W) : ∀ op es pos, PW X (.BoolOp op es pos) (tB' G W (denC P (trCs C (n + 1) op es)))
  | op, [], pos => by unfold trCs; exact w_bad
  | .And, [e], pos => by unfold trCs; exact pw_and1 (s.c h e)
  | .Or, [e], pos => by unfold trCs; exact pw_or1 (s.c h e)
  | .And, e :: f :: es, pos => by unfold trCs; exact c_and (s.c h e) (s.cs h .And (f :: es) pos)
  | .Or, e :: f :: es, pos => by unfold trCs; exact c_or (s.c h e) (s.cs h .Or (f :: es) pos)
theorem snd_c (s : Snd G P k n) (h : Cxt G P k C X W) (e : Expr) : PT X e (tB' G W (denC P (trC C (n + 1) e))) := by
  unfold trC
  split
  · exact c_not (s.c h _)
  · exact (s.cs h _ _ _).pt
  · split
    · exact c_bad
    · rename_i hm
      exact c_cmp h.ok h.calls (s.e h _) (s.e h _) (by simpa using hm)
  · split
    · exact c_bad
    · rename_i hm
      exact c_chain h.ok.B (s.e h _) (s.e h _) (s.e h _) (by simpa using hm)
  · split
    · rename_i hp
      exact c_val h.ok h.calls (s.e h _) hp
    · exact c_bad
theorem snd_ifs (s : Snd G P k n) (h : Cxt G P k C X W) : ∀ es, PTs X es (tB' G W (denCs P (trIf C (n + 1) es)))
  | [] => by unfold trIf; exact cs_nil
  | [e] => by unfold trIf; exact cs_one (s.c h e)
  | e :: f :: es => by unfold trIf; exact cs_bad
theorem snd_ts (s : Snd G P k n) (h : Cxt G P k C X W) : ∀ es, noStars es = true → PGs X es (gTs G P (trTs C (n + 1) es))
  | [], _ => by unfold trTs; exact gs_nil
  | e :: es, hs => by
    obtain ⟨h1, h2⟩ := noStars_cons hs
    unfold trTs
    exact gs_cons (s.t h e) (s.ts h es h2) h1
theorem snd_t (s : Snd G P k n) (h : Cxt G P k C X W) (e : Expr) : PG X e (gT G P (trT C (n + 1) e)) := by
  unfold trT
  split
  · split
    · rename_i hl
      obtain ⟨l1, l2⟩ := h.c.loc hl
      split
      · rename_i i hi
        exact g_name h.ok.B.nd (h.c.slot hi) l1 l2
      · exact g_bad
    · exact g_bad
  · split
    · rename_i i hi
      exact g_fld h.ok (s.e h _) (h.c.nm _ _ hi)
    · exact g_bad
  · split
    · exact g_bad
    · rename_i hs
      exact g_sub h.ok.B (s.e h _) (s.e h _) (by simpa using hs)
  · split
    · rename_i hs
      exact g_tup h.ok.B (s.ts h _ hs) hs trTs_len.symm
    · exact g_bad
  · exact g_bad
theorem snd_i (s : Snd G P k n) (h : Cxt G P k C X W) (tg e : Expr) : PI X tg e (tG G (RIv G) W (denI P (trI C (n + 1) tg e))) := by
  unfold trI
  split
  · rename_i x p a pos
    split
    · rename_i hb
      obtain ⟨rfl, hg, hm⟩ := isBltN_of h hb
      split
      · exact i_bad
      · rename_i hs
        exact i_range1 hg hm (s.e h a) (by simpa using hs)
    · split
      · rename_i hb
        obtain ⟨rfl, hg, hm⟩ := isBltN_of h hb
        split
        · split
          · exact i_bad
          · rename_i hs
            exact i_enum h.ok.B hg hm (s.e h a) (by simpa using hs)
        · exact i_bad
      · exact i_seq h.ok.B (s.e h _)
  · rename_i x p a b pos
    split
    · rename_i hb
      obtain ⟨rfl, hg, hm⟩ := isBltN_of h hb
      split
      · exact i_bad
      · rename_i hs
        simp only [Bool.or_eq_true, not_or, Bool.not_eq_true] at hs
        exact i_range2 hg hm (s.e h a) (s.e h b) hs.1 hs.2
    · split
      · rename_i hb
        obtain ⟨rfl, hg, hm⟩ := isBltN_of h hb
        split
        · split
          · exact i_bad
          · rename_i hs
            simp only [Bool.or_eq_true, not_or, Bool.not_eq_true] at hs
            exact i_zip h.ok.B hg hm (s.e h a) (s.e h b) hs.1 hs.2
        · exact i_bad
      · exact i_seq h.ok.B (s.e h _)
  · split
    · rename_i hb
      simp only [Bool.and_eq_true, Bool.not_eq_true'] at hb
      obtain ⟨⟨⟨b1, b2⟩, b3⟩, b4⟩ := hb
      have e := eq_of_beq b1
      subst e
      cases tg <;> first
        | (cases b2; done)
        | exact i_items (s.e h _) (attrBase b3) b4
    · exact i_seq h.ok.B (s.e h _)
  · exact i_seq h.ok.B (s.e h _)
theorem noFold' {e : Expr} {env : Env} (h : noSet e = true) : ∀ x, foldedSetIterable e env x = pure x := noFold h
theorem snd_e (s : Snd G P k n) (h : Cxt G P k C X W) (e : Expr) : PE X e (tE G W (den P (trE C (n + 1) e))) := by
  unfold trE
  split
  · exact e_cst pe_int (by unfold RepC; rfl)
  · exact e_cst pe_bl (by unfold RepC; rfl)
  · exact e_cst pe_non (by unfold RepC; rfl)
  · split
    · rename_i hl
      exact e_cst pe_str (by unfold RepC; exact ⟨rfl, hl⟩)
    · exact e_bad
  · exact n_ok h _ _
  · split
    · rename_i o ho
      rw [bop_of ho]
      exact e_bin h.ok.B (s.e h _) (s.e h _)
    · exact e_bad
  · exact e_neg (s.e h _)
  · exact e_not h.ok h.calls (s.e h _)
  · exact s.bs h _ _ _
  · exact e_ite (s.c h _) (s.e h _) (s.e h _)
  · split
    · exact e_bad
    · rename_i hm
      exact e_cmp h.ok h.calls (s.e h _) (s.e h _) (by simpa using hm)
  · split
    · exact e_bad
    · rename_i hm
      exact e_chain h.ok.B (s.e h _) (s.e h _) (s.e h _) (by simpa using hm)
  · split
    · rename_i hs
      exact e_lst (s.l h _ hs)
    · exact e_bad
  · split
    · rename_i hs
      exact e_tup (s.l h _ hs)
    · exact e_bad
  · exact e_rev h.ok.B (s.e h _)
  · exact e_sl h.ok.B (s.e h _) (s.o h _) (s.o h _)
  · split
    · exact e_bad
    · rename_i hs
      exact e_ix h.ok.B (s.e h _) (s.e h _) (by simpa using hs)
  · split
    · rename_i i hi
      split
      · exact e_bad
      · rename_i hs
        exact e_fld h.ok (s.e h _) (h.c.nm _ _ hi) (by simpa using hs)
    · exact e_bad
  · exact (pe_joined1 (s.e h _))
  · exact e_fstr (s.f h _)
  · exact e_fmt (s.e h _)
  · split
    · rename_i b hb
      obtain ⟨q1, q2, q3, q4, q5⟩ := trB_of h hb
      split
      · split
        · rename_i hs
          exact e_blt h.ok h.calls q1 q2 q3 q4 q5 (s.l h _ hs) hs
        · exact e_bad
      · exact e_bad
    · split
      · rename_i kn hk
        split
        · rename_i hs
          rename_i pos _ _
          obtain ⟨a1, a2, a3⟩ := kw_ok h (pos := by assumption) hk
          exact e_app h.ok h.calls (n_ok h _ _) hs a1 (s.l h _ hs) (fun e => by subst e; have := trL_len (C := C) (n := n) (es := []); exact List.eq_nil_of_length_eq_zero this) (s.kw h _) (by rw [trK_len, a3]) (kw_ok h hk).2.1
        · exact e_bad
      · exact e_bad
  · split
    · rename_i i kn hi hk
      split
      · rename_i hs
        simp only [Bool.and_eq_true, decide_eq_true_eq, Bool.not_eq_true'] at hs
        obtain ⟨⟨⟨h1, h2⟩, h3⟩, h4⟩ := hs
        obtain ⟨a1, a2, a3⟩ := kw_ok h (pos := ⟨0, 0, 0, 0⟩) hk
        exact e_meth h.ok h.calls (s.e h _) (h.c.nm _ _ hi) (fun b hb => bm_name hb) h1 h2 a1 h3 h4 (s.l h _ h2) (fun e => by subst e; have := trL_len (C := C) (n := n) (es := []); exact List.eq_nil_of_length_eq_zero this) (s.kw h _) (by rw [trK_len, a3])
          (fun e => by subst e; exact kwNums_nil hk) (kw_ok h hk).2.1
      · exact e_bad
    · exact e_bad
  · split
    · rename_i hs
      simp only [Bool.and_eq_true] at hs
      obtain ⟨⟨h1, h2⟩, h3⟩ := hs
      have ok := blkOk_by h1
      rw [← h.c.N, ← h.c.sc] at ok
      exact e_lc h.ok.B (s.i h _ _) ok (fun s' H a cl fp => s.t (h.blk ok s' H a cl fp) _) (fun s' H a cl fp => s.ifs (h.blk ok s' H a cl fp) _) (fun s' H a cl fp => s.e (h.blk ok s' H a cl fp) _) (noFold' h2) (own_mem h3)
    · exact e_bad
  · split
    · rename_i hs
      simp only [Bool.and_eq_true] at hs
      obtain ⟨⟨h1, h2⟩, h3⟩ := hs
      have ok := blkOk_by h1
      rw [← h.c.N, ← h.c.sc] at ok
      exact e_dc h.ok.B (s.i h _ _) ok (fun s' H a cl fp => s.t (h.blk ok s' H a cl fp) _) (fun s' H a cl fp => s.ifs (h.blk ok s' H a cl fp) _) (fun s' H a cl fp => s.e (h.blk ok s' H a cl fp) _) (fun s' H a cl fp => s.e (h.blk ok s' H a cl fp) _) (noFold' h2) (own_mem h3)
    · exact e_bad
  · exact e_bad
theorem sndS (s : Snd G P k n) : Snd G P k (n + 1) := ⟨snd_e s, snd_l s, snd_f s, snd_kw s, snd_o s, snd_bs s, snd_c s, snd_cs s, snd_ifs s, snd_t s, snd_ts s, snd_i s⟩
theorem snd : ∀ n, Snd G P k n
  | 0 => snd0
  | n + 1 => sndS (snd n)
end
end DL

/-! DL19: statements are read soundly; a body -/
namespace DL
open PySem PySem.Spec PyProof.Rows L2
section
variable {G : GT} {P : Prg} {k : Nat} {C : TC} {X : Cx} {W : WX}
theorem swW_ok {sc : Scope} {e tg : Expr} {l : Nat} {env : Env} (hs : env.scope = sc) (hk : sc.kind = .function) : swapsWith e (some tg) l env = pure (swW sc e tg) := by
  have hb : env.blockKind = .function := by
    unfold Env.blockKind
    rw [hs, hk]; rfl
  have hkind : ∀ t, env.kindOf t = sc.names.lookup t := fun t => by unfold Env.kindOf; rw [hs]
  unfold swapsWith swW
  cases e <;> first
    | rfl
    | (cases tg <;> first
        | rfl
        | (simp only [hb, hkind]; simp [Bool.and_assoc]; rfl)
        | (simp only [hb, hkind]; rfl))
def swSB (sc : Scope) (ts vs : List Expr) : Option (Option (List Str)) :=
    if (!(ts.length == 2 || ts.length == 3) || vs.length != ts.length) = true then some none
    else if (vs.any fun | .Starred .. => true | _ => false) = true then some none
    else if ((ts.filterMap fun
        | .Name id pos => if (sc.names.lookup id == some .local && pos.line == (ts.head?.map (·.pos.line)).getD 0) = true then some id else none
        | _ => none).length != ts.length || (ts.filterMap fun
        | .Name id pos => if (sc.names.lookup id == some .local && pos.line == (ts.head?.map (·.pos.line)).getD 0) = true then some id else none
        | _ => none).eraseDups.length != (ts.filterMap fun
        | .Name id pos => if (sc.names.lookup id == some .local && pos.line == (ts.head?.map (·.pos.line)).getD 0) = true then some id else none
        | _ => none).length) = true then some none
      else if vs.all (foldedForSure 8) = true then some none
      else if vs.all (constantsAlone 8) = true then none
      else some (some (ts.filterMap fun
        | .Name id pos => if (sc.names.lookup id == some .local && pos.line == (ts.head?.map (·.pos.line)).getD 0) = true then some id else none
        | _ => none))
theorem if3 {α : Type} {c : Prop} [Decidable c] {x y : Option α} {r : α} (h : (if c then x else y) = some r) : (c ∧ x = some r) ∨ (¬ c ∧ y = some r) := by
  by_cases hc : c
  · rw [if_pos hc] at h; exact .inl ⟨hc, h⟩
  · rw [if_neg hc] at h; exact .inr ⟨hc, h⟩
theorem swS_ok {sc : Scope} {tg value : Expr} {env : Env} {r : Option (List Str)} (hs : env.scope = sc) (hk : sc.kind = .function) (h : swS sc tg value = some r) : swappedStores [tg] value env = pure r := by
  have hb : env.blockKind = .function := by
    unfold Env.blockKind
    rw [hs, hk]; rfl
  have hkind : ∀ t, env.kindOf t = sc.names.lookup t := fun t => by unfold Env.kindOf; rw [hs]
  have core : ∀ ts vs, swSB sc ts vs = some r → (do
      if (!(ts.length == 2 || ts.length == 3) || vs.length != ts.length || env.blockKind != .function) = true then return none
      if (vs.any fun | .Starred .. => true | _ => false) = true then return none
      let line := (ts.head?.map (·.pos.line)).getD 0
      let names := ts.filterMap fun
        | .Name id pos => if (env.kindOf id == some .local && pos.line == line) = true then some id else none
        | _ => none
      if (names.length != ts.length || names.eraseDups.length != names.length) = true then return none
      if (vs.all (foldedForSure 8)) = true then return none
      if (vs.all (constantsAlone 8)) = true then unsupported "assign.tuple-of-constant-expressions:order-of-the-stores"
      return some names : Sem (Option (List Str))) = pure r := by
    intro ts vs h
    have hbf : (ScopeKind.function != ScopeKind.function) = false := rfl
    simp only [hkind, hb, hbf, Bool.or_false]
    unfold swSB at h
    rcases if3 h with ⟨c, e⟩ | ⟨c, h⟩
    · rw [if_pos c]; cases e; rfl
    rw [if_neg c]
    rcases if3 h with ⟨c, e⟩ | ⟨c, h⟩
    · rw [if_pos c]; cases e; rfl
    rw [if_neg c]
    rcases if3 h with ⟨c, e⟩ | ⟨c, h⟩
    · rw [if_pos c]; cases e; rfl
    rw [if_neg c]
    rcases if3 h with ⟨c, e⟩ | ⟨c, h⟩
    · rw [if_pos c]; cases e; rfl
    rw [if_neg c]
    rcases if3 h with ⟨c, e⟩ | ⟨c, h⟩
    · cases e
    rw [if_neg c]
    cases h; rfl
  cases tg <;> first
    | (cases h; cases value <;> rfl)
    | (cases value <;> first
        | (cases h; rfl)
        | exact core _ _ h)
theorem frzs_ok {st : List Stmt} {ss : List St} (h : PSs X st (tSs G W P ss)) : ∀ is : List Nat, PSs X st (tSs G W P (is.map St.frz ++ ss))
  | [] => h
  | i :: is => ss_frz (frzs_ok h is)
structure SndS (G : GT) (P : Prg) (k n : Nat) : Prop where
  s : ∀ {C X W}, Cxt G P k C X W → ∀ s, PS X s (tSt G W P (trS C n s))
  ss : ∀ {C X W}, Cxt G P k C X W → ∀ ss, PSs X ss (tSs G W P (trSs C n ss))
theorem ss_bad {st : List Stmt} {ss : List St} : PSs X st (tSs G W P (.bad :: ss)) := ⟨fun pins s σ H D I ⟨w, env, S, e, p⟩ => by unfold denSs denS at p; exact p.elim⟩
theorem sndS0 : SndS G P k 0 where
  s := fun h s => by unfold trS; exact s_bad
  ss := fun h ss => by unfold trSs; exact ss_bad
variable {n : Nat}
theorem snds_ss (s : SndS G P k n) (h : Cxt G P k C X W) : ∀ ss, PSs X ss (tSs G W P (trSs C (n + 1) ss))
  | [] => by unfold trSs; exact ss_nil
  | st :: ss => by
    unfold trSs
    refine ss_cons (s.s h st) ?_
    unfold frzAt
    split
    · exact frzs_ok (s.ss h ss) _
    · exact s.ss h ss
theorem snds_s (s : SndS G P k n) (h : Cxt G P k C X W) (st : Stmt) : PS X st (tSt G W P (trS C (n + 1) st)) := by
  have se : Snd G P k n := snd n
  unfold trS
  split
  · exact s_pass
  · exact s_brk
  · exact s_cont
  · exact s_retN
  · exact s_ret (se.e h _)
  · exact s_doc
  · split
    · exact s_bad
    · rename_i hc
      exact s_exp (se.e h _) (by simpa using hc)
  · rename_i tg e pos
    split
    · rename_i hw
      split
      · rename_i t tp elt gt gi gf scope cpos
        split
        · rename_i i hi
          split
          · rename_i hs
            simp only [Bool.and_eq_true] at hs
            obtain ⟨⟨⟨hl, h1⟩, h2⟩, h3⟩ := hs
            have ok := blkOk_by h1
            rw [← h.c.N, ← h.c.sc] at ok
            have hsw : swapsWith (.ListComp elt [⟨gt, gi, gf, 0⟩] scope cpos) (some (.Name t tp)) pos.line X.env = pure true := by
              rw [swW_ok h.c.sc h.c.kd, hw]
            exact s_setLc h.ok.B (h.c.slot hi) (by rw [h.c.sc]; simpa using hl) hsw (se.i h _ _) ok (fun s' H a cl fp => se.t (h.blk ok s' H a cl fp) _) (fun s' H a cl fp => se.ifs (h.blk ok s' H a cl fp) _) (fun s' H a cl fp => se.e (h.blk ok s' H a cl fp) _) (noFold' h2) (own_mem h3)
          · exact s_bad
        · exact s_bad
      · rename_i t tp kx vx gt gi gf scope cpos
        split
        · rename_i i hi
          split
          · rename_i hs
            simp only [Bool.and_eq_true] at hs
            obtain ⟨⟨⟨hl, h1⟩, h2⟩, h3⟩ := hs
            have ok := blkOk_by h1
            rw [← h.c.N, ← h.c.sc] at ok
            have hsw : swapsWith (.DictComp kx vx [⟨gt, gi, gf, 0⟩] scope cpos) (some (.Name t tp)) pos.line X.env = pure true := by
              rw [swW_ok h.c.sc h.c.kd, hw]
            exact s_setDc h.ok.B (h.c.slot hi) (by rw [h.c.sc]; simpa using hl) hsw (se.i h _ _) ok (fun s' H a cl fp => se.t (h.blk ok s' H a cl fp) _) (fun s' H a cl fp => se.ifs (h.blk ok s' H a cl fp) _) (fun s' H a cl fp => se.e (h.blk ok s' H a cl fp) _) (fun s' H a cl fp => se.e (h.blk ok s' H a cl fp) _) (noFold' h2) (own_mem h3)
          · exact s_bad
        · exact s_bad
      · exact s_bad
    · rename_i hw
      have hsw : swapsWith e (some tg) pos.line X.env = pure false := by
        rw [swW_ok h.c.sc h.c.kd]
        simp only [Bool.not_eq_true] at hw
        rw [hw]
      split
      · rename_i hn
        split
        · exact s_bad
        · rename_i h1
          exact s_asg (se.e h _) (se.t h _) hsw (swS_ok h.c.sc h.c.kd hn) (by simpa using h1)
      · rename_i names hn
        split
        · rename_i x px y py kt pt a b k2 pt2
          split
          · rename_i i j hi hj
            split
            · rename_i hs
              simp only [Bool.and_eq_true, bne_iff_ne, ne_eq] at hs
              obtain ⟨⟨⟨⟨e1, e2⟩, e3⟩, e4⟩, e5⟩ := hs
              have e1' := eq_of_beq e1
              subst e1'
              exact s_par2 h.ok.B (h.c.slot hi) (h.c.slot hj) e2 (by rw [h.c.sc]; exact eq_of_beq e3) (by rw [h.c.sc]; exact eq_of_beq e4) (se.l h _ e5) (swS_ok h.c.sc h.c.kd hn)
            · exact s_bad
          · exact s_bad
        · rename_i x px y py z pz kt pt a b c k2 pt2
          split
          · rename_i i j l hi hj hl
            split
            · rename_i hs
              simp only [Bool.and_eq_true, bne_iff_ne, ne_eq] at hs
              obtain ⟨⟨⟨⟨⟨⟨⟨e1, e2⟩, e2b⟩, e2c⟩, e3⟩, e4⟩, e4b⟩, e5⟩ := hs
              have e1' := eq_of_beq e1
              subst e1'
              exact s_par3 h.ok.B (h.c.slot hi) (h.c.slot hj) (h.c.slot hl) e2 e2b e2c (by rw [h.c.sc]; exact eq_of_beq e3) (by rw [h.c.sc]; exact eq_of_beq e4) (by rw [h.c.sc]; exact eq_of_beq e4b) (se.l h _ e5) (swS_ok h.c.sc h.c.kd hn)
            · exact s_bad
          · exact s_bad
        · exact s_bad
      · exact s_bad
  · split
    · rename_i o i ho hi
      split
      · rename_i hl
        obtain ⟨l1, l2⟩ := h.c.loc hl
        rw [bop_of ho]
        exact s_aug h.ok.B (h.c.slot hi) l1 (se.e h _) l2
      · exact s_bad
    · exact s_bad
  · split
    · rename_i o i ho hi
      rw [bop_of ho]
      exact s_augF h.ok (se.e h _) (se.e h _) (h.c.nm _ _ hi)
    · exact s_bad
  · split
    · rename_i p hp
      split
      · exact s_bad
      · rename_i hs
        rw [bop_of hp]
        exact s_augS h.ok (se.e h _) (se.e h _) (se.e h _) (by simpa using hs)
    · exact s_bad
  · exact s_if (se.c h _) (s.ss h _) (s.ss h _)
  · split
    · rename_i hs
      exact s_for h.ok (se.i h _ _) (se.t h _) (s.ss h _) (noFold' hs)
    · exact s_bad
  · exact s_while h.ok (se.c h _) (s.ss h _)
  · exact s_bad
theorem snds : ∀ n, SndS G P k n
  | 0 => sndS0
  | n + 1 => ⟨fun h st => snds_s (snds n) h st, fun h ss => snds_ss (snds n) h ss⟩
end
end DL

/-! DL20: how a call's arguments are bound -/
namespace DL
open PySem PySem.Spec PyProof.Rows L2

theorem lookup_app {α : Type} {n : Str} : ∀ {l m : List (Str × α)}, (l ++ m).lookup n = (l.lookup n).or (m.lookup n)
  | [], m => rfl
  | (x, a) :: l, m => by
    rw [List.cons_append, List.lookup_cons, List.lookup_cons]
    cases n == x with
    | true => rfl
    | false => exact lookup_app
theorem loop1 {f : Str × Value → List (Str × Value) × List (Str × Value) → Sem (ForInStep (List (Str × Value) × List (Str × Value)))} {known : Str → Bool}
    (hf : ∀ k v slots, known k = true → slots.lookup k = none → f (k, v) (slots, []) = pure (.yield (slots ++ [(k, v)], []))) :
    ∀ {kw : List (Str × Value)} {slots : List (Str × Value)}, (∀ q ∈ kw, known q.1 = true) → (∀ q ∈ kw, slots.lookup q.1 = none) → (kw.map (·.1)).Nodup → forIn kw (slots, []) f = pure (slots ++ kw, [])
  | [], slots, _, _, _ => by rw [List.forIn_nil, List.append_nil]
  | (k, v) :: kw, slots, h1, h2, h3 => by
    rw [List.forIn_cons, hf k v slots (h1 _ List.mem_cons_self) (h2 _ List.mem_cons_self)]
    rw [List.map_cons, List.nodup_cons] at h3
    have ih := loop1 hf (kw := kw) (slots := slots ++ [(k, v)]) (fun q hq => h1 q (List.mem_cons_of_mem _ hq)) (fun q hq => by
      rw [lookup_app, h2 q (List.mem_cons_of_mem _ hq)]
      have ne : (q.1 == k) = false := by
        rw [beq_eq_false_iff_ne]
        exact fun e => h3.1 (List.mem_map.mpr ⟨q, hq, e⟩)
      rw [List.lookup_cons, ne]; rfl) h3.2
    rw [List.append_assoc] at ih
    exact ih
def fill (slots : List (Str × Value)) : List (Str × Value) → List (Str × Value)
  | [] => slots
  | (n, d) :: l => fill (if (slots.lookup n).isNone = true then slots ++ [(n, d)] else slots) l
theorem fill_lookup {n : Str} : ∀ {l slots : List (Str × Value)}, (fill slots l).lookup n = (slots.lookup n).or (l.lookup n)
  | [], slots => by unfold fill; cases slots.lookup n <;> rfl
  | (m, d) :: l, slots => by
    unfold fill
    rw [fill_lookup, List.lookup_cons]
    by_cases h : (slots.lookup m).isNone = true
    · rw [if_pos h, lookup_app, List.lookup_cons]
      by_cases e : n == m
      · have e' := eq_of_beq e
        subst e'
        rw [e]
        rw [Option.isNone_iff_eq_none] at h
        rw [h]; rfl
      · rw [Bool.not_eq_true] at e
        rw [e]
        cases slots.lookup n <;> rfl
    · rw [if_neg h]
      by_cases e : n == m
      · have e' := eq_of_beq e
        subst e'
        rw [e]
        cases q : slots.lookup n with
        | none => rw [q] at h; exact absurd rfl h
        | some v => rfl
      · rw [Bool.not_eq_true] at e
        rw [e]
theorem loop2 {f : Str × Value → List (Str × Value) → Sem (ForInStep (List (Str × Value)))}
    (hf : ∀ n d slots, f (n, d) slots = if (slots.lookup n).isNone = true then pure (.yield (slots ++ [(n, d)])) else pure (.yield slots)) :
    ∀ {l slots : List (Str × Value)}, forIn l slots f = pure (fill slots l)
  | [], slots => by rw [List.forIn_nil]; rfl
  | (n, d) :: l, slots => by
    rw [List.forIn_cons, hf]
    unfold fill
    by_cases h : (slots.lookup n).isNone = true
    · rw [if_pos h, if_pos h]
      exact loop2 hf
    · rw [if_neg h, if_neg h]
      exact loop2 hf
/-- the keyword-only defaults that are taken -/
theorem loop3 {M : Model} {A : Around} {E : Value → Shared → Prop} {s : Shared} {K : PySem.W.Frag} {kd : Value} {f : Str → List (Str × Value) × List Str → Sem (ForInStep (List (Str × Value) × List Str))} (X : K.In s.heap) {dk : Str → Option Value}
    (hf : ∀ n slots, (slots.lookup n).isNone = false → f n (slots, []) = pure (.yield (slots, [])))
    (hf2 : ∀ n slots D v, (slots.lookup n).isNone = true → kd = .ref D → ∃ (k : Option Value → Sem (ForInStep (List (Str × Value) × List Str))), f n (slots, []) = nsGet D n >>= k ∧ k (some v) = pure (.yield (slots ++ [(n, v)], [])))
    (hd : ∀ n v, dk n = some v → ∃ D, kd = .ref D ∧ PySem.W.nsIn K D n = some (some v)) :
    ∀ {ks : List Str} {slots : List (Str × Value)} {Q : List (Str × Value) × List Str → Shared → Prop}, (∀ n ∈ ks, (slots.lookup n).isSome = true ∨ (dk n).isSome = true) → ks.Nodup →
      (∀ slots', (∀ n, slots'.lookup n = (slots.lookup n).or (if n ∈ ks then dk n else none)) → Q (slots', []) s) → wpAny M A (forIn ks (slots, []) f) Q E s
  | [], slots, Q, _, _, h => by
    rw [List.forIn_nil]
    exact wpAny_pure (h slots fun n => by cases slots.lookup n <;> simp)
  | n :: ks, slots, Q, h1, h2, h => by
    rw [List.forIn_cons]
    rw [List.nodup_cons] at h2
    by_cases c : (slots.lookup n).isNone = true
    · have hs : (dk n).isSome = true := by
        rcases h1 n List.mem_cons_self with z | z
        · rw [Option.isNone_iff_eq_none] at c; rw [c] at z; cases z
        · exact z
      obtain ⟨v, hv⟩ := Option.isSome_iff_exists.mp hs
      obtain ⟨D, eD, hns⟩ := hd n v hv
      obtain ⟨k, e1, e2⟩ := hf2 n slots D v c eD
      rw [e1]
      refine wpAny_bind (wpAny_bind ((PySem.W.looks_nsIn X hns).here ?_))
      rw [e2]
      refine wpAny_pure ?_
      refine loop3 X hf hf2 hd (ks := ks) (slots := slots ++ [(n, v)]) (fun m hm => ?_) h2.2 fun slots' hl => h slots' fun m => ?_
      · rcases h1 m (List.mem_cons_of_mem _ hm) with z | z
        · left
          rw [lookup_app]
          cases q : slots.lookup m with
          | none => rw [q] at z; cases z
          | some y => rfl
        · exact .inr z
      · rw [hl m, lookup_app]
        by_cases e : m = n
        · subst e
          rw [Option.isNone_iff_eq_none] at c
          rw [c]
          simp [List.lookup_cons, hv]
        · have ne : (m == n) = false := beq_eq_false_iff_ne.mpr e
          rw [List.lookup_cons, ne]
          have : (m ∈ n :: ks) ↔ m ∈ ks := by simp [e]
          simp only [this]
          cases slots.lookup m <;> rfl
    · rw [hf n slots (by simpa using c)]
      refine wpAny_bind (wpAny_pure ?_)
      refine loop3 X hf hf2 hd (ks := ks) (slots := slots) (fun m hm => h1 m (List.mem_cons_of_mem _ hm)) h2.2 fun slots' hl => h slots' fun m => ?_
      rw [hl m]
      by_cases e : m = n
      · subst e
        cases q : slots.lookup m with
        | none => rw [q] at c; exact absurd rfl c
        | some y => rfl
      · have : (m ∈ n :: ks) ↔ m ∈ ks := by simp [e]
        simp only [this]
theorem zip_lookup {n : Str} : ∀ {ps : List Str} {us : List Value} {i : Nat}, ps.Nodup → ps[i]? = some n → (ps.zip us).lookup n = us[i]?
  | [], us, i, _, h => by simp at h
  | p :: ps, [], i, _, h => by simp
  | p :: ps, u :: us, 0, _, h => by
    simp at h; subst h
    simp [List.lookup_cons]
  | p :: ps, u :: us, i + 1, hd, h => by
    rw [List.nodup_cons] at hd
    have h' : ps[i]? = some n := by simpa using h
    have ne : (n == p) = false := by
      rw [beq_eq_false_iff_ne]
      rintro rfl
      exact hd.1 (List.mem_of_getElem? h')
    show List.lookup n ((p, u) :: ps.zip us) = _
    rw [List.lookup_cons, ne]
    simpa using zip_lookup hd.2 h'
theorem lookup_notin {α : Type} {n : Str} : ∀ {l : List (Str × α)}, n ∉ l.map (·.1) → l.lookup n = none
  | [], _ => rfl
  | (x, a) :: l, h => by
    rw [List.map_cons, List.mem_cons, not_or] at h
    rw [List.lookup_cons, beq_eq_false_iff_ne.mpr h.1]
    exact lookup_notin h.2
/-- the bound names and their values -/
theorem bind_wp {M : Model} {A : Around} {E : Value → Shared → Prop} {s : Shared} {K : PySem.W.Frag} {fd : FuncData} {us : List Value} {kw : List (Str × Value)} {PN KO : List Str} {its : List Value} {dk : Str → Option Value} {Q : List (Str × Value) → Shared → Prop}
    (X : K.In s.heap) (hpo : fd.params.posonlyargs = []) (hpn : fd.params.args.map (·.arg) = PN) (hko : fd.params.kwonlyargs.map (·.arg) = KO) (hkw : fd.params.kwarg.isSome = false) (nd : (PN ++ KO).Nodup)
    (hdf : (its = [] ∧ fd.defaults = .none) ∨ ∃ (T : Addr) (o : Obj) (n : Nat), fd.defaults = .ref T ∧ K.lookup T = some o ∧ o.data = .seq its.toArray n) (hil : its.length ≤ PN.length)
    (hdk : ∀ n v, dk n = some v → ∃ D, fd.kwdefaults = .ref D ∧ PySem.W.nsIn K D n = some (some v))
    (hk1 : ∀ q ∈ kw, (PN.drop us.length ++ KO).contains q.1 = true) (hk2 : (kw.map (·.1)).Nodup) (hlen : us.length ≤ PN.length ∨ fd.params.vararg.isSome = true)
    (hall : ∀ (i : Nat) (n : Str), PN[i]? = some n → us.length ≤ i → (kw.lookup n).isSome = true ∨ PN.length - its.length ≤ i) (hallk : ∀ n ∈ KO, (kw.lookup n).isSome = true ∨ (dk n).isSome = true)
    (h : ∀ L : Str → Option Value, (∀ (i : Nat) (n : Str), PN[i]? = some n → L n = (us[i]?).or ((kw.lookup n).or (((PN.drop (PN.length - its.length)).zip its).lookup n))) → (∀ n ∈ KO, L n = (kw.lookup n).or (dk n)) →
      wpAny M A (match fd.params.vararg with
        | some a => do
          let t ← newTuple (us.drop PN.length)
          pure ((PN ++ KO).filterMap (fun n => (L n).map (n, ·)) ++ [(a.arg, t)])
        | none => pure ((PN ++ KO).filterMap fun n => (L n).map (n, ·))) Q E s) : wpAny M A (bindArgs fd ⟨us, kw⟩) Q E s := by
  have ndP : PN.Nodup := (List.nodup_append.mp nd).1
  have ndK : KO.Nodup := (List.nodup_append.mp nd).2.1
  have dis : ∀ n ∈ PN, n ∉ KO := fun n h1 h2 => (List.nodup_append.mp nd).2.2 n h1 n h2 rfl
  unfold bindArgs
  simp only [hpo, hpn, hko, List.map_nil, List.nil_append]
  have kn1 : ∀ q ∈ kw, (PN.zip us).lookup q.1 = none := fun q hq => by
    have hm := hk1 q hq
    rw [List.contains_iff_mem, List.mem_append] at hm
    apply lookup_notin
    intro hz
    obtain ⟨r, hr, er⟩ := List.mem_map.mp hz
    have hrp : r.1 ∈ PN.take us.length := by
      obtain ⟨i, hi⟩ := List.mem_iff_getElem?.mp hr
      rw [List.getElem?_zip_eq_some] at hi
      have hlt : i < us.length := (List.getElem?_eq_some_iff.mp hi.2).1
      exact List.mem_of_getElem? (i := i) (by rw [List.getElem?_take_of_lt hlt]; exact hi.1)
    rw [er] at hrp
    rcases hm with hm | hm
    · have := List.nodup_append.mp (show (PN.take us.length ++ PN.drop us.length).Nodup by rw [List.take_append_drop]; exact ndP)
      exact this.2.2 _ hrp _ hm rfl
    · exact dis _ (List.mem_of_mem_take hrp) hm
  have kn2 : ∀ q ∈ kw, (PN.contains q.1 || KO.contains q.1) = true := fun q hq => by
    have hm := hk1 q hq
    rw [List.contains_iff_mem, List.mem_append] at hm
    rw [Bool.or_eq_true, List.contains_iff_mem, List.contains_iff_mem]
    exact hm.imp List.mem_of_mem_drop id
  refine wpAny_bind (wpAny_of_eq (loop1 (known := fun k => PN.contains k || KO.contains k) (fun k v slots h1 h2 => by simp only [h1, h2, if_true, Option.isSome_none, Bool.false_eq_true, if_false]) kn2 kn1 hk2) ?_)
  have items : ∀ {Q' : Option (Array Value) → Shared → Prop}, (∀ o, (o.getD #[]).toList = its → Q' o s) → wpAny M A (seqItems? fd.defaults) Q' E s := fun {Q'} hq => by
    rcases hdf with ⟨e1, e2⟩ | ⟨T, o, n, e1, e2, e3⟩
    · rw [e2]
      exact wpAny_pure (hq none (by rw [e1]; rfl))
    · rw [e1]
      exact wpAny_seqItems (X _ _ e2) e3 (hq _ (by simp))
  refine wpAny_bind (items fun o ho => ?_)
  simp only [ho]
  have many : (decide (us.length > PN.length) && fd.params.vararg.isNone) = false := by
    rcases hlen with z | z
    · rw [decide_eq_false (by omega), Bool.false_and]
    · cases q : fd.params.vararg with
      | none => rw [q] at z; cases z
      | some a => simp
  simp only [many, Bool.false_eq_true, if_false]
  have dz : its.length - PN.length = 0 := by omega
  simp only [dz, List.drop_zero]
  have L1 : ∀ i n, PN[i]? = some n → (PN.zip us ++ kw).lookup n = (us[i]?).or (kw.lookup n) := fun i n hn => by rw [lookup_app, zip_lookup ndP hn]
  have none_missing : (List.filter (fun n => (List.lookup n (PN.zip us ++ kw)).isNone) (List.take (PN.length - its.length) PN)) = [] := by
    rw [List.filter_eq_nil_iff]
    intro n hn hz
    obtain ⟨i, hi⟩ := List.mem_iff_getElem?.mp hn
    have hlt : i < PN.length - its.length := by
      have := (List.getElem?_eq_some_iff.mp hi).1
      rw [List.length_take] at this; omega
    rw [List.getElem?_take_of_lt hlt] at hi
    rw [L1 i n hi] at hz
    by_cases c : i < us.length
    · rw [List.getElem?_eq_getElem c] at hz; cases hz
    · rw [List.getElem?_eq_none (by omega)] at hz
      rcases hall i n hi (by omega) with z | z
      · cases q : kw.lookup n with
        | none => rw [q] at z; cases z
        | some y => rw [q] at hz; cases hz
      · omega
  simp only [none_missing, List.isEmpty_nil, Bool.not_true, Bool.false_eq_true, if_false]
  refine wpAny_bind (wpAny_of_eq (loop2 fun n d slots => rfl) ?_)
  have L2' : ∀ i n, PN[i]? = some n → (fill (PN.zip us ++ kw) ((PN.drop (PN.length - its.length)).zip its)).lookup n = (us[i]?).or ((kw.lookup n).or (((PN.drop (PN.length - its.length)).zip its).lookup n)) := fun i n hn => by
    rw [fill_lookup, L1 i n hn, Option.or_assoc]
  have L3 : ∀ n ∈ KO, (fill (PN.zip us ++ kw) ((PN.drop (PN.length - its.length)).zip its)).lookup n = kw.lookup n := fun n hn => by
    have hnp : n ∉ PN := fun q => dis n q hn
    rw [fill_lookup, lookup_app, lookup_notin (l := PN.zip us) fun hz => ?_, lookup_notin (l := (PN.drop _).zip its) fun hz => ?_]
    · cases kw.lookup n <;> rfl
    · obtain ⟨r, hr, er⟩ := List.mem_map.mp hz
      exact hnp (er ▸ (List.mem_of_mem_drop (List.of_mem_zip (show (r.1, r.2) ∈ _ from hr)).1))
    · obtain ⟨r, hr, er⟩ := List.mem_map.mp hz
      exact hnp (er ▸ (List.of_mem_zip (show (r.1, r.2) ∈ _ from hr)).1)
  generalize fill (PN.zip us ++ kw) ((PN.drop (PN.length - its.length)).zip its) = slots2 at L2' L3
  refine wpAny_bind (loop3 (kd := fd.kwdefaults) (dk := dk) X (fun n slots hn => by simp only [hn, Bool.false_eq_true, if_false]) (fun n slots D v hn hD => ?_) hdk (fun n hn => by rw [L3 n hn]; exact hallk n hn) ndK fun slots' hl => ?_)
  · refine ⟨fun dflt => match dflt with
      | some v => pure (ForInStep.yield (slots ++ [(n, v)], []))
      | none => pure (ForInStep.yield (slots, [] ++ [n])), ?_, rfl⟩
    simp only [hn, if_true, hD]
    rfl
  simp only [List.isEmpty_nil, Bool.not_true, Bool.false_eq_true, if_false]
  have key := h (fun n => slots'.lookup n) (fun i n hn => by
    have hnk : n ∉ KO := dis n (List.mem_of_getElem? hn)
    show slots'.lookup n = _
    rw [hl n, if_neg hnk, L2' i n hn]
    cases (us[i]?).or ((kw.lookup n).or (((PN.drop (PN.length - its.length)).zip its).lookup n)) <;> rfl) (fun n hn => by
    show slots'.lookup n = _
    rw [hl n, if_pos hn, L3 n hn])
  cases hv : fd.params.vararg with
  | none =>
    rw [hv] at key
    cases hw : fd.params.kwarg with
    | none => exact key
    | some a => rw [hw] at hkw; cases hkw
  | some a =>
    rw [hv] at key
    cases hw : fd.params.kwarg with
    | none => exact key
    | some a => rw [hw] at hkw; cases hkw
end DL

/-! DL21: the program's defs keep what their bodies say -/
namespace DL
open PySem PySem.Spec PyProof.Rows L2

section
variable {G : GT}
theorem kw_get {w : Wd} (hi : ∀ i j, G.fnm i = G.fnm j → i = j) {p : Nat} : ∀ {kn : List Nat} {ks : List D} {kw : List (Str × Value)} {zs : List V}, kw.map (·.1) = kn.map G.fnm → Vals zs (kw.map (·.2)) → RepL G w ks zs →
    (∀ d, getF kn ks p = some d → ∃ v u, kw.lookup (G.fnm p) = some u ∧ RelV v u ∧ Rep G w d v) ∧ (getF kn ks p = none → kw.lookup (G.fnm p) = none)
  | [], ks, kw, zs, e, r, t => by
    have : kw = [] := by simpa using e
    subst this
    exact ⟨fun d h => (by unfold getF at h; cases h), fun _ => rfl⟩
  | n :: kn, ks, [], zs, e, r, t => by simp at e
  | n :: kn, ks, (x, u) :: kw, zs, e, r, t => by
    rw [List.map_cons, List.map_cons] at e
    obtain ⟨e1, e2⟩ := List.cons.inj e
    have e1' : x = G.fnm n := e1
    subst e1'
    rw [List.map_cons] at r
    cases r with
    | @cons z _ zs' _ r1 r2 =>
    cases ks with
    | nil => have := RepCL.length t; simp at this
    | cons k ks =>
      obtain ⟨z', zs'', e3, t1, t2⟩ := RepCL.cons_inv t
      cases e3
      obtain ⟨i1, i2⟩ := kw_get hi (p := p) e2 r2 t2
      by_cases hn : n = p
      · subst hn
        refine ⟨fun d h => ?_, fun h => ?_⟩
        · unfold getF at h
          rw [if_pos rfl] at h
          cases h
          exact ⟨z, u, by simp [List.lookup_cons], r1, t1⟩
        · unfold getF at h
          rw [if_pos rfl] at h
          cases h
      · have ne : (G.fnm p == G.fnm n) = false := by
          rw [beq_eq_false_iff_ne]
          exact fun q => hn (hi _ _ q).symm
        refine ⟨fun d h => ?_, fun h => ?_⟩
        · unfold getF at h
          rw [if_neg hn] at h
          rw [List.lookup_cons, ne]
          exact i1 d h
        · unfold getF at h
          rw [if_neg hn] at h
          rw [List.lookup_cons, ne]
          exact i2 h
/-- the positional parameters' values -/
theorem bindPos_ok {w : Wd} (hi : ∀ i j, G.fnm i = G.fnm j → i = j) {pi : PInfo} {kn : List Nat} {ks : List D} {kw : List (Str × Value)} {zs : List V} (h1 : kw.map (·.1) = kn.map G.fnm) (h2 : Vals zs (kw.map (·.2))) (h3 : RepL G w ks zs) {L DV : Str → Option Value}
    : ∀ {ps : List Nat} {ds as : List D} {us : List Value} {vs : List V}, (∀ p ∈ ps, ∀ d, pi.dfl.lookup p = some d → ∃ v u, DV (G.fnm p) = some u ∧ RelV v u ∧ Rep G w d v) → bindPos pi kn ks ps ds = some as → RepL G w ds vs → Vals vs us → (∀ (i p : Nat), ps[i]? = some p → (∀ u, us[i]? = some u → L (G.fnm p) = some u) ∧ (us[i]? = none → L (G.fnm p) = (kw.lookup (G.fnm p)).or (DV (G.fnm p)))) →
      ∃ us' vs', (ps.map G.fnm).filterMap (fun n => (L n).map (n, ·)) = (ps.map G.fnm).zip us' ∧ us'.length = ps.length ∧ Vals vs' us' ∧ RepL G w as vs' ∧ as.length = ps.length
  | [], ds, as, us, vs, hD, h, r, rv, hL => by
    have : as = [] := by
      cases ds <;> (unfold bindPos at h; cases h; rfl)
    subst this
    exact ⟨[], [], rfl, rfl, .nil, .nil, rfl⟩
  | p :: ps, [], as, us, vs, hD, h, r, rv, hL => by
    have hv := RepCL.nil_inv r
    subst hv
    have hu : us = [] := by cases rv; rfl
    subst hu
    unfold bindPos at h
    have hL0 := (hL 0 p rfl).2 rfl
    have rest : ∀ {as' : List D}, bindPos pi kn ks ps [] = some as' → _ := fun {as'} h' => bindPos_ok hi h1 h2 h3 (ps := ps) (ds := []) (us := []) (vs := []) (fun q hq => hD q (List.mem_cons_of_mem _ hq)) h' .nil .nil fun i q hq => ⟨fun u hu => by simp at hu, fun _ => (hL (i + 1) q (by simpa using hq)).2 (by simp)⟩
    obtain ⟨k1, k2⟩ := kw_get (w := w) hi (p := p) h1 h2 h3
    split at h
    · rename_i d hd
      obtain ⟨as', ha, e⟩ := Option.map_eq_some_iff.mp h
      obtain ⟨v, u, hu, rv', rd⟩ := k1 d hd
      obtain ⟨us', vs', q1, q2, q3, q4, q5⟩ := rest ha
      subst e
      refine ⟨u :: us', v :: vs', ?_, by simp [q2], .cons rv' q3, .cons rd q4, by simp [q5]⟩
      rw [List.map_cons, List.filterMap_cons, hL0, hu, q1]; rfl
    · rename_i hn
      split at h
      · rename_i d hd
        obtain ⟨as', ha, e⟩ := Option.map_eq_some_iff.mp h
        obtain ⟨v, u, hu, rv', rd⟩ := hD p List.mem_cons_self d hd
        obtain ⟨us', vs', q1, q2, q3, q4, q5⟩ := rest ha
        subst e
        refine ⟨u :: us', v :: vs', ?_, by simp [q2], .cons rv' q3, .cons rd q4, by simp [q5]⟩
        rw [List.map_cons, List.filterMap_cons, hL0, k2 hn, hu, q1]; rfl
      · cases h
  | p :: ps, d :: ds, as, us, vs, hD, h, r, rv, hL => by
    obtain ⟨v, vs1, rfl, r1, r2⟩ := RepCL.cons_inv r
    cases rv with
    | @cons _ u _ us1 rv1 rv2 =>
    unfold bindPos at h
    obtain ⟨as', ha, e⟩ := Option.map_eq_some_iff.mp h
    obtain ⟨us', vs', q1, q2, q3, q4, q5⟩ := bindPos_ok hi h1 h2 h3 (ps := ps) (fun q hq => hD q (List.mem_cons_of_mem _ hq)) ha r2 rv2 fun i q hq => by
      have := hL (i + 1) q (by simpa using hq)
      exact ⟨fun u hu => this.1 u (by simpa using hu), fun hu => this.2 (by simpa using hu)⟩
    subst e
    refine ⟨u :: us', v :: vs', ?_, by simp [q2], .cons rv1 q3, .cons r1 q4, by simp [q5]⟩
    rw [List.map_cons, List.filterMap_cons, (hL 0 p rfl).1 u rfl, q1]; rfl
/-- what succeeds has a value for each parameter -/
theorem bindPos_all {pi : PInfo} {kn : List Nat} {ks : List D} : ∀ {ps : List Nat} {ds as : List D}, bindPos pi kn ks ps ds = some as → ∀ (i p : Nat), ps[i]? = some p → ds.length ≤ i → (getF kn ks p).isSome = true ∨ (pi.dfl.lookup p).isSome = true
  | [], ds, as, h, i, p, hp, hi => by simp at hp
  | q :: ps, [], as, h, i, p, hp, hi => by
    unfold bindPos at h
    cases i with
    | zero =>
      simp at hp; subst hp
      split at h
      · rename_i d hd; exact .inl (by rw [hd]; rfl)
      · split at h
        · rename_i d hd; exact .inr (by rw [hd]; rfl)
        · cases h
    | succ i =>
      have hp' : ps[i]? = some p := by simpa using hp
      split at h
      · obtain ⟨as', ha, e⟩ := Option.map_eq_some_iff.mp h
        exact bindPos_all ha i p hp' (Nat.zero_le _)
      · split at h
        · obtain ⟨as', ha, e⟩ := Option.map_eq_some_iff.mp h
          exact bindPos_all ha i p hp' (Nat.zero_le _)
        · cases h
  | q :: ps, d :: ds, as, h, i, p, hp, hi => by
    unfold bindPos at h
    obtain ⟨as', ha, e⟩ := Option.map_eq_some_iff.mp h
    cases i with
    | zero => simp at hi
    | succ i => exact bindPos_all ha i p (by simpa using hp) (by simpa using hi)
/-- what is told of a def -/
structure FnFact (G : GT) (f : Nat) (pi : PInfo) (N : List Str) (scope : Scope) (body : List Stmt) : Prop where
  ex : ∃ (name qual : Str) (params : Arguments) (oc : Value) (od : Option Addr) (dV kV doc pm : Value) (an : Option Addr) (cdv ct : Value) (osl : Array (Option Value)) (its : List Value) (dk : Str → Option Value) (pv : List Str),
    G.K.lookup (G.fadr f) = some ⟨oc, od, .func (PySem.W.fnOf name qual params body scope dV kV doc pm an cdv ct), osl⟩ ∧ PySem.W.codeIn G.K cdv qual = true ∧
    params.posonlyargs = [] ∧ params.args.map (·.arg) = pi.pos.map G.fnm ∧ params.kwonlyargs.map (·.arg) = pi.kwo.map G.fnm ∧ params.kwarg.isSome = false ∧ params.vararg.map (·.arg) = pv.head? ∧ pv.length = (if pi.star then 1 else 0) ∧
    ((its = [] ∧ dV = .none) ∨ ∃ (T : Addr) (o : Obj) (n : Nat), dV = .ref T ∧ G.K.lookup T = some o ∧ o.data = .seq its.toArray n) ∧ its.length ≤ pi.pos.length ∧
    (∀ n v, dk n = some v → ∃ D, kV = .ref D ∧ PySem.W.nsIn G.K D n = some (some v)) ∧
    (∀ p d, pi.dfl.lookup p = some d → (p ∈ pi.pos → ∃ v u, (((pi.pos.map G.fnm).drop (pi.pos.length - its.length)).zip its).lookup (G.fnm p) = some u ∧ RelV v u ∧ RepC G (fun _ => none) (fun _ => 0) 0 d v) ∧
      (p ∈ pi.kwo → ∃ v u, dk (G.fnm p) = some u ∧ RelV v u ∧ RepC G (fun _ => none) (fun _ => 0) 0 d v)) ∧
    FnScope N (pi.pos.map G.fnm ++ pi.kwo.map G.fnm ++ pv) scope ∧ ((pi.pos.map G.fnm) ++ (pi.kwo.map G.fnm)).Nodup ∧ (pi.star = true → pi.kwo = [])
theorem closed {w : Wd} {d : D} {v : V} (r : RepC G (fun _ => none) (fun _ => 0) 0 d v) : Rep G w d v := RepC.mono (fun _ _ z => by cases z) (fun n z => absurd z (Nat.not_lt_zero n)) (Nat.zero_le _) d v r
theorem env_start {w : Wd} {as : List D} {vs : List V} {N : List Str} {n : Nat} (r : RepL G w as vs) (hn : n = N.length) (hl : as.length ≤ n) : EnvR G w (as.map some ++ List.replicate (n - as.length) none) (L2.start N vs) := by
  subst hn
  have l := r.length
  unfold L2.start
  refine ⟨by simp [l], fun i d h => ?_⟩
  by_cases hi : i < as.length
  · rw [List.getElem?_append_left (by simpa using hi), List.getElem?_map] at h
    cases q : as[i]? with
    | none => rw [q] at h; cases h
    | some e =>
      rw [q] at h
      cases h
      obtain ⟨v, hv, rv⟩ := r.get q
      exact ⟨v, by rw [List.getElem?_append_left (by simp; omega), List.getElem?_map, hv]; rfl, rv⟩
  · rw [List.getElem?_append_right (by simpa using hi)] at h
    rw [List.getElem?_replicate] at h
    split at h <;> cases h
theorem post_sealX {σ : L2.St} {W : WX} {w0 w : Wd} {H0 H : Hp} {x : Er} {cls : Value} {dx : Option Addr} {Q : VK} (st : Stp w0 H0 w H) (S : SR G w H) (r : ErR G w x cls dx) (h : Post G (Rep G) W σ w0 H0 Q (sealX w0.m.length x w.m)) : W cls dx σ H := by
  have hl := st.ext.len
  unfold sealX at h
  split at h
  · exact h cls dx H w rfl st S r
  · split at h
    · rename_i hb
      rw [Bool.and_eq_true] at hb
      refine h cls dx H (w.tk w0.m.length) rfl st.tk (S.tk hl hb.2) ?_
      obtain ⟨r1, r2⟩ := r
      refine ⟨r1, ?_⟩
      rcases r2 with r2 | ⟨d, fs, a, b, l, c⟩
      · exact .inl r2
      · refine .inr ⟨d, fs, a, b, l, fun i n e p q => ?_⟩
        obtain ⟨v, y, rv⟩ := c i n e p q
        refine ⟨v, y, ?_⟩
        have lk : (w.tk w0.m.length).m.length = w0.m.length := by show (w.m.take _).length = _; rw [List.length_take]; omega
        show RepC G w.F w.r (w.tk w0.m.length).m.length e v
        rw [lk]
        refine RepC.cut _ _ rv ?_
        have : ∀ {xs : List D} {i : Nat} {e : D}, bndL w0.m.length xs = true → xs[i]? = some e → bnd w0.m.length e = true := by
          intro xs
          induction xs with
          | nil => intro i e _ h; simp at h
          | cons x xs ih =>
            intro i e hb h
            unfold bndL at hb
            rw [Bool.and_eq_true] at hb
            cases i with
            | zero => simp at h; subst h; exact hb.1
            | succ i => exact ih hb.2 (by simpa using h)
        exact this hb.1 q
    · exact h cls dx H w rfl st S r
/-- THE RULE of a def: what is called keeps what its body says -/
theorem fnG_of {prog : Program} {w0 : World} {mg : Str → Option Value} {base : Heap} {k f : Nat} {P P' : Prg} {fd : Fd} {N : List Str} {scope : Scope} {body : List Stmt} {C : TC} {fuel : Nat}
    (F : FnFact G f fd.pi N scope body) (hC : C.N = N) (hsc : C.sc = scope) (hsl : fd.slots = N.length) (htr : trSs C fuel body = fd.body)
    (hgl : ∀ x d, C.gl.lookup x = some d → ∃ v u, mg x = some u ∧ RelV v u ∧ RepC G (fun _ => none) (fun _ => 0) 0 d v) (hbl : ∀ x, C.bl x = true → mg x = none) (hnm : ∀ x i, C.num x = some i → G.fnm i = x)
    (cls : ClsOk G P) (calls : ∀ f, FnG G prog w0 mg base k (G.fadr f) (appF P f)) (hpi : P'.pi f = fd.pi) (hcall : ∀ as m, P'.call f as m = runF P fd as m) : FnG G prog w0 mg base (k + 2) (G.fadr f) (appF P' f) := by
  refine ⟨fun A outer s H us kw vs zs kn Q E hr hg e0 rv hkw rz hcp => ?_⟩
  obtain ⟨w, ds, ks, S, rd, rk, hp⟩ := hcp
  unfold appF at hp
  rw [hpi] at hp
  cases hb : bindA fd.pi ds kn ks with
  | none => rw [hb] at hp; exact hp.elim
  | some as =>
  rw [hb] at hp
  have hp : Post G (Rep G) (fun c d _ H' => E c d H') [] w H Q (runF P fd as w.m) := by
    have := hp
    dsimp only at this
    rw [hcall] at this
    exact this
  obtain ⟨name, qual, params, oc, od, dV, kV, doc, pm, an, cdv, ct, osl, its, dk, pv, lk, hcd, f1, f2, f3, f4, f5, f6, f7, f8, f9, f10, FS, nd, fst⟩ := F.ex
  -- the body, from what is bound
  have run : ∀ (s2 : Shared) (H2 : Hp) (vs2 : List V) (w2 : Wd), SR G w2 H2 → Stp w H w2 H2 → w2.m = w.m → RepL G w2 as vs2 → as.length ≤ N.length → Room (k + 1) (A.deeper (envOfC qual scope s2.heap.objs.size (G.fadr f) cdv)) →
      ∃ t, PSs (cxOf (L2.CX prog w0) prog w0 G.K mg base N qual scope (G.fadr f) cdv A outer s2 H2 E) body t ∧ t { nx := fun _ H' => Q .non H', rt := Q } (L2.start N vs2) H2 := by
    intro s2 H2 vs2 w2 S2 st2 em ra hal hr2
    have un := hr2.un
    have X : Cxt G P k C (cxOf (L2.CX prog w0) prog w0 G.K mg base N qual scope (G.fadr f) cdv A outer s2 H2 E) (fun cls d _ H => E cls d H) := by
      refine ⟨⟨⟨rfl, rfl, FS.nd, ?_, hg⟩, hr2, takes_of rfl rfl rfl rfl, passes_of rfl, cls⟩, calls, ⟨hC.symm, hsc.symm, ?_, fun _ _ => rfl, hgl, hbl, hnm⟩⟩
      · show (A.deeper (envOfC qual scope s2.heap.objs.size (G.fadr f) cdv)).units + 200 < cLine
        omega
      · rw [hsc]; exact FS.kind
    refine ⟨_, (snds fuel).ss X body, ?_⟩
    rw [htr]
    refine ⟨w2, as.map some ++ List.replicate (fd.slots - as.length) none, S2, env_start ra hsl (by rw [hsl]; exact hal), ?_⟩
    unfold runF at hp
    rw [← em] at hp
    have hlen : w2.m.length = w.m.length := by rw [em]
    cases q : denSs P fd.body (as.map some ++ List.replicate (fd.slots - as.length) none) w2.m with
    | bad => rw [q] at hp; exact hp
    | err x env m =>
      rw [q] at hp
      intro c dx σ' H' w' e1 st' S' _ re
      subst e1
      have hp : Post G (Rep G) (fun c d _ H' => E c d H') [] w H Q (sealX w.m.length x w'.m) := by rw [← hlen]; exact hp
      exact post_sealX (σ := []) (st2.trans st') S' re hp
    | ok fl env m =>
      rw [q] at hp
      cases fl with
      | nx =>
        intro σ' H' w' e1 st' S' _
        subst e1
        have hp : Post G (Rep G) (fun c d _ H' => E c d H') [] w H Q (sealR w.m.length .non w'.m) := by rw [← hlen]; exact hp
        exact post_seal (st2.trans st') S' mk_non hp
      | rt d =>
        intro v H' w' e1 st' S' r
        subst e1
        have hp : Post G (Rep G) (fun c d _ H' => E c d H') [] w H Q (sealR w.m.length d w'.m) := by rw [← hlen]; exact hp
        exact post_seal (st2.trans st') S' r hp
      | bk => exact hp.elim
      | ct => exact hp.elim
  have hPl : N.length ≥ (fd.pi.pos.map G.fnm ++ fd.pi.kwo.map G.fnm ++ pv).length := by
    have := congrArg List.length FS.pre
    rw [List.length_take] at this
    omega
  refine StX.run_bnd (k := k + 1) lk hcd FS hr e0 (G := fun vs2 H2 => ∃ w2, SR G w2 H2 ∧ Stp w H w2 H2 ∧ w2.m = w.m ∧ RepL G w2 as vs2 ∧ as.length ≤ N.length) (fun A' Ex Q' h => ?_) (fun s2 H2 vs2 ⟨w2, S2, st2, em, ra, hal⟩ hr2 => run s2 H2 vs2 w2 S2 st2 em ra hal hr2)
  have KX : G.K.In s.heap := e0.mod.kin.keeps fun b o e => (e0.bs b o e).1
  have lv := rv.length
  have ld := rd.length
  have rk2 : ∀ p : Nat, _ := fun p => kw_get (w := w) cls.inj (p := p) hkw rz rk
  have posget : ∀ {i : Nat} {n : Str}, (fd.pi.pos.map G.fnm)[i]? = some n → ∃ p, fd.pi.pos[i]? = some p ∧ n = G.fnm p := fun {i n} hn => by
    rw [List.getElem?_map] at hn
    obtain ⟨p, hp, e⟩ := Option.map_eq_some_iff.mp hn
    exact ⟨p, hp, e.symm⟩
  have ndP : (fd.pi.pos.map G.fnm).Nodup := (List.nodup_append.mp nd).1
  have dflt_at : ∀ {i p : Nat}, fd.pi.pos[i]? = some p → (fd.pi.dfl.lookup p).isSome = true → (fd.pi.pos.map G.fnm).length - its.length ≤ i := fun {i p} hp hd => by
    obtain ⟨d, hd⟩ := Option.isSome_iff_exists.mp hd
    obtain ⟨v, u, hu, _, _⟩ := (f10 p d hd).1 (List.mem_of_getElem? hp)
    have hm := (List.of_mem_zip (PySem.mem_of_lookup hu)).1
    obtain ⟨j, hj⟩ := List.mem_iff_getElem?.mp hm
    rw [List.getElem?_drop] at hj
    have hpi : (fd.pi.pos.map G.fnm)[i]? = some (G.fnm p) := by rw [List.getElem?_map, hp]; rfl
    have := nodup_ix ndP hj hpi
    rw [List.length_map]
    omega
  have hdf : (its = [] ∧ (PySem.W.fnOf name qual params body scope dV kV doc pm an cdv ct).defaults = .none) ∨ ∃ (T : Addr) (o : Obj) (n : Nat), (PySem.W.fnOf name qual params body scope dV kV doc pm an cdv ct).defaults = .ref T ∧ G.K.lookup T = some o ∧ o.data = .seq its.toArray n := f7
  have some_of : ∀ {p : Nat}, (getF kn ks p).isSome = true → (kw.lookup (G.fnm p)).isSome = true := fun {p} h => by
    obtain ⟨d, hd⟩ := Option.isSome_iff_exists.mp h
    obtain ⟨v, u, hu, _⟩ := (rk2 p).1 d hd
    rw [hu]; rfl
  unfold bindA at hb
  by_cases hst : fd.pi.star = true
  · -- with a star
    rw [if_pos hst] at hb
    have hko := fst hst
    split at hb
    · rename_i hk
      obtain ⟨hkn, hz⟩ := hk
      have hkn : kn = [] := by simpa using hkn
      subst hkn
      have hkw0 : kw = [] := by simpa using hkw
      subst hkw0
      obtain ⟨a1, ha1, ea⟩ := Option.map_eq_some_iff.mp hb
      rw [if_pos hst] at f6
      obtain ⟨pv1, epv⟩ : ∃ x, pv = [x] := by
        cases pv with
        | nil => cases f6
        | cons x r =>
          cases r with
          | nil => exact ⟨x, rfl⟩
          | cons y r => simp at f6
      subst epv
      obtain ⟨a, hva, haa⟩ : ∃ a, params.vararg = some a ∧ a.arg = pv1 := by
        cases q : params.vararg with
        | none => rw [q] at f5; cases f5
        | some a => rw [q] at f5; exact ⟨a, rfl, Option.some.inj f5⟩
      refine bind_wp (K := G.K) (dk := dk) (its := its) KX f1 f2 f3 f4 nd hdf (by rw [List.length_map]; exact f8) f9 (fun q hq => by cases hq) List.nodup_nil (.inr (by show params.vararg.isSome = true; rw [hva]; rfl)) (fun i n hn hi => ?_) (fun n hn => by rw [hko] at hn; cases hn) fun L hL hLk => ?_
      · obtain ⟨p, hp, rfl⟩ := posget hn
        rcases bindPos_all ha1 i p hp (by omega) with z | z
        · exact .inl (some_of z)
        · exact .inr (dflt_at hp z)
      · show wpAny _ _ (match params.vararg with | some a => _ | none => _) _ _ _
        rw [hva]
        obtain ⟨us', vs', q1, q2, q3, q4, q5⟩ := bindPos_ok (w := w) cls.inj hkw rz rk (L := L) (DV := fun n => (((fd.pi.pos.map G.fnm).drop ((fd.pi.pos.map G.fnm).length - its.length)).zip its).lookup n) (fun p hp d hd => by
          obtain ⟨v, u, hu, r1, r2⟩ := (f10 p d hd).1 hp
          rw [List.length_map]
          exact ⟨v, u, hu, r1, closed r2⟩) ha1 rd rv (fun i p hp => by
          have hn : (fd.pi.pos.map G.fnm)[i]? = some (G.fnm p) := by rw [List.getElem?_map, hp]; rfl
          refine ⟨fun u hu => by rw [hL i _ hn, hu]; rfl, fun hu => by rw [hL i _ hn, hu]; rfl⟩)
        have hul : us.length ≤ sizeLine := by
          have : us.length ≤ 1000 := by omega
          exact Nat.le_trans this (by decide)
        have hnn : H s.heap.objs.size = none := e0.hok.fresh (Nat.le_refl _)
        refine wpAny_bind (wpAny_newTuple (wpAny_pure ?_) (by rw [List.length_drop]; omega))
        have rdrop : Vals (vs.drop (fd.pi.pos.map G.fnm).length) (us.drop (fd.pi.pos.map G.fnm).length) := rv.drop _
        have new : ObjOk prog w0 (upd H s.heap.objs.size (.tup (vs.drop (fd.pi.pos.map G.fnm).length))) (s.heap.push ({ cls := .type "tuple", data := .seq (us.drop (fd.pi.pos.map G.fnm).length).toArray } : Obj)) s.heap.objs.size (.tup (vs.drop (fd.pi.pos.map G.fnm).length)) :=
          ⟨by rw [List.length_drop]; omega, us.drop (fd.pi.pos.map G.fnm).length, rdrop, ⟨_, Heap.get?_push_size _ rfl, rfl, _, rfl⟩⟩
        have un := StX.un_laid (fs := frs outer) (s := s) (o := ({ cls := .type "tuple", data := .seq (us.drop (fd.pi.pos.map G.fnm).length).toArray } : Obj)) (u := .tup (vs.drop (fd.pi.pos.map G.fnm).length)) hnn
        obtain ⟨S2, ex2⟩ := S.fz (o := .tup (vs.drop (fd.pi.pos.map G.fnm).length)) hnn
        have rt : Rep G (w.fz s.heap.objs.size (.tup (vs.drop (fd.pi.pos.map G.fnm).length))) (.tup (ds.drop fd.pi.pos.length)) (.ref s.heap.objs.size) := by
          refine mk_tup (xs := vs.drop (fd.pi.pos.map G.fnm).length) ?_ (RepL.ext (by rw [List.length_map]; exact rd.drop _) ex2)
          show L2.upd w.F _ _ _ = _
          rw [upd_same]
        have e : (fd.pi.pos.map G.fnm ++ fd.pi.kwo.map G.fnm).filterMap (fun n => (L n).map (n, ·)) ++ [(a.arg, Value.ref s.heap.objs.size)] = (fd.pi.pos.map G.fnm ++ fd.pi.kwo.map G.fnm ++ [pv1]).zip (us' ++ [Value.ref s.heap.objs.size]) := by
          rw [hko, List.map_nil, List.append_nil, q1, haa, List.zip_append (by rw [List.length_map, q2])]; rfl
        rw [e]
        refine h _ _ (vs' ++ [.ref s.heap.objs.size]) _ (StX.env0_laid e0 new) un rfl (fun e s' => StX.cxUp outer s H _ _ E e s' un (fun b o q => Heap.get?_push_of_some _ q) rfl) (q3.append (.cons (show L2.RelV (.ref s.heap.objs.size) (Value.ref s.heap.objs.size) from rfl) .nil)) ?_ ⟨_, S2, Stp.fz S hnn, rfl, ?_, ?_⟩
        · have := q3.length
          rw [hko]; simp; omega
        · rw [← ea]
          exact RepCL.append (RepL.ext q4 ex2) (.cons rt .nil)
        · rw [← ea]
          rw [hko] at hPl
          simp at hPl ⊢
          omega
    · cases hb
  · -- without
    rw [if_neg hst] at hb
    split at hb
    · rename_i hk
      obtain ⟨k1, k2, k3⟩ := hk
      obtain ⟨a1, ha1, hb2⟩ := Option.bind_eq_some_iff.mp hb
      obtain ⟨a2, ha2, ea⟩ := Option.map_eq_some_iff.mp hb2
      rw [if_neg hst] at f6
      have epv : pv = [] := List.eq_nil_of_length_eq_zero f6
      subst epv
      have hva : params.vararg = none := by
        cases q : params.vararg with
        | none => rfl
        | some a => rw [q] at f5; cases f5
      have kwm : ∀ q ∈ kw, ∃ p ∈ kn, q.1 = G.fnm p := fun q hq => by
        have : q.1 ∈ kw.map (·.1) := List.mem_map_of_mem hq
        rw [hkw] at this
        obtain ⟨p, hp, e⟩ := List.mem_map.mp this
        exact ⟨p, hp, e.symm⟩
      have nodkw : (kw.map (·.1)).Nodup := by
        rw [hkw]
        exact List.Pairwise.map G.fnm (fun a b hab e => hab (cls.inj a b e)) k2
      refine bind_wp (K := G.K) (dk := dk) (its := its) KX f1 f2 f3 f4 nd hdf (by rw [List.length_map]; exact f8) f9 (fun q hq => ?_) nodkw (.inl (by rw [List.length_map]; omega)) (fun i n hn hi => ?_) (fun n hn => ?_) fun L hL hLk => ?_
      · obtain ⟨p, hp, e⟩ := kwm q hq
        have := List.all_eq_true.mp k3 p hp
        rw [Bool.or_eq_true, List.contains_iff_mem, List.contains_iff_mem] at this
        rw [List.contains_iff_mem, List.mem_append, e, ← List.map_drop]
        rw [show us.length = ds.length by omega]
        exact this.imp (fun z => List.mem_map_of_mem z) (fun z => List.mem_map_of_mem z)
      · obtain ⟨p, hp, rfl⟩ := posget hn
        rcases bindPos_all ha1 i p hp (by omega) with z | z
        · exact .inl (some_of z)
        · exact .inr (dflt_at hp z)
      · obtain ⟨p, hp, rfl⟩ := List.mem_map.mp hn
        obtain ⟨i, hi⟩ := List.mem_iff_getElem?.mp hp
        rcases bindPos_all ha2 i p hi (Nat.zero_le _) with z | z
        · exact .inl (some_of z)
        · obtain ⟨d, hd⟩ := Option.isSome_iff_exists.mp z
          obtain ⟨v, u, hu, _, _⟩ := (f10 p d hd).2 hp
          right; rw [hu]; rfl
      · show wpAny _ _ (match params.vararg with | some a => _ | none => _) _ _ _
        rw [hva]
        obtain ⟨us1, vs1, q1, q2, q3, q4, q5⟩ := bindPos_ok (w := w) cls.inj hkw rz rk (L := L) (DV := fun n => (((fd.pi.pos.map G.fnm).drop ((fd.pi.pos.map G.fnm).length - its.length)).zip its).lookup n) (fun p hp d hd => by
          obtain ⟨v, u, hu, r1, r2⟩ := (f10 p d hd).1 hp
          rw [List.length_map]
          exact ⟨v, u, hu, r1, closed r2⟩) ha1 rd rv (fun i p hp => by
          have hn : (fd.pi.pos.map G.fnm)[i]? = some (G.fnm p) := by rw [List.getElem?_map, hp]; rfl
          refine ⟨fun u hu => by rw [hL i _ hn, hu]; rfl, fun hu => by rw [hL i _ hn, hu]; rfl⟩)
        obtain ⟨us2, vs2, p1, p2, p3, p4, p5⟩ := bindPos_ok (w := w) cls.inj hkw rz rk (L := L) (DV := dk) (fun p hp d hd => by
          obtain ⟨v, u, hu, r1, r2⟩ := (f10 p d hd).2 hp
          exact ⟨v, u, hu, r1, closed r2⟩) (us := []) (vs := []) ha2 .nil .nil (fun i p hp => ⟨fun u hu => by simp at hu, fun _ => hLk _ (List.mem_map_of_mem (List.mem_of_getElem? hp))⟩)
        refine wpAny_pure ?_
        rw [List.filterMap_append, q1, p1, ← List.zip_append (by rw [List.length_map, q2])]
        have z := h s H (vs1 ++ vs2) (us1 ++ us2) e0 Un.refl rfl (fun _ _ z => z) (q3.append p3) (by
          have h1 := q3.length
          have h2 := p3.length
          simp; omega) ⟨w, S, .refl w H, rfl, by rw [← ea]; exact q4.append p4, by rw [← ea]; simp at hPl ⊢; omega⟩
        rw [List.append_nil] at z
        exact z
    · cases hb
end
end DL

/-! DL22: a whole program, checked against what the top has written -/
namespace DL
open PySem PySem.Spec PyProof.Rows L2

def sList (l : List String) : List Str := l.map Str.ofString
structure FnT where
  cls : Option Nat := none
  nm : Str
  pi : PInfo
  N : List Str
structure ClT where
  nm : Str
  at_ : List (Nat × At)
  mks : Bool := false
  fz : Bool := false
  ity : Bool := false
  nf : List (String ⊕ Nat) := []
structure PT where
  nms : List Str
  fns : List FnT
  cls : List ClT
  gls : List (Str × D) := []
  blts : List Str
  isi : List ((String ⊕ Nat) × (String ⊕ Nat) × Bool) := []
  mu : List (Nat × Nat) := []
  rf : List Nat := []
  fr : List (Nat × List Nat) := []
  fuel : Nat := 100

def weird (i : Nat) : Str := ⟨#[2000000 + i]⟩
def nmAt (nms : List Str) (i : Nat) : Str := (nms[i]?).getD (weird i)
def notWeird (x : Str) : Bool := match x.cps.toList with
  | [c] => decide (c < 2000000)
  | _ => true
theorem weird_not {x : Str} {i : Nat} (h : notWeird x = true) : x ≠ weird i := fun e => by
  subst e
  unfold notWeird weird at h
  simp at h
  omega
theorem nm_inj {nms : List Str} (nd : nms.Nodup) (h : nms.all notWeird = true) (i j : Nat) (e : nmAt nms i = nmAt nms j) : i = j := by
  unfold nmAt at e
  cases a : nms[i]? with
  | none =>
    cases b : nms[j]? with
    | none =>
      rw [a, b] at e
      have e' : weird i = weird j := e
      unfold weird at e'
      simp at e'
      exact e'
    | some y =>
      rw [a, b] at e
      exact absurd e.symm (weird_not (List.all_eq_true.mp h y (List.mem_of_getElem? b)))
  | some x =>
    cases b : nms[j]? with
    | none =>
      rw [a, b] at e
      exact absurd e (weird_not (List.all_eq_true.mp h x (List.mem_of_getElem? a)))
    | some y =>
      rw [a, b] at e
      have e' : x = y := e
      subst e'
      exact nodup_ix nd a b
def gAdr (K : PySem.W.Frag) (x : Str) : Addr := match PySem.W.nsIn K mainGlobals x with
  | some (some (.ref a)) => a
  | _ => 0
def mAdr (K : PySem.W.Frag) (C : Addr) (x : Str) : Addr := match PySem.W.findIn K (.ref C) x with
  | some (some (.ref a)) => a
  | _ => 0
def PT.cadr (T : PT) (K : PySem.W.Frag) (c : Nat) : Addr := match T.cls[c]? with
  | some t => gAdr K t.nm
  | none => 0
def PT.fadr (T : PT) (K : PySem.W.Frag) (f : Nat) : Addr := match T.fns[f]? with
  | some t => (match t.cls with
    | some c => mAdr K (T.cadr K c) t.nm
    | none => gAdr K t.nm)
  | none => 0
abbrev PT.gt (T : PT) (K : PySem.W.Frag) : GT := ⟨K, T.cadr K, T.fadr K, nmAt T.nms⟩
def PT.at_ (T : PT) (c n : Nat) : At := match T.cls[c]? with
  | some t => (t.at_.lookup n).getD .unk
  | none => .unk
def PT.isiF (T : PT) (t c : String ⊕ Nat) : Option Bool := (T.isi.find? fun p => decide (p.1 = t) && decide (p.2.1 = c)).map (·.2.2)
def PT.base (T : PT) : Prg where
  call := fun _ _ _ => .bad
  pi := fun _ => ⟨[], [], [], false⟩
  at_ := T.at_
  mks := fun c => match T.cls[c]? with | some t => t.mks | none => false
  fz := fun c => match T.cls[c]? with | some t => t.fz | none => false
  isi := T.isiF
  fok := fun f => match T.fns[f]? with | some t => t.cls.isNone | none => false
  ity := fun c => match T.cls[c]? with | some t => t.ity | none => false
  nf := fun c t => match T.cls[c]? with | some q => q.nf.any (fun z => decide (z = t)) | none => false
def glFns : Nat → List FnT → List (Str × D)
  | _, [] => []
  | i, t :: ts => match t.cls with
    | none => (t.nm, .fn i) :: glFns (i + 1) ts
    | some _ => glFns (i + 1) ts
def glCls : Nat → List ClT → List (Str × D)
  | _, [] => []
  | i, t :: ts => (t.nm, .cls i) :: glCls (i + 1) ts
def PT.gl (T : PT) : List (Str × D) := glFns 0 T.fns ++ (glCls 0 T.cls ++ T.gls)
/-- a def as the top has written it -/
def fnRec (K : PySem.W.Frag) (a : Addr) : Option (FuncData × List Stmt) := match K.lookup a with
  | some ⟨_, _, .func fd, _⟩ => (match fd.body with
    | .stmts b => some (fd, b)
    | _ => none)
  | _ => none
def PT.tc (T : PT) (N : List Str) (sc : Scope) : TC := ⟨N, sc, fun _ => true, T.gl, fun x => T.blts.contains x, T.nms, T.mu, T.rf, T.fr⟩
def PT.bodyOf (T : PT) (K : PySem.W.Frag) (f : Nat) : List St := match T.fns[f]?, fnRec K (T.fadr K f) with
  | some t, some (fd, b) => trSs (T.tc t.N fd.scope) T.fuel b
  | _, _ => [.bad]
def PT.tab (T : PT) (K : PySem.W.Frag) (f : Nat) : Option Fd := match T.fns[f]? with
  | some t => some ⟨t.pi, t.N.length, T.bodyOf K f⟩
  | none => none

/-! ### the checks -/
def litB (K : PySem.W.Frag) : D → Value → Bool
  | .non, .none => true
  | .bl b, .bool c => b == c
  | .int i, .int j _ => i == j
  | .str x, .str y _ => x == y && decide (x.length ≤ sizeLine)
  | _, _ => false
section
variable {T : PT} {K : PySem.W.Frag}
theorem litB_ok : ∀ {d : D} {u : Value}, litB K d u = true → ∃ v, RelV v u ∧ RepC (T.gt K) (fun _ => none) (fun _ => 0) 0 d v
  | .non, .none, _ => ⟨.non, rfl, by unfold RepC; rfl⟩
  | .bl b, .bool c, h => by
    unfold litB at h
    have e := eq_of_beq h
    subst e
    exact ⟨.bl b, rfl, by unfold RepC; rfl⟩
  | .int i, .int j t, h => by
    unfold litB at h
    have e := eq_of_beq h
    subst e
    exact ⟨.int i, ⟨t, rfl⟩, by unfold RepC; rfl⟩
  | .str x, .str y t, h => by
    unfold litB at h
    rw [Bool.and_eq_true] at h
    have e := eq_of_beq h.1
    subst e
    exact ⟨.str x, ⟨t, rfl⟩, by unfold RepC; exact ⟨rfl, (by unfold SOk; exact of_decide_eq_true h.2)⟩⟩
end
def isRefOf (o : Option (Option Value)) (a : Addr) : Bool := match o with
  | some (some (.ref b)) => a == b
  | _ => false
theorem isRefOf_ok {o : Option (Option Value)} {a : Addr} (h : isRefOf o a = true) : o = some (some (.ref a)) := by
  unfold isRefOf at h
  split at h
  · have e := eq_of_beq h
    subst e; rfl
  · cases h
def isNo (o : Option (Option Value)) : Bool := match o with
  | some none => true
  | _ => false
theorem isNo_ok {o : Option (Option Value)} (h : isNo o = true) : o = some none := by
  unfold isNo at h
  split at h
  · rfl
  · cases h
def clsB (K : PySem.W.Frag) (C : Addr) : Bool := PySem.W.plainGet K C Str.empty && PySem.W.hasDictIn K C && PySem.W.plainOver K C && (PySem.W.findIn K (.ref C) "__setattr__" == some (some (.builtin "object.__setattr__")))
theorem clsB_ok {K : PySem.W.Frag} {C : Addr} (h : clsB K C = true) : Cls K C := by
  unfold clsB at h
  simp only [Bool.and_eq_true] at h
  exact ⟨h.1.1.1, h.1.1.2, h.1.2, eq_of_beq h.2⟩
def PT.atB (T : PT) (K : PySem.W.Frag) (C : Addr) : Nat × At → Bool
  | (n, .no) => isNo (PySem.W.findIn K (.ref C) (nmAt T.nms n))
  | (n, .meth f) => isRefOf (PySem.W.findIn K (.ref C) (nmAt T.nms n)) (T.fadr K f) && PySem.W.isFn K (.ref (T.fadr K f)) && PySem.W.keepIn K (.ref (T.fadr K f))
  | (_, .obj) => (PySem.W.findIn K (.ref C) "__ne__" == some (some (.builtin "object.__ne__"))) && (PySem.W.subIn K (.ref C) (.type "object") == some true)
  | (_, .unk) => true
  | (_, _) => false
def PT.clB (T : PT) (K : PySem.W.Frag) (c : Nat) (t : ClT) : Bool :=
  clsB K (T.cadr K c) && isRefOf (PySem.W.nsIn K mainGlobals t.nm) (T.cadr K c) && t.at_.all (T.atB K (T.cadr K c)) &&
  (!t.mks || (PySem.W.makesIn K (T.cadr K c) && PySem.W.keepIn K (.ref (T.cadr K c)))) &&
  (!t.ity || ((PySem.W.findIn K (.ref (T.cadr K c)) "__class__" == some (some (.builtin "object.__class__"))) && (PySem.W.specialIn K (.builtin "object.__class__") "__get__" == some (some (.builtin "getset_descriptor.__get__"))) &&
    (PySem.W.takesIn K (.builtin "object.__class__") == some true) && (PySem.W.mroIn K (T.cadr K c) (.type "object") == some true))) &&
  t.nf.all fun q => PySem.W.notFirst K (T.cadr K c) (tyVal (T.gt K) q)
def allIx {α : Type} (p : Nat → α → Bool) : Nat → List α → Bool
  | _, [] => true
  | i, a :: as => p i a && allIx p (i + 1) as
theorem allIx_get {α : Type} {p : Nat → α → Bool} : ∀ {l : List α} {j i : Nat} {a : α}, allIx p j l = true → l[i]? = some a → p (j + i) a = true
  | [], j, i, a, _, h => by simp at h
  | x :: l, j, 0, a, h, e => by
    unfold allIx at h
    rw [Bool.and_eq_true] at h
    simp at e; subst e
    exact h.1
  | x :: l, j, i + 1, a, h, e => by
    unfold allIx at h
    rw [Bool.and_eq_true] at h
    have := allIx_get (j := j + 1) h.2 (by simpa using e)
    have e2 : j + 1 + i = j + (i + 1) := by omega
    rw [e2] at this
    exact this
def scopeB (N ps : List Str) (sc : Scope) : Bool :=
  (sc.kind == .function) && !sc.isCoroutine && !sc.isGenerator && decide N.Nodup && (N.take ps.length == ps) && ps.all (fun x => (sc.names.lookup x == some .local) || (sc.names.lookup x == some .cell)) && sc.names.all (fun y => y.2 != .free)
theorem scopeB_ok {N ps : List Str} {sc : Scope} (h : scopeB N ps sc = true) : FnScope N ps sc := by
  unfold scopeB at h
  simp only [Bool.and_eq_true, Bool.not_eq_true', decide_eq_true_eq, List.all_eq_true, Bool.or_eq_true, bne_iff_ne] at h
  obtain ⟨⟨⟨⟨⟨⟨h1, h2⟩, h3⟩, h4⟩, h5⟩, h6⟩, h7⟩ := h
  exact ⟨eq_of_beq h1, h2, h3, h4, eq_of_beq h5, fun x hx => (h6 x hx).imp eq_of_beq eq_of_beq, h7⟩
def dflItems (K : PySem.W.Frag) (v : Value) : Option (List Value) := match v with
  | .none => some []
  | .ref a => match K.lookup a with
    | some ⟨_, _, .seq its _, _⟩ => some its.toList
    | _ => none
  | _ => none
def dkOf (K : PySem.W.Frag) (v : Value) (n : Str) : Option Value := match v with
  | .ref d => match PySem.W.nsIn K d n with
    | some (some u) => some u
    | _ => none
  | _ => none
def PT.fnB (T : PT) (K : PySem.W.Frag) (f : Nat) (t : FnT) : Bool := match fnRec K (T.fadr K f) with
  | some (fd, b) => match dflItems K fd.defaults with
    | some its =>
      (fd.globals == mainGlobals) && fd.closure.isEmpty && (fd.builtins == builtinsNs) && PySem.W.codeIn K fd.code fd.qualname &&
      fd.params.posonlyargs.isEmpty && (fd.params.args.map (·.arg) == t.pi.pos.map (nmAt T.nms)) && (fd.params.kwonlyargs.map (·.arg) == t.pi.kwo.map (nmAt T.nms)) && fd.params.kwarg.isNone && (fd.params.vararg.isSome == t.pi.star) &&
      decide (its.length ≤ t.pi.pos.length) &&
      t.pi.dfl.all (fun q => (!t.pi.pos.contains q.1 || (match (((t.pi.pos.map (nmAt T.nms)).drop (t.pi.pos.length - its.length)).zip its).lookup (nmAt T.nms q.1) with | some u => litB K q.2 u | none => false)) &&
        (!t.pi.kwo.contains q.1 || (match dkOf K fd.kwdefaults (nmAt T.nms q.1) with | some u => litB K q.2 u | none => false))) &&
      scopeB t.N (t.pi.pos.map (nmAt T.nms) ++ t.pi.kwo.map (nmAt T.nms) ++ (fd.params.vararg.map (·.arg)).toList) fd.scope && decide ((t.pi.pos.map (nmAt T.nms)) ++ (t.pi.kwo.map (nmAt T.nms))).Nodup && (!t.pi.star || t.pi.kwo.isEmpty) &&
      (match t.cls with
        | none => isRefOf (PySem.W.nsIn K mainGlobals t.nm) (T.fadr K f) && PySem.W.keepIn K (.ref (T.fadr K f))
        | some _ => true)
    | none => false
  | none => false
def PT.chk (T : PT) (K : PySem.W.Frag) : Bool :=
  decide T.nms.Nodup && T.nms.all notWeird && (T.nms.take 6 == (["__init__", "__eq__", "__len__", "__repr__", "__bool__", "__ne__"] : List Str)) &&
  allIx (T.fnB K) 0 T.fns && allIx (T.clB K) 0 T.cls && T.gls.all (fun q => match PySem.W.nsIn K mainGlobals q.1 with | some (some u) => litB K q.2 u | _ => false) &&
  T.blts.all (fun x => isNo (PySem.W.nsIn K mainGlobals x)) && T.isi.all fun q => PySem.W.kitOne K (tyVal (T.gt K) q.1) (tyVal (T.gt K) q.2.1) == some q.2.2

theorem mem_of_lookupN {α : Type} : ∀ {l : List (Nat × α)} {n : Nat} {a : α}, l.lookup n = some a → (n, a) ∈ l
  | (m, b) :: l, n, a, h => by
    rw [List.lookup_cons] at h
    cases e : n == m with
    | true =>
      rw [e] at h
      have e' := eq_of_beq e
      subst e'
      cases h
      exact List.mem_cons_self
    | false =>
      rw [e] at h
      exact List.mem_cons_of_mem _ (mem_of_lookupN h)
section
variable {T : PT} {K : PySem.W.Frag}
structure PT.Facts (T : PT) (K : PySem.W.Frag) : Prop where
  nd : T.nms.Nodup
  nw : T.nms.all notWeird = true
  six : T.nms.take 6 = (["__init__", "__eq__", "__len__", "__repr__", "__bool__", "__ne__"] : List Str)
  fns : ∀ (f : Nat) (t : FnT), T.fns[f]? = some t → T.fnB K f t = true
  cls : ∀ (c : Nat) (t : ClT), T.cls[c]? = some t → T.clB K c t = true
  gls : ∀ q ∈ T.gls, ∃ u, PySem.W.nsIn K mainGlobals q.1 = some (some u) ∧ litB K q.2 u = true
  blts : ∀ x ∈ T.blts, PySem.W.nsIn K mainGlobals x = some none
  isi : ∀ q ∈ T.isi, PySem.W.kitOne K (tyVal (T.gt K) q.1) (tyVal (T.gt K) q.2.1) = some q.2.2
theorem facts_of (h : T.chk K = true) : T.Facts K := by
  unfold PT.chk at h
  simp only [Bool.and_eq_true, decide_eq_true_eq] at h
  obtain ⟨⟨⟨⟨⟨⟨⟨h1, h2⟩, h3⟩, h4⟩, h5⟩, h6⟩, h7⟩, h8⟩ := h
  refine ⟨h1, h2, eq_of_beq h3, fun f t e => ?_, fun c t e => ?_, fun q hq => ?_, fun x hx => isNo_ok (List.all_eq_true.mp h7 x hx), fun q hq => eq_of_beq (List.all_eq_true.mp h8 q hq)⟩
  · have := allIx_get h4 e
    rwa [Nat.zero_add] at this
  · have := allIx_get h5 e
    rwa [Nat.zero_add] at this
  · have := List.all_eq_true.mp h6 q hq
    split at this
    · rename_i u hu
      exact ⟨u, hu, this⟩
    · cases this
theorem PT.Facts.nm (F : T.Facts K) {i : Nat} {x : Str} (h : T.nms[i]? = some x) : (T.gt K).fnm i = x := by
  show nmAt T.nms i = x
  unfold nmAt
  rw [h]; rfl
theorem PT.Facts.clsOk (F : T.Facts K) : ClsOk (T.gt K) T.base := by
  have six : ∀ {i : Nat} {x : Str}, (["__init__", "__eq__", "__len__", "__repr__", "__bool__", "__ne__"] : List Str)[i]? = some x → (T.gt K).fnm i = x := fun {i x} h => by
    refine F.nm ?_
    rw [← F.six] at h
    have hi : i < 6 := by
      have := (List.getElem?_eq_some_iff.mp h).1
      rw [List.length_take] at this
      omega
    rwa [List.getElem?_take_of_lt hi] at h
  have atOf : ∀ {c n : Nat} {a : At}, T.at_ c n = a → a ≠ .unk → ∃ t, T.cls[c]? = some t ∧ (n, a) ∈ t.at_ ∧ clsB K (T.cadr K c) = true ∧ T.atB K (T.cadr K c) (n, a) = true := fun {c n a} h hu => by
    unfold PT.at_ at h
    split at h
    · rename_i t ht
      have hm : (n, a) ∈ t.at_ := by
        cases q : t.at_.lookup n with
        | none => rw [q] at h; exact absurd h.symm hu
        | some b =>
          rw [q] at h
          have h' : b = a := h
          subst h'
          exact mem_of_lookupN q
      have hc := F.cls c t ht
      unfold PT.clB at hc
      simp only [Bool.and_eq_true] at hc
      exact ⟨t, ht, hm, hc.1.1.1.1.1, List.all_eq_true.mp hc.1.1.1.2 _ hm⟩
    · exact absurd h.symm hu
  refine ⟨fun c n h => ?_, fun c n f h => ?_, fun c n h => ?_, fun c h => ?_, fun f h => ?_, fun t c b h => ?_, fun c h => ?_, fun c t h => ?_, fun i j e => nm_inj F.nd F.nw i j e, six rfl, six rfl, six rfl, six rfl, six rfl, six rfl⟩
  · obtain ⟨t, _, _, h1, h2⟩ := atOf h (by simp)
    exact ⟨clsB_ok h1, isNo_ok h2⟩
  · obtain ⟨t, _, _, h1, h2⟩ := atOf h (by simp)
    unfold PT.atB at h2
    simp only [Bool.and_eq_true] at h2
    exact ⟨clsB_ok h1, isRefOf_ok h2.1.1, h2.1.2, h2.2⟩
  · obtain ⟨t, _, _, h1, h2⟩ := atOf h (by simp)
    unfold PT.atB at h2
    simp only [Bool.and_eq_true] at h2
    exact ⟨clsB_ok h1, trivial, eq_of_beq h2.1, eq_of_beq h2.2⟩
  · unfold PT.base at h
    dsimp only at h
    split at h
    · rename_i t ht
      have hc := F.cls c t ht
      unfold PT.clB at hc
      simp only [Bool.and_eq_true, Bool.or_eq_true, Bool.not_eq_true'] at hc
      rcases hc.1.1.2 with z | z
      · rw [h] at z; cases z
      · exact z
    · cases h
  · unfold PT.base at h
    dsimp only at h
    split at h
    · rename_i t ht
      have hf := F.fns f t ht
      unfold PT.fnB at hf
      split at hf
      · split at hf
        · simp only [Bool.and_eq_true] at hf
          have z := hf.2
          cases q : t.cls with
          | none =>
            rw [q] at z
            simp only [Bool.and_eq_true] at z
            exact z.2
          | some c => rw [q] at h; cases h
        · cases hf
      · cases hf
    · cases h
  · have h' : T.isiF t c = some b := h
    unfold PT.isiF at h'
    obtain ⟨q, hq, e⟩ := Option.map_eq_some_iff.mp h'
    have hm := List.mem_of_find?_eq_some hq
    have hp := List.find?_some hq
    simp only [Bool.and_eq_true, decide_eq_true_eq] at hp
    obtain ⟨e1, e2⟩ := hp
    subst e1 e2 e
    exact F.isi q hm
  · unfold PT.base at h
    dsimp only at h
    split at h
    · rename_i t ht
      have hc := F.cls c t ht
      unfold PT.clB at hc
      simp only [Bool.and_eq_true, Bool.or_eq_true, Bool.not_eq_true'] at hc
      rcases hc.1.2 with z | z
      · rw [h] at z; cases z
      · exact ⟨clsB_ok hc.1.1.1.1.1, eq_of_beq z.1.1.1, eq_of_beq z.1.1.2, eq_of_beq z.1.2, eq_of_beq z.2⟩
    · cases h
  · unfold PT.base at h
    dsimp only at h
    split at h
    · rename_i q hq
      have hc := F.cls c q hq
      unfold PT.clB at hc
      simp only [Bool.and_eq_true] at hc
      obtain ⟨z, hz, e⟩ := List.any_eq_true.mp h
      have e := of_decide_eq_true e
      subst e
      exact List.all_eq_true.mp hc.2 _ hz
    · cases h
theorem glFns_get {n : Nat} : ∀ {ts : List FnT} {j : Nat} {x : Str} {d : D}, (x, d) ∈ glFns j ts → ∃ i t, ts[i]? = some t ∧ t.cls = none ∧ x = t.nm ∧ d = .fn (j + i)
  | [], j, x, d, h => by unfold glFns at h; cases h
  | t :: ts, j, x, d, h => by
    unfold glFns at h
    have recc : ∀ {x d}, (x, d) ∈ glFns (j + 1) ts → ∃ i t', (t :: ts)[i]? = some t' ∧ t'.cls = none ∧ x = t'.nm ∧ d = .fn (j + i) := fun {x d} h => by
      obtain ⟨i, t', h1, h2, h3, h4⟩ := glFns_get (n := n) h
      refine ⟨i + 1, t', by simpa using h1, h2, h3, ?_⟩
      rw [h4]; congr 1; omega
    split at h
    · rename_i hc
      rcases List.mem_cons.mp h with e | h
      · cases e
        exact ⟨0, t, rfl, hc, rfl, rfl⟩
      · exact recc h
    · exact recc h
theorem glCls_get : ∀ {ts : List ClT} {j : Nat} {x : Str} {d : D}, (x, d) ∈ glCls j ts → ∃ (i : Nat) (t : ClT), ts[i]? = some t ∧ x = t.nm ∧ d = .cls (j + i)
  | [], j, x, d, h => by unfold glCls at h; cases h
  | t :: ts, j, x, d, h => by
    unfold glCls at h
    rcases List.mem_cons.mp h with e | h
    · cases e
      exact ⟨0, t, rfl, rfl, rfl⟩
    · obtain ⟨i, t', h1, h2, h3⟩ := glCls_get h
      refine ⟨i + 1, t', by simpa using h1, h2, ?_⟩
      rw [h3]; congr 1; omega
theorem PT.Facts.gl (F : T.Facts K) {h : Heap} {mg : Str → Option Value} (KX : K.In h) (G : h.Ns mainGlobals mg) : ∀ x d, T.gl.lookup x = some d → ∃ v u, mg x = some u ∧ RelV v u ∧ RepC (T.gt K) (fun _ => none) (fun _ => 0) 0 d v := by
  intro x d hl
  have hm := PySem.mem_of_lookup hl
  unfold PT.gl at hm
  rcases List.mem_append.mp hm with hm | hm
  · obtain ⟨i, t, h1, h2, rfl, rfl⟩ := glFns_get (n := 0) hm
    rw [Nat.zero_add]
    have hf := F.fns i t h1
    unfold PT.fnB at hf
    split at hf
    · split at hf
      · simp only [Bool.and_eq_true] at hf
        have z := hf.2
        rw [h2] at z
        simp only [Bool.and_eq_true] at z
        refine ⟨.ref (T.fadr K i), .ref (T.fadr K i), PySem.W.mg_of KX G (isRefOf_ok z.1), rfl, by unfold RepC; rfl⟩
      · cases hf
    · cases hf
  · rcases List.mem_append.mp hm with hm | hm
    · obtain ⟨i, t, h1, rfl, rfl⟩ := glCls_get hm
      rw [Nat.zero_add]
      have hc := F.cls i t h1
      unfold PT.clB at hc
      simp only [Bool.and_eq_true] at hc
      exact ⟨.ref (T.cadr K i), .ref (T.cadr K i), PySem.W.mg_of KX G (isRefOf_ok hc.1.1.1.1.2), rfl, by unfold RepC; rfl⟩
    · obtain ⟨u, h1, h2⟩ := F.gls _ hm
      obtain ⟨v, r1, r2⟩ := litB_ok (T := T) h2
      exact ⟨v, u, PySem.W.mg_of KX G h1, r1, r2⟩
end
end DL

/-! DL23: all defs at all depths; the law's end -/
namespace DL
open PySem PySem.Spec PyProof.Rows L2
section
variable {T : PT} {K : PySem.W.Frag}
theorem fnOf_eta {fd : FuncData} {b : List Stmt} (h : fd.body = .stmts b) (h1 : fd.globals = mainGlobals) (h2 : fd.closure = []) (h3 : fd.builtins = builtinsNs) :
    fd = PySem.W.fnOf fd.name fd.qualname fd.params b fd.scope fd.defaults fd.kwdefaults fd.doc fd.pyModule fd.annotations fd.code fd.closureTuple := by
  obtain ⟨a1, a2, a3, a4, a5, a6, a7, a8, a9, a10, a11, a12, a13, a14, a15⟩ := fd
  simp only at h h1 h2 h3
  subst h h1 h2 h3
  rfl
theorem PT.Facts.fn (F : T.Facts K) {f : Nat} {t : FnT} (ht : T.fns[f]? = some t) : ∃ scope body, FnFact (T.gt K) f t.pi t.N scope body ∧ scope.kind = .function ∧ T.bodyOf K f = trSs (T.tc t.N scope) T.fuel body := by
  have hf := F.fns f t ht
  unfold PT.fnB at hf
  split at hf
  · rename_i fd b hr
    split at hf
    · rename_i its hi
      simp only [Bool.and_eq_true, decide_eq_true_eq] at hf
      obtain ⟨⟨⟨⟨⟨⟨⟨⟨⟨⟨⟨⟨⟨⟨g1, g2⟩, g3⟩, g4⟩, g5⟩, g6⟩, g7⟩, g8⟩, g9⟩, g10⟩, g11⟩, g12⟩, g13⟩, g14⟩, g15⟩ := hf
      have hb : T.bodyOf K f = trSs (T.tc t.N fd.scope) T.fuel b := by
        unfold PT.bodyOf
        rw [ht, hr]
      unfold fnRec at hr
      split at hr
      · rename_i oc od fd' sl hk
        split at hr
        · rename_i b' hbody
          cases hr
          have e := fnOf_eta hbody (eq_of_beq g1) (by simpa using g2) (eq_of_beq g3)
          have S := scopeB_ok g12
          refine ⟨fd.scope, b, ⟨fd.name, fd.qualname, fd.params, oc, od, fd.defaults, fd.kwdefaults, fd.doc, fd.pyModule, fd.annotations, fd.code, fd.closureTuple, sl, its, dkOf K fd.kwdefaults, (fd.params.vararg.map (fun x : Arg => x.arg)).toList,
            ?_, g4, by simpa using g5, eq_of_beq g6, eq_of_beq g7, by simpa using g8, ?_, ?_, ?_, g10, ?_, ?_, S, g13, ?_⟩, S.kind, hb⟩
          · show K.lookup (T.fadr K f) = _
            rw [hk, ← e]
          · cases fd.params.vararg <;> rfl
          · have g9' := eq_of_beq g9
            cases q : fd.params.vararg with
            | none => rw [q] at g9'; rw [← g9']; rfl
            | some a => rw [q] at g9'; rw [← g9']; rfl
          · unfold dflItems at hi
            split at hi
            · rename_i hd
              cases hi
              exact .inl ⟨rfl, hd⟩
            · rename_i a hd
              split at hi
              · rename_i c dct its' n sl' hk'
                cases hi
                exact .inr ⟨a, _, n, hd, hk', by simp⟩
              · cases hi
            · cases hi
          · intro n v hv
            unfold dkOf at hv
            split at hv
            · rename_i d hd
              split at hv
              · rename_i u hu
                cases hv
                exact ⟨d, hd, hu⟩
              · cases hv
            · cases hv
          · intro p d hl
            have := List.all_eq_true.mp g11 (p, d) (mem_of_lookupN hl)
            simp only [Bool.and_eq_true, Bool.or_eq_true, Bool.not_eq_true'] at this
            refine ⟨fun hp => ?_, fun hp => ?_⟩
            · rcases this.1 with z | z
              · rw [List.contains_iff_mem.mpr hp] at z; cases z
              · split at z
                · rename_i u hu
                  obtain ⟨v, r1, r2⟩ := litB_ok (T := T) z
                  exact ⟨v, u, hu, r1, r2⟩
                · cases z
            · rcases this.2 with z | z
              · rw [List.contains_iff_mem.mpr hp] at z; cases z
              · split at z
                · rename_i u hu
                  obtain ⟨v, r1, r2⟩ := litB_ok (T := T) z
                  exact ⟨v, u, hu, r1, r2⟩
                · cases z
          · intro hs
            rw [Bool.or_eq_true, Bool.not_eq_true'] at g14
            rcases g14 with z | z
            · rw [hs] at z; cases z
            · simpa using z
        · cases hr
      · cases hr
    · cases hf
  · cases hf
theorem cls_at {B : Prg} {tb : Nat → Option Fd} {G : GT} (h : ClsOk G B) (n : Nat) : ClsOk G (prgAt B tb n) := by
  cases n with
  | zero => exact ⟨h.no, h.meth, h.obj, h.mks, h.fns, h.isi, h.ins, h.nf, h.inj, h.n0, h.n1, h.n2, h.n3, h.n4, h.n5⟩
  | succ n => exact ⟨h.no, h.meth, h.obj, h.mks, h.fns, h.isi, h.ins, h.nf, h.inj, h.n0, h.n1, h.n2, h.n3, h.n4, h.n5⟩
theorem fnG_bad {G : GT} {prog : Program} {w : World} {mg : Str → Option Value} {base : Heap} {k : Nat} {f : Addr} {g : List D → List Nat → List D → Me → Res D} (h : ∀ ds kn ks m, g ds kn ks m = .bad) : FnG G prog w mg base k f g :=
  ⟨fun A outer s H us kw vs zs kn Q E _ _ _ _ _ _ ⟨w, ds, ks, _, _, _, p⟩ => by rw [h] at p; exact p.elim⟩
/-- THE RULE of a program -/
theorem PT.Facts.all (F : T.Facts K) {prog : Program} {w : World} {mg : Str → Option Value} {base : Heap} (KX : K.In base) (G : base.Ns mainGlobals mg) : ∀ n f, FnG (T.gt K) prog w mg base (2 * n) ((T.gt K).fadr f) (appF (prgAt T.base (T.tab K) n) f)
  | 0, f => fnG_bad fun ds kn ks m => by
    unfold appF
    split <;> rfl
  | n + 1, f => by
    cases ht : T.fns[f]? with
    | none =>
      refine fnG_bad fun ds kn ks m => ?_
      have e : T.tab K f = none := by unfold PT.tab; rw [ht]
      unfold appF
      split
      · show (match T.tab K f with | some fd => runF (prgAt T.base (T.tab K) n) fd _ m | none => .bad) = _
        rw [e]
      · rfl
    | some t =>
      obtain ⟨scope, body, FF, hk, hb⟩ := F.fn ht
      have e : T.tab K f = some ⟨t.pi, t.N.length, T.bodyOf K f⟩ := by unfold PT.tab; rw [ht]
      refine fnG_of (P := prgAt T.base (T.tab K) n) (fd := ⟨t.pi, t.N.length, T.bodyOf K f⟩) (C := T.tc t.N scope) (fuel := T.fuel) FF rfl rfl rfl hb.symm (F.gl KX G) (fun x hx => ?_) (fun x i hx => ?_) (cls_at F.clsOk n) (F.all KX G n) ?_ ?_
      · exact PySem.W.mg_none_of KX G (F.blts x (List.contains_iff_mem.mp hx))
      · exact F.nm (findIdx_get hx)
      · show (match T.tab K f with | some fd => fd.pi | none => _) = _
        rw [e]
      · intro as m
        show (match T.tab K f with | some fd => runF (prgAt T.base (T.tab K) n) fd as m | none => .bad) = _
        rw [e]
theorem repL_ints {G : GT} {w : Wd} : ∀ ns : List Int, RepL G w (ns.map D.int) (ns.map V.int)
  | [] => .nil
  | n :: ns => .cons mk_int (repL_ints ns)
/-- THE HEAD: the law's def, at the script, gives True -/
theorem law_end {l : PySem.W.OpenLaw} {n : Nat} {q : Program} {loose : List Str} {XP : (Str → Option Value) → Heap → Prop} {YP : World → Heap → Prop} {d : DefRec} {K : Params → PySem.W.Frag} {T : PT} (f lv : Nat)
    (hn : l.most = some n) (hn2 : n ≤ sizeLine) (hdf : d.params.defaults = []) (hr : Room (2 * lv) callerA) (hY : ∀ (w : World) (h : Heap), YP w h → (K w.params).In h)
    (hchk : ∀ P : Params, T.chk (K P) = true) (hf : ∀ P : Params, PySem.W.nsIn (K P) mainGlobals d.name = some (some (.ref (T.fadr (K P) f))))
    (hlaw : ∀ (P : Params) (ns : List Int), ns.length ≤ n → ∃ m, appF (prgAt T.base (T.tab (K P)) lv) f [.lst (ns.map .int)] [] [] [] = .ok (.bl true) m) :
    PySem.W.WalkO q loose XP YP l.row.toRowW d [] (fun f vs => PySem.call f vs) := by
  refine Att.attach_call hn hdf fun w s₀ s₁ mg mb fa o pm cd doc a vs ns Gr Y ho hd hcd hmg ha hi hlen hg => ?_
  have KX := hY w _ Y
  have hfa := PySem.W.mg_of KX Gr.T.g (hf w.params)
  rw [hmg] at hfa
  cases hfa
  have Fc := facts_of (hchk w.params)
  have hl : ns.length ≤ sizeLine := Nat.le_trans hlen hn2
  have rv := vals_ints hi
  have lenV := hi.length
  have hns := Gr.T.g
  have hb := Gr.T.b
  have hlim := Gr.T.nolimit
  have core : ∀ H : Hp, Only H → SqL (K w.params) H a (ns.map V.int) → HOk l.prog w H s₁.heap → (∀ b, H b ≠ none → b = a) → (H a ≠ none → (K w.params).lookup a = none) →
      codeAny (model l.prog w) callerA (.call (.ref (T.fadr (K w.params) f)) ⟨[.ref a], []⟩) (fun r s' => r = .ok (.ret (.bool true)) ∧ OldK s₁.heap s'.heap ∧ s'.os = s₁.os ∧ AllBare s'.gens) s₁ := by
    intro H hO hS hok hA hK
    have base_of : ∀ {b : Addr} {o : Obj}, s₁.heap.get? b = some o → H b = none → (hidT s₁.heap H).get? b = some o := fun e n => hidT_get e n
    have noA : ∀ {b : Addr} {o : Obj} {es : Array DictEntry} {ep : Nat}, s₁.heap.get? b = some o → o.data = .dict es ep → H b = none := fun {b o es ep} e d => by
      cases q : H b with
      | none => rfl
      | some u =>
        have e' : b = a := hA b (by rw [q]; simp)
        subst e'
        rw [ha] at e; cases e
        have d' : Data.seq vs.toArray _ = Data.dict es ep := d
        cases d'
    have nsK : ∀ {b : Addr} {m : Str → Option Value}, s₁.heap.Ns b m → (hidT s₁.heap H).Ns b m := fun {b m} ⟨o, es, ep, e, d, r⟩ => ⟨o, es, ep, base_of e (noA e d), d, r⟩
    have hKb : (K w.params).In (hidT s₁.heap H) := fun b o e => base_of (KX b o e) (by
      cases q : H b with
      | none => rfl
      | some u =>
        have e' : b = a := hA b (by rw [q]; simp)
        subst e'
        rw [hK (by rw [q]; simp)] at e; cases e)
    have hM : Mod (K w.params) mg (hidT s₁.heap H) := ⟨hKb, nsK hns, ⟨mb, nsK hb, Gr.T.builtins⟩, let ⟨mc, h1, h2⟩ := hlim; ⟨mc, nsK h1, h2⟩⟩
    have e0 : Env0 l.prog w (K w.params) mg (hidT s₁.heap H) callerA [] s₁ H := ⟨rfl, hM, fun b o e => of_hidT e, Nat.le_of_eq (hidT_size _ _), trivial, fun b hb => absurd (show b ∈ ([] : List Addr) from hb) (by simp), hok, .of_eq hg⟩
    have FG := Fc.all (prog := l.prog) (w := w) hKb (nsK hns) lv f
    obtain ⟨m, hm⟩ := hlaw w.params ns hlen
    have S0 : SR (T.gt (K w.params)) ⟨H, fun _ => 0, []⟩ H := ⟨fun _ _ h => h, fun n o e => by simp at e, fun n o e => by simp at e, fun n n' o o' e => by simp at e⟩
    have rl : Rep (T.gt (K w.params)) ⟨H, fun _ => 0, []⟩ (.lst (ns.map .int)) (.ref a) := mk_lst hS (repL_ints ns)
    refine codeAny_mono (FG.run callerA [] s₁ H [.ref a] [] [.ref a] [] [] (fun v _ => v = .bl true) (fun _ _ _ => False) hr rfl e0 (.cons rfl .nil) rfl .nil ⟨⟨H, fun _ => 0, []⟩, [.lst (ns.map .int)], [], S0, .cons rl .nil, .nil, ?_⟩) fun r s' h => ?_
    · rw [hm]
      intro b H' w' _ _ _ r
      exact rep_bl r
    · cases r with
      | error e =>
        obtain ⟨_, _, _, _, _, _, _, _, _, _, _, _, z⟩ := h
        exact z.elim
      | ok fl =>
        cases fl with
        | next => exact False.elim h
        | brk => exact False.elim h
        | cont => exact False.elim h
        | ret u =>
          obtain ⟨v, H', os, bare, un, hok', r', q⟩ := h
          have q' : v = .bl true := q
          subst q'
          obtain rfl : u = Value.bool true := r'
          refine ⟨rfl, OldK.of_keep fun b o e => ?_, os, bare⟩
          cases q : H b with
          | none => exact un.keep b o e q (by intro z; exact absurd (show b ∈ ([] : List Addr) from z) (by simp)) (by simp)
          | some u =>
            rcases hO b with z | ⟨ob, xs, z⟩
            · rw [q] at z; cases z
            · have z2 := un.frzs b ob _ z
              obtain ⟨e1, _⟩ := hok b _ z
              obtain ⟨e2, _⟩ := hok' b _ z2
              rw [e] at e1; cases e1
              exact e2
  cases hk : (K w.params).lookup a with
  | some o =>
    have e := KX a o hk
    rw [ha] at e
    cases e
    refine core (fun _ => none) (fun _ => .inl rfl) (.inr ⟨_, vs.toArray, _, hk, rfl, rfl, rfl, by rw [List.size_toArray, lenV]; exact hl, by simpa using rv⟩) (fun b u z => by have z' : (none : Option HO) = some u := z; cases z') (fun b z => absurd rfl z) fun z => absurd rfl z
  | none =>
    refine core (fun b => if b = a then some (.frz { cls := .type "list", data := .seq vs.toArray } (.lst (ns.map V.int))) else none) (fun b => ?_) (.inl (.inr ⟨{ cls := .type "list", data := .seq vs.toArray }, if_pos rfl⟩)) (fun b u z => ?_) (fun b z => ?_) fun _ => hk
    · by_cases hb : b = a
      · exact .inr ⟨_, _, if_pos hb⟩
      · exact .inl (if_neg hb)
    · by_cases hb : b = a
      · have z' := (if_pos hb).symm.trans z
        cases z'
        subst hb
        exact ⟨ha, by rw [List.length_map]; exact hl, vs, _, rv, ha⟩
      · have z' := (if_neg hb).symm.trans z
        cases z'
    · by_cases hb : b = a
      · exact hb
      · exact absurd (if_neg hb) z
end
end DL

/-! DL24: the bodies written out -/
namespace DL
open PySem
def tabOf (T : PT) (bs : List (List St)) (f : Nat) : Option Fd := match T.fns[f]?, bs[f]? with
  | some t, some b => some ⟨t.pi, t.N.length, b⟩
  | _, _ => none
theorem tab_eq {T : PT} {K : PySem.W.Frag} {bs : List (List St)} (h : (List.range T.fns.length).map (T.bodyOf K) = bs) : T.tab K = tabOf T bs := by
  subst h
  funext f
  unfold PT.tab tabOf
  cases e : T.fns[f]? with
  | none => rfl
  | some t =>
    have hf : f < T.fns.length := (List.getElem?_eq_some_iff.mp e).1
    rw [List.getElem?_map, List.getElem?_range hf]
    rfl
end DL

namespace DL
open PySem
def T54.nms : List Str := sList ["__init__", "__eq__", "__len__", "__repr__", "__bool__", "__ne__", "value", "least", "most", "self", "tokens", "width", "layers", "heads", "things", "other", "shape", "machines", "thing", "machine_of", "_law_script", "_law_bag", "_law_many", "_law_some", "_law_told", "_law_due", "_law_figure_here", "_law_parts", "_law_form", "_law_lots", "_law_part", "_law_split_here", "field", "machine", "at", "kind", "layer", "number", "extend", "items", "insert", "pop", "append", "clear"]
def T54.fns : List FnT := [
  ⟨none, "is_number", ⟨[6, 7, 8], [], [], false⟩, sList ["value", "least", "most"]⟩,
  ⟨some 0, "__init__", ⟨[9, 10, 11, 12, 13], [], [], false⟩, sList ["self", "tokens", "width", "layers", "heads"]⟩,
  ⟨some 0, "things", ⟨[9], [], [], false⟩, sList ["self", "found", "layer", "number"]⟩,
  ⟨some 0, "__eq__", ⟨[9, 15], [], [], false⟩, sList ["self", "other"]⟩,
  ⟨some 0, "__repr__", ⟨[9], [], [], false⟩, sList ["self"]⟩,
  ⟨none, "is_thing", ⟨[16, 6], [], [], false⟩, sList ["shape", "value", "kind", "layer", "number"]⟩,
  ⟨none, "wrong_thing", ⟨[16, 17], [], [], false⟩, sList ["shape", "machines", "thing", "counts", "machine", "item", "count"]⟩,
  ⟨some 1, "__init__", ⟨[9, 16], [], [], true⟩, sList ["self", "shape", "machines", "at", "machine", "place", "item", "wrong", "kind", "layer", "number"]⟩,
  ⟨some 1, "machine_of", ⟨[9, 18], [], [], false⟩, sList ["self", "thing", "at", "machine"]⟩,
  ⟨some 1, "__eq__", ⟨[9, 15], [], [], false⟩, sList ["self", "other"]⟩,
  ⟨some 1, "__len__", ⟨[9], [], [], false⟩, sList ["self"]⟩,
  ⟨some 1, "__repr__", ⟨[9], [], [], false⟩, sList ["self"]⟩,
  ⟨none, "_law_start", ⟨[20], [], [], false⟩, sList ["_law_script", "_law_mixed", "_law_cell"]⟩,
  ⟨none, "_law_draw", ⟨[21, 22], [], [], false⟩, sList ["_law_bag", "_law_many", "_law_cell", "_law_digit", "_law_seed"]⟩,
  ⟨none, "_law_pick", ⟨[21, 23], [], [], false⟩, sList ["_law_bag", "_law_some"]⟩,
  ⟨none, "_law_like", ⟨[24, 25], [], [], false⟩, sList ["_law_told", "_law_due"]⟩,
  ⟨none, "_law_things", ⟨[26], [], [], false⟩, sList ["_law_figure_here", "_law_many", "_law_wide", "_law_deep", "_law_broad", "_law_found", "_law_at", "_law_h", "_law_j", "_law_a"]⟩,
  ⟨none, "_law_dealt", ⟨[21, 27, 22], [], [], false⟩, sList ["_law_bag", "_law_parts", "_law_many", "_law_lots", "_law_part", "_law_lot", "_law_k"]⟩,
  ⟨none, "_law_split", ⟨[28, 29], [], [], false⟩, sList ["_law_form", "_law_lots"]⟩,
  ⟨none, "_law_times_in", ⟨[29, 30], [], [], false⟩, sList ["_law_lots", "_law_part", "_law_lot", "_law_one"]⟩,
  ⟨none, "_law_wrong", ⟨[26, 29], [], [], false⟩, sList ["_law_figure_here", "_law_lots", "_law_wrong_here", "_law_part"]⟩,
  ⟨none, "_law_copies", ⟨[29], [], [], false⟩, sList ["_law_lots", "_law_lot"]⟩,
  ⟨none, "_law_figure", ⟨[21], [], [], false⟩, sList ["_law_bag"]⟩,
  ⟨none, "_law_strangers", ⟨[26, 28], [], [], false⟩, sList ["_law_figure_here", "_law_form", "_law_many", "_law_wide", "_law_deep", "_law_broad", "_law_found"]⟩,
  ⟨none, "_law_bent", ⟨[21, 29, 27], [], [], false⟩, sList ["_law_bag", "_law_lots", "_law_parts", "_law_bent_here", "_law_turn", "_law_lot"]⟩,
  ⟨none, "_law_some_lists", ⟨[21, 29], [], [], false⟩, sList ["_law_bag", "_law_lots", "_law_found", "_law_lot", "_law_fresh", "_law_part"]⟩,
  ⟨none, "_law_find", ⟨[29, 30], [], [], false⟩, sList ["_law_lots", "_law_part", "_law_m"]⟩,
  ⟨none, "_law_judged", ⟨[26, 28], [], [], false⟩, sList ["_law_figure_here", "_law_form", "_law_parts", "_law_told", "_law_part", "_law_odd"]⟩,
  ⟨none, "_law_kept", ⟨[31, 28, 26, 29], [], [], false⟩, sList ["_law_split_here", "_law_form", "_law_figure_here", "_law_lots", "_law_part", "_law_due", "_law_odd", "_law_lot"]⟩,
  ⟨none, "law", ⟨[20], [], [], false⟩, sList ["_law_script", "_law_bag", "_law_figure_here", "_law_form", "_law_parts", "_law_lots", "_law_other", "_law_lot", "_law_handed", "_law_again", "_law_before", "_law_split_here", "_law_second", "_law_same", "_law_turned", "_law_wider", "_law_turn", "_law_bent_here", "_law_asked", "_law_due"]⟩]
def T54.cls : List ClT := [
  ⟨"Shape", [(0, .meth 1), (1, .meth 3), (2, .no), (3, .meth 4), (4, .no), (5, .obj), (32, .no), (33, .no), (34, .no), (35, .no), (36, .no), (37, .no), (10, .no), (11, .no), (12, .no), (13, .no), (38, .no), (14, .meth 2), (39, .no), (16, .no), (17, .no), (40, .no), (41, .no), (42, .no), (6, .no), (19, .no), (18, .no), (43, .no)], true, true, true, [.inl "NoneType", .inl "bool", .inl "int", .inl "str", .inl "list", .inl "tuple", .inr 0, .inr 1]⟩,
  ⟨"Split", [(0, .meth 7), (1, .meth 9), (2, .meth 10), (3, .meth 11), (4, .no), (5, .obj), (32, .no), (33, .no), (34, .no), (35, .no), (36, .no), (37, .no), (10, .no), (11, .no), (12, .no), (13, .no), (38, .no), (14, .no), (39, .no), (16, .no), (17, .no), (40, .no), (41, .no), (42, .no), (6, .no), (19, .meth 8), (18, .no), (43, .no)], true, true, true, [.inl "NoneType", .inl "bool", .inl "int", .inl "str", .inl "list", .inl "tuple", .inr 0, .inr 1]⟩]
def T54.isi : List ((String ⊕ Nat) × (String ⊕ Nat) × Bool) := [(.inl "NoneType", .inl "bool", false), (.inl "NoneType", .inl "int", false), (.inl "NoneType", .inl "str", false), (.inl "NoneType", .inl "list", false), (.inl "NoneType", .inl "tuple", false), (.inl "NoneType", .inl "dict", false), (.inl "NoneType", .inr 0, false), (.inl "NoneType", .inr 1, false), (.inl "bool", .inl "bool", true), (.inl "bool", .inl "int", true), (.inl "bool", .inl "str", false), (.inl "bool", .inl "list", false), (.inl "bool", .inl "tuple", false), (.inl "bool", .inl "dict", false), (.inl "bool", .inr 0, false), (.inl "bool", .inr 1, false), (.inl "int", .inl "bool", false), (.inl "int", .inl "int", true), (.inl "int", .inl "str", false), (.inl "int", .inl "list", false), (.inl "int", .inl "tuple", false), (.inl "int", .inl "dict", false), (.inl "int", .inr 0, false), (.inl "int", .inr 1, false), (.inl "str", .inl "bool", false), (.inl "str", .inl "int", false), (.inl "str", .inl "str", true), (.inl "str", .inl "list", false), (.inl "str", .inl "tuple", false), (.inl "str", .inl "dict", false), (.inl "str", .inr 0, false), (.inl "str", .inr 1, false), (.inl "list", .inl "bool", false), (.inl "list", .inl "int", false), (.inl "list", .inl "str", false), (.inl "list", .inl "list", true), (.inl "list", .inl "tuple", false), (.inl "list", .inl "dict", false), (.inl "list", .inr 0, false), (.inl "list", .inr 1, false), (.inl "tuple", .inl "bool", false), (.inl "tuple", .inl "int", false), (.inl "tuple", .inl "str", false), (.inl "tuple", .inl "list", false), (.inl "tuple", .inl "tuple", true), (.inl "tuple", .inl "dict", false), (.inl "tuple", .inr 0, false), (.inl "tuple", .inr 1, false), (.inr 0, .inl "bool", false), (.inr 0, .inl "int", false), (.inr 0, .inl "str", false), (.inr 0, .inl "list", false), (.inr 0, .inl "tuple", false), (.inr 0, .inl "dict", false), (.inr 0, .inr 0, true), (.inr 0, .inr 1, false), (.inr 1, .inl "bool", false), (.inr 1, .inl "int", false), (.inr 1, .inl "str", false), (.inr 1, .inl "list", false), (.inr 1, .inl "tuple", false), (.inr 1, .inl "dict", false), (.inr 1, .inr 0, false), (.inr 1, .inr 1, true)]
def T54 : PT := { nms := T54.nms, fns := T54.fns, cls := T54.cls, gls := [("MOST_MACHINES", .int 5)], blts := sList ["abs", "all", "any", "bool", "int", "len", "list", "max", "min", "ord", "repr", "str", "sum", "tuple", "isinstance", "range", "enumerate", "zip"], isi := T54.isi, mu := [(42, 16), (44, 25), (45, 25), (46, 21), (118, 11), (144, 17), (165, 12), (186, 17), (188, 21), (228, 70)], rf := [148, 184] }
end DL

namespace DL
open PySem
def B54.b0 : List St := [
  .ite (.or (.val (.blt .isinst false [.var 0, .cst (.ty "bool")])) (.not (.val (.blt .isinst false [.var 0, .cst (.ty "int")])))) [
    .ret (some (.cst (.bl false))) false] [],
  .ret (some (.chain .LtE .LtE (.var 1) (.var 0) (.var 2))) false]
def B54.b1 : List St := [
  .ite (.not (.val (.app (.cst (.fn 0)) [.var 1, .cst (.int 2), .cst (.int 6)] [] []))) [
    .bad] [],
  .ite (.not (.val (.app (.cst (.fn 0)) [.var 2, .cst (.int 1), .cst (.int 4)] [] []))) [
    .bad] [],
  .ite (.not (.val (.app (.cst (.fn 0)) [.var 3, .cst (.int 1), .cst (.int 3)] [] []))) [
    .bad] [],
  .ite (.not (.val (.app (.cst (.fn 0)) [.var 4, .cst (.int 1), .cst (.int 2)] [] []))) [
    .bad] [],
  .asg (.fld (.var 0) 10) (.var 1),
  .asg (.fld (.var 0) 11) (.var 2),
  .asg (.fld (.var 0) 12) (.var 3),
  .asg (.fld (.var 0) 13) (.var 4)]
def B54.b2 : List St := [
  .asg (.name 1) (.lst true []),
  .loop (.name 2) (.range1 (.fld (.var 0) 12)) [
    .exp (.meth (.var 1) 38 (some .extend) false [.lc true (.tup [.cst (.str "head"), .var 2, .var 3]) (.name 3) (.range1 (.fld (.var 0) 13)) [] [3]] [] []),
    .exp (.meth (.var 1) 38 (some .extend) false [.lc true (.tup [.cst (.str "unit"), .var 2, .var 3]) (.name 3) (.range1 (.fld (.var 0) 11)) [] [3]] [] [])],
  .exp (.meth (.var 1) 38 (some .extend) false [.lc true (.tup [.cst (.str "out"), .cst (.int 0), .var 3]) (.name 3) (.range1 (.fld (.var 0) 10)) [] [3]] [] []),
  .ret (some (.var 1)) false]
def B54.b3 : List St := [
  .ret (some (.and (.blt .isinst false [.var 1, .cst (.cls 0)]) (.and (.cmp .Eq (.fld (.var 0) 10) (.fld (.var 1) 10)) (.and (.cmp .Eq (.fld (.var 0) 11) (.fld (.var 1) 11)) (.and (.cmp .Eq (.fld (.var 0) 12) (.fld (.var 1) 12)) (.cmp .Eq (.fld (.var 0) 13) (.fld (.var 1) 13))))))) false]
def B54.b4 : List St := [
  .ret (some (.fstr [.cst (.str "Shape("), .fmt (.fld (.var 0) 10), .cst (.str ", "), .fmt (.fld (.var 0) 11), .cst (.str ", "), .fmt (.fld (.var 0) 12), .cst (.str ", "), .fmt (.fld (.var 0) 13), .cst (.str ")")])) false]
def B54.b5 : List St := [
  .ite (.or (.not (.val (.blt .isinst false [.var 1, .tup [.cst (.ty "tuple"), .cst (.ty "list")]]))) (.val (.cmp .NotEq (.blt .len false [.var 1]) (.cst (.int 3))))) [
    .ret (some (.cst (.bl false))) false] [],
  .asg (.tup [.name 2, .name 3, .name 4]) (.var 1),
  .ite (.not (.val (.blt .isinst false [.var 2, .cst (.ty "str")]))) [
    .ret (some (.cst (.bl false))) false] [],
  .ite (.val (.cmp .Eq (.var 2) (.cst (.str "out")))) [
    .ret (some (.and (.app (.cst (.fn 0)) [.var 3, .cst (.int 0), .cst (.int 0)] [] []) (.app (.cst (.fn 0)) [.var 4, .cst (.int 0), .bin .sub false (.fld (.var 0) 10) (.cst (.int 1))] [] []))) false] [],
  .ite (.not (.val (.app (.cst (.fn 0)) [.var 3, .cst (.int 0), .bin .sub false (.fld (.var 0) 12) (.cst (.int 1))] [] []))) [
    .ret (some (.cst (.bl false))) false] [],
  .ite (.val (.cmp .Eq (.var 2) (.cst (.str "head")))) [
    .ret (some (.app (.cst (.fn 0)) [.var 4, .cst (.int 0), .bin .sub false (.fld (.var 0) 13) (.cst (.int 1))] [] [])) false] [],
  .ret (some (.and (.cmp .Eq (.var 2) (.cst (.str "unit"))) (.app (.cst (.fn 0)) [.var 4, .cst (.int 0), .bin .sub false (.fld (.var 0) 11) (.cst (.int 1))] [] []))) false]
def B54.b6 : List St := [
  .asg (.name 3) (.dc (.var 2) (.cst (.int 0)) (.name 2) (.seq (.meth (.var 0) 14 none false [] [] [])) [] [2]),
  .loop (.name 4) (.seq (.var 1)) [
    .loop (.name 5) (.seq (.var 4)) [
      .ite (.val (.app (.cst (.fn 5)) [.var 0, .var 5] [] [])) [
        .augS (.var 3) (.blt .tuple_ false [.var 5]) .add (.cst (.int 1))] []]],
  .loop (.tup [.name 2, .name 6]) (.items (.var 3)) [
    .ite (.val (.cmp .NotEq (.var 6) (.cst (.int 1)))) [
      .ret (some (.var 2)) false] []],
  .ret (some (.cst (.non))) false]
def B54.b7 : List St := [
  .ite (.not (.val (.chain .LtE .LtE (.cst (.int 1)) (.blt .len false [.var 2]) (.cst (.int 5))))) [
    .bad] [],
  .loop (.tup [.name 3, .name 4]) (.enum (.var 2)) [
    .ite (.not (.val (.blt .isinst false [.var 4, .tup [.cst (.ty "list"), .cst (.ty "tuple")]]))) [
      .bad] [],
    .loop (.tup [.name 5, .name 6]) (.enum (.var 4)) [
      .ite (.not (.val (.app (.cst (.fn 5)) [.var 1, .var 6] [] []))) [
        .bad] []]],
  .asg (.name 7) (.app (.cst (.fn 6)) [.var 1, .var 2] [] []),
  .ite (.val (.cmp .IsNot (.var 7) (.cst (.non)))) [
    .asg (.tup [.name 8, .name 9, .name 10]) (.var 7),
    .bad] [],
  .asg (.fld (.var 0) 16) (.var 1),
  .asg (.fld (.var 0) 17) (.blt .tuple_ false [.lc false (.blt .tuple_ false [.lc false (.blt .tuple_ false [.var 6]) (.name 6) (.seq (.var 4)) [] [6]]) (.name 4) (.seq (.var 2)) [] [4]])]
def B54.b8 : List St := [
  .ite (.not (.val (.app (.cst (.fn 5)) [.fld (.var 0) 16, .var 1] [] []))) [
    .ret (some (.cst (.non))) false] [],
  .loop (.tup [.name 2, .name 3]) (.enum (.fld (.var 0) 17)) [
    .ite (.val (.cmp .In (.blt .tuple_ false [.var 1]) (.var 3))) [
      .ret (some (.var 2)) false] []],
  .ret (some (.cst (.non))) false]
def B54.b9 : List St := [
  .ret (some (.and (.blt .isinst false [.var 1, .cst (.cls 1)]) (.and (.cmp .Eq (.fld (.var 0) 16) (.fld (.var 1) 16)) (.cmp .Eq (.fld (.var 0) 17) (.fld (.var 1) 17))))) false]
def B54.b10 : List St := [
  .ret (some (.blt .len false [.fld (.var 0) 17])) false]
def B54.b11 : List St := [
  .ret (some (.fstr [.cst (.str "Split("), .fmt (.blt .len false [.fld (.var 0) 17]), .cst (.str " machines)")])) false]
def B54.b12 : List St := [
  .asg (.name 1) (.cst (.int 60913)),
  .loop (.name 2) (.seq (.sl false (.var 0) none (some (.cst (.int 63))))) [
    .asg (.name 1) (.bin .mod false (.blt .int_ false [.bin .add false (.bin .add false (.bin .mul false (.var 1) (.cst (.int 44501))) (.bin .mod false (.blt .int_ false [.var 2]) (.cst (.int 2147483249)))) (.cst (.int 733))]) (.cst (.int 2147483543)))],
  .ret (some (.lst true [.blt .list_ false [.sl false (.var 0) none (some (.cst (.int 63)))], .cst (.int 0), .cst (.int 0), .var 1, .cst (.int 0)])) false]
def B54.b13 : List St := [
  .asg (.sub (.var 0) (.cst (.int 4))) (.bin .add false (.ix (.var 0) (.cst (.int 4))) (.cst (.int 1))),
  .ite (.and (.val (.cmp .Eq (.ix (.var 0) (.cst (.int 2))) (.cst (.int 0)))) (.val (.cmp .Lt (.ix (.var 0) (.cst (.int 1))) (.blt .len false [.ix (.var 0) (.cst (.int 0))])))) [
    .asg (.tup [.name 2, .sub (.var 0) (.cst (.int 1))]) (.tup [.ix (.ix (.var 0) (.cst (.int 0))) (.ix (.var 0) (.cst (.int 1))), .bin .add false (.ix (.var 0) (.cst (.int 1))) (.cst (.int 1))]),
    .ite (.val (.cmp .GtE (.var 2) (.bin .pow false (.cst (.int 10)) (.cst (.int 18))))) [
      .asg (.sub (.var 0) (.cst (.int 2))) (.var 2)] [
      .asg (.sub (.var 0) (.cst (.int 3))) (.bin .mod false (.blt .int_ false [.bin .add false (.bin .add false (.bin .mul false (.ix (.var 0) (.cst (.int 3))) (.cst (.int 30211))) (.bin .mul false (.bin .mod false (.blt .int_ false [.var 2]) (.cst (.int 2147483353))) (.cst (.int 557)))) (.cst (.int 71))]) (.cst (.int 2147483563)))]] [],
  .ite (.val (.cmp .Gt (.ix (.var 0) (.cst (.int 2))) (.cst (.int 0)))) [
    .asg (.tup [.name 3, .sub (.var 0) (.cst (.int 2))]) (.tup [.bin .mod false (.blt .int_ false [.ix (.var 0) (.cst (.int 2))]) (.var 1), .bin .fdiv false (.ix (.var 0) (.cst (.int 2))) (.var 1)]),
    .ret (some (.var 3)) false] [],
  .asg (.name 4) (.blt .int_ false [.ix (.var 0) (.cst (.int 3))]),
  .asg (.sub (.var 0) (.cst (.int 3))) (.bin .mod false (.blt .int_ false [.bin .add false (.bin .add false (.bin .add false (.bin .pow false (.var 4) (.cst (.int 3))) (.bin .mul false (.var 4) (.cst (.int 28711)))) (.bin .mul false (.ix (.var 0) (.cst (.int 4))) (.cst (.int 1299721)))) (.cst (.int 60037))]) (.cst (.int 2147483563))),
  .ret (some (.bin .mod false (.blt .int_ false [.bin .add false (.bin .fdiv false (.ix (.var 0) (.cst (.int 3))) (.cst (.int 89))) (.bin .mul false (.bin .mod false (.blt .int_ false [.ix (.var 0) (.cst (.int 3))]) (.cst (.int 7963))) (.cst (.int 97)))]) (.var 1))) false]
def B54.b14 : List St := [
  .ret (some (.ix (.var 1) (.app (.cst (.fn 13)) [.var 0, .blt .len false [.var 1]] [] []))) false]
def B54.b15 : List St := [
  .ret (some (.cmp .Eq (.blt .repr_ false [.var 0]) (.blt .repr_ false [.var 1]))) false]
def B54.b16 : List St := [
  .asg (.tup [.name 1, .name 2, .name 3, .name 4]) (.var 0),
  .asg (.name 5) (.lst false []),
  .loop (.name 6) (.range1 (.var 3)) [
    .asg (.name 5) (.bin .add false (.bin .add false (.var 5) (.lc false (.tup [.cst (.str "head"), .var 6, .var 7]) (.name 7) (.range1 (.var 4)) [] [7])) (.lc false (.tup [.cst (.str "unit"), .var 6, .var 8]) (.name 8) (.range1 (.var 2)) [] [8]))],
  .ret (some (.bin .add false (.var 5) (.lc false (.tup [.cst (.str "out"), .cst (.int 0), .var 9]) (.name 9) (.range1 (.var 1)) [] [9]))) false]
def B54.b17 : List St := [
  .asg (.name 3) (.lc false (.lst true []) (.name 6) (.range1 (.var 2)) [] [6]),
  .loop (.name 4) (.seq (.var 1)) [
    .asg (.name 5) (.app (.cst (.fn 14)) [.var 0, .var 3] [] []),
    .exp (.meth (.var 5) 40 (some .insert) false [.app (.cst (.fn 13)) [.var 0, .bin .add false (.blt .len false [.var 5]) (.cst (.int 1))] [] [], .var 4] [] [])],
  .ret (some (.var 3)) true]
def B54.b18 : List St := [
  .ite (.val (.cmp .Lt (.blt .len false [.var 1]) (.cst (.int 2)))) [
    .ret (some (.ite (.val (.cmp .Eq (.blt .len false [.var 1]) (.cst (.int 1)))) (.app (.cst (.cls 1)) [.var 0, .ix (.var 1) (.cst (.int 0))] [] []) (.app (.cst (.cls 1)) [.var 0] [] []))) false] [],
  .ite (.val (.cmp .Lt (.blt .len false [.var 1]) (.cst (.int 4)))) [
    .ret (some (.ite (.val (.cmp .Eq (.blt .len false [.var 1]) (.cst (.int 2)))) (.app (.cst (.cls 1)) [.var 0, .ix (.var 1) (.cst (.int 0)), .ix (.var 1) (.cst (.int 1))] [] []) (.app (.cst (.cls 1)) [.var 0, .ix (.var 1) (.cst (.int 0)), .ix (.var 1) (.cst (.int 1)), .ix (.var 1) (.cst (.int 2))] [] []))) false] [],
  .ite (.val (.cmp .Eq (.blt .len false [.var 1]) (.cst (.int 4)))) [
    .ret (some (.app (.cst (.cls 1)) [.var 0, .ix (.var 1) (.cst (.int 0)), .ix (.var 1) (.cst (.int 1)), .ix (.var 1) (.cst (.int 2)), .ix (.var 1) (.cst (.int 3))] [] [])) false] [],
  .ite (.val (.cmp .Eq (.blt .len false [.var 1]) (.cst (.int 5)))) [
    .ret (some (.app (.cst (.cls 1)) [.var 0, .ix (.var 1) (.cst (.int 0)), .ix (.var 1) (.cst (.int 1)), .ix (.var 1) (.cst (.int 2)), .ix (.var 1) (.cst (.int 3)), .ix (.var 1) (.cst (.int 4))] [] [])) false] [],
  .ret (some (.app (.cst (.cls 1)) [.var 0, .ix (.var 1) (.cst (.int 0)), .ix (.var 1) (.cst (.int 1)), .ix (.var 1) (.cst (.int 2)), .ix (.var 1) (.cst (.int 3)), .ix (.var 1) (.cst (.int 4)), .ix (.var 1) (.cst (.int 5))] [] [])) false]
def B54.b19 : List St := [
  .ret (some (.blt .sum_ false [.lc false (.blt .len false [.lc false (.var 3) (.name 3) (.seq (.var 2)) [.val (.cmp .Eq (.var 3) (.var 1))] [3]]) (.name 2) (.seq (.var 0)) [] [2]])) false]
def B54.b20 : List St := [
  .asg (.name 2) (.lc false (.var 3) (.name 3) (.seq (.app (.cst (.fn 16)) [.var 0] [] [])) [.val (.cmp .NotEq (.app (.cst (.fn 19)) [.var 1, .var 3] [] []) (.cst (.int 1)))] [3]),
  .ret (some (.ite (.val (.cmp .NotEq (.var 2) (.lst false []))) (.ix (.var 2) (.cst (.int 0))) (.cst (.non)))) false]
def B54.b21 : List St := [
  .ret (some (.lc false (.blt .list_ true [.var 1]) (.name 1) (.seq (.var 0)) [] [1])) false]
def B54.b22 : List St := [
  .ret (some (.tup [.bin .add false (.cst (.int 2)) (.app (.cst (.fn 13)) [.var 0, .cst (.int 5)] [] []), .bin .add false (.cst (.int 1)) (.app (.cst (.fn 13)) [.var 0, .cst (.int 4)] [] []), .app (.cst (.fn 14)) [.var 0, .lst false [.cst (.int 1), .cst (.int 2), .cst (.int 1), .cst (.int 3)]] [] [], .bin .add false (.cst (.int 1)) (.app (.cst (.fn 13)) [.var 0, .cst (.int 2)] [] [])])) false]
def B54.b23 : List St := [
  .asg (.tup [.name 2, .name 3, .name 4, .name 5]) (.var 0),
  .asg (.name 6) (.lst false [.cst (.non), .cst (.bl true), .cst (.int 0), .cst (.str "head"), .cst (.str ""), .tup [], .lst false [], .tup [.cst (.str "head")], .tup [.cst (.str "head"), .cst (.int 0)], .tup [.cst (.str "head"), .cst (.int 0), .cst (.int 0), .cst (.int 0)], .lst false [.cst (.str "out"), .cst (.int 0), .cst (.int 0), .cst (.int 0)], .var 1]),
  .asg (.name 6) (.bin .add false (.var 6) (.lst false [.tup [.cst (.str "heads"), .cst (.int 0), .cst (.int 0)], .tup [.cst (.str "Head"), .cst (.int 0), .cst (.int 0)], .tup [.cst (.str ""), .cst (.int 0), .cst (.int 0)], .tup [.cst (.int 0), .cst (.int 0), .cst (.str "head")], .tup [.cst (.str "head"), .var 4, .cst (.int 0)], .tup [.cst (.str "head"), .cst (.int 0), .var 5]])),
  .asg (.name 6) (.bin .add false (.var 6) (.lst false [.tup [.cst (.str "head"), .neg (.cst (.int 1)), .cst (.int 0)], .tup [.cst (.str "unit"), .cst (.int 0), .var 3], .tup [.cst (.str "unit"), .var 4, .cst (.int 0)], .lst false [.cst (.str "unit"), .cst (.int 0), .neg (.cst (.int 1))], .tup [.cst (.str "out"), .cst (.int 1), .cst (.int 0)]])),
  .asg (.name 6) (.bin .add false (.var 6) (.lst false [.tup [.cst (.str "out"), .cst (.int 0), .var 2], .tup [.cst (.str "out"), .cst (.int 0), .neg (.cst (.int 1))], .tup [.cst (.str "out"), .neg (.cst (.int 1)), .cst (.int 0)], .tup [.cst (.str "head"), .cst (.bl false), .cst (.int 0)], .lst false [.cst (.str "unit"), .cst (.int 0), .cst (.bl false)]])),
  .asg (.name 6) (.bin .add false (.var 6) (.lst false [.tup [.cst (.str "out"), .cst (.int 0), .cst (.bl true)], .tup [.cst (.str "out"), .cst (.bl false), .cst (.int 1)], .tup [.cst (.str "out"), .cst (.int 0), .cst (.non)], .tup [.cst (.str "head"), .cst (.str "0"), .cst (.int 0)], .tup [.cst (.str "head"), .lst false [.cst (.int 0)], .cst (.int 0)]])),
  .ret (some (.bin .add false (.var 6) (.lst false [.tup [.tup [.cst (.str "head")], .cst (.int 0), .cst (.int 0)], .tup [.cst (.str "unit"), .cst (.bl true), .cst (.int 0)], .tup [.lst false [.cst (.str "head"), .cst (.int 0), .cst (.int 0)]], .lst false [.tup [.cst (.str "out"), .cst (.int 0), .cst (.int 1)]], .tup [.cst (.non), .cst (.int 0), .cst (.int 0)]]))) false]
def B54.b24 : List St := [
  .asg (.name 3) (.app (.cst (.fn 21)) [.var 1] [] []),
  .loop (.name 4) (.range1 (.app (.cst (.fn 13)) [.var 0, .cst (.int 4)] [] [])) [
    .asg (.name 5) (.app (.cst (.fn 14)) [.var 0, .var 3] [] []),
    .ite (.and (.val (.cmp .Eq (.app (.cst (.fn 13)) [.var 0, .cst (.int 2)] [] []) (.cst (.int 0)))) (.val (.cmp .NotEq (.var 5) (.lst false [])))) [
      .exp (.meth (.var 5) 41 (some .pop) false [.app (.cst (.fn 13)) [.var 0, .blt .len false [.var 5]] [] []] [] [])] [
      .exp (.meth (.var 5) 40 (some .insert) false [.app (.cst (.fn 13)) [.var 0, .bin .add false (.blt .len false [.var 5]) (.cst (.int 1))] [] [], .app (.cst (.fn 14)) [.var 0, .var 2] [] []] [] [])]],
  .ret (some (.var 3)) true]
def B54.b25 : List St := [
  .asg (.name 2) (.lst true []),
  .loop (.name 3) (.seq (.var 1)) [
    .asg (.name 4) (.lc true (.ite (.val (.cmp .Eq (.app (.cst (.fn 13)) [.var 0, .cst (.int 4)] [] []) (.cst (.int 0)))) (.blt .list_ false [.var 5]) (.var 5)) (.name 5) (.seq (.var 3)) [] [5]),
    .exp (.meth (.var 2) 42 (some .append) false [.ite (.val (.cmp .Eq (.app (.cst (.fn 13)) [.var 0, .cst (.int 3)] [] []) (.cst (.int 0)))) (.blt .tuple_ false [.var 4]) (.var 4)] [] [])],
  .ret (some (.var 2)) false]
def B54.b26 : List St := [
  .ret (some (.ix (.lc false (.var 2) (.name 2) (.range1 (.blt .len false [.var 0])) [.val (.cmp .In (.var 1) (.ix (.var 0) (.var 2)))] [2]) (.cst (.int 0)))) false]
def B54.b27 : List St := [
  .par [2, 3] [.app (.cst (.fn 16)) [.var 0] [] [], .meth (.var 1) 14 none false [] [] []],
  .ite (.or (.not (.val (.app (.cst (.fn 15)) [.var 3, .var 2] [] []))) (.not (.val (.app (.cst (.fn 15)) [.meth (.var 1) 14 none false [] [] [], .var 2] [] [])))) [
    .ret (some (.cst (.bl false))) false] [],
  .exp (.meth (.var 3) 42 (some .append) false [.tup [.cst (.str "out"), .cst (.int 0), .cst (.int 0)]] [] []),
  .ite (.not (.val (.app (.cst (.fn 15)) [.meth (.var 1) 14 none false [] [] [], .var 2] [] []))) [
    .ret (some (.cst (.bl false))) false] [],
  .loop (.name 4) (.seq (.var 2)) [
    .ite (.or (.val (.cmp .IsNot (.app (.cst (.fn 5)) [.var 1, .var 4] [] []) (.cst (.bl true)))) (.val (.cmp .IsNot (.app (.cst (.fn 5)) [] [6, 16] [.blt .list_ false [.var 4], .var 1]) (.cst (.bl true))))) [
      .ret (some (.cst (.bl false))) false] []],
  .loop (.name 5) (.seq (.app (.cst (.fn 23)) [.var 0, .var 1] [] [])) [
    .ite (.val (.cmp .IsNot (.app (.cst (.fn 5)) [.var 1, .var 5] [] []) (.cst (.bl false)))) [
      .ret (some (.cst (.bl false))) false] []],
  .ret (some (.cst (.bl true))) false]
def B54.b28 : List St := [
  .ite (.or (.val (.cmp .NotEq (.blt .len false [.var 0]) (.blt .len false [.var 3]))) (.not (.val (.app (.cst (.fn 15)) [.fld (.var 0) 17, .blt .tuple_ false [.lc false (.blt .tuple_ false [.var 7]) (.name 7) (.seq (.var 3)) [] [7]]] [] [])))) [
    .ret (some (.cst (.bl false))) false] [],
  .ite (.or (.not (.val (.cmp .Eq (.fld (.var 0) 16) (.var 1)))) (.val (.cmp .NotEq (.blt .repr_ false [.var 0]) (.fstr [.cst (.str "Split("), .fmt (.blt .len false [.var 3]), .cst (.str " machines)")])))) [
    .ret (some (.cst (.bl false))) false] [],
  .loop (.name 4) (.seq (.app (.cst (.fn 16)) [.var 2] [] [])) [
    .asg (.name 5) (.app (.cst (.fn 26)) [.var 3, .var 4] [] []),
    .ite (.not (.val (.app (.cst (.fn 15)) [.lst false [.meth (.var 0) 19 none false [.var 4] [] [], .meth (.var 0) 19 none false [] [18] [.blt .list_ false [.var 4]]], .lst false [.var 5, .var 5]] [] []))) [
      .ret (some (.cst (.bl false))) false] []],
  .loop (.name 6) (.seq (.app (.cst (.fn 23)) [.var 2, .var 1] [] [])) [
    .ite (.val (.cmp .IsNot (.meth (.var 0) 19 none false [.var 6] [] []) (.cst (.non)))) [
      .ret (some (.cst (.bl false))) false] []],
  .ret (some (.cst (.bl true))) false]
def B54.b29 : List St := [
  .asg (.name 1) (.app (.cst (.fn 12)) [.var 0] [] []),
  .asg (.name 2) (.app (.cst (.fn 22)) [.var 1] [] []),
  .par [3, 4] [.app (.cst (.cls 0)) [.ix (.var 2) (.cst (.int 0)), .ix (.var 2) (.cst (.int 1)), .ix (.var 2) (.cst (.int 2)), .ix (.var 2) (.cst (.int 3))] [] [], .app (.cst (.fn 16)) [.var 2] [] []],
  .ite (.not (.val (.app (.cst (.fn 27)) [.var 2, .var 3] [] []))) [
    .ret (some (.cst (.bl false))) false] [],
  .asg (.name 5) (.app (.cst (.fn 17)) [.var 1, .var 4, .bin .add false (.cst (.int 1)) (.app (.cst (.fn 13)) [.var 1, .cst (.int 5)] [] [])] [] []),
  .asg (.name 6) (.app (.cst (.fn 17)) [.var 1, .var 4, .bin .add false (.cst (.int 1)) (.app (.cst (.fn 13)) [.var 1, .cst (.int 5)] [] [])] [] []),
  .par [8, 9] [.app (.cst (.fn 25)) [.var 1, .var 5] [] [], .lc false (.blt .list_ true [.var 7]) (.name 7) (.seq (.var 6)) [] [7]],
  .asg (.name 10) (.blt .repr_ false [.var 8]),
  .par [11, 12] [.app (.cst (.fn 18)) [.var 3, .var 8] [] [], .app (.cst (.fn 18)) [.var 3, .var 9] [] []],
  .asg (.name 13) (.app (.cst (.fn 18)) [.app (.cst (.cls 0)) [.ix (.var 2) (.cst (.int 0)), .ix (.var 2) (.cst (.int 1)), .ix (.var 2) (.cst (.int 2)), .ix (.var 2) (.cst (.int 3))] [] [], .app (.cst (.fn 21)) [.var 5] [] []] [] []),
  .ite (.val (.cmp .NotEq (.blt .repr_ false [.var 8]) (.var 10))) [
    .ret (some (.cst (.bl false))) false] [],
  .loop (.name 7) (.seq (.var 9)) [
    .exp (.meth (.var 7) 43 (some .clear) false [] [] [])],
  .loop (.name 7) (.seq (.var 8)) [
    .ite (.val (.blt .isinst false [.var 7, .cst (.ty "list")])) [
      .exp (.meth (.var 7) 42 (some .append) false [.tup [.cst (.str "out"), .cst (.int 0), .cst (.int 0)]] [] [])] []],
  .ite (.or (.not (.val (.app (.cst (.fn 28)) [.var 11, .var 3, .var 2, .var 5] [] []))) (.not (.val (.app (.cst (.fn 28)) [.var 12, .var 3, .var 2, .var 6] [] [])))) [
    .ret (some (.cst (.bl false))) false] [],
  .ite (.or (.not (.val (.cmp .Eq (.var 11) (.var 13)))) (.or (.val (.cmp .NotEq (.var 11) (.var 13))) (.or (.val (.cmp .Eq (.var 11) (.var 5))) (.or (.val (.cmp .Eq (.var 11) (.cst (.non)))) (.not (.val (.var 11))))))) [
    .ret (some (.cst (.bl false))) false] [],
  .ite (.or (.val (.cmp .NotEq (.cmp .Eq (.var 11) (.var 12)) (.cmp .Eq (.var 5) (.var 6)))) (.val (.cmp .NotEq (.cmp .NotEq (.var 12) (.var 11)) (.cmp .NotEq (.var 5) (.var 6))))) [
    .ret (some (.cst (.bl false))) false] [],
  .asg (.name 14) (.lc false (.rev false (.var 7)) (.name 7) (.seq (.var 5)) [] [7]),
  .ite (.val (.cmp .NotEq (.cmp .Eq (.app (.cst (.fn 18)) [.var 3, .var 14] [] []) (.var 11)) (.cmp .Eq (.var 14) (.var 5)))) [
    .ret (some (.cst (.bl false))) false] [],
  .asg (.name 15) (.tup [.ix (.var 2) (.cst (.int 0)), .ix (.var 2) (.cst (.int 1)), .ix (.var 2) (.cst (.int 2)), .bin .sub false (.cst (.int 3)) (.ix (.var 2) (.cst (.int 3)))]),
  .ite (.val (.cmp .Eq (.app (.cst (.fn 18)) [.app (.cst (.cls 0)) [.ix (.var 15) (.cst (.int 0)), .ix (.var 15) (.cst (.int 1)), .ix (.var 15) (.cst (.int 2)), .ix (.var 15) (.cst (.int 3))] [] [], .lst false [.app (.cst (.fn 16)) [.var 15] [] []]] [] []) (.var 11))) [
    .ret (some (.cst (.bl false))) false] [],
  .loop (.name 16) (.range1 (.cst (.int 3))) [
    .asg (.name 17) (.app (.cst (.fn 24)) [.var 1, .app (.cst (.fn 14)) [.var 1, .lst false [.var 5, .var 6]] [] [], .var 4] [] []),
    .asg (.name 18) (.app (.cst (.fn 25)) [.var 1, .var 17] [] []),
    .asg (.name 10) (.blt .repr_ false [.var 18]),
    .asg (.name 19) (.app (.cst (.fn 20)) [.var 2, .var 17] [] []),
    .ite (.or (.not (.val (.app (.cst (.fn 15)) [.app (.cst (.fn 6)) [.var 3, .var 18] [] [], .var 19] [] []))) (.not (.val (.app (.cst (.fn 15)) [.app (.cst (.fn 6)) [] [17, 16] [.var 18, .var 3], .var 19] [] [])))) [
      .ret (some (.cst (.bl false))) false] [],
    .ite (.val (.cmp .NotEq (.blt .repr_ false [.var 18]) (.var 10))) [
      .ret (some (.cst (.bl false))) false] []],
  .ret (some (.and (.cmp .Is (.app (.cst (.fn 6)) [.var 3, .var 5] [] []) (.cst (.non))) (.and (.app (.cst (.fn 15)) [.app (.cst (.fn 6)) [.var 3, .lst false []] [] [], .ix (.var 4) (.cst (.int 0))] [] []) (.app (.cst (.fn 28)) [.var 11, .var 3, .var 2, .var 5] [] [])))) false]
def B54.bodies : List (List St) := [B54.b0, B54.b1, B54.b2, B54.b3, B54.b4, B54.b5, B54.b6, B54.b7, B54.b8, B54.b9, B54.b10, B54.b11, B54.b12, B54.b13, B54.b14, B54.b15, B54.b16, B54.b17, B54.b18, B54.b19, B54.b20, B54.b21, B54.b22, B54.b23, B54.b24, B54.b25, B54.b26, B54.b27, B54.b28, B54.b29]
end DL

/-! GL1: the equations of the interpreter, as rewriting rules -/
namespace DL
open PySem PySem.Spec PyProof.Rows L2
/-! continuations that simp leaves as they are: the last argument leans on them -/
structure Tag {α : Type} (a : α) : Type where
section
variable {α β : Type}
def Res.bk (r : Res α) (f : α → Me → Res β) (_ : Tag f := ⟨⟩) : Res β := r.bind f
def Res.sk (r : Res α) (env : En) (k : α → Me → SR') (_ : Tag k := ⟨⟩) : SR' := r.st env k
def Res.sN (r : Res α) (k : α → Me → SR') (_ : Tag k := ⟨⟩) : SR' := r.stN k
def SR'.sq (r : SR') (k : Sv) (_ : Tag k := ⟨⟩) : SR' := r.seq k
@[simp] theorem Res.bk_ok (a : α) (m : Me) (f : α → Me → Res β) (t : Tag f) : (Res.ok a m).bk f t = f a m := (rfl)
@[simp] theorem Res.bk_err (a : Er) (m : Me) (f : α → Me → Res β) (t : Tag f) : (Res.err a m).bk f t = .err a m := (rfl)
@[simp] theorem Res.bk_bad (f : α → Me → Res β) (t : Tag f) : (Res.bad).bk f t = .bad := (rfl)
@[simp] theorem Res.sk_ok (a : α) (m : Me) (env : En) (k : α → Me → SR') (t : Tag k) : (Res.ok a m).sk env k t = k a m := (rfl)
@[simp] theorem Res.sk_err (a : Er) (m : Me) (env : En) (k : α → Me → SR') (t : Tag k) : (Res.err a m).sk env k t = .err a env m := (rfl)
@[simp] theorem Res.sN_ok (a : α) (m : Me) (k : α → Me → SR') (t : Tag k) : (Res.ok a m).sN k t = k a m := (rfl)
@[simp] theorem SR'.sq_nx (env : En) (m : Me) (k : Sv) (t : Tag k) : (SR'.ok .nx env m).sq k t = k env m := (rfl)
@[simp] theorem SR'.sq_rt (d : D) (env : En) (m : Me) (k : Sv) (t : Tag k) : (SR'.ok (.rt d) env m).sq k t = .ok (.rt d) env m := (rfl)
@[simp] theorem SR'.sq_ct (env : En) (m : Me) (k : Sv) (t : Tag k) : (SR'.ok .ct env m).sq k t = .ok .ct env m := (rfl)
@[simp] theorem SR'.sq_bk (env : En) (m : Me) (k : Sv) (t : Tag k) : (SR'.ok .bk env m).sq k t = .ok .bk env m := (rfl)
@[simp] theorem SR'.sq_err (x : Er) (env : En) (m : Me) (k : Sv) (t : Tag k) : (SR'.err x env m).sq k t = .err x env m := (rfl)
end
/-- a turn of a loop -/
noncomputable def bodyF (P : Prg) (t : Tg) (b : List DL.St) : D → Sv := fun d env' m2 => (denT P t d env' m2).stN fun env2 m3 => denSs P b env2 m3
@[simp] theorem bodyF_eq (P : Prg) (t : Tg) (b : List DL.St) (d : D) (env : En) (m : Me) : bodyF P t b d env m = (denT P t d env m).sN fun env2 m3 => denSs P b env2 m3 := (rfl)
/-! the equations -/
section
variable (P : Prg) (env : En) (m : Me)
@[simp] theorem dSs_nil : denSs P [] env m = .ok .nx env m := by rw [denSs] <;> rfl
@[simp] theorem dSs_cons (s : DL.St) (ss : List DL.St) : denSs P (s :: ss) env m = (denS P s env m).sq fun env' m' => denSs P ss env' m' := by rw [denSs] <;> rfl
@[simp] theorem dS_ret (e : Ex) : denS P (.ret (some e) false) env m = (den P e env m).sk env fun d m1 => .ok (.rt d) env m1 := by rw [denS] <;> rfl
@[simp] theorem dS_retF (e : Ex) : denS P (.ret (some e) true) env m = (den P e env m).sk env fun d m1 => (frzR m1 d).sk env fun d' m2 => .ok (.rt d') env m2 := by rw [denS] <;> rfl
@[simp] theorem dS_exp (e : Ex) : denS P (.exp e) env m = (den P e env m).sk env fun _ m1 => .ok .nx env m1 := by rw [denS] <;> rfl
@[simp] theorem dS_asg (t : Tg) (e : Ex) : denS P (.asg t e) env m = (den P e env m).sk env fun d m1 => (denT P t d env m1).sN fun env' m2 => .ok .nx env' m2 := by rw [denS] <;> rfl
@[simp] theorem dS_par (is : List Nat) (es : List Ex) : denS P (.par is es) env m = (denL P es env m).sk env fun ds m1 => if is.length = ds.length then .ok .nx (setMany is ds env) m1 else .bad := by rw [denS] <;> rfl
@[simp] theorem dS_ite (c : Cn) (a b : List DL.St) : denS P (.ite c a b) env m = (denC P c env m).sk env fun k m1 => if k then denSs P a env m1 else denSs P b env m1 := by rw [denS] <;> rfl
@[simp] theorem dS_loop (t : Tg) (it : DL.It) (b : List DL.St) : denS P (.loop t it b) env m = (denI P it env m).sk env fun v m1 => loopGo v (bodyF P t b) v.items env m1 := by rw [denS] <;> rfl
@[simp] theorem d_cst (d : D) : den P (.cst d) env m = .ok d m := by rw [den] <;> rfl
@[simp] theorem d_bin (o : Bop) (p : Bool) (a b : Ex) : den P (.bin o p a b) env m = (den P a env m).bk fun d m1 => (den P b env m1).bk fun e m2 => binD o p d e m2 := by rw [den] <;> rfl
@[simp] theorem d_neg (a : Ex) : den P (.neg a) env m = (den P a env m).bk fun d m1 => negD d m1 := by rw [den] <;> rfl
@[simp] theorem d_cmp (o : CmpOp) (a b : Ex) : den P (.cmp o a b) env m = (den P a env m).bk fun d m1 => (den P b env m1).bk fun e m2 => cmpP P o d e m2 := by rw [den] <;> rfl
@[simp] theorem d_not (c : Cn) : den P (.not c) env m = (denC P c env m).bk fun b m1 => .ok (.bl (!b)) m1 := by rw [den] <;> rfl
@[simp] theorem d_and (a b : Ex) : den P (.and a b) env m = (den P a env m).bk fun d m1 => (ofO m1 (truB m1 d)).bk fun k m2 => if k then den P b env m2 else .ok d m2 := by rw [den] <;> rfl
@[simp] theorem d_ite (c : Cn) (a b : Ex) : den P (.ite c a b) env m = (denC P c env m).bk fun k m1 => if k then den P a env m1 else den P b env m1 := by rw [den] <;> rfl
@[simp] theorem d_lst (p : Bool) (es : List Ex) : den P (.lst p es) env m = (denL P es env m).bk fun ds m1 => if ds.length ≤ sizeLine then newL p ds m1 else .bad := by rw [den] <;> rfl
@[simp] theorem d_tup (es : List Ex) : den P (.tup es) env m = (denL P es env m).bk fun ds m1 => if ds.length ≤ sizeLine then newT ds m1 else .bad := by rw [den] <;> rfl
@[simp] theorem d_app (f : Ex) (es : List Ex) (kn : List Nat) (ks : List Ex) : den P (.app f es kn ks) env m = (den P f env m).bk fun g m1 => if okFn P g then (denL P es env m1).bk fun ds m2 => (denL P ks env m2).bk fun kds m3 => appD P g ds kn kds m3 else .bad := by rw [den] <;> rfl
@[simp] theorem d_blt (b : Blt) (p : Bool) (es : List Ex) : den P (.blt b p es) env m = (denL P es env m).bk fun ds m1 => bltD P b p ds m1 := by rw [den] <;> rfl
@[simp] theorem d_meth (o : Ex) (nm : Nat) (bm : Option Bm) (p : Bool) (es : List Ex) (kn : List Nat) (ks : List Ex) : den P (.meth o nm bm p es kn ks) env m = (den P o env m).bk fun d m1 => (ofO m1 (calleeD P m1 d nm bm kn)).bk fun cal m2 => (denL P es env m2).bk fun ds m3 => (denL P ks env m3).bk fun kds m4 => calD P cal d p ds kn kds m4 := by rw [den] <;> rfl
@[simp] theorem d_fld (o : Ex) (f : Nat) : den P (.fld o f) env m = (den P o env m).bk fun d m1 => fldD P d f m1 := by rw [den] <;> rfl
@[simp] theorem d_ix (a i : Ex) : den P (.ix a i) env m = (den P a env m).bk fun d m1 => (den P i env m1).bk fun e m2 => ixD d e m2 := by rw [den] <;> rfl
@[simp] theorem d_sl (p : Bool) (a : Ex) (lo hi : Option Ex) : den P (.sl p a lo hi) env m = (den P a env m).bk fun d m1 => (denO P lo env m1).bk fun l m2 => (denO P hi env m2).bk fun h m3 => slD p d l h m3 := by rw [den] <;> rfl
@[simp] theorem d_rev (p : Bool) (a : Ex) : den P (.rev p a) env m = (den P a env m).bk fun d m1 => revD p d m1 := by rw [den] <;> rfl
@[simp] theorem d_fstr (es : List Ex) : den P (.fstr es) env m = (denF P Str.empty es env m).bk fun x m1 => .ok (.str x) m1 := by rw [den] <;> rfl
@[simp] theorem d_fmt (e : Ex) : den P (.fmt e) env m = (den P e env m).bk fun d m1 => fmtD P d m1 := by rw [den] <;> rfl
theorem d_lc (p : Bool) (elt : Ex) (t : Tg) (it : DL.It) (ifs : List Cn) (own : List Nat) : den P (.lc p elt t it ifs own) env m = (denI P it env m).bk fun v m1 => (lcGo v (turnD P t ifs elt (wipeE env own)) [] v.items m1).bk fun ys m6 => newL p ys m6 := by rw [den_lc] <;> rfl
theorem d_dc (ke ve : Ex) (t : Tg) (it : DL.It) (ifs : List Cn) (own : List Nat) : den P (.dc ke ve t it ifs own) env m = (denI P it env m).bk fun v m1 => (dcGo v (turnK P t ifs ke ve (wipeE env own)) [] v.items m1).bk fun kvs m6 => .ok (.loc m6.length) (m6 ++ [.dT kvs]) := by rw [den_dc] <;> rfl
@[simp] theorem dC_val (e : Ex) : denC P (.val e) env m = (den P e env m).bk fun d m1 => truD P d m1 := by rw [denC] <;> rfl
@[simp] theorem dC_not (c : Cn) : denC P (.not c) env m = (denC P c env m).bk fun k m1 => .ok (!k) m1 := by rw [denC] <;> rfl
@[simp] theorem dC_and (a b : Cn) : denC P (.and a b) env m = (denC P a env m).bk fun k m1 => if k then denC P b env m1 else .ok false m1 := by rw [denC] <;> rfl
@[simp] theorem dC_or (a b : Cn) : denC P (.or a b) env m = (denC P a env m).bk fun k m1 => if k then .ok true m1 else denC P b env m1 := by rw [denC] <;> rfl
@[simp] theorem dCs_nil : denCs P [] env m = .ok true m := by rw [denCs] <;> rfl
@[simp] theorem dCs_cons (c : Cn) (cs : List Cn) : denCs P (c :: cs) env m = (denC P c env m).bk fun k m1 => if k then denCs P cs env m1 else .ok false m1 := by rw [denCs] <;> rfl
@[simp] theorem dL_nil : denL P [] env m = .ok [] m := by rw [denL] <;> rfl
@[simp] theorem dL_cons (e : Ex) (es : List Ex) : denL P (e :: es) env m = (den P e env m).bk fun d m1 => (denL P es env m1).bk fun ds m2 => .ok (d :: ds) m2 := by rw [denL] <;> rfl
@[simp] theorem dO_none : denO P none env m = .ok none m := by rw [denO] <;> rfl
@[simp] theorem dO_some (e : Ex) : denO P (some e) env m = (den P e env m).bk fun d m1 => partD d m1 := by rw [denO] <;> rfl
@[simp] theorem dI_seq (e : Ex) : denI P (.seq e) env m = (den P e env m).bk fun d m1 => ofO m1 (seqI m1 d) := by rw [denI] <;> rfl
@[simp] theorem dI_r1 (e : Ex) : denI P (.range1 e) env m = (den P e env m).bk fun d m1 => ofO m1 (rngI [d]) := by rw [denI] <;> rfl
@[simp] theorem dI_enum (e : Ex) : denI P (.enum e) env m = (den P e env m).bk fun d m1 => ofO m1 (enumI m1 d) := by rw [denI] <;> rfl
@[simp] theorem dI_items (e : Ex) : denI P (.items e) env m = (den P e env m).bk fun d m1 => itemsI d m1 := by rw [denI] <;> rfl
@[simp] theorem dT_name (i : Nat) (d : D) : denT P (.name i) d env m = .ok (env.set i (some d)) m := by rw [denT] <;> rfl
@[simp] theorem dT_tupT (ts : List Tg) (xs : List D) : denT P (.tup ts) (.tup xs) env m = if xs.length = ts.length then denTs P ts xs env m else .bad := by rw [denT] <;> rfl
@[simp] theorem dT_tupL (ts : List Tg) (xs : List D) : denT P (.tup ts) (.lst xs) env m = if xs.length = ts.length then denTs P ts xs env m else .bad := by rw [denT] <;> rfl
theorem dT_sub (o i : Ex) (d : D) : denT P (.sub o i) d env m = (den P o env m).bk fun x m1 => (den P i env m1).bk fun j m2 => match x, j with
    | .loc n, .int j => match m2[n]? with
      | some (.lst xs) => match ixN xs.length j with
        | some k => .ok env (m2.set n (.lst (xs.set k d)))
        | none => .bad
      | _ => .bad
    | _, _ => .bad := by rw [denT] <;> rfl
@[simp] theorem d_chain (o o2 : CmpOp) (a b c : Ex) : den P (.chain o o2 a b c) env m = (den P a env m).bk fun d m1 => (den P b env m1).bk fun e m2 => (cmpD o d e m2).bk fun r m3 => match r with
    | .bl true => (den P c env m3).bk fun g m4 => cmpD o2 e g m4
    | .bl false => .ok (.bl false) m3
    | _ => .bad := by rw [den] <;> rfl
@[simp] theorem dTs_nil : denTs P [] [] env m = .ok env m := by rw [denTs] <;> rfl
@[simp] theorem dTs_cons (t : Tg) (ts : List Tg) (d : D) (ds : List D) : denTs P (t :: ts) (d :: ds) env m = (denT P t d env m).bk fun env' m1 => denTs P ts ds env' m1 := by rw [denTs] <;> rfl
@[simp] theorem ofO_some {α : Type} (a : α) : ofO m (some a) = .ok a m := (rfl)
@[simp] theorem ofB_some (a : Bool) : ofB m (some a) = .ok (.bl a) m := (rfl)
@[simp] theorem truD_blS (b : Bool) : truD P (.bl b) m = .ok b m := (rfl)
@[simp] theorem truB_bl (b : Bool) : truB m (.bl b) = some b := (rfl)
end
/-- a slot is read -/
theorem d_var {P : Prg} {env : En} {m : Me} {i : Nat} {d : D} (h : env[i]? = some (some d)) : den P (.var i) env m = .ok d m := by rw [den, h]
@[simp] theorem d_var0 (P : Prg) (m : Me) (d : D) (env : En) : den P (.var 0) (some d :: env) m = .ok d m := d_var rfl
@[simp] theorem d_varS (P : Prg) (m : Me) (x : Option D) (env : En) (i : Nat) : den P (.var (i + 1)) (x :: env) m = (den P (.var i) env m) := by rw [den, den]; rfl

section
variable (P : Prg) (env : En) (m : Me)
@[simp] theorem d_or (a b : Ex) : den P (.or a b) env m = (den P a env m).bk fun d m1 => (ofO m1 (truB m1 d)).bk fun k m2 => if k then .ok d m2 else den P b env m2 := by rw [den] <;> rfl
@[simp] theorem dF_nil (acc : Str) : denF P acc [] env m = .ok acc m := by rw [denF] <;> rfl
@[simp] theorem dF_cons (acc : Str) (e : Ex) (es : List Ex) : denF P acc (e :: es) env m = (den P e env m).bk fun d m1 => match d with
    | .str y => if (acc ++ y).length ≤ sizeLine then denF P (acc ++ y) es env m1 else .bad
    | _ => .bad := by rw [denF] <;> rfl
@[simp] theorem dI_r2 (a b : Ex) : denI P (.range2 a b) env m = (den P a env m).bk fun d m1 => (den P b env m1).bk fun e m2 => ofO m2 (rngI [d, e]) := by rw [denI] <;> rfl
@[simp] theorem dI_zip (a b : Ex) : denI P (.zip a b) env m = (den P a env m).bk fun d m1 => (den P b env m1).bk fun e m2 => ofO m2 (zipI d e) := by rw [denI] <;> rfl
@[simp] theorem dS_pass : denS P .pass env m = .ok .nx env m := by rw [denS] <;> rfl
@[simp] theorem dS_brk : denS P .brk env m = .ok .bk env m := by rw [denS] <;> rfl
@[simp] theorem dS_cont : denS P .cont env m = .ok .ct env m := by rw [denS] <;> rfl
@[simp] theorem dS_bad : denS P .bad env m = .bad := by rw [denS] <;> rfl
@[simp] theorem dS_ret0 (f : Bool) : denS P (.ret none f) env m = .ok (.rt .non) env m := by rw [denS] <;> rfl
theorem dS_aug (i : Nat) (o : Bop) (p : Bool) (e : Ex) : denS P (.aug i o p e) env m = match env[i]? with
    | some (some x) => (den P e env m).sk env fun d m1 => (iopD o x d m1).sk env fun z m2 => .ok .nx (env.set i (some z)) m2
    | _ => .bad := by rw [denS] <;> rfl
theorem dS_augS (o i : Ex) (op : Bop) (e : Ex) : denS P (.augS o i op e) env m = (den P o env m).sk env fun x m1 => (den P i env m1).sk env fun y m2 => match x with
    | .loc n => match m2[n]?, keyD y with
      | some (.dT kvs), some ks => match getT kvs ks with
        | some v => (den P e env m2).sk env fun d m3 => (iopD op v d m3).sk env fun z m4 => match m4[n]? with
          | some (.dT kvs') => if kvs'.length < sizeLine then .ok .nx env (m4.set n (.dT (putT kvs' ks z))) else .bad
          | _ => .bad
        | none => .bad
      | _, _ => .bad
    | _ => .bad := by rw [denS] <;> rfl
theorem dT_fld (o : Ex) (f : Nat) (d : D) : denT P (.fld o f) d env m = (den P o env m).bk fun x m1 => match x with
    | .loc n => match m1[n]? with
      | some (.ins c ns xs) => match P.at_ c f with
        | .no => if xs.length < 1000 then .ok env (m1.set n (.ins c (putN f ns) (putX f d ns xs))) else .bad
        | _ => .bad
      | _ => .bad
    | _ => .bad := by rw [denT] <;> rfl
@[simp] theorem appD_fn (f : Nat) (ds : List D) (kn : List Nat) (ks : List D) : appD P (.fn f) ds kn ks m = appF P f ds kn ks m := (rfl)
@[simp] theorem appD_cls (f : Nat) (ds : List D) (kn : List Nat) (ks : List D) : appD P (.cls f) ds kn ks m = newC P f ds kn ks m := (rfl)
@[simp] theorem calD_r (b : Bm) (o : D) (p : Bool) (ds : List D) (kn : List Nat) (ks : List D) : calD P (.inr b) o p ds kn ks m = bmD b p o ds m := (rfl)
@[simp] theorem calD_l (f : Nat) (o : D) (p : Bool) (ds : List D) (kn : List Nat) (ks : List D) : calD P (.inl f) o p ds kn ks m = appF P f (o :: ds) kn ks m := (rfl)
@[simp] theorem okFn_fn (f : Nat) : okFn P (.fn f) = P.fok f := (rfl)
@[simp] theorem okFn_cls (f : Nat) : okFn P (.cls f) = P.mks f := (rfl)
@[simp] theorem vw_int' (i : Int) : vw m (.int i) = .int i := (rfl)
@[simp] theorem vw_str' (i : Str) : vw m (.str i) = .str i := (rfl)
@[simp] theorem vw_bl' (i : Bool) : vw m (.bl i) = .bl i := (rfl)
@[simp] theorem vw_non' : vw m .non = .non := (rfl)
@[simp] theorem vw_lst' (xs : List D) : vw m (.lst xs) = .lst xs := (rfl)
@[simp] theorem vw_tup' (xs : List D) : vw m (.tup xs) = .tup xs := (rfl)
@[simp] theorem vw_ins' (c : Nat) (ns : List Nat) (xs : List D) : vw m (.ins c ns xs) = .ins c ns xs := (rfl)
@[simp] theorem vw_loc0 (xs : List D) (ms : Me) : vw (.lst xs :: ms) (.loc 0) = .lst xs := (rfl)
theorem vw_loc {n : Nat} {xs : List D} (h : m[n]? = some (.lst xs)) : vw m (.loc n) = .lst xs := by simp [vw, h]
@[simp] theorem add_int (p : Bool) (i j : Int) : binD .add p (.int i) (.int j) m = .ok (.int (i + j)) m := (rfl)
@[simp] theorem sub_int (p : Bool) (i j : Int) : binD .sub p (.int i) (.int j) m = .ok (.int (i - j)) m := (rfl)
@[simp] theorem neg_int (i : Int) : negD (.int i) m = .ok (.int (-i)) m := (rfl)
theorem mul_int (p : Bool) (i j : Int) (h : i.natAbs < 2 ^ 200) (g : j.natAbs < 2 ^ 200) : binD .mul p (.int i) (.int j) m = .ok (.int (i * j)) m := by
  have l : ∀ n : Nat, n < 2 ^ 200 → n.log2 < 300 := fun n hn => by
    by_cases z : n = 0
    · subst z; decide
    · have := (Nat.log2_lt z).2 hn
      omega
  have := l _ h; have := l _ g
  show (if i.natAbs.log2 + j.natAbs.log2 < 1000000 then _ else _) = _
  rw [if_pos (by omega)]
@[simp] theorem mod_int (p : Bool) (i j : Int) (h : 0 < j) : binD .mod p (.int i) (.int j) m = .ok (.int (i % j)) m := by
  show (if 0 < j then _ else _) = _
  rw [if_pos h]
theorem fdiv_int (p : Bool) (i j : Int) (h : 0 < j) (g : j < 2 ^ 200) : binD .fdiv p (.int i) (.int j) m = .ok (.int (i / j)) m := by
  have : j.natAbs.log2 < 9000 := by
    have z : j.natAbs ≠ 0 := by omega
    have := (Nat.log2_lt (k := 200) z).2 (by omega)
    omega
  show (if 0 < j ∧ j.natAbs.log2 < 9000 then _ else _) = _
  rw [if_pos ⟨h, this⟩]
theorem pow_int (p : Bool) (i j : Int) (h : 0 ≤ j) (g : j ≤ 1000) (k : i.natAbs < 2 ^ 64) : binD .pow p (.int i) (.int j) m = .ok (.int (i ^ j.toNat)) m := by
  show (if 0 ≤ j ∧ j ≤ 1000000 ∧ i.natAbs < 2 ^ 64 then _ else _) = _
  rw [if_pos ⟨h, by omega, k⟩]
@[simp] theorem iadd_int (i j : Int) : iopD .add (.int i) (.int j) m = .ok (.int (i + j)) m := (rfl)
@[simp] theorem eq_int (i j : Int) : cmpP P .Eq (.int i) (.int j) m = .ok (.bl (decide (i = j))) m := (rfl)
@[simp] theorem ne_int (i j : Int) : cmpP P .NotEq (.int i) (.int j) m = .ok (.bl (!decide (i = j))) m := (rfl)
@[simp] theorem lt_int (i j : Int) : cmpP P .Lt (.int i) (.int j) m = .ok (.bl (decide (i < j))) m := (rfl)
@[simp] theorem le_int (i j : Int) : cmpP P .LtE (.int i) (.int j) m = .ok (.bl (decide (i ≤ j))) m := (rfl)
@[simp] theorem gt_int (i j : Int) : cmpP P .Gt (.int i) (.int j) m = .ok (.bl (decide (j < i))) m := (rfl)
@[simp] theorem ge_int (i j : Int) : cmpP P .GtE (.int i) (.int j) m = .ok (.bl (decide (j ≤ i))) m := (rfl)
@[simp] theorem eq_str (i j : Str) : cmpP P .Eq (.str i) (.str j) m = .ok (.bl (decide (i = j))) m := (rfl)
@[simp] theorem ne_str (i j : Str) : cmpP P .NotEq (.str i) (.str j) m = .ok (.bl (!decide (i = j))) m := (rfl)
@[simp] theorem eq_bl (i j : Bool) : cmpP P .Eq (.bl i) (.bl j) m = .ok (.bl (decide (i = j))) m := (rfl)
@[simp] theorem ne_bl (i j : Bool) : cmpP P .NotEq (.bl i) (.bl j) m = .ok (.bl (!decide (i = j))) m := (rfl)
@[simp] theorem isn_bl (i j : Bool) : cmpP P .IsNot (.bl i) (.bl j) m = .ok (.bl (!decide (i = j))) m := (rfl)
@[simp] theorem isn_non : cmpP P .IsNot .non .non m = .ok (.bl false) m := (rfl)
@[simp] theorem is_non : cmpP P .Is .non .non m = .ok (.bl true) m := (rfl)
@[simp] theorem cle_int (i j : Int) : cmpD .LtE (.int i) (.int j) m = .ok (.bl (decide (i ≤ j))) m := (rfl)
@[simp] theorem clt_int (i j : Int) : cmpD .Lt (.int i) (.int j) m = .ok (.bl (decide (i < j))) m := (rfl)
@[simp] theorem len_lst (p : Bool) (xs : List D) : bltD P .len p [.lst xs] m = .ok (.int xs.length) m := (rfl)
@[simp] theorem len_tup (p : Bool) (xs : List D) : bltD P .len p [.tup xs] m = .ok (.int xs.length) m := (rfl)
theorem len_loc (p : Bool) {n : Nat} {xs : List D} (h : m[n]? = some (.lst xs)) : bltD P .len p [.loc n] m = .ok (.int xs.length) m := by
  have e : bltD P .len p [.loc n] m = match vw m (.loc n) with
    | .lst xs => .ok (.int xs.length) m
    | .tup xs => .ok (.int xs.length) m
    | .str x => .ok (.int x.length) m
    | .ins c _ _ => match P.at_ c nLen with
      | .meth f => (appF P f [.loc n] [] [] m).bindN fun r m' => match r with
        | .int n => if 0 ≤ n ∧ n < 2 ^ 63 then .ok (.int n) m' else .bad
        | _ => .bad
      | _ => .bad
    | _ => .bad := rfl
  rw [e, vw_loc m h]
@[simp] theorem int_int (p : Bool) (i : Int) : bltD P .int_ p [.int i] m = .ok (.int i) m := (rfl)
@[simp] theorem int_bl (p : Bool) (i : Bool) : bltD P .int_ p [.bl i] m = .ok (.int (if i then 1 else 0)) m := (rfl)
@[simp] theorem tup_lst (p : Bool) (xs : List D) : bltD P .tuple_ p [.lst xs] m = .ok (.tup xs) m := (rfl)
@[simp] theorem tup_tup (p : Bool) (xs : List D) : bltD P .tuple_ p [.tup xs] m = .ok (.tup xs) m := (rfl)
@[simp] theorem list_lst (p : Bool) (xs : List D) : bltD P .list_ p [.lst xs] m = newL p xs m := (rfl)
@[simp] theorem list_tup (p : Bool) (xs : List D) : bltD P .list_ p [.tup xs] m = newL p xs m := (rfl)
@[simp] theorem isinst_e (p : Bool) (d c : D) : bltD P .isinst p [d, c] m = ofO m ((isiD P m d c).map .bl) := (rfl)
@[simp] theorem newL_f (xs : List D) : newL false xs m = .ok (.lst xs) m := (rfl)
@[simp] theorem newL_t (xs : List D) : newL true xs m = .ok (.loc m.length) (m ++ [.lst xs]) := (rfl)
@[simp] theorem newT_e (xs : List D) : newT xs m = .ok (.tup xs) m := (rfl)
@[simp] theorem seqI_lst (xs : List D) : seqI m (.lst xs) = some (.fix xs) := (rfl)
@[simp] theorem seqI_tup (xs : List D) : seqI m (.tup xs) = some (.fix xs) := (rfl)
theorem seqI_loc {n : Nat} {xs : List D} (h : m[n]? = some (.lst xs)) : seqI m (.loc n) = some (.mut n xs) := by simp [seqI, h]
@[simp] theorem enumI_lst (xs : List D) : enumI m (.lst xs) = some (.fix (enumL 0 xs)) := (rfl)
@[simp] theorem enumI_tup (xs : List D) : enumI m (.tup xs) = some (.fix (enumL 0 xs)) := (rfl)
theorem enumI_loc {n : Nat} {xs : List D} (h : m[n]? = some (.lst xs)) : enumI m (.loc n) = some (.emut n xs) := by simp [enumI, h]
@[simp] theorem items_fix (ds : List D) : (IV.fix ds).items = ds := (rfl)
@[simp] theorem items_mut (n : Nat) (ds : List D) : (IV.mut n ds).items = ds := (rfl)
@[simp] theorem items_emut (n : Nat) (ds : List D) : (IV.emut n ds).items = enumL 0 ds := (rfl)
@[simp] theorem st_fix (ds : List D) : (IV.fix ds).still m := trivial
theorem rng1 {j : Int} (h : 0 ≤ j) (g : j < 2 ^ 60) : rngI [.int j] = some (.fix (rngL 0 j.toNat)) := by
  have : b62 j = true := by unfold b62; exact decide_eq_true (by omega)
  simp [rngI, this]
@[simp] theorem seal_same (d : D) : sealR m.length d m = .ok d m := by unfold sealR; simp
end
theorem sizeLine_v : sizeLine = 16777216 := rfl
@[simp] theorem sz0 : (0 : Nat) ≤ sizeLine := by decide
@[simp] theorem sz1 : (1 : Nat) ≤ sizeLine := by decide
@[simp] theorem sz2 : (2 : Nat) ≤ sizeLine := by decide
@[simp] theorem sz3 : (3 : Nat) ≤ sizeLine := by decide
@[simp] theorem sz4 : (4 : Nat) ≤ sizeLine := by decide
@[simp] theorem sz5 : (5 : Nat) ≤ sizeLine := by decide
@[simp] theorem sz6 : (6 : Nat) ≤ sizeLine := by decide
@[simp] theorem sz7 : (7 : Nat) ≤ sizeLine := by decide
@[simp] theorem sz8 : (8 : Nat) ≤ sizeLine := by decide
@[simp] theorem sz9 : (9 : Nat) ≤ sizeLine := by decide
@[simp] theorem sz10 : (10 : Nat) ≤ sizeLine := by decide
@[simp] theorem sz11 : (11 : Nat) ≤ sizeLine := by decide
@[simp] theorem sz12 : (12 : Nat) ≤ sizeLine := by decide
@[simp] theorem sz13 : (13 : Nat) ≤ sizeLine := by decide
@[simp] theorem sz14 : (14 : Nat) ≤ sizeLine := by decide
@[simp] theorem sz15 : (15 : Nat) ≤ sizeLine := by decide
@[simp] theorem sz16 : (16 : Nat) ≤ sizeLine := by decide
@[simp] theorem sz17 : (17 : Nat) ≤ sizeLine := by decide
@[simp] theorem sz18 : (18 : Nat) ≤ sizeLine := by decide
@[simp] theorem sz19 : (19 : Nat) ≤ sizeLine := by decide
@[simp] theorem sz20 : (20 : Nat) ≤ sizeLine := by decide
@[simp] theorem sz21 : (21 : Nat) ≤ sizeLine := by decide
@[simp] theorem sz22 : (22 : Nat) ≤ sizeLine := by decide
@[simp] theorem sz23 : (23 : Nat) ≤ sizeLine := by decide
@[simp] theorem sz24 : (24 : Nat) ≤ sizeLine := by decide
/-! ### types -/
section
variable (P : Prg) (m : Me)
@[simp] theorem typ_int (i : Int) : typ P m (.int i) = some (.inl "int") := (rfl)
@[simp] theorem typ_bl (i : Bool) : typ P m (.bl i) = some (.inl "bool") := (rfl)
@[simp] theorem typ_non : typ P m .non = some (.inl "NoneType") := (rfl)
@[simp] theorem typ_str (i : Str) : typ P m (.str i) = some (.inl "str") := (rfl)
@[simp] theorem typ_lst (i : List D) : typ P m (.lst i) = some (.inl "list") := (rfl)
@[simp] theorem typ_tup (i : List D) : typ P m (.tup i) = some (.inl "tuple") := (rfl)
@[simp] theorem typ_ins (c : Nat) (ns : List Nat) (xs : List D) : typ P m (.ins c ns xs) = if P.ity c then some (.inr c) else none := (rfl)
theorem typ_loc {n : Nat} {xs : List D} (h : m[n]? = some (.lst xs)) : typ P m (.loc n) = some (.inl "list") := by simp [typ, vw_loc m h]
theorem isiD_ty {d : D} {t : String ⊕ Nat} (h : typ P m d = some t) (n : String) : isiD P m d (.ty n) = P.isi t (.inl n) := by simp [isiD, h, isiC]
theorem isiD_cls {d : D} {t : String ⊕ Nat} (h : typ P m d = some t) (n : Nat) : isiD P m d (.cls n) = P.isi t (.inr n) := by simp [isiD, h, isiC]
theorem isiD_2 {d : D} {t : String ⊕ Nat} (h : typ P m d = some t) (a b : String) : isiD P m d (.tup [.ty a, .ty b]) = isiL P t [.ty a, .ty b] := by
  simp only [isiD, h, List.all_cons, List.all_nil, isClsD, Bool.and_self, if_true]
@[simp] theorem isiL_2 (t : String ⊕ Nat) (a b : String) : isiL P t [.ty a, .ty b] = match P.isi t (.inl a) with | some true => some true | some false => (match P.isi t (.inl b) with | some true => some true | some false => some false | none => none) | none => none := by
  simp only [isiL, isiC] <;> rcases P.isi t (.inl a) with _ | _ | _ <;> rcases P.isi t (.inl b) with _ | _ | _ <;> rfl
@[simp] theorem isi_non_2 (a b : String) : isiD P m .non (.tup [.ty a, .ty b]) = isiL P (.inl "NoneType") [.ty a, .ty b] := isiD_2 P m rfl a b
@[simp] theorem isi_int_2 (i : Int) (a b : String) : isiD P m (.int i) (.tup [.ty a, .ty b]) = isiL P (.inl "int") [.ty a, .ty b] := isiD_2 P m rfl a b
@[simp] theorem isi_bl_2 (i : Bool) (a b : String) : isiD P m (.bl i) (.tup [.ty a, .ty b]) = isiL P (.inl "bool") [.ty a, .ty b] := isiD_2 P m rfl a b
@[simp] theorem isi_str_2 (i : Str) (a b : String) : isiD P m (.str i) (.tup [.ty a, .ty b]) = isiL P (.inl "str") [.ty a, .ty b] := isiD_2 P m rfl a b
@[simp] theorem isi_lst_2 (i : List D) (a b : String) : isiD P m (.lst i) (.tup [.ty a, .ty b]) = isiL P (.inl "list") [.ty a, .ty b] := isiD_2 P m rfl a b
@[simp] theorem isi_tup_2 (i : List D) (a b : String) : isiD P m (.tup i) (.tup [.ty a, .ty b]) = isiL P (.inl "tuple") [.ty a, .ty b] := isiD_2 P m rfl a b
@[simp] theorem isi_non_ty (n : String) : isiD P m .non (.ty n) = P.isi (.inl "NoneType") (.inl n) := isiD_ty P m rfl n
@[simp] theorem isi_int_ty (i : Int) (n : String) : isiD P m (.int i) (.ty n) = P.isi (.inl "int") (.inl n) := isiD_ty P m rfl n
@[simp] theorem isi_bl_ty (i : Bool) (n : String) : isiD P m (.bl i) (.ty n) = P.isi (.inl "bool") (.inl n) := isiD_ty P m rfl n
@[simp] theorem isi_str_ty (i : Str) (n : String) : isiD P m (.str i) (.ty n) = P.isi (.inl "str") (.inl n) := isiD_ty P m rfl n
@[simp] theorem isi_lst_ty (i : List D) (n : String) : isiD P m (.lst i) (.ty n) = P.isi (.inl "list") (.inl n) := isiD_ty P m rfl n
@[simp] theorem isi_tup_ty (i : List D) (n : String) : isiD P m (.tup i) (.ty n) = P.isi (.inl "tuple") (.inl n) := isiD_ty P m rfl n
@[simp] theorem isi_non_cls (n : Nat) : isiD P m .non (.cls n) = P.isi (.inl "NoneType") (.inr n) := isiD_cls P m rfl n
@[simp] theorem isi_int_cls (i : Int) (n : Nat) : isiD P m (.int i) (.cls n) = P.isi (.inl "int") (.inr n) := isiD_cls P m rfl n
@[simp] theorem isi_lst_cls (i : List D) (n : Nat) : isiD P m (.lst i) (.cls n) = P.isi (.inl "list") (.inr n) := isiD_cls P m rfl n
@[simp] theorem isi_tup_cls (i : List D) (n : Nat) : isiD P m (.tup i) (.cls n) = P.isi (.inl "tuple") (.inr n) := isiD_cls P m rfl n
end
/-! ### fields -/
def setF (P : Prg) (n f : Nat) (d : D) (env : En) (m : Me) : Res En := match m[n]? with
  | some (.ins c ns xs) => match P.at_ c f with
    | .no => if xs.length < 1000 then .ok env (m.set n (.ins c (putN f ns) (putX f d ns xs))) else .bad
    | _ => .bad
  | _ => .bad
@[simp] theorem dT_fld0 (P : Prg) (f n : Nat) (d : D) (env : En) (m : Me) : denT P (.fld (.var 0) f) d (some (.loc n) :: env) m = setF P n f d (some (.loc n) :: env) m := by
  rw [dT_fld, d_var0]; rfl
theorem setF_end {P : Prg} {f c : Nat} {d : D} {env : En} {m : Me} {ns : List Nat} {xs : List D} (h : P.at_ c f = .no) (hl : xs.length < 1000) :
    setF P m.length f d env (m ++ [.ins c ns xs]) = .ok env (m ++ [.ins c (putN f ns) (putX f d ns xs)]) := by
  unfold setF
  rw [List.getElem?_append_right (Nat.le_refl _)]
  simp [h, hl]
/-! ### subscripts -/
theorem atI_nat {xs : List D} {i : Int} (h : 0 ≤ i) (g : i < xs.length) : atI xs i = some (xs[i.toNat]'(by omega)) := by
  unfold atI ixN
  rw [if_pos h, if_pos g]
  show xs[i.toNat]? = _
  rw [List.getElem?_eq_getElem]
theorem ix_lst {xs : List D} {i : Int} (m : Me) (h : 0 ≤ i) (g : i < xs.length) : ixD (.lst xs) (.int i) m = .ok (xs[i.toNat]'(by omega)) m := by
  show ofO m (atI xs i) = _
  rw [atI_nat h g]; rfl
theorem ix_tup {xs : List D} {i : Int} (m : Me) (h : 0 ≤ i) (g : i < xs.length) : ixD (.tup xs) (.int i) m = .ok (xs[i.toNat]'(by omega)) m := by
  show ofO m (atI xs i) = _
  rw [atI_nat h g]; rfl
/-! turns of comprehensions -/
theorem turnD_eq (P : Prg) (t : Tg) (ifs : List Cn) (elt : Ex) (env0 : En) (d : D) (m : Me) : turnD P t ifs elt env0 d m = (denT P t d env0 m).bk fun env' m3 => (denCs P ifs env' m3).bk fun k m4 => if k then (den P elt env' m4).bk fun y m5 => .ok (some y) m5 else .ok none m4 := (rfl)
theorem turnK_eq (P : Prg) (t : Tg) (ifs : List Cn) (ke ve : Ex) (env0 : En) (d : D) (m : Me) : turnK P t ifs ke ve env0 d m = (denT P t d env0 m).bk fun env' m3 => (denCs P ifs env' m3).bk fun k m4 => if k then (den P ke env' m4).bk fun y m5 => (den P ve env' m5).bk fun z m6 => .ok (some (y, z)) m6 else .ok none m4 := (rfl)
/-! ### places -/
@[simp] theorem get_end (m : Me) (x : MO) : (m ++ [x])[m.length]? = some x := by simp
@[simp] theorem get_end2 (m : Me) (x : MO) (l : Me) : (m ++ x :: l)[m.length]? = some x := by simp
@[simp] theorem set_end (m : Me) (x y : MO) : (m ++ [x]).set m.length y = m ++ [y] := by simp
@[simp] theorem set_end2 (m : Me) (x y : MO) (l : Me) : (m ++ x :: l).set m.length y = m ++ y :: l := by simp
/-- every place leans on places that are there -/
def Cl (m : Me) : Prop := m.all (bndO m.length) = true
/-! data that leans on no place -/
mutual
def flat : D → Bool
  | .lst ds => flatL ds
  | .tup ds => flatL ds
  | .ins _ _ ds => flatL ds
  | .loc _ => false
  | _ => true
def flatL : List D → Bool
  | [] => true
  | d :: ds => flat d && flatL ds
end
mutual
theorem flat_bnd (k : Nat) : ∀ d, flat d = true → bnd k d = true
  | .lst ds, h => by unfold bnd; exact flatL_bnd k ds (by unfold flat at h; exact h)
  | .tup ds, h => by unfold bnd; exact flatL_bnd k ds (by unfold flat at h; exact h)
  | .ins _ _ ds, h => by unfold bnd; exact flatL_bnd k ds (by unfold flat at h; exact h)
  | .loc _, h => by unfold flat at h; cases h
  | .non, _ | .bl _, _ | .int _, _ | .str _, _ | .ty _, _ | .cls _, _ | .fn _, _ | .rng _ _, _ => by unfold bnd; rfl
theorem flatL_bnd (k : Nat) : ∀ ds, flatL ds = true → bndL k ds = true
  | [], _ => by unfold bndL; rfl
  | d :: ds, h => by
    unfold flatL at h
    unfold bndL
    rw [flat_bnd k d (Bool.and_eq_true_iff.mp h).1, flatL_bnd k ds (Bool.and_eq_true_iff.mp h).2]; rfl
end
@[simp] theorem flat_int (i : Int) : flat (.int i) = true := by unfold flat; rfl
@[simp] theorem flat_str (i : Str) : flat (.str i) = true := by unfold flat; rfl
@[simp] theorem flat_bl (i : Bool) : flat (.bl i) = true := by unfold flat; rfl
@[simp] theorem flat_non : flat .non = true := by unfold flat; rfl
@[simp] theorem flat_lst (xs : List D) : flat (.lst xs) = flatL xs := by rw [flat]
@[simp] theorem flat_tup (xs : List D) : flat (.tup xs) = flatL xs := by rw [flat]
@[simp] theorem flat_ins (c : Nat) (ns : List Nat) (xs : List D) : flat (.ins c ns xs) = flatL xs := by rw [flat]
@[simp] theorem flatL_nil : flatL [] = true := by rw [flatL]
@[simp] theorem flatL_cons (x : D) (xs : List D) : flatL (x :: xs) = (flat x && flatL xs) := by rw [flatL]
theorem flatL_iff : ∀ {xs : List D}, flatL xs = true ↔ ∀ x ∈ xs, flat x = true
  | [] => by simp
  | x :: xs => by simp [flatL_iff (xs := xs)]
@[simp] theorem flatL_app (xs ys : List D) : flatL (xs ++ ys) = (flatL xs && flatL ys) := by
  induction xs with
  | nil => simp
  | cons x xs ih => simp [ih, Bool.and_assoc]
/-- a flat result is sealed: what is younger goes -/
theorem seal_flat {k : Nat} {d : D} {m l : Me} (hk : m.length = k) (hm : Cl m) (hd : flat d = true) : sealR k d (m ++ l) = .ok d m := by
  subst hk
  unfold sealR
  by_cases h : (m ++ l).length ≤ m.length
  · have : l = [] := by
      have := List.length_append (as := m) (bs := l)
      exact List.eq_nil_of_length_eq_zero (by omega)
    rw [if_pos h, this, List.append_nil]
  · rw [if_neg h]
    have ht : (m ++ l).take m.length = m := by simp
    unfold Cl at hm
    rw [ht, if_pos hm]
    cases d with
    | loc n => unfold flat at hd; cases hd
    | _ => simp only [flat_bnd _ _ hd, if_true]
theorem seal_flat0 {k : Nat} {d : D} {m : Me} (hk : m.length = k) : sealR k d m = .ok d m := by
  subst hk; exact seal_same _ _
theorem Cl.mk {m : Me} (h : ∀ o ∈ m, bndO m.length o = true) : Cl m := List.all_eq_true.mpr h

/-! ### walks -/
theorem lcGo_pure {v : IV} {f : D → Me → Res (Option D)} {m : Me} (G : D → Option D) (hv : v.still m) : ∀ (ds acc : List D), (∀ d ∈ ds, f d m = .ok (G d) m) → acc.length + ds.length ≤ sizeLine → lcGo v f acc ds m = .ok (acc ++ ds.filterMap G) m
  | [], acc, _, _ => by simp [lcGo, stillR, hv]
  | d :: ds, acc, hf, hl => by
    have h1 := hf d (by simp)
    have h2 : ∀ e ∈ ds, f e m = .ok (G e) m := fun e he => hf e (by simp [he])
    simp only [List.length_cons] at hl
    rw [lcGo, stillR, if_pos hv, h1, Res.bindN_ok]
    cases hG : G d with
    | none => simp only [List.filterMap_cons, hG]; exact lcGo_pure G hv ds acc h2 (by omega)
    | some y =>
      simp only [List.filterMap_cons, hG]
      rw [if_pos (by omega), lcGo_pure G hv ds (acc ++ [y]) h2 (by simp; omega)]
      simp
/-- .. without a test -/
theorem lcGo_map {v : IV} {f : D → Me → Res (Option D)} {m : Me} (g : D → D) (hv : v.still m) (ds : List D) (hf : ∀ d ∈ ds, f d m = .ok (some (g d)) m) (hl : ds.length ≤ sizeLine) : lcGo v f [] ds m = .ok (ds.map g) m := by
  rw [lcGo_pure (fun d => some (g d)) hv ds [] hf (by simpa using hl)]
  simp
/-- .. that keeps what passes -/
theorem lcGo_filter {v : IV} {f : D → Me → Res (Option D)} {m : Me} (p : D → Bool) (hv : v.still m) (ds : List D) (hf : ∀ d ∈ ds, f d m = .ok (if p d then some d else none) m) (hl : ds.length ≤ sizeLine) : lcGo v f [] ds m = .ok (ds.filter p) m := by
  rw [lcGo_pure (fun d => if p d then some d else none) hv ds [] hf (by simpa using hl)]
  simp only [List.nil_append]
  congr 1
  induction ds with
  | nil => rfl
  | cons d ds ih =>
    have := ih (fun e he => hf e (by simp [he])) (by simp at hl; omega)
    by_cases h : p d <;> simp [h, this, List.filterMap_cons]
/-- a loop that keeps to the state: I tells of names and heap, by what is done -/
theorem loop_inv {v : IV} {f : D → Sv} (I : List D → En → Me → Prop) (hv : ∀ pre env m, I pre env m → v.still m) :
    ∀ (post pre : List D) (env : En) (m : Me), (∀ pr d po env m, pre ++ post = pr ++ d :: po → I pr env m → ∃ env' m', (f d env m = .ok .nx env' m' ∨ f d env m = .ok .ct env' m') ∧ I (pr ++ [d]) env' m') → I pre env m → ∃ env' m', loopGo v f post env m = .ok .nx env' m' ∧ I (pre ++ post) env' m'
  | [], pre, env, m, _, h => ⟨env, m, by simp [loopGo, stillS, hv _ _ _ h], by simpa using h⟩
  | d :: ds, pre, env, m, hf, h => by
    obtain ⟨e1, m1, h1, i1⟩ := hf pre d ds env m rfl h
    obtain ⟨e2, m2, h2, i2⟩ := loop_inv I hv ds (pre ++ [d]) e1 m1 (fun pr d po env m e i => hf pr d po env m (by rw [← e]; simp) i) i1
    refine ⟨e2, m2, ?_, by simpa using i2⟩
    rw [loopGo, stillS, if_pos (hv _ _ _ h)]
    rcases h1 with h1 | h1 <;> rw [h1] <;> exact h2
/-- a loop in which nothing but the loop's own names is stored, or that returns at the first that p finds -/
theorem loop_find {v : IV} {f : D → Sv} (I : En → Prop) (p : D → Bool) (r : D → D) {m : Me} (hv : v.still m) :
    ∀ (ds : List D) (env : En), (∀ d ∈ ds, ∀ env, I env → if p d then ∃ env', f d env m = .ok (.rt (r d)) env' m else ∃ env', f d env m = .ok .nx env' m ∧ I env') → I env →
      match ds.find? p with
      | some d => ∃ env', loopGo v f ds env m = .ok (.rt (r d)) env' m
      | none => ∃ env', loopGo v f ds env m = .ok .nx env' m ∧ I env'
  | [], env, _, h => ⟨env, by simp [loopGo, stillS, hv], h⟩
  | d :: ds, env, hf, h => by
    have h1 := hf d (by simp) env h
    by_cases hp : p d
    · rw [if_pos hp] at h1
      obtain ⟨e1, h1⟩ := h1
      simp only [List.find?_cons, hp]
      refine ⟨e1, ?_⟩
      rw [loopGo, stillS, if_pos hv, h1]
    · rw [if_neg hp] at h1
      obtain ⟨e1, h1, i1⟩ := h1
      have h2 := loop_find I p r hv ds e1 (fun d hd => hf d (by simp [hd])) i1
      simp only [List.find?_cons, hp]
      have e : loopGo v f (d :: ds) env m = loopGo v f ds e1 m := by
        rw [loopGo, stillS, if_pos hv, h1]
      rw [e]
      exact h2
/-- a loop that finds nothing -/
theorem loop_none {v : IV} {f : D → Sv} (I : En → Prop) {m : Me} (hv : v.still m) (ds : List D) (env : En) (hf : ∀ d ∈ ds, ∀ env, I env → ∃ env', f d env m = .ok .nx env' m ∧ I env') (h : I env) : ∃ env', loopGo v f ds env m = .ok .nx env' m ∧ I env' := by
  have := loop_find I (fun _ => false) id hv ds env (fun d hd env i => by simpa using hf d hd env i) h
  have e : ds.find? (fun _ => false) = none := by simp
  rw [e] at this
  exact this
theorem bindPos_pos (pi : PInfo) : ∀ (ps : List Nat) (ds : List D), ps.length = ds.length → bindPos pi [] [] ps ds = some ds
  | [], [], _ => by rw [bindPos]
  | [], d :: ds, h => by simp at h
  | p :: ps, [], h => by simp at h
  | p :: ps, d :: ds, h => by rw [bindPos, bindPos_pos pi ps ds (by simpa using h)]; rfl
/-- a call by places -/
theorem app_pos {P : Prg} {f : Nat} {ps : List Nat} {ds : List D} {m : Me} (h : P.pi f = ⟨ps, [], [], false⟩) (hl : ps.length = ds.length) : appF P f ds [] [] m = P.call f ds m := by
  unfold appF bindA
  rw [h]
  simp [hl, bindPos_pos _ ps ds hl, bindPos]
/-- a def whose body returns -/
theorem run_rt {P : Prg} {fd : Fd} {as : List D} {m : Me} {d : D} {env : En} {m' : Me} (h : denSs P fd.body (as.map some ++ List.replicate (fd.slots - as.length) none) m = .ok (.rt d) env m') : runF P fd as m = sealR m.length d m' := by
  unfold runF; rw [h]
theorem run_nx {P : Prg} {fd : Fd} {as : List D} {m : Me} {env : En} {m' : Me} (h : denSs P fd.body (as.map some ++ List.replicate (fd.slots - as.length) none) m = .ok .nx env m') : runF P fd as m = sealR m.length .non m' := by
  unfold runF; rw [h]
end DL

/-! GL2: draws -/
namespace DL
open PySem PySem.Spec PyProof.Rows L2
/-- the bag: the cells, the next one, the digits, what is mixed, the number of draws -/
def bagO (cs : List Int) (i dg mx n : Int) : MO := .lst [.lst (cs.map .int), .int i, .int dg, .int mx, .int n]
structure BgO (c : Nat) (b : MO) : Prop where
  is : ∃ (cs : List Int) (i dg mx n : Int), b = bagO cs i dg mx n ∧ 0 ≤ i ∧ 0 ≤ dg ∧ 0 ≤ mx ∧ mx < 2147483563 ∧ 0 ≤ n ∧ n ≤ c
theorem BgO.mono {c c' : Nat} {b : MO} (h : BgO c b) (l : c ≤ c') : BgO c' b := by
  obtain ⟨cs, i, dg, mx, n, e, h1, h2, h3, h4, h5, h6⟩ := h.is
  exact ⟨cs, i, dg, mx, n, e, h1, h2, h3, h4, h5, by omega⟩
theorem flatL_ints (cs : List Int) : flatL (cs.map .int) = true := flatL_iff.mpr fun x hx => by
  obtain ⟨i, _, rfl⟩ := List.mem_map.mp hx
  simp
theorem BgO.bnd {c : Nat} {b : MO} (h : BgO c b) (k : Nat) : bndO k b = true := by
  obtain ⟨cs, i, dg, mx, n, rfl, _⟩ := h.is
  unfold bagO bndO
  exact flatL_bnd k _ (by simp [flatL_ints])
def bDraw1 : DL.St := .asg (.sub (.var 0) (.cst (.int 4))) (.bin .add false (.ix (.var 0) (.cst (.int 4))) (.cst (.int 1)))
def bDraw2 : DL.St :=
  .ite (.and (.val (.cmp .Eq (.ix (.var 0) (.cst (.int 2))) (.cst (.int 0)))) (.val (.cmp .Lt (.ix (.var 0) (.cst (.int 1))) (.blt .len false [.ix (.var 0) (.cst (.int 0))])))) [
    .asg (.tup [.name 2, .sub (.var 0) (.cst (.int 1))]) (.tup [.ix (.ix (.var 0) (.cst (.int 0))) (.ix (.var 0) (.cst (.int 1))), .bin .add false (.ix (.var 0) (.cst (.int 1))) (.cst (.int 1))]),
    .ite (.val (.cmp .GtE (.var 2) (.bin .pow false (.cst (.int 10)) (.cst (.int 18))))) [
      .asg (.sub (.var 0) (.cst (.int 2))) (.var 2)] [
      .asg (.sub (.var 0) (.cst (.int 3))) (.bin .mod false (.blt .int_ false [.bin .add false (.bin .add false (.bin .mul false (.ix (.var 0) (.cst (.int 3))) (.cst (.int 30211))) (.bin .mul false (.bin .mod false (.blt .int_ false [.var 2]) (.cst (.int 2147483353))) (.cst (.int 557)))) (.cst (.int 71))]) (.cst (.int 2147483563)))]] []
def bDraw3 : DL.St :=
  .ite (.val (.cmp .Gt (.ix (.var 0) (.cst (.int 2))) (.cst (.int 0)))) [
    .asg (.tup [.name 3, .sub (.var 0) (.cst (.int 2))]) (.tup [.bin .mod false (.blt .int_ false [.ix (.var 0) (.cst (.int 2))]) (.var 1), .bin .fdiv false (.ix (.var 0) (.cst (.int 2))) (.var 1)]),
    .ret (some (.var 3)) false] []
def bDrawT : List DL.St := [
  .asg (.name 4) (.blt .int_ false [.ix (.var 0) (.cst (.int 3))]),
  .asg (.sub (.var 0) (.cst (.int 3))) (.bin .mod false (.blt .int_ false [.bin .add false (.bin .add false (.bin .add false (.bin .pow false (.var 4) (.cst (.int 3))) (.bin .mul false (.var 4) (.cst (.int 28711)))) (.bin .mul false (.ix (.var 0) (.cst (.int 4))) (.cst (.int 1299721)))) (.cst (.int 60037))]) (.cst (.int 2147483563))),
  .ret (some (.bin .mod false (.blt .int_ false [.bin .add false (.bin .fdiv false (.ix (.var 0) (.cst (.int 3))) (.cst (.int 89))) (.bin .mul false (.bin .mod false (.blt .int_ false [.ix (.var 0) (.cst (.int 3))]) (.cst (.int 7963))) (.cst (.int 97)))]) (.var 1))) false]
def bDraw : List DL.St := bDraw1 :: bDraw2 :: bDraw3 :: bDrawT
section
variable (P : Prg) (cs : List Int) (i dg mx n k : Int) (ms : Me)
theorem bag_ix0 : ixD (.loc 0) (.int 0) (bagO cs i dg mx n :: ms) = .ok (.lst (cs.map .int)) (bagO cs i dg mx n :: ms) := rfl
theorem bag_ix1 : ixD (.loc 0) (.int 1) (bagO cs i dg mx n :: ms) = .ok (.int i) (bagO cs i dg mx n :: ms) := rfl
theorem bag_ix2 : ixD (.loc 0) (.int 2) (bagO cs i dg mx n :: ms) = .ok (.int dg) (bagO cs i dg mx n :: ms) := rfl
theorem bag_ix3 : ixD (.loc 0) (.int 3) (bagO cs i dg mx n :: ms) = .ok (.int mx) (bagO cs i dg mx n :: ms) := rfl
theorem bag_ix4 : ixD (.loc 0) (.int 4) (bagO cs i dg mx n :: ms) = .ok (.int n) (bagO cs i dg mx n :: ms) := rfl
theorem bag_set1 (z : Int) (env : En) : denT P (.sub (.var 0) (.cst (.int 1))) (.int z) (some (.loc 0) :: env) (bagO cs i dg mx n :: ms) = .ok (some (.loc 0) :: env) (bagO cs z dg mx n :: ms) := by
  simp only [dT_sub, d_var0, d_cst, Res.bk_ok]; rfl
theorem bag_set2 (z : Int) (env : En) : denT P (.sub (.var 0) (.cst (.int 2))) (.int z) (some (.loc 0) :: env) (bagO cs i dg mx n :: ms) = .ok (some (.loc 0) :: env) (bagO cs i z mx n :: ms) := by
  simp only [dT_sub, d_var0, d_cst, Res.bk_ok]; rfl
theorem bag_set3 (z : Int) (env : En) : denT P (.sub (.var 0) (.cst (.int 3))) (.int z) (some (.loc 0) :: env) (bagO cs i dg mx n :: ms) = .ok (some (.loc 0) :: env) (bagO cs i dg z n :: ms) := by
  simp only [dT_sub, d_var0, d_cst, Res.bk_ok]; rfl
theorem bag_set4 (z : Int) (env : En) : denT P (.sub (.var 0) (.cst (.int 4))) (.int z) (some (.loc 0) :: env) (bagO cs i dg mx n :: ms) = .ok (some (.loc 0) :: env) (bagO cs i dg mx z :: ms) := by
  simp only [dT_sub, d_var0, d_cst, Res.bk_ok]; rfl
theorem draw1 (env : En) : denS P bDraw1 (some (.loc 0) :: env) (bagO cs i dg mx n :: ms) = .ok .nx (some (.loc 0) :: env) (bagO cs i dg mx (n + 1) :: ms) := by
  unfold bDraw1
  simp only [dS_asg, d_bin, d_ix, d_var0, d_cst, Res.bk_ok, bag_ix4, add_int, Res.sk_ok, bag_set4, Res.sN_ok]
theorem drawT (hk : 0 < k) (h0 : 0 ≤ mx) (h1 : mx < 2147483563) (hn : 0 ≤ n) (hn2 : n < 2 ^ 150) (x y z : Option D) :
    ∃ r mx' env', denSs P bDrawT [some (.loc 0), some (.int k), x, y, z] (bagO cs i dg mx n :: ms) = .ok (.rt (.int r)) env' (bagO cs i dg mx' n :: ms) ∧ 0 ≤ r ∧ r < k ∧ 0 ≤ mx' ∧ mx' < 2147483563 := by
  have a1 : mx.natAbs < 2 ^ 64 := by omega
  have a2 : mx.natAbs < 2 ^ 200 := by omega
  have a3 : n.natAbs < 2 ^ 200 := by omega
  have a4 : (28711 : Int).natAbs < 2 ^ 200 := by decide
  have a5 : (1299721 : Int).natAbs < 2 ^ 200 := by decide
  have a6 : (97 : Int).natAbs < 2 ^ 200 := by decide
  have a7 : ∀ z : Int, (z % 7963).natAbs < 2 ^ 200 := fun z => by omega
  refine ⟨((mx ^ 3 + mx * 28711 + n * 1299721 + 60037) % 2147483563 / 89 + (mx ^ 3 + mx * 28711 + n * 1299721 + 60037) % 2147483563 % 7963 * 97) % k, (mx ^ 3 + mx * 28711 + n * 1299721 + 60037) % 2147483563, [some (.loc 0), some (.int k), x, y, some (.int mx)], ?_, Int.emod_nonneg _ (by omega), Int.emod_lt_of_pos _ hk, by omega, by omega⟩
  unfold bDrawT
  simp only [dSs_cons, dSs_nil, dS_asg, dS_ret, d_bin, d_blt, dL_cons, dL_nil, d_ix, d_var0, d_varS, d_cst, Res.bk_ok, bag_ix3, bag_ix4, int_int, add_int, Res.sk_ok, bag_set3, Res.sN_ok, dT_name, List.set_cons_zero, List.set_cons_succ, SR'.sq_nx, SR'.sq_rt,
    mul_int _ _ _ _ a2 a4, mul_int _ _ _ _ a3 a5, mul_int _ _ _ _ (a7 _) a6, pow_int _ _ _ 3 (by decide) (by decide) a1, fdiv_int _ _ _ 89 (by decide) (by decide), mod_int _ _ _ 2147483563 (by decide), mod_int _ _ _ 7963 (by decide), mod_int _ _ _ k hk]
  rfl
end
theorem draw_run {P : Prg} {pi : PInfo} {b : MO} {c : Nat} {k : Int} {ms : Me} (hb : BgO c b) (hk : 0 < k) (hk2 : k < 2 ^ 100) (hc : c < 2 ^ 100) :
    ∃ r b', runF P ⟨pi, 5, bDraw⟩ [.loc 0, .int k] (b :: ms) = .ok (.int r) (b' :: ms) ∧ 0 ≤ r ∧ r < k ∧ BgO (c + 1) b' := by
  obtain ⟨cs, i, dg, mx, n, rfl, h1, h2, h3, h4, h5, h6⟩ := hb.is
  have key : ∃ r b' env', denSs P bDraw [some (.loc 0), some (.int k), none, none, none] (bagO cs i dg mx n :: ms) = .ok (.rt (.int r)) env' (b' :: ms) ∧ 0 ≤ r ∧ r < k ∧ BgO (c + 1) b' := by
    unfold bDraw
    rw [dSs_cons, draw1, SR'.sq_nx, dSs_cons]
    have tail : ∀ (i dg mx : Int) (x : Option D), 0 ≤ i → 0 ≤ dg → 0 ≤ mx → mx < 2147483563 → ∃ r b' env', denSs P (bDraw3 :: bDrawT) [some (.loc 0), some (.int k), x, none, none] (bagO cs i dg mx (n + 1) :: ms) = .ok (.rt (.int r)) env' (b' :: ms) ∧ 0 ≤ r ∧ r < k ∧ BgO (c + 1) b' := by
      intro i dg mx x h1 h2 h3 h4
      rw [dSs_cons]
      by_cases hd : 0 < dg
      · refine ⟨dg % k, bagO cs i (dg / k) mx (n + 1), [some (.loc 0), some (.int k), x, some (.int (dg % k)), none], ?_, Int.emod_nonneg _ (by omega), Int.emod_lt_of_pos _ hk, cs, i, dg / k, mx, n + 1, rfl, h1, Int.ediv_nonneg h2 (by omega), h3, h4, by omega, by omega⟩
        unfold bDraw3
        simp only [dS_ite, dC_val, d_cmp, d_ix, d_var0, d_varS, d_cst, Res.bk_ok, bag_ix2, gt_int, truD_bl, Res.sk_ok, decide_eq_true hd, if_true, dSs_cons, dSs_nil, dS_asg, d_tup, dL_cons, dL_nil, d_bin, d_blt, int_int, mod_int _ _ _ k hk, fdiv_int _ _ _ k hk (by omega), dT_tupT, dTs_cons, dTs_nil, dT_name, List.set_cons_zero, List.set_cons_succ, bag_set2, Res.sN_ok, SR'.sq_nx, SR'.sq_rt, dS_ret, newT_e, List.length_cons, List.length_nil]
        rw [if_pos (by decide)]
        simp only [dSs_cons, dSs_nil, dS_ret, Res.sk_ok, dT_tupT, List.length_cons, List.length_nil, if_true, dTs_cons, dTs_nil, dT_name, List.set_cons_zero, List.set_cons_succ, bag_set2, Res.bk_ok, Res.sN_ok, SR'.sq_nx, SR'.sq_rt, d_var0, d_varS]
      · obtain ⟨r, mx', env', e, q1, q2, q3, q4⟩ := drawT P cs i dg mx (n + 1) k ms hk h3 h4 (by omega) (by omega) x none none
        refine ⟨r, bagO cs i dg mx' (n + 1), env', ?_, q1, q2, cs, i, dg, mx', n + 1, rfl, h1, h2, q3, q4, by omega, by omega⟩
        unfold bDraw3
        simp only [dS_ite, dC_val, d_cmp, d_ix, d_var0, d_varS, d_cst, Res.bk_ok, bag_ix2, gt_int, truD_bl, Res.sk_ok, decide_eq_false hd, if_false, dSs_nil, SR'.sq_nx, Bool.false_eq_true, e]
    by_cases hA : dg = 0 ∧ i < cs.length
    · obtain ⟨rfl, hi⟩ := hA
      obtain ⟨z, hz⟩ : ∃ z, ∀ m, ixD (.lst (cs.map .int)) (.int i) m = .ok (.int z) m := by
        refine ⟨cs[i.toNat]'(by omega), fun m => ?_⟩
        rw [ix_lst m h1 (by simpa using hi)]
        simp
      have pw : ∀ m, binD .pow false (.int 10) (.int 18) m = .ok (.int (10 ^ 18)) m := fun m => pow_int _ _ _ _ (by decide) (by decide) (by decide)
      have a2 : mx.natAbs < 2 ^ 200 := by omega
      have a4 : (30211 : Int).natAbs < 2 ^ 200 := by decide
      have a6 : (557 : Int).natAbs < 2 ^ 200 := by decide
      have a7 : ∀ z : Int, (z % 2147483353).natAbs < 2 ^ 200 := fun z => by omega
      have p18 : (10 : Int) ^ 18 = 1000000000000000000 := by decide
      rw [p18] at pw
      by_cases hz2 : 1000000000000000000 ≤ z
      · obtain ⟨r, b', env', e, q⟩ := tail (i + 1) z mx (some (.int z)) (by omega) (by omega) h3 h4
        refine ⟨r, b', env', ?_, q⟩
        rw [dSs_cons] at e
        unfold bDraw2
        simp [sizeLine_v, bag_ix2, bag_ix1, bag_ix0, bag_set1, bag_set2, hi, hz, pw, hz2, e, dSs_cons]
      · obtain ⟨r, b', env', e, q⟩ := tail (i + 1) 0 ((mx * 30211 + z % 2147483353 * 557 + 71) % 2147483563) (some (.int z)) (by omega) (by omega) (by omega) (by omega)
        refine ⟨r, b', env', ?_, q⟩
        rw [dSs_cons] at e
        unfold bDraw2
        simp [sizeLine_v, bag_ix2, bag_ix1, bag_ix0, bag_ix3, bag_set1, bag_set3, hi, hz, pw, hz2, e, dSs_cons, mul_int _ _ _ _ a2 a4, mul_int _ _ _ _ (a7 _) a6]
    · obtain ⟨r, b', env', e, q⟩ := tail i dg mx none h1 h2 h3 h4
      refine ⟨r, b', env', ?_, q⟩
      have e2 : denS P bDraw2 [some (.loc 0), some (.int k), none, none, none] (bagO cs i dg mx (n + 1) :: ms) = .ok .nx [some (.loc 0), some (.int k), none, none, none] (bagO cs i dg mx (n + 1) :: ms) := by
        unfold bDraw2
        by_cases h : dg = 0
        · have hi : ¬ i < cs.length := fun z => hA ⟨h, z⟩
          simp [bag_ix2, bag_ix1, bag_ix0, h, hi]
        · simp [bag_ix2, h]
      rw [e2, SR'.sq_nx, e]
  obtain ⟨r, b', env', e, q⟩ := key
  refine ⟨r, b', ?_, q⟩
  rw [run_rt (env := env') (m' := b' :: ms) (d := .int r) e]
  exact seal_flat0 (by simp)
end DL

namespace DL
open PySem PySem.Spec PyProof.Rows L2
namespace P54
noncomputable abbrev PP (n : Nat) : Prg := prgAt T54.base (tabOf T54 B54.bodies) n
@[simp] theorem prg_isi (n : Nat) : (PP n).isi = T54.isiF := by cases n <;> rfl
@[simp] theorem prg_at (n : Nat) : (PP n).at_ = T54.at_ := by cases n <;> rfl
@[simp] theorem prg_mks (n : Nat) : (PP n).mks = T54.base.mks := by cases n <;> rfl
@[simp] theorem prg_fz (n : Nat) : (PP n).fz = T54.base.fz := by cases n <;> rfl
@[simp] theorem prg_fok (n : Nat) : (PP n).fok = T54.base.fok := by cases n <;> rfl
@[simp] theorem prg_ity (n : Nat) : (PP n).ity = T54.base.ity := by cases n <;> rfl
@[simp] theorem prg_nf (n : Nat) : (PP n).nf = T54.base.nf := by cases n <;> rfl
@[simp] theorem ity0 : T54.base.ity 0 = true := rfl
@[simp] theorem ity1 : T54.base.ity 1 = true := rfl
@[simp] theorem isi0 : T54.isiF (.inl "NoneType") (.inl "bool") = some false := by decide +kernel
@[simp] theorem isi1 : T54.isiF (.inl "NoneType") (.inl "int") = some false := by decide +kernel
@[simp] theorem isi2 : T54.isiF (.inl "NoneType") (.inl "str") = some false := by decide +kernel
@[simp] theorem isi3 : T54.isiF (.inl "NoneType") (.inl "list") = some false := by decide +kernel
@[simp] theorem isi4 : T54.isiF (.inl "NoneType") (.inl "tuple") = some false := by decide +kernel
@[simp] theorem isi5 : T54.isiF (.inl "NoneType") (.inr 0) = some false := by decide +kernel
@[simp] theorem isi6 : T54.isiF (.inl "NoneType") (.inr 1) = some false := by decide +kernel
@[simp] theorem isi7 : T54.isiF (.inl "bool") (.inl "bool") = some true := by decide +kernel
@[simp] theorem isi8 : T54.isiF (.inl "bool") (.inl "int") = some true := by decide +kernel
@[simp] theorem isi9 : T54.isiF (.inl "bool") (.inl "str") = some false := by decide +kernel
@[simp] theorem isi10 : T54.isiF (.inl "bool") (.inl "list") = some false := by decide +kernel
@[simp] theorem isi11 : T54.isiF (.inl "bool") (.inl "tuple") = some false := by decide +kernel
@[simp] theorem isi12 : T54.isiF (.inl "bool") (.inr 0) = some false := by decide +kernel
@[simp] theorem isi13 : T54.isiF (.inl "bool") (.inr 1) = some false := by decide +kernel
@[simp] theorem isi14 : T54.isiF (.inl "int") (.inl "bool") = some false := by decide +kernel
@[simp] theorem isi15 : T54.isiF (.inl "int") (.inl "int") = some true := by decide +kernel
@[simp] theorem isi16 : T54.isiF (.inl "int") (.inl "str") = some false := by decide +kernel
@[simp] theorem isi17 : T54.isiF (.inl "int") (.inl "list") = some false := by decide +kernel
@[simp] theorem isi18 : T54.isiF (.inl "int") (.inl "tuple") = some false := by decide +kernel
@[simp] theorem isi19 : T54.isiF (.inl "int") (.inr 0) = some false := by decide +kernel
@[simp] theorem isi20 : T54.isiF (.inl "int") (.inr 1) = some false := by decide +kernel
@[simp] theorem isi21 : T54.isiF (.inl "str") (.inl "bool") = some false := by decide +kernel
@[simp] theorem isi22 : T54.isiF (.inl "str") (.inl "int") = some false := by decide +kernel
@[simp] theorem isi23 : T54.isiF (.inl "str") (.inl "str") = some true := by decide +kernel
@[simp] theorem isi24 : T54.isiF (.inl "str") (.inl "list") = some false := by decide +kernel
@[simp] theorem isi25 : T54.isiF (.inl "str") (.inl "tuple") = some false := by decide +kernel
@[simp] theorem isi26 : T54.isiF (.inl "str") (.inr 0) = some false := by decide +kernel
@[simp] theorem isi27 : T54.isiF (.inl "str") (.inr 1) = some false := by decide +kernel
@[simp] theorem isi28 : T54.isiF (.inl "list") (.inl "bool") = some false := by decide +kernel
@[simp] theorem isi29 : T54.isiF (.inl "list") (.inl "int") = some false := by decide +kernel
@[simp] theorem isi30 : T54.isiF (.inl "list") (.inl "str") = some false := by decide +kernel
@[simp] theorem isi31 : T54.isiF (.inl "list") (.inl "list") = some true := by decide +kernel
@[simp] theorem isi32 : T54.isiF (.inl "list") (.inl "tuple") = some false := by decide +kernel
@[simp] theorem isi33 : T54.isiF (.inl "list") (.inr 0) = some false := by decide +kernel
@[simp] theorem isi34 : T54.isiF (.inl "list") (.inr 1) = some false := by decide +kernel
@[simp] theorem isi35 : T54.isiF (.inl "tuple") (.inl "bool") = some false := by decide +kernel
@[simp] theorem isi36 : T54.isiF (.inl "tuple") (.inl "int") = some false := by decide +kernel
@[simp] theorem isi37 : T54.isiF (.inl "tuple") (.inl "str") = some false := by decide +kernel
@[simp] theorem isi38 : T54.isiF (.inl "tuple") (.inl "list") = some false := by decide +kernel
@[simp] theorem isi39 : T54.isiF (.inl "tuple") (.inl "tuple") = some true := by decide +kernel
@[simp] theorem isi40 : T54.isiF (.inl "tuple") (.inr 0) = some false := by decide +kernel
@[simp] theorem isi41 : T54.isiF (.inl "tuple") (.inr 1) = some false := by decide +kernel
@[simp] theorem isi42 : T54.isiF (.inr 0) (.inl "bool") = some false := by decide +kernel
@[simp] theorem isi43 : T54.isiF (.inr 0) (.inl "int") = some false := by decide +kernel
@[simp] theorem isi44 : T54.isiF (.inr 0) (.inl "str") = some false := by decide +kernel
@[simp] theorem isi45 : T54.isiF (.inr 0) (.inl "list") = some false := by decide +kernel
@[simp] theorem isi46 : T54.isiF (.inr 0) (.inl "tuple") = some false := by decide +kernel
@[simp] theorem isi47 : T54.isiF (.inr 0) (.inr 0) = some true := by decide +kernel
@[simp] theorem isi48 : T54.isiF (.inr 0) (.inr 1) = some false := by decide +kernel
@[simp] theorem isi49 : T54.isiF (.inr 1) (.inl "bool") = some false := by decide +kernel
@[simp] theorem isi50 : T54.isiF (.inr 1) (.inl "int") = some false := by decide +kernel
@[simp] theorem isi51 : T54.isiF (.inr 1) (.inl "str") = some false := by decide +kernel
@[simp] theorem isi52 : T54.isiF (.inr 1) (.inl "list") = some false := by decide +kernel
@[simp] theorem isi53 : T54.isiF (.inr 1) (.inl "tuple") = some false := by decide +kernel
@[simp] theorem isi54 : T54.isiF (.inr 1) (.inr 0) = some false := by decide +kernel
@[simp] theorem isi55 : T54.isiF (.inr 1) (.inr 1) = some true := by decide +kernel
end P54
end DL

namespace DL
open PySem PySem.Spec PyProof.Rows L2
namespace P54
theorem pi0 (n : Nat) : (PP n).pi 0 = ⟨[6, 7, 8], [], [], false⟩ := by cases n <;> rfl
theorem call0 (n : Nat) (as : List D) (m : Me) : (PP (n + 1)).call 0 as m = runF (PP n) ⟨⟨[6, 7, 8], [], [], false⟩, 3, B54.b0⟩ as m := rfl
@[simp] theorem fok0 : T54.base.fok 0 = true := rfl
theorem pi1 (n : Nat) : (PP n).pi 1 = ⟨[9, 10, 11, 12, 13], [], [], false⟩ := by cases n <;> rfl
theorem call1 (n : Nat) (as : List D) (m : Me) : (PP (n + 1)).call 1 as m = runF (PP n) ⟨⟨[9, 10, 11, 12, 13], [], [], false⟩, 5, B54.b1⟩ as m := rfl
@[simp] theorem fok1 : T54.base.fok 1 = false := rfl
theorem pi2 (n : Nat) : (PP n).pi 2 = ⟨[9], [], [], false⟩ := by cases n <;> rfl
theorem call2 (n : Nat) (as : List D) (m : Me) : (PP (n + 1)).call 2 as m = runF (PP n) ⟨⟨[9], [], [], false⟩, 4, B54.b2⟩ as m := rfl
@[simp] theorem fok2 : T54.base.fok 2 = false := rfl
theorem pi3 (n : Nat) : (PP n).pi 3 = ⟨[9, 15], [], [], false⟩ := by cases n <;> rfl
theorem call3 (n : Nat) (as : List D) (m : Me) : (PP (n + 1)).call 3 as m = runF (PP n) ⟨⟨[9, 15], [], [], false⟩, 2, B54.b3⟩ as m := rfl
@[simp] theorem fok3 : T54.base.fok 3 = false := rfl
theorem pi4 (n : Nat) : (PP n).pi 4 = ⟨[9], [], [], false⟩ := by cases n <;> rfl
theorem call4 (n : Nat) (as : List D) (m : Me) : (PP (n + 1)).call 4 as m = runF (PP n) ⟨⟨[9], [], [], false⟩, 1, B54.b4⟩ as m := rfl
@[simp] theorem fok4 : T54.base.fok 4 = false := rfl
theorem pi5 (n : Nat) : (PP n).pi 5 = ⟨[16, 6], [], [], false⟩ := by cases n <;> rfl
theorem call5 (n : Nat) (as : List D) (m : Me) : (PP (n + 1)).call 5 as m = runF (PP n) ⟨⟨[16, 6], [], [], false⟩, 5, B54.b5⟩ as m := rfl
@[simp] theorem fok5 : T54.base.fok 5 = true := rfl
theorem pi6 (n : Nat) : (PP n).pi 6 = ⟨[16, 17], [], [], false⟩ := by cases n <;> rfl
theorem call6 (n : Nat) (as : List D) (m : Me) : (PP (n + 1)).call 6 as m = runF (PP n) ⟨⟨[16, 17], [], [], false⟩, 7, B54.b6⟩ as m := rfl
@[simp] theorem fok6 : T54.base.fok 6 = true := rfl
theorem pi7 (n : Nat) : (PP n).pi 7 = ⟨[9, 16], [], [], true⟩ := by cases n <;> rfl
theorem call7 (n : Nat) (as : List D) (m : Me) : (PP (n + 1)).call 7 as m = runF (PP n) ⟨⟨[9, 16], [], [], true⟩, 11, B54.b7⟩ as m := rfl
@[simp] theorem fok7 : T54.base.fok 7 = false := rfl
theorem pi8 (n : Nat) : (PP n).pi 8 = ⟨[9, 18], [], [], false⟩ := by cases n <;> rfl
theorem call8 (n : Nat) (as : List D) (m : Me) : (PP (n + 1)).call 8 as m = runF (PP n) ⟨⟨[9, 18], [], [], false⟩, 4, B54.b8⟩ as m := rfl
@[simp] theorem fok8 : T54.base.fok 8 = false := rfl
theorem pi9 (n : Nat) : (PP n).pi 9 = ⟨[9, 15], [], [], false⟩ := by cases n <;> rfl
theorem call9 (n : Nat) (as : List D) (m : Me) : (PP (n + 1)).call 9 as m = runF (PP n) ⟨⟨[9, 15], [], [], false⟩, 2, B54.b9⟩ as m := rfl
@[simp] theorem fok9 : T54.base.fok 9 = false := rfl
theorem pi10 (n : Nat) : (PP n).pi 10 = ⟨[9], [], [], false⟩ := by cases n <;> rfl
theorem call10 (n : Nat) (as : List D) (m : Me) : (PP (n + 1)).call 10 as m = runF (PP n) ⟨⟨[9], [], [], false⟩, 1, B54.b10⟩ as m := rfl
@[simp] theorem fok10 : T54.base.fok 10 = false := rfl
theorem pi11 (n : Nat) : (PP n).pi 11 = ⟨[9], [], [], false⟩ := by cases n <;> rfl
theorem call11 (n : Nat) (as : List D) (m : Me) : (PP (n + 1)).call 11 as m = runF (PP n) ⟨⟨[9], [], [], false⟩, 1, B54.b11⟩ as m := rfl
@[simp] theorem fok11 : T54.base.fok 11 = false := rfl
theorem pi12 (n : Nat) : (PP n).pi 12 = ⟨[20], [], [], false⟩ := by cases n <;> rfl
theorem call12 (n : Nat) (as : List D) (m : Me) : (PP (n + 1)).call 12 as m = runF (PP n) ⟨⟨[20], [], [], false⟩, 3, B54.b12⟩ as m := rfl
@[simp] theorem fok12 : T54.base.fok 12 = true := rfl
theorem pi13 (n : Nat) : (PP n).pi 13 = ⟨[21, 22], [], [], false⟩ := by cases n <;> rfl
theorem call13 (n : Nat) (as : List D) (m : Me) : (PP (n + 1)).call 13 as m = runF (PP n) ⟨⟨[21, 22], [], [], false⟩, 5, B54.b13⟩ as m := rfl
@[simp] theorem fok13 : T54.base.fok 13 = true := rfl
theorem pi14 (n : Nat) : (PP n).pi 14 = ⟨[21, 23], [], [], false⟩ := by cases n <;> rfl
theorem call14 (n : Nat) (as : List D) (m : Me) : (PP (n + 1)).call 14 as m = runF (PP n) ⟨⟨[21, 23], [], [], false⟩, 2, B54.b14⟩ as m := rfl
@[simp] theorem fok14 : T54.base.fok 14 = true := rfl
theorem pi15 (n : Nat) : (PP n).pi 15 = ⟨[24, 25], [], [], false⟩ := by cases n <;> rfl
theorem call15 (n : Nat) (as : List D) (m : Me) : (PP (n + 1)).call 15 as m = runF (PP n) ⟨⟨[24, 25], [], [], false⟩, 2, B54.b15⟩ as m := rfl
@[simp] theorem fok15 : T54.base.fok 15 = true := rfl
theorem pi16 (n : Nat) : (PP n).pi 16 = ⟨[26], [], [], false⟩ := by cases n <;> rfl
theorem call16 (n : Nat) (as : List D) (m : Me) : (PP (n + 1)).call 16 as m = runF (PP n) ⟨⟨[26], [], [], false⟩, 10, B54.b16⟩ as m := rfl
@[simp] theorem fok16 : T54.base.fok 16 = true := rfl
theorem pi17 (n : Nat) : (PP n).pi 17 = ⟨[21, 27, 22], [], [], false⟩ := by cases n <;> rfl
theorem call17 (n : Nat) (as : List D) (m : Me) : (PP (n + 1)).call 17 as m = runF (PP n) ⟨⟨[21, 27, 22], [], [], false⟩, 7, B54.b17⟩ as m := rfl
@[simp] theorem fok17 : T54.base.fok 17 = true := rfl
theorem pi18 (n : Nat) : (PP n).pi 18 = ⟨[28, 29], [], [], false⟩ := by cases n <;> rfl
theorem call18 (n : Nat) (as : List D) (m : Me) : (PP (n + 1)).call 18 as m = runF (PP n) ⟨⟨[28, 29], [], [], false⟩, 2, B54.b18⟩ as m := rfl
@[simp] theorem fok18 : T54.base.fok 18 = true := rfl
theorem pi19 (n : Nat) : (PP n).pi 19 = ⟨[29, 30], [], [], false⟩ := by cases n <;> rfl
theorem call19 (n : Nat) (as : List D) (m : Me) : (PP (n + 1)).call 19 as m = runF (PP n) ⟨⟨[29, 30], [], [], false⟩, 4, B54.b19⟩ as m := rfl
@[simp] theorem fok19 : T54.base.fok 19 = true := rfl
theorem pi20 (n : Nat) : (PP n).pi 20 = ⟨[26, 29], [], [], false⟩ := by cases n <;> rfl
theorem call20 (n : Nat) (as : List D) (m : Me) : (PP (n + 1)).call 20 as m = runF (PP n) ⟨⟨[26, 29], [], [], false⟩, 4, B54.b20⟩ as m := rfl
@[simp] theorem fok20 : T54.base.fok 20 = true := rfl
theorem pi21 (n : Nat) : (PP n).pi 21 = ⟨[29], [], [], false⟩ := by cases n <;> rfl
theorem call21 (n : Nat) (as : List D) (m : Me) : (PP (n + 1)).call 21 as m = runF (PP n) ⟨⟨[29], [], [], false⟩, 2, B54.b21⟩ as m := rfl
@[simp] theorem fok21 : T54.base.fok 21 = true := rfl
theorem pi22 (n : Nat) : (PP n).pi 22 = ⟨[21], [], [], false⟩ := by cases n <;> rfl
theorem call22 (n : Nat) (as : List D) (m : Me) : (PP (n + 1)).call 22 as m = runF (PP n) ⟨⟨[21], [], [], false⟩, 1, B54.b22⟩ as m := rfl
@[simp] theorem fok22 : T54.base.fok 22 = true := rfl
theorem pi23 (n : Nat) : (PP n).pi 23 = ⟨[26, 28], [], [], false⟩ := by cases n <;> rfl
theorem call23 (n : Nat) (as : List D) (m : Me) : (PP (n + 1)).call 23 as m = runF (PP n) ⟨⟨[26, 28], [], [], false⟩, 7, B54.b23⟩ as m := rfl
@[simp] theorem fok23 : T54.base.fok 23 = true := rfl
theorem pi24 (n : Nat) : (PP n).pi 24 = ⟨[21, 29, 27], [], [], false⟩ := by cases n <;> rfl
theorem call24 (n : Nat) (as : List D) (m : Me) : (PP (n + 1)).call 24 as m = runF (PP n) ⟨⟨[21, 29, 27], [], [], false⟩, 6, B54.b24⟩ as m := rfl
@[simp] theorem fok24 : T54.base.fok 24 = true := rfl
theorem pi25 (n : Nat) : (PP n).pi 25 = ⟨[21, 29], [], [], false⟩ := by cases n <;> rfl
theorem call25 (n : Nat) (as : List D) (m : Me) : (PP (n + 1)).call 25 as m = runF (PP n) ⟨⟨[21, 29], [], [], false⟩, 6, B54.b25⟩ as m := rfl
@[simp] theorem fok25 : T54.base.fok 25 = true := rfl
theorem pi26 (n : Nat) : (PP n).pi 26 = ⟨[29, 30], [], [], false⟩ := by cases n <;> rfl
theorem call26 (n : Nat) (as : List D) (m : Me) : (PP (n + 1)).call 26 as m = runF (PP n) ⟨⟨[29, 30], [], [], false⟩, 3, B54.b26⟩ as m := rfl
@[simp] theorem fok26 : T54.base.fok 26 = true := rfl
theorem pi27 (n : Nat) : (PP n).pi 27 = ⟨[26, 28], [], [], false⟩ := by cases n <;> rfl
theorem call27 (n : Nat) (as : List D) (m : Me) : (PP (n + 1)).call 27 as m = runF (PP n) ⟨⟨[26, 28], [], [], false⟩, 6, B54.b27⟩ as m := rfl
@[simp] theorem fok27 : T54.base.fok 27 = true := rfl
theorem pi28 (n : Nat) : (PP n).pi 28 = ⟨[31, 28, 26, 29], [], [], false⟩ := by cases n <;> rfl
theorem call28 (n : Nat) (as : List D) (m : Me) : (PP (n + 1)).call 28 as m = runF (PP n) ⟨⟨[31, 28, 26, 29], [], [], false⟩, 8, B54.b28⟩ as m := rfl
@[simp] theorem fok28 : T54.base.fok 28 = true := rfl
theorem pi29 (n : Nat) : (PP n).pi 29 = ⟨[20], [], [], false⟩ := by cases n <;> rfl
theorem call29 (n : Nat) (as : List D) (m : Me) : (PP (n + 1)).call 29 as m = runF (PP n) ⟨⟨[20], [], [], false⟩, 20, B54.b29⟩ as m := rfl
@[simp] theorem fok29 : T54.base.fok 29 = true := rfl
end P54
end DL

/-! K54a: what the program's defs answer -/
namespace DL
open PySem PySem.Spec PyProof.Rows L2
namespace P54
/-- data that is_number can be asked about -/
def okK : D → Bool
  | .non => true | .bl _ => true | .int _ => true | .str _ => true | .lst _ => true | .tup _ => true
  | _ => false
def inR (v : D) (a b : Int) : Bool := match v with
  | .int i => decide (a ≤ i) && decide (i ≤ b)
  | _ => false
theorem s0 (n : Nat) (v : D) (a b : Int) (m : Me) (h : okK v = true) : (PP (n + 1)).call 0 [v, .int a, .int b] m = .ok (.bl (inR v a b)) m := by
  rw [call0]
  cases v <;> first | (cases h; done) | skip
  case int v =>
    simp [runF, B54.b0 ]
    by_cases h : a ≤ v <;> simp [h, inR]
  all_goals simp [runF, B54.b0 , inR]
@[simp] theorem a0 (n : Nat) (v : D) (a b : Int) (m : Me) (h : okK v = true) : appF (PP (n + 1)) 0 [v, .int a, .int b] [] [] m = .ok (.bl (inR v a b)) m := by
  rw [app_pos (pi0 _) rfl, s0 n v a b m h]
@[simp] theorem okK_int (i : Int) : okK (.int i) = true := by unfold okK; rfl
/-! shapes -/
abbrev formD (t w l h : Int) : D := .ins 0 [10, 11, 12, 13] [.int t, .int w, .int l, .int h]
@[simp] theorem fld10 (n : Nat) (t w l h : Int) (m : Me) : fldD (PP n) (formD t w l h) 10 m = .ok (.int t) m := by cases n <;> rfl
@[simp] theorem fld11 (n : Nat) (t w l h : Int) (m : Me) : fldD (PP n) (formD t w l h) 11 m = .ok (.int w) m := by cases n <;> rfl
@[simp] theorem fld12 (n : Nat) (t w l h : Int) (m : Me) : fldD (PP n) (formD t w l h) 12 m = .ok (.int l) m := by cases n <;> rfl
@[simp] theorem fld13 (n : Nat) (t w l h : Int) (m : Me) : fldD (PP n) (formD t w l h) 13 m = .ok (.int h) m := by cases n <;> rfl
structure Okf (t w l h : Int) : Prop where
  t0 : 2 ≤ t
  t1 : t ≤ 6
  w0 : 1 ≤ w
  w1 : w ≤ 4
  l0 : 1 ≤ l
  l1 : l ≤ 3
  h0 : 1 ≤ h
  h1 : h ≤ 2
theorem at_10 : T54.at_ 0 10 = .no := by rfl
theorem at_11 : T54.at_ 0 11 = .no := by rfl
theorem at_12 : T54.at_ 0 12 = .no := by rfl
theorem at_13 : T54.at_ 0 13 = .no := by rfl
theorem a1 (n : Nat) (t w l h : Int) (m : Me) (ok : Okf t w l h) : (PP (n + 2)).call 1 [.loc m.length, .int t, .int w, .int l, .int h] (m ++ [.ins 0 [] []]) = .ok .non (m ++ [.ins 0 [10, 11, 12, 13] [.int t, .int w, .int l, .int h]]) := by
  obtain ⟨t0, t1, w0, w1, l0, l1, h0, h1⟩ := ok
  rw [call1]
  simp [runF, B54.b1, inR, t0, t1, w0, w1, l0, l1, h0, h1, setF_end, at_10, at_11, at_12, at_13, putN, putX, seal_flat0]
theorem at_0i : T54.at_ 0 nInit = .meth 1 := by rfl
@[simp] theorem mks0 : T54.base.mks 0 = true := rfl
@[simp] theorem fz0 : T54.base.fz 0 = true := rfl
/-- Shape(t, w, l, h) -/
theorem new0 (n : Nat) (t w l h : Int) (m : Me) (ok : Okf t w l h) (hm : Cl m) : newC (PP (n + 2)) 0 [.int t, .int w, .int l, .int h] [] [] m = .ok (formD t w l h) m := by
  unfold newC
  simp [at_0i, app_pos (pi1 _), a1 n t w l h m ok]
  exact seal_flat (l := [.gone]) rfl hm (by simp)

/-! is_thing -/
def isTh3 (t w l h : Int) (k a b : D) : Bool := match k with
  | .str s => if s = "out" then inR a 0 0 && inR b 0 (t - 1) else if inR a 0 (l - 1) then (if s = "head" then inR b 0 (h - 1) else decide (s = "unit") && inR b 0 (w - 1)) else false
  | _ => false
def isTh (t w l h : Int) : D → Bool
  | .lst [k, a, b] => isTh3 t w l h k a b
  | .tup [k, a, b] => isTh3 t w l h k a b
  | _ => false
/-- what is_thing can be asked about -/
def okV : D → Bool
  | .lst xs => xs.length != 3 || xs.all okK
  | .tup xs => xs.length != 3 || xs.all okK
  | .ins 0 _ _ => true
  | v => okK v
theorem s5_3 (n : Nat) (t w l h : Int) (k a b : D) (sq : List D → D) (hs : sq = .lst ∨ sq = .tup) (m : Me) (hk : okK k = true) (ha : okK a = true) (hb : okK b = true) :
    (PP (n + 2)).call 5 [formD t w l h, sq [k, a, b]] m = .ok (.bl (isTh3 t w l h k a b)) m := by
  rw [call5]
  have e1 : isiD (PP (n + 1)) m (sq [k, a, b]) (.tup [.ty "tuple", .ty "list"]) = some true := by
    rcases hs with rfl | rfl <;> simp
  have e2 : ∀ P : Prg, bltD P .len false [sq [k, a, b]] m = .ok (.int 3) m := fun P => by rcases hs with rfl | rfl <;> simp
  have e3 : ∀ (P : Prg) (ts : List Tg) (env : En), denT P (.tup ts) (sq [k, a, b]) env m = if ([k, a, b] : List D).length = ts.length then denTs P ts [k, a, b] env m else .bad := fun P ts env => by rcases hs with rfl | rfl <;> simp
  cases k <;> first | (cases hk; done) | skip
  case str s =>
    by_cases c1 : s = "out"
    · subst c1
      by_cases c2 : inR a 0 0 <;> simp [runF, B54.b5, e1, e2, e3, isTh3, ha, hb, c2]
    · by_cases c2 : inR a 0 (l - 1)
      · by_cases c3 : s = "head"
        · subst c3
          simp [runF, B54.b5, e1, e2, e3, isTh3, ha, hb, c1, c2]
        · by_cases c4 : s = "unit"
          · subst c4
            simp [runF, B54.b5, e1, e2, e3, isTh3, ha, hb, c1, c2, c3]
          · simp [runF, B54.b5, e1, e2, e3, isTh3, ha, hb, c1, c2, c3, c4]
      · simp [runF, B54.b5, e1, e2, e3, isTh3, ha, hb, c1, c2]
  all_goals simp [runF, B54.b5, e1, e2, e3, isTh3]
theorem len3 : ∀ {xs : List D}, xs.length = 3 → ∃ a b c, xs = [a, b, c]
  | [a, b, c], _ => ⟨a, b, c, rfl⟩
  | [], h | [_], h | [_, _], h | _ :: _ :: _ :: _ :: _, h => by simp at h
theorem isTh_not3 {t w l h : Int} {xs : List D} (hx : xs.length ≠ 3) : isTh t w l h (.lst xs) = false ∧ isTh t w l h (.tup xs) = false := by
  unfold isTh
  constructor <;> split <;> first | rfl | (rename_i e; cases e <;> simp at hx)
theorem s5 (n : Nat) (t w l h : Int) (v : D) (m : Me) (hv : okV v = true) : (PP (n + 2)).call 5 [formD t w l h, v] m = .ok (.bl (isTh t w l h v)) m := by
  have sq : ∀ (xs : List D) (sq : List D → D) (hs : sq = .lst ∨ sq = .tup), (xs.length != 3 || xs.all okK) = true → (PP (n + 2)).call 5 [formD t w l h, sq xs] m = .ok (.bl (isTh t w l h (sq xs))) m := by
    intro xs sq hs hx
    by_cases h3 : xs.length = 3
    · obtain ⟨k, a, b, rfl⟩ := len3 h3
      simp at hx
      rw [s5_3 n t w l h k a b sq hs m hx.1 hx.2.1 hx.2.2]
      rcases hs with rfl | rfl <;> simp [isTh]
    · have e1 : isiD (PP (n + 1)) m (sq xs) (.tup [.ty "tuple", .ty "list"]) = some true := by
        rcases hs with rfl | rfl <;> simp
      have e2 : ∀ P : Prg, bltD P .len false [sq xs] m = .ok (.int xs.length) m := fun P => by rcases hs with rfl | rfl <;> simp
      have e3 : isTh t w l h (sq xs) = false := by
        have := isTh_not3 (t := t) (w := w) (l := l) (h := h) h3
        rcases hs with rfl | rfl
        · exact this.1
        · exact this.2
      have h4 : ¬ (xs.length : Int) = 3 := by omega
      rw [call5]
      simp [runF, B54.b5, e1, e2, e3, h4]
  cases v
  case lst xs => exact sq xs .lst (.inl rfl) hv
  case tup xs => exact sq xs .tup (.inr rfl) hv
  case ins c ns xs =>
    cases c with
    | zero =>
      rw [call5]
      have e : ∀ m, typ (PP (n + 1)) m (.ins 0 ns xs) = some (.inr 0) := fun m => by simp
      simp [runF, B54.b5, isiD_2 _ _ (e _), isTh]
    | succ c => cases hv
  all_goals first | (cases hv; done) | skip
  all_goals
    rw [call5]
    simp [runF, B54.b5, isTh]
@[simp] theorem a5 (n : Nat) (t w l h : Int) (v : D) (m : Me) (hv : okV v = true) : appF (PP (n + 2)) 5 [formD t w l h, v] [] [] m = .ok (.bl (isTh t w l h v)) m := by
  rw [app_pos (pi5 _) rfl, s5 n t w l h v m hv]
/-- is_thing(value=.., shape=..) -/
@[simp] theorem a5k (n : Nat) (t w l h : Int) (v : D) (m : Me) (hv : okV v = true) : appF (PP (n + 2)) 5 [] [6, 16] [v, formD t w l h] m = .ok (.bl (isTh t w l h v)) m := by
  have : bindA ((PP (n + 2)).pi 5) [] [6, 16] [v, formD t w l h] = some [formD t w l h, v] := by rw [pi5]; rfl
  unfold appF
  rw [this]
  exact s5 n t w l h v m hv

/-! the things of a shape -/
def rowT (k : Str) (w : Int) (a : D) : List D := (rngL 0 w.toNat).map fun x => .tup [.str k, a, x]
def TH (t w l h : Int) : List D := ((rngL 0 l.toNat).flatMap fun a => rowT "head" h a ++ rowT "unit" w a) ++ rowT "out" t (.int 0)
theorem rowT_len (k : Str) (w : Int) (a : D) : (rowT k w a).length = w.toNat := by simp [rowT, rngL]
theorem flat_rng (n : Nat) (lo : Int) : ∀ x ∈ rngL lo n, flat x = true := fun x hx => by
  unfold rngL at hx
  obtain ⟨i, _, rfl⟩ := List.mem_map.mp hx
  simp
theorem flat_rowT (k : Str) (w : Int) (a : D) (ha : flat a = true) : flatL (rowT k w a) = true := flatL_iff.mpr fun x hx => by
  unfold rowT at hx
  obtain ⟨y, hy, rfl⟩ := List.mem_map.mp hx
  simp [ha, flat_rng _ _ y hy]
theorem flat_TH (t w l h : Int) : flatL (TH t w l h) = true := by
  unfold TH
  rw [flatL_app, flat_rowT _ _ _ (by simp), Bool.and_true]
  refine flatL_iff.mpr fun x hx => ?_
  obtain ⟨a, ha, hx⟩ := List.mem_flatMap.mp hx
  have := flat_rng _ _ a ha
  rcases List.mem_append.mp hx with hx | hx
  · exact flatL_iff.mp (flat_rowT _ _ _ this) x hx
  · exact flatL_iff.mp (flat_rowT _ _ _ this) x hx
end P54
end DL

/-! K54b: the things of a shape -/
namespace DL
open PySem PySem.Spec PyProof.Rows L2
@[simp] theorem vw_end (m l : Me) (xs : List D) : vw (m ++ .lst xs :: l) (.loc m.length) = .lst xs := by simp [vw]
theorem callee_lst {P : Prg} {m : Me} {o : D} {xs : List D} {b : Bm} {nm : Nat} (h : vw m o = .lst xs) (hb : bmL b = true) : calleeD P m o nm (some b) [] = some (.inr b) := by
  unfold calleeD
  rw [h]
  simp [recvK, hb]
theorem ext_step (p : Bool) (m l : Me) (f ys : List D) (h : f.length + ys.length ≤ sizeLine) :
    bmD .extend p (.loc m.length) [.loc (m ++ .lst f :: l).length] (m ++ .lst f :: l ++ [.lst ys]) = .ok .non (m ++ .lst (f ++ ys) :: (l ++ [.lst ys])) := by
  have e1 : (m ++ .lst f :: l ++ [MO.lst ys])[m.length]? = some (.lst f) := by
    rw [List.append_assoc, List.cons_append]; simp
  have e2 : (m ++ .lst f :: l ++ [MO.lst ys])[(m ++ .lst f :: l).length]? = some (.lst ys) := by simp
  unfold bmD
  simp only [e1, e2]
  rw [if_pos h]
  congr 1
  rw [List.append_assoc, List.cons_append]
  simp
theorem seal_loc {m l : Me} {x : MO} (hm : Cl m) (hx : bndO m.length x = true) (hl : x.live = true) : sealR m.length (.loc m.length) (m ++ x :: l) = .ok (.loc m.length) (m ++ [x]) := by
  unfold sealR
  rw [if_neg (by simp)]
  have ht : (m ++ x :: l).take m.length = m := by simp
  unfold Cl at hm
  rw [ht, if_pos hm]
  simp [hx, hl]
theorem bndO_flat (k : Nat) {xs : List D} (h : flatL xs = true) : bndO k (.lst xs) = true := flatL_bnd k xs h
mutual
theorem bnd_mono {k k' : Nat} (h : k ≤ k') : ∀ d, bnd k d = true → bnd k' d = true
  | .lst ds, g => by unfold bnd at g ⊢; exact bndL_mono h ds g
  | .tup ds, g => by unfold bnd at g ⊢; exact bndL_mono h ds g
  | .ins _ _ ds, g => by unfold bnd at g ⊢; exact bndL_mono h ds g
  | .loc n, g => by unfold bnd at g ⊢; exact decide_eq_true (Nat.lt_of_lt_of_le (of_decide_eq_true g) h)
  | .non, _ | .bl _, _ | .int _, _ | .str _, _ | .ty _, _ | .cls _, _ | .fn _, _ | .rng _ _, _ => by unfold bnd; rfl
theorem bndL_mono {k k' : Nat} (h : k ≤ k') : ∀ ds, bndL k ds = true → bndL k' ds = true
  | [], _ => by unfold bndL; rfl
  | d :: ds, g => by
    unfold bndL at g ⊢
    rw [bnd_mono h d (Bool.and_eq_true_iff.mp g).1, bndL_mono h ds (Bool.and_eq_true_iff.mp g).2]; rfl
end
theorem bndO_mono {k k' : Nat} (h : k ≤ k') {o : MO} (g : bndO k o = true) : bndO k' o = true := by
  cases o with
  | lst ds => exact bndL_mono h ds g
  | ins _ _ ds => exact bndL_mono h ds g
  | gone => rfl
  | dK kvs => exact List.all_eq_true.mpr fun p hp => bnd_mono h _ (List.all_eq_true.mp g p hp)
  | dT kvs => exact List.all_eq_true.mpr fun p hp => bnd_mono h _ (List.all_eq_true.mp g p hp)
theorem Cl.app {m l : Me} (hm : Cl m) (hx : ∀ x ∈ l, bndO (m ++ l).length x = true) : Cl (m ++ l) := by
  refine Cl.mk fun o ho => ?_
  rcases List.mem_append.mp ho with ho | ho
  · exact bndO_mono (by simp) (List.all_eq_true.mp hm o ho)
  · exact hx o ho
theorem Cl.app1 {m : Me} {x : MO} (hm : Cl m) (hx : bndO (m.length + 1) x = true) : Cl (m ++ [x]) := hm.app fun y hy => by
  simp at hy; subst hy; simpa using hx
namespace P54
/-- a comprehension that makes a row of things -/
theorem row_lc {P : Prg} {p : Bool} {k : Str} {e2 : Ex} {env : En} {it : DL.It} {m : Me} {i : Nat} {a : D} {z : Int} (hz : z ≤ 1000)
    (hi : denI P it env m = .ok (.fix (rngL 0 z.toNat)) m) (he : ∀ x, den P e2 ((wipeE env [i]).set i (some x)) m = .ok a m) (hl : i < env.length) :
    den P (.lc p (.tup [.cst (.str k), e2, .var i]) (.name i) it [] [i]) env m = newL p (rowT k z a) m := by
  rw [d_lc, hi, Res.bk_ok, items_fix, lcGo_map (fun x => .tup [.str k, a, x]) (st_fix _ _)]
  · rfl
  · intro x _
    have hv : den P (.var i) ((wipeE env [i]).set i (some x)) m = .ok x m := d_var (by
      have : i < (wipeE env [i]).length := by simp [wipeE, hl]
      rw [List.getElem?_set_self this])
    simp [turnD_eq, he, hv]
  · have : sizeLine = 16777216 := rfl
    simp [rngL]; omega
theorem nadd_lst (P : Prg) (p : Bool) (xs ys : List D) (m : Me) (h : xs.length + ys.length ≤ sizeLine) : binD .add p (.lst xs) (.lst ys) m = newL p (xs ++ ys) m := by
  show (if xs.length + ys.length ≤ sizeLine then _ else _) = _
  rw [if_pos h]
abbrev figD (t w l h : Int) : D := .tup [.int t, .int w, .int l, .int h]
def pairT (w h : Int) (a : D) : List D := rowT "head" h a ++ rowT "unit" w a
theorem TH_eq (t w l h : Int) : TH t w l h = (rngL 0 l.toNat).flatMap (pairT w h) ++ rowT "out" t (.int 0) := rfl
theorem flat_len {w h : Int} (h1 : h ≤ 2) (w1 : w ≤ 4) : ∀ (ds : List D), (ds.flatMap (pairT w h)).length ≤ 6 * ds.length
  | [] => by simp
  | d :: ds => by
    have := flat_len h1 w1 ds
    simp only [List.flatMap_cons, List.length_append, List.length_cons, pairT, rowT_len]
    omega
theorem pre_len {n : Nat} {lo : Int} {pre po : List D} {d : D} (e : rngL lo n = pre ++ d :: po) : pre.length < n := by
  have := congrArg List.length e
  simp [rngL] at this
  omega
theorem s16 (n : Nat) (t w l h : Int) (m : Me) (ok : Okf t w l h) (hm : Cl m) : (PP (n + 1)).call 16 [figD t w l h] m = .ok (.lst (TH t w l h)) m := by
  obtain ⟨t0, t1, w0, w1, l0, l1, h0, h1⟩ := ok
  have hs : sizeLine = 16777216 := rfl
  rw [call16]
  have rl : ∀ z : Int, 1 ≤ z → z ≤ 6 → rngI [.int z] = some (.fix (rngL 0 z.toNat)) := fun z a b => rng1 (by omega) (by omega)
  obtain ⟨env', m', e, x6, x7, x8, rfl, rfl⟩ := loop_inv (v := .fix (rngL 0 l.toNat))
    (f := bodyF (PP n) (.name 6) [
      .asg (.name 5) (.bin .add false (.bin .add false (.var 5) (.lc false (.tup [.cst (.str "head"), .var 6, .var 7]) (.name 7) (.range1 (.var 4)) [] [7])) (.lc false (.tup [.cst (.str "unit"), .var 6, .var 8]) (.name 8) (.range1 (.var 2)) [] [8]))])
    (fun pre env m' => ∃ x6 x7 x8, env = [some (figD t w l h), some (.int t), some (.int w), some (.int l), some (.int h), some (.lst (pre.flatMap (pairT w h))), x6, x7, x8, none] ∧ m' = m)
    (fun _ _ _ _ => trivial) (rngL 0 l.toNat) [] [some (figD t w l h), some (.int t), some (.int w), some (.int l), some (.int h), some (.lst []), none, none, none, none] m
    (fun pr d po env m2 e i => by
      obtain ⟨x6, x7, x8, rfl, rfl⟩ := i
      have hp := pre_len e
      have hf := flat_len (w := w) (h := h) h1 w1 pr
      refine ⟨[some (figD t w l h), some (.int t), some (.int w), some (.int l), some (.int h), some (.lst ((pr ++ [d]).flatMap (pairT w h))), some d, x7, x8, none], m2, .inl ?_, some d, x7, x8, rfl, rfl⟩
      simp only [bodyF_eq, dT_name, Res.sN_ok, dSs_cons, dSs_nil, dS_asg, d_bin, List.set_cons_succ, List.set_cons_zero, d_varS, d_var0, Res.bk_ok]
      rw [row_lc (a := d) (z := h) (by omega) (by simp [rl h h0 (by omega)]) (by intro x; simp [wipeE]) (by simp)]
      simp only [newL_f, Res.bk_ok]
      rw [nadd_lst (PP n) _ _ _ _ (by rw [rowT_len]; omega), newL_f]
      simp only [Res.bk_ok]
      rw [row_lc (a := d) (z := w) (by omega) (by simp [rl w w0 (by omega)]) (by intro x; simp [wipeE]) (by simp)]
      simp only [newL_f, Res.bk_ok]
      rw [nadd_lst (PP n) _ _ _ _ (by rw [List.length_append, rowT_len, rowT_len]; omega), newL_f]
      simp [pairT])
    ⟨none, none, none, by simp, rfl⟩
  simp [runF, B54.b16, rl l l0 (by omega)]
  rw [e]
  simp
  rw [row_lc (a := .int 0) (z := t) (by omega) (by simp [rl t (by omega) t1]) (by intro x; simp [wipeE]) (by simp)]
  simp only [newL_f, Res.bk_ok]
  have hf := flat_len (w := w) (h := h) h1 w1 (rngL 0 l.toNat)
  have : (rngL 0 l.toNat).length = l.toNat := by simp [rngL]
  rw [nadd_lst (PP n) _ _ _ _ (by rw [rowT_len]; omega), newL_f]
  simp [TH_eq]
@[simp] theorem a16 (n : Nat) (t w l h : Int) (m : Me) (ok : Okf t w l h) (hm : Cl m) : appF (PP (n + 1)) 16 [figD t w l h] [] [] m = .ok (.lst (TH t w l h)) m := by
  rw [app_pos (pi16 _) rfl, s16 n t w l h m ok hm]
end P54
end DL

/-! K54c: Shape.things, wrong_thing -/
namespace DL
open PySem PySem.Spec PyProof.Rows L2
/-- what a value's items are -/
def vwL (m : Me) (d : D) : Option (List D) := match vw m d with
  | .lst xs => some xs
  | .tup xs => some xs
  | _ => none
/-- a walk over a value, whatever is laid behind -/
theorem walk_of {m : Me} {d : D} {xs : List D} (h : vwL m d = some xs) (l : Me) : ∃ v, v.items = xs ∧ seqI (m ++ l) d = some v ∧ ∀ l', v.still (m ++ l') := by
  unfold vwL vw at h
  cases d with
  | lst ys => cases h; exact ⟨.fix _, rfl, rfl, fun _ => trivial⟩
  | tup ys => cases h; exact ⟨.fix _, rfl, rfl, fun _ => trivial⟩
  | loc n =>
    cases e : m[n]? with
    | none => simp [e] at h
    | some o =>
      cases o with
      | lst ys =>
        simp [e] at h
        subst h
        have e2 : ∀ l : Me, (m ++ l)[n]? = some (.lst ys) := fun l => by
          rw [List.getElem?_append_left (List.getElem?_eq_some_iff.mp e).1, e]
        exact ⟨.mut n ys, rfl, by simp [seqI, e2], e2⟩
      | _ => simp [e] at h
  | _ => cases h
theorem walkE_of {m : Me} {d : D} {xs : List D} (h : vwL m d = some xs) (l : Me) : ∃ v, v.items = enumL 0 xs ∧ enumI (m ++ l) d = some v ∧ ∀ l', v.still (m ++ l') := by
  unfold vwL vw at h
  cases d with
  | lst ys => cases h; exact ⟨.fix (enumL 0 _), rfl, rfl, fun _ => trivial⟩
  | tup ys => cases h; exact ⟨.fix (enumL 0 _), rfl, rfl, fun _ => trivial⟩
  | loc n =>
    cases e : m[n]? with
    | none => simp [e] at h
    | some o =>
      cases o with
      | lst ys =>
        simp [e] at h
        subst h
        have e2 : ∀ l : Me, (m ++ l)[n]? = some (.lst ys) := fun l => by
          rw [List.getElem?_append_left (List.getElem?_eq_some_iff.mp e).1, e]
        exact ⟨.emut n ys, rfl, by simp [enumI, e2], e2⟩
      | _ => simp [e] at h
  | _ => cases h
/-- tuple(x) -/
def nrm : D → D
  | .lst xs => .tup xs
  | d => d
/-- the key that a thing is in a dict -/
def kTH (d : D) : List Key := (keyD (nrm d)).getD []
/-- kind, layer and number -/
inductive Thg : D → Prop where
  | mk (k : Str) (a b : Int) (h : k.length ≤ 10) : Thg (.tup [.str k, .int a, .int b])
theorem Thg.key {d : D} (h : Thg d) : keyD d = some (kTH d) := by
  obtain ⟨k, a, b, _⟩ := h; rfl
theorem Thg.back {d : D} (h : Thg d) : .tup ((kTH d).map kD) = d := by
  obtain ⟨k, a, b, _⟩ := h; rfl
theorem Thg.inj {d e : D} (h : Thg d) (g : Thg e) : kTH d = kTH e ↔ d = e := by
  obtain ⟨k, a, b, _⟩ := h; obtain ⟨k', a', b', _⟩ := g
  constructor
  · intro z
    have : ([.inr k, .inl a, .inl b] : List Key) = [.inr k', .inl a', .inl b'] := z
    simp at this
    obtain ⟨rfl, rfl, rfl⟩ := this
    rfl
  · rintro z; rw [z]
theorem Thg.kok {d : D} (h : Thg d) : (kTH d).all kOk = true := by
  obtain ⟨k, a, b, l⟩ := h
  have : k.length ≤ sizeLine := Nat.le_trans l (by decide)
  simp [kTH, keyD, keyL, nrm, kOk, this]
/-- dict comprehension: keys that are all new -/
theorem dcGo_new {v : IV} {f : D → Me → Res (Option (D × D))} {m : Me} (hv : v.still m) (val : D → D) : ∀ (ds : List D) (acc : List (List Key × D)), (∀ d ∈ ds, f d m = .ok (some (d, val d)) m ∧ keyD d = some (kTH d)) → acc.length + ds.length ≤ sizeLine →
    (acc.map (·.1) ++ ds.map kTH).Nodup → dcGo v f acc ds m = .ok (acc ++ ds.map fun d => (kTH d, val d)) m
  | [], acc, _, _, _ => by simp [dcGo, stillR, hv]
  | d :: ds, acc, hf, hl, hn => by
    obtain ⟨h1, h2⟩ := hf d (by simp)
    simp only [List.length_cons] at hl
    have hp : putT acc (kTH d) (val d) = acc ++ [(kTH d, val d)] := by
      unfold putT
      rw [if_neg]
      intro z
      obtain ⟨kv, hkv, e⟩ := List.any_eq_true.mp z
      have e := of_decide_eq_true e
      have hn' := (List.nodup_append.mp hn).2.2 kv.1 (List.mem_map.mpr ⟨kv, hkv, rfl⟩) (kTH d) (by simp)
      exact hn' e
    rw [dcGo, stillR, if_pos hv, h1, Res.bindN_ok]
    simp only [h2]
    rw [if_pos (by omega), hp, dcGo_new hv val ds _ (fun e he => hf e (by simp [he])) (by simp; omega) (by simpa using hn)]
    simp
/-- a table of numbers by keys -/
def KV (ths : List D) (c : List Key → Nat) : List (List Key × D) := ths.map fun th => (kTH th, .int (c (kTH th)))
theorem KV_get {ths : List D} {c : List Key → Nat} {k : List Key} (h : k ∈ ths.map kTH) : getT (KV ths c) k = some (.int (c k)) := by
  unfold getT KV
  induction ths with
  | nil => simp at h
  | cons th ths ih =>
    by_cases e : kTH th = k
    · simp [List.find?_cons, e]
    · have h2 : k ∈ ths.map kTH := by
        rcases List.mem_map.mp h with ⟨x, hx, ex⟩
        rcases List.mem_cons.mp hx with rfl | hx
        · exact (e ex).elim
        · exact List.mem_map.mpr ⟨x, hx, ex⟩
      have := ih h2
      simp only [List.map_cons, List.find?_cons, e, decide_false]
      exact this
theorem KV_put {ths : List D} {c : List Key → Nat} {k : List Key} (h : k ∈ ths.map kTH) (z : Nat) : putT (KV ths c) k (.int z) = KV ths (fun x => if x = k then z else c x) := by
  unfold putT
  rw [if_pos]
  · unfold KV
    rw [List.map_map]
    apply List.map_congr_left
    intro th _
    by_cases e : kTH th = k <;> simp [e]
  · refine List.any_eq_true.mpr ?_
    obtain ⟨x, hx, ex⟩ := List.mem_map.mp h
    exact ⟨(kTH x, .int (c (kTH x))), List.mem_map.mpr ⟨x, hx, rfl⟩, decide_eq_true ex⟩
namespace P54
theorem thg_row {k : Str} {z a : Int} {x : D} (hk : k.length ≤ 10) (h : x ∈ rowT k z (.int a)) : Thg x := by
  unfold rowT at h
  obtain ⟨y, hy, rfl⟩ := List.mem_map.mp h
  unfold rngL at hy
  obtain ⟨i, _, rfl⟩ := List.mem_map.mp hy
  exact .mk k a _ hk
theorem thg_TH {t w l h : Int} {x : D} (hx : x ∈ TH t w l h) : Thg x := by
  unfold TH at hx
  rcases List.mem_append.mp hx with hx | hx
  · obtain ⟨a, ha, hx⟩ := List.mem_flatMap.mp hx
    unfold rngL at ha
    obtain ⟨i, _, rfl⟩ := List.mem_map.mp ha
    rcases List.mem_append.mp hx with hx | hx
    · exact thg_row (by decide) hx
    · exact thg_row (by decide) hx
  · exact thg_row (by decide) hx
/-- Shape.things -/
theorem s2 (n : Nat) (t w l h : Int) (m : Me) (ok : Okf t w l h) (hm : Cl m) : (PP (n + 1)).call 2 [formD t w l h] m = .ok (.loc m.length) (m ++ [.lst (TH t w l h)]) := by
  obtain ⟨t0, t1, w0, w1, l0, l1, h0, h1⟩ := ok
  have hs : sizeLine = 16777216 := rfl
  rw [call2]
  have rl : ∀ z : Int, 1 ≤ z → z ≤ 6 → rngI [.int z] = some (.fix (rngL 0 z.toNat)) := fun z a b => rng1 (by omega) (by omega)
  have hcal : ∀ (P : Prg) (f : List D) (l' : Me), calleeD P (m ++ .lst f :: l') (.loc m.length) 38 (some .extend) [] = some (.inr .extend) := fun P f l' => callee_lst (vw_end m l' f) rfl
  obtain ⟨env', m', e, x2, x3, l', rfl, rfl⟩ := loop_inv (v := .fix (rngL 0 l.toNat))
    (f := bodyF (PP n) (.name 2) [
    .exp (.meth (.var 1) 38 (some .extend) false [.lc true (.tup [.cst (.str "head"), .var 2, .var 3]) (.name 3) (.range1 (.fld (.var 0) 13)) [] [3]] [] []),
    .exp (.meth (.var 1) 38 (some .extend) false [.lc true (.tup [.cst (.str "unit"), .var 2, .var 3]) (.name 3) (.range1 (.fld (.var 0) 11)) [] [3]] [] [])])
    (fun pre env m' => ∃ x2 x3 l', env = [some (formD t w l h), some (.loc m.length), x2, x3] ∧ m' = m ++ .lst (pre.flatMap (pairT w h)) :: l')
    (fun _ _ _ _ => trivial) (rngL 0 l.toNat) [] [some (formD t w l h), some (.loc m.length), none, none] (m ++ [.lst []])
    (fun pr d po env m2 e i => by
      obtain ⟨x2, x3, l', rfl, rfl⟩ := i
      have hp := pre_len e
      have hf := flat_len (w := w) (h := h) h1 w1 pr
      refine ⟨[some (formD t w l h), some (.loc m.length), some d, x3], _, .inl ?_, some d, x3, (l' ++ [.lst (rowT "head" h d)]) ++ [.lst (rowT "unit" w d)], rfl, rfl⟩
      simp only [bodyF_eq, dT_name, Res.sN_ok, dSs_cons, dSs_nil, dS_exp, d_meth, dL_cons, dL_nil, List.set_cons_succ, List.set_cons_zero, d_varS, d_var0, Res.bk_ok, hcal, ofO_some, calD_r]
      rw [row_lc (a := d) (z := h) (by omega) (by simp [rl h h0 (by omega)]) (by intro x; simp [wipeE]) (by simp)]
      simp only [newL_t, Res.bk_ok, Res.sk_ok, calD_r, dL_nil, dL_cons]
      rw [ext_step _ _ _ _ _ (by rw [rowT_len]; omega)]
      simp only [Res.sk_ok, SR'.sq_nx, hcal, ofO_some, Res.bk_ok, d_varS, d_var0, calD_r, dSs_cons, dSs_nil, dS_exp, d_meth, dL_nil, dL_cons]
      rw [row_lc (a := d) (z := w) (by omega) (by simp [rl w w0 (by omega)]) (by intro x; simp [wipeE]) (by simp)]
      simp only [newL_t, Res.bk_ok, Res.sk_ok, calD_r, dL_nil, dL_cons]
      rw [ext_step _ _ _ _ _ (by rw [List.length_append, rowT_len, rowT_len]; omega)]
      simp [pairT])
    ⟨none, none, [], by simp, by simp⟩
  simp [runF, B54.b2, rl l l0 (by omega)]
  rw [e]
  simp [hcal]
  rw [row_lc (a := .int 0) (z := t) (by omega) (by simp [rl t (by omega) t1]) (by intro x; simp [wipeE]) (by simp)]
  have hf := flat_len (w := w) (h := h) h1 w1 (rngL 0 l.toNat)
  have : (rngL 0 l.toNat).length = l.toNat := by simp [rngL]
  simp only [newL_t, Res.bk_ok, calD_r, dL_nil, dL_cons]
  rw [ext_step _ _ _ _ _ (by rw [rowT_len]; omega)]
  simp
  exact seal_loc hm (bndO_flat _ (flat_TH t w l h)) rfl
end P54
end DL

/-! K54d: wrong_thing -/
namespace DL
open PySem PySem.Spec PyProof.Rows L2
def vwX (m : Me) (e : D) : List D := (vwL m e).getD []
theorem mem_rng {n : Nat} {lo i : Int} (h : lo ≤ i) (g : i < lo + n) : D.int i ∈ rngL lo n := by
  unfold rngL
  refine List.mem_map.mpr ⟨(i - lo).toNat, List.mem_range.mpr (by omega), ?_⟩
  congr 1; omega
theorem rng_mem {n : Nat} {lo : Int} {x : D} (h : x ∈ rngL lo n) : ∃ i, x = .int i ∧ lo ≤ i ∧ i < lo + n := by
  unfold rngL at h
  obtain ⟨i, hi, rfl⟩ := List.mem_map.mp h
  have := List.mem_range.mp hi
  exact ⟨_, rfl, by omega, by omega⟩
@[simp] theorem tuple_nrm (P : Prg) (m : Me) {x : D} (h : ∃ xs, x = .lst xs ∨ x = .tup xs) : bltD P .tuple_ false [x] m = .ok (nrm x) m := by
  obtain ⟨xs, rfl | rfl⟩ := h <;> rfl
namespace P54
theorem inR_int {v : D} {a b : Int} (h : inR v a b = true) : ∃ i, v = .int i ∧ a ≤ i ∧ i ≤ b := by
  unfold inR at h
  cases v <;> simp at h
  exact ⟨_, rfl, h⟩
/-- a thing of the shape -/
theorem isTh_of {t w l h : Int} {x : D} (hx : isTh t w l h x = true) : ∃ s a b, (x = .lst [.str s, .int a, .int b] ∨ x = .tup [.str s, .int a, .int b]) ∧
    ((s = "out" ∧ a = 0 ∧ 0 ≤ b ∧ b < t) ∨ (s = "head" ∧ 0 ≤ a ∧ a < l ∧ 0 ≤ b ∧ b < h) ∨ (s = "unit" ∧ 0 ≤ a ∧ a < l ∧ 0 ≤ b ∧ b < w)) := by
  have key : ∀ k a b, isTh3 t w l h k a b = true → ∃ s i j, k = .str s ∧ a = .int i ∧ b = .int j ∧ ((s = "out" ∧ i = 0 ∧ 0 ≤ j ∧ j < t) ∨ (s = "head" ∧ 0 ≤ i ∧ i < l ∧ 0 ≤ j ∧ j < h) ∨ (s = "unit" ∧ 0 ≤ i ∧ i < l ∧ 0 ≤ j ∧ j < w)) := by
    intro k a b hk
    unfold isTh3 at hk
    cases k <;> simp only at hk <;> first | (cases hk; done) | skip
    rename_i s
    by_cases c1 : s = "out"
    · rw [if_pos c1] at hk
      obtain ⟨h1, h2⟩ := Bool.and_eq_true_iff.mp hk
      obtain ⟨i, rfl, p1, p2⟩ := inR_int h1
      obtain ⟨j, rfl, q1, q2⟩ := inR_int h2
      exact ⟨s, i, j, rfl, rfl, rfl, .inl ⟨c1, by omega, by omega, by omega⟩⟩
    · rw [if_neg c1] at hk
      by_cases c2 : inR a 0 (l - 1) = true
      · rw [if_pos c2] at hk
        obtain ⟨i, rfl, p1, p2⟩ := inR_int c2
        by_cases c3 : s = "head"
        · rw [if_pos c3] at hk
          obtain ⟨j, rfl, q1, q2⟩ := inR_int hk
          exact ⟨s, i, j, rfl, rfl, rfl, .inr (.inl ⟨c3, by omega, by omega, by omega, by omega⟩)⟩
        · rw [if_neg c3] at hk
          obtain ⟨h1, h2⟩ := Bool.and_eq_true_iff.mp hk
          obtain ⟨j, rfl, q1, q2⟩ := inR_int h2
          exact ⟨s, i, j, rfl, rfl, rfl, .inr (.inr ⟨of_decide_eq_true h1, by omega, by omega, by omega, by omega⟩)⟩
      · rw [if_neg c2] at hk; cases hk
  unfold isTh at hx
  split at hx
  · obtain ⟨s, i, j, rfl, rfl, rfl, q⟩ := key _ _ _ hx
    exact ⟨s, i, j, .inl rfl, q⟩
  · obtain ⟨s, i, j, rfl, rfl, rfl, q⟩ := key _ _ _ hx
    exact ⟨s, i, j, .inr rfl, q⟩
  · cases hx
theorem mem_row {s : Str} {z b : Int} (a : D) (h0 : 0 ≤ b) (h1 : b < z) : D.tup [.str s, a, .int b] ∈ rowT s z a :=
  List.mem_map.mpr ⟨.int b, mem_rng h0 (by omega), rfl⟩
theorem mem_TH {t w l h : Int} {s : Str} {a b : Int} (q : (s = "out" ∧ a = 0 ∧ 0 ≤ b ∧ b < t) ∨ (s = "head" ∧ 0 ≤ a ∧ a < l ∧ 0 ≤ b ∧ b < h) ∨ (s = "unit" ∧ 0 ≤ a ∧ a < l ∧ 0 ≤ b ∧ b < w)) :
    D.tup [.str s, .int a, .int b] ∈ TH t w l h := by
  unfold TH
  rcases q with ⟨rfl, rfl, h1, h2⟩ | ⟨rfl, h1, h2, h3, h4⟩ | ⟨rfl, h1, h2, h3, h4⟩
  · exact List.mem_append.mpr (.inr (mem_row _ h1 h2))
  · exact List.mem_append.mpr (.inl (List.mem_flatMap.mpr ⟨.int a, mem_rng h1 (by omega), List.mem_append.mpr (.inl (mem_row _ h3 h4))⟩))
  · exact List.mem_append.mpr (.inl (List.mem_flatMap.mpr ⟨.int a, mem_rng h1 (by omega), List.mem_append.mpr (.inr (mem_row _ h3 h4))⟩))
theorem TH_of {t w l h : Int} {y : D} (hy : y ∈ TH t w l h) : ∃ s a b, y = .tup [.str s, .int a, .int b] ∧
    ((s = "out" ∧ a = 0 ∧ 0 ≤ b ∧ b < t) ∨ (s = "head" ∧ 0 ≤ a ∧ a < l ∧ 0 ≤ b ∧ b < h) ∨ (s = "unit" ∧ 0 ≤ a ∧ a < l ∧ 0 ≤ b ∧ b < w)) := by
  unfold TH at hy
  rcases List.mem_append.mp hy with hy | hy
  · obtain ⟨a, ha, hy⟩ := List.mem_flatMap.mp hy
    obtain ⟨i, rfl, h1, h2⟩ := rng_mem ha
    rcases List.mem_append.mp hy with hy | hy <;> obtain ⟨b, hb, rfl⟩ := List.mem_map.mp hy <;> obtain ⟨j, rfl, h3, h4⟩ := rng_mem hb
    · exact ⟨"head", i, j, rfl, .inr (.inl ⟨rfl, by omega, by omega, by omega, by omega⟩)⟩
    · exact ⟨"unit", i, j, rfl, .inr (.inr ⟨rfl, by omega, by omega, by omega, by omega⟩)⟩
  · obtain ⟨b, hb, rfl⟩ := List.mem_map.mp hy
    obtain ⟨j, rfl, h3, h4⟩ := rng_mem hb
    exact ⟨"out", 0, j, rfl, .inl ⟨rfl, rfl, by omega, by omega⟩⟩
theorem isTh_mem {t w l h : Int} {x : D} (hx : isTh t w l h x = true) : nrm x ∈ TH t w l h := by
  obtain ⟨s, a, b, rfl | rfl, q⟩ := isTh_of hx
  · exact mem_TH q
  · exact mem_TH q
theorem isTh3_TH {t w l h : Int} {s : Str} {a b : Int} (q : (s = "out" ∧ a = 0 ∧ 0 ≤ b ∧ b < t) ∨ (s = "head" ∧ 0 ≤ a ∧ a < l ∧ 0 ≤ b ∧ b < h) ∨ (s = "unit" ∧ 0 ≤ a ∧ a < l ∧ 0 ≤ b ∧ b < w)) : isTh3 t w l h (.str s) (.int a) (.int b) = true := by
  have n1 : ¬ ("head" : Str) = "out" := by decide
  have n2 : ¬ ("unit" : Str) = "out" := by decide
  have n3 : ¬ ("unit" : Str) = "head" := by decide
  rcases q with ⟨rfl, rfl, h1, h2⟩ | ⟨rfl, h1, h2, h3, h4⟩ | ⟨rfl, h1, h2, h3, h4⟩
  · simp [isTh3, inR]; omega
  · simp [isTh3, inR, n1]; omega
  · simp [isTh3, inR, n2, n3]; omega
theorem isTh_TH {t w l h : Int} {y : D} (hy : y ∈ TH t w l h) : isTh t w l h y = true := by
  obtain ⟨s, a, b, rfl, q⟩ := TH_of hy
  exact isTh3_TH q
theorem okV_TH {t w l h : Int} {y : D} (hy : y ∈ TH t w l h) : okV y = true := by
  obtain ⟨s, a, b, rfl, q⟩ := TH_of hy
  rfl
theorem TH_len {t w l h : Int} (ok : Okf t w l h) : (TH t w l h).length ≤ 24 := by
  obtain ⟨t0, t1, w0, w1, l0, l1, h0, h1⟩ := ok
  have := flat_len (w := w) (h := h) h1 w1 (rngL 0 l.toNat)
  have e : (rngL 0 l.toNat).length = l.toNat := by simp [rngL]
  rw [TH_eq, List.length_append, rowT_len]
  omega
theorem nodup_rng (n : Nat) (lo : Int) : (rngL lo n).Nodup := by
  unfold rngL
  refine List.Pairwise.map _ (fun a b h e => h ?_) List.nodup_range
  have : (lo + (a : Int)) = lo + (b : Int) := by injection e
  omega
theorem nodup_row (k : Str) (z : Int) (a : D) : (rowT k z a).Nodup := by
  unfold rowT
  refine List.Pairwise.map _ (fun x y h e => h ?_) (nodup_rng _ _)
  injection e with e; simpa using e
theorem row_mem {k : Str} {z : Int} {a x : D} (h : x ∈ rowT k z a) : ∃ y, x = .tup [.str k, a, y] := by
  obtain ⟨y, _, rfl⟩ := List.mem_map.mp h
  exact ⟨y, rfl⟩
theorem nodup_TH (t w l h : Int) : (TH t w l h).Nodup := by
  have n1 : ¬ ("head" : Str) = "out" := by decide
  have n2 : ¬ ("unit" : Str) = "out" := by decide
  have n3 : ¬ ("head" : Str) = "unit" := by decide
  unfold TH
  refine List.nodup_append.mpr ⟨?_, nodup_row _ _ _, ?_⟩
  · unfold List.Nodup
    rw [List.pairwise_flatMap]
    refine ⟨fun a ha => List.nodup_append.mpr ⟨nodup_row _ _ _, nodup_row _ _ _, ?_⟩, (nodup_rng _ _).imp ?_⟩
    · intro x hx y hy e
      obtain ⟨p, rfl⟩ := row_mem hx
      obtain ⟨q, rfl⟩ := row_mem hy
      injection e with e; simp at e; exact n3 e.1
    · intro a b hab x hx y hy e
      have hx2 : ∃ s p, x = .tup [.str s, a, p] := by
        rcases List.mem_append.mp hx with hx | hx <;> obtain ⟨p, rfl⟩ := row_mem hx <;> exact ⟨_, p, rfl⟩
      have hy2 : ∃ s p, y = .tup [.str s, b, p] := by
        rcases List.mem_append.mp hy with hy | hy <;> obtain ⟨p, rfl⟩ := row_mem hy <;> exact ⟨_, p, rfl⟩
      obtain ⟨s, p, rfl⟩ := hx2
      obtain ⟨s', q, rfl⟩ := hy2
      injection e with e; simp at e; exact hab e.2.1
  · intro x hx y hy e
    obtain ⟨q, rfl⟩ := row_mem hy
    obtain ⟨a, _, hx⟩ := List.mem_flatMap.mp hx
    rcases List.mem_append.mp hx with hx | hx <;> obtain ⟨p, rfl⟩ := row_mem hx <;> injection e with e <;> simp at e
    · exact n1 e.1
    · exact n2 e.1
theorem nodup_keys (t w l h : Int) : ((TH t w l h).map kTH).Nodup := by
  unfold List.Nodup
  rw [List.pairwise_map]
  exact List.Pairwise.imp_of_mem (fun {a b} ha hb hab => fun e => hab (((thg_TH ha).inj (thg_TH hb)).mp e)) (nodup_TH t w l h)
/-- how often a key stands -/
def cntK (t w l h : Int) (its : List D) (k : List Key) : Nat := its.countP fun x => isTh t w l h x && decide (kTH x = k)
def wrongD (t w l h : Int) (its : List D) : D := match (TH t w l h).find? fun th => decide (cntK t w l h its (kTH th) ≠ 1) with
  | some th => th
  | none => .non
end P54
end DL

/-! K54e: wrong_thing by the code -/
namespace DL
open PySem PySem.Spec PyProof.Rows L2
namespace P54
@[simp] theorem callee14 (n : Nat) (t w l h : Int) (m : Me) : calleeD (PP n) m (formD t w l h) 14 none [] = some (.inl 2) := by cases n <;> rfl
@[simp] theorem ap2 (n : Nat) (t w l h : Int) (m : Me) (ok : Okf t w l h) (hm : Cl m) : appF (PP (n + 1)) 2 [formD t w l h] [] [] m = .ok (.loc m.length) (m ++ [.lst (TH t w l h)]) := by
  rw [app_pos (pi2 _) rfl, s2 n t w l h m ok hm]
theorem KV_len (ths : List D) (c : List Key → Nat) : (KV ths c).length = ths.length := by simp [KV]
/-- one more -/
theorem cnt_step (t w l h : Int) (its : List D) (x : D) (hx : isTh t w l h x = true) : (fun y => if y = kTH x then cntK t w l h its (kTH x) + 1 else cntK t w l h its y) = cntK t w l h (its ++ [x]) := by
  funext y
  unfold cntK
  rw [List.countP_append]
  by_cases e : y = kTH x
  · subst e; simp [hx]
  · have : ¬ kTH x = y := fun z => e z.symm
    simp [e, this]
theorem cnt_step0 (t w l h : Int) (its : List D) (x : D) (hx : isTh t w l h x = false) : cntK t w l h its = cntK t w l h (its ++ [x]) := by
  funext y
  unfold cntK
  rw [List.countP_append]
  simp [hx]
def b6in : List DL.St := [
      .ite (.val (.app (.cst (.fn 5)) [.var 0, .var 5] [] [])) [
        .augS (.var 3) (.blt .tuple_ false [.var 5]) .add (.cst (.int 1))] []]
def b6out : List DL.St := [.loop (.name 5) (.seq (.var 4)) b6in]
/-- a turn of the inner loop -/
theorem in_turn (n : Nat) (t w l h : Int) (M : Me) (ok : Okf t w l h) (mach e : D) (x5 : Option D) (x : D) (hx : okV x = true) (its : List D) :
    bodyF (PP (n + 2)) (.name 5) b6in x [some (formD t w l h), some mach, none, some (.loc M.length), some e, x5, none] (M ++ [.dT (KV (TH t w l h) (cntK t w l h its))]) =
      .ok .nx [some (formD t w l h), some mach, none, some (.loc M.length), some e, some x, none] (M ++ [.dT (KV (TH t w l h) (cntK t w l h (its ++ [x])))]) := by
  have hl := TH_len ok
  unfold b6in
  by_cases c : isTh t w l h x = true
  · have hk : kTH x ∈ (TH t w l h).map kTH := by
      refine List.mem_map.mpr ⟨nrm x, isTh_mem c, ?_⟩
      obtain ⟨s, a, b, rfl | rfl, _⟩ := isTh_of c <;> rfl
    have hk2 : keyD (nrm x) = some (kTH x) := by
      obtain ⟨s, a, b, rfl | rfl, _⟩ := isTh_of c <;> rfl
    have hs : ∃ xs, x = .lst xs ∨ x = .tup xs := by
      obtain ⟨s, a, b, rfl | rfl, _⟩ := isTh_of c
      · exact ⟨_, .inl rfl⟩
      · exact ⟨_, .inr rfl⟩
    simp [hx, c, dS_augS, tuple_nrm _ _ hs, hk2, KV_get hk]
    have hz : (KV (TH t w l h) (cntK t w l h its)).length < sizeLine := by rw [KV_len, sizeLine_v]; omega
    rw [if_pos hz]
    have := KV_put (c := cntK t w l h its) hk (cntK t w l h its (kTH x) + 1)
    rw [cnt_step _ _ _ _ _ _ c] at this
    rw [← this]
    rfl
  · have c' : isTh t w l h x = false := by simpa using c
    simp [hx, c', ← cnt_step0 _ _ _ _ _ _ c']
theorem s6 (n : Nat) (t w l h : Int) (m : Me) (ok : Okf t w l h) (hm : Cl m) (mach : D) (es : List D) (h1 : vwL m mach = some es) (h2 : ∀ e ∈ es, (vwL m e).isSome = true) (h3 : ∀ e ∈ es, ∀ x ∈ vwX m e, okV x = true) :
    (PP (n + 3)).call 6 [formD t w l h, mach] m = .ok (wrongD t w l h (es.flatMap (vwX m))) m := by
  have hl := TH_len ok
  rw [call6]
  have hM : Cl (m ++ [.lst (TH t w l h)]) := hm.app1 (bndO_flat _ (flat_TH t w l h))
  have e0 : ∀ (env : En) , den (PP (n + 2)) (.dc (.var 2) (.cst (.int 0)) (.name 2) (.seq (.meth (.var 0) 14 none false [] [] [])) [] [2]) [some (formD t w l h), some mach, none, none, none, none, none] m =
      Res.ok (D.loc (m ++ [MO.lst (TH t w l h)]).length) ((m ++ [MO.lst (TH t w l h)]) ++ [MO.dT (KV (TH t w l h) (cntK t w l h []))]) := by
    intro _
    rw [d_dc]
    have hg : (m ++ [MO.lst (TH t w l h)])[m.length]? = some (.lst (TH t w l h)) := by simp
    simp [ok, hm, seqI_loc _ hg]
    rw [dcGo_new (m := m ++ [MO.lst (TH t w l h)]) (v := .mut m.length (TH t w l h)) (show IV.still _ (.mut m.length (TH t w l h)) from hg) (fun _ => .int 0)]
    · simp [KV, cntK]
    · intro d hd
      refine ⟨?_, (thg_TH hd).key⟩
      simp [turnK_eq, wipeE]
    · rw [sizeLine_v]; simp; omega
    · simpa using nodup_keys t w l h
  generalize hMd : m ++ [MO.lst (TH t w l h)] = M at *
  have lM : ∃ l, M = m ++ l := ⟨_, hMd.symm⟩
  obtain ⟨v, hv1, hv2, hv3⟩ := walk_of h1 ([MO.lst (TH t w l h)] ++ [.dT (KV (TH t w l h) (cntK t w l h []))])
  have hst : ∀ (u : IV) (x : MO), (∀ l', u.still (m ++ l')) → u.still (M ++ [x]) := fun u x hu => by
    rw [← hMd, List.append_assoc]; exact hu _
  obtain ⟨env1, m1, e1, x4, x5, rfl, rfl⟩ := loop_inv (v := v) (f := bodyF (PP (n + 2)) (.name 4) b6out)
    (fun pre env m' => ∃ x4 x5, env = [some (formD t w l h), some mach, none, some (.loc M.length), x4, x5, none] ∧ m' = M ++ [.dT (KV (TH t w l h) (cntK t w l h (pre.flatMap (vwX m))))])
    (fun pre env m' i => by obtain ⟨_, _, _, rfl⟩ := i; exact hst v _ hv3)
    es [] [some (formD t w l h), some mach, none, some (.loc M.length), none, none, none] (M ++ [.dT (KV (TH t w l h) (cntK t w l h []))])
    (fun pr e po env m' eq i => by
      obtain ⟨x4, x5, rfl, rfl⟩ := i
      have he : e ∈ es := by
        have : es = pr ++ e :: po := by simpa using eq
        rw [this]; simp
      obtain ⟨xs, hxs⟩ := Option.isSome_iff_exists.mp (h2 e he)
      have hX : vwX m e = xs := by simp [vwX, hxs]
      obtain ⟨u, hu1, hu2, hu3⟩ := walk_of hxs ([MO.lst (TH t w l h)] ++ [.dT (KV (TH t w l h) (cntK t w l h (pr.flatMap (vwX m))))])
      rw [← List.append_assoc, hMd] at hu2
      obtain ⟨env2, m2, e2, y5, rfl, rfl⟩ := loop_inv (v := u) (f := bodyF (PP (n + 2)) (.name 5) b6in)
        (fun pre env m' => ∃ x5, env = [some (formD t w l h), some mach, none, some (.loc M.length), some e, x5, none] ∧ m' = M ++ [.dT (KV (TH t w l h) (cntK t w l h (pr.flatMap (vwX m) ++ pre)))])
        (fun pre env m' i => by obtain ⟨_, _, rfl⟩ := i; exact hst u _ hu3)
        xs [] [some (formD t w l h), some mach, none, some (.loc M.length), some e, x5, none] (M ++ [.dT (KV (TH t w l h) (cntK t w l h (pr.flatMap (vwX m))))])
        (fun pr2 x po2 env m' eq2 i => by
          obtain ⟨z5, rfl, rfl⟩ := i
          have hx : x ∈ xs := by
            have : xs = pr2 ++ x :: po2 := by simpa using eq2
            rw [this]; simp
          refine ⟨_, _, .inl (in_turn n t w l h M ok mach e z5 x (h3 e he x (by rw [hX]; exact hx)) _), some x, rfl, by rw [List.append_assoc]⟩)
        ⟨x5, rfl, by simp⟩
      refine ⟨_, _, .inl ?_, some e, y5, rfl, rfl⟩
      unfold b6out
      simp [hu2, hu1, e2, hX])
    ⟨none, none, rfl, by simp⟩
  rw [← List.append_assoc, hMd] at hv2
  simp only [List.nil_append] at e1
  have fin := loop_find (v := .fix ((KV (TH t w l h) (cntK t w l h (es.flatMap (vwX m)))).map itemT)) (f := bodyF (PP (n + 2)) (.tup [.name 2, .name 6]) [
    .ite (.val (.cmp .NotEq (.var 6) (.cst (.int 1)))) [
      .ret (some (.var 2)) false] []]) (m := M ++ [.gone])
    (fun env => ∃ x2 x6, env = [some (formD t w l h), some mach, x2, some (.loc M.length), x4, x5, x6])
    (fun d => match d with | .tup [_, .int z] => decide (z ≠ 1) | _ => false) (fun d => match d with | .tup [a, _] => a | d => d)
    (by exact trivial) ((KV (TH t w l h) (cntK t w l h (es.flatMap (vwX m)))).map itemT) [some (formD t w l h), some mach, none, some (.loc M.length), x4, x5, none]
    (fun d hd env i => by
      obtain ⟨x2, x6, rfl⟩ := i
      obtain ⟨kv, hkv, rfl⟩ := List.mem_map.mp hd
      obtain ⟨th, hth, rfl⟩ := List.mem_map.mp hkv
      simp only [itemT, (thg_TH hth).back]
      by_cases c : (cntK t w l h (es.flatMap (vwX m)) (kTH th) : Int) = 1
      · rw [if_neg (by simp [c])]
        refine ⟨_, ?_, some th, some (.int (cntK t w l h (es.flatMap (vwX m)) (kTH th))), rfl⟩
        simp [c]
      · rw [if_pos (by simp [c])]
        refine ⟨[some (formD t w l h), some mach, some th, some (.loc M.length), x4, x5, some (.int (cntK t w l h (es.flatMap (vwX m)) (kTH th)))], ?_⟩
        simp [c])
    ⟨none, none, rfl⟩
  have hf : (KV (TH t w l h) (cntK t w l h (es.flatMap (vwX m)))).map itemT = (TH t w l h).map fun th => .tup [th, .int (cntK t w l h (es.flatMap (vwX m)) (kTH th))] := by
    unfold KV
    rw [List.map_map]
    exact List.map_congr_left fun th hth => by simp [itemT, (thg_TH hth).back]
  have hk : ((KV (TH t w l h) (cntK t w l h (es.flatMap (vwX m)))).all fun kv => kv.1.all kOk) = true := by
    refine List.all_eq_true.mpr fun kv hkv => ?_
    obtain ⟨th, hth, rfl⟩ := List.mem_map.mp hkv
    exact (thg_TH hth).kok
  have hi : itemsI (.loc M.length) (M ++ [.dT (KV (TH t w l h) (cntK t w l h (es.flatMap (vwX m))))]) = .ok (.fix ((KV (TH t w l h) (cntK t w l h (es.flatMap (vwX m)))).map itemT)) (M ++ [.gone]) := by
    simp only [itemsI, get_end, hk, if_true, set_end]
  rw [hf] at fin hi
  have hw : wrongD t w l h (es.flatMap (vwX m)) = match ((TH t w l h).map fun th => D.tup [th, .int (cntK t w l h (es.flatMap (vwX m)) (kTH th))]).find? (fun d => match d with | .tup [_, .int z] => decide (z ≠ 1) | _ => false) with
      | some (.tup [a, _]) => a
      | _ => .non := by
    rw [List.find?_map]
    unfold wrongD
    have e : ((fun d => match d with | .tup [_, .int z] => decide (z ≠ 1) | _ => false) ∘ fun th => D.tup [th, .int (cntK t w l h (es.flatMap (vwX m)) (kTH th))]) = fun th => decide (cntK t w l h (es.flatMap (vwX m)) (kTH th) ≠ 1) := by
      funext th
      simp
      omega
    rw [e]
    cases (TH t w l h).find? fun th => decide (cntK t w l h (es.flatMap (vwX m)) (kTH th) ≠ 1) <;> rfl
  rw [hw]
  have hse : ∀ d, flat d = true → sealR m.length d (M ++ [.gone]) = .ok d m := fun d hd => by
    rw [← hMd, List.append_assoc]; exact seal_flat rfl hm hd
  have hb : B54.b6 = [.asg (.name 3) (.dc (.var 2) (.cst (.int 0)) (.name 2) (.seq (.meth (.var 0) 14 none false [] [] [])) [] [2]), .loop (.name 4) (.seq (.var 1)) b6out,
    .loop (.tup [.name 2, .name 6]) (.items (.var 3)) [.ite (.val (.cmp .NotEq (.var 6) (.cst (.int 1)))) [.ret (some (.var 2)) false] []], .ret (some (.cst (.non))) false] := rfl
  rw [hb]
  cases c : ((TH t w l h).map fun th => D.tup [th, .int (cntK t w l h (es.flatMap (vwX m)) (kTH th))]).find? (fun d => match d with | .tup [_, .int z] => decide (z ≠ 1) | _ => false) with
  | none =>
    rw [c] at fin
    obtain ⟨env', f1, _, _, rfl⟩ := fin
    simp [runF, e0 [], hv2, hv1, e1, hi, f1]
    exact hse _ (by simp)
  | some d =>
    rw [c] at fin
    obtain ⟨env', f1⟩ := fin
    obtain ⟨th, hth, rfl⟩ := List.mem_map.mp (List.mem_of_find?_eq_some c)
    simp [runF, e0 [], hv2, hv1, e1, hi, f1]
    exact hse _ (flatL_iff.mp (flat_TH t w l h) th hth)
end P54
end DL

/-! K54f: splits -/
namespace DL
open PySem PySem.Spec PyProof.Rows L2
theorem vwL_app {m : Me} {e : D} {xs : List D} (h : vwL m e = some xs) (l : Me) : vwL (m ++ l) e = some xs := by
  unfold vwL vw at h ⊢
  cases e with
  | loc n =>
    cases q : m[n]? with
    | none => simp [q] at h
    | some o =>
      have : (m ++ l)[n]? = some o := by rw [List.getElem?_append_left (List.getElem?_eq_some_iff.mp q).1, q]
      simp only [q, this] at h ⊢
      exact h
  | _ => exact h
theorem vwX_app {m : Me} {e : D} (h : (vwL m e).isSome = true) (l : Me) : vwX (m ++ l) e = vwX m e := by
  obtain ⟨xs, q⟩ := Option.isSome_iff_exists.mp h
  simp [vwX, q, vwL_app q l]
theorem mem_enumL : ∀ {xs : List D} {i : Nat} {d : D}, d ∈ enumL i xs → ∃ j x, d = .tup [.int j, x] ∧ x ∈ xs
  | [], _, _, h => by simp [enumL] at h
  | x :: xs, i, d, h => by
    rw [enumL] at h
    rcases List.mem_cons.mp h with rfl | h
    · exact ⟨_, x, rfl, by simp⟩
    · obtain ⟨j, y, rfl, hy⟩ := mem_enumL h
      exact ⟨j, y, rfl, by simp [hy]⟩
theorem typ_vwL {P : Prg} {m : Me} {e : D} {xs : List D} (h : vwL m e = some xs) : typ P m e = some (.inl "list") ∨ typ P m e = some (.inl "tuple") := by
  unfold vwL at h
  split at h
  · rename_i q; exact .inl (by simp [typ, q])
  · rename_i q; exact .inr (by simp [typ, q])
  · cases h
theorem flatMap_cg {f g : D → List D} : ∀ {es : List D}, (∀ e ∈ es, f e = g e) → es.flatMap f = es.flatMap g
  | [], _ => rfl
  | e :: es, h => by
    rw [List.flatMap_cons, List.flatMap_cons, h e (by simp), flatMap_cg fun x hx => h x (by simp [hx])]
namespace P54
theorem isSeq {n : Nat} {m : Me} {e : D} {xs : List D} (h : vwL m e = some xs) : isiD (PP n) m e (.tup [.ty "list", .ty "tuple"]) = some true := by
  rcases typ_vwL (P := PP n) h with q | q <;> simp [isiD_2 _ _ q]
theorem okV_isTh {t w l h : Int} {x : D} (hx : isTh t w l h x = true) : okV x = true := by
  obtain ⟨s, a, b, rfl | rfl, _⟩ := isTh_of hx <;> rfl
theorem isTh_seq {t w l h : Int} {x : D} (hx : isTh t w l h x = true) : ∃ xs, x = .lst xs ∨ x = .tup xs := by
  obtain ⟨s, a, b, rfl | rfl, _⟩ := isTh_of hx
  · exact ⟨_, .inl rfl⟩
  · exact ⟨_, .inr rfl⟩
theorem flat_nrm {t w l h : Int} {x : D} (hx : isTh t w l h x = true) : flat (nrm x) = true := by
  obtain ⟨s, a, b, rfl | rfl, _⟩ := isTh_of hx <;> simp [nrm]
abbrev splitD (t w l h : Int) (L : List (List D)) : D := .ins 1 [16, 17] [formD t w l h, .tup (L.map .tup)]
/-- what a split is made of -/
structure Parts (t w l h : Int) (m : Me) (es : List D) : Prop where
  n0 : 1 ≤ es.length
  n1 : es.length ≤ 5
  vw : ∀ e ∈ es, (vwL m e).isSome = true
  th : ∀ e ∈ es, ∀ x ∈ vwX m e, isTh t w l h x = true
  sz : ∀ e ∈ es, (vwX m e).length ≤ 1000
  wr : wrongD t w l h (es.flatMap (vwX m)) = .non
theorem at_1_16 : T54.at_ 1 16 = .no := by rfl
theorem at_1_17 : T54.at_ 1 17 = .no := by rfl
theorem at_1i : T54.at_ 1 nInit = .meth 7 := by rfl
@[simp] theorem mks1 : T54.base.mks 1 = true := rfl
@[simp] theorem fz1 : T54.base.fz 1 = true := rfl
theorem s7 (n : Nat) (t w l h : Int) (m : Me) (ok : Okf t w l h) (hm : Cl m) (es : List D) (p : Parts t w l h m es) :
    (PP (n + 4)).call 7 [.loc m.length, formD t w l h, .tup es] (m ++ [.ins 1 [] []]) = .ok .non (m ++ [.ins 1 [16, 17] [formD t w l h, .tup ((es.map fun e => (vwX m e).map nrm).map .tup)]]) := by
  rw [call7]
  have hM : Cl (m ++ [.ins 1 [] []]) := hm.app1 (by unfold bndO bndL; rfl)
  have hv : ∀ e ∈ es, (vwL (m ++ [.ins 1 [] []]) e).isSome = true := fun e he => by
    obtain ⟨xs, q⟩ := Option.isSome_iff_exists.mp (p.vw e he)
    rw [vwL_app q]; rfl
  have hX : ∀ e ∈ es, vwX (m ++ [.ins 1 [] []]) e = vwX m e := fun e he => vwX_app (p.vw e he) _
  have hfm : es.flatMap (vwX (m ++ [.ins 1 [] []])) = es.flatMap (vwX m) := flatMap_cg hX
  have h6 := s6 n t w l h (m ++ [.ins 1 [] []]) ok hM (.tup es) es rfl hv (fun e he x hx => okV_isTh (p.th e he x (by rw [← hX e he]; exact hx)))
  rw [hfm, p.wr] at h6
  obtain ⟨env1, e1, x3, x4, x5, x6, rfl⟩ := loop_none (v := .fix (enumL 0 es)) (f := bodyF (PP (n + 3)) (.tup [.name 3, .name 4]) [
    .ite (.not (.val (.blt .isinst false [.var 4, .tup [.cst (.ty "list"), .cst (.ty "tuple")]]))) [
      .bad] [],
    .loop (.tup [.name 5, .name 6]) (.enum (.var 4)) [
      .ite (.not (.val (.app (.cst (.fn 5)) [.var 1, .var 6] [] []))) [
        .bad] []]]) (m := m ++ [.ins 1 [] []])
    (fun env => ∃ x3 x4 x5 x6, env = [some (.loc m.length), some (formD t w l h), some (.tup es), x3, x4, x5, x6, none, none, none, none])
    (by exact trivial) (enumL 0 es) [some (.loc m.length), some (formD t w l h), some (.tup es), none, none, none, none, none, none, none, none]
    (fun d hd env i => by
      obtain ⟨x3, x4, x5, x6, rfl⟩ := i
      obtain ⟨j, e, rfl, he⟩ := mem_enumL hd
      obtain ⟨xs, hxs⟩ := Option.isSome_iff_exists.mp (hv e he)
      obtain ⟨u, hu1, hu2, hu3⟩ := walkE_of hxs []
      simp only [List.append_nil] at hu2
      obtain ⟨env2, e2, y5, y6, rfl⟩ := loop_none (v := u) (f := bodyF (PP (n + 3)) (.tup [.name 5, .name 6]) [
          .ite (.not (.val (.app (.cst (.fn 5)) [.var 1, .var 6] [] []))) [
          .bad] []]) (m := m ++ [.ins 1 [] []])
        (fun env => ∃ x5 x6, env = [some (.loc m.length), some (formD t w l h), some (.tup es), some (.int j), some e, x5, x6, none, none, none, none])
        (by have := hu3 []; rwa [List.append_nil] at this) (enumL 0 xs) [some (.loc m.length), some (formD t w l h), some (.tup es), some (.int j), some e, x5, x6, none, none, none, none]
        (fun d hd env i => by
          obtain ⟨x5, x6, rfl⟩ := i
          obtain ⟨k, x, rfl, hx⟩ := mem_enumL hd
          have hth : isTh t w l h x = true := p.th e he x (by rw [← hX e he]; simp [vwX, hxs, hx])
          refine ⟨_, ?_, some (.int k), some x, rfl⟩
          simp [okV_isTh hth, hth])
        ⟨x5, x6, rfl⟩
      refine ⟨_, ?_, some (.int j), some e, y5, y6, rfl⟩
      simp [isSeq hxs, hu2, hu1, e2])
    ⟨none, none, none, none, rfl⟩
  have elc : ∀ (y : List (Option D)), den (PP (n + 3)) (.lc false (.blt .tuple_ false [.lc false (.blt .tuple_ false [.var 6]) (.name 6) (.seq (.var 4)) [] [6]]) (.name 4) (.seq (.var 2)) [] [4])
      [some (.loc m.length), some (formD t w l h), some (.tup es), x3, x4, x5, x6, some .non, none, none, none] (m ++ [.ins 1 [16] [formD t w l h]]) = .ok (.lst ((es.map fun e => (vwX m e).map nrm).map .tup)) (m ++ [.ins 1 [16] [formD t w l h]]) := by
    intro _
    rw [d_lc]
    simp only [dI_seq, d_varS, d_var0, Res.bk_ok, seqI_tup, ofO_some, items_fix]
    rw [lcGo_map (fun e => .tup ((vwX m e).map nrm)) (st_fix _ _)]
    · simp [Function.comp_def]
    · intro e he
      obtain ⟨xs, hxs⟩ := Option.isSome_iff_exists.mp (p.vw e he)
      obtain ⟨u, hu1, hu2, hu3⟩ := walk_of hxs [.ins 1 [16] [formD t w l h]]
      have hxx : vwX m e = xs := by simp [vwX, hxs]
      have : den (PP (n + 3)) (.lc false (.blt .tuple_ false [.var 6]) (.name 6) (.seq (.var 4)) [] [6]) [some (.loc m.length), some (formD t w l h), some (.tup es), x3, some e, x5, x6, some .non, none, none, none] (m ++ [.ins 1 [16] [formD t w l h]]) = .ok (.lst (xs.map nrm)) (m ++ [.ins 1 [16] [formD t w l h]]) := by
        rw [d_lc]
        simp only [dI_seq, d_varS, d_var0, Res.bk_ok, hu2, ofO_some, hu1]
        rw [lcGo_map nrm (hu3 _)]
        · rfl
        · intro x hx
          simp [turnD_eq, wipeE, tuple_nrm _ _ (isTh_seq (p.th e he x (by rw [hxx]; exact hx)))]
        · have := p.sz e he; rw [hxx] at this; rw [sizeLine_v]; omega
      simp [turnD_eq, wipeE, this, hxx]
    · have := p.n1; rw [sizeLine_v]; omega
  have l0 : (1 : Int) ≤ es.length := by have := p.n0; omega
  have l1 : (es.length : Int) ≤ 5 := by have := p.n1; omega
  simp [runF, B54.b7, l0, l1, e1, app_pos (pi6 _), h6, setF_end, at_1_16, at_1_17, putN, putX, elc []]
  exact seal_flat0 (by simp)
end P54
end DL

/-! K54g: splits, asked -/
namespace DL
open PySem PySem.Spec PyProof.Rows L2
theorem ix_vwL {m : Me} {d : D} {xs : List D} {i : Int} (h : vwL m d = some xs) (h0 : 0 ≤ i) (h1 : i < xs.length) : ixD d (.int i) m = .ok (xs[i.toNat]'(by omega)) m := by
  unfold vwL at h
  unfold ixD
  split at h <;> rename_i q <;> (try cases h) <;> simp only [q, vw_int', atI_nat h0 h1, ofO_some]
theorem len_vwL {P : Prg} {m : Me} {d : D} {xs : List D} (h : vwL m d = some xs) : bltD P .len false [d] m = .ok (.int xs.length) m := by
  have e : bltD P .len false [d] m = match vw m d with
    | .lst xs => .ok (.int xs.length) m
    | .tup xs => .ok (.int xs.length) m
    | .str x => .ok (.int x.length) m
    | .ins c _ _ => match P.at_ c nLen with
      | .meth f => (appF P f [d] [] [] m).bindN fun r m' => match r with
        | .int n => if 0 ≤ n ∧ n < 2 ^ 63 then .ok (.int n) m' else .bad
        | _ => .bad
      | _ => .bad
    | _ => .bad := rfl
  unfold vwL at h
  split at h <;> rename_i q <;> (try cases h) <;> simp only [e, q]
/-- data for comparisons -/
def pyT : D → PyData
  | .tup [.str k, .int a, .int b] => .tuple [.str k, .int a, .int b]
  | .lst [.str k, .int a, .int b] => .list [.str k, .int a, .int b]
  | _ => .none
theorem mapM_py {m : Me} {n : Nat} {f : D → PyData} : ∀ {xs : List D}, (∀ x ∈ xs, pyF m n x = some (f x)) → xs.mapM (pyF m n) = some (xs.map f)
  | [], _ => rfl
  | x :: xs, h => by
    rw [List.mapM_cons, h x (by simp), mapM_py (xs := xs) fun y hy => h y (by simp [hy])]
    rfl
theorem py_lst {m : Me} {n : Nat} {f : D → PyData} {d : D} {xs : List D} (hv : vw m d = .lst xs) (h : ∀ x ∈ xs, pyF m n x = some (f x)) : pyF m (n + 1) d = some (.list (xs.map f)) := by
  rw [pyF]; simp only [hv, mapM_py h]; rfl
theorem py_tup {m : Me} {n : Nat} {f : D → PyData} {d : D} {xs : List D} (hv : vw m d = .tup xs) (h : ∀ x ∈ xs, pyF m n x = some (f x)) : pyF m (n + 1) d = some (.tuple (xs.map f)) := by
  rw [pyF]; simp only [hv, mapM_py h]; rfl
theorem canLayAll_map {f : D → PyData} : ∀ {xs : List D}, (∀ x ∈ xs, (f x).canLay0 = true) → PyData.canLayAll0 (xs.map f) = true
  | [], _ => by simp [PyData.canLayAll0]
  | x :: xs, h => by simp [PyData.canLayAll0, h x (by simp), canLayAll_map (xs := xs) fun y hy => h y (by simp [hy])]
theorem depthAll_map {f : D → PyData} {n : Nat} : ∀ {xs : List D}, (∀ x ∈ xs, (f x).depth ≤ n) → PyData.depthAll (xs.map f) ≤ n
  | [], _ => by simp [PyData.depthAll]
  | x :: xs, h => by
    have := h x (by simp)
    have := depthAll_map (n := n) (xs := xs) fun y hy => h y (by simp [hy])
    simp only [List.map_cons, PyData.depthAll]; omega
/-- the first machine that has a key -/
def hasK (k : List Key) (xs : List D) : Bool := xs.any fun z => decide (kTH z = k)
theorem find_enumL (q : D → Bool) : ∀ (xs : List D) (i : Nat), (enumL i xs).find? (fun d => match d with | .tup [_, e] => q e | _ => false) = (xs.findIdx? q).bind fun j => (xs[j]?).map fun x => .tup [.int ((i + j : Nat) : Int), x]
  | [], _ => by simp [enumL]
  | x :: xs, i => by
    rw [enumL, List.find?_cons, List.findIdx?_cons]
    by_cases h : q x = true
    · simp [h]
    · have h' : q x = false := by simpa using h
      simp only [h']
      rw [find_enumL q xs (i + 1)]
      cases xs.findIdx? q with
      | none => simp
      | some j =>
        simp
        have : (i : Int) + 1 + (j : Int) = i + (j + 1) := by omega
        rw [this]
theorem filter_range_head (q : Nat → Bool) (n i : Nat) (hi : i < n) (hq : q i = true) (hm : ∀ j < i, q j = false) : ∃ l, (List.range n).filter q = i :: l := by
  have h : (List.range n).find? q = some i := by
    rw [List.find?_range_eq_some]
    exact ⟨hq, List.mem_range.mpr hi, fun j hj => by simp [hm j hj]⟩
  have : ((List.range n).filter q).head? = some i := by rw [List.head?_filter, h]
  cases e : (List.range n).filter q with
  | nil => rw [e] at this; simp at this
  | cons a l => rw [e] at this; simp at this; exact ⟨l, by rw [this]⟩
namespace P54
theorem new1 (n : Nat) (t w l h : Int) (m : Me) (ok : Okf t w l h) (hm : Cl m) (es : List D) (p : Parts t w l h m es) :
    newC (PP (n + 4)) 1 (formD t w l h :: es) [] [] m = .ok (splitD t w l h (es.map fun e => (vwX m e).map nrm)) m := by
  have hl : es.length + 1 + 1 ≤ 1000 := by have := p.n1; omega
  have ha : appF (PP (n + 4)) 7 (.loc m.length :: formD t w l h :: es) [] [] (m ++ [.ins 1 [] []]) = (PP (n + 4)).call 7 [.loc m.length, formD t w l h, .tup es] (m ++ [.ins 1 [] []]) := by
    unfold appF bindA
    rw [pi7]
    simp [bindPos, hl]
  unfold newC
  simp [at_1i, ha, s7 n t w l h m ok hm es p, -List.map_map]
  refine seal_flat (l := [.gone]) rfl hm ?_
  simp [-List.map_map]
  refine flatL_iff.mpr fun x hx => ?_
  rw [List.map_map] at hx
  obtain ⟨e, he, rfl⟩ := List.mem_map.mp hx
  simp
  refine flatL_iff.mpr fun x hx => ?_
  obtain ⟨y, hy, rfl⟩ := List.mem_map.mp hx
  exact flat_nrm (p.th e he y hy)
/-- the law's split -/
theorem s18 (n : Nat) (t w l h : Int) (m : Me) (ok : Okf t w l h) (hm : Cl m) (lots : D) (es : List D) (hv : vwL m lots = some es) (p : Parts t w l h m es) :
    (PP (n + 5)).call 18 [formD t w l h, lots] m = .ok (splitD t w l h (es.map fun e => (vwX m e).map nrm)) m := by
  have hn := new1 n t w l h m ok hm es p
  have n0 := p.n0
  have n1 := p.n1
  have hlen : ∀ P : Prg, bltD P .len false [lots] m = .ok (.int es.length) m := fun P => len_vwL hv
  have hix : ∀ (i : Int) (h0 : 0 ≤ i) (h1 : i < es.length), ixD lots (.int i) m = .ok (es[i.toNat]'(by omega)) m := fun i h0 h1 => ix_vwL hv h0 h1
  rw [call18]
  rcases es with _ | ⟨a, _ | ⟨b, _ | ⟨c, _ | ⟨d, _ | ⟨e, _ | ⟨f, es⟩⟩⟩⟩⟩⟩
  · simp at n0
  · have i0 := hix 0 (by simp) (by simp)
    simp at i0
    simp [runF, B54.b18, hlen, i0, hn]
  · have i0 := hix 0 (by simp) (by simp)
    have i1 := hix 1 (by simp) (by simp)
    simp at i0 i1
    simp [runF, B54.b18, hlen, i0, i1, hn]
  · have i0 := hix 0 (by simp) (by simp)
    have i1 := hix 1 (by simp) (by simp)
    have i2 := hix 2 (by simp) (by simp)
    simp at i0 i1 i2
    simp [runF, B54.b18, hlen, i0, i1, i2, hn]
  · have i0 := hix 0 (by simp) (by simp)
    have i1 := hix 1 (by simp) (by simp)
    have i2 := hix 2 (by simp) (by simp)
    have i3 := hix 3 (by simp) (by simp)
    simp at i0 i1 i2 i3
    simp [runF, B54.b18, hlen, i0, i1, i2, i3, hn]
  · have i0 := hix 0 (by simp) (by simp)
    have i1 := hix 1 (by simp) (by simp)
    have i2 := hix 2 (by simp) (by simp)
    have i3 := hix 3 (by simp) (by simp)
    have i4 := hix 4 (by simp) (by simp)
    simp at i0 i1 i2 i3 i4
    simp [runF, B54.b18, hlen, i0, i1, i2, i3, i4, hn]
  · simp at n1
/-! comparisons of things -/
theorem py_item {t w l h : Int} {x : D} (hx : isTh t w l h x = true) (m : Me) (n : Nat) : pyF m (n + 2) x = some (pyT x) := by
  obtain ⟨s, a, b, rfl | rfl, _⟩ := isTh_of hx <;> rfl
theorem shaped_item {t w l h : Int} {x : D} (hx : isTh t w l h x = true) : (pyT x).canLay0 = true ∧ (pyT x).depth ≤ 1 := by
  obtain ⟨s, a, b, rfl | rfl, q⟩ := isTh_of hx <;> rcases q with ⟨rfl, _⟩ | ⟨rfl, _⟩ | ⟨rfl, _⟩ <;>
    exact ⟨by simp [pyT, PyData.canLay0, PyData.canLayAll0]; decide +kernel, by simp [pyT, PyData.depth, PyData.depthAll]⟩
theorem eqv_TH {t w l h : Int} {x y : D} (hx : x ∈ TH t w l h) (hy : y ∈ TH t w l h) : PyData.eqv (pyT x) (pyT y) = decide (kTH x = kTH y) := by
  obtain ⟨s, a, b, rfl, _⟩ := TH_of hx
  obtain ⟨s', a', b', rfl, _⟩ := TH_of hy
  simp only [pyT, PyData.eqv, PyData.eqvAll, kTH, nrm, keyD, keyL, Option.map_some, Option.getD_some, Bool.and_true]
  rw [Bool.eq_iff_iff]
  simp
theorem nrm_TH {t w l h : Int} {x : D} (hx : x ∈ TH t w l h) : nrm x = x := by
  obtain ⟨s, a, b, rfl, _⟩ := TH_of hx; rfl
/-- thing in machine -/
theorem in_lot {t w l h : Int} {x : D} {xs : List D} (m : Me) (hx : x ∈ TH t w l h) (hxs : ∀ y ∈ xs, y ∈ TH t w l h) (P : Prg) (e : D) (he : e = .lst xs ∨ e = .tup xs) :
    cmpP P .In x e m = .ok (.bl (hasK (kTH x) xs)) m := by
  have p1 : py m x = some (pyT x) := py_item (isTh_TH hx) m 58
  have p2 : xs.mapM (pyF m 59) = some (xs.map pyT) := mapM_py fun y hy => py_item (isTh_TH (hxs y hy)) m 57
  have s1 : SeqAt.shaped (pyT x) = true := by
    have := shaped_item (isTh_TH hx)
    simp [SeqAt.shaped, this.1]; omega
  have s2 : SeqAt.shaped (.list (xs.map pyT)) = true := by
    have c := canLayAll_map (f := pyT) (xs := xs) fun y hy => (shaped_item (isTh_TH (hxs y hy))).1
    have d := depthAll_map (f := pyT) (n := 1) (xs := xs) fun y hy => (shaped_item (isTh_TH (hxs y hy))).2
    simp [SeqAt.shaped, PyData.canLay0, PyData.depth, c]; omega
  have any : ((xs.map pyT).any fun z => PyData.eqv z (pyT x)) = hasK (kTH x) xs := by
    unfold hasK
    rw [List.any_map]
    have : ∀ ys : List D, (∀ y ∈ ys, y ∈ TH t w l h) → ys.any ((fun z => PyData.eqv z (pyT x)) ∘ pyT) = ys.any fun z => decide (kTH z = kTH x) := by
      intro ys
      induction ys with
      | nil => intro _; rfl
      | cons y ys ih =>
        intro hy
        rw [List.any_cons, List.any_cons, ih fun z hz => hy z (by simp [hz])]
        congr 1
        exact eqv_TH (hy y (by simp)) hx
    exact this xs hxs
  obtain ⟨s, a, b, rfl, _⟩ := TH_of hx
  rcases he with rfl | rfl
  · have p3 : py m (.lst xs) = some (.list (xs.map pyT)) := py_lst rfl fun y hy => py_item (isTh_TH (hxs y hy)) m 57
    show ofB m (inB m _ _) = _
    unfold inB
    simp only [vw_lst', p1, p3, s1, s2, Bool.and_self, if_true, any, ofB_some]
  · have p3 : py m (.tup xs) = some (.tuple (xs.map pyT)) := py_tup rfl fun y hy => py_item (isTh_TH (hxs y hy)) m 57
    show ofB m (inB m _ _) = _
    unfold inB
    simp only [vw_tup', p1, p3, s1, s2, Bool.and_self, if_true, any, ofB_some]
/-- lots of things -/
structure Lots (t w l h : Int) (L : List (List D)) : Prop where
  n0 : 1 ≤ L.length
  n1 : L.length ≤ 5
  th : ∀ xs ∈ L, ∀ x ∈ xs, x ∈ TH t w l h
  sz : ∀ xs ∈ L, xs.length ≤ 1000
def whr (L : List (List D)) (k : List Key) : D := match L.findIdx? (hasK k) with
  | some i => .int i
  | none => .non
@[simp] theorem fld16 (n : Nat) (t w l h : Int) (L : List (List D)) (m : Me) : fldD (PP n) (splitD t w l h L) 16 m = .ok (formD t w l h) m := by cases n <;> rfl
@[simp] theorem fld17 (n : Nat) (t w l h : Int) (L : List (List D)) (m : Me) : fldD (PP n) (splitD t w l h L) 17 m = .ok (.tup (L.map .tup)) m := by cases n <;> rfl
def asL : D → List D
  | .tup xs => xs
  | .lst xs => xs
  | _ => []
theorem s8 (n : Nat) (t w l h : Int) (m : Me) (L : List (List D)) (ok : Lots t w l h L) (v : D) (hv : okV v = true) :
    (PP (n + 3)).call 8 [splitD t w l h L, v] m = .ok (if isTh t w l h v = true then whr L (kTH v) else .non) m := by
  rw [call8]
  by_cases c : isTh t w l h v = true
  · have hs := isTh_seq c
    have hm := isTh_mem c
    have hk : kTH (nrm v) = kTH v := by obtain ⟨xs, rfl | rfl⟩ := hs <;> rfl
    have lp := loop_find (v := .fix (enumL 0 (L.map .tup))) (f := bodyF (PP (n + 2)) (.tup [.name 2, .name 3]) [
      .ite (.val (.cmp .In (.blt .tuple_ false [.var 1]) (.var 3))) [
      .ret (some (.var 2)) false] []]) (m := m)
      (fun env => ∃ x2 x3, env = [some (splitD t w l h L), some v, x2, x3])
      (fun d => match d with | .tup [_, e] => hasK (kTH v) (asL e) | _ => false) (fun d => match d with | .tup [a, _] => a | d => d)
      (by exact trivial) (enumL 0 (L.map .tup)) [some (splitD t w l h L), some v, none, none]
      (fun d hd env i => by
        obtain ⟨x2, x3, rfl⟩ := i
        obtain ⟨j, e, rfl, he⟩ := mem_enumL hd
        obtain ⟨xs, hxs, rfl⟩ := List.mem_map.mp he
        have hin := in_lot (t := t) (w := w) (l := l) (h := h) m hm (ok.th xs hxs) (PP (n + 2)) (.tup xs) (.inr rfl)
        rw [hk] at hin
        by_cases b : hasK (kTH v) xs = true
        · rw [if_pos (by simpa [asL] using b)]
          refine ⟨[some (splitD t w l h L), some v, some (.int j), some (.tup xs)], ?_⟩
          simp [tuple_nrm _ _ hs, hin, b]
        · have b' : hasK (kTH v) xs = false := by simpa using b
          rw [if_neg (by simpa [asL] using b')]
          refine ⟨_, ?_, some (.int j), some (.tup xs), rfl⟩
          simp [tuple_nrm _ _ hs, hin, b'])
      ⟨none, none, rfl⟩
    rw [find_enumL (fun e => hasK (kTH v) (asL e))] at lp
    have e1 : (L.map D.tup).findIdx? (fun e => hasK (kTH v) (asL e)) = L.findIdx? (hasK (kTH v)) := by
      rw [List.findIdx?_map]; rfl
    rw [e1] at lp
    unfold whr
    cases q : L.findIdx? (hasK (kTH v)) with
    | none =>
      rw [q] at lp
      obtain ⟨env', lp, _, _, rfl⟩ := lp
      simp [runF, B54.b8, hv, c, lp]
    | some j =>
      have hj : j < L.length := by
        obtain ⟨hj, _⟩ := List.findIdx?_eq_some_iff_getElem.mp q
        exact hj
      rw [q] at lp
      simp only [Option.bind_some, List.getElem?_map, List.getElem?_eq_getElem hj, Option.map_some, Nat.zero_add] at lp
      obtain ⟨env', lp⟩ := lp
      simp [runF, B54.b8, hv, c, lp]
  · have c' : isTh t w l h v = false := by simpa using c
    simp [runF, B54.b8, hv, c']
end P54
end DL

/-! K54h: texts of data, comparisons -/
namespace DL
open PySem PySem.Spec PyProof.Rows L2
theorem textFrom_le : ∀ (ts : List Str) (k : Nat) (acc : Str), (textFrom k acc ts).length ≤ acc.length + piled ts
  | [], k, acc => by simp [textFrom]
  | t :: ts, k, acc => by
    have h := textFrom_le ts (k + 1) (acc ++ (if k > 0 then ", " else "" : String) ++ t)
    have e : (acc ++ (if k > 0 then ", " else "" : String) ++ t).length ≤ acc.length + 2 + t.length := by
      rw [strLen_append, strLen_append]
      have : ((if k > 0 then ", " else "" : String) : Str).length ≤ 2 := by split <;> decide
      omega
    rw [piled_cons]
    show (textFrom (k + 1) _ ts).length ≤ _
    omega
theorem listText_le (ts : List Str) : (listText ts).length ≤ 2 + piled ts := by
  unfold listText
  rw [strLen_append]
  have := textFrom_le ts 0 "["
  have e1 : (("[" : String) : Str).length = 1 := by decide
  have e2 : (("]" : String) : Str).length = 1 := by decide
  omega
theorem tupleText_le (ts : List Str) : (tupleText ts).length ≤ 3 + piled ts := by
  unfold tupleText
  rw [strLen_append, strLen_append]
  have e1 : (("(" : String) : Str).length = 1 := by decide
  have e2 : ((if ts.length == 1 then ",)" else ")" : String) : Str).length ≤ 2 := by split <;> decide
  have : (Str.join ", " ts).length ≤ piled ts := by
    by_cases h : ts = []
    · subst h; decide
    · have := join_length_add ts h; omega
  omega
theorem piled_shown {f : D → PyData} {B : Nat} : ∀ {xs : List D}, (∀ x ∈ xs, (f x).shown.length ≤ B) → piled (PyData.shownAll (xs.map f)) ≤ (B + 2) * xs.length
  | [], _ => by simp [PyData.shownAll, piled]
  | x :: xs, h => by
    have h1 := h x (by simp)
    have h2 := piled_shown (xs := xs) fun y hy => h y (by simp [hy])
    rw [List.map_cons, PyData.shownAll, piled_cons, List.length_cons, Nat.mul_add]
    omega
theorem showableAll_map {f : D → PyData} : ∀ {xs : List D}, (∀ x ∈ xs, (f x).showable = true) → PyData.showableAll (xs.map f) = true
  | [], _ => by simp [PyData.showableAll]
  | x :: xs, h => by simp [PyData.showableAll, h x (by simp), showableAll_map (xs := xs) fun y hy => h y (by simp [hy])]
theorem shown_list {f : D → PyData} {B : Nat} {xs : List D} (h : ∀ x ∈ xs, (f x).shown.length ≤ B) : (PyData.list (xs.map f)).shown.length ≤ 3 + (B + 2) * xs.length := by
  rw [PyData.shown]
  have := listText_le (PyData.shownAll (xs.map f))
  have := piled_shown h
  omega
theorem shown_tuple {f : D → PyData} {B : Nat} {xs : List D} (h : ∀ x ∈ xs, (f x).shown.length ≤ B) : (PyData.tuple (xs.map f)).shown.length ≤ 3 + (B + 2) * xs.length := by
  rw [PyData.shown]
  have := tupleText_le (PyData.shownAll (xs.map f))
  have := piled_shown h
  omega
/-- repr of data -/
theorem repr_py {P : Prg} {m : Me} {d : D} {p : PyData} (h : py m d = some p) (s : showOk p = true) : bltD P .repr_ false [d] m = .ok (.str p.shown) m := by
  have e : bltD P .repr_ false [d] m = match vw m d with
    | .ins c _ _ => match P.at_ c nRepr with
      | .meth f => (appF P f [d] [] [] m).bindN fun r m' => match r with
        | .str x => .ok (.str x) m'
        | _ => .bad
      | _ => .bad
    | _ => match py m d with
      | some p => if showOk p then .ok (.str p.shown) m else .bad
      | none => .bad := rfl
  rw [e]
  have h' := h
  unfold py pyF at h'
  split
  · rename_i q; rw [q] at h'; cases h'
  · rw [h]; simp [s]
/-- == of data -/
theorem eqB_py {m : Me} {d e : D} {p q : PyData} (hp : py m d = some p) (hq : py m e = some q) (sp : SeqAt.shaped p = true) (sq : SeqAt.shaped q = true)
    (hd : ∀ i, vw m d ≠ .int i) (hs : ∀ i, vw m d ≠ .str i) (hb : ∀ i, vw m d ≠ .bl i) : eqB m d e = some (PyData.eqv p q) := by
  unfold eqB
  split
  · rename_i i j h _; exact (hd _ h).elim
  · rename_i i j h _; exact (hs _ h).elim
  · rename_i i j h _; exact (hb _ h).elim
  · simp [hp, hq, sp, sq]
namespace P54
def pyV (m : Me) (e : D) : PyData := match vw m e with
  | .lst xs => .list (xs.map pyT)
  | .tup xs => .tuple (xs.map pyT)
  | _ => .none
def pyW (m : Me) (e : D) : PyData := match vw m e with
  | .lst xs => .list (xs.map (pyV m))
  | .tup xs => .tuple (xs.map (pyV m))
  | _ => .none
theorem item_shown {t w l h : Int} (ok : Okf t w l h) {x : D} (hx : isTh t w l h x = true) : (pyT x).shown.length ≤ 30 ∧ (pyT x).showable = true := by
  obtain ⟨t0, t1, w0, w1, l0, l1, h0, h1⟩ := ok
  obtain ⟨s, a, b, e, q⟩ := isTh_of hx
  have ha : a = 0 ∨ a = 1 ∨ a = 2 := by omega
  have hb : b = 0 ∨ b = 1 ∨ b = 2 ∨ b = 3 ∨ b = 4 ∨ b = 5 := by omega
  have hs : s = "out" ∨ s = "head" ∨ s = "unit" := by
    rcases q with ⟨q, _⟩ | ⟨q, _⟩ | ⟨q, _⟩
    · exact .inl q
    · exact .inr (.inl q)
    · exact .inr (.inr q)
  clear q hx
  have all : ∀ s ∈ (["out", "head", "unit"] : List Str), ∀ a ∈ ([0, 1, 2] : List Int), ∀ b ∈ ([0, 1, 2, 3, 4, 5] : List Int),
      ((PyData.list [.str s, .int a, .int b]).shown.length ≤ 30 ∧ (PyData.list [.str s, .int a, .int b]).showable = true) ∧ ((PyData.tuple [.str s, .int a, .int b]).shown.length ≤ 30 ∧ (PyData.tuple [.str s, .int a, .int b]).showable = true) := by decide +kernel
  have := all s (by simpa using hs) a (by simpa using ha) b (by simpa using hb)
  rcases e with rfl | rfl
  · exact this.1
  · exact this.2
section
variable {t w l h : Int} {m : Me} {e : D} {xs : List D}
theorem py_e (hv : vwL m e = some xs) (hx : ∀ x ∈ xs, isTh t w l h x = true) (n : Nat) : pyF m (n + 3) e = some (pyV m e) := by
  unfold vwL at hv
  unfold pyV
  split at hv <;> rename_i q <;> (try cases hv)
  · try simp only [q]
    exact py_lst q fun x hx' => py_item (hx x hx') m n
  · try simp only [q]
    exact py_tup q fun x hx' => py_item (hx x hx') m n
theorem py_es (hv : vwL m e = some xs) (h2 : ∀ y ∈ xs, (vwL m y).isSome = true) (h3 : ∀ y ∈ xs, ∀ x ∈ vwX m y, isTh t w l h x = true) : py m e = some (pyW m e) := by
  have key : ∀ y ∈ xs, pyF m (56 + 3) y = some (pyV m y) := fun y hy => by
    obtain ⟨ys, q⟩ := Option.isSome_iff_exists.mp (h2 y hy)
    exact py_e q (fun x hx => h3 y hy x (by simp [vwX, q, hx])) 56
  unfold vwL at hv
  unfold pyW
  split at hv <;> rename_i q <;> (try cases hv)
  · try simp only [q]
    exact py_lst q key
  · try simp only [q]
    exact py_tup q key
theorem pyV_ok (ok : Okf t w l h) (hv : vwL m e = some xs) (hx : ∀ x ∈ xs, isTh t w l h x = true) (hl : xs.length ≤ 1000) : ((pyV m e).canLay0 = true ∧ (pyV m e).depth ≤ 2) ∧ ((pyV m e).shown.length ≤ 40000 ∧ (pyV m e).showable = true) := by
  have c := canLayAll_map (f := pyT) (xs := xs) fun y hy => (shaped_item (hx y hy)).1
  have d := depthAll_map (f := pyT) (n := 1) (xs := xs) fun y hy => (shaped_item (hx y hy)).2
  have s := showableAll_map (f := pyT) (xs := xs) fun y hy => (item_shown ok (hx y hy)).2
  have l1 := shown_list (f := pyT) (B := 30) (xs := xs) fun y hy => (item_shown ok (hx y hy)).1
  have l2 := shown_tuple (f := pyT) (B := 30) (xs := xs) fun y hy => (item_shown ok (hx y hy)).1
  unfold vwL at hv
  unfold pyV
  split at hv <;> rename_i q <;> (try cases hv)
  · try simp only [q]
    refine ⟨⟨by simp [PyData.canLay0, c], by simp [PyData.depth]; omega⟩, by omega, by simp [PyData.showable, s]⟩
  · try simp only [q]
    refine ⟨⟨by simp [PyData.canLay0, c], by simp [PyData.depth]; omega⟩, by omega, by simp [PyData.showable, s]⟩
theorem pyW_ok (ok : Okf t w l h) (hv : vwL m e = some xs) (h2 : ∀ y ∈ xs, (vwL m y).isSome = true) (h3 : ∀ y ∈ xs, ∀ x ∈ vwX m y, isTh t w l h x = true) (h4 : ∀ y ∈ xs, (vwX m y).length ≤ 1000) (hl : xs.length ≤ 10) :
    SeqAt.shaped (pyW m e) = true ∧ showOk (pyW m e) = true := by
  have key : ∀ y ∈ xs, ((pyV m y).canLay0 = true ∧ (pyV m y).depth ≤ 2) ∧ ((pyV m y).shown.length ≤ 40000 ∧ (pyV m y).showable = true) := fun y hy => by
    obtain ⟨ys, q⟩ := Option.isSome_iff_exists.mp (h2 y hy)
    have e : vwX m y = ys := by simp [vwX, q]
    exact pyV_ok ok q (fun x hx => h3 y hy x (by rw [e]; exact hx)) (by rw [← e]; exact h4 y hy)
  have c := canLayAll_map (f := pyV m) (xs := xs) fun y hy => (key y hy).1.1
  have d := depthAll_map (f := pyV m) (n := 2) (xs := xs) fun y hy => (key y hy).1.2
  have s := showableAll_map (f := pyV m) (xs := xs) fun y hy => (key y hy).2.2
  have l1 := shown_list (f := pyV m) (B := 40000) (xs := xs) fun y hy => (key y hy).2.1
  have l2 := shown_tuple (f := pyV m) (B := 40000) (xs := xs) fun y hy => (key y hy).2.1
  unfold vwL at hv
  unfold pyW
  split at hv <;> rename_i q <;> (try cases hv)
  · try simp only [q]
    refine ⟨by simp [SeqAt.shaped, PyData.canLay0, PyData.depth, c]; omega, ?_⟩
    unfold showOk
    rw [Bool.and_eq_true, Bool.and_eq_true]
    exact ⟨⟨by simp [PyData.showable, s], decide_eq_true (by simp [PyData.depth]; omega)⟩, decide_eq_true (by rw [sizeLine_v]; omega)⟩
  · try simp only [q]
    refine ⟨by simp [SeqAt.shaped, PyData.canLay0, PyData.depth, c]; omega, ?_⟩
    unfold showOk
    rw [Bool.and_eq_true, Bool.and_eq_true]
    exact ⟨⟨by simp [PyData.showable, s], decide_eq_true (by simp [PyData.depth]; omega)⟩, decide_eq_true (by rw [sizeLine_v]; omega)⟩
end
/-- the law's like, of the same data -/
theorem s15 (n : Nat) (a b : D) (m : Me) (p : PyData) (ha : py m a = some p) (hb : py m b = some p) (s : showOk p = true) : (PP (n + 1)).call 15 [a, b] m = .ok (.bl true) m := by
  rw [call15]
  simp [runF, B54.b15, repr_py ha s, repr_py hb s]
/-! == of shapes and splits -/
theorem at_0e : T54.at_ 0 nEq = .meth 3 := by rfl
theorem at_1e : T54.at_ 1 nEq = .meth 9 := by rfl
theorem at_1ne : T54.at_ 1 nNe = .obj := by rfl
theorem eq_form (n : Nat) (t w l h t' w' l' h' : Int) (m : Me) : cmpP (PP (n + 1)) .Eq (formD t w l h) (formD t' w' l' h') m = .ok (.bl (decide (t = t' ∧ w = w' ∧ l = l' ∧ h = h'))) m := by
  have nf : T54.base.nf 0 (.inr 0) = true := rfl
  have c3 : (PP (n + 1)).call 3 [formD t w l h, formD t' w' l' h'] m = .ok (.bl (decide (t = t' ∧ w = w' ∧ l = l' ∧ h = h'))) m := by
    rw [call3]
    have hi : isiD (PP n) m (formD t' w' l' h') (.cls 0) = some true := by
      rw [isiD_cls (t := .inr 0) _ _ (by simp)]; simp
    by_cases c1 : t = t' <;> by_cases c2 : w = w' <;> by_cases c3 : l = l' <;> by_cases c4 : h = h' <;> simp [runF, B54.b3, hi, c1, c2, c3, c4]
  show (match (PP (n + 1)).at_ 0 nEq, (typ (PP (n + 1)) m (formD t' w' l' h')).map ((PP (n + 1)).nf 0) with
    | .meth f, some true => (appF (PP (n + 1)) f [formD t w l h, formD t' w' l' h'] [] [] m).bindN fun (r : D) m' => match r with
      | .bl b => Res.ok (D.bl b) m'
      | _ => .bad
    | _, _ => .bad) = _
  simp [at_0e, nf, app_pos (pi3 _), c3]
def eqLL (L L' : List (List D)) : Bool := PyData.eqvAll (L.map fun xs => .list (xs.map pyT)) (L'.map fun xs => .list (xs.map pyT))
theorem eqLL_tup : ∀ (L L' : List (List D)), PyData.eqvAll (L.map fun xs => .tuple (xs.map pyT)) (L'.map fun xs => .tuple (xs.map pyT)) = eqLL L L'
  | [], [] => rfl
  | [], _ :: _ => rfl
  | _ :: _, [] => rfl
  | x :: L, y :: L' => by
    have := eqLL_tup L L'
    simp only [eqLL, List.map_cons, PyData.eqvAll, PyData.eqv, this]
theorem eqvAll_refl {t w l h : Int} : ∀ {xs : List D}, (∀ x ∈ xs, x ∈ TH t w l h) → PyData.eqvAll (xs.map pyT) (xs.map pyT) = true
  | [], _ => by simp [PyData.eqvAll]
  | x :: xs, hx => by
    simp only [List.map_cons, PyData.eqvAll, eqv_TH (hx x (by simp)) (hx x (by simp)), decide_true, Bool.true_and]
    exact eqvAll_refl fun y hy => hx y (by simp [hy])
theorem eqLL_refl {t w l h : Int} : ∀ {L : List (List D)}, (∀ xs ∈ L, ∀ x ∈ xs, x ∈ TH t w l h) → eqLL L L = true
  | [], _ => by simp [eqLL, PyData.eqvAll]
  | xs :: L, hL => by
    have := eqLL_refl (L := L) fun y hy => hL y (by simp [hy])
    simp only [eqLL, List.map_cons, PyData.eqvAll, PyData.eqv] at this ⊢
    rw [this, eqvAll_refl (hL xs (by simp))]; rfl
section
variable {t w l h : Int}
theorem lots_vw (m : Me) (L : List (List D)) (f : List D → D) (hf : f = .lst ∨ f = .tup) : (∀ y ∈ L.map f, (vwL m y).isSome = true) ∧ (∀ xs ∈ L, vwX m (f xs) = xs) ∧ (L.map f).flatMap (vwX m) = L.flatten := by
  have h1 : ∀ xs, vwX m (f xs) = xs := fun xs => by rcases hf with rfl | rfl <;> rfl
  refine ⟨fun y hy => ?_, fun xs _ => h1 xs, ?_⟩
  · obtain ⟨xs, _, rfl⟩ := List.mem_map.mp hy
    rcases hf with rfl | rfl <;> rfl
  · rw [List.flatMap_map]
    induction L with
    | nil => rfl
    | cons x L ih => rw [List.flatMap_cons, List.flatten_cons, h1, ih]
theorem pyW_ll (m : Me) (L : List (List D)) : pyW m (.lst (L.map .lst)) = .list (L.map fun xs => .list (xs.map pyT)) := by
  simp [pyW, Function.comp_def, pyV]
theorem pyW_tt (m : Me) (L : List (List D)) : pyW m (.tup (L.map .tup)) = .tuple (L.map fun xs => .tuple (xs.map pyT)) := by
  simp [pyW, Function.comp_def, pyV]
theorem Lots.ll {L : List (List D)} (k : Lots t w l h L) (ok : Okf t w l h) (m : Me) : py m (.lst (L.map .lst)) = some (.list (L.map fun xs => .list (xs.map pyT))) ∧ SeqAt.shaped (.list (L.map fun xs => .list (xs.map pyT))) = true ∧ showOk (.list (L.map fun xs => .list (xs.map pyT))) = true := by
  obtain ⟨h1, h2, h3⟩ := lots_vw m L .lst (.inl rfl)
  have h4 : ∀ y ∈ L.map D.lst, ∀ x ∈ vwX m y, isTh t w l h x = true := fun y hy x hx => by
    obtain ⟨xs, hxs, rfl⟩ := List.mem_map.mp hy
    exact isTh_TH (k.th xs hxs x (by rw [← h2 xs hxs]; exact hx))
  have h5 : ∀ y ∈ L.map D.lst, (vwX m y).length ≤ 1000 := fun y hy => by
    obtain ⟨xs, hxs, rfl⟩ := List.mem_map.mp hy
    rw [h2 xs hxs]; exact k.sz xs hxs
  have e := pyW_ll m L
  rw [← e]
  exact ⟨py_es (e := .lst (L.map .lst)) rfl h1 h4, pyW_ok ok (e := .lst (L.map .lst)) rfl h1 h4 h5 (by have := k.n1; simp; omega)⟩
theorem Lots.tt {L : List (List D)} (k : Lots t w l h L) (ok : Okf t w l h) (m : Me) : py m (.tup (L.map .tup)) = some (.tuple (L.map fun xs => .tuple (xs.map pyT))) ∧ SeqAt.shaped (.tuple (L.map fun xs => .tuple (xs.map pyT))) = true ∧ showOk (.tuple (L.map fun xs => .tuple (xs.map pyT))) = true := by
  obtain ⟨h1, h2, h3⟩ := lots_vw m L .tup (.inr rfl)
  have h4 : ∀ y ∈ L.map D.tup, ∀ x ∈ vwX m y, isTh t w l h x = true := fun y hy x hx => by
    obtain ⟨xs, hxs, rfl⟩ := List.mem_map.mp hy
    exact isTh_TH (k.th xs hxs x (by rw [← h2 xs hxs]; exact hx))
  have h5 : ∀ y ∈ L.map D.tup, (vwX m y).length ≤ 1000 := fun y hy => by
    obtain ⟨xs, hxs, rfl⟩ := List.mem_map.mp hy
    rw [h2 xs hxs]; exact k.sz xs hxs
  have e := pyW_tt m L
  rw [← e]
  exact ⟨py_es (e := .tup (L.map .tup)) rfl h1 h4, pyW_ok ok (e := .tup (L.map .tup)) rfl h1 h4 h5 (by have := k.n1; simp; omega)⟩
end
theorem eqB_lots {t w l h t' w' l' h' : Int} {L L' : List (List D)} (k : Lots t w l h L) (ok : Okf t w l h) (k' : Lots t' w' l' h' L') (ok' : Okf t' w' l' h') (m : Me) : eqB m (.lst (L.map .lst)) (.lst (L'.map .lst)) = some (eqLL L L') := by
  obtain ⟨a1, a2, a3⟩ := k.ll ok m
  obtain ⟨b1, b2, b3⟩ := k'.ll ok' m
  rw [eqB_py a1 b1 a2 b2 (fun _ z => by cases z) (fun _ z => by cases z) (fun _ z => by cases z), PyData.eqv]; rfl
theorem eqB_tups {t w l h t' w' l' h' : Int} {L L' : List (List D)} (k : Lots t w l h L) (ok : Okf t w l h) (k' : Lots t' w' l' h' L') (ok' : Okf t' w' l' h') (m : Me) : eqB m (.tup (L.map .tup)) (.tup (L'.map .tup)) = some (eqLL L L') := by
  obtain ⟨a1, a2, a3⟩ := k.tt ok m
  obtain ⟨b1, b2, b3⟩ := k'.tt ok' m
  rw [eqB_py a1 b1 a2 b2 (fun _ z => by cases z) (fun _ z => by cases z) (fun _ z => by cases z), PyData.eqv, eqLL_tup]
theorem eq_lots {t w l h : Int} {L L' : List (List D)} (k : Lots t w l h L) (ok : Okf t w l h) (k' : Lots t w l h L') (P : Prg) (m : Me) :
    cmpP P .Eq (.lst (L.map .lst)) (.lst (L'.map .lst)) m = .ok (.bl (eqLL L L')) m ∧ cmpP P .NotEq (.lst (L.map .lst)) (.lst (L'.map .lst)) m = .ok (.bl (!eqLL L L')) m := by
  have e := eqB_lots k ok k' ok m
  constructor
  · show ofB m (eqB m _ _) = _
    rw [e]; rfl
  · show ofB m ((eqB m _ _).map (!·)) = _
    rw [e]; rfl
/-- the same split, or another one -/
theorem c9 (n : Nat) {t w l h t' w' l' h' : Int} {L L' : List (List D)} (k : Lots t w l h L) (ok : Okf t w l h) (k' : Lots t' w' l' h' L') (ok' : Okf t' w' l' h') (m : Me) :
    (PP (n + 2)).call 9 [splitD t w l h L, splitD t' w' l' h' L'] m = .ok (.bl (decide (t = t' ∧ w = w' ∧ l = l' ∧ h = h') && eqLL L L')) m := by
  rw [call9]
  have hi : isiD (PP (n + 1)) m (splitD t' w' l' h' L') (.cls 1) = some true := by
    rw [isiD_cls (t := .inr 1) _ _ (by simp)]; simp
  have e : cmpP (PP (n + 1)) .Eq (.tup (L.map .tup)) (.tup (L'.map .tup)) m = .ok (.bl (eqLL L L')) m := by
    show ofB m (eqB m _ _) = _
    rw [eqB_tups k ok k' ok' m]; rfl
  have f := eq_form n t w l h t' w' l' h' m
  by_cases c : t = t' ∧ w = w' ∧ l = l' ∧ h = h'
  · simp only [c, and_self, decide_true] at f
    simp [runF, B54.b9, hi, e, f, c]
  · simp only [c, decide_false] at f
    simp [runF, B54.b9, hi, e, f, c]
theorem eq_split (n : Nat) {t w l h t' w' l' h' : Int} {L L' : List (List D)} (k : Lots t w l h L) (ok : Okf t w l h) (k' : Lots t' w' l' h' L') (ok' : Okf t' w' l' h') (m : Me) :
    cmpP (PP (n + 2)) .Eq (splitD t w l h L) (splitD t' w' l' h' L') m = .ok (.bl (decide (t = t' ∧ w = w' ∧ l = l' ∧ h = h') && eqLL L L')) m := by
  have nf : T54.base.nf 1 (.inr 1) = true := rfl
  show (match (PP (n + 2)).at_ 1 nEq, (typ (PP (n + 2)) m (splitD t' w' l' h' L')).map ((PP (n + 2)).nf 1) with
    | .meth f, some true => (appF (PP (n + 2)) f [splitD t w l h L, splitD t' w' l' h' L'] [] [] m).bindN fun (r : D) m' => match r with
      | .bl b => Res.ok (D.bl b) m'
      | _ => .bad
    | _, _ => .bad) = _
  simp [at_1e, nf, app_pos (pi9 _), c9 n k ok k' ok' m, -List.map_map]
theorem ne_split (n : Nat) {t w l h t' w' l' h' : Int} {L L' : List (List D)} (k : Lots t w l h L) (ok : Okf t w l h) (k' : Lots t' w' l' h' L') (ok' : Okf t' w' l' h') (m : Me) :
    cmpP (PP (n + 2)) .NotEq (splitD t w l h L) (splitD t' w' l' h' L') m = .ok (.bl (!(decide (t = t' ∧ w = w' ∧ l = l' ∧ h = h') && eqLL L L'))) m := by
  have nf : T54.base.nf 1 (.inr 1) = true := rfl
  show (match (PP (n + 2)).at_ 1 nEq, (PP (n + 2)).at_ 1 nNe, (typ (PP (n + 2)) m (splitD t' w' l' h' L')).map ((PP (n + 2)).nf 1) with
    | .meth f, .obj, some true => (appF (PP (n + 2)) f [splitD t w l h L, splitD t' w' l' h' L'] [] [] m).bindN fun (r : D) m' => match r with
      | .bl b => Res.ok (D.bl (!b)) m'
      | _ => .bad
    | _, _, _ => .bad) = _
  simp [at_1e, at_1ne, nf, app_pos (pi9 _), c9 n k ok k' ok' m, -List.map_map]
/-- a split and something else -/
theorem eq_other (n : Nat) {t w l h : Int} {L : List (List D)} (m : Me) (d : D) (hd : d = .non ∨ ∃ xs, d = .lst xs) : cmpP (PP (n + 2)) .Eq (splitD t w l h L) d m = .ok (.bl false) m := by
  have c : (PP (n + 2)).call 9 [splitD t w l h L, d] m = .ok (.bl false) m := by
    rw [call9]
    rcases hd with rfl | ⟨xs, rfl⟩ <;> simp [runF, B54.b9]
  show (match (PP (n + 2)).at_ 1 nEq, (typ (PP (n + 2)) m d).map ((PP (n + 2)).nf 1) with
    | .meth f, some true => (appF (PP (n + 2)) f [splitD t w l h L, d] [] [] m).bindN fun (r : D) m' => match r with
      | .bl b => Res.ok (D.bl b) m'
      | _ => .bad
    | _, _ => .bad) = _
  have n1 : T54.base.nf 1 (.inl "NoneType") = true := by decide +kernel
  have n2 : T54.base.nf 1 (.inl "list") = true := by decide +kernel
  rcases hd with rfl | ⟨xs, rfl⟩ <;> simp [at_1e, n1, n2, app_pos (pi9 _), c, -List.map_map]
theorem at_1l : T54.at_ 1 nLen = .meth 10 := by rfl
theorem at_1b : T54.at_ 1 nBool = .no := by rfl
theorem at_1r : T54.at_ 1 nRepr = .meth 11 := by rfl
theorem c10 (n : Nat) {t w l h : Int} {L : List (List D)} (m : Me) : (PP (n + 1)).call 10 [splitD t w l h L] m = .ok (.int L.length) m := by
  rw [call10]; simp [runF, B54.b10, -List.map_map]
theorem len_eq (P : Prg) (m : Me) (d : D) : bltD P .len false [d] m = match vw m d with
    | .lst xs => .ok (.int xs.length) m
    | .tup xs => .ok (.int xs.length) m
    | .str x => .ok (.int x.length) m
    | .ins c _ _ => match P.at_ c nLen with
      | .meth f => (appF P f [d] [] [] m).bindN fun r m' => match r with
        | .int n => if 0 ≤ n ∧ n < 2 ^ 63 then .ok (.int n) m' else .bad
        | _ => .bad
      | _ => .bad
    | _ => .bad := rfl
end P54
theorem len_eq (P : Prg) (m : Me) (d : D) : bltD P .len false [d] m = match vw m d with
    | .lst xs => .ok (.int xs.length) m
    | .tup xs => .ok (.int xs.length) m
    | .str x => .ok (.int x.length) m
    | .ins c _ _ => match P.at_ c nLen with
      | .meth f => (appF P f [d] [] [] m).bindN fun r m' => match r with
        | .int n => if 0 ≤ n ∧ n < 2 ^ 63 then .ok (.int n) m' else .bad
        | _ => .bad
      | _ => .bad
    | _ => .bad := rfl
theorem len_ins {P : Prg} {m m' : Me} {d : D} {c f : Nat} {ns : List Nat} {xs : List D} {k : Int} (hv : vw m d = .ins c ns xs) (hf : P.at_ c nLen = .meth f) (ha : appF P f [d] [] [] m = .ok (.int k) m') (h0 : 0 ≤ k) (h1 : k < 2 ^ 63) :
    bltD P .len false [d] m = .ok (.int k) m' := by
  rw [len_eq, hv]
  dsimp only
  rw [hf]
  dsimp only
  rw [ha]
  exact if_pos ⟨h0, h1⟩
theorem tru_ins {P : Prg} {m m' : Me} {d : D} {c f : Nat} {ns : List Nat} {xs : List D} {k : Int} (hv : vw m d = .ins c ns xs) (hb : P.at_ c nBool = .no) (hf : P.at_ c nLen = .meth f) (ha : appF P f [d] [] [] m = .ok (.int k) m') (h0 : 0 ≤ k) (h1 : k < 2 ^ 63) :
    truD P d m = .ok (k != 0) m' := by
  unfold truD
  rw [hv]
  dsimp only
  rw [hb, hf]
  dsimp only
  rw [ha]
  exact if_pos ⟨h0, h1⟩
namespace P54
theorem ap10 (n : Nat) {t w l h : Int} {L : List (List D)} (m : Me) : appF (PP (n + 1)) 10 [splitD t w l h L] [] [] m = .ok (.int L.length) m := by
  rw [app_pos (pi10 _) rfl, c10]
theorem len_split (n : Nat) {t w l h : Int} {L : List (List D)} (m : Me) (hl : L.length ≤ 1000) : bltD (PP (n + 1)) .len false [splitD t w l h L] m = .ok (.int L.length) m :=
  len_ins (c := 1) (ns := [16, 17]) (xs := [formD t w l h, .tup (L.map .tup)]) rfl (by rw [prg_at]; exact at_1l) (ap10 n m) (by omega) (by omega)
theorem tru_split (n : Nat) {t w l h : Int} {L : List (List D)} (m : Me) (hl : L.length ≤ 1000) (h0 : 1 ≤ L.length) : truD (PP (n + 1)) (splitD t w l h L) m = .ok true m := by
  rw [tru_ins (c := 1) (ns := [16, 17]) (xs := [formD t w l h, .tup (L.map .tup)]) rfl (by rw [prg_at]; exact at_1b) (by rw [prg_at]; exact at_1l) (ap10 n m) (by omega) (by omega)]
  have c2 : ((L.length : Int) != 0) = true := by simp; intro z; subst z; simp at h0
  rw [c2]
end P54
end DL

/-! K54i: repr, find, strangers, judged, kept -/
namespace DL
open PySem PySem.Spec PyProof.Rows L2
theorem repr_eq (P : Prg) (m : Me) (d : D) : bltD P .repr_ false [d] m = match vw m d with
    | .ins c _ _ => match P.at_ c nRepr with
      | .meth f => (appF P f [d] [] [] m).bindN fun r m' => match r with
        | .str x => .ok (.str x) m'
        | _ => .bad
      | _ => .bad
    | _ => match py m d with
      | some p => if showOk p then .ok (.str p.shown) m else .bad
      | none => .bad := rfl
@[simp] theorem sz25 : (25 : Nat) ≤ sizeLine := by decide
@[simp] theorem sz26 : (26 : Nat) ≤ sizeLine := by decide
@[simp] theorem sz27 : (27 : Nat) ≤ sizeLine := by decide
@[simp] theorem sz28 : (28 : Nat) ≤ sizeLine := by decide
@[simp] theorem sz29 : (29 : Nat) ≤ sizeLine := by decide
@[simp] theorem sz30 : (30 : Nat) ≤ sizeLine := by decide
@[simp] theorem sz31 : (31 : Nat) ≤ sizeLine := by decide
@[simp] theorem sz32 : (32 : Nat) ≤ sizeLine := by decide
@[simp] theorem sz33 : (33 : Nat) ≤ sizeLine := by decide
@[simp] theorem sz34 : (34 : Nat) ≤ sizeLine := by decide
@[simp] theorem sz35 : (35 : Nat) ≤ sizeLine := by decide
@[simp] theorem sz36 : (36 : Nat) ≤ sizeLine := by decide
@[simp] theorem sz37 : (37 : Nat) ≤ sizeLine := by decide
@[simp] theorem sz38 : (38 : Nat) ≤ sizeLine := by decide
@[simp] theorem sz39 : (39 : Nat) ≤ sizeLine := by decide
@[simp] theorem sz40 : (40 : Nat) ≤ sizeLine := by decide
@[simp] theorem sz41 : (41 : Nat) ≤ sizeLine := by decide
@[simp] theorem sz42 : (42 : Nat) ≤ sizeLine := by decide
@[simp] theorem sz43 : (43 : Nat) ≤ sizeLine := by decide
@[simp] theorem sz44 : (44 : Nat) ≤ sizeLine := by decide
@[simp] theorem sz45 : (45 : Nat) ≤ sizeLine := by decide
/-- a number's text -/
def intS (i : Int) : Str := (toString i : String)
theorem fmt_int (P : Prg) (i : Int) (m : Me) (h : 0 ≤ i) (g : i < 10) : fmtD P (.int i) m = .ok (.str (intS i)) m := by
  have e : i.natAbs.log2 < 1920 := by
    have : i = 0 ∨ i = 1 ∨ i = 2 ∨ i = 3 ∨ i = 4 ∨ i = 5 ∨ i = 6 ∨ i = 7 ∨ i = 8 ∨ i = 9 := by omega
    rcases this with rfl | rfl | rfl | rfl | rfl | rfl | rfl | rfl | rfl | rfl <;> decide
  unfold fmtD intS
  simp only [vw_int']
  rw [if_pos e]
theorem ix_head (x : D) (xs : List D) (m : Me) : ixD (.lst (x :: xs)) (.int 0) m = .ok x m := by
  rw [ix_lst m (by decide) (by simp)]; rfl
namespace P54
/-- the text of a split -/
def splitS (k : Int) : Str := ((Str.empty ++ ("Split(" : Str)) ++ intS k) ++ (" machines)" : Str)
theorem splitS_len (k : Int) (h0 : 0 ≤ k) (h1 : k < 10) : (Str.empty ++ ("Split(" : Str)).length ≤ sizeLine ∧ ((Str.empty ++ ("Split(" : Str)) ++ intS k).length ≤ sizeLine ∧ (splitS k).length ≤ sizeLine := by
  have : k = 0 ∨ k = 1 ∨ k = 2 ∨ k = 3 ∨ k = 4 ∨ k = 5 ∨ k = 6 ∨ k = 7 ∨ k = 8 ∨ k = 9 := by omega
  rcases this with rfl | rfl | rfl | rfl | rfl | rfl | rfl | rfl | rfl | rfl <;> decide +kernel
theorem repr_split (n : Nat) {t w l h : Int} {L : List (List D)} (m : Me) (hl : L.length ≤ 5) : bltD (PP (n + 1)) .repr_ false [splitD t w l h L] m = .ok (.str (splitS L.length)) m := by
  obtain ⟨l1, l2, l3⟩ := splitS_len L.length (by omega) (by omega)
  have c : (PP (n + 1)).call 11 [splitD t w l h L] m = .ok (.str (splitS L.length)) m := by
    rw [call11]
    simp [runF, B54.b11, -List.map_map, fmt_int _ (L.length : Int) _ (by omega) (by omega), l1, l2]
    unfold splitS at l3 ⊢
    simp [l3]
  rw [repr_eq]
  simp only [vw_ins', prg_at, at_1r, app_pos (pi11 _) (show [9].length = [splitD t w l h L].length from rfl), c, Res.bindN_ok]
/-! find -/
theorem b26_run (P : Prg) (a x : D) (m : Me) (d r : D) (pi : PInfo) (h1 : den P (.lc false (.var 2) (.name 2) (.range1 (.blt .len false [.var 0])) [.val (.cmp .In (.var 1) (.ix (.var 0) (.var 2)))] [2]) [some a, some x, none] m = .ok d m) (h2 : ixD d (.int 0) m = .ok r m) :
    runF P ⟨pi, 3, B54.b26⟩ [a, x] m = .ok r m := by
  simp [runF, B54.b26, h1, h2]
theorem s26 (n : Nat) {t w l h : Int} {L : List (List D)} (k : Lots t w l h L) (x : D) (hx : x ∈ TH t w l h) (m : Me) (hm : ∃ xs ∈ L, x ∈ xs) :
    ∃ i : Nat, (PP (n + 1)).call 26 [.lst (L.map .lst), x] m = .ok (.int i) m ∧ L.findIdx? (hasK (kTH x)) = some i := by
  have hk : (L.findIdx? (hasK (kTH x))).isSome = true := by
    rw [List.findIdx?_isSome]
    obtain ⟨xs, h1, h2⟩ := hm
    exact List.any_eq_true.mpr ⟨xs, h1, List.any_eq_true.mpr ⟨x, h2, decide_eq_true rfl⟩⟩
  obtain ⟨i, hi⟩ := Option.isSome_iff_exists.mp hk
  refine ⟨i, ?_, hi⟩
  obtain ⟨hlt, hq, hmin⟩ := List.findIdx?_eq_some_iff_getElem.mp hi
  rw [call26]
  have n1 := k.n1
  obtain ⟨z, hz, hr⟩ : ∃ z : Int, (∀ P : Prg, bltD P .len false [.lst (L.map D.lst)] m = .ok (.int z) m) ∧ rngI [.int z] = some (.fix (rngL 0 L.length)) := by
    refine ⟨L.length, fun P => by rw [len_lst, List.length_map], ?_⟩
    rw [rng1 (by omega) (by omega)]; simp
  have hfl : (rngL 0 L.length).filter (fun d => match d with | .int j => ((L[j.toNat]?).map (hasK (kTH x))).getD false | _ => false) = ((List.range L.length).filter fun j => ((L[j]?).map (hasK (kTH x))).getD false).map fun (j : Nat) => D.int j := by
    unfold rngL
    rw [List.filter_map]
    simp [Function.comp_def]
  have e : den (PP n) (.lc false (.var 2) (.name 2) (.range1 (.blt .len false [.var 0])) [.val (.cmp .In (.var 1) (.ix (.var 0) (.var 2)))] [2]) [some (.lst (L.map .lst)), some x, none] m =
      .ok (.lst (((List.range L.length).filter fun j => ((L[j]?).map (hasK (kTH x))).getD false).map fun (j : Nat) => D.int j)) m := by
    rw [d_lc]
    simp only [dI_r1, d_blt, dL_cons, dL_nil, d_var0, Res.bk_ok, hz, hr, ofO_some, items_fix]
    rw [lcGo_filter (fun d => match d with | .int j => ((L[j.toNat]?).map (hasK (kTH x))).getD false | _ => false) (st_fix _ _)]
    · rw [hfl, Res.bk_ok, newL_f]
    · intro d hd
      obtain ⟨j, rfl, h0, h1⟩ := rng_mem hd
      have hj : j.toNat < L.length := by omega
      have hix := ix_lst (xs := L.map D.lst) m h0 (by simp; omega)
      simp at hix
      have hin := in_lot (t := t) (w := w) (l := l) (h := h) m hx (k.th _ (List.getElem_mem hj)) (PP n) (.lst (L[j.toNat])) (.inl rfl)
      simp [turnD_eq, wipeE, hix, hin, hj]
      cases hasK (kTH x) L[j.toNat] <;> rfl
    · rw [sizeLine_v]; simp [rngL]; omega
  obtain ⟨l', hl'⟩ := filter_range_head (fun j => ((L[j]?).map (hasK (kTH x))).getD false) L.length i hlt (by simp [hlt, hq]) (fun j hj => by
    have := hmin j hj
    have hjl : j < L.length := by omega
    simpa [hjl] using this)
  rw [hl'] at e
  rw [List.map_cons] at e
  exact b26_run _ _ _ _ _ _ _ e (ix_head _ _ _)
theorem nadd_if (P : Prg) (p : Bool) (xs ys : List D) (m : Me) : binD .add p (.lst xs) (.lst ys) m = if xs.length + ys.length ≤ sizeLine then newL p (xs ++ ys) m else .bad := rfl
/-! strangers -/
def STR (t w l h : Int) : List D := [.non, .bl true, .int 0, .str "head", .str "", .tup [], .lst [], .tup [.str "head"], .tup [.str "head", .int 0], .tup [.str "head", .int 0, .int 0, .int 0], .lst [.str "out", .int 0, .int 0, .int 0], formD t w l h,
  .tup [.str "heads", .int 0, .int 0], .tup [.str "Head", .int 0, .int 0], .tup [.str "", .int 0, .int 0], .tup [.int 0, .int 0, .str "head"], .tup [.str "head", .int l, .int 0], .tup [.str "head", .int 0, .int h],
  .tup [.str "head", .int (-1), .int 0], .tup [.str "unit", .int 0, .int w], .tup [.str "unit", .int l, .int 0], .lst [.str "unit", .int 0, .int (-1)], .tup [.str "out", .int 1, .int 0],
  .tup [.str "out", .int 0, .int t], .tup [.str "out", .int 0, .int (-1)], .tup [.str "out", .int (-1), .int 0], .tup [.str "head", .bl false, .int 0], .lst [.str "unit", .int 0, .bl false],
  .tup [.str "out", .int 0, .bl true], .tup [.str "out", .bl false, .int 1], .tup [.str "out", .int 0, .non], .tup [.str "head", .str "0", .int 0], .tup [.str "head", .lst [.int 0], .int 0],
  .tup [.tup [.str "head"], .int 0, .int 0], .tup [.str "unit", .bl true, .int 0], .tup [.lst [.str "head", .int 0, .int 0]], .lst [.tup [.str "out", .int 0, .int 1]], .tup [.non, .int 0, .int 0]]
theorem STR_ok {t w l h : Int} : ∀ x ∈ STR t w l h, okV x = true ∧ isTh t w l h x = false := by
  have n1 : ¬ ("head" : Str) = "out" := by decide
  have n2 : ¬ ("unit" : Str) = "out" := by decide
  have n3 : ¬ ("unit" : Str) = "head" := by decide
  have n4 : ¬ ("heads" : Str) = "out" := by decide
  have n5 : ¬ ("heads" : Str) = "head" := by decide
  have n6 : ¬ ("heads" : Str) = "unit" := by decide
  have n7 : ¬ ("Head" : Str) = "out" := by decide
  have n8 : ¬ ("Head" : Str) = "head" := by decide
  have n9 : ¬ ("Head" : Str) = "unit" := by decide
  have n10 : ¬ ("" : Str) = "out" := by decide
  have n11 : ¬ ("" : Str) = "head" := by decide
  have n12 : ¬ ("" : Str) = "unit" := by decide
  intro x hx
  simp only [STR, List.mem_cons, List.not_mem_nil, or_false] at hx
  rcases hx with hx | hx | hx | hx | hx | hx | hx | hx | hx | hx | hx | hx | hx | hx | hx | hx | hx | hx | hx | hx | hx | hx | hx | hx | hx | hx | hx | hx | hx | hx | hx | hx | hx | hx | hx | hx | hx | hx <;> subst hx <;>
    exact ⟨by simp [okV, okK], by simp [isTh, isTh3, inR, n1, n2, n3, n4, n5, n6, n7, n8, n9, n10, n11, n12] <;> omega⟩
theorem s23 (n : Nat) (t w l h : Int) (m : Me) (hm : Cl m) : (PP (n + 1)).call 23 [figD t w l h, formD t w l h] m = .ok (.lst (STR t w l h)) m := by
  rw [call23]
  simp [runF, B54.b23, nadd_if, STR]
end P54
end DL

/-! K54j: draws of the law -/
namespace DL
open PySem PySem.Spec PyProof.Rows L2
namespace P54
theorem b13_eq : B54.b13 = bDraw := rfl
theorem a13 (n : Nat) {b : MO} {c : Nat} {k : Int} {ms : Me} (hb : BgO c b) (hk : 0 < k) (hk2 : k < 2 ^ 100) (hc : c < 100000) :
    ∃ r b', appF (PP (n + 1)) 13 [.loc 0, .int k] [] [] (b :: ms) = .ok (.int r) (b' :: ms) ∧ 0 ≤ r ∧ r < k ∧ BgO (c + 1) b' := by
  rw [app_pos (pi13 _) rfl, call13, b13_eq]
  exact draw_run hb hk hk2 (by omega)
theorem b14_run (P : Prg) (pi : PInfo) (a z : D) (m m' : Me) (ln r : D) (x : D) (h0 : P.fok 13 = true) (h1 : ∀ p, bltD P .len p [a] m = .ok ln m) (h2 : appF P 13 [z, ln] [] [] m = .ok r m') (h3 : ixD a r m' = .ok x m') (hl : m'.length = m.length) :
    runF P ⟨pi, 2, B54.b14⟩ [z, a] m = .ok x m' := by
  simp [runF, B54.b14, h0, h1, h2, h3]
  exact seal_flat0 hl
/-- pick -/
theorem a14 (n : Nat) {b : MO} {c : Nat} {xs : List D} {ms : Me} (hb : BgO c b) (h0 : 0 < xs.length) (h1 : xs.length < 1000) (hc : c < 100000) :
    ∃ (i : Nat) (x : D) (b' : MO), xs[i]? = some x ∧ appF (PP (n + 2)) 14 [.loc 0, .lst xs] [] [] (b :: ms) = .ok x (b' :: ms) ∧ BgO (c + 1) b' := by
  have hz : ∃ z : Int, (∀ p, bltD (PP (n + 1)) .len p [.lst xs] (b :: ms) = .ok (.int z) (b :: ms)) ∧ z = xs.length := ⟨xs.length, fun p => rfl, rfl⟩
  obtain ⟨z, hz, hzl⟩ := hz
  obtain ⟨r, b', e, r0, r1, hb'⟩ := a13 n (k := z) (ms := ms) hb (by omega) (by omega) hc
  have hr : r.toNat < xs.length := by omega
  refine ⟨r.toNat, xs[r.toNat], b', List.getElem?_eq_getElem hr, ?_, hb'⟩
  rw [app_pos (pi14 _) rfl, call14]
  exact b14_run _ _ _ _ _ _ _ _ _ (by simp) hz e (ix_lst _ r0 (by omega)) rfl
/-- the shape's numbers -/
theorem s22 (n : Nat) {b : MO} {c : Nat} {ms : Me} (hb : BgO c b) (hc : c < 10000) :
    ∃ t w l h b', (PP (n + 3)).call 22 [.loc 0] (b :: ms) = .ok (figD t w l h) (b' :: ms) ∧ Okf t w l h ∧ BgO (c + 4) b' := by
  obtain ⟨r1, b1, e1, p1, q1, hb1⟩ := a13 (n + 1) (k := 5) (ms := ms) hb (by omega) (by decide) (by omega)
  obtain ⟨r2, b2, e2, p2, q2, hb2⟩ := a13 (n + 1) (k := 4) (ms := ms) hb1 (by omega) (by decide) (by omega)
  obtain ⟨i, x, b3, hx, e3, hb3⟩ := a14 n (xs := [.int 1, .int 2, .int 1, .int 3]) (ms := ms) hb2 (by decide) (by decide) (by omega)
  obtain ⟨r4, b4, e4, p4, q4, hb4⟩ := a13 (n + 1) (k := 2) (ms := ms) hb3 (by omega) (by decide) (by omega)
  obtain ⟨l, rfl, l0, l1⟩ : ∃ l : Int, x = .int l ∧ 1 ≤ l ∧ l ≤ 3 := by
    match i, hx with
    | 0, hx => exact ⟨1, by simpa using hx.symm, by omega, by omega⟩
    | 1, hx => exact ⟨2, by simpa using hx.symm, by omega, by omega⟩
    | 2, hx => exact ⟨1, by simpa using hx.symm, by omega, by omega⟩
    | 3, hx => exact ⟨3, by simpa using hx.symm, by omega, by omega⟩
    | i + 4, hx => simp at hx
  refine ⟨2 + r1, 1 + r2, l, 1 + r4, b4, ?_, ⟨by omega, by omega, by omega, by omega, l0, l1, by omega, by omega⟩, hb4⟩
  rw [call22]
  simp [runF, B54.b22, e1, e2, e3, e4]
  exact seal_flat0 (by simp)
/-! start -/
def b12body : List DL.St := [.asg (.name 1) (.bin .mod false (.blt .int_ false [.bin .add false (.bin .add false (.bin .mul false (.var 1) (.cst (.int 44501))) (.bin .mod false (.blt .int_ false [.var 2]) (.cst (.int 2147483249)))) (.cst (.int 733))]) (.cst (.int 2147483543)))]
theorem b12_turn (P : Prg) (s : D) (mx z : Int) (x2 : Option D) (m : Me) (h0 : 0 ≤ mx) (h1 : mx < 2147483543) :
    bodyF P (.name 2) b12body (.int z) [some s, some (.int mx), x2] m = .ok .nx [some s, some (.int ((mx * 44501 + z % 2147483249 + 733) % 2147483543)), some (.int z)] m := by
  have a1 : mx.natAbs < 2 ^ 200 := by omega
  have a2 : (44501 : Int).natAbs < 2 ^ 200 := by decide
  unfold b12body
  simp [mul_int _ _ _ _ a1 a2]
theorem b12_run (P : Prg) (pi : PInfo) (cs : List Int) (hs : ∀ m, slD false (.lst (cs.map .int)) none (some 63) m = .ok (.lst (cs.map .int)) m) : ∃ b, runF P ⟨pi, 3, B54.b12⟩ [.lst (cs.map .int)] [] = .ok (.loc 0) [b] ∧ BgO 0 b := by
  obtain ⟨env', m', e, mx, x2, rfl, rfl, m0, m1⟩ := loop_inv (v := .fix (cs.map .int)) (f := bodyF P (.name 2) b12body)
    (fun pre env m' => ∃ (mx : Int) (x2 : Option D), env = [some (.lst (cs.map .int)), some (.int mx), x2] ∧ m' = [] ∧ 0 ≤ mx ∧ mx < 2147483543) (fun _ _ _ _ => trivial) (cs.map .int) [] [some (.lst (cs.map .int)), some (.int 60913), none] []
    (fun pr d po env m' eq i => by
      obtain ⟨mx, x2, rfl, rfl, h0, h1⟩ := i
      have hd : d ∈ cs.map D.int := by
        have : cs.map D.int = pr ++ d :: po := by simpa using eq
        rw [this]; simp
      obtain ⟨z, _, rfl⟩ := List.mem_map.mp hd
      exact ⟨_, _, .inl (b12_turn P _ mx z x2 _ h0 h1), _, _, rfl, rfl, by omega, by omega⟩)
    ⟨60913, none, rfl, rfl, by decide, by decide⟩
  have hb : B54.b12 = [.asg (.name 1) (.cst (.int 60913)), .loop (.name 2) (.seq (.sl false (.var 0) none (some (.cst (.int 63))))) b12body,
    .ret (some (.lst true [.blt .list_ false [.sl false (.var 0) none (some (.cst (.int 63)))], .cst (.int 0), .cst (.int 0), .var 1, .cst (.int 0)])) false] := rfl
  refine ⟨bagO cs 0 0 mx 0, ?_, cs, 0, 0, mx, 0, rfl, by omega, by omega, m0, by omega, by omega, by omega⟩
  have hq : ∀ m, seqI m (.lst (cs.map D.int)) = some (.fix (cs.map D.int)) := fun _ => rfl
  have hL : ∀ (P : Prg) (m : Me), bltD P .list_ false [.lst (cs.map D.int)] m = .ok (.lst (cs.map D.int)) m := fun _ _ => rfl
  have hbag : bagO cs 0 0 mx 0 = .lst [.lst (cs.map D.int), .int 0, .int 0, .int mx, .int 0] := rfl
  have hfl : flat (.lst (cs.map D.int)) = true := by simp [flatL_ints]
  rw [hb, hbag]
  generalize D.lst (cs.map D.int) = A at *
  have hp : ∀ (m : Me), partD (.int 63) m = .ok (some 63) m := fun _ => rfl
  simp [runF, hs, hp, hq, e, hL]
  exact seal_loc (m := []) (l := []) rfl (bndO_flat _ (by simp [hfl])) rfl
theorem start_ok (n : Nat) (cs : List Int) (hl : cs.length ≤ 63) : ∃ b, (PP (n + 1)).call 12 [.lst (cs.map .int)] [] = .ok (.loc 0) [b] ∧ BgO 0 b := by
  rw [call12]
  refine b12_run _ _ cs fun m => ?_
  show newL false (cutD (cs.map D.int) none (some 63)) m = _
  have h1 : HT.sIx (cs.map D.int).length 0 none = 0 := rfl
  have h2 : HT.sIx (cs.map D.int).length (cs.map D.int).length (some 63) = cs.length := by
    unfold HT.sIx
    simp; omega
  unfold cutD
  rw [h1, h2, newL_f, Nat.sub_zero, List.drop_zero, List.take_of_length_le (by simp)]
end P54
end DL

/-! K54k: lots in the heap: dealt, copies -/
namespace DL
open PySem PySem.Spec PyProof.Rows L2
def locsL : Nat → Nat → List D
  | _, 0 => []
  | k, n + 1 => .loc k :: locsL (k + 1) n
theorem locsL_len : ∀ (n k : Nat), (locsL k n).length = n
  | 0, _ => rfl
  | n + 1, k => by rw [locsL, List.length_cons, locsL_len n]
theorem locsL_get : ∀ (n k i : Nat), i < n → (locsL k n)[i]? = some (.loc (k + i))
  | 0, _, _, h => by omega
  | n + 1, k, 0, _ => by simp [locsL]
  | n + 1, k, i + 1, h => by
    rw [locsL, List.getElem?_cons_succ, locsL_get n (k + 1) i (by omega)]
    congr 2; omega
theorem locsL_get' {n k i : Nat} {x : D} (h : (locsL k n)[i]? = some x) : i < n ∧ x = .loc (k + i) := by
  have hi : i < (locsL k n).length := (List.getElem?_eq_some_iff.mp h).1
  rw [locsL_len] at hi
  rw [locsL_get n k i hi] at h
  exact ⟨hi, by simpa using h.symm⟩
theorem locsL_snoc : ∀ (n k : Nat), locsL k (n + 1) = locsL k n ++ [.loc (k + n)]
  | 0, k => rfl
  | n + 1, k => by
    rw [locsL, locsL_snoc n (k + 1), locsL]
    simp; omega
/-- a comprehension that lays new lists -/
theorem lcGo_alloc {v : IV} {f : D → Me → Res (Option D)} (g : D → List D) (hv : ∀ m, v.still m) : ∀ (ds acc : List D) (m : Me), (∀ d ∈ ds, ∀ l, f d (m ++ l) = .ok (some (.loc (m ++ l).length)) ((m ++ l) ++ [.lst (g d)])) → acc.length + ds.length ≤ sizeLine →
    lcGo v f acc ds m = .ok (acc ++ locsL m.length ds.length) (m ++ ds.map fun d => .lst (g d))
  | [], acc, m, _, _ => by simp [lcGo, stillR, hv, locsL]
  | d :: ds, acc, m, hf, hl => by
    have h1 := hf d (by simp) []
    simp only [List.append_nil] at h1
    simp only [List.length_cons] at hl
    rw [lcGo, stillR, if_pos (hv m), h1, Res.bindN_ok]
    dsimp only
    rw [if_pos (by omega), lcGo_alloc g hv ds _ _ (fun e he l => by rw [List.append_assoc]; exact hf e (by simp [he]) _) (by simp; omega)]
    simp [locsL]
/-! freezing -/
theorem frzD_thg (n : Nat) (m : Me) {x : D} (h : Thg x) : frzD (n + 6) m x = some (x, m) := by
  obtain ⟨k, a, b, _⟩ := h
  simp [frzD, frzL]
theorem frzL_thgs : ∀ (xs : List D) (n : Nat) (m : Me), (∀ x ∈ xs, Thg x) → xs.length + 7 ≤ n → frzL n m xs = some (xs, m)
  | [], n, m, _, hn => by
    obtain ⟨k, rfl⟩ : ∃ k, n = k + 1 := ⟨n - 1, by simp at hn; omega⟩
    rw [frzL]
  | x :: xs, n, m, h, hn => by
    simp only [List.length_cons] at hn
    obtain ⟨k, rfl⟩ : ∃ k, n = (k + 6) + 1 := ⟨n - 7, by omega⟩
    rw [frzL, frzD_thg k m (h x (by simp))]
    dsimp only
    rw [frzL_thgs xs (k + 6) m (fun y hy => h y (by simp [hy])) (by omega)]
    rfl
theorem frzL_locs : ∀ (L : List (List D)) (n : Nat) (pre post : Me), (∀ xs ∈ L, ∀ x ∈ xs, Thg x) → (∀ xs ∈ L, xs.length + 10 + L.length ≤ n) → L.length + 10 ≤ n →
    frzL n (pre ++ (L.map MO.lst ++ post)) (locsL pre.length L.length) = some (L.map .lst, pre ++ (List.replicate L.length .gone ++ post))
  | [], n, pre, post, _, _, hn => by
    obtain ⟨k, rfl⟩ : ∃ k, n = k + 1 := ⟨n - 1, by simp at hn; omega⟩
    simp [locsL, frzL]
  | xs :: L, n, pre, post, h, hl, hn => by
    simp only [List.length_cons] at hn
    have hx := hl xs (by simp)
    simp only [List.length_cons] at hx
    obtain ⟨k, rfl⟩ : ∃ k, n = (k + 1) + 1 := ⟨n - 2, by omega⟩
    have hd : frzD (k + 1) (pre ++ ((xs :: L).map MO.lst ++ post)) (.loc pre.length) = some (.lst xs, pre ++ (.gone :: (L.map MO.lst ++ post))) := by
      rw [frzD]
      have e1 : (pre ++ ((xs :: L).map MO.lst ++ post))[pre.length]? = some (.lst xs) := by simp
      have e2 : (pre ++ ((xs :: L).map MO.lst ++ post)).set pre.length .gone = pre ++ (.gone :: (L.map MO.lst ++ post)) := by simp
      simp only [e1, e2]
      rw [frzL_thgs xs k _ (h xs (by simp)) (by omega)]
      rfl
    rw [List.length_cons, locsL, frzL, hd]
    dsimp only
    have ih := frzL_locs L (k + 1) (pre ++ [.gone]) post (fun ys hy => h ys (by simp [hy])) (fun ys hy => by have := hl ys (by simp [hy]); simp only [List.length_cons] at this; omega) (by omega)
    have e3 : pre ++ (.gone :: (L.map MO.lst ++ post)) = pre ++ [.gone] ++ (L.map MO.lst ++ post) := by simp
    have e4 : (pre ++ [MO.gone]).length = pre.length + 1 := by simp
    rw [e4] at ih
    rw [e3, ih]
    simp [List.replicate_succ]
theorem frzR_locs (L : List (List D)) (pre : Me) (h : ∀ xs ∈ L, ∀ x ∈ xs, Thg x) (h1 : ∀ xs ∈ L, xs.length ≤ 1000) (h2 : L.length ≤ 1000) :
    frzR (pre ++ L.map MO.lst) (.lst (locsL pre.length L.length)) = .ok (.lst (L.map .lst)) (pre ++ List.replicate L.length .gone) := by
  have e := frzL_locs L 999999 pre [] h (fun xs hx => by have := h1 xs hx; omega) (by omega)
  simp only [List.append_nil] at e
  unfold frzR
  have : frzD frzFuel (pre ++ L.map MO.lst) (.lst (locsL pre.length L.length)) = some (.lst (L.map .lst), pre ++ List.replicate L.length .gone) := by
    show frzD (999999 + 1) _ _ = _
    rw [frzD, e]; rfl
  rw [this]
/-! lots as places -/
theorem tb_get (m : Me) (L : List (List D)) (i : Nat) (hi : i < L.length) : (m ++ L.map MO.lst)[m.length + i]? = some (.lst L[i]) := by
  rw [List.getElem?_append_right (by omega)]
  simp [hi]
theorem tb_set (m : Me) (L : List (List D)) (i : Nat) (x : List D) : (m ++ L.map MO.lst).set (m.length + i) (.lst x) = m ++ (L.set i x).map MO.lst := by
  rw [List.set_append_right _ _ (by omega), List.map_set]
  simp
theorem flatten_set_perm {d : D} : ∀ (L : List (List D)) (i : Nat) (hi : i < L.length) (x : List D), x.Perm (d :: L[i]) → (L.set i x).flatten.Perm (d :: L.flatten)
  | [], i, hi, _, _ => by simp at hi
  | y :: L, 0, _, x, h => by
    simp only [List.set_cons_zero, List.flatten_cons]
    exact (h.append_right _)
  | y :: L, i + 1, hi, x, h => by
    simp only [List.set_cons_succ, List.flatten_cons]
    have := flatten_set_perm L i (by simpa using hi) x (by simpa using h)
    exact (this.append_left y).trans List.perm_middle
theorem insert_perm (xs : List D) (d : D) (r : Nat) : (xs.take r ++ [d] ++ xs.drop r).Perm (d :: xs) := by
  have : (xs.take r ++ [d] ++ xs.drop r) = xs.take r ++ d :: xs.drop r := by simp
  rw [this]
  refine List.perm_middle.trans ?_
  rw [List.take_append_drop]
theorem vw_at {m : Me} {n : Nat} {xs : List D} (h : m[n]? = some (.lst xs)) : vw m (.loc n) = .lst xs := by simp [vw, h]
theorem ins_at {m : Me} {n : Nat} {xs : List D} (h : m[n]? = some (.lst xs)) (p : Bool) (r : Int) (y : D) (h0 : 0 ≤ r) (h1 : r < 2 ^ 62) (hl : xs.length < sizeLine) :
    bmD .insert p (.loc n) [.int r, y] m = .ok .non (m.set n (.lst (xs.take r.toNat ++ [y] ++ xs.drop r.toNat))) := by
  unfold bmD
  simp only [h]
  rw [if_pos ⟨hl, h0, by omega⟩]
theorem pop_at {m : Me} {n : Nat} {xs : List D} (h : m[n]? = some (.lst xs)) (p : Bool) (r : Int) (h0 : 0 ≤ r) (h2 : r < xs.length) (h1 : r < 2 ^ 62) :
    ∃ y, bmD .pop p (.loc n) [.int r] m = .ok y (m.set n (.lst (xs.eraseIdx r.toNat))) := by
  have e : seqIndex? r xs.length = some r.toNat := by
    unfold seqIndex?
    have c1 : ¬ r < 0 := by omega
    simp [c1, h0, h2]
  have hr : r.toNat < xs.length := by omega
  refine ⟨xs[r.toNat], ?_⟩
  unfold bmD
  simp only [h]
  rw [if_pos ⟨by omega, by omega⟩]
  simp only [e, List.getElem?_eq_getElem hr]
theorem bnd_locs {k n : Nat} (h : 1 ≤ n) : bnd k (.lst (locsL k n)) = false := by
  obtain ⟨j, rfl⟩ : ∃ j, n = j + 1 := ⟨n - 1, by omega⟩
  unfold bnd locsL bndL bnd
  simp
theorem seal_keep {k : Nat} {m : Me} {xs : List D} (hb : bnd k (.lst xs) = false) : sealR k (.lst xs) m = .ok (.lst xs) m := by
  unfold sealR
  split
  · rfl
  · split
    · simp [hb]
    · rfl
namespace P54
/-- copies -/
theorem b21_run (P : Prg) (pi : PInfo) (L : List (List D)) (m : Me) (h0 : 1 ≤ L.length) (h1 : L.length ≤ 1000) : runF P ⟨pi, 2, B54.b21⟩ [.lst (L.map .lst)] m = .ok (.lst (locsL m.length L.length)) (m ++ L.map MO.lst) := by
  have e : den P (.lc false (.blt .list_ true [.var 1]) (.name 1) (.seq (.var 0)) [] [1]) [some (.lst (L.map .lst)), none] m = .ok (.lst (locsL m.length L.length)) (m ++ L.map MO.lst) := by
    rw [d_lc]
    simp only [dI_seq, d_var0, Res.bk_ok, seqI_lst, ofO_some, items_fix]
    rw [lcGo_alloc asL (fun _ => st_fix _ _)]
    · simp [asL, Function.comp_def]
    · intro d hd l
      obtain ⟨xs, _, rfl⟩ := List.mem_map.mp hd
      simp [turnD_eq, wipeE, asL]
    · rw [sizeLine_v]; simp; omega
  simp [runF, B54.b21, e]
  exact seal_keep (bnd_locs h0)
theorem a21 (n : Nat) (L : List (List D)) (m : Me) (h0 : 1 ≤ L.length) (h1 : L.length ≤ 1000) : appF (PP (n + 1)) 21 [.lst (L.map .lst)] [] [] m = .ok (.lst (locsL m.length L.length)) (m ++ L.map MO.lst) := by
  rw [app_pos (pi21 _) rfl, call21, b21_run _ _ L m h0 h1]
def b17in : List DL.St := [
    .asg (.name 5) (.app (.cst (.fn 14)) [.var 0, .var 3] [] []),
    .exp (.meth (.var 5) 40 (some .insert) false [.app (.cst (.fn 13)) [.var 0, .bin .add false (.blt .len false [.var 5]) (.cst (.int 1))] [] [], .var 4] [] [])]
/-- a thing is put into a drawn lot, at a drawn place -/
theorem deal_turn (n : Nat) {b : MO} {c : Nat} {ms : Me} {L : List (List D)} (hb : BgO c b) (hc : c < 50000) (h0 : 1 ≤ L.length) (h1 : L.length ≤ 900) (hL : ∀ xs ∈ L, xs.length ≤ 1000) (parts zz d : D) (x4 x5 x6 : Option D) :
    ∃ b' i r x5', bodyF (PP (n + 2)) (.name 4) b17in d [some (.loc 0), some parts, some zz, some (.lst (locsL (ms.length + 1) L.length)), x4, x5, x6] (b :: (ms ++ L.map MO.lst)) =
      .ok .nx [some (.loc 0), some parts, some zz, some (.lst (locsL (ms.length + 1) L.length)), some d, x5', x6] (b' :: (ms ++ (L.set i ((L[i]?).getD [] |> fun xs => xs.take r ++ [d] ++ xs.drop r)).map MO.lst)) ∧ i < L.length ∧ BgO (c + 2) b' := by
  obtain ⟨i, x, b1, hx, e1, hb1⟩ := a14 n (xs := locsL (ms.length + 1) L.length) (ms := ms ++ L.map MO.lst) hb (by rw [locsL_len]; omega) (by rw [locsL_len]; omega) (by omega)
  obtain ⟨hi, rfl⟩ := locsL_get' hx
  have hg : ∀ b, (b :: (ms ++ L.map MO.lst))[ms.length + 1 + i]? = some (.lst L[i]) := fun b => tb_get (b :: ms) L i hi
  obtain ⟨z, hz, hzl⟩ : ∃ z : Int, (∀ P : Prg, bltD P .len false [.loc (ms.length + 1 + i)] (b1 :: (ms ++ L.map MO.lst)) = .ok (.int z) (b1 :: (ms ++ L.map MO.lst))) ∧ z = L[i].length :=
    ⟨L[i].length, fun P => len_loc P _ false (hg b1), rfl⟩
  have hl := hL _ (List.getElem_mem hi)
  obtain ⟨r, b2, e2, r0, r1, hb2⟩ := a13 (n + 1) (k := z + 1) (ms := ms ++ L.map MO.lst) hb1 (by omega) (by omega) (by omega)
  have hcal : ∀ P, calleeD P (b1 :: (ms ++ L.map MO.lst)) (.loc (ms.length + 1 + i)) 40 (some .insert) [] = some (.inr .insert) := fun P => callee_lst (vw_at (hg b1)) rfl
  have hins := ins_at (hg b2) false r d r0 (by omega) (by rw [sizeLine_v]; omega)
  have hset : (b2 :: (ms ++ L.map MO.lst)).set (ms.length + 1 + i) (.lst (L[i].take r.toNat ++ [d] ++ L[i].drop r.toNat)) = b2 :: (ms ++ (L.set i (L[i].take r.toNat ++ [d] ++ L[i].drop r.toNat)).map MO.lst) := tb_set (b2 :: ms) L i _
  rw [hset] at hins
  refine ⟨b2, i, r.toNat, some (.loc (ms.length + 1 + i)), ?_, hi, hb2⟩
  have hgd : (L[i]?).getD [] = L[i] := by simp [hi]
  simp only [hgd]
  unfold b17in
  generalize L[i].take r.toNat ++ [d] ++ L[i].drop r.toNat = Y at *
  simp [e1, hcal, hz, e2, hins]
theorem set_mem {L : List (List D)} {i : Nat} {x ys : List D} (h : ys ∈ L.set i x) : ys ∈ L ∨ ys = x := List.mem_or_eq_of_mem_set h
theorem s17 (n : Nat) {t w l h : Int} {b : MO} {c : Nat} {ms : Me} (hb : BgO c b) (hc : c < 10000) (hm : ∀ b', BgO (c + 100) b' → Cl (b' :: ms)) (z : Int) (z0 : 1 ≤ z) (z1 : z ≤ 5) (parts : List D) (hp : ∀ x ∈ parts, x ∈ TH t w l h) (hpl : parts.length ≤ 24) :
    ∃ (b' : MO) (L : List (List D)), (PP (n + 3)).call 17 [.loc 0, .lst parts, .int z] (b :: ms) = .ok (.lst (L.map .lst)) (b' :: ms) ∧ L.length = z.toNat ∧ L.flatten.Perm parts ∧ BgO (c + 100) b' := by
  rw [call17]
  have hr : rngI [.int z] = some (.fix (rngL 0 z.toNat)) := rng1 (by omega) (by omega)
  have elc : ∀ (x4 x5 : Option D), den (PP (n + 2)) (.lc false (.lst true []) (.name 6) (.range1 (.var 2)) [] [6]) [some (.loc 0), some (.lst parts), some (.int z), none, none, none, none] (b :: ms) =
      .ok (.lst (locsL (ms.length + 1) z.toNat)) (b :: (ms ++ (List.replicate z.toNat ([] : List D)).map MO.lst)) := by
    intro _ _
    rw [d_lc]
    simp only [dI_r1, d_varS, d_var0, Res.bk_ok, hr, ofO_some, items_fix]
    rw [lcGo_alloc (fun _ => []) (fun _ => st_fix _ _)]
    · simp [rngL]
      refine List.eq_replicate_iff.mpr ⟨by simp, fun x hx => ?_⟩
      obtain ⟨_, _, rfl⟩ := List.mem_map.mp hx
      rfl
    · intro d _ l
      simp [turnD_eq]
    · rw [sizeLine_v]; simp [rngL]; omega
  obtain ⟨env', m', e, b', L, x4, x5, rfl, rfl, hL1, hL2, hb'⟩ := loop_inv (v := .fix parts) (f := bodyF (PP (n + 2)) (.name 4) b17in)
    (fun pre env m' => ∃ (b' : MO) (L : List (List D)) (x4 x5 : Option D), env = [some (.loc 0), some (.lst parts), some (.int z), some (.lst (locsL (ms.length + 1) z.toNat)), x4, x5, none] ∧ m' = b' :: (ms ++ L.map MO.lst) ∧ L.length = z.toNat ∧ L.flatten.Perm pre ∧ BgO (c + 2 * pre.length) b')
    (fun _ _ _ _ => trivial) parts [] [some (.loc 0), some (.lst parts), some (.int z), some (.lst (locsL (ms.length + 1) z.toNat)), none, none, none] (b :: (ms ++ (List.replicate z.toNat ([] : List D)).map MO.lst))
    (fun pr d po env m' eq i => by
      obtain ⟨b', L, x4, x5, rfl, rfl, hL1, hL2, hb'⟩ := i
      have hpr : pr.length < 24 := by
        have : parts = pr ++ d :: po := by simpa using eq
        have := congrArg List.length this
        simp at this; omega
      have hsz : ∀ xs ∈ L, xs.length ≤ 1000 := fun xs hxs => by
        have h1 : xs.length ≤ L.flatten.length := (List.sublist_flatten_of_mem hxs).length_le
        have := hL2.length_eq
        omega
      obtain ⟨b2, j, r, x5', e2, hj, hb2⟩ := deal_turn n hb' (by omega) (by omega) (by omega) hsz (.lst parts) (.int z) d x4 x5 none
      rw [hL1] at e2
      refine ⟨_, _, .inl e2, b2, _, some d, x5', rfl, rfl, by simp [hL1], ?_, hb2.mono (by simp; omega)⟩
      have hgd : (L[j]?).getD [] = L[j] := by simp [hj]
      simp only [hgd]
      exact (flatten_set_perm L j hj _ (insert_perm _ d r)).trans ((hL2.cons d).trans (List.perm_append_singleton d pr).symm))
    ⟨b, _, none, none, rfl, rfl, by simp, by simp, hb⟩
  simp only [List.nil_append] at e hL2 hb'
  have hth : ∀ xs ∈ L, ∀ x ∈ xs, Thg x := fun xs hxs x hx => thg_TH (hp x (hL2.mem_iff.mp (List.mem_flatten.mpr ⟨xs, hxs, hx⟩)))
  have hsz : ∀ xs ∈ L, xs.length ≤ 1000 := fun xs hxs => by
    have h1 : xs.length ≤ L.flatten.length := (List.sublist_flatten_of_mem hxs).length_le
    have := hL2.length_eq
    omega
  have hf := frzR_locs L (b' :: ms) hth hsz (by omega)
  rw [hL1] at hf
  have hbb : BgO (c + 100) b' := hb'.mono (by omega)
  refine ⟨b', L, ?_, hL1, hL2, hbb⟩
  have hB : B54.b17 = [.asg (.name 3) (.lc false (.lst true []) (.name 6) (.range1 (.var 2)) [] [6]), .loop (.name 4) (.seq (.var 1)) b17in, .ret (some (.var 3)) true] := rfl
  rw [hB]
  have hfl : flat (.lst (L.map D.lst)) = true := by
    simp
    refine flatL_iff.mpr fun x hx => ?_
    obtain ⟨xs, hxs, rfl⟩ := List.mem_map.mp hx
    simp
    exact flatL_iff.mpr fun y hy => by obtain ⟨k, a, b, _⟩ := hth xs hxs y hy; simp
  have hsl := seal_flat (k := (b :: ms).length) (m := b' :: ms) (l := List.replicate z.toNat .gone) (d := .lst (L.map D.lst)) rfl (hm b' hbb) hfl
  simp only [List.cons_append] at hf hsl
  generalize (D.int z) = Z at *
  generalize D.lst (L.map D.lst) = R at *
  have hln : ([D.lst []] : List D).length = 1 := rfl
  simp only [List.length_cons] at hf
  rw [List.map_replicate] at e
  simp [runF, elc none none, e, hf]
  simpa using hsl
end P54
end DL

/-! K54l: bent -/
namespace DL
open PySem PySem.Spec PyProof.Rows L2
namespace P54
theorem cmp_ne_nil {t w l h : Int} {m : Me} {p : Nat} {xs : List D} (P : Prg) (hg : m[p]? = some (.lst xs)) (hx : ∀ x ∈ xs, x ∈ TH t w l h) : cmpP P .NotEq (.loc p) (.lst []) m = .ok (.bl (!xs.isEmpty)) m := by
  have hv := vw_at hg
  have p1 : py m (.loc p) = some (.list (xs.map pyT)) := py_lst hv fun y hy => py_item (isTh_TH (hx y hy)) m 57
  have p2 : py m (.lst []) = some (.list []) := rfl
  have s2 : SeqAt.shaped (.list (xs.map pyT)) = true := by
    have c := canLayAll_map (f := pyT) (xs := xs) fun y hy => (shaped_item (isTh_TH (hx y hy))).1
    have d := depthAll_map (f := pyT) (n := 1) (xs := xs) fun y hy => (shaped_item (isTh_TH (hx y hy))).2
    simp [SeqAt.shaped, PyData.canLay0, PyData.depth, c]; omega
  have e := eqB_py p1 p2 s2 (by decide) (fun _ z => by rw [hv] at z; cases z) (fun _ z => by rw [hv] at z; cases z) (fun _ z => by rw [hv] at z; cases z)
  have e2 : cmpP P .NotEq (.loc p) (.lst []) m = neD (.loc p) (.lst []) m := by
    unfold cmpP; rw [hv]; rfl
  rw [e2]
  unfold neD
  rw [e]
  cases xs <;> simp [PyData.eqv, PyData.eqvAll]
def b24in : List DL.St := [
    .asg (.name 5) (.app (.cst (.fn 14)) [.var 0, .var 3] [] []),
    .ite (.and (.val (.cmp .Eq (.app (.cst (.fn 13)) [.var 0, .cst (.int 2)] [] []) (.cst (.int 0)))) (.val (.cmp .NotEq (.var 5) (.lst false [])))) [
      .exp (.meth (.var 5) 41 (some .pop) false [.app (.cst (.fn 13)) [.var 0, .blt .len false [.var 5]] [] []] [] [])] [
      .exp (.meth (.var 5) 40 (some .insert) false [.app (.cst (.fn 13)) [.var 0, .bin .add false (.blt .len false [.var 5]) (.cst (.int 1))] [] [], .app (.cst (.fn 14)) [.var 0, .var 2] [] []] [] [])]]
theorem bent_turn (n : Nat) {t w l h : Int} {b : MO} {c : Nat} {ms : Me} {L : List (List D)} {parts : List D} (hb : BgO c b) (hc : c < 50000) (h0 : 1 ≤ L.length) (h1 : L.length ≤ 900) (hL : ∀ xs ∈ L, xs.length ≤ 900) (hT : ∀ xs ∈ L, ∀ x ∈ xs, x ∈ TH t w l h)
    (hp : ∀ x ∈ parts, x ∈ TH t w l h) (p0 : 1 ≤ parts.length) (p1 : parts.length ≤ 24) (lots d : D) (x4 x5 : Option D) :
    ∃ (b' : MO) (L' : List (List D)) (x5' : Option D), bodyF (PP (n + 2)) (.name 4) b24in d [some (.loc 0), some lots, some (.lst parts), some (.lst (locsL (ms.length + 1) L.length)), x4, x5] (b :: (ms ++ L.map MO.lst)) =
      .ok .nx [some (.loc 0), some lots, some (.lst parts), some (.lst (locsL (ms.length + 1) L.length)), some d, x5'] (b' :: (ms ++ L'.map MO.lst)) ∧
      L'.length = L.length ∧ (∀ xs ∈ L', ∀ x ∈ xs, x ∈ TH t w l h) ∧ (∀ N, (∀ xs ∈ L, xs.length ≤ N) → ∀ xs ∈ L', xs.length ≤ N + 1) ∧ BgO (c + 4) b' := by
  obtain ⟨i, x, b1, hx, e1, hb1⟩ := a14 n (xs := locsL (ms.length + 1) L.length) (ms := ms ++ L.map MO.lst) hb (by rw [locsL_len]; omega) (by rw [locsL_len]; omega) (by omega)
  obtain ⟨hi, rfl⟩ := locsL_get' hx
  have hg : ∀ b, (b :: (ms ++ L.map MO.lst))[ms.length + 1 + i]? = some (.lst L[i]) := fun b => tb_get (b :: ms) L i hi
  have hmi := List.getElem_mem hi
  have hl := hL _ hmi
  obtain ⟨r, b2, e2, r0, r1, hb2⟩ := a13 (n + 1) (k := 2) (ms := ms ++ L.map MO.lst) hb1 (by omega) (by decide) (by omega)
  have hlen : ∃ z : Int, (∀ (P : Prg) (b : MO), bltD P .len false [.loc (ms.length + 1 + i)] (b :: (ms ++ L.map MO.lst)) = .ok (.int z) (b :: (ms ++ L.map MO.lst))) ∧ z = L[i].length :=
    ⟨L[i].length, fun P b => len_loc P _ false (hg b), rfl⟩
  obtain ⟨z, hz, hzl⟩ := hlen
  have hcal : ∀ (P : Prg) (b : MO), calleeD P (b :: (ms ++ L.map MO.lst)) (.loc (ms.length + 1 + i)) 40 (some .insert) [] = some (.inr .insert) := fun P b => callee_lst (vw_at (hg b)) rfl
  have hcal2 : ∀ (P : Prg) (b : MO), calleeD P (b :: (ms ++ L.map MO.lst)) (.loc (ms.length + 1 + i)) 41 (some .pop) [] = some (.inr .pop) := fun P b => callee_lst (vw_at (hg b)) rfl
  have hne : ∀ (P : Prg) (b : MO), cmpP P .NotEq (.loc (ms.length + 1 + i)) (.lst []) (b :: (ms ++ L.map MO.lst)) = .ok (.bl (!L[i].isEmpty)) (b :: (ms ++ L.map MO.lst)) := fun P b => cmp_ne_nil P (hg b) (hT _ hmi)
  have hset : ∀ (b : MO) (Y : List D), (b :: (ms ++ L.map MO.lst)).set (ms.length + 1 + i) (.lst Y) = b :: (ms ++ (L.set i Y).map MO.lst) := fun b Y => tb_set (b :: ms) L i Y
  -- what stands in the new table
  have mk : ∀ (Y : List D), (∀ x ∈ Y, x ∈ L[i] ∨ x ∈ parts) → Y.length ≤ L[i].length + 1 → (L.set i Y).length = L.length ∧ (∀ xs ∈ L.set i Y, ∀ x ∈ xs, x ∈ TH t w l h) ∧ (∀ N, (∀ xs ∈ L, xs.length ≤ N) → ∀ xs ∈ L.set i Y, xs.length ≤ N + 1) := by
    intro Y hY hYl
    refine ⟨by simp, fun xs hxs x hx => ?_, fun N hN xs hxs => ?_⟩
    · rcases set_mem hxs with q | rfl
      · exact hT xs q x hx
      · rcases hY x hx with q | q
        · exact hT _ hmi x q
        · exact hp x q
    · rcases set_mem hxs with q | rfl
      · have := hN xs q; omega
      · have := hN _ hmi; omega
  by_cases hcond : r = 0 ∧ L[i].isEmpty = false
  · obtain ⟨rfl, hemp⟩ := hcond
    have hpos : 0 < L[i].length := by
      cases hq : L[i] with
      | nil => rw [hq] at hemp; simp at hemp
      | cons _ _ => simp
    obtain ⟨r3, b3, e3, q0, q1, hb3⟩ := a13 (n + 1) (k := z) (ms := ms ++ L.map MO.lst) hb2 (by omega) (by omega) (by omega)
    obtain ⟨y, hpop⟩ := pop_at (hg b3) false r3 q0 (by omega) (by omega)
    rw [hset] at hpop
    obtain ⟨m1, m2, m3⟩ := mk (L[i].eraseIdx r3.toNat) (fun x hx => .inl (List.mem_of_mem_eraseIdx hx)) (by have := List.length_eraseIdx_le L[i] r3.toNat; omega)
    refine ⟨b3, L.set i (L[i].eraseIdx r3.toNat), some (.loc (ms.length + 1 + i)), ?_, m1, m2, m3, hb3.mono (by omega)⟩
    unfold b24in
    generalize L[i].eraseIdx r3.toNat = Y at *
    simp [e1, e2, hne, hemp, hcal2, hz, e3, hpop]
  · obtain ⟨r3, b3, e3, q0, q1, hb3⟩ := a13 (n + 1) (k := z + 1) (ms := ms ++ L.map MO.lst) hb2 (by omega) (by omega) (by omega)
    obtain ⟨j, y, b4, hy, e4, hb4⟩ := a14 n (xs := parts) (ms := ms ++ L.map MO.lst) hb3 (by omega) (by omega) (by omega)
    have hins := ins_at (hg b4) false r3 y q0 (by omega) (by rw [sizeLine_v]; omega)
    rw [hset] at hins
    obtain ⟨m1, m2, m3⟩ := mk (L[i].take r3.toNat ++ [y] ++ L[i].drop r3.toNat) (fun x hx => by
      have := (insert_perm L[i] y r3.toNat).mem_iff.mp hx
      rcases List.mem_cons.mp this with rfl | q
      · exact .inr (List.mem_of_getElem? hy)
      · exact .inl q) (by have := (insert_perm L[i] y r3.toNat).length_eq; simp only [List.length_cons] at this; omega)
    refine ⟨b4, L.set i (L[i].take r3.toNat ++ [y] ++ L[i].drop r3.toNat), some (.loc (ms.length + 1 + i)), ?_, m1, m2, m3, hb4.mono (by omega)⟩
    unfold b24in
    generalize L[i].take r3.toNat ++ [y] ++ L[i].drop r3.toNat = Y at *
    by_cases hr : r = 0
    · have hemp : L[i].isEmpty = true := by
        cases hq : L[i].isEmpty with
        | true => rfl
        | false => exact (hcond ⟨hr, hq⟩).elim
      subst hr
      simp [e1, e2, hne, hemp, hcal, hz, e3, e4, hins]
    · simp [e1, e2, hr, hcal, hz, e3, e4, hins]
/-- bent -/
theorem s24 (n : Nat) {t w l h : Int} {b : MO} {c : Nat} {ms : Me} {L : List (List D)} {parts : List D} (hb : BgO c b) (hc : c < 40000) (hm : ∀ b', BgO (c + 20) b' → Cl (b' :: ms)) (h0 : 1 ≤ L.length) (h1 : L.length ≤ 5) (hL : ∀ xs ∈ L, xs.length ≤ 100) (hT : ∀ xs ∈ L, ∀ x ∈ xs, x ∈ TH t w l h)
    (hp : ∀ x ∈ parts, x ∈ TH t w l h) (p0 : 1 ≤ parts.length) (p1 : parts.length ≤ 24) :
    ∃ (b' : MO) (L' : List (List D)), (PP (n + 3)).call 24 [.loc 0, .lst (L.map .lst), .lst parts] (b :: ms) = .ok (.lst (L'.map .lst)) (b' :: ms) ∧ L'.length = L.length ∧ (∀ xs ∈ L', ∀ x ∈ xs, x ∈ TH t w l h) ∧ (∀ xs ∈ L', xs.length ≤ 104) ∧ BgO (c + 20) b' := by
  rw [call24]
  have ec := a21 (n + 1) L (b :: ms) h0 (by omega)
  obtain ⟨r, b1, e1, r0, r1, hb1⟩ := a13 (n + 1) (k := 4) (ms := ms ++ L.map MO.lst) hb (by omega) (by decide) (by omega)
  have hr : rngI [.int r] = some (.fix (rngL 0 r.toNat)) := rng1 r0 (by omega)
  obtain ⟨env', m', e, b', L', x4, x5, rfl, rfl, k1, k2, k3, hb'⟩ := loop_inv (v := .fix (rngL 0 r.toNat)) (f := bodyF (PP (n + 2)) (.name 4) b24in)
    (fun pre env m' => ∃ (b' : MO) (L' : List (List D)) (x4 x5 : Option D), env = [some (.loc 0), some (.lst (L.map .lst)), some (.lst parts), some (.lst (locsL (ms.length + 1) L.length)), x4, x5] ∧ m' = b' :: (ms ++ L'.map MO.lst) ∧
      L'.length = L.length ∧ (∀ xs ∈ L', ∀ x ∈ xs, x ∈ TH t w l h) ∧ (∀ xs ∈ L', xs.length ≤ 100 + pre.length) ∧ BgO (c + 1 + 4 * pre.length) b')
    (fun _ _ _ _ => trivial) (rngL 0 r.toNat) [] [some (.loc 0), some (.lst (L.map .lst)), some (.lst parts), some (.lst (locsL (ms.length + 1) L.length)), none, none] (b1 :: (ms ++ L.map MO.lst))
    (fun pr d po env m' eq i => by
      obtain ⟨b', L', x4, x5, rfl, rfl, k1, k2, k3, hb'⟩ := i
      have hpr := pre_len (show rngL 0 r.toNat = pr ++ d :: po by simpa using eq)
      obtain ⟨b2, L2, x5', e2, j1, j2, j3, hb2⟩ := bent_turn n hb' (by omega) (by omega) (by omega) (fun xs hxs => by have := k3 xs hxs; omega) k2 hp p0 p1 (.lst (L.map .lst)) d x4 x5
      rw [k1] at e2
      exact ⟨_, _, .inl e2, b2, L2, some d, x5', rfl, rfl, by omega, j2, fun xs hxs => by have := j3 _ k3 xs hxs; simp; omega, hb2.mono (by simp; omega)⟩)
    ⟨b1, L, none, none, rfl, rfl, rfl, hT, fun xs hxs => by have := hL xs hxs; simp; omega, hb1.mono (by simp)⟩
  have rl : (rngL 0 r.toNat).length = r.toNat := by simp [rngL]
  simp only [List.nil_append] at e k3 hb'
  rw [rl] at k3 hb'
  have hth : ∀ xs ∈ L', ∀ x ∈ xs, Thg x := fun xs hxs x hx => thg_TH (k2 xs hxs x hx)
  have hf := frzR_locs L' (b' :: ms) hth (fun xs hxs => by have := k3 xs hxs; omega) (by omega)
  rw [k1] at hf
  have hbb : BgO (c + 20) b' := hb'.mono (by omega)
  refine ⟨b', L', ?_, k1, k2, fun xs hxs => by have := k3 xs hxs; omega, hbb⟩
  have hB : B54.b24 = [.asg (.name 3) (.app (.cst (.fn 21)) [.var 1] [] []), .loop (.name 4) (.range1 (.app (.cst (.fn 13)) [.var 0, .cst (.int 4)] [] [])) b24in, .ret (some (.var 3)) true] := rfl
  rw [hB]
  have hfl : flat (.lst (L'.map D.lst)) = true := by
    simp
    refine flatL_iff.mpr fun x hx => ?_
    obtain ⟨xs, hxs, rfl⟩ := List.mem_map.mp hx
    simp
    exact flatL_iff.mpr fun y hy => by obtain ⟨k, a, b, _⟩ := hth xs hxs y hy; simp
  have hsl := seal_flat (k := (b :: ms).length) (m := b' :: ms) (l := List.replicate L.length .gone) (d := .lst (L'.map D.lst)) rfl (hm b' hbb) hfl
  simp only [List.cons_append, List.length_cons] at hf hsl ec
  generalize D.lst (L'.map D.lst) = R at *
  generalize D.lst (L.map D.lst) = R0 at *
  simp [runF, ec, e1, hr, e, hf]
  simpa using hsl
end P54
end DL

/-! K54m: some lists -/
namespace DL
open PySem PySem.Spec PyProof.Rows L2
/-- an item of a handed list: a tuple, or a place behind it -/
def itm (k : Nat) (pl : Me) : D → Option (List D)
  | .tup ys => some ys
  | .loc p => if k ≤ p then (match pl[p - k]? with | some (.lst ys) => some ys | _ => none) else none
  | _ => none
theorem itm_loc {k : Nat} {pl : Me} {p : Nat} {ys : List D} : itm k pl (.loc p) = some ys ↔ k ≤ p ∧ pl[p - k]? = some (.lst ys) := by
  show (if k ≤ p then (match pl[p - k]? with | some (.lst ys) => some ys | _ => none) else none) = some ys ↔ _
  by_cases h : k ≤ p
  · rw [if_pos h]
    constructor
    · intro q
      refine ⟨h, ?_⟩
      split at q
      · rename_i e; cases q; exact e
      · cases q
    · rintro ⟨_, e⟩
      rw [e]
  · rw [if_neg h]
    constructor
    · intro q; cases q
    · rintro ⟨z, _⟩; exact (h z).elim
theorem itm_vw {M pl : Me} {x : MO} {e : D} {ys : List D} (h : itm (M.length + 1) pl e = some ys) : vwL (M ++ x :: pl) e = some ys := by
  cases e with
  | tup zs => cases h; rfl
  | loc p =>
    obtain ⟨hp, q⟩ := itm_loc.mp h
    have e1 : (M ++ x :: pl)[p]? = pl[p - (M.length + 1)]? := by
      rw [List.getElem?_append_right (by omega), show p - M.length = (p - (M.length + 1)) + 1 from by omega, List.getElem?_cons_succ]
    unfold vwL
    rw [vw_at (e1.trans q)]
  | _ => cases h
theorem itm_app {k : Nat} {pl l : Me} {e : D} {ys : List D} (h : itm k pl e = some ys) : itm k (pl ++ l) e = some ys := by
  cases e with
  | loc p =>
    obtain ⟨hp, q⟩ := itm_loc.mp h
    refine itm_loc.mpr ⟨hp, ?_⟩
    rw [List.getElem?_append_left (List.getElem?_eq_some_iff.mp q).1, q]
  | _ => exact h
theorem tuple_loc {P : Prg} {m : Me} {n : Nat} {xs : List D} (h : m[n]? = some (.lst xs)) (p : Bool) : bltD P .tuple_ p [.loc n] m = .ok (.tup xs) m := by
  have e : bltD P .tuple_ p [.loc n] m = match vw m (.loc n) with
    | .lst xs => newT xs m
    | .tup xs => .ok (.tup xs) m
    | _ => .bad := rfl
  rw [e, vw_at h]; rfl
theorem app_at {m : Me} {n : Nat} {xs : List D} (h : m[n]? = some (.lst xs)) (p : Bool) (y : D) (hl : xs.length < sizeLine) : bmD .append p (.loc n) [y] m = .ok .non (m.set n (.lst (xs ++ [y]))) := by
  unfold bmD
  simp only [h]
  rw [if_pos hl]
namespace P54
/-- what is handed in: as the lots, some things as lists, some machines as tuples -/
structure Hd (t w l h : Int) (k : Nat) (pl : Me) (es : List D) (L : List (List D)) : Prop where
  is : ∃ Ys : List (List D), es.map (itm k pl) = Ys.map some ∧ Ys.map (fun ys => ys.map nrm) = L ∧ ∀ ys ∈ Ys, ∀ y ∈ ys, isTh t w l h y = true
  pf : ∀ o ∈ pl, bndO 0 o = true
  pz : ∀ o ∈ pl, ∃ ys : List D, o = .lst ys ∧ ys.length ≤ 1000
theorem lcGo_bag {f : D → Me → Res (Option D)} {ms : Me} {v : IV} (hv : ∀ m, v.still m) {t w l h : Int} (C : Nat) : ∀ (ds acc : List D) (c : Nat) (b : MO), (∀ d ∈ ds, ∀ c b, BgO c b → c < C → ∃ y b', f d (b :: ms) = .ok (some y) (b' :: ms) ∧ nrm y = d ∧ isTh t w l h y = true ∧ BgO (c + 1) b') →
    BgO c b → c + ds.length ≤ C → acc.length + ds.length ≤ sizeLine → ∃ ys b', lcGo v f acc ds (b :: ms) = .ok (acc ++ ys) (b' :: ms) ∧ ys.map nrm = ds ∧ (∀ y ∈ ys, isTh t w l h y = true) ∧ BgO (c + ds.length) b'
  | [], acc, c, b, _, hb, _, _ => ⟨[], b, by simp [lcGo, stillR, hv], rfl, by simp, hb⟩
  | d :: ds, acc, c, b, hf, hb, hc, hl => by
    simp only [List.length_cons] at hc hl
    obtain ⟨y, b1, e1, n1, t1, hb1⟩ := hf d (by simp) c b hb (by omega)
    obtain ⟨ys, b2, e2, n2, t2, hb2⟩ := lcGo_bag hv C ds (acc ++ [y]) (c + 1) b1 (fun d hd => hf d (by simp [hd])) hb1 (by omega) (by simp; omega)
    refine ⟨y :: ys, b2, ?_, by simp [n1, n2], fun z hz => ?_, hb2.mono (by simp; omega)⟩
    · rw [lcGo, stillR, if_pos (hv _), e1, Res.bindN_ok]
      dsimp only
      rw [if_pos (by omega), e2]
      simp
    · rcases List.mem_cons.mp hz with rfl | hz
      · exact t1
      · exact t2 z hz
def b25lc : Ex := .lc true (.ite (.val (.cmp .Eq (.app (.cst (.fn 13)) [.var 0, .cst (.int 4)] [] []) (.cst (.int 0)))) (.blt .list_ false [.var 5]) (.var 5)) (.name 5) (.seq (.var 3)) [] [5]
def b25in : List DL.St := [
    .asg (.name 4) b25lc,
    .exp (.meth (.var 2) 42 (some .append) false [.ite (.val (.cmp .Eq (.app (.cst (.fn 13)) [.var 0, .cst (.int 3)] [] []) (.cst (.int 0)))) (.blt .tuple_ false [.var 4]) (.var 4)] [] [])]
theorem lst_lc (n : Nat) {t w l h : Int} {b : MO} {c : Nat} {ms : Me} (hb : BgO c b) (xs : List D) (hx : ∀ x ∈ xs, x ∈ TH t w l h) (hl : xs.length ≤ 1000) (hc : c < 50000) (lots x2 : D) (x4 x5 : Option D) :
    ∃ ys b', den (PP (n + 2)) b25lc [some (.loc 0), some lots, some x2, some (.lst xs), x4, x5] (b :: ms) = .ok (.loc (ms.length + 1)) (b' :: (ms ++ [.lst ys])) ∧ ys.map nrm = xs ∧ (∀ y ∈ ys, isTh t w l h y = true) ∧ BgO (c + xs.length) b' := by
  obtain ⟨ys, b', e, n1, t1, hb'⟩ := lcGo_bag (v := .fix xs) (ms := ms) (t := t) (w := w) (l := l) (h := h) (f := turnD (PP (n + 2)) (.name 5) [] (.ite (.val (.cmp .Eq (.app (.cst (.fn 13)) [.var 0, .cst (.int 4)] [] []) (.cst (.int 0)))) (.blt .list_ false [.var 5]) (.var 5)) [some (.loc 0), some lots, some x2, some (.lst xs), x4, none])
    (fun _ => st_fix _ _) 60000 xs [] c b (fun d hd c b hb hc => by
      obtain ⟨r, b', e, _, _, hb'⟩ := a13 (n + 1) (k := 4) (ms := ms) hb (by omega) (by decide) (by omega)
      have hd := hx d hd
      by_cases hr : r = 0
      · subst hr
        obtain ⟨s, i, j, rfl, q⟩ := TH_of hd
        exact ⟨.lst [.str s, .int i, .int j], b', by simp [turnD_eq, e], rfl, isTh3_TH q, hb'⟩
      · exact ⟨d, b', by simp [turnD_eq, e, hr], nrm_TH hd, isTh_TH hd, hb'⟩) hb (by omega) (by rw [sizeLine_v]; simp; omega)
  refine ⟨ys, b', ?_, n1, t1, hb'⟩
  unfold b25lc
  rw [d_lc]
  simp [wipeE, e]
theorem lists_turn (n : Nat) {t w l h : Int} {b : MO} {c : Nat} {ms pl : Me} {es : List D} {pr : List (List D)} (hb : BgO c b) (xs : List D) (hx : ∀ x ∈ xs, x ∈ TH t w l h) (hl : xs.length ≤ 1000) (hc : c < 40000) (H : Hd t w l h (ms.length + 2) pl es pr) (hes : es.length ≤ 1000) (lots : D) (x3 x4 x5 : Option D) :
    ∃ b' es' pl' x4', bodyF (PP (n + 2)) (.name 3) b25in (.lst xs) [some (.loc 0), some lots, some (.loc (ms.length + 1)), x3, x4, x5] (b :: (ms ++ .lst es :: pl)) =
      .ok .nx [some (.loc 0), some lots, some (.loc (ms.length + 1)), some (.lst xs), x4', x5] (b' :: (ms ++ .lst es' :: pl')) ∧ Hd t w l h (ms.length + 2) pl' es' (pr ++ [xs]) ∧ BgO (c + 1001) b' ∧ es'.length = es.length + 1 := by
  obtain ⟨ys, b1, e1, n1, t1, hb1⟩ := lst_lc n (ms := ms ++ .lst es :: pl) hb xs hx hl (by omega) lots (.loc (ms.length + 1)) x4 x5
  obtain ⟨r, b2, e2, _, _, hb2⟩ := a13 (n + 1) (k := 3) (ms := (ms ++ .lst es :: pl) ++ [.lst ys]) hb1 (by omega) (by decide) (by omega)
  have hg : ∀ b : MO, (b :: ((ms ++ .lst es :: pl) ++ [MO.lst ys]))[ms.length + 1]? = some (.lst es) := fun b => by simp
  have hset : ∀ (b : MO) (Y : List D), (b :: ((ms ++ .lst es :: pl) ++ [MO.lst ys])).set (ms.length + 1) (.lst Y) = b :: (ms ++ .lst Y :: (pl ++ [.lst ys])) := fun b Y => by simp
  have hg2 : ∀ b : MO, (b :: ((ms ++ .lst es :: pl) ++ [MO.lst ys]))[(ms ++ .lst es :: pl).length + 1]? = some (.lst ys) := fun b => by
    rw [List.getElem?_cons_succ, List.getElem?_append_right (Nat.le_refl _)]; simp
  have hcal : ∀ (P : Prg) (b : MO), calleeD P (b :: ((ms ++ .lst es :: pl) ++ [MO.lst ys])) (.loc (ms.length + 1)) 42 (some .append) [] = some (.inr .append) := fun P b => callee_lst (vw_at (hg b)) rfl
  obtain ⟨Ys, y1, y2, y3⟩ := H.is
  have hpl : (ms ++ .lst es :: pl).length + 1 = ms.length + 2 + pl.length := by simp; omega
  have hfl : flatL ys = true := flatL_iff.mpr fun y hy => by
    obtain ⟨s, i, j, rfl | rfl, _⟩ := isTh_of (t1 y hy) <;> simp
  -- the item that is handed on
  have key : ∀ e : D, itm (ms.length + 2) (pl ++ [.lst ys]) e = some ys → Hd t w l h (ms.length + 2) (pl ++ [.lst ys]) (es ++ [e]) (pr ++ [xs]) := by
    intro e he
    refine ⟨⟨Ys ++ [ys], ?_, ?_, ?_⟩, ?_, fun o ho => ?_⟩
    · have : es.map (itm (ms.length + 2) (pl ++ [.lst ys])) = es.map (itm (ms.length + 2) pl) := by
        refine List.map_congr_left fun x hx => ?_
        have hs : ∃ zs, itm (ms.length + 2) pl x = some zs := by
          have : itm (ms.length + 2) pl x ∈ Ys.map some := by rw [← y1]; exact List.mem_map.mpr ⟨x, hx, rfl⟩
          obtain ⟨zs, _, q⟩ := List.mem_map.mp this
          exact ⟨zs, q.symm⟩
        obtain ⟨zs, q⟩ := hs
        rw [q, itm_app q]
      rw [List.map_append, this, y1]
      simp [he]
    · simp [y2, n1]
    · intro zs hzs y hy
      rcases List.mem_append.mp hzs with q | q
      · exact y3 zs q y hy
      · simp at q; subst q; exact t1 y hy
    · intro o ho
      rcases List.mem_append.mp ho with q | q
      · exact H.pf o q
      · simp at q; subst q; exact flatL_bnd 0 ys hfl
    · rcases List.mem_append.mp ho with q | q
      · exact H.pz o q
      · simp at q; subst q
        have := congrArg List.length n1
        simp at this
        exact ⟨ys, rfl, by omega⟩
  by_cases hr : r = 0
  · subst hr
    have ha := app_at (hg b2) false (.tup ys) (by rw [sizeLine_v]; omega)
    rw [hset] at ha
    refine ⟨b2, es ++ [.tup ys], pl ++ [.lst ys], some (.loc ((ms ++ .lst es :: pl).length + 1)), ?_, key _ rfl, hb2.mono (by omega), by simp⟩
    have ht := fun P => tuple_loc (P := P) (hg2 b2) false
    generalize (ms ++ .lst es :: pl).length + 1 = q at *
    generalize ((ms ++ .lst es :: pl) ++ [MO.lst ys]) = Z at *
    generalize ms ++ MO.lst es :: pl = Z0 at *
    unfold b25in
    simp [e1, hcal, e2, ht, ha]
  · have ha := app_at (hg b2) false (.loc ((ms ++ .lst es :: pl).length + 1)) (by rw [sizeLine_v]; omega)
    rw [hset] at ha
    refine ⟨b2, es ++ [.loc ((ms ++ .lst es :: pl).length + 1)], pl ++ [.lst ys], some (.loc ((ms ++ .lst es :: pl).length + 1)), ?_, key _ ?_, hb2.mono (by omega), by simp⟩
    · generalize (ms ++ .lst es :: pl).length + 1 = q at *
      generalize ((ms ++ .lst es :: pl) ++ [MO.lst ys]) = Z at *
      generalize ms ++ MO.lst es :: pl = Z0 at *
      unfold b25in
      simp [e1, hcal, e2, hr, ha]
    · rw [hpl]
      refine itm_loc.mpr ⟨by omega, ?_⟩
      have : (pl ++ [MO.lst ys])[ms.length + 2 + pl.length - (ms.length + 2)]? = some (.lst ys) := by
        rw [show ms.length + 2 + pl.length - (ms.length + 2) = pl.length from by omega]; simp
      rw [this]
/-- the list that is handed out, sealed -/
theorem seal_hd {t w l h : Int} {M pl : Me} {es : List D} {L : List (List D)} (hm : Cl M) (H : Hd t w l h (M.length + 1) pl es L) :
    ∃ pl', sealR M.length (.loc M.length) (M ++ .lst es :: pl) = .ok (.loc M.length) (M ++ .lst es :: pl') ∧ Hd t w l h (M.length + 1) pl' es L := by
  by_cases hb : bndO M.length (.lst es) = true
  · refine ⟨[], seal_loc hm hb rfl, ?_⟩
    obtain ⟨Ys, y1, y2, y3⟩ := H.is
    refine ⟨⟨Ys, ?_, y2, y3⟩, by simp, by simp⟩
    rw [← y1]
    refine List.map_congr_left fun x hx => ?_
    have hbx : bnd M.length x = true := by
      have : ∀ (zs : List D), bndL M.length zs = true → ∀ z ∈ zs, bnd M.length z = true := by
        intro zs
        induction zs with
        | nil => intro _ z hz; simp at hz
        | cons a zs ih =>
          intro h z hz
          unfold bndL at h
          obtain ⟨h1, h2⟩ := Bool.and_eq_true_iff.mp h
          rcases List.mem_cons.mp hz with rfl | hz
          · exact h1
          · exact ih h2 z hz
      exact this es hb x hx
    cases x with
    | loc p =>
      unfold bnd at hbx
      have := of_decide_eq_true hbx
      have hs : ∃ zs, itm (M.length + 1) pl (.loc p) = some zs := by
        have : itm (M.length + 1) pl (.loc p) ∈ Ys.map some := by rw [← y1]; exact List.mem_map.mpr ⟨_, hx, rfl⟩
        obtain ⟨zs, _, q⟩ := List.mem_map.mp this
        exact ⟨zs, q.symm⟩
      obtain ⟨zs, q⟩ := hs
      have := (itm_loc.mp q).1
      omega
    | _ => rfl
  · refine ⟨pl, ?_, H⟩
    unfold sealR
    rw [if_neg (by simp)]
    have ht : (M ++ .lst es :: pl).take M.length = M := by simp
    unfold Cl at hm
    rw [ht, if_pos hm]
    simp [MO.live, hb]
theorem s25 (n : Nat) {t w l h : Int} {b : MO} {c : Nat} {ms : Me} {L : List (List D)} (hb : BgO c b) (hc : c < 20000) (hm : ∀ b', BgO (c + 6000) b' → Cl (b' :: ms)) (h1 : L.length ≤ 5) (hL : ∀ xs ∈ L, xs.length ≤ 1000) (hT : ∀ xs ∈ L, ∀ x ∈ xs, x ∈ TH t w l h) :
    ∃ (b' : MO) (es : List D) (pl : Me), (PP (n + 3)).call 25 [.loc 0, .lst (L.map .lst)] (b :: ms) = .ok (.loc (ms.length + 1)) (b' :: (ms ++ .lst es :: pl)) ∧ Hd t w l h (ms.length + 2) pl es L ∧ BgO (c + 6000) b' := by
  rw [call25]
  obtain ⟨env', m', e, b', es, pl, x3, x4, rfl, rfl, H, hl, hb'⟩ := loop_inv (v := .fix (L.map .lst)) (f := bodyF (PP (n + 2)) (.name 3) b25in)
    (fun pre env m' => ∃ (b' : MO) (es : List D) (pl : Me) (x3 x4 : Option D), env = [some (.loc 0), some (.lst (L.map .lst)), some (.loc (ms.length + 1)), x3, x4, none] ∧ m' = b' :: (ms ++ .lst es :: pl) ∧
      Hd t w l h (ms.length + 2) pl es (pre.map asL) ∧ es.length = pre.length ∧ BgO (c + 1001 * pre.length) b')
    (fun _ _ _ _ => trivial) (L.map .lst) [] [some (.loc 0), some (.lst (L.map .lst)), some (.loc (ms.length + 1)), none, none, none] (b :: (ms ++ .lst [] :: []))
    (fun pr d po env m' eq i => by
      obtain ⟨b', es, pl, x3, x4, rfl, rfl, H, hl, hb'⟩ := i
      have eq' : L.map D.lst = pr ++ d :: po := by simpa using eq
      have hpr : pr.length < L.length := by
        have := congrArg List.length eq'
        simp at this; omega
      have hd : d ∈ L.map D.lst := by rw [eq']; simp
      obtain ⟨xs, hxs, rfl⟩ := List.mem_map.mp hd
      obtain ⟨b2, es', pl', x4', e2, H2, hb2, hl2⟩ := lists_turn n hb' xs (hT xs hxs) (hL xs hxs) (by omega) H (by omega) (.lst (L.map .lst)) x3 x4 none
      exact ⟨_, _, .inl e2, b2, es', pl', some (.lst xs), x4', rfl, rfl, by simpa [asL] using H2, by simp; omega, hb2.mono (by simp; omega)⟩)
    ⟨b, [], [], none, none, rfl, rfl, ⟨⟨[], rfl, rfl, by simp⟩, by simp, by simp⟩, rfl, hb.mono (by simp)⟩
  simp only [List.nil_append] at e H hl hb'
  have hLm : (L.map D.lst).map asL = L := by simp [Function.comp_def, asL]
  rw [hLm] at H
  have hbb : BgO (c + 6000) b' := hb'.mono (by simp; omega)
  obtain ⟨pl', hs, H'⟩ := seal_hd (M := b' :: ms) (hm b' hbb) H
  refine ⟨b', es, pl', ?_, H', hbb⟩
  have hB : B54.b25 = [.asg (.name 2) (.lst true []), .loop (.name 3) (.seq (.var 1)) b25in, .ret (some (.var 2)) false] := rfl
  rw [hB]
  simp only [List.cons_append, List.length_cons] at hs
  have hq : ∀ m, seqI m (.lst (L.map D.lst)) = some (.fix (L.map D.lst)) := fun _ => rfl
  generalize D.lst (L.map D.lst) = R0 at *
  simp [runF, hq, e]
  exact hs
end P54
end DL

/-! K54n: counted by the law, judged, kept -/
namespace DL
open PySem PySem.Spec PyProof.Rows L2
theorem allInts_map {α : Type} (f : α → Int) : ∀ (L : List α), allInts (L.map fun x => D.int (f x)) = some (L.map f)
  | [] => rfl
  | x :: L => by rw [List.map_cons, allInts, allInts_map f L]; rfl
namespace P54
section
variable {t w l h : Int}
theorem eq_thing {x y : D} (P : Prg) (m : Me) (hx : x ∈ TH t w l h) (hy : y ∈ TH t w l h) : cmpP P .Eq x y m = .ok (.bl (decide (kTH x = kTH y))) m := by
  have p1 : py m x = some (pyT x) := py_item (isTh_TH hx) m 58
  have p2 : py m y = some (pyT y) := py_item (isTh_TH hy) m 58
  have s1 : ∀ x, x ∈ TH t w l h → SeqAt.shaped (pyT x) = true := fun x hx => by
    have := shaped_item (isTh_TH hx)
    simp [SeqAt.shaped, this.1]; omega
  have hv : ∃ xs, x = .tup xs := by obtain ⟨s, a, b, rfl, _⟩ := TH_of hx; exact ⟨_, rfl⟩
  obtain ⟨xs, rfl⟩ := hv
  have e := eqB_py p1 p2 (s1 _ hx) (s1 _ hy) (fun _ z => by cases z) (fun _ z => by cases z) (fun _ z => by cases z)
  show ofB m (eqB m _ _) = _
  rw [e, eqv_TH hx hy]; rfl
theorem cmp_ne_nilL {m : Me} {xs : List D} (P : Prg) (hx : ∀ x ∈ xs, x ∈ TH t w l h) : cmpP P .NotEq (.lst xs) (.lst []) m = .ok (.bl (!xs.isEmpty)) m := by
  have p1 : py m (.lst xs) = some (.list (xs.map pyT)) := py_lst rfl fun y hy => py_item (isTh_TH (hx y hy)) m 57
  have p2 : py m (.lst []) = some (.list []) := rfl
  have s2 : SeqAt.shaped (.list (xs.map pyT)) = true := by
    have c := canLayAll_map (f := pyT) (xs := xs) fun y hy => (shaped_item (isTh_TH (hx y hy))).1
    have d := depthAll_map (f := pyT) (n := 1) (xs := xs) fun y hy => (shaped_item (isTh_TH (hx y hy))).2
    simp [SeqAt.shaped, PyData.canLay0, PyData.depth, c]; omega
  have e := eqB_py p1 p2 s2 (by decide) (fun _ z => by cases z) (fun _ z => by cases z) (fun _ z => by cases z)
  show ofB m ((eqB m _ _).map (!·)) = _
  rw [e]
  cases xs <;> simp [PyData.eqv, PyData.eqvAll]
/-- how often a thing stands in lots -/
def tms (L : List (List D)) (x : D) : Nat := L.flatten.countP fun y => decide (kTH y = kTH x)
theorem sum_tms (L : List (List D)) (x : D) : (L.map fun xs => ((xs.filter fun y => decide (kTH y = kTH x)).length : Int)).sum = (tms L x : Int) := by
  unfold tms
  induction L with
  | nil => rfl
  | cons y L ih =>
    rw [List.map_cons, List.sum_cons, ih, List.flatten_cons, List.countP_append, ← List.countP_eq_length_filter]
    omega
theorem b19_run (P : Prg) (pi : PInfo) (L : List (List D)) (x : D) (m : Me) (hL : L.length ≤ 1000) (hT : ∀ xs ∈ L, ∀ y ∈ xs, y ∈ TH t w l h) (hs : ∀ xs ∈ L, xs.length ≤ 1000) (hx : x ∈ TH t w l h) :
    runF P ⟨pi, 4, B54.b19⟩ [.lst (L.map .lst), x] m = .ok (.int (tms L x)) m := by
  have e : den P (.lc false (.blt .len false [.lc false (.var 3) (.name 3) (.seq (.var 2)) [.val (.cmp .Eq (.var 3) (.var 1))] [3]]) (.name 2) (.seq (.var 0)) [] [2]) [some (.lst (L.map .lst)), some x, none, none] m =
      .ok (.lst (L.map fun xs => .int ((xs.filter fun y => decide (kTH y = kTH x)).length : Int))) m := by
    rw [d_lc]
    simp only [dI_seq, d_var0, Res.bk_ok, seqI_lst, ofO_some, items_fix]
    rw [lcGo_map (fun e => .int (((asL e).filter fun y => decide (kTH y = kTH x)).length : Int)) (st_fix _ _)]
    · simp [Function.comp_def, asL]
    · intro d hd
      obtain ⟨xs, hxs, rfl⟩ := List.mem_map.mp hd
      have e2 : den P (.lc false (.var 3) (.name 3) (.seq (.var 2)) [.val (.cmp .Eq (.var 3) (.var 1))] [3]) [some (.lst (L.map .lst)), some x, some (.lst xs), none] m = .ok (.lst (xs.filter fun y => decide (kTH y = kTH x))) m := by
        rw [d_lc]
        simp only [dI_seq, d_varS, d_var0, Res.bk_ok, seqI_lst, ofO_some, items_fix]
        rw [lcGo_filter (fun y => decide (kTH y = kTH x)) (st_fix _ _)]
        · rfl
        · intro y hy
          have hq := eq_thing P m (hT xs hxs y hy) hx
          by_cases c : kTH y = kTH x <;> simp [turnD_eq, wipeE, hq, c]
        · have := hs xs hxs; rw [sizeLine_v]; omega
      obtain ⟨Z, hZ⟩ : ∃ Z, Z = xs.filter fun y => decide (kTH y = kTH x) := ⟨_, rfl⟩
      rw [← hZ] at e2
      simp [turnD_eq, wipeE, e2, asL, ← hZ]
    · rw [sizeLine_v]; simp; omega
  have hsum : bltD P .sum_ false [.lst (L.map fun xs => .int ((xs.filter fun y => decide (kTH y = kTH x)).length : Int))] m = .ok (.int (tms L x)) m := by
    show ofO m ((allInts _).map fun ns => D.int ns.sum) = _
    rw [allInts_map]
    simp only [Option.map_some, sum_tms, ofO_some]
  generalize (D.int (tms L x)) = R at *
  generalize D.lst (L.map fun xs => .int ((xs.filter fun y => decide (kTH y = kTH x)).length : Int)) = Z at *
  simp [runF, B54.b19, e, hsum]
/-- the law's first wrong thing -/
def wrongL (t w l h : Int) (L : List (List D)) : D := match (TH t w l h).find? fun th => decide (tms L th ≠ 1) with
  | some th => th
  | none => .non
theorem s20 (n : Nat) (ok : Okf t w l h) (L : List (List D)) (m : Me) (hm : Cl m) (hL : L.length ≤ 1000) (hT : ∀ xs ∈ L, ∀ y ∈ xs, y ∈ TH t w l h) (hs : ∀ xs ∈ L, xs.length ≤ 1000) :
    (PP (n + 2)).call 20 [figD t w l h, .lst (L.map .lst)] m = .ok (wrongL t w l h L) m := by
  rw [call20]
  have hl := TH_len ok
  have e : den (PP (n + 1)) (.lc false (.var 3) (.name 3) (.seq (.app (.cst (.fn 16)) [.var 0] [] [])) [.val (.cmp .NotEq (.app (.cst (.fn 19)) [.var 1, .var 3] [] []) (.cst (.int 1)))] [3]) [some (figD t w l h), some (.lst (L.map .lst)), none, none] m =
      .ok (.lst ((TH t w l h).filter fun th => decide (tms L th ≠ 1))) m := by
    rw [d_lc]
    simp only [dI_seq, d_app, d_cst, Res.bk_ok, okFn_fn, prg_fok, fok16, if_true, dL_cons, dL_nil, d_var0, appD_fn, a16 n t w l h m ok hm, seqI_lst, ofO_some, items_fix]
    rw [lcGo_filter (fun th => decide (tms L th ≠ 1)) (st_fix _ _)]
    · rfl
    · intro x hx
      have hr : appF (PP (n + 1)) 19 [.lst (L.map .lst), x] [] [] m = .ok (.int (tms L x)) m := by
        rw [app_pos (pi19 _) rfl, call19, b19_run _ _ L x m hL hT hs hx]
      obtain ⟨z, hz⟩ : ∃ z : Nat, z = tms L x := ⟨_, rfl⟩
      rw [← hz] at hr ⊢
      generalize D.lst (L.map .lst) = R at *
      by_cases c : z = 1
      · subst c; simp [turnD_eq, wipeE, hr]
      · have c' : ¬ (z : Int) = 1 := by omega
        simp [turnD_eq, wipeE, hr, c, c']
    · rw [sizeLine_v]; omega
  have hc := cmp_ne_nilL (t := t) (w := w) (l := l) (h := h) (m := m) (xs := (TH t w l h).filter fun th => decide (tms L th ≠ 1)) (PP (n + 1)) (fun x hx => (List.mem_filter.mp hx).1)
  have hw : wrongL t w l h L = match (TH t w l h).filter fun th => decide (tms L th ≠ 1) with | th :: _ => th | [] => .non := by
    unfold wrongL
    rw [← List.head?_filter]
    cases (TH t w l h).filter fun th => decide (tms L th ≠ 1) <;> rfl
  have hfl : ∀ x ∈ (TH t w l h).filter fun th => decide (tms L th ≠ 1), flat x = true := fun x hx => flatL_iff.mp (flat_TH t w l h) x (List.mem_filter.mp hx).1
  rw [hw]
  generalize (TH t w l h).filter (fun th => decide (tms L th ≠ 1)) = Z at *
  generalize D.lst (L.map .lst) = R at *
  cases Z with
  | nil => simp [runF, B54.b20, e, hc]
  | cons x Z =>
    have hix := ix_head x Z m
    simp at hc
    simp [runF, B54.b20, e, hc, hix]
/-- the code's first wrong thing is the law's -/
theorem wrong_eq {k : Nat} {pl : Me} {es : List D} {L : List (List D)} {m : Me} (H : Hd t w l h k pl es L) (hv : ∀ e ys, itm k pl e = some ys → vwL m e = some ys) : wrongD t w l h (es.flatMap (vwX m)) = wrongL t w l h L ∧
    (∀ e ∈ es, (vwL m e).isSome = true) ∧ (∀ e ∈ es, ∀ x ∈ vwX m e, isTh t w l h x = true) ∧ es.map (fun e => (vwX m e).map nrm) = L ∧ es.length = L.length ∧ ∀ N, (∀ xs ∈ L, xs.length ≤ N) → ∀ e ∈ es, (vwX m e).length ≤ N := by
  obtain ⟨Ys, y1, y2, y3⟩ := H.is
  have hE : ∀ e ∈ es, ∃ ys ∈ Ys, vwL m e = some ys := fun e he => by
    have : itm k pl e ∈ Ys.map some := by rw [← y1]; exact List.mem_map.mpr ⟨e, he, rfl⟩
    obtain ⟨zs, hz, q⟩ := List.mem_map.mp this
    exact ⟨zs, hz, hv e zs q.symm⟩
  have hX : es.map (vwX m) = Ys := by
    have h1 : es.map (fun e => (itm k pl e).getD []) = Ys := by
      have := congrArg (List.map fun o : Option (List D) => o.getD []) y1
      simpa [Function.comp_def] using this
    rw [← h1]
    refine List.map_congr_left fun e he => ?_
    have : itm k pl e ∈ Ys.map some := by rw [← y1]; exact List.mem_map.mpr ⟨e, he, rfl⟩
    obtain ⟨zs, hz, q⟩ := List.mem_map.mp this
    rw [← q]
    simp [vwX, hv e zs q.symm]
  have hflat : es.flatMap (vwX m) = Ys.flatten := by rw [List.flatMap_def, hX]
  have hlen : es.length = Ys.length := by rw [← hX]; simp
  refine ⟨?_, fun e he => ?_, fun e he x hx => ?_, ?_, by rw [hlen, ← y2]; simp, fun N hN e he => ?_⟩
  · rw [hflat]
    unfold wrongD wrongL
    have : ∀ th ∈ TH t w l h, cntK t w l h Ys.flatten (kTH th) = tms L th := by
      intro th _
      unfold cntK tms
      rw [← y2]
      have hy : ∀ y ∈ Ys.flatten, isTh t w l h y = true := fun y hy => by
        obtain ⟨ys, h1, h2⟩ := List.mem_flatten.mp hy
        exact y3 ys h1 y h2
      have e2 : (Ys.map fun ys => ys.map nrm).flatten = Ys.flatten.map nrm := by
        rw [List.map_flatten]
      rw [e2, List.countP_map]
      refine List.countP_congr fun y hy' => ?_
      have hk : kTH (nrm y) = kTH y := by obtain ⟨xs, rfl | rfl⟩ := isTh_seq (hy y hy') <;> rfl
      simp [hy y hy', hk]
    have e3 : ∀ ths : List D, (∀ th ∈ ths, th ∈ TH t w l h) → ths.find? (fun th => decide (cntK t w l h Ys.flatten (kTH th) ≠ 1)) = ths.find? fun th => decide (tms L th ≠ 1) := by
      intro ths
      induction ths with
      | nil => intro _; rfl
      | cons x ths ih =>
        intro hx
        rw [List.find?_cons, List.find?_cons, this x (hx x (by simp)), ih fun y hy => hx y (by simp [hy])]
    rw [e3 _ fun _ h => h] <;> cases (TH t w l h).find? (fun th => decide (tms L th ≠ 1)) <;> rfl
  · obtain ⟨ys, _, q⟩ := hE e he; rw [q]; rfl
  · obtain ⟨ys, hys, q⟩ := hE e he
    have : vwX m e = ys := by simp [vwX, q]
    rw [this] at hx
    exact y3 ys hys x hx
  · rw [← y2, ← hX, List.map_map]; rfl
  · obtain ⟨ys, hys, q⟩ := hE e he
    have : vwX m e = ys := by simp [vwX, q]
    rw [this]
    have := hN (ys.map nrm) (by rw [← y2]; exact List.mem_map.mpr ⟨ys, hys, rfl⟩)
    simpa using this
end
/-! judged -/
theorem b27_run (P : Prg) (pi : PInfo) (fig form told T2 T3 : D) (parts ods : List D) (m M1 M2 M3 M4 : Me) (f15 : P.fok 15 = true) (f16 : P.fok 16 = true) (f5 : P.fok 5 = true) (f23 : P.fok 23 = true)
    (h16 : appF P 16 [fig] [] [] m = .ok (.lst parts) m) (hc : ∀ m, calleeD P m form 14 none [] = some (.inl 2))
    (t1 : appF P 2 [form] [] [] m = .ok told M1) (k1 : appF P 15 [told, .lst parts] [] [] M1 = .ok (.bl true) M1) (t2 : appF P 2 [form] [] [] M1 = .ok T2 M2) (k2 : appF P 15 [T2, .lst parts] [] [] M2 = .ok (.bl true) M2)
    (ca : calleeD P M2 told 42 (some .append) [] = some (.inr .append)) (ap : bmD .append false told [.tup [.str "out", .int 0, .int 0]] M2 = .ok .non M3)
    (t3 : appF P 2 [form] [] [] M3 = .ok T3 M4) (k3 : appF P 15 [T3, .lst parts] [] [] M4 = .ok (.bl true) M4)
    (hp : ∀ d ∈ parts, ∃ d', appF P 5 [form, d] [] [] M4 = .ok (.bl true) M4 ∧ bltD P .list_ false [d] M4 = .ok d' M4 ∧ appF P 5 [] [6, 16] [d', form] M4 = .ok (.bl true) M4)
    (h23 : appF P 23 [fig, form] [] [] M4 = .ok (.lst ods) M4) (hs : ∀ d ∈ ods, appF P 5 [form, d] [] [] M4 = .ok (.bl false) M4) :
    runF P ⟨pi, 6, B54.b27⟩ [fig, form] m = sealR m.length (.bl true) M4 := by
  obtain ⟨env1, e1, x4, rfl⟩ := loop_none (v := .fix parts) (f := bodyF P (.name 4) [
    .ite (.or (.val (.cmp .IsNot (.app (.cst (.fn 5)) [.var 1, .var 4] [] []) (.cst (.bl true)))) (.val (.cmp .IsNot (.app (.cst (.fn 5)) [] [6, 16] [.blt .list_ false [.var 4], .var 1]) (.cst (.bl true))))) [
      .ret (some (.cst (.bl false))) false] []]) (m := M4)
    (fun env => ∃ x4, env = [some fig, some form, some (.lst parts), some told, x4, none]) (st_fix _ _) parts [some fig, some form, some (.lst parts), some told, none, none]
    (fun d hd env i => by
      obtain ⟨x4, rfl⟩ := i
      obtain ⟨d', q1, q2, q3⟩ := hp d hd
      exact ⟨_, by simp [f5, q1, q2, q3], some d, rfl⟩)
    ⟨none, rfl⟩
  obtain ⟨env2, e2, x5, rfl⟩ := loop_none (v := .fix ods) (f := bodyF P (.name 5) [
    .ite (.val (.cmp .IsNot (.app (.cst (.fn 5)) [.var 1, .var 5] [] []) (.cst (.bl false)))) [
      .ret (some (.cst (.bl false))) false] []]) (m := M4)
    (fun env => ∃ x5, env = [some fig, some form, some (.lst parts), some told, x4, x5]) (st_fix _ _) ods [some fig, some form, some (.lst parts), some told, x4, none]
    (fun d hd env i => by
      obtain ⟨x5, rfl⟩ := i
      exact ⟨_, by simp [f5, hs d hd], some d, rfl⟩)
    ⟨none, rfl⟩
  simp [runF, B54.b27, f15, f16, f23, h16, hc, t1, k1, t2, k2, ca, ap, t3, k3, e1, h23, e2, setMany]
theorem s27 (n : Nat) {t w l h : Int} (ok : Okf t w l h) (m : Me) (hm : Cl m) : (PP (n + 3)).call 27 [figD t w l h, formD t w l h] m = .ok (.bl true) m := by
  have hfT := flat_TH t w l h
  have hTl := TH_len ok
  have lk : ∀ (M : Me), appF (PP (n + 2)) 15 [.loc M.length, .lst (TH t w l h)] [] [] (M ++ [.lst (TH t w l h)]) = .ok (.bl true) (M ++ [.lst (TH t w l h)]) := by
    intro M
    have hg : (M ++ [MO.lst (TH t w l h)])[M.length]? = some (.lst (TH t w l h)) := by simp
    have hx : ∀ x ∈ TH t w l h, isTh t w l h x = true := fun x hx => isTh_TH hx
    have p1 : py (M ++ [.lst (TH t w l h)]) (.loc M.length) = some (.list ((TH t w l h).map pyT)) := py_lst (vw_at hg) fun y hy => py_item (hx y hy) _ 57
    have p2 : py (M ++ [.lst (TH t w l h)]) (.lst (TH t w l h)) = some (.list ((TH t w l h).map pyT)) := py_lst rfl fun y hy => py_item (hx y hy) _ 57
    have so : showOk (.list ((TH t w l h).map pyT)) = true := by
      have d := depthAll_map (f := pyT) (n := 1) (xs := TH t w l h) fun y hy => (shaped_item (hx y hy)).2
      have s := showableAll_map (f := pyT) (xs := TH t w l h) fun y hy => (item_shown ok (hx y hy)).2
      have l1 := shown_list (f := pyT) (B := 30) (xs := TH t w l h) fun y hy => (item_shown ok (hx y hy)).1
      unfold showOk
      rw [Bool.and_eq_true, Bool.and_eq_true]
      exact ⟨⟨by simp [PyData.showable, s], decide_eq_true (by simp [PyData.depth]; omega)⟩, decide_eq_true (by rw [sizeLine_v]; omega)⟩
    rw [app_pos (pi15 _) rfl, s15 _ _ _ _ _ p1 p2 so]
  have c1 : Cl (m ++ [.lst (TH t w l h)]) := hm.app1 (bndO_flat _ hfT)
  have c2 : Cl ((m ++ [.lst (TH t w l h)]) ++ [.lst (TH t w l h)]) := c1.app1 (bndO_flat _ hfT)
  have hg : ((m ++ [MO.lst (TH t w l h)]) ++ [MO.lst (TH t w l h)])[m.length]? = some (.lst (TH t w l h)) := by simp
  have ap := app_at hg false (.tup [.str "out", .int 0, .int 0]) (by rw [sizeLine_v]; omega)
  have eM3 : ((m ++ [MO.lst (TH t w l h)]) ++ [MO.lst (TH t w l h)]).set m.length (.lst (TH t w l h ++ [.tup [.str "out", .int 0, .int 0]])) = m ++ [.lst (TH t w l h ++ [.tup [.str "out", .int 0, .int 0]]), .lst (TH t w l h)] := by simp
  rw [eM3] at ap
  have c3 : Cl (m ++ [.lst (TH t w l h ++ [.tup [.str "out", .int 0, .int 0]]), .lst (TH t w l h)]) := hm.app fun x hx => by
    simp only [List.mem_cons, List.not_mem_nil, or_false] at hx
    rcases hx with rfl | rfl
    · exact bndO_flat _ (by simp [hfT])
    · exact bndO_flat _ hfT
  rw [call27, b27_run (PP (n + 2)) _ (figD t w l h) (formD t w l h) (.loc m.length) (.loc (m ++ [MO.lst (TH t w l h)]).length) (.loc (m ++ [MO.lst (TH t w l h ++ [.tup [.str "out", .int 0, .int 0]]), MO.lst (TH t w l h)]).length)
    (TH t w l h) (STR t w l h) m _ _ _ _ (by simp) (by simp) (by simp) (by simp) (a16 _ t w l h m ok hm) (fun m => callee14 _ t w l h m) (ap2 _ t w l h m ok hm) (lk m) (ap2 _ t w l h _ ok c1) (lk _) (callee_lst (vw_at hg) rfl) ap (ap2 _ t w l h _ ok c3) (lk _)
    (fun d hd => by
      obtain ⟨s, a, b, rfl, q⟩ := TH_of hd
      refine ⟨.lst [.str s, .int a, .int b], ?_, rfl, ?_⟩
      · rw [a5 n t w l h _ _ rfl]
        have : isTh t w l h (.tup [.str s, .int a, .int b]) = true := isTh3_TH q
        rw [this]
      · rw [a5k n t w l h _ _ rfl]
        have : isTh t w l h (.lst [.str s, .int a, .int b]) = true := isTh3_TH q
        rw [this])
    (by rw [app_pos (pi23 _) rfl, s23 _ t w l h _ (c3.app1 (bndO_flat _ hfT))])
    (fun d hd => by rw [a5 n t w l h d _ (STR_ok d hd).1, (STR_ok d hd).2])]
  rw [List.append_assoc]
  exact seal_flat rfl hm rfl
end P54
end DL

/-! K54o: kept -/
namespace DL
open PySem PySem.Spec PyProof.Rows L2
namespace P54
def b28in1 : List DL.St := [
    .asg (.name 5) (.app (.cst (.fn 26)) [.var 3, .var 4] [] []),
    .ite (.not (.val (.app (.cst (.fn 15)) [.lst false [.meth (.var 0) 19 none false [.var 4] [] [], .meth (.var 0) 19 none false [] [18] [.blt .list_ false [.var 4]]], .lst false [.var 5, .var 5]] [] []))) [
      .ret (some (.cst (.bl false))) false] []]
def b28in2 : List DL.St := [
    .ite (.val (.cmp .IsNot (.meth (.var 0) 19 none false [.var 6] [] []) (.cst (.non)))) [
      .ret (some (.cst (.bl false))) false] []]
theorem b28_run (P : Prg) (pi : PInfo) (sp form fig lots ll fm mc form2 : D) (z : Int) (parts ods : List D) (S : Str) (m : Me) (f15 : P.fok 15 = true) (f16 : P.fok 16 = true) (f26 : P.fok 26 = true) (f23 : P.fok 23 = true)
    (l1 : bltD P .len false [sp] m = .ok (.int z) m) (l2 : bltD P .len false [lots] m = .ok (.int z) m) (g17 : fldD P sp 17 m = .ok mc m)
    (tt : den P (.blt .tuple_ false [.lc false (.blt .tuple_ false [.var 7]) (.name 7) (.seq (.var 3)) [] [7]]) [some sp, some form, some fig, some lots, none, none, none, none] m = .ok mc m)
    (k1 : appF P 15 [mc, mc] [] [] m = .ok (.bl true) m) (g16 : fldD P sp 16 m = .ok form2 m) (e16 : cmpP P .Eq form2 form m = .ok (.bl true) m) (rp : bltD P .repr_ false [sp] m = .ok (.str S) m)
    (fs : den P (.fstr [.cst (.str "Split("), .fmt (.blt .len false [.var 3]), .cst (.str " machines)")]) [some sp, some form, some fig, some lots, none, none, none, none] m = .ok (.str S) m)
    (h16 : appF P 16 [fig] [] [] m = .ok (.lst parts) m) (hc : ∀ kn, calleeD P m sp 19 none kn = some (.inl 8))
    (hp : ∀ d ∈ parts, ∃ due d', appF P 26 [lots, d] [] [] m = .ok due m ∧ appF P 8 [sp, d] [] [] m = .ok due m ∧ bltD P .list_ false [d] m = .ok d' m ∧ appF P 8 [sp] [18] [d'] m = .ok due m ∧ appF P 15 [.lst [due, due], .lst [due, due]] [] [] m = .ok (.bl true) m)
    (h23 : appF P 23 [fig, form] [] [] m = .ok (.lst ods) m) (hs : ∀ d ∈ ods, appF P 8 [sp, d] [] [] m = .ok .non m) :
    runF P ⟨pi, 8, B54.b28⟩ [sp, form, fig, lots] m = .ok (.bl true) m := by
  obtain ⟨env1, e1, x4, x5, rfl⟩ := loop_none (v := .fix parts) (f := bodyF P (.name 4) b28in1) (m := m)
    (fun env => ∃ x4 x5, env = [some sp, some form, some fig, some lots, x4, x5, none, none]) (st_fix _ _) parts [some sp, some form, some fig, some lots, none, none, none, none]
    (fun d hd env i => by
      obtain ⟨x4, x5, rfl⟩ := i
      obtain ⟨due, d', q1, q2, q3, q4, q5⟩ := hp d hd
      refine ⟨_, ?_, some d, some due, rfl⟩
      unfold b28in1
      simp [f26, f15, q1, q2, q3, q4, q5, hc])
    ⟨none, none, rfl⟩
  obtain ⟨env2, e2, x6, rfl⟩ := loop_none (v := .fix ods) (f := bodyF P (.name 6) b28in2) (m := m)
    (fun env => ∃ x6, env = [some sp, some form, some fig, some lots, x4, x5, x6, none]) (st_fix _ _) ods [some sp, some form, some fig, some lots, x4, x5, none, none]
    (fun d hd env i => by
      obtain ⟨x6, rfl⟩ := i
      refine ⟨_, ?_, some d, rfl⟩
      unfold b28in2
      simp [hs d hd, hc])
    ⟨none, rfl⟩
  have hB : B54.b28 = [
    .ite (.or (.val (.cmp .NotEq (.blt .len false [.var 0]) (.blt .len false [.var 3]))) (.not (.val (.app (.cst (.fn 15)) [.fld (.var 0) 17, .blt .tuple_ false [.lc false (.blt .tuple_ false [.var 7]) (.name 7) (.seq (.var 3)) [] [7]]] [] [])))) [
      .ret (some (.cst (.bl false))) false] [],
    .ite (.or (.not (.val (.cmp .Eq (.fld (.var 0) 16) (.var 1)))) (.val (.cmp .NotEq (.blt .repr_ false [.var 0]) (.fstr [.cst (.str "Split("), .fmt (.blt .len false [.var 3]), .cst (.str " machines)")])))) [
      .ret (some (.cst (.bl false))) false] [],
    .loop (.name 4) (.seq (.app (.cst (.fn 16)) [.var 2] [] [])) b28in1,
    .loop (.name 6) (.seq (.app (.cst (.fn 23)) [.var 2, .var 1] [] [])) b28in2,
    .ret (some (.cst (.bl true))) false] := rfl
  rw [hB]
  generalize hT : (Ex.blt .tuple_ false [.lc false (.blt .tuple_ false [.var 7]) (.name 7) (.seq (.var 3)) [] [7]]) = T at *
  generalize hF : (Ex.fstr [.cst (.str "Split("), .fmt (.blt .len false [.var 3]), .cst (.str " machines)")]) = F at *
  simp [runF, f15, f16, f23, l1, l2, g17, tt, k1, g16, e16, rp, fs, h16, e1, h23, e2]
theorem due_ok (i : Nat) (hi : i < 5) : showOk (.list [.int i, .int i]) = true := by
  have : i = 0 ∨ i = 1 ∨ i = 2 ∨ i = 3 ∨ i = 4 := by omega
  rcases this with rfl | rfl | rfl | rfl | rfl <;> decide +kernel
theorem callee19 (n : Nat) (t w l h : Int) (L : List (List D)) (m : Me) (kn : List Nat) : calleeD (PP n) m (splitD t w l h L) 19 none kn = some (.inl 8) := by cases n <;> rfl
/-- the split keeps what the law asks -/
theorem s28 (n : Nat) {t w l h : Int} (ok : Okf t w l h) {L : List (List D)} (k : Lots t w l h L) (hall : ∀ x ∈ TH t w l h, ∃ xs ∈ L, x ∈ xs) (m : Me) (hm : Cl m) :
    (PP (n + 4)).call 28 [splitD t w l h L, formD t w l h, figD t w l h, .lst (L.map .lst)] m = .ok (.bl true) m := by
  rw [call28]
  obtain ⟨z, hz⟩ : ∃ z : Int, z = L.length := ⟨_, rfl⟩
  have z0 : 0 ≤ z := by omega
  have z1 : z < 10 := by have := k.n1; omega
  have l1 : bltD (PP (n + 3)) .len false [splitD t w l h L] m = .ok (.int z) m := by rw [len_split _ m (by have := k.n1; omega), hz]
  have l2 : bltD (PP (n + 3)) .len false [.lst (L.map .lst)] m = .ok (.int z) m := by rw [len_lst, List.length_map, hz]
  have rp : bltD (PP (n + 3)) .repr_ false [splitD t w l h L] m = .ok (.str (splitS z)) m := by rw [repr_split _ m k.n1, hz]
  obtain ⟨q1, q2, q3⟩ := splitS_len z z0 z1
  have tt : den (PP (n + 3)) (.blt .tuple_ false [.lc false (.blt .tuple_ false [.var 7]) (.name 7) (.seq (.var 3)) [] [7]]) [some (splitD t w l h L), some (formD t w l h), some (figD t w l h), some (.lst (L.map .lst)), none, none, none, none] m = .ok (.tup (L.map .tup)) m := by
    have : den (PP (n + 3)) (.lc false (.blt .tuple_ false [.var 7]) (.name 7) (.seq (.var 3)) [] [7]) [some (splitD t w l h L), some (formD t w l h), some (figD t w l h), some (.lst (L.map .lst)), none, none, none, none] m = .ok (.lst (L.map .tup)) m := by
      rw [d_lc]
      simp only [dI_seq, d_varS, d_var0, Res.bk_ok, seqI_lst, ofO_some, items_fix]
      rw [lcGo_map (fun e => .tup (asL e)) (st_fix _ _)]
      · simp [Function.comp_def, asL]
      · intro d hd
        obtain ⟨xs, hxs, rfl⟩ := List.mem_map.mp hd
        simp [turnD_eq, wipeE, asL]
      · have := k.n1; rw [sizeLine_v]; simp; omega
    simp [this]
  obtain ⟨a1, a2, a3⟩ := k.tt ok m
  have k1 : appF (PP (n + 3)) 15 [.tup (L.map .tup), .tup (L.map .tup)] [] [] m = .ok (.bl true) m := by
    rw [app_pos (pi15 _) rfl, s15 _ _ _ _ _ a1 a1 a3]
  have e16 := eq_form (n + 2) t w l h t w l h m
  simp only [and_self, decide_true] at e16
  have fs : den (PP (n + 3)) (.fstr [.cst (.str "Split("), .fmt (.blt .len false [.var 3]), .cst (.str " machines)")]) [some (splitD t w l h L), some (formD t w l h), some (figD t w l h), some (.lst (L.map .lst)), none, none, none, none] m = .ok (.str (splitS z)) m := by
    have hf := fmt_int (PP (n + 3)) z m z0 z1
    generalize D.lst (L.map .lst) = R at *
    unfold splitS at q3 ⊢
    simp [l2, hf, q1, q2, q3]
  refine b28_run (PP (n + 3)) _ _ _ _ _ .non .non (.tup (L.map .tup)) (formD t w l h) z (TH t w l h) (STR t w l h) (splitS z) m (by simp) (by simp) (by simp) (by simp) l1 l2 (fld17 _ t w l h L m) tt k1 (fld16 _ t w l h L m) e16 rp fs (a16 _ t w l h m ok hm) (callee19 _ t w l h L m) ?_ ?_ ?_
  · intro x hx
    obtain ⟨i, q1, q2⟩ := s26 (n + 2) k x hx m (hall x hx)
    have hi : i < 5 := by
      obtain ⟨hi, _⟩ := List.findIdx?_eq_some_iff_getElem.mp q2
      have := k.n1; omega
    have hw : ∀ y : D, kTH y = kTH x → whr L (kTH y) = .int i := fun y hy => by unfold whr; rw [hy, q2]
    have hxx := isTh_TH hx
    obtain ⟨s, a, b, rfl, q⟩ := TH_of hx
    refine ⟨.int i, .lst [.str s, .int a, .int b], ?_, ?_, rfl, ?_, ?_⟩
    · rw [app_pos (pi26 _) rfl, q1]
    · rw [app_pos (pi8 _) rfl, s8 _ t w l h m L k _ (okV_isTh hxx), if_pos hxx, hw _ rfl]
    · have hb : bindA ((PP (n + 3)).pi 8) [splitD t w l h L] [18] [.lst [.str s, .int a, .int b]] = some [splitD t w l h L, .lst [.str s, .int a, .int b]] := by rw [pi8]; rfl
      unfold appF
      rw [hb]
      have hl : isTh t w l h (.lst [.str s, .int a, .int b]) = true := isTh3_TH q
      show (PP (n + 3)).call 8 _ m = _
      rw [s8 _ t w l h m L k _ (okV_isTh hl), if_pos hl, hw (.lst [.str s, .int a, .int b]) rfl]
    · rw [app_pos (pi15 _) rfl, s15 _ _ _ _ (.list [.int i, .int i]) rfl rfl (due_ok i hi)]
  · rw [app_pos (pi23 _) rfl, s23 _ t w l h m hm]
  · intro d hd
    rw [app_pos (pi8 _) rfl, s8 _ t w l h m L k d (STR_ok d hd).1, (STR_ok d hd).2]
    rfl
end P54
end DL

/-! K54p: lots that are a split -/
namespace DL
open PySem PySem.Spec PyProof.Rows L2
theorem countP_one {p : D → Bool} : ∀ {xs : List D} {x : D}, x ∈ xs → p x = true → xs.Pairwise (fun a b => p a = true → p b = false) → xs.countP p = 1
  | [], _, h, _, _ => by simp at h
  | y :: xs, x, h, hp, hn => by
    obtain ⟨h1, h2⟩ := List.pairwise_cons.mp hn
    rw [List.countP_cons]
    by_cases c : p y = true
    · have : xs.countP p = 0 := List.countP_eq_zero.mpr fun z hz => by simp [h1 z hz c]
      simp [this, c]
    · rcases List.mem_cons.mp h with rfl | h
      · exact (c hp).elim
      · rw [countP_one h hp h2]; simp [c]
theorem locs_vw : ∀ (L : List (List D)) (M post : Me), (locsL M.length L.length).map (vwX (M ++ (L.map MO.lst ++ post))) = L ∧ ∀ e ∈ locsL M.length L.length, (vwL (M ++ (L.map MO.lst ++ post)) e).isSome = true
  | [], M, post => ⟨rfl, by simp [locsL]⟩
  | xs :: L, M, post => by
    have hg : (M ++ ((xs :: L).map MO.lst ++ post))[M.length]? = some (.lst xs) := by simp
    obtain ⟨i1, i2⟩ := locs_vw L (M ++ [.lst xs]) post
    have e : M ++ ((xs :: L).map MO.lst ++ post) = (M ++ [.lst xs]) ++ (L.map MO.lst ++ post) := by simp
    have el : (M ++ [MO.lst xs]).length = M.length + 1 := by simp
    rw [el] at i1 i2
    have hv : vwL (M ++ ((xs :: L).map MO.lst ++ post)) (.loc M.length) = some xs := by unfold vwL; rw [vw_at hg]
    constructor
    · rw [List.length_cons, locsL, List.map_cons]
      congr 1
      · show (vwL _ _).getD [] = xs
        rw [hv]; rfl
      · rw [e]; exact i1
    · intro z hz
      rw [List.length_cons, locsL] at hz
      rcases List.mem_cons.mp hz with rfl | hz
      · rw [hv]; rfl
      · rw [e]; exact i2 z hz
namespace P54
variable {t w l h : Int}
theorem tms_one {L : List (List D)} (hp : L.flatten.Perm (TH t w l h)) {x : D} (hx : x ∈ TH t w l h) : tms L x = 1 := by
  unfold tms
  rw [hp.countP_eq]
  refine countP_one hx (by simp) ?_
  refine List.Pairwise.imp_of_mem (fun {a b} ha hb hab => ?_) (nodup_TH t w l h)
  intro e
  have e := of_decide_eq_true e
  refine decide_eq_false fun z => hab (((thg_TH ha).inj (thg_TH hb)).mp (e.trans z.symm))
theorem wrongL_non {L : List (List D)} (hp : L.flatten.Perm (TH t w l h)) : wrongL t w l h L = .non := by
  unfold wrongL
  have : (TH t w l h).find? (fun th => decide (tms L th ≠ 1)) = none := List.find?_eq_none.mpr fun x hx => by simp [tms_one hp hx]
  rw [this]
theorem wrong_core {es : List D} {L Ys : List (List D)} {m : Me} (hX : es.map (vwX m) = Ys) (y2 : Ys.map (fun ys => ys.map nrm) = L) (y3 : ∀ ys ∈ Ys, ∀ y ∈ ys, isTh t w l h y = true) : wrongD t w l h (es.flatMap (vwX m)) = wrongL t w l h L := by
  have hflat : es.flatMap (vwX m) = Ys.flatten := by rw [List.flatMap_def, hX]
  rw [hflat]
  unfold wrongD wrongL
  have : ∀ th ∈ TH t w l h, cntK t w l h Ys.flatten (kTH th) = tms L th := by
    intro th _
    unfold cntK tms
    rw [← y2]
    have hy : ∀ y ∈ Ys.flatten, isTh t w l h y = true := fun y hy => by
      obtain ⟨ys, h1, h2⟩ := List.mem_flatten.mp hy
      exact y3 ys h1 y h2
    have e2 : (Ys.map fun ys => ys.map nrm).flatten = Ys.flatten.map nrm := by
      rw [List.map_flatten]
    rw [e2, List.countP_map]
    refine List.countP_congr fun y hy' => ?_
    have hk : kTH (nrm y) = kTH y := by obtain ⟨xs, rfl | rfl⟩ := isTh_seq (hy y hy') <;> rfl
    simp [hy y hy', hk]
  have e3 : ∀ ths : List D, (∀ th ∈ ths, th ∈ TH t w l h) → ths.find? (fun th => decide (cntK t w l h Ys.flatten (kTH th) ≠ 1)) = ths.find? fun th => decide (tms L th ≠ 1) := by
    intro ths
    induction ths with
    | nil => intro _; rfl
    | cons x ths ih =>
      intro hx
      rw [List.find?_cons, List.find?_cons, this x (hx x (by simp)), ih fun y hy => hx y (by simp [hy])]
  rw [e3 _ fun _ h => h] <;> cases (TH t w l h).find? (fun th => decide (tms L th ≠ 1)) <;> rfl
/-- machines that are a split -/
theorem parts_of {es : List D} {L Ys : List (List D)} {m : Me} (hX : es.map (vwX m) = Ys) (hS : ∀ e ∈ es, (vwL m e).isSome = true) (y2 : Ys.map (fun ys => ys.map nrm) = L) (y3 : ∀ ys ∈ Ys, ∀ y ∈ ys, isTh t w l h y = true)
    (n0 : 1 ≤ L.length) (n1 : L.length ≤ 5) (hp : L.flatten.Perm (TH t w l h)) (ok : Okf t w l h) : Parts t w l h m es ∧ es.map (fun e => (vwX m e).map nrm) = L := by
  have hlen : es.length = L.length := by rw [← y2, ← hX]; simp
  have hmem : ∀ e ∈ es, vwX m e ∈ Ys := fun e he => by rw [← hX]; exact List.mem_map.mpr ⟨e, he, rfl⟩
  refine ⟨⟨by omega, by omega, hS, fun e he x hx => y3 _ (hmem e he) x hx, fun e he => ?_, by rw [wrong_core hX y2 y3, wrongL_non hp]⟩, by rw [← y2, ← hX, List.map_map]; rfl⟩
  have h1 : (vwX m e).map nrm ∈ L := by rw [← y2]; exact List.mem_map.mpr ⟨_, hmem e he, rfl⟩
  have h2 := (List.sublist_flatten_of_mem h1).length_le
  have h3 := hp.length_eq
  have h4 := TH_len ok
  rw [List.length_map] at h2
  omega
theorem map_nrm {L : List (List D)} (hT : ∀ xs ∈ L, ∀ x ∈ xs, x ∈ TH t w l h) : L.map (fun ys => ys.map nrm) = L := by
  have : ∀ ys ∈ L, ys.map nrm = ys := fun ys hys => by
    have : ys.map nrm = ys.map id := List.map_congr_left fun x hx => nrm_TH (hT ys hys x hx)
    rw [this, List.map_id]
  have e : L.map (fun ys => ys.map nrm) = L.map id := List.map_congr_left this
  rw [e, List.map_id]
/-- lots that are dealt -/
structure Dealt (t w l h : Int) (L : List (List D)) : Prop where
  n0 : 1 ≤ L.length
  n1 : L.length ≤ 5
  pm : L.flatten.Perm (TH t w l h)
theorem Dealt.th {L : List (List D)} (d : Dealt t w l h L) : ∀ xs ∈ L, ∀ x ∈ xs, x ∈ TH t w l h := fun xs hxs x hx => d.pm.mem_iff.mp (List.mem_flatten.mpr ⟨xs, hxs, hx⟩)
theorem Dealt.sz {L : List (List D)} (d : Dealt t w l h L) (ok : Okf t w l h) : ∀ xs ∈ L, xs.length ≤ 24 := fun xs hxs => by
  have h2 := (List.sublist_flatten_of_mem hxs).length_le
  have h3 := d.pm.length_eq
  have h4 := TH_len ok
  omega
theorem Dealt.lots {L : List (List D)} (d : Dealt t w l h L) (ok : Okf t w l h) : Lots t w l h L := ⟨d.n0, d.n1, d.th, fun xs hxs => by have := d.sz ok xs hxs; omega⟩
theorem Dealt.all {L : List (List D)} (d : Dealt t w l h L) : ∀ x ∈ TH t w l h, ∃ xs ∈ L, x ∈ xs := fun x hx => List.mem_flatten.mp (d.pm.mem_iff.mpr hx)
theorem Dealt.rev {L : List (List D)} (d : Dealt t w l h L) : Dealt t w l h (L.map List.reverse) := by
  refine ⟨by simpa using d.n0, by simpa using d.n1, List.Perm.trans ?_ d.pm⟩
  have : ∀ L : List (List D), (L.map List.reverse).flatten.Perm L.flatten := by
    intro L
    induction L with
    | nil => exact .refl _
    | cons x L ih =>
      simp only [List.map_cons, List.flatten_cons]
      exact (List.reverse_perm x).append ih
  exact this L
/-- of frozen lists -/
theorem Dealt.parts {L : List (List D)} (d : Dealt t w l h L) (ok : Okf t w l h) (m : Me) : Parts t w l h m (L.map .lst) ∧ (L.map D.lst).map (fun e => (vwX m e).map nrm) = L := by
  obtain ⟨h1, h2, h3⟩ := lots_vw m L .lst (.inl rfl)
  refine parts_of (Ys := L) ?_ h1 (map_nrm d.th) (fun ys hys y hy => isTh_TH (d.th ys hys y hy)) d.n0 d.n1 d.pm ok
  rw [List.map_map]
  have : L.map (vwX m ∘ D.lst) = L.map id := List.map_congr_left fun xs hxs => h2 xs hxs
  rw [this, List.map_id]
/-- of places -/
theorem Dealt.partsP {L : List (List D)} (d : Dealt t w l h L) (ok : Okf t w l h) (M post : Me) : Parts t w l h (M ++ (L.map MO.lst ++ post)) (locsL M.length L.length) ∧ (locsL M.length L.length).map (fun e => (vwX (M ++ (L.map MO.lst ++ post)) e).map nrm) = L := by
  obtain ⟨h1, h2⟩ := locs_vw L M post
  exact parts_of (Ys := L) h1 h2 (map_nrm d.th) (fun ys hys y hy => isTh_TH (d.th ys hys y hy)) d.n0 d.n1 d.pm ok
/-- of what is handed in -/
theorem Dealt.partsH {L : List (List D)} (d : Dealt t w l h L) (ok : Okf t w l h) {k : Nat} {pl : Me} {es : List D} {m : Me} (H : Hd t w l h k pl es L) (hv : ∀ e ys, itm k pl e = some ys → vwL m e = some ys) : Parts t w l h m es ∧ es.map (fun e => (vwX m e).map nrm) = L := by
  obtain ⟨e1, e2, e3, e4, e5, e6⟩ := wrong_eq H hv
  refine ⟨⟨by rw [e5]; exact d.n0, by rw [e5]; exact d.n1, e2, e3, e6 1000 fun xs hxs => by have := d.sz ok xs hxs; omega, by rw [e1, wrongL_non d.pm]⟩, e4⟩
/-- heaps behind the bag -/
def ClX (X : Me) : Prop := ∀ o ∈ X, bndO (X.length + 1) o = true
theorem ClX.cl {X : Me} (hX : ClX X) {b : MO} {c : Nat} (hb : BgO c b) : Cl (b :: X) := Cl.mk fun o ho => by
  rcases List.mem_cons.mp ho with rfl | ho
  · exact hb.bnd _
  · exact hX o ho
theorem ClX.app {X Y : Me} (hX : ClX X) (hY : ∀ o ∈ Y, bndO ((X ++ Y).length + 1) o = true) : ClX (X ++ Y) := fun o ho => by
  rcases List.mem_append.mp ho with ho | ho
  · exact bndO_mono (by simp) (hX o ho)
  · exact hY o ho
theorem flat_TH1 {x : D} (hx : x ∈ TH t w l h) : flat x = true := flatL_iff.mp (flat_TH t w l h) x hx
theorem ClX.lots {X : Me} (hX : ClX X) {L : List (List D)} (hT : ∀ xs ∈ L, ∀ x ∈ xs, x ∈ TH t w l h) : ClX (X ++ L.map MO.lst) := hX.app fun o ho => by
  obtain ⟨xs, hxs, rfl⟩ := List.mem_map.mp ho
  exact bndO_flat _ (flatL_iff.mpr fun x hx => flat_TH1 (hT xs hxs x hx))
theorem Hd.clx {X pl : Me} {es : List D} {L : List (List D)} (H : Hd t w l h (X.length + 2) pl es L) (hX : ClX X) : ClX (X ++ .lst es :: pl) := hX.app fun o ho => by
  obtain ⟨Ys, y1, y2, y3⟩ := H.is
  rcases List.mem_cons.mp ho with rfl | ho
  · have key : ∀ zs : List D, (∀ e ∈ zs, bnd ((X ++ .lst es :: pl).length + 1) e = true) → bndL ((X ++ .lst es :: pl).length + 1) zs = true := by
      intro zs
      induction zs with
      | nil => intro _; unfold bndL; rfl
      | cons z zs ih =>
        intro hz
        unfold bndL
        rw [hz z (by simp), ih fun e he => hz e (by simp [he])]; rfl
    refine key es fun e he => ?_
    have : itm (X.length + 2) pl e ∈ Ys.map some := by rw [← y1]; exact List.mem_map.mpr ⟨e, he, rfl⟩
    obtain ⟨zs, hz, q⟩ := List.mem_map.mp this
    cases e with
    | tup ys =>
      have : ys = zs := by injection q.symm
      subst this
      refine flat_bnd _ _ ?_
      simp
      exact flatL_iff.mpr fun y hy => by obtain ⟨s, i, j, rfl | rfl, _⟩ := isTh_of (y3 ys hz y hy) <;> simp
    | loc p =>
      obtain ⟨h1, h2⟩ := itm_loc.mp q.symm
      have := (List.getElem?_eq_some_iff.mp h2).1
      unfold bnd
      exact decide_eq_true (by simp; omega)
    | _ => cases q
  · exact bndO_mono (Nat.zero_le _) (H.pf o ho)
end P54
end DL

/-! K54q: the law's loops -/
namespace DL
open PySem PySem.Spec PyProof.Rows L2
/-- a heap in which lists behind the second place were written -/
structure Inv2 (M : Me) (N : Nat) (m : Me) : Prop where
  len : m.length = M.length
  cl : Cl m
  g0 : m[0]? = M[0]?
  g1 : m[1]? = M[1]?
  ls : ∀ i, 2 ≤ i → i < M.length → ∃ xs, m[i]? = some (.lst xs) ∧ xs.length ≤ N
theorem Cl.set {m : Me} (h : Cl m) {p : Nat} {o : MO} (ho : bndO m.length o = true) : Cl (m.set p o) := Cl.mk fun x hx => by
  rw [List.length_set]
  rcases List.mem_or_eq_of_mem_set hx with q | rfl
  · exact List.all_eq_true.mp h x q
  · exact ho
theorem Inv2.set {M m : Me} {N : Nat} (h : Inv2 M N m) {p : Nat} (h2 : 2 ≤ p) {xs : List D} (hx : bndO m.length (.lst xs) = true) {N' : Nat} (hl : xs.length ≤ N') (hN : N ≤ N') : Inv2 M N' (m.set p (.lst xs)) := by
  refine ⟨by rw [List.length_set, h.len], h.cl.set hx, ?_, ?_, fun i h1 h3 => ?_⟩
  · rw [List.getElem?_set_ne (by omega), h.g0]
  · rw [List.getElem?_set_ne (by omega), h.g1]
  · by_cases e : p = i
    · subst e
      exact ⟨xs, by rw [List.getElem?_set_self (by rw [h.len]; exact h3)], hl⟩
    · obtain ⟨ys, q1, q2⟩ := h.ls i h1 h3
      exact ⟨ys, by rw [List.getElem?_set_ne e, q1], by omega⟩
theorem Inv2.mono {M m : Me} {N N' : Nat} (h : Inv2 M N m) (hN : N ≤ N') : Inv2 M N' m := ⟨h.len, h.cl, h.g0, h.g1, fun i a b => by obtain ⟨xs, q1, q2⟩ := h.ls i a b; exact ⟨xs, q1, by omega⟩⟩
theorem clear_at {m : Me} {n : Nat} {xs : List D} (h : m[n]? = some (.lst xs)) (p : Bool) : bmD .clear p (.loc n) [] m = .ok .non (m.set n (.lst [])) := by
  unfold bmD; simp only [h]
theorem bnd_mem : ∀ {k : Nat} {zs : List D}, bndL k zs = true → ∀ z ∈ zs, bnd k z = true
  | _, [], _, _, h => by simp at h
  | k, a :: zs, h, z, hz => by
    unfold bndL at h
    obtain ⟨h1, h2⟩ := Bool.and_eq_true_iff.mp h
    rcases List.mem_cons.mp hz with rfl | hz
    · exact h1
    · exact bnd_mem h2 z hz
theorem bndL_app {k : Nat} : ∀ {xs ys : List D}, bndL k xs = true → bndL k ys = true → bndL k (xs ++ ys) = true
  | [], _, _, h => h
  | x :: xs, ys, h, g => by
    unfold bndL at h
    obtain ⟨h1, h2⟩ := Bool.and_eq_true_iff.mp h
    rw [List.cons_append, bndL, h1, bndL_app h2 g]; rfl
theorem loopA (P : Prg) (env0 : En) (h7 : 7 < env0.length) (M : Me) (N : Nat) (ds : List D) (hd : ∀ d ∈ ds, ∃ p, d = .loc p ∧ 2 ≤ p ∧ p < M.length) (x7 : Option D) (m0 : Me) (hI : Inv2 M N m0) :
    ∃ x7' m', loopGo (.fix ds) (bodyF P (.name 7) [.exp (.meth (.var 7) 43 (some .clear) false [] [] [])]) ds (env0.set 7 x7) m0 = .ok .nx (env0.set 7 x7') m' ∧ Inv2 M N m' := by
  obtain ⟨env', m', e, x, rfl, h⟩ := loop_inv (v := .fix ds) (f := bodyF P (.name 7) [.exp (.meth (.var 7) 43 (some .clear) false [] [] [])])
    (fun pre env m' => ∃ x, env = env0.set 7 x ∧ Inv2 M N m') (fun _ _ _ _ => st_fix _ _) ds [] (env0.set 7 x7) m0
    (fun pr d po env m' eq i => by
      obtain ⟨x, rfl, h⟩ := i
      have hdm : d ∈ ds := by
        have : ds = pr ++ d :: po := by simpa using eq
        rw [this]; simp
      obtain ⟨p, rfl, p2, p3⟩ := hd d hdm
      obtain ⟨xs, q1, q2⟩ := h.ls p p2 p3
      have hv : den P (.var 7) (env0.set 7 (some (.loc p))) m' = .ok (.loc p) m' := d_var (by rw [List.getElem?_set_self h7])
      have hc := callee_lst (P := P) (nm := 43) (b := .clear) (vw_at q1) rfl
      refine ⟨env0.set 7 (some (.loc p)), m'.set p (.lst []), .inl ?_, _, rfl, h.set p2 (by unfold bndO bndL; rfl) (by simp) (Nat.le_refl _)⟩
      simp [List.set_set, hv, hc, clear_at q1])
    ⟨x7, rfl, hI⟩
  exact ⟨x, m', e, h⟩
theorem loopB (n : Nat) (env0 : En) (h7 : 7 < env0.length) (M : Me) (es : List D) (hes : es.length ≤ 1000) (hM1 : M[1]? = some (.lst es)) (hd : ∀ d ∈ es, (∃ ys, d = .tup ys) ∨ ∃ p, d = .loc p ∧ 2 ≤ p ∧ p < M.length) (x7 : Option D) (m0 : Me) (hI : Inv2 M 1000 m0) :
    ∃ x7' m', loopGo (.mut 1 es) (bodyF (P54.PP n) (.name 7) [.ite (.val (.blt .isinst false [.var 7, .cst (.ty "list")])) [.exp (.meth (.var 7) 42 (some .append) false [.tup [.cst (.str "out"), .cst (.int 0), .cst (.int 0)]] [] [])] []]) es (env0.set 7 x7) m0 = .ok .nx (env0.set 7 x7') m' ∧ Inv2 M 2000 m' := by
  obtain ⟨env', m', e, x, rfl, h⟩ := loop_inv (v := .mut 1 es) (f := bodyF (P54.PP n) (.name 7) [.ite (.val (.blt .isinst false [.var 7, .cst (.ty "list")])) [.exp (.meth (.var 7) 42 (some .append) false [.tup [.cst (.str "out"), .cst (.int 0), .cst (.int 0)]] [] [])] []])
    (fun pre env m' => ∃ x, env = env0.set 7 x ∧ Inv2 M (1000 + pre.length) m') (fun _ _ m' i => by obtain ⟨_, _, h⟩ := i; exact h.g1.trans hM1) es [] (env0.set 7 x7) m0
    (fun pr d po env m' eq i => by
      obtain ⟨x, rfl, h⟩ := i
      have eq' : es = pr ++ d :: po := by simpa using eq
      have hdm : d ∈ es := by rw [eq']; simp
      have hpr : pr.length < 1000 := by
        have := congrArg List.length eq'
        simp at this; omega
      have hv : den (P54.PP n) (.var 7) (env0.set 7 (some d)) m' = .ok d m' := d_var (by rw [List.getElem?_set_self h7])
      rcases hd d hdm with ⟨ys, rfl⟩ | ⟨p, rfl, p2, p3⟩
      · refine ⟨env0.set 7 (some (.tup ys)), m', .inl ?_, _, rfl, h.mono (by simp)⟩
        simp [List.set_set, hv]
      · obtain ⟨xs, q1, q2⟩ := h.ls p p2 p3
        have hc := callee_lst (P := P54.PP n) (nm := 42) (b := .append) (vw_at q1) rfl
        have ha := app_at q1 false (.tup [.str "out", .int 0, .int 0]) (by rw [sizeLine_v]; omega)
        have hi : isiD (P54.PP n) m' (.loc p) (.ty "list") = some true := by rw [isiD_ty _ _ (typ_loc _ _ q1)]; simp
        have hb : bndO m'.length (.lst xs) = true := List.all_eq_true.mp h.cl _ (List.mem_of_getElem? q1)
        refine ⟨env0.set 7 (some (.loc p)), m'.set p (.lst (xs ++ [.tup [.str "out", .int 0, .int 0]])), .inl ?_, _, rfl, h.set p2 (bndL_app hb (flatL_bnd _ _ (by simp))) (by simp; omega) (by simp)⟩
        simp [List.set_set, hv, hi, hc, ha])
    ⟨x7, rfl, hI⟩
  exact ⟨x, m', e, h.mono (by simp; omega)⟩
namespace P54
variable {t w l h : Int}
theorem ix_f0 (t w l h : Int) (m : Me) : ixD (figD t w l h) (.int 0) m = .ok (.int t) m := rfl
theorem ix_f1 (t w l h : Int) (m : Me) : ixD (figD t w l h) (.int 1) m = .ok (.int w) m := rfl
theorem ix_f2 (t w l h : Int) (m : Me) : ixD (figD t w l h) (.int 2) m = .ok (.int l) m := rfl
theorem ix_f3 (t w l h : Int) (m : Me) : ixD (figD t w l h) (.int 3) m = .ok (.int h) m := rfl
theorem wrongL_py (ok : Okf t w l h) (L : List (List D)) : ∃ p, (∀ m, py m (wrongL t w l h L) = some p) ∧ showOk p = true := by
  unfold wrongL
  cases c : (TH t w l h).find? fun th => decide (tms L th ≠ 1) with
  | none => exact ⟨.none, fun m => rfl, by decide +kernel⟩
  | some x =>
    have hx := isTh_TH (List.mem_of_find?_eq_some c)
    refine ⟨pyT x, fun m => py_item hx m 58, ?_⟩
    have s := item_shown ok hx
    have d := shaped_item hx
    unfold showOk
    rw [Bool.and_eq_true, Bool.and_eq_true]
    exact ⟨⟨s.2, decide_eq_true (by omega)⟩, decide_eq_true (by rw [sizeLine_v]; omega)⟩
def b29c : List DL.St := [
    .asg (.name 17) (.app (.cst (.fn 24)) [.var 1, .app (.cst (.fn 14)) [.var 1, .lst false [.var 5, .var 6]] [] [], .var 4] [] []),
    .asg (.name 18) (.app (.cst (.fn 25)) [.var 1, .var 17] [] []),
    .asg (.name 10) (.blt .repr_ false [.var 18]),
    .asg (.name 19) (.app (.cst (.fn 20)) [.var 2, .var 17] [] []),
    .ite (.or (.not (.val (.app (.cst (.fn 15)) [.app (.cst (.fn 6)) [.var 3, .var 18] [] [], .var 19] [] []))) (.not (.val (.app (.cst (.fn 15)) [.app (.cst (.fn 6)) [] [17, 16] [.var 18, .var 3], .var 19] [] [])))) [
      .ret (some (.cst (.bl false))) false] [],
    .ite (.val (.cmp .NotEq (.blt .repr_ false [.var 18]) (.var 10))) [
      .ret (some (.cst (.bl false))) false] []]
theorem c_run (P : Prg) (d fig form parts lots other bent asked due Lp : D) (S : Str) (a0 a7 a8 a9 a11 a12 a13 a14 a15 x10 x16 x17 x18 x19 : Option D) (m m1 m2 m3 : Me)
    (f24 : P.fok 24 = true) (f14 : P.fok 14 = true) (f25 : P.fok 25 = true) (f20 : P.fok 20 = true) (f15 : P.fok 15 = true) (f6 : P.fok 6 = true)
    (h1 : appF P 14 [.loc 0, .lst [lots, other]] [] [] m = .ok Lp m1) (h2 : appF P 24 [.loc 0, Lp, parts] [] [] m1 = .ok bent m2) (h3 : appF P 25 [.loc 0, bent] [] [] m2 = .ok asked m3)
    (h4 : bltD P .repr_ false [asked] m3 = .ok (.str S) m3) (h5 : appF P 20 [fig, bent] [] [] m3 = .ok due m3) (h6 : appF P 6 [form, asked] [] [] m3 = .ok due m3) (h7 : appF P 6 [] [17, 16] [asked, form] m3 = .ok due m3) (h8 : appF P 15 [due, due] [] [] m3 = .ok (.bl true) m3) :
    bodyF P (.name 16) b29c d [a0, some (.loc 0), some fig, some form, some parts, some lots, some other, a7, a8, a9, x10, a11, a12, a13, a14, a15, x16, x17, x18, x19] m =
      .ok .nx [a0, some (.loc 0), some fig, some form, some parts, some lots, some other, a7, a8, a9, some (.str S), a11, a12, a13, a14, a15, some d, some bent, some asked, some due] m3 := by
  unfold b29c
  simp [f24, f14, f25, f20, f15, f6, h1, h2, h3, h4, h5, h6, h7, h8]
theorem c_turn (n : Nat) (ok : Okf t w l h) {b : MO} {c : Nat} {X : Me} {L L2 : List (List D)} (hb : BgO c b) (hc : c < 19000) (hX : ClX X) (d1 : Dealt t w l h L) (d2 : Dealt t w l h L2) (d : D) (a0 a7 a8 a9 a11 a12 a13 a14 a15 x10 x16 x17 x18 x19 : Option D) :
    ∃ b' X' y10 y17 y18 y19, bodyF (PP (n + 10)) (.name 16) b29c d [a0, some (.loc 0), some (figD t w l h), some (formD t w l h), some (.lst (TH t w l h)), some (.lst (L.map .lst)), some (.lst (L2.map .lst)), a7, a8, a9, x10, a11, a12, a13, a14, a15, x16, x17, x18, x19] (b :: X) =
      .ok .nx [a0, some (.loc 0), some (figD t w l h), some (formD t w l h), some (.lst (TH t w l h)), some (.lst (L.map .lst)), some (.lst (L2.map .lst)), a7, a8, a9, y10, a11, a12, a13, a14, a15, some d, y17, y18, y19] (b' :: X') ∧ ClX X' ∧ BgO (c + 6021) b' := by
  obtain ⟨i, x, b1, hx, e1, hb1⟩ := P54.a14 (n + 8) (xs := [.lst (L.map .lst), .lst (L2.map .lst)]) (ms := X) hb (by simp) (by simp) (by omega)
  obtain ⟨Lp, rfl, dp⟩ : ∃ Lp : List (List D), x = .lst (Lp.map .lst) ∧ Dealt t w l h Lp := by
    match i, hx with
    | 0, hx => exact ⟨L, by simpa using hx.symm, d1⟩
    | 1, hx => exact ⟨L2, by simpa using hx.symm, d2⟩
    | i + 2, hx => simp at hx
  have pl0 : 1 ≤ (TH t w l h).length := by
    have := dp.pm.length_eq
    have h0 := ok.t0
    rw [TH_eq, List.length_append, rowT_len]; omega
  obtain ⟨b2, L', e2, k1, k2, k3, hb2⟩ := s24 (n + 7) (ms := X) hb1 (by omega) (fun b' hb' => hX.cl hb') dp.n0 dp.n1 (fun xs hxs => by have := dp.sz ok xs hxs; omega) dp.th (fun x hx => hx) pl0 (TH_len ok)
  obtain ⟨b3, es, pl, e3, H, hb3⟩ := s25 (n + 7) (ms := X) hb2 (by omega) (fun b' hb' => hX.cl hb') (by have := dp.n1; omega) (fun xs hxs => by have := k3 xs hxs; omega) k2
  have hX3 := H.clx hX
  have hcl := hX3.cl hb3
  have hv : ∀ e ys, itm (X.length + 2) pl e = some ys → vwL (b3 :: (X ++ .lst es :: pl)) e = some ys := fun e ys q => itm_vw (M := b3 :: X) (x := .lst es) q
  obtain ⟨w1, w2, w3, w4, w5, w6⟩ := wrong_eq H hv
  have hmach : vwL (b3 :: (X ++ .lst es :: pl)) (.loc (X.length + 1)) = some es := by unfold vwL; rw [show vw (b3 :: (X ++ .lst es :: pl)) (.loc (X.length + 1)) = .lst es from vw_end (b3 :: X) pl es]
  have h6 := s6 (n + 7) t w l h _ ok hcl (.loc (X.length + 1)) es hmach w2 (fun e he x hx => okV_isTh (w3 e he x hx))
  rw [w1] at h6
  have p1 := py_es hmach w2 w3
  have p2 := (pyW_ok ok hmach w2 w3 (w6 1000 fun xs hxs => by have := k3 xs hxs; omega) (by have := dp.n1; omega)).2
  have h5 := s20 (n + 8) ok L' _ hcl (by have := dp.n1; omega) k2 (fun xs hxs => by have := k3 xs hxs; omega)
  obtain ⟨p, q1, q2⟩ := wrongL_py ok L'
  refine ⟨b3, _, _, _, _, _, c_run (PP (n + 10)) d _ _ _ _ _ (.lst (L'.map .lst)) (.loc (X.length + 1)) (wrongL t w l h L') _ (pyW (b3 :: (X ++ .lst es :: pl)) (.loc (X.length + 1))).shown a0 a7 a8 a9 a11 a12 a13 a14 a15 x10 x16 x17 x18 x19 (b :: X) (b1 :: X) (b2 :: X) (b3 :: (X ++ .lst es :: pl))
    (by simp) (by simp) (by simp) (by simp) (by simp) (by simp) e1 ?_ ?_ (repr_py p1 p2) ?_ ?_ ?_ ?_, hX3, hb3.mono (by omega)⟩
  · rw [app_pos (pi24 _) rfl]; exact e2
  · rw [app_pos (pi25 _) rfl]; exact e3
  · rw [app_pos (pi20 _) rfl]; exact h5
  · rw [app_pos (pi6 _) rfl]; exact h6
  · have hbnd : bindA ((PP (n + 10)).pi 6) [] [17, 16] [.loc (X.length + 1), formD t w l h] = some [formD t w l h, .loc (X.length + 1)] := by rw [pi6]; rfl
    unfold appF
    rw [hbnd]
    exact h6
  · rw [app_pos (pi15 _) rfl, s15 _ _ _ _ p (q1 _) (q1 _) q2]
theorem loopC (n : Nat) (ok : Okf t w l h) {b : MO} {c : Nat} {X : Me} {L L2 : List (List D)} (hb : BgO c b) (hc : c < 6900) (hX : ClX X) (d1 : Dealt t w l h L) (d2 : Dealt t w l h L2) (a0 a7 a8 a9 a11 a12 a13 a14 a15 x10 x16 x17 x18 x19 : Option D) :
    ∃ b' X' y10 y16 y17 y18 y19, loopGo (.fix (rngL 0 3)) (bodyF (PP (n + 10)) (.name 16) b29c) (rngL 0 3) [a0, some (.loc 0), some (figD t w l h), some (formD t w l h), some (.lst (TH t w l h)), some (.lst (L.map .lst)), some (.lst (L2.map .lst)), a7, a8, a9, x10, a11, a12, a13, a14, a15, x16, x17, x18, x19] (b :: X) =
      .ok .nx [a0, some (.loc 0), some (figD t w l h), some (formD t w l h), some (.lst (TH t w l h)), some (.lst (L.map .lst)), some (.lst (L2.map .lst)), a7, a8, a9, y10, a11, a12, a13, a14, a15, y16, y17, y18, y19] (b' :: X') ∧ ClX X' ∧ BgO (c + 20000) b' := by
  obtain ⟨env', m', e, b', X', y10, y16, y17, y18, y19, rfl, rfl, hX', hb'⟩ := loop_inv (v := .fix (rngL 0 3)) (f := bodyF (PP (n + 10)) (.name 16) b29c)
    (fun pre env m' => ∃ (b' : MO) (X' : Me) (y10 y16 y17 y18 y19 : Option D), env = [a0, some (.loc 0), some (figD t w l h), some (formD t w l h), some (.lst (TH t w l h)), some (.lst (L.map .lst)), some (.lst (L2.map .lst)), a7, a8, a9, y10, a11, a12, a13, a14, a15, y16, y17, y18, y19] ∧ m' = b' :: X' ∧ ClX X' ∧ BgO (c + 6021 * pre.length) b')
    (fun _ _ _ _ => st_fix _ _) (rngL 0 3) [] _ (b :: X)
    (fun pr d po env m' eq i => by
      obtain ⟨b', X', y10, y16, y17, y18, y19, rfl, rfl, hX', hb'⟩ := i
      have hpr := pre_len (show rngL 0 3 = pr ++ d :: po by simpa using eq)
      obtain ⟨b2, X2, z10, z17, z18, z19, e2, hX2, hb2⟩ := c_turn n ok hb' (by omega) hX' d1 d2 d a0 a7 a8 a9 a11 a12 a13 a14 a15 y10 y16 y17 y18 y19
      exact ⟨_, _, .inl e2, b2, X2, z10, some d, z17, z18, z19, rfl, rfl, hX2, hb2.mono (by simp; omega)⟩)
    ⟨b, X, x10, x16, x17, x18, x19, rfl, rfl, hX, hb.mono (by simp)⟩
  exact ⟨b', X', y10, y16, y17, y18, y19, e, hX', hb'.mono (by simp [rngL])⟩
end P54
end DL

/-! K54r: the law -/
namespace DL
open PySem PySem.Spec PyProof.Rows L2
theorem sq {P : Prg} {s : DL.St} {ss : List DL.St} {env env1 : En} {m m1 : Me} (h : denS P s env m = .ok .nx env1 m1) : denSs P (s :: ss) env m = denSs P ss env1 m1 := by rw [dSs_cons, h]; rfl
theorem seal_bl (k : Nat) (b : Bool) (m : Me) : ∃ m', sealR k (.bl b) m = .ok (.bl b) m' := by
  unfold sealR
  split
  · exact ⟨_, rfl⟩
  · split
    · have : bnd k (.bl b) = true := by unfold bnd; rfl
      simp only [this, if_true]
      exact ⟨_, rfl⟩
    · exact ⟨_, rfl⟩
namespace P54
variable {t w l h : Int}
theorem eqvAll_comm : ∀ {xs ys : List D}, (∀ x ∈ xs, x ∈ TH t w l h) → (∀ x ∈ ys, x ∈ TH t w l h) → PyData.eqvAll (xs.map pyT) (ys.map pyT) = PyData.eqvAll (ys.map pyT) (xs.map pyT)
  | [], [], _, _ => rfl
  | [], _ :: _, _, _ => rfl
  | _ :: _, [], _, _ => rfl
  | x :: xs, y :: ys, hx, hy => by
    simp only [List.map_cons, PyData.eqvAll]
    rw [eqv_TH (hx x (by simp)) (hy y (by simp)), eqv_TH (hy y (by simp)) (hx x (by simp)), eqvAll_comm (fun z hz => hx z (by simp [hz])) fun z hz => hy z (by simp [hz])]
    congr 1
    rw [Bool.eq_iff_iff]
    simp [eq_comm]
theorem eqLL_comm : ∀ {L L' : List (List D)}, (∀ xs ∈ L, ∀ x ∈ xs, x ∈ TH t w l h) → (∀ xs ∈ L', ∀ x ∈ xs, x ∈ TH t w l h) → eqLL L L' = eqLL L' L
  | [], [], _, _ => rfl
  | [], _ :: _, _, _ => rfl
  | _ :: _, [], _, _ => rfl
  | x :: L, y :: L', h1, h2 => by
    have ih := eqLL_comm (L := L) (L' := L') (fun z hz => h1 z (by simp [hz])) fun z hz => h2 z (by simp [hz])
    unfold eqLL at ih ⊢
    simp only [List.map_cons, PyData.eqvAll, PyData.eqv, ih, eqvAll_comm (h1 x (by simp)) (h2 y (by simp))]
/-- what stands behind the second heap -/
theorem inv2_start {M : Me} (hc : Cl M) (hl : ∀ i, 2 ≤ i → i < M.length → ∃ xs, M[i]? = some (.lst xs) ∧ xs.length ≤ 1000) : Inv2 M 1000 M := ⟨rfl, hc, rfl, rfl, hl⟩
theorem inv2_end {M m : Me} {N : Nat} {b : MO} (h : Inv2 M N m) (hb : M[0]? = some b) : ∃ X, m = b :: X ∧ ClX X := by
  have h0 := h.g0
  rw [hb] at h0
  cases m with
  | nil => simp at h0
  | cons a X =>
    simp at h0
    subst h0
    exact ⟨X, rfl, fun o ho => by
      have := List.all_eq_true.mp h.cl o (by simp [ho])
      simpa using this⟩
theorem vw_app {m : Me} {e : D} {xs : List D} (h : vwL m e = some xs) (k : Me) : vw (m ++ k) e = vw m e := by
  cases e with
  | loc n =>
    have : ∃ o, m[n]? = some o := by
      cases q : m[n]? with
      | none => unfold vwL vw at h; simp [q] at h
      | some o => exact ⟨o, rfl⟩
    obtain ⟨o, q⟩ := this
    have q2 : (m ++ k)[n]? = some o := by rw [List.getElem?_append_left (List.getElem?_eq_some_iff.mp q).1, q]
    simp only [vw, q, q2]
  | _ => rfl
theorem pyW_app {m : Me} {e : D} {es : List D} (h1 : vwL m e = some es) (h : ∀ y ∈ es, (vwL m y).isSome = true) (k : Me) : pyW (m ++ k) e = pyW m e := by
  have hy : ∀ y ∈ es, pyV (m ++ k) y = pyV m y := fun y hy => by
    obtain ⟨ys, q⟩ := Option.isSome_iff_exists.mp (h y hy)
    unfold pyV
    rw [vw_app q]
  unfold pyW
  rw [vw_app h1]
  unfold vwL at h1
  split at h1 <;> rename_i q <;> (try cases h1)
  · try simp only [q]
    congr 1; exact List.map_congr_left hy
  · try simp only [q]
    congr 1; exact List.map_congr_left hy
theorem again_lc (P : Prg) (L2 : List (List D)) (a0 a1 a2 a3 a4 a5 : Option D) (m : Me) (h1 : L2.length ≤ 5) :
    den P (.lc false (.blt .list_ true [.var 7]) (.name 7) (.seq (.var 6)) [] [7]) [a0, a1, a2, a3, a4, a5, some (.lst (L2.map .lst)), none, none, none, none, none, none, none, none, none, none, none, none, none] m = .ok (.lst (locsL m.length L2.length)) (m ++ L2.map MO.lst) := by
  rw [d_lc]
  simp only [dI_seq, d_varS, d_var0, Res.bk_ok, seqI_lst, ofO_some, items_fix]
  rw [lcGo_alloc asL (fun _ => st_fix _ _)]
  · simp [asL, Function.comp_def]
  · intro d hd l
    obtain ⟨xs, _, rfl⟩ := List.mem_map.mp hd
    simp [turnD_eq, wipeE, asL]
  · rw [sizeLine_v]; simp; omega
theorem turned_lc (P : Prg) (L : List (List D)) (a0 a1 a2 a3 a4 a6 a7 a8 a9 a10 a11 a12 a13 : Option D) (m : Me) (h1 : L.length ≤ 5) :
    den P (.lc false (.rev false (.var 7)) (.name 7) (.seq (.var 5)) [] [7]) [a0, a1, a2, a3, a4, some (.lst (L.map .lst)), a6, a7, a8, a9, a10, a11, a12, a13, none, none, none, none, none, none] m = .ok (.lst ((L.map List.reverse).map .lst)) m := by
  rw [d_lc]
  simp only [dI_seq, d_varS, d_var0, Res.bk_ok, seqI_lst, ofO_some, items_fix]
  rw [lcGo_map (fun e => .lst (asL e).reverse) (st_fix _ _)]
  · simp [asL, Function.comp_def]
  · intro d hd
    obtain ⟨xs, _, rfl⟩ := List.mem_map.mp hd
    simp [turnD_eq, wipeE, asL, revD]
  · rw [sizeLine_v]; simp; omega
end P54
end DL

/-! K54s: the law, statement by statement -/
namespace DL
open PySem PySem.Spec PyProof.Rows L2
namespace P54
variable {t w l h : Int}
def S0 : DL.St := .asg (.name 1) (.app (.cst (.fn 12)) [.var 0] [] [])
def S1 : DL.St := .asg (.name 2) (.app (.cst (.fn 22)) [.var 1] [] [])
def S2 : DL.St := .par [3, 4] [.app (.cst (.cls 0)) [.ix (.var 2) (.cst (.int 0)), .ix (.var 2) (.cst (.int 1)), .ix (.var 2) (.cst (.int 2)), .ix (.var 2) (.cst (.int 3))] [] [], .app (.cst (.fn 16)) [.var 2] [] []]
def S3 : DL.St := .ite (.not (.val (.app (.cst (.fn 27)) [.var 2, .var 3] [] []))) [
    .ret (some (.cst (.bl false))) false] []
def S4 : DL.St := .asg (.name 5) (.app (.cst (.fn 17)) [.var 1, .var 4, .bin .add false (.cst (.int 1)) (.app (.cst (.fn 13)) [.var 1, .cst (.int 5)] [] [])] [] [])
def S5 : DL.St := .asg (.name 6) (.app (.cst (.fn 17)) [.var 1, .var 4, .bin .add false (.cst (.int 1)) (.app (.cst (.fn 13)) [.var 1, .cst (.int 5)] [] [])] [] [])
def S6 : DL.St := .par [8, 9] [.app (.cst (.fn 25)) [.var 1, .var 5] [] [], .lc false (.blt .list_ true [.var 7]) (.name 7) (.seq (.var 6)) [] [7]]
def S7 : DL.St := .asg (.name 10) (.blt .repr_ false [.var 8])
def S8 : DL.St := .par [11, 12] [.app (.cst (.fn 18)) [.var 3, .var 8] [] [], .app (.cst (.fn 18)) [.var 3, .var 9] [] []]
def S9 : DL.St := .asg (.name 13) (.app (.cst (.fn 18)) [.app (.cst (.cls 0)) [.ix (.var 2) (.cst (.int 0)), .ix (.var 2) (.cst (.int 1)), .ix (.var 2) (.cst (.int 2)), .ix (.var 2) (.cst (.int 3))] [] [], .app (.cst (.fn 21)) [.var 5] [] []] [] [])
def S10 : DL.St := .ite (.val (.cmp .NotEq (.blt .repr_ false [.var 8]) (.var 10))) [
    .ret (some (.cst (.bl false))) false] []
def S11 : DL.St := .loop (.name 7) (.seq (.var 9)) [
    .exp (.meth (.var 7) 43 (some .clear) false [] [] [])]
def S12 : DL.St := .loop (.name 7) (.seq (.var 8)) [
    .ite (.val (.blt .isinst false [.var 7, .cst (.ty "list")])) [
      .exp (.meth (.var 7) 42 (some .append) false [.tup [.cst (.str "out"), .cst (.int 0), .cst (.int 0)]] [] [])] []]
def S13 : DL.St := .ite (.or (.not (.val (.app (.cst (.fn 28)) [.var 11, .var 3, .var 2, .var 5] [] []))) (.not (.val (.app (.cst (.fn 28)) [.var 12, .var 3, .var 2, .var 6] [] [])))) [
    .ret (some (.cst (.bl false))) false] []
def S14 : DL.St := .ite (.or (.not (.val (.cmp .Eq (.var 11) (.var 13)))) (.or (.val (.cmp .NotEq (.var 11) (.var 13))) (.or (.val (.cmp .Eq (.var 11) (.var 5))) (.or (.val (.cmp .Eq (.var 11) (.cst (.non)))) (.not (.val (.var 11))))))) [
    .ret (some (.cst (.bl false))) false] []
def S15 : DL.St := .ite (.or (.val (.cmp .NotEq (.cmp .Eq (.var 11) (.var 12)) (.cmp .Eq (.var 5) (.var 6)))) (.val (.cmp .NotEq (.cmp .NotEq (.var 12) (.var 11)) (.cmp .NotEq (.var 5) (.var 6))))) [
    .ret (some (.cst (.bl false))) false] []
def S16 : DL.St := .asg (.name 14) (.lc false (.rev false (.var 7)) (.name 7) (.seq (.var 5)) [] [7])
def S17 : DL.St := .ite (.val (.cmp .NotEq (.cmp .Eq (.app (.cst (.fn 18)) [.var 3, .var 14] [] []) (.var 11)) (.cmp .Eq (.var 14) (.var 5)))) [
    .ret (some (.cst (.bl false))) false] []
def S18 : DL.St := .asg (.name 15) (.tup [.ix (.var 2) (.cst (.int 0)), .ix (.var 2) (.cst (.int 1)), .ix (.var 2) (.cst (.int 2)), .bin .sub false (.cst (.int 3)) (.ix (.var 2) (.cst (.int 3)))])
def S19 : DL.St := .ite (.val (.cmp .Eq (.app (.cst (.fn 18)) [.app (.cst (.cls 0)) [.ix (.var 15) (.cst (.int 0)), .ix (.var 15) (.cst (.int 1)), .ix (.var 15) (.cst (.int 2)), .ix (.var 15) (.cst (.int 3))] [] [], .lst false [.app (.cst (.fn 16)) [.var 15] [] []]] [] []) (.var 11))) [
    .ret (some (.cst (.bl false))) false] []
def S20 : DL.St := .loop (.name 16) (.range1 (.cst (.int 3))) [
    .asg (.name 17) (.app (.cst (.fn 24)) [.var 1, .app (.cst (.fn 14)) [.var 1, .lst false [.var 5, .var 6]] [] [], .var 4] [] []),
    .asg (.name 18) (.app (.cst (.fn 25)) [.var 1, .var 17] [] []),
    .asg (.name 10) (.blt .repr_ false [.var 18]),
    .asg (.name 19) (.app (.cst (.fn 20)) [.var 2, .var 17] [] []),
    .ite (.or (.not (.val (.app (.cst (.fn 15)) [.app (.cst (.fn 6)) [.var 3, .var 18] [] [], .var 19] [] []))) (.not (.val (.app (.cst (.fn 15)) [.app (.cst (.fn 6)) [] [17, 16] [.var 18, .var 3], .var 19] [] [])))) [
      .ret (some (.cst (.bl false))) false] [],
    .ite (.val (.cmp .NotEq (.blt .repr_ false [.var 18]) (.var 10))) [
      .ret (some (.cst (.bl false))) false] []]
def S21 : DL.St := .ret (some (.and (.cmp .Is (.app (.cst (.fn 6)) [.var 3, .var 5] [] []) (.cst (.non))) (.and (.app (.cst (.fn 15)) [.app (.cst (.fn 6)) [.var 3, .lst false []] [] [], .ix (.var 4) (.cst (.int 0))] [] []) (.app (.cst (.fn 28)) [.var 11, .var 3, .var 2, .var 5] [] [])))) false
theorem b29_eq : B54.b29 = [S0, S1, S2, S3, S4, S5, S6, S7, S8, S9, S10, S11, S12, S13, S14, S15, S16, S17, S18, S19, S20, S21] := rfl
theorem st0 (P : Prg) (sc : D) (m m1 : Me) (f : P.fok 12 = true) (h1 : appF P 12 [sc] [] [] m = .ok (.loc 0) m1) : denS P S0 [some sc, none, none, none, none, none, none, none, none, none, none, none, none, none, none, none, none, none, none, none] m = .ok .nx [some sc, some (.loc 0), none, none, none, none, none, none, none, none, none, none, none, none, none, none, none, none, none, none] m1 := by
  unfold S0
  simp [f, h1]
theorem st1 (P : Prg) (sc fig : D) (m m1 : Me) (f : P.fok 22 = true) (h1 : appF P 22 [.loc 0] [] [] m = .ok fig m1) : denS P S1 [some sc, some (.loc 0), none, none, none, none, none, none, none, none, none, none, none, none, none, none, none, none, none, none] m = .ok .nx [some sc, some (.loc 0), some fig, none, none, none, none, none, none, none, none, none, none, none, none, none, none, none, none, none] m1 := by
  unfold S1
  simp [f, h1]
theorem st2 (P : Prg) (t w l h : Int) (sc form parts : D) (m : Me) (f : P.fok 16 = true) (g : P.mks 0 = true) (h1 : newC P 0 [.int t, .int w, .int l, .int h] [] [] m = .ok form m) (h2 : appF P 16 [figD t w l h] [] [] m = .ok parts m) : denS P S2 [some sc, some (.loc 0), some (figD t w l h), none, none, none, none, none, none, none, none, none, none, none, none, none, none, none, none, none] m = .ok .nx [some sc, some (.loc 0), some (figD t w l h), some form, some parts, none, none, none, none, none, none, none, none, none, none, none, none, none, none, none] m := by
  unfold S2
  simp [f, g, h1, h2, ix_f0, ix_f1, ix_f2, ix_f3, setMany]
theorem st3 (P : Prg) (sc fig form parts : D) (m : Me) (f : P.fok 27 = true) (h1 : appF P 27 [fig, form] [] [] m = .ok (.bl true) m) : denS P S3 [some sc, some (.loc 0), some fig, some form, some parts, none, none, none, none, none, none, none, none, none, none, none, none, none, none, none] m = .ok .nx [some sc, some (.loc 0), some fig, some form, some parts, none, none, none, none, none, none, none, none, none, none, none, none, none, none, none] m := by
  unfold S3
  simp [f, h1]
theorem st4 (P : Prg) (sc fig form parts lots : D) (r : Int) (m m1 m2 : Me) (f : P.fok 17 = true) (g : P.fok 13 = true) (h1 : appF P 13 [.loc 0, .int 5] [] [] m = .ok (.int r) m1) (h2 : appF P 17 [.loc 0, parts, .int (1 + r)] [] [] m1 = .ok lots m2) : denS P S4 [some sc, some (.loc 0), some fig, some form, some parts, none, none, none, none, none, none, none, none, none, none, none, none, none, none, none] m = .ok .nx [some sc, some (.loc 0), some fig, some form, some parts, some lots, none, none, none, none, none, none, none, none, none, none, none, none, none, none] m2 := by
  unfold S4
  simp [f, g, h1, h2]
theorem st5 (P : Prg) (sc fig form parts lots other : D) (r : Int) (m m1 m2 : Me) (f : P.fok 17 = true) (g : P.fok 13 = true) (h1 : appF P 13 [.loc 0, .int 5] [] [] m = .ok (.int r) m1) (h2 : appF P 17 [.loc 0, parts, .int (1 + r)] [] [] m1 = .ok other m2) : denS P S5 [some sc, some (.loc 0), some fig, some form, some parts, some lots, none, none, none, none, none, none, none, none, none, none, none, none, none, none] m = .ok .nx [some sc, some (.loc 0), some fig, some form, some parts, some lots, some other, none, none, none, none, none, none, none, none, none, none, none, none, none] m2 := by
  unfold S5
  simp [f, g, h1, h2]
theorem st6 (P : Prg) (sc fig form parts lots other handed again : D) (m m1 m2 : Me) (f : P.fok 25 = true) (h1 : appF P 25 [.loc 0, lots] [] [] m = .ok handed m1) (h2 : den P (.lc false (.blt .list_ true [.var 7]) (.name 7) (.seq (.var 6)) [] [7]) [some sc, some (.loc 0), some fig, some form, some parts, some lots, some other, none, none, none, none, none, none, none, none, none, none, none, none, none] m1 = .ok again m2) : denS P S6 [some sc, some (.loc 0), some fig, some form, some parts, some lots, some other, none, none, none, none, none, none, none, none, none, none, none, none, none] m = .ok .nx [some sc, some (.loc 0), some fig, some form, some parts, some lots, some other, none, some handed, some again, none, none, none, none, none, none, none, none, none, none] m2 := by
  unfold S6
  simp [f, h1, h2, setMany]
theorem st7 (P : Prg) (sc fig form parts lots other handed again : D) (S : Str) (m : Me) (h1 : bltD P .repr_ false [handed] m = .ok (.str S) m) : denS P S7 [some sc, some (.loc 0), some fig, some form, some parts, some lots, some other, none, some handed, some again, none, none, none, none, none, none, none, none, none, none] m = .ok .nx [some sc, some (.loc 0), some fig, some form, some parts, some lots, some other, none, some handed, some again, some (.str S), none, none, none, none, none, none, none, none, none] m := by
  unfold S7
  simp [h1]
theorem st8 (P : Prg) (sc fig form parts lots other handed again sp sp2 : D) (S : Str) (m : Me) (f : P.fok 18 = true) (h1 : appF P 18 [form, handed] [] [] m = .ok sp m) (h2 : appF P 18 [form, again] [] [] m = .ok sp2 m) : denS P S8 [some sc, some (.loc 0), some fig, some form, some parts, some lots, some other, none, some handed, some again, some (.str S), none, none, none, none, none, none, none, none, none] m = .ok .nx [some sc, some (.loc 0), some fig, some form, some parts, some lots, some other, none, some handed, some again, some (.str S), some sp, some sp2, none, none, none, none, none, none, none] m := by
  unfold S8
  simp [f, h1, h2, setMany]
theorem st9 (P : Prg) (t w l h : Int) (sc form parts lots other handed again sp sp2 cop same : D) (S : Str) (m m1 : Me) (f : P.fok 18 = true) (g : P.fok 21 = true) (k : P.mks 0 = true) (h1 : newC P 0 [.int t, .int w, .int l, .int h] [] [] m = .ok form m) (h2 : appF P 21 [lots] [] [] m = .ok cop m1) (h3 : appF P 18 [form, cop] [] [] m1 = .ok same m1) : denS P S9 [some sc, some (.loc 0), some (figD t w l h), some form, some parts, some lots, some other, none, some handed, some again, some (.str S), some sp, some sp2, none, none, none, none, none, none, none] m = .ok .nx [some sc, some (.loc 0), some (figD t w l h), some form, some parts, some lots, some other, none, some handed, some again, some (.str S), some sp, some sp2, some same, none, none, none, none, none, none] m1 := by
  unfold S9
  simp [f, g, k, h1, h2, h3, ix_f0, ix_f1, ix_f2, ix_f3]
theorem st10 (P : Prg) (sc fig form parts lots other handed again sp sp2 same : D) (S : Str) (m : Me) (h1 : bltD P .repr_ false [handed] m = .ok (.str S) m) : denS P S10 [some sc, some (.loc 0), some fig, some form, some parts, some lots, some other, none, some handed, some again, some (.str S), some sp, some sp2, some same, none, none, none, none, none, none] m = .ok .nx [some sc, some (.loc 0), some fig, some form, some parts, some lots, some other, none, some handed, some again, some (.str S), some sp, some sp2, some same, none, none, none, none, none, none] m := by
  unfold S10
  simp [h1]
theorem st11 (P : Prg) (sc fig form parts lots other handed again sp sp2 same : D) (S : Str) (m m1 : Me) (v : IV) (ds : List D) (y7 : Option D) (h1 : seqI m again = some v) (h2 : v.items = ds)
    (h3 : loopGo v (bodyF P (.name 7) [.exp (.meth (.var 7) 43 (some .clear) false [] [] [])]) ds [some sc, some (.loc 0), some fig, some form, some parts, some lots, some other, none, some handed, some again, some (.str S), some sp, some sp2, some same, none, none, none, none, none, none] m = .ok .nx [some sc, some (.loc 0), some fig, some form, some parts, some lots, some other, y7, some handed, some again, some (.str S), some sp, some sp2, some same, none, none, none, none, none, none] m1) : denS P S11 [some sc, some (.loc 0), some fig, some form, some parts, some lots, some other, none, some handed, some again, some (.str S), some sp, some sp2, some same, none, none, none, none, none, none] m = .ok .nx [some sc, some (.loc 0), some fig, some form, some parts, some lots, some other, y7, some handed, some again, some (.str S), some sp, some sp2, some same, none, none, none, none, none, none] m1 := by
  unfold S11
  simp [h1, h2, h3]
theorem st12 (P : Prg) (sc fig form parts lots other handed again sp sp2 same : D) (S : Str) (m m1 : Me) (v : IV) (ds : List D) (y7 z7 : Option D) (h1 : seqI m handed = some v) (h2 : v.items = ds)
    (h3 : loopGo v (bodyF P (.name 7) [.ite (.val (.blt .isinst false [.var 7, .cst (.ty "list")])) [.exp (.meth (.var 7) 42 (some .append) false [.tup [.cst (.str "out"), .cst (.int 0), .cst (.int 0)]] [] [])] []]) ds [some sc, some (.loc 0), some fig, some form, some parts, some lots, some other, y7, some handed, some again, some (.str S), some sp, some sp2, some same, none, none, none, none, none, none] m = .ok .nx [some sc, some (.loc 0), some fig, some form, some parts, some lots, some other, z7, some handed, some again, some (.str S), some sp, some sp2, some same, none, none, none, none, none, none] m1) : denS P S12 [some sc, some (.loc 0), some fig, some form, some parts, some lots, some other, y7, some handed, some again, some (.str S), some sp, some sp2, some same, none, none, none, none, none, none] m = .ok .nx [some sc, some (.loc 0), some fig, some form, some parts, some lots, some other, z7, some handed, some again, some (.str S), some sp, some sp2, some same, none, none, none, none, none, none] m1 := by
  unfold S12
  simp [h1, h2, h3]
theorem st13 (P : Prg) (sc fig form parts lots other handed again sp sp2 same : D) (y7 : Option D) (S : Str) (m : Me) (f : P.fok 28 = true) (h1 : appF P 28 [sp, form, fig, lots] [] [] m = .ok (.bl true) m) (h2 : appF P 28 [sp2, form, fig, other] [] [] m = .ok (.bl true) m) : denS P S13 [some sc, some (.loc 0), some fig, some form, some parts, some lots, some other, y7, some handed, some again, some (.str S), some sp, some sp2, some same, none, none, none, none, none, none] m = .ok .nx [some sc, some (.loc 0), some fig, some form, some parts, some lots, some other, y7, some handed, some again, some (.str S), some sp, some sp2, some same, none, none, none, none, none, none] m := by
  unfold S13
  simp [f, h1, h2]
theorem st14 (P : Prg) (sc fig form parts lots other handed again sp sp2 same : D) (y7 : Option D) (S : Str) (m : Me) (h1 : cmpP P .Eq sp same m = .ok (.bl true) m) (h2 : cmpP P .NotEq sp same m = .ok (.bl false) m) (h3 : cmpP P .Eq sp lots m = .ok (.bl false) m) (h4 : cmpP P .Eq sp .non m = .ok (.bl false) m) (h5 : truD P sp m = .ok true m) : denS P S14 [some sc, some (.loc 0), some fig, some form, some parts, some lots, some other, y7, some handed, some again, some (.str S), some sp, some sp2, some same, none, none, none, none, none, none] m = .ok .nx [some sc, some (.loc 0), some fig, some form, some parts, some lots, some other, y7, some handed, some again, some (.str S), some sp, some sp2, some same, none, none, none, none, none, none] m := by
  unfold S14
  simp [h1, h2, h3, h4, h5]
theorem st15 (P : Prg) (sc fig form parts lots other handed again sp sp2 same : D) (y7 : Option D) (S : Str) (q q2 : Bool) (m : Me) (h1 : cmpP P .Eq sp sp2 m = .ok (.bl q) m) (h2 : cmpP P .Eq lots other m = .ok (.bl q) m) (h3 : cmpP P .NotEq sp2 sp m = .ok (.bl q2) m) (h4 : cmpP P .NotEq lots other m = .ok (.bl q2) m) : denS P S15 [some sc, some (.loc 0), some fig, some form, some parts, some lots, some other, y7, some handed, some again, some (.str S), some sp, some sp2, some same, none, none, none, none, none, none] m = .ok .nx [some sc, some (.loc 0), some fig, some form, some parts, some lots, some other, y7, some handed, some again, some (.str S), some sp, some sp2, some same, none, none, none, none, none, none] m := by
  unfold S15
  simp [h1, h2, h3, h4]
theorem st16 (P : Prg) (sc fig form parts lots other handed again sp sp2 same turned : D) (y7 : Option D) (S : Str) (m : Me) (h1 : den P (.lc false (.rev false (.var 7)) (.name 7) (.seq (.var 5)) [] [7]) [some sc, some (.loc 0), some fig, some form, some parts, some lots, some other, y7, some handed, some again, some (.str S), some sp, some sp2, some same, none, none, none, none, none, none] m = .ok turned m) : denS P S16 [some sc, some (.loc 0), some fig, some form, some parts, some lots, some other, y7, some handed, some again, some (.str S), some sp, some sp2, some same, none, none, none, none, none, none] m = .ok .nx [some sc, some (.loc 0), some fig, some form, some parts, some lots, some other, y7, some handed, some again, some (.str S), some sp, some sp2, some same, some turned, none, none, none, none, none] m := by
  unfold S16
  simp [h1]
theorem st17 (P : Prg) (sc fig form parts lots other handed again sp sp2 same turned sp3 : D) (y7 : Option D) (S : Str) (q : Bool) (m : Me) (f : P.fok 18 = true) (h1 : appF P 18 [form, turned] [] [] m = .ok sp3 m) (h2 : cmpP P .Eq sp3 sp m = .ok (.bl q) m) (h3 : cmpP P .Eq turned lots m = .ok (.bl q) m) : denS P S17 [some sc, some (.loc 0), some fig, some form, some parts, some lots, some other, y7, some handed, some again, some (.str S), some sp, some sp2, some same, some turned, none, none, none, none, none] m = .ok .nx [some sc, some (.loc 0), some fig, some form, some parts, some lots, some other, y7, some handed, some again, some (.str S), some sp, some sp2, some same, some turned, none, none, none, none, none] m := by
  unfold S17
  simp [f, h1, h2, h3]
theorem st18 (P : Prg) (t w l h : Int) (sc form parts lots other handed again sp sp2 same turned : D) (y7 : Option D) (S : Str) (m : Me)  : denS P S18 [some sc, some (.loc 0), some (figD t w l h), some form, some parts, some lots, some other, y7, some handed, some again, some (.str S), some sp, some sp2, some same, some turned, none, none, none, none, none] m = .ok .nx [some sc, some (.loc 0), some (figD t w l h), some form, some parts, some lots, some other, y7, some handed, some again, some (.str S), some sp, some sp2, some same, some turned, some (figD t w l (3 - h)), none, none, none, none] m := by
  unfold S18
  simp [ix_f0, ix_f1, ix_f2, ix_f3]
theorem st19 (P : Prg) (t w l h : Int) (sc fig form parts lots other handed again sp sp2 same turned form2 parts2 sp4 : D) (y7 : Option D) (S : Str) (m : Me) (f : P.fok 18 = true) (g : P.fok 16 = true) (k : P.mks 0 = true) (h1 : newC P 0 [.int t, .int w, .int l, .int h] [] [] m = .ok form2 m) (h2 : appF P 16 [figD t w l h] [] [] m = .ok parts2 m) (h3 : appF P 18 [form2, .lst [parts2]] [] [] m = .ok sp4 m) (h4 : cmpP P .Eq sp4 sp m = .ok (.bl false) m) : denS P S19 [some sc, some (.loc 0), some fig, some form, some parts, some lots, some other, y7, some handed, some again, some (.str S), some sp, some sp2, some same, some turned, some (figD t w l h), none, none, none, none] m = .ok .nx [some sc, some (.loc 0), some fig, some form, some parts, some lots, some other, y7, some handed, some again, some (.str S), some sp, some sp2, some same, some turned, some (figD t w l h), none, none, none, none] m := by
  unfold S19
  simp [f, g, k, h1, h2, h3, h4, ix_f0, ix_f1, ix_f2, ix_f3]
theorem st20 (P : Prg) (sc fig form parts lots other handed again sp sp2 same turned wider : D) (S : Str) (m m1 : Me) (y7 y10 y16 y17 y18 y19 : Option D)
    (h3 : loopGo (.fix (rngL 0 3)) (bodyF P (.name 16) b29c) (rngL 0 3) [some sc, some (.loc 0), some fig, some form, some parts, some lots, some other, y7, some handed, some again, some (.str S), some sp, some sp2, some same, some turned, some wider, none, none, none, none] m = .ok .nx [some sc, some (.loc 0), some fig, some form, some parts, some lots, some other, y7, some handed, some again, y10, some sp, some sp2, some same, some turned, some wider, y16, y17, y18, y19] m1) : denS P S20 [some sc, some (.loc 0), some fig, some form, some parts, some lots, some other, y7, some handed, some again, some (.str S), some sp, some sp2, some same, some turned, some wider, none, none, none, none] m = .ok .nx [some sc, some (.loc 0), some fig, some form, some parts, some lots, some other, y7, some handed, some again, y10, some sp, some sp2, some same, some turned, some wider, y16, y17, y18, y19] m1 := by
  have hS : S20 = .loop (.name 16) (.range1 (.cst (.int 3))) b29c := rfl
  have hr : rngI [.int 3] = some (.fix (rngL 0 3)) := rng1 (j := 3) (by decide) (by decide)
  rw [hS]
  simp [hr, h3]
theorem st21 (P : Prg) (sc fig form parts lots other handed again sp sp2 same turned wider x : D) (m : Me) (y7 y10 y16 y17 y18 y19 : Option D) (f : P.fok 6 = true) (g : P.fok 15 = true) (k : P.fok 28 = true)
    (h1 : appF P 6 [form, lots] [] [] m = .ok .non m) (h2 : appF P 6 [form, .lst []] [] [] m = .ok x m) (h3 : ixD parts (.int 0) m = .ok x m) (h4 : appF P 15 [x, x] [] [] m = .ok (.bl true) m) (h5 : appF P 28 [sp, form, fig, lots] [] [] m = .ok (.bl true) m) :
    denSs P [S21] [some sc, some (.loc 0), some fig, some form, some parts, some lots, some other, y7, some handed, some again, y10, some sp, some sp2, some same, some turned, some wider, y16, y17, y18, y19] m = .ok (.rt (.bl true)) [some sc, some (.loc 0), some fig, some form, some parts, some lots, some other, y7, some handed, some again, y10, some sp, some sp2, some same, some turned, some wider, y16, y17, y18, y19] m := by
  unfold S21
  simp [f, g, k, h1, h2, h3, h4, h5]
end P54
end DL

/-! K54t: the law holds -/
namespace DL
open PySem PySem.Spec PyProof.Rows L2
namespace P54
theorem law_ok (ns : List Int) (hns : ns.length ≤ 63) : ∃ m, appF (PP 20) 29 [.lst (ns.map .int)] [] [] [] = .ok (.bl true) m := by
  rw [app_pos (pi29 _) rfl, call29]
  generalize hsc : D.lst (ns.map .int) = sc
  -- the bag, the shape
  obtain ⟨b0, e0, hb0⟩ := start_ok 18 ns hns
  rw [hsc] at e0
  obtain ⟨t, w, l, h, b1, e1, ok, hb1⟩ := s22 16 (ms := []) hb0 (by omega)
  have cX0 : ClX [] := by intro o ho; simp at ho
  have c1 : Cl [b1] := cX0.cl hb1
  have n1 := new0 17 t w l h [b1] ok c1
  have p1 := a16 18 t w l h [b1] ok c1
  have j1 := s27 16 ok [b1] c1
  -- the lots
  obtain ⟨r1, b2, e2, r10, r11, hb2⟩ := a13 18 (k := 5) (ms := []) hb1 (by omega) (by decide) (by omega)
  obtain ⟨b3, L, e3, lL, pL, hb3⟩ := s17 16 (t := t) (w := w) (l := l) (h := h) (ms := []) hb2 (by omega) (fun b' hb' => cX0.cl hb') (1 + r1) (by omega) (by omega) (TH t w l h) (fun x hx => hx) (TH_len ok)
  obtain ⟨r2, b4, e4, r20, r21, hb4⟩ := a13 18 (k := 5) (ms := []) hb3 (by omega) (by decide) (by omega)
  obtain ⟨b5, L2, e5, lL2, pL2, hb5⟩ := s17 16 (t := t) (w := w) (l := l) (h := h) (ms := []) hb4 (by omega) (fun b' hb' => cX0.cl hb') (1 + r2) (by omega) (by omega) (TH t w l h) (fun x hx => hx) (TH_len ok)
  have d1 : Dealt t w l h L := ⟨by omega, by omega, pL⟩
  have d2 : Dealt t w l h L2 := ⟨by omega, by omega, pL2⟩
  -- what is handed in
  obtain ⟨b6, es, pl, e6, H, hb6⟩ := s25 16 (t := t) (w := w) (l := l) (h := h) (ms := []) (L := L) hb5 (by omega) (fun b' hb' => cX0.cl hb') (by have := d1.n1; omega) (fun xs hxs => by have := d1.sz ok xs hxs; omega) d1.th
  have cX3 : ClX (.lst es :: pl) := H.clx cX0
  have cX4 : ClX (.lst es :: pl ++ L2.map MO.lst) := cX3.lots d2.th
  have cX5 : ClX ((.lst es :: pl ++ L2.map MO.lst) ++ L.map MO.lst) := cX4.lots d1.th
  -- the heaps
  obtain ⟨H3, hH3⟩ : ∃ H3 : Me, H3 = b6 :: .lst es :: pl := ⟨_, rfl⟩
  obtain ⟨H4, hH4⟩ : ∃ H4 : Me, H4 = H3 ++ L2.map MO.lst := ⟨_, rfl⟩
  obtain ⟨H5, hH5⟩ : ∃ H5 : Me, H5 = H4 ++ L.map MO.lst := ⟨_, rfl⟩
  have cl4 : Cl H4 := by rw [hH4, hH3]; exact cX4.cl hb6
  have cl5 : Cl H5 := by rw [hH5, hH4, hH3]; exact cX5.cl hb6
  have v3 : vwL H3 (.loc 1) = some es := by rw [hH3]; unfold vwL; rw [show vw (b6 :: MO.lst es :: pl) (.loc 1) = .lst es from vw_end [b6] pl es]
  have v4 : vwL H4 (.loc 1) = some es := by rw [hH4]; exact vwL_app v3 _
  have v5 : vwL H5 (.loc 1) = some es := by rw [hH5]; exact vwL_app v4 _
  have hv3 : ∀ e ys, itm 2 pl e = some ys → vwL H3 e = some ys := fun e ys q => by rw [hH3]; exact itm_vw (M := [b6]) (x := .lst es) q
  have hv4 : ∀ e ys, itm 2 pl e = some ys → vwL H4 e = some ys := fun e ys q => by rw [hH4]; exact vwL_app (hv3 e ys q) _
  obtain ⟨w1, w2, w3, w4, w5, w6⟩ := wrong_eq (m := H4) H hv4
  have py4 := py_es v4 w2 w3
  have so4 := (pyW_ok ok v4 w2 w3 (w6 1000 fun xs hxs => by have := d1.sz ok xs hxs; omega) (by have := d1.n1; omega)).2
  have rp4 := repr_py (P := PP 19) py4 so4
  have py5 : py H5 (.loc 1) = some (pyW H4 (.loc 1)) := by
    have hh : ∀ y ∈ es, (vwL H5 y).isSome = true := fun y hy => by
      obtain ⟨ys, q⟩ := Option.isSome_iff_exists.mp (w2 y hy)
      rw [hH5, vwL_app q]; rfl
    have hx : ∀ y ∈ es, ∀ x ∈ vwX H5 y, isTh t w l h x = true := fun y hy x hx => w3 y hy x (by rw [hH5, vwX_app (w2 y hy)] at hx; exact hx)
    have := py_es v5 hh hx
    rw [this, hH5, pyW_app v4 w2]
  have rp5 := repr_py (P := PP 19) py5 so4
  -- the splits
  obtain ⟨q1, q2⟩ := d1.partsH ok H hv4
  have sp1 := s18 14 t w l h H4 ok cl4 (.loc 1) es v4 q1
  rw [q2] at sp1
  obtain ⟨q3, q4⟩ := d2.partsP ok H3 []
  have eH4 : H3 ++ (L2.map MO.lst ++ []) = H4 := by rw [List.append_nil, hH4]
  rw [eH4] at q3 q4
  have sp2 := s18 14 t w l h H4 ok cl4 (.lst (locsL H3.length L2.length)) _ rfl q3
  rw [q4] at sp2
  have n4 := new0 17 t w l h H4 ok cl4
  have cp := a21 18 L H4 d1.n0 (by have := d1.n1; omega)
  rw [← hH5] at cp
  obtain ⟨q5, q6⟩ := d1.partsP ok H4 []
  have eH5 : H4 ++ (L.map MO.lst ++ []) = H5 := by rw [List.append_nil, hH5]
  rw [eH5] at q5 q6
  have sp3 := s18 14 t w l h H5 ok cl5 (.lst (locsL H4.length L.length)) _ rfl q5
  rw [q6] at sp3
  -- the lists are written
  have hlst : ∀ i, 2 ≤ i → i < H5.length → ∃ xs, H5[i]? = some (.lst xs) ∧ xs.length ≤ 1000 := by
    intro i h2 hi
    have eq : H5 = b6 :: .lst es :: (pl ++ (L2.map MO.lst ++ L.map MO.lst)) := by rw [hH5, hH4, hH3]; simp
    have hmem : ∃ o, H5[i]? = some o ∧ o ∈ pl ++ (L2.map MO.lst ++ L.map MO.lst) := by
      obtain ⟨j, rfl⟩ : ∃ j, i = j + 2 := ⟨i - 2, by omega⟩
      rw [eq] at hi ⊢
      simp only [List.length_cons] at hi
      have hj : j < (pl ++ (L2.map MO.lst ++ L.map MO.lst)).length := by omega
      refine ⟨(pl ++ (L2.map MO.lst ++ L.map MO.lst))[j], ?_, List.getElem_mem hj⟩
      rw [List.getElem?_cons_succ, List.getElem?_cons_succ, List.getElem?_eq_getElem hj]
    obtain ⟨o, g, ho⟩ := hmem
    rw [g]
    rcases List.mem_append.mp ho with ho | ho
    · obtain ⟨ys, rfl, hl⟩ := H.pz o ho
      exact ⟨ys, rfl, hl⟩
    · rcases List.mem_append.mp ho with ho | ho
      · obtain ⟨ys, hys, rfl⟩ := List.mem_map.mp ho
        exact ⟨ys, rfl, by have := d2.sz ok ys hys; omega⟩
      · obtain ⟨ys, hys, rfl⟩ := List.mem_map.mp ho
        exact ⟨ys, rfl, by have := d1.sz ok ys hys; omega⟩
  have len3 : H3.length = pl.length + 2 := by rw [hH3]; rfl
  have len5 : H5.length = H3.length + L2.length + L.length := by rw [hH5, hH4]; simp; omega
  obtain ⟨y7, m7, lA, iA⟩ := loopA (PP 19) [some sc, some (.loc 0), some (figD t w l h), some (formD t w l h), some (.lst (TH t w l h)), some (.lst (L.map .lst)), some (.lst (L2.map .lst)), none, some (.loc 1), some (.lst (locsL H3.length L2.length)), some (.str (pyW H4 (.loc 1)).shown), some (splitD t w l h L), some (splitD t w l h L2), some (splitD t w l h L), none, none, none, none, none, none]
    (by simp) H5 1000 (locsL H3.length L2.length) (fun d hd => by
      obtain ⟨i, hi, e⟩ := List.getElem_of_mem hd
      have := List.getElem?_eq_getElem hi
      rw [e] at this
      obtain ⟨hi2, rfl⟩ := locsL_get' this
      exact ⟨_, rfl, by omega, by omega⟩) none H5 (inv2_start cl5 hlst)
  have hM1 : H5[1]? = some (.lst es) := by rw [hH5, hH4, hH3]; rfl
  have hM0 : H5[0]? = some b6 := by rw [hH5, hH4, hH3]; rfl
  have hes : ∀ d ∈ es, (∃ ys, d = .tup ys) ∨ ∃ p, d = .loc p ∧ 2 ≤ p ∧ p < H5.length := by
    intro d hd
    obtain ⟨Ys, y1, y2, y3⟩ := H.is
    have : itm 2 pl d ∈ Ys.map some := by rw [← y1]; exact List.mem_map.mpr ⟨d, hd, rfl⟩
    obtain ⟨zs, hz, q⟩ := List.mem_map.mp this
    cases d with
    | tup ys => exact .inl ⟨ys, rfl⟩
    | loc p =>
      obtain ⟨g1, g2⟩ := itm_loc.mp q.symm
      have := (List.getElem?_eq_some_iff.mp g2).1
      exact .inr ⟨p, rfl, g1, by omega⟩
    | _ => cases q
  obtain ⟨z7, m8, lB, iB⟩ := loopB 19 [some sc, some (.loc 0), some (figD t w l h), some (formD t w l h), some (.lst (TH t w l h)), some (.lst (L.map .lst)), some (.lst (L2.map .lst)), none, some (.loc 1), some (.lst (locsL H3.length L2.length)), some (.str (pyW H4 (.loc 1)).shown), some (splitD t w l h L), some (splitD t w l h L2), some (splitD t w l h L), none, none, none, none, none, none]
    (by simp) H5 es (by have := d1.n1; rw [w5]; omega) hM1 hes y7 m7 iA
  have hsI : seqI m7 (.loc 1) = some (.mut 1 es) := seqI_loc _ (iA.g1.trans hM1)
  obtain ⟨X, rfl, cX⟩ := inv2_end iB hM0
  have clX := cX.cl hb6
  -- asked
  have kA := s28 15 ok (d1.lots ok) d1.all (b6 :: X) clX
  have kB := s28 15 ok (d2.lots ok) d2.all (b6 :: X) clX
  have r11' := eqLL_refl d1.th
  have f1 := eq_split 17 (d1.lots ok) ok (d1.lots ok) ok (b6 :: X)
  have f2 := ne_split 17 (d1.lots ok) ok (d1.lots ok) ok (b6 :: X)
  have f3 := eq_other 17 (t := t) (w := w) (l := l) (h := h) (L := L) (b6 :: X) (.lst (L.map .lst)) (.inr ⟨_, rfl⟩)
  have f4 := eq_other 17 (t := t) (w := w) (l := l) (h := h) (L := L) (b6 :: X) .non (.inl rfl)
  have f5 := tru_split 18 (t := t) (w := w) (l := l) (h := h) (L := L) (b6 :: X) (by have := d1.n1; omega) d1.n0
  have f6 := eq_split 17 (d1.lots ok) ok (d2.lots ok) ok (b6 :: X)
  obtain ⟨f7, f8⟩ := eq_lots (d1.lots ok) ok (d2.lots ok) (PP 19) (b6 :: X)
  have f9 := ne_split 17 (d2.lots ok) ok (d1.lots ok) ok (b6 :: X)
  rw [← eqLL_comm d1.th d2.th] at f9
  have dr := d1.rev
  obtain ⟨q7, q8⟩ := dr.parts ok (b6 :: X)
  have sp4 := s18 14 t w l h (b6 :: X) ok clX (.lst ((L.map List.reverse).map .lst)) _ rfl q7
  rw [q8] at sp4
  have f10 := eq_split 17 (dr.lots ok) ok (d1.lots ok) ok (b6 :: X)
  have f11 := (eq_lots (dr.lots ok) ok (d1.lots ok) (PP 19) (b6 :: X)).1
  have ok' : Okf t w l (3 - h) := by
    obtain ⟨t0, t1, w0, w1, l0, l1, h0, h1⟩ := ok
    exact ⟨t0, t1, w0, w1, l0, l1, by omega, by omega⟩
  have dw : Dealt t w l (3 - h) [TH t w l (3 - h)] := ⟨by simp, by simp, by simp⟩
  obtain ⟨q9, q10⟩ := dw.parts ok' (b6 :: X)
  have sp5 := s18 14 t w l (3 - h) (b6 :: X) ok' clX (.lst ([TH t w l (3 - h)].map .lst)) ([TH t w l (3 - h)].map .lst) rfl q9
  rw [q10] at sp5
  have n5 := new0 17 t w l (3 - h) (b6 :: X) ok' clX
  have p5 := a16 18 t w l (3 - h) (b6 :: X) ok' clX
  have f12 := eq_split 17 (dw.lots ok') ok' (d1.lots ok) ok (b6 :: X)
  have hne : ¬ (t = t ∧ w = w ∧ l = l ∧ 3 - h = h) := by omega
  rw [decide_eq_false hne, Bool.false_and] at f12
  simp only [and_self, decide_true, Bool.true_and] at f1 f2 f6 f9 f10
  rw [r11'] at f1 f2
  obtain ⟨b9, X9, y10, y16, y17, y18, y19, lC, cX9, hb9⟩ := loopC 9 ok hb6 (by omega) cX d1 d2 (some sc) z7 (some (.loc 1)) (some (.lst (locsL H3.length L2.length))) (some (splitD t w l h L)) (some (splitD t w l h L2)) (some (splitD t w l h L)) (some (.lst ((L.map List.reverse).map .lst))) (some (figD t w l (3 - h))) (some (.str (pyW H4 (.loc 1)).shown)) none none none none
  have cl9 := cX9.cl hb9
  obtain ⟨q11, q12⟩ := d1.parts ok (b9 :: X9)
  have g1 := s6 16 t w l h (b9 :: X9) ok cl9 (.lst (L.map .lst)) (L.map .lst) rfl q11.vw (fun e he x hx => okV_isTh (q11.th e he x hx))
  rw [q11.wr] at g1
  have g2 := s6 16 t w l h (b9 :: X9) ok cl9 (.lst []) [] rfl (by simp) (by simp)
  obtain ⟨x, rest, hxr⟩ : ∃ x rest, TH t w l h = x :: rest := by
    cases hq : TH t w l h with
    | nil =>
      have := congrArg List.length hq
      have h0 := ok.t0
      rw [TH_eq, List.length_append, rowT_len] at this
      simp at this; omega
    | cons x rest => exact ⟨x, rest, rfl⟩
  have hwx : wrongD t w l h (([] : List D).flatMap (vwX (b9 :: X9))) = x := by
    unfold wrongD
    rw [hxr]
    simp [cntK]
  rw [hwx] at g2
  have g3 : ixD (.lst (TH t w l h)) (.int 0) (b9 :: X9) = .ok x (b9 :: X9) := by rw [hxr]; exact ix_head _ _ _
  have hxm : x ∈ TH t w l h := by rw [hxr]; simp
  have hxx := isTh_TH hxm
  have sox : showOk (pyT x) = true := by
    have s := item_shown ok hxx
    have d := shaped_item hxx
    unfold showOk
    rw [Bool.and_eq_true, Bool.and_eq_true]
    exact ⟨⟨s.2, decide_eq_true (by omega)⟩, decide_eq_true (by rw [sizeLine_v]; omega)⟩
  have g4 := s15 18 x x (b9 :: X9) (pyT x) (py_item hxx _ 58) (py_item hxx _ 58) sox
  have kC := s28 15 ok (d1.lots ok) d1.all (b9 :: X9) cl9
  have ap : ∀ (f : Nat) (ps : List Nat) (ds : List D) (m : Me), (PP 19).pi f = ⟨ps, [], [], false⟩ → ps.length = ds.length → appF (PP 19) f ds [] [] m = (PP 19).call f ds m := fun f ps ds m h1 h2 => app_pos h1 h2
  have key : ∃ env' m', denSs (PP 19) B54.b29 [some sc, none, none, none, none, none, none, none, none, none, none, none, none, none, none, none, none, none, none, none] [] = .ok (.rt (.bl true)) env' m' := by
    rw [b29_eq]
    rw [sq (st0 (PP 19) sc [] [b0] (by simp) (by rw [ap 12 _ _ _ (pi12 _) rfl]; exact e0))]
    rw [sq (st1 (PP 19) sc (figD t w l h) [b0] [b1] (by simp) (by rw [ap 22 _ _ _ (pi22 _) rfl]; exact e1))]
    rw [sq (st2 (PP 19) t w l h sc (formD t w l h) (.lst (TH t w l h)) [b1] (by simp) (by simp) n1 p1)]
    rw [sq (st3 (PP 19) sc (figD t w l h) (formD t w l h) (.lst (TH t w l h)) [b1] (by simp) (by rw [ap 27 _ _ _ (pi27 _) rfl]; exact j1))]
    rw [sq (st4 (PP 19) sc (figD t w l h) (formD t w l h) (.lst (TH t w l h)) (.lst (L.map .lst)) r1 [b1] [b2] [b3] (by simp) (by simp) e2 (by rw [ap 17 _ _ _ (pi17 _) rfl]; exact e3))]
    rw [sq (st5 (PP 19) sc (figD t w l h) (formD t w l h) (.lst (TH t w l h)) (.lst (L.map .lst)) (.lst (L2.map .lst)) r2 [b3] [b4] [b5] (by simp) (by simp) e4 (by rw [ap 17 _ _ _ (pi17 _) rfl]; exact e5))]
    rw [sq (st6 (PP 19) sc (figD t w l h) (formD t w l h) (.lst (TH t w l h)) (.lst (L.map .lst)) (.lst (L2.map .lst)) (.loc 1) (.lst (locsL H3.length L2.length)) [b5] H3 H4 (by simp) (by rw [ap 25 _ _ _ (pi25 _) rfl, hH3]; exact e6) (by rw [hH4]; exact again_lc _ L2 _ _ _ _ _ _ H3 d2.n1))]
    rw [sq (st7 (PP 19) sc (figD t w l h) (formD t w l h) (.lst (TH t w l h)) (.lst (L.map .lst)) (.lst (L2.map .lst)) (.loc 1) (.lst (locsL H3.length L2.length)) _ H4 rp4)]
    rw [sq (st8 (PP 19) sc (figD t w l h) (formD t w l h) (.lst (TH t w l h)) (.lst (L.map .lst)) (.lst (L2.map .lst)) (.loc 1) (.lst (locsL H3.length L2.length)) (splitD t w l h L) (splitD t w l h L2) _ H4 (by simp) (by rw [ap 18 _ _ _ (pi18 _) rfl]; exact sp1) (by rw [ap 18 _ _ _ (pi18 _) rfl]; exact sp2))]
    rw [sq (st9 (PP 19) t w l h sc (formD t w l h) (.lst (TH t w l h)) (.lst (L.map .lst)) (.lst (L2.map .lst)) (.loc 1) (.lst (locsL H3.length L2.length)) (splitD t w l h L) (splitD t w l h L2) (.lst (locsL H4.length L.length)) (splitD t w l h L) _ H4 H5 (by simp) (by simp) (by simp) n4 cp (by rw [ap 18 _ _ _ (pi18 _) rfl]; exact sp3))]
    rw [sq (st10 (PP 19) sc (figD t w l h) (formD t w l h) (.lst (TH t w l h)) (.lst (L.map .lst)) (.lst (L2.map .lst)) (.loc 1) (.lst (locsL H3.length L2.length)) (splitD t w l h L) (splitD t w l h L2) (splitD t w l h L) _ H5 rp5)]
    rw [sq (st11 (PP 19) sc (figD t w l h) (formD t w l h) (.lst (TH t w l h)) (.lst (L.map .lst)) (.lst (L2.map .lst)) (.loc 1) (.lst (locsL H3.length L2.length)) (splitD t w l h L) (splitD t w l h L2) (splitD t w l h L) _ H5 m7 (.fix (locsL H3.length L2.length)) (locsL H3.length L2.length) y7 rfl rfl lA)]
    rw [sq (st12 (PP 19) sc (figD t w l h) (formD t w l h) (.lst (TH t w l h)) (.lst (L.map .lst)) (.lst (L2.map .lst)) (.loc 1) (.lst (locsL H3.length L2.length)) (splitD t w l h L) (splitD t w l h L2) (splitD t w l h L) _ m7 (b6 :: X) (.mut 1 es) es y7 z7 hsI rfl lB)]
    rw [sq (st13 (PP 19) sc (figD t w l h) (formD t w l h) (.lst (TH t w l h)) (.lst (L.map .lst)) (.lst (L2.map .lst)) (.loc 1) (.lst (locsL H3.length L2.length)) (splitD t w l h L) (splitD t w l h L2) (splitD t w l h L) z7 _ (b6 :: X) (by simp) (by rw [ap 28 _ _ _ (pi28 _) rfl]; exact kA) (by rw [ap 28 _ _ _ (pi28 _) rfl]; exact kB))]
    rw [sq (st14 (PP 19) sc (figD t w l h) (formD t w l h) (.lst (TH t w l h)) (.lst (L.map .lst)) (.lst (L2.map .lst)) (.loc 1) (.lst (locsL H3.length L2.length)) (splitD t w l h L) (splitD t w l h L2) (splitD t w l h L) z7 _ (b6 :: X) f1 f2 f3 f4 f5)]
    rw [sq (st15 (PP 19) sc (figD t w l h) (formD t w l h) (.lst (TH t w l h)) (.lst (L.map .lst)) (.lst (L2.map .lst)) (.loc 1) (.lst (locsL H3.length L2.length)) (splitD t w l h L) (splitD t w l h L2) (splitD t w l h L) z7 _ _ _ (b6 :: X) f6 f7 f9 f8)]
    rw [sq (st16 (PP 19) sc (figD t w l h) (formD t w l h) (.lst (TH t w l h)) (.lst (L.map .lst)) (.lst (L2.map .lst)) (.loc 1) (.lst (locsL H3.length L2.length)) (splitD t w l h L) (splitD t w l h L2) (splitD t w l h L) (.lst ((L.map List.reverse).map .lst)) z7 _ (b6 :: X) (turned_lc _ L _ _ _ _ _ _ _ _ _ _ _ _ _ (b6 :: X) d1.n1))]
    rw [sq (st17 (PP 19) sc (figD t w l h) (formD t w l h) (.lst (TH t w l h)) (.lst (L.map .lst)) (.lst (L2.map .lst)) (.loc 1) (.lst (locsL H3.length L2.length)) (splitD t w l h L) (splitD t w l h L2) (splitD t w l h L) (.lst ((L.map List.reverse).map .lst)) (splitD t w l h (L.map List.reverse)) z7 _ _ (b6 :: X) (by simp) (by rw [ap 18 _ _ _ (pi18 _) rfl]; exact sp4) f10 f11)]
    rw [sq (st18 (PP 19) t w l h sc (formD t w l h) (.lst (TH t w l h)) (.lst (L.map .lst)) (.lst (L2.map .lst)) (.loc 1) (.lst (locsL H3.length L2.length)) (splitD t w l h L) (splitD t w l h L2) (splitD t w l h L) (.lst ((L.map List.reverse).map .lst)) z7 _ (b6 :: X))]
    rw [sq (st19 (PP 19) t w l (3 - h) sc (figD t w l h) (formD t w l h) (.lst (TH t w l h)) (.lst (L.map .lst)) (.lst (L2.map .lst)) (.loc 1) (.lst (locsL H3.length L2.length)) (splitD t w l h L) (splitD t w l h L2) (splitD t w l h L) (.lst ((L.map List.reverse).map .lst)) (formD t w l (3 - h)) (.lst (TH t w l (3 - h))) (splitD t w l (3 - h) [TH t w l (3 - h)]) z7 _ (b6 :: X) (by simp) (by simp) (by simp) n5 p5 (by rw [ap 18 _ _ _ (pi18 _) rfl]; exact sp5) f12)]
    rw [sq (st20 (PP 19) sc (figD t w l h) (formD t w l h) (.lst (TH t w l h)) (.lst (L.map .lst)) (.lst (L2.map .lst)) (.loc 1) (.lst (locsL H3.length L2.length)) (splitD t w l h L) (splitD t w l h L2) (splitD t w l h L) (.lst ((L.map List.reverse).map .lst)) (figD t w l (3 - h)) _ (b6 :: X) (b9 :: X9) z7 y10 y16 y17 y18 y19 lC)]
    rw [st21 (PP 19) sc (figD t w l h) (formD t w l h) (.lst (TH t w l h)) (.lst (L.map .lst)) (.lst (L2.map .lst)) (.loc 1) (.lst (locsL H3.length L2.length)) (splitD t w l h L) (splitD t w l h L2) (splitD t w l h L) (.lst ((L.map List.reverse).map .lst)) (figD t w l (3 - h)) x (b9 :: X9) z7 y10 y16 y17 y18 y19 (by simp) (by simp) (by simp)
      (by rw [ap 6 _ _ _ (pi6 _) rfl]; exact g1) (by rw [ap 6 _ _ _ (pi6 _) rfl]; exact g2) g3 (by rw [ap 15 _ _ _ (pi15 _) rfl]; exact g4) (by rw [ap 28 _ _ _ (pi28 _) rfl]; exact kC)]
    exact ⟨_, _, rfl⟩
  obtain ⟨env', m', key⟩ := key
  rw [run_rt (P := PP 19) (d := .bl true) (env := env') (m' := m') key]
  exact seal_bl _ _ _
end P54
end DL

open PySem PySem.W PyProof.Rows
set_option maxRecDepth 100000 in
set_option maxHeartbeats 0 in
theorem PySem.Challenge.cw_answersalone_k54_things_and_splits_told_holds : PySem.Challenge.rw_answersalone_k54_things_and_splits_told.Holds := by
  w_on; o_law; k_head; (case hw => w_witness2)
  k_fill
  refine DL.law_end (l := PySem.Challenge.rw_answersalone_k54_things_and_splits_told) (T := DL.T54) 29 20 rfl (by decide) rfl ⟨rfl, by decide, by decide⟩ (fun w h Y => PySem.W.kIn_of Y) ?_ ?_ ?_
  · intro P
    kernel_rfl
  · intro P
    kernel_rfl
  · intro P ns hn
    rw [DL.tab_eq (bs := DL.B54.bodies) (by kernel_rfl)]
    exact DL.P54.law_ok ns hn
