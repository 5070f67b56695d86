import PyProof.Rows.All
import Wide.All
import OpenK.AllK
import Wide.FinOn
import HandS.ForMost
import HandS.ForExc
import HandS.Wide
import HandS.Style
import HandS.TupAny
import HandS.TupMul
import HandS.Deep
import HandS.IsInst
import HandS.Zip
import HandS.ExcIs
import HandS.Sort
import HandS.SetFor
import HandS.Strs
import KE.SortCalls
import KE.SortData
import KE.GoesEnum
import HandS.Conv
import KE.GoesMore
import KE.KDictZip
import KE.IntTextLaws
import PySem.Challenge.RW_railnets_k26_far_groups
set_option Elab.async false
set_option linter.all false
namespace Fx
open PySem PySem.Spec PyProof.Rows L2

/-! ## data, objects, outcomes -/
inductive D where
  | non | bl (b : Bool) | int (i : Int) | str (x : Str)
  | tup (xs : List D) | lst (xs : List D) | scr (xs : List D) | ref (n : Nat) | fn (f : Nat) | exc (c : Nat) | pr (a b : D)
deriving Inhabited
inductive Ob where
  | lst (xs : List D) | dk (kvs : List (Key × D)) | dt (kvs : List (List Int × D)) | gone
abbrev Hh := List Ob
abbrev Ev := List (Option D)
inductive Res (α : Type) where
  | ok (a : α) | exc (c : Nat) (h : Hh) | fail
namespace Res
def bind {α β : Type} : Res α → (α → Res β) → Res β
  | ok a, f => f a
  | exc c h, _ => exc c h
  | fail, _ => fail
end Res
instance : Monad Res where
  pure := Res.ok
  bind := Res.bind
@[simp] theorem bind_ok {α β : Type} (a : α) (f : α → Res β) : (Res.ok a >>= f) = f a := (rfl)
@[simp] theorem bind_exc {α β : Type} (c : Nat) (h : Hh) (f : α → Res β) : (Res.exc c h >>= f) = Res.exc c h := (rfl)
@[simp] theorem bind_fail {α β : Type} (f : α → Res β) : ((Res.fail : Res α) >>= f) = Res.fail := (rfl)
@[simp] theorem pure_ok {α : Type} (a : α) : (pure a : Res α) = Res.ok a := (rfl)

/-! ## what stands for what -/
/-- the live ones, by number; and those that no value leads to -/
structure Lv where
  mu : List Addr
  av : List Addr
instance : Membership Addr Lv := ⟨fun m p => p ∈ m.mu ∨ p ∈ m.av⟩
/-- a list at p that is read alone: known to the object, or of the written part -/
def ScrAt (K : PySem.W.Frag) (mu : Lv) (H : Hp) (p : Addr) (vs : List V) : Prop :=
  (p ∉ mu ∧ ∃ o, H p = some (.frz o (.lst vs))) ∨
    ∃ (o : Obj) (its : Array Value) (n : Nat), K.lookup p = some o ∧ o.cls = .type "list" ∧ o.dict = none ∧ o.data = .seq its n ∧ its.size ≤ sizeLine ∧ Vals vs its.toList
/-- where the classes stand -/
abbrev Fa := Nat → Addr
/-- an exception's object, of the class at C -/
def ExI (C p : Addr) : HO := .ext fun h => ∃ (oe : Obj) (vs : Array Value), h.get? p = some oe ∧ Zc (.ref C) none oe ∧ oe.data = .fields vs
/-- a tuple known by its object, without a dict of its own -/
def TupN (u : Option HO) (vs : List V) : Prop := ∃ o, u = some (.frz o (.tup vs)) ∧ o.dict = none
theorem TupN.sq {K : PySem.W.Frag} {H : Hp} {p : Addr} {vs : List V} (h : TupN (H p) vs) : SqT K H p vs := let ⟨o, e, _⟩ := h; .inl (.inr ⟨o, e⟩)
mutual
def Rl (K : PySem.W.Frag) (fa : Fa) (mu : Lv) (H : Hp) : D → V → Prop
  | .non, v => v = .non
  | .bl b, v => v = .bl b
  | .int i, v => v = .int i
  | .str x, v => v = .str x
  | .tup xs, v => ∃ p vs, v = .ref p ∧ p ∉ mu ∧ TupN (H p) vs ∧ RlL K fa mu H xs vs
  | .lst xs, v => ∃ p vs, v = .ref p ∧ p ∉ mu ∧ H p = some (.lst vs) ∧ RlL K fa mu H xs vs
  | .scr xs, v => ∃ p vs, v = .ref p ∧ ScrAt K mu H p vs ∧ RlL K fa mu H xs vs
  | .ref n, v => ∃ p, v = .ref p ∧ mu.mu[n]? = some p
  | .fn f, v => v = .ref (fa f)
  | .exc c, v => ∃ p, v = .ref p ∧ p ∉ mu ∧ H p = some (ExI (fa c) p)
  | .pr a b, v => ∃ p va vb, v = .ref p ∧ p ∉ mu ∧ H p = some (.tup [va, vb]) ∧ Rl K fa mu H a va ∧ Rl K fa mu H b vb
def RlL (K : PySem.W.Frag) (fa : Fa) (mu : Lv) (H : Hp) : List D → List V → Prop
  | [], vs => vs = []
  | x :: xs, vs => ∃ v ws, vs = v :: ws ∧ Rl K fa mu H x v ∧ RlL K fa mu H xs ws
end
/-- pairs by key -/
def RlK {κ : Type} (K : PySem.W.Frag) (fa : Fa) (mu : Lv) (H : Hp) (kds : List (κ × D)) (kvs : List (κ × V)) : Prop :=
  kds.map (·.1) = kvs.map (·.1) ∧ RlL K fa mu H (kds.map (·.2)) (kvs.map (·.2))
/-- a dict's object whose keys are tuples of ints, by key, the key's place, the value -/
def entI (x : List Int × Addr × Value) : DictEntry := ⟨reduceHash (Builtin.Tuple.tupleHashOf (x.1.map hashInt)), .ref x.2.1, x.2.2⟩
def DX (a : Addr) (xs : List (List Int × Addr × Value)) : Heap → Prop := fun h => ∃ o es ep, h.get? a = some o ∧ o.ExactDict ∧ o.data = .dict es ep ∧ es.toList = xs.map entI ∧ (xs.map (·.1)).Nodup
abbrev keyDs (kds : List (List Int × D)) : List D := kds.map fun kd => D.tup (kd.1.map D.int)
abbrev keyVs (xs : List (List Int × Addr × Value)) : List V := xs.map fun q => V.ref q.2.1
abbrev ValT (kvs : List (List Int × V)) (xs : List (List Int × Addr × Value)) : Prop := Paired (fun kv q => kv.1 = q.1 ∧ RelV kv.2 q.2.2) kvs xs
def RO (K : PySem.W.Frag) (fa : Fa) (mu : Lv) (H : Hp) (p : Addr) : Ob → Prop
  | .lst xs => ∃ vs, H p = some (.lst vs) ∧ RlL K fa mu H xs vs
  | .dk kds => ∃ kvs, H p = some (.dK kvs) ∧ RlK K fa mu H kds kvs
  | .dt kds => ∃ kvs xs, ((p == sysModules) = false ∧ kvs.length ≤ sizeLine ∧ ValT kvs xs) ∧ H p = some (.ext (DX p xs)) ∧ RlL K fa mu H (keyDs kds) (keyVs xs) ∧ RlK K fa mu H kds kvs
  | .gone => ∃ o, H p = some o
structure RH (K : PySem.W.Frag) (fa : Fa) (mu : Lv) (h : Hh) (H : Hp) : Prop where
  nd : mu.mu.Nodup
  len : mu.mu.length = h.length
  at_ : ∀ (n : Nat) (o : Ob) (p : Addr), h[n]? = some o → mu.mu[n]? = some p → RO K fa mu H p o
  av : ∀ p ∈ mu.av, p ∉ mu.mu ∧ ∃ u, H p = some u
/-- later: the live ones are those of before and new ones; all else stands -/
structure Gr (mu : Lv) (H : Hp) (mu' : Lv) (H' : Hp) : Prop where
  av : ∃ nv, mu'.av = nv ++ mu.av ∧ ∀ p ∈ nv, H p = none
  ex : ∃ nu, mu'.mu = mu.mu ++ nu ∧ ∀ p ∈ nu, H p = none
  st : ∀ p o, H p = some o → p ∉ mu.mu → H' p = some o
  fr : ∀ p, H' p = none → H p = none

section
variable {K : PySem.W.Frag} {fa : Fa} {mu mu' mu2 : Lv} {H H' H2 : Hp} {h h' : Hh}
theorem Gr.refl : Gr mu H mu H := ⟨⟨[], by simp⟩, ⟨[], by simp⟩, fun _ _ e _ => e, fun _ e => e⟩
theorem Lv.out {p : Addr} (h : p ∉ mu) : p ∉ mu.mu := fun z => h (.inl z)
theorem Gr.out1 (g : Gr mu H mu' H') {p : Addr} {o : HO} (e : H p = some o) (hp : p ∉ mu.mu) : p ∉ mu'.mu := by
  obtain ⟨nu, en, hn⟩ := g.ex
  intro hm
  rw [en] at hm
  rcases List.mem_append.mp hm with z | z
  · exact hp z
  · rw [hn p z] at e; cases e
theorem Gr.out (g : Gr mu H mu' H') {p : Addr} {o : HO} (e : H p = some o) (hp : p ∉ mu) : p ∉ mu' := by
  intro hm
  rcases hm with z | z
  · exact g.out1 e (Lv.out hp) z
  · obtain ⟨nv, en, hn⟩ := g.av
    rw [en] at z
    rcases List.mem_append.mp z with z | z
    · rw [hn p z] at e; cases e
    · exact hp (.inr z)
theorem Gr.trans (a : Gr mu H mu' H') (b : Gr mu' H' mu2 H2) : Gr mu H mu2 H2 := by
  refine ⟨?_, ?_, fun p o e hp => b.st p o (a.st p o e hp) (a.out1 e hp), fun p e => a.fr p (b.fr p e)⟩
  · obtain ⟨nv, e1, hn⟩ := a.av
    obtain ⟨nv2, e2, hn2⟩ := b.av
    refine ⟨nv2 ++ nv, by rw [e2, e1]; simp, fun p hp => ?_⟩
    rcases List.mem_append.mp hp with z | z
    · exact a.fr p (hn2 p z)
    · exact hn p z
  obtain ⟨nu, e1, hn⟩ := a.ex
  obtain ⟨nu2, e2, hn2⟩ := b.ex
  refine ⟨nu ++ nu2, by rw [e2, e1]; simp, fun p hp => ?_⟩
  rcases List.mem_append.mp hp with z | z
  · exact hn p z
  · exact a.fr p (hn2 p z)
theorem ScrAt.grow (g : Gr mu H mu' H') {p : Addr} {vs : List V} (l : ScrAt K mu H p vs) : ScrAt K mu' H' p vs := by
  rcases l with ⟨hp, o, r⟩ | l
  · exact .inl ⟨g.out r hp, o, g.st _ _ r (Lv.out hp)⟩
  · exact .inr l
theorem ScrAt.sq {p : Addr} {vs : List V} (l : ScrAt K mu H p vs) : SqL K H p vs := by
  rcases l with ⟨_, r⟩ | l
  · exact .inl (.inr r)
  · exact .inr l
mutual
theorem Rl.grow (g : Gr mu H mu' H') : ∀ (d : D) (v : V), Rl K fa mu H d v → Rl K fa mu' H' d v
  | .non, _, r => r
  | .bl _, _, r => r
  | .int _, _, r => r
  | .str _, _, r => r
  | .fn _, _, r => r
  | .exc c, v, r => by
    unfold Rl at r ⊢
    obtain ⟨p, e, hp, q⟩ := r
    exact ⟨p, e, g.out q hp, g.st _ _ q (Lv.out hp)⟩
  | .ref n, v, r => by
    unfold Rl at r ⊢
    obtain ⟨p, e, m⟩ := r
    obtain ⟨nu, en, _⟩ := g.ex
    refine ⟨p, e, ?_⟩
    rw [en, List.getElem?_append_left (by obtain ⟨hl, _⟩ := List.getElem?_eq_some_iff.mp m; exact hl)]
    exact m
  | .tup xs, v, r => by
    unfold Rl at r ⊢
    obtain ⟨p, vs, e, hp, ⟨o, q, hd⟩, rr⟩ := r
    exact ⟨p, vs, e, g.out q hp, ⟨o, g.st _ _ q (Lv.out hp), hd⟩, RlL.grow g xs vs rr⟩
  | .pr a b, v, r => by
    unfold Rl at r ⊢
    obtain ⟨p, va, vb, e, hp, q, ra, rb⟩ := r
    exact ⟨p, va, vb, e, g.out q hp, g.st _ _ q (Lv.out hp), Rl.grow g a va ra, Rl.grow g b vb rb⟩
  | .lst xs, v, r => by
    unfold Rl at r ⊢
    obtain ⟨p, vs, e, hp, q, rr⟩ := r
    exact ⟨p, vs, e, g.out q hp, g.st _ _ q (Lv.out hp), RlL.grow g xs vs rr⟩
  | .scr xs, v, r => by
    unfold Rl at r ⊢
    obtain ⟨p, vs, e, l, rr⟩ := r
    exact ⟨p, vs, e, l.grow g, RlL.grow g xs vs rr⟩
theorem RlL.grow (g : Gr mu H mu' H') : ∀ (ds : List D) (vs : List V), RlL K fa mu H ds vs → RlL K fa mu' H' ds vs
  | [], _, r => by unfold RlL at r ⊢; exact r
  | d :: ds, vs, r => by
    unfold RlL at r ⊢
    obtain ⟨v, ws, e, r1, r2⟩ := r
    exact ⟨v, ws, e, Rl.grow g d v r1, RlL.grow g ds ws r2⟩
end
theorem RlK.grow {κ : Type} (g : Gr mu H mu' H') {kds : List (κ × D)} {kvs : List (κ × V)} (r : RlK K fa mu H kds kvs) : RlK K fa mu' H' kds kvs := ⟨r.1, RlL.grow g _ _ r.2⟩
theorem RlL.length : ∀ {ds : List D} {vs : List V}, RlL K fa mu H ds vs → ds.length = vs.length
  | [], vs, r => by unfold RlL at r; subst r; rfl
  | d :: ds, vs, r => by
    unfold RlL at r
    obtain ⟨v, ws, rfl, _, r2⟩ := r
    rw [List.length_cons, List.length_cons, RlL.length r2]
theorem RlL.nil : RlL K fa mu H [] [] := by unfold RlL; rfl
theorem RlL.cons {d : D} {ds : List D} {v : V} {vs : List V} (a : Rl K fa mu H d v) (b : RlL K fa mu H ds vs) : RlL K fa mu H (d :: ds) (v :: vs) := by
  unfold RlL; exact ⟨v, vs, rfl, a, b⟩
theorem RlL.inv {d : D} {ds : List D} {vs : List V} (r : RlL K fa mu H (d :: ds) vs) : ∃ v ws, vs = v :: ws ∧ Rl K fa mu H d v ∧ RlL K fa mu H ds ws := by
  unfold RlL at r; exact r
theorem RlL.nil_inv {vs : List V} (r : RlL K fa mu H [] vs) : vs = [] := by unfold RlL at r; exact r
theorem RlL.append : ∀ {ds es : List D} {vs ws : List V}, RlL K fa mu H ds vs → RlL K fa mu H es ws → RlL K fa mu H (ds ++ es) (vs ++ ws)
  | [], _, _, _, a, b => by rw [a.nil_inv]; exact b
  | d :: ds, es, vs, ws, a, b => by
    obtain ⟨v, r, rfl, r1, r2⟩ := a.inv
    exact .cons r1 (RlL.append r2 b)
theorem RlL.get : ∀ {ds : List D} {vs : List V} {i : Nat} {d : D}, RlL K fa mu H ds vs → ds[i]? = some d → ∃ v, vs[i]? = some v ∧ Rl K fa mu H d v
  | [], _, _, _, _, e => by simp at e
  | x :: ds, vs, 0, d, r, e => by
    obtain ⟨v, ws, rfl, r1, _⟩ := r.inv
    obtain rfl : x = d := by simpa using e
    exact ⟨v, rfl, r1⟩
  | x :: ds, vs, i + 1, d, r, e => by
    obtain ⟨v, ws, rfl, _, r2⟩ := r.inv
    obtain ⟨u, hu, ru⟩ := RlL.get (i := i) r2 (by simpa using e)
    exact ⟨u, by simpa using hu, ru⟩
theorem RlL.take : ∀ {ds : List D} {vs : List V} (n : Nat), RlL K fa mu H ds vs → RlL K fa mu H (ds.take n) (vs.take n)
  | _, _, 0, _ => by simp [RlL.nil]
  | [], _, n + 1, r => by rw [r.nil_inv]; exact .nil
  | d :: ds, vs, n + 1, r => by
    obtain ⟨v, ws, rfl, r1, r2⟩ := r.inv
    exact .cons r1 (RlL.take n r2)
theorem RlL.drop : ∀ {ds : List D} {vs : List V} (n : Nat), RlL K fa mu H ds vs → RlL K fa mu H (ds.drop n) (vs.drop n)
  | _, _, 0, r => r
  | [], _, n + 1, r => by rw [r.nil_inv]; exact .nil
  | d :: ds, vs, n + 1, r => by
    obtain ⟨v, ws, rfl, _, r2⟩ := r.inv
    exact RlL.drop n r2
theorem RlL.reverse : ∀ {ds : List D} {vs : List V}, RlL K fa mu H ds vs → RlL K fa mu H ds.reverse vs.reverse
  | [], _, r => by rw [r.nil_inv]; exact .nil
  | d :: ds, vs, r => by
    obtain ⟨v, ws, rfl, r1, r2⟩ := r.inv
    rw [List.reverse_cons, List.reverse_cons]
    exact RlL.append (RlL.reverse r2) (.cons r1 .nil)
theorem RlL.set : ∀ {ds : List D} {vs : List V} (i : Nat) {d : D} {v : V}, RlL K fa mu H ds vs → Rl K fa mu H d v → RlL K fa mu H (ds.set i d) (vs.set i v)
  | [], _, _, _, _, r, _ => by rw [r.nil_inv]; exact .nil
  | x :: ds, vs, 0, d, v, r, rd => by
    obtain ⟨u, ws, rfl, _, r2⟩ := r.inv
    exact .cons rd r2
  | x :: ds, vs, i + 1, d, v, r, rd => by
    obtain ⟨u, ws, rfl, r1, r2⟩ := r.inv
    exact .cons r1 (RlL.set i r2 rd)
theorem RlL.eraseIdx : ∀ {ds : List D} {vs : List V} (i : Nat), RlL K fa mu H ds vs → RlL K fa mu H (ds.eraseIdx i) (vs.eraseIdx i)
  | [], _, _, r => by rw [r.nil_inv]; exact .nil
  | x :: ds, vs, 0, r => by
    obtain ⟨u, ws, rfl, _, r2⟩ := r.inv
    exact r2
  | x :: ds, vs, i + 1, r => by
    obtain ⟨u, ws, rfl, r1, r2⟩ := r.inv
    exact .cons r1 (RlL.eraseIdx i r2)
theorem RlL.replicate (k : Nat) {ds : List D} {vs : List V} (r : RlL K fa mu H ds vs) : RlL K fa mu H (List.replicate k ds).flatten (List.replicate k vs).flatten := by
  induction k with
  | zero => exact .nil
  | succ k ih =>
    rw [List.replicate_succ, List.replicate_succ, List.flatten_cons, List.flatten_cons]
    exact RlL.append r ih

/-! ### the live ones -/
theorem RH.get (r : RH K fa mu h H) {n : Nat} {o : Ob} (e : h[n]? = some o) : ∃ p, mu.mu[n]? = some p ∧ RO K fa mu H p o := by
  obtain ⟨hl, _⟩ := List.getElem?_eq_some_iff.mp e
  have hm : n < mu.mu.length := by rw [r.len]; exact hl
  exact ⟨mu.mu[n], List.getElem?_eq_getElem hm, r.at_ n o _ e (List.getElem?_eq_getElem hm)⟩
theorem RO.there {p : Addr} {o : Ob} (r : RO K fa mu H p o) : ∃ u, H p = some u := by
  cases o with
  | lst _ => obtain ⟨_, e, _⟩ := r; exact ⟨_, e⟩
  | dk _ => obtain ⟨_, e, _⟩ := r; exact ⟨_, e⟩
  | dt _ => obtain ⟨_, _, _, e, _⟩ := r; exact ⟨_, e⟩
  | gone => exact r
theorem RH.live (r : RH K fa mu h H) {p : Addr} (hp : p ∈ mu) : ∃ u, H p = some u := by
  rcases hp with hp | hp
  rotate_left
  · exact (r.av p hp).2
  obtain ⟨n, hn, e⟩ := List.getElem_of_mem hp
  have hl : n < h.length := by rw [← r.len]; exact hn
  exact (r.at_ n h[n] p (List.getElem?_eq_getElem hl) (by rw [List.getElem?_eq_getElem hn, e])).there
theorem RH.new (r : RH K fa mu h H) {p : Addr} (hp : H p = none) : p ∉ mu := fun m => by
  obtain ⟨u, e⟩ := r.live m
  rw [hp] at e; cases e
theorem RO.grow (g : Gr mu H mu' H') {p : Addr} {o : Ob} (k : ∀ u, H p = some u → H' p = some u) (r : RO K fa mu H p o) : RO K fa mu' H' p o := by
  cases o with
  | lst xs => obtain ⟨vs, e, r⟩ := r; exact ⟨vs, k _ e, RlL.grow g _ _ r⟩
  | dk xs => obtain ⟨vs, e, r⟩ := r; exact ⟨vs, k _ e, r.grow g⟩
  | dt xs => obtain ⟨vs, ys, c, e, r1, r⟩ := r; exact ⟨vs, ys, c, k _ e, RlL.grow g _ _ r1, r.grow g⟩
  | gone => obtain ⟨u, e⟩ := r; exact ⟨u, k _ e⟩
/-- a new thing that is not one of the live ones -/
theorem Gr.upd (r : RH K fa mu h H) {p : Addr} {o : HO} (hp : H p = none) : Gr mu H mu (upd H p o) :=
  ⟨⟨[], by simp⟩, ⟨[], by simp⟩, fun q u e _ => by rw [upd_ne (ne_of_none e hp)]; exact e, fun q e => by
    by_cases hq : q = p
    · subst hq; exact hp
    · rw [upd_ne hq] at e; exact e⟩
theorem RH.upd (r : RH K fa mu h H) {p : Addr} {o : HO} (hp : H p = none) : RH K fa mu h (upd H p o) :=
  ⟨r.nd, r.len, fun n ob q e m => RO.grow (Gr.upd r hp) (fun u hu => by rw [upd_ne (ne_of_none hu hp)]; exact hu) (r.at_ n ob q e m), fun q hq => ⟨(r.av q hq).1, let ⟨u, e⟩ := (r.av q hq).2; ⟨u, by rw [upd_ne (ne_of_none e hp)]; exact e⟩⟩⟩
/-- with one more live -/
abbrev Lv.add (mu : Lv) (p : Addr) : Lv := ⟨mu.mu ++ [p], mu.av⟩
theorem Gr.push {p : Addr} {o : HO} (hp : H p = none) : Gr mu H (mu.add p) (L2.upd H p o) :=
  ⟨⟨[], by simp⟩, ⟨[p], rfl, fun q hq => by rw [List.mem_singleton.mp hq]; exact hp⟩, fun q u e _ => by rw [upd_ne (ne_of_none e hp)]; exact e, fun q e => by
    by_cases hq : q = p
    · subst hq; exact hp
    · rw [upd_ne hq] at e; exact e⟩
theorem RH.push (r : RH K fa mu h H) {p : Addr} {o : HO} {ob : Ob} (hp : H p = none) (ro : RO K fa (mu.add p) (L2.upd H p o) p ob) : RH K fa (mu.add p) (h ++ [ob]) (L2.upd H p o) := by
  have hn := r.new hp
  refine ⟨?_, by simp [r.len], fun n ob' q e m => ?_, fun q hq => ?_⟩
  rotate_left 2
  · obtain ⟨a, u, e⟩ := r.av q hq
    have hqp : q ≠ p := ne_of_none e hp
    exact ⟨fun z => (List.mem_append.mp z).elim a fun z => hqp (List.mem_singleton.mp z), u, by rw [upd_ne hqp]; exact e⟩
  · rw [List.nodup_append]
    exact ⟨r.nd, by simp, fun a ha b hb => by rw [List.mem_singleton.mp hb]; intro z; exact hn (.inl (z ▸ ha))⟩
  · by_cases hl : n < h.length
    · rw [List.getElem?_append_left hl] at e
      rw [List.getElem?_append_left (by rw [r.len]; exact hl)] at m
      exact RO.grow (Gr.push hp) (fun u hu => by rw [upd_ne (ne_of_none hu hp)]; exact hu) (r.at_ n ob' q e m)
    · have hl' : n = h.length := by
        have : n < (h ++ [ob]).length := (List.getElem?_eq_some_iff.mp e).1
        simp at this; omega
      subst hl'
      rw [List.getElem?_append_right (Nat.le_refl _)] at e
      rw [List.getElem?_append_right (by rw [r.len]; exact Nat.le_refl _), r.len] at m
      simp at e m
      subst e m
      exact ro
/-- a live one is changed -/
theorem Gr.write {p : Addr} {o : HO} (hp : p ∈ mu.mu) : Gr mu H mu (L2.upd H p o) :=
  ⟨⟨[], by simp⟩, ⟨[], by simp⟩, fun q u e hq => by rw [upd_ne (fun z : q = p => by rw [z] at hq; exact hq hp)]; exact e, fun q e => by
    by_cases hq : q = p
    · subst hq; rw [upd_same] at e; cases e
    · rw [upd_ne hq] at e; exact e⟩
theorem RH.write (r : RH K fa mu h H) {n : Nat} {p : Addr} {o : HO} {ob : Ob} (m : mu.mu[n]? = some p) (ro : RO K fa mu (L2.upd H p o) p ob) : RH K fa mu (h.set n ob) (L2.upd H p o) := by
  have hp : p ∈ mu.mu := List.mem_of_getElem? m
  refine ⟨r.nd, by simp [r.len], fun k ob' q e mk => ?_, fun q hq => ?_⟩
  rotate_left
  · obtain ⟨a, u, e⟩ := r.av q hq
    exact ⟨a, u, by rw [upd_ne (fun z : q = p => a (z ▸ hp))]; exact e⟩
  by_cases hk : k = n
  · subst hk
    rw [m] at mk; cases mk
    have hl : k < h.length := by rw [← r.len]; exact (List.getElem?_eq_some_iff.mp m).1
    rw [List.getElem?_set_self hl] at e
    cases e
    exact ro
  · rw [List.getElem?_set_ne (fun z => hk z.symm)] at e
    have hq : q ≠ p := fun z => by
      subst z
      exact hk (nd_ix r.nd mk m)
    exact RO.grow (Gr.write hp) (fun u hu => by rw [upd_ne hq]; exact hu) (r.at_ k ob' q e mk)
end
end Fx
set_option Elab.async false
set_option linter.all false
namespace Fx
open PySem PySem.Spec PyProof.Rows L2

/-! ## the text's own tree, names by their slots -/
inductive Op2 where | add | sub | mul | fdiv | mod | pow
deriving DecidableEq
inductive Cmp where | eq | ne | lt | le | gt | ge | iss | isn | inn | nin
deriving DecidableEq
/-- built-ins called by name -/
inductive Bi where | len | abs | min | max | sum | all | any | int | tuple | list | isi (t : String)
deriving DecidableEq
/-- methods of lists -/
inductive Mt where | append | extend | pop | index | count
deriving DecidableEq
mutual
inductive Tg where | name (i : Nat) | tup (gs : Tgs)
inductive Tgs where | nil | cons (g : Tg) (r : Tgs)
end
mutual
inductive Ex where
  | v (i : Nat) | ci (i : Int) | cb (b : Bool) | cn | cs (x : Str) | fn (f : Nat)
  | op (o : Op2) (m : Bool) (a b : Ex)
  | neg (a : Ex) | no (a : Ex) | bop (and : Bool) (as : Exs)
  | cmp (c : Cmp) (a b : Ex) | chain (c c' : Cmp) (a b d : Ex) | isN (neg : Bool) (a : Ex)
  | ite (t a b : Ex)
  | call (f : Nat) (as : Exs) | bi (f : Bi) (m : Bool) (as : Exs) | isi (t : String) (a : Ex) | mt (f : Mt) (o : Ex) (as : Exs)
  | rgT (as : Exs) | rgL (m : Bool) (as : Exs)
  | ix (a i : Ex) | sl (a : Ex) (lo hi : Exo) | rev (a : Ex)
  | tup (as : Exs) | lst (m : Bool) (as : Exs)
  | comp (m : Bool) (own : List Nat) (g : Tg) (it : Itr) (cond : Exo) (elt : Ex)
  | isx (k : Option Nat) (a : Ex) | dkd (ps : Exps) | dk0 | dt0 | dget (o k d : Ex) | dix (o k : Ex) | din (neg : Bool) (k o : Ex)
  | srt (m : Bool) (a : Ex) | lset (a : Ex) | lenum (a : Ex) | tix (a x : Ex)
inductive Exs where | nil | cons (a : Ex) (r : Exs)
inductive Exps where | nil | cons (k v : Ex) (r : Exps)
inductive Exo where | none | some (a : Ex)
/-- what a loop walks -/
inductive Itr where | seq (a : Ex) | range (n : Nat) (as : Exs) | enum (a : Ex) | zip (a b : Ex)
end
mutual
inductive Sm where
  | asg (g : Tg) (e : Ex) | asgL (i : Nat) (e : Ex) | par (is : List Nat) (as : Exs) | setix (o i v : Ex)
  | expr (e : Ex) | ret (e : Ex) | retN | iff (t : Ex) (a b : Sms) | whil (t : Ex) (b : Sms) | forr (g : Tg) (it : Itr) (b : Sms)
  | rais (c : Nat) | pass | brk | cont | tryk (b : Sms) (k i j : Nat) | dset (o k v : Ex) | setix2 (o i o' i' a b : Ex)
inductive Sms where | nil | cons (a : Sm) (r : Sms)
end

/-! ## data -/
mutual
def deq : D → D → Bool
  | .non, .non => true
  | .bl a, .bl b => a == b
  | .bl a, .int j => (if a then 1 else 0) == j
  | .int i, .bl b => i == (if b then 1 else 0)
  | .int i, .int j => i == j
  | .str x, .str y => x == y
  | .lst xs, .lst ys => deqL xs ys
  | .lst xs, .scr ys => deqL xs ys
  | .scr xs, .lst ys => deqL xs ys
  | .scr xs, .scr ys => deqL xs ys
  | .tup xs, .tup ys => deqL xs ys
  | _, _ => false
def deqL : List D → List D → Bool
  | [], [] => true
  | x :: xs, y :: ys => deq x y && deqL xs ys
  | _, _ => false
end
mutual
/-- no live ones in it -/
def pln : D → Bool
  | .ref _ => false
  | .fn _ => false
  | .exc _ => false
  | .pr _ _ => false
  | .tup xs => plnL xs
  | .lst xs => plnL xs
  | .scr xs => plnL xs
  | .str x => PyData.strOk x
  | _ => true
def plnL : List D → Bool
  | [] => true
  | x :: xs => pln x && plnL xs
end
mutual
def dep : D → Nat
  | .tup xs => depL xs + 1
  | .lst xs => depL xs + 1
  | .scr xs => depL xs + 1
  | _ => 0
def depL : List D → Nat
  | [] => 0
  | x :: xs => max (dep x) (depL xs)
end
mutual
/-- the very same -/
def sam : D → D → Bool
  | .non, .non => true
  | .bl a, .bl b => a == b
  | .int i, .int j => i == j
  | .str x, .str y => x == y
  | .lst xs, .lst ys => samL xs ys
  | .scr xs, .scr ys => samL xs ys
  | .tup xs, .tup ys => samL xs ys
  | .ref n, .ref m => n == m
  | .fn n, .fn m => n == m
  | .exc n, .exc m => n == m
  | .pr a b, .pr c d => sam a c && sam b d
  | _, _ => false
def samL : List D → List D → Bool
  | [], [] => true
  | x :: xs, y :: ys => sam x y && samL xs ys
  | _, _ => false
end
def flat : D → Bool
  | .non => true | .bl _ => true | .int _ => true | .str _ => true | _ => false

/-! ## what the operations give -/
def lstOf (h : Hh) : D → Option (List D)
  | .lst xs => some xs
  | .scr xs => some xs
  | .ref n => match h[n]? with | some (.lst xs) => some xs | _ => none
  | _ => none
def trkOf (h : Hh) : D → Option (List D)
  | .lst xs => some xs
  | .ref n => match h[n]? with | some (.lst xs) => some xs | _ => none
  | _ => none
def seqOf (h : Hh) : D → Option (List D)
  | .tup xs => some xs
  | d => lstOf h d
def mkL (m : Bool) (xs : List D) (h : Hh) : Res (D × Hh) := if m then .ok (.ref h.length, h ++ [.lst xs]) else .ok (.lst xs, h)
/-- a list as it stands -/
def drf (h : Hh) : D → D
  | .ref n => match h[n]? with | some (.lst xs) => .lst xs | _ => .ref n
  | d => d
def addD (m : Bool) (a b : D) (h : Hh) : Res (D × Hh) :=
  match a with
  | .int i => (match b with | .int j => .ok (.int (i + j), h) | _ => .fail)
  | .str x => (match b with | .str y => if x.length + y.length ≤ sizeLine then .ok (.str (x ++ y), h) else .fail | _ => .fail)
  | .tup xs => (match b with | .tup ys => if xs.length + ys.length ≤ sizeLine then .ok (.tup (xs ++ ys), h) else .fail | _ => .fail)
  | a => match trkOf h a with
    | none => .fail
    | some xs => match trkOf h b with
      | none => .fail
      | some ys => if xs.length + ys.length ≤ sizeLine then mkL m (xs ++ ys) h else .fail
def mulD (a b : D) : Res D :=
  match a with
  | .int i => (match b with | .int j => if i.natAbs.log2 + j.natAbs.log2 < 1000000 then .ok (.int (i * j)) else .fail | _ => .fail)
  | .tup xs => (match b with | .int k => if xs ≠ [] ∧ 2 ≤ k ∧ k ≤ 1000 ∧ xs.length ≤ 1000 then .ok (.tup (List.replicate k.toNat xs).flatten) else .fail | _ => .fail)
  | .str x => (match b with | .int k => if 1 ≤ k ∧ k ≤ 1000 ∧ x.length ≤ 1000 then .ok (.str (PySem.Txt.mul x k)) else .fail | _ => .fail)
  | _ => .fail
def intsD (a b : D) (f : Int → Int → Res D) : Res D :=
  match a with
  | .int i => (match b with | .int j => f i j | _ => .fail)
  | _ => .fail
def opD (o : Op2) (m : Bool) (a b : D) (h : Hh) : Res (D × Hh) :=
  match o with
  | .add => addD m a b h
  | .mul => mulD a b >>= fun d => .ok (d, h)
  | .sub => intsD a b (fun i j => .ok (.int (i - j))) >>= fun d => .ok (d, h)
  | .fdiv => intsD a b (fun i j => if 0 < j ∧ j.natAbs.log2 < 9000 then .ok (.int (i / j)) else .fail) >>= fun d => .ok (d, h)
  | .mod => intsD a b (fun i j => if 0 < j then .ok (.int (i % j)) else .fail) >>= fun d => .ok (d, h)
  | .pow => intsD a b (fun i j => if 0 ≤ j ∧ j ≤ 1000000 ∧ i.natAbs < 2 ^ 64 then .ok (.int (i ^ j.toNat)) else .fail) >>= fun d => .ok (d, h)
def eqD (h : Hh) (a b : D) : Res Bool :=
  if pln (drf h a) = true ∧ pln (drf h b) = true ∧ dep (drf h a) ≤ 60 ∧ dep (drf h b) ≤ 60 then .ok (deq (drf h a) (drf h b)) else .fail
def inD (h : Hh) (a b : D) : Res Bool :=
  match seqOf h b with
  | none => .fail
  | some ys => if flat a = true ∧ ys.all flat = true then .ok (ys.any fun y => deq y a)
    else if pln a = true ∧ plnL ys = true ∧ dep a ≤ 60 ∧ depL ys ≤ 60 then .ok (ys.any fun y => deq y a) else .fail
def ordD (a b : D) (f : Int → Int → Bool) : Res Bool :=
  match a with
  | .int i => (match b with | .int j => .ok (f i j) | _ => .fail)
  | _ => .fail
def boolD (a b : D) (f : Bool → Bool → Bool) : Res Bool :=
  match a with
  | .bl i => (match b with | .bl j => .ok (f i j) | _ => .fail)
  | _ => .fail
def cmpD (c : Cmp) (h : Hh) (a b : D) : Res Bool :=
  match c with
  | .eq => eqD h a b
  | .ne => eqD h a b >>= fun t => .ok (!t)
  | .lt => ordD a b fun i j => decide (i < j)
  | .le => ordD a b fun i j => decide (i ≤ j)
  | .gt => ordD a b fun i j => decide (j < i)
  | .ge => ordD a b fun i j => decide (j ≤ i)
  | .iss => boolD a b fun i j => decide (i = j)
  | .isn => boolD a b fun i j => !decide (i = j)
  | .inn => inD h a b
  | .nin => inD h a b >>= fun t => .ok (!t)
def tyOf (h : Hh) : D → Option String
  | .non => some "NoneType" | .bl _ => some "bool" | .int _ => some "int" | .str _ => some "str"
  | .tup _ => some "tuple" | .lst _ => some "list" | .scr _ => none
  | .ref n => (match h[n]? with | some (.lst _) => some "list" | some (.dk _) => some "dict" | _ => none)
  | .fn _ => none | .exc _ => none | .pr _ _ => none
def intL : List D → Option (List Int)
  | [] => some []
  | .int i :: r => (intL r).map (i :: ·)
  | _ => none
def blL : List D → Option (List Bool)
  | [] => some []
  | .bl i :: r => (blL r).map (i :: ·)
  | _ => none
def leastI : List Int → Int
  | [] => 0
  | [x] => x
  | x :: r => min x (leastI r)
def mostI : List Int → Int
  | [] => 0
  | [x] => x
  | x :: r => max x (mostI r)
def one (ds : List D) (f : D → Res (D × Hh)) : Res (D × Hh) :=
  match ds with
  | [d] => f d
  | _ => .fail
def biD (f : Bi) (m : Bool) (ds : List D) (h : Hh) : Res (D × Hh) :=
  match f with
  | .len => one ds fun d => (match d with
    | .str x => if x.length ≤ sizeLine then .ok (.int x.length, h) else .fail
    | d => match seqOf h d with
      | some xs => .ok (.int xs.length, h)
      | none => .fail)
  | .abs => one ds fun d => (match d with | .int i => .ok (.int (if i < 0 then -i else i), h) | _ => .fail)
  | .int => one ds fun d => (match d with
    | .int i => .ok (.int i, h)
    | .bl b => .ok (.int (if b then 1 else 0), h)
    | .str x => if x.length ≤ 640 then (match PySem.intText? x with | some n => .ok (.int n, h) | none => .fail) else .fail
    | _ => .fail)
  | .tuple => one ds fun d => (match d with
    | .tup xs => .ok (.tup xs, h)
    | d => match lstOf h d with
      | some xs => .ok (.tup xs, h)
      | none => .fail)
  | .list => one ds fun d => (match seqOf h d with
      | some xs => mkL m xs h
      | none => .fail)
  | .sum => one ds fun d => (match lstOf h d with
      | none => .fail
      | some xs => match intL xs with
        | some ns => .ok (.int ns.sum, h)
        | none => .fail)
  | .all => one ds fun d => (match lstOf h d with
      | none => .fail
      | some xs => match blL xs with
        | some ns => .ok (.bl (ns.all id), h)
        | none => .fail)
  | .any => one ds fun d => (match lstOf h d with
      | none => .fail
      | some xs => match blL xs with
        | some ns => .ok (.bl (ns.any id), h)
        | none => .fail)
  | .min => (match ds with
    | [.int i, .int j] => .ok (.int (if j < i then j else i), h)
    | ds => one ds fun d => match lstOf h d with
      | none => .fail
      | some xs => match intL xs with
        | some ns => if 0 < ns.length then .ok (.int (leastI ns), h) else .fail
        | none => .fail)
  | .max => (match ds with
    | [.int i, .int j] => .ok (.int (if j > i then j else i), h)
    | ds => one ds fun d => match lstOf h d with
      | none => .fail
      | some xs => match intL xs with
        | some ns => if 0 < ns.length then .ok (.int (mostI ns), h) else .fail
        | none => .fail)
  | .isi t => one ds fun d => (match tyOf h d with
      | none => .fail
      | some a => match kitB a t with
        | some b => .ok (.bl b, h)
        | none => .fail)
/-! ### exceptions, dicts, sorted lists -/
mutual
def cv : D → PyData
  | .non => .none
  | .bl b => .bool b
  | .int i => .int i
  | .str x => .str x
  | .tup xs => .tuple (cvL xs)
  | .lst xs => .list (cvL xs)
  | .scr xs => .list (cvL xs)
  | .ref _ => .none
  | .fn _ => .none
  | .exc _ => .none
  | .pr _ _ => .none
def cvL : List D → List PyData
  | [] => []
  | x :: xs => cv x :: cvL xs
end
/-- each once -/
def dst : List Int → List Int
  | [] => []
  | x :: xs => if (dst xs).contains x = true then dst xs else x :: dst xs
def tupB : D → Bool
  | .tup (_ :: _) => true
  | _ => false
def othB : D → Bool
  | .non => false
  | .tup _ => false
  | _ => true
/-- they can be sorted -/
def srtOk (xs : List D) : Bool := plnL xs && decide (depL xs ≤ 50) && decide (xs.length ≤ 1000000) && (xs.all fun a => xs.all fun b => PySem.W.alike (cv a) (cv b)) && (xs.all tupB || xs.all othB)
def sortL (xs : List D) : List D := xs.mergeSort (PySem.W.dataLe false cv)
def srtD (m : Bool) (a : D) (h : Hh) : Res (D × Hh) :=
  match seqOf h a with
  | some xs => if srtOk xs = true then mkL m (sortL xs) h else .fail
  | none => .fail
/-- the first class is above all others; none: ValueError -/
def subX : Option Nat → Nat → Bool
  | none, _ => true
  | some k, c => decide (k = 0) || decide (k = c)
def keyD : D → Option Key
  | .int i => some (.inl i)
  | .str x => some (.inr x)
  | _ => none
def keysD : List D → Option (List Key)
  | [] => some []
  | x :: xs => match keyD x with
    | none => none
    | some k => (keysD xs).map (k :: ·)
def getK {κ : Type} [DecidableEq κ] (kvs : List (κ × D)) (k : κ) : Option D := (kvs.find? fun kv => decide (kv.1 = k)).map (·.2)
def setK {κ : Type} [DecidableEq κ] (kvs : List (κ × D)) (k : κ) (v : D) : List (κ × D) :=
  if (kvs.any fun kv => decide (kv.1 = k)) = true then kvs.map (fun kv => if kv.1 = k then (kv.1, v) else kv) else kvs ++ [(k, v)]
def isDct (h : Hh) : D → Bool
  | .ref n => (match h[n]? with | some (.dk _) => true | _ => false)
  | _ => false
/-- what the dict holds at a key -/
def dctG (h : Hh) (o k : D) : Option (Option D) :=
  match o with
  | .ref n => (match h[n]? with
    | some (.dk kvs) => (keyD k).map fun k => getK kvs k
    | some (.dt kvs) => (match k with
      | .tup xs => (intL xs).map fun k => getK kvs k
      | _ => none)
    | _ => none)
  | _ => none
def dctS (h : Hh) (o k v : D) : Res Hh :=
  match o with
  | .ref n => (match h[n]? with
    | some (.dk kvs) => (match keyD k with
      | some k => if kvs.length < sizeLine then .ok (h.set n (.dk (setK kvs k v))) else .fail
      | none => .fail)
    | some (.dt kvs) => (match k with
      | .tup xs => (match intL xs with
        | some k => if kvs.length < sizeLine then .ok (h.set n (.dt (setK kvs k v))) else .fail
        | none => .fail)
      | _ => .fail)
    | _ => .fail)
  | _ => .fail
def pairsK : List (D × D) → Option (List (Key × D))
  | [] => some []
  | (k, v) :: r => (match keyD k with
    | none => none
    | some k => (pairsK r).map ((k, v) :: ·))
def mergK (kvs more : List (Key × D)) : List (Key × D) := more.foldl (fun acc kv => setK acc kv.1 kv.2) kvs
/-- a method that changes the list n -/
def onL (h : Hh) (o : D) (f : Nat → List D → Res (D × Hh)) : Res (D × Hh) :=
  match o with
  | .ref n => (match h[n]? with | some (.lst xs) => f n xs | _ => .fail)
  | _ => .fail
def mtD (f : Mt) (o : D) (ds : List D) (h : Hh) : Res (D × Hh) :=
  match f with
  | .append => one ds fun d => onL h o fun n xs => if xs.length < sizeLine then .ok (.non, h.set n (.lst (xs ++ [d]))) else .fail
  | .extend => one ds fun d => onL h o fun n xs => (match d with
    | .lst ys => if xs.length + ys.length ≤ sizeLine then .ok (.non, h.set n (.lst (xs ++ ys))) else .fail
    | _ => .fail)
  | .pop => onL h o fun n xs => (match ds with
    | [] => (match xs[xs.length - 1]? with | some d => .ok (d, h.set n (.lst xs.dropLast)) | none => .fail)
    | [.int i] => (match seqIndex? i xs.length with
      | none => .fail
      | some k => if -(2 ^ 63) ≤ i ∧ i < 2 ^ 63 then (match xs[k]? with | some d => .ok (d, h.set n (.lst (xs.eraseIdx k))) | none => .fail) else .fail)
    | _ => .fail)
  | .index => one ds fun d => (match lstOf h o with
    | none => .fail
    | some xs => if flat d = true ∧ xs.all flat = true then (match xs.findIdx? fun y => deq y d with | some j => .ok (.int j, h) | none => .fail) else .fail)
  | .count => one ds fun d => (match lstOf h o with
    | none => .fail
    | some xs => if flat d = true ∧ xs.all flat = true then .ok (.int (xs.countP fun y => deq y d : Nat), h) else .fail)
def rgB (ds : List D) : Option (Int × Int) :=
  match ds with
  | [.int j] => some (0, j)
  | [.int i, .int j] => some (i, j)
  | _ => none
def rgOk (i j : Int) : Bool := decide (-(2 ^ 62) ≤ i ∧ i < 2 ^ 62 ∧ -(2 ^ 62) ≤ j ∧ j < 2 ^ 62 ∧ (j - i).toNat ≤ 2 ^ 24 - 1)
def rgD (i j : Int) : List D := (List.range (j - i).toNat).map fun k => D.int (i + (k : Nat))
def rngD (ds : List D) : Option (List D) :=
  match rgB ds with
  | some (i, j) => if rgOk i j = true then some (rgD i j) else none
  | none => none
def ixD (a i : D) (h : Hh) : Res D :=
  match i with
  | .int k => (match seqOf h a with
    | some xs => (match atI xs k with | some d => .ok d | none => .fail)
    | none => .fail)
  | _ => .fail
def cutL (xs : List D) (lo hi : Option Int) : List D := (xs.drop (HT.sIx xs.length 0 lo)).take (HT.sIx xs.length xs.length hi - HT.sIx xs.length 0 lo)
def slD (a : D) (lo hi : Option Int) (h : Hh) : Res D :=
  match a with
  | .tup xs => .ok (.tup (cutL xs lo hi))
  | a => match lstOf h a with
    | some xs => .ok (.lst (cutL xs lo hi))
    | none => .fail
def revD (a : D) (h : Hh) : Res D :=
  match a with
  | .tup xs => .ok (.tup xs.reverse)
  | a => match lstOf h a with
    | some xs => .ok (.lst xs.reverse)
    | none => .fail
mutual
def tgD : Tg → D → Ev → Option Ev
  | .name i, d, r => some (r.set i (some d))
  | .tup gs, .tup xs, r => tgL gs xs r
  | .tup gs, .lst xs, r => tgL gs xs r
  | .tup gs, .pr a b, r => tgL gs [a, b] r
  | .tup _, _, _ => none
def tgL : Tgs → List D → Ev → Option Ev
  | .nil, [], r => some r
  | .cons g gs, x :: xs, r => (tgD g x r).bind fun r => tgL gs xs r
  | _, _, _ => none
end
mutual
/-- its stores go to these slots alone -/
def tgIn (own : List Nat) : Tg → Bool
  | .name i => own.contains i
  | .tup gs => tgsIn own gs
def tgsIn (own : List Nat) : Tgs → Bool
  | .nil => true
  | .cons g gs => tgIn own g && tgsIn own gs
end
def stl (src : Option Nat) (all : List D) (h : Hh) : Bool :=
  match src with
  | none => true
  | some n => (match h[n]? with | some (.lst ys) => samL ys all | _ => false)
def wip (r : Ev) : List Nat → Ev
  | [] => r
  | v :: vs => (wip r vs).set v none
/-- a walk's items, and the live list that they stand in -/
abbrev Wk := List D × Option Nat
def walkD (a : D) (h : Hh) : Res Wk :=
  match a with
  | .tup xs => .ok (xs, none)
  | .lst xs => .ok (xs, none)
  | .scr xs => .ok (xs, none)
  | .ref n => (match h[n]? with | some (.lst xs) => .ok (xs, some n) | _ => .fail)
  | _ => .fail
def numb : Nat → List D → List D
  | _, [] => []
  | i, x :: xs => .pr (.int (i : Nat)) x :: numb (i + 1) xs
def pair : List D → List D → List D
  | x :: xs, y :: ys => .pr x y :: pair xs ys
  | _, _ => []
/-- a loop's or a block's outcome -/
inductive Out where
  | nx (r : Ev) (h : Hh) | rt (d : D) (h : Hh) | bk (r : Ev) (h : Hh) | ct (r : Ev) (h : Hh) | ex (c : Nat) (r : Ev) (h : Hh)
/-- a part of a statement, at the slots r -/
def lft {α : Type} (r : Ev) (x : Res (α × Hh)) (f : α × Hh → Res Out) : Res Out :=
  match x with
  | .ok a => f a
  | .exc c h => .ok (.ex c r h)
  | .fail => .fail
@[simp] theorem lft_ok {α : Type} (r : Ev) (a : α × Hh) (f : α × Hh → Res Out) : lft r (.ok a) f = f a := (rfl)
def nox {α : Type} : Res α → Res α
  | .exc _ _ => .fail
  | r => r
@[simp] theorem nox_ok {α : Type} (a : α) : nox (Res.ok a) = Res.ok a := (rfl)
@[simp] theorem nox_fail {α : Type} : nox (Res.fail : Res α) = Res.fail := (rfl)
def compD (src : Option Nat) (all : List D) (g : Tg) (r0 : Ev) (cond : Ev → Hh → Res (Bool × Hh)) (elt : Ev → Hh → Res (D × Hh)) : List D → Hh → Res (List D × Hh)
  | [], h => if stl src all h = true then .ok ([], h) else .fail
  | x :: xs, h => if stl src all h = true then
      (match tgD g x r0 with
      | none => .fail
      | some r1 => nox (cond r1 h) >>= fun bh => if bh.1 = true then nox (elt r1 bh.2) >>= fun yh => compD src all g r0 cond elt xs yh.2 >>= fun zh => .ok (yh.1 :: zh.1, zh.2)
          else compD src all g r0 cond elt xs bh.2)
    else .fail
def forD (src : Option Nat) (all : List D) (g : Tg) (body : Ev → Hh → Res Out) : List D → Ev → Hh → Res Out
  | [], r, h => if stl src all h = true then .ok (.nx r h) else .fail
  | x :: xs, r, h => if stl src all h = true then
      (match tgD g x r with
      | none => .fail
      | some r1 => body r1 h >>= fun o => match o with
        | .nx r2 h2 => forD src all g body xs r2 h2
        | .ct r2 h2 => forD src all g body xs r2 h2
        | .bk r2 h2 => .ok (.nx r2 h2)
        | o => .ok o)
    else .fail
def whileN (c : Ev → Hh → Res (Bool × Hh)) (body : Ev → Hh → Res Out) : Nat → Ev → Hh → Res Out
  | 0, _, _ => .fail
  | n + 1, r, h => lft r (c r h) fun bh => if bh.1 = true then body r bh.2 >>= fun o => match o with
        | .nx r2 h2 => whileN c body n r2 h2
        | .ct r2 h2 => whileN c body n r2 h2
        | .bk r2 h2 => .ok (.nx r2 h2)
        | o => .ok o
      else .ok (.nx r bh.2)
open Classical in
noncomputable def whileD (c : Ev → Hh → Res (Bool × Hh)) (body : Ev → Hh → Res Out) (r : Ev) (h : Hh) : Res Out :=
  if e : ∃ n, whileN c body n r h ≠ .fail then whileN c body (Classical.choose e) r h else .fail

/-! ## what the text gives -/
abbrev Cal := Nat → List D → Hh → Res (D × Hh)
def asB : D → Hh → Res (Bool × Hh)
  | .bl b, h => .ok (b, h)
  | _, _ => .fail
def asI : D → Hh → Res (Int × Hh)
  | .int b, h => .ok (b, h)
  | _, _ => .fail
mutual
def evE (C : Cal) : Ex → Ev → Hh → Res (D × Hh)
  | .v i, r, h => (match r[i]? with | some (some d) => .ok (d, h) | _ => .fail)
  | .ci i, _, h => .ok (.int i, h)
  | .cb b, _, h => .ok (.bl b, h)
  | .cn, _, h => .ok (.non, h)
  | .cs x, _, h => .ok (.str x, h)
  | .fn f, _, h => .ok (.fn f, h)
  | .op o m a b, r, h => evE C a r h >>= fun x => evE C b r x.2 >>= fun y => nox (opD o m x.1 y.1 y.2)
  | .neg a, r, h => evE C a r h >>= fun x => (match x.1 with | .int i => .ok (.int (-i), x.2) | _ => .fail)
  | .no a, r, h => evE C a r h >>= fun x => asB x.1 x.2 >>= fun b => .ok (.bl (!b.1), b.2)
  | .bop k as, r, h => evB C k as r h >>= fun b => .ok (.bl b.1, b.2)
  | .cmp c a b, r, h => evE C a r h >>= fun x => evE C b r x.2 >>= fun y => nox (cmpD c y.2 x.1 y.1) >>= fun t => .ok (.bl t, y.2)
  | .chain c c' a b d, r, h => evE C a r h >>= fun x => evE C b r x.2 >>= fun y => nox (cmpD c y.2 x.1 y.1) >>= fun t =>
      if t = true then evE C d r y.2 >>= fun z => nox (cmpD c' z.2 y.1 z.1) >>= fun t' => .ok (.bl t', z.2) else .ok (.bl false, y.2)
  | .isN neg a, r, h => evE C a r h >>= fun x => (match x.1 with | .non => .ok (.bl (!neg), x.2) | _ => .ok (.bl neg, x.2))
  | .ite t a b, r, h => evE C t r h >>= fun x => asB x.1 x.2 >>= fun c => if c.1 = true then evE C a r c.2 else evE C b r c.2
  | .call f as, r, h => evEs C as r h >>= fun x => C f x.1 x.2
  | .bi f m as, r, h => evEs C as r h >>= fun x => nox (biD f m x.1 x.2)
  | .isi t a, r, h => evE C a r h >>= fun x => nox (biD (.isi t) false [x.1] x.2)
  | .mt f o as, r, h => evE C o r h >>= fun x => (match lstOf x.2 x.1 with | none => .fail | some _ => evEs C as r x.2 >>= fun y => nox (mtD f x.1 y.1 y.2))
  | .rgT as, r, h => evEs C as r h >>= fun x => (match rngD x.1 with | some xs => .ok (.tup xs, x.2) | none => .fail)
  | .rgL m as, r, h => evEs C as r h >>= fun x => (match rngD x.1 with | some xs => mkL m xs x.2 | none => .fail)
  | .ix a i, r, h => evE C a r h >>= fun x => evE C i r x.2 >>= fun y => nox (ixD x.1 y.1 y.2) >>= fun d => .ok (d, y.2)
  | .sl a lo hi, r, h => evE C a r h >>= fun x => evO C lo r x.2 >>= fun l => evO C hi r l.2 >>= fun u => nox (slD x.1 l.1 u.1 u.2) >>= fun d => .ok (d, u.2)
  | .rev a, r, h => evE C a r h >>= fun x => nox (revD x.1 x.2) >>= fun d => .ok (d, x.2)
  | .tup as, r, h => evEs C as r h >>= fun x => if x.1.length ≤ sizeLine then .ok (.tup x.1, x.2) else .fail
  | .lst m as, r, h => evEs C as r h >>= fun x => if x.1.length ≤ sizeLine then mkL m x.1 x.2 else .fail
  | .comp m own g it cond elt, r, h => evI C it r h >>= fun w => if w.1.1.length ≤ sizeLine then
      nox (compD w.1.2 w.1.1 g (wip r own) (evC C cond) (evE C elt) w.1.1 w.2) >>= fun x => mkL m x.1 x.2 else .fail
  | .isx k a, r, h => evE C a r h >>= fun x => (match x.1 with | .exc c => .ok (.bl (subX k c), x.2) | _ => .fail)
  | .dkd ps, r, h => evPs C ps r h >>= fun x => (match pairsK x.1 with
    | some kvs => if kvs.length ≤ 15 then .ok (.ref x.2.length, x.2 ++ [.dk (mergK [] kvs)]) else .fail
    | none => .fail)
  | .dk0, _, h => .ok (.ref h.length, h ++ [.dk []])
  | .dt0, _, h => .ok (.ref h.length, h ++ [.dt []])
  | .dget o k d, r, h => evE C o r h >>= fun x => if isDct x.2 x.1 = true then evE C k r x.2 >>= fun y => evE C d r y.2 >>= fun z => (match (if isDct z.2 x.1 = true then dctG z.2 x.1 y.1 else none) with
    | some v => .ok (v.getD z.1, z.2)
    | none => .fail) else .fail
  | .dix o k, r, h => evE C o r h >>= fun x => evE C k r x.2 >>= fun y => (match dctG y.2 x.1 y.1 with
    | some (some v) => .ok (v, y.2)
    | _ => .fail)
  | .din neg k o, r, h => evE C k r h >>= fun y => evE C o r y.2 >>= fun x => (match dctG x.2 x.1 y.1 with
    | some v => .ok (.bl (if neg then !v.isSome else v.isSome), x.2)
    | none => .fail)
  | .srt m a, r, h => evE C a r h >>= fun x => nox (srtD m x.1 x.2)
  | .lenum a, r, h => evE C a r h >>= fun x => (match x.1 with
    | .tup xs => .ok (.lst (numb 0 xs), x.2)
    | _ => .fail)
  | .lset a, r, h => evE C a r h >>= fun x => (match x.1 with
    | .tup xs => (match intL xs with
      | some ns => if ns.length ≤ 4000 then .ok (.int ((dst ns).length : Nat), x.2) else .fail
      | none => .fail)
    | _ => .fail)
  | .tix a b, r, h => evE C a r h >>= fun x => (match x.1 with
    | .tup xs => evE C b r x.2 >>= fun y => (match y.1 with
      | .int i => (match intL xs with
        | some ns => (match ns.findIdx? fun j => j == i with | some j => .ok (.int (j : Nat), y.2) | none => .fail)
        | none => .fail)
      | _ => .fail)
    | _ => .fail)
def evB (C : Cal) (k : Bool) : Exs → Ev → Hh → Res (Bool × Hh)
  | .nil, _, _ => .fail
  | .cons a .nil, r, h => evE C a r h >>= fun x => asB x.1 x.2
  | .cons a (.cons b rest), r, h => evE C a r h >>= fun x => asB x.1 x.2 >>= fun c => if c.1 = k then evB C k (.cons b rest) r c.2 else .ok c
def evEs (C : Cal) : Exs → Ev → Hh → Res (List D × Hh)
  | .nil, _, h => .ok ([], h)
  | .cons a rest, r, h => evE C a r h >>= fun x => evEs C rest r x.2 >>= fun y => .ok (x.1 :: y.1, y.2)
def evPs (C : Cal) : Exps → Ev → Hh → Res (List (D × D) × Hh)
  | .nil, _, h => .ok ([], h)
  | .cons a b rest, r, h => evE C a r h >>= fun x => evE C b r x.2 >>= fun y => evPs C rest r y.2 >>= fun z => .ok ((x.1, y.1) :: z.1, z.2)
def evO (C : Cal) : Exo → Ev → Hh → Res (Option Int × Hh)
  | .none, _, h => .ok (none, h)
  | .some a, r, h => evE C a r h >>= fun x => asI x.1 x.2 >>= fun i => .ok (some i.1, i.2)
def evC (C : Cal) : Exo → Ev → Hh → Res (Bool × Hh)
  | .none, _, h => .ok (true, h)
  | .some a, r, h => evE C a r h >>= fun x => asB x.1 x.2
def evI (C : Cal) : Itr → Ev → Hh → Res (Wk × Hh)
  | .seq a, r, h => evE C a r h >>= fun x => nox (walkD x.1 x.2) >>= fun w => .ok (w, x.2)
  | .range n as, r, h => evEs C as r h >>= fun x => if x.1.length = n then (match rngD x.1 with | some xs => .ok ((xs, none), x.2) | none => .fail) else .fail
  | .enum a, r, h => evE C a r h >>= fun x => (match x.1 with
    | .lst xs => .ok ((numb 0 xs, none), x.2)
    | .tup xs => .ok ((numb 0 xs, none), x.2)
    | _ => .fail)
  | .zip a b, r, h => evE C a r h >>= fun x => evE C b r x.2 >>= fun y => (match x.1, y.1 with
    | .tup xs, .tup ys => .ok ((pair xs ys, none), y.2)
    | .lst xs, .lst ys => .ok ((pair xs ys, none), y.2)
    | _, _ => .fail)
end
def evT (C : Cal) (e : Ex) (r : Ev) (h : Hh) : Res (Bool × Hh) := evE C e r h >>= fun x => asB x.1 x.2
def setAll : List Nat → List D → Ev → Option Ev
  | [], [], r => some r
  | i :: is, d :: ds, r => setAll is ds (r.set i (some d))
  | _, _, _ => none
def setixD (o i v : D) (h : Hh) : Res Hh :=
  match o with
  | .ref n => (match h[n]? with
    | some (.lst xs) => (match i with
      | .int k => (match ixN xs.length k with | some j => .ok (h.set n (.lst (xs.set j v))) | none => .fail)
      | _ => .fail)
    | _ => .fail)
  | _ => .fail
mutual
noncomputable def evS (C : Cal) : Sm → Ev → Hh → Res Out
  | .asg g e, r, h => lft r (evE C e r h) fun x => (match tgD g x.1 r with | some r1 => .ok (.nx r1 x.2) | none => .fail)
  | .asgL i e, r, h => lft r (evE C e r h) fun x => .ok (.nx (r.set i (some x.1)) x.2)
  | .par is as, r, h => lft r (evEs C as r h) fun x => (match setAll is x.1 r with | some r1 => .ok (.nx r1 x.2) | none => .fail)
  | .setix o i v, r, h => lft r (evE C v r h) fun x => lft r (evE C o r x.2) fun y => lft r (evE C i r y.2) fun z => nox (setixD y.1 z.1 x.1 z.2) >>= fun h1 => .ok (.nx r h1)
  | .expr e, r, h => lft r (evE C e r h) fun x => .ok (.nx r x.2)
  | .ret e, r, h => lft r (evE C e r h) fun x => .ok (.rt x.1 x.2)
  | .retN, _, h => .ok (.rt .non h)
  | .iff t a b, r, h => lft r (evT C t r h) fun c => if c.1 = true then evSs C a r c.2 else evSs C b r c.2
  | .whil t b, r, h => whileD (evT C t) (evSs C b) r h
  | .forr g it b, r, h => lft r (evI C it r h) fun w => forD w.1.2 w.1.1 g (evSs C b) w.1.1 r w.2
  | .rais c, r, h => .ok (.ex c r h)
  | .pass, r, h => .ok (.nx r h)
  | .brk, r, h => .ok (.bk r h)
  | .cont, r, h => .ok (.ct r h)
  | .tryk b k i j, r, h => evSs C b r h >>= fun o => match o with
    | .ex c r1 h1 => if subX (some k) c = true then .ok (.nx (((r1.set j (some (.exc c))).set i (some (.exc c))).set j none) h1) else .ok (.ex c r1 h1)
    | o => .ok o
  | .dset o k v, r, h => lft r (evE C v r h) fun x => lft r (evE C o r x.2) fun y => lft r (evE C k r y.2) fun z => nox (dctS z.2 y.1 z.1 x.1) >>= fun h1 => .ok (.nx r h1)
  | .setix2 o i o' i' a b, r, h => lft r (evE C a r h) fun x => lft r (evE C b r x.2) fun x' => lft r (evE C o r x'.2) fun y => lft r (evE C i r y.2) fun z => nox (setixD y.1 z.1 x.1 z.2) >>= fun h1 =>
      lft r (evE C o' r h1) fun y' => lft r (evE C i' r y'.2) fun z' => nox (setixD y'.1 z'.1 x'.1 z'.2) >>= fun h2 => .ok (.nx r h2)
noncomputable def evSs (C : Cal) : Sms → Ev → Hh → Res Out
  | .nil, r, h => .ok (.nx r h)
  | .cons a rest, r, h => evS C a r h >>= fun o => match o with
    | .nx r1 h1 => evSs C rest r1 h1
    | o => .ok o
end

/-! ## defs -/
/-! what is left of a value when the live ones from n on are forgotten -/
mutual
def fzW (rf : Nat → Option D) : D → Option D
  | .ref n => rf n
  | .tup xs => (fzL rf xs).map .tup
  | .lst xs => (fzL rf xs).map .lst
  | .scr xs => if plnL xs = true then some (.scr xs) else none
  | .non => some .non
  | .bl b => some (.bl b)
  | .int i => some (.int i)
  | .str x => some (.str x)
  | .fn f => some (.fn f)
  | .exc c => some (.exc c)
  | .pr _ _ => none
def fzL (rf : Nat → Option D) : List D → Option (List D)
  | [] => some []
  | x :: xs => match fzW rf x with
    | none => none
    | some y => (fzL rf xs).map (y :: ·)
end
def fz0 (n0 : Nat) (n : Nat) : Option D := if n < n0 then some (.ref n) else none
def fz1 (n0 : Nat) (h : Hh) (n : Nat) : Option D := if n < n0 then some (.ref n) else match h[n]? with
  | some (.lst xs) => fzW (fz0 n0) (.lst xs)
  | _ => none
def fz2 (n0 : Nat) (h : Hh) (n : Nat) : Option D := if n < n0 then some (.ref n) else match h[n]? with
  | some (.lst xs) => fzW (fz1 n0 h) (.lst xs)
  | _ => none
mutual
/-- leads to live ones below n alone -/
def clsd (n : Nat) : D → Bool
  | .ref k => decide (k < n)
  | .tup xs => clsdL n xs
  | .lst xs => clsdL n xs
  | .scr xs => clsdL n xs
  | .pr a b => clsd n a && clsd n b
  | _ => true
def clsdL (n : Nat) : List D → Bool
  | [] => true
  | x :: xs => clsd n x && clsdL n xs
end
def clsdO (n : Nat) : Ob → Bool
  | .lst xs => clsdL n xs
  | .dk kvs => clsdL n (kvs.map (·.2))
  | .dt kvs => clsdL n (kvs.map (·.2))
  | .gone => true
/-- what stood stands, or leads to nothing new -/
def stay (h h1 : Hh) : Prop := h.length ≤ h1.length ∧ ∀ (i : Nat) (o : Ob), i < h.length → h1[i]? = some o → h[i]? = some o ∨ clsdO h.length o = true
open Classical in
noncomputable def fin (keep : Bool) (h : Hh) (d : D) (h1 : Hh) : Res (D × Hh) :=
  if stay h h1 then
    if keep = true then
      (match d with
      | .ref n => (match h1[n]? with
        | some (.lst xs) => (match fzL (fz0 h.length) xs with
          | some ys => if h.length ≤ n then .ok (.ref h.length, h1.take h.length ++ [.lst ys]) else .fail
          | none => .fail)
        | _ => .fail)
      | _ => .fail)
    else match fzW (fz2 h.length h1) d with
      | some e => .ok (e, h1.take h.length)
      | none => .fail
  else .fail
structure Fd where
  name : Str
  qual : Str
  ps : List Str
  ns : List Str
  keep : Bool
  body : Sms
open Classical in
/-- what is raised out: only where nothing that stood was changed -/
noncomputable def exR (tr : Bool) (c : Nat) (h h1 : Hh) : Res (D × Hh) := if tr = true ∧ h1.take h.length = h then .exc c h else .fail
noncomputable def run (tr : Bool) (T : List Fd) : Nat → Cal
  | 0, _, _, _ => .fail
  | k + 1, f, ds, h => match T[f]? with
    | none => .fail
    | some d => if ds.length = d.ps.length then
        (match evSs (run tr T k) d.body (ds.map some ++ List.replicate (d.ns.length - ds.length) none) h with
        | .ok (.rt x h1) => fin d.keep h x h1
        | .ok (.nx _ h1) => fin d.keep h .non h1
        | .ok (.ex c _ h1) => exR tr c h h1
        | _ => .fail)
      else .fail
end Fx
set_option Elab.async false
set_option linter.all false
namespace Fx
open PySem PySem.Spec PyProof.Rows L2
/-! ## tuples whose one object is known to have no dict of its own -/
/-- what a rule wishes that makes a new tuple -/
abbrev QT (Q : VK) (H : Hp) (vs : List V) : Prop := ∀ p o, H p = none → o.dict = none → Q (.ref p) (upd H p (.frz o (.tup vs)))
section
variable {X : Cx} {pins : List (Addr × Obj)} {σ : L2.St} {H : Hp} {s : Shared} {Q : VK} {vs : List V} {its : List Value}
theorem newT (I : Inv X pins σ H s) (r : Vals vs its) (hz : vs.length ≤ sizeLine) (q : QT Q H vs) : EP X pins σ Q (.ref s.heap.objs.size) { s with heap := s.heap.push { cls := .type "tuple", data := .seq its.toArray } } :=
  ⟨.ref s.heap.objs.size, _, I.laid (t' := s.toks) (o := .frz { cls := .type "tuple", data := .seq its.toArray } (.tup vs)) (fun b ob q => Heap.get?_push_of_some _ q) (Nat.le_refl _) ⟨Heap.get?_push_size _ rfl, hz, its, r, IsTup.new _ _⟩, rfl, q _ _ (I.hok.fresh (Nat.le_refl _)) rfl⟩
end
def tTupF (ta : TA) : TE := fun σ H Q => ta σ H fun xs H1 => xs.length ≤ sizeLine ∧ QT Q H1 xs
theorem pe_tupF {X : Cx} {es : List Expr} {t : TA} {x1 : Nat} {pos : Pos} (h : PA X es t) : PE X (.Tuple es x1 pos) (tTupF t) := by
  refine ⟨fun pins s σ H Q I hq => ?_⟩
  refine wpAny_Tuple_spliced (thn (h.run pos pins s σ H _ I hq) fun us s1 ⟨xs, H1, I1, r, z, q⟩ => ⟨by rw [← r.length]; exact z, newT I1 r z q⟩)
section
variable {X : Cx}
def rCatF (K : PySem.W.Frag) : R2 := fun x y H Q => ∃ a b xs ys, x = .ref a ∧ y = .ref b ∧ SqT K H a xs ∧ SqT K H b ys ∧ xs.length + ys.length ≤ sizeLine ∧
  (xs = [] → Q (.ref b) H) ∧ (xs ≠ [] → ys = [] → Q (.ref a) H) ∧ (xs ≠ [] → ys ≠ [] → QT Q H (xs ++ ys))
theorem op_catF : OpR X (binaryOp .Add) (rCatF X.K) := by
  intro pins s σ H x y v u Q I rx ry h
  obtain ⟨a, b, xs, ys, rfl, rfl, ha, hb, hz, q0, q1, q2⟩ := h
  by_cases hx : xs = []
  · exact op_catA pins s σ H _ _ v u Q I rx ry ⟨a, b, xs, ys, rfl, rfl, ha, hb, hz, q0, fun z => absurd hx z, fun z => absurd hx z⟩
  · cases rx
    cases ry
    obtain ⟨its, r1, p1, _⟩ := I.tuple ha
    obtain ⟨its2, r2, p2, _⟩ := I.tuple hb
    refine HT.cat_tup p1 p2 (fun z => hx (r1.nil_iff.mp z)) (fun z => ⟨.ref a, H, I, rfl, q1 hx (r2.nil_iff.mp z)⟩) (fun z => ?_) (by rw [← r1.length, ← r2.length]; exact hz)
    exact newT I (r1.append r2) (by rw [List.length_append]; exact hz) (q2 hx fun w => z (r2.nil_iff.mpr w))
def rRepF (K : PySem.W.Frag) : R2 := fun x y H Q => ∃ l k xs, x = .ref l ∧ y = .int k ∧ SqT K H l xs ∧ xs ≠ [] ∧ 2 ≤ k ∧ k ≤ 1000 ∧ xs.length ≤ 1000 ∧ QT Q H (List.replicate k.toNat xs).flatten
theorem op_repF : OpR X (binaryOp .Mult) (rRepF X.K) := by
  intro pins s σ H x y v u Q I rx ry h
  obtain ⟨l, k, xs, rfl, rfl, hT, hne, h1, h2, hz, q⟩ := h
  cases rx
  obtain ⟨t, rfl⟩ := ry
  obtain ⟨its, r, ⟨⟨cls, dd, data, sl⟩, ho, hc, n, hd⟩, hs⟩ := I.tuple hT
  simp only at hc hd
  subst hc hd
  have hle : its.length = xs.length := r.length.symm
  have hn : its ≠ [] := fun e => hne (by
    rw [e] at hle
    exact List.eq_nil_of_length_eq_zero hle.symm)
  have hi : its.toArray.isEmpty = false := by
    cases its with
    | nil => exact absurd rfl hn
    | cons a b => rfl
  have hsz0 : its.toArray.size = xs.length := by rw [List.size_toArray, hle]
  have hm : ((its.toArray.size : Nat) : Int) * k ≤ 1000000 := by
    rw [hsz0]
    have a1 : ((xs.length : Nat) : Int) * k ≤ 1000 * k := Int.mul_le_mul_of_nonneg_right (by omega) (by omega)
    omega
  have flen : (List.replicate k.toNat its).flatten.length ≤ sizeLine := by
    rw [PyProof.Rows.lm_len_rep_flat, hle, sizeLine_eq]
    have a1 : k.toNat * xs.length ≤ 1000 * 1000 := Nat.mul_le_mul (by omega) hz
    omega
  have c0 : (decide (k < -(2 ^ 63)) || decide (k ≥ 2 ^ 63)) = false := by
    rw [decide_eq_false (by omega), decide_eq_false (by omega)] <;> rfl
  have c1 : (its.toArray.isEmpty || k == 1) = false := by
    rw [hi, Bool.false_or]
    exact beq_eq_false_iff_ne.mpr (by omega)
  have c2 : (decide (k ≤ 0) || its.toArray.isEmpty) = false := by
    rw [hi, Bool.or_false]
    exact decide_eq_false (by omega)
  have c4 : Builtin.Tuple.tupleTooMany (((its.toArray.size : Nat) : Int) * k) = false := by
    unfold Builtin.Tuple.tupleTooMany
    rw [sizeLine_eq]
    exact decide_eq_false (by omega)
  refine wpAny_binaryOp_repeat_ref (T := "tuple") (U := "int") (by decide) ⟨_, ho, rfl⟩ (fun s' => typeIs_int s' k t) noFill_tuple_mul PySem.F.fills_int_mul PySem.F.slot_int_rmul repeat_tuple PySem.F.slot_int_index.lookup
    (call_meets PySem.F.slot_int_rmul (typeIs_int s k t) PySem.F.entry_int_rmul (PySem.F.args_int_rmul_2 _ _) (int_rmul_tuple k t l its.toArray n dd sl)
      ⟨ho, rfl, ⟨_, ho, rfl⟩, call_meets PySem.F.slot_tuple_mul ⟨_, ho, rfl⟩ PySem.F.entry_tuple_mul (PySem.F.args_tuple_mul_2 _ _) (tuple_mulW l its.toArray n dd sl k t c0 c1 c2 (by omega) c4 (by rw [size_rep, List.size_toArray]; exact flen)) ⟨ho, ?_⟩⟩)
  rw [size_rep]
  exact newT I (r.rep k.toNat) (by rw [PyProof.Rows.lm_len_rep_flat, sizeLine_eq]; have a1 : k.toNat * xs.length ≤ 1000 * 1000 := Nat.mul_le_mul (by omega) hz; omega) q
def rSlF (K : PySem.W.Frag) : V → Option Int → Option Int → Hp → VK → Prop := fun x lo hi H Q => ∃ a xs, x = .ref a ∧ SqT K H a xs ∧
  (HT.sIx xs.length 0 lo = 0 ∧ HT.sIx xs.length xs.length hi = xs.length → Q (.ref a) H) ∧ (¬ (HT.sIx xs.length 0 lo = 0 ∧ HT.sIx xs.length xs.length hi = xs.length) → QT Q H (cutV xs lo hi))
theorem sl_tupF : SlR X (rSlF X.K) := by
  intro pins s σ H x v vl vu lo hi sl Q I rx hs pl pu h
  obtain ⟨a, xs, rfl, hx, q1, q2⟩ := h
  by_cases hw : HT.sIx xs.length 0 lo = 0 ∧ HT.sIx xs.length xs.length hi = xs.length
  · exact sl_tupA pins s σ H _ v vl vu lo hi sl Q I rx hs pl pu ⟨a, xs, rfl, hx, q1, fun z => absurd hw z⟩
  · cases rx
    obtain ⟨its, r, ht, hz⟩ := I.tuple hx
    have hlen : its.toArray.size = xs.length := by rw [List.size_toArray]; exact r.length.symm
    refine ⟨"tuple", _, PyProof.Rows.slot_tuple_getitem.lookup, ht.typeIs, ?_⟩
    refine HT.getItem_tuple_cut ht hs pl pu (by rw [hlen]; exact hw) ?_ (by rw [hlen]; exact hz)
    rw [hlen]
    exact newT I ((r.drop (HT.sIx xs.length 0 lo)).take (HT.sIx xs.length xs.length hi - HT.sIx xs.length 0 lo)) (Nat.le_trans (cutV_length xs lo hi) hz) (q2 hw)
theorem call_tuple_ofF : CallR X (.type "tuple") (fun xs H Q => ∃ p ys, xs = [.ref p] ∧ ((SqL X.K H p ys ∧ QT Q H ys) ∨ (SqT X.K H p ys ∧ Q (.ref p) H))) := by
  intro pins s σ H xs us Q I r h
  obtain ⟨p, ys, rfl, h⟩ := h
  obtain ⟨u, rfl, rx⟩ := vals1 r
  cases rx
  rcases h with ⟨hq, q⟩ | ⟨hq, q⟩
  · obtain ⟨its, r', pl, hz⟩ := I.list hq
    have hlen := r'.length
    refine call_tuple_list pl.isList (fun h' kp => ?_) (by simp only [List.size_toArray] <;> omega)
    have I1 : Inv X pins σ H { s with heap := h' } := I.kept (t' := s.toks) kp
    exact newT I1 r' hz q
  · obtain ⟨its, r', pl, hz⟩ := I.tuple hq
    exact call_tuple_same pl ⟨.ref p, H, I, rfl, q⟩
def tTupRgF (te : L2.St → Hp → (Int → Int → Hp → Prop) → Prop) : TE := fun σ H Q => te σ H fun a b H1 => RgOk a b ∧ QT Q H1 (rgV a b)
theorem pe_tupRgF {e : Expr} {te : L2.St → Hp → (Int → Int → Hp → Prop) → Prop} {p pos : Pos} (hc : X.calm = true) (hg : Gl X "tuple") (hm : X.mg "tuple" = none) (he : PRg X e te) (na : starEach [e] X.env = (false, eval e X.env) :: starEach [] X.env) : PE X (.Call (.Name "tuple" p) [e] [] pos) (tTupRgF te) := by
  refine ⟨fun pins s σ H Q I h => ?_⟩
  refine Call_ (ld_blt I hg hm boot_tuple (PyProof.Rows.callWith_type1 (PyProof.Rows.args_cons (thn (he pins s σ H _ I h) fun x s1 ⟨r, a, b, t, u, v, H1, ex, hr, I1, ok, q⟩ => PyProof.Rows.args_nil ?_) na) na))
  subst ex
  obtain ⟨b1, b2, b3, b4, b5⟩ := ok
  refine call_tuple_range (n := (b - a).toNat) (I1.ok.hd hc) hr (small_one b1 b2 b3 b4) (rangeSize_nat a b) b5 fun h' tk acc hk hi => ?_
  have I2 : Inv X pins σ H1 { s1 with heap := h', toks := tk } := I1.kept hk
  have := newT I2 (its := acc.toList) (vals_rg hi) (by rw [rgV_length, sizeLine_eq]; omega) q
  rw [Array.toArray_toList] at this
  exact this
end
end Fx
set_option Elab.async false
set_option linter.all false
namespace Fx
open PySem PySem.Spec PyProof.Rows L2

/-! ## what a text's part asks, by what it gives -/
structure Pm where
  fa : Fa
  ca : Nat → Addr
def Pst {α : Type} (K : PySem.W.Frag) (pm : Pm) (W : WX) (mu : Lv) (H : Hp) (s : L2.St) (P : α → Lv → Hp → Prop) : Res (α × Hh) → Prop
  | .ok (a, h) => ∀ mu' H', Gr mu H mu' H' → RH K pm.fa mu' h H' → P a mu' H'
  | .exc c h => ∀ mu' H', Gr mu H mu' H' → RH K pm.fa mu' h H' → W (.ref (pm.ca c)) none s H'
  | .fail => False
/-- the slots -/
structure RE (K : PySem.W.Frag) (fa : Fa) (mu : Lv) (H : Hp) (r : Ev) (s : L2.St) : Prop where
  len : r.length = s.length
  at_ : ∀ (i : Nat) (d : D), r[i]? = some (some d) → ∃ v, s[i]? = some (some v) ∧ Rl K fa mu H d v
section
variable {K : PySem.W.Frag} {pm : Pm} {W : WX} {mu mu' mu2 : Lv} {H H' H2 : Hp} {h h' : Hh} {s : L2.St} {r : Ev} {fa : Fa}
theorem RE.grow (g : Gr mu H mu' H') (e : RE K fa mu H r s) : RE K fa mu' H' r s :=
  ⟨e.len, fun i d q => let ⟨v, a, b⟩ := e.at_ i d q; ⟨v, a, Rl.grow g d v b⟩⟩
theorem RE.set (e : RE K fa mu H r s) {i : Nat} {d : D} {v : V} (a : Rl K fa mu H d v) : RE K fa mu H (r.set i (some d)) (s.set i (some v)) := by
  refine ⟨by simp [e.len], fun j d' q => ?_⟩
  by_cases hj : i = j
  · subst hj
    have hl : i < r.length := by
      have := (List.getElem?_eq_some_iff.mp q).1
      simpa using this
    rw [List.getElem?_set_self hl] at q
    cases q
    exact ⟨v, List.getElem?_set_self (by rw [← e.len]; exact hl), a⟩
  · rw [List.getElem?_set_ne hj] at q
    obtain ⟨u, hu, ru⟩ := e.at_ j d' q
    exact ⟨u, by rw [List.getElem?_set_ne hj]; exact hu, ru⟩
theorem Pst.imp {α : Type} {P P' : α → Lv → Hp → Prop} {x : Res (α × Hh)} (p : Pst K pm W mu H s P x)
    (k : ∀ a mu' H', Gr mu H mu' H' → P a mu' H' → P' a mu' H') : Pst K pm W mu H s P' x := by
  cases x with
  | ok a => obtain ⟨a, h⟩ := a; exact fun mu' H' g rh => k a mu' H' g (p mu' H' g rh)
  | exc c h => exact p
  | fail => exact p
theorem Pst.grow {α : Type} {P : α → Lv → Hp → Prop} {x : Res (α × Hh)} (p : Pst K pm W mu H s P x) (g : Gr mu H mu' H') : Pst K pm W mu' H' s P x := by
  cases x with
  | ok a => obtain ⟨a, h⟩ := a; exact fun mu2 H2 g2 rh => p mu2 H2 (g.trans g2) rh
  | exc c h => exact fun mu2 H2 g2 rh => p mu2 H2 (g.trans g2) rh
  | fail => exact p
theorem Pst.bind {α β : Type} {P : β → Lv → Hp → Prop} {x : Res (α × Hh)} {f : α × Hh → Res (β × Hh)} (p : Pst K pm W mu H s P (x >>= f)) :
    Pst K pm W mu H s (fun a mu1 H1 => Gr mu H mu1 H1 ∧ ∃ h1, RH K pm.fa mu1 h1 H1 ∧ Pst K pm W mu1 H1 s P (f (a, h1))) x := by
  cases x with
  | ok a => obtain ⟨a, h⟩ := a; exact fun mu' H' g rh => ⟨g, h, rh, p.grow g⟩
  | exc c h => exact p
  | fail => exact p
theorem Pst.ok_inv {α : Type} {P : α → Lv → Hp → Prop} {a : α} (p : Pst K pm W mu H s P (.ok (a, h))) (rh : RH K pm.fa mu h H) : P a mu H := p mu H Gr.refl rh
end

abbrev EM := Ev → Hh → Res (D × Hh)
def tE (K : PySem.W.Frag) (pm : Pm) (W : WX) (m : EM) : TE := fun s H Q => ∃ mu r h, RE K pm.fa mu H r s ∧ RH K pm.fa mu h H ∧
  Pst K pm W mu H s (fun d mu' H' => ∀ v, Rl K pm.fa mu' H' d v → Q v H') (m r h)
def tB2 (K : PySem.W.Frag) (pm : Pm) (W : WX) (m : Ev → Hh → Res (Bool × Hh)) : TT := fun s H Q => ∃ mu r h, RE K pm.fa mu H r s ∧ RH K pm.fa mu h H ∧
  Pst K pm W mu H s (fun b _ H' => Q b H') (m r h)
def tAs (K : PySem.W.Frag) (pm : Pm) (W : WX) (m : Ev → Hh → Res (List D × Hh)) : TA := fun s H Q => ∃ mu r h, RE K pm.fa mu H r s ∧ RH K pm.fa mu h H ∧
  Pst K pm W mu H s (fun ds mu' H' => ∀ vs, RlL K pm.fa mu' H' ds vs → Q vs H') (m r h)
def tOi (K : PySem.W.Frag) (pm : Pm) (W : WX) (m : Ev → Hh → Res (Option Int × Hh)) : TO := fun s H Q => ∃ mu r h, RE K pm.fa mu H r s ∧ RH K pm.fa mu h H ∧
  Pst K pm W mu H s (fun o _ H' => Q o H') (m r h)

section
variable {X : Cx} {e : Expr}
theorem PE.mono {t t' : TE} (p : PE X e t) (k : ∀ s H Q, t' s H Q → t s H Q) : PE X e t' := ⟨fun pins s σ H Q I q => p.run pins s σ H Q I (k _ _ _ q)⟩
theorem PT.mono {t t' : TT} (p : PT X e t) (k : ∀ s H Q, t' s H Q → t s H Q) : PT X e t' := ⟨fun pins s σ H Q I q => p.run pins s σ H Q I (k _ _ _ q)⟩
theorem PW.mono {t t' : TT} (p : PW X e t) (k : ∀ s H Q, t' s H Q → t s H Q) : PW X e t' := ⟨fun wh pins s σ H Q I q => p.run wh pins s σ H Q I (k _ _ _ q)⟩
theorem PA.mono {es : List Expr} {t t' : TA} (p : PA X es t) (k : ∀ s H Q, t' s H Q → t s H Q) : PA X es t' := ⟨fun pos pins s σ H Q I q => p.run pos pins s σ H Q I (k _ _ _ q)⟩
theorem PO.mono {o : Option Expr} {t t' : TO} (p : PO X o t) (k : ∀ s H Q, t' s H Q → t s H Q) : PO X o t' := ⟨fun pins s σ H Q I q => p.run pins s σ H Q I (k _ _ _ q)⟩
theorem PS.mono {e : Stmt} {t t' : TS} (p : PS X e t) (k : ∀ D s H, t' D s H → t D s H) : PS X e t' := ⟨fun pins s σ H D I q => p.run pins s σ H D I (k _ _ _ q)⟩
theorem PSs.mono {e : List Stmt} {t t' : TS} (p : PSs X e t) (k : ∀ D s H, t' D s H → t D s H) : PSs X e t' := ⟨fun pins s σ H D I q => p.run pins s σ H D I (k _ _ _ q)⟩
theorem PI.mono {tg : Expr} {t t' : TI} (p : PI X tg e t) (k : ∀ s H Q, t' s H Q → t s H Q) : PI X tg e t' := ⟨fun pins s σ H Q I q => p.run pins s σ H Q I (k _ _ _ q)⟩
theorem PG.mono {t t' : TG} (p : PG X e t) (k : ∀ v s H Q, t' v s H Q → t v s H Q) : PG X e t' := ⟨fun pins s σ H v u Q I r q => p.run pins s σ H v u Q I r (k _ _ _ _ q)⟩
end

/-! ## operators on values -/
/-- from what stands for x and y -/
def r2 (K : PySem.W.Frag) (fa : Fa) (f : D → D → Hh → Res (D × Hh)) : R2 := fun x y H Q => ∃ mu h a b d h', RH K fa mu h H ∧ Rl K fa mu H a x ∧ Rl K fa mu H b y ∧ f a b h = .ok (d, h') ∧
  ∀ mu' H' v, Gr mu H mu' H' → RH K fa mu' h' H' → Rl K fa mu' H' d v → Q v H'
def rB2 (K : PySem.W.Frag) (fa : Fa) (f : Hh → D → D → Res Bool) : R2 := fun x y H Q => ∃ mu h a b t, RH K fa mu h H ∧ Rl K fa mu H a x ∧ Rl K fa mu H b y ∧ f h a b = .ok t ∧ Q (.bl t) H
section
variable {K : PySem.W.Frag} {fa : Fa} {mu : Lv} {H : Hp} {h h' : Hh}
theorem mk_use {m : Bool} {xs : List D} {vs : List V} {d : D} {Q : VK} (rh : RH K fa mu h H) (rl : RlL K fa mu H xs vs) (e : mkL m xs h = .ok (d, h'))
    (q : ∀ mu' H' v, Gr mu H mu' H' → RH K fa mu' h' H' → Rl K fa mu' H' d v → Q v H') : ∀ p, H p = none → Q (.ref p) (upd H p (.lst vs)) := fun p hp => by
  unfold mkL at e
  cases m with
  | true =>
    rw [if_pos rfl] at e
    injection e with e
    injection e with e1 e2
    subst e1 e2
    refine q (mu.add p) _ _ (Gr.push hp) (rh.push hp ⟨vs, upd_same, RlL.grow (Gr.push hp) _ _ rl⟩) ?_
    unfold Rl
    exact ⟨p, rfl, by rw [← rh.len, List.getElem?_append_right (Nat.le_refl _)]; simp⟩
  | false =>
    rw [if_neg Bool.false_ne_true] at e
    injection e with e
    injection e with e1 e2
    subst e1 e2
    refine q mu _ _ (Gr.upd rh hp) (rh.upd hp) ?_
    unfold Rl
    exact ⟨p, vs, rfl, rh.new hp, upd_same, RlL.grow (Gr.upd rh hp) _ _ rl⟩
theorem tup_use {xs : List D} {vs : List V} {Q : VK} (rh : RH K fa mu h H) (rl : RlL K fa mu H xs vs)
    (q : ∀ mu' H' v, Gr mu H mu' H' → RH K fa mu' h H' → Rl K fa mu' H' (.tup xs) v → Q v H') : ∀ p o, H p = none → o.dict = none → Q (.ref p) (upd H p (.frz o (.tup vs))) := fun p o hp hd => by
  refine q mu _ _ (Gr.upd rh hp) (rh.upd hp) ?_
  unfold Rl
  exact ⟨p, vs, rfl, rh.new hp, ⟨o, upd_same, hd⟩, RlL.grow (Gr.upd rh hp) _ _ rl⟩
theorem Rl.int {i : Int} {v : V} : Rl K fa mu H (.int i) v ↔ v = .int i := by unfold Rl; exact Iff.rfl
theorem Rl.bl {i : Bool} {v : V} : Rl K fa mu H (.bl i) v ↔ v = .bl i := by unfold Rl; exact Iff.rfl
theorem Rl.str {i : Str} {v : V} : Rl K fa mu H (.str i) v ↔ v = .str i := by unfold Rl; exact Iff.rfl
theorem Rl.non {v : V} : Rl K fa mu H .non v ↔ v = .non := by unfold Rl; exact Iff.rfl
theorem Rl.tup {xs : List D} {v : V} : Rl K fa mu H (.tup xs) v ↔ ∃ p vs, v = .ref p ∧ p ∉ mu ∧ TupN (H p) vs ∧ RlL K fa mu H xs vs := by
  constructor
  · intro r; unfold Rl at r; exact r
  · intro r; unfold Rl; exact r
theorem Rl.pr {a b : D} {v : V} : Rl K fa mu H (.pr a b) v ↔ ∃ p va vb, v = .ref p ∧ p ∉ mu ∧ H p = some (.tup [va, vb]) ∧ Rl K fa mu H a va ∧ Rl K fa mu H b vb := by
  constructor
  · intro r; unfold Rl at r; exact r
  · intro r; unfold Rl; exact r
theorem Rl.lst {xs : List D} {v : V} : Rl K fa mu H (.lst xs) v ↔ ∃ p vs, v = .ref p ∧ p ∉ mu ∧ H p = some (.lst vs) ∧ RlL K fa mu H xs vs := by
  constructor
  · intro r; unfold Rl at r; exact r
  · intro r; unfold Rl; exact r
theorem Rl.scr {xs : List D} {v : V} : Rl K fa mu H (.scr xs) v ↔ ∃ p vs, v = .ref p ∧ ScrAt K mu H p vs ∧ RlL K fa mu H xs vs := by
  constructor
  · intro r; unfold Rl at r; exact r
  · intro r; unfold Rl; exact r
theorem Rl.ref {n : Nat} {v : V} : Rl K fa mu H (.ref n) v ↔ ∃ p, v = .ref p ∧ mu.mu[n]? = some p := by
  constructor
  · intro r; unfold Rl at r; exact r
  · intro r; unfold Rl; exact r
theorem Rl.exc {c : Nat} {v : V} : Rl K fa mu H (.exc c) v ↔ ∃ p, v = .ref p ∧ p ∉ mu ∧ H p = some (ExI (fa c) p) := by
  constructor
  · intro r; unfold Rl at r; exact r
  · intro r; unfold Rl; exact r
/-- a live list -/
theorem live {n : Nat} {xs : List D} {v : V} (rh : RH K fa mu h H) (r : Rl K fa mu H (.ref n) v) (e : h[n]? = some (.lst xs)) : ∃ p vs, v = .ref p ∧ mu.mu[n]? = some p ∧ H p = some (.lst vs) ∧ RlL K fa mu H xs vs := by
  obtain ⟨p, rfl, m⟩ := Rl.ref.mp r
  obtain ⟨vs, e1, r1⟩ : RO K fa mu H p (.lst xs) := rh.at_ n _ p e m
  exact ⟨p, vs, rfl, m, e1, r1⟩
theorem trk_use {d : D} {v : V} {xs : List D} (rh : RH K fa mu h H) (r : Rl K fa mu H d v) (e : trkOf h d = some xs) : ∃ p vs, v = .ref p ∧ H p = some (.lst vs) ∧ RlL K fa mu H xs vs := by
  cases d with
  | lst ys =>
    obtain ⟨p, vs, rfl, _, a, b⟩ := Rl.lst.mp r
    cases e
    exact ⟨p, vs, rfl, a, b⟩
  | ref n =>
    simp only [trkOf] at e
    split at e
    · rename_i z
      cases e
      obtain ⟨p, vs, rfl, _, a, b⟩ := live rh r z
      exact ⟨p, vs, rfl, a, b⟩
    · cases e
  | _ => cases e
theorem lst_use {d : D} {v : V} {xs : List D} (rh : RH K fa mu h H) (r : Rl K fa mu H d v) (e : lstOf h d = some xs) : ∃ p vs, v = .ref p ∧ SqL K H p vs ∧ RlL K fa mu H xs vs := by
  cases d with
  | lst ys =>
    obtain ⟨p, vs, rfl, _, a, b⟩ := Rl.lst.mp r
    cases e
    exact ⟨p, vs, rfl, SqL.of a, b⟩
  | scr ys =>
    obtain ⟨p, vs, rfl, a, b⟩ := Rl.scr.mp r
    cases e
    exact ⟨p, vs, rfl, a.sq, b⟩
  | ref n =>
    simp only [lstOf] at e
    split at e
    · rename_i z
      cases e
      obtain ⟨p, vs, rfl, _, a, b⟩ := live rh r z
      exact ⟨p, vs, rfl, SqL.of a, b⟩
    · cases e
  | _ => cases e
theorem seq_use {d : D} {v : V} {xs : List D} (rh : RH K fa mu h H) (r : Rl K fa mu H d v) (e : seqOf h d = some xs) : ∃ p vs, v = .ref p ∧ (SqL K H p vs ∨ SqT K H p vs) ∧ RlL K fa mu H xs vs := by
  cases d with
  | tup ys =>
    obtain ⟨p, vs, rfl, _, a, b⟩ := Rl.tup.mp r
    cases e
    exact ⟨p, vs, rfl, .inr a.sq, b⟩
  | lst ys => obtain ⟨p, vs, a, b, c⟩ := lst_use rh r (d := .lst ys) (xs := xs) e; exact ⟨p, vs, a, .inl b, c⟩
  | scr ys => obtain ⟨p, vs, a, b, c⟩ := lst_use rh r (d := .scr ys) (xs := xs) e; exact ⟨p, vs, a, .inl b, c⟩
  | ref ys => obtain ⟨p, vs, a, b, c⟩ := lst_use rh r (d := .ref ys) (xs := xs) e; exact ⟨p, vs, a, .inl b, c⟩
  | _ => cases e
theorem RlL.nil_iff {xs : List D} {vs : List V} (r : RlL K fa mu H xs vs) : vs = [] ↔ xs = [] := by
  have := r.length
  constructor
  · intro e; subst e; exact List.length_eq_zero_iff.mp this
  · intro e; subst e; exact List.length_eq_zero_iff.mp this.symm
end
section
variable {X : Cx} {fa : Fa}
theorem OpR.imp {f : Value → Value → Sem Value} {r r' : R2} (o : OpR X f r) (k : ∀ x y H Q, r' x y H Q → r x y H Q) : OpR X f r' :=
  fun pins s σ H x y v u Q I rx ry q => o pins s σ H x y v u Q I rx ry (k _ _ _ _ q)
theorem add_ok {m : Bool} : OpR X (binaryOp .Add) (r2 X.K fa (addD m)) := by
  intro pins s σ H x y v u Q I rx ry q
  obtain ⟨mu, h, a, b, d, h', rh, ra, rb, e, q⟩ := q
  have lists : ∀ xs ys, trkOf h a = some xs → trkOf h b = some ys → xs.length + ys.length ≤ sizeLine → mkL m (xs ++ ys) h = .ok (d, h') →
      wpAny (model X.prog X.w) X.A (binaryOp .Add v u) (EP X pins σ Q) X.xe s := fun xs ys ea eb hz e => by
    obtain ⟨p, vs, rfl, e1, l1⟩ := trk_use rh ra ea
    obtain ⟨p2, vs2, rfl, e2, l2⟩ := trk_use rh rb eb
    exact op_cat pins s σ H _ _ v u Q I rx ry ⟨p, p2, vs, vs2, rfl, rfl, e1, e2, by rw [← l1.length, ← l2.length]; exact hz, mk_use rh (l1.append l2) e q⟩
  have lst : ∀ a', a = a' → (match trkOf h a' with
      | none => (.fail : Res (D × Hh))
      | some xs => match trkOf h b with
        | none => .fail
        | some ys => if xs.length + ys.length ≤ sizeLine then mkL m (xs ++ ys) h else .fail) = .ok (d, h') → wpAny (model X.prog X.w) X.A (binaryOp .Add v u) (EP X pins σ Q) X.xe s := fun a' ea e => by
    subst ea
    split at e
    · cases e
    · rename_i xs ea
      split at e
      · cases e
      · rename_i ys eb
        split at e
        · rename_i hz
          exact lists xs ys ea eb hz e
        · cases e
  unfold addD at e
  cases a with
  | int i =>
    simp only at e
    split at e
    · rename_i j
      cases e
      cases Rl.int.mp ra
      cases Rl.int.mp rb
      exact op_add pins s σ H _ _ v u Q I rx ry ⟨i, j, rfl, rfl, q mu H _ Gr.refl rh (Rl.int.mpr rfl)⟩
    · cases e
  | str i =>
    simp only at e
    split at e
    · rename_i j
      split at e
      · rename_i hz
        cases e
        cases Rl.str.mp ra
        cases Rl.str.mp rb
        exact op_add_str pins s σ H _ _ v u Q I rx ry ⟨i, j, rfl, rfl, hz, q mu H _ Gr.refl rh (Rl.str.mpr rfl)⟩
      · cases e
    · cases e
  | tup xs =>
    simp only at e
    split at e
    · rename_i ys
      split at e
      · rename_i hz
        cases e
        obtain ⟨p, vs, rfl, h1, e1, l1⟩ := Rl.tup.mp ra
        obtain ⟨p2, vs2, rfl, h2, e2, l2⟩ := Rl.tup.mp rb
        refine op_catF pins s σ H _ _ v u Q I rx ry ⟨p, p2, vs, vs2, rfl, rfl, e1.sq, e2.sq, by rw [← l1.length, ← l2.length]; exact hz, fun z => ?_, fun _ z => ?_, fun _ _ => tup_use rh (l1.append l2) q⟩
        · have z' := l1.nil_iff.mp z
          subst z'
          exact q mu H _ Gr.refl rh rb
        · have z' := l2.nil_iff.mp z
          subst z'
          rw [List.append_nil] at q
          exact q mu H _ Gr.refl rh ra
      · cases e
    · cases e
  | non => exact lst _ rfl e
  | bl _ => exact lst _ rfl e
  | lst _ => exact lst _ rfl e
  | scr _ => exact lst _ rfl e
  | ref _ => exact lst _ rfl e
  | fn _ => exact lst _ rfl e
  | exc _ => exact lst _ rfl e
  | pr _ _ => exact lst _ rfl e
/-- what a pure operation asks -/
def p2 (f : D → D → Res D) : D → D → Hh → Res (D × Hh) := fun a b h => f a b >>= fun d => .ok (d, h)
theorem p2_inv {f : D → D → Res D} {a b d : D} {h h' : Hh} (e : p2 f a b h = .ok (d, h')) : f a b = .ok d ∧ h' = h := by
  unfold p2 at e
  cases q : f a b with
  | ok x => rw [q] at e; cases e; exact ⟨rfl, rfl⟩
  | exc c h => rw [q] at e; cases e
  | fail => rw [q] at e; cases e
theorem mul_ok : OpR X (binaryOp .Mult) (r2 X.K fa (p2 mulD)) := by
  intro pins s σ H x y v u Q I rx ry q
  obtain ⟨mu, h, a, b, d, h', rh, ra, rb, e, q⟩ := q
  obtain ⟨e2, rfl⟩ := p2_inv e
  clear e
  have e := e2
  clear e2
  unfold mulD at e
  cases a with
  | int i =>
    simp only at e
    split at e
    · rename_i j
      split at e
      · rename_i hz
        cases e
        cases Rl.int.mp ra
        cases Rl.int.mp rb
        exact op_mulW pins s σ H _ _ v u Q I rx ry ⟨i, j, rfl, rfl, hz, q mu H _ Gr.refl rh (Rl.int.mpr rfl)⟩
      · cases e
    · cases e
  | tup xs =>
    simp only at e
    split at e
    · rename_i k
      split at e
      · rename_i hz
        obtain ⟨hx, h2, hk, hl⟩ := hz
        cases e
        cases Rl.int.mp rb
        obtain ⟨p, vs, rfl, _, e1, l1⟩ := Rl.tup.mp ra
        exact op_repF pins s σ H _ _ v u Q I rx ry ⟨p, k, vs, rfl, rfl, e1.sq, fun z => hx (l1.nil_iff.mp z), h2, hk, by rw [← l1.length]; exact hl, tup_use rh (l1.replicate k.toNat) q⟩
      · cases e
    · cases e
  | str x =>
    simp only at e
    split at e
    · rename_i k
      split at e
      · rename_i hz
        obtain ⟨h1, hk, hl⟩ := hz
        cases e
        cases Rl.int.mp rb
        cases Rl.str.mp ra
        obtain ⟨t, rfl⟩ := rx
        obtain ⟨t', rfl⟩ := ry
        refine PySem.SB.mul ⟨?_, fun _ _ => ?_, fun _ _ => ?_⟩ fun t' k' => ⟨.str _, H, I.tok _, ⟨_, rfl⟩, q mu H _ Gr.refl rh (Rl.str.mpr rfl)⟩
        · have a1 : ¬ k < -(2 ^ 63 : Int) := by omega
          have a2 : ¬ k ≥ 2 ^ 63 := by omega
          rw [decide_eq_false a1, decide_eq_false a2]; rfl
        · have : (1000 : Int) ≤ (2 ^ 63 - 1) / k := (Int.le_ediv_iff_mul_le (by omega)).mpr (by omega)
          omega
        · show decide (_ > sizeLine) = false
          apply decide_eq_false
          have : x.length * k.toNat ≤ 1000 * 1000 := Nat.mul_le_mul hl (by omega)
          have : (sizeLine : Nat) = 2 ^ 24 := rfl
          omega
      · cases e
    · cases e
  | _ => cases e
theorem ints_inv {a b : D} {f : Int → Int → Res D} {d : D} (e : intsD a b f = .ok d) : ∃ i j, a = .int i ∧ b = .int j ∧ f i j = .ok d := by
  unfold intsD at e
  cases a with
  | int i =>
    cases b with
    | int j => exact ⟨i, j, rfl, rfl, e⟩
    | _ => cases e
  | _ => cases e
theorem ints_ok {op : Operator} {C : Int → Int → Prop} {g : Int → Int → Int} {f : Int → Int → Res D} (o : OpR X (binaryOp op) (rI C fun i j => .int (g i j)))
    (k : ∀ i j d, f i j = .ok d → C i j ∧ d = .int (g i j)) : OpR X (binaryOp op) (r2 X.K fa (p2 fun a b => intsD a b f)) := by
  intro pins s σ H x y v u Q I rx ry q
  obtain ⟨mu, h, a, b, d, h', rh, ra, rb, e, q⟩ := q
  obtain ⟨e1, rfl⟩ := p2_inv e
  obtain ⟨i, j, rfl, rfl, e2⟩ := ints_inv e1
  obtain ⟨hc, rfl⟩ := k i j d e2
  cases Rl.int.mp ra
  cases Rl.int.mp rb
  exact o pins s σ H _ _ v u Q I rx ry ⟨i, j, rfl, rfl, hc, q mu H _ Gr.refl rh (Rl.int.mpr rfl)⟩
theorem if_inv {p : Prop} [Decidable p] {α : Type} {a b : α} (e : (if p then Res.ok a else Res.fail) = .ok b) : p ∧ a = b := by
  split at e
  · rename_i z; cases e; exact ⟨z, rfl⟩
  · cases e
def opOf : Op2 → Operator
  | .add => .Add | .sub => .Sub | .mul => .Mult | .fdiv => .FloorDiv | .mod => .Mod | .pow => .Pow
theorem op_ok (o : Op2) {m : Bool} : OpR X (binaryOp (opOf o)) (r2 X.K fa (opD o m)) := by
  cases o with
  | add => exact add_ok
  | mul => exact mul_ok
  | sub =>
    exact ints_ok (C := fun _ _ => True) (g := fun i j => i - j) (OpR.imp op_sub fun x y H Q ⟨i, j, a, b, _, q⟩ => ⟨i, j, a, b, q⟩) fun i j d e => ⟨trivial, by cases e; rfl⟩
  | fdiv => exact ints_ok op_fdivW fun i j d e => let ⟨a, b⟩ := if_inv e; ⟨a, b.symm⟩
  | mod => exact ints_ok op_mod fun i j d e => let ⟨a, b⟩ := if_inv e; ⟨a, b.symm⟩
  | pow => exact ints_ok op_pow fun i j d e => let ⟨a, b⟩ := if_inv e; ⟨a, b.symm⟩
end
end Fx
set_option Elab.async false
set_option linter.all false
namespace Fx
open PySem PySem.Spec PyProof.Rows L2

/-! ## equality -/
theorem cvL_map : ∀ xs : List D, cvL xs = xs.map cv
  | [] => by simp [cvL]
  | x :: xs => by simp [cvL, cvL_map xs]
mutual
theorem eqv_cv : ∀ (a b : D), pln a = true → pln b = true → PyData.eqv (cv a) (cv b) = deq a b
  | .non, b, _, hb => by cases b <;> simp_all [cv, PyData.eqv, deq, pln]
  | .bl _, b, _, hb => by cases b <;> simp_all [cv, PyData.eqv, deq, pln]
  | .int _, b, _, hb => by cases b <;> simp_all [cv, PyData.eqv, deq, pln]
  | .str _, b, _, hb => by cases b <;> simp_all [cv, PyData.eqv, deq, pln]
  | .ref _, _, ha, _ => by simp [pln] at ha
  | .fn _, _, ha, _ => by simp [pln] at ha
  | .exc _, _, ha, _ => by simp [pln] at ha
  | .tup xs, b, ha, hb => by
    have ha' : plnL xs = true := by simpa [pln] using ha
    cases b with
    | tup ys => simp only [cv, PyData.eqv, deq]; exact eqv_cvL xs ys ha' (by simpa [pln] using hb)
    | _ => simp_all [cv, PyData.eqv, deq, pln]
  | .lst xs, b, ha, hb => by
    have ha' : plnL xs = true := by simpa [pln] using ha
    cases b with
    | lst ys => simp only [cv, PyData.eqv, deq]; exact eqv_cvL xs ys ha' (by simpa [pln] using hb)
    | scr ys => simp only [cv, PyData.eqv, deq]; exact eqv_cvL xs ys ha' (by simpa [pln] using hb)
    | _ => simp_all [cv, PyData.eqv, deq, pln]
  | .scr xs, b, ha, hb => by
    have ha' : plnL xs = true := by simpa [pln] using ha
    cases b with
    | lst ys => simp only [cv, PyData.eqv, deq]; exact eqv_cvL xs ys ha' (by simpa [pln] using hb)
    | scr ys => simp only [cv, PyData.eqv, deq]; exact eqv_cvL xs ys ha' (by simpa [pln] using hb)
    | _ => simp_all [cv, PyData.eqv, deq, pln]
theorem eqv_cvL : ∀ (a b : List D), plnL a = true → plnL b = true → PyData.eqvAll (cvL a) (cvL b) = deqL a b
  | [], [], _, _ => by simp [cvL, PyData.eqvAll, deqL]
  | [], _ :: _, _, _ => by simp [cvL, PyData.eqvAll, deqL]
  | _ :: _, [], _, _ => by simp [cvL, PyData.eqvAll, deqL]
  | x :: xs, y :: ys, ha, hb => by
    simp only [plnL, Bool.and_eq_true] at ha hb
    simp only [cvL, PyData.eqvAll, deqL, eqv_cv x y ha.1 hb.1, eqv_cvL xs ys ha.2 hb.2]
end
mutual
theorem lay_cv : ∀ a : D, pln a = true → (cv a).canLay0 = true
  | .non, _ => by simp [cv, PyData.canLay0]
  | .bl _, _ => by simp [cv, PyData.canLay0]
  | .int _, _ => by simp [cv, PyData.canLay0]
  | .str _, h => by simpa [cv, PyData.canLay0, pln] using h
  | .ref _, h => by simp [pln] at h
  | .fn _, h => by simp [pln] at h
  | .exc _, h => by simp [pln] at h
  | .pr _ _, h => by simp [pln] at h
  | .tup xs, h => by simp only [cv, PyData.canLay0]; exact lay_cvL xs (by simpa [pln] using h)
  | .lst xs, h => by simp only [cv, PyData.canLay0]; exact lay_cvL xs (by simpa [pln] using h)
  | .scr xs, h => by simp only [cv, PyData.canLay0]; exact lay_cvL xs (by simpa [pln] using h)
theorem lay_cvL : ∀ a : List D, plnL a = true → PyData.canLayAll0 (cvL a) = true
  | [], _ => by simp [cvL, PyData.canLayAll0]
  | x :: xs, h => by
    simp only [plnL, Bool.and_eq_true] at h
    simp only [cvL, PyData.canLayAll0, lay_cv x h.1, lay_cvL xs h.2, Bool.and_self]
end
mutual
theorem dep_cv : ∀ a : D, (cv a).depth = dep a
  | .non => by simp [cv, PyData.depth, dep]
  | .bl _ => by simp [cv, PyData.depth, dep]
  | .int _ => by simp [cv, PyData.depth, dep]
  | .str _ => by simp [cv, PyData.depth, dep]
  | .ref _ => by simp [cv, PyData.depth, dep]
  | .fn _ => by simp [cv, PyData.depth, dep]
  | .exc _ => by simp [cv, PyData.depth, dep]
  | .pr _ _ => by simp [cv, PyData.depth, dep]
  | .tup xs => by simp only [cv, PyData.depth, dep, dep_cvL xs]
  | .lst xs => by simp only [cv, PyData.depth, dep, dep_cvL xs]
  | .scr xs => by simp only [cv, PyData.depth, dep, dep_cvL xs]
theorem dep_cvL : ∀ a : List D, PyData.depthAll (cvL a) = depL a
  | [] => by simp [cvL, PyData.depthAll, depL]
  | x :: xs => by simp only [cvL, PyData.depthAll, depL, dep_cv x, dep_cvL xs]
end
theorem shaped_cv {a : D} (h : pln a = true) (hd : dep a ≤ 64) : SeqAt.shaped (cv a) = true := by
  unfold SeqAt.shaped
  rw [lay_cv a h, dep_cv a, Bool.true_and]
  exact decide_eq_true hd
section
variable {K : PySem.W.Frag} {fa : Fa} {mu : Lv} {H : Hp} {h : Hh}
mutual
theorem dp_of : ∀ (a : D) (v : V), pln a = true → Rl K fa mu H a v → Dp K H v (cv a)
  | .non, v, _, r => by rw [Rl.non.mp r]; simp only [cv]; exact .non
  | .bl b, v, _, r => by rw [Rl.bl.mp r]; simp only [cv]; exact .bl b
  | .int b, v, _, r => by rw [Rl.int.mp r]; simp only [cv]; exact .int b
  | .str b, v, _, r => by rw [Rl.str.mp r]; simp only [cv]; exact .str b
  | .ref _, _, h, _ => by simp [pln] at h
  | .fn _, _, h, _ => by simp [pln] at h
  | .exc _, _, h, _ => by simp [pln] at h
  | .pr _ _, _, h, _ => by simp [pln] at h
  | .tup xs, v, h, r => by
    obtain ⟨p, vs, rfl, _, e, l⟩ := Rl.tup.mp r
    simp only [cv]
    exact .tup e.sq (dpL_of xs vs (by simpa [pln] using h) l)
  | .lst xs, v, h, r => by
    obtain ⟨p, vs, rfl, _, e, l⟩ := Rl.lst.mp r
    simp only [cv]
    exact .lst (SqL.of e) (dpL_of xs vs (by simpa [pln] using h) l)
  | .scr xs, v, h, r => by
    obtain ⟨p, vs, rfl, e, l⟩ := Rl.scr.mp r
    simp only [cv]
    exact .lst e.sq (dpL_of xs vs (by simpa [pln] using h) l)
theorem dpL_of : ∀ (a : List D) (v : List V), plnL a = true → RlL K fa mu H a v → DpAll K H v (cvL a)
  | [], v, _, r => by rw [r.nil_inv]; simp only [cvL]; exact .nil
  | x :: xs, v, h, r => by
    obtain ⟨w, ws, rfl, r1, r2⟩ := r.inv
    simp only [plnL, Bool.and_eq_true] at h
    simp only [cvL]
    exact .cons (dp_of x w h.1 r1) (dpL_of xs ws h.2 r2)
end
theorem dp_drf {a : D} {v : V} (rh : RH K fa mu h H) (p : pln (drf h a) = true) (r : Rl K fa mu H a v) : Dp K H v (cv (drf h a)) := by
  cases a with
  | ref n =>
    simp only [drf] at p ⊢
    split at p
    · rename_i xs z
      obtain ⟨q, vs, rfl, _, e, l⟩ := live rh r z
      simp only [cv]
      exact .lst (SqL.of e) (dpL_of xs vs (by simpa [pln] using p) l)
    · simp [pln] at p
  | _ => exact dp_of _ _ p r
end
section
variable {X : Cx} {fa : Fa}
theorem if_inv' {p : Prop} [Decidable p] {α : Type} {x : Res α} {b : α} (e : (if p then x else Res.fail) = .ok b) : p ∧ x = .ok b := by
  split at e
  · rename_i z; exact ⟨z, e⟩
  · cases e
theorem bnd_inv {α β : Type} {x : Res α} {f : α → Res β} {b : β} (e : (x >>= f) = .ok b) : ∃ a, x = .ok a ∧ f a = .ok b := by
  cases x with
  | ok a => exact ⟨a, rfl, e⟩
  | exc c h => cases e
  | fail => cases e
theorem eq_ok (hu : X.A.units + 64 < cLine) : OpR X (compareOp .Eq) (rB2 X.K fa eqD) := by
  refine OpR.imp (op_eqD hu) fun x y H Q ⟨mu, h, a, b, t, rh, ra, rb, e, q⟩ => ?_
  unfold eqD at e
  obtain ⟨⟨p1, p2, d1, d2⟩, e⟩ := if_inv e
  subst e
  refine ⟨_, _, dp_drf rh p1 ra, dp_drf rh p2 rb, shaped_cv p1 (by omega), shaped_cv p2 (by omega), ?_⟩
  rw [eqv_cv _ _ p1 p2]
  exact q
theorem ne_ok (hu : X.A.units + 64 < cLine) : OpR X (compareOp .NotEq) (rB2 X.K fa fun h a b => eqD h a b >>= fun t => .ok (!t)) := by
  refine OpR.imp (op_neD hu) fun x y H Q ⟨mu, h, a, b, t, rh, ra, rb, e, q⟩ => ?_
  obtain ⟨t', e1, e2⟩ := bnd_inv e
  cases e2
  clear e
  have e := e1
  clear e1
  unfold eqD at e
  obtain ⟨⟨p1, p2, d1, d2⟩, e⟩ := if_inv e
  subst e
  refine ⟨_, _, dp_drf rh p1 ra, dp_drf rh p2 rb, shaped_cv p1 (by omega), shaped_cv p2 (by omega), ?_⟩
  rw [eqv_cv _ _ p1 p2]
  exact q
theorem flat_rl {K : PySem.W.Frag} {mu : Lv} {H : Hp} {a : D} {v : V} (f : flat a = true) (r : Rl K fa mu H a v) : flatV v = true ∧ ∀ {b : D} {w : V}, flat b = true → Rl K fa mu H b w → eqV v w = deq a b := by
  cases a with
  | non =>
    cases Rl.non.mp r
    refine ⟨rfl, fun {b w} fb rb => ?_⟩
    cases b with
    | non => cases Rl.non.mp rb; simp [eqV, deq]
    | bl _ => cases Rl.bl.mp rb; simp [eqV, deq]
    | int _ => cases Rl.int.mp rb; simp [eqV, deq]
    | str _ => cases Rl.str.mp rb; simp [eqV, deq]
    | _ => cases fb
  | bl _ =>
    cases Rl.bl.mp r
    refine ⟨rfl, fun {b w} fb rb => ?_⟩
    cases b with
    | non => cases Rl.non.mp rb; simp [eqV, deq]
    | bl _ => cases Rl.bl.mp rb; simp [eqV, deq]
    | int _ => cases Rl.int.mp rb; simp [eqV, deq]
    | str _ => cases Rl.str.mp rb; simp [eqV, deq]
    | _ => cases fb
  | int _ =>
    cases Rl.int.mp r
    refine ⟨rfl, fun {b w} fb rb => ?_⟩
    cases b with
    | non => cases Rl.non.mp rb; simp [eqV, deq]
    | bl _ => cases Rl.bl.mp rb; simp [eqV, deq]
    | int _ => cases Rl.int.mp rb; simp [eqV, deq]
    | str _ => cases Rl.str.mp rb; simp [eqV, deq]
    | _ => cases fb
  | str _ =>
    cases Rl.str.mp r
    refine ⟨rfl, fun {b w} fb rb => ?_⟩
    cases b with
    | non => cases Rl.non.mp rb; simp [eqV, deq]
    | bl _ => cases Rl.bl.mp rb; simp [eqV, deq]
    | int _ => cases Rl.int.mp rb; simp [eqV, deq]
    | str _ => cases Rl.str.mp rb; simp [eqV, deq]
    | _ => cases fb
  | _ => cases f
theorem flats_rl {K : PySem.W.Frag} {mu : Lv} {H : Hp} {a : D} {v : V} (f : flat a = true) (r : Rl K fa mu H a v) : ∀ {ys : List D} {vs : List V}, ys.all flat = true → RlL K fa mu H ys vs →
    vs.all flatV = true ∧ inV v vs = ys.any fun y => deq y a
  | [], vs, _, l => by rw [l.nil_inv]; exact ⟨rfl, rfl⟩
  | y :: ys, vs, fy, l => by
    obtain ⟨w, ws, rfl, r1, r2⟩ := l.inv
    simp only [List.all_cons, Bool.and_eq_true] at fy
    obtain ⟨h1, h2⟩ := flats_rl f r fy.2 r2
    obtain ⟨g1, g2⟩ := flat_rl fy.1 r1
    refine ⟨by simp [g1, h1], ?_⟩
    show (eqV w v || inV v ws) = _
    rw [g2 f r, h2]
    rfl
theorem op_inDT (hu : X.A.units + 65 < cLine) (neg : Bool) : OpR X (compareOp (if neg then .NotIn else .In)) (fun x y H Q => ∃ d ds, Dp X.K H x d ∧ Dp X.K H y (.tuple ds) ∧ SeqAt.shaped d = true ∧ SeqAt.shaped (.tuple ds) = true ∧ Q (.bl (if neg then !ds.any (fun z => PyData.eqv z d) else ds.any fun z => PyData.eqv z d)) H) := by
  intro pins s σ H x y v u Q I rx ry h
  obtain ⟨d, ds, hd, he, sd, se, q⟩ := h
  obtain ⟨as, r1⟩ := Dp.reads I d x v hd rx
  obtain ⟨bs, r2⟩ := Dp.reads I (.tuple ds) y u he ry
  cases neg with
  | true => exact SeqAt.notIn_tuple_reads r2 r1 (SeqAt.canLay_of_shaped se) (SeqAt.canLay_of_shaped sd) (room_in_shaped sd hu) ⟨.bl _, H, I, rfl, q⟩
  | false => exact SeqAt.in_tuple_reads r2 r1 (SeqAt.canLay_of_shaped se) (SeqAt.canLay_of_shaped sd) (room_in_shaped sd hu) ⟨.bl _, H, I, rfl, q⟩
theorem in_core (neg : Bool) {op : CmpOp} (o1 : OpR X (compareOp op) (rIn X.K neg))
    (o2 : OpR X (compareOp op) (fun x y H Q => ∃ d ds, Dp X.K H x d ∧ Dp X.K H y (.list ds) ∧ SeqAt.shaped d = true ∧ SeqAt.shaped (.list ds) = true ∧ Q (.bl (if neg then !ds.any (fun z => PyData.eqv z d) else ds.any fun z => PyData.eqv z d)) H))
    (o3 : OpR X (compareOp op) (fun x y H Q => ∃ d ds, Dp X.K H x d ∧ Dp X.K H y (.tuple ds) ∧ SeqAt.shaped d = true ∧ SeqAt.shaped (.tuple ds) = true ∧ Q (.bl (if neg then !ds.any (fun z => PyData.eqv z d) else ds.any fun z => PyData.eqv z d)) H)) :
    OpR X (compareOp op) (rB2 X.K fa fun h a b => inD h a b >>= fun t => .ok (if neg then !t else t)) := by
  intro pins s σ H x y v u Q I rx ry ⟨mu, h, a, b, t, rh, ra, rb, e, q⟩
  obtain ⟨t', e1, e2⟩ := bnd_inv e
  cases e2
  clear e
  have e := e1
  clear e1
  unfold inD at e
  split at e
  · cases e
  · rename_i ys ey
    split at e
    · rename_i z
      cases e
      obtain ⟨p, vs, rfl, hs, l⟩ := seq_use rh rb ey
      obtain ⟨f1, f2⟩ := flats_rl z.1 ra z.2 l
      exact o1 pins s σ H _ _ v u Q I rx ry ⟨p, vs, rfl, hs, (flat_rl z.1 ra).1, f1, by rw [f2]; exact q⟩
    · obtain ⟨⟨p1, p2, d1, d2⟩, e⟩ := if_inv e
      subst e
      obtain ⟨p, vs, rfl, hs, l⟩ := seq_use rh rb ey
      have key : (cvL ys).any (fun z => PyData.eqv z (cv a)) = ys.any fun y => deq y a := by
        rw [cvL_map, List.any_map]
        rename_i hnf
        clear hnf e hs l d2 ey d1 q o1 o2 o3
        induction ys with
        | nil => rfl
        | cons y ys ih =>
          simp only [plnL, Bool.and_eq_true] at p2
          simp only [List.any_cons, Function.comp]
          rw [eqv_cv y a p2.1 p1]
          congr 1
          exact ih p2.2
      rcases hs with hs | hs
      · have hsh : SeqAt.shaped (PyData.list (cvL ys)) = true := by
          have := shaped_cv (a := .lst ys) (by simpa [pln] using p2) (by simp only [dep]; omega)
          simpa only [cv] using this
        exact o2 pins s σ H _ _ v u Q I rx ry ⟨cv a, cvL ys, dp_of a x p1 ra, .lst hs (dpL_of _ _ p2 l), shaped_cv p1 (by omega), hsh, by rw [key]; exact q⟩
      · have hsh : SeqAt.shaped (PyData.tuple (cvL ys)) = true := by
          have := shaped_cv (a := .tup ys) (by simpa [pln] using p2) (by simp only [dep]; omega)
          simpa only [cv] using this
        exact o3 pins s σ H _ _ v u Q I rx ry ⟨cv a, cvL ys, dp_of a x p1 ra, .tup hs (dpL_of _ _ p2 l), shaped_cv p1 (by omega), hsh, by rw [key]; exact q⟩
theorem in_ok (hu : X.A.units + 65 < cLine) : OpR X (compareOp .In) (rB2 X.K fa inD) := by
  refine OpR.imp (in_core false op_in_seq (OpR.imp (op_inD hu) fun x y H Q q => q) (op_inDT hu false)) fun x y H Q ⟨mu, h, a, b, t, rh, ra, rb, e, q⟩ => ⟨mu, h, a, b, t, rh, ra, rb, by show (inD h a b >>= _) = _; rw [e]; rfl, q⟩
theorem nin_ok (hu : X.A.units + 65 < cLine) : OpR X (compareOp .NotIn) (rB2 X.K fa fun h a b => inD h a b >>= fun t => .ok (!t)) := in_core true op_notIn_seq (OpR.imp (op_notInD hu) fun x y H Q q => q) (op_inDT hu true)
theorem ord_ok {op : CmpOp} {g : Int → Int → Bool} (o : OpR X (compareOp op) (rI0 fun i j => .bl (g i j))) : OpR X (compareOp op) (rB2 X.K fa fun _ a b => ordD a b g) := by
  refine OpR.imp o fun x y H Q ⟨mu, h, a, b, t, rh, ra, rb, e, q⟩ => ?_
  unfold ordD at e
  cases a with
  | int i =>
    cases b with
    | int j =>
      cases e
      exact ⟨i, j, Rl.int.mp ra, Rl.int.mp rb, q⟩
    | _ => cases e
  | _ => cases e
theorem bool_ok {op : CmpOp} {g : Bool → Bool → Bool} (o : OpR X (compareOp op) (fun x y H Q => ∃ a b : Bool, x = .bl a ∧ y = .bl b ∧ Q (.bl (g a b)) H)) : OpR X (compareOp op) (rB2 X.K fa fun _ a b => boolD a b g) := by
  refine OpR.imp o fun x y H Q ⟨mu, h, a, b, t, rh, ra, rb, e, q⟩ => ?_
  unfold boolD at e
  cases a with
  | bl i =>
    cases b with
    | bl j =>
      cases e
      exact ⟨i, j, Rl.bl.mp ra, Rl.bl.mp rb, q⟩
    | _ => cases e
  | _ => cases e
def cmpOf : Cmp → CmpOp
  | .eq => .Eq | .ne => .NotEq | .lt => .Lt | .le => .LtE | .gt => .Gt | .ge => .GtE | .iss => .Is | .isn => .IsNot | .inn => .In | .nin => .NotIn
theorem cmp_ok (hu : X.A.units + 65 < cLine) (c : Cmp) : OpR X (compareOp (cmpOf c)) (rB2 X.K fa (cmpD c)) := by
  cases c with
  | eq => exact eq_ok (by omega)
  | ne => exact ne_ok (by omega)
  | lt => exact ord_ok op_lt
  | le => exact ord_ok op_le
  | gt => exact ord_ok op_gt
  | ge => exact ord_ok op_ge
  | iss => exact bool_ok op_isBl
  | isn => exact bool_ok op_notBl
  | inn => exact in_ok hu
  | nin => exact nin_ok hu
end
end Fx
set_option Elab.async false
set_option linter.all false
namespace Fx
open PySem PySem.Spec PyProof.Rows L2

/-! ## built-ins, by values -/
def rC (K : PySem.W.Frag) (fa : Fa) (f : List D → Hh → Res (D × Hh)) : List V → Hp → VK → Prop := fun vs H Q => ∃ mu h ds d h', RH K fa mu h H ∧ RlL K fa mu H ds vs ∧ f ds h = .ok (d, h') ∧
  ∀ mu' H' v, Gr mu H mu' H' → RH K fa mu' h' H' → Rl K fa mu' H' d v → Q v H'
def rM (K : PySem.W.Frag) (fa : Fa) (f : D → List D → Hh → Res (D × Hh)) : V → List V → Hp → VK → Prop := fun x vs H Q => ∃ mu h o ds d h', RH K fa mu h H ∧ Rl K fa mu H o x ∧ RlL K fa mu H ds vs ∧ f o ds h = .ok (d, h') ∧
  ∀ mu' H' v, Gr mu H mu' H' → RH K fa mu' h' H' → Rl K fa mu' H' d v → Q v H'
section
variable {K : PySem.W.Frag} {fa : Fa} {mu : Lv} {H : Hp} {h h' : Hh}
theorem one_inv {ds : List D} {f : D → Res (D × Hh)} {x : D × Hh} (e : one ds f = .ok x) : ∃ d, ds = [d] ∧ f d = .ok x := by
  unfold one at e
  split at e
  · exact ⟨_, rfl, e⟩
  · cases e
theorem RlL.one_inv {d : D} {vs : List V} (r : RlL K fa mu H [d] vs) : ∃ v, vs = [v] ∧ Rl K fa mu H d v := by
  obtain ⟨v, ws, rfl, a, b⟩ := r.inv
  rw [b.nil_inv]
  exact ⟨v, rfl, a⟩
theorem RlL.two_inv {d e : D} {vs : List V} (r : RlL K fa mu H [d, e] vs) : ∃ v w, vs = [v, w] ∧ Rl K fa mu H d v ∧ Rl K fa mu H e w := by
  obtain ⟨v, ws, rfl, a, b⟩ := r.inv
  obtain ⟨w, rfl, c⟩ := b.one_inv
  exact ⟨v, w, rfl, a, c⟩
theorem ints_rl : ∀ {xs : List D} {ns : List Int} {vs : List V}, intL xs = some ns → RlL K fa mu H xs vs → vs = ns.map V.int
  | [], _, vs, e, r => by cases e; exact r.nil_inv
  | x :: xs, ns, vs, e, r => by
    obtain ⟨v, ws, rfl, a, b⟩ := r.inv
    cases x with
    | int i =>
      simp only [intL, Option.map_eq_some_iff] at e
      obtain ⟨ms, e, rfl⟩ := e
      rw [Rl.int.mp a, ints_rl e b]
      rfl
    | _ => simp [intL] at e
theorem bools_rl : ∀ {xs : List D} {ns : List Bool} {vs : List V}, blL xs = some ns → RlL K fa mu H xs vs → vs = ns.map V.bl
  | [], _, vs, e, r => by cases e; exact r.nil_inv
  | x :: xs, ns, vs, e, r => by
    obtain ⟨v, ws, rfl, a, b⟩ := r.inv
    cases x with
    | bl i =>
      simp only [blL, Option.map_eq_some_iff] at e
      obtain ⟨ms, e, rfl⟩ := e
      rw [Rl.bl.mp a, bools_rl e b]
      rfl
    | _ => simp [blL] at e
theorem least_is : ∀ {ns : List Int} {m : Int}, 0 < ns.length → m ∈ ns → (∀ y, y ∈ ns → m ≤ y) → m = leastI ns
  | [], _, h, _, _ => by simp at h
  | [x], m, _, hm, _ => by simpa [leastI] using hm
  | x :: y :: r, m, _, hm, hl => by
    simp only [leastI]
    have hx := hl x (by simp)
    by_cases hin : m ∈ y :: r
    · have ih := least_is (ns := y :: r) (by simp) hin (fun z hz => hl z (List.mem_cons_of_mem _ hz))
      rw [← ih]
      omega
    · rcases List.mem_cons.mp hm with e | e
      · subst e
        have : ∀ (l : List Int), 0 < l.length → leastI l ∈ l := by
          intro l
          induction l with
          | nil => intro h; simp at h
          | cons a l ih =>
            intro _
            cases l with
            | nil => simp [leastI]
            | cons b l =>
              simp only [leastI]
              have := ih (by simp)
              by_cases q : a ≤ leastI (b :: l)
              · rw [Int.min_eq_left q]; simp
              · rw [Int.min_eq_right (by omega)]; exact List.mem_cons_of_mem _ this
        have h2 := hl _ (List.mem_cons_of_mem _ (this (y :: r) (by simp)))
        omega
      · exact absurd e hin
theorem most_is : ∀ {ns : List Int} {m : Int}, 0 < ns.length → m ∈ ns → (∀ y, y ∈ ns → y ≤ m) → m = mostI ns
  | [], _, h, _, _ => by simp at h
  | [x], m, _, hm, _ => by simpa [mostI] using hm
  | x :: y :: r, m, _, hm, hl => by
    simp only [mostI]
    have hx := hl x (by simp)
    by_cases hin : m ∈ y :: r
    · have ih := most_is (ns := y :: r) (by simp) hin (fun z hz => hl z (List.mem_cons_of_mem _ hz))
      rw [← ih]
      omega
    · rcases List.mem_cons.mp hm with e | e
      · subst e
        have : ∀ (l : List Int), 0 < l.length → mostI l ∈ l := by
          intro l
          induction l with
          | nil => intro h; simp at h
          | cons a l ih =>
            intro _
            cases l with
            | nil => simp [mostI]
            | cons b l =>
              simp only [mostI]
              have := ih (by simp)
              by_cases q : mostI (b :: l) ≤ a
              · rw [Int.max_eq_left q]; simp
              · rw [Int.max_eq_right (by omega)]; exact List.mem_cons_of_mem _ this
        have h2 := hl _ (List.mem_cons_of_mem _ (this (y :: r) (by simp)))
        omega
      · exact absurd e hin
theorem ty_rl {d : D} {v : V} {t : String} (rh : RH K fa mu h H) (r : Rl K fa mu H d v) (e : tyOf h d = some t) : TyX K H v (.type t) := by
  cases d with
  | non => cases e; cases Rl.non.mp r; exact .base .non
  | bl b => cases e; cases Rl.bl.mp r; exact .base (.bl b)
  | int b => cases e; cases Rl.int.mp r; exact .base (.int b)
  | str b => cases e; cases Rl.str.mp r; exact .base (.str b)
  | tup xs => cases e; obtain ⟨p, vs, rfl, _, q, _⟩ := Rl.tup.mp r; obtain ⟨o, q, _⟩ := q; exact .fTuple q
  | lst xs => cases e; obtain ⟨p, vs, rfl, _, q, _⟩ := Rl.lst.mp r; exact .base (.lst q)
  | scr xs => cases e
  | fn f => cases e
  | exc f => cases e
  | pr a b => cases e
  | ref n =>
    simp only [tyOf] at e
    obtain ⟨p, rfl, m⟩ := Rl.ref.mp r
    split at e
    · rename_i z
      cases e
      obtain ⟨vs, q, _⟩ : RO K fa mu H p (.lst _) := rh.at_ n _ p z m
      exact .base (.lst q)
    · rename_i z
      cases e
      obtain ⟨vs, q, _⟩ : RO K fa mu H p (.dk _) := rh.at_ n _ p z m
      exact .base (.dK q)
    · cases e
end
section
variable {X : Cx} {fa : Fa}
theorem CallR.imp {f : Value} {r r' : List V → Hp → VK → Prop} (o : CallR X f r) (k : ∀ x H Q, r' x H Q → r x H Q) : CallR X f r' :=
  fun pins s σ H xs us Q I rx q => o pins s σ H xs us Q I rx (k _ _ _ q)
def biVal : Bi → Value
  | .len => .builtin "len" | .abs => .builtin "abs" | .min => .builtin "min" | .max => .builtin "max" | .sum => .builtin "sum" | .all => .builtin "all" | .any => .builtin "any"
  | .int => .type "int" | .tuple => .type "tuple" | .list => .type "list" | .isi _ => .builtin "isinstance"
theorem len_ok {m : Bool} : CallR X (.builtin "len") (rC X.K fa (biD .len m)) := by
  refine CallR.imp call_len fun vs H Q ⟨mu, h, ds, d, h', rh, rl, e, q⟩ => ?_
  obtain ⟨d0, rfl, e1⟩ := one_inv e
  obtain ⟨v, rfl, r⟩ := rl.one_inv
  have seqs : (match seqOf h d0 with
      | some xs => (.ok (.int xs.length, h) : Res (D × Hh))
      | none => .fail) = .ok (d, h') → ∃ x n, [v] = [x] ∧ LenV X.K x H n ∧ Q (.int n) H := fun e => by
    split at e
    · rename_i xs z
      cases e
      obtain ⟨p, vs, rfl, hs, l⟩ := seq_use rh r z
      refine ⟨.ref p, xs.length, rfl, ?_, q mu H _ Gr.refl rh (Rl.int.mpr rfl)⟩
      rcases hs with hs | hs
      · exact .inl ⟨vs, hs, l.length⟩
      · exact .inr ⟨vs, hs, l.length⟩
    · cases e
  cases d0 with
  | str x =>
    obtain ⟨hz, e2⟩ := if_inv e1
    cases e2
    cases Rl.str.mp r
    exact ⟨.str x, x.length, rfl, ⟨hz, rfl⟩, q mu H _ Gr.refl rh (Rl.int.mpr rfl)⟩
  | _ => exact seqs e1
theorem abs_ok {m : Bool} : CallR X (.builtin "abs") (rC X.K fa (biD .abs m)) := by
  refine CallR.imp call_abs fun vs H Q ⟨mu, h, ds, d, h', rh, rl, e, q⟩ => ?_
  obtain ⟨d0, rfl, e1⟩ := one_inv e
  obtain ⟨v, rfl, r⟩ := rl.one_inv
  cases d0 with
  | int i => cases e1; cases Rl.int.mp r; exact ⟨i, rfl, q mu H _ Gr.refl rh (Rl.int.mpr rfl)⟩
  | _ => cases e1
theorem CallR.or2 {f : Value} {r r' : List V → Hp → VK → Prop} (a : CallR X f r) (b : CallR X f r') {r2 : List V → Hp → VK → Prop} (k : ∀ x H Q, r2 x H Q → r x H Q ∨ r' x H Q) : CallR X f r2 :=
  fun pins s σ H xs us Q I rx q => by
    rcases k _ _ _ q with q | q
    · exact a pins s σ H xs us Q I rx q
    · exact b pins s σ H xs us Q I rx q
theorem int_ok {m : Bool} : CallR X (.type "int") (rC X.K fa (biD .int m)) := by
  refine CallR.or2 call_int1 call_int_str fun vs H Q ⟨mu, h, ds, d, h', rh, rl, e, q⟩ => ?_
  obtain ⟨d0, rfl, e1⟩ := one_inv e
  obtain ⟨v, rfl, r⟩ := rl.one_inv
  cases d0 with
  | int i => cases e1; cases Rl.int.mp r; exact .inl (.inl ⟨i, rfl, q mu H _ Gr.refl rh (Rl.int.mpr rfl)⟩)
  | bl i => cases e1; cases Rl.bl.mp r; exact .inl (.inr ⟨i, rfl, q mu H _ Gr.refl rh (Rl.int.mpr rfl)⟩)
  | str x =>
    simp only at e1
    split at e1
    · rename_i hl
      split at e1
      · rename_i n hn
        cases e1
        cases Rl.str.mp r
        exact .inr ⟨x, n, rfl, hn, hl, q mu H _ Gr.refl rh (Rl.int.mpr rfl)⟩
      · cases e1
    · cases e1
  | _ => cases e1
theorem tuple_ok {m : Bool} : CallR X (.type "tuple") (rC X.K fa (biD .tuple m)) := by
  refine CallR.imp call_tuple_ofF fun vs H Q ⟨mu, h, ds, d, h', rh, rl, e, q⟩ => ?_
  obtain ⟨d0, rfl, e1⟩ := one_inv e
  obtain ⟨v, rfl, r⟩ := rl.one_inv
  have lsts : (match lstOf h d0 with
      | some xs => (.ok (.tup xs, h) : Res (D × Hh))
      | none => .fail) = .ok (d, h') → ∃ p ys, [v] = [V.ref p] ∧ ((SqL X.K H p ys ∧ QT Q H ys) ∨ (SqT X.K H p ys ∧ Q (.ref p) H)) := fun e => by
    split at e
    · rename_i xs z
      cases e
      obtain ⟨p, vs, rfl, hs, l⟩ := lst_use rh r z
      exact ⟨p, vs, rfl, .inl ⟨hs, tup_use rh l q⟩⟩
    · cases e
  cases d0 with
  | tup xs =>
    cases e1
    obtain ⟨p, vs, rfl, _, a, l⟩ := Rl.tup.mp r
    exact ⟨p, vs, rfl, .inr ⟨a.sq, q mu H _ Gr.refl rh r⟩⟩
  | _ => exact lsts e1
theorem list_ok {m : Bool} : CallR X (.type "list") (rC X.K fa (biD .list m)) := by
  refine CallR.imp call_list_of fun vs H Q ⟨mu, h, ds, d, h', rh, rl, e, q⟩ => ?_
  obtain ⟨d0, rfl, e1⟩ := one_inv e
  obtain ⟨v, rfl, r⟩ := rl.one_inv
  split at e1
  · rename_i xs z
    obtain ⟨p, vs, rfl, hs, l⟩ := seq_use rh r z
    exact ⟨p, vs, rfl, hs, mk_use rh l e1 q⟩
  · cases e1
theorem sum_ok (hc : X.calm = true) {m : Bool} : CallR X (.builtin "sum") (rC X.K fa (biD .sum m)) := by
  refine CallR.imp (cr_sum hc) fun vs H Q ⟨mu, h, ds, d, h', rh, rl, e, q⟩ => ?_
  obtain ⟨d0, rfl, e1⟩ := one_inv e
  obtain ⟨v, rfl, r⟩ := rl.one_inv
  split at e1
  · cases e1
  · rename_i xs z
    split at e1
    · rename_i ns zn
      cases e1
      obtain ⟨p, vs, rfl, hs, l⟩ := lst_use rh r z
      rw [ints_rl zn l] at hs
      exact ⟨p, ns, rfl, hs, q mu H _ Gr.refl rh (Rl.int.mpr rfl)⟩
    · cases e1
theorem all_ok (hc : X.calm = true) {m : Bool} : CallR X (.builtin "all") (rC X.K fa (biD .all m)) := by
  refine CallR.imp (cr_all hc) fun vs H Q ⟨mu, h, ds, d, h', rh, rl, e, q⟩ => ?_
  obtain ⟨d0, rfl, e1⟩ := one_inv e
  obtain ⟨v, rfl, r⟩ := rl.one_inv
  split at e1
  · cases e1
  · rename_i xs z
    split at e1
    · rename_i ns zn
      cases e1
      obtain ⟨p, vs, rfl, hs, l⟩ := lst_use rh r z
      rw [bools_rl zn l] at hs
      exact ⟨p, ns, rfl, hs, q mu H _ Gr.refl rh (Rl.bl.mpr rfl)⟩
    · cases e1
theorem any_ok (hc : X.calm = true) {m : Bool} : CallR X (.builtin "any") (rC X.K fa (biD .any m)) := by
  refine CallR.imp (cr_any hc) fun vs H Q ⟨mu, h, ds, d, h', rh, rl, e, q⟩ => ?_
  obtain ⟨d0, rfl, e1⟩ := one_inv e
  obtain ⟨v, rfl, r⟩ := rl.one_inv
  split at e1
  · cases e1
  · rename_i xs z
    split at e1
    · rename_i ns zn
      cases e1
      obtain ⟨p, vs, rfl, hs, l⟩ := lst_use rh r z
      rw [bools_rl zn l] at hs
      exact ⟨p, ns, rfl, hs, q mu H _ Gr.refl rh (Rl.bl.mpr rfl)⟩
    · cases e1
theorem min_ok (hc : X.calm = true) {m : Bool} : CallR X (.builtin "min") (rC X.K fa (biD .min m)) := by
  refine CallR.or2 (call_min2 hc) (cr_min hc) fun vs H Q ⟨mu, h, ds, d, h', rh, rl, e, q⟩ => ?_
  simp only [biD] at e
  split at e
  · cases e
    obtain ⟨v, w, rfl, r1, r2⟩ := rl.two_inv
    cases Rl.int.mp r1
    cases Rl.int.mp r2
    exact .inl ⟨_, _, rfl, q mu H _ Gr.refl rh (Rl.int.mpr rfl)⟩
  · obtain ⟨d0, rfl, e1⟩ := one_inv e
    obtain ⟨v, rfl, r⟩ := rl.one_inv
    split at e1
    · cases e1
    · rename_i xs z
      split at e1
      · rename_i ns zn
        obtain ⟨hp, e2⟩ := if_inv e1
        cases e2
        obtain ⟨p, vs, rfl, hs, l⟩ := lst_use rh r z
        rw [ints_rl zn l] at hs
        exact .inr ⟨p, ns, rfl, hs, hp, fun m hm hl => by rw [least_is hp hm hl]; exact q mu H _ Gr.refl rh (Rl.int.mpr rfl)⟩
      · cases e1
theorem max_ok (hc : X.calm = true) {m : Bool} : CallR X (.builtin "max") (rC X.K fa (biD .max m)) := by
  refine CallR.or2 (call_max2 hc) (cr_max hc) fun vs H Q ⟨mu, h, ds, d, h', rh, rl, e, q⟩ => ?_
  simp only [biD] at e
  split at e
  · cases e
    obtain ⟨v, w, rfl, r1, r2⟩ := rl.two_inv
    cases Rl.int.mp r1
    cases Rl.int.mp r2
    exact .inl ⟨_, _, rfl, q mu H _ Gr.refl rh (Rl.int.mpr rfl)⟩
  · obtain ⟨d0, rfl, e1⟩ := one_inv e
    obtain ⟨v, rfl, r⟩ := rl.one_inv
    split at e1
    · cases e1
    · rename_i xs z
      split at e1
      · rename_i ns zn
        obtain ⟨hp, e2⟩ := if_inv e1
        cases e2
        obtain ⟨p, vs, rfl, hs, l⟩ := lst_use rh r z
        rw [ints_rl zn l] at hs
        exact .inr ⟨p, ns, rfl, hs, hp, fun m hm hl => by rw [most_is hp hm hl]; exact q mu H _ Gr.refl rh (Rl.int.mpr rfl)⟩
      · cases e1
/-- isinstance(x, T) with the class as it was read -/
theorem isi_ok {t : String} {m : Bool} : CallR X (.builtin "isinstance") (fun vs H Q => ∃ v, vs = [v, .ty t] ∧ rC X.K fa (biD (.isi t) m) [v] H Q) := by
  refine CallR.imp call_isi fun vs H Q ⟨v, ev, mu, h, ds, d, h', rh, rl, e, q⟩ => ?_
  subst ev
  obtain ⟨d0, rfl, e1⟩ := one_inv e
  obtain ⟨v', e2, r⟩ := rl.one_inv
  cases e2
  split at e1
  · cases e1
  · rename_i a z
    split at e1
    · rename_i b zb
      cases e1
      exact ⟨v, .ty t, .type a, .type t, b, rfl, .ty t, ty_rl rh r z, kit_ty zb, q mu H _ Gr.refl rh (Rl.bl.mpr rfl)⟩
    · cases e1
/-- the built-ins whose calls are plain -/
theorem bi_ok (hc : X.calm = true) (f : Bi) (hf : ∀ t, f ≠ .isi t) {m : Bool} : CallR X (biVal f) (rC X.K fa (biD f m)) := by
  cases f with
  | len => exact len_ok
  | abs => exact abs_ok
  | min => exact min_ok hc
  | max => exact max_ok hc
  | sum => exact sum_ok hc
  | all => exact all_ok hc
  | any => exact any_ok hc
  | int => exact int_ok
  | tuple => exact tuple_ok
  | list => exact list_ok
  | isi t => exact absurd rfl (hf t)

/-! ## lists' methods -/
theorem MtR.imp {id : String} {r r' : V → List V → Hp → VK → Prop} (o : MtR X id r) (k : ∀ x vs H Q, r' x vs H Q → r x vs H Q) : MtR X id r' :=
  fun pins s σ H x xs v us Q I rx rxs q => o pins s σ H x xs v us Q I rx rxs (k _ _ _ _ q)
theorem onL_inv {h : Hh} {o : D} {f : Nat → List D → Res (D × Hh)} {x : D × Hh} (e : onL h o f = .ok x) : ∃ n xs, o = .ref n ∧ h[n]? = some (.lst xs) ∧ f n xs = .ok x := by
  unfold onL at e
  split at e
  · split at e
    · exact ⟨_, _, rfl, by assumption, e⟩
    · cases e
  · cases e
theorem wr_use {K : PySem.W.Frag} {mu : Lv} {H : Hp} {h : Hh} {n : Nat} {p : Addr} {xs : List D} {vs : List V} (rh : RH K fa mu h H) (m : mu.mu[n]? = some p) (l : RlL K fa mu H xs vs) :
    Gr mu H mu (upd H p (.lst vs)) ∧ RH K fa mu (h.set n (.lst xs)) (upd H p (.lst vs)) := by
  have g : Gr mu H mu (upd H p (.lst vs)) := Gr.write (List.mem_of_getElem? m)
  exact ⟨g, rh.write m ⟨vs, upd_same, RlL.grow g _ _ l⟩⟩
theorem append_ok : MtR X "list.append" (rM X.K fa (mtD .append)) := by
  refine MtR.imp mt_append fun x vs H Q ⟨mu, h, o, ds, d, h', rh, ro, rl, e, q⟩ => ?_
  obtain ⟨d0, rfl, e1⟩ := one_inv e
  obtain ⟨v, rfl, r⟩ := rl.one_inv
  obtain ⟨n, xs, rfl, z, e2⟩ := onL_inv e1
  obtain ⟨hz, e3⟩ := if_inv e2
  cases e3
  obtain ⟨p, vs, rfl, m, ep, l⟩ := live rh ro z
  obtain ⟨g, w⟩ := wr_use rh m (l.append (.cons r .nil))
  exact ⟨p, vs, v, rfl, rfl, ep, by rw [← l.length]; exact hz, q mu _ _ g w (Rl.non.mpr rfl)⟩
theorem extend_ok : MtR X "list.extend" (rM X.K fa (mtD .extend)) := by
  refine MtR.imp mt_extend fun x vs H Q ⟨mu, h, o, ds, d, h', rh, ro, rl, e, q⟩ => ?_
  obtain ⟨d0, rfl, e1⟩ := one_inv e
  obtain ⟨v, rfl, r⟩ := rl.one_inv
  obtain ⟨n, xs, rfl, z, e2⟩ := onL_inv e1
  cases d0 with
  | lst ys =>
    obtain ⟨hz, e3⟩ := if_inv e2
    cases e3
    obtain ⟨p, vs, rfl, m, ep, l⟩ := live rh ro z
    obtain ⟨p2, vs2, rfl, _, ep2, l2⟩ := Rl.lst.mp r
    obtain ⟨g, w⟩ := wr_use rh m (l.append l2)
    exact ⟨p, p2, vs, vs2, rfl, rfl, ep, ep2, by rw [← l.length, ← l2.length]; exact hz, q mu _ _ g w (Rl.non.mpr rfl)⟩
  | _ => cases e2
theorem MtR.or2 {id : String} {r r' r2 : V → List V → Hp → VK → Prop} (a : MtR X id r) (b : MtR X id r') (k : ∀ x vs H Q, r2 x vs H Q → r x vs H Q ∨ r' x vs H Q) : MtR X id r2 :=
  fun pins s σ H x xs v us Q I rx rxs q => by
    rcases k _ _ _ _ q with q | q
    · exact a pins s σ H x xs v us Q I rx rxs q
    · exact b pins s σ H x xs v us Q I rx rxs q
theorem RlL.dropLast {K : PySem.W.Frag} {mu : Lv} {H : Hp} {ds : List D} {vs : List V} (r : RlL K fa mu H ds vs) : RlL K fa mu H ds.dropLast vs.dropLast := by
  rw [List.dropLast_eq_take, List.dropLast_eq_take, ← r.length]
  exact r.take _
theorem pop_ok : MtR X "list.pop" (rM X.K fa (mtD .pop)) := by
  refine MtR.or2 mt_pop mt_popAt fun x vs H Q ⟨mu, h, o, ds, d, h', rh, ro, rl, e, q⟩ => ?_
  obtain ⟨n, xs, rfl, z, e2⟩ := onL_inv e
  obtain ⟨p, ws, rfl, m, ep, l⟩ := live rh ro z
  split at e2
  · split at e2
    · rename_i y hy
      cases e2
      obtain ⟨v, hv, rv⟩ := l.get hy
      obtain ⟨g, w⟩ := wr_use rh m l.dropLast
      exact .inl ⟨p, ws, v, rfl, rl.nil_inv, ep, by rw [← l.length]; exact hv, q mu _ _ g w (Rl.grow g _ _ rv)⟩
    · cases e2
  · rename_i i
    split at e2
    · cases e2
    · rename_i k hk
      obtain ⟨⟨h1, h2⟩, e3⟩ := if_inv' e2
      split at e3
      · rename_i y hy
        cases e3
        obtain ⟨u, rfl, ru⟩ := rl.one_inv
        cases Rl.int.mp ru
        obtain ⟨v, hv, rv⟩ := l.get hy
        obtain ⟨g, w⟩ := wr_use rh m (l.eraseIdx k)
        exact .inr ⟨p, ws, i, k, v, rfl, rfl, ep, h1, h2, by rw [← l.length]; exact hk, hv, q mu _ _ g w (Rl.grow g _ _ rv)⟩
      · cases e3
  · cases e2
theorem index_ok : MtR X "list.index" (rM X.K fa (mtD .index)) := by
  refine MtR.imp mt_index fun x vs H Q ⟨mu, h, o, ds, d, h', rh, ro, rl, e, q⟩ => ?_
  obtain ⟨d0, rfl, e1⟩ := one_inv e
  obtain ⟨v, rfl, r⟩ := rl.one_inv
  split at e1
  · cases e1
  · rename_i xs z
    obtain ⟨⟨f1, f2⟩, e2⟩ := if_inv' e1
    split at e2
    · rename_i j hj
      cases e2
      obtain ⟨p, vs, rfl, hs, l⟩ := lst_use rh ro z
      obtain ⟨hl, hj1, hj2⟩ := List.findIdx?_eq_some_iff_getElem.mp hj
      have fx : ∀ (i : Nat) (hi : i < xs.length), flat xs[i] = true := fun i hi => List.all_eq_true.mp f2 _ (List.getElem_mem hi)
      obtain ⟨w, hw, rw_⟩ := l.get (List.getElem?_eq_getElem hl)
      refine ⟨p, vs, v, j, w, rfl, rfl, hs, (flat_rl f1 r).1, (flats_rl f1 r f2 l).1, hw, ?_, fun m z' hm hz => ?_, q mu H _ Gr.refl rh (Rl.int.mpr rfl)⟩
      · rw [(flat_rl (fx j hl) rw_).2 f1 r]; exact hj1
      · have hml : m < xs.length := by omega
        obtain ⟨w2, hw2, rw2⟩ := l.get (List.getElem?_eq_getElem hml)
        rw [hz] at hw2
        cases hw2
        rw [(flat_rl (fx m hml) rw2).2 f1 r]
        exact Bool.eq_false_iff.mpr (hj2 m hm)
    · cases e2
theorem countU {y : V} : ∀ {ys : List V} {its : List Value}, Vals ys its → ys.all flatV = true → its.countP (eqU y) = ys.countP fun z => eqV z y
  | _, _, .nil, _ => rfl
  | z :: ys, u :: its, .cons r t, f => by
    rw [List.all_cons, Bool.and_eq_true] at f
    rw [List.countP_cons, List.countP_cons, countU t f.2, eqU_of r f.1]
theorem mt_lcount : MtR X "list.count" (fun x xs H Q => ∃ a ys y, x = .ref a ∧ xs = [y] ∧ SqL X.K H a ys ∧ flatV y = true ∧ ys.all flatV = true ∧ Q (.int ((ys.countP fun z => eqV z y : Nat) : Int)) H) := by
  intro pins s σ H x xs v us Q I rx rxs h
  obtain ⟨a, ys, y, rfl, rfl, hs, fy, fys, q⟩ := h
  cases rx
  cases rxs with
  | cons ry rt =>
    rename_i uy ut
    cases rt
    obtain ⟨its, rv, ⟨⟨cls, dd, data, sl⟩, n, ho, hc, hdn, hd⟩, hlen⟩ := I.list hs
    simp only at hc hd
    subst hc hd
    refine call_meets PySem.F.slot_list_count ⟨_, ho, rfl⟩ PySem.F.entry_list_count (PySem.F.args_list_count_2 _ _)
      (SeqAt.list_countAt a its.toArray n dd sl uy (eqU y)) ⟨ho, fun u' hu' => mem_eqAt ry fy rv fys u' (by simpa using hu'), ?_⟩
    rw [show its.toArray.toList = its from rfl, countU rv fys]
    exact ⟨.int _, H, I.tok _, ⟨_, rfl⟩, q⟩
theorem countD {K : PySem.W.Frag} {fa : Fa} {mu : Lv} {H : Hp} {d : D} {v : V} (f : flat d = true) (r : Rl K fa mu H d v) : ∀ {xs : List D} {vs : List V}, xs.all flat = true → RlL K fa mu H xs vs → (vs.countP fun z => eqV z v) = xs.countP fun y => deq y d
  | [], _, _, l => by cases l.nil_inv; rfl
  | x :: xs, _, fs, l => by
    obtain ⟨w, ws, rfl, a, b⟩ := l.inv
    rw [List.all_cons, Bool.and_eq_true] at fs
    rw [List.countP_cons, List.countP_cons, countD f r fs.2 b, (flat_rl fs.1 a).2 f r]
theorem count_ok : MtR X "list.count" (rM X.K fa (mtD .count)) := by
  refine MtR.imp mt_lcount fun x vs H Q ⟨mu, h, o, ds, d, h', rh, ro, rl, e, q⟩ => ?_
  obtain ⟨d0, rfl, e1⟩ := one_inv e
  obtain ⟨v, rfl, r⟩ := rl.one_inv
  split at e1
  · cases e1
  · rename_i xs z
    obtain ⟨⟨f1, f2⟩, e2⟩ := if_inv' e1
    cases e2
    obtain ⟨p, vs, rfl, hs, l⟩ := lst_use rh ro z
    refine ⟨p, vs, v, rfl, rfl, hs, (flat_rl f1 r).1, (flats_rl f1 r f2 l).1, q mu H _ Gr.refl rh (Rl.int.mpr ?_)⟩
    rw [countD f1 r f2 l]
def mtId : Mt → String
  | .append => "list.append" | .extend => "list.extend" | .pop => "list.pop" | .index => "list.index" | .count => "list.count"
theorem mt_ok (f : Mt) : MtR X (mtId f) (rM X.K fa (mtD f)) := by
  cases f with
  | append => exact append_ok
  | extend => exact extend_ok
  | pop => exact pop_ok
  | index => exact index_ok
  | count => exact count_ok

/-! ## items, slices -/
theorem IxR.imp {r r' : R2} (o : IxR X r) (k : ∀ x y H Q, r' x y H Q → r x y H Q) : IxR X r' := by
  intro value slice pins s σ H x y v u Q I rx ry q hs
  exact o value slice pins s σ H x y v u Q I rx ry (k _ _ _ _ q) hs
theorem atI_rl {K : PySem.W.Frag} {mu : Lv} {H : Hp} {xs : List D} {vs : List V} {i : Int} {d : D} (l : RlL K fa mu H xs vs) (e : atI xs i = some d) : ∃ v, atI vs i = some v ∧ Rl K fa mu H d v := by
  unfold atI at e ⊢
  rw [l.length] at e
  cases q : ixN vs.length i with
  | none => rw [q] at e; cases e
  | some j =>
    rw [q] at e
    exact l.get e
theorem ix_ok : IxR X (r2 X.K fa fun a i h => ixD a i h >>= fun d => .ok (d, h)) := by
  refine IxR.imp (IxR.or ix_list ix_tup) fun x y H Q ⟨mu, h, a, b, d, h', rh, ra, rb, e, q⟩ => ?_
  obtain ⟨d', e1, e2⟩ := bnd_inv e
  cases e2
  unfold ixD at e1
  split at e1
  · rename_i k
    cases Rl.int.mp rb
    split at e1
    · rename_i xs z
      split at e1
      · rename_i d2 hd
        cases e1
        obtain ⟨p, vs, rfl, hs, l⟩ := seq_use rh ra z
        obtain ⟨v, hv, rv⟩ := atI_rl l hd
        rcases hs with hs | hs
        · exact .inl ⟨p, vs, k, v, rfl, rfl, hs, hv, q mu H _ Gr.refl rh rv⟩
        · exact .inr ⟨p, vs, k, v, rfl, rfl, hs, hv, q mu H _ Gr.refl rh rv⟩
      · cases e1
    · cases e1
  · cases e1
theorem cut_rl {K : PySem.W.Frag} {mu : Lv} {H : Hp} {xs : List D} {vs : List V} {lo hi : Option Int} (l : RlL K fa mu H xs vs) : RlL K fa mu H (cutL xs lo hi) (cutV vs lo hi) := by
  unfold cutL cutV
  rw [l.length]
  exact (l.drop _).take _
def rSl (K : PySem.W.Frag) (fa : Fa) : V → Option Int → Option Int → Hp → VK → Prop := fun x lo hi H Q => ∃ mu h a d, RH K fa mu h H ∧ Rl K fa mu H a x ∧ slD a lo hi h = .ok d ∧
  ∀ mu' H' v, Gr mu H mu' H' → RH K fa mu' h H' → Rl K fa mu' H' d v → Q v H'
theorem SlR.imp {r r' : V → Option Int → Option Int → Hp → VK → Prop} (o : SlR X r) (k : ∀ x lo hi H Q, r' x lo hi H Q → r x lo hi H Q) : SlR X r' := by
  intro pins s σ H x v vl vu lo hi sl Q I rx hs pl pu q
  exact o pins s σ H x v vl vu lo hi sl Q I rx hs pl pu (k _ _ _ _ _ q)
theorem sl_ok : SlR X (rSl X.K fa) := by
  refine SlR.imp (SlR.or sl_tupF sl_list) fun x lo hi H Q ⟨mu, h, a, d, rh, ra, e, q⟩ => ?_
  have lsts : (match lstOf h a with
      | some xs => (.ok (.lst (cutL xs lo hi)) : Res D)
      | none => .fail) = .ok d → rSlL X.K x lo hi H Q := fun e => by
    split at e
    · rename_i xs z
      cases e
      obtain ⟨p, vs, rfl, hs, l⟩ := lst_use rh ra z
      exact ⟨p, vs, rfl, hs, mk_use (m := false) (h' := h) rh (cut_rl l) rfl q⟩
    · cases e
  unfold slD at e
  cases a with
  | tup xs =>
    cases e
    obtain ⟨p, vs, rfl, hp, ep, l⟩ := Rl.tup.mp ra
    refine .inl ⟨p, vs, rfl, ep.sq, fun ⟨w1, w2⟩ => ?_, fun _ => tup_use rh (cut_rl l) q⟩
    have : cutL xs lo hi = xs := by
      unfold cutL
      rw [l.length, w1, w2, List.drop_zero, Nat.sub_zero, ← l.length, List.take_length]
    rw [this] at q
    exact q mu H _ Gr.refl rh ra
  | _ => exact .inr (lsts e)
end
end Fx
set_option Elab.async false
set_option linter.all false
namespace Fx
open PySem PySem.Spec PyProof.Rows L2

/-! ## the parts of a text, by what they give -/
section
variable {K : PySem.W.Frag} {pm : Pm} {W : WX} {mu : Lv} {H : Hp} {h : Hh} {s : L2.St} {r : Ev}
theorem nox_inv {α : Type} {x : Res α} {y : α} (e : nox x = .ok y) : x = .ok y := by
  cases x with
  | ok a => exact e
  | exc c h => cases e
  | fail => cases e
theorem Pst.nox {α : Type} {P : α → Lv → Hp → Prop} {x : Res (α × Hh)} (p : Pst K pm W mu H s P (nox x)) : ∃ a h', x = .ok (a, h') ∧ ∀ mu' H', Gr mu H mu' H' → RH K pm.fa mu' h' H' → P a mu' H' := by
  cases x with
  | ok a => obtain ⟨a, h'⟩ := a; exact ⟨a, h', rfl, p⟩
  | exc c h => exact p.elim
  | fail => exact p.elim
theorem Pst.nox2 {α β : Type} {P : β → Lv → Hp → Prop} {x : Res α} {f : α → Res (β × Hh)} (p : Pst K pm W mu H s P (Fx.nox x >>= f)) : ∃ a, x = .ok a ∧ Pst K pm W mu H s P (f a) := by
  cases x with
  | ok a => exact ⟨a, rfl, p⟩
  | exc c h => exact p.elim
  | fail => exact p.elim
theorem asB_inv {P : Bool → Lv → Hp → Prop} {d : D} (p : Pst K pm W mu H s P (asB d h)) : ∃ b, d = .bl b ∧ Pst K pm W mu H s P (.ok (b, h)) := by
  cases d with
  | bl b => exact ⟨b, rfl, p⟩
  | _ => exact p.elim
theorem asB_bnd {β : Type} {P : β → Lv → Hp → Prop} {d : D} {f : Bool × Hh → Res (β × Hh)} (p : Pst K pm W mu H s P (asB d h >>= f)) : ∃ b, d = .bl b ∧ Pst K pm W mu H s P (f (b, h)) := by
  cases d with
  | bl b => exact ⟨b, rfl, p⟩
  | _ => exact p.elim
theorem asI_bnd {β : Type} {P : β → Lv → Hp → Prop} {d : D} {f : Int × Hh → Res (β × Hh)} (p : Pst K pm W mu H s P (asI d h >>= f)) : ∃ b, d = .int b ∧ Pst K pm W mu H s P (f (b, h)) := by
  cases d with
  | int b => exact ⟨b, rfl, p⟩
  | _ => exact p.elim
end
section
variable {X : Cx} {pm : Pm} {W : WX} {a b e : Expr} {ma mb md : EM} {pos : Pos}
/-- one part, then what comes behind -/
theorem tE_bind {f : D × Hh → Res (D × Hh)} {s : L2.St} {H : Hp} {Q : VK} {R : V → Hp → Prop} (q : tE X.K pm W (fun r h => ma r h >>= f) s H Q)
    (k : ∀ mu r h d v H, RE X.K pm.fa mu H r s → RH X.K pm.fa mu h H → Rl X.K pm.fa mu H d v → Pst X.K pm W mu H s (fun d mu' H' => ∀ v, Rl X.K pm.fa mu' H' d v → Q v H') (f (d, h)) → R v H) : tE X.K pm W ma s H R := by
  obtain ⟨mu, r, h, re, rh, p⟩ := q
  exact ⟨mu, r, h, re, rh, p.bind.imp fun d mu1 H1 _ ⟨g, h1, rh1, p1⟩ v rv => k mu1 r h1 d v H1 (re.grow g) rh1 rv p1⟩
theorem tE_bindr {f : Ev → D × Hh → Res (D × Hh)} {s : L2.St} {H : Hp} {Q : VK} {R : V → Hp → Prop} (q : tE X.K pm W (fun r h => ma r h >>= f r) s H Q)
    (k : ∀ mu r h d v H, RE X.K pm.fa mu H r s → RH X.K pm.fa mu h H → Rl X.K pm.fa mu H d v → Pst X.K pm W mu H s (fun d mu' H' => ∀ v, Rl X.K pm.fa mu' H' d v → Q v H') (f r (d, h)) → R v H) : tE X.K pm W ma s H R := by
  obtain ⟨mu, r, h, re, rh, p⟩ := q
  exact ⟨mu, r, h, re, rh, p.bind.imp fun d mu1 H1 _ ⟨g, h1, rh1, p1⟩ v rv => k mu1 r h1 d v H1 (re.grow g) rh1 rv p1⟩
theorem ex_var {i : Nat} {x : Str} (hN : X.N[i]? = some x) (hv : Vis X.env.scope x) (hd : (x == ("__debug__" : Str)) = false) (hcd : (x == ("__classdict__" : Str)) = false) (C : Cal) :
    PE X (.Name x pos) (tE X.K pm W (evE C (.v i))) := by
  refine PE.mono (pe_var hN hv hd hcd) fun s H Q ⟨mu, r, h, re, rh, p⟩ => ?_
  simp only [evE] at p
  split at p
  · rename_i d hd
    obtain ⟨v, hv, rv⟩ := re.at_ i d hd
    exact ⟨v, hv, p.ok_inv rh v rv⟩
  · exact p.elim
theorem ex_const {v : V} {d : D} {m : EM} (p : PE X e (tC v)) (hm : ∀ r h, m r h = .ok (d, h)) (hr : ∀ mu H, Rl X.K pm.fa mu H d v) : PE X e (tE X.K pm W m) := by
  refine PE.mono p fun s H Q ⟨mu, r, h, re, rh, p⟩ => ?_
  rw [hm] at p
  exact p.ok_inv rh v (hr mu H)
theorem ex_op {op : Operator} {g : D → D → Hh → Res (D × Hh)} (o : OpR X (binaryOp op) (r2 X.K pm.fa g)) (ha : PE X a (tE X.K pm W ma)) (hb : PE X b (tE X.K pm W mb)) :
    PE X (.BinOp a op b pos) (tE X.K pm W fun r h => ma r h >>= fun x => mb r x.2 >>= fun y => nox (g x.1 y.1 y.2)) := by
  refine PE.mono (pe_op o ha hb) fun s H Q q => ?_
  refine tE_bindr (f := fun r x => mb r x.2 >>= fun y => nox (g x.1 y.1 y.2)) q fun mu r h d v H re rh rv p => ?_
  refine ⟨mu, r, h, re, rh, p.bind.imp fun d2 mu2 H2 _ ⟨g2, h2, rh2, p2⟩ v2 rv2 => ?_⟩
  obtain ⟨d', h', e, q'⟩ := p2.nox
  exact ⟨mu2, h2, d, d2, d', h', rh2, Rl.grow g2 _ _ rv, rv2, e, fun mu' H' v g rh r => q' mu' H' g rh v r⟩
theorem ex_cmpc {op : CmpOp} {g : Hh → D → D → Res Bool} (o : OpR X (compareOp op) (rB2 X.K pm.fa g)) (ha : PE X a (tE X.K pm W ma)) (hb : PE X b (tE X.K pm W mb)) (hm : behindInMarks op b = false) :
    PE X (.Compare a [op] [b] pos) (tE X.K pm W fun r h => ma r h >>= fun x => mb r x.2 >>= fun y => nox (g y.2 x.1 y.1) >>= fun t => .ok (.bl t, y.2)) ∧
    PT X (.Compare a [op] [b] pos) (tB2 X.K pm W fun r h => (ma r h >>= fun x => mb r x.2 >>= fun y => nox (g y.2 x.1 y.1) >>= fun t => .ok (.bl t, y.2)) >>= fun x => asB x.1 x.2) := by
  refine ⟨PE.mono (pe_cmpR o ha hb hm) fun s H Q q => ?_, PT.mono (pt_cmpR o ha hb hm) fun s H Q q => ?_⟩
  · refine tE_bindr (f := fun r x => mb r x.2 >>= fun y => nox (g y.2 x.1 y.1) >>= fun t => .ok (.bl t, y.2)) q fun mu r h d v H re rh rv p => ?_
    refine ⟨mu, r, h, re, rh, p.bind.imp fun d2 mu2 H2 _ ⟨g2, h2, rh2, p2⟩ v2 rv2 => ?_⟩
    obtain ⟨t, e, q'⟩ := p2.nox2
    exact ⟨mu2, h2, d, d2, t, rh2, Rl.grow g2 _ _ rv, rv2, e, q'.ok_inv rh2 _ (Rl.bl.mpr rfl)⟩
  · obtain ⟨mu, r, h, re, rh, p⟩ := q
    refine ⟨mu, r, h, re, rh, p.bind.imp (fun d mu1 H1 _ q1 => q1) |> fun p => ?_⟩
    have p' : Pst X.K pm W mu H s (fun d mu1 H1 => Gr mu H mu1 H1 ∧ ∃ h1, RH X.K pm.fa mu1 h1 H1 ∧ Pst X.K pm W mu1 H1 s (fun b _ H' => Q b H') (asB d h1)) (ma r h >>= fun x => mb r x.2 >>= fun y => nox (g y.2 x.1 y.1) >>= fun t => .ok (.bl t, y.2)) := p
    refine p'.bind.imp fun d mu1 H1 _ ⟨g1, h1, rh1, p1⟩ v rv => ?_
    refine ⟨mu1, r, h1, re.grow g1, rh1, p1.bind.imp fun d2 mu2 H2 _ ⟨g2, h2, rh2, p2⟩ v2 rv2 => ?_⟩
    obtain ⟨t, e, q'⟩ := p2.nox2
    refine ⟨mu2, h2, d, d2, t, rh2, Rl.grow g2 _ _ rv, rv2, e, t, rfl, ?_⟩
    obtain ⟨_, h3, rh3, p3⟩ := q'.ok_inv rh2
    exact p3.ok_inv rh3

theorem ex_val {m : EM} (p : PE X e (tE X.K pm W m)) (he : ∀ whole, isTrue e X.env whole = (do let v ← whole; standAt e.pos; holding [v] (truthy v))) :
    PT X e (tB2 X.K pm W fun r h => m r h >>= fun x => asB x.1 x.2) := by
  refine PT.mono (pt_val p he) fun s H Q q => ?_
  obtain ⟨mu, r, h, re, rh, p⟩ := q
  refine ⟨mu, r, h, re, rh, p.bind.imp fun d mu1 H1 _ ⟨g1, h1, rh1, p1⟩ v rv => ?_⟩
  obtain ⟨b, rfl, q⟩ := asB_inv p1
  exact ⟨b, Rl.bl.mp rv, q.ok_inv rh1⟩
theorem ex_neg (ha : PE X a (tE X.K pm W ma)) : PE X (.UnaryOp .USub a pos) (tE X.K pm W fun r h => ma r h >>= fun x => (match x.1 with | .int i => .ok (.int (-i), x.2) | _ => .fail)) := by
  refine PE.mono (pe_un un_neg ha) fun s H Q q => tE_bind (f := fun x => match x.1 with | .int i => .ok (.int (-i), x.2) | _ => .fail) q fun mu r h d v H re rh rv p => ?_
  cases d with
  | int i => exact ⟨i, Rl.int.mp rv, p.ok_inv rh _ (Rl.int.mpr rfl)⟩
  | _ => exact p.elim
theorem ex_no (ha : PE X a (tE X.K pm W ma)) (ht : PT X a (tB2 X.K pm W fun r h => ma r h >>= fun x => asB x.1 x.2)) :
    PE X (.UnaryOp .Not a pos) (tE X.K pm W fun r h => ma r h >>= fun x => asB x.1 x.2 >>= fun b => .ok (.bl (!b.1), b.2)) ∧
    PT X (.UnaryOp .Not a pos) (tB2 X.K pm W fun r h => (ma r h >>= fun x => asB x.1 x.2 >>= fun b => .ok (.bl (!b.1), b.2)) >>= fun x => asB x.1 x.2) := by
  refine ⟨PE.mono (pe_not ha) fun s H Q q => tE_bind (f := fun x => asB x.1 x.2 >>= fun b => .ok (.bl (!b.1), b.2)) q fun mu r h d v H re rh rv p => ?_, PT.mono (pt_not ht) fun s H Q q => ?_⟩
  · obtain ⟨b, rfl, q⟩ := asB_bnd p
    exact ⟨b, Rl.bl.mp rv, q.ok_inv rh _ (Rl.bl.mpr rfl)⟩
  · obtain ⟨mu, r, h, re, rh, p⟩ := q
    try dsimp only at p
    refine ⟨mu, r, h, re, rh, ?_⟩
    try dsimp only
    have p1 := p
    cases hm : ma r h with
    | ok x =>
      obtain ⟨d, h1⟩ := x
      rw [hm] at p1
      cases d with
      | bl b => exact p1
      | _ => exact p1.elim
    | exc c h1 => rw [hm] at p1; exact p1
    | fail => rw [hm] at p1; exact p1.elim
/-- the values of an and, an or -/
def Bl2 (X : Cx) (pm : Pm) (W : WX) (k : Bool) (vs : List Expr) (m : Ev → Hh → Res (Bool × Hh)) : Prop := ∀ pos, PE X (.BoolOp (if k = true then .And else .Or) vs pos) (tE X.K pm W fun r h => m r h >>= fun b => .ok (.bl b.1, b.2)) ∧
  PW X (.BoolOp (if k = true then .And else .Or) vs pos) (tB2 X.K pm W m)
theorem ex_bop1 {k : Bool} (ha : PE X a (tE X.K pm W ma)) (ht : PT X a (tB2 X.K pm W fun r h => ma r h >>= fun x => asB x.1 x.2)) : Bl2 X pm W k [a] fun r h => ma r h >>= fun x => asB x.1 x.2 := by
  intro pos
  refine ⟨PE.mono (pe_one ha) fun s H Q q => ?_, ?_⟩
  · obtain ⟨mu, r, h, re, rh, p⟩ := q
    try dsimp only at p
    have p' : Pst X.K pm W mu H s (fun d mu' H' => ∀ v, Rl X.K pm.fa mu' H' d v → Q v H') (ma r h >>= fun x => (asB x.1 x.2 >>= fun b => .ok (.bl b.1, b.2))) := by
      cases hm : ma r h with
      | ok x => rw [hm] at p; exact p
      | exc c h1 => rw [hm] at p; exact p
      | fail => rw [hm] at p; exact p
    refine ⟨mu, r, h, re, rh, p'.bind.imp fun d mu1 H1 _ ⟨g1, h1, rh1, p1⟩ v rv => ?_⟩
    obtain ⟨b, rfl, q⟩ := asB_bnd p1
    exact q.ok_inv rh1 v rv
  · cases k with
    | true => exact pw_and1 ht
    | false => exact pw_or1 ht
theorem ex_bop {k : Bool} {rest : List Expr} {mr : Ev → Hh → Res (Bool × Hh)} (ha : PE X a (tE X.K pm W ma)) (ht : PT X a (tB2 X.K pm W fun r h => ma r h >>= fun x => asB x.1 x.2)) (hr : Bl2 X pm W k (b :: rest) mr) :
    Bl2 X pm W k (a :: b :: rest) fun r h => ma r h >>= fun x => asB x.1 x.2 >>= fun c => if c.1 = k then mr r c.2 else .ok c := by
  intro pos
  obtain ⟨r1, r2⟩ := hr pos
  have val : ∀ s H Q, tE X.K pm W (fun r h => (ma r h >>= fun x => asB x.1 x.2 >>= fun c => if c.1 = k then mr r c.2 else .ok c) >>= fun b => .ok (.bl b.1, b.2)) s H Q →
      tE X.K pm W ma s H fun x H1 => ∃ c, x = .bl c ∧ if c = k then tE X.K pm W (fun r h => mr r h >>= fun b => .ok (.bl b.1, b.2)) s H1 Q else Q (.bl c) H1 := fun s H Q q => by
    obtain ⟨mu, r, h, re, rh, p⟩ := q
    try dsimp only at p
    refine ⟨mu, r, h, re, rh, ?_⟩
    have p' : Pst X.K pm W mu H s (fun d mu' H' => ∀ v, Rl X.K pm.fa mu' H' d v → Q v H') (ma r h >>= fun x => (asB x.1 x.2 >>= fun c => if c.1 = k then mr r c.2 else .ok c) >>= fun b => .ok (.bl b.1, b.2)) := by
      cases hm : ma r h with
      | ok x => rw [hm] at p; exact p
      | exc c h1 => rw [hm] at p; exact p
      | fail => rw [hm] at p; exact p
    refine p'.bind.imp fun d mu1 H1 _ ⟨g1, h1, rh1, p1⟩ v rv => ?_
    cases d with
    | bl c =>
      refine ⟨c, Rl.bl.mp rv, ?_⟩
      by_cases hc : c = k
      · subst hc
        rw [if_pos rfl]
        refine ⟨mu1, r, h1, re.grow g1, rh1, ?_⟩
        have p2 : Pst X.K pm W mu1 H1 s (fun d mu' H' => ∀ v, Rl X.K pm.fa mu' H' d v → Q v H') ((if c = c then mr r h1 else .ok (c, h1)) >>= fun b => .ok (.bl b.1, b.2)) := p1
        rw [if_pos rfl] at p2
        exact p2
      · rw [if_neg hc]
        have p2 : Pst X.K pm W mu1 H1 s (fun d mu' H' => ∀ v, Rl X.K pm.fa mu' H' d v → Q v H') ((if c = k then mr r h1 else .ok (c, h1)) >>= fun b => .ok (.bl b.1, b.2)) := p1
        rw [if_neg hc] at p2
        exact p2.ok_inv rh1 _ (Rl.bl.mpr rfl)
    | _ => exact p1.elim
  have tst : ∀ s H Q, tB2 X.K pm W (fun r h => ma r h >>= fun x => asB x.1 x.2 >>= fun c => if c.1 = k then mr r c.2 else .ok c) s H Q →
      tB2 X.K pm W (fun r h => ma r h >>= fun x => asB x.1 x.2) s H fun c H1 => if c = k then tB2 X.K pm W mr s H1 Q else Q c H1 := fun s H Q q => by
    obtain ⟨mu, r, h, re, rh, p⟩ := q
    try dsimp only at p
    refine ⟨mu, r, h, re, rh, ?_⟩
    have p' : Pst X.K pm W mu H s (fun b _ H' => Q b H') ((ma r h >>= fun x => asB x.1 x.2) >>= fun c => if c.1 = k then mr r c.2 else .ok c) := by
      cases hm : ma r h with
      | ok x => rw [hm] at p; exact p
      | exc c h1 => rw [hm] at p; exact p
      | fail => rw [hm] at p; exact p
    refine p'.bind.imp fun c mu1 H1 _ ⟨g1, h1, rh1, p1⟩ => ?_
    show if c = k then tB2 X.K pm W mr s H1 Q else Q c H1
    by_cases hc : c = k
    · rw [if_pos hc]
      have p2 : Pst X.K pm W mu1 H1 s (fun b _ H' => Q b H') (if c = k then mr r h1 else .ok (c, h1)) := p1
      rw [if_pos hc] at p2
      exact ⟨mu1, r, h1, re.grow g1, rh1, p2⟩
    · rw [if_neg hc]
      have p2 : Pst X.K pm W mu1 H1 s (fun b _ H' => Q b H') (if c = k then mr r h1 else .ok (c, h1)) := p1
      rw [if_neg hc] at p2
      exact p2.ok_inv rh1
  cases k with
  | true =>
    refine ⟨PE.mono (pe_and ha r1) fun s H Q q => ?_, PW.mono (pw_and ht r2) fun s H Q q => ?_⟩
    · obtain ⟨mu, r, h, re, rh, p⟩ := val s H Q q
      refine ⟨mu, r, h, re, rh, p.imp fun d mu1 H1 _ k v rv => ?_⟩
      obtain ⟨c, e, z⟩ := k v rv
      refine ⟨c, e, ?_⟩
      cases c with
      | true => exact z
      | false => exact z
    · obtain ⟨mu, r, h, re, rh, p⟩ := tst s H Q q
      refine ⟨mu, r, h, re, rh, p.imp fun c mu1 H1 _ z => ?_⟩
      cases c with
      | true => exact z
      | false => exact z
  | false =>
    refine ⟨PE.mono (pe_or ha r1) fun s H Q q => ?_, PW.mono (pw_or ht r2) fun s H Q q => ?_⟩
    · obtain ⟨mu, r, h, re, rh, p⟩ := val s H Q q
      refine ⟨mu, r, h, re, rh, p.imp fun d mu1 H1 _ k v rv => ?_⟩
      obtain ⟨c, e, z⟩ := k v rv
      refine ⟨c, e, ?_⟩
      cases c with
      | true => exact z
      | false => exact z
    · obtain ⟨mu, r, h, re, rh, p⟩ := tst s H Q q
      refine ⟨mu, r, h, re, rh, p.imp fun c mu1 H1 _ z => ?_⟩
      cases c with
      | true => exact z
      | false => exact z
end
end Fx
set_option Elab.async false
set_option linter.all false
/-! a tuple walked backwards by a slice, in the model and for the hand layer -/
namespace Fx
open PySem PySem.Spec PyProof.Rows L2
theorem rev_range : ∀ (n : Nat) (xs : List Value), xs.length = n → ((List.range n).filterMap fun (m : Nat) => xs[(((n : Int) - 1) + (m : Int) * (-1)).toNat]?) = xs.reverse := by
  intro n xs hl
  have e : ((List.range n).map fun (m : Nat) => xs[(((n : Int) - 1) + (m : Int) * (-1)).toNat]?) = xs.reverse.map some := by
    apply List.ext_getElem?
    intro i
    rw [List.getElem?_map, List.getElem?_map]
    by_cases hi : i < n
    · rw [List.getElem?_range hi, List.getElem?_reverse (by omega)]
      have : (((n : Int) - 1) + (i : Int) * (-1)).toNat = xs.length - 1 - i := by omega
      show some (xs[(((n : Int) - 1) + (i : Int) * (-1)).toNat]?) = _
      rw [this, List.getElem?_eq_getElem (by omega)]
      rfl
    · rw [List.getElem?_eq_none (by simp; omega), List.getElem?_eq_none (by simp; omega)]
      rfl
  have e2 : ((List.range n).filterMap fun (m : Nat) => xs[(((n : Int) - 1) + (m : Int) * (-1)).toNat]?) = (((List.range n).map fun (m : Nat) => xs[(((n : Int) - 1) + (m : Int) * (-1)).toNat]?)).filterMap id := by
    rw [List.filterMap_map]
    rfl
  rw [e2, e, List.filterMap_map]
  exact List.filterMap_some
section
variable {prog : Program} {w : World} {A : Around} {E : Value → Shared → Prop} {s : Shared}
theorem slice_back {sl : Addr} {vl vu vs : Value} {n : Nat} {Q : Int × Int × Nat → Shared → Prop} (hs : s.heap.IsSliceOf sl vl vu vs) (pl : IsPart vl none) (pu : IsPart vu none) (ps : IsPart vs (some (-1)))
    (h : Q ((n : Int) - 1, -1, n) s) : wpAny (model prog w) A (Builtin.Slice.sliceApplied (.ref sl) (pure (n : Int))) Q E s := by
  obtain ⟨os, hos, hcs, hds⟩ := id hs
  unfold Builtin.Slice.sliceApplied Builtin.Slice.sliceFields
  refine wpAny_bind (wpAny_bind (wpAny_field hos hds (x := vl) rfl (wpAny_bind (wpAny_field hos hds (x := vu) rfl (wpAny_bind (wpAny_field hos hds (x := vs) rfl (wpAny_pure ?_)))))))
  refine wpAny_bind (HT.slicePart_ ps ?_)
  show wpAny _ _ (if ((-1 : Int) == 0) = true then _ else _) _ _ s
  rw [if_neg (by decide)]
  refine wpAny_bind (HT.slicePart_ pl (wpAny_bind (HT.slicePart_ pu (wpAny_bind (wpAny_pure ?_)))))
  have ea : Builtin.Slice.sliceAdjust none none (-1) (n : Int) = ((n : Int) - 1, -1) := rfl
  have ep : Builtin.Slice.slicePlaces ((n : Int) - 1) (-1) (-1) = n := by
    unfold Builtin.Slice.slicePlaces
    rw [if_neg (by decide)]
    by_cases z : n = 0
    · subst z; rfl
    · rw [if_pos (by omega)]
      have : ((n : Int) - 1 - -1 - 1) / (- -1) + 1 = n := by
        rw [show (- -1 : Int) = 1 from rfl, Int.ediv_one]
        omega
      rw [this]
      rfl
  show wpAny _ _ (match Builtin.Slice.sliceAdjust none none (-1) (n : Int) with | (lo, hi) => pure (lo, (-1 : Int), Builtin.Slice.slicePlaces lo hi (-1))) _ _ s
  rw [ea]
  show wpAny _ _ (pure ((n : Int) - 1, (-1 : Int), Builtin.Slice.slicePlaces ((n : Int) - 1) (-1) (-1))) _ _ s
  rw [ep]
  exact wpAny_pure h
theorem getItem_tuple_back {t sl : Addr} {items : Array Value} {vl vu vs : Value} {Q : Value → Shared → Prop} (ht : IsTup s.heap t items) (hs : s.heap.IsSliceOf sl vl vu vs) (pl : IsPart vl none) (pu : IsPart vu none) (ps : IsPart vs (some (-1)))
    (h : Q (.ref s.heap.objs.size) { s with heap := s.heap.push { cls := .type "tuple", data := .seq items.toList.reverse.toArray } }) (hsz : items.size ≤ sizeLine) : wpAny (model prog w) A (getItem (.ref t) (.ref sl)) Q E s := by
  have htake : sizeOk (.seq items.toList.reverse.toArray) := by
    show items.toList.reverse.toArray.size ≤ sizeLine
    rw [List.size_toArray, List.length_reverse, Array.length_toList]
    exact hsz
  obtain ⟨os, hos, hcs, hds⟩ := id hs
  have hTs : s.TypeIs (.ref sl) "slice" := ⟨os, hos, hcs⟩
  unfold getItem
  try with_reducible refine wpAny_holding ?_
  first | refine wpAny_bind (wpAny_pure ?_) | skip
  refine wpAny_bind (wpAny_sequenceKey ht.typeIs (by decide) ?_)
  refine wpAny_bind (wpAny_callSpecial?_slot (name := Str.ofString "__getitem__") ht.typeIs PyProof.Rows.slot_tuple_getitem
    (wpAny_call_entry PyProof.Rows.slot_tuple_getitem ht.typeIs entry_tuple_getitem ?_ (args_tuple_getitem _ _)))
  show wpAny _ _ (Builtin.Tuple.tupleItemsOf (.ref t) >>= _) _ _ s
  refine wpAny_bind (tupleItemsOf_ ht ?_)
  refine wpAny_bind (wpAny_typeOf hTs ?_)
  rw [if_pos (by decide)]
  refine wpAny_bind (slice_back hs pl pu ps ?_)
  have hno : ¬ (((((items.size : Nat) : Int) - 1) == 0 && (-1 : Int) == 1 && items.size == items.size) = true) := by
    intro q
    rw [Bool.and_eq_true, Bool.and_eq_true] at q
    exact absurd q.1.2 (by decide)
  show wpAny _ _ (if ((((items.size : Nat) : Int) - 1) == 0 && (-1 : Int) == 1 && items.size == items.size) = true then _ else _) _ _ s
  have hp : ((List.range items.size).filterMap fun (m : Nat) => items[(((items.size : Nat) : Int) - 1 + (m : Int) * (-1)).toNat]?).toArray = items.toList.reverse.toArray := by
    have := rev_range items.size items.toList (Array.length_toList)
    rw [← this]
    simp only [Array.getElem?_toList]
  rw [if_neg hno, hp]
  first
    | exact wpAny_bind (m := Builtin.Tuple.tupleExact _) (wpAny_newObj_type (wpAny_pure ⟨_, rfl, wpAny_pure h⟩) htake)
    | exact wpAny_bind (m := Builtin.Tuple.tupleExact _) (wpAny_newObj_type (wpAny_bind (wpAny_pure (wpAny_pure ⟨_, rfl, wpAny_pure h⟩))) htake)
    | exact wpAny_bind (wpAny_bind (m := Builtin.Tuple.tupleExact _) (wpAny_newObj_type (wpAny_pure (wpAny_pure ⟨_, rfl, wpAny_pure h⟩)) htake))
    | exact wpAny_bind (wpAny_bind (m := Builtin.Tuple.tupleExact _) (wpAny_newObj_type (wpAny_pure ⟨_, rfl, wpAny_pure h⟩) htake))
end
/-- xs[::-1] of a list or a tuple -/
def tRev2 (K : PySem.W.Frag) (te : TE) : TE := fun σ H Q => te σ H fun x H1 => ∃ a xs, x = .ref a ∧ ((SqL K H1 a xs ∧ ∀ p, H1 p = none → Q (.ref p) (upd H1 p (.lst xs.reverse))) ∨ (SqT K H1 a xs ∧ QT Q H1 xs.reverse))
theorem pe_rev2 {X : Cx} {e : Expr} {te : TE} {k : Nat} {p1 p2 p3 pos : Pos} (he : PE X e te) : PE X (.Subscript e (.Slice none none (some (.UnaryOp .USub (.Constant (.int 1) k p1) p2)) p3) pos) (tRev2 X.K te) := by
  refine ⟨fun pins s σ H Q I h => ?_⟩
  refine Subscript_ (thn (he.run pins s σ H _ I h) fun v s1 ⟨x, H1, I1, r1, q1⟩ => ?_)
  obtain ⟨a, xs, ex, q⟩ := q1
  subst ex
  cases r1
  have hst : PO X (some (.UnaryOp .USub (.Constant (.int 1) k p1) p2)) (tPart (tUn (rU fun i => .int (-i)) (tC (.int 1)))) := po_some (pe_un un_neg pe_int)
  refine wpAny_Slice (thn (po_none.run pins s1 σ H1 (fun o H2 => o = none ∧ H2 = H1) I1 ⟨rfl, rfl⟩) fun vl s2 ⟨l, H2, I2, pl, el, e2⟩ => ?_)
  subst el e2
  refine thn (po_none.run pins s2 σ H2 (fun o H3 => o = none ∧ H3 = H2) I2 ⟨rfl, rfl⟩) fun vu s3 ⟨u, H3, I3, pu, eu, e3⟩ => ?_
  subst eu e3
  refine thn (hst.run pins s3 σ H3 (fun o H4 => o = some (-1) ∧ H4 = H3) I3 ⟨1, rfl, -1, rfl, rfl, rfl⟩) fun vs s4 ⟨o, H4, I4, ps, eo, e4⟩ => ?_
  subst eo e4
  have I5 : Inv X pins σ H4 { s4 with heap := s4.heap.push { cls := .type "slice", data := .fields #[vl, vu, vs] } } := I4.kept (t' := s4.toks) fun b ob q => Heap.get?_push_of_some _ q
  show wpAny (model X.prog X.w) X.A (subscriptTail e (.Slice none none (some (.UnaryOp .USub (.Constant (.int 1) k p1) p2)) p3) (.ref a) (.ref s4.heap.objs.size)) (EP X pins σ Q) X.xe { s4 with heap := s4.heap.push { cls := .type "slice", data := .fields #[vl, vu, vs] } }
  rcases q with ⟨hx, q⟩ | ⟨hx, q⟩
  · obtain ⟨its, r, ht, hz⟩ := I5.list hx
    have hlen := r.length
    refine tail_any (ops := [.ref a, .ref s4.heap.objs.size]) ht.isList.typeIs (PySem.slot_list_getitem.lookup) ?_ (by with_unfolding_all rfl)
    refine wpAny_getItem_list_slice ht.isList (Heap.IsSliceOf.new _ vl vu vs) pl pu ps (by decide) ?_ (by rw [List.size_toArray]; omega)
    rw [PySem.W.krv_pick]
    refine ⟨.ref _, _, I5.laid (t' := s4.toks) (o := .lst xs.reverse) (fun b ob q => Heap.get?_push_of_some _ q) (Nat.le_refl _) ?_, rfl, q _ (I5.hok.fresh (Nat.le_refl _))⟩
    exact ⟨by rw [List.length_reverse]; exact hz, _, 0, r.reverse, Heap.get?_push_size _ rfl⟩
  · obtain ⟨its, r, ht, hz⟩ := I5.tuple hx
    have hlen := r.length
    refine tail_any (ops := [.ref a, .ref s4.heap.objs.size]) ht.typeIs (PyProof.Rows.slot_tuple_getitem.lookup) ?_ (by with_unfolding_all rfl)
    refine getItem_tuple_back ht (Heap.IsSliceOf.new _ vl vu vs) pl pu ps ?_ (by rw [List.size_toArray]; omega)
    exact newT I5 r.reverse (by rw [List.length_reverse]; exact hz) q
end Fx
set_option Elab.async false
set_option linter.all false
namespace Fx
open PySem PySem.Spec PyProof.Rows L2

section
variable {X : Cx} {pm : Pm} {W : WX} {a b d e : Expr} {ma mb md : EM} {pos : Pos}
theorem tB_tst {m : EM} {t : TE} (k : ∀ s H Q, tE X.K pm W m s H Q → t s H Q) : ∀ s H Q, tB2 X.K pm W (fun r h => m r h >>= fun x => asB x.1 x.2) s H Q → tTest t s H Q := fun s H Q q => by
  obtain ⟨mu, r, h, re, rh, p⟩ := q
  refine k s H _ ⟨mu, r, h, re, rh, p.bind.imp fun d mu1 H1 _ ⟨g1, h1, rh1, p1⟩ v rv => ?_⟩
  obtain ⟨b, rfl, q⟩ := asB_inv p1
  exact ⟨b, Rl.bl.mp rv, q.ok_inv rh1⟩
theorem ex_chain {op op' : CmpOp} {g g' : Hh → D → D → Res Bool} (o : OpR X (compareOp op) (rB2 X.K pm.fa g)) (o' : OpR X (compareOp op') (rB2 X.K pm.fa g')) (ha : PE X a (tE X.K pm W ma)) (hb : PE X b (tE X.K pm W mb)) (hd : PE X d (tE X.K pm W md))
    (hm : lastMarks [op, op'] [b, d] = false) :
    PE X (.Compare a [op, op'] [b, d] pos) (tE X.K pm W fun r h => ma r h >>= fun x => mb r x.2 >>= fun y => nox (g y.2 x.1 y.1) >>= fun t =>
      if t = true then md r y.2 >>= fun z => nox (g' z.2 y.1 z.1) >>= fun t' => .ok (.bl t', z.2) else .ok (.bl false, y.2)) ∧
    PT X (.Compare a [op, op'] [b, d] pos) (tB2 X.K pm W fun r h => (ma r h >>= fun x => mb r x.2 >>= fun y => nox (g y.2 x.1 y.1) >>= fun t =>
      if t = true then md r y.2 >>= fun z => nox (g' z.2 y.1 z.1) >>= fun t' => .ok (.bl t', z.2) else .ok (.bl false, y.2)) >>= fun x => asB x.1 x.2) := by
  have key : ∀ s H Q, tE X.K pm W (fun r h => ma r h >>= fun x => mb r x.2 >>= fun y => nox (g y.2 x.1 y.1) >>= fun t =>
      if t = true then md r y.2 >>= fun z => nox (g' z.2 y.1 z.1) >>= fun t' => .ok (.bl t', z.2) else .ok (.bl false, y.2)) s H Q → tChain (rB2 X.K pm.fa g) (rB2 X.K pm.fa g') (tE X.K pm W ma) (tE X.K pm W mb) (tE X.K pm W md) s H Q := fun s H Q q => by
    refine tE_bindr (f := fun r x => mb r x.2 >>= fun y => nox (g y.2 x.1 y.1) >>= fun t =>
      if t = true then md r y.2 >>= fun z => nox (g' z.2 y.1 z.1) >>= fun t' => .ok (.bl t', z.2) else .ok (.bl false, y.2)) q fun mu r h d1 v H re rh rv p => ?_
    refine ⟨mu, r, h, re, rh, p.bind.imp fun d2 mu2 H2 _ ⟨gr2, h2, rh2, p2⟩ v2 rv2 => ?_⟩
    obtain ⟨t, e, q'⟩ := p2.nox2
    refine ⟨mu2, h2, d1, d2, t, rh2, Rl.grow gr2 _ _ rv, rv2, e, t, rfl, ?_⟩
    cases t with
    | false =>
      rw [if_neg Bool.false_ne_true] at q' ⊢
      exact q'.ok_inv rh2 _ (Rl.bl.mpr rfl)
    | true =>
      rw [if_pos rfl] at q' ⊢
      refine ⟨mu2, r, h2, re.grow gr2, rh2, q'.bind.imp fun d3 mu3 H3 _ ⟨gr3, h3, rh3, p3⟩ v3 rv3 => ?_⟩
      obtain ⟨t', e', q2⟩ := p3.nox2
      exact ⟨mu3, h3, d2, d3, t', rh3, Rl.grow gr3 _ _ rv2, rv3, e', q2.ok_inv rh3 _ (Rl.bl.mpr rfl)⟩
  exact ⟨PE.mono (pe_chain o o' ha hb hd hm) key, PT.mono (pt_chain o o' ha hb hd hm) (tB_tst key)⟩
theorem ex_isN {j : Nat} {p2 : Pos} (ha : PE X a (tE X.K pm W ma)) (neg : Bool) :
    PE X (.Compare a [if neg = true then .IsNot else .Is] [.Constant .none j p2] pos) (tE X.K pm W fun r h => ma r h >>= fun x => (match x.1 with | .non => .ok (.bl (!neg), x.2) | _ => .ok (.bl neg, x.2))) ∧
    PT X (.Compare a [if neg = true then .IsNot else .Is] [.Constant .none j p2] pos) (tB2 X.K pm W fun r h => (ma r h >>= fun x => (match x.1 with | .non => .ok (.bl (!neg), x.2) | _ => .ok (.bl neg, x.2))) >>= fun x => asB x.1 x.2) := by
  have key : ∀ s H Q, tE X.K pm W (fun r h => ma r h >>= fun x => (match x.1 with | .non => .ok (.bl (!neg), x.2) | _ => .ok (.bl neg, x.2))) s H Q →
      tE X.K pm W ma s H fun x H1 => Q (.bl (if neg = true then !decide (x = .non) else decide (x = .non))) H1 := fun s H Q q => by
    refine tE_bind (f := fun x => match x.1 with | .non => .ok (.bl (!neg), x.2) | _ => .ok (.bl neg, x.2)) q fun mu r h d v H re rh rv p => ?_
    have no : (¬ v = .non) → (Pst X.K pm W mu H s (fun d mu' H' => ∀ v, Rl X.K pm.fa mu' H' d v → Q v H') (.ok (.bl neg, h))) → Q (.bl (if neg = true then !decide (v = .non) else decide (v = .non))) H := fun hn p => by
      have := p.ok_inv rh (.bl neg) (Rl.bl.mpr rfl)
      cases neg <;> simpa [hn] using this
    cases d with
    | non =>
      cases Rl.non.mp rv
      have := p.ok_inv rh (.bl (!neg)) (Rl.bl.mpr rfl)
      cases neg <;> simpa using this
    | bl _ => cases Rl.bl.mp rv; exact no (fun z => nomatch z) p
    | int _ => cases Rl.int.mp rv; exact no (fun z => nomatch z) p
    | str _ => cases Rl.str.mp rv; exact no (fun z => nomatch z) p
    | tup _ => obtain ⟨_, _, rfl, _⟩ := Rl.tup.mp rv; exact no (fun z => nomatch z) p
    | pr _ _ => obtain ⟨_, _, _, rfl, _⟩ := Rl.pr.mp rv; exact no (fun z => nomatch z) p
    | lst _ => obtain ⟨_, _, rfl, _⟩ := Rl.lst.mp rv; exact no (fun z => nomatch z) p
    | scr _ => obtain ⟨_, _, rfl, _⟩ := Rl.scr.mp rv; exact no (fun z => nomatch z) p
    | ref _ => obtain ⟨_, rfl, _⟩ := Rl.ref.mp rv; exact no (fun z => nomatch z) p
    | fn _ =>
      unfold Rl at rv
      subst rv
      exact no (fun z => nomatch z) p
    | exc _ =>
      unfold Rl at rv
      obtain ⟨_, rfl, _⟩ := rv
      exact no (fun z => nomatch z) p
  cases neg with
  | false => exact ⟨PE.mono (pe_cmp (pc_isN ha) rfl) key, PT.mono (pt_cmp (pc_isN ha) rfl) (tB_tst (t := tIsN (tE X.K pm W ma)) key)⟩
  | true => exact ⟨PE.mono (pe_cmp (pc_notN ha) rfl) key, PT.mono (pt_cmp (pc_notN ha) rfl) (tB_tst (t := tNotN (tE X.K pm W ma)) key)⟩
theorem ex_ite {t : Expr} {mt : Ev → Hh → Res (Bool × Hh)} (ht : PT X t (tB2 X.K pm W mt)) (ha : PE X a (tE X.K pm W ma)) (hb : PE X b (tE X.K pm W mb)) :
    PE X (.IfExp t a b pos) (tE X.K pm W fun r h => mt r h >>= fun c => if c.1 = true then ma r c.2 else mb r c.2) := by
  refine PE.mono (pe_ifExp ht ha hb) fun s H Q ⟨mu, r, h, re, rh, p⟩ => ?_
  refine ⟨mu, r, h, re, rh, p.bind.imp fun c mu1 H1 _ ⟨g1, h1, rh1, p1⟩ => ?_⟩
  cases c with
  | true => exact ⟨mu1, r, h1, re.grow g1, rh1, p1⟩
  | false => exact ⟨mu1, r, h1, re.grow g1, rh1, p1⟩
/-! ### argument lists -/
theorem ex_nil : PA X [] (tAs X.K pm W fun _ h => .ok ([], h)) := PA.mono pa_nil fun s H Q ⟨mu, r, h, re, rh, p⟩ => p.ok_inv rh [] .nil
theorem ex_cons {es : List Expr} {mr : Ev → Hh → Res (List D × Hh)} (ha : PE X a (tE X.K pm W ma)) (hr : PA X es (tAs X.K pm W mr)) (hs : starEach (a :: es) X.env = (false, eval a X.env) :: starEach es X.env) :
    PA X (a :: es) (tAs X.K pm W fun r h => ma r h >>= fun x => mr r x.2 >>= fun y => .ok (x.1 :: y.1, y.2)) := by
  refine PA.mono (pa_cons ha hr hs) fun s H Q ⟨mu, r, h, re, rh, p⟩ => ?_
  refine ⟨mu, r, h, re, rh, p.bind.imp fun d mu1 H1 _ ⟨g1, h1, rh1, p1⟩ v rv => ?_⟩
  refine ⟨mu1, r, h1, re.grow g1, rh1, p1.bind.imp fun ds mu2 H2 _ ⟨g2, h2, rh2, p2⟩ vs rvs => ?_⟩
  exact p2.ok_inv rh2 _ (.cons (Rl.grow g2 _ _ rv) rvs)
/-- an argument list, then what comes behind -/
theorem tAs_bind {m : Ev → Hh → Res (List D × Hh)} {f : List D × Hh → Res (D × Hh)} {s : L2.St} {H : Hp} {Q : VK} {R : List V → Hp → Prop} (q : tE X.K pm W (fun r h => m r h >>= f) s H Q)
    (k : ∀ mu r h ds vs H, RE X.K pm.fa mu H r s → RH X.K pm.fa mu h H → RlL X.K pm.fa mu H ds vs → Pst X.K pm W mu H s (fun d mu' H' => ∀ v, Rl X.K pm.fa mu' H' d v → Q v H') (f (ds, h)) → R vs H) : tAs X.K pm W m s H R := by
  obtain ⟨mu, r, h, re, rh, p⟩ := q
  exact ⟨mu, r, h, re, rh, p.bind.imp fun ds mu1 H1 _ ⟨g, h1, rh1, p1⟩ v rv => k mu1 r h1 ds v H1 (re.grow g) rh1 rv p1⟩
/-! ### calls -/
/-- a def's promise, by what it gives -/
def spR (K : PySem.W.Frag) (pm : Pm) (f : List D → Hh → Res (D × Hh)) : Sp := fun vs H Q E => ∃ mu h ds, RH K pm.fa mu h H ∧ RlL K pm.fa mu H ds vs ∧
  Pst K pm (fun c d _ H => E c d H) mu H [] (fun d mu' H' => ∀ v, Rl K pm.fa mu' H' d v → Q v H') (f ds h)
theorem Pst.toE {s : L2.St} {mu : Lv} {H : Hp} {Q : VK} {x : Res (D × Hh)} (p : Pst X.K pm W mu H s (fun d mu' H' => ∀ v, Rl X.K pm.fa mu' H' d v → Q v H') x) :
    Pst X.K pm (fun c d _ H => WE W s c d H) mu H [] (fun d mu' H' => ∀ v, Rl X.K pm.fa mu' H' d v → Q v H') x := by
  cases x with
  | ok a => exact p
  | exc c h => exact p
  | fail => exact p
theorem ex_call {g : List D → Hh → Res (D × Hh)} {k : Nat} {f : Addr} {fd : FuncData} {ps : List Str} {x : Str} {p : Pos} {es : List Expr} {m : Ev → Hh → Res (List D × Hh)}
    (F : FnOk X.prog X.w X.K X.mg X.base (L2.CX X.prog X.w) k f fd ps (spR X.K pm g)) (hr : Room k X.A) (hg : Gl X x) (hm : X.mg x = some (.ref f)) (hk : PySem.W.keepIn X.K (.ref f) = true) (hb : Binds X.K fd ps []) (tk : Takes X W)
    (ha : PA X (e :: es) (tAs X.K pm W m)) (hdb : (x == ("__debug__" : Str)) = false) (he : starEach (e :: es) X.env = (false, eval e X.env) :: starEach es X.env) (hpl : (backTo pos (starEach es X.env)).any (·.1) = false) :
    PE X (.Call (.Name x p) (e :: es) [] pos) (tE X.K pm W fun r h => m r h >>= fun x => g x.1 x.2) := by
  refine PE.mono (pe_callS (E := WE W) F hr hg hm hk hb (fun σ => passAt tk σ) ha hdb he hpl) fun s H Q q => ?_
  exact tAs_bind (f := fun x => g x.1 x.2) q fun mu r h ds vs H re rh rl p => ⟨mu, h, ds, rh, rl, p.toE⟩
theorem ex_call0 {g : List D → Hh → Res (D × Hh)} {k : Nat} {f : Addr} {fd : FuncData} {ps : List Str} {x : Str} {p : Pos}
    (F : FnOk X.prog X.w X.K X.mg X.base (L2.CX X.prog X.w) k f fd ps (spR X.K pm g)) (hr : Room k X.A) (hg : Gl X x) (hm : X.mg x = some (.ref f)) (hk : PySem.W.keepIn X.K (.ref f) = true) (hb : Binds X.K fd ps []) (tk : Takes X W)
    (hdb : (x == ("__debug__" : Str)) = false) : PE X (.Call (.Name x p) [] [] pos) (tE X.K pm W fun _ h => g [] h) := by
  refine ⟨fun pins s σ H Q I ⟨mu, r, h, re, rh, q⟩ => ?_⟩
  refine wpAny_Call_Name_kw (ld_glob I hg hm ?_ hdb)
  exact PySem.W.callWith_K0 I.kIn hk (run_fnS (us := []) (vs := []) (E := WE W) F hr hb (passAt tk σ) I .nil ⟨mu, h, [], rh, .nil, q.toE⟩)
/-! ### built-ins -/
theorem ex_biB {g : List D → Hh → Res (D × Hh)} {id : String} {x : Str} {p : Pos} {es : List Expr} {m : Ev → Hh → Res (List D × Hh)} (o : CallR X (.builtin id) (rC X.K pm.fa g)) (hg : Gl X x) (hm : X.mg x = none) (hv : bootBuiltins x = some (.builtin id))
    (ha : PA X (e :: es) (tAs X.K pm W m)) (hn : x ≠ "__name__") (hdb : (x == ("__debug__" : Str)) = false) (he : starEach (e :: es) X.env = (false, eval e X.env) :: starEach es X.env) (hpl : (backTo pos (starEach es X.env)).any (·.1) = false) :
    PE X (.Call (.Name x p) (e :: es) [] pos) (tE X.K pm W fun r h => m r h >>= fun x => nox (g x.1 x.2)) := by
  refine PE.mono (pe_callB o hg hm hv ha hn hdb he hpl) fun s H Q q => tAs_bind (f := fun x => nox (g x.1 x.2)) q fun mu r h ds vs H re rh rl p => ?_
  obtain ⟨d', h', e, q'⟩ := p.nox
  exact ⟨mu, h, ds, d', h', rh, rl, e, fun mu' H' v g rh r => q' mu' H' g rh v r⟩
theorem ex_biT {g : List D → Hh → Res (D × Hh)} {id : String} {x : Str} {p : Pos} {es : List Expr} {m : Ev → Hh → Res (List D × Hh)} (o : CallR X (.type id) (rC X.K pm.fa g)) (hg : Gl X x) (hm : X.mg x = none) (hv : bootBuiltins x = some (.type id))
    (ha : PA X (e :: es) (tAs X.K pm W m)) (hn : x ≠ "__name__") (hdb : (x == ("__debug__" : Str)) = false) (he : starEach (e :: es) X.env = (false, eval e X.env) :: starEach es X.env) (hpl : (backTo pos (starEach es X.env)).any (·.1) = false) :
    PE X (.Call (.Name x p) (e :: es) [] pos) (tE X.K pm W fun r h => m r h >>= fun x => nox (g x.1 x.2)) := by
  refine PE.mono (pe_callTy o hg hm hv ha hn hdb he hpl) fun s H Q q => tAs_bind (f := fun x => nox (g x.1 x.2)) q fun mu r h ds vs H re rh rl p => ?_
  obtain ⟨d', h', e, q'⟩ := p.nox
  exact ⟨mu, h, ds, d', h', rh, rl, e, fun mu' H' v g rh r => q' mu' H' g rh v r⟩
theorem ex_isi {t : String} {m : Bool} {x T : Str} {p p2 : Pos} (hg : Gl X x) (hm : X.mg x = none) (hv : bootBuiltins x = some (.builtin "isinstance")) (hgT : Gl X T) (hmT : X.mg T = none) (hvT : bootBuiltins T = some (.type t))
    (ha : PE X a (tE X.K pm W ma)) (hn : x ≠ "__name__") (hdb : (x == ("__debug__" : Str)) = false) (hnT : T ≠ "__name__") (hdT : (T == ("__debug__" : Str)) = false)
    (he : starEach (a :: [.Name T p2]) X.env = (false, eval a X.env) :: starEach [.Name T p2] X.env) :
    PE X (.Call (.Name x p) [a, .Name T p2] [] pos) (tE X.K pm W fun r h => ma r h >>= fun x => nox (biD (.isi t) m [x.1] x.2)) := by
  refine PE.mono (pe_callB (isi_ok (t := t) (m := m) (fa := pm.fa)) hg hm hv (pa_cons ha (pa_cons (pe_bltn (v := .ty t) hgT hmT hvT rfl hnT hdT) pa_nil) he) hn hdb he rfl) fun s H Q q => ?_
  obtain ⟨mu, r, h, re, rh, p⟩ := q
  refine ⟨mu, r, h, re, rh, p.bind.imp fun d mu1 H1 _ ⟨g1, h1, rh1, p1⟩ v rv => ?_⟩
  obtain ⟨d', h', e, q'⟩ := p1.nox
  exact ⟨v, rfl, mu1, h1, [d], d', h', rh1, .cons rv .nil, e, fun mu' H' v g rh r => q' mu' H' g rh v r⟩
/-! ### methods of lists -/
theorem mt_ty {mu : Lv} {H : Hp} {h : Hh} {d : D} {v : V} {xs : List D} (rh : RH X.K pm.fa mu h H) (rv : Rl X.K pm.fa mu H d v) (e : lstOf h d = some xs) : tyV X.K "list" v H := by
  obtain ⟨p, vs, rfl, hs, _⟩ := lst_use rh rv e
  exact .inl ⟨rfl, vs, hs⟩
theorem ex_mt0 {f : Mt} {name : Str} {ap cp : Pos} (hf : MtR X (mtId f) (rM X.K pm.fa (mtD f))) (slot : Slot "list" name (mtId f)) (hty : typeOf (.builtin (mtId f)) = pure (.type "method_descriptor")) (ha : PE X a (tE X.K pm W ma))
    (hbase : attributeBase a name X.env (eval a X.env) = eval a X.env) (hline : (ap.endLine == cp.line) = true) :
    PE X (.Call (.Attribute a name ap) [] [] cp) (tE X.K pm W fun r h => ma r h >>= fun x => (match lstOf x.2 x.1 with | none => .fail | some _ => Res.ok ([], x.2) >>= fun y => nox (mtD f x.1 y.1 y.2))) := by
  refine PE.mono (pe_bm0 PySem.F.plainAttrs_list slot hty hf ha hbase hline) fun s H Q q => tE_bind (f := fun x => match lstOf x.2 x.1 with | none => .fail | some _ => Res.ok ([], x.2) >>= fun y => nox (mtD f x.1 y.1 y.2)) q fun mu r h d v H re rh rv p => ?_
  dsimp only at p
  split at p
  · exact p.elim
  · rename_i xs e
    obtain ⟨d', h', e', q'⟩ := p.nox
    exact ⟨mt_ty rh rv e, mu, h, d, [], d', h', rh, rv, .nil, e', fun mu' H' v g rh r => q' mu' H' g rh v r⟩
theorem ex_mt {f : Mt} {name : Str} {ap cp : Pos} {es : List Expr} {m : Ev → Hh → Res (List D × Hh)} (hf : MtR X (mtId f) (rM X.K pm.fa (mtD f))) (slot : Slot "list" name (mtId f)) (hty : typeOf (.builtin (mtId f)) = pure (.type "method_descriptor")) (ha : PE X a (tE X.K pm W ma))
    (hes : PA X (e :: es) (tAs X.K pm W m)) (hbase : attributeBase a name X.env (eval a X.env) = eval a X.env)
    (hfew : ((backTo cp (starEach (e :: es) X.env)).all (fun x => !x.1) && (backToKw cp (keywordEach [] X.env)).all (fun x => x.1.isSome)
      && decide ((e :: es).length + ([] : List Keyword).length + (if ([] : List Keyword).isEmpty then 0 else 1) < 30)) = true) (hline : (ap.endLine == cp.line) = true)
    (hs : starEach (e :: es) X.env = (false, eval e X.env) :: starEach es X.env) (hpl : (backTo cp (starEach es X.env)).any (·.1) = false) :
    PE X (.Call (.Attribute a name ap) (e :: es) [] cp) (tE X.K pm W fun r h => ma r h >>= fun x => (match lstOf x.2 x.1 with | none => .fail | some _ => m r x.2 >>= fun y => nox (mtD f x.1 y.1 y.2))) := by
  refine PE.mono (pe_bm PySem.F.plainAttrs_list slot hty hf ha hes hbase hfew hline hs hpl) fun s H Q q => tE_bindr (f := fun r x => match lstOf x.2 x.1 with | none => .fail | some _ => m r x.2 >>= fun y => nox (mtD f x.1 y.1 y.2)) q fun mu r h d v H re rh rv p => ?_
  dsimp only at p
  split at p
  · exact p.elim
  · rename_i xs e
    refine ⟨mt_ty rh rv e, mu, r, h, re, rh, p.bind.imp fun ds mu2 H2 _ ⟨g2, h2, rh2, p2⟩ vs rl => ?_⟩
    obtain ⟨d', h', e', q'⟩ := p2.nox
    exact ⟨mu2, h2, d, ds, d', h', rh2, Rl.grow g2 _ _ rv, rl, e', fun mu' H' v g rh r => q' mu' H' g rh v r⟩
/-! ### items, slices, displays -/
theorem ex_ix (ha : PE X a (tE X.K pm W ma)) (hb : PE X b (tE X.K pm W mb)) (hs : PlainIx b) :
    PE X (.Subscript a b pos) (tE X.K pm W fun r h => ma r h >>= fun x => mb r x.2 >>= fun y => nox (ixD x.1 y.1 y.2) >>= fun d => .ok (d, y.2)) := by
  refine PE.mono (pe_ix (ix_ok (fa := pm.fa)) ha hb hs) fun s H Q q => tE_bindr (f := fun r x => mb r x.2 >>= fun y => nox (ixD x.1 y.1 y.2) >>= fun d => .ok (d, y.2)) q fun mu r h d v H re rh rv p => ?_
  refine ⟨mu, r, h, re, rh, p.bind.imp fun d2 mu2 H2 _ ⟨g2, h2, rh2, p2⟩ v2 rv2 => ?_⟩
  obtain ⟨d', e, q'⟩ := p2.nox2
  exact ⟨mu2, h2, d, d2, d', h2, rh2, Rl.grow g2 _ _ rv, rv2, by show (ixD d d2 h2 >>= _) = _; rw [e]; rfl, fun mu' H' v g rh r => q' mu' H' g rh v r⟩
theorem ex_noO : PO X none (tOi X.K pm W fun _ h => .ok (none, h)) := PO.mono po_none fun s H Q ⟨mu, r, h, re, rh, p⟩ => p.ok_inv rh
theorem ex_soO (ha : PE X a (tE X.K pm W ma)) : PO X (some a) (tOi X.K pm W fun r h => ma r h >>= fun x => asI x.1 x.2 >>= fun i => .ok (some i.1, i.2)) := by
  refine PO.mono (po_some ha) fun s H Q ⟨mu, r, h, re, rh, p⟩ => ⟨mu, r, h, re, rh, p.bind.imp fun d mu1 H1 _ ⟨g1, h1, rh1, p1⟩ v rv => ?_⟩
  obtain ⟨i, rfl, q⟩ := asI_bnd p1
  exact ⟨i, Rl.int.mp rv, q.ok_inv rh1⟩
theorem ex_sl {lo hi : Option Expr} {ml mh : Ev → Hh → Res (Option Int × Hh)} {p2 : Pos} (ha : PE X a (tE X.K pm W ma)) (hl : PO X lo (tOi X.K pm W ml)) (hu : PO X hi (tOi X.K pm W mh)) :
    PE X (.Subscript a (.Slice lo hi none p2) pos) (tE X.K pm W fun r h => ma r h >>= fun x => ml r x.2 >>= fun l => mh r l.2 >>= fun u => nox (slD x.1 l.1 u.1 u.2) >>= fun d => .ok (d, u.2)) := by
  refine PE.mono (pe_slice (sl_ok (fa := pm.fa)) ha hl hu) fun s H Q q => tE_bindr (f := fun r x => ml r x.2 >>= fun l => mh r l.2 >>= fun u => nox (slD x.1 l.1 u.1 u.2) >>= fun d => .ok (d, u.2)) q fun mu r h d v H re rh rv p => ?_
  refine ⟨mu, r, h, re, rh, p.bind.imp fun l mu1 H1 _ ⟨g1, h1, rh1, p1⟩ => ?_⟩
  refine ⟨mu1, r, h1, re.grow g1, rh1, p1.bind.imp fun u mu2 H2 _ ⟨g2, h2, rh2, p2⟩ => ?_⟩
  obtain ⟨d', e, q'⟩ := p2.nox2
  exact ⟨mu2, h2, d, d', rh2, Rl.grow (g1.trans g2) _ _ rv, e, fun mu' H' v g rh r => q' mu' H' g rh v r⟩
theorem ex_revL {k : Nat} {p1 p2 p3 : Pos} (ha : PE X a (tE X.K pm W ma)) :
    PE X (.Subscript a (.Slice none none (some (.UnaryOp .USub (.Constant (.int 1) k p1) p2)) p3) pos) (tE X.K pm W fun r h => ma r h >>= fun x => nox (revD x.1 x.2) >>= fun d => .ok (d, x.2)) := by
  refine PE.mono (pe_rev2 ha) fun s H Q q => tE_bind (f := fun x => nox (revD x.1 x.2) >>= fun d => .ok (d, x.2)) q fun mu r h d v H re rh rv p => ?_
  obtain ⟨d', e, q'⟩ := p.nox2
  have lsts : (match lstOf h d with
      | some xs => (.ok (.lst xs.reverse) : Res D)
      | none => .fail) = .ok d' → ∃ a xs, v = .ref a ∧ ((SqL X.K H a xs ∧ ∀ p, H p = none → Q (.ref p) (upd H p (.lst xs.reverse))) ∨ (SqT X.K H a xs ∧ QT Q H xs.reverse)) := fun e => by
    split at e
    · rename_i xs z
      cases e
      obtain ⟨p, vs, rfl, hs, l⟩ := lst_use rh rv z
      exact ⟨p, vs, rfl, .inl ⟨hs, mk_use (m := false) (h' := h) rh l.reverse rfl fun mu' H' v g rh r => q' mu' H' g rh v r⟩⟩
    · cases e
  unfold revD at e
  cases d with
  | tup xs =>
    cases e
    obtain ⟨p, vs, rfl, _, a, l⟩ := Rl.tup.mp rv
    exact ⟨p, vs, rfl, .inr ⟨a.sq, tup_use rh l.reverse fun mu' H' v g rh r => q' mu' H' g rh v r⟩⟩
  | _ => exact lsts e
theorem ex_tup {es : List Expr} {k : Nat} {m : Ev → Hh → Res (List D × Hh)} (ha : PA X es (tAs X.K pm W m)) : PE X (.Tuple es k pos) (tE X.K pm W fun r h => m r h >>= fun x => if x.1.length ≤ sizeLine then .ok (.tup x.1, x.2) else .fail) := by
  refine PE.mono (pe_tupF ha) fun s H Q q => tAs_bind (f := fun x => if x.1.length ≤ sizeLine then .ok (.tup x.1, x.2) else .fail) q fun mu r h ds vs H re rh rl p => ?_
  dsimp only at p
  split at p
  · rename_i hz
    exact ⟨by rw [← rl.length]; exact hz, tup_use rh rl fun mu' H' v g rh r => p mu' H' g rh v r⟩
  · exact p.elim
theorem mk_pst {mu : Lv} {H : Hp} {s : L2.St} {m : Bool} {xs : List D} {vs : List V} {h : Hh} {Q : VK} (rh : RH X.K pm.fa mu h H) (rl : RlL X.K pm.fa mu H xs vs)
    (p : Pst X.K pm W mu H s (fun d mu' H' => ∀ v, Rl X.K pm.fa mu' H' d v → Q v H') (mkL m xs h)) : ∀ p, H p = none → Q (.ref p) (upd H p (.lst vs)) := by
  cases e : mkL m xs h with
  | ok x => obtain ⟨d, h'⟩ := x; rw [e] at p; exact mk_use rh rl e fun mu' H' v g rh r => p mu' H' g rh v r
  | exc c h' => exfalso; unfold mkL at e; split at e <;> cases e
  | fail => rw [e] at p; exact p.elim
theorem ex_lst {es : List Expr} {mm : Bool} {m : Ev → Hh → Res (List D × Hh)} (ha : PA X es (tAs X.K pm W m)) : PE X (.List es pos) (tE X.K pm W fun r h => m r h >>= fun x => if x.1.length ≤ sizeLine then mkL mm x.1 x.2 else .fail) := by
  refine PE.mono (pe_lst ha) fun s H Q q => tAs_bind (f := fun x => if x.1.length ≤ sizeLine then mkL mm x.1 x.2 else .fail) q fun mu r h ds vs H re rh rl p => ?_
  dsimp only at p
  split at p
  · rename_i hz
    exact ⟨by rw [← rl.length]; exact hz, mk_pst rh rl p⟩
  · exact p.elim
/-! ### tuple(range(..)), list(range(..)) -/
theorem rl_rg {K : PySem.W.Frag} {fa : Fa} {mu : Lv} {H : Hp} (i j : Int) : RlL K fa mu H (rgD i j) (rgV i j) := by
  unfold rgD rgV
  generalize List.range (j - i).toNat = l
  induction l with
  | nil => exact .nil
  | cons x l ih => exact .cons (Rl.int.mpr rfl) ih
theorem rgOk_use {i j : Int} (h : rgOk i j = true) : RgOk i j := by
  unfold rgOk at h
  have := of_decide_eq_true h
  obtain ⟨a, b, c, d, e⟩ := this
  exact ⟨a, b, c, d, Nat.le_trans e (by decide)⟩
theorem rng_inv {ds xs : List D} (e : rngD ds = some xs) : ∃ i j, rgB ds = some (i, j) ∧ rgOk i j = true ∧ xs = rgD i j := by
  unfold rngD at e
  split at e
  · rename_i i j z
    split at e
    · rename_i zo
      cases e
      exact ⟨i, j, z, zo, rfl⟩
    · cases e
  · cases e
/-- range's arguments as they are read -/
def tRgs (K : PySem.W.Frag) (pm : Pm) (W : WX) (m : Ev → Hh → Res (List D × Hh)) : L2.St → Hp → (Int → Int → Hp → Prop) → Prop := fun s H Q => ∃ mu r h, RE K pm.fa mu H r s ∧ RH K pm.fa mu h H ∧
  Pst K pm W mu H s (fun ds _ H' => ∃ i j, rgB ds = some (i, j) ∧ Q i j H') (m r h)
theorem PRg.mono {t t' : L2.St → Hp → (Int → Int → Hp → Prop) → Prop} (p : PRg X e t) (k : ∀ s H Q, t' s H Q → t s H Q) : PRg X e t' := by
  intro pins s σ H Q I q
  exact p pins s σ H Q I (k _ _ _ q)
/-- the list of one, of two arguments -/
def m1 (ma : EM) : Ev → Hh → Res (List D × Hh) := fun r h => ma r h >>= fun x => Res.ok ([], x.2) >>= fun y => .ok (x.1 :: y.1, y.2)
def m2 (ma mb : EM) : Ev → Hh → Res (List D × Hh) := fun r h => ma r h >>= fun x => m1 mb r x.2 >>= fun y => .ok (x.1 :: y.1, y.2)
theorem rg_1 {p : Pos} (hg : Gl X "range") (hm : X.mg "range" = none) (ha : PE X a (tE X.K pm W ma)) (na : starEach [a] X.env = (false, eval a X.env) :: starEach [] X.env) :
    PRg X (.Call (.Name "range" p) [a] [] pos) (tRgs X.K pm W (m1 ma)) := by
  refine PRg.mono (prg_1 hg hm ha na) fun s H Q ⟨mu, r, h, re, rh, p⟩ => ⟨mu, r, h, re, rh, ?_⟩
  have p' : Pst X.K pm W mu H s (fun ds _ H' => ∃ i j, rgB ds = some (i, j) ∧ Q i j H') (ma r h >>= fun x => Res.ok ([x.1], x.2)) := p
  refine p'.bind.imp fun d mu1 H1 _ ⟨g1, h1, rh1, p1⟩ v rv => ?_
  obtain ⟨i, j, e, q⟩ := p1.ok_inv rh1
  cases d with
  | int n => cases e; exact ⟨_, Rl.int.mp rv, q⟩
  | _ => cases e
theorem rg_2 {p : Pos} (hg : Gl X "range") (hm : X.mg "range" = none) (ha : PE X a (tE X.K pm W ma)) (hb : PE X b (tE X.K pm W mb)) (na : starEach [a, b] X.env = (false, eval a X.env) :: starEach [b] X.env)
    (nb : starEach [b] X.env = (false, eval b X.env) :: starEach [] X.env) (hp : (backTo pos (starEach [b] X.env)).any (·.1) = false) :
    PRg X (.Call (.Name "range" p) [a, b] [] pos) (tRgs X.K pm W (m2 ma mb)) := by
  refine PRg.mono (prg_2 hg hm ha hb na nb hp) fun s H Q ⟨mu, r, h, re, rh, p⟩ => ⟨mu, r, h, re, rh, ?_⟩
  have p' : Pst X.K pm W mu H s (fun ds _ H' => ∃ i j, rgB ds = some (i, j) ∧ Q i j H') (ma r h >>= fun x => (m1 mb r x.2 >>= fun y => .ok (x.1 :: y.1, y.2))) := p
  refine p'.bind.imp fun d mu1 H1 _ ⟨g1, h1, rh1, p1⟩ v rv => ?_
  refine ⟨mu1, r, h1, re.grow g1, rh1, ?_⟩
  have p2 : Pst X.K pm W mu1 H1 s (fun ds _ H' => ∃ i j, rgB ds = some (i, j) ∧ Q i j H') (mb r h1 >>= fun y => Res.ok ([d, y.1], y.2)) := by
    unfold m1 at p1
    dsimp only at p1
    cases hm : mb r h1 with
    | ok x => rw [hm] at p1; exact p1
    | exc c h1 => rw [hm] at p1; exact p1
    | fail => rw [hm] at p1; exact p1
  refine p2.bind.imp fun d2 mu2 H2 _ ⟨g2, h2, rh2, p3⟩ w rw_ => ?_
  obtain ⟨i, j, e, q⟩ := p3.ok_inv rh2
  cases d with
  | int n =>
    cases d2 with
    | int n2 => cases e; exact ⟨_, _, Rl.int.mp rv, Rl.int.mp rw_, q⟩
    | _ => cases e
  | _ => cases d2 <;> cases e
theorem ex_rgT {m : Ev → Hh → Res (List D × Hh)} {p : Pos} (hc : X.calm = true) (hg : Gl X "tuple") (hm : X.mg "tuple" = none) (he : PRg X e (tRgs X.K pm W m)) (na : starEach [e] X.env = (false, eval e X.env) :: starEach [] X.env) :
    PE X (.Call (.Name "tuple" p) [e] [] pos) (tE X.K pm W fun r h => m r h >>= fun x => (match rngD x.1 with | some xs => .ok (.tup xs, x.2) | none => .fail)) := by
  refine PE.mono (pe_tupRgF hc hg hm he na) fun s H Q ⟨mu, r, h, re, rh, p⟩ => ⟨mu, r, h, re, rh, p.bind.imp fun ds mu1 H1 _ ⟨g1, h1, rh1, p1⟩ => ?_⟩
  dsimp only at p1
  split at p1
  · rename_i xs e
    obtain ⟨i, j, e1, e2, rfl⟩ := rng_inv e
    exact ⟨i, j, e1, rgOk_use e2, tup_use rh1 (rl_rg i j) fun mu' H' v g rh r => p1 mu' H' g rh v r⟩
  · exact p1.elim
theorem ex_rgL {m : Ev → Hh → Res (List D × Hh)} {p : Pos} {mm : Bool} (hc : X.calm = true) (hg : Gl X "list") (hm : X.mg "list" = none) (he : PRg X e (tRgs X.K pm W m)) (na : starEach [e] X.env = (false, eval e X.env) :: starEach [] X.env) :
    PE X (.Call (.Name "list" p) [e] [] pos) (tE X.K pm W fun r h => m r h >>= fun x => (match rngD x.1 with | some xs => mkL mm xs x.2 | none => .fail)) := by
  refine PE.mono (pe_listRg hc hg hm he na) fun s H Q ⟨mu, r, h, re, rh, p⟩ => ⟨mu, r, h, re, rh, p.bind.imp fun ds mu1 H1 _ ⟨g1, h1, rh1, p1⟩ => ?_⟩
  dsimp only at p1
  split at p1
  · rename_i xs e
    obtain ⟨i, j, e1, e2, rfl⟩ := rng_inv e
    exact ⟨i, j, e1, rgOk_use e2, mk_pst rh1 (rl_rg i j) p1⟩
  · exact p1.elim

end
/-! ## walks -/
mutual
theorem sam_eq : ∀ a b : D, sam a b = true → a = b
  | .non, b, h => by cases b <;> simp_all [sam]
  | .bl _, b, h => by cases b <;> simp_all [sam]
  | .int _, b, h => by cases b <;> simp_all [sam]
  | .str _, b, h => by cases b <;> simp_all [sam]
  | .ref _, b, h => by cases b <;> simp_all [sam]
  | .fn _, b, h => by cases b <;> simp_all [sam]
  | .exc _, b, h => by cases b <;> simp_all [sam]
  | .pr x y, b, h => by
    cases b with
    | pr z w =>
      simp only [sam, Bool.and_eq_true] at h
      rw [sam_eq x z h.1, sam_eq y w h.2]
    | _ => simp [sam] at h
  | .tup xs, b, h => by
    cases b with
    | tup ys => rw [samL_eq xs ys (by simpa [sam] using h)]
    | _ => simp [sam] at h
  | .lst xs, b, h => by
    cases b with
    | lst ys => rw [samL_eq xs ys (by simpa [sam] using h)]
    | _ => simp [sam] at h
  | .scr xs, b, h => by
    cases b with
    | scr ys => rw [samL_eq xs ys (by simpa [sam] using h)]
    | _ => simp [sam] at h
theorem samL_eq : ∀ a b : List D, samL a b = true → a = b
  | [], [], _ => rfl
  | [], _ :: _, h => by simp [samL] at h
  | _ :: _, [], h => by simp [samL] at h
  | x :: xs, y :: ys, h => by
    simp only [samL, Bool.and_eq_true] at h
    rw [sam_eq x y h.1, samL_eq xs ys h.2]
end
/-- J goes over xs, as long as what is live at src stands -/
def Serve (K : PySem.W.Frag) (fa : Fa) (J : It) (xs : List D) (src : Option Nat) (mu0 : Lv) (H0 : Hp) : Prop :=
  ∀ (i : Nat) (mu : Lv) (h : Hh) (H : Hp), Gr mu0 H0 mu H → RH K fa mu h H → stl src xs h = true →
    (∀ d, xs[i]? = some d → J.go i H ∧ ∀ x H', J.yld i H x H' → Gr mu H mu H' ∧ RH K fa mu h H' ∧ Rl K fa mu H' d x) ∧ (xs.length ≤ i → J.stop i H)
def tIt (K : PySem.W.Frag) (pm : Pm) (W : WX) (m : Ev → Hh → Res (Wk × Hh)) : TI := fun s H R => ∃ mu r h, RE K pm.fa mu H r s ∧ RH K pm.fa mu h H ∧
  Pst K pm W mu H s (fun w mu' H' => ∀ J, Serve K pm.fa J w.1 w.2 mu' H' → R J H') (m r h)
section
variable {K : PySem.W.Frag} {fa : Fa} {mu mu0 : Lv} {H H0 : Hp} {h : Hh}
theorem TupN.grow {p : Addr} {vs : List V} (g : Gr mu0 H0 mu H) (hp : p ∉ mu0) (e : TupN (H0 p) vs) : TupN (H p) vs := let ⟨o, e1, hd⟩ := e; ⟨o, g.st _ _ e1 (Lv.out hp), hd⟩
theorem serve_tup {p : Addr} {xs : List D} {vs : List V} (hp : p ∉ mu0) (e : TupN (H0 p) vs) (l : RlL K fa mu0 H0 xs vs) : Serve K fa (Itt K p) xs none mu0 H0 := by
  intro i mu h H g rh _
  have e' := TupN.grow g hp e
  have l' := RlL.grow g _ _ l
  refine ⟨fun d hd => ?_, fun hl => ⟨vs, e'.sq, by rw [← l.length]; exact hl⟩⟩
  obtain ⟨v, hv, rv⟩ := l'.get hd
  refine ⟨⟨vs, v, e'.sq, hv⟩, fun x H' hy => ?_⟩
  obtain ⟨rfl, hx⟩ := hy
  have : v = x := Option.some.inj (hv.symm.trans (hx vs e'.sq))
  subst this
  exact ⟨Gr.refl, rh, rv⟩
/-- a list that can be read as vs all along -/
theorem serve_sq {p : Addr} {xs : List D} {src : Option Nat} (k : ∀ mu h H, Gr mu0 H0 mu H → RH K fa mu h H → stl src xs h = true → ∃ vs, SqL K H p vs ∧ RlL K fa mu H xs vs) : Serve K fa (Itl K p) xs src mu0 H0 := by
  intro i mu h H g rh st
  obtain ⟨vs, e', l'⟩ := k mu h H g rh st
  refine ⟨fun d hd => ?_, fun hl => ⟨vs, e', by rw [← l'.length]; exact hl⟩⟩
  obtain ⟨v, hv, rv⟩ := l'.get hd
  refine ⟨⟨vs, v, e', hv⟩, fun x H' hy => ?_⟩
  obtain ⟨rfl, hx⟩ := hy
  have : v = x := Option.some.inj (hv.symm.trans (hx vs e'))
  subst this
  exact ⟨Gr.refl, rh, rv⟩
theorem serve_lst {p : Addr} {xs : List D} {vs : List V} (hp : p ∉ mu0) (e : H0 p = some (.lst vs)) (l : RlL K fa mu0 H0 xs vs) : Serve K fa (Itl K p) xs none mu0 H0 :=
  serve_sq fun mu h H g _ _ => ⟨vs, SqL.of (g.st _ _ e (Lv.out hp)), RlL.grow g _ _ l⟩
theorem serve_scr {p : Addr} {xs : List D} {vs : List V} (e : ScrAt K mu0 H0 p vs) (l : RlL K fa mu0 H0 xs vs) : Serve K fa (Itl K p) xs none mu0 H0 :=
  serve_sq fun mu h H g _ _ => ⟨vs, (e.grow g).sq, RlL.grow g _ _ l⟩
theorem serve_ref {p : Addr} {n : Nat} {xs : List D} (m : mu0.mu[n]? = some p) : Serve K fa (Itl K p) xs (some n) mu0 H0 :=
  serve_sq fun mu h H g rh st => by
    unfold stl at st
    dsimp only at st
    split at st
    · rename_i ys z
      have := samL_eq _ _ st
      subst this
      have rr : Rl K fa mu H (.ref n) (.ref p) := Rl.grow g _ _ (Rl.ref.mpr ⟨p, rfl, m⟩)
      obtain ⟨p', vs, e1, _, e, l⟩ := live rh rr z
      cases e1
      exact ⟨vs, SqL.of e, l⟩
    · cases st
theorem serve_rng (i j : Int) : Serve K fa (L2.Itr i (j - i).toNat) (rgD i j) none mu0 H0 := by
  intro k mu h H g rh _
  have hl : (rgD i j).length = (j - i).toNat := by simp [rgD]
  refine ⟨fun d hd => ?_, fun h' => by rw [hl] at h'; exact h'⟩
  have hk : k < (rgD i j).length := (List.getElem?_eq_some_iff.mp hd).1
  rw [hl] at hk
  refine ⟨hk, fun x H' hy => ?_⟩
  obtain ⟨rfl, rfl⟩ := hy
  have : d = .int (i + (k : Nat)) := by
    unfold rgD at hd
    rw [List.getElem?_map, List.getElem?_range hk] at hd
    exact (Option.some.inj hd).symm
  subst this
  exact ⟨Gr.refl, rh, Rl.int.mpr rfl⟩
theorem numb_get : ∀ {xs : List D} {n i : Nat} {d : D}, (numb n xs)[i]? = some d → ∃ x, xs[i]? = some x ∧ d = .pr (.int ((n + i : Nat) : Int)) x
  | [], _, _, _, h => by simp [numb] at h
  | x :: xs, n, 0, d, h => by
    simp [numb] at h
    exact ⟨x, rfl, by rw [← h]; rfl⟩
  | x :: xs, n, i + 1, d, h => by
    simp only [numb, List.getElem?_cons_succ] at h ⊢
    obtain ⟨y, hy, e⟩ := numb_get h
    exact ⟨y, hy, by rw [e]; congr 3; omega⟩
theorem numb_len : ∀ (xs : List D) (n : Nat), (numb n xs).length = xs.length
  | [], _ => rfl
  | x :: xs, n => by simp [numb, numb_len xs (n + 1)]
theorem serve_enum {p : Addr} {xs : List D} {vs : List V} (hp : p ∉ mu0) (e : H0 p = some (.lst vs)) (l : RlL K fa mu0 H0 xs vs) : Serve K fa (Ite K p) (numb 0 xs) none mu0 H0 := by
  intro i mu h H g rh _
  have e' := g.st _ _ e (Lv.out hp)
  have l' := RlL.grow g _ _ l
  refine ⟨fun d hd => ?_, fun hl => ⟨vs, SqL.of e', by rw [← l.length]; rw [numb_len] at hl; exact hl⟩⟩
  obtain ⟨x, hx, rfl⟩ := numb_get hd
  obtain ⟨v, hv, rv⟩ := l'.get hx
  refine ⟨⟨vs, v, SqL.of e', hv⟩, fun y H' hy => ?_⟩
  obtain ⟨T, x', rfl, hT, rfl, hx'⟩ := hy
  have : v = x' := Option.some.inj (hv.symm.trans (hx' vs (SqL.of e')))
  subst this
  refine ⟨Gr.upd rh hT, rh.upd hT, Rl.pr.mpr ⟨T, _, _, rfl, rh.new hT, upd_same, ?_, Rl.grow (Gr.upd rh hT) _ _ rv⟩⟩
  exact Rl.int.mpr (by simp)
theorem pair_get : ∀ {xs ys : List D} {i : Nat} {d : D}, (pair xs ys)[i]? = some d → ∃ x y, xs[i]? = some x ∧ ys[i]? = some y ∧ d = .pr x y
  | [], ys, _, _, h => by simp [pair] at h
  | x :: xs, [], _, _, h => by simp [pair] at h
  | x :: xs, y :: ys, 0, d, h => by
    simp [pair] at h
    exact ⟨x, y, rfl, rfl, h.symm⟩
  | x :: xs, y :: ys, i + 1, d, h => by
    simp only [pair, List.getElem?_cons_succ] at h ⊢
    exact pair_get h
theorem pair_len : ∀ (xs ys : List D), (pair xs ys).length = min xs.length ys.length
  | [], ys => by simp [pair]
  | x :: xs, [] => by simp [pair]
  | x :: xs, y :: ys => by simp [pair, pair_len xs ys]
theorem serve_zipL {p p2 : Addr} {xs ys : List D} {vs ws : List V} (hp : p ∉ mu0) (e : H0 p = some (.lst vs)) (l : RlL K fa mu0 H0 xs vs) (hp2 : p2 ∉ mu0) (e2 : H0 p2 = some (.lst ws)) (l2 : RlL K fa mu0 H0 ys ws) :
    Serve K fa (Itz K p p2) (pair xs ys) none mu0 H0 := by
  intro i mu h H g rh _
  have e' := SqL.of (K := K) (g.st _ _ e (Lv.out hp))
  have l' := RlL.grow g _ _ l
  have e2' := SqL.of (K := K) (g.st _ _ e2 (Lv.out hp2))
  have l2' := RlL.grow g _ _ l2
  refine ⟨fun d hd => ?_, fun hl => ⟨vs, ws, e', e2', by rw [pair_len] at hl; rw [← l.length, ← l2.length]; omega⟩⟩
  obtain ⟨x, y, hx, hy, rfl⟩ := pair_get hd
  obtain ⟨v, hv, rv⟩ := l'.get hx
  obtain ⟨w, hw, rw_⟩ := l2'.get hy
  refine ⟨⟨vs, ws, v, w, e', e2', hv, hw⟩, fun z H' hz => ?_⟩
  obtain ⟨T, x', y', rfl, hT, rfl, hx', hy'⟩ := hz
  have t1 : v = x' := Option.some.inj (hv.symm.trans (hx' vs e'))
  have t2 : w = y' := Option.some.inj (hw.symm.trans (hy' ws e2'))
  subst t1 t2
  exact ⟨Gr.upd rh hT, rh.upd hT, Rl.pr.mpr ⟨T, _, _, rfl, rh.new hT, upd_same, Rl.grow (Gr.upd rh hT) _ _ rv, Rl.grow (Gr.upd rh hT) _ _ rw_⟩⟩
theorem serve_zipT {p p2 : Addr} {xs ys : List D} {vs ws : List V} (hp : p ∉ mu0) (e : TupN (H0 p) vs) (l : RlL K fa mu0 H0 xs vs) (hp2 : p2 ∉ mu0) (e2 : TupN (H0 p2) ws) (l2 : RlL K fa mu0 H0 ys ws) :
    Serve K fa (RZ.ItzT K p p2) (pair xs ys) none mu0 H0 := by
  intro i mu h H g rh _
  have e' := (TupN.grow g hp e).sq (K := K)
  have l' := RlL.grow g _ _ l
  have e2' := (TupN.grow g hp2 e2).sq (K := K)
  have l2' := RlL.grow g _ _ l2
  refine ⟨fun d hd => ?_, fun hl => ⟨vs, ws, e', e2', by rw [pair_len] at hl; rw [← l.length, ← l2.length]; omega⟩⟩
  obtain ⟨x, y, hx, hy, rfl⟩ := pair_get hd
  obtain ⟨v, hv, rv⟩ := l'.get hx
  obtain ⟨w, hw, rw_⟩ := l2'.get hy
  refine ⟨⟨vs, ws, v, w, e', e2', hv, hw⟩, fun z H' hz => ?_⟩
  obtain ⟨T, x', y', rfl, hT, rfl, hx', hy'⟩ := hz
  have t1 : v = x' := Option.some.inj (hv.symm.trans (hx' vs e'))
  have t2 : w = y' := Option.some.inj (hw.symm.trans (hy' ws e2'))
  subst t1 t2
  exact ⟨Gr.upd rh hT, rh.upd hT, Rl.pr.mpr ⟨T, _, _, rfl, rh.new hT, upd_same, Rl.grow (Gr.upd rh hT) _ _ rv, Rl.grow (Gr.upd rh hT) _ _ rw_⟩⟩
end
section
variable {X : Cx} {pm : Pm} {W : WX} {a b d e tg : Expr} {ma mb md : EM} {pos : Pos}
theorem PI.or {t1 t2 : TI} (p1 : PI X tg e t1) (p2 : PI X tg e t2) : PI X tg e (fun s H R => t1 s H R ∨ t2 s H R) := ⟨fun pins s σ H R I q => by
  rcases q with q | q
  · exact p1.run pins s σ H R I q
  · exact p2.run pins s σ H R I q⟩
theorem it_seq (ha : PE X a (tE X.K pm W ma)) : PI X tg a (tIt X.K pm W fun r h => ma r h >>= fun x => nox (walkD x.1 x.2) >>= fun w => .ok (w, x.2)) := by
  refine PI.mono (PI.or (pi_list (tg := tg) ha) (pi_tup (tg := tg) ha)) fun s H R ⟨mu, r, h, re, rh, p⟩ => ?_
  cases hm : ma r h with
  | fail => dsimp only at p; rw [hm] at p; exact p.elim
  | exc c h1 => dsimp only at p; rw [hm] at p; exact .inl ⟨mu, r, h, re, rh, by rw [hm]; exact p⟩
  | ok x =>
    obtain ⟨d, h1⟩ := x
    dsimp only at p
    rw [hm] at p
    obtain ⟨w, ew, q⟩ := Pst.nox2 (x := walkD d h1) p
    have left : (∀ mu1 H1 v, Gr mu H mu1 H1 → RH X.K pm.fa mu1 h1 H1 → Rl X.K pm.fa mu1 H1 d v → ∃ a, v = .ref a ∧ (∃ xs, SqL X.K H1 a xs) ∧ R (Itl X.K a) H1) → iList X.K (tE X.K pm W ma) s H R := fun k =>
      ⟨mu, r, h, re, rh, by rw [hm]; exact fun mu1 H1 g rh1 v rv => k mu1 H1 v g rh1 rv⟩
    cases d with
    | tup xs =>
      cases ew
      refine .inr ⟨mu, r, h, re, rh, ?_⟩
      rw [hm]
      intro mu1 H1 g rh1 v rv
      obtain ⟨p, vs, rfl, hp, e, l⟩ := Rl.tup.mp rv
      exact ⟨p, rfl, ⟨vs, e.sq⟩, q mu1 H1 g rh1 _ (serve_tup hp e l)⟩
    | lst xs =>
      cases ew
      refine .inl (left fun mu1 H1 v g rh1 rv => ?_)
      obtain ⟨p, vs, rfl, hp, e, l⟩ := Rl.lst.mp rv
      exact ⟨p, rfl, ⟨vs, SqL.of e⟩, q mu1 H1 g rh1 _ (serve_lst hp e l)⟩
    | scr xs =>
      cases ew
      refine .inl (left fun mu1 H1 v g rh1 rv => ?_)
      obtain ⟨p, vs, rfl, e, l⟩ := Rl.scr.mp rv
      exact ⟨p, rfl, ⟨vs, e.sq⟩, q mu1 H1 g rh1 _ (serve_scr e l)⟩
    | ref n =>
      simp only [walkD] at ew
      split at ew
      · rename_i xs z
        cases ew
        refine .inl (left fun mu1 H1 v g rh1 rv => ?_)
        obtain ⟨p, vs, rfl, m, e, l⟩ := live rh1 rv z
        exact ⟨p, rfl, ⟨vs, SqL.of e⟩, q mu1 H1 g rh1 _ (serve_ref m)⟩
      · cases ew
    | _ => cases ew
theorem it_range1 {m : Ev → Hh → Res (List D × Hh)} {p : Pos} (hg : Gl X "range") (hm : X.mg "range" = none) (ha : PA X [a] (tAs X.K pm W m)) (hs : starEach [a] X.env = [(false, eval a X.env)]) :
    PI X tg (.Call (.Name "range" p) [a] [] pos) (tIt X.K pm W fun r h => m r h >>= fun x => if x.1.length = 1 then (match rngD x.1 with | some xs => .ok ((xs, none), x.2) | none => .fail) else .fail) := by
  refine PI.mono (pi_range1 hg hm ha hs) fun s H R ⟨mu, r, h, re, rh, p⟩ => ⟨mu, r, h, re, rh, p.bind.imp fun ds mu1 H1 _ ⟨g1, h1, rh1, p1⟩ vs rl => ?_⟩
  dsimp only at p1
  split at p1
  · rename_i hl
    split at p1
    · rename_i xs e
      obtain ⟨i, j, e1, e2, rfl⟩ := rng_inv e
      obtain ⟨k1, k2, k3, k4, k5⟩ := rgOk_use e2
      match ds, hl, e1, rl with
      | [.int n], _, e1, rl =>
        obtain ⟨v, rfl, rv⟩ := rl.one_inv
        cases e1
        refine ⟨_, by rw [Rl.int.mp rv], k3, k4, ?_⟩
        have := p1.ok_inv rh1 _ (serve_rng 0 j)
        rw [Int.sub_zero] at this
        exact this
    · exact p1.elim
  · exact p1.elim
theorem it_range2 {m : Ev → Hh → Res (List D × Hh)} {p : Pos} (hg : Gl X "range") (hm : X.mg "range" = none) (ha : PA X [a, b] (tAs X.K pm W m)) (hs : starEach [a, b] X.env = [(false, eval a X.env), (false, eval b X.env)]) (hs2 : starEach [b] X.env = [(false, eval b X.env)]) :
    PI X tg (.Call (.Name "range" p) [a, b] [] pos) (tIt X.K pm W fun r h => m r h >>= fun x => if x.1.length = 2 then (match rngD x.1 with | some xs => .ok ((xs, none), x.2) | none => .fail) else .fail) := by
  refine PI.mono (pi_range2 hg hm ha hs hs2) fun s H R ⟨mu, r, h, re, rh, p⟩ => ⟨mu, r, h, re, rh, p.bind.imp fun ds mu1 H1 _ ⟨g1, h1, rh1, p1⟩ vs rl => ?_⟩
  dsimp only at p1
  split at p1
  · rename_i hl
    split at p1
    · rename_i xs e
      obtain ⟨i, j, e1, e2, rfl⟩ := rng_inv e
      obtain ⟨k1, k2, k3, k4, k5⟩ := rgOk_use e2
      match ds, hl, e1, rl with
      | [.int n, .int n2], _, e1, rl =>
        obtain ⟨v, w, rfl, rv, rw_⟩ := rl.two_inv
        cases e1
        exact ⟨i, j, by rw [Rl.int.mp rv, Rl.int.mp rw_], ⟨k1, k2, k3, k4⟩, p1.ok_inv rh1 _ (serve_rng i j)⟩
    · exact p1.elim
  · exact p1.elim
theorem it_enum {p tpos : Pos} {elts : List Expr} {kk : Nat} (hg : Gl X "enumerate") (hm : X.mg "enumerate" = none) (ha : PE X a (tE X.K pm W ma)) (hs : starEach [a] X.env = [(false, eval a X.env)]) :
    PI X (.Tuple elts kk tpos) (.Call (.Name "enumerate" p) [a] [] pos) (tIt X.K pm W fun r h => ma r h >>= fun x => (match x.1 with
    | .lst xs => .ok ((numb 0 xs, none), x.2)
    | _ => .fail)) := by
  refine PI.mono (pi_enum hg hm (pa_cons ha pa_nil hs) hs) fun s H R ⟨mu, r, h, re, rh, p⟩ => ⟨mu, r, h, re, rh, p.bind.imp fun d mu1 H1 _ ⟨g1, h1, rh1, p1⟩ v rv => ?_⟩
  cases d with
  | lst xs =>
    obtain ⟨p, vs, rfl, hp, e, l⟩ := Rl.lst.mp rv
    exact ⟨p, vs, rfl, SqL.of e, p1.ok_inv rh1 _ (serve_enum hp e l)⟩
  | _ => exact p1.elim
theorem it_zip {p tpos : Pos} {elts : List Expr} {kk : Nat} (hg : Gl X "zip") (hm : X.mg "zip" = none) (ha : PE X a (tE X.K pm W ma)) (hb : PE X b (tE X.K pm W mb)) (hs : starEach [a, b] X.env = (false, eval a X.env) :: starEach [b] X.env)
    (hs2 : starEach [b] X.env = (false, eval b X.env) :: starEach [] X.env) (hpl : (backTo pos (starEach [b] X.env)).any (·.1) = false) :
    PI X (.Tuple elts kk tpos) (.Call (.Name "zip" p) [a, b] [] pos) (tIt X.K pm W fun r h => ma r h >>= fun x => mb r x.2 >>= fun y => (match x.1, y.1 with
    | .tup xs, .tup ys => .ok ((pair xs ys, none), y.2)
    | .lst xs, .lst ys => .ok ((pair xs ys, none), y.2)
    | _, _ => .fail)) := by
  refine PI.mono (RZ.pi_zipA hg hm (pa_cons ha (pa_cons hb pa_nil hs2) hs) hs hpl) fun s H R ⟨mu, r, h, re, rh, p⟩ => ⟨mu, r, h, re, rh, p.bind.imp fun d mu1 H1 _ ⟨g1, h1, rh1, p1⟩ v rv => ?_⟩
  refine ⟨mu1, r, h1, re.grow g1, rh1, p1.bind.imp fun d2 mu2 H2 _ ⟨g2, h2, rh2, p2⟩ w rw_ => ?_⟩
  have rv2 := Rl.grow g2 _ _ rv
  cases d with
  | lst xs =>
    cases d2 with
    | lst ys =>
      obtain ⟨p, vs, rfl, hp, e, l⟩ := Rl.lst.mp rv2
      obtain ⟨p', ws, rfl, hp', e', l'⟩ := Rl.lst.mp rw_
      exact ⟨p, p', vs, ws, rfl, .inl ⟨SqL.of e, SqL.of e', p2.ok_inv rh2 _ (serve_zipL hp e l hp' e' l')⟩⟩
    | _ => exact p2.elim
  | tup xs =>
    cases d2 with
    | tup ys =>
      obtain ⟨p, vs, rfl, hp, e, l⟩ := Rl.tup.mp rv2
      obtain ⟨p', ws, rfl, hp', e', l'⟩ := Rl.tup.mp rw_
      exact ⟨p, p', vs, ws, rfl, .inr ⟨e.sq, e'.sq, p2.ok_inv rh2 _ (serve_zipT hp e l hp' e' l')⟩⟩
    | _ => exact p2.elim
  | _ => exact p2.elim
end
end Fx
set_option Elab.async false
set_option linter.all false
namespace Fx
open PySem PySem.Spec PyProof.Rows L2

/-! ## targets -/
def tgsN : Tgs → Nat
  | .nil => 0
  | .cons _ gs => tgsN gs + 1
def tTg (K : PySem.W.Frag) (pm : Pm) (g : Tg) : TG := fun v s H Q => ∃ mu r h d r', RE K pm.fa mu H r s ∧ RH K pm.fa mu h H ∧ Rl K pm.fa mu H d v ∧ tgD g d r = some r' ∧
  ∀ s', RE K pm.fa mu H r' s' → (∀ own, tgIn own g = true → wipe s' own = wipe s own) → Q s' H
def tTgs (K : PySem.W.Frag) (pm : Pm) (g : Tgs) : TGs := fun vs s H Q => ∃ mu r h ds r', RE K pm.fa mu H r s ∧ RH K pm.fa mu h H ∧ RlL K pm.fa mu H ds vs ∧ tgL g ds r = some r' ∧
  ∀ s', RE K pm.fa mu H r' s' → (∀ own, tgsIn own g = true → wipe s' own = wipe s own) → Q s' H
theorem wipe_at : ∀ (own : List Nat) (s : L2.St) (i : Nat), (wipe s own)[i]? = if i ∈ own then (if i < s.length then some none else none) else s[i]?
  | [], s, i => by simp [wipe]
  | v :: vs, s, i => by
    simp only [wipe]
    have ih := wipe_at vs s i
    by_cases h : v = i
    · subst h
      rw [List.getElem?_set_self']
      rw [if_pos List.mem_cons_self]
      by_cases hl : v < s.length
      · rw [if_pos hl, List.getElem?_eq_getElem (by rw [wipe_length]; exact hl)]; rfl
      · rw [if_neg hl, List.getElem?_eq_none (by rw [wipe_length]; omega)]; rfl
    · rw [List.getElem?_set_ne h, ih]
      have : (i ∈ v :: vs) ↔ i ∈ vs := by
        rw [List.mem_cons]
        exact ⟨fun z => z.elim (fun z => absurd z.symm h) id, .inr⟩
      by_cases hm : i ∈ vs
      · rw [if_pos hm, if_pos (this.mpr hm)]
      · rw [if_neg hm, if_neg (fun z => hm (this.mp z))]
theorem wipe_set {own : List Nat} {i : Nat} {s : L2.St} {v : Option V} (h : i ∈ own) : wipe (s.set i v) own = wipe s own := by
  apply List.ext_getElem?
  intro j
  rw [wipe_at, wipe_at, List.length_set]
  by_cases hj : j ∈ own
  · rw [if_pos hj, if_pos hj]
  · rw [if_neg hj, if_neg hj, List.getElem?_set_ne]
    intro z
    exact hj (z ▸ h)
section
variable {X : Cx} {pm : Pm} {W : WX} {e : Expr} {pos : Pos}
theorem PG.or {t1 t2 : TG} (p1 : PG X e t1) (p2 : PG X e t2) : PG X e (fun v s H Q => t1 v s H Q ∨ t2 v s H Q) := ⟨fun pins s σ H v u Q I r q => by
  rcases q with q | q
  · exact p1.run pins s σ H v u Q I r q
  · exact p2.run pins s σ H v u Q I r q⟩
theorem PGs.mono {es : List Expr} {t t' : TGs} (p : PGs X es t) (k : ∀ v s H Q, t' v s H Q → t v s H Q) : PGs X es t' := ⟨fun pins s σ H v u Q I r q => p.run pins s σ H v u Q I r (k _ _ _ _ q)⟩
theorem tg_name {i : Nat} {x : Str} (hN : X.N.Nodup) (hi : X.N[i]? = some x) (hx : Loc X.env.scope x) (hf : X.fn x = true ∨ X.env.scope.names.lookup x = some .local) : PG X (.Name x pos) (tTg X.K pm (.name i)) := by
  refine PG.mono (pg_name hN hi hx hf) fun v s H Q ⟨mu, r, h, d, r', re, rh, rd, e, q⟩ => ?_
  simp only [tgD] at e
  cases e
  exact q _ (re.set rd) fun own ho => wipe_set (by simpa [tgIn] using ho)
theorem tg_nil : PGs X [] (tTgs X.K pm .nil) := PGs.mono pgs_nil fun vs s H Q ⟨mu, r, h, ds, r', re, rh, rd, e, q⟩ => by
  cases ds with
  | nil => simp only [tgL] at e; cases e; exact ⟨rd.nil_inv, q s re fun _ _ => rfl⟩
  | cons _ _ => simp [tgL] at e
theorem tg_cons {es : List Expr} {g : Tg} {gs : Tgs} (p1 : PG X e (tTg X.K pm g)) (p2 : PGs X es (tTgs X.K pm gs)) (hs : (assignEach (e :: es) X.env).map (·.2) = assign e X.env :: (assignEach es X.env).map (·.2)) :
    PGs X (e :: es) (tTgs X.K pm (.cons g gs)) := PGs.mono (pgs_cons p1 p2 hs) fun vs s H Q ⟨mu, r, h, ds, r', re, rh, rd, e, q⟩ => by
  cases ds with
  | nil => simp [tgL] at e
  | cons d ds =>
    obtain ⟨v, ws, rfl, a, b⟩ := rd.inv
    simp only [tgL, Option.bind_eq_some_iff] at e
    obtain ⟨r1, e1, e2⟩ := e
    exact ⟨v, ws, rfl, mu, r, h, d, r1, re, rh, a, e1, fun s1 re1 k1 => ⟨mu, r1, h, ds, r', re1, rh, b, e2, fun s2 re2 k2 => q s2 re2 fun own ho => by
      simp only [tgsIn, Bool.and_eq_true] at ho
      rw [k2 own ho.2, k1 own ho.1]⟩⟩
theorem tgL_len : ∀ {gs : Tgs} {n : Nat} {ds : List D} {r r' : Ev}, tgsN gs = n → tgL gs ds r = some r' → ds.length = n
  | .nil, _, ds, r, r', hn, e => by
    cases ds with
    | nil => rw [← hn]; rfl
    | cons _ _ => simp [tgL] at e
  | .cons g gs, _, ds, r, r', hn, e => by
    cases ds with
    | nil => simp [tgL] at e
    | cons d ds =>
      simp only [tgL, Option.bind_eq_some_iff] at e
      obtain ⟨r1, e1, e2⟩ := e
      rw [← hn]
      simp only [List.length_cons, tgsN, tgL_len rfl e2]
theorem tg_tup {es : List Expr} {k : Nat} {gs : Tgs} (hc : X.calm = true) (p : PGs X es (tTgs X.K pm gs)) (hn : (assignEach es X.env).length = tgsN gs) (hst : (assignEach es X.env).findIdx? (·.1) = none) :
    PG X (.Tuple es k pos) (tTg X.K pm (.tup gs)) := by
  refine PG.mono (PG.or (pg_tup hc p hn hst) (pg_lst hc p hn hst)) fun v s H Q ⟨mu, r, h, d, r', re, rh, rd, e, q⟩ => ?_
  cases d with
  | tup xs =>
    simp only [tgD] at e
    obtain ⟨a, vs, rfl, _, e1, l⟩ := Rl.tup.mp rd
    exact .inl ⟨a, vs, rfl, e1.sq, by rw [← l.length]; exact tgL_len rfl e, mu, r, h, xs, r', re, rh, l, e, fun s' re' k => q s' re' fun own ho => k own (by simpa [tgIn] using ho)⟩
  | pr x y =>
    simp only [tgD] at e
    obtain ⟨a, va, vb, rfl, _, e1, ra, rb⟩ := Rl.pr.mp rd
    have l : RlL X.K pm.fa mu H [x, y] [va, vb] := .cons ra (.cons rb .nil)
    exact .inl ⟨a, _, rfl, SqT.of e1, by rw [← l.length]; exact tgL_len rfl e, mu, r, h, [x, y], r', re, rh, l, e, fun s' re' k => q s' re' fun own ho => k own (by simpa [tgIn] using ho)⟩
  | lst xs =>
    simp only [tgD] at e
    obtain ⟨a, vs, rfl, _, e1, l⟩ := Rl.lst.mp rd
    exact .inr ⟨a, vs, rfl, SqL.of e1, by rw [← l.length]; exact tgL_len rfl e, mu, r, h, xs, r', re, rh, l, e, fun s' re' k => q s' re' fun own ho => k own (by simpa [tgIn] using ho)⟩
  | _ => simp [tgD] at e
end

/-! ## comprehensions -/
section
variable {K : PySem.W.Frag} {fa : Fa} {mu mu' : Lv} {H H' : Hp} {h : Hh} {r : Ev} {s : L2.St}
abbrev Lv.hid (mu : Lv) (p : Addr) : Lv := ⟨mu.mu, p :: mu.av⟩
/-! the relations with one more place that no value leads to, whatever stands there -/
mutual
theorem Rl.hid {p : Addr} (hp : H p = none) (k : ∀ q, q ≠ p → H' q = H q) : ∀ (d : D) (v : V), Rl K fa mu H d v → Rl K fa (mu.hid p) H' d v
  | .non, _, r => r
  | .bl _, _, r => r
  | .int _, _, r => r
  | .str _, _, r => r
  | .fn _, _, r => r
  | .exc c, v, r => by
    obtain ⟨q, e, hq, e1⟩ := Rl.exc.mp r
    have hne : q ≠ p := ne_of_none e1 hp
    refine Rl.exc.mpr ⟨q, e, fun m => ?_, by rw [k q hne]; exact e1⟩
    rcases m with m | m
    · exact hq (.inl m)
    · rcases List.mem_cons.mp m with z | z
      · exact hne z
      · exact hq (.inr z)
  | .ref n, v, r => by
    obtain ⟨q, e, m⟩ := Rl.ref.mp r
    exact Rl.ref.mpr ⟨q, e, m⟩
  | .tup xs, v, r => by
    obtain ⟨q, vs, e, hq, ⟨o, e1, hd⟩, l⟩ := Rl.tup.mp r
    have hne : q ≠ p := ne_of_none e1 hp
    refine Rl.tup.mpr ⟨q, vs, e, fun m => ?_, ⟨o, by rw [k q hne]; exact e1, hd⟩, RlL.hid hp k _ _ l⟩
    rcases m with m | m
    · exact hq (.inl m)
    · rcases List.mem_cons.mp m with z | z
      · exact hne z
      · exact hq (.inr z)
  | .pr x y, v, r => by
    obtain ⟨q, va, vb, e, hq, e1, ra, rb⟩ := Rl.pr.mp r
    have hne : q ≠ p := ne_of_none e1 hp
    refine Rl.pr.mpr ⟨q, va, vb, e, fun m => ?_, by rw [k q hne]; exact e1, Rl.hid hp k _ _ ra, Rl.hid hp k _ _ rb⟩
    rcases m with m | m
    · exact hq (.inl m)
    · rcases List.mem_cons.mp m with z | z
      · exact hne z
      · exact hq (.inr z)
  | .lst xs, v, r => by
    obtain ⟨q, vs, e, hq, e1, l⟩ := Rl.lst.mp r
    have hne : q ≠ p := ne_of_none e1 hp
    refine Rl.lst.mpr ⟨q, vs, e, fun m => ?_, by rw [k q hne]; exact e1, RlL.hid hp k _ _ l⟩
    rcases m with m | m
    · exact hq (.inl m)
    · rcases List.mem_cons.mp m with z | z
      · exact hne z
      · exact hq (.inr z)
  | .scr xs, v, r => by
    obtain ⟨q, vs, e, sc, l⟩ := Rl.scr.mp r
    refine Rl.scr.mpr ⟨q, vs, e, ?_, RlL.hid hp k _ _ l⟩
    rcases sc with ⟨hq, o, e1⟩ | sc
    · have hne : q ≠ p := ne_of_none e1 hp
      refine .inl ⟨fun m => ?_, o, by rw [k q hne]; exact e1⟩
      rcases m with m | m
      · exact hq (.inl m)
      · rcases List.mem_cons.mp m with z | z
        · exact hne z
        · exact hq (.inr z)
    · exact .inr sc
theorem RlL.hid {p : Addr} (hp : H p = none) (k : ∀ q, q ≠ p → H' q = H q) : ∀ (d : List D) (v : List V), RlL K fa mu H d v → RlL K fa (mu.hid p) H' d v
  | [], _, r => by rw [r.nil_inv]; exact .nil
  | d :: ds, vs, r => by
    obtain ⟨v, ws, rfl, a, b⟩ := r.inv
    exact .cons (Rl.hid hp k d v a) (RlL.hid hp k ds ws b)
end
/-! what stands at a hidden place is changed -/
mutual
theorem Rl.hidW {p : Addr} (hp : p ∈ mu.av) (k : ∀ q, q ≠ p → H' q = H q) : ∀ (d : D) (v : V), Rl K fa mu H d v → Rl K fa mu H' d v
  | .non, _, r => r
  | .bl _, _, r => r
  | .int _, _, r => r
  | .str _, _, r => r
  | .fn _, _, r => r
  | .exc c, v, r => by
    obtain ⟨q, e, hq, e1⟩ := Rl.exc.mp r
    have hne : q ≠ p := fun z => hq (.inr (by rw [z]; exact hp))
    exact Rl.exc.mpr ⟨q, e, hq, by rw [k q hne]; exact e1⟩
  | .ref n, v, r => r
  | .tup xs, v, r => by
    obtain ⟨q, vs, e, hq, ⟨o, e1, hd⟩, l⟩ := Rl.tup.mp r
    have hne : q ≠ p := fun z => hq (.inr (by rw [z]; exact hp))
    exact Rl.tup.mpr ⟨q, vs, e, hq, ⟨o, by rw [k q hne]; exact e1, hd⟩, RlL.hidW hp k _ _ l⟩
  | .pr x y, v, r => by
    obtain ⟨q, va, vb, e, hq, e1, ra, rb⟩ := Rl.pr.mp r
    have hne : q ≠ p := fun z => hq (.inr (by rw [z]; exact hp))
    exact Rl.pr.mpr ⟨q, va, vb, e, hq, by rw [k q hne]; exact e1, Rl.hidW hp k _ _ ra, Rl.hidW hp k _ _ rb⟩
  | .lst xs, v, r => by
    obtain ⟨q, vs, e, hq, e1, l⟩ := Rl.lst.mp r
    have hne : q ≠ p := fun z => hq (.inr (by rw [z]; exact hp))
    exact Rl.lst.mpr ⟨q, vs, e, hq, by rw [k q hne]; exact e1, RlL.hidW hp k _ _ l⟩
  | .scr xs, v, r => by
    obtain ⟨q, vs, e, sc, l⟩ := Rl.scr.mp r
    refine Rl.scr.mpr ⟨q, vs, e, ?_, RlL.hidW hp k _ _ l⟩
    rcases sc with ⟨hq, o, e1⟩ | sc
    · have hne : q ≠ p := fun z => hq (.inr (by rw [z]; exact hp))
      exact .inl ⟨hq, o, by rw [k q hne]; exact e1⟩
    · exact .inr sc
theorem RlL.hidW {p : Addr} (hp : p ∈ mu.av) (k : ∀ q, q ≠ p → H' q = H q) : ∀ (d : List D) (v : List V), RlL K fa mu H d v → RlL K fa mu H' d v
  | [], _, r => by rw [r.nil_inv]; exact .nil
  | d :: ds, vs, r => by
    obtain ⟨v, ws, rfl, a, b⟩ := r.inv
    exact .cons (Rl.hidW hp k d v a) (RlL.hidW hp k ds ws b)
end
/-! fewer places are hidden, the same are live -/
mutual
theorem Rl.lit {mu' : Lv} (hm : ∀ (n : Nat) (p : Addr), mu.mu[n]? = some p → mu'.mu[n]? = some p) (ha : ∀ p, p ∈ mu' → p ∈ mu) : ∀ (d : D) (v : V), Rl K fa mu H d v → Rl K fa mu' H d v
  | .non, _, r => r
  | .bl _, _, r => r
  | .int _, _, r => r
  | .str _, _, r => r
  | .fn _, _, r => r
  | .exc c, v, r => by
    obtain ⟨q, e, hq, e1⟩ := Rl.exc.mp r
    exact Rl.exc.mpr ⟨q, e, fun m => hq (ha q m), e1⟩
  | .ref n, v, r => by
    obtain ⟨q, e, m⟩ := Rl.ref.mp r
    exact Rl.ref.mpr ⟨q, e, hm n q m⟩
  | .tup xs, v, r => by
    obtain ⟨q, vs, e, hq, e1, l⟩ := Rl.tup.mp r
    exact Rl.tup.mpr ⟨q, vs, e, fun m => hq (ha q m), e1, RlL.lit hm ha _ _ l⟩
  | .pr x y, v, r => by
    obtain ⟨q, va, vb, e, hq, e1, ra, rb⟩ := Rl.pr.mp r
    exact Rl.pr.mpr ⟨q, va, vb, e, fun m => hq (ha q m), e1, Rl.lit hm ha _ _ ra, Rl.lit hm ha _ _ rb⟩
  | .lst xs, v, r => by
    obtain ⟨q, vs, e, hq, e1, l⟩ := Rl.lst.mp r
    exact Rl.lst.mpr ⟨q, vs, e, fun m => hq (ha q m), e1, RlL.lit hm ha _ _ l⟩
  | .scr xs, v, r => by
    obtain ⟨q, vs, e, sc, l⟩ := Rl.scr.mp r
    refine Rl.scr.mpr ⟨q, vs, e, ?_, RlL.lit hm ha _ _ l⟩
    rcases sc with ⟨hq, o, e1⟩ | sc
    · exact .inl ⟨fun m => hq (ha q m), o, e1⟩
    · exact .inr sc
theorem RlL.lit {mu' : Lv} (hm : ∀ (n : Nat) (p : Addr), mu.mu[n]? = some p → mu'.mu[n]? = some p) (ha : ∀ p, p ∈ mu' → p ∈ mu) : ∀ (d : List D) (v : List V), RlL K fa mu H d v → RlL K fa mu' H d v
  | [], _, r => by rw [r.nil_inv]; exact .nil
  | d :: ds, vs, r => by
    obtain ⟨v, ws, rfl, a, b⟩ := r.inv
    exact .cons (Rl.lit hm ha d v a) (RlL.lit hm ha ds ws b)
end
theorem RO.via {p : Addr} {o : Ob} {mu' : Lv} {H' : Hp} (k : H' p = H p) (l : ∀ ds vs, RlL K fa mu H ds vs → RlL K fa mu' H' ds vs) (r : RO K fa mu H p o) : RO K fa mu' H' p o := by
  cases o with
  | lst xs => obtain ⟨vs, e, r⟩ := r; exact ⟨vs, by rw [k]; exact e, l _ _ r⟩
  | dk xs => obtain ⟨vs, e, r1, r2⟩ := r; exact ⟨vs, by rw [k]; exact e, r1, l _ _ r2⟩
  | dt xs => obtain ⟨vs, ys, c, e, r0, r1, r2⟩ := r; exact ⟨vs, ys, c, by rw [k]; exact e, l _ _ r0, r1, l _ _ r2⟩
  | gone => obtain ⟨u, e⟩ := r; exact ⟨u, by rw [k]; exact e⟩
theorem upd_off {p : Addr} {o : HO} : ∀ q, q ≠ p → (L2.upd H p o) q = H q := fun q hq => upd_ne hq
theorem RH.hid {p : Addr} {o : HO} (rh : RH K fa mu h H) (hp : H p = none) : RH K fa (mu.hid p) h (L2.upd H p o) := by
  have hn := rh.new hp
  refine ⟨rh.nd, rh.len, fun n ob q e m => ?_, fun q hq => ?_⟩
  · have hq : q ≠ p := fun z => hn (.inl (z ▸ List.mem_of_getElem? m))
    exact RO.via (upd_ne hq) (fun ds vs l => RlL.hid hp upd_off ds vs l) (rh.at_ n ob q e m)
  · rcases List.mem_cons.mp hq with z | z
    · subst z
      exact ⟨fun m => hn (.inl m), o, upd_same⟩
    · obtain ⟨a, u, e⟩ := rh.av q z
      exact ⟨a, u, by rw [upd_ne (ne_of_none e hp)]; exact e⟩
theorem RH.hidW {p : Addr} {o : HO} (rh : RH K fa mu h H) (hp : p ∈ mu.av) : RH K fa mu h (L2.upd H p o) := by
  obtain ⟨hn, u0, e0⟩ := rh.av p hp
  refine ⟨rh.nd, rh.len, fun n ob q e m => ?_, fun q hq => ?_⟩
  · have hq : q ≠ p := fun z => hn (z ▸ List.mem_of_getElem? m)
    exact RO.via (upd_ne hq) (fun ds vs l => RlL.hidW hp upd_off ds vs l) (rh.at_ n ob q e m)
  · obtain ⟨a, u, e⟩ := rh.av q hq
    by_cases z : q = p
    · subst z; exact ⟨a, o, upd_same⟩
    · exact ⟨a, u, by rw [upd_ne z]; exact e⟩
theorem Gr.hid {p : Addr} {o : HO} (hp : H p = none) : Gr mu H (mu.hid p) (L2.upd H p o) :=
  ⟨⟨[p], rfl, fun q hq => by rw [List.mem_singleton.mp hq]; exact hp⟩, ⟨[], by simp⟩, fun q u e _ => by rw [upd_ne (ne_of_none e hp)]; exact e, fun q e => by
    by_cases hq : q = p
    · subst hq; exact hp
    · rw [upd_ne hq] at e; exact e⟩
theorem Gr.hidW {p : Addr} {o : HO} {H0 : Hp} {mu0 : Lv} (g : Gr mu0 H0 mu H) (hp : H0 p = none) : Gr mu0 H0 mu (L2.upd H p o) :=
  ⟨g.av, g.ex, fun q u e hq => by rw [upd_ne (ne_of_none e hp)]; exact g.st q u e hq, fun q e => by
    by_cases hq : q = p
    · subst hq; exact hp
    · rw [upd_ne hq] at e; exact g.fr q e⟩
/-- without the hidden place p -/
def Lv.out1 (mu : Lv) (p : Addr) : Lv := ⟨mu.mu, mu.av.filter fun q => decide (q ≠ p)⟩
theorem Lv.out1_sub {p : Addr} : ∀ q, q ∈ mu.out1 p → q ∈ mu := fun q m => m.elim .inl fun z => .inr (List.mem_filter.mp z).1
theorem Lv.out1_not {p : Addr} (h : p ∉ mu.mu) : p ∉ mu.out1 p := fun m => m.elim h fun z => of_decide_eq_true (List.mem_filter.mp z).2 rfl
theorem RH.lit {p : Addr} (rh : RH K fa mu h H) : RH K fa (mu.out1 p) h H :=
  ⟨rh.nd, rh.len, fun n ob q e m => RO.via (mu := mu) (mu' := mu.out1 p) rfl (fun ds vs l => RlL.lit (mu := mu) (mu' := mu.out1 p) (fun _ _ z => z) Lv.out1_sub ds vs l) (rh.at_ n ob q e m), fun q hq => rh.av q (List.mem_filter.mp hq).1⟩
theorem Gr.lit {p : Addr} {H0 : Hp} {mu0 : Lv} (g : Gr mu0 H0 mu H) (hp : p ∉ mu0.av) : Gr mu0 H0 (mu.out1 p) H := by
  obtain ⟨nv, e, hn⟩ := g.av
  refine ⟨⟨nv.filter fun q => decide (q ≠ p), ?_, fun q hq => hn q (List.mem_filter.mp hq).1⟩, g.ex, g.st, g.fr⟩
  show mu.av.filter _ = _
  rw [e, List.filter_append]
  congr 1
  exact List.filter_eq_self.mpr fun q hq => decide_eq_true fun z => hp (z ▸ hq)
/-- the hidden list p becomes a live one -/
theorem RH.lift {p : Addr} {xs : List D} {vs : List V} (rh : RH K fa mu h H) (hp : p ∈ mu.av) (e : H p = some (.lst vs)) (l : RlL K fa mu H xs vs) : RH K fa ((mu.out1 p).add p) (h ++ [.lst xs]) H := by
  obtain ⟨hn, _⟩ := rh.av p hp
  have hsub : ∀ q, q ∈ (mu.out1 p).add p → q ∈ mu := fun q m => m.elim (fun z => (List.mem_append.mp z).elim .inl fun z => by rw [List.mem_singleton.mp z]; exact .inr hp) fun z => .inr (List.mem_filter.mp z).1
  have hmu : ∀ (n : Nat) (q : Addr), mu.mu[n]? = some q → ((mu.out1 p).add p).mu[n]? = some q := fun n q m => by
    show (mu.mu ++ [p])[n]? = some q
    rw [List.getElem?_append_left (List.getElem?_eq_some_iff.mp m).1]; exact m
  have vi := fun ds vs l => RlL.lit (K := K) (fa := fa) (H := H) hmu hsub ds vs l
  refine ⟨?_, by simp [Lv.out1, rh.len], fun n ob q eo m => ?_, fun q hq => ?_⟩
  · show (mu.mu ++ [p]).Nodup
    rw [List.nodup_append]
    exact ⟨rh.nd, by simp, fun a ha b hb => by rw [List.mem_singleton.mp hb]; intro z; exact hn (z ▸ ha)⟩
  · have m' : (mu.mu ++ [p])[n]? = some q := m
    by_cases hl : n < h.length
    · rw [List.getElem?_append_left hl] at eo
      rw [List.getElem?_append_left (by rw [rh.len]; exact hl)] at m'
      exact RO.via rfl vi (rh.at_ n ob q eo m')
    · have hl' : n = h.length := by
        have : n < (h ++ [Ob.lst xs]).length := (List.getElem?_eq_some_iff.mp eo).1
        simp at this; omega
      subst hl'
      rw [List.getElem?_append_right (Nat.le_refl _)] at eo
      rw [List.getElem?_append_right (by rw [rh.len]; exact Nat.le_refl _), rh.len] at m'
      simp at eo m'
      subst eo m'
      exact ⟨vs, e, vi _ _ l⟩
  · obtain ⟨hq1, hq2⟩ := List.mem_filter.mp hq
    obtain ⟨a, u, eu⟩ := rh.av q hq1
    refine ⟨fun z => ?_, u, eu⟩
    rcases List.mem_append.mp z with z | z
    · exact a z
    · exact of_decide_eq_true hq2 (List.mem_singleton.mp z)
theorem Gr.lift {p : Addr} {H0 : Hp} {mu0 : Lv} (g : Gr mu0 H0 mu H) (hp : p ∉ mu0.av) (hn : H0 p = none) : Gr mu0 H0 ((mu.out1 p).add p) H := by
  have g1 := g.lit hp
  obtain ⟨nu, e, hu⟩ := g1.ex
  refine ⟨g1.av, ⟨nu ++ [p], ?_, fun q hq => ?_⟩, g1.st, g1.fr⟩
  · show mu.mu ++ [p] = _
    have e' : mu.mu = mu0.mu ++ nu := e
    rw [e', List.append_assoc]
  · rcases List.mem_append.mp hq with z | z
    · exact hu q z
    · rw [List.mem_singleton.mp z]; exact hn
theorem RE.wip (re : RE K fa mu H r s) : ∀ vs : List Nat, RE K fa mu H (wip r vs) (wipe s vs)
  | [] => re
  | v :: vs => by
    have ih := RE.wip re vs
    refine ⟨by simp [Fx.wip, wipe, ih.len], fun i d q => ?_⟩
    simp only [Fx.wip] at q
    simp only [wipe]
    by_cases hi : v = i
    · subst hi
      have hl : v < (Fx.wip r vs).length := by
        have := (List.getElem?_eq_some_iff.mp q).1
        simpa using this
      rw [List.getElem?_set_self hl] at q
      cases q
    · rw [List.getElem?_set_ne hi] at q ⊢
      exact ih.at_ i d q
end
section
variable {X : Cx} {pm : Pm} {W : WX} {elt tg iter : Expr} {me : EM} {mc : Ev → Hh → Res (Bool × Hh)} {mi : Ev → Hh → Res (Wk × Hh)} {pos : Pos}
abbrev W0 : WX := fun _ _ _ _ => False
theorem comp_read {g : Tg} {own : List Nat} {m : Bool} (ho : tgIn own g = true) (s : L2.St) (H : Hp) (Q : VK)
    (q : tE X.K pm W (fun r h => mi r h >>= fun w => if w.1.1.length ≤ sizeLine then nox (compD w.1.2 w.1.1 g (wip r own) mc me w.1.1 w.2) >>= fun x => mkL m x.1 x.2 else .fail) s H Q) :
    tLc (tIt X.K pm W mi) (tTg X.K pm g) (tB2 X.K pm W0 mc) (tE X.K pm W0 me) own s H Q := by
  obtain ⟨mu, r, h, re, rh, p⟩ := q
  refine ⟨mu, r, h, re, rh, p.bind.imp fun w mu1 H1 _ ⟨g1, h1, rh1, p1⟩ J sv => ?_⟩
  obtain ⟨all, src⟩ := w
  dsimp only at p1 sv
  split at p1
  rotate_left
  · exact p1.elim
  rename_i hz
  obtain ⟨⟨tot, h2⟩, et, pq⟩ := p1.nox2
  intro D hD
  have hDav : D ∉ mu1.av := fun z => by
    obtain ⟨_, u, e⟩ := rh1.av D z
    rw [hD] at e; cases e
  have re1 := (re.grow g1).wip own
  -- the word
  let Inv (i : Nat) (H : Hp) : Prop := i ≤ all.length ∧ ∃ M h' acc accV zs, Gr mu1 H1 M H ∧ D ∈ M.av ∧ RH X.K pm.fa M h' H ∧ H D = some (.lst accV) ∧ RlL X.K pm.fa M H acc accV ∧ acc.length ≤ i ∧
    compD src all g (wip r own) mc me (all.drop i) h' = .ok (zs, h2) ∧ acc ++ zs = tot
  refine ⟨fun i m H => m = all.length - i ∧ Inv i H, ⟨all.length, by simp, Nat.zero_le _, mu1.hid D, h1, [], [], tot, Gr.hid hD, List.mem_cons_self, rh1.hid hD, upd_same, .nil, Nat.zero_le _, et, rfl⟩, ?_⟩
  rintro i m H ⟨rfl, hi, M, h', acc, accV, zs, gM, hDM, rhM, eD, lM, hac, ec, etot⟩
  have hDn : D ∉ M.mu := (rhM.av D hDM).1
  by_cases hlt : i < all.length
  · -- a turn
    have hdrop : all.drop i = all[i] :: all.drop (i + 1) := List.drop_eq_getElem_cons hlt
    rw [hdrop] at ec
    simp only [compD] at ec
    split at ec
    rotate_left
    · cases ec
    rename_i hst
    split at ec
    · cases ec
    rename_i r1 er1
    obtain ⟨⟨b, h3⟩, eb, ec⟩ := bnd_inv ec
    have eb := nox_inv eb
    obtain ⟨hgo, hyl⟩ := (sv i M h' H gM rhM hst).1 all[i] (List.getElem?_eq_getElem hlt)
    refine .inr ⟨hgo, fun H' => Inv (i + 1) H', fun H' q => ⟨all.length - (i + 1), by omega, rfl, q⟩, fun x H' hy => ?_⟩
    obtain ⟨gy, rhy, rx⟩ := hyl x H' hy
    have eD' : H' D = some (.lst accV) := gy.st _ _ eD hDn
    refine ⟨M, wip r own, h', all[i], r1, (re1.grow gM).grow gy, rhy, rx, er1, fun s2 re2 k2 => ⟨?_, M, r1, h', re2, rhy, ?_⟩⟩
    · rw [k2 own ho]
      apply List.ext_getElem?
      intro j
      rw [wipe_at, wipe_at, wipe_length]
      by_cases hj : j ∈ own
      · rw [if_pos hj, if_pos hj]
      · rw [if_neg hj, if_neg hj]
    · rw [eb]
      intro M3 H3 g3 rh3
      have eD3 : H3 D = some (.lst accV) := g3.st _ _ eD' hDn
      have hDM3 : D ∈ M3.av := by
        obtain ⟨nv, e, _⟩ := g3.av
        rw [e]; exact List.mem_append_right _ hDM
      have hDn3 : D ∉ M3.mu := (rh3.av D hDM3).1
      dsimp only
      cases b with
      | true =>
        rw [if_pos rfl] at ec ⊢
        obtain ⟨⟨y, h4⟩, ey, ec2⟩ := bnd_inv ec
        have ey := nox_inv ey
        obtain ⟨⟨ys, h5⟩, eys, ec3⟩ := bnd_inv ec2
        refine ⟨M3, r1, h3, re2.grow g3, rh3, ?_⟩
        rw [ey]
        intro M4 H4 g4 rh4 yv ry
        have eD4 : H4 D = some (.lst accV) := g4.st _ _ eD3 hDn3
        have hDM4 : D ∈ M4.av := by
          obtain ⟨nv, e, _⟩ := g4.av
          rw [e]; exact List.mem_append_right _ hDM3
        have gall := ((gM.trans gy).trans g3).trans g4
        cases ec3
        refine ⟨accV, eD4, ?_, hlt, M4, h4, acc ++ [y], accV ++ [yv], ys, gall.hidW hD, hDM4, rh4.hidW hDM4, upd_same, RlL.hidW hDM4 upd_off _ _ (RlL.append (RlL.grow ((gy.trans g3).trans g4) _ _ lM) (.cons ry .nil)), by simp; omega, eys, by rw [← etot]; simp⟩
        rw [← lM.length]
        omega
      | false =>
        rw [if_neg Bool.false_ne_true] at ec ⊢
        exact ⟨hlt, M3, h3, acc, accV, zs, (gM.trans gy).trans g3, hDM3, rh3, eD3, RlL.grow (gy.trans g3) _ _ lM, by omega, ec, etot⟩
  · -- the end
    have hie : all.drop i = [] := List.drop_eq_nil_of_le (by omega)
    rw [hie] at ec
    simp only [compD] at ec
    split at ec
    rotate_left
    · cases ec
    rename_i hst
    cases ec
    rw [List.append_nil] at etot
    subst etot
    refine .inl ⟨(sv i M _ H gM rhM hst).2 (by omega), ?_⟩
    have lM' := RlL.lit (K := X.K) (fa := pm.fa) (H := H) (mu := M) (mu' := M.out1 D) (fun _ _ z => z) Lv.out1_sub _ _ lM
    unfold mkL at pq
    cases m with
    | false =>
      exact pq (M.out1 D) H (gM.lit hDav) rhM.lit _ (Rl.lst.mpr ⟨D, accV, rfl, Lv.out1_not hDn, eD, lM'⟩)
    | true =>
      refine pq ((M.out1 D).add D) H (gM.lift hDav hD) (rhM.lift hDM eD lM) _ (Rl.ref.mpr ⟨D, rfl, ?_⟩)
      show (M.mu ++ [D])[_]? = some D
      rw [← rhM.len, List.getElem?_append_right (Nat.le_refl _)]
      simp
theorem no_cond : PTs X [] (tB2 X.K pm W0 fun _ h => .ok (true, h)) := ⟨fun pins s σ H Q I ⟨mu, r, h, re, rh, p⟩ => pts_nil.run pins s σ H Q I (p.ok_inv rh)⟩
end
end Fx
set_option Elab.async false
set_option linter.all false
namespace Fx
open PySem PySem.Spec PyProof.Rows L2

/-! ## statements -/
def PstS (K : PySem.W.Frag) (pm : Pm) (W : WX) (D : Ends) (mu : Lv) (H : Hp) : Res Out → Prop
  | .ok (.nx r h) => ∀ mu' H' s', Gr mu H mu' H' → RH K pm.fa mu' h H' → RE K pm.fa mu' H' r s' → D.nx s' H'
  | .ok (.rt d h) => ∀ mu' H' v, Gr mu H mu' H' → RH K pm.fa mu' h H' → Rl K pm.fa mu' H' d v → D.rt v H'
  | .ok (.bk r h) => ∀ mu' H' s', Gr mu H mu' H' → RH K pm.fa mu' h H' → RE K pm.fa mu' H' r s' → D.bk s' H'
  | .ok (.ct r h) => ∀ mu' H' s', Gr mu H mu' H' → RH K pm.fa mu' h H' → RE K pm.fa mu' H' r s' → D.ct s' H'
  | .ok (.ex c r h) => ∀ mu' H' s', Gr mu H mu' H' → RH K pm.fa mu' h H' → RE K pm.fa mu' H' r s' → W (.ref (pm.ca c)) none s' H'
  | .exc _ _ => False
  | .fail => False
abbrev SM := Ev → Hh → Res Out
def tSm (K : PySem.W.Frag) (pm : Pm) (W : WX) (m : SM) : TS := fun D s H => ∃ mu r h, RE K pm.fa mu H r s ∧ RH K pm.fa mu h H ∧ PstS K pm W D mu H (m r h)
section
variable {K : PySem.W.Frag} {pm : Pm} {W : WX} {mu mu' : Lv} {H H' : Hp} {h h' : Hh} {s : L2.St} {r : Ev} {D : Ends}
theorem PstS.grow {x : Res Out} (p : PstS K pm W D mu H x) (g : Gr mu H mu' H') : PstS K pm W D mu' H' x := by
  cases x with
  | ok o =>
    cases o with
    | nx r h => exact fun m2 H2 s2 g2 a b => p m2 H2 s2 (g.trans g2) a b
    | rt r h => exact fun m2 H2 s2 g2 a b => p m2 H2 s2 (g.trans g2) a b
    | bk r h => exact fun m2 H2 s2 g2 a b => p m2 H2 s2 (g.trans g2) a b
    | ct r h => exact fun m2 H2 s2 g2 a b => p m2 H2 s2 (g.trans g2) a b
    | ex c r h => exact fun m2 H2 s2 g2 a b => p m2 H2 s2 (g.trans g2) a b
  | exc c h => exact p
  | fail => exact p
theorem PstS.nx_inv (p : PstS K pm W D mu H (.ok (.nx r h))) (rh : RH K pm.fa mu h H) (re : RE K pm.fa mu H r s) : D.nx s H := p mu H s Gr.refl rh re
theorem lft_bind {α : Type} {x : Res (α × Hh)} {f : α × Hh → Res Out} (p : PstS K pm W D mu H (lft r x f)) (re : RE K pm.fa mu H r s) :
    Pst K pm W mu H s (fun a mu1 H1 => Gr mu H mu1 H1 ∧ ∃ h1, RH K pm.fa mu1 h1 H1 ∧ PstS K pm W D mu1 H1 (f (a, h1))) x := by
  cases x with
  | ok a => obtain ⟨a, h⟩ := a; exact fun mu1 H1 g rh => ⟨g, h, rh, p.grow g⟩
  | exc c h => exact fun mu1 H1 g rh => p mu1 H1 s g rh (re.grow g)
  | fail => exact p
/-- a statement, then the others -/
theorem PstS.bind {x : Res Out} {f : Ev → Hh → Res Out} (p : PstS K pm W D mu H (x >>= fun o => match o with | .nx r1 h1 => f r1 h1 | o => .ok o)) :
    PstS K pm W { D with nx := fun s H => tSm K pm W f D s H } mu H x := by
  cases x with
  | ok o =>
    cases o with
    | nx r h => exact fun m2 H2 s2 g2 a b => ⟨m2, r, h, b, a, PstS.grow (x := f r h) p g2⟩
    | rt r h => exact p
    | bk r h => exact p
    | ct r h => exact p
    | ex c r h => exact p
  | exc c h => exact p
  | fail => exact p
/-- a loop's body -/
theorem PstS.turn {x : Res Out} {f : Ev → Hh → Res Out} {N : L2.St → Hp → Prop} (p : PstS K pm W D mu H (x >>= fun o => match o with | .nx r2 h2 => f r2 h2 | .ct r2 h2 => f r2 h2 | .bk r2 h2 => .ok (.nx r2 h2) | o => .ok o))
    (k : ∀ mu' H' s' r h, Gr mu H mu' H' → RE K pm.fa mu' H' r s' → RH K pm.fa mu' h H' → PstS K pm W D mu' H' (f r h) → N s' H') :
    PstS K pm W { D with nx := N, ct := N, bk := D.nx } mu H x := by
  cases x with
  | ok o =>
    cases o with
    | nx r h => exact fun m2 H2 s2 g2 a b => k m2 H2 s2 r h g2 b a (PstS.grow (x := f r h) p g2)
    | ct r h => exact fun m2 H2 s2 g2 a b => k m2 H2 s2 r h g2 b a (PstS.grow (x := f r h) p g2)
    | rt r h => exact p
    | bk r h => exact p
    | ex c r h => exact p
  | exc c h => exact p
  | fail => exact p
end
section
variable {X : Cx} {pm : Pm} {W : WX} {e tg : Expr} {me : EM} {pos : Pos}
theorem st_asg {g : Tg} (he : PE X e (tE X.K pm W me)) (hg : PG X tg (tTg X.K pm g)) (hs : swapsWithSole [tg] e pos.line X.env = pure false) (hw : swappedStores [tg] e X.env = pure none)
    (h1 : (assignEach [tg] X.env).map (·.2) = [assign tg X.env]) :
    PS X (.Assign [tg] e pos) (tSm X.K pm W fun r h => lft r (me r h) fun x => (match tgD g x.1 r with | some r1 => .ok (.nx r1 x.2) | none => .fail)) := by
  refine PS.mono (ps_asg he hg hs hw h1) fun D s H ⟨mu, r, h, re, rh, p⟩ => ⟨mu, r, h, re, rh, (lft_bind p re).imp fun d mu1 H1 _ ⟨g1, h1, rh1, p1⟩ v rv => ?_⟩
  dsimp only at p1
  split at p1
  · rename_i r1 e1
    exact ⟨mu1, r, h1, d, r1, re.grow g1, rh1, rv, e1, fun s' re' _ => p1.nx_inv rh1 re'⟩
  · exact p1.elim
theorem st_asgN {i : Nat} {x : Str} {p' : Pos} (he : PE X e (tE X.K pm W me)) (hN : X.N.Nodup) (hi : X.N[i]? = some x) (hx : Loc X.env.scope x) (hf : X.fn x = true ∨ X.env.scope.names.lookup x = some .local) (hs : swapsWith e (some (.Name x p')) pos.line X.env = pure false) :
    PS X (.Assign [.Name x p'] e pos) (tSm X.K pm W fun r h => lft r (me r h) fun x => (match tgD (.name i) x.1 r with | some r1 => .ok (.nx r1 x.2) | none => .fail)) := by
  refine PS.mono (ps_set hN hi hx he hs hf) fun D s H ⟨mu, r, h, re, rh, p⟩ => ⟨mu, r, h, re, rh, (lft_bind p re).imp fun d mu1 H1 _ ⟨g1, h1, rh1, p1⟩ v rv => ?_⟩
  simp only [tgD] at p1
  exact p1.nx_inv rh1 ((re.grow g1).set rv)
theorem st_asgL {i : Nat} {t : TE} {st : Stmt} (hp : PS X st (tAsg t (gName i))) (k : ∀ s H Q, tE X.K pm W me s H Q → t s H Q) :
    PS X st (tSm X.K pm W fun r h => lft r (me r h) fun x => .ok (.nx (r.set i (some x.1)) x.2)) := by
  refine PS.mono hp fun D s H ⟨mu, r, h, re, rh, p⟩ => k s H _ ⟨mu, r, h, re, rh, (lft_bind p re).imp fun d mu1 H1 _ ⟨g1, h1, rh1, p1⟩ v rv => ?_⟩
  exact p1.nx_inv rh1 ((re.grow g1).set rv)
theorem st_par2 {i j : Nat} {m : Ev → Hh → Res (List D × Hh)} {ta : TA} {st : Stmt} (hp : PS X st (tPar i j ta)) (k : ∀ s H Q, tAs X.K pm W m s H Q → ta s H Q) :
    PS X st (tSm X.K pm W fun r h => lft r (m r h) fun x => (match setAll [i, j] x.1 r with | some r1 => .ok (.nx r1 x.2) | none => .fail)) := by
  refine PS.mono hp fun D s H ⟨mu, r, h, re, rh, p⟩ => k s H _ ⟨mu, r, h, re, rh, (lft_bind p re).imp fun ds mu1 H1 _ ⟨g1, h1, rh1, p1⟩ vs rl => ?_⟩
  match ds, rl, p1 with
  | [], _, p1 => exact p1.elim
  | [_], _, p1 => exact p1.elim
  | [a, b], rl, p1 =>
    obtain ⟨v, w, rfl, ra, rb⟩ := rl.two_inv
    exact ⟨v, w, rfl, p1.nx_inv rh1 (((re.grow g1).set ra).set rb)⟩
  | _ :: _ :: _ :: _, _, p1 => exact p1.elim
theorem st_par3 {i j l : Nat} {m : Ev → Hh → Res (List D × Hh)} {ta : TA} {st : Stmt} (hp : PS X st (tPar3 i j l ta)) (k : ∀ s H Q, tAs X.K pm W m s H Q → ta s H Q) :
    PS X st (tSm X.K pm W fun r h => lft r (m r h) fun x => (match setAll [i, j, l] x.1 r with | some r1 => .ok (.nx r1 x.2) | none => .fail)) := by
  refine PS.mono hp fun D s H ⟨mu, r, h, re, rh, p⟩ => k s H _ ⟨mu, r, h, re, rh, (lft_bind p re).imp fun ds mu1 H1 _ ⟨g1, h1, rh1, p1⟩ vs rl => ?_⟩
  match ds, rl, p1 with
  | [], _, p1 => exact p1.elim
  | [_], _, p1 => exact p1.elim
  | [_, _], _, p1 => exact p1.elim
  | [a, b, c], rl, p1 =>
    obtain ⟨v, ws, rfl, ra, rl⟩ := rl.inv
    obtain ⟨w, u, rfl, rb, rc⟩ := rl.two_inv
    exact ⟨v, w, u, rfl, p1.nx_inv rh1 ((((re.grow g1).set ra).set rb).set rc)⟩
  | _ :: _ :: _ :: _ :: _, _, p1 => exact p1.elim
theorem setix_ok : PSet X (fun o i v H Q => ∃ mu h a b c h', RH X.K pm.fa mu h H ∧ Rl X.K pm.fa mu H a o ∧ Rl X.K pm.fa mu H b i ∧ Rl X.K pm.fa mu H c v ∧ setixD a b c h = .ok h' ∧
    ∀ H', Gr mu H mu H' → RH X.K pm.fa mu h' H' → Q H') := by
  intro pins s σ H o i v ov iv u Q I ro ri rv q
  refine set_list pins s σ H o i v ov iv u Q I ro ri rv ?_
  obtain ⟨mu, h, a, b, c, h', rh, ra, rb, rc, e, q⟩ := q
  unfold setixD at e
  split at e
  · rename_i n
    split at e
    · rename_i xs z
      split at e
      · rename_i k
        split at e
        · rename_i j ej
          cases e
          obtain ⟨p, vs, rfl, m, ep, l⟩ := live rh ra z
          obtain ⟨g, w⟩ := wr_use rh m (l.set j rc)
          exact ⟨p, vs, k, j, rfl, Rl.int.mp rb, ep, by rw [← l.length]; exact ej, q _ g w⟩
        · cases e
      · cases e
    · cases e
  · cases e
theorem st_setix {o i : Expr} {mo mi : EM} {p' : Pos} (he : PE X e (tE X.K pm W me)) (ho : PE X o (tE X.K pm W mo)) (hi : PE X i (tE X.K pm W mi)) (hs : swapsWithSole [.Subscript o i p'] e pos.line X.env = pure false)
    (hw : swappedStores [.Subscript o i p'] e X.env = pure none) (h1 : (assignEach [.Subscript o i p'] X.env).map (·.2) = [assign (.Subscript o i p') X.env])
    (ha : ∀ v, assign (.Subscript o i p') X.env v = (do
      let ov ← holding [v] (eval o X.env)
      let iv ← holding [v, ov] (eval i X.env)
      standAt p'
      holding [v, ov, iv] (setItem ov iv v)
      release [v, ov, iv] [])) :
    PS X (.Assign [.Subscript o i p'] e pos) (tSm X.K pm W fun r h => lft r (me r h) fun x => lft r (mo r x.2) fun y => lft r (mi r y.2) fun z => nox (setixD y.1 z.1 x.1 z.2) >>= fun h1 => .ok (.nx r h1)) := by
  refine PS.mono (ps_asg he (pg_sub ho hi (setix_ok (pm := pm)) ha) hs hw h1) fun D s H ⟨mu, r, h, re, rh, p⟩ => ⟨mu, r, h, re, rh, (lft_bind p re).imp fun d mu1 H1 _ ⟨g1, h1, rh1, p1⟩ v rv => ?_⟩
  have re1 := re.grow g1
  refine ⟨mu1, r, h1, re1, rh1, (lft_bind p1 re1).imp fun d2 mu2 H2 _ ⟨g2, h2, rh2, p2⟩ v2 rv2 => ?_⟩
  have re2 := re1.grow g2
  refine ⟨mu2, r, h2, re2, rh2, (lft_bind p2 re2).imp fun d3 mu3 H3 _ ⟨g3, h3, rh3, p3⟩ v3 rv3 => ?_⟩
  cases es : setixD d2 d3 d h3 with
  | ok h4 =>
    dsimp only at p3
    rw [es] at p3
    exact ⟨mu3, h3, d2, d3, d, h4, rh3, Rl.grow g3 _ _ rv2, rv3, Rl.grow (g2.trans g3) _ _ rv, es, fun H' g rh' => PstS.nx_inv (p3.grow g) rh' ((re2.grow g3).grow g)⟩
  | exc c h4 => dsimp only at p3; rw [es] at p3; exact p3.elim
  | fail => dsimp only at p3; rw [es] at p3; exact p3.elim
theorem st_expr (he : PE X e (tE X.K pm W me)) (hs : swapsWith e none pos.line X.env = pure false) : PS X (.Expr e pos) (tSm X.K pm W fun r h => lft r (me r h) fun x => .ok (.nx r x.2)) :=
  PS.mono (ps_expr he hs) fun D s H ⟨mu, r, h, re, rh, p⟩ => ⟨mu, r, h, re, rh, (lft_bind p re).imp fun d mu1 H1 _ ⟨g1, h1, rh1, p1⟩ v rv => p1.nx_inv rh1 (re.grow g1)⟩
theorem st_ret (he : PE X e (tE X.K pm W me)) : PS X (.Return (some e) pos) (tSm X.K pm W fun r h => lft r (me r h) fun x => .ok (.rt x.1 x.2)) :=
  PS.mono (ps_ret he) fun D s H ⟨mu, r, h, re, rh, p⟩ => ⟨mu, r, h, re, rh, (lft_bind p re).imp fun d mu1 H1 _ ⟨g1, h1, rh1, p1⟩ v rv => p1 mu1 H1 v Gr.refl rh1 rv⟩
theorem st_retN : PS X (.Return none pos) (tSm X.K pm W fun _ h => .ok (.rt .non h)) :=
  PS.mono ps_retN fun D s H ⟨mu, r, h, re, rh, p⟩ => p mu H .non Gr.refl rh (Rl.non.mpr rfl)
theorem st_if {t : Expr} {a b : List Stmt} {mt : Ev → Hh → Res (Bool × Hh)} {ma mb : SM} (ht : PT X t (tB2 X.K pm W mt)) (ha : PSs X a (tSm X.K pm W ma)) (hb : PSs X b (tSm X.K pm W mb)) :
    PS X (.If t a b pos) (tSm X.K pm W fun r h => lft r (mt r h) fun c => if c.1 = true then ma r c.2 else mb r c.2) := by
  refine PS.mono (ps_if ht ha hb) fun D s H ⟨mu, r, h, re, rh, p⟩ => ⟨mu, r, h, re, rh, (lft_bind p re).imp fun c mu1 H1 _ ⟨g1, h1, rh1, p1⟩ => ?_⟩
  cases c with
  | true => exact ⟨mu1, r, h1, re.grow g1, rh1, p1⟩
  | false => exact ⟨mu1, r, h1, re.grow g1, rh1, p1⟩
theorem st_while {t : Expr} {b : List Stmt} {mt : Ev → Hh → Res (Bool × Hh)} {mb : SM} (hp : PassesOwn (model X.prog X.w) X.A X.env X.xe) (ht : PT X t (tB2 X.K pm W mt)) (hb : PSs X b (tSm X.K pm W mb)) :
    PS X (.While t b [] pos) (tSm X.K pm W (whileD mt mb)) := by
  refine PS.mono (ps_while hp ht hb) fun D s H ⟨mu, r, h, re, rh, p⟩ => ?_
  have hn : ∃ n, PstS X.K pm W D mu H (whileN mt mb n r h) := by
    unfold whileD at p
    split at p
    · exact ⟨_, p⟩
    · exact p.elim
  obtain ⟨n, pn⟩ := hn
  refine ⟨fun m σ H' => ∃ mu' r' h', RE X.K pm.fa mu' H' r' σ ∧ RH X.K pm.fa mu' h' H' ∧ PstS X.K pm W D mu' H' (whileN mt mb m r' h'), ⟨n, mu, r, h, re, rh, pn⟩, ?_⟩
  rintro m σ H' ⟨mu', r', h', re', rh', p'⟩
  cases m with
  | zero => exact p'.elim
  | succ m =>
    refine ⟨mu', r', h', re', rh', (lft_bind p' re').imp fun c mu1 H1 _ ⟨g1, h1, rh1, p1⟩ => ?_⟩
    cases c with
    | true => exact ⟨fun σ2 H2 => ∃ mu' r' h', RE X.K pm.fa mu' H2 r' σ2 ∧ RH X.K pm.fa mu' h' H2 ∧ PstS X.K pm W D mu' H2 (whileN mt mb m r' h'), fun σ2 H2 q => ⟨m, Nat.lt_succ_self m, q⟩, mu1, r', h1, re'.grow g1, rh1,
        PstS.turn p1 fun mu2 H2 s2 r2 h2 g2 re2 rh2 q2 => ⟨mu2, r2, h2, re2, rh2, q2⟩⟩
    | false => exact p1.nx_inv rh1 (re'.grow g1)
theorem st_for {iter : Expr} {b : List Stmt} {g : Tg} {mi : Ev → Hh → Res (Wk × Hh)} {mb : SM} (hp : PassesOwn (model X.prog X.w) X.A X.env X.xe) (hc : X.calm = true) (hi : PI X tg iter (tIt X.K pm W mi)) (hg : PG X tg (tTg X.K pm g)) (hb : PSs X b (tSm X.K pm W mb))
    (hs : ∀ x, foldedSetIterable iter X.env x = pure x) :
    PS X (.For tg iter b [] pos) (tSm X.K pm W fun r h => lft r (mi r h) fun w => forD w.1.2 w.1.1 g mb w.1.1 r w.2) := by
  refine PS.mono (ps_for hp hc hi hg hb hs) fun D s H ⟨mu, r, h, re, rh, p⟩ => ⟨mu, r, h, re, rh, (lft_bind p re).imp fun w mu1 H1 _ ⟨g1, h1, rh1, p1⟩ J sv => ?_⟩
  obtain ⟨all, src⟩ := w
  dsimp only at p1 sv
  let Inv (i : Nat) (σ : L2.St) (H' : Hp) : Prop := i ≤ all.length ∧ ∃ mu' r' h', Gr mu1 H1 mu' H' ∧ RE X.K pm.fa mu' H' r' σ ∧ RH X.K pm.fa mu' h' H' ∧ PstS X.K pm W D mu' H' (forD src all g mb (all.drop i) r' h')
  refine ⟨fun i m σ H' => m = all.length - i ∧ Inv i σ H', ⟨all.length, by simp, Nat.zero_le _, mu1, r, h1, Gr.refl, re.grow g1, rh1, p1⟩, ?_⟩
  rintro i m σ H' ⟨rfl, hi, mu', r', h', g', re', rh', p'⟩
  by_cases hlt : i < all.length
  · have hdrop : all.drop i = all[i] :: all.drop (i + 1) := List.drop_eq_getElem_cons hlt
    rw [hdrop] at p'
    simp only [forD] at p'
    split at p'
    rotate_left
    · exact p'.elim
    rename_i hst
    split at p'
    · exact p'.elim
    rename_i r1 er1
    obtain ⟨hgo, hyl⟩ := (sv i mu' h' H' g' rh' hst).1 all[i] (List.getElem?_eq_getElem hlt)
    refine .inr ⟨hgo, Inv (i + 1), fun σ2 H2 q => ⟨all.length - (i + 1), by omega, rfl, q⟩, fun x H2 hy => ?_⟩
    obtain ⟨gy, rhy, rx⟩ := hyl x H2 hy
    refine ⟨mu', r', h', all[i], r1, re'.grow gy, rhy, rx, er1, fun s2 re2 _ => ⟨mu', r1, h', re2, rhy, ?_⟩⟩
    have p2 := p'.grow gy
    refine PstS.turn (f := forD src all g mb (all.drop (i + 1))) ?_ fun mu3 H3 s3 r3 h3 g3 re3 rh3 q3 => ⟨hlt, mu3, r3, h3, (g'.trans gy).trans g3, re3, rh3, q3⟩
    exact p2
  · have hie : all.drop i = [] := List.drop_eq_nil_of_le (by omega)
    rw [hie] at p'
    simp only [forD] at p'
    split at p'
    rotate_left
    · exact p'.elim
    rename_i hst
    exact .inl ⟨(sv i mu' h' H' g' rh' hst).2 (by omega), p'.nx_inv rh' re'⟩
theorem st_pass : PS X (.Pass pos) (tSm X.K pm W fun r h => .ok (.nx r h)) := PS.mono ps_pass fun D s H ⟨mu, r, h, re, rh, p⟩ => p.nx_inv rh re
theorem st_brk : PS X (.Break pos) (tSm X.K pm W fun r h => .ok (.bk r h)) := PS.mono ps_break fun D s H ⟨mu, r, h, re, rh, p⟩ => p mu H s Gr.refl rh re
theorem st_cont : PS X (.Continue pos) (tSm X.K pm W fun r h => .ok (.ct r h)) := PS.mono ps_continue fun D s H ⟨mu, r, h, re, rh, p⟩ => p mu H s Gr.refl rh re
theorem st_raisN {c : Nat} (hW : ∀ a b s H, ¬ W a b s H) {st : Stmt} : PS X st (tSm X.K pm W fun r h => .ok (.ex c r h)) := PS.mono ps_never fun D s H ⟨mu, r, h, re, rh, p⟩ => hW _ _ _ _ (p mu H s Gr.refl rh re)
theorem st_rais {c : Nat} (hc : X.calm = true) (tk : Takes X W) (pmk : PMk X e (fun _ H Q => Q (.ref (pm.ca c)) none H)) : PS X (.Raise (some e) none pos) (tSm X.K pm W fun r h => .ok (.ex c r h)) :=
  PS.mono (ps_raise hc tk pmk) fun D s H ⟨mu, r, h, re, rh, p⟩ => p mu H s Gr.refl rh re
theorem st_nil : PSs X [] (tSm X.K pm W fun r h => .ok (.nx r h)) := PSs.mono pss_nil fun D s H ⟨mu, r, h, re, rh, p⟩ => p.nx_inv rh re
theorem st_cons {a : Stmt} {rest : List Stmt} {ma mr : SM} (ha : PS X a (tSm X.K pm W ma)) (hr : PSs X rest (tSm X.K pm W mr)) :
    PSs X (a :: rest) (tSm X.K pm W fun r h => ma r h >>= fun o => match o with | .nx r1 h1 => mr r1 h1 | o => .ok o) :=
  PSs.mono (pss_cons ha hr) fun D s H ⟨mu, r, h, re, rh, p⟩ => ⟨mu, r, h, re, rh, PstS.bind p⟩
end
end Fx
set_option Elab.async false
set_option linter.all false
namespace Fx
open PySem PySem.Spec PyProof.Rows L2

/-! ## exceptions as values -/
def rIsX (K : PySem.W.Frag) (D : Addr) : List V → Hp → VK → Prop := fun xs H Q => ∃ (a : Addr) (c : V) (cv : Value) (b : Bool), xs = [.ref a, c] ∧ H a = some (ExI D a) ∧ (∀ u, RelV c u → u = cv) ∧ PySem.W.kitOne K (.ref D) cv = some b ∧ Q (.bl b) H
theorem call_isX {X : Cx} {D : Addr} (C : ExcC X.K D) : CallR X (.builtin "isinstance") (rIsX X.K D) := by
  intro pins s σ H xs us Q I r h
  obtain ⟨a, c, cv, b, rfl, ha, hcv, e, q⟩ := h
  cases r with
  | cons rx rr =>
    cases rr with
    | cons rt rr =>
      cases rr
      cases rx
      have ec := hcv _ rt
      subst ec
      obtain ⟨⟨oe, vs, hget, hz, hv⟩, _⟩ := I.hok a _ ha
      have J : PySem.W.InstAt s.heap a oe D none := by
        obtain ⟨oc, od, oda, osl⟩ := oe
        obtain ⟨h1, h2⟩ := hz
        dsimp only at h1 h2 hv
        subst h1 h2 hv
        exact ⟨hget, rfl, rfl, trivial⟩
      exact PySem.W.kia_one (PySem.W.handS_kitx_exc C.hg C.hk C.hs C.hd C.ha C.hn C.ht C.hm) I.kIn J e (fun z => nomatch z) fun tk => ⟨.bl b, H, I.kept (t' := tk) fun _ _ z => z, rfl, q⟩
section
variable {X : Cx} {pins : List (Addr × Obj)} {σ : L2.St} {H : Hp} {s : Shared}
/-- an exception that a suite held is a value from then on -/
theorem Inv.track {a C : Addr} {oe : Obj} {vs : Array Value} (J : Inv X ((a, oe) :: pins) σ H s) (hz : Zc (.ref C) none oe) (hd : oe.data = .fields vs) (h0 : X.s_0.heap.get? a = none) (hp : ∀ p ∈ X.pn ++ pins, p.1 ≠ a) : Inv X pins σ (upd H a (ExI C a)) s := by
  obtain ⟨e, na, nL, nF, nc⟩ := J.pin (a, oe) (List.mem_append_right _ List.mem_cons_self)
  dsimp only at e na nL nF nc
  refine ⟨J.ok, J.os, J.bare, ⟨J.base.keep, J.base.slot, fun b o hb hn hx => ?_, J.base.there, fun b xs hb => ?_, fun b o u hb => ?_, fun b ps hb => ?_⟩, J.loc, J.cell, ?_, fun x c hc => ?_, fun p hm => ?_, fun b o hb => ?_, J.len⟩
  · have : b ≠ a := fun z => by rw [z, h0] at hb; cases hb
    rw [upd_ne this]
    exact J.base.free b o hb hn hx
  · have h1 := J.base.tups b xs hb
    rw [upd_ne (ne_of_none h1 na)]
    exact h1
  · have h1 := J.base.frzs b o u hb
    rw [upd_ne (ne_of_none h1 na)]
    exact h1
  · obtain ⟨m, h1⟩ := J.base.tbls b ps hb
    exact ⟨m, by rw [upd_ne (ne_of_none h1 na)]; exact h1⟩
  · rw [upd_ne (Ne.symm nL)]; exact J.free
  · have : c ≠ a := fun z => by
      obtain ⟨v, hv⟩ := J.cell x c hc
      rw [z] at hv
      obtain ⟨o, ho, hd2⟩ := hv
      rw [e] at ho
      cases ho
      exact nc _ (by first | exact hd2.2 | exact hd2)
    rw [upd_ne this]
    exact J.freeC x c hc
  · have hm' : p ∈ X.pn ++ ((a, oe) :: pins) := by
      rcases List.mem_append.mp hm with z | z
      · exact List.mem_append_left _ z
      · exact List.mem_append_right _ (List.mem_cons_of_mem _ z)
    obtain ⟨p1, p2, p3, p4, p5⟩ := J.pin p hm'
    exact ⟨p1, by rw [upd_ne (hp p hm)]; exact p2, p3, p4, p5⟩
  · by_cases hba : b = a
    · subst hba
      rw [upd_same] at hb
      cases hb
      exact ⟨⟨oe, vs, e, hz, hd⟩, ⟨oe, e⟩, fun h1 h2 ⟨o1, v1, e1, z1, d1⟩ k => ⟨o1, v1, k o1 e1, z1, d1⟩⟩
    · rw [upd_ne hba] at hb
      exact (J.hok b o hb).stay (fun c v _ q => q) (fun c q => by rw [upd_ne (ne_of_none q na)]; exact q) fun c xs q => by rw [upd_ne (ne_of_none q na)]; exact q
end
/-- what 'except x as n: y = n' wishes: slot j is n's, slot i is y's -/
def wKeep (K : PySem.W.Frag) (c : Addr) (i j : Nat) (Wout : WX) (D : Ends) : WX := fun cls d σ H =>
  ∃ b, PySem.W.exmOne K cls (.ref c) = some b ∧ (b = true → d = none ∧ ∃ C, cls = .ref C ∧ ∀ a, H a = none → D.nx (((σ.set j (some (.ref a))).set i (some (.ref a))).set j none) (upd H a (ExI C a))) ∧ (b = false → Wout cls d σ H)
section
variable {X : Cx} {x n y : Str} {c : Addr} {i j : Nat} {body : List Stmt} {np pos pos' yp yp2 ap : Pos} {tb : WX → TS} {Wout : WX}
theorem ps_try_keep (hs : X.stack = X.env :: X.outer) (hf : X.env.frame = some X.env.locals) (hex : X.ex = []) (hN : X.N.Nodup) (hj : X.N[j]? = some n) (hi : X.N[i]? = some y) (hln : X.env.kindOf n = some .local) (hly : X.env.kindOf y = some .local) (hc : Names X x (.ref c)) (tk : Takes X Wout)
    (hdb : (n == ("__debug__" : Str)) = false) (hcd : (n == ("__classdict__" : Str)) = false) (hij : i ≠ j)
    (hb : ∀ (W : WX) (pn : List (Addr × Obj)) (xe : Value → Shared → Prop), Takes (X.tr pn xe) W → PassesOwn (model X.prog X.w) X.A X.env xe → PSs (X.tr pn xe) body (tb W)) :
    PS X (.Try body [.ExceptHandler (some (.Name x np)) (some n) [.Assign [.Name y yp] (.Name n yp2) ap] pos'] [] [] pos) (fun D σ H => tb (wKeep X.K c i j Wout D) D σ H) := by
  refine ⟨fun pins s σ H D I h => ?_⟩
  have ok := I.ok
  have hfr : X.A.frames = some (X.env :: X.outer) := by rw [ok.frames, hs]
  have hloc : Loc X.env.scope n := .inl hln
  refine wpAny_Try_except ?_
  refine wpAny_mono ((hb (wKeep X.K c i j Wout D) (X.pn ++ pins) (fun e s₁ => wpAny (model X.prog X.w) X.A (noteFrame e X.env) (fun _ s₂ => wpAny (model X.prog X.w) X.A (setFlight e none) (fun _ s₃ =>
    wpAny (model X.prog X.w) X.A (handleBy e X.env [.ExceptHandler (some (.Name x np)) (some n) [.Assign [.Name y yp] (.Name n yp2) ap] pos']) (SP X pins D) X.xe s₃) X.xe s₂) X.xe s₁) (fun u s' xx => ?_) PassesOwn.looking).run [] s σ H D (I.toTry _) h) (fun f s1 hsp => ?_) (fun e s1 he => he)
  · -- the catch
    obtain ⟨a, B, sI, pins', σ', H', cls, d, rfl, J', nb, up, sky, na, os, ag, b, hb1, hyes, hno⟩ := xx
    have J : Inv X pins σ' H' sI := J'.ofTry ok
    have sky' : Sky B (X.env :: X.outer) a (Zc cls d) X.env.locals s'.heap := by rw [← hs]; exact sky
    show wpAny (model X.prog X.w) X.A (noteFrame (.ref a) X.env) _ _ _
    refine Sky.land Zc.steady hfr hf sky' fun h3 fl3 up3 => ?_
    have J3 : Inv X pins σ' H' { s' with heap := h3 } := J.landed nb fl3.1 (up.trans up3) os ag
    obtain ⟨oe3, vs3, he3, hz3, hd3⟩ := fl3.there
    have notFr : ∀ {h : Heap} {o : Obj} {vs : Array Value}, h.FunFrames B (X.env :: X.outer) → h.get? a = some o → o.data = .fields vs → a ∉ frs (X.env :: X.outer) := fun {h o vs} ff e dd hm => by
      obtain ⟨_, o', e', hnf⟩ := ff.mem hm
      rw [e] at e'; cases e'
      exact hnf _ dd
    have nfr := notFr fl3.2.2.1 he3 hd3
    have nL : a ≠ X.env.locals := fun z => nfr (List.mem_filterMap.mpr ⟨X.env, List.mem_cons_self, by rw [hf, z]⟩)
    have nF : a ∉ X.fs := fun hm => by
      obtain ⟨e, he, q⟩ := List.mem_filterMap.mp hm
      exact nfr (List.mem_filterMap.mpr ⟨e, List.mem_cons_of_mem _ he, q⟩)
    have aB : B.get? a = none := fl3.2.1
    have h0 : X.s_0.heap.get? a = none := by
      cases q : X.s_0.heap.get? a with
      | none => rfl
      | some o =>
        obtain ⟨o', e'⟩ := J.base.there a o q (by rw [hex]; simp)
        have := nb a o' e' (by rw [hs]; exact nfr)
        rw [aB] at this; cases this
    have hpn : ∀ p ∈ X.pn ++ pins, p.1 ≠ a := fun p hp z => by
      obtain ⟨p1, _, p3, p4, _⟩ := J.pin p hp
      have hnf : p.1 ∉ frs X.stack := fun hm => by
        rw [z, hs] at hm
        exact nfr hm
      have := nb p.1 p.2 p1 hnf
      rw [z, aB] at this; cases this
    have S3 := J3.suite he3 hd3 na nL nF
    refine wpAny_handleBy_cons (codeAny_handlers_test ?_) (by intro q; cases q)
    have LT : PySem.W.Looks (model X.prog X.w) h3 (typeOf (.ref a)) cls := fun A Q E s k q => wpAny_typeOf_ref (k _ _ he3) (by rw [hz3.1]; exact q)
    have LM := PySem.W.exm_one (M := model X.prog X.w) (J3.kIn) LT hb1
    have test : ∀ {Q : Value → Shared → Prop} {E : Value → Shared → Prop}, Q (.ref c) { s' with heap := h3 } → wpAny (model X.prog X.w) (X.A.mark (some (.ref a))) (eval (.Name x np) X.env) Q E { s' with heap := h3 } := fun {Q E} q => by
      obtain ⟨hg, hdbg, hm | ⟨hm, hv, hnn⟩⟩ := hc
      · exact ld_glob (X := X.suite a ((a, oe3) :: (X.pn ++ pins))) S3 hg hm q hdbg
      · exact ld_blt (X := X.suite a ((a, oe3) :: (X.pn ++ pins))) S3 hg hm hv q hnn hdbg
    refine test (LM.here ?_)
    cases b with
    | true =>
      obtain ⟨rfl, C, rfl, hnx⟩ := hyes rfl
      refine codeAny_handlers_suite_as ?_
      refine HandSPX.lands_againZ fl3 fun h4 fl4 up4 => ?_
      have J4 : Inv X pins σ' H' { s' with heap := h4 } := J.landed nb fl4.1 ((up.trans up3).trans up4) os ag
      obtain ⟨oe4, vs4, he4, hz4, hd4⟩ := fl4.there
      have S4 := J4.suite he4 hd4 na nL nF
      refine store_ok (X := X.suite a ((a, oe4) :: (X.pn ++ pins))) (v := .ref a) S4 hN hj hloc rfl (fun s5 S5 => ?_) (.inr hln)
      have hsu : PSs (X.suite a ((a, oe4) :: (X.pn ++ pins))) [.Assign [.Name y yp] (.Name n yp2) ap] (tAsg (tVar j) (gName i)) := pss_one (ps_set (X := X.suite a ((a, oe4) :: (X.pn ++ pins))) hN hi (.inl hly) (pe_var (X := X.suite a ((a, oe4) :: (X.pn ++ pins))) hj (.inl hln) hdb hcd) rfl (.inr hly))
      have hlen : j < (σ'.set j (some (V.ref a))).length := by
        have := S5.len
        rw [this]
        exact (List.getElem?_eq_some_iff.mp hj).1
      refine wpAny_mono (hsu.run [] s5 _ H' { nx := fun σ2 H2 => σ2 = (σ'.set j (some (.ref a))).set i (some (.ref a)) ∧ H2 = H', rt := fun _ _ => False, bk := fun _ _ => False, ct := fun _ _ => False } S5 ⟨.ref a, List.getElem?_set_self (by simpa using hlen), rfl, rfl⟩) (fun f s6 hsp => ?_) (fun _ _ z => False.elim z)
      cases f with
      | next =>
        obtain ⟨σ6, H6, S6, rfl, rfl⟩ := hsp
        have J6 : Inv X ((a, oe4) :: pins) ((σ'.set j (some (.ref a))).set i (some (.ref a))) H6 s6 := ⟨ok, S6.os, S6.bare, S6.base, S6.loc, S6.cell, S6.free, S6.freeC, fun p hp => S6.pin p (List.mem_append_left _ (by
          rcases List.mem_append.mp hp with z | z
          · exact List.mem_cons_of_mem _ (List.mem_append_left _ z)
          · rcases List.mem_cons.mp z with z | z
            · rw [z]; exact List.mem_cons_self
            · exact List.mem_cons_of_mem _ (List.mem_append_right _ z))), S6.hok, S6.len⟩
        exact gone_ok J6 hN hj hln fun s7 J7 => ⟨_, _, Inv.track J7 hz4 hd4 h0 hpn, hnx a na⟩
      | brk => obtain ⟨σ6, H6, S6, q6⟩ := hsp; exact q6.elim
      | cont => obtain ⟨σ6, H6, S6, q6⟩ := hsp; exact q6.elim
      | ret u => obtain ⟨v6, σ6, H6, S6, r6, q6⟩ := hsp; exact q6.elim
    | false =>
      show wpAny _ X.A (handleBy (.ref a) X.env []) _ _ _
      refine wpAny_handleBy_nil ?_
      obtain ⟨k1, k2, k3, oe, vs, T, oT, ts', he, hz, hd, h1, hr⟩ := id fl3
      unfold PySem.passOn
      refine wpAny_bind (wpAny_field he hd h1 ?_)
      rw [if_neg (show ¬ ((Value.ref T == Value.none) = true) from by simp)]
      have fin : wpAny (model X.prog X.w) X.A (setFlight (.ref a) X.env.frame) (fun _ s4 => wpAny (model X.prog X.w) X.A (throw (.ref a) : Sem Flow) (SP X pins D) X.xe s4) X.xe { s' with heap := h3 } := by
        rw [hf]
        refine HandSPX.setFlight_upZ fl3 fun h4 hh4 up4 => wpAny_throw (tk _ _ ?_)
        exact ⟨a, B, sI, pins, σ', H', cls, d, rfl, J, nb, (up.trans up3).trans up4, .inr (.inr (by rw [hs]; exact hh4)), na, os, ag, hno rfl⟩
      first
        | exact wpAny_bind (wpAny_pure (wpAny_bind fin))
        | exact wpAny_bind fin
  · cases f with
    | next =>
      obtain ⟨σ', H', J', q⟩ := hsp
      exact wpAny_execs_nil ⟨σ', H', J'.ofTry ok, q⟩
    | brk =>
      obtain ⟨σ', H', J', q⟩ := hsp
      exact ⟨σ', H', J'.ofTry ok, q⟩
    | cont =>
      obtain ⟨σ', H', J', q⟩ := hsp
      exact ⟨σ', H', J'.ofTry ok, q⟩
    | ret u =>
      obtain ⟨v, σ', H', J', r, q⟩ := hsp
      exact ⟨v, σ', H', J'.ofTry ok, r, q⟩
end
/-! ## the classes that are raised -/
abbrev veT : List Value := [.type "ValueError", .type "Exception", .type "BaseException", .type "object"]
structure ExK (K : PySem.W.Frag) (mg : Str → Option Value) (x : Str) (C : Addr) : Prop where
  q : PySem.W.excIn K C veT "ValueError.__new__" = true
  g : mg x = some (.ref C)
  k : PySem.W.keepIn K (.ref C) = true
structure ExF (K : PySem.W.Frag) (mg : Str → Option Value) (cls : List Str) (pm : Pm) : Prop where
  same : ∀ n, pm.fa n = pm.ca n
  at_ : ∀ n x, cls[n]? = some x → ExK K mg x (pm.ca n)
  b : ∀ n, PySem.W.subIn K (.ref (pm.ca n)) (.type "BaseException") = some true
  t : ∀ n, PySem.W.typeIn K (.ref (pm.ca n)) = some (.type "type")
  c : ∀ n, ExcC K (pm.ca n)
  is_ : ∀ n m, m < cls.length → PySem.W.kitOne K (.ref (pm.ca n)) (.ref (pm.ca m)) = some (subX (some m) n)
  ve : ∀ n, PySem.W.kitOne K (.ref (pm.ca n)) (.type "ValueError") = some true
  em : ∀ n m, m < cls.length → PySem.W.exmOne K (.ref (pm.ca n)) (.ref (pm.ca m)) = some (subX (some m) n)
def rIsXs (K : PySem.W.Frag) (ca : Nat → Addr) : List V → Hp → VK → Prop := fun xs H Q => ∃ n, rIsX K (ca n) xs H Q
theorem call_isXs {X : Cx} {ca : Nat → Addr} (C : ∀ n, ExcC X.K (ca n)) : CallR X (.builtin "isinstance") (rIsXs X.K ca) := fun pins s σ H xs us Q I r ⟨n, q⟩ => call_isX (C n) pins s σ H xs us Q I r q
section
variable {X : Cx} {pm : Pm} {W : WX} {a : Expr} {ma : EM} {pos : Pos} {cls : List Str}
theorem ex_isxG {k : Option Nat} {x T : Str} {c : V} {cv : Value} {p p2 : Pos} (EF : ExF X.K X.mg cls pm) (hg : Gl X x) (hm : X.mg x = none) (hv : bootBuiltins x = some (.builtin "isinstance")) (hT : PE X (.Name T p2) (tC c)) (hcv : ∀ u, RelV c u → u = cv)
    (hk : ∀ n, PySem.W.kitOne X.K (.ref (pm.ca n)) cv = some (subX k n)) (ha : PE X a (tE X.K pm W ma)) (hn : x ≠ "__name__") (hdb : (x == ("__debug__" : Str)) = false)
    (he : starEach (a :: [.Name T p2]) X.env = (false, eval a X.env) :: starEach [.Name T p2] X.env) :
    PE X (.Call (.Name x p) [a, .Name T p2] [] pos) (tE X.K pm W fun r h => ma r h >>= fun x => (match x.1 with | .exc c => .ok (.bl (subX k c), x.2) | _ => .fail)) := by
  refine PE.mono (pe_callB (call_isXs (ca := pm.ca) EF.c) hg hm hv (pa_cons ha (pa_cons hT pa_nil) he) hn hdb he rfl) fun s H Q q => tE_bind (f := fun x => match x.1 with | .exc c => .ok (.bl (subX k c), x.2) | _ => .fail) q fun mu r h d v H re rh rv p => ?_
  cases d with
  | exc n =>
    obtain ⟨q, rfl, hq, e⟩ := Rl.exc.mp rv
    rw [EF.same n] at e
    exact ⟨n, q, c, cv, subX k n, rfl, e, hcv, hk n, p.ok_inv rh _ (Rl.bl.mpr rfl)⟩
  | _ => exact p.elim
theorem ex_isx {m : Nat} {x T : Str} {p p2 : Pos} (EF : ExF X.K X.mg cls pm) (hm' : cls[m]? = some T) (hgT : Gl X T) (hdT : (T == ("__debug__" : Str)) = false) (hg : Gl X x) (hm : X.mg x = none) (hv : bootBuiltins x = some (.builtin "isinstance"))
    (ha : PE X a (tE X.K pm W ma)) (hn : x ≠ "__name__") (hdb : (x == ("__debug__" : Str)) = false)
    (he : starEach (a :: [.Name T p2]) X.env = (false, eval a X.env) :: starEach [.Name T p2] X.env) :
    PE X (.Call (.Name x p) [a, .Name T p2] [] pos) (tE X.K pm W fun r h => ma r h >>= fun x => (match x.1 with | .exc c => .ok (.bl (subX (some m) c), x.2) | _ => .fail)) :=
  ex_isxG EF hg hm hv (pe_glob (v := .ref (pm.ca m)) hgT (EF.at_ m T hm').g rfl hdT) (fun u r => r) (fun n => EF.is_ n m (List.getElem?_eq_some_iff.mp hm').1) ha hn hdb he
theorem ex_isv {x T : Str} {p p2 : Pos} (EF : ExF X.K X.mg cls pm) (hgT : Gl X T) (hmT : X.mg T = none) (hvT : bootBuiltins T = some (.type "ValueError")) (hnT : T ≠ "__name__") (hdT : (T == ("__debug__" : Str)) = false) (hg : Gl X x) (hm : X.mg x = none) (hv : bootBuiltins x = some (.builtin "isinstance"))
    (ha : PE X a (tE X.K pm W ma)) (hn : x ≠ "__name__") (hdb : (x == ("__debug__" : Str)) = false)
    (he : starEach (a :: [.Name T p2]) X.env = (false, eval a X.env) :: starEach [.Name T p2] X.env) :
    PE X (.Call (.Name x p) [a, .Name T p2] [] pos) (tE X.K pm W fun r h => ma r h >>= fun x => (match x.1 with | .exc c => .ok (.bl (subX none c), x.2) | _ => .fail)) :=
  ex_isxG EF hg hm hv (pe_bltn (v := .ty "ValueError") hgT hmT hvT rfl hnT hdT) (fun u r => r) (fun n => EF.ve n) ha hn hdb he
end
section
variable {K : PySem.W.Frag} {fa : Fa} {mu : Lv} {H : Hp} {r : Ev} {s : L2.St}
theorem RE.setN (e : RE K fa mu H r s) {i : Nat} : RE K fa mu H (r.set i none) (s.set i none) := by
  refine ⟨by simp [e.len], fun j d q => ?_⟩
  by_cases hj : i = j
  · subst hj
    by_cases hl : i < r.length
    · rw [List.getElem?_set_self hl] at q; cases q
    · rw [List.getElem?_eq_none (by simpa using hl)] at q; cases q
  · rw [List.getElem?_set_ne hj] at q
    obtain ⟨u, hu, ru⟩ := e.at_ j d q
    exact ⟨u, by rw [List.getElem?_set_ne hj]; exact hu, ru⟩
end
section
variable {X : Cx} {pm : Pm} {W : WX} {cls : List Str} {x n y : Str} {i j k : Nat} {body : List Stmt} {np pos pos' yp yp2 ap : Pos} {mb : SM}
def tryM (k i j : Nat) (mb : SM) : SM := fun r h => mb r h >>= fun o => match o with
    | .ex c r1 h1 => if subX (some k) c = true then .ok (.nx (((r1.set j (some (.exc c))).set i (some (.exc c))).set j none) h1) else .ok (.ex c r1 h1)
    | o => .ok o
theorem st_tryk (EF : ExF X.K X.mg cls pm) (hk : cls[k]? = some x) (hs : X.stack = X.env :: X.outer) (hf : X.env.frame = some X.env.locals) (hex : X.ex = []) (hN : X.N.Nodup) (hj : X.N[j]? = some n) (hi : X.N[i]? = some y) (hln : X.env.kindOf n = some .local) (hly : X.env.kindOf y = some .local)
    (hgx : Gl X x) (hdx : (x == ("__debug__" : Str)) = false) (tk : Takes X W)
    (hdb : (n == ("__debug__" : Str)) = false) (hcd : (n == ("__classdict__" : Str)) = false) (hij : i ≠ j)
    (hb : ∀ (W : WX) (pn : List (Addr × Obj)) (xe : Value → Shared → Prop), Takes (X.tr pn xe) W → PassesOwn (model X.prog X.w) X.A X.env xe → PSs (X.tr pn xe) body (tSm X.K pm W mb)) :
    PS X (.Try body [.ExceptHandler (some (.Name x np)) (some n) [.Assign [.Name y yp] (.Name n yp2) ap] pos'] [] [] pos) (tSm X.K pm W (tryM k i j mb)) := by
  refine PS.mono (ps_try_keep (tb := fun W => tSm X.K pm W mb) hs hf hex hN hj hi hln hly ⟨hgx, hdx, .inl (EF.at_ k x hk).g⟩ tk hdb hcd hij hb) fun D s H ⟨mu, r, h, re, rh, p⟩ => ⟨mu, r, h, re, rh, ?_⟩
  unfold tryM at p
  cases e : mb r h with
  | ok o =>
    rw [e] at p
    cases o with
    | ex c r1 h1 =>
      intro mu' H' s' g rh' re'
      refine ⟨subX (some k) c, EF.em c k (List.getElem?_eq_some_iff.mp hk).1, fun z => ⟨rfl, _, rfl, fun a ha => ?_⟩, fun z => ?_⟩
      · have p' : PstS X.K pm W D mu H (if subX (some k) c = true then .ok (.nx (((r1.set j (some (.exc c))).set i (some (.exc c))).set j none) h1) else .ok (.ex c r1 h1)) := p
        rw [if_pos z] at p'
        have rx : Rl X.K pm.fa mu' (upd H' a (ExI (pm.ca c) a)) (.exc c) (.ref a) := Rl.exc.mpr ⟨a, rfl, rh'.new ha, by rw [upd_same, EF.same c]⟩
        exact p' mu' _ _ (g.trans (Gr.upd rh' ha)) (rh'.upd ha) ((((re'.grow (Gr.upd rh' ha)).set rx).set rx).setN)
      · have p' : PstS X.K pm W D mu H (if subX (some k) c = true then .ok (.nx (((r1.set j (some (.exc c))).set i (some (.exc c))).set j none) h1) else .ok (.ex c r1 h1)) := p
        rw [if_neg (by rw [z]; exact Bool.false_ne_true)] at p'
        exact p' mu' H' s' g rh' re'
    | nx r1 h1 => exact p
    | rt d h1 => exact p
    | bk r1 h1 => exact p
    | ct r1 h1 => exact p
  | exc c h1 => rw [e] at p; exact p
  | fail => rw [e] at p; exact p
end
end Fx
set_option Elab.async false
set_option linter.all false
namespace Fx
open PySem PySem.Spec PyProof.Rows L2
/-! ## a dict whose keys are tuples of ints, known by their objects -/
abbrev tiK (P : Program) (w : World) := tupleKind (intKind P w)
theorem entI_eq {P : Program} {w : World} : entryOfKey (tiK P w) = entI := rfl
theorem items_areI {P : Program} {w : World} : ∀ {ns : List Int} {us : List Value}, Vals (ns.map V.int) us → ItemsAre (intKind P w) ns us
  | [], _, .nil => .nil
  | n :: ns, _, .cons r t => by
    obtain ⟨k, rfl⟩ := r
    exact .cons (by show (n == n) = true; exact beq_self_eq_true n) (items_areI t)
theorem ValT.val {kvs : List (List Int × V)} {xs : List (List Int × Addr × Value)} (r : ValT kvs xs) (k : List Int) : RelO (valV kvs k) ((atKey xs k).map (·.2)) := by
  induction r with
  | nil => exact True.intro
  | @cons p q ps qs h t ih =>
    obtain ⟨h1, h2⟩ := h
    by_cases e : p.1 = k
    · have e' : q.1 = k := h1.symm.trans e
      have b : atKey (q :: qs) k = some q.2 := by simp [atKey, List.find?_cons, e']
      rw [valV_pos e, b]; exact h2
    · have e' : ¬ q.1 = k := fun z => e (h1.trans z)
      have b : atKey (q :: qs) k = atKey qs k := by simp [atKey, List.find?_cons, e']
      rw [valV_neg e, b]; exact ih
theorem ValT.repl {kvs : List (List Int × V)} {xs : List (List Int × Addr × Value)} (r : ValT kvs xs) (k : List Int) {y : V} {u : Value} (ry : RelV y u) :
    ValT (kvs.map fun kv => if kv.1 = k then (kv.1, y) else kv) (xs.map (putAt k u)) := by
  induction r with
  | nil => exact .nil
  | @cons p q ps qs h t ih =>
    rw [List.map_cons, List.map_cons]
    refine .cons ?_ ih
    obtain ⟨h1, h3⟩ := h
    unfold putAt
    by_cases e : p.1 = k
    · rw [if_pos e, if_pos (h1.symm.trans e)]; exact ⟨h1, ry⟩
    · rw [if_neg e, if_neg (fun z => e (h1.trans z))]; exact ⟨h1, h3⟩
theorem ValT.any {kvs : List (List Int × V)} {xs : List (List Int × Addr × Value)} (r : ValT kvs xs) (k : List Int) : (kvs.any fun kv => decide (kv.1 = k)) = (atKey xs k).isSome := by
  rw [valV_any, (r.val k).isSome_eq, Option.isSome_map]
theorem ValT.put {kvs : List (List Int × V)} {xs : List (List Int × Addr × Value)} (r : ValT kvs xs) (k : List Int) {b : Addr} {y : V} {u : Value} (ry : RelV y u) : ValT (putK kvs k y) (storedH xs k b u) := by
  unfold putK storedH
  rw [r.any k]
  by_cases q : (atKey xs k).isSome = true
  · rw [if_pos q, if_pos q]; exact r.repl k ry
  · rw [if_neg q, if_neg q]; exact Paired.snoc r ⟨rfl, ry⟩
theorem ValT.fst {kvs : List (List Int × V)} {xs : List (List Int × Addr × Value)} (r : ValT kvs xs) : kvs.map (·.1) = xs.map (·.1) := by
  induction r with
  | nil => rfl
  | @cons p q ps qs h t ih => rw [List.map_cons, List.map_cons, h.1, ih]
theorem DX.stay {a : Addr} {xs : List (List Int × Addr × Value)} {h1 h2 : Heap} (x : DX a xs h1) (k : ∀ o, h1.get? a = some o → h2.get? a = some o) : DX a xs h2 := by
  obtain ⟨o, es, ep, e, c⟩ := x
  exact ⟨o, es, ep, k o e, c⟩
section
variable {X : Cx} {pins : List (Addr × Obj)} {σ : L2.St} {H : Hp} {s : Shared} {a b : Addr} {A : Around} {E : Value → Shared → Prop}
theorem key_ofI (I : Inv X pins σ H s) {ns : List Int} (e : TupN (H b) (ns.map V.int)) : (tiK X.prog X.w).is s.heap ns b := by
  obtain ⟨o, e, _⟩ := e
  obtain ⟨_, _, its, r, o1, h1, h2, n, h3⟩ := I.hok b _ e
  exact ⟨o1, its.toArray, n, h1, h2, h3, by simpa using items_areI r⟩
/-- the dict at a, as it is tracked -/
structure DT (H : Hp) (a : Addr) (kvs : List (List Int × V)) (xs : List (List Int × Addr × Value)) : Prop where
  sys : (a == sysModules) = false
  len : kvs.length ≤ sizeLine
  val : ValT kvs xs
  at_ : H a = some (.ext (DX a xs))
  key : ∀ x ∈ xs, TupN (H x.2.1) (x.1.map V.int)
theorem DT.of (d : DT H a kvs xs) (I : Inv X pins σ H s) : s.heap.DictOfH (tiK X.prog X.w) a xs := by
  obtain ⟨⟨o, es, ep, h1, h2, h3, h4, h5⟩, _⟩ := I.hok a _ d.at_
  exact ⟨o, es, ep, h1, h2, h3, by rw [entI_eq]; exact h4, fun x hx => key_ofI I (d.key x hx), h5⟩
/-- what it holds at y -/
def DGetI (H : Hp) (a : Addr) (y : V) (r : Option V) : Prop := ∃ kvs xs ns b, DT H a kvs xs ∧ y = .ref b ∧ TupN (H b) (ns.map V.int) ∧ r = valV kvs ns
theorem i_getItem {v : V} {y : V} {u : Value} {Q : Value → Shared → Prop} (hu : A.units + 1 < cLine) (I : Inv X pins σ H s) (g : DGetI H a y (some v)) (ry : RelV y u) (h : ∀ w' s', Inv X pins σ H s' → RelV v w' → Q w' s') :
    wpAny (model X.prog X.w) A (getItem (.ref a) u) Q E s := by
  obtain ⟨kvs, xs, ns, b, d, rfl, eb, l⟩ := g
  cases (show u = Value.ref b from ry)
  obtain ⟨w', hw, rw'⟩ := RelO.some_of (v := v) (o := (atKey xs ns).map (·.2)) (by rw [l]; exact d.val.val ns)
  obtain ⟨p, hp, hp2⟩ := Option.map_eq_some_iff.mp hw
  refine wpAny_getItem_heap (tupleKind_room_in1 hu) (key_ofI I eb) (d.of I) hp ?_
  rw [hp2]
  exact h w' _ (I.tok _) rw'
theorem i_in {o : Option V} {y : V} {u : Value} {Q : Value → Shared → Prop} (hu : A.units + 1 < cLine) (I : Inv X pins σ H s) (g : DGetI H a y o) (ry : RelV y u) (h : ∀ s', Inv X pins σ H s' → Q (.bool o.isSome) s') :
    wpAny (model X.prog X.w) A (compareOp .In u (.ref a)) Q E s := by
  obtain ⟨kvs, xs, ns, b, d, rfl, eb, l⟩ := g
  cases (show u = Value.ref b from ry)
  refine wpAny_in_heap (tupleKind_room_in1 hu) (key_ofI I eb) d.sys (d.of I) ?_
  have q := (d.val.val ns).isSome_eq
  rw [Option.isSome_map] at q
  rw [← q, ← l]
  exact h _ (I.tok _)
theorem i_notIn {o : Option V} {y : V} {u : Value} {Q : Value → Shared → Prop} (hu : A.units + 1 < cLine) (I : Inv X pins σ H s) (g : DGetI H a y o) (ry : RelV y u) (h : ∀ s', Inv X pins σ H s' → Q (.bool (!o.isSome)) s') :
    wpAny (model X.prog X.w) A (compareOp .NotIn u (.ref a)) Q E s := by
  obtain ⟨kvs, xs, ns, b, d, rfl, eb, l⟩ := g
  cases (show u = Value.ref b from ry)
  refine wpAny_notIn_heap (tupleKind_room_in1 hu) (key_ofI I eb) d.sys (d.of I) ?_
  have q := (d.val.val ns).isSome_eq
  rw [Option.isSome_map] at q
  rw [← q, ← l]
  exact h _ (I.tok _)
/-- the heap behind a[y] = v -/
def DPutI (H : Hp) (a : Addr) (y v : V) (P : Hp → Prop) : Prop := ∃ kvs xs ns b, DT H a kvs xs ∧ y = .ref b ∧ TupN (H b) (ns.map V.int) ∧ kvs.length < sizeLine ∧ ∀ u, RelV v u → P (upd H a (.ext (DX a (storedH xs ns b u))))
theorem i_setItem {y v : V} {P : Hp → Prop} {u r : Value} {Q : Unit → Shared → Prop} (hu : A.units + 1 < cLine) (I : Inv X pins σ H s) (g : DPutI H a y v P) (ry : RelV y u) (rv : RelV v r) (h : ∀ H' s', P H' → Inv X pins σ H' s' → Q () s') :
    wpAny (model X.prog X.w) A (setItem (.ref a) u r) Q E s := by
  obtain ⟨kvs, xs, ns, b, d, rfl, eb, l, p⟩ := g
  cases (show u = Value.ref b from ry)
  have hz : xs.length ≤ sizeLine := by rw [← Paired.length d.val]; exact d.len
  refine wpAny_setItem_heap (hsz := hz) (tupleKind_room_in1 hu) (key_ofI I eb) (d.of I) fun h' dd' hs => h _ _ (p r rv) ?_
  obtain ⟨q, es, ep, hq, h2, h3, h4, _, h5⟩ := dd'
  refine I.write (x := a) (e := a) (by rw [d.at_]; exact True.intro) (.inl rfl) (fun b q hb z => (hs.2 b hb).trans z) ⟨q, hq⟩ ?_
  exact ⟨⟨q, es, ep, hq, h2, h3, by rw [entI_eq] at h4; exact h4, h5⟩, ⟨q, hq⟩, fun h1 h2 x k => x.stay k⟩
end
/-! ### rules for both kinds of dicts -/
def DGetB (H : Hp) (a : Addr) (y : V) (r : Option V) : Prop := DGet H a y r ∨ DGetI H a y r
section
variable {X : Cx} {pins : List (Addr × Obj)} {σ : L2.St} {H : Hp} {s : Shared} {a : Addr} {y : V} {r : Option V}
theorem dgetB_type (I : Inv X pins σ H s) (g : DGetB H a y r) : s.TypeIs (.ref a) "dict" := by
  rcases g with g | ⟨kvs, xs, ns, b, d, _⟩
  · exact dict_typeIs I g
  · exact (d.of I).typeIs
end
section
variable {X : Cx} {o i e value : Expr} {pos pos' tpos : Pos} {td ty tv : TE}
def tDGetB (td ty : TE) : TE := fun σ H Q => td σ H fun x H1 => ty σ H1 fun y H2 => ∃ a v, x = .ref a ∧ DGetB H2 a y (some v) ∧ Q v H2
def tDInB (ty td : TE) : TE := fun σ H Q => ty σ H fun y H1 => td σ H1 fun x H2 => ∃ a o, x = .ref a ∧ DGetB H2 a y o ∧ Q (.bl o.isSome) H2
def tDNotInB (ty td : TE) : TE := fun σ H Q => ty σ H fun y H1 => td σ H1 fun x H2 => ∃ a o, x = .ref a ∧ DGetB H2 a y o ∧ Q (.bl (!o.isSome)) H2
def sDPutB (td ty tv : TE) : TS := fun D σ H => tv σ H fun v H1 => td σ H1 fun x H2 => ty σ H2 fun y H3 => ∃ a, x = .ref a ∧ ((∃ H4, DPut H3 a y v H4 ∧ D.nx σ H4) ∨ DPutI H3 a y v fun H4 => D.nx σ H4)
theorem pe_dgetB (hu : X.A.units + 1 < cLine) (ho : PE X o td) (hi : PE X i ty) (hs : NoSl i) : PE X (.Subscript o i pos) (tDGetB td ty) := by
  refine ⟨fun pins s σ H Q I h => ?_⟩
  refine subD_of PySem.F.slot_dict_getitem.lookup hs (thn (ho.run pins s σ H _ I h) fun u s1 ⟨x, H1, I1, rx, q1⟩ => thn (hi.run pins s1 σ H1 _ I1 q1) fun iv s2 ⟨y, H2, I2, ry, a, v, ex, g, q2⟩ => ?_)
  subst ex
  obtain rfl : u = Value.ref a := rx
  refine ⟨dgetB_type I2 g, ?_⟩
  rcases g with g | g
  · exact d_getItem hu I2 g ry fun w' s3 I3 rw' => ⟨v, H2, I3, rw', q2⟩
  · exact i_getItem hu I2 g ry fun w' s3 I3 rw' => ⟨v, H2, I3, rw', q2⟩
theorem pc_dinB (hu : X.A.units + 1 < cLine) (hi : PE X i ty) (ho : PE X o td) : PC X .In i o (tDInB ty td) := by
  refine ⟨fun pins s σ H Q I h => ?_⟩
  refine thn (hi.run pins s σ H _ I h) fun iv s1 ⟨y, H1, I1, ry, q1⟩ => thn (ho.run pins s1 σ H1 _ I1 q1) fun u s2 ⟨x, H2, I2, rx, a, ov, ex, g, q2⟩ => ?_
  subst ex
  obtain rfl : u = Value.ref a := rx
  rcases g with g | g
  · exact d_in hu I2 g ry fun s3 I3 => ⟨.bl ov.isSome, H2, I3, rfl, q2⟩
  · exact i_in hu I2 g ry fun s3 I3 => ⟨.bl ov.isSome, H2, I3, rfl, q2⟩
theorem pc_dnotinB (hu : X.A.units + 1 < cLine) (hi : PE X i ty) (ho : PE X o td) : PC X .NotIn i o (tDNotInB ty td) := by
  refine ⟨fun pins s σ H Q I h => ?_⟩
  refine thn (hi.run pins s σ H _ I h) fun iv s1 ⟨y, H1, I1, ry, q1⟩ => thn (ho.run pins s1 σ H1 _ I1 q1) fun u s2 ⟨x, H2, I2, rx, a, ov, ex, g, q2⟩ => ?_
  subst ex
  obtain rfl : u = Value.ref a := rx
  rcases g with g | g
  · exact d_notIn hu I2 g ry fun s3 I3 => ⟨.bl (!ov.isSome), H2, I3, rfl, q2⟩
  · exact i_notIn hu I2 g ry fun s3 I3 => ⟨.bl (!ov.isSome), H2, I3, rfl, q2⟩
theorem ps_dputB (hu : X.A.units + 1 < cLine) (ho : PE X o td) (hi : PE X i ty) (hv : PE X value tv) (hs : swapsWith value (some (.Subscript o i pos')) pos.line X.env = pure false) :
    PS X (.Assign [.Subscript o i pos'] value pos) (sDPutB td ty tv) := by
  refine ⟨fun pins s σ H D I h => ?_⟩
  refine wpAny_Assign_Subscript (thn (hv.run pins s σ H _ I h) fun r s1 ⟨v, H1, I1, rv, q1⟩ => thn (ho.run pins s1 σ H1 _ I1 q1) fun u s2 ⟨x, H2, I2, rx, q2⟩ => thn (hi.run pins s2 σ H2 _ I2 q2) fun iv s3 ⟨y, H3, I3, ry, a, ex, g⟩ => ?_) hs
  subst ex
  obtain rfl : u = Value.ref a := rx
  rcases g with ⟨H4, g, q3⟩ | g
  · exact d_setItem hu I3 g ry rv fun s4 I4 => ⟨σ, H4, I4, q3⟩
  · exact i_setItem hu I3 g ry rv fun H4 s4 q3 I4 => ⟨σ, H4, I4, q3⟩
def tDNewI : TE := fun _ H Q => ∀ p, H p = none → (p == sysModules) = false → Q (.ref p) (upd H p (.ext (DX p [])))
theorem pe_dnewI : PE X (.Dict [] [] pos) tDNewI := ⟨fun pins s σ H Q I h =>
  wpAny_Dict_empty ⟨.ref s.heap.objs.size, _, I.laid (a := s.heap.objs.size) (o := .ext (DX s.heap.objs.size [])) (t' := s.toks) (fun _ _ q => Heap.get?_push_of_some _ q) (Nat.le_refl _)
    ⟨⟨_, #[], 0, Heap.get?_push_size _ rfl, ⟨rfl, rfl, rfl⟩, rfl, rfl, List.nodup_nil⟩, ⟨_, Heap.get?_push_size _ rfl⟩, fun h1 h2 x k => x.stay k⟩, rfl, h _ (I.hok.fresh (Nat.le_refl _)) (beq_eq_false_iff_ne.mpr (Ne.symm (Nat.ne_of_lt I.big)))⟩⟩
end
end Fx
set_option Elab.async false
set_option linter.all false
namespace Fx
open PySem PySem.Spec PyProof.Rows L2

/-! ## dicts -/
section
variable {K : PySem.W.Frag} {fa : Fa} {mu : Lv} {H : Hp} {h : Hh}
theorem keyD_rl {d : D} {k : Key} {v : V} (e : keyD d = some k) (r : Rl K fa mu H d v) : v = kV k := by
  cases d with
  | int i => cases e; exact Rl.int.mp r
  | str x => cases e; exact Rl.str.mp r
  | _ => cases e
theorem keysD_rl : ∀ {xs : List D} {ks : List Key} {vs : List V}, keysD xs = some ks → RlL K fa mu H xs vs → vs = ks.map kV
  | [], _, vs, e, r => by cases e; exact r.nil_inv
  | x :: xs, ks, vs, e, r => by
    obtain ⟨v, ws, rfl, a, b⟩ := r.inv
    simp only [keysD] at e
    split at e
    · cases e
    · rename_i k hk
      simp only [Option.map_eq_some_iff] at e
      obtain ⟨ms, e, rfl⟩ := e
      rw [keyD_rl hk a, keysD_rl e b]
      rfl
section
variable {κ : Type} [DecidableEq κ]
theorem RlK.nil : RlK K fa mu H ([] : List (κ × D)) ([] : List (κ × V)) := ⟨rfl, .nil⟩
theorem RlK.cons {k : κ} {d : D} {v : V} {kds : List (κ × D)} {kvs : List (κ × V)} (a : Rl K fa mu H d v) (b : RlK K fa mu H kds kvs) : RlK K fa mu H ((k, d) :: kds) ((k, v) :: kvs) := ⟨by simp [b.1], .cons a b.2⟩
theorem RlK.inv {k : κ} {d : D} {kds : List (κ × D)} {kvs : List (κ × V)} (r : RlK K fa mu H ((k, d) :: kds) kvs) : ∃ v kws, kvs = (k, v) :: kws ∧ Rl K fa mu H d v ∧ RlK K fa mu H kds kws := by
  obtain ⟨a, b⟩ := r
  cases kvs with
  | nil => simp at a
  | cons p kws =>
    obtain ⟨k', v⟩ := p
    simp only [List.map_cons, List.cons.injEq] at a
    obtain ⟨rfl, a⟩ := a
    obtain ⟨v', ws, e, r1, r2⟩ := RlL.inv (d := d) (ds := kds.map (·.2)) b
    simp only [List.map_cons, List.cons.injEq] at e
    obtain ⟨rfl, rfl⟩ := e
    exact ⟨v, kws, rfl, r1, a, r2⟩
theorem RlK.nil_inv {kvs : List (κ × V)} (r : RlK K fa mu H [] kvs) : kvs = [] := by
  cases kvs with
  | nil => rfl
  | cons p l => simp [RlK] at r
theorem RlK.length : ∀ {kds : List (κ × D)} {kvs : List (κ × V)}, RlK K fa mu H kds kvs → kds.length = kvs.length := fun {kds kvs} r => by
  have := congrArg List.length r.1
  simpa using this
theorem getK_rl {k : κ} : ∀ {kds : List (κ × D)} {kvs : List (κ × V)}, RlK K fa mu H kds kvs → (getK kds k = none ∧ valV kvs k = none) ∨ ∃ d v, getK kds k = some d ∧ valV kvs k = some v ∧ Rl K fa mu H d v
  | [], kvs, r => by rw [r.nil_inv]; exact .inl ⟨rfl, rfl⟩
  | (k', d) :: kds, kvs, r => by
    obtain ⟨v, kws, rfl, r1, r2⟩ := r.inv
    by_cases e : k' = k
    · exact .inr ⟨d, v, by simp [getK, e], by simp [valV, e], r1⟩
    · have ih := getK_rl (k := k) r2
      have e1 : getK ((k', d) :: kds) k = getK kds k := by simp [getK, e]
      have e2 : valV ((k', v) :: kws) k = valV kws k := by simp [valV, e]
      rw [e1, e2]
      exact ih
theorem setMap_rl {k : κ} {d : D} {v : V} (rd : Rl K fa mu H d v) : ∀ {kds : List (κ × D)} {kvs : List (κ × V)}, RlK K fa mu H kds kvs →
    RlK K fa mu H (kds.map fun kv => if kv.1 = k then (kv.1, d) else kv) (kvs.map fun kv => if kv.1 = k then (kv.1, v) else kv)
  | [], kvs, r => by rw [r.nil_inv]; exact .nil
  | (k', d') :: kds, kvs, r => by
    obtain ⟨v', kws, rfl, r1, r2⟩ := r.inv
    rw [List.map_cons, List.map_cons]
    have ih := setMap_rl (k := k) rd r2
    by_cases e : k' = k
    · simp only [e, if_true]; exact .cons rd ih
    · simp only [e, if_false]; exact .cons r1 ih
theorem RlK.append {kds kes : List (κ × D)} {kvs kws : List (κ × V)} (a : RlK K fa mu H kds kvs) (b : RlK K fa mu H kes kws) : RlK K fa mu H (kds ++ kes) (kvs ++ kws) :=
  ⟨by simp [a.1, b.1], by rw [List.map_append, List.map_append]; exact a.2.append b.2⟩
theorem setK_rl {k : κ} {d : D} {v : V} {kds : List (κ × D)} {kvs : List (κ × V)} (r : RlK K fa mu H kds kvs) (rd : Rl K fa mu H d v) : RlK K fa mu H (setK kds k d) (putK kvs k v) := by
  have ea : (kds.any fun kv => decide (kv.1 = k)) = (kvs.any fun kv => decide (kv.1 = k)) := by
    have h1 : (kds.any fun kv => decide (kv.1 = k)) = ((kds.map (·.1)).any fun x => decide (x = k)) := by rw [List.any_map]; rfl
    have h2 : (kvs.any fun kv => decide (kv.1 = k)) = ((kvs.map (·.1)).any fun x => decide (x = k)) := by rw [List.any_map]; rfl
    rw [h1, h2, r.1]
  unfold setK putK
  rw [ea]
  split
  · exact setMap_rl rd r
  · exact r.append (.cons rd .nil)
end
theorem dct_live {n : Nat} {v : V} {o : Ob} (rh : RH K fa mu h H) (r : Rl K fa mu H (.ref n) v) (e : h[n]? = some o) : ∃ p, v = .ref p ∧ mu.mu[n]? = some p ∧ RO K fa mu H p o := by
  obtain ⟨p, rfl, m⟩ := Rl.ref.mp r
  exact ⟨p, rfl, m, rh.at_ n _ p e m⟩
theorem isDct_use {o : D} {v : V} (rh : RH K fa mu h H) (r : Rl K fa mu H o v) (e : isDct h o = true) : ∃ a, v = .ref a ∧ IsD H a := by
  cases o with
  | ref n =>
    simp only [isDct] at e
    split at e
    · rename_i z
      obtain ⟨p, rfl, _, kvs, e1, _⟩ := dct_live rh r z
      exact ⟨p, rfl, .inl ⟨kvs, .inl e1⟩⟩
    · cases e
  | _ => cases e
theorem keys_is : ∀ {kds : List (List Int × D)} {xs : List (List Int × Addr × Value)}, kds.map (·.1) = xs.map (·.1) → RlL K fa mu H (keyDs kds) (keyVs xs) → ∀ x ∈ xs, TupN (H x.2.1) (x.1.map V.int)
  | [], [], _, _, x, hx => by simp at hx
  | [], _ :: _, e, _, _, _ => by simp at e
  | _ :: _, [], e, _, _, _ => by simp at e
  | kd :: kds, y :: xs, e, l, x, hx => by
    simp only [List.map_cons, List.cons.injEq] at e
    obtain ⟨v, ws, e1, r1, r2⟩ := RlL.inv (d := D.tup (kd.1.map D.int)) (ds := keyDs kds) l
    simp only [keyVs, List.map_cons, List.cons.injEq] at e1
    obtain ⟨rfl, rfl⟩ := e1
    rcases List.mem_cons.mp hx with rfl | hx
    · obtain ⟨p, vs, ep, _, t, l1⟩ := Rl.tup.mp r1
      cases ep
      have := ints_rl (ns := kd.1) (by
        have key : ∀ ns : List Int, intL (ns.map D.int) = some ns := by
          intro ns
          induction ns with
          | nil => rfl
          | cons n ns ih => simp only [List.map_cons, intL, ih, Option.map_some]
        exact key _) l1
      rw [this, e.1] at t
      exact t
    · exact keys_is e.2 r2 x hx
theorem dt_use {n : Nat} {kds : List (List Int × D)} {vo : V} (rh : RH K fa mu h H) (ro : Rl K fa mu H (.ref n) vo) (z : h[n]? = some (.dt kds)) :
    ∃ p kvs xs, vo = .ref p ∧ mu.mu[n]? = some p ∧ DT H p kvs xs ∧ RlL K fa mu H (keyDs kds) (keyVs xs) ∧ RlK K fa mu H kds kvs := by
  obtain ⟨p, rfl, m, kvs, xs, ⟨c1, c2, c3⟩, e1, lk, rl⟩ := dct_live rh ro z
  exact ⟨p, kvs, xs, rfl, m, ⟨c1, c2, c3, e1, keys_is (rl.1.trans c3.fst) lk⟩, lk, rl⟩
theorem dctG_use {o k : D} {vo vk : V} {res : Option D} (rh : RH K fa mu h H) (ro : Rl K fa mu H o vo) (rk : Rl K fa mu H k vk) (e : dctG h o k = some res) :
    ∃ a x, vo = .ref a ∧ DGetB H a vk x ∧ ((res = none ∧ x = none) ∨ ∃ d v, res = some d ∧ x = some v ∧ Rl K fa mu H d v) := by
  cases o with
  | ref n =>
    simp only [dctG] at e
    split at e
    · rename_i kds z
      obtain ⟨p, rfl, _, kvs, e1, rl⟩ := dct_live rh ro z
      simp only [Option.map_eq_some_iff] at e
      obtain ⟨k', hk, rfl⟩ := e
      have ek := keyD_rl hk rk
      subst ek
      refine ⟨p, valV kvs k', rfl, .inl (DGet.k e1), ?_⟩
      rcases getK_rl (k := k') rl with ⟨a, b⟩ | ⟨d, v, a, b, c⟩
      · exact .inl ⟨a, b⟩
      · exact .inr ⟨d, v, a, b, c⟩
    · rename_i kds z
      obtain ⟨p, kvs, xs, rfl, _, dt, _, rl⟩ := dt_use rh ro z
      split at e
      · rename_i ys
        simp only [Option.map_eq_some_iff] at e
        obtain ⟨k', hk, rfl⟩ := e
        obtain ⟨b, vs, rfl, _, eb, l⟩ := Rl.tup.mp rk
        have ek := ints_rl hk l
        subst ek
        refine ⟨p, valV kvs k', rfl, .inr ⟨kvs, xs, k', b, dt, rfl, eb, rfl⟩, ?_⟩
        rcases getK_rl (k := k') rl with ⟨a, b⟩ | ⟨d, v, a, b, c⟩
        · exact .inl ⟨a, b⟩
        · exact .inr ⟨d, v, a, b, c⟩
      · cases e
    · cases e
  | _ => cases e
theorem keyDs_set {kds : List (List Int × D)} {k : List Int} {d : D} : keyDs (setK kds k d) = if (kds.any fun kv => decide (kv.1 = k)) = true then keyDs kds else keyDs kds ++ [.tup (k.map D.int)] := by
  unfold setK keyDs
  split
  · rw [List.map_map]
    apply List.map_congr_left
    intro x _
    simp only [Function.comp]
    split <;> rfl
  · rw [List.map_append]
    rfl
theorem keyVs_set {xs : List (List Int × Addr × Value)} {k : List Int} {b : Addr} {u : Value} : keyVs (storedH xs k b u) = if (atKey xs k).isSome = true then keyVs xs else keyVs xs ++ [.ref b] := by
  unfold storedH keyVs
  split
  · rw [List.map_map]
    apply List.map_congr_left
    intro x _
    simp only [Function.comp, putAt]
    split <;> rfl
  · rw [List.map_append]
    rfl
theorem dctS_use {o k x : D} {vo vk vx : V} {h' : Hh} {P : Hp → Prop} (rh : RH K fa mu h H) (ro : Rl K fa mu H o vo) (rk : Rl K fa mu H k vk) (rx : Rl K fa mu H x vx) (e : dctS h o k x = .ok h')
    (q : ∀ H', Gr mu H mu H' → RH K fa mu h' H' → P H') : ∃ a, vo = .ref a ∧ ((∃ H', DPut H a vk vx H' ∧ P H') ∨ DPutI H a vk vx P) := by
  cases o with
  | ref n =>
    simp only [dctS] at e
    split at e
    · rename_i kds z
      obtain ⟨p, rfl, m, kvs, e1, rl⟩ := dct_live rh ro z
      split at e
      · rename_i k' hk
        obtain ⟨hz, e2⟩ := if_inv e
        subst e2
        have ek := keyD_rl hk rk
        subst ek
        have g : Gr mu H mu (upd H p (.dK (putK kvs k' vx))) := Gr.write (List.mem_of_getElem? m)
        exact ⟨p, rfl, .inl ⟨_, DPut.k e1 (by rw [← rl.length]; exact hz), q _ g (rh.write m ⟨_, upd_same, (setK_rl rl rx).grow g⟩)⟩⟩
      · cases e
    · rename_i kds z
      obtain ⟨p, kvs, xs, rfl, m, dt, lk, rl⟩ := dt_use rh ro z
      split at e
      · rename_i ys
        split at e
        · rename_i k' hk
          obtain ⟨hz, e2⟩ := if_inv e
          subst e2
          obtain ⟨b, vs, rfl, hb, eb, l⟩ := Rl.tup.mp rk
          have ek := ints_rl hk l
          have ed : ys = k'.map D.int := by
            have key : ∀ {ys : List D} {ns : List Int}, intL ys = some ns → ys = ns.map D.int := by
              intro ys
              induction ys with
              | nil => intro ns e; cases e; rfl
              | cons y ys ih =>
                intro ns e
                cases y <;> simp only [intL] at e <;> try cases e
                simp only [Option.map_eq_some_iff] at e
                obtain ⟨ms, e, rfl⟩ := e
                rw [ih e]
                rfl
            exact key hk
          subst ek ed
          refine ⟨p, rfl, .inr ⟨kvs, xs, k', b, dt, rfl, eb, by rw [← rl.length]; exact hz, fun u ru => ?_⟩⟩
          have g : Gr mu H mu (upd H p (.ext (DX p (storedH xs k' b u)))) := Gr.write (List.mem_of_getElem? m)
          have hl : (putK kvs k' vx).length ≤ sizeLine := by
            have := length_putK kvs k' vx
            rw [rl.length] at hz
            omega
          refine q _ g (rh.write m ⟨putK kvs k' vx, storedH xs k' b u, ⟨dt.sys, hl, dt.val.put k' ru⟩, upd_same, RlL.grow g _ _ ?_, (setK_rl rl rx).grow g⟩)
          rw [keyDs_set, keyVs_set]
          have ea : (kds.any fun kv => decide (kv.1 = k')) = (atKey xs k').isSome := by
            rw [← dt.val.any k']
            have key : ∀ {α β : Type} (as : List (List Int × α)) (bs : List (List Int × β)), as.map (·.1) = bs.map (·.1) → (as.any fun kv => decide (kv.1 = k')) = bs.any fun kv => decide (kv.1 = k') := by
              intro α β as
              induction as with
              | nil => intro bs e; cases bs with
                | nil => rfl
                | cons _ _ => simp at e
              | cons a as ih => intro bs e; cases bs with
                | nil => simp at e
                | cons b bs =>
                  simp only [List.map_cons, List.cons.injEq] at e
                  rw [List.any_cons, List.any_cons, e.1, ih bs e.2]
            exact key kds kvs rl.1
          rw [ea]
          split
          · exact lk
          · exact lk.append (.cons rk .nil)
        · cases e
      · cases e
    · cases e
  | _ => cases e
end
section
variable {X : Cx} {pm : Pm} {W : WX} {a b d : Expr} {ma mb md : EM} {pos : Pos}
theorem ex_dk0 : PE X (.Dict [] [] pos) (tE X.K pm W fun _ h => .ok (.ref h.length, h ++ [.dk []])) := by
  refine PE.mono pe_dnewK fun s H Q ⟨mu, r, h, re, rh, p⟩ q hq => ?_
  refine p (mu.add q) _ (Gr.push hq) (rh.push hq ⟨[], upd_same, .nil⟩) _ (Rl.ref.mpr ⟨q, rfl, ?_⟩)
  rw [← rh.len, List.getElem?_append_right (Nat.le_refl _)]
  simp
theorem ex_dt0 : PE X (.Dict [] [] pos) (tE X.K pm W fun _ h => .ok (.ref h.length, h ++ [.dt []])) := by
  refine PE.mono pe_dnewI fun s H Q ⟨mu, r, h, re, rh, p⟩ q hq hs => ?_
  refine p (mu.add q) _ (Gr.push hq) (rh.push hq ⟨[], [], ⟨hs, Nat.zero_le _, .nil⟩, upd_same, .nil, .nil⟩) _ (Rl.ref.mpr ⟨q, rfl, ?_⟩)
  rw [← rh.len, List.getElem?_append_right (Nat.le_refl _)]
  simp
theorem ex_dix (hu : X.A.units + 1 < cLine) (ha : PE X a (tE X.K pm W ma)) (hb : PE X b (tE X.K pm W mb)) (hs : NoSl b) :
    PE X (.Subscript a b pos) (tE X.K pm W fun r h => ma r h >>= fun x => mb r x.2 >>= fun y => (match dctG y.2 x.1 y.1 with | some (some v) => .ok (v, y.2) | _ => .fail)) := by
  refine PE.mono (pe_dgetB hu ha hb hs) fun s H Q q => tE_bindr (f := fun r x => mb r x.2 >>= fun y => (match dctG y.2 x.1 y.1 with | some (some v) => .ok (v, y.2) | _ => .fail)) q fun mu r h d v H re rh rv p => ?_
  refine ⟨mu, r, h, re, rh, p.bind.imp fun d2 mu2 H2 _ ⟨g2, h2, rh2, p2⟩ v2 rv2 => ?_⟩
  dsimp only at p2
  split at p2
  · rename_i w e
    obtain ⟨q, x, rfl, g, c⟩ := dctG_use rh2 (Rl.grow g2 _ _ rv) rv2 e
    rcases c with ⟨z, _⟩ | ⟨d', v', z, rfl, rl⟩
    · cases z
    · cases z
      exact ⟨q, v', rfl, g, p2.ok_inv rh2 _ rl⟩
  · exact p2.elim
theorem ex_dget {ap cp : Pos} (hu : X.A.units + 1 < cLine) (ha : PE X a (tE X.K pm W ma)) (hb : PE X b (tE X.K pm W mb)) (hd : PE X d (tE X.K pm W md)) (m : M2 X a "get" ap b d cp) :
    PE X (.Call (.Attribute a "get" ap) [b, d] [] cp) (tE X.K pm W fun r h => ma r h >>= fun x => if isDct x.2 x.1 = true then mb r x.2 >>= fun y => md r y.2 >>= fun z => (match (if isDct z.2 x.1 = true then dctG z.2 x.1 y.1 else none) with
    | some v => .ok (v.getD z.1, z.2)
    | none => .fail) else .fail) := by
  refine PE.mono (pe_dget2 hu ha hb hd m) fun s H Q q => tE_bindr (f := fun r x => if isDct x.2 x.1 = true then mb r x.2 >>= fun y => md r y.2 >>= fun z => (match (if isDct z.2 x.1 = true then dctG z.2 x.1 y.1 else none) with
    | some v => .ok (v.getD z.1, z.2)
    | none => .fail) else .fail) q fun mu r h d v H re rh rv p => ?_
  dsimp only at p
  split at p
  · rename_i hd
    obtain ⟨q, rfl, isd⟩ := isDct_use rh rv hd
    refine ⟨q, rfl, isd, mu, r, h, re, rh, p.bind.imp fun d2 mu2 H2 _ ⟨g2, h2, rh2, p2⟩ v2 rv2 => ?_⟩
    refine ⟨mu2, r, h2, re.grow g2, rh2, p2.bind.imp fun d3 mu3 H3 _ ⟨g3, h3, rh3, p3⟩ v3 rv3 => ?_⟩
    dsimp only at p3
    split at p3
    · rename_i w e
      split at e
      rotate_left
      · cases e
      rename_i hd3
      obtain ⟨q3, e3, isd3⟩ := isDct_use rh3 (Rl.grow (g2.trans g3) _ _ rv) hd3
      cases e3
      obtain ⟨q', x, eq, g, c⟩ := dctG_use rh3 (Rl.grow (g2.trans g3) _ _ rv) (Rl.grow g3 _ _ rv2) e
      cases eq
      have g := g.resolve_right fun ⟨kvs, xs, ns, b, dt, _⟩ => by
        have e1 := dt.at_
        rcases isd3 with ⟨k2, e2 | ⟨_, e2⟩⟩ | ⟨k2, e2 | ⟨_, e2⟩⟩ <;> rw [e1] at e2 <;> cases e2
      rcases c with ⟨rfl, rfl⟩ | ⟨d', v', rfl, rfl, rl⟩
      · exact ⟨none, g, p3.ok_inv rh3 _ rv3⟩
      · exact ⟨some v', g, p3.ok_inv rh3 _ rl⟩
    · exact p3.elim
  · exact p.elim
theorem ex_din {neg : Bool} (hu : X.A.units + 1 < cLine) (hb : PE X b (tE X.K pm W mb)) (ha : PE X a (tE X.K pm W ma)) (hm : ∀ op, behindInMarks op a = false) :
    PE X (.Compare b [if neg = true then .NotIn else .In] [a] pos) (tE X.K pm W fun r h => mb r h >>= fun y => ma r y.2 >>= fun x => (match dctG x.2 x.1 y.1 with
    | some v => .ok (.bl (if neg then !v.isSome else v.isSome), x.2)
    | none => .fail)) ∧ PT X (.Compare b [if neg = true then .NotIn else .In] [a] pos) (tB2 X.K pm W fun r h => (mb r h >>= fun y => ma r y.2 >>= fun x => (match dctG x.2 x.1 y.1 with
    | some v => .ok (.bl (if neg then !v.isSome else v.isSome), x.2)
    | none => .fail)) >>= fun x => asB x.1 x.2) := by
  have key : ∀ s H Q, tE X.K pm W (fun r h => mb r h >>= fun y => ma r y.2 >>= fun x => (match dctG x.2 x.1 y.1 with
    | some v => .ok (.bl (if neg then !v.isSome else v.isSome), x.2)
    | none => .fail)) s H Q → (if neg = true then tDNotInB (tE X.K pm W mb) (tE X.K pm W ma) else tDInB (tE X.K pm W mb) (tE X.K pm W ma)) s H Q := by
    intro s H Q q
    have big : tE X.K pm W mb s H fun y H1 => tE X.K pm W ma s H1 fun x H2 => ∃ a o, x = .ref a ∧ DGetB H2 a y o ∧ Q (.bl (if neg = true then !o.isSome else o.isSome)) H2 := by
      refine tE_bindr (f := fun r y => ma r y.2 >>= fun x => (match dctG x.2 x.1 y.1 with
        | some v => .ok (.bl (if neg then !v.isSome else v.isSome), x.2)
        | none => .fail)) q fun mu r h d v H re rh rv p => ?_
      refine ⟨mu, r, h, re, rh, p.bind.imp fun d2 mu2 H2 _ ⟨g2, h2, rh2, p2⟩ v2 rv2 => ?_⟩
      dsimp only at p2
      split at p2
      · rename_i w e
        obtain ⟨q, x, rfl, g, c⟩ := dctG_use rh2 rv2 (Rl.grow g2 _ _ rv) e
        refine ⟨q, x, rfl, g, ?_⟩
        have : w.isSome = x.isSome := by
          rcases c with ⟨rfl, rfl⟩ | ⟨d', v', rfl, rfl, _⟩ <;> rfl
        rw [← this]
        exact p2.ok_inv rh2 _ (Rl.bl.mpr rfl)
      · exact p2.elim
    cases neg with
    | true => exact big
    | false => exact big
  cases neg with
  | true => exact ⟨PE.mono (pe_cmp (pc_dnotinB hu hb ha) (hm _)) key, PT.mono (pt_cmp (pc_dnotinB hu hb ha) (hm _)) (tB_tst (t := tDNotInB (tE X.K pm W mb) (tE X.K pm W ma)) key)⟩
  | false => exact ⟨PE.mono (pe_cmp (pc_dinB hu hb ha) (hm _)) key, PT.mono (pt_cmp (pc_dinB hu hb ha) (hm _)) (tB_tst (t := tDInB (tE X.K pm W mb) (tE X.K pm W ma)) key)⟩
theorem st_dset {v : Expr} {mv : EM} {p' : Pos} (hu : X.A.units + 1 < cLine) (hv : PE X v (tE X.K pm W mv)) (ha : PE X a (tE X.K pm W ma)) (hb : PE X b (tE X.K pm W mb)) (hs : swapsWith v (some (.Subscript a b p')) pos.line X.env = pure false) :
    PS X (.Assign [.Subscript a b p'] v pos) (tSm X.K pm W fun r h => lft r (mv r h) fun x => lft r (ma r x.2) fun y => lft r (mb r y.2) fun z => nox (dctS z.2 y.1 z.1 x.1) >>= fun h1 => .ok (.nx r h1)) := by
  refine PS.mono (ps_dputB hu ha hb hv hs) fun D s H ⟨mu, r, h, re, rh, p⟩ => ⟨mu, r, h, re, rh, (lft_bind p re).imp fun d mu1 H1 _ ⟨g1, h1, rh1, p1⟩ v rv => ?_⟩
  have re1 := re.grow g1
  refine ⟨mu1, r, h1, re1, rh1, (lft_bind p1 re1).imp fun d2 mu2 H2 _ ⟨g2, h2, rh2, p2⟩ v2 rv2 => ?_⟩
  have re2 := re1.grow g2
  refine ⟨mu2, r, h2, re2, rh2, (lft_bind p2 re2).imp fun d3 mu3 H3 _ ⟨g3, h3, rh3, p3⟩ v3 rv3 => ?_⟩
  dsimp only at p3
  cases es : dctS h3 d2 d3 d with
  | ok h4 =>
    rw [es] at p3
    exact dctS_use (P := fun H4 => D.nx s H4) rh3 (Rl.grow g3 _ _ rv2) rv3 (Rl.grow (g2.trans g3) _ _ rv) es fun H4 g rh4 => PstS.nx_inv (p3.grow g) rh4 ((re2.grow g3).grow g)
  | exc c h4 => rw [es] at p3; exact p3.elim
  | fail => rw [es] at p3; exact p3.elim
end
end Fx
set_option Elab.async false
set_option linter.all false
namespace Fx
open PySem PySem.Spec PyProof.Rows L2

/-! ## displays of dicts -/
section
variable {K : PySem.W.Frag} {fa : Fa} {mu mu' : Lv} {H H' : Hp} {h : Hh}
def RP (K : PySem.W.Frag) (fa : Fa) (mu : Lv) (H : Hp) : List (D × D) → List (V × V) → Prop
  | [], vs => vs = []
  | (a, b) :: r, vs => ∃ x y ws, vs = (x, y) :: ws ∧ Rl K fa mu H a x ∧ Rl K fa mu H b y ∧ RP K fa mu H r ws
theorem pairsK_rl : ∀ {ds : List (D × D)} {kds : List (Key × D)} {vs : List (V × V)}, pairsK ds = some kds → RP K fa mu H ds vs → ∃ kws : List (Key × V), vs = kws.map (fun kv => (kV kv.1, kv.2)) ∧ RlK K fa mu H kds kws
  | [], kds, vs, e, r => by
    cases e
    have r' : vs = [] := r
    subst r'
    exact ⟨[], rfl, .nil⟩
  | (a, b) :: ds, kds, vs, e, r => by
    obtain ⟨x, y, ws, rfl, ra, rb, r'⟩ := r
    simp only [pairsK] at e
    split at e
    · cases e
    · rename_i k hk
      simp only [Option.map_eq_some_iff] at e
      obtain ⟨ms, e, rfl⟩ := e
      obtain ⟨kws, rfl, rk⟩ := pairsK_rl e r'
      refine ⟨(k, y) :: kws, ?_, .cons rb rk⟩
      rw [keyD_rl hk ra]
      rfl
theorem mergK_rl : ∀ {more : List (Key × D)} {mws : List (Key × V)} {kds : List (Key × D)} {kws : List (Key × V)}, RlK K fa mu H more mws → RlK K fa mu H kds kws → RlK K fa mu H (mergK kds more) (mergeK kws mws)
  | [], mws, kds, kws, a, b => by rw [a.nil_inv]; exact b
  | (k, d) :: more, mws, kds, kws, a, b => by
    obtain ⟨v, rest, rfl, r1, r2⟩ := a.inv
    exact mergK_rl (more := more) (mws := rest) r2 (setK_rl b r1)
theorem RH.liftD {p : Addr} {ob : Ob} (rh : RH K fa mu h H) (hp : p ∈ mu.av) (ro : RO K fa mu H p ob) : RH K fa ((mu.out1 p).add p) (h ++ [ob]) H := by
  obtain ⟨hn, _⟩ := rh.av p hp
  have hsub : ∀ q, q ∈ (mu.out1 p).add p → q ∈ mu := fun q m => m.elim (fun z => (List.mem_append.mp z).elim .inl fun z => by rw [List.mem_singleton.mp z]; exact .inr hp) fun z => .inr (List.mem_filter.mp z).1
  have hmu : ∀ (n : Nat) (q : Addr), mu.mu[n]? = some q → ((mu.out1 p).add p).mu[n]? = some q := fun n q m => by
    show (mu.mu ++ [p])[n]? = some q
    rw [List.getElem?_append_left (List.getElem?_eq_some_iff.mp m).1]; exact m
  have vi := fun ds vs l => RlL.lit (K := K) (fa := fa) (H := H) hmu hsub ds vs l
  refine ⟨?_, by simp [Lv.out1, rh.len], fun n ob' q eo m => ?_, fun q hq => ?_⟩
  · show (mu.mu ++ [p]).Nodup
    rw [List.nodup_append]
    exact ⟨rh.nd, by simp, fun a ha b hb => by rw [List.mem_singleton.mp hb]; intro z; exact hn (z ▸ ha)⟩
  · have m' : (mu.mu ++ [p])[n]? = some q := m
    by_cases hl : n < h.length
    · rw [List.getElem?_append_left hl] at eo
      rw [List.getElem?_append_left (by rw [rh.len]; exact hl)] at m'
      exact RO.via rfl vi (rh.at_ n ob' q eo m')
    · have hl' : n = h.length := by
        have : n < (h ++ [ob]).length := (List.getElem?_eq_some_iff.mp eo).1
        simp at this; omega
      subst hl'
      rw [List.getElem?_append_right (Nat.le_refl _)] at eo
      rw [List.getElem?_append_right (by rw [rh.len]; exact Nat.le_refl _), rh.len] at m'
      simp at eo m'
      subst eo m'
      exact RO.via rfl vi ro
  · obtain ⟨hq1, hq2⟩ := List.mem_filter.mp hq
    obtain ⟨a, u, eu⟩ := rh.av q hq1
    refine ⟨fun z => ?_, u, eu⟩
    rcases List.mem_append.mp z with z | z
    · exact a z
    · exact of_decide_eq_true hq2 (List.mem_singleton.mp z)
end
section
variable {X : Cx} {pm : Pm} {W : WX} {a b d : Expr} {ma mb md : EM} {pos : Pos}
/-- the pairs of a display, as they are made -/
def tPsR (K : PySem.W.Frag) (pm : Pm) (W : WX) (m : Ev → Hh → Res (List (D × D) × Hh)) : L2.St → Hp → (List (V × V) → Hp → Prop) → Prop := fun s H Q => ∃ mu r h, RE K pm.fa mu H r s ∧ RH K pm.fa mu h H ∧
  Pst K pm W mu H s (fun ds mu' H' => ∀ vs, RP K pm.fa mu' H' ds vs → Q vs H') (m r h)
/-- they are read so -/
structure PPx (X : Cx) (pm : Pm) (W : WX) (pos : Pos) (keys : List (Option Expr)) (values : List Expr) (m : Ev → Hh → Res (List (D × D) × Hh)) : Prop where
  ex : ∃ trs, PPs X pos keys values trs ∧ ∀ s H Q, tPsR X.K pm W m s H Q → tPairs trs s H Q
theorem RP.grow {K : PySem.W.Frag} {fa : Fa} {mu mu' : Lv} {H H' : Hp} (g : Gr mu H mu' H') : ∀ {ds : List (D × D)} {vs : List (V × V)}, RP K fa mu H ds vs → RP K fa mu' H' ds vs
  | [], _, r => r
  | (a, b) :: ds, _, ⟨x, y, ws, e, ra, rb, r⟩ => ⟨x, y, ws, e, Rl.grow g _ _ ra, Rl.grow g _ _ rb, RP.grow g r⟩
theorem ppx_nil : PPx X pm W pos [] [] (fun _ h => .ok ([], h)) := ⟨[], pps_nil, fun s H Q ⟨mu, r, h, re, rh, p⟩ => p.ok_inv rh [] rfl⟩
theorem ppx_cons {ks : List (Option Expr)} {vs : List Expr} {mr : Ev → Hh → Res (List (D × D) × Hh)} (ha : PE X a (tE X.K pm W ma)) (hb : PE X b (tE X.K pm W mb)) (hr : PPx X pm W pos ks vs mr) :
    PPx X pm W pos (some a :: ks) (b :: vs) (fun r h => ma r h >>= fun x => mb r x.2 >>= fun y => mr r y.2 >>= fun z => .ok ((x.1, y.1) :: z.1, z.2)) := by
  obtain ⟨trs, h1, h2⟩ := hr.ex
  refine ⟨(tE X.K pm W ma, tE X.K pm W mb) :: trs, pps_cons ha hb h1, fun s H Q ⟨mu, r, h, re, rh, p⟩ => ?_⟩
  refine ⟨mu, r, h, re, rh, p.bind.imp fun d1 mu1 H1 _ ⟨g1, h1', rh1, p1⟩ v1 rv1 => ?_⟩
  refine ⟨mu1, r, h1', re.grow g1, rh1, p1.bind.imp fun d2 mu2 H2 _ ⟨g2, h2', rh2, p2⟩ v2 rv2 => ?_⟩
  refine h2 s H2 _ ⟨mu2, r, h2', (re.grow g1).grow g2, rh2, p2.bind.imp fun ds mu3 H3 _ ⟨g3, h3, rh3, p3⟩ vs rp => ?_⟩
  exact p3.ok_inv rh3 _ ⟨v1, v2, vs, rfl, Rl.grow (g2.trans g3) _ _ rv1, Rl.grow g3 _ _ rv2, rp⟩
theorem ex_dkd {keys : List (Option Expr)} {values : List Expr} {m : Ev → Hh → Res (List (D × D) × Hh)} (hp : PPx X pm W pos keys values m) (hall : keys.all (·.isSome) = true) (hl : keys.length = values.length) (h0 : keys ≠ []) (h15 : keys.length ≤ 15) :
    PE X (.Dict keys values pos) (tE X.K pm W fun r h => m r h >>= fun x => (match pairsK x.1 with
    | some kvs => if kvs.length ≤ 15 then .ok (.ref x.2.length, x.2 ++ [.dk (mergK [] kvs)]) else .fail
    | none => .fail)) := by
  obtain ⟨trs, h1, h2⟩ := hp.ex
  refine PE.mono (pe_disp h1 hall hl h0 h15) fun s H Q ⟨mu, r, h, re, rh, p⟩ q hq => ?_
  refine h2 s _ _ ⟨mu.hid q, r, h, re.grow (Gr.hid hq), rh.hid hq, ?_⟩
  dsimp only at p
  cases e : m r h with
  | fail => rw [e] at p; exact p.elim
  | exc c h' =>
    rw [e] at p
    exact fun mu' H' g rh' => p mu' H' ((Gr.hid hq).trans g) rh'
  | ok x =>
    obtain ⟨ds, h2⟩ := x
    rw [e] at p
    intro mu' H' g rh' vps rp
    have p' : Pst X.K pm W mu H s (fun d mu' H' => ∀ v, Rl X.K pm.fa mu' H' d v → Q v H') (match pairsK ds with
      | some kvs => if kvs.length ≤ 15 then .ok (.ref h2.length, h2 ++ [.dk (mergK [] kvs)]) else .fail
      | none => .fail) := p
    have hqn : q ∉ mu.mu := fun z => rh.new hq (.inl z)
    have eq : H' q = some (.dK []) := g.st q _ upd_same hqn
    have hqav : q ∈ mu'.av := by
      obtain ⟨nv, en, _⟩ := g.av
      rw [en]
      exact List.mem_append_right _ List.mem_cons_self
    have hqa : q ∉ mu.av := fun z => by
      obtain ⟨_, u, eu⟩ := rh.av q z
      rw [hq] at eu; cases eu
    split at p'
    rotate_left
    · exact p'.elim
    rename_i kds ek
    split at p'
    rotate_left
    · exact p'.elim
    rename_i hz
    obtain ⟨kws, rfl, rk⟩ := pairsK_rl ek rp
    refine ⟨eq, kws, rfl, by rw [← rk.length]; exact hz, ?_⟩
    have rm := mergK_rl rk (RlK.nil (κ := Key))
    have g1 : Gr mu H mu' (upd H' q (.dK (mergeK [] kws))) := ((Gr.hid hq).trans g).hidW hq
    have rh1 : RH X.K pm.fa mu' h2 (upd H' q (.dK (mergeK [] kws))) := rh'.hidW hqav
    have ro : RO X.K pm.fa mu' (upd H' q (.dK (mergeK [] kws))) q (.dk (mergK [] kds)) := ⟨_, upd_same, rm.1, RlL.hidW hqav upd_off _ _ rm.2⟩
    refine p' _ _ (g1.lift hqa hq) (rh1.liftD hqav ro) _ (Rl.ref.mpr ⟨q, rfl, ?_⟩)
    show (mu'.mu ++ [q])[h2.length]? = some q
    rw [← rh'.len, List.getElem?_append_right (Nat.le_refl _)]
    simp
end
end Fx
set_option Elab.async false
set_option linter.all false
namespace Fx
open PySem PySem.Spec PyProof.Rows L2

/-! ## sorted -/
section
variable {prog : Program} {w : World} {A : Around} {E : Value → Shared → Prop} {s : Shared} {β : Type} {R : Value → β → Prop} {enc : β → PyData} {bs : List β}
theorem collect_tup {l : Addr} {vs : List Value} {Q : List Value → Shared → Prop} (hl : IsTup s.heap l vs.toArray)
    (h : Q vs { s with heap := (s.heap.push (seqObj "list" #[] 0)).update s.heap.objs.size (Obj.mapSeq (· ++ vs.toArray)) }) (hsz : vs.length ≤ sizeLine) :
    wpAny (model prog w) A (collect (.ref l)) Q E s := by
  obtain ⟨o, ho, hc, n, hd⟩ := id hl
  unfold collect
  refine wpAny_bind (wpAny_runValue (codeAny_builtin entry_proto_collect' ?_))
  show wpAny _ _ (do again (.builtin "list.__iadd__" ⟨[← newList [], .ref l], []⟩)) _ _ s
  refine wpAny_bind (wpAny_newList (wpAny_pure ⟨Code.quiet_builtin _ (by decide +kernel), codeAny_builtin entry_list_iadd' ?_⟩))
  show wpAny _ _ (Builtin.List.listExtendWith (.ref s.heap.objs.size) (.ref l) (.ref s.heap.objs.size)) _ _ { s with heap := s.heap.push (seqObj "list" #[] 0) }
  unfold Builtin.List.listExtendWith
  have ho' : (s.heap.push (seqObj "list" #[] 0)).get? l = some o := Heap.get?_push_of_some _ ho
  refine wpAny_bind (wpAny_typeOf (T := "tuple") ⟨o, ho', hc⟩ ?_)
  have ht : (Value.type "tuple" == Value.type "tuple") = true := by rfl
  rw [if_pos (by rw [ht]; simp)]
  refine wpAny_bind (listItems_at ho' hd ?_)
  refine wpAny_bind (listItems_at (xs := #[]) (n := 0) (Heap.get?_push_size _ rfl) rfl ?_)
  rw [if_neg (by simp)]
  refine wpAny_bind (listUpdate_at (xs := #[]) (n := 0) (Heap.get?_push_size _ rfl) rfl ?_ (Nat.zero_le _) (by show (#[] ++ vs.toArray).size ≤ sizeLine + 1; simp only [Array.size_append, List.size_toArray, List.length_nil]; omega))
  refine wpAny_pure ?_
  show wpAny (model prog w) A (do
      let o ← load s.heap.objs.size
      match o.data with
      | .seq xs _ => pure xs.toList
      | _ => unsupported "internal:collect") Q E { s with heap := (s.heap.push (seqObj "list" #[] 0)).update s.heap.objs.size (Obj.mapSeq (· ++ vs.toArray)) }
  refine wpAny_bind (wpAny_load (get?_update_seq (Heap.get?_push_size _ rfl) _) ?_)
  show wpAny _ _ (pure ((#[] : Array Value) ++ vs.toArray).toList) Q E _
  rw [show ((#[] : Array Value) ++ vs.toArray).toList = vs by simp]
  exact wpAny_pure h
theorem sorted_of_sortG {l : Addr} {vs : List Value} {Q : Value → Shared → Prop} (hcl : ∀ {Q : List Value → Shared → Prop} {E : Value → Shared → Prop} {A : Around}, Q vs { s with heap := (s.heap.push (seqObj "list" #[] 0)).update s.heap.objs.size (Obj.mapSeq (· ++ vs.toArray)) } → wpAny (model prog w) A (collect (.ref l)) Q E s) (hL : vs.length ≤ sizeLine)
    (body : ∀ E' : Value → Shared → Prop, wpAny (model prog w) A.in1.in1 (Builtin.«list.sort» ⟨[.ref (s.heap.objs.size + 1)], []⟩) (fun f s' => f = .done (.ret .none) ∧ Q (.ref (s.heap.objs.size + 1)) s') E' { s with heap := PySem.W.copyHeap s.heap vs }) :
    wpAny (model prog w) A (call (.builtin "sorted") [.ref l] []) Q E s := by
  refine call_function_entry_kw kind_sorted plain_sorted entry_sorted (args_sorted1 _) ?_
  unfold Builtin.«sorted»
  refine wpAny_bind (m := checkCount "sorted" 1 1 _) (wpAny_pure ?_)
  refine wpAny_bind (hcl ?_)
  refine wpAny_bind (wpAny_newList ?_ hL)
  have hsz : ((s.heap.push (seqObj "list" #[] 0)).update s.heap.objs.size (Obj.mapSeq (· ++ vs.toArray))).objs.size = s.heap.objs.size + 1 := by
    rw [Heap.size_update, size_push']
  show wpAny _ _ _ _ _ { s with heap := PySem.W.copyHeap s.heap vs }
  rw [hsz]
  refine wpAny_bind (wpAny_holding (wpAny_call_entry_kw slot_list_sort ⟨_, PySem.W.copyHeap_at s.heap vs, rfl⟩ entry_list_sort ?body (args_list_sort _)))
  case body =>
    show wpAny (model prog w) A.in1.in1 (Builtin.«list.sort» ⟨[.ref (s.heap.objs.size + 1)], []⟩) _ _ _
    refine wpAny_mono (body _) (fun f s' hf => ?_) fun _ _ e => e
    obtain ⟨rfl, hq⟩ := hf
    exact ⟨_, rfl, wpAny_pure ⟨_, rfl, hq⟩⟩
theorem sorted_dataG {l : Addr} {vs : List Value} {Q : Value → Shared → Prop} (hcl : ∀ {Q : List Value → Shared → Prop} {E : Value → Shared → Prop} {A : Around}, Q vs { s with heap := (s.heap.push (seqObj "list" #[] 0)).update s.heap.objs.size (Obj.mapSeq (· ++ vs.toArray)) } → wpAny (model prog w) A (collect (.ref l)) Q E s) (e : PySem.W.EachIs R vs bs) (er : PySem.W.EachIs (fun v b => ∃ as, Reads s.heap v (enc b) as) vs bs) (hal : PySem.W.AllAlike (bs.map enc)) (hk : PySem.W.Sortable (bs.map enc)) (hL : bs.length ≤ sizeLine)
    (hu : ∀ b, b ∈ bs → A.units + 2 + (enc b).depth < cLine) (h : ∀ out, out.length = bs.length → PySem.W.EachIs R out (bs.mergeSort (PySem.W.dataLe false enc)) → Q (.ref (s.heap.objs.size + 1)) { s with heap := sortedAll s.heap vs (List.toArray out) }) :
    wpAny (model prog w) A (call (.builtin "sorted") [.ref l]) Q E s := by
  have er' : PySem.W.EachIs (fun v b => ∃ as, Reads (PySem.W.sortingHeap (PySem.W.copyHeap s.heap vs) (s.heap.objs.size + 1) vs) v (enc b) as) vs bs := er.mono fun _ _ ⟨as, r⟩ => ⟨as, PyProof.Rows.Reads.keeps (fun _ _ => PySem.W.sorting_copy_old) r⟩
  have hL' : vs.length ≤ sizeLine := by rw [e.length]; exact hL
  have S := PySem.W.SortsAt.data (prog := prog) (w := w) (A := A.in1.in1) (s := { s with heap := PySem.W.sortingHeap (PySem.W.copyHeap s.heap vs) (s.heap.objs.size + 1) vs }) (PySem.W.each_map (R := fun v d => ∃ as, Reads (PySem.W.sortingHeap (PySem.W.copyHeap s.heap vs) (s.heap.objs.size + 1) vs) v d as) enc er') hal hk (PySem.W.bound_map hu)
  refine sorted_of_sortG hcl hL' fun E' => PySem.W.list_sort_vals (s := { s with heap := PySem.W.copyHeap s.heap vs }) (PySem.W.copyHeap_at s.heap vs) S hL' ⟨rfl, ?_⟩
  exact h _ (by rw [PySem.W.sortVals_length false rfl]; exact e.length) (PySem.W.sortVals_data false e er' hal)
end
section
variable {K : PySem.W.Frag} {fa : Fa} {mu : Lv} {H : Hp} {h : Hh}
def RlU (K : PySem.W.Frag) (fa : Fa) (mu : Lv) (H : Hp) (u : Value) (d : D) : Prop := ∃ v, RelV v u ∧ Rl K fa mu H d v
theorem each_of : ∀ {vs : List V} {us : List Value} {ds : List D}, Vals vs us → RlL K fa mu H ds vs → PySem.W.EachIs (RlU K fa mu H) us ds
  | _, _, [], r, l => by cases l.nil_inv; cases r; exact .nil
  | _, _, d :: ds, r, l => by
    obtain ⟨v, ws, rfl, a, b⟩ := l.inv
    cases r with
    | cons ru rt => exact .cons ⟨v, ru, a⟩ (each_of rt b)
theorem each_to : ∀ {us : List Value} {ds : List D}, PySem.W.EachIs (RlU K fa mu H) us ds → ∃ vs, Vals vs us ∧ RlL K fa mu H ds vs
  | _, _, .nil => ⟨[], .nil, .nil⟩
  | _, _, .cons ⟨v, ru, a⟩ t => by
    obtain ⟨vs, r, l⟩ := each_to t
    exact ⟨v :: vs, .cons ru r, .cons a l⟩
theorem srtOk_use {xs : List D} (e : srtOk xs = true) : plnL xs = true ∧ depL xs ≤ 50 ∧ xs.length ≤ 1000000 ∧ PySem.W.AllAlike (xs.map cv) ∧ PySem.W.Sortable (xs.map cv) := by
  unfold srtOk at e
  simp only [Bool.and_eq_true, Bool.or_eq_true, decide_eq_true_eq, List.all_eq_true] at e
  obtain ⟨⟨⟨⟨a, b⟩, c⟩, d⟩, f⟩ := e
  refine ⟨a, b, c, fun x hx y hy => ?_, ?_⟩
  · obtain ⟨x', hx', rfl⟩ := List.mem_map.mp hx
    obtain ⟨y', hy', rfl⟩ := List.mem_map.mp hy
    exact d x' hx' y' hy'
  · rcases f with f | f
    · refine .inl fun x hx => ?_
      obtain ⟨x', hx', rfl⟩ := List.mem_map.mp hx
      have := f x' hx'
      cases x' with
      | tup ys =>
        cases ys with
        | nil => simp [tupB] at this
        | cons y ys => exact ⟨cv y, cvL ys, by simp [cv, cvL]⟩
      | _ => simp [tupB] at this
    · refine .inr fun x hx => ?_
      obtain ⟨x', hx', rfl⟩ := List.mem_map.mp hx
      have h1 := f x' hx'
      have hp : ∀ (xs : List D), plnL xs = true → ∀ x ∈ xs, pln x = true := by
        intro xs
        induction xs with
        | nil => intro _ x hx; simp at hx
        | cons y ys ih =>
          intro hp x hx
          simp only [plnL, Bool.and_eq_true] at hp
          rcases List.mem_cons.mp hx with rfl | hx
          · exact hp.1
          · exact ih hp.2 x hx
      have h2 := hp _ a x' hx'
      cases x' with
      | non => simp [othB] at h1
      | tup _ => simp [othB] at h1
      | ref _ => simp [pln] at h2
      | fn _ => simp [pln] at h2
      | exc _ => simp [pln] at h2
      | pr _ _ => simp [pln] at h2
      | bl _ => exact ⟨by simp [cv], fun _ => by simp [cv]⟩
      | int _ => exact ⟨by simp [cv], fun _ => by simp [cv]⟩
      | str _ => exact ⟨by simp [cv], fun _ => by simp [cv]⟩
      | lst _ => exact ⟨by simp [cv], fun _ => by simp [cv]⟩
      | scr _ => exact ⟨by simp [cv], fun _ => by simp [cv]⟩
theorem dep_mem : ∀ {xs : List D} {x : D}, x ∈ xs → dep x ≤ depL xs
  | y :: ys, x, h => by
    simp only [depL]
    rcases List.mem_cons.mp h with rfl | h
    · exact Nat.le_max_left _ _
    · exact Nat.le_trans (dep_mem h) (Nat.le_max_right _ _)
theorem pln_mem : ∀ {xs : List D} {x : D}, plnL xs = true → x ∈ xs → pln x = true
  | y :: ys, x, hp, h => by
    simp only [plnL, Bool.and_eq_true] at hp
    rcases List.mem_cons.mp h with rfl | h
    · exact hp.1
    · exact pln_mem hp.2 h
end
section
variable {X : Cx} {fa : Fa}
theorem sorted_ok {m : Bool} (hu : X.A.units + 65 < cLine) : CallR X (.builtin "sorted") (rC X.K fa (fun ds h => one ds fun d => srtD m d h)) := by
  intro pins s σ H vs us Q I r h
  obtain ⟨mu, h, ds, d, h', rh, rl, e, q⟩ := h
  obtain ⟨d0, rfl, e1⟩ := one_inv e
  obtain ⟨v, rfl, rv⟩ := rl.one_inv
  unfold srtD at e1
  split at e1
  rotate_left
  · cases e1
  rename_i xs z
  obtain ⟨hok, e2⟩ := if_inv' e1
  obtain ⟨hpl, hdp, hln, hal, hso⟩ := srtOk_use hok
  obtain ⟨p, ws, rfl, hs, l⟩ := seq_use rh rv z
  obtain ⟨u, rfl, ru⟩ := vals1 r
  obtain rfl : u = Value.ref p := ru
  have key : ∀ its : List Value, Vals ws its → (∀ {Q : List Value → Shared → Prop} {E : Value → Shared → Prop} {A : Around}, Q its { s with heap := (s.heap.push (seqObj "list" #[] 0)).update s.heap.objs.size (Obj.mapSeq (· ++ its.toArray)) } → wpAny (model X.prog X.w) A (collect (.ref p)) Q E s) →
      wpAny (model X.prog X.w) X.A (call (.builtin "sorted") [.ref p]) (EP X pins σ Q) X.xe s := by
    intro its rvs hcl
    have lz : xs.length ≤ sizeLine := Nat.le_trans hln (by decide)
    have eR := each_of (K := X.K) (fa := fa) (mu := mu) (H := H) rvs l
    have eD : PySem.W.EachIs (fun v b => ∃ as, Reads s.heap v (cv b) as) its xs := (PySem.W.each_mem eR).mono fun u b ⟨⟨v, r1, r2⟩, hm⟩ => Dp.reads I (cv b) v u (dp_of b v (pln_mem hpl hm) r2) r1
    refine sorted_dataG (R := RlU X.K fa mu H) (enc := cv) (bs := xs) hcl eR eD hal hso lz (fun b hb => ?_) fun out ho eo => ?_
    · rw [dep_cv]
      have := dep_mem hb
      omega
    · obtain ⟨vs', r', l'⟩ := each_to eo
      obtain ⟨n, hn⟩ := sortedAll_at s.heap its out.toArray
      have hnone : H (s.heap.objs.size + 1) = none := I.hok.fresh (Nat.le_succ _)
      refine ⟨.ref (s.heap.objs.size + 1), upd H (s.heap.objs.size + 1) (.lst vs'), I.laid (t' := s.toks) (fun b o e => sortedAll_old e) (Nat.le_succ _) ⟨?_, out, n, r', hn⟩, rfl, mk_use rh l' e2 q _ hnone⟩
      rw [← l'.length, (List.mergeSort_perm _ _).length_eq]
      exact lz
  rcases hs with hs | hs
  · obtain ⟨its, rvs, hl, hz⟩ := I.list hs
    exact key its rvs fun {Q E A} h => collect_list hl.isList h (by rw [← rvs.length]; exact hz)
  · obtain ⟨its, rvs, hl, hz⟩ := I.tuple hs
    exact key its rvs fun {Q E A} h => collect_tup hl h (by rw [← rvs.length]; exact hz)
end
section
variable {X : Cx} {pm : Pm} {W : WX} {a b d : Expr} {ma mb md : EM} {pos : Pos}
theorem ex_srt {m : Bool} {x : Str} {p : Pos} (hu : X.A.units + 65 < cLine) (hx : x = "sorted") (hg : Gl X x) (hm : X.mg x = none) (ha : PE X a (tE X.K pm W ma)) (he : starEach [a] X.env = (false, eval a X.env) :: starEach [] X.env) :
    PE X (.Call (.Name x p) [a] [] pos) (tE X.K pm W fun r h => ma r h >>= fun x => nox (srtD m x.1 x.2)) := by
  subst hx
  have := ex_biB (pm := pm) (W := W) (pos := pos) (p := p) (sorted_ok (fa := pm.fa) (m := m) hu) hg hm (by decide +kernel) (ex_cons ha ex_nil he) (by decide) (by decide) he rfl
  refine PE.mono this fun s H Q ⟨mu, r, h, re, rh, p⟩ => ⟨mu, r, h, re, rh, ?_⟩
  dsimp only at p ⊢
  cases e : ma r h with
  | ok x => rw [e] at p; exact p
  | exc c h' => rw [e] at p; exact p
  | fail => rw [e] at p; exact p
end
/-! ## len(set(t)) -/
theorem nd_len : ∀ {l m : List Int}, l.Nodup → (∀ x ∈ l, x ∈ m) → l.length ≤ m.length
  | [], _, _, _ => Nat.zero_le _
  | x :: l, m, h, k => by
    obtain ⟨h1, h2⟩ := List.nodup_cons.mp h
    have hx := k x List.mem_cons_self
    have := nd_len (l := l) (m := m.erase x) h2 fun y hy => (List.mem_erase_of_ne (fun z : y = x => h1 (z ▸ hy))).mpr (k y (List.mem_cons_of_mem _ hy))
    rw [List.length_erase_of_mem hx] at this
    have hp : 0 < m.length := List.length_pos_of_mem hx
    rw [List.length_cons]
    omega
theorem dst_mem : ∀ {l : List Int} {x : Int}, x ∈ dst l ↔ x ∈ l
  | [], x => by simp [dst]
  | y :: l, x => by
    simp only [dst]
    split
    · rename_i h
      have hy := dst_mem.mp (List.contains_iff_mem.mp h)
      rw [dst_mem, List.mem_cons]
      exact ⟨.inr, fun z => z.elim (fun e => e ▸ hy) id⟩
    · rw [List.mem_cons, List.mem_cons, dst_mem]
theorem dst_nodup : ∀ l : List Int, (dst l).Nodup
  | [] => by simp [dst]
  | y :: l => by
    simp only [dst]
    split
    · exact dst_nodup l
    · rename_i h
      exact List.nodup_cons.mpr ⟨fun z => h (List.contains_iff_mem.mpr z), dst_nodup l⟩
theorem dst_same {l m : List Int} (h : l.Nodup) (k : ∀ x, x ∈ l ↔ x ∈ m) : l.length = (dst m).length :=
  Nat.le_antisymm (nd_len h fun x hx => dst_mem.mpr ((k x).mp hx)) (nd_len (dst_nodup m) fun x hx => (k x).mpr (dst_mem.mp hx))
theorem ints_vals : ∀ {ns : List Int} {us : List Value}, Vals (ns.map V.int) us → PyProof.Rows.IntsAre us ns
  | [], _, .nil => .nil
  | n :: ns, _, .cons r t => by
    obtain ⟨k, rfl⟩ := r
    exact .cons n k (ints_vals t)
def tLenSetT (K : PySem.W.Frag) (ta : TE) : TE := fun σ H Q => ta σ H fun x H1 => ∃ (l : Addr) (ns : List Int), x = .ref l ∧ SqT K H1 l (ns.map V.int) ∧ ns.length ≤ 4000 ∧ Q (.int ((dst ns).length : Nat)) H1
theorem pe_lenSetT {X : Cx} {a : Expr} {ta : TE} {p p2 q pos : Pos} (hg : Gl X "len") (hm : X.mg "len" = none) (hg2 : Gl X "set") (hm2 : X.mg "set" = none) (ha : PE X a ta) (hc : X.calm = true)
    (na : starEach [a] X.env = (false, eval a X.env) :: starEach [] X.env) : PE X (.Call (.Name "len" p) [.Call (.Name "set" p2) [a] [] q] [] pos) (tLenSetT X.K ta) := by
  refine ⟨fun pins s σ H Q I h => ?_⟩
  refine Call_ (ld_blt I hg hm boot_len ?_)
  refine PyProof.Rows.callWith_builtin1 (PyProof.Rows.args_cons ?_ rfl) rfl rfl
  refine Call_ (ld_blt I hg2 hm2 boot_set ?_)
  refine PyProof.Rows.callWith_type1 (PyProof.Rows.args_cons (thn (ha.run pins s σ H _ I h) fun v s1 ⟨x, H1, I1, r1, q1⟩ => PyProof.Rows.args_nil ?_) na) na rfl
  obtain ⟨l, ns, rfl, hq, hl, q1⟩ := q1
  cases r1
  obtain ⟨its, r, pl, hz⟩ := I1.tuple hq
  refine call_set_tupI ns (I1.ok.hd hc) pl (by simpa using ints_vals r) (by unfold scanBound; omega) fun h' tk c hS hcn hk => ?_
  refine PyProof.Rows.args_nil ?_
  obtain ⟨o, es, ep, t, ho, hex, hd, _, hnd, hmem, _, hf, hn, _⟩ := hS
  have hc2 : es.size = (dst ns).length := by
    have := dst_same (m := ns) hnd fun k => (hmem k).symm.trans (by simp)
    rw [← this, List.length_map, Array.length_toList]
  have I2 : Inv X pins σ H1 { s1 with heap := h', toks := tk } := I1.kept hk
  exact call_len_set ho hex hd hf (by rw [hn]; omega) ⟨.int (dst ns).length, H1, I2.tok _, ⟨_, by rw [hc2]⟩, q1⟩
section
variable {X : Cx} {pm : Pm} {W : WX} {a b d : Expr} {ma mb md : EM} {pos : Pos}
theorem ex_lset {p p2 q : Pos} (hc : X.calm = true) (hg : Gl X "len") (hm : X.mg "len" = none) (hg2 : Gl X "set") (hm2 : X.mg "set" = none) (ha : PE X a (tE X.K pm W ma))
    (na : starEach [a] X.env = (false, eval a X.env) :: starEach [] X.env) :
    PE X (.Call (.Name "len" p) [.Call (.Name "set" p2) [a] [] q] [] pos) (tE X.K pm W fun r h => ma r h >>= fun x => (match x.1 with
    | .tup xs => (match intL xs with
      | some ns => if ns.length ≤ 4000 then .ok (.int ((dst ns).length : Nat), x.2) else .fail
      | none => .fail)
    | _ => .fail)) := by
  refine PE.mono (pe_lenSetT hg hm hg2 hm2 ha hc na) fun s H Q q => tE_bind (f := fun x => (match x.1 with
    | .tup xs => (match intL xs with
      | some ns => if ns.length ≤ 4000 then .ok (.int ((dst ns).length : Nat), x.2) else .fail
      | none => .fail)
    | _ => .fail)) q fun mu r h d v H re rh rv p => ?_
  dsimp only at p
  cases d with
  | tup xs =>
    dsimp only at p
    split at p
    rotate_left
    · exact p.elim
    rename_i ns hns
    split at p
    rotate_left
    · exact p.elim
    rename_i hz
    obtain ⟨q, vs, rfl, _, e, l⟩ := Rl.tup.mp rv
    have ev := ints_rl hns l
    subst ev
    exact ⟨q, ns, rfl, e.sq, hz, p.ok_inv rh _ (Rl.int.mpr rfl)⟩
  | _ => exact p.elim
end
end Fx
set_option Elab.async false
set_option linter.all false
namespace Fx
open PySem PySem.Spec PyProof.Rows L2

/-! ## the first place of a number in a tuple -/
theorem flat_ints (ys : List Int) : (ys.map V.int).all flatV = true := by
  rw [List.all_map]
  exact List.all_eq_true.mpr fun _ _ => rfl
section
variable {X : Cx}
theorem mt_tup_indexI : MtR X "tuple.index" (fun x xs H Q => ∃ p, ∃ ys : List Int, ∃ z j, x = .ref p ∧ xs = [.int z] ∧ SqT X.K H p (ys.map V.int) ∧ ys[j]? = some z ∧ (∀ m, m < j → ys[m]? ≠ some z) ∧ Q (.int (j : Nat)) H) := by
  intro pins s σ H x xs v us Q I rx rs h
  obtain ⟨p, ys, z, j, rfl, rfl, hq, hy, hno, q⟩ := h
  cases rx
  obtain ⟨u, rfl, t, rfl⟩ := vals1 rs
  obtain ⟨its, r, pl, hz⟩ := I.tuple hq
  obtain ⟨⟨cls, dd, dt, sl⟩, ho, hc, n, hd⟩ := pl
  simp only at hc hd
  subst hc
  subst hd
  have hl : its.toArray.size = ys.length := by rw [List.size_toArray, ← r.length, List.length_map]
  have hj : j < its.toArray.size := by rw [hl]; exact (List.getElem?_eq_some_iff.mp hy).1
  have at' : ∀ (m : Nat) (hm : m < its.toArray.size), ∃ y t', ys[m]? = some y ∧ its.toArray[m] = Value.int y t' := fun m hm => by
    have hm' : m < ys.length := by rw [← hl]; exact hm
    obtain ⟨w, hw, t', hw'⟩ := r.get (i := m) (x := .int ys[m]) (by simp [hm'])
    refine ⟨ys[m], t', List.getElem?_eq_getElem hm', ?_⟩
    have e := (List.getElem?_eq_some_iff.mp hw).2
    rw [← hw', ← e]
    simp
  refine call_meets PySem.F.slot_tuple_index ⟨_, ho, rfl⟩ PySem.F.entry_tuple_index (PySem.F.args_tuple_index_2 _ _) (TI.tuple_indexAt p its.toArray n dd sl (.int z t) (eqU (.int z)) j hj ?_ ?_)
    ⟨ho, fun w hw => mem_eqAt (x := .int z) ⟨t, rfl⟩ rfl r (flat_ints ys) w (by simpa using hw), ⟨.int (j : Nat), H, I.tok _, ⟨_, rfl⟩, q⟩⟩
  · obtain ⟨y, t', h1, h2⟩ := at' j hj
    rw [hy] at h1
    cases h1
    rw [h2]
    show (z == z) = true
    exact beq_self_eq_true z
  · intro m hm hmj
    obtain ⟨y, t', h1, h2⟩ := at' m hm
    rw [h2]
    show (y == z) = false
    exact beq_eq_false_iff_ne.mpr fun e => hno m hmj (e ▸ h1)
end
theorem pe_tix {X : Cx} {o e : Expr} {apos cpos : Pos} {td ty : TE} (ho : PE X o td) (he : PE X e ty) (m : M1 X o "index" apos e cpos) :
    PE X (.Call (.Attribute o "index" apos) [e] [] cpos) (fun σ H Q => td σ H fun x H1 => ∃ a vs, x = .ref a ∧ TupN (H1 a) vs ∧ ty σ H1 fun y H2 => ∃ (ys : List Int) (z : Int) (j : Nat), y = .int z ∧ SqT X.K H2 a (ys.map V.int) ∧ ys[j]? = some z ∧ (∀ m, m < j → ys[m]? ≠ some z) ∧ Q (.int (j : Nat)) H2) := by
  refine ⟨fun pins s σ H Q I h => ?_⟩
  refine wpAny_Call_method m.base m.few m.line PySem.F.plainAttrs_tuple PySem.F.slot_tuple_index PySem.F.type_tuple_index (thn (ho.run pins s σ H _ I h) fun u s1 ⟨x, H1, I1, rx, a, vs, ex, hd, q1⟩ => ?_)
  subst ex
  obtain rfl : u = Value.ref a := rx
  obtain ⟨ob, e1, hdn⟩ := hd
  obtain ⟨g1, _, its, _, o2, e2, c2, _⟩ := I1.hok a _ e1
  have eo : ob = o2 := Option.some.inj (g1.symm.trans e2)
  subst eo
  refine ⟨⟨ob, g1, c2⟩, fun b q => by cases q; exact ⟨ob, g1, hdn⟩, ?_⟩
  rw [m.trees]
  refine Calls.callWith_builtin rfl (Calls.evalArgs_plain (Calls.spliced_cons (thn (he.run pins s1 σ H1 _ I1 q1) fun iv s2 ⟨y, H2, I2, ry, ys, z, j, ey, hq, hj, hno, q2⟩ => Calls.spliced_nil ?_)))
  subst ey
  exact mt_tup_indexI pins s2 σ H2 (.ref a) [.int z] (.ref a) [iv] Q I2 rfl (.cons ry .nil) ⟨a, ys, z, j, rfl, rfl, hq, hj, hno, q2⟩
def tixM (ma mb : EM) : EM := fun r h => ma r h >>= fun x => (match x.1 with
    | .tup xs => mb r x.2 >>= fun y => (match y.1 with
      | .int i => (match intL xs with
        | some ns => (match ns.findIdx? fun j => j == i with | some j => .ok (.int (j : Nat), y.2) | none => .fail)
        | none => .fail)
      | _ => .fail)
    | _ => .fail)
section
variable {X : Cx} {pm : Pm} {W : WX} {a b d : Expr} {ma mb md : EM} {pos : Pos}
theorem ex_tix {ap cp : Pos} (ha : PE X a (tE X.K pm W ma)) (hb : PE X b (tE X.K pm W mb)) (m : M1 X a "index" ap b cp) : PE X (.Call (.Attribute a "index" ap) [b] [] cp) (tE X.K pm W (tixM ma mb)) := by
  refine PE.mono (pe_tix ha hb m) fun s H Q q => tE_bindr (f := fun r x => (match x.1 with
    | .tup xs => mb r x.2 >>= fun y => (match y.1 with
      | .int i => (match intL xs with
        | some ns => (match ns.findIdx? fun j => j == i with | some j => .ok (.int (j : Nat), y.2) | none => .fail)
        | none => .fail)
      | _ => .fail)
    | _ => .fail)) q fun mu r h d v H re rh rv p => ?_
  dsimp only at p
  cases d with
  | tup xs =>
    dsimp only at p
    obtain ⟨a, vs, rfl, hn, e, l⟩ := Rl.tup.mp rv
    refine ⟨a, vs, rfl, e, mu, r, h, re, rh, p.bind.imp fun d2 mu2 H2 _ ⟨g2, h2, rh2, p2⟩ v2 rv2 => ?_⟩
    dsimp only at p2
    cases d2 with
    | int i =>
      dsimp only at p2
      split at p2
      rotate_left
      · exact p2.elim
      rename_i ns hns
      split at p2
      rotate_left
      · exact p2.elim
      rename_i j hj
      have ev := ints_rl hns l
      subst ev
      obtain ⟨hl, hj1, hj2⟩ := List.findIdx?_eq_some_iff_getElem.mp hj
      refine ⟨ns, i, j, Rl.int.mp rv2, (TupN.grow g2 hn e).sq, by rw [List.getElem?_eq_getElem hl]; congr 1; simpa using hj1, fun m hm z => ?_, p2.ok_inv rh2 _ (Rl.int.mpr rfl)⟩
      have := hj2 m hm
      rw [List.getElem?_eq_getElem (by omega)] at z
      exact this (by simpa using Option.some.inj z)
    | _ => exact p2.elim
  | _ => exact p.elim
end
end Fx
set_option Elab.async false
set_option linter.all false
namespace Fx
open PySem PySem.Spec PyProof.Rows L2
/-! ## enumerate(t), t a tuple -/
set_option maxHeartbeats 1000000 in
theorem meets_enum1 {v : Value} {o : Obj} {H : Heap → Prop} (B : Begins v o H) :
    Meets (Builtin.«enumerate.__new__» ⟨[.type "enumerate", v], []⟩) (fun _ R s => H s.heap ∧
      R (.ok (.ret (.ref (s.heap.push o).objs.size))) { s with heap := (s.heap.push o).push { cls := .type "enumerate", data := .fields #[.none, .bool false, .ref s.heap.objs.size, rawInt 0, .none, .none] } }) :=
  .of_wp fun prog w A R s h => by
    obtain ⟨hp, g, d, tk, os⟩ := s; obtain ⟨h1, h⟩ := h
    have hsub := sub_enumerate
    have q1 : ∀ {A' : Around} {E : Value → Shared → Prop} {Q : Value → Shared → Prop}, Q (.ref hp.objs.size) ⟨hp.push o, g, d, tk, os⟩ → wpAny (model prog w) A' (pyIter v) Q E ⟨hp, g, d, tk, os⟩ :=
      fun q => B.iter prog w _ _ ⟨hp, g, d, tk, os⟩ _ h1 q
    wp_walk using q1
    refine wpAny_stack_any fun st => wpAny_pure ?_
    split
    · rename_i c _ _ _ _ _
      cases (c == Value.type "enumerate")
      · wp_walk using q1
        exact ⟨_, rfl, h⟩
      · wp_walk using q1
        exact ⟨_, rfl, h⟩
    · wp_walk using q1
      exact ⟨_, rfl, h⟩
section
variable {prog : Program} {w : World} {A : Around} {E : Value → Shared → Prop} {s : Shared}
theorem enum_begins1 {v : Value} {o : Obj} {H : Heap → Prop} {Q : Value → Shared → Prop} (B : Begins v o H) (h1 : H s.heap)
    (h : ∀ h', IsEnum h' (s.heap.objs.size + 1) s.heap.objs.size 0 .none → h'.get? s.heap.objs.size = some o → h'.objs.size = s.heap.objs.size + 2 →
      (∀ b o, s.heap.get? b = some o → h'.get? b = some o) → Q (.ref (s.heap.objs.size + 1)) { s with heap := h' }) :
    wpAny (model prog w) A (call (.type "enumerate") [v]) Q E s := by
  refine callType_new PySem.F.called_enumerate (by decide) (PySem.F.typeCall_enumerate_1 _) (PySem.F.newCall_enumerate_1 _) (fun obj => PySem.F.args_object_init_2 obj _) PySem.F.entry_enumerate_new
    (meets_enum1 B) ⟨h1, ?_⟩
  have hz : (s.heap.push o).objs.size = s.heap.objs.size + 1 := Heap.size_push ..
  show _ ∧ _
  rw [hz]
  have he : IsEnum ((s.heap.push o).push { cls := .type "enumerate", data := .fields #[.none, .bool false, .ref s.heap.objs.size, rawInt 0, .none, .none] }) (s.heap.objs.size + 1) s.heap.objs.size 0 .none := by
    have := Heap.get?_push_size (s.heap.push o) (o := { cls := .type "enumerate", data := .fields #[.none, .bool false, .ref s.heap.objs.size, rawInt 0, .none, .none] }) rfl
    rw [hz] at this; exact this
  refine ⟨⟨_, he, rfl⟩, h _ he (Heap.get?_push_of_some _ (Heap.get?_push_size _ B.free)) (by rw [Heap.size_push, hz]) fun b o x => Heap.get?_push_of_some _ (Heap.get?_push_of_some _ x)⟩
end
def IteT (K : PySem.W.Frag) (a : Addr) : It :=
  ⟨fun i H => ∃ (xs : List V) (x : V), SqT K H a xs ∧ xs[i]? = some x, fun i H v H' => ∃ T x, v = .ref T ∧ H T = none ∧ H' = upd H T (.tup [.int (i : Nat), x]) ∧ ∀ xs, SqT K H a xs → xs[i]? = some x, fun i H => ∃ xs : List V, SqT K H a xs ∧ xs.length ≤ i⟩
theorem turn_enumT {P : Program} {w : World} {K : PySem.W.Frag} {elts : List Expr} {kk : Nat} {tpos : Pos} (a e it : Addr) :
    Turn P w K (.Tuple elts kk tpos) (IteT K a) [e, it] e (fun i h => (∃ old, IsEnum h e it ((i : Nat) : Int) old) ∧ h.IsTupleIter it a i ∧ e ≠ it ∧ a ≠ it ∧ e ≠ a) where
  mem := by simp
  obj := fun i h st b hb => by
    obtain ⟨⟨old, he⟩, ⟨o, ho, hc, hd⟩, _⟩ := st
    have e' : b = e ∨ b = it := by simpa using hb
    rcases e' with z | z
    · rw [z]; exact ⟨_, he, fun v q => nomatch q⟩
    · rw [z]; exact ⟨o, ho, fun v q => by rw [hd] at q; cases q⟩
  keep := fun i h h' st k => let ⟨⟨old, he⟩, hi, hne⟩ := st; ⟨⟨old, k e (by simp) _ he⟩, hi.at fun o q => k it (by simp) o q, hne⟩
  item := by
    intro X hP hw hK hc i pins s σ H E I hf st hg
    subst hP hw hK
    obtain ⟨⟨old, he⟩, hit, hne, hai, hea⟩ := st
    obtain ⟨xs, x, hq, hx⟩ := hg
    obtain ⟨its, rv, p, hz⟩ := I.tuple hq
    obtain ⟨u, hu, ru⟩ := rv.get hx
    have hel : e < s.heap.objs.size := Heap.lt_size he
    have hil : it < s.heap.objs.size := by obtain ⟨_, q, _⟩ := hit; exact Heap.lt_size q
    have hhd : X.A.in1.handled = none := I.ok.hd hc
    have D := Draws.tuple (prog := X.prog) (w := X.w) (A := X.A.in1) hhd it a hai its.toArray
    have hlt : i < its.toArray.size := by rw [List.size_toArray]; exact (List.getElem?_eq_some_iff.mp hu).1
    refine wpAny_pyNext_enum_itemC D he ⟨hit, p⟩ hlt hne (by simp [hne, hea]) fun x' h' tk hpx ho hst hT hsz hk => ?_
    have ex : x' = u := by
      have : its.toArray[i]? = some u := by simpa using hu
      rw [hpx] at this
      exact Option.some.inj this
    subst ex
    refine ⟨_, rfl, wpAny_letOwnedTupleGo_enum (s := { s with heap := h', toks := tk + 1 }) ho fun h'' he' sb => ?_⟩
    have hT2 : h''.get? s.heap.objs.size = some { cls := .type "tuple", data := .seq #[.int i tk, x'] } := (sb.2 _ (Nat.ne_of_gt hel)).trans hT
    have new : ObjOk X.prog X.w (upd H s.heap.objs.size (.tup [.int (i : Nat), x])) h'' s.heap.objs.size (.tup [.int (i : Nat), x]) :=
      ⟨by show 2 ≤ sizeLine; decide, [.int i tk, x'], .cons ⟨_, rfl⟩ (.cons ru .nil), ⟨_, hT2, rfl, _, rfl⟩⟩
    have I1 : Inv X pins σ (upd H s.heap.objs.size (.tup [.int (i : Nat), x])) { s with heap := h'', toks := tk + 1 } :=
      I.turnedNew (ch := [e, it]) (fun b ob hb q => (sb.2 b (fun z => hb (by simp [z]))).trans (hk b ob (fun z => hb (by simp [z])) (fun z => hb (by simp [z])) q)) hf (Nat.le_refl _) new
    refine ⟨.ref s.heap.objs.size, _, I1, rfl, ⟨_, x, rfl, I.hok.fresh (Nat.le_refl _), rfl, fun ys hy => by rw [I.tuple_inj hy hq]; exact hx⟩, ⟨⟨x', ?_⟩, hst.1.at fun o q => (sb.2 it (Ne.symm hne)).trans q, hne, hai, hea⟩, fun b hb => ?_⟩
    · have e1 : ((i + 1 : Nat) : Int) = (i : Int) + 1 := by omega
      rw [e1]; exact he'
    · have hb' : b < s.heap.objs.size := by
        have e' : b = e ∨ b = it := by simpa using hb
        rcases e' with z | z
        · rw [z]; exact hel
        · rw [z]; exact hil
      rw [upd_ne (Nat.ne_of_lt hb')]
      exact (hf b hb).1
  done := by
    intro X hP hw hK hc i pins s σ H E I hf st hg
    subst hP hw hK
    obtain ⟨⟨old, he⟩, hit, hne, hai, hea⟩ := st
    obtain ⟨xs, hq, hx⟩ := hg
    obtain ⟨its, rv, p, hz⟩ := I.tuple hq
    obtain ⟨f0, f1, f2, f3, f4, f5⟩ := hf it (by simp)
    have hl := rv.length
    have hhd : X.A.in1.handled = none := I.ok.hd hc
    have hTy : s.TypeIs (.ref e) "enumerate" := ⟨_, he, rfl⟩
    unfold pyNext
    refine wpAny_bind (wpAny_attempt (wpAny_callSpecial?_slot (name := Str.ofString "__next__") hTy PySem.F.slot_enumerate_next
      (wpAny_call_entry PySem.F.slot_enumerate_next hTy PySem.F.entry_enumerate_next ?_ (PySem.F.args_enumerate_next_1 _))))
    show wpAny _ _ (field (.ref e) 2 >>= _) _ _ _
    refine wpAny_bind (wpAny_field he rfl (x := .ref it) rfl ?_)
    refine wpAny_bind (wpAny_nextOf_tuple_end hhd hit p (by simp; omega) fun h' x he' hx' => ?_)
    obtain ⟨o, ho, hc⟩ := hx'
    refine wpAny_bind (wpAny_isInstance (T := "StopIteration") (b := true) ⟨o, ho, hc⟩ isSubtype_stop ?_)
    exact wpAny_pure ⟨rfl, I.turned (t' := s.toks) (fun b o hb q => he' b o hb q) f0 f1 f3 f4 f5⟩
  self := fun A i s Q E st h => let ⟨⟨_, he⟩, _⟩ := st; wpAny_pyIter_enum he h
def iEnumT (K : PySem.W.Frag) (ta : TA) : TI := fun σ H R => ta σ H fun vs H1 => ∃ a xs, vs = [.ref a] ∧ SqT K H1 a xs ∧ R (IteT K a) H1
theorem pi_enumT {X : Cx} {e : Expr} {ta : TA} {p pos tpos : Pos} {elts : List Expr} {kk : Nat} (hg : Gl X "enumerate") (hm : X.mg "enumerate" = none) (ha : PA X [e] ta) (hs : starEach [e] X.env = [(false, eval e X.env)]) :
    PI X (.Tuple elts kk tpos) (.Call (.Name "enumerate" p) [e] [] pos) (iEnumT X.K ta) := by
  refine ⟨fun pins s σ H R I h => ?_⟩
  refine Call_ (ld_blt I hg hm boot_enumerate (PyProof.Rows.callWith_type1 (thn (ha.run pos pins s σ H _ I h) fun us s1 ⟨vs, H1, I1, r1, q1⟩ => ?_) hs rfl))
  obtain ⟨a, xs, ex, hq, q⟩ := q1
  subst ex
  cases r1 with
  | cons r rr =>
    cases rr
    cases r
    obtain ⟨its, rv, p', hz⟩ := I1.tuple hq
    have hla : a < s1.heap.objs.size := by obtain ⟨_, q, _⟩ := p'; exact Heap.lt_size q
    refine enum_begins1 (begins_tuple a its.toArray) p' fun h' he hit hsz hk => wpAny_pyIter_enum he ?_
    have I2 : Inv X pins σ H1 { s1 with heap := h' } := I1.kept (t' := s1.toks) hk
    refine ⟨s1.heap.objs.size + 1, [s1.heap.objs.size + 1, s1.heap.objs.size], _, _, H1, rfl, I2, turn_enumT a (s1.heap.objs.size + 1) s1.heap.objs.size, ⟨⟨.none, he⟩, ⟨_, hit, rfl, rfl⟩, Nat.succ_ne_self _, Nat.ne_of_lt hla, Nat.ne_of_gt (Nat.lt_succ_of_lt hla)⟩, fun b hb => ?_, q⟩
    have e' : b = s1.heap.objs.size + 1 ∨ b = s1.heap.objs.size := by simpa using hb
    have hle : s1.heap.objs.size ≤ b := by
      rcases e' with z | z
      · rw [z]; exact Nat.le_add_right _ _
      · rw [z]; exact Nat.le_refl _
    exact I1.fpOk hle (I1.hok.fresh hle)
section
variable {K : PySem.W.Frag} {fa : Fa} {mu mu0 : Lv} {H H0 : Hp} {h : Hh}
theorem serve_enumT {p : Addr} {xs : List D} {vs : List V} (hp : p ∉ mu0) (e : TupN (H0 p) vs) (l : RlL K fa mu0 H0 xs vs) : Serve K fa (IteT K p) (numb 0 xs) none mu0 H0 := by
  intro i mu h H g rh _
  have e' := (TupN.grow g hp e).sq (K := K)
  have l' := RlL.grow g _ _ l
  refine ⟨fun d hd => ?_, fun hl => ⟨vs, e', by rw [← l.length]; rw [numb_len] at hl; exact hl⟩⟩
  obtain ⟨x, hx, rfl⟩ := numb_get hd
  obtain ⟨v, hv, rv⟩ := l'.get hx
  refine ⟨⟨vs, v, e', hv⟩, fun y H' hy => ?_⟩
  obtain ⟨T, x', rfl, hT, rfl, hx'⟩ := hy
  have : v = x' := Option.some.inj (hv.symm.trans (hx' vs e'))
  subst this
  refine ⟨Gr.upd rh hT, rh.upd hT, Rl.pr.mpr ⟨T, _, _, rfl, rh.new hT, upd_same, ?_, Rl.grow (Gr.upd rh hT) _ _ rv⟩⟩
  exact Rl.int.mpr (by simp)
end
section
variable {X : Cx} {pm : Pm} {W : WX} {a : Expr} {ma : EM} {pos : Pos}
theorem it_enumB {p tpos : Pos} {elts : List Expr} {kk : Nat} (hg : Gl X "enumerate") (hm : X.mg "enumerate" = none) (ha : PE X a (tE X.K pm W ma)) (hs : starEach [a] X.env = [(false, eval a X.env)]) :
    PI X (.Tuple elts kk tpos) (.Call (.Name "enumerate" p) [a] [] pos) (tIt X.K pm W fun r h => ma r h >>= fun x => (match x.1 with
    | .lst xs => .ok ((numb 0 xs, none), x.2)
    | .tup xs => .ok ((numb 0 xs, none), x.2)
    | _ => .fail)) := by
  refine PI.mono (PI.or (pi_enum hg hm (pa_cons ha pa_nil hs) hs) (pi_enumT hg hm (pa_cons ha pa_nil hs) hs)) fun s H R ⟨mu, r, h, re, rh, p⟩ => ?_
  cases hm : ma r h with
  | fail => dsimp only at p; rw [hm] at p; exact p.elim
  | exc c h1 => dsimp only at p; rw [hm] at p; exact .inl ⟨mu, r, h, re, rh, by rw [hm]; exact p⟩
  | ok x =>
    obtain ⟨d, h1⟩ := x
    dsimp only at p
    rw [hm] at p
    cases d with
    | lst xs =>
      refine .inl ⟨mu, r, h, re, rh, ?_⟩
      rw [hm]
      intro mu1 H1 g rh1 v rv
      obtain ⟨q, vs, rfl, hp, e, l⟩ := Rl.lst.mp rv
      exact ⟨q, vs, rfl, SqL.of e, p mu1 H1 g rh1 _ (serve_enum hp e l)⟩
    | tup xs =>
      refine .inr ⟨mu, r, h, re, rh, ?_⟩
      rw [hm]
      intro mu1 H1 g rh1 v rv
      obtain ⟨q, vs, rfl, hp, e, l⟩ := Rl.tup.mp rv
      exact ⟨q, vs, rfl, e.sq, p mu1 H1 g rh1 _ (serve_enumT hp e l)⟩
    | _ => exact p.elim
end
end Fx
set_option Elab.async false
set_option linter.all false
namespace Fx
open PySem PySem.Spec PyProof.Rows L2
/-! ## xs[i], ys[j] = a, b -/
section
variable {X : Cx} {pm : Pm} {W : WX} {ea eb o i o' i' : Expr} {ma mb mo mi mo' mi' : EM} {pos p p1 p2 p3 : Pos} {k k2 : Nat}
def setix2M (mo mi mo' mi' ma mb : EM) : SM := fun r h => lft r (ma r h) fun x => lft r (mb r x.2) fun x' => lft r (mo r x'.2) fun y => lft r (mi r y.2) fun z => nox (setixD y.1 z.1 x.1 z.2) >>= fun h1 =>
      lft r (mo' r h1) fun y' => lft r (mi' r y'.2) fun z' => nox (setixD y'.1 z'.1 x'.1 z'.2) >>= fun h2 => .ok (.nx r h2)
theorem st_setix2 (hc : X.calm = true) (ha : PE X ea (tE X.K pm W ma)) (hb : PE X eb (tE X.K pm W mb)) (ho : PE X o (tE X.K pm W mo)) (hi : PE X i (tE X.K pm W mi)) (ho' : PE X o' (tE X.K pm W mo')) (hi' : PE X i' (tE X.K pm W mi'))
    (s1 : starEach (ea :: [eb]) X.env = (false, eval ea X.env) :: starEach [eb] X.env) (s2 : starEach (eb :: []) X.env = (false, eval eb X.env) :: starEach [] X.env)
    (hs : swapsWithSole [.Tuple [.Subscript o i p1, .Subscript o' i' p2] k p] (.Tuple [ea, eb] k2 p3) pos.line X.env = pure false) (hw : swappedStores [.Tuple [.Subscript o i p1, .Subscript o' i' p2] k p] (.Tuple [ea, eb] k2 p3) X.env = pure none)
    (a1 : ∀ v, assign (.Subscript o i p1) X.env v = (do
      let ov ← holding [v] (eval o X.env)
      let iv ← holding [v, ov] (eval i X.env)
      standAt p1
      holding [v, ov, iv] (setItem ov iv v)
      release [v, ov, iv] []))
    (a2 : ∀ v, assign (.Subscript o' i' p2) X.env v = (do
      let ov ← holding [v] (eval o' X.env)
      let iv ← holding [v, ov] (eval i' X.env)
      standAt p2
      holding [v, ov, iv] (setItem ov iv v)
      release [v, ov, iv] [])) :
    PS X (.Assign [.Tuple [.Subscript o i p1, .Subscript o' i' p2] k p] (.Tuple [ea, eb] k2 p3) pos) (tSm X.K pm W (setix2M mo mi mo' mi' ma mb)) := by
  have hg := pg_tup (k := k) (pos := p) hc (pgs_cons (pg_sub ho hi (setix_ok (pm := pm)) a1) (pgs_cons (pg_sub ho' hi' (setix_ok (pm := pm)) a2) pgs_nil))
  refine PS.mono (ps_asg (pe_tupF (pa_cons ha (pa_cons hb pa_nil s2) s1)) hg hs hw rfl) fun D s H ⟨mu, r, h, re, rh, q⟩ => ?_
  refine ⟨mu, r, h, re, rh, (lft_bind q re).imp fun d1 mu1 H1 _ ⟨g1, h1, rh1, q1⟩ v1 rv1 => ?_⟩
  have re1 := re.grow g1
  refine ⟨mu1, r, h1, re1, rh1, (lft_bind q1 re1).imp fun d2 mu2 H2 _ ⟨g2, h2, rh2, q2⟩ v2 rv2 => ?_⟩
  refine ⟨by show 2 ≤ sizeLine; decide, fun a ob hn hd => ?_⟩
  have g3 := Gr.upd (o := .frz ob (.tup [v1, v2])) rh2 hn
  have rh3 := rh2.upd (o := .frz ob (.tup [v1, v2])) hn
  have rv1' := Rl.grow g3 _ _ (Rl.grow g2 _ _ rv1)
  have rv2' := Rl.grow g3 _ _ rv2
  have re3 := (re1.grow g2).grow g3
  refine ⟨a, [v1, v2], rfl, .inl (.inr ⟨ob, upd_same⟩), rfl, v1, [v2], rfl, ?_⟩
  refine ⟨mu2, r, h2, re3, rh3, (lft_bind (q2.grow g3) re3).imp fun d3 mu4 H4 _ ⟨g4, h4, rh4, q4⟩ v3 rv3 => ?_⟩
  have re4 := re3.grow g4
  refine ⟨mu4, r, h4, re4, rh4, (lft_bind q4 re4).imp fun d4 mu5 H5 _ ⟨g5, h5, rh5, q5⟩ v4 rv4 => ?_⟩
  have re5 := re4.grow g5
  dsimp only at q5
  cases es : setixD d3 d4 d1 h5 with
  | ok h6 =>
    rw [es] at q5
    refine ⟨mu5, h5, d3, d4, d1, h6, rh5, Rl.grow g5 _ _ rv3, rv4, Rl.grow (g4.trans g5) _ _ rv1', es, fun H6 g6 rh6 => ?_⟩
    have re6 := re5.grow g6
    refine ⟨v2, [], rfl, ?_⟩
    refine ⟨mu5, r, h6, re6, rh6, (lft_bind (PstS.grow (x := _) q5 g6) re6).imp fun d5 mu7 H7 _ ⟨g7, h7, rh7, q7⟩ v5 rv5 => ?_⟩
    have re7 := re6.grow g7
    refine ⟨mu7, r, h7, re7, rh7, (lft_bind q7 re7).imp fun d6 mu8 H8 _ ⟨g8, h8, rh8, q8⟩ v6 rv6 => ?_⟩
    dsimp only at q8
    cases es2 : setixD d5 d6 d2 h8 with
    | ok h9 =>
      rw [es2] at q8
      refine ⟨mu8, h8, d5, d6, d2, h9, rh8, Rl.grow g8 _ _ rv5, rv6, Rl.grow ((g4.trans g5).trans ((g6.trans g7).trans g8)) _ _ rv2', es2, fun H9 g9 rh9 => ?_⟩
      exact ⟨rfl, PstS.nx_inv (q8.grow g9) rh9 ((re7.grow g8).grow g9)⟩
    | exc c h9 => rw [es2] at q8; exact q8.elim
    | fail => rw [es2] at q8; exact q8.elim
  | exc c h6 => rw [es] at q5; exact q5.elim
  | fail => rw [es] at q5; exact q5.elim
end
end Fx
set_option Elab.async false
set_option linter.all false
set_option maxRecDepth 100000
namespace Fx
open PySem PySem.Spec PyProof.Rows L2
/-! ## list(enumerate(t)), t a tuple -/
theorem nolen_en : typeLookup (.type "enumerate") "__len__" = pure none := by rw [typeLookup_type, builtinLookup_eq_fast]; kernel_rfl
theorem nohint_en : typeLookup (.type "enumerate") "__length_hint__" = pure none := by rw [typeLookup_type, builtinLookup_eq_fast]; kernel_rfl
section
variable {prog : Program} {w : World} {A : Around} {E : Value → Shared → Prop} {s : Shared}
theorem enum_next_heldC {e it T : Addr} {fp : List Addr} {n i : Nat} {c : Int} {P : Nat → Value → Prop} {St : Nat → Heap → Prop} {old : Value} {f : Bool} {oT : Obj} {Q : Value → Shared → Prop}
    (D : Draws prog w A it fp n P St) (he : IsEnumHeld s.heap e it c old T f) (hT : s.heap.get? T = some oT) (hTe : T ≠ e) (hTi : T ≠ it) (hst : St i s.heap) (hlt : i < n) (hne : e ≠ it) (hef : e ∉ fp)
    (hQ : ∀ x h' tk, P i x → IsEnumHeld h' e it (c + 1) old T true → St (i + 1) h' →
      h'.get? s.heap.objs.size = some { cls := .type "tuple", data := .seq #[.int c tk, x] } → h'.objs.size = s.heap.objs.size + 1 →
      (∀ b o, b ≠ e → b ≠ it → s.heap.get? b = some o → h'.get? b = some o) → Q (.ref s.heap.objs.size) { s with heap := h', toks := tk + 1 }) :
    wpAny (model prog w) A (Builtin.«enumerate.__next__» ⟨[.ref e], []⟩) (fun fin s' => ∃ v, fin = .done (.ret v) ∧ Q v s') E s := by
  obtain ⟨hp, g, d, tk₀, os⟩ := s
  show wpAny _ _ (field (.ref e) 2 >>= _) _ _ _
  refine wpAny_bind (wpAny_field he rfl (x := .ref it) rfl ?_)
  refine wpAny_bind (D.item i _ _ _ hlt hst fun x h₁ tk hPx hit₁ hs₁ => ?_)
  replace hs₁ : Heap.SameBut it hp h₁ := hs₁
  have he₁ : IsEnumHeld h₁ e it c old T f := (hs₁.2 e hne).trans he
  show wpAny _ _ (field (.ref e) 3 >>= _) _ _ ⟨h₁, g, d, tk, os⟩
  refine wpAny_bind (wpAny_field he₁ rfl (x := rawInt c) rfl ?_)
  show wpAny _ _ (field (.ref e) 4 >>= _) _ _ ⟨h₁, g, d, tk, os⟩
  refine wpAny_bind (wpAny_field he₁ rfl (x := .none) rfl ?_)
  show wpAny _ _ (mkInt c >>= _) _ _ ⟨h₁, g, d, tk, os⟩
  refine wpAny_bind (wpAny_mkInt ?_)
  show wpAny _ _ (setField (.ref e) 3 (rawInt (c + 1)) >>= _) _ _ ⟨h₁, g, d, tk + 1, os⟩
  refine wpAny_bind (wpAny_setField_rec he₁ (by simp) fun h₂ he₂ hs₂ => ?_)
  replace hs₂ : Heap.SameBut e h₁ h₂ := hs₂
  replace he₂ : IsEnumHeld h₂ e it (c + 1) old T f := he₂
  show wpAny _ _ (setField (.ref e) 4 .none >>= _) _ _ ⟨h₂, g, d, tk + 1, os⟩
  refine wpAny_bind (wpAny_setField_rec he₂ (by simp) fun h₃ he₃ hs₃ => ?_)
  replace hs₃ : Heap.SameBut e h₂ h₃ := hs₃
  replace he₃ : IsEnumHeld h₃ e it (c + 1) old T f := he₃
  show wpAny _ _ (newTuple [.int c tk, x] >>= _) _ _ ⟨h₃, g, d, tk + 1, os⟩
  refine wpAny_bind (wpAny_newTuple ?_)
  have he₄ : IsEnumHeld (h₃.push { cls := .type "tuple", data := .seq #[.int c tk, x] }) e it (c + 1) old T f := Heap.get?_push_of_some _ he₃
  generalize hh₄ : h₃.push { cls := .type "tuple", data := .seq #[.int c tk, x] } = h₄ at he₄
  have hsz : h₃.objs.size = hp.objs.size := by rw [hs₃.1, hs₂.1, hs₁.1]
  have hel : e < hp.objs.size := Heap.lt_size he
  have ht₄ : h₄.get? hp.objs.size = some { cls := .type "tuple", data := .seq #[.int c tk, x] } := by rw [← hh₄, ← hsz]; exact Heap.get?_push_size _ rfl
  have hz₄ : h₄.objs.size = hp.objs.size + 1 := by rw [← hh₄, Heap.size_push, hsz]
  have hk₄ : ∀ b o, b ≠ e → b ≠ it → hp.get? b = some o → h₄.get? b = some o := fun b o hbe hbi hb => by
    rw [← hh₄]; exact Heap.get?_push_of_some _ (hs₃.extBut b o hbe (hs₂.extBut b o hbe (hs₁.extBut b o hbi hb)))
  have hit₄ : St (i + 1) h₄ := D.frame _ _ _ hit₁ fun b hb o y => by
    have hbe : b ≠ e := fun q => hef (q ▸ hb)
    rw [← hh₄]; exact Heap.get?_push_of_some _ (hs₃.extBut b o hbe (hs₂.extBut b o hbe y))
  show wpAny _ _ (Builtin.SmallTypes.ownedTupleIsFree (.ref e) >>= _) _ _ ⟨h₄, g, d, tk + 1, os⟩
  rw [hsz]
  clear hh₄ he₃ hs₃ he₂ hs₂ he₁ hs₁ hit₁ hsz h₃ h₂ h₁
  refine wpAny_bind (wpAny_tupleHeld_enum (s := ⟨h₄, g, d, tk + 1, os⟩) he₄ (hk₄ T oT hTe hTi hT) fun h₅ he₅ hs₅ => ?_)
  replace hs₅ : Heap.SameBut e h₄ h₅ := hs₅
  simp only [Bool.false_eq_true, if_false]
  refine wpAny_pure ⟨_, rfl, hQ x h₅ tk hPx he₅ ?_ (hs₅.extBut _ _ (Nat.ne_of_gt hel) ht₄) ?_ fun b o hbe hbi hb => hs₅.extBut b o hbe (hk₄ b o hbe hbi hb)⟩
  · exact D.frame _ _ _ hit₄ fun b hb o y => hs₅.extBut b o (fun q => hef (q ▸ hb)) y
  · show h₅.objs.size = hp.objs.size + 1
    rw [hs₅.1, hz₄]
/-- the enumerate object, before or after its first tuple -/
def EnSt (h : Heap) (e it S : Addr) (c : Int) : Prop :=
  (∃ old, IsEnum h e it c old) ∨ ∃ old T f oT, IsEnumHeld h e it c old T f ∧ h.get? T = some oT ∧ T ≠ e ∧ T ≠ it ∧ T ≠ S
theorem EnSt.typeIs {e it S : Addr} {c : Int} (h : EnSt s.heap e it S c) : s.TypeIs (.ref e) "enumerate" := by
  rcases h with ⟨_, he⟩ | ⟨_, _, _, _, he, _⟩
  · exact ⟨_, he, rfl⟩
  · exact ⟨_, he, rfl⟩
theorem EnSt.lt {e it S : Addr} {c : Int} {h : Heap} (q : EnSt h e it S c) : e < h.objs.size := by
  rcases q with ⟨_, he⟩ | ⟨_, _, _, _, he, _⟩
  · exact Heap.lt_size he
  · exact Heap.lt_size he
theorem EnSt.keep {e it S : Addr} {c : Int} {h h' : Heap} (q : EnSt h e it S c) (heS : e ≠ S) (k : ∀ b o, b ≠ S → h.get? b = some o → h'.get? b = some o) : EnSt h' e it S c := by
  rcases q with ⟨old, he⟩ | ⟨old, T, f, oT, he, hT, h1, h2, h3⟩
  · exact .inl ⟨old, k _ _ heS he⟩
  · exact .inr ⟨old, T, f, oT, k _ _ heS he, k _ _ h3 hT, h1, h2, h3⟩
theorem enum_step {e it S : Addr} {fp : List Addr} {n i : Nat} {c : Int} {P : Nat → Value → Prop} {St : Nat → Heap → Prop} {Q : Option Value → Shared → Prop}
    (D : Draws prog w A.in1 it fp n P St) (he : EnSt s.heap e it S c) (hst : St i s.heap) (hlt : i < n) (hne : e ≠ it) (hef : e ∉ fp) (hi : it < s.heap.objs.size) (hS : S < s.heap.objs.size)
    (hQ : ∀ x h' tk, P i x → EnSt h' e it S (c + 1) → St (i + 1) h' →
      h'.get? s.heap.objs.size = some { cls := .type "tuple", data := .seq #[.int c tk, x] } →
      (∀ b o, b ≠ e → b ≠ it → s.heap.get? b = some o → h'.get? b = some o) → Q (some (.ref s.heap.objs.size)) { s with heap := h', toks := tk + 1 }) :
    wpAny (model prog w) A (pyNext (.ref e)) Q E s := by
  have hTy := he.typeIs
  have hel := he.lt
  rcases he with ⟨old, he⟩ | ⟨old, T, f, oT, he, hT, h1, h2, h3⟩
  · refine wpAny_pyNext_enum_itemC D he hst hlt hne hef fun x h' tk hP ho hs hg hz hk => hQ x h' tk hP (.inr ⟨x, _, false, _, ho, hg, Nat.ne_of_gt hel, Nat.ne_of_gt hi, Nat.ne_of_gt hS⟩) hs hg hk
  · unfold pyNext
    refine wpAny_bind (wpAny_attempt (wpAny_callSpecial?_slot (name := Str.ofString "__next__") hTy PySem.F.slot_enumerate_next
      (wpAny_call_entry PySem.F.slot_enumerate_next hTy PySem.F.entry_enumerate_next
        (enum_next_heldC D he hT h1 h2 hst hlt hne hef fun x h' tk hP ho hs hg hz hk => wpAny_pure (hQ x h' tk hP (.inr ⟨old, T, true, oT, ho, hk T oT h1 h2 hT, h1, h2, h3⟩) hs hg hk)) (PySem.F.args_enumerate_next_1 _))))
theorem enum_done {e it S : Addr} {fp : List Addr} {n : Nat} {c : Int} {P : Nat → Value → Prop} {St : Nat → Heap → Prop} {Q : Option Value → Shared → Prop}
    (D : Draws prog w A.in1 it fp n P St) (he : EnSt s.heap e it S c) (hst : St n s.heap)
    (hQ : ∀ h', Heap.ExtBut it s.heap h' → Q none { s with heap := h' }) : wpAny (model prog w) A (pyNext (.ref e)) Q E s := by
  have hTy := he.typeIs
  rcases he with ⟨old, he⟩ | ⟨old, T, f, oT, he, hT, h1, h2, h3⟩
  · exact wpAny_pyNext_enum_endD D he hst hQ
  · unfold pyNext
    refine wpAny_bind (wpAny_attempt (wpAny_callSpecial?_slot (name := Str.ofString "__next__") hTy PySem.F.slot_enumerate_next
      (wpAny_call_entry PySem.F.slot_enumerate_next hTy PySem.F.entry_enumerate_next ?_ (PySem.F.args_enumerate_next_1 _))))
    show wpAny _ _ (field (.ref e) 2 >>= _) _ _ _
    refine wpAny_bind (wpAny_field he rfl (x := .ref it) rfl ?_)
    refine wpAny_bind (D.done _ _ _ hst fun h' x he' hx' => ?_)
    obtain ⟨o, ho, hc⟩ := hx'
    refine wpAny_bind (wpAny_isInstance (T := "StopIteration") (b := true) ⟨o, ho, hc⟩ isSubtype_stop ?_)
    exact wpAny_pure (hQ h' he')
theorem EnSt.iter {e it S : Addr} {c : Int} {Q : Value → Shared → Prop} (he : EnSt s.heap e it S c) (q : Q (.ref e) s) : wpAny (model prog w) A (pyIter (.ref e)) Q E s := by
  have hTy := he.typeIs
  rcases he with ⟨old, he⟩ | ⟨old, T, f, oT, he, hT, h1, h2, h3⟩
  · exact wpAny_pyIter_enum he q
  · refine wpAny_pyIter_slot hTy PySem.F.slot_enumerate_iter (wpAny_call_entry PySem.F.slot_enumerate_iter hTy PySem.F.entry_enumerate_iter ?_ (PySem.F.args_enumerate_iter_1 _))
    show wpAny _ _ (ret (.ref e)) _ _ s
    exact wpAny_pure ⟨_, rfl, "enumerate", _, hTy, PySem.F.slot_enumerate_next.lookup, q⟩
end
/-- the pairs are laid, one after the other -/
def Tups (G : Hp) : Nat → List V → List V → Hp → Prop
  | _, [], vs, G' => vs = [] ∧ G' = G
  | i, x :: xs, vs, G' => ∃ T vs', vs = .ref T :: vs' ∧ G T = none ∧ Tups (upd G T (.tup [.int (i : Nat), x])) (i + 1) xs vs' G'
theorem upd_swap {H : Hp} {a b : Addr} {o u : HO} (h : a ≠ b) : upd (upd H a o) b u = upd (upd H b u) a o := by
  funext c
  unfold upd
  by_cases h1 : c = a
  · subst h1
    simp [h]
  · by_cases h2 : c = b
    · subst h2; simp [h1]
    · simp [h1, h2]
theorem Tups.len : ∀ {xs vs : List V} {G G' : Hp} {i : Nat}, Tups G i xs vs G' → vs.length = xs.length
  | [], _, _, _, _, h => by rw [h.1]
  | _ :: _, _, _, _, _, ⟨_, _, e, _, h⟩ => by rw [e, List.length_cons, List.length_cons, h.len]
section
variable {X : Cx} {pins : List (Addr × Obj)} {σ : L2.St} {R : Result → Shared → Prop} {e it a S : Addr} {items : List Value} {res : Value}
theorem enum_loop (hne : e ≠ it) (hai : a ≠ it) (hea : e ≠ a) (heS : e ≠ S) (hiS : it ≠ S) (haS : a ≠ S) (hz : items.length ≤ sizeLine) :
    ∀ (rest : List V) (A : Around) (i : Nat) (s : Shared) (G : Hp) (vs : List V) (ri : List Value), A.handled = none → Vals rest ri → items.drop i = ri → i ≤ items.length →
      Inv X pins σ (upd G S (.lst vs)) s → G S = none → (∀ b ∈ [e, it], FpOk X pins G b) → EnSt s.heap e it S (i : Nat) → s.heap.IsTupleIter it a i → s.heap.IsTuple a items.toArray → vs.length = i →
      (∀ s' G' vs', Tups G i rest vs' G' → G' S = none → Inv X pins σ (upd G' S (.lst (vs ++ vs'))) s' → R (.ok (.ret res)) s') →
      codeAny (model X.prog X.w) A (.builtin "list.extend.loop" ⟨[.ref S, .ref e, res], []⟩) R s
  | [], A, i, s, G, vs, ri, hh, rv, hd, hi, I, hS, hf, he, hit, ht, hl, hR => by
    cases rv
    have hn : i = items.length := by
      have := congrArg List.length hd
      rw [List.length_drop, List.length_nil] at this
      omega
    subst hn
    refine codeAny_builtin PySem.F.entry_extend_loop ?_
    rw [Around.under_plainId PySem.F.plain_extend_loop _]
    show wpAny _ A.in1 (pyNext (.ref e) >>= _) _ _ s
    have D := Draws.tuple (prog := X.prog) (w := X.w) (A := A.in1.in1) hh it a hai items.toArray
    refine wpAny_bind (enum_done D he (by rw [List.size_toArray]; exact ⟨hit, ht⟩) fun h' hk => ?_)
    have I2 : Inv X pins σ (upd G S (.lst vs)) { s with heap := h' } := by
      obtain ⟨f0, f1, f2, f3, f4, f5⟩ := hf it (by simp)
      exact I.turned (t' := s.toks) (fun b o hb q => hk b o hb q) (by rw [upd_ne hiS]; exact f0) f1 f3 f4 f5
    refine wpAny_pure (hR _ G [] ⟨rfl, rfl⟩ hS ?_)
    rw [List.append_nil]
    exact I2
  | x :: rest, A, i, s, G, vs, ri, hh, rv, hd, hi, I, hS, hf, he, hit, ht, hl, hR => by
    cases rv with
    | @cons _ u _ ri' ru rr =>
    have hlt : i < items.length := by
      have := congrArg List.length hd
      rw [List.length_drop, List.length_cons] at this
      omega
    have hiu : items[i]? = some u := by
      have := congrArg (fun l : List Value => l[0]?) hd
      simpa using this
    have hd' : items.drop (i + 1) = ri' := by
      have := congrArg List.tail hd
      simpa using this
    refine codeAny_builtin PySem.F.entry_extend_loop ?_
    rw [Around.under_plainId PySem.F.plain_extend_loop _]
    show wpAny _ A.in1 (pyNext (.ref e) >>= _) _ _ s
    have D := Draws.tuple (prog := X.prog) (w := X.w) (A := A.in1.in1) hh it a hai items.toArray
    obtain ⟨_, its0, n0, _, _, gS0⟩ := I.lstM (l := S) upd_same
    have hSl : S < s.heap.objs.size := Heap.lt_size gS0
    have hil : it < s.heap.objs.size := by obtain ⟨_, q, _⟩ := hit; exact Heap.lt_size q
    have hel := he.lt
    refine wpAny_bind (enum_step (S := S) D he ⟨hit, ht⟩ (by rw [List.size_toArray]; exact hlt) hne (by simp [hne, hea]) hil hSl fun x' h' tk hP he' hst' hT hk => ?_)
    have ex : x' = u := by
      have : items[i]? = some x' := by simpa using hP
      rw [hiu] at this
      exact (Option.some.inj this).symm
    subst ex
    have hTS : s.heap.objs.size ≠ S := Nat.ne_of_gt hSl
    have fp1 : ∀ b ∈ [e, it], FpOk X pins (upd G S (.lst vs)) b := fun b hb => by
      have hbS : b ≠ S := by
        have e' : b = e ∨ b = it := by simpa using hb
        rcases e' with z | z
        · rw [z]; exact heS
        · rw [z]; exact hiS
      exact ⟨by rw [upd_ne hbS]; exact (hf b hb).1, (hf b hb).2⟩
    have new : ObjOk X.prog X.w (upd (upd G S (.lst vs)) s.heap.objs.size (.tup [.int (i : Nat), x])) h' s.heap.objs.size (.tup [.int (i : Nat), x]) :=
      ⟨by show 2 ≤ sizeLine; decide, [.int i tk, x'], .cons ⟨_, rfl⟩ (.cons ru .nil), ⟨_, hT, rfl, _, rfl⟩⟩
    have I1 : Inv X pins σ (upd (upd G S (.lst vs)) s.heap.objs.size (.tup [.int (i : Nat), x])) { s with heap := h', toks := tk + 1 } :=
      I.turnedNew (ch := [e, it]) (fun b ob hb q => hk b ob (fun z => hb (by simp [z])) (fun z => hb (by simp [z])) q) fp1 (Nat.le_refl _) new
    have hG : G s.heap.objs.size = none := by
      have := I.hok.fresh (Nat.le_refl s.heap.objs.size)
      rw [upd_ne hTS] at this
      exact this
    have hHS : upd (upd G S (.lst vs)) s.heap.objs.size (.tup [.int (i : Nat), x]) S = some (.lst vs) := by rw [upd_ne (Ne.symm hTS)]; exact upd_same
    obtain ⟨z1, its, n1, rl, el, gS⟩ := I1.lstM hHS
    have gS : h'.get? S = some { cls := .type "list", data := .seq its.toArray n1 } := gS
    have hz2 : vs.length + 1 ≤ sizeLine := by omega
    have rT : RelV (.ref s.heap.objs.size) (.ref s.heap.objs.size) := rfl
    have I2 := I1.lset (its' := its ++ [.ref s.heap.objs.size]) (ys := vs ++ [.ref s.heap.objs.size]) (f := fun xs => xs.push (.ref s.heap.objs.size)) (t' := tk + 1) hHS gS (by simp) (rl.append (.cons rT .nil)) (by rw [List.length_append]; exact hz2)
    have eH : upd (upd (upd G S (.lst vs)) s.heap.objs.size (.tup [.int (i : Nat), x])) S (.lst (vs ++ [.ref s.heap.objs.size])) = upd (upd G s.heap.objs.size (.tup [.int (i : Nat), x])) S (.lst (vs ++ [.ref s.heap.objs.size])) := by
      rw [upd_swap (Ne.symm hTS), upd_upd]
    rw [eH] at I2
    have kS : ∀ b o, b ≠ S → h'.get? b = some o → (h'.update S (Obj.mapSeq fun xs => xs.push (.ref s.heap.objs.size))).get? b = some o := fun b o hb q => (Heap.get?_update_other _ _ (Ne.symm hb)).trans q
    show wpAny _ A.in1 (updateSeq S (·.push (.ref s.heap.objs.size)) >>= _) _ _ _
    refine wpAny_bind (wpAny_updateSeq gS rfl (wpAny_pure ⟨plainId_quiet PySem.F.plain_extend_loop _, ?_⟩) (by rw [List.size_toArray, ← el]; omega) (by show (its.toArray.push _).size ≤ sizeLine + 1; rw [Array.size_push, List.size_toArray, ← el]; omega))
    refine enum_loop hne hai hea heS hiS haS hz rest A (i + 1) _ _ _ ri' hh rr hd' hlt I2 (by rw [upd_ne (Ne.symm hTS)]; exact hS) (fun b hb => ⟨?_, (hf b hb).2⟩) ?_ ?_ ?_ ?_ fun s' G' vs' tp hS' I' => ?_
    · have hb' : b < s.heap.objs.size := by
        have e' : b = e ∨ b = it := by simpa using hb
        rcases e' with z | z
        · rw [z]; exact hel
        · rw [z]; exact hil
      rw [upd_ne (Nat.ne_of_lt hb')]
      exact (hf b hb).1
    · have e1 : ((i + 1 : Nat) : Int) = (i : Int) + 1 := by omega
      rw [e1]
      exact he'.keep heS kS
    · exact hst'.1.at fun o q => kS it o hiS q
    · exact hst'.2.at fun o q => kS a o haS q
    · rw [List.length_append, hl]; rfl
    · refine hR s' G' (.ref s.heap.objs.size :: vs') ⟨_, _, rfl, hG, tp⟩ hS' ?_
      rw [List.append_assoc] at I'
      exact I'
end
theorem call_list_enum {X : Cx} {pins : List (Addr × Obj)} {σ : L2.St} {e it a : Addr} {items : List Value} {xs : List V} {s : Shared} {H : Hp} {A : Around} {E : Value → Shared → Prop} {Q : Value → Shared → Prop}
    (hne : e ≠ it) (hai : a ≠ it) (hea : e ≠ a) (hz : items.length ≤ sizeLine) (hh : A.handled = none) (I : Inv X pins σ H s) (rv : Vals xs items)
    (hf : ∀ b ∈ [e, it], FpOk X pins H b) (he : IsEnum s.heap e it 0 .none) (hit : s.heap.IsTupleIter it a 0) (ht : s.heap.IsTuple a items.toArray)
    (hQ : ∀ s' G' vs' S, Tups H 0 xs vs' G' → G' S = none → Inv X pins σ (upd G' S (.lst vs')) s' → Q (.ref S) s') :
    wpAny (model X.prog X.w) A (call (.type "list") [.ref e]) Q E s := by
  refine callType_codes (Q₁ := fun obj s₁ => obj = .ref s.heap.objs.size ∧ s₁ = { s with heap := s.heap.push { cls := .type "list", data := .seq #[] } }) PySem.F.called_list (PySem.F.typeCall_list_1 _) PySem.F.entry_list_init
    (code_list_new _ ⟨rfl, rfl⟩) fun obj s₁ h₁ => ?_
  obtain ⟨rfl, rfl⟩ := h₁
  have hS : (s.heap.push { cls := .type "list", data := .seq #[] }).get? s.heap.objs.size = some { cls := .type "list", data := .seq #[] } := Heap.get?_push_size _ rfl
  have hel : e < s.heap.objs.size := Heap.lt_size he
  have hil : it < s.heap.objs.size := by obtain ⟨_, q, _⟩ := hit; exact Heap.lt_size q
  have hal : a < s.heap.objs.size := by obtain ⟨_, q, _⟩ := ht; exact Heap.lt_size q
  generalize hS0 : s.heap.objs.size = S at hS
  have heS : e ≠ S := by rw [← hS0]; exact Nat.ne_of_lt hel
  have hiS : it ≠ S := by rw [← hS0]; exact Nat.ne_of_lt hil
  have haS : a ≠ S := by rw [← hS0]; exact Nat.ne_of_lt hal
  refine ⟨⟨_, hS, rfl⟩, PySem.F.args_list_init_2 _ _, ?_⟩
  show wpAny _ _ (do let old ← Builtin.List.listItems (.ref S); Builtin.List.listUpdate (.ref S) (fun _ => #[]); letGo old.toList.reverse; Builtin.List.listExtendWith (.ref S) (.ref e) .none) _ _ _
  refine wpAny_bind ?_
  unfold Builtin.List.listItems
  refine wpAny_bind (wpAny_seqItems hS rfl (wpAny_pure ?_))
  show wpAny _ _ (updateSeq S (fun _ => #[]) >>= fun _ => letGo (#[] : Array Value).toList.reverse >>= fun _ => Builtin.List.listExtendWith (.ref S) (.ref e) .none) _ _ _
  refine wpAny_bind (wpAny_updateSeq hS rfl ?_)
  have hS₂ := Heap.get?_update_self (Obj.mapSeq (fun _ => (#[] : Array Value))) hS rfl
  have k₂ : ∀ b o, b ≠ S → s.heap.get? b = some o → ((s.heap.push { cls := .type "list", data := .seq #[] }).update S (Obj.mapSeq (fun _ => (#[] : Array Value)))).get? b = some o :=
    fun b o hb q => (Heap.get?_update_other _ _ (Ne.symm hb)).trans (Heap.get?_push_of_some _ q)
  generalize (s.heap.push { cls := .type "list", data := .seq #[] }).update S (Obj.mapSeq (fun _ => (#[] : Array Value))) = h₂ at hS₂ k₂
  refine wpAny_bind (wpAny_letGo ?_)
  have he₂ : IsEnum h₂ e it 0 .none := k₂ _ _ heS he
  have hT₂ : ({ s with heap := h₂ } : Shared).TypeIs (.ref e) "enumerate" := ⟨_, he₂, rfl⟩
  unfold Builtin.List.listExtendWith
  refine wpAny_bind (wpAny_typeOf hT₂ ?_)
  have h1 : Builtin.List.listSameRef (.ref S) (.ref e) = false := by simp [Builtin.List.listSameRef, Ne.symm heS]
  have h2 : (Value.type "enumerate" == Value.type "list") = false := by decide
  have h3 : (Value.type "enumerate" == Value.type "tuple") = false := by decide
  simp only [h1, h2, h3, Bool.or_false, Bool.false_eq_true, if_false]
  refine wpAny_bind (wpAny_pyIter_enum he₂ ?_)
  refine wpAny_bind (wpAny_holding ?_)
  unfold Builtin.List.listLengthHint
  refine wpAny_bind (wpAny_specialOf hT₂ nolen_en ?_)
  show wpAny _ _ (specialOf (Value.ref e) (Str.ofString "__length_hint__") >>= _) _ _ _
  refine wpAny_bind (wpAny_specialOf hT₂ nohint_en ?_)
  refine wpAny_pure ?_
  show wpAny _ _ (rule "list.extend.makes-room" >>= fun _ => Builtin.List.listTouch (.ref S) >>= fun _ =>
    again (.builtin "list.extend.loop" ⟨[.ref S, .ref e, .none], []⟩)) _ _ _
  refine wpAny_bind (wpAny_rule ?_)
  refine wpAny_bind ?_
  show wpAny _ _ (updateSeq S (·.push .none) >>= fun _ => updateSeq S (·.pop)) _ _ _
  refine wpAny_bind (wpAny_updateSeq hS₂ rfl ?_)
  have hS₃ := Heap.get?_update_self (Obj.mapSeq (·.push Value.none)) hS₂ rfl
  refine wpAny_updateSeq (hz := by seq_fits) hS₃ rfl ?_
  have hS₄ := Heap.get?_update_self (Obj.mapSeq (·.pop)) hS₃ rfl
  have k₄ : ∀ b o, b ≠ S → s.heap.get? b = some o → ((h₂.update S (Obj.mapSeq (·.push Value.none))).update S (Obj.mapSeq (·.pop))).get? b = some o :=
    fun b o hb q => (Heap.get?_update_other _ _ (Ne.symm hb)).trans ((Heap.get?_update_other _ _ (Ne.symm hb)).trans (k₂ b o hb q))
  generalize (h₂.update S (Obj.mapSeq (·.push Value.none))).update S (Obj.mapSeq (·.pop)) = h₄ at hS₄ k₄
  have I4 : Inv X pins σ (upd H S (.lst [])) { s with heap := h₄ } :=
    I.laid (t' := s.toks) (fun b u q => k₄ b u (by rw [← hS0]; exact Nat.ne_of_lt (Heap.lt_size q)) q) (by rw [hS0]; exact Nat.le_refl _) ⟨Nat.zero_le _, [], _, .nil, hS₄⟩
  have hHS : H S = none := by rw [← hS0]; exact I.hok.fresh (Nat.le_refl _)
  refine wpAny_pure ⟨plainId_quiet PySem.F.plain_extend_loop _, ?_⟩
  refine enum_loop hne hai hea heS hiS haS hz xs _ 0 _ H [] items ?_ rv rfl (Nat.zero_le _) I4 hHS hf (.inl ⟨_, k₄ _ _ heS he⟩) (hit.at fun o q => k₄ it o hiS q) (ht.at fun o q => k₄ a o haS q) rfl fun s' G' vs' tp hS' I' => ?_
  · exact hh
  · exact ⟨rfl, hQ s' G' vs' S tp hS' I'⟩
def tListEn (K : PySem.W.Frag) (ta : TA) : TE := fun σ H Q => ta σ H fun vs H1 => ∃ a xs, vs = [.ref a] ∧ SqT K H1 a xs ∧ ∀ G' vs' S, Tups H1 0 xs vs' G' → G' S = none → Q (.ref S) (upd G' S (.lst vs'))
theorem pe_listEn {X : Cx} {e : Expr} {ta : TA} {p p2 pos pos2 : Pos} (hc : X.calm = true) (hg : Gl X "enumerate") (hm : X.mg "enumerate" = none) (hg2 : Gl X "list") (hm2 : X.mg "list" = none) (ha : PA X [e] ta) (hs : starEach [e] X.env = [(false, eval e X.env)])
    (na : starEach [.Call (.Name "enumerate" p2) [e] [] pos2] X.env = (false, eval (.Call (.Name "enumerate" p2) [e] [] pos2) X.env) :: starEach [] X.env) :
    PE X (.Call (.Name "list" p) [.Call (.Name "enumerate" p2) [e] [] pos2] [] pos) (tListEn X.K ta) := by
  refine ⟨fun pins s σ H Q I h => ?_⟩
  refine Call_ (ld_blt I hg2 hm2 boot_list (PyProof.Rows.callWith_type1 (args_cons ?_ na) na))
  refine Call_ (ld_blt I hg hm boot_enumerate (PyProof.Rows.callWith_type1 (thn (ha.run pos2 pins s σ H _ I h) fun us s1 ⟨vs, H1, I1, r1, q1⟩ => ?_) hs rfl))
  obtain ⟨a, xs, ex, hq, q⟩ := q1
  subst ex
  cases r1 with
  | cons r rr =>
    cases rr
    cases r
    obtain ⟨its, rv, p', hz⟩ := I1.tuple hq
    have hla : a < s1.heap.objs.size := by obtain ⟨_, q, _⟩ := p'; exact Heap.lt_size q
    refine enum_begins1 (begins_tuple a its.toArray) p' fun h' he hit hsz hk => ?_
    have I2 : Inv X pins σ H1 { s1 with heap := h' } := I1.kept (t' := s1.toks) hk
    refine args_nil (call_list_enum (xs := xs) (items := its) (Nat.succ_ne_self _) (Nat.ne_of_lt hla) (Nat.ne_of_gt (Nat.lt_succ_of_lt hla)) (by rw [← rv.length]; exact hz) (I1.ok.hd hc) I2 rv (fun b hb => ?_) he ⟨_, hit, rfl, rfl⟩ (by obtain ⟨o, q1, q2⟩ := p'; exact ⟨o, hk _ o q1, q2⟩) fun s' G' vs' S tp hS I' => ?_)
    · have e' : b = s1.heap.objs.size + 1 ∨ b = s1.heap.objs.size := by simpa using hb
      have hle : s1.heap.objs.size ≤ b := by
        rcases e' with z | z
        · rw [z]; exact Nat.le_add_right _ _
        · rw [z]; exact Nat.le_refl _
      exact I1.fpOk hle (I1.hok.fresh hle)
    · exact ⟨.ref S, _, I', (rfl : RelV (.ref S) (.ref S)), q G' vs' S tp hS⟩
section
variable {K : PySem.W.Frag} {fa : Fa} {mu : Lv} {h : Hh}
theorem tups_rl : ∀ {ds : List D} {xs vs : List V} {H G' : Hp} {i : Nat}, RH K fa mu h H → RlL K fa mu H ds xs → Tups H i xs vs G' → Gr mu H mu G' ∧ RH K fa mu h G' ∧ RlL K fa mu G' (numb i ds) vs
  | [], xs, vs, H, G', i, rh, rl, tp => by
    have e := RlL.nil_inv rl
    subst e
    obtain ⟨rfl, rfl⟩ := tp
    exact ⟨Gr.refl, rh, RlL.nil⟩
  | d :: ds, xs, vs, H, G', i, rh, rl, tp => by
    obtain ⟨x, xs', rfl, rd, rr⟩ := RlL.inv rl
    obtain ⟨T, vs', rfl, hT, tp⟩ := tp
    have g := Gr.upd rh hT (o := .tup [.int (i : Nat), x])
    obtain ⟨g2, rh2, rl2⟩ := tups_rl (rh.upd hT) (RlL.grow g _ _ rr) tp
    exact ⟨g.trans g2, rh2, RlL.cons (Rl.grow g2 _ _ (Rl.pr.mpr ⟨T, _, _, rfl, rh.new hT, upd_same, Rl.int.mpr (by simp), Rl.grow g _ _ rd⟩)) rl2⟩
end
section
variable {X : Cx} {pm : Pm} {W : WX} {a : Expr} {ma : EM} {pos pos2 : Pos}
theorem ex_lenum {p p2 : Pos} (hc : X.calm = true) (hg : Gl X "enumerate") (hm : X.mg "enumerate" = none) (hg2 : Gl X "list") (hm2 : X.mg "list" = none) (ha : PE X a (tE X.K pm W ma)) (hs : starEach [a] X.env = [(false, eval a X.env)])
    (na : starEach [.Call (.Name "enumerate" p2) [a] [] pos2] X.env = (false, eval (.Call (.Name "enumerate" p2) [a] [] pos2) X.env) :: starEach [] X.env) :
    PE X (.Call (.Name "list" p) [.Call (.Name "enumerate" p2) [a] [] pos2] [] pos) (tE X.K pm W fun r h => ma r h >>= fun x => (match x.1 with
    | .tup xs => .ok (.lst (numb 0 xs), x.2)
    | _ => .fail)) := by
  refine PE.mono (pe_listEn hc hg hm hg2 hm2 (pa_cons ha pa_nil hs) hs na) fun s H Q ⟨mu, r, h, re, rh, p⟩ => ?_
  refine ⟨mu, r, h, re, rh, p.bind.imp fun d mu1 H1 _ ⟨g1, h1, rh1, p1⟩ => ?_⟩
  dsimp only at p1
  intro v rv
  cases d with
  | tup xs =>
    dsimp only at p1
    obtain ⟨q, vs, rfl, hp, e, l⟩ := Rl.tup.mp rv
    refine ⟨q, vs, rfl, e.sq, fun G' vs' S tp hS => ?_⟩
    obtain ⟨g2, rh2, l2⟩ := tups_rl rh1 l tp
    have g3 := Gr.upd rh2 hS (o := .lst vs')
    exact p1 mu1 _ (g2.trans g3) (rh2.upd hS) _ (Rl.lst.mpr ⟨S, vs', rfl, rh2.new hS, upd_same, RlL.grow g3 _ _ l2⟩)
  | _ => exact p1.elim
end
end Fx
set_option Elab.async false
set_option linter.all false
namespace Fx
open PySem PySem.Spec PyProof.Rows L2

/-! ## is this tree that text? -/
structure Cc where
  ns : List Str
  sc : Scope
  cel : Str → Bool
  fns : List Str
  cls : List Str
  xf : Bool
def visB (sc : Scope) (x : Str) : Bool := match sc.names.lookup x with | some .local => true | some .cell => true | some .free => true | _ => false
def glbB (sc : Scope) (x : Str) : Bool := match sc.names.lookup x with | some .globalImplicit => true | _ => false
def locB (c : Cc) (x : Str) : Bool := match c.sc.names.lookup x with | some .local => true | some .cell => c.cel x | _ => false
def lclB (c : Cc) (x : Str) : Bool := match c.sc.names.lookup x with | some .local => true | _ => false
def okN (x : Str) : Bool := !(x == ("__debug__" : Str)) && !(x == ("__classdict__" : Str)) && !(x == ("__name__" : Str))
/-- no star, no slice, no display of a set -/
def plB : Expr → Bool
  | .Starred .. => false | .Slice .. => false | .Set .. => false | _ => true
/-- no comprehension -/
def ncB : Expr → Bool
  | .ListComp .. => false | .SetComp .. => false | .DictComp .. => false | _ => true
/-- a name or an attribute -/
def attB : Expr → Bool
  | .Name .. => true | .Attribute .. => true | .Call _ (_ :: _) _ _ => true | _ => false
def tstB : Ex → Bool
  | .ite .. => false | _ => true
def neB : Exs → Bool
  | .nil => false | _ => true
def biName : Bi → Str
  | .len => "len" | .abs => "abs" | .min => "min" | .max => "max" | .sum => "sum" | .all => "all" | .any => "any" | .int => "int" | .tuple => "tuple" | .list => "list" | .isi _ => "isinstance"
def biPlain : Bi → Bool
  | .isi _ => false | _ => true
def mtName : Mt → Str
  | .append => "append" | .extend => "extend" | .pop => "pop" | .index => "index" | .count => "count"
def tyB (t : String) (x : Str) : Bool := (decide (x = ("int" : Str)) && decide (t = "int")) || (decide (x = ("bool" : Str)) && decide (t = "bool")) || (decide (x = ("tuple" : Str)) && decide (t = "tuple")) || (decide (x = ("str" : Str)) && decide (t = "str"))
def bnames : List Str := ["len", "abs", "min", "max", "sum", "all", "any", "int", "tuple", "list", "isinstance", "bool", "str", "range", "enumerate", "zip", "sorted", "set", "ValueError"]
def Cc.blk (c : Cc) (scope : Scope) : Cc := { c with sc := relS scope c.sc, cel := fun x => scope.names.lookup x == some .cell }
def ownOf (c : Cc) (own : List Nat) : List (Str × Nat) := own.map fun i => (c.ns.getD i "", i)
mutual
def ckTg (c : Cc) : Tg → Expr → Bool
  | .name i, x => (match x with | .Name y _ => decide (c.ns[i]? = some y) && locB c y | _ => false)
  | .tup gs, x => (match x with | .Tuple es _ _ => ckTgs c gs es | _ => false)
def ckTgs (c : Cc) : Tgs → List Expr → Bool
  | .nil, es => (match es with | [] => true | _ => false)
  | .cons g gs, es => (match es with | e :: es => plB e && ckTg c g e && ckTgs c gs es | _ => false)
end
/-- the class z, by number; none: ValueError -/
def ckX (c : Cc) (k : Option Nat) (z : Str) : Bool := match k with
  | some m => decide (c.cls[m]? = some z) && okN z
  | none => decide (z = ("ValueError" : Str))
mutual
def ckE (c : Cc) : Ex → Expr → Bool
  | .v i, x => (match x with | .Name y _ => decide (c.ns[i]? = some y) && visB c.sc y && okN y | _ => false)
  | .ci i, x => (match x with | .Constant (.int j) _ _ => decide (i = j) | _ => false)
  | .cb i, x => (match x with | .Constant (.bool j) _ _ => decide (i = j) | _ => false)
  | .cn, x => (match x with | .Constant .none _ _ => true | _ => false)
  | .cs i, x => (match x with | .Constant (.str j) _ _ => decide (i = j) | _ => false)
  | .fn _, _ => false
  | .op o _ a b, x => (match x with | .BinOp a' o' b' _ => decide (opOf o = o') && ckE c a a' && ckE c b b' | _ => false)
  | .neg a, x => (match x with | .UnaryOp .USub a' _ => ckE c a a' | _ => false)
  | .no a, x => (match x with | .UnaryOp .Not a' _ => tstB a && ckE c a a' | _ => false)
  | .bop k as, x => (match x with | .BoolOp op vs _ => decide (op = if k = true then .And else .Or) && ckB c as vs | _ => false)
  | .cmp o a b, x => (match x with | .Compare a' [o'] [b'] _ => decide (cmpOf o = o') && ckE c a a' && (plB b' && ckE c b b') | _ => false)
  | .chain o p a b d, x => (match x with | .Compare a' [o', p'] [b', d'] _ => decide (cmpOf o = o') && decide (cmpOf p = p') && ckE c a a' && ckE c b b' && (plB d' && ckE c d d') | _ => false)
  | .isN neg a, x => (match x with | .Compare a' [o'] [.Constant .none _ _] _ => decide (o' = if neg = true then .IsNot else .Is) && ckE c a a' | _ => false)
  | .ite t a b, x => (match x with | .IfExp t' a' b' _ => (tstB t && ckE c t t') && ckE c a a' && ckE c b b' | _ => false)
  | .call f as, x => (match x with | .Call (.Name y _) args [] _ => decide (c.fns[f]? = some y) && glbB c.sc y && okN y && ckEs c as args | _ => false)
  | .bi f _ as, x => (match x with | .Call (.Name y _) args [] _ => decide (y = biName f) && biPlain f && glbB c.sc y && neB as && ckEs c as args | _ => false)
  | .isi t a, x => (match x with | .Call (.Name y _) [a', .Name z _] [] _ => decide (y = ("isinstance" : Str)) && glbB c.sc y && tyB t z && glbB c.sc z && (plB a' && ckE c a a') | _ => false)
  | .mt f o as, x => (match x with | .Call (.Attribute o' y ap) args [] cp => decide (y = mtName f) && (ap.endLine == cp.line) && attB o' && decide (args.length < 20) && ckE c o o' && ckEs c as args | _ => false)
  | .rgT as, x => (match x with | .Call (.Name y _) [.Call (.Name z _) args [] _] [] _ => decide (y = ("tuple" : Str)) && glbB c.sc y && decide (z = ("range" : Str)) && glbB c.sc z && ckEs c as args && decide (args.length = 1 ∨ args.length = 2) | _ => false)
  | .rgL _ as, x => (match x with | .Call (.Name y _) [.Call (.Name z _) args [] _] [] _ => decide (y = ("list" : Str)) && glbB c.sc y && decide (z = ("range" : Str)) && glbB c.sc z && ckEs c as args && decide (args.length = 1 ∨ args.length = 2) | _ => false)
  | .ix a i, x => (match x with | .Subscript a' i' _ => ckE c a a' && (plB i' && ckE c i i') | _ => false)
  | .sl a lo hi, x => (match x with | .Subscript a' (.Slice lo' hi' none _) _ => ckE c a a' && ckO c lo lo' && ckO c hi hi' | _ => false)
  | .rev a, x => (match x with | .Subscript a' (.Slice none none (some (.UnaryOp .USub (.Constant (.int i) _ _) _)) _) _ => decide (i = 1) && ckE c a a' | _ => false)
  | .tup as, x => (match x with | .Tuple es _ _ => ckEs c as es | _ => false)
  | .lst _ as, x => (match x with | .List es _ => ckEs c as es | _ => false)
  | .comp _ own g it cond elt, x => (match x with
    | .ListComp elt' [⟨tg, iter, ifs, 0⟩] scope _ => blkC c.ns c.sc scope (ownOf c own) && decide (scope.kind = .function) && tgIn own g && ckTg (c.blk scope) g tg && plB iter && ckI c it iter tg && ckIf (c.blk scope) cond ifs && ckE (c.blk scope) elt elt'
    | _ => false)
  | .isx k a, x => (match x with | .Call (.Name y _) [a', .Name z _] [] _ => decide (y = ("isinstance" : Str)) && glbB c.sc y && (c.xf && ckX c k z) && glbB c.sc z && (plB a' && ckE c a a') | _ => false)
  | .dkd ps, x => (match x with | .Dict keys values _ => ckPs c ps keys values && keys.all (·.isSome) && decide (keys.length = values.length) && !keys.isEmpty && decide (keys.length ≤ 15) | _ => false)
  | .dk0, x => (match x with | .Dict [] [] _ => true | _ => false)
  | .dt0, x => (match x with | .Dict [] [] _ => true | _ => false)
  | .dget o k d, x => (match x with | .Call (.Attribute o' y ap) [k', d'] [] cp => decide (y = ("get" : Str)) && (ap.endLine == cp.line) && attB o' && ckE c o o' && (plB k' && ckE c k k') && (plB d' && ckE c d d') | _ => false)
  | .dix o k, x => (match x with | .Subscript o' k' _ => ckE c o o' && (plB k' && ckE c k k') | _ => false)
  | .din neg k o, x => (match x with | .Compare k' [p] [o'] _ => decide (p = if neg = true then .NotIn else .In) && ckE c k k' && (plB o' && ckE c o o') | _ => false)
  | .srt _ a, x => (match x with | .Call (.Name y _) [a'] [] _ => decide (y = ("sorted" : Str)) && glbB c.sc y && (plB a' && ckE c a a') | _ => false)
  | .lenum a, x => (match x with | .Call (.Name y _) [.Call (.Name z _) [a'] [] _] [] _ => decide (y = ("list" : Str)) && glbB c.sc y && decide (z = ("enumerate" : Str)) && glbB c.sc z && (plB a' && ckE c a a') | _ => false)
  | .lset a, x => (match x with | .Call (.Name y _) [.Call (.Name z _) [a'] [] _] [] _ => decide (y = ("len" : Str)) && glbB c.sc y && decide (z = ("set" : Str)) && glbB c.sc z && (plB a' && ckE c a a') | _ => false)
  | .tix a b, x => (match x with | .Call (.Attribute o' y ap) [b'] [] cp => decide (y = ("index" : Str)) && (ap.endLine == cp.line) && attB o' && ckE c a o' && (plB b' && ckE c b b') | _ => false)
def ckPs (c : Cc) : Exps → List (Option Expr) → List Expr → Bool
  | .nil, ks, vs => (match ks, vs with | [], [] => true | _, _ => false)
  | .cons k v r, ks, vs => (match ks, vs with | some k' :: ks, v' :: vs => ckE c k k' && ckE c v v' && ckPs c r ks vs | _, _ => false)
def ckB (c : Cc) : Exs → List Expr → Bool
  | .nil, _ => false
  | .cons a .nil, xs => (match xs with | [x] => tstB a && ckE c a x | _ => false)
  | .cons a (.cons b rest), xs => (match xs with | x :: y :: ys => tstB a && ckE c a x && ckB c (.cons b rest) (y :: ys) | _ => false)
def ckEs (c : Cc) : Exs → List Expr → Bool
  | .nil, xs => (match xs with | [] => true | _ => false)
  | .cons a rest, xs => (match xs with | x :: ys => plB x && ckE c a x && ckEs c rest ys | _ => false)
def ckO (c : Cc) : Exo → Option Expr → Bool
  | .none, x => (match x with | none => true | _ => false)
  | .some a, x => (match x with | some y => ckE c a y | _ => false)
def ckIf (c : Cc) : Exo → List Expr → Bool
  | .none, x => (match x with | [] => true | _ => false)
  | .some a, x => (match x with | [y] => tstB a && ckE c a y | _ => false)
def ckI (c : Cc) : Itr → Expr → Expr → Bool
  | .seq a, x, _ => ckE c a x
  | .range n as, x, _ => (match x with | .Call (.Name z _) args [] _ => decide (z = ("range" : Str)) && glbB c.sc z && ckEs c as args && decide (args.length = n) && decide (n = 1 ∨ n = 2) | _ => false)
  | .enum a, x, tg => (match x, tg with | .Call (.Name z _) [a'] [] _, .Tuple _ _ _ => decide (z = ("enumerate" : Str)) && glbB c.sc z && (plB a' && ckE c a a') | _, _ => false)
  | .zip a b, x, tg => (match x, tg with | .Call (.Name z _) [a', b'] [] _, .Tuple _ _ _ => decide (z = ("zip" : Str)) && glbB c.sc z && (plB a' && ckE c a a') && (plB b' && ckE c b b') | _, _ => false)
end

/-! ## what of the surroundings is leaned on -/
structure Gd (X : Cx) (W : WX) (c : Cc) (pm : Pm) (C : Cal) : Prop where
  calm : X.calm = true
  ns : X.N = c.ns
  nd : c.ns.Nodup
  sc : X.env.scope = c.sc
  kind : c.sc.kind = .function
  cel : X.fn = c.cel
  tk : Takes X W
  hu : X.A.units + 65 < cLine
  bn : ∀ x ∈ bnames, X.mg x = none
  fn : ∀ (n : Nat) (x : Str), c.fns[n]? = some x → ∃ k f fd ps, FnOk X.prog X.w X.K X.mg X.base (L2.CX X.prog X.w) k f fd ps (spR X.K pm (C n)) ∧ Room k X.A ∧ X.mg x = some (.ref f) ∧ PySem.W.keepIn X.K (.ref f) = true ∧ Binds X.K fd ps []
  ef : c.xf = true → ExF X.K X.mg c.cls pm
section
variable {X : Cx} {W : WX} {c : Cc} {pm : Pm} {C : Cal}
theorem Gd.blk (G : Gd X W c pm C) {scope : Scope} (hk : scope.kind = .function) (s : Shared) (H : Hp) (L : Addr) (cl : List (Str × Addr)) (fp : List Addr) :
    Gd (X.blk s H scope (compEnvC scope cl L X.env) fp) W0 (c.blk scope) pm C where
  calm := G.calm
  ns := G.ns
  nd := G.nd
  sc := by
    show relS scope X.env.scope = relS scope c.sc
    rw [G.sc]
  kind := hk
  cel := rfl
  tk := takes0
  hu := G.hu
  bn := G.bn
  fn := G.fn
  ef := G.ef
theorem Gd.vis (G : Gd X W c pm C) {x : Str} (h : visB c.sc x = true) : Vis X.env.scope x := by
  rw [G.sc]
  unfold visB at h
  split at h
  · exact .inl (by assumption)
  · exact .inr (.inl (by assumption))
  · exact .inr (.inr (by assumption))
  · cases h
theorem Gd.glb (G : Gd X W c pm C) {x : Str} (h : glbB c.sc x = true) : Gl X x := by
  show X.env.scope.names.lookup x = _
  rw [G.sc]
  unfold glbB at h
  split at h
  · assumption
  · cases h
theorem Gd.loc (G : Gd X W c pm C) {x : Str} (h : locB c x = true) : Loc X.env.scope x ∧ (X.fn x = true ∨ X.env.scope.names.lookup x = some .local) := by
  rw [G.sc, G.cel]
  unfold locB at h
  split at h
  · exact ⟨.inl (by assumption), .inr (by assumption)⟩
  · exact ⟨.inr (by assumption), .inl h⟩
  · cases h
theorem Gd.lcl (G : Gd X W c pm C) {x : Str} (h : lclB c x = true) : X.env.scope.names.lookup x = some .local := by
  rw [G.sc]
  unfold lclB at h
  split at h
  · assumption
  · cases h
theorem okN_inv {x : Str} (h : okN x = true) : (x == ("__debug__" : Str)) = false ∧ (x == ("__classdict__" : Str)) = false ∧ x ≠ "__name__" := by
  unfold okN at h
  simp only [Bool.and_eq_true, Bool.not_eq_true'] at h
  exact ⟨h.1.1, h.1.2, fun z => by rw [z] at h; simp at h⟩
theorem star_of {x : Expr} (h : plB x = true) (es : List Expr) (env : Env) : starEach (x :: es) env = (false, eval x env) :: starEach es env := by
  cases x <;> first | rfl | cases h
theorem plain_of {x : Expr} (h : plB x = true) : PlainIx x := by
  intro o i
  cases x <;> first | rfl | cases h
theorem marks_of {x : Expr} (h : plB x = true) (op : CmpOp) : behindInMarks op x = false := by
  cases x <;> first | rfl | cases h
theorem fold_of {x : Expr} (h : plB x = true) (env : Env) (v : Value) : foldedSetIterable x env v = pure v := by
  cases x <;> first | rfl | cases h
theorem att_of {x : Expr} (h : attB x = true) (name : Str) (env : Env) : attributeBase x name env (eval x env) = eval x env := by
  cases x with
  | Call f as ks p =>
    cases as with
    | nil => cases h
    | cons a as => cases f <;> rfl
  | _ => first | rfl | cases h
theorem stars_all {c : Cc} : ∀ {as : Exs} {xs : List Expr}, ckEs c as xs = true → ∀ env, starEach xs env = xs.map fun x => (false, eval x env)
  | .nil, xs, h, env => by
    cases xs with
    | nil => rfl
    | cons _ _ => simp [ckEs] at h
  | .cons a rest, xs, h, env => by
    cases xs with
    | nil => simp [ckEs] at h
    | cons x ys =>
      simp only [ckEs, Bool.and_eq_true] at h
      rw [star_of h.1.1, stars_all h.2 env]
      rfl
theorem back_all {c : Cc} {as : Exs} {xs : List Expr} (h : ckEs c as xs = true) (env : Env) (pos : Pos) : (backTo pos (starEach xs env)).any (·.1) = false := by
  rw [stars_all h]
  unfold backTo
  rw [List.map_map, List.any_map]
  apply List.any_eq_false.mpr
  intro x _
  simp
theorem few_all {c : Cc} {as : Exs} {xs : List Expr} (h : ckEs c as xs = true) (env : Env) (pos : Pos) (hl : xs.length < 20) :
    ((backTo pos (starEach xs env)).all (fun x => !x.1) && (backToKw pos (keywordEach [] env)).all (fun x => x.1.isSome) && decide (xs.length + ([] : List Keyword).length + (if ([] : List Keyword).isEmpty then 0 else 1) < 30)) = true := by
  have h1 : (backTo pos (starEach xs env)).all (fun x => !x.1) = true := by
    rw [stars_all h]
    unfold backTo
    rw [List.map_map, List.all_map]
    apply List.all_eq_true.mpr
    intro x _
    simp
  rw [h1]
  have h2 : (backToKw pos (keywordEach [] env)).all (fun x => x.1.isSome) = true := rfl
  rw [h2]
  simp
  omega
theorem ckEs_len {c : Cc} : ∀ {as : Exs} {xs : List Expr}, ckEs c as xs = true → neB as = true → ∃ x ys, xs = x :: ys
  | .nil, _, _, h => by cases h
  | .cons a rest, xs, h, _ => by
    cases xs with
    | nil => simp [ckEs] at h
    | cons x ys => exact ⟨x, ys, rfl⟩
theorem assignEach_of {x : Expr} (h : plB x = true) (es : List Expr) (env : Env) : assignEach (x :: es) env = (false, assign x env) :: assignEach es env := by
  cases x <;> first | rfl | cases h
theorem tgs_all {c : Cc} : ∀ {gs : Tgs} {xs : List Expr}, ckTgs c gs xs = true → ∀ env, (assignEach xs env).length = tgsN gs ∧ (assignEach xs env).findIdx? (·.1) = none
  | .nil, xs, h, env => by
    cases xs with
    | nil => exact ⟨rfl, rfl⟩
    | cons _ _ => simp [ckTgs] at h
  | .cons g gs, xs, h, env => by
    cases xs with
    | nil => simp [ckTgs] at h
    | cons x ys =>
      simp only [ckTgs, Bool.and_eq_true] at h
      obtain ⟨a, b⟩ := tgs_all h.2 env
      rw [assignEach_of h.1.1]
      refine ⟨by simp [tgsN, a], ?_⟩
      rw [List.findIdx?_cons, b]
      rfl
mutual
theorem snd_Tg (G : Gd X W c pm C) : ∀ (g : Tg) (x : Expr), ckTg c g x = true → PG X x (tTg X.K pm g)
  | .name i, x, h => by
    simp only [ckTg] at h
    split at h
    · simp only [Bool.and_eq_true, decide_eq_true_eq] at h
      obtain ⟨l1, l2⟩ := G.loc h.2
      exact tg_name (by rw [G.ns]; exact G.nd) (by rw [G.ns]; exact h.1) l1 l2
    · cases h
  | .tup gs, x, h => by
    simp only [ckTg] at h
    split at h
    · obtain ⟨a, b⟩ := tgs_all h X.env
      exact tg_tup G.calm (snd_Tgs G gs _ h) a b
    · cases h
theorem snd_Tgs (G : Gd X W c pm C) : ∀ (gs : Tgs) (xs : List Expr), ckTgs c gs xs = true → PGs X xs (tTgs X.K pm gs)
  | .nil, xs, h => by
    cases xs with
    | nil => exact tg_nil
    | cons _ _ => simp [ckTgs] at h
  | .cons g gs, xs, h => by
    cases xs with
    | nil => simp [ckTgs] at h
    | cons x ys =>
      simp only [ckTgs, Bool.and_eq_true] at h
      exact tg_cons (snd_Tg G g x h.1.2) (snd_Tgs G gs ys h.2) (by rw [assignEach_of h.1.1]; rfl)
end
theorem Gd.bnm (G : Gd X W c pm C) {x : Str} (h : x ∈ bnames) : X.mg x = none := G.bn x h
end
end Fx
set_option Elab.async false
set_option linter.all false
namespace Fx
open PySem PySem.Spec PyProof.Rows L2
section
variable {pm : Pm} {C : Cal}
theorem m_ext {K : PySem.W.Frag} {W : WX} {m m' : EM} (h : ∀ r k, m' r k = m r k) : tE K pm W m' = tE K pm W m := by
  have : m' = m := funext fun r => funext fun k => h r k
  rw [this]
theorem mB_ext {K : PySem.W.Frag} {W : WX} {m m' : Ev → Hh → Res (Bool × Hh)} (h : ∀ r k, m' r k = m r k) : tB2 K pm W m' = tB2 K pm W m := by
  have : m' = m := funext fun r => funext fun k => h r k
  rw [this]
theorem noSl_of {x : Expr} (h : plB x = true) : NoSl x := by
  intro o i
  cases x <;> first | rfl | cases h
/-- both readings -/
def Both (X : Cx) (pm : Pm) (W : WX) (t : Bool) (x : Expr) (m : EM) : Prop := PE X x (tE X.K pm W m) ∧ (t = true → PT X x (tB2 X.K pm W fun r h => m r h >>= fun x => asB x.1 x.2))
theorem Both.of {X : Cx} {W : WX} {t : Bool} {x : Expr} {m m' : EM} (p : PE X x (tE X.K pm W m)) (he : ∀ whole, isTrue x X.env whole = (do let v ← whole; standAt x.pos; holding [v] (truthy v))) (h : ∀ r k, m' r k = m r k) : Both X pm W t x m' := by
  have : m' = m := funext fun r => funext fun k => h r k
  subst this
  exact ⟨p, fun _ => ex_val p he⟩
theorem Both.of2 {X : Cx} {W : WX} {t : Bool} {x : Expr} {m m' : EM} (p : PE X x (tE X.K pm W m) ∧ PT X x (tB2 X.K pm W fun r h => m r h >>= fun x => asB x.1 x.2)) (h : ∀ r k, m' r k = m r k) : Both X pm W t x m' := by
  have : m' = m := funext fun r => funext fun k => h r k
  subst this
  exact ⟨p.1, fun _ => p.2⟩
theorem biName_mem (f : Bi) : biName f ∈ bnames := by
  cases f with
  | isi t => exact (by decide : ("isinstance" : Str) ∈ bnames)
  | _ => decide
theorem biName_ok (f : Bi) : (biName f == ("__debug__" : Str)) = false ∧ biName f ≠ "__name__" := by
  cases f with
  | isi t => exact (by decide : (("isinstance" : Str) == ("__debug__" : Str)) = false ∧ ("isinstance" : Str) ≠ "__name__")
  | _ => decide
theorem ex_bi {X : Cx} {W : WX} {f : Bi} {mm : Bool} {p pos : Pos} {x : Str} {e : Expr} {es : List Expr} {m : Ev → Hh → Res (List D × Hh)} (hc : X.calm = true) (hx : x = biName f) (hf : biPlain f = true) (hg : Gl X x) (hm : X.mg x = none) (ha : PA X (e :: es) (tAs X.K pm W m))
    (he : starEach (e :: es) X.env = (false, eval e X.env) :: starEach es X.env) (hpl : (backTo pos (starEach es X.env)).any (·.1) = false) : PE X (.Call (.Name x p) (e :: es) [] pos) (tE X.K pm W fun r h => m r h >>= fun x => nox (biD f mm x.1 x.2)) := by
  subst hx
  obtain ⟨n1, n2⟩ := biName_ok f
  cases f with
  | len => exact ex_biB (bi_ok hc .len (fun t z => nomatch z)) hg hm (by decide +kernel) ha n2 n1 he hpl
  | abs => exact ex_biB (bi_ok hc .abs (fun t z => nomatch z)) hg hm (by decide +kernel) ha n2 n1 he hpl
  | min => exact ex_biB (bi_ok hc .min (fun t z => nomatch z)) hg hm (by decide +kernel) ha n2 n1 he hpl
  | max => exact ex_biB (bi_ok hc .max (fun t z => nomatch z)) hg hm (by decide +kernel) ha n2 n1 he hpl
  | sum => exact ex_biB (bi_ok hc .sum (fun t z => nomatch z)) hg hm (by decide +kernel) ha n2 n1 he hpl
  | all => exact ex_biB (bi_ok hc .all (fun t z => nomatch z)) hg hm (by decide +kernel) ha n2 n1 he hpl
  | any => exact ex_biB (bi_ok hc .any (fun t z => nomatch z)) hg hm (by decide +kernel) ha n2 n1 he hpl
  | int => exact ex_biT (bi_ok hc .int (fun t z => nomatch z)) hg hm (by decide +kernel) ha n2 n1 he hpl
  | tuple => exact ex_biT (bi_ok hc .tuple (fun t z => nomatch z)) hg hm (by decide +kernel) ha n2 n1 he hpl
  | list => exact ex_biT (bi_ok hc .list (fun t z => nomatch z)) hg hm (by decide +kernel) ha n2 n1 he hpl
  | isi t => cases hf
theorem ty_use {t : String} {x : Str} (h : tyB t x = true) : x ∈ bnames ∧ bootBuiltins x = some (.type t) ∧ x ≠ "__name__" ∧ (x == ("__debug__" : Str)) = false := by
  unfold tyB at h
  simp only [Bool.or_eq_true, Bool.and_eq_true, decide_eq_true_eq] at h
  rcases h with ((⟨rfl, rfl⟩ | ⟨rfl, rfl⟩) | ⟨rfl, rfl⟩) | ⟨rfl, rfl⟩
  · exact ⟨by decide, by decide +kernel, by decide, by decide⟩
  · exact ⟨by decide, by decide +kernel, by decide, by decide⟩
  · exact ⟨by decide, by decide +kernel, by decide, by decide⟩
  · exact ⟨by decide, by decide +kernel, by decide, by decide⟩
theorem ex_mts {X : Cx} {W : WX} {f : Mt} {ap cp : Pos} {x : Str} {a : Expr} {ma : EM} {es : List Expr} {m : Ev → Hh → Res (List D × Hh)} (hx : x = mtName f) (ha : PE X a (tE X.K pm W ma))
    (hes : PA X es (tAs X.K pm W m)) (h0 : es = [] → ∀ r h, m r h = .ok ([], h)) (hbase : attributeBase a x X.env (eval a X.env) = eval a X.env)
    (hfew : ((backTo cp (starEach es X.env)).all (fun x => !x.1) && (backToKw cp (keywordEach [] X.env)).all (fun x => x.1.isSome)
      && decide (es.length + ([] : List Keyword).length + (if ([] : List Keyword).isEmpty then 0 else 1) < 30)) = true) (hline : (ap.endLine == cp.line) = true)
    (hs : ∀ e r, es = e :: r → starEach (e :: r) X.env = (false, eval e X.env) :: starEach r X.env) (hpl : ∀ e r, es = e :: r → (backTo cp (starEach r X.env)).any (·.1) = false) :
    PE X (.Call (.Attribute a x ap) es [] cp) (tE X.K pm W fun r h => ma r h >>= fun x => (match lstOf x.2 x.1 with | none => .fail | some _ => m r x.2 >>= fun y => nox (mtD f x.1 y.1 y.2))) := by
  subst hx
  cases es with
  | nil =>
    have e0 : m = fun _ h => .ok ([], h) := funext fun r => funext fun h => h0 rfl r h
    subst e0
    cases f with
    | append => exact ex_mt0 (mt_ok .append) PySem.F.slot_list_append PySem.F.type_list_append ha hbase hline
    | extend => exact ex_mt0 (mt_ok .extend) PySem.F.slot_list_extend PySem.F.type_list_extend ha hbase hline
    | pop => exact ex_mt0 (mt_ok .pop) PySem.F.slot_list_pop PySem.F.type_list_pop ha hbase hline
    | index => exact ex_mt0 (mt_ok .index) PySem.F.slot_list_index PySem.F.type_list_index ha hbase hline
    | count => exact ex_mt0 (mt_ok .count) PySem.F.slot_list_count PySem.F.type_list_count ha hbase hline
  | cons e r =>
    cases f with
    | append => exact ex_mt (mt_ok .append) PySem.F.slot_list_append PySem.F.type_list_append ha hes hbase hfew hline (hs e r rfl) (hpl e r rfl)
    | extend => exact ex_mt (mt_ok .extend) PySem.F.slot_list_extend PySem.F.type_list_extend ha hes hbase hfew hline (hs e r rfl) (hpl e r rfl)
    | pop => exact ex_mt (mt_ok .pop) PySem.F.slot_list_pop PySem.F.type_list_pop ha hes hbase hfew hline (hs e r rfl) (hpl e r rfl)
    | index => exact ex_mt (mt_ok .index) PySem.F.slot_list_index PySem.F.type_list_index ha hes hbase hfew hline (hs e r rfl) (hpl e r rfl)
    | count => exact ex_mt (mt_ok .count) PySem.F.slot_list_count PySem.F.type_list_count ha hes hbase hfew hline (hs e r rfl) (hpl e r rfl)
mutual
theorem snd_E : ∀ (e : Ex) (X : Cx) (W : WX) (c : Cc) (x : Expr), Gd X W c pm C → ckE c e x = true → Both X pm W (tstB e) x (evE C e)
  | .v i, X, W, c, x, G, h => by
    simp only [ckE] at h
    split at h
    · simp only [Bool.and_eq_true, decide_eq_true_eq] at h
      obtain ⟨n1, n2, _⟩ := okN_inv h.2
      exact .of (ex_var (by rw [G.ns]; exact h.1.1) (G.vis h.1.2) n1 n2 C) (fun _ => rfl) fun _ _ => rfl
    · cases h
  | .ci i, X, W, c, x, G, h => by
    simp only [ckE] at h
    split at h
    · cases of_decide_eq_true h
      exact .of (ex_const (d := .int i) pe_int (fun _ _ => rfl) fun _ _ => Rl.int.mpr rfl) (fun _ => rfl) fun _ _ => by first | (simp only [evE]; done) | (simp only [evE]; rfl)
    · cases h
  | .cb i, X, W, c, x, G, h => by
    simp only [ckE] at h
    split at h
    · cases of_decide_eq_true h
      exact .of (ex_const (d := .bl i) pe_bl (fun _ _ => rfl) fun _ _ => Rl.bl.mpr rfl) (fun _ => rfl) fun _ _ => by first | (simp only [evE]; done) | (simp only [evE]; rfl)
    · cases h
  | .cn, X, W, c, x, G, h => by
    simp only [ckE] at h
    split at h
    · exact .of (ex_const (d := .non) pe_non (fun _ _ => rfl) fun _ _ => Rl.non.mpr rfl) (fun _ => rfl) fun _ _ => by first | (simp only [evE]; done) | (simp only [evE]; rfl)
    · cases h
  | .cs i, X, W, c, x, G, h => by
    simp only [ckE] at h
    split at h
    · cases of_decide_eq_true h
      exact .of (ex_const (d := .str i) pe_str (fun _ _ => rfl) fun _ _ => Rl.str.mpr rfl) (fun _ => rfl) fun _ _ => by first | (simp only [evE]; done) | (simp only [evE]; rfl)
    · cases h
  | .fn f, X, W, c, x, G, h => by simp [ckE] at h
  | .op o m a b, X, W, c, x, G, h => by
    simp only [ckE] at h
    split at h
    · simp only [Bool.and_eq_true, decide_eq_true_eq] at h
      obtain ⟨⟨rfl, ha⟩, hb⟩ := h
      exact .of (ex_op (op_ok o (m := m)) (snd_E a X W c _ G ha).1 (snd_E b X W c _ G hb).1) (fun _ => rfl) fun _ _ => by first | (simp only [evE]; done) | (simp only [evE]; rfl)
    · cases h
  | .neg a, X, W, c, x, G, h => by
    simp only [ckE] at h
    split at h
    · exact .of (ex_neg (snd_E a X W c _ G h).1) (fun _ => rfl) fun _ _ => by first | (simp only [evE]; done) | (simp only [evE]; rfl)
    · cases h
  | .no a, X, W, c, x, G, h => by
    simp only [ckE] at h
    split at h
    · simp only [Bool.and_eq_true] at h
      have ih := snd_E a X W c _ G h.2
      exact .of2 (ex_no ih.1 (ih.2 h.1)) fun _ _ => by first | (simp only [evE]; done) | (simp only [evE]; rfl)
    · cases h
  | .bop k as, X, W, c, x, G, h => by
    simp only [ckE] at h
    split at h
    · simp only [Bool.and_eq_true, decide_eq_true_eq] at h
      obtain ⟨rfl, hb⟩ := h
      rename_i vs pos
      obtain ⟨p1, p2⟩ := snd_B k as X W c vs G hb pos
      refine .of2 ⟨p1, ?_⟩ fun _ _ => by first | (simp only [evE]; done) | (simp only [evE]; rfl)
      refine PT.mono p2.pt fun s H Q ⟨mu, r, h, re, rh, p⟩ => ⟨mu, r, h, re, rh, ?_⟩
      dsimp only at p
      cases hm : evB C k as r h with
      | ok x => rw [hm] at p; exact p
      | exc c h1 => rw [hm] at p; exact p
      | fail => rw [hm] at p; exact p
    · cases h
  | .cmp o a b, X, W, c, x, G, h => by
    simp only [ckE] at h
    split at h
    · simp only [Bool.and_eq_true, decide_eq_true_eq] at h
      obtain ⟨⟨rfl, ha⟩, hp, hb⟩ := h
      exact .of2 (ex_cmpc (cmp_ok G.hu o) (snd_E a X W c _ G ha).1 (snd_E b X W c _ G hb).1 (marks_of hp _)) fun _ _ => by first | (simp only [evE]; done) | (simp only [evE]; rfl)
    · cases h
  | .chain o p a b d, X, W, c, x, G, h => by
    simp only [ckE] at h
    split at h
    · simp only [Bool.and_eq_true, decide_eq_true_eq] at h
      obtain ⟨⟨⟨⟨rfl, rfl⟩, ha⟩, hb⟩, hp, hd⟩ := h
      refine .of2 (ex_chain (cmp_ok G.hu o) (cmp_ok G.hu p) (snd_E a X W c _ G ha).1 (snd_E b X W c _ G hb).1 (snd_E d X W c _ G hd).1 ?_) fun _ _ => by first | (simp only [evE]; done) | (simp only [evE]; rfl)
      show behindInMarks _ _ = false
      exact marks_of hp _
    · cases h
  | .isN neg a, X, W, c, x, G, h => by
    simp only [ckE] at h
    split at h
    · simp only [Bool.and_eq_true, decide_eq_true_eq] at h
      obtain ⟨rfl, ha⟩ := h
      exact .of2 (ex_isN (snd_E a X W c _ G ha).1 neg) fun _ _ => by first | (simp only [evE]; done) | (simp only [evE]; rfl)
    · cases h
  | .ite t a b, X, W, c, x, G, h => by
    simp only [ckE] at h
    split at h
    · simp only [Bool.and_eq_true] at h
      obtain ⟨⟨⟨ht, h1⟩, ha⟩, hb⟩ := h
      refine ⟨?_, fun z => by simp [tstB] at z⟩
      rw [m_ext (m := fun r h => (evE C t r h >>= fun x => asB x.1 x.2) >>= fun c => if c.1 = true then evE C a r c.2 else evE C b r c.2) fun r k => by
        simp only [evE]
        cases evE C t r k <;> rfl]
      exact ex_ite ((snd_E t X W c _ G h1).2 ht) (snd_E a X W c _ G ha).1 (snd_E b X W c _ G hb).1
    · cases h
  | .call f as, X, W, c, x, G, h => by
    simp only [ckE] at h
    split at h
    · simp only [Bool.and_eq_true, decide_eq_true_eq] at h
      obtain ⟨⟨⟨hf, hg⟩, hn⟩, has⟩ := h
      obtain ⟨n1, n2, n3⟩ := okN_inv hn
      obtain ⟨k, fa, fd, ps, F, hr, hm, hk, hb⟩ := G.fn f _ hf
      rename_i y p args pos
      cases args with
      | nil =>
        refine .of (ex_call0 F hr (G.glb hg) hm hk hb G.tk n1) (fun _ => rfl) fun r k => ?_
        cases as with
        | nil => simp only [evE, evEs]; rfl
        | cons _ _ => simp [ckEs] at has
      | cons e es =>
        have pa := snd_Es as X W c _ G has
        cases as with
        | nil => simp [ckEs] at has
        | cons a rest =>
          have has' := has
          simp only [ckEs, Bool.and_eq_true] at has'
          exact .of (ex_call F hr (G.glb hg) hm hk hb G.tk pa n1 (star_of has'.1.1 _ _) (back_all has'.2 _ _)) (fun _ => rfl) fun r k => by first | (simp only [evE]; done) | (simp only [evE]; rfl)
    · cases h
  | .bi f m as, X, W, c, x, G, h => by
    simp only [ckE] at h
    split at h
    · simp only [Bool.and_eq_true, decide_eq_true_eq] at h
      obtain ⟨⟨⟨⟨hx, hf⟩, hg⟩, hne⟩, has⟩ := h
      have pa := snd_Es as X W c _ G has
      rename_i y p args pos
      cases as with
      | nil => cases hne
      | cons a rest =>
        cases args with
        | nil => simp [ckEs] at has
        | cons e es =>
          have has' := has
          simp only [ckEs, Bool.and_eq_true] at has'
          exact .of (ex_bi (mm := m) G.calm hx hf (G.glb hg) (by rw [hx]; exact G.bnm (biName_mem f)) pa (star_of has'.1.1 _ _) (back_all has'.2 _ _)) (fun _ => rfl) fun r k => by first | (simp only [evE]; done) | (simp only [evE]; rfl)
    · cases h
  | .isi t a, X, W, c, x, G, h => by
    simp only [ckE] at h
    split at h
    · simp only [Bool.and_eq_true, decide_eq_true_eq] at h
      obtain ⟨⟨⟨⟨rfl, hg⟩, ht⟩, hgz⟩, hp, ha⟩ := h
      obtain ⟨t1, t2, t3, t4⟩ := ty_use ht
      exact .of (ex_isi (m := false) (G.glb hg) (G.bnm (by decide)) (by decide +kernel) (G.glb hgz) (G.bnm t1) t2 (snd_E a X W c _ G ha).1 (by decide) (by decide) t3 t4 (star_of hp _ _)) (fun _ => rfl) fun r k => by first | (simp only [evE]; done) | (simp only [evE]; rfl)
    · cases h
  | .mt f o as, X, W, c, x, G, h => by
    simp only [ckE] at h
    split at h
    · simp only [Bool.and_eq_true, decide_eq_true_eq] at h
      obtain ⟨⟨⟨⟨⟨hx, hline⟩, hatt⟩, hl⟩, ho⟩, has⟩ := h
      have pa := snd_Es as X W c _ G has
      refine .of (ex_mts hx (snd_E o X W c _ G ho).1 pa (fun e0 r k => ?_) (att_of hatt _ _) (few_all has _ _ hl) hline (fun e r e0 => ?_) (fun e r e0 => ?_)) (fun _ => rfl) fun r k => by first | (simp only [evE]; done) | (simp only [evE]; rfl)
      · subst e0
        cases as with
        | nil => simp only [evEs]
        | cons _ _ => simp [ckEs] at has
      · subst e0
        cases as with
        | nil => simp [ckEs] at has
        | cons a rest =>
          simp only [ckEs, Bool.and_eq_true] at has
          exact star_of has.1.1 _ _
      · subst e0
        cases as with
        | nil => simp [ckEs] at has
        | cons a rest =>
          simp only [ckEs, Bool.and_eq_true] at has
          exact back_all has.2 _ _
    · cases h
  | .rgT as, X, W, c, x, G, h => by
    simp only [ckE] at h
    split at h
    · simp only [Bool.and_eq_true, decide_eq_true_eq] at h
      obtain ⟨⟨⟨⟨⟨rfl, hg⟩, rfl⟩, hg2⟩, has⟩, hl⟩ := h
      exact .of (ex_rgT G.calm (G.glb hg) (G.bnm (by decide)) (snd_R as X W c _ G (G.glb hg2) has hl) rfl) (fun _ => rfl) fun r k => by first | (simp only [evE]; done) | (simp only [evE]; rfl)
    · cases h
  | .rgL m as, X, W, c, x, G, h => by
    simp only [ckE] at h
    split at h
    · simp only [Bool.and_eq_true, decide_eq_true_eq] at h
      obtain ⟨⟨⟨⟨⟨rfl, hg⟩, rfl⟩, hg2⟩, has⟩, hl⟩ := h
      exact .of (ex_rgL (mm := m) G.calm (G.glb hg) (G.bnm (by decide)) (snd_R as X W c _ G (G.glb hg2) has hl) rfl) (fun _ => rfl) fun r k => by first | (simp only [evE]; done) | (simp only [evE]; rfl)
    · cases h
  | .ix a i, X, W, c, x, G, h => by
    simp only [ckE] at h
    split at h
    · simp only [Bool.and_eq_true] at h
      obtain ⟨ha, hp, hi⟩ := h
      exact .of (ex_ix (snd_E a X W c _ G ha).1 (snd_E i X W c _ G hi).1 (plain_of hp)) (fun _ => rfl) fun r k => by first | (simp only [evE]; done) | (simp only [evE]; rfl)
    · cases h
  | .sl a lo hi, X, W, c, x, G, h => by
    simp only [ckE] at h
    split at h
    · simp only [Bool.and_eq_true] at h
      obtain ⟨⟨ha, hl⟩, hu⟩ := h
      exact .of (ex_sl (snd_E a X W c _ G ha).1 (snd_O lo X W c _ G hl) (snd_O hi X W c _ G hu)) (fun _ => rfl) fun r k => by first | (simp only [evE]; done) | (simp only [evE]; rfl)
    · cases h
  | .rev a, X, W, c, x, G, h => by
    simp only [ckE] at h
    split at h
    · simp only [Bool.and_eq_true, decide_eq_true_eq] at h
      obtain ⟨rfl, ha⟩ := h
      exact .of (ex_revL (snd_E a X W c _ G ha).1) (fun _ => rfl) fun r k => by first | (simp only [evE]; done) | (simp only [evE]; rfl)
    · cases h
  | .tup as, X, W, c, x, G, h => by
    simp only [ckE] at h
    split at h
    · exact .of (ex_tup (snd_Es as X W c _ G h)) (fun _ => rfl) fun r k => by first | (simp only [evE]; done) | (simp only [evE]; rfl)
    · cases h
  | .lst m as, X, W, c, x, G, h => by
    simp only [ckE] at h
    split at h
    · exact .of (ex_lst (mm := m) (snd_Es as X W c _ G h)) (fun _ => rfl) fun r k => by first | (simp only [evE]; done) | (simp only [evE]; rfl)
    · cases h
  | .comp m own g it cond elt, X, W, c, x, G, h => by
    simp only [ckE] at h
    split at h
    · simp only [Bool.and_eq_true, decide_eq_true_eq] at h
      obtain ⟨⟨⟨⟨⟨⟨⟨hb, hk⟩, ho⟩, htg⟩, hpl⟩, hit⟩, hif⟩, helt⟩ := h
      have e0 : (ownOf c own).map (·.2) = own := by
        unfold ownOf
        rw [List.map_map]
        exact List.map_id own
      refine .of (m := fun r h => evI C it r h >>= fun w => if w.1.1.length ≤ sizeLine then nox (compD w.1.2 w.1.1 g (wip r own) (evC C cond) (evE C elt) w.1.1 w.2) >>= fun x => mkL m x.1 x.2 else .fail) ?_ (fun _ => rfl) fun r k => by first | (simp only [evE]; done) | (simp only [evE]; rfl)
      refine PE.mono (pe_lc (own := ownOf c own) (g := tTg X.K pm g) (tt := tB2 X.K pm W0 (evC C cond)) (te := tE X.K pm W0 (evE C elt)) G.calm (by rw [G.ns]; exact G.nd) (snd_I it X W c _ _ G hit) (by rw [G.ns, G.sc]; exact blkOk_by hb) (fun s H L cl fp => snd_Tg (G.blk hk s H L cl fp) g _ htg)
        (fun s H L cl fp => snd_If cond _ _ _ _ (G.blk hk s H L cl fp) hif) (fun s H L cl fp => (snd_E elt _ _ _ _ (G.blk hk s H L cl fp) helt).1) (fold_of hpl _)) fun s H Q q => ?_
      rw [e0]
      exact comp_read ho s H Q q
    · cases h
  | .isx k a, X, W, c, x, G, h => by
    simp only [ckE] at h
    split at h
    · simp only [Bool.and_eq_true, decide_eq_true_eq] at h
      obtain ⟨⟨⟨⟨rfl, hg⟩, hxf, hk⟩, hgz⟩, hp, ha⟩ := h
      cases k with
      | some m =>
        simp only [ckX, Bool.and_eq_true, decide_eq_true_eq] at hk
        exact .of (ex_isx (G.ef hxf) hk.1 (G.glb hgz) (okN_inv hk.2).1 (G.glb hg) (G.bnm (by decide)) (by decide +kernel) (snd_E a X W c _ G ha).1 (by decide) (by decide) (star_of hp _ _)) (fun _ => rfl) fun r k => by first | (simp only [evE]; done) | (simp only [evE]; rfl)
      | none =>
        simp only [ckX, decide_eq_true_eq] at hk
        subst hk
        exact .of (ex_isv (G.ef hxf) (G.glb hgz) (G.bnm (by decide)) (by decide +kernel) (by decide) (by decide) (G.glb hg) (G.bnm (by decide)) (by decide +kernel) (snd_E a X W c _ G ha).1 (by decide) (by decide) (star_of hp _ _)) (fun _ => rfl) fun r k => by first | (simp only [evE]; done) | (simp only [evE]; rfl)
    · cases h
  | .dkd ps, X, W, c, x, G, h => by
    simp only [ckE] at h
    split at h
    · simp only [Bool.and_eq_true, decide_eq_true_eq, Bool.not_eq_true'] at h
      obtain ⟨⟨⟨⟨hps, ha⟩, hl⟩, h0⟩, h15⟩ := h
      exact .of (ex_dkd (snd_Ps ps X W c _ _ _ G hps) ha hl (fun z => by rw [z] at h0; cases h0) h15) (fun _ => rfl) fun r k => by first | (simp only [evE]; done) | (simp only [evE]; rfl)
    · cases h
  | .dk0, X, W, c, x, G, h => by
    simp only [ckE] at h
    split at h
    · exact .of ex_dk0 (fun _ => rfl) fun r k => by first | (simp only [evE]; done) | (simp only [evE]; rfl)
    · cases h
  | .dt0, X, W, c, x, G, h => by
    simp only [ckE] at h
    split at h
    · exact .of ex_dt0 (fun _ => rfl) fun r k => by first | (simp only [evE]; done) | (simp only [evE]; rfl)
    · cases h
  | .dget o k d, X, W, c, x, G, h => by
    simp only [ckE] at h
    split at h
    · simp only [Bool.and_eq_true, decide_eq_true_eq] at h
      obtain ⟨⟨⟨⟨⟨rfl, hline⟩, hatt⟩, ho⟩, hpk, hk⟩, hpd, hd⟩ := h
      have e1 := star_of hpk
      have e2 := star_of hpd
      refine .of (ex_dget (Nat.lt_of_le_of_lt (by omega) G.hu) (snd_E o X W c _ G ho).1 (snd_E k X W c _ G hk).1 (snd_E d X W c _ G hd).1 ⟨att_of hatt _ _, ?_, hline, ?_⟩) (fun _ => rfl) fun r k => by first | (simp only [evE]; done) | (simp only [evE]; rfl)
      · rw [e1, e2]; rfl
      · rw [e1, e2]; rfl
    · cases h
  | .dix o k, X, W, c, x, G, h => by
    simp only [ckE] at h
    split at h
    · simp only [Bool.and_eq_true] at h
      obtain ⟨ho, hpk, hk⟩ := h
      exact .of (ex_dix (Nat.lt_of_le_of_lt (by omega) G.hu) (snd_E o X W c _ G ho).1 (snd_E k X W c _ G hk).1 (noSl_of hpk)) (fun _ => rfl) fun r k => by first | (simp only [evE]; done) | (simp only [evE]; rfl)
    · cases h
  | .din neg k o, X, W, c, x, G, h => by
    simp only [ckE] at h
    split at h
    · simp only [Bool.and_eq_true, decide_eq_true_eq] at h
      obtain ⟨⟨rfl, hk⟩, hpo, ho⟩ := h
      exact .of2 (ex_din (Nat.lt_of_le_of_lt (by omega) G.hu) (snd_E k X W c _ G hk).1 (snd_E o X W c _ G ho).1 (marks_of hpo)) fun _ _ => by first | (simp only [evE]; done) | (simp only [evE]; rfl)
    · cases h
  | .srt m a, X, W, c, x, G, h => by
    simp only [ckE] at h
    split at h
    · simp only [Bool.and_eq_true, decide_eq_true_eq] at h
      obtain ⟨⟨hx, hg⟩, hp, ha⟩ := h
      exact .of (ex_srt (m := m) G.hu hx (G.glb hg) (G.bnm (by rw [hx]; decide)) (snd_E a X W c _ G ha).1 (star_of hp _ _)) (fun _ => rfl) fun r k => by first | (simp only [evE]; done) | (simp only [evE]; rfl)
    · cases h
  | .lenum a, X, W, c, x, G, h => by
    simp only [ckE] at h
    split at h
    · simp only [Bool.and_eq_true, decide_eq_true_eq] at h
      obtain ⟨⟨⟨⟨rfl, hg⟩, rfl⟩, hg2⟩, hp, ha⟩ := h
      exact .of (ex_lenum G.calm (G.glb hg2) (G.bnm (by decide)) (G.glb hg) (G.bnm (by decide)) (snd_E a X W c _ G ha).1 (star_of hp _ _) rfl) (fun _ => rfl) fun r k => by first | (simp only [evE]; done) | (simp only [evE]; rfl)
    · cases h
  | .lset a, X, W, c, x, G, h => by
    simp only [ckE] at h
    split at h
    · simp only [Bool.and_eq_true, decide_eq_true_eq] at h
      obtain ⟨⟨⟨⟨rfl, hg⟩, rfl⟩, hg2⟩, hp, ha⟩ := h
      exact .of (ex_lset G.calm (G.glb hg) (G.bnm (by decide)) (G.glb hg2) (G.bnm (by decide)) (snd_E a X W c _ G ha).1 (star_of hp _ _)) (fun _ => rfl) fun r k => by first | (simp only [evE]; done) | (simp only [evE]; rfl)
    · cases h
  | .tix a b, X, W, c, x, G, h => by
    simp only [ckE] at h
    split at h
    · simp only [Bool.and_eq_true, decide_eq_true_eq] at h
      obtain ⟨⟨⟨⟨rfl, hline⟩, hatt⟩, ho⟩, hpb, hb⟩ := h
      have e1 := star_of hpb
      refine .of (ex_tix (snd_E a X W c _ G ho).1 (snd_E b X W c _ G hb).1 ⟨att_of hatt _ _, ?_, hline, ?_⟩) (fun _ => rfl) fun r k => by first | (simp only [evE, tixM]; done) | (simp only [evE, tixM]; rfl)
      · rw [e1]; rfl
      · rw [e1]; rfl
    · cases h
theorem snd_Ps : ∀ (ps : Exps) (X : Cx) (W : WX) (c : Cc) (pos : Pos) (ks : List (Option Expr)) (vs : List Expr), Gd X W c pm C → ckPs c ps ks vs = true → PPx X pm W pos ks vs (evPs C ps)
  | .nil, X, W, c, pos, ks, vs, G, h => by
    simp only [ckPs] at h
    split at h
    · have e0 : evPs C .nil = fun _ h => .ok ([], h) := funext fun r => funext fun h => by simp only [evPs]
      rw [e0]
      exact ppx_nil
    · cases h
  | .cons k v r, X, W, c, pos, ks, vs, G, h => by
    simp only [ckPs] at h
    split at h
    · simp only [Bool.and_eq_true] at h
      have e0 : evPs C (.cons k v r) = fun rr h => evE C k rr h >>= fun x => evE C v rr x.2 >>= fun y => evPs C r rr y.2 >>= fun z => .ok ((x.1, y.1) :: z.1, z.2) := funext fun r => funext fun h => by simp only [evPs]
      rw [e0]
      exact ppx_cons (snd_E k X W c _ G h.1.1).1 (snd_E v X W c _ G h.1.2).1 (snd_Ps r X W c pos _ _ G h.2)
    · cases h
theorem snd_B : ∀ (k : Bool) (as : Exs) (X : Cx) (W : WX) (c : Cc) (xs : List Expr), Gd X W c pm C → ckB c as xs = true → Bl2 X pm W k xs (evB C k as)
  | _, .nil, _, _, _, _, _, h => by simp [ckB] at h
  | k, .cons a .nil, X, W, c, xs, G, h => by
    simp only [ckB] at h
    split at h
    · simp only [Bool.and_eq_true] at h
      have ih := snd_E a X W c _ G h.2
      have := ex_bop1 (k := k) ih.1 (ih.2 h.1)
      intro pos
      have e0 : evB C k (.cons a .nil) = fun r h => evE C a r h >>= fun x => asB x.1 x.2 := funext fun r => funext fun h => by simp only [evB]
      rw [e0]
      exact this pos
    · cases h
  | k, .cons a (.cons b rest), X, W, c, xs, G, h => by
    simp only [ckB] at h
    split at h
    · simp only [Bool.and_eq_true] at h
      obtain ⟨⟨ht, ha⟩, hr⟩ := h
      have ih := snd_E a X W c _ G ha
      have := ex_bop (k := k) ih.1 (ih.2 ht) (snd_B k (.cons b rest) X W c _ G hr)
      intro pos
      have e0 : evB C k (.cons a (.cons b rest)) = fun r h => evE C a r h >>= fun x => asB x.1 x.2 >>= fun c => if c.1 = k then evB C k (.cons b rest) r c.2 else .ok c := funext fun r => funext fun h => by simp only [evB]
      rw [e0]
      exact this pos
    · cases h
theorem snd_Es : ∀ (as : Exs) (X : Cx) (W : WX) (c : Cc) (xs : List Expr), Gd X W c pm C → ckEs c as xs = true → PA X xs (tAs X.K pm W (evEs C as))
  | .nil, X, W, c, xs, G, h => by
    cases xs with
    | nil =>
      have e0 : evEs C .nil = fun _ h => .ok ([], h) := funext fun r => funext fun h => by simp only [evEs]
      rw [e0]
      exact ex_nil
    | cons _ _ => simp [ckEs] at h
  | .cons a rest, X, W, c, xs, G, h => by
    cases xs with
    | nil => simp [ckEs] at h
    | cons x ys =>
      simp only [ckEs, Bool.and_eq_true] at h
      have e0 : evEs C (.cons a rest) = fun r h => evE C a r h >>= fun x => evEs C rest r x.2 >>= fun y => .ok (x.1 :: y.1, y.2) := funext fun r => funext fun h => by simp only [evEs]
      rw [e0]
      exact ex_cons (snd_E a X W c _ G h.1.2).1 (snd_Es rest X W c _ G h.2) (star_of h.1.1 _ _)
theorem snd_R : ∀ (as : Exs) (X : Cx) (W : WX) (c : Cc) (xs : List Expr) {p pos : Pos}, Gd X W c pm C → Gl X "range" → ckEs c as xs = true → xs.length = 1 ∨ xs.length = 2 → PRg X (.Call (.Name "range" p) xs [] pos) (tRgs X.K pm W (evEs C as))
  | .nil, X, W, c, xs, p, pos, G, hg, h, hl => by
    cases xs with
    | nil => simp at hl
    | cons _ _ => simp [ckEs] at h
  | .cons a .nil, X, W, c, xs, p, pos, G, hg, h, hl => by
    cases xs with
    | nil => simp [ckEs] at h
    | cons x ys =>
      simp only [ckEs, Bool.and_eq_true] at h
      cases ys with
      | nil =>
        have e0 : evEs C (.cons a .nil) = m1 (evE C a) := funext fun r => funext fun h => by simp only [evEs, m1]
        rw [e0]
        exact rg_1 hg (G.bnm (by decide)) (snd_E a X W c _ G h.1.2).1 (star_of h.1.1 _ _)
      | cons _ _ => simp at h
  | .cons a (.cons b .nil), X, W, c, xs, p, pos, G, hg, h, hl => by
    cases xs with
    | nil => simp [ckEs] at h
    | cons x ys =>
      cases ys with
      | nil => simp [ckEs] at h
      | cons y zs =>
        simp only [ckEs, Bool.and_eq_true] at h
        cases zs with
        | nil =>
          have e0 : evEs C (.cons a (.cons b .nil)) = m2 (evE C a) (evE C b) := funext fun r => funext fun h => by simp only [evEs, m2, m1]
          rw [e0]
          refine rg_2 hg (G.bnm (by decide)) (snd_E a X W c _ G h.1.2).1 (snd_E b X W c _ G h.2.1.2).1 (star_of h.1.1 _ _) (star_of h.2.1.1 _ _) ?_
          rw [star_of h.2.1.1]
          rfl
        | cons _ _ => simp at h
  | .cons a (.cons b (.cons d rest)), X, W, c, xs, p, pos, G, hg, h, hl => by
    cases xs with
    | nil => simp [ckEs] at h
    | cons x ys =>
      cases ys with
      | nil => simp [ckEs] at h
      | cons y zs =>
        cases zs with
        | nil => simp [ckEs] at h
        | cons _ _ => simp at hl
theorem snd_O : ∀ (a : Exo) (X : Cx) (W : WX) (c : Cc) (x : Option Expr), Gd X W c pm C → ckO c a x = true → PO X x (tOi X.K pm W (evO C a))
  | .none, X, W, c, x, G, h => by
    cases x with
    | none =>
      have e0 : evO C .none = fun _ h => .ok (none, h) := funext fun r => funext fun h => by simp only [evO]
      rw [e0]
      exact ex_noO
    | some _ => simp [ckO] at h
  | .some a, X, W, c, x, G, h => by
    cases x with
    | none => simp [ckO] at h
    | some y =>
      simp only [ckO] at h
      have e0 : evO C (.some a) = fun r h => evE C a r h >>= fun x => asI x.1 x.2 >>= fun i => .ok (some i.1, i.2) := funext fun r => funext fun h => by simp only [evO]
      rw [e0]
      exact ex_soO (snd_E a X W c _ G h).1
theorem snd_If : ∀ (a : Exo) (X : Cx) (W : WX) (c : Cc) (xs : List Expr), Gd X W c pm C → ckIf c a xs = true → PTs X xs (tB2 X.K pm W (evC C a))
  | .none, X, W, c, x, G, h => by
    cases x with
    | nil =>
      have e0 : evC C .none = fun _ h => .ok (true, h) := funext fun r => funext fun h => by simp only [evC]
      rw [e0]
      exact ⟨fun pins s σ H Q I ⟨mu, r, h, re, rh, p⟩ => pts_nil.run pins s σ H Q I (p.ok_inv rh)⟩
    | cons _ _ => simp [ckIf] at h
  | .some a, X, W, c, x, G, h => by
    simp only [ckIf] at h
    split at h
    · simp only [Bool.and_eq_true] at h
      have e0 : evC C (.some a) = fun r h => evE C a r h >>= fun x => asB x.1 x.2 := funext fun r => funext fun h => by simp only [evC]
      rw [e0]
      exact pts_one ((snd_E a X W c _ G h.2).2 h.1)
    · cases h
theorem snd_I : ∀ (a : Itr) (X : Cx) (W : WX) (c : Cc) (x tg : Expr), Gd X W c pm C → ckI c a x tg = true → PI X tg x (tIt X.K pm W (evI C a))
  | .seq a, X, W, c, x, tg, G, h => by
    simp only [ckI] at h
    have e0 : evI C (.seq a) = fun r h => evE C a r h >>= fun x => nox (walkD x.1 x.2) >>= fun w => .ok (w, x.2) := funext fun r => funext fun h => by first | (simp only [evI]; done) | (simp only [evI]; rfl)
    rw [e0]
    exact it_seq (snd_E a X W c _ G h).1
  | .range n as, X, W, c, x, tg, G, h => by
    simp only [ckI] at h
    split at h
    · simp only [Bool.and_eq_true, decide_eq_true_eq] at h
      obtain ⟨⟨⟨⟨rfl, hg⟩, has⟩, hl⟩, hn⟩ := h
      have pa := snd_Es as X W c _ G has
      have e0 : evI C (.range n as) = fun r h => evEs C as r h >>= fun x => if x.1.length = n then (match rngD x.1 with | some xs => .ok ((xs, none), x.2) | none => .fail) else .fail := funext fun r => funext fun h => by first | (simp only [evI]; done) | (simp only [evI]; rfl)
      rw [e0]
      rename_i p args pos
      have sa := stars_all has X.env
      rcases hn with rfl | rfl
      · match args, hl with
        | [a], _ => exact it_range1 (G.glb hg) (G.bnm (by decide)) pa sa
      · match args, hl with
        | [a, b], _ =>
          refine it_range2 (G.glb hg) (G.bnm (by decide)) pa sa ?_
          cases as with
          | nil => simp [ckEs] at has
          | cons a' rest =>
            simp only [ckEs, Bool.and_eq_true] at has
            exact stars_all has.2 X.env
    · cases h
  | .enum a, X, W, c, x, tg, G, h => by
    simp only [ckI] at h
    split at h
    · simp only [Bool.and_eq_true, decide_eq_true_eq] at h
      obtain ⟨⟨rfl, hg⟩, hp, ha⟩ := h
      have e0 : evI C (.enum a) = fun r h => evE C a r h >>= fun x => (match x.1 with
        | .lst xs => .ok ((numb 0 xs, none), x.2)
        | .tup xs => .ok ((numb 0 xs, none), x.2)
        | _ => .fail) := funext fun r => funext fun h => by first | (simp only [evI]; done) | (simp only [evI]; rfl)
      rw [e0]
      exact it_enumB (G.glb hg) (G.bnm (by decide)) (snd_E a X W c _ G ha).1 (star_of hp _ _)
    · cases h
  | .zip a b, X, W, c, x, tg, G, h => by
    simp only [ckI] at h
    split at h
    · simp only [Bool.and_eq_true, decide_eq_true_eq] at h
      obtain ⟨⟨⟨rfl, hg⟩, hp, ha⟩, hp2, hb⟩ := h
      have e0 : evI C (.zip a b) = fun r h => evE C a r h >>= fun x => evE C b r x.2 >>= fun y => (match x.1, y.1 with
        | .tup xs, .tup ys => .ok ((pair xs ys, none), y.2)
        | .lst xs, .lst ys => .ok ((pair xs ys, none), y.2)
        | _, _ => .fail) := funext fun r => funext fun h => by first | (simp only [evI]; done) | (simp only [evI]; rfl)
      rw [e0]
      refine it_zip (G.glb hg) (G.bnm (by decide)) (snd_E a X W c _ G ha).1 (snd_E b X W c _ G hb).1 (star_of hp _ _) (star_of hp2 _ _) ?_
      rw [star_of hp2]
      rfl
    · cases h
end
end
end Fx
set_option Elab.async false
set_option linter.all false
namespace Fx
open PySem PySem.Spec PyProof.Rows L2

def isStarB : Expr → Bool
  | .Starred .. => true | _ => false
def swNm (sc : Scope) (line : Nat) : Expr → Option Str
  | .Name id pos => if sc.names.lookup id == some .local && pos.line == line then some id else none
  | _ => none
def swNs (sc : Scope) (ts : List Expr) : List Str := ts.filterMap (swNm sc ((ts.head?.map (·.pos.line)).getD 0))
/-- the names of stores that are exchanged; none: neither way -/
def swOf (sc : Scope) (ts vs : List Expr) : Option (Option (List Str)) :=
  if (!(ts.length == 2 || ts.length == 3) || vs.length != ts.length) = true then some none
  else if vs.any isStarB = true then some none
  else if ((swNs sc ts).length != ts.length || (swNs sc ts).eraseDups.length != (swNs sc ts).length) = true then some none
  else if vs.all (foldedForSure 8) = true then some none
  else if vs.all (constantsAlone 8) = true then none else some (some (swNs sc ts))
theorem sw_of {X : Cx} {W : WX} {c : Cc} {pm : Pm} {C : Cal} (G : Gd X W c pm C) {ts vs : List Expr} {k k2 : Nat} {p p2 : Pos} {r : Option (List Str)} (h : swOf c.sc ts vs = some r) :
    swappedStores [.Tuple ts k p] (.Tuple vs k2 p2) X.env = pure r := by
  have hk : X.env.scope = c.sc := G.sc
  have hb : X.env.blockKind = .function := by unfold Env.blockKind; rw [hk, G.kind]; rfl
  rw [← hk] at h
  have hnm : (fun x : Expr => match x with
    | .Name id pos => if (X.env.kindOf id == some .local && pos.line == ((ts.head?.map (·.pos.line)).getD 0)) = true then some id else none
    | _ => none) = swNm X.env.scope ((ts.head?.map (·.pos.line)).getD 0) := by
    funext x
    cases x <;> rfl
  have hst : (fun x : Expr => match x with | .Starred .. => true | _ => false) = isStarB := by
    funext x
    cases x <;> rfl
  have key : swappedStores [.Tuple ts k p] (.Tuple vs k2 p2) X.env =
      (if (!(ts.length == 2 || ts.length == 3) || vs.length != ts.length || ScopeKind.function != ScopeKind.function) = true then pure none
      else if vs.any isStarB = true then pure none
      else if ((swNs X.env.scope ts).length != ts.length || (swNs X.env.scope ts).eraseDups.length != (swNs X.env.scope ts).length) = true then pure none
      else if vs.all (foldedForSure 8) = true then pure none
      else if vs.all (constantsAlone 8) = true then ((unsupported "assign.tuple-of-constant-expressions:order-of-the-stores" : Sem Unit) >>= fun _ => pure (some (swNs X.env.scope ts))) else pure (some (swNs X.env.scope ts))) := by
    unfold swappedStores swNs
    simp only [hb]
    rw [← hnm, ← hst]
    rfl
  rw [key]
  unfold swOf at h
  have e0 : (ScopeKind.function != ScopeKind.function) = false := rfl
  rw [e0, Bool.or_false]
  split at h
  · rename_i z; cases h; rw [if_pos z]
  · rename_i z
    rw [if_neg z]
    split at h
    · rename_i z2; cases h; rw [if_pos z2]
    · rename_i z2
      rw [if_neg z2]
      split at h
      · rename_i z3; cases h; rw [if_pos z3]
      · rename_i z3
        rw [if_neg z3]
        split at h
        · rename_i z4; cases h; rw [if_pos z4]
        · rename_i z4
          rw [if_neg z4]
          split at h
          · cases h
          · rename_i z5; cases h; rw [if_neg z5]
/-- a comprehension's list that is exchanged with the name's value -/
def swB (c : Cc) (v : Expr) (y : Str) (py : Pos) : Bool := match v with
  | .ListComp _ _ s p => lclB c y && (py.line == p.line) && !(s.names.any fun (n, k) => n == y && (k == .local || k == .cell))
  | .SetComp .. => true
  | .DictComp .. => true
  | _ => false
theorem swB_false {X : Cx} {W : WX} {c : Cc} {pm : Pm} {C : Cal} (G : Gd X W c pm C) {v : Expr} {y : Str} {py : Pos} {line : Nat} (h : swB c v y py = false) : swapsWith v (some (.Name y py)) line X.env = pure false := by
  cases v <;> first | rfl | skip
  · rename_i elt gs s p
    have hk : X.env.scope = c.sc := G.sc
    have hb : X.env.blockKind = .function := by unfold Env.blockKind; rw [hk, G.kind]; rfl
    have hkn : X.env.kindOf y = c.sc.names.lookup y := by unfold Env.kindOf; rw [hk]
    unfold swapsWith
    simp only [hb, hkn, Expr.pos]
    simp only [swB] at h
    have e1 : (c.sc.names.lookup y == some NameKind.local) = lclB c y := by
      unfold lclB
      cases c.sc.names.lookup y with
      | none => rfl
      | some k => cases k <;> rfl
    have e2 : (ScopeKind.function == ScopeKind.function) = true := rfl
    show pure _ = pure false
    rw [e1, e2, Bool.true_and]
    exact congrArg pure h
  · cases h
  · cases h
theorem swT_false {v : Expr} {ts : List Expr} {k : Nat} {p : Pos} {line : Nat} {env : Env} : swapsWithSole [.Tuple ts k p] v line env = pure false := by
  cases v <;> rfl
theorem swSub_false {v o i : Expr} {p : Pos} {line : Nat} {env : Env} : swapsWithSole [.Subscript o i p] v line env = pure false := by
  cases v <;> rfl
theorem swN_false {v : Expr} (h : ncB v = true) {line : Nat} {env : Env} : swapsWith v none line env = pure false := by
  cases v <;> first | rfl | cases h
theorem stT_none {v : Expr} {ts : List Expr} {k : Nat} {p : Pos} {env : Env} (h : (match v with | .Tuple .. => false | _ => true) = true) : swappedStores [.Tuple ts k p] v env = pure none := by
  cases v <;> first | rfl | cases h
theorem stSub_none {v o i : Expr} {p : Pos} {env : Env} : swappedStores [.Subscript o i p] v env = pure none := by
  cases v <;> rfl
theorem star_no {x : Expr} (h : plB x = true) : isStarB x = false := by
  cases x <;> first | rfl | cases h
theorem sub_of {i : Expr} (h : plB i = true) {o : Expr} {p : Pos} {env : Env} : ∀ v, assign (.Subscript o i p) env v = (do
      let ov ← holding [v] (eval o env)
      let iv ← holding [v, ov] (eval i env)
      standAt p
      holding [v, ov, iv] (setItem ov iv v)
      release [v, ov, iv] []) := by
  intro v
  cases i <;> first | rfl | cases h
def noTup : Expr → Bool
  | .Tuple .. => false | _ => true
mutual
def ckS (c : Cc) : Sm → Stmt → Bool
  | .asg g e, x => (match x with
    | .Assign [tg] v _ => (match tg with
      | .Name y py => ckTg c g tg && !swB c v y py && ckE c e v
      | .Tuple ts _ _ => ckTg c g tg && ckE c e v && (noTup v || (match v with | .Tuple vs _ _ => decide (swOf c.sc ts vs = some none) | _ => false))
      | _ => false)
    | _ => false)
  | .asgL i e, x => (match x with
    | .Assign [.Name y py] v _ => (match v, e with
      | .ListComp elt' [⟨tg, iter, ifs, 0⟩] scope p, .comp _ own g it cond elt => decide (c.ns[i]? = some y) && lclB c y && (py.line == p.line) && !(scope.names.any fun (n, k) => n == y && (k == .local || k == .cell)) &&
          (blkC c.ns c.sc scope (ownOf c own) && decide (scope.kind = .function) && tgIn own g && ckTg (c.blk scope) g tg && plB iter && ckI c it iter tg && ckIf (c.blk scope) cond ifs && ckE (c.blk scope) elt elt')
      | _, _ => false)
    | _ => false)
  | .par is as, x => (match x with
    | .Assign [.Tuple ts _ _] (.Tuple vs _ _) _ => (match is, ts with
      | [i, j], [.Name y _, .Name z _] => decide (swOf c.sc ts vs = some (some [y, z])) && decide (c.ns[i]? = some y) && decide (c.ns[j]? = some z) && decide (i ≠ j) && lclB c y && lclB c z && ckEs c as vs && decide (vs.length = 2)
      | [i, j, l], [.Name y _, .Name z _, .Name u _] => decide (swOf c.sc ts vs = some (some [y, z, u])) && decide (c.ns[i]? = some y) && decide (c.ns[j]? = some z) && decide (c.ns[l]? = some u) && decide (i ≠ j) && decide (i ≠ l) && decide (j ≠ l) && lclB c y && lclB c z && lclB c u && ckEs c as vs && decide (vs.length = 3)
      | _, _ => false)
    | _ => false)
  | .setix o i v, x => (match x with | .Assign [.Subscript o' i' _] v' _ => ckE c o o' && (plB i' && ckE c i i') && ckE c v v' | _ => false)
  | .expr e, x => (match x with | .Expr v _ => ncB v && ckE c e v | _ => false)
  | .ret e, x => (match x with | .Return (some v) _ => ckE c e v | _ => false)
  | .retN, x => (match x with | .Return none _ => true | _ => false)
  | .iff t a b, x => (match x with | .If t' a' b' _ => tstB t && ckE c t t' && ckSs c a a' && ckSs c b b' | _ => false)
  | .whil t b, x => (match x with | .While t' b' [] _ => tstB t && ckE c t t' && ckSs c b b' | _ => false)
  | .forr g it b, x => (match x with | .For tg iter b' [] _ => ckTg c g tg && plB iter && ckI c it iter tg && ckSs c b b' | _ => false)
  | .rais n, x => (match x with | .Raise (some (.Call (.Name y _) [.Constant (.str _) _ _] [] _)) none _ => decide (c.cls[n]? = some y) && glbB c.sc y && okN y | _ => false)
  | .pass, x => (match x with | .Pass _ => true | _ => false)
  | .brk, x => (match x with | .Break _ => true | _ => false)
  | .cont, x => (match x with | .Continue _ => true | _ => false)
  | .tryk b k i j, x => (match x with | .Try body [.ExceptHandler (some (.Name x _)) (some n) [.Assign [.Name y _] (.Name n' _) _] _] [] [] _ => c.xf && decide (c.cls[k]? = some x) && glbB c.sc x && okN x && decide (c.ns[j]? = some n) && decide (c.ns[i]? = some y) && lclB c n && lclB c y && decide (n' = n) && okN n && decide (i ≠ j) && ckSs c b body | _ => false)
  | .dset o k v, x => (match x with | .Assign [.Subscript o' k' _] v' _ => ckE c o o' && ckE c k k' && ckE c v v' | _ => false)
  | .setix2 o i o' i' a b, x => (match x with | .Assign [.Tuple [.Subscript o1 i1 _, .Subscript o2 i2 _] _ _] (.Tuple [ea, eb] _ _) _ => (plB i1 && plB i2 && plB ea && plB eb) && (ckE c o o1 && ckE c i i1 && ckE c o' o2 && ckE c i' i2 && ckE c a ea && ckE c b eb) | _ => false)
def ckSs (c : Cc) : Sms → List Stmt → Bool
  | .nil, xs => (match xs with | [] => true | _ => false)
  | .cons a rest, xs => (match xs with | x :: ys => ckS c a x && ckSs c rest ys | _ => false)
end
/-- of a def's body besides: what its loops and raises lean on -/
structure GdS (X : Cx) (W : WX) (c : Cc) (pm : Pm) (C : Cal) : Prop extends Gd X W c pm C where
  po : PassesOwn (model X.prog X.w) X.A X.env X.xe
  rz : c.xf = true ∨ ∀ a b s H, ¬ W a b s H
  stk : X.stack = X.env :: X.outer
  frm : X.env.frame = some X.env.locals
  ex0 : X.ex = []
theorem GdS.tr {X : Cx} {W W' : WX} {c : Cc} {pm : Pm} {C : Cal} (G : GdS X W c pm C) (hx : c.xf = true) {pn : List (Addr × Obj)} {xe : Value → Shared → Prop} (tk : Takes (X.tr pn xe) W') (po : PassesOwn (model X.prog X.w) X.A X.env xe) : GdS (X.tr pn xe) W' c pm C where
  calm := G.calm
  ns := G.ns
  nd := G.nd
  sc := G.sc
  kind := G.kind
  cel := G.cel
  tk := tk
  hu := G.hu
  bn := G.bn
  fn := G.fn
  ef := G.ef
  po := po
  rz := .inl hx
  stk := G.stk
  frm := G.frm
  ex0 := G.ex0
theorem GdS.mkx {X : Cx} {W : WX} {c : Cc} {pm : Pm} {C : Cal} (G : GdS X W c pm C) (hx : c.xf = true) {n : Nat} {x : Str} (hc : c.cls[n]? = some x) (hg : glbB c.sc x = true) (hn : okN x = true) (p : Pos) (m : Str) (j : Nat) (p2 pos : Pos) :
    PMk X (.Call (.Name x p) [.Constant (.str m) j p2] [] pos) (fun _ H Q => Q (.ref (pm.ca n)) none H) :=
  have E := G.ef hx
  have K := E.at_ n x hc
  pmk_own PySem.F.excBase_ValueError K.q K.g K.k (raises_own (E.b n) (E.t n)) (G.glb hg) (okN_inv hn).1
theorem swS1_false {v o i : Expr} {p : Pos} {line : Nat} {env : Env} : swapsWith v (some (.Subscript o i p)) line env = pure false := by
  cases v <;> rfl
section
variable {pm : Pm} {C : Cal}
theorem s_ext {K : PySem.W.Frag} {W : WX} {m m' : SM} (h : ∀ r k, m' r k = m r k) : tSm K pm W m' = tSm K pm W m := by
  have : m' = m := funext fun r => funext fun k => h r k
  rw [this]
theorem own_id (c : Cc) (own : List Nat) : (ownOf c own).map (·.2) = own := by
  unfold ownOf
  rw [List.map_map]
  exact List.map_id own
mutual
theorem snd_S : ∀ (a : Sm) (X : Cx) (W : WX) (c : Cc) (x : Stmt), GdS X W c pm C → ckS c a x = true → PS X x (tSm X.K pm W (evS C a))
  | .asg g e, X, W, c, x, G, h => by
    simp only [ckS] at h
    split at h
    · rename_i tg v pos
      rw [s_ext (m := fun r h => lft r (evE C e r h) fun x => (match tgD g x.1 r with | some r1 => .ok (.nx r1 x.2) | none => .fail)) fun r k => by first | (simp only [evS]; done) | (simp only [evS]; rfl)]
      split at h
      · rename_i y py
        simp only [Bool.and_eq_true, Bool.not_eq_true'] at h
        obtain ⟨⟨hg, hs⟩, he⟩ := h
        cases g with
        | name i =>
          simp only [ckTg, Bool.and_eq_true, decide_eq_true_eq] at hg
          obtain ⟨l1, l2⟩ := G.loc hg.2
          exact st_asgN (snd_E e X W c _ G.toGd he).1 (by rw [G.ns]; exact G.nd) (by rw [G.ns]; exact hg.1) l1 l2 (swB_false G.toGd hs)
        | tup gs => simp [ckTg] at hg
      · rename_i ts k p
        simp only [Bool.and_eq_true, Bool.or_eq_true] at h
        obtain ⟨⟨hg, he⟩, hsw⟩ := h
        refine st_asg (snd_E e X W c _ G.toGd he).1 (snd_Tg G.toGd g _ hg) swT_false ?_ rfl
        rcases hsw with hsw | hsw
        · exact stT_none (by cases v <;> first | rfl | cases hsw)
        · split at hsw
          · exact sw_of G.toGd (of_decide_eq_true hsw)
          · cases hsw
      · cases h
    · cases h
  | .asgL i e, X, W, c, x, G, h => by
    simp only [ckS] at h
    split at h
    · rename_i y py v pos
      split at h
      · rename_i elt' tg iter ifs scope p m own g it cond elt
        simp only [Bool.and_eq_true, decide_eq_true_eq, Bool.not_eq_true'] at h
        obtain ⟨⟨⟨⟨hi, hl⟩, hline⟩, hany⟩, ⟨⟨⟨⟨⟨⟨hb, hk⟩, ho⟩, htg⟩, hpl⟩, hit⟩, hif⟩, helt⟩ := h
        rw [s_ext (m := fun r h => lft r ((fun r h => evI C it r h >>= fun w => if w.1.1.length ≤ sizeLine then nox (compD w.1.2 w.1.1 g (wip r own) (evC C cond) (evE C elt) w.1.1 w.2) >>= fun x => mkL m x.1 x.2 else .fail) r h) fun x => .ok (.nx (r.set i (some x.1)) x.2)) fun r k => by
          first | (simp only [evS, evE]; done) | (simp only [evS, evE]; rfl)]
        have hloc := G.lcl hl
        have sw : swapsWith (.ListComp elt' [⟨tg, iter, ifs, 0⟩] scope p) (some (.Name y py)) pos.line X.env = pure true := sw_true (by rw [G.sc]; exact G.kind) hloc hline hany
        refine st_asgL (ps_setLc (own := ownOf c own) (g := tTg X.K pm g) (tt := tB2 X.K pm W0 (evC C cond)) (te := tE X.K pm W0 (evE C elt)) G.calm (by rw [G.ns]; exact G.nd) (by rw [G.ns]; exact hi) hloc sw (snd_I it X W c _ _ G.toGd hit) (by rw [G.ns, G.sc]; exact blkOk_by hb)
          (fun s H L cl fp => snd_Tg (G.toGd.blk hk s H L cl fp) g _ htg) (fun s H L cl fp => snd_If cond _ _ _ _ (G.toGd.blk hk s H L cl fp) hif) (fun s H L cl fp => (snd_E elt _ _ _ _ (G.toGd.blk hk s H L cl fp) helt).1) (fold_of hpl _)) fun s H Q q => ?_
        rw [own_id]
        exact comp_read ho s H Q q
      · cases h
    · cases h
  | .par is as, X, W, c, x, G, h => by
    simp only [ckS] at h
    split at h
    · rename_i ts k p vs k2 p2 pos
      rw [s_ext (m := fun r h => lft r (evEs C as r h) fun x => (match setAll is x.1 r with | some r1 => .ok (.nx r1 x.2) | none => .fail)) fun r k => by first | (simp only [evS]; done) | (simp only [evS]; rfl)]
      have hN : X.N.Nodup := by rw [G.ns]; exact G.nd
      split at h
      · rename_i i j y py z pz
        simp only [Bool.and_eq_true, decide_eq_true_eq] at h
        obtain ⟨⟨⟨⟨⟨⟨⟨hsw, hi⟩, hj⟩, hij⟩, ly⟩, lz⟩, has⟩, hl⟩ := h
        match vs, hl with
        | [a, b], _ => exact st_par2 (ps_par G.calm hN (by rw [G.ns]; exact hi) (by rw [G.ns]; exact hj) hij (G.lcl ly) (G.lcl lz) (snd_Es as X W c _ G.toGd has) (sw_of G.toGd hsw) rfl) fun s H Q q => q
      · rename_i i j l y py z pz u pu
        simp only [Bool.and_eq_true, decide_eq_true_eq] at h
        obtain ⟨⟨⟨⟨⟨⟨⟨⟨⟨⟨⟨hsw, hi⟩, hj⟩, hl0⟩, hij⟩, hil⟩, hjl⟩, ly⟩, lz⟩, lu⟩, has⟩, hl⟩ := h
        match vs, hl with
        | [a, b, d], _ => exact st_par3 (ps_par3 G.calm hN (by rw [G.ns]; exact hi) (by rw [G.ns]; exact hj) (by rw [G.ns]; exact hl0) hij hil hjl (G.lcl ly) (G.lcl lz) (G.lcl lu) (snd_Es as X W c _ G.toGd has) (sw_of G.toGd hsw) rfl) fun s H Q q => q
      · cases h
    · cases h
  | .setix o i v, X, W, c, x, G, h => by
    simp only [ckS] at h
    split at h
    · simp only [Bool.and_eq_true] at h
      obtain ⟨⟨ho, hi⟩, hv⟩ := h
      rw [s_ext (m := fun r h => lft r (evE C v r h) fun x => lft r (evE C o r x.2) fun y => lft r (evE C i r y.2) fun z => nox (setixD y.1 z.1 x.1 z.2) >>= fun h1 => .ok (.nx r h1)) fun r k => by first | (simp only [evS]; done) | (simp only [evS]; rfl)]
      exact st_setix (snd_E v X W c _ G.toGd hv).1 (snd_E o X W c _ G.toGd ho).1 (snd_E i X W c _ G.toGd hi.2).1 swSub_false stSub_none rfl (sub_of hi.1)
    · cases h
  | .expr e, X, W, c, x, G, h => by
    simp only [ckS] at h
    split at h
    · simp only [Bool.and_eq_true] at h
      rw [s_ext (m := fun r h => lft r (evE C e r h) fun x => .ok (.nx r x.2)) fun r k => by first | (simp only [evS]; done) | (simp only [evS]; rfl)]
      exact st_expr (snd_E e X W c _ G.toGd h.2).1 (swN_false h.1)
    · cases h
  | .ret e, X, W, c, x, G, h => by
    simp only [ckS] at h
    split at h
    · rw [s_ext (m := fun r h => lft r (evE C e r h) fun x => .ok (.rt x.1 x.2)) fun r k => by first | (simp only [evS]; done) | (simp only [evS]; rfl)]
      exact st_ret (snd_E e X W c _ G.toGd h).1
    · cases h
  | .retN, X, W, c, x, G, h => by
    simp only [ckS] at h
    split at h
    · rw [s_ext (m := fun _ h => .ok (.rt .non h)) fun r k => by first | (simp only [evS]; done) | (simp only [evS]; rfl)]
      exact st_retN
    · cases h
  | .iff t a b, X, W, c, x, G, h => by
    simp only [ckS] at h
    split at h
    · simp only [Bool.and_eq_true] at h
      obtain ⟨⟨⟨ht, h1⟩, ha⟩, hb⟩ := h
      rw [s_ext (m := fun r h => lft r (evT C t r h) fun c => if c.1 = true then evSs C a r c.2 else evSs C b r c.2) fun r k => by first | (simp only [evS]; done) | (simp only [evS]; rfl)]
      exact st_if ((snd_E t X W c _ G.toGd h1).2 ht) (snd_Ss a X W c _ G ha) (snd_Ss b X W c _ G hb)
    · cases h
  | .whil t b, X, W, c, x, G, h => by
    simp only [ckS] at h
    split at h
    · simp only [Bool.and_eq_true] at h
      obtain ⟨⟨ht, h1⟩, hb⟩ := h
      rw [s_ext (m := whileD (evT C t) (evSs C b)) fun r k => by first | (simp only [evS]; done) | (simp only [evS]; rfl)]
      exact st_while G.po ((snd_E t X W c _ G.toGd h1).2 ht) (snd_Ss b X W c _ G hb)
    · cases h
  | .forr g it b, X, W, c, x, G, h => by
    simp only [ckS] at h
    split at h
    · simp only [Bool.and_eq_true] at h
      obtain ⟨⟨⟨hg, hp⟩, hi⟩, hb⟩ := h
      rw [s_ext (m := fun r h => lft r (evI C it r h) fun w => forD w.1.2 w.1.1 g (evSs C b) w.1.1 r w.2) fun r k => by first | (simp only [evS]; done) | (simp only [evS]; rfl)]
      exact st_for G.po G.calm (snd_I it X W c _ _ G.toGd hi) (snd_Tg G.toGd g _ hg) (snd_Ss b X W c _ G hb) (fold_of hp _)
    · cases h
  | .rais n, X, W, c, x, G, h => by
    simp only [ckS] at h
    split at h
    · simp only [Bool.and_eq_true, decide_eq_true_eq] at h
      obtain ⟨⟨hc, hg⟩, hn⟩ := h
      rw [s_ext (m := fun r h => .ok (.ex n r h)) fun r k => by first | (simp only [evS]; done) | (simp only [evS]; rfl)]
      rcases G.rz with hx | hW
      · exact st_rais G.calm G.tk (G.mkx hx hc hg hn _ _ _ _ _)
      · exact st_raisN hW
    · cases h
  | .pass, X, W, c, x, G, h => by
    simp only [ckS] at h
    split at h
    · rw [s_ext (m := fun r h => .ok (.nx r h)) fun r k => by first | (simp only [evS]; done) | (simp only [evS]; rfl)]
      exact st_pass
    · cases h
  | .brk, X, W, c, x, G, h => by
    simp only [ckS] at h
    split at h
    · rw [s_ext (m := fun r h => .ok (.bk r h)) fun r k => by first | (simp only [evS]; done) | (simp only [evS]; rfl)]
      exact st_brk
    · cases h
  | .cont, X, W, c, x, G, h => by
    simp only [ckS] at h
    split at h
    · rw [s_ext (m := fun r h => .ok (.ct r h)) fun r k => by first | (simp only [evS]; done) | (simp only [evS]; rfl)]
      exact st_cont
    · cases h
  | .tryk b k i j, X, W, c, x, G, h => by
    simp only [ckS] at h
    split at h
    · simp only [Bool.and_eq_true, decide_eq_true_eq] at h
      obtain ⟨⟨⟨⟨⟨⟨⟨⟨⟨⟨⟨hxf, hk⟩, hgx⟩, hox⟩, hj⟩, hi⟩, hln⟩, hly⟩, rfl⟩, hon⟩, hij⟩, hb⟩ := h
      rw [s_ext (m := tryM k i j (evSs C b)) fun r k => by first | (simp only [evS, tryM]; done) | (simp only [evS, tryM]; rfl)]
      exact st_tryk (G.ef hxf) hk G.stk G.frm G.ex0 (by rw [G.ns]; exact G.nd) (by rw [G.ns]; exact hj) (by rw [G.ns]; exact hi) (G.lcl hln) (G.lcl hly) (G.glb hgx) (okN_inv hox).1 G.tk (okN_inv hon).1 (okN_inv hon).2.1 hij
        fun W' pn xe tk po => snd_Ss b (X.tr pn xe) W' c _ (G.tr hxf tk po) hb
    · cases h
  | .dset o k v, X, W, c, x, G, h => by
    simp only [ckS] at h
    split at h
    · simp only [Bool.and_eq_true] at h
      obtain ⟨⟨ho, hk⟩, hv⟩ := h
      rw [s_ext (m := fun r h => lft r (evE C v r h) fun x => lft r (evE C o r x.2) fun y => lft r (evE C k r y.2) fun z => nox (dctS z.2 y.1 z.1 x.1) >>= fun h1 => .ok (.nx r h1)) fun r k => by first | (simp only [evS]; done) | (simp only [evS]; rfl)]
      exact st_dset (Nat.lt_of_le_of_lt (by omega) G.hu) (snd_E v X W c _ G.toGd hv).1 (snd_E o X W c _ G.toGd ho).1 (snd_E k X W c _ G.toGd hk).1 swS1_false
    · cases h
  | .setix2 o i o' i' a b, X, W, c, x, G, h => by
    simp only [ckS] at h
    split at h
    · rename_i o1 i1 q1 o2 i2 q2 k3 q3 ea' eb' k4 q4 q5
      simp only [Bool.and_eq_true] at h
      obtain ⟨⟨⟨⟨p1, p2⟩, pa⟩, pb⟩, ⟨⟨⟨⟨h1, h2⟩, h3⟩, h4⟩, h5⟩, h6⟩ := h
      rw [s_ext (m := setix2M (evE C o) (evE C i) (evE C o') (evE C i') (evE C a) (evE C b)) fun r k => by first | (simp only [evS, setix2M]; done) | (simp only [evS, setix2M]; rfl)]
      refine st_setix2 G.calm (snd_E a X W c _ G.toGd h5).1 (snd_E b X W c _ G.toGd h6).1 (snd_E o X W c _ G.toGd h1).1 (snd_E i X W c _ G.toGd h2).1 (snd_E o' X W c _ G.toGd h3).1 (snd_E i' X W c _ G.toGd h4).1 (star_of pa _ _) (star_of pb _ _) swT_false ?_ (sub_of p1) (sub_of p2)
      refine sw_of G.toGd ?_
      unfold swOf
      have e1 : [ea', eb'].any isStarB = false := by simp [star_no pa, star_no pb]
      rw [if_neg (by simp), if_neg (by rw [e1]; exact Bool.false_ne_true), if_pos (by rfl)]
    · cases h
theorem snd_Ss : ∀ (a : Sms) (X : Cx) (W : WX) (c : Cc) (xs : List Stmt), GdS X W c pm C → ckSs c a xs = true → PSs X xs (tSm X.K pm W (evSs C a))
  | .nil, X, W, c, xs, G, h => by
    cases xs with
    | nil =>
      rw [s_ext (m := fun r h => .ok (.nx r h)) fun r k => by first | (simp only [evSs]; done) | (simp only [evSs]; rfl)]
      exact st_nil
    | cons _ _ => simp [ckSs] at h
  | .cons a rest, X, W, c, xs, G, h => by
    cases xs with
    | nil => simp [ckSs] at h
    | cons x ys =>
      simp only [ckSs, Bool.and_eq_true] at h
      rw [s_ext (m := fun r h => evS C a r h >>= fun o => match o with | .nx r1 h1 => evSs C rest r1 h1 | o => .ok o) fun r k => by first | (simp only [evSs]; done) | (simp only [evSs]; rfl)]
      exact st_cons (snd_S a X W c _ G h.1) (snd_Ss rest X W c _ G h.2)
end
end
end Fx
set_option Elab.async false
set_option linter.all false
namespace Fx
open PySem PySem.Spec PyProof.Rows L2

/-! ## what leaves a def -/
section
variable {K : PySem.W.Frag} {fa : Fa} {mu mu' mu2 : Lv} {H H' : Hp} {h h1 : Hh}
mutual
theorem clsd_of : ∀ (d : D) (v : V), Rl K fa mu H d v → clsd mu.mu.length d = true
  | .non, _, _ => rfl
  | .bl _, _, _ => rfl
  | .int _, _, _ => rfl
  | .str _, _, _ => rfl
  | .fn _, _, _ => rfl
  | .exc _, _, _ => rfl
  | .ref n, v, r => by
    obtain ⟨p, _, m⟩ := Rl.ref.mp r
    simp only [clsd]
    exact decide_eq_true (List.getElem?_eq_some_iff.mp m).1
  | .tup xs, v, r => by
    obtain ⟨_, vs, _, _, _, l⟩ := Rl.tup.mp r
    simp only [clsd]
    exact clsdL_of xs vs l
  | .pr x y, v, r => by
    obtain ⟨_, va, vb, _, _, _, r1, r2⟩ := Rl.pr.mp r
    simp only [clsd, Bool.and_eq_true]
    exact ⟨clsd_of x va r1, clsd_of y vb r2⟩
  | .lst xs, v, r => by
    obtain ⟨_, vs, _, _, _, l⟩ := Rl.lst.mp r
    simp only [clsd]
    exact clsdL_of xs vs l
  | .scr xs, v, r => by
    obtain ⟨_, vs, _, _, l⟩ := Rl.scr.mp r
    simp only [clsd]
    exact clsdL_of xs vs l
theorem clsdL_of : ∀ (d : List D) (v : List V), RlL K fa mu H d v → clsdL mu.mu.length d = true
  | [], _, _ => rfl
  | d :: ds, vs, r => by
    obtain ⟨v, ws, rfl, a, b⟩ := r.inv
    simp only [clsdL, Bool.and_eq_true]
    exact ⟨clsd_of d v a, clsdL_of ds ws b⟩
end
theorem clsdO_of {p : Addr} {o : Ob} (r : RO K fa mu H p o) : clsdO mu.mu.length o = true := by
  cases o with
  | lst xs => obtain ⟨vs, _, l⟩ := r; exact clsdL_of _ _ l
  | dk xs => obtain ⟨vs, _, _, l⟩ := r; exact clsdL_of _ _ l
  | dt xs => obtain ⟨vs, _, _, _, _, _, l⟩ := r; exact clsdL_of _ _ l
  | gone => rfl
/-! fewer live ones -/
mutual
theorem Rl.few {n : Nat} (hm : ∀ (k : Nat) (p : Addr), k < n → mu.mu[k]? = some p → mu2.mu[k]? = some p) (ha : ∀ p, p ∈ mu2 → p ∈ mu) : ∀ (d : D) (v : V), clsd n d = true → Rl K fa mu H d v → Rl K fa mu2 H d v
  | .non, _, _, r => r
  | .bl _, _, _, r => r
  | .int _, _, _, r => r
  | .str _, _, _, r => r
  | .fn _, _, _, r => r
  | .exc c, v, _, r => by
    unfold Rl at r ⊢
    obtain ⟨p, e, hp, q⟩ := r
    exact ⟨p, e, fun z => hp (ha p z), q⟩
  | .ref k, v, c, r => by
    obtain ⟨p, e, m⟩ := Rl.ref.mp r
    simp only [clsd, decide_eq_true_eq] at c
    exact Rl.ref.mpr ⟨p, e, hm k p c m⟩
  | .tup xs, v, c, r => by
    obtain ⟨p, vs, e, hp, e1, l⟩ := Rl.tup.mp r
    exact Rl.tup.mpr ⟨p, vs, e, fun z => hp (ha p z), e1, RlL.few hm ha xs vs (by simpa [clsd] using c) l⟩
  | .pr x y, v, c, r => by
    obtain ⟨p, va, vb, e, hp, e1, r1, r2⟩ := Rl.pr.mp r
    simp only [clsd, Bool.and_eq_true] at c
    exact Rl.pr.mpr ⟨p, va, vb, e, fun z => hp (ha p z), e1, Rl.few hm ha x va c.1 r1, Rl.few hm ha y vb c.2 r2⟩
  | .lst xs, v, c, r => by
    obtain ⟨p, vs, e, hp, e1, l⟩ := Rl.lst.mp r
    exact Rl.lst.mpr ⟨p, vs, e, fun z => hp (ha p z), e1, RlL.few hm ha xs vs (by simpa [clsd] using c) l⟩
  | .scr xs, v, c, r => by
    obtain ⟨p, vs, e, sc, l⟩ := Rl.scr.mp r
    refine Rl.scr.mpr ⟨p, vs, e, ?_, RlL.few hm ha xs vs (by simpa [clsd] using c) l⟩
    rcases sc with ⟨hp, o, e1⟩ | sc
    · exact .inl ⟨fun z => hp (ha p z), o, e1⟩
    · exact .inr sc
theorem RlL.few {n : Nat} (hm : ∀ (k : Nat) (p : Addr), k < n → mu.mu[k]? = some p → mu2.mu[k]? = some p) (ha : ∀ p, p ∈ mu2 → p ∈ mu) : ∀ (d : List D) (v : List V), clsdL n d = true → RlL K fa mu H d v → RlL K fa mu2 H d v
  | [], _, _, r => by rw [r.nil_inv]; exact .nil
  | d :: ds, vs, c, r => by
    obtain ⟨v, ws, rfl, a, b⟩ := r.inv
    simp only [clsdL, Bool.and_eq_true] at c
    exact .cons (Rl.few hm ha d v c.1 a) (RlL.few hm ha ds ws c.2 b)
end
theorem clsd_ints (n : Nat) : ∀ ns : List Int, clsdL n (ns.map D.int) = true
  | [] => rfl
  | _ :: ns => by simp only [List.map_cons, clsdL, clsd, clsd_ints n ns, Bool.and_self]
theorem clsd_keys (n : Nat) : ∀ kds : List (List Int × D), clsdL n (keyDs kds) = true
  | [] => rfl
  | kd :: kds => by
    have := clsd_keys n kds
    simp only [keyDs, List.map_cons, clsdL, clsd, clsd_ints] at this ⊢
    rw [this]
    rfl
theorem RO.few {n : Nat} {p : Addr} {o : Ob} (hm : ∀ (k : Nat) (p : Addr), k < n → mu.mu[k]? = some p → mu2.mu[k]? = some p) (ha : ∀ p, p ∈ mu2 → p ∈ mu) (c : clsdO n o = true) (r : RO K fa mu H p o) : RO K fa mu2 H p o := by
  cases o with
  | lst xs => obtain ⟨vs, e, l⟩ := r; exact ⟨vs, e, RlL.few hm ha _ _ c l⟩
  | dk xs => obtain ⟨vs, e, k, l⟩ := r; exact ⟨vs, e, k, RlL.few hm ha _ _ c l⟩
  | dt xs => obtain ⟨vs, ys, c', e, r1, k, l⟩ := r; exact ⟨vs, ys, c', e, RlL.few hm ha _ _ (clsd_keys n xs) r1, k, RlL.few hm ha _ _ c l⟩
  | gone => exact r
mutual
theorem pln_clsd : ∀ (d : D) (n : Nat), pln d = true → clsd n d = true
  | .non, _, _ => rfl
  | .bl _, _, _ => rfl
  | .int _, _, _ => rfl
  | .str _, _, _ => rfl
  | .fn _, _, h => by simp [pln] at h
  | .exc _, _, h => by simp [pln] at h
  | .pr _ _, _, h => by simp [pln] at h
  | .ref _, _, h => by simp [pln] at h
  | .tup xs, n, h => by simp only [clsd]; exact plnL_clsd xs n (by simpa [pln] using h)
  | .lst xs, n, h => by simp only [clsd]; exact plnL_clsd xs n (by simpa [pln] using h)
  | .scr xs, n, h => by simp only [clsd]; exact plnL_clsd xs n (by simpa [pln] using h)
theorem plnL_clsd : ∀ (d : List D) (n : Nat), plnL d = true → clsdL n d = true
  | [], _, _ => rfl
  | d :: ds, n, h => by
    simp only [plnL, Bool.and_eq_true] at h
    simp only [clsdL, Bool.and_eq_true]
    exact ⟨pln_clsd d n h.1, plnL_clsd ds n h.2⟩
end
/-! a value of which the new live ones are forgotten -/
mutual
theorem fzW_ok {rf : Nat → Option D} (ha : ∀ p, p ∈ mu2 → p ∈ mu) (hr : ∀ (n : Nat) (e : D) (v : V), rf n = some e → Rl K fa mu H (.ref n) v → Rl K fa mu2 H e v) : ∀ (d e : D) (v : V), fzW rf d = some e → Rl K fa mu H d v → Rl K fa mu2 H e v
  | .non, _, _, h, r => by simp only [fzW] at h; cases h; exact r
  | .bl _, _, _, h, r => by simp only [fzW] at h; cases h; exact r
  | .int _, _, _, h, r => by simp only [fzW] at h; cases h; exact r
  | .str _, _, _, h, r => by simp only [fzW] at h; cases h; exact r
  | .fn _, _, _, h, r => by simp only [fzW] at h; cases h; exact r
  | .exc c, e, v, h, r => by
    simp only [fzW] at h
    cases h
    unfold Rl at r ⊢
    obtain ⟨p, e, hp, q⟩ := r
    exact ⟨p, e, fun z => hp (ha p z), q⟩
  | .pr _ _, e, v, h, r => by simp [fzW] at h
  | .ref n, e, v, h, r => by simp only [fzW] at h; exact hr n e v h r
  | .tup xs, e, v, h, r => by
    simp only [fzW, Option.map_eq_some_iff] at h
    obtain ⟨ys, h, rfl⟩ := h
    obtain ⟨p, vs, e, hp, e1, l⟩ := Rl.tup.mp r
    exact Rl.tup.mpr ⟨p, vs, e, fun z => hp (ha p z), e1, fzL_ok ha hr xs ys vs h l⟩
  | .lst xs, e, v, h, r => by
    simp only [fzW, Option.map_eq_some_iff] at h
    obtain ⟨ys, h, rfl⟩ := h
    obtain ⟨p, vs, e, hp, e1, l⟩ := Rl.lst.mp r
    exact Rl.lst.mpr ⟨p, vs, e, fun z => hp (ha p z), e1, fzL_ok ha hr xs ys vs h l⟩
  | .scr xs, e, v, h, r => by
    simp only [fzW] at h
    split at h
    · rename_i z
      cases h
      exact Rl.few (n := 0) (fun k p hk => absurd hk (Nat.not_lt_zero k)) ha _ _ (by simp only [clsd]; exact plnL_clsd _ _ z) r
    · cases h
theorem fzL_ok {rf : Nat → Option D} (ha : ∀ p, p ∈ mu2 → p ∈ mu) (hr : ∀ (n : Nat) (e : D) (v : V), rf n = some e → Rl K fa mu H (.ref n) v → Rl K fa mu2 H e v) : ∀ (d e : List D) (v : List V), fzL rf d = some e → RlL K fa mu H d v → RlL K fa mu2 H e v
  | [], _, _, h, r => by simp only [fzL] at h; cases h; rw [r.nil_inv]; exact .nil
  | d :: ds, e, vs, h, r => by
    obtain ⟨v, ws, rfl, a, b⟩ := r.inv
    simp only [fzL] at h
    split at h
    · cases h
    · rename_i y hy
      simp only [Option.map_eq_some_iff] at h
      obtain ⟨ys, h, rfl⟩ := h
      exact .cons (fzW_ok ha hr d y v hy a) (fzL_ok ha hr ds ys ws h b)
end
/-- the live ones of the entry, at the end -/
theorem Gr.front (g : Gr mu H mu' H') : ∀ (k : Nat) (p : Addr), k < mu.mu.length → mu'.mu[k]? = some p → mu.mu[k]? = some p := fun k p hk m => by
  obtain ⟨nu, e, _⟩ := g.ex
  rw [e, List.getElem?_append_left hk] at m
  exact m
abbrev Lv.cut (mu mu' : Lv) : Lv := ⟨mu.mu, mu'.av⟩
theorem Lv.cut_sub (g : Gr mu H mu' H') : ∀ p, p ∈ mu.cut mu' → p ∈ mu' := fun p m => m.elim (fun z => by
  obtain ⟨nu, e, _⟩ := g.ex
  exact .inl (by rw [e]; exact List.mem_append_left _ z)) .inr
theorem Gr.cut (g : Gr mu H mu' H') : Gr mu H (mu.cut mu') H' := ⟨g.av, ⟨[], by simp⟩, g.st, g.fr⟩
theorem RH.cut (rh : RH K fa mu h H) (g : Gr mu H mu' H') (rh' : RH K fa mu' h1 H') (st : stay h h1) : RH K fa (mu.cut mu') (h1.take h.length) H' := by
  obtain ⟨nu, en, _⟩ := g.ex
  refine ⟨rh.nd, ?_, fun n o p e m => ?_, fun q hq => ?_⟩
  · show mu.mu.length = _
    rw [List.length_take, rh.len]
    exact (Nat.min_eq_left st.1).symm
  · have hn : n < h.length := by
      have := (List.getElem?_eq_some_iff.mp m).1
      rw [rh.len] at this
      exact this
    rw [List.getElem?_take_of_lt hn] at e
    have m' : mu'.mu[n]? = some p := by
      rw [en, List.getElem?_append_left (by rw [rh.len]; exact hn)]
      exact m
    have hcl : clsdO mu.mu.length o = true := by
      rcases st.2 n o hn e with z | z
      · obtain ⟨p', _, ro⟩ := rh.get z
        exact clsdO_of ro
      · rw [rh.len]; exact z
    exact RO.few (fun k p hk m => g.front k p hk m) (Lv.cut_sub g) hcl (rh'.at_ n o p e m')
  · obtain ⟨a, u, e⟩ := rh'.av q hq
    exact ⟨fun z => a (by rw [en]; exact List.mem_append_left _ z), u, e⟩
/-- a new live list, as it stands -/
theorem new_lst (rh : RH K fa mu h H) (g : Gr mu H mu' H') (rh' : RH K fa mu' h1 H') {n : Nat} {xs ys : List D} {v : V} (hn : h.length ≤ n) (e : h1[n]? = some (.lst xs)) {rf : Nat → Option D} (ef : fzL rf xs = some ys)
    (hr : ∀ (n : Nat) (e : D) (v : V), rf n = some e → Rl K fa mu' H' (.ref n) v → Rl K fa (mu.cut mu') H' e v) (r : Rl K fa mu' H' (.ref n) v) : ∃ p vs, v = .ref p ∧ p ∉ mu.cut mu' ∧ mu'.mu[n]? = some p ∧ H' p = some (.lst vs) ∧ RlL K fa (mu.cut mu') H' ys vs := by
  obtain ⟨p, vs, rfl, m, ep, l⟩ := live rh' r e
  obtain ⟨nu, en, _⟩ := g.ex
  refine ⟨p, vs, rfl, fun z => ?_, m, ep, fzL_ok (Lv.cut_sub g) hr xs ys vs ef l⟩
  rcases z with z | z
  · obtain ⟨k, hk, ek⟩ := List.getElem_of_mem z
    have mk : mu'.mu[k]? = some p := by
      rw [en, List.getElem?_append_left hk, List.getElem?_eq_getElem hk, ek]
    have := nd_ix rh'.nd mk m
    rw [rh.len] at hk
    omega
  · exact (rh'.av p z).1 (List.mem_of_getElem? m)
theorem fz0_ok (rh : RH K fa mu h H) (g : Gr mu H mu' H') : ∀ (n : Nat) (e : D) (v : V), fz0 h.length n = some e → Rl K fa mu' H' (.ref n) v → Rl K fa (mu.cut mu') H' e v := fun n e v hz r => by
  unfold fz0 at hz
  split at hz
  · rename_i hn
    cases hz
    obtain ⟨p, ev, m⟩ := Rl.ref.mp r
    exact Rl.ref.mpr ⟨p, ev, g.front n p (by rw [rh.len]; exact hn) m⟩
  · cases hz
theorem fz1_ok (rh : RH K fa mu h H) (g : Gr mu H mu' H') (rh' : RH K fa mu' h1 H') : ∀ (n : Nat) (e : D) (v : V), fz1 h.length h1 n = some e → Rl K fa mu' H' (.ref n) v → Rl K fa (mu.cut mu') H' e v := fun n e v hz r => by
  unfold fz1 at hz
  split at hz
  · rename_i hn
    exact fz0_ok rh g n e v (by unfold fz0; rw [if_pos hn]; exact hz) r
  · rename_i hn
    split at hz
    · rename_i xs ex
      simp only [fzW, Option.map_eq_some_iff] at hz
      obtain ⟨ys, ef, rfl⟩ := hz
      obtain ⟨p, vs, rfl, hp, _, ep, l⟩ := new_lst rh g rh' (by omega) ex ef (fz0_ok rh g) r
      exact Rl.lst.mpr ⟨p, vs, rfl, hp, ep, l⟩
    · cases hz
theorem fz2_ok (rh : RH K fa mu h H) (g : Gr mu H mu' H') (rh' : RH K fa mu' h1 H') : ∀ (n : Nat) (e : D) (v : V), fz2 h.length h1 n = some e → Rl K fa mu' H' (.ref n) v → Rl K fa (mu.cut mu') H' e v := fun n e v hz r => by
  unfold fz2 at hz
  split at hz
  · rename_i hn
    exact fz0_ok rh g n e v (by unfold fz0; rw [if_pos hn]; exact hz) r
  · rename_i hn
    split at hz
    · rename_i xs ex
      simp only [fzW, Option.map_eq_some_iff] at hz
      obtain ⟨ys, ef, rfl⟩ := hz
      obtain ⟨p, vs, rfl, hp, _, ep, l⟩ := new_lst rh g rh' (by omega) ex ef (fz1_ok rh g rh') r
      exact Rl.lst.mpr ⟨p, vs, rfl, hp, ep, l⟩
    · cases hz
theorem fin_ok {keep : Bool} {d e : D} {h2 : Hh} {v : V} (rh : RH K fa mu h H) (g : Gr mu H mu' H') (rh' : RH K fa mu' h1 H') (r : Rl K fa mu' H' d v) (ef : fin keep h d h1 = .ok (e, h2)) :
    ∃ mu2, Gr mu H mu2 H' ∧ RH K fa mu2 h2 H' ∧ Rl K fa mu2 H' e v := by
  unfold fin at ef
  split at ef
  rotate_left
  · cases ef
  rename_i st
  split at ef
  · split at ef
    · rename_i n
      split at ef
      · rename_i xs ex
        split at ef
        · rename_i ys ey
          split at ef
          · rename_i hn
            cases ef
            obtain ⟨p, vs, rfl, m, ep, l⟩ := live rh' r ex
            obtain ⟨nu, en, hu⟩ := g.ex
            have hH : H p = none := by
              refine hu p ?_
              have m' := m
              rw [en, List.getElem?_append_right (by rw [rh.len]; exact hn)] at m'
              exact List.mem_of_getElem? m'
            have hmu : ∀ (k : Nat) (q : Addr), k < h.length → mu'.mu[k]? = some q → ((mu.cut mu').add p).mu[k]? = some q := fun k q hk m => by
              rw [← rh.len] at hk
              show (mu.mu ++ [p])[k]? = some q
              rw [List.getElem?_append_left hk]
              exact g.front k q hk m
            have hsub : ∀ q, q ∈ (mu.cut mu').add p → q ∈ mu' := fun q z => z.elim (fun z => (List.mem_append.mp z).elim (fun z => .inl (by rw [en]; exact List.mem_append_left _ z)) fun z => .inl (by rw [List.mem_singleton.mp z]; exact List.mem_of_getElem? m)) .inr
            have hr : ∀ (n : Nat) (e : D) (v : V), fz0 h.length n = some e → Rl K fa mu' H' (.ref n) v → Rl K fa ((mu.cut mu').add p) H' e v := fun n e v hz r => by
              unfold fz0 at hz
              split at hz
              · rename_i hn
                cases hz
                obtain ⟨q, ev, mq⟩ := Rl.ref.mp r
                exact Rl.ref.mpr ⟨q, ev, hmu n q hn mq⟩
              · cases hz
            have ly := fzL_ok hsub hr xs ys vs ey l
            have pn : p ∉ mu.mu := fun z => by
              obtain ⟨k, hk, ek⟩ := List.getElem_of_mem z
              have mk : mu'.mu[k]? = some p := by
                rw [en, List.getElem?_append_left hk, List.getElem?_eq_getElem hk, ek]
              have := nd_ix rh'.nd mk m
              rw [rh.len] at hk
              omega
            have hlen : (h1.take h.length).length = h.length := by rw [List.length_take]; exact Nat.min_eq_left st.1
            refine ⟨(mu.cut mu').add p, ⟨g.av, ⟨[p], rfl, fun q hq => by rw [List.mem_singleton.mp hq]; exact hH⟩, g.st, g.fr⟩, ⟨?_, ?_, fun k o q eo mq => ?_, fun q hq => ?_⟩, ?_⟩
            · show (mu.mu ++ [p]).Nodup
              rw [List.nodup_append]
              exact ⟨rh.nd, by simp, fun a ha b hb => by rw [List.mem_singleton.mp hb]; intro z; exact pn (z ▸ ha)⟩
            · show (mu.mu ++ [p]).length = _
              rw [List.length_append, List.length_append, hlen, rh.len]
              rfl
            · have mq' : (mu.mu ++ [p])[k]? = some q := mq
              by_cases hk : k < h.length
              · rw [List.getElem?_append_left (by rw [hlen]; exact hk), List.getElem?_take_of_lt hk] at eo
                have hcl : clsdO h.length o = true := by
                  rcases st.2 k o hk eo with z | z
                  · obtain ⟨p', _, ro⟩ := rh.get z
                    rw [← rh.len]
                    exact clsdO_of ro
                  · exact z
                rw [List.getElem?_append_left (by rw [rh.len]; exact hk)] at mq'
                have mk : mu'.mu[k]? = some q := by rw [en, List.getElem?_append_left (by rw [rh.len]; exact hk)]; exact mq'
                exact RO.few hmu hsub hcl (rh'.at_ k o q eo mk)
              · have hk' : k = h.length := by
                  have := (List.getElem?_eq_some_iff.mp eo).1
                  simp [hlen] at this
                  have := st.1
                  omega
                subst hk'
                rw [List.getElem?_append_right (by rw [hlen]; exact Nat.le_refl _), hlen] at eo
                rw [List.getElem?_append_right (by rw [rh.len]; exact Nat.le_refl _), rh.len] at mq'
                simp at eo mq'
                subst eo mq'
                exact ⟨vs, ep, ly⟩
            · obtain ⟨a, u, eu⟩ := rh'.av q hq
              refine ⟨fun z => ?_, u, eu⟩
              rcases List.mem_append.mp z with z | z
              · exact a (by rw [en]; exact List.mem_append_left _ z)
              · rw [List.mem_singleton.mp z] at a
                exact a (List.mem_of_getElem? m)
            · refine Rl.ref.mpr ⟨p, rfl, ?_⟩
              show (mu.mu ++ [p])[h.length]? = some p
              rw [← rh.len, List.getElem?_append_right (Nat.le_refl _)]
              simp
          · cases ef
        · cases ef
      · cases ef
    · cases ef
  · split at ef
    · rename_i e' ez
      cases ef
      exact ⟨mu.cut mu', g.cut, rh.cut g rh' st, fzW_ok (Lv.cut_sub g) (fz2_ok rh g rh') _ _ _ ez r⟩
    · cases ef
end
end Fx
set_option Elab.async false
set_option linter.all false
namespace Fx
open PySem PySem.Spec PyProof.Rows L2

/-! ## the table of defs -/
def ckFd (xf : Bool) (fns cls : List Str) (d : Fd) (st : Stmt) : Bool :=
  decide ((defScope st).kind = .function) && !(defScope st).isCoroutine && !(defScope st).isGenerator && decide d.ns.Nodup && decide (d.ns.take d.ps.length = d.ps) &&
  d.ps.all (fun x => match (defScope st).names.lookup x with | some .local => true | some .cell => true | _ => false) && (defScope st).names.all (fun y => decide (y.2 ≠ .free)) &&
  ckSs ⟨d.ns, defScope st, fun _ => true, fns, cls, xf⟩ d.body (defBody st)
theorem ckFd_use {xf : Bool} {fns cls : List Str} {d : Fd} {st : Stmt} (h : ckFd xf fns cls d st = true) : FnScope d.ns d.ps (defScope st) ∧ ckSs ⟨d.ns, defScope st, fun _ => true, fns, cls, xf⟩ d.body (defBody st) = true := by
  unfold ckFd at h
  simp only [Bool.and_eq_true, decide_eq_true_eq, Bool.not_eq_true', List.all_eq_true] at h
  obtain ⟨⟨⟨⟨⟨⟨⟨h1, h2⟩, h3⟩, h4⟩, h5⟩, h6⟩, h7⟩, h8⟩ := h
  refine ⟨⟨h1, h2, h3, h4, h5, fun x hx => ?_, h7⟩, h8⟩
  have := h6 x hx
  split at this
  · exact .inl (by assumption)
  · exact .inr (by assumption)
  · cases this
/-- a def as it stands behind the top -/
def FnFact (K : PySem.W.Frag) (mg : Str → Option Value) (d : Fd) (st : Stmt) : Prop := ∃ f fd, Fun K d.name d.qual st f fd ∧ Binds K fd d.ps [] ∧ (∀ (s : Shared) (us : List Value), us.length = d.ps.length → BindsTo s fd ⟨us, []⟩ (d.ps.zip us)) ∧ mg d.name = some (.ref f)
def Facts (K : PySem.W.Frag) (mg : Str → Option Value) : List (Fd × Stmt) → Prop
  | [] => True
  | (d, st) :: r => FnFact K mg d st ∧ Facts K mg r
theorem Facts.at : ∀ {K : PySem.W.Frag} {mg : Str → Option Value} {T : List (Fd × Stmt)}, Facts K mg T → ∀ (n : Nat) (d : Fd) (st : Stmt), T[n]? = some (d, st) → FnFact K mg d st
  | _, _, [], _, _, _, _, e => by simp at e
  | _, _, (d0, s0) :: r, h, 0, d, st, e => by
    have e' : (d0, s0) = (d, st) := by simpa using e
    cases e'
    exact h.1
  | _, _, (d0, s0) :: r, h, n + 1, d, st, e => Facts.at h.2 n d st (by simpa using e)
theorem fact_mk {K : PySem.W.Frag} {mg : Str → Option Value} {h : Heap} {d : Fd} {st : Stmt} {f : Addr} {oc : Value} {od an : Option Addr} {osl : Array (Option Value)} {kV doc pm cdv ct : Value} (X : K.In h) (G : h.Ns mainGlobals mg)
    (a : PySem.W.nsIn K mainGlobals d.name = some (some (.ref f))) (l : K.lookup f = some ⟨oc, od, .func (PySem.W.fnOf d.name d.qual (defArgs st) (defBody st) (defScope st) .none kV doc pm an cdv ct), osl⟩)
    (c : PySem.W.codeIn K cdv d.qual = true) (k : PySem.W.keepIn K (.ref f) = true)
    (hb : ∀ (kV doc pm : Value) (an : Option Addr) (cdv ct : Value) (us : List Value), us.length = d.ps.length → bindArgs (PySem.W.fnOf d.name d.qual (defArgs st) (defBody st) (defScope st) .none kV doc pm an cdv ct) ⟨us, []⟩ = pure (d.ps.zip us)) : FnFact K mg d st :=
  have F := fun_mk (st := st) l c k
  ⟨f, _, F, F.binds hb, fun s us hl => .of_eq (hb _ _ _ _ _ _ us hl), PySem.W.mg_of X G a⟩
theorem RE.start {K : PySem.W.Frag} {fa : Fa} {mu : Lv} {H : Hp} {ds : List D} {vs : List V} {N : List Str} (l : RlL K fa mu H ds vs) : RE K fa mu H (ds.map some ++ List.replicate (N.length - ds.length) none) (L2.start N vs) := by
  have hl := l.length
  unfold L2.start
  refine ⟨by simp [hl], fun i d e => ?_⟩
  by_cases hi : i < ds.length
  · rw [List.getElem?_append_left (by simpa using hi), List.getElem?_map] at e
    rw [List.getElem?_append_left (by simp; omega), List.getElem?_map]
    cases q : ds[i]? with
    | none => rw [q] at e; cases e
    | some d' =>
      rw [q] at e
      cases e
      obtain ⟨v, hv, rv⟩ := l.get q
      exact ⟨v, by rw [hv]; rfl, rv⟩
  · rw [List.getElem?_append_right (by simpa using hi), List.getElem?_replicate] at e
    split at e <;> cases e
section
variable {P : Program} {w : World} {K : PySem.W.Frag} {mg : Str → Option Value} {base : Heap} {pm : Pm}
theorem fin_ne {keep : Bool} {h h1 h2 : Hh} {d : D} {c : Nat} : fin keep h d h1 ≠ .exc c h2 := by
  unfold fin
  repeat' split
  all_goals (intro z; cases z)
theorem exR_inv {tr : Bool} {c c' : Nat} {h h1 h2 : Hh} (e : exR tr c h h1 = .exc c' h2) : tr = true ∧ h1.take h.length = h ∧ c' = c ∧ h2 = h := by
  unfold exR at e
  split at e
  · rename_i z
    cases e
    exact ⟨z.1, z.2, rfl, rfl⟩
  · cases e
theorem stay_of {h h1 : Hh} (e : h1.take h.length = h) : stay h h1 := by
  refine ⟨?_, fun i o hi q => .inl ?_⟩
  · have := congrArg List.length e
    rw [List.length_take] at this
    omega
  · rw [← e, List.getElem?_take_of_lt hi]
    exact q
/-- THE TABLE: every def of it keeps the promise that it gives what run says; what is raised out is raised so -/
theorem tab_ok (tr : Bool) (T : List (Fd × Stmt)) (cls : List Str) (hck : (T.all fun x => ckFd tr (T.map (·.1.name)) cls x.1 x.2) = true) (facts : Facts K mg T) (hbn : ∀ x ∈ bnames, mg x = none) (hxf : tr = true → ExF K mg cls pm) :
    ∀ (k n : Nat) (d : Fd) (st : Stmt) (f : Addr) (fd : FuncData), T[n]? = some (d, st) → Fun K d.name d.qual st f fd → FnOk P w K mg base (L2.CX P w) k f fd d.ps (spR K pm (run tr (T.map (·.1)) k n))
  | 0, n, d, st, f, fd, e, F => ⟨fun vs H Q E h => by obtain ⟨_, _, _, _, _, z⟩ := h; exact z.elim, fun A outer s H args us vs Q E hr h0 hb hv h => by obtain ⟨_, _, _, _, _, z⟩ := h; exact z.elim⟩
  | k + 1, n, d, st, f, fd, e, F => by
    have hd := ckFd_use (List.all_eq_true.mp hck _ (List.mem_of_getElem? e))
    have eT : (T.map (·.1))[n]? = some d := by rw [List.getElem?_map, e]; rfl
    have hrun : ∀ ds h, run tr (T.map (·.1)) (k + 1) n ds h = if ds.length = d.ps.length then
        (match evSs (run tr (T.map (·.1)) k) d.body (ds.map some ++ List.replicate (d.ns.length - ds.length) none) h with
        | .ok (.rt x h1) => fin d.keep h x h1
        | .ok (.nx _ h1) => fin d.keep h .non h1
        | .ok (.ex c _ h1) => exR tr c h h1
        | _ => .fail)
      else .fail := fun ds h => by
        first | (simp only [run, eT]; done) | (simp only [run, eT]; rfl)
    refine F.okX hd.1 (fun vs H Q E h => ?_) (fun cdv A outer s H vs Q E hr h => ?_)
    · obtain ⟨mu, h, ds, rh, rl, p⟩ := h
      rw [hrun] at p
      split at p
      · rename_i hl
        rw [← rl.length]; exact hl
      · exact p.elim
    · obtain ⟨mu, h, ds, rh, rl, p⟩ := h
      rw [hrun] at p
      split at p
      rotate_left
      · exact p.elim
      rename_i hl
      have key : ∃ W : WX, Takes (cxOf (L2.CX P w) P w K mg base d.ns d.qual (defScope st) f cdv A outer s H E) W ∧ (tr = true ∨ ∀ a b s H, ¬ W a b s H) ∧ (tr = true → ∀ cls d s H, E cls d H → W cls d s H) := by
        cases tr with
        | true => exact ⟨fun cls d _ H => E cls d H, takes_of rfl rfl rfl rfl, .inl rfl, fun _ _ _ _ _ z => z⟩
        | false => exact ⟨W0, takes0, .inr fun _ _ _ _ z => z, fun z => (Bool.false_ne_true z).elim⟩
      obtain ⟨W, tkW, rzW, hW⟩ := key
      have G : GdS (cxOf (L2.CX P w) P w K mg base d.ns d.qual (defScope st) f cdv A outer s H E) W ⟨d.ns, defScope st, fun _ => true, T.map (·.1.name), cls, tr⟩ pm (run tr (T.map (·.1)) k) :=
        { calm := rfl
          ns := rfl
          nd := hd.1.nd
          sc := rfl
          kind := hd.1.kind
          cel := rfl
          tk := tkW
          hu := by
            have := hr.un
            show (A.deeper _).units + 65 < cLine
            omega
          bn := hbn
          fn := fun m x em => by
            rw [List.getElem?_map] at em
            cases et : T[m]? with
            | none => rw [et] at em; cases em
            | some y =>
              obtain ⟨d', st'⟩ := y
              rw [et] at em
              cases em
              obtain ⟨f', fd', F', hb', _, hm'⟩ := facts.at m d' st' et
              exact ⟨k, f', fd', d'.ps, tab_ok tr T cls hck facts hbn hxf k m d' st' f' fd' et F', hr, hm', F'.kp, hb'⟩
          ef := hxf
          po := passes_of rfl
          rz := rzW
          stk := rfl
          frm := rfl
          ex0 := rfl }
      refine ⟨_, snd_Ss d.body _ W _ _ G hd.2, mu, _, h, RE.start rl, rh, ?_⟩
      cases eo : evSs (run tr (T.map (·.1)) k) d.body (ds.map some ++ List.replicate (d.ns.length - ds.length) none) h with
      | fail => rw [eo] at p; exact p.elim
      | exc c h1 => rw [eo] at p; exact p.elim
      | ok o =>
        rw [eo] at p
        cases o with
        | nx r h1 =>
          dsimp only at p
          intro mu' H' s' g rh' re'
          cases ef : fin d.keep h .non h1 with
          | ok x =>
            obtain ⟨e', h2⟩ := x
            rw [ef] at p
            obtain ⟨mu2, g2, rh2, r2⟩ := fin_ok rh g rh' (Rl.non.mpr rfl) ef
            exact p mu2 H' g2 rh2 _ r2
          | exc c h2 => exact absurd ef fin_ne
          | fail => rw [ef] at p; exact p.elim
        | rt dd h1 =>
          dsimp only at p
          intro mu' H' v g rh' rv
          cases ef : fin d.keep h dd h1 with
          | ok x =>
            obtain ⟨e', h2⟩ := x
            rw [ef] at p
            obtain ⟨mu2, g2, rh2, r2⟩ := fin_ok rh g rh' rv ef
            exact p mu2 H' g2 rh2 _ r2
          | exc c h2 => exact absurd ef fin_ne
          | fail => rw [ef] at p; exact p.elim
        | bk r h1 => exact p.elim
        | ct r h1 => exact p.elim
        | ex c r h1 =>
          dsimp only at p
          cases ef : exR tr c h h1 with
          | ok x =>
            unfold exR at ef
            split at ef <;> cases ef
          | fail => rw [ef] at p; exact p.elim
          | exc c' h2 =>
            rw [ef] at p
            obtain ⟨htr, htk, rfl, rfl⟩ := exR_inv ef
            intro mu' H' s' g rh' re'
            have rc := rh.cut g rh' (stay_of htk)
            rw [htk] at rc
            exact hW htr _ _ _ _ (p _ H' g.cut rc)
/-- what a law's def promises, of a script -/
theorem law_sp {tr : Bool} {n k : Nat} {T : List Fd} {ns : List Int} {H : Hp} {a : Addr} (hO : Only H) (hS : SqL K H a (ns.map V.int)) {h' : Hh} (hrun : run tr T k n [.scr (ns.map D.int)] [] = .ok (.bl true, h')) :
    spR K pm (run tr T k n) [.ref a] H (fun v _ => v = .bl true) fun _ _ _ => False := by
  refine ⟨⟨[], []⟩, [], [.scr (ns.map D.int)], ⟨List.nodup_nil, rfl, fun n o p e => by simp at e, fun p hp => by simp at hp⟩, .cons (Rl.scr.mpr ⟨a, ns.map V.int, rfl, ?_, ?_⟩) .nil, ?_⟩
  · rcases hS with (h | ⟨o, h⟩) | h
    · rcases hO a with z | ⟨o, xs, z⟩
      · rw [z] at h; cases h
      · rw [z] at h; cases h
    · exact .inl ⟨fun z => by rcases z with z | z <;> simp at z, o, h⟩
    · exact .inr h
  · induction ns with
    | nil => exact .nil
    | cons x r ih =>
      clear ih hrun hS
      generalize x :: r = l
      induction l with
      | nil => exact .nil
      | cons y l ih => exact .cons (Rl.int.mpr rfl) ih
  · rw [hrun]
    exact fun mu' H' g rh v rv => Rl.bl.mp rv
end
end Fx
set_option Elab.async false
set_option linter.all false
namespace Fx
open PySem PySem.Spec PyProof.Rows L2

/-! ## reckoning with the trees -/
section
variable {tr : Bool} {T : List Fd} {k f : Nat} {d : Fd} {ds : List D} {h h1 : Hh} {x : D} {y : D × Hh} {r : Ev} {C : Cal}
theorem run_rt (e : T[f]? = some d) (hl : ds.length = d.ps.length) (b : evSs (run tr T k) d.body (ds.map some ++ List.replicate (d.ns.length - ds.length) none) h = .ok (.rt x h1)) (hf : fin d.keep h x h1 = .ok y) :
    run tr T (k + 1) f ds h = .ok y := by
  simp only [run, e, if_pos hl, b]
  exact hf
theorem run_nx (e : T[f]? = some d) (hl : ds.length = d.ps.length) (b : evSs (run tr T k) d.body (ds.map some ++ List.replicate (d.ns.length - ds.length) none) h = .ok (.nx r h1)) (hf : fin d.keep h .non h1 = .ok y) :
    run tr T (k + 1) f ds h = .ok y := by
  simp only [run, e, if_pos hl, b]
  exact hf
mutual
theorem fzW_pln {rf : Nat → Option D} : ∀ x : D, pln x = true → fzW rf x = some x
  | .non, _ => by simp [fzW]
  | .bl _, _ => by simp [fzW]
  | .int _, _ => by simp [fzW]
  | .str _, _ => by simp [fzW]
  | .ref _, h => by simp [pln] at h
  | .fn _, h => by simp [pln] at h
  | .exc _, h => by simp [pln] at h
  | .pr _ _, h => by simp [pln] at h
  | .tup xs, h => by simp only [fzW]; rw [fzL_pln xs (by simpa [pln] using h)]; rfl
  | .lst xs, h => by simp only [fzW]; rw [fzL_pln xs (by simpa [pln] using h)]; rfl
  | .scr xs, h => by
    have : plnL xs = true := by simpa [pln] using h
    simp [fzW, this]
theorem fzL_pln {rf : Nat → Option D} : ∀ xs : List D, plnL xs = true → fzL rf xs = some xs
  | [], _ => by simp [fzL]
  | x :: xs, h => by
    simp only [plnL, Bool.and_eq_true] at h
    simp only [fzL, fzW_pln x h.1, fzL_pln xs h.2]
    rfl
end
/-- ints -/
def I (ts : List Int) : List D := ts.map D.int
@[simp] theorem I_length (ts : List Int) : (I ts).length = ts.length := List.length_map ..
theorem I_get {ts : List Int} {j : Nat} {t : Int} (e : ts[j]? = some t) : (I ts)[j]? = some (.int t) := by unfold I; rw [List.getElem?_map, e]; rfl
theorem I_set {ts : List Int} {j : Nat} {t : Int} : (I ts).set j (.int t) = I (ts.set j t) := by unfold I; rw [List.map_set]
theorem clsd_I {n : Nat} : ∀ ts : List Int, clsdL n (I ts) = true
  | [] => rfl
  | t :: ts => by
    show (clsd n (.int t) && clsdL n (I ts)) = true
    rw [clsd_I ts]; rfl
theorem pln_I : ∀ ts : List Int, plnL (I ts) = true
  | [] => rfl
  | t :: ts => by
    show (pln (.int t) && plnL (I ts)) = true
    rw [pln_I ts]; rfl
theorem stay_self : stay h h := ⟨Nat.le_refl _, fun i o _ e => .inl e⟩
theorem stay_app {e : Hh} : stay h (h ++ e) := ⟨by simp, fun i o hi z => .inl (by rw [List.getElem?_append_left hi] at z; exact z)⟩
/-- the first one changed, some new ones behind -/
theorem stay_town {o : Ob} {ts : List Int} {e : Hh} : stay (o :: h) (.lst (I ts) :: (h ++ e)) := by
  refine ⟨by simp, fun i o' hi z => ?_⟩
  cases i with
  | zero =>
    cases z
    exact .inr (clsd_I ts)
  | succ i =>
    refine .inl ?_
    simp only [List.length_cons] at hi
    rw [List.getElem?_cons_succ, List.getElem?_append_left (by omega)] at z
    exact z
theorem fin_at (s : stay h h1) (p : pln x = true) : fin false h x h1 = .ok (x, h1.take h.length) := by
  unfold fin
  rw [if_pos s, if_neg (by decide), fzW_pln x p]
theorem fin_self (p : pln x = true) : fin false h x h = .ok (x, h) := by rw [fin_at stay_self p, List.take_length]
theorem fin_app {e : Hh} (p : pln x = true) : fin false h x (h ++ e) = .ok (x, h) := by rw [fin_at stay_app p, List.take_left]
theorem fin_town {o : Ob} {ts : List Int} {e : Hh} (p : pln x = true) : fin false (o :: h) x (.lst (I ts) :: (h ++ e)) = .ok (x, .lst (I ts) :: h) := by
  rw [fin_at stay_town p]
  simp
theorem fin_town0 {o : Ob} {ts : List Int} (p : pln x = true) : fin false (o :: h) x (.lst (I ts) :: h) = .ok (x, .lst (I ts) :: h) := by
  have := fin_town (h := h) (o := o) (ts := ts) (e := []) p
  simpa using this
theorem fin_ref {xs : List D} {e : Hh} (p : plnL xs = true) : fin false h (.ref h.length) (h ++ (.lst xs :: e)) = .ok (.lst xs, h) := by
  unfold fin
  rw [if_pos stay_app, if_neg (by decide)]
  have z : (h ++ (Ob.lst xs :: e))[h.length]? = some (.lst xs) := by simp
  simp only [fzW, fz2, Nat.lt_irrefl, if_false, z, fzL_pln xs p, Option.map_some, List.take_left]
theorem fin_keep {xs : List D} (p : plnL xs = true) : fin true h (.ref h.length) (h ++ [.lst xs]) = .ok (.ref h.length, h ++ [.lst xs]) := by
  unfold fin
  rw [if_pos stay_app, if_pos rfl]
  have z : (h ++ [Ob.lst xs])[h.length]? = some (.lst xs) := by simp
  simp only [z, fzL_pln xs p, Nat.le_refl, if_true, List.take_left]

/-! ### equality -/
mutual
theorem deq_refl : ∀ x : D, pln x = true → deq x x = true
  | .non, _ => by simp [deq]
  | .bl _, _ => by simp [deq]
  | .int _, _ => by simp [deq]
  | .str _, _ => by simp [deq]
  | .ref _, h => by simp [pln] at h
  | .fn _, h => by simp [pln] at h
  | .exc _, h => by simp [pln] at h
  | .pr _ _, h => by simp [pln] at h
  | .tup xs, h => by simp only [deq]; exact deqL_refl xs (by simpa [pln] using h)
  | .lst xs, h => by simp only [deq]; exact deqL_refl xs (by simpa [pln] using h)
  | .scr xs, h => by simp only [deq]; exact deqL_refl xs (by simpa [pln] using h)
theorem deqL_refl : ∀ xs : List D, plnL xs = true → deqL xs xs = true
  | [], _ => by simp [deqL]
  | x :: xs, h => by
    simp only [plnL, Bool.and_eq_true] at h
    simp only [deqL, deq_refl x h.1, deqL_refl xs h.2, Bool.and_self]
end
theorem drf_pln : ∀ {x : D}, pln x = true → drf h x = x
  | .non, _ | .bl _, _ | .int _, _ | .str _, _ | .fn _, _ | .tup _, _ | .lst _, _ | .scr _, _ => rfl
  | .ref _, z => by simp [pln] at z
theorem eqD_pln {a b : D} (pa : pln a = true) (pb : pln b = true) (da : dep a ≤ 60) (db : dep b ≤ 60) : eqD h a b = .ok (deq a b) := by
  unfold eqD
  rw [drf_pln pa, drf_pln pb, if_pos ⟨pa, pb, da, db⟩]
theorem eqD_refl {a : D} (pa : pln a = true) (da : dep a ≤ 60) : eqD h a a = .ok true := by rw [eqD_pln pa pa da da, deq_refl a pa]
theorem eqD_int {a b : Int} : eqD h (.int a) (.int b) = .ok (a == b) := by
  rw [eqD_pln (by simp [pln]) (by simp [pln]) (by simp [dep]) (by simp [dep])]
  simp [deq]
/-! ### walks -/
theorem stl_none {all : List D} : stl none all h = true := rfl
theorem comp_map {all : List D} {g : Tg} {r0 : Ev} {elt : Ev → Hh → Res (D × Hh)} {cond : Ev → Hh → Res (Bool × Hh)} (F : D → D) (R : D → Ev) :
    ∀ (xs : List D), (∀ x ∈ xs, tgD g x r0 = some (R x) ∧ cond (R x) h = .ok (true, h) ∧ elt (R x) h = .ok (F x, h)) → compD none all g r0 cond elt xs h = .ok (xs.map F, h)
  | [], _ => by simp [compD, stl]
  | x :: xs, H => by
    obtain ⟨a, b, c⟩ := H x List.mem_cons_self
    have ih := comp_map F R xs (fun y hy => H y (List.mem_cons_of_mem _ hy)) (all := all)
    simp only [compD, stl, if_true, a, b, c, nox_ok, bind_ok, ih, List.map_cons]
/-- comprehensions with a condition -/
theorem comp_filter {all : List D} {g : Tg} {r0 : Ev} {elt : Ev → Hh → Res (D × Hh)} {cond : Ev → Hh → Res (Bool × Hh)} (F : D → D) (R : D → Ev) (P : D → Bool) :
    ∀ (xs : List D), (∀ x ∈ xs, tgD g x r0 = some (R x) ∧ cond (R x) h = .ok (P x, h) ∧ (P x = true → elt (R x) h = .ok (F x, h))) → compD none all g r0 cond elt xs h = .ok ((xs.filter P).map F, h)
  | [], _ => by simp [compD, stl]
  | x :: xs, H => by
    obtain ⟨a, b, c⟩ := H x List.mem_cons_self
    have ih := comp_filter F R P xs (fun y hy => H y (List.mem_cons_of_mem _ hy)) (all := all)
    cases hp : P x with
    | false =>
      rw [hp] at b
      simp only [compD, stl, if_true, a, b, nox_ok, bind_ok, ih, List.filter_cons, hp, Bool.false_eq_true, if_false]
    | true =>
      rw [hp] at b
      simp only [compD, stl, if_true, a, b, c hp, nox_ok, bind_ok, ih, List.filter_cons, hp, List.map_cons]
/-- a loop that keeps something -/
theorem for_inv {all : List D} {g : Tg} {body : Ev → Hh → Res Out} (P : List D → Ev → Hh → Prop) (step : ∀ x xs r h, P (x :: xs) r h → ∃ r1 r2 h2, tgD g x r = some r1 ∧ (body r1 h = .ok (.nx r2 h2) ∨ body r1 h = .ok (.ct r2 h2)) ∧ P xs r2 h2) :
    ∀ (xs : List D) (r : Ev) (h : Hh), P xs r h → ∃ r' h', forD none all g body xs r h = .ok (.nx r' h') ∧ P [] r' h'
  | [], r, h, p => ⟨r, h, by simp [forD, stl], p⟩
  | x :: xs, r, h, p => by
    obtain ⟨r1, r2, h2, a, b, q⟩ := step x xs r h p
    obtain ⟨r', h', c, q'⟩ := for_inv P step xs r2 h2 q (all := all) (g := g) (body := body)
    refine ⟨r', h', ?_, q'⟩
    rcases b with b | b <;> simp only [forD, stl, if_true, a, b, bind_ok, c]
/-! ### while -/
theorem whileN_mono {c : Ev → Hh → Res (Bool × Hh)} {body : Ev → Hh → Res Out} : ∀ (n : Nat) (r : Ev) (h : Hh) {o : Res Out}, whileN c body n r h = o → o ≠ .fail → ∀ m, n ≤ m → whileN c body m r h = o
  | 0, r, h, o, e, z, m, hm => absurd e.symm z
  | n + 1, r, h, o, e, z, 0, hm => by omega
  | n + 1, r, h, o, e, z, m + 1, hm => by
    simp only [whileN] at e ⊢
    cases hc : c r h with
    | ok bh =>
      rw [hc] at e
      simp only [lft_ok] at e ⊢
      by_cases hb : bh.1 = true
      · rw [if_pos hb] at e ⊢
        cases hbd : body r bh.2 with
        | ok o1 =>
          rw [hbd] at e
          simp only [bind_ok] at e ⊢
          cases o1 with
          | nx r2 h2 => exact whileN_mono n r2 h2 e z m (by omega)
          | ct r2 h2 => exact whileN_mono n r2 h2 e z m (by omega)
          | _ => exact e
        | exc _ _ => rw [hbd] at e; exact e
        | fail => rw [hbd] at e; exact e
      · rw [if_neg hb] at e ⊢; exact e
    | exc _ _ => rw [hc] at e; exact e
    | fail => rw [hc] at e; exact e
theorem whileD_of {c : Ev → Hh → Res (Bool × Hh)} {body : Ev → Hh → Res Out} {n : Nat} {o : Res Out} (e : whileN c body n r h = o) (z : o ≠ .fail) : whileD c body r h = o := by
  have ex : ∃ n, whileN c body n r h ≠ .fail := ⟨n, by rw [e]; exact z⟩
  unfold whileD
  rw [dif_pos ex]
  have e2 := whileN_mono n r h e z (max n (Classical.choose ex)) (Nat.le_max_left _ _)
  have e3 := whileN_mono (Classical.choose ex) r h rfl (Classical.choose_spec ex) (max n (Classical.choose ex)) (Nat.le_max_right _ _)
  rw [← e3, e2]
theorem while_end {c : Ev → Hh → Res (Bool × Hh)} {body : Ev → Hh → Res Out} {n : Nat} (e : c r h = .ok (false, h1)) : whileN c body (n + 1) r h = .ok (.nx r h1) := by
  simp [whileN, e]
theorem while_on {c : Ev → Hh → Res (Bool × Hh)} {body : Ev → Hh → Res Out} {n : Nat} {r2 : Ev} {h2 : Hh} (e : c r h = .ok (true, h1)) (b : body r h1 = .ok (.nx r2 h2)) : whileN c body (n + 1) r h = whileN c body n r2 h2 := by
  simp [whileN, e, b]
/-! ### small rules -/
section
variable {m : Bool} {i j v : Int} {b b' : Bool} {xs ys : List D}
@[simp] theorem asB_bl : asB (.bl b) h = .ok (b, h) := (rfl)
@[simp] theorem asI_int : asI (.int i) h = .ok (i, h) := (rfl)
@[simp] theorem isi_ii : biD (.isi "int") m [.int v] h = .ok (.bl true, h) := (rfl)
@[simp] theorem isi_bi : biD (.isi "bool") m [.int v] h = .ok (.bl false, h) := (rfl)
@[simp] theorem isi_tt : biD (.isi "tuple") m [.tup xs] h = .ok (.bl true, h) := (rfl)
@[simp] theorem isi_tl : biD (.isi "tuple") m [.lst xs] h = .ok (.bl false, h) := (rfl)
@[simp] theorem isi_ti : biD (.isi "tuple") m [.int v] h = .ok (.bl false, h) := (rfl)
@[simp] theorem cmp_lt : cmpD .lt h (.int i) (.int j) = .ok (decide (i < j)) := (rfl)
@[simp] theorem cmp_le : cmpD .le h (.int i) (.int j) = .ok (decide (i ≤ j)) := (rfl)
@[simp] theorem cmp_gt : cmpD .gt h (.int i) (.int j) = .ok (decide (j < i)) := (rfl)
@[simp] theorem cmp_ge : cmpD .ge h (.int i) (.int j) = .ok (decide (j ≤ i)) := (rfl)
@[simp] theorem cmp_eq_int : cmpD .eq h (.int i) (.int j) = .ok (i == j) := eqD_int
@[simp] theorem cmp_ne_int : cmpD .ne h (.int i) (.int j) = .ok (!(i == j)) := by unfold cmpD; rw [eqD_int]; rfl
@[simp] theorem op_add_int : opD .add m (.int i) (.int j) h = .ok (.int (i + j), h) := (rfl)
@[simp] theorem op_sub_int : opD .sub m (.int i) (.int j) h = .ok (.int (i - j), h) := (rfl)
theorem op_mul_int (hz : i.natAbs.log2 + j.natAbs.log2 < 1000000) : opD .mul m (.int i) (.int j) h = .ok (.int (i * j), h) := by simp only [opD, mulD, if_pos hz, bind_ok]
theorem op_fdiv_int (hz : 0 < j ∧ j.natAbs.log2 < 9000) : opD .fdiv m (.int i) (.int j) h = .ok (.int (i / j), h) := by simp only [opD, intsD, if_pos hz, bind_ok]
theorem op_mod_int (hz : 0 < j) : opD .mod m (.int i) (.int j) h = .ok (.int (i % j), h) := by simp only [opD, intsD, if_pos hz, bind_ok]
theorem op_pow_int (hz : 0 ≤ j ∧ j ≤ 1000000 ∧ i.natAbs < 2 ^ 64) : opD .pow m (.int i) (.int j) h = .ok (.int (i ^ j.toNat), h) := by simp only [opD, intsD, if_pos hz, bind_ok]
@[simp] theorem bi_abs : biD .abs m [.int i] h = .ok (.int (if i < 0 then -i else i), h) := (rfl)
@[simp] theorem bi_int : biD .int m [.int i] h = .ok (.int i, h) := (rfl)
@[simp] theorem bi_int_b : biD .int m [.bl b] h = .ok (.int (if b then 1 else 0), h) := (rfl)
@[simp] theorem bi_len_t : biD .len m [.tup xs] h = .ok (.int xs.length, h) := (rfl)
@[simp] theorem bi_len_l : biD .len m [.lst xs] h = .ok (.int xs.length, h) := (rfl)
@[simp] theorem bi_len_s : biD .len m [.scr xs] h = .ok (.int xs.length, h) := (rfl)
@[simp] theorem bi_tup_l : biD .tuple m [.lst xs] h = .ok (.tup xs, h) := (rfl)
@[simp] theorem bi_tup_t : biD .tuple m [.tup xs] h = .ok (.tup xs, h) := (rfl)
@[simp] theorem bi_list_l : biD .list m [.lst xs] h = mkL m xs h := (rfl)
@[simp] theorem bi_list_s : biD .list m [.scr xs] h = mkL m xs h := (rfl)
@[simp] theorem bi_list_t : biD .list m [.tup xs] h = mkL m xs h := (rfl)
@[simp] theorem mkL_t : mkL true xs h = .ok (.ref h.length, h ++ [.lst xs]) := (rfl)
@[simp] theorem mkL_f : mkL false xs h = .ok (.lst xs, h) := (rfl)
theorem ix_tup {a : D} {n : Nat} (e : xs[n]? = some a) : ixD (.tup xs) (.int n) h = .ok a := by simp only [ixD, seqOf, atI_nat e]
theorem ix_lst {a : D} {n : Nat} (e : xs[n]? = some a) : ixD (.lst xs) (.int n) h = .ok a := by simp only [ixD, seqOf, lstOf, atI_nat e]
theorem ix_scr {a : D} {n : Nat} (e : xs[n]? = some a) : ixD (.scr xs) (.int n) h = .ok a := by simp only [ixD, seqOf, lstOf, atI_nat e]
theorem ix_ref {a : D} {n l : Nat} (el : h[l]? = some (.lst xs)) (e : xs[n]? = some a) : ixD (.ref l) (.int n) h = .ok a := by simp only [ixD, seqOf, lstOf, el, atI_nat e]
theorem atI_0 {α : Type} {a : α} {r : List α} : atI (a :: r) 0 = some a := atI_nat (j := 0) rfl
theorem atI_1 {α : Type} {a b : α} {r : List α} : atI (a :: b :: r) 1 = some b := atI_nat (j := 1) rfl
@[simp] theorem ix_t0 {a : D} : ixD (.tup (a :: xs)) (.int 0) h = .ok a := by simp only [ixD, seqOf, atI_0]
@[simp] theorem ix_t1 {a a' : D} : ixD (.tup (a :: a' :: xs)) (.int 1) h = .ok a' := by simp only [ixD, seqOf, atI_1]
end
end
@[simp] theorem sz0 : 0 ≤ sizeLine := by decide
@[simp] theorem sz1 : 1 ≤ sizeLine := by decide
@[simp] theorem sz2 : 2 ≤ sizeLine := by decide
@[simp] theorem sz3 : 3 ≤ sizeLine := by decide
@[simp] theorem sz4 : 4 ≤ sizeLine := by decide
@[simp] theorem sz5 : 5 ≤ sizeLine := by decide
@[simp] theorem sz6 : 6 ≤ sizeLine := by decide
@[simp] theorem sz7 : 7 ≤ sizeLine := by decide
@[simp] theorem sz8 : 8 ≤ sizeLine := by decide
@[simp] theorem sz9 : 9 ≤ sizeLine := by decide
@[simp] theorem sz10 : 10 ≤ sizeLine := by decide
@[simp] theorem sz11 : 11 ≤ sizeLine := by decide
@[simp] theorem sz12 : 12 ≤ sizeLine := by decide
@[simp] theorem sz13 : 13 ≤ sizeLine := by decide
@[simp] theorem sz14 : 14 ≤ sizeLine := by decide
@[simp] theorem walk_t {xs : List D} {h : Hh} : walkD (.tup xs) h = .ok (xs, none) := (rfl)
@[simp] theorem walk_l {xs : List D} {h : Hh} : walkD (.lst xs) h = .ok (xs, none) := (rfl)
@[simp] theorem walk_s {xs : List D} {h : Hh} : walkD (.scr xs) h = .ok (xs, none) := (rfl)
theorem op_mul_sm {m : Bool} {h : Hh} {i j : Int} (hi : i.natAbs < 4294967296) (hj : j.natAbs < 4294967296) : opD .mul m (.int i) (.int j) h = .ok (.int (i * j), h) := by
  refine op_mul_int ?_
  have a : ∀ n : Nat, n < 4294967296 → n.log2 ≤ 32 := fun n hn => by
    by_cases z : n = 0
    · subst z; simp
    · exact Nat.le_of_lt ((Nat.log2_lt z).mpr (by omega))
  have := a _ hi
  have := a _ hj
  omega
theorem op_fdiv_sm {m : Bool} {h : Hh} {i j : Int} (h0 : 0 < j) (h1 : j < 4294967296) : opD .fdiv m (.int i) (.int j) h = .ok (.int (i / j), h) := by
  refine op_fdiv_int ⟨h0, ?_⟩
  exact Nat.lt_trans ((Nat.log2_lt (k := 32) (by omega)).mpr (by omega)) (by decide)
theorem all_true {α : Type} {m : Bool} {h : Hh} : ∀ xs : List α, biD .all m [.lst (xs.map fun _ => .bl true)] h = .ok (.bl true, h) := fun xs => by
  have e : blL (xs.map fun _ => D.bl true) = some (xs.map fun _ => true) := by
    induction xs with
    | nil => rfl
    | cons x xs ih => simp only [List.map_cons, blL, ih]; rfl
  simp only [biD, one, lstOf, e]
  simp
theorem setix_ref {l j : Nat} {xs : List D} {v : D} {h : Hh} (e : h[l]? = some (.lst xs)) (hj : j < xs.length) : setixD (.ref l) (.int j) v h = .ok (h.set l (.lst (xs.set j v))) := by
  have : ixN xs.length (j : Int) = some j := by
    unfold ixN
    rw [if_pos (by omega), if_pos (by omega)]
    simp
  simp only [setixD, e, this]
theorem get_last {h : Hh} {a : Ob} : (h ++ [a])[h.length]? = some a := by simp
theorem set_last {h : Hh} {a b : Ob} : (h ++ [a]).set h.length b = h ++ [b] := by simp
theorem ss_nx {a : Sm} {rest : Sms} {C : Cal} {r r1 : Ev} {h h1 : Hh} {o : Res Out} (e : evS C a r h = .ok (.nx r1 h1)) (e2 : evSs C rest r1 h1 = o) : evSs C (.cons a rest) r h = o := by
  simp only [evSs, e, bind_ok, e2]
theorem ss_rt {a : Sm} {rest : Sms} {C : Cal} {r : Ev} {d : D} {h h1 : Hh} (e : evS C a r h = .ok (.rt d h1)) : evSs C (.cons a rest) r h = .ok (.rt d h1) := by
  simp only [evSs, e, bind_ok]
/-! ### the equations -/
section
variable {C : Cal} {r : Ev} {h : Hh}
@[simp] theorem E_0 {i} : evE C (.v i) r h = (match r[i]? with | some (some d) => .ok (d, h) | _ => .fail) := by first | rfl | (simp only [evE]; done) | (simp only [evE]; rfl)
@[simp] theorem E_1 {i} : evE C (.ci i) r h = .ok (.int i, h) := by first | rfl | (simp only [evE]; done) | (simp only [evE]; rfl)
@[simp] theorem E_2 {b} : evE C (.cb b) r h = .ok (.bl b, h) := by first | rfl | (simp only [evE]; done) | (simp only [evE]; rfl)
@[simp] theorem E_3 : evE C .cn r h = .ok (.non, h) := by first | rfl | (simp only [evE]; done) | (simp only [evE]; rfl)
@[simp] theorem E_4 {x} : evE C (.cs x) r h = .ok (.str x, h) := by first | rfl | (simp only [evE]; done) | (simp only [evE]; rfl)
@[simp] theorem E_5 {f} : evE C (.fn f) r h = .ok (.fn f, h) := by first | rfl | (simp only [evE]; done) | (simp only [evE]; rfl)
@[simp] theorem E_6 {o m a b} : evE C (.op o m a b) r h = evE C a r h >>= fun x => evE C b r x.2 >>= fun y => nox (opD o m x.1 y.1 y.2) := by first | rfl | (simp only [evE]; done) | (simp only [evE]; rfl)
@[simp] theorem E_7 {a} : evE C (.neg a) r h = evE C a r h >>= fun x => (match x.1 with | .int i => .ok (.int (-i), x.2) | _ => .fail) := by first | rfl | (simp only [evE]; done) | (simp only [evE]; rfl)
@[simp] theorem E_8 {a} : evE C (.no a) r h = evE C a r h >>= fun x => asB x.1 x.2 >>= fun b => .ok (.bl (!b.1), b.2) := by first | rfl | (simp only [evE]; done) | (simp only [evE]; rfl)
@[simp] theorem E_9 {k as} : evE C (.bop k as) r h = evB C k as r h >>= fun b => .ok (.bl b.1, b.2) := by first | rfl | (simp only [evE]; done) | (simp only [evE]; rfl)
@[simp] theorem E_10 {c a b} : evE C (.cmp c a b) r h = evE C a r h >>= fun x => evE C b r x.2 >>= fun y => nox (cmpD c y.2 x.1 y.1) >>= fun t => .ok (.bl t, y.2) := by first | rfl | (simp only [evE]; done) | (simp only [evE]; rfl)
@[simp] theorem E_11 {c a b d} : evE C (.chain c c' a b d) r h = evE C a r h >>= fun x => evE C b r x.2 >>= fun y => nox (cmpD c y.2 x.1 y.1) >>= fun t =>
      if t = true then evE C d r y.2 >>= fun z => nox (cmpD c' z.2 y.1 z.1) >>= fun t' => .ok (.bl t', z.2) else .ok (.bl false, y.2) := by first | rfl | (simp only [evE]; done) | (simp only [evE]; rfl)
@[simp] theorem E_12 {neg a} : evE C (.isN neg a) r h = evE C a r h >>= fun x => (match x.1 with | .non => .ok (.bl (!neg), x.2) | _ => .ok (.bl neg, x.2)) := by first | rfl | (simp only [evE]; done) | (simp only [evE]; rfl)
@[simp] theorem E_13 {t a b} : evE C (.ite t a b) r h = evE C t r h >>= fun x => asB x.1 x.2 >>= fun c => if c.1 = true then evE C a r c.2 else evE C b r c.2 := by first | rfl | (simp only [evE]; done) | (simp only [evE]; rfl)
@[simp] theorem E_14 {f as} : evE C (.call f as) r h = evEs C as r h >>= fun x => C f x.1 x.2 := by first | rfl | (simp only [evE]; done) | (simp only [evE]; rfl)
@[simp] theorem E_15 {f m as} : evE C (.bi f m as) r h = evEs C as r h >>= fun x => nox (biD f m x.1 x.2) := by first | rfl | (simp only [evE]; done) | (simp only [evE]; rfl)
@[simp] theorem E_16 {t a} : evE C (.isi t a) r h = evE C a r h >>= fun x => nox (biD (.isi t) false [x.1] x.2) := by first | rfl | (simp only [evE]; done) | (simp only [evE]; rfl)
@[simp] theorem E_17 {f o as} : evE C (.mt f o as) r h = evE C o r h >>= fun x => (match lstOf x.2 x.1 with | none => .fail | some _ => evEs C as r x.2 >>= fun y => nox (mtD f x.1 y.1 y.2)) := by first | rfl | (simp only [evE]; done) | (simp only [evE]; rfl)
@[simp] theorem E_18 {as} : evE C (.rgT as) r h = evEs C as r h >>= fun x => (match rngD x.1 with | some xs => .ok (.tup xs, x.2) | none => .fail) := by first | rfl | (simp only [evE]; done) | (simp only [evE]; rfl)
@[simp] theorem E_19 {m as} : evE C (.rgL m as) r h = evEs C as r h >>= fun x => (match rngD x.1 with | some xs => mkL m xs x.2 | none => .fail) := by first | rfl | (simp only [evE]; done) | (simp only [evE]; rfl)
@[simp] theorem E_20 {a i} : evE C (.ix a i) r h = evE C a r h >>= fun x => evE C i r x.2 >>= fun y => nox (ixD x.1 y.1 y.2) >>= fun d => .ok (d, y.2) := by first | rfl | (simp only [evE]; done) | (simp only [evE]; rfl)
@[simp] theorem E_21 {a lo hi} : evE C (.sl a lo hi) r h = evE C a r h >>= fun x => evO C lo r x.2 >>= fun l => evO C hi r l.2 >>= fun u => nox (slD x.1 l.1 u.1 u.2) >>= fun d => .ok (d, u.2) := by first | rfl | (simp only [evE]; done) | (simp only [evE]; rfl)
@[simp] theorem E_22 {a} : evE C (.rev a) r h = evE C a r h >>= fun x => nox (revD x.1 x.2) >>= fun d => .ok (d, x.2) := by first | rfl | (simp only [evE]; done) | (simp only [evE]; rfl)
@[simp] theorem E_23 {as} : evE C (.tup as) r h = evEs C as r h >>= fun x => if x.1.length ≤ sizeLine then .ok (.tup x.1, x.2) else .fail := by first | rfl | (simp only [evE]; done) | (simp only [evE]; rfl)
@[simp] theorem E_24 {m as} : evE C (.lst m as) r h = evEs C as r h >>= fun x => if x.1.length ≤ sizeLine then mkL m x.1 x.2 else .fail := by first | rfl | (simp only [evE]; done) | (simp only [evE]; rfl)
@[simp] theorem E_25 {m own g it cond elt} : evE C (.comp m own g it cond elt) r h = evI C it r h >>= fun w => if w.1.1.length ≤ sizeLine then
      nox (compD w.1.2 w.1.1 g (wip r own) (evC C cond) (evE C elt) w.1.1 w.2) >>= fun x => mkL m x.1 x.2 else .fail := by first | rfl | (simp only [evE]; done) | (simp only [evE]; rfl)
@[simp] theorem B_0 {k} : evB C k .nil r h = .fail := by first | rfl | (simp only [evB]; done) | (simp only [evB]; rfl)
@[simp] theorem B_1 {k} {a} : evB C k (.cons a .nil) r h = evE C a r h >>= fun x => asB x.1 x.2 := by first | rfl | (simp only [evB]; done) | (simp only [evB]; rfl)
@[simp] theorem B_2 {k} {a b rest} : evB C k (.cons a (.cons b rest)) r h = evE C a r h >>= fun x => asB x.1 x.2 >>= fun c => if c.1 = k then evB C k (.cons b rest) r c.2 else .ok c := by first | rfl | (simp only [evB]; done) | (simp only [evB]; rfl)
@[simp] theorem Es_0 : evEs C .nil r h = .ok ([], h) := by first | rfl | (simp only [evEs]; done) | (simp only [evEs]; rfl)
@[simp] theorem Es_1 {a rest} : evEs C (.cons a rest) r h = evE C a r h >>= fun x => evEs C rest r x.2 >>= fun y => .ok (x.1 :: y.1, y.2) := by first | rfl | (simp only [evEs]; done) | (simp only [evEs]; rfl)
@[simp] theorem O_0 : evO C .none r h = .ok (none, h) := by first | rfl | (simp only [evO]; done) | (simp only [evO]; rfl)
@[simp] theorem O_1 {a} : evO C (.some a) r h = evE C a r h >>= fun x => asI x.1 x.2 >>= fun i => .ok (some i.1, i.2) := by first | rfl | (simp only [evO]; done) | (simp only [evO]; rfl)
@[simp] theorem C_0 : evC C .none r h = .ok (true, h) := by first | rfl | (simp only [evC]; done) | (simp only [evC]; rfl)
@[simp] theorem C_1 {a} : evC C (.some a) r h = evE C a r h >>= fun x => asB x.1 x.2 := by first | rfl | (simp only [evC]; done) | (simp only [evC]; rfl)
@[simp] theorem I_0 {a} : evI C (.seq a) r h = evE C a r h >>= fun x => nox (walkD x.1 x.2) >>= fun w => .ok (w, x.2) := by first | rfl | (simp only [evI]; done) | (simp only [evI]; rfl)
@[simp] theorem I_1 {n as} : evI C (.range n as) r h = evEs C as r h >>= fun x => if x.1.length = n then (match rngD x.1 with | some xs => .ok ((xs, none), x.2) | none => .fail) else .fail := by first | rfl | (simp only [evI]; done) | (simp only [evI]; rfl)
@[simp] theorem I_2 {a} : evI C (.enum a) r h = evE C a r h >>= fun x => (match x.1 with
    | .lst xs => .ok ((numb 0 xs, none), x.2)
    | .tup xs => .ok ((numb 0 xs, none), x.2)
    | _ => .fail) := by first | rfl | (simp only [evI]; done) | (simp only [evI]; rfl)
@[simp] theorem I_3 {a b} : evI C (.zip a b) r h = evE C a r h >>= fun x => evE C b r x.2 >>= fun y => (match x.1, y.1 with
    | .tup xs, .tup ys => .ok ((pair xs ys, none), y.2)
    | .lst xs, .lst ys => .ok ((pair xs ys, none), y.2)
    | _, _ => .fail) := by first | rfl | (simp only [evI]; done) | (simp only [evI]; rfl)
@[simp] theorem S_0 {g e} : evS C (.asg g e) r h = lft r (evE C e r h) fun x => (match tgD g x.1 r with | some r1 => .ok (.nx r1 x.2) | none => .fail) := by first | rfl | (simp only [evS]; done) | (simp only [evS]; rfl)
@[simp] theorem S_1 {i e} : evS C (.asgL i e) r h = lft r (evE C e r h) fun x => .ok (.nx (r.set i (some x.1)) x.2) := by first | rfl | (simp only [evS]; done) | (simp only [evS]; rfl)
@[simp] theorem S_2 {is as} : evS C (.par is as) r h = lft r (evEs C as r h) fun x => (match setAll is x.1 r with | some r1 => .ok (.nx r1 x.2) | none => .fail) := by first | rfl | (simp only [evS]; done) | (simp only [evS]; rfl)
@[simp] theorem S_3 {o i v} : evS C (.setix o i v) r h = lft r (evE C v r h) fun x => lft r (evE C o r x.2) fun y => lft r (evE C i r y.2) fun z => nox (setixD y.1 z.1 x.1 z.2) >>= fun h1 => .ok (.nx r h1) := by first | rfl | (simp only [evS]; done) | (simp only [evS]; rfl)
@[simp] theorem S_4 {e} : evS C (.expr e) r h = lft r (evE C e r h) fun x => .ok (.nx r x.2) := by first | rfl | (simp only [evS]; done) | (simp only [evS]; rfl)
@[simp] theorem S_5 {e} : evS C (.ret e) r h = lft r (evE C e r h) fun x => .ok (.rt x.1 x.2) := by first | rfl | (simp only [evS]; done) | (simp only [evS]; rfl)
@[simp] theorem S_6 : evS C .retN r h = .ok (.rt .non h) := by first | rfl | (simp only [evS]; done) | (simp only [evS]; rfl)
@[simp] theorem S_7 {t a b} : evS C (.iff t a b) r h = lft r (evT C t r h) fun c => if c.1 = true then evSs C a r c.2 else evSs C b r c.2 := by first | rfl | (simp only [evS]; done) | (simp only [evS]; rfl)
@[simp] theorem S_8 {t b} : evS C (.whil t b) r h = whileD (evT C t) (evSs C b) r h := by first | rfl | (simp only [evS]; done) | (simp only [evS]; rfl)
@[simp] theorem S_9 {g it b} : evS C (.forr g it b) r h = lft r (evI C it r h) fun w => forD w.1.2 w.1.1 g (evSs C b) w.1.1 r w.2 := by first | rfl | (simp only [evS]; done) | (simp only [evS]; rfl)
@[simp] theorem S_10 {c} : evS C (.rais c) r h = .ok (.ex c r h) := by first | rfl | (simp only [evS]; done) | (simp only [evS]; rfl)
@[simp] theorem S_11 : evS C .pass r h = .ok (.nx r h) := by first | rfl | (simp only [evS]; done) | (simp only [evS]; rfl)
@[simp] theorem S_12 : evS C .brk r h = .ok (.bk r h) := by first | rfl | (simp only [evS]; done) | (simp only [evS]; rfl)
@[simp] theorem S_13 : evS C .cont r h = .ok (.ct r h) := by first | rfl | (simp only [evS]; done) | (simp only [evS]; rfl)
@[simp] theorem Ss_0 : evSs C .nil r h = .ok (.nx r h) := by first | rfl | (simp only [evSs]; done) | (simp only [evSs]; rfl)
@[simp] theorem Ss_1 {a rest} : evSs C (.cons a rest) r h = evS C a r h >>= fun o => match o with
    | .nx r1 h1 => evSs C rest r1 h1
    | o => .ok o := by first | rfl | (simp only [evSs]; done) | (simp only [evSs]; rfl)
@[simp] theorem E_30 {k a} : evE C (.isx k a) r h = evE C a r h >>= fun x => (match x.1 with | .exc c => .ok (.bl (subX k c), x.2) | _ => .fail) := by first | rfl | (simp only [evE]; done) | (simp only [evE]; rfl)
@[simp] theorem E_31 {ps} : evE C (.dkd ps) r h = evPs C ps r h >>= fun x => (match pairsK x.1 with
    | some kvs => if kvs.length ≤ 15 then .ok (.ref x.2.length, x.2 ++ [.dk (mergK [] kvs)]) else .fail
    | none => .fail) := by first | rfl | (simp only [evE]; done) | (simp only [evE]; rfl)
@[simp] theorem E_32 : evE C .dk0 r h = .ok (.ref h.length, h ++ [.dk []]) := by first | rfl | (simp only [evE]; done) | (simp only [evE]; rfl)
@[simp] theorem E_33 : evE C .dt0 r h = .ok (.ref h.length, h ++ [.dt []]) := by first | rfl | (simp only [evE]; done) | (simp only [evE]; rfl)
@[simp] theorem E_34 {o k d} : evE C (.dget o k d) r h = evE C o r h >>= fun x => if isDct x.2 x.1 = true then evE C k r x.2 >>= fun y => evE C d r y.2 >>= fun z => (match (if isDct z.2 x.1 = true then dctG z.2 x.1 y.1 else none) with
    | some v => .ok (v.getD z.1, z.2)
    | none => .fail) else .fail := by first | rfl | (simp only [evE]; done) | (simp only [evE]; rfl)
@[simp] theorem E_35 {o k} : evE C (.dix o k) r h = evE C o r h >>= fun x => evE C k r x.2 >>= fun y => (match dctG y.2 x.1 y.1 with
    | some (some v) => .ok (v, y.2)
    | _ => .fail) := by first | rfl | (simp only [evE]; done) | (simp only [evE]; rfl)
@[simp] theorem E_36 {neg k o} : evE C (.din neg k o) r h = evE C k r h >>= fun y => evE C o r y.2 >>= fun x => (match dctG x.2 x.1 y.1 with
    | some v => .ok (.bl (if neg then !v.isSome else v.isSome), x.2)
    | none => .fail) := by first | rfl | (simp only [evE]; done) | (simp only [evE]; rfl)
@[simp] theorem E_37 {m a} : evE C (.srt m a) r h = evE C a r h >>= fun x => nox (srtD m x.1 x.2) := by first | rfl | (simp only [evE]; done) | (simp only [evE]; rfl)
@[simp] theorem E_40 {a} : evE C (.lenum a) r h = evE C a r h >>= fun x => (match x.1 with
    | .tup xs => .ok (.lst (numb 0 xs), x.2)
    | _ => .fail) := by first | rfl | (simp only [evE]; done) | (simp only [evE]; rfl)
@[simp] theorem E_38 {a} : evE C (.lset a) r h = evE C a r h >>= fun x => (match x.1 with
    | .tup xs => (match intL xs with
      | some ns => if ns.length ≤ 4000 then .ok (.int ((dst ns).length : Nat), x.2) else .fail
      | none => .fail)
    | _ => .fail) := by first | rfl | (simp only [evE]; done) | (simp only [evE]; rfl)
@[simp] theorem E_39 {a b} : evE C (.tix a b) r h = evE C a r h >>= fun x => (match x.1 with
    | .tup xs => evE C b r x.2 >>= fun y => (match y.1 with
      | .int i => (match intL xs with
        | some ns => (match ns.findIdx? fun j => j == i with | some j => .ok (.int (j : Nat), y.2) | none => .fail)
        | none => .fail)
      | _ => .fail)
    | _ => .fail) := by first | rfl | (simp only [evE]; done) | (simp only [evE]; rfl)
@[simp] theorem S_16 {o i o' i' a b} : evS C (.setix2 o i o' i' a b) r h = lft r (evE C a r h) fun x => lft r (evE C b r x.2) fun x' => lft r (evE C o r x'.2) fun y => lft r (evE C i r y.2) fun z => nox (setixD y.1 z.1 x.1 z.2) >>= fun h1 =>
      lft r (evE C o' r h1) fun y' => lft r (evE C i' r y'.2) fun z' => nox (setixD y'.1 z'.1 x'.1 z'.2) >>= fun h2 => .ok (.nx r h2) := by first | rfl | (simp only [evS]; done) | (simp only [evS]; rfl)
@[simp] theorem Ps_0 : evPs C .nil r h = .ok ([], h) := by first | rfl | (simp only [evPs]; done) | (simp only [evPs]; rfl)
@[simp] theorem Ps_1 {a b rest} : evPs C (.cons a b rest) r h = evE C a r h >>= fun x => evE C b r x.2 >>= fun y => evPs C rest r y.2 >>= fun z => .ok ((x.1, y.1) :: z.1, z.2) := by first | rfl | (simp only [evPs]; done) | (simp only [evPs]; rfl)
@[simp] theorem S_14 {b k i j} : evS C (.tryk b k i j) r h = evSs C b r h >>= fun o => match o with
    | .ex c r1 h1 => if subX (some k) c = true then .ok (.nx (((r1.set j (some (.exc c))).set i (some (.exc c))).set j none) h1) else .ok (.ex c r1 h1)
    | o => .ok o := by first | rfl | (simp only [evS]; done) | (simp only [evS]; rfl)
@[simp] theorem S_15 {o k v} : evS C (.dset o k v) r h = lft r (evE C v r h) fun x => lft r (evE C o r x.2) fun y => lft r (evE C k r y.2) fun z => nox (dctS z.2 y.1 z.1 x.1) >>= fun h1 => .ok (.nx r h1) := by first | rfl | (simp only [evS]; done) | (simp only [evS]; rfl)
@[simp] theorem T_ {e : Ex} : evT C e r h = evE C e r h >>= fun x => asB x.1 x.2 := (rfl)
end
end Fx
set_option Elab.async false
set_option linter.all false
namespace Fx
open PySem PySem.Spec PyProof.Rows L2

/-! ## the classes, as they stand behind the top -/
structure K1 (K : PySem.W.Frag) (x : Str) (C : Addr) : Prop where
  n : PySem.W.nsIn K mainGlobals x = some (some (.ref C))
  q : PySem.W.excIn K C veT "ValueError.__new__" = true
  k : PySem.W.keepIn K (.ref C) = true
  b : PySem.W.subIn K (.ref C) (.type "BaseException") = some true
  t : PySem.W.typeIn K (.ref C) = some (.type "type")
  c : ExcC K C
def K1s (K : PySem.W.Frag) : List Str → List Addr → Prop
  | [], [] => True
  | x :: xs, a :: as => K1 K x a ∧ K1s K xs as
  | _, _ => False
theorem K1s.at : ∀ {K : PySem.W.Frag} {xs : List Str} {as : List Addr}, K1s K xs as → ∀ (n : Nat) (x : Str), xs[n]? = some x → ∃ a, as[n]? = some a ∧ K1 K x a
  | _, [], [], _, _, _, e => by simp at e
  | _, x0 :: xs, a :: as, h, 0, x, e => by
    obtain rfl : x0 = x := by simpa using e
    exact ⟨a, rfl, h.1⟩
  | _, x0 :: xs, a :: as, h, n + 1, x, e => by
    obtain ⟨b, hb, k⟩ := K1s.at h.2 n x (by simpa using e)
    exact ⟨b, by simpa using hb, k⟩
theorem K1s.len : ∀ {K : PySem.W.Frag} {xs : List Str} {as : List Addr}, K1s K xs as → xs.length = as.length
  | _, [], [], _ => rfl
  | _, x0 :: xs, a :: as, h => by rw [List.length_cons, List.length_cons, K1s.len h.2]
/-- who is above whom -/
def pairB (f : Addr → Addr → Option Bool) (as : List Addr) : Bool := (List.range as.length).all fun n => (List.range as.length).all fun m => f (as.getD n 0) (as.getD m 0) == some (subX (some m) n)
theorem pairB_use {f : Addr → Addr → Option Bool} {as : List Addr} (h : pairB f as = true) {n m : Nat} (hn : n < as.length) (hm : m < as.length) : f (as.getD n 0) (as.getD m 0) = some (subX (some m) n) := by
  unfold pairB at h
  exact eq_of_beq (List.all_eq_true.mp (List.all_eq_true.mp h n (List.mem_range.mpr hn)) m (List.mem_range.mpr hm))
def caL (as : List Addr) (n : Nat) : Addr := as.getD (if n < as.length then n else 0) 0
def pmL (as : List Addr) : Pm := ⟨caL as, caL as⟩
theorem exF_mk {K : PySem.W.Frag} {h : Heap} {mg : Str → Option Value} {cls : List Str} {as : List Addr} (X : K.In h) (G : h.Ns mainGlobals mg) (h0 : 0 < as.length) (ks : K1s K cls as)
    (h1 : pairB (fun a b => PySem.W.kitOne K (.ref a) (.ref b)) as = true) (h2 : pairB (fun a b => PySem.W.exmOne K (.ref a) (.ref b)) as = true) (h3 : (as.all fun a => PySem.W.kitOne K (.ref a) (.type "ValueError") == some true) = true) : ExF K mg cls (pmL as) := by
  have hl := ks.len
  have at' : ∀ n, ∃ x, K1 K x (caL as n) := fun n => by
    unfold caL
    generalize hi : (if n < as.length then n else 0) = i
    have hi' : i < as.length := by
      rw [← hi]
      split <;> omega
    obtain ⟨a, ha, k⟩ := ks.at i (cls[i]'(by omega)) (List.getElem?_eq_getElem (by omega))
    exact ⟨_, by rw [List.getD_eq_getElem?_getD, ha]; exact k⟩
  have pr : ∀ n, (if n < as.length then n else 0) < as.length := fun n => by split <;> omega
  have sub : ∀ n m, m < as.length → subX (some m) (if n < as.length then n else 0) = subX (some m) n := fun n m hm => by
    split
    · rfl
    · rename_i hn
      unfold subX
      by_cases z : m = 0
      · simp [z]
      · have : m ≠ n := by omega
        simp [z, this]
  refine ⟨fun n => rfl, fun n x e => ?_, fun n => (at' n).choose_spec.b, fun n => (at' n).choose_spec.t, fun n => (at' n).choose_spec.c, fun n m hm => ?_, fun n => ?_, fun n m hm => ?_⟩
  · obtain ⟨a, ha, k⟩ := ks.at n x e
    have hn : n < as.length := (List.getElem?_eq_some_iff.mp ha).1
    have e2 : (pmL as).ca n = a := by
      show caL as n = a
      unfold caL
      rw [if_pos hn, List.getD_eq_getElem?_getD, ha]
      rfl
    rw [e2]
    exact ⟨k.q, PySem.W.mg_of X G k.n, k.k⟩
  · rw [hl] at hm
    have e := pairB_use h1 (pr n) hm
    rw [sub n m hm] at e
    show PySem.W.kitOne K (.ref (caL as n)) (.ref (caL as m)) = _
    have e3 : caL as m = as.getD m 0 := by unfold caL; rw [if_pos hm]
    rw [e3]
    exact e
  · refine eq_of_beq (List.all_eq_true.mp h3 (caL as n) ?_)
    unfold caL
    rw [List.getD_eq_getElem?_getD, List.getElem?_eq_getElem (pr n)]
    exact List.getElem_mem _
  · rw [hl] at hm
    have e := pairB_use h2 (pr n) hm
    rw [sub n m hm] at e
    show PySem.W.exmOne K (.ref (caL as n)) (.ref (caL as m)) = _
    have e3 : caL as m = as.getD m 0 := by unfold caL; rw [if_pos hm]
    rw [e3]
    exact e
end Fx
set_option Elab.async false
set_option linter.all false
set_option maxRecDepth 100000
set_option exponentiation.threshold 10000
namespace Fx
open PySem PySem.Spec PyProof.Rows L2

/-! ## fractions -/
def fr (q : Rat) : D := .tup [.int q.num, .int q.den]
@[simp] theorem pln_fr {q : Rat} : pln (fr q) = true := (rfl)
@[simp] theorem dep_fr {q : Rat} : dep (fr q) = 1 := (rfl)
theorem loop_gcd {c : Ev → Hh → Res (Bool × Hh)} {body : Ev → Hh → Res Out} {h : Hh} (R : Int → Int → Ev) (h0 : ∀ a, c (R a 0) h = .ok (false, h)) (h1 : ∀ a b, 0 < b → c (R a b) h = .ok (true, h)) (h2 : ∀ a b, 0 < b → body (R a b) h = .ok (.nx (R b (a % b)) h)) :
    ∀ (b a : Nat), ∃ n, whileN c body n (R a b) h = .ok (.nx (R (Nat.gcd a b : Nat) 0) h) := by
  intro b
  induction b using Nat.strongRecOn with
  | ind b ih =>
    intro a
    by_cases hb : b = 0
    · subst hb
      exact ⟨1, by rw [Nat.gcd_zero_right]; exact while_end (n := 0) (h0 _)⟩
    · have hp : 0 < b := Nat.pos_of_ne_zero hb
      obtain ⟨n, e⟩ := ih (a % b) (Nat.mod_lt _ hp) b
      refine ⟨n + 1, ?_⟩
      rw [while_on (h1 _ _ (by omega)) (h2 _ _ (by omega)), ← Int.natCast_emod, e]
      congr 3
      rw [Nat.gcd_comm a b, Nat.gcd_rec b a, Nat.gcd_comm]
theorem fr_mk {t : Int} {b : Nat} (hb : 0 < b) : fr (mkRat t b) = .tup [.int (t / (Nat.gcd t.natAbs b : Nat)), .int ((b : Int) / (Nat.gcd t.natAbs b : Nat))] := by
  unfold fr
  rw [Rat.num_mkRat, Rat.den_mkRat, if_neg (by omega), if_neg (by omega), Nat.gcd_comm b, Int.natCast_ediv]
theorem gcd_small {t : Int} {b n : Nat} (hb : 0 < b) (h : b < 2 ^ n) (hn : 0 < n) : 0 < ((Nat.gcd t.natAbs b : Nat) : Int) ∧ ((Nat.gcd t.natAbs b : Nat) : Int).natAbs.log2 < n := by
  have h1 : 0 < Nat.gcd t.natAbs b := Nat.gcd_pos_of_pos_right _ hb
  have h2 : Nat.gcd t.natAbs b ≤ b := Nat.gcd_le_right _ hb
  refine ⟨by omega, ?_⟩
  rw [Int.natAbs_natCast]
  exact (Nat.log2_lt (by omega)).mpr (Nat.lt_of_le_of_lt h2 h)
/-- at most b bits above and below -/
def Bd (b : Nat) (q : Rat) : Prop := q.num.natAbs < 2 ^ b ∧ q.den < 2 ^ b
theorem Bd.mono {a b : Nat} {q : Rat} (h : Bd a q) (l : a ≤ b) : Bd b q :=
  ⟨Nat.lt_of_lt_of_le h.1 (Nat.pow_le_pow_right (by decide) l), Nat.lt_of_lt_of_le h.2 (Nat.pow_le_pow_right (by decide) l)⟩
theorem mul_bits {i j a b : Nat} (h : i < 2 ^ a) (h' : j < 2 ^ b) : i * j < 2 ^ (a + b) := by
  rw [Nat.pow_add]
  exact Nat.mul_lt_mul'' h h'
theorem log_bits {i a : Nat} (h : i < 2 ^ a) : i.log2 ≤ a := by
  by_cases z : i = 0
  · subst z; simp
  · exact Nat.le_of_lt ((Nat.log2_lt z).mpr h)
theorem mk_bits {t : Int} {b n : Nat} (h1 : t.natAbs < 2 ^ n) (h2 : b < 2 ^ n) (hb : 0 < b) : Bd n (mkRat t b) := by
  unfold Bd
  rw [Rat.num_mkRat, Rat.den_mkRat]
  · rw [if_neg (by omega), if_neg (by omega)]
    refine ⟨?_, Nat.lt_of_le_of_lt (Nat.div_le_self _ _) h2⟩
    refine Nat.lt_of_le_of_lt ?_ h1
    rw [Int.natAbs_ediv_of_dvd]
    · exact Nat.div_le_self _ _
    · exact Int.ofNat_dvd_left.mpr (Nat.gcd_dvd_right _ _)
theorem Bd.add {a b : Nat} {p q : Rat} (h : Bd a p) (h' : Bd b q) : Bd (a + b + 1) (p + q) := by
  rw [Rat.add_def']
  refine mk_bits ?_ ?_ (Nat.mul_pos p.den_pos q.den_pos)
  · have h1 := mul_bits h.1 h'.2
    have h2 := mul_bits h'.1 h.2
    have h3 := Int.natAbs_add_le (p.num * q.den) (q.num * p.den)
    rw [Int.natAbs_mul, Int.natAbs_mul, Int.natAbs_natCast, Int.natAbs_natCast] at h3
    rw [Nat.add_comm b a] at h2
    rw [Nat.pow_succ]
    omega
  · have h1 := mul_bits h.2 h'.2
    rw [Nat.pow_succ]
    omega
theorem Bd.mul {a b : Nat} {p q : Rat} (h : Bd a p) (h' : Bd b q) : Bd (a + b) (p * q) := by
  rw [Rat.mul_def']
  refine mk_bits ?_ ?_ (Nat.mul_pos p.den_pos q.den_pos)
  · rw [Int.natAbs_mul]; exact mul_bits h.1 h'.1
  · exact mul_bits h.2 h'.2
theorem Bd.neg {a : Nat} {p : Rat} (h : Bd a p) : Bd a (-p) := ⟨by rw [Rat.neg_num, Int.natAbs_neg]; exact h.1, by rw [Rat.neg_den]; exact h.2⟩
/-- over a common bottom N -/
def Sz (n N : Nat) (q : Rat) : Prop := ∃ z : Int, q * N = z ∧ z.natAbs < 2 ^ n
theorem Sz.bd {n N : Nat} {q : Rat} (h : Sz n N q) (hN : 0 < N) (hn : N < 2 ^ n) : Bd n q := by
  obtain ⟨z, e, hz⟩ := h
  have hq : q = mkRat z N := by
    rw [Rat.mkRat_eq_div, ← e, Rat.mul_div_cancel]
    intro w
    have := Rat.natCast_eq_zero_iff.mp w
    omega
  rw [hq]
  exact mk_bits hz hn hN
theorem Sz.add {n N : Nat} {p q : Rat} (h : Sz n N p) (h' : Sz n N q) : Sz (n + 1) N (p + q) := by
  obtain ⟨z, e, hz⟩ := h
  obtain ⟨z', e', hz'⟩ := h'
  refine ⟨z + z', by rw [Rat.add_mul, e, e', Rat.intCast_add], ?_⟩
  have := Int.natAbs_add_le z z'
  rw [Nat.pow_succ]
  omega
theorem Sz.neg {n N : Nat} {p : Rat} (h : Sz n N p) : Sz n N (-p) := by
  obtain ⟨z, e, hz⟩ := h
  exact ⟨-z, by rw [Rat.neg_mul, e, Rat.intCast_neg], by rw [Int.natAbs_neg]; exact hz⟩
/-- times a fraction s, over s's bottom too -/
theorem Sz.mul {n m N : Nat} {p s : Rat} (h : Sz n N p) (hs : Bd m s) : Sz (m + n) (s.den * N) (s * p) := by
  obtain ⟨z, e, hz⟩ := h
  refine ⟨s.num * z, ?_, ?_⟩
  · have h1 : s * (s.den : Rat) = (s.num : Rat) := by
      have := Rat.mkRat_self s
      rw [Rat.mkRat_eq_div] at this
      conv => lhs; lhs; rw [← this]
      rw [Rat.div_mul_cancel]
      intro w
      have := Rat.natCast_eq_zero_iff.mp w
      exact s.den_nz this
    rw [Rat.natCast_mul, Rat.intCast_mul, ← e, ← h1]
    grind
  · rw [Int.natAbs_mul]; exact mul_bits hs.1 hz
theorem Sz.up {n m N : Nat} {p : Rat} (h : Sz n N p) {d : Nat} (hd : d < 2 ^ m) : Sz (m + n) (d * N) p := by
  obtain ⟨z, e, hz⟩ := h
  refine ⟨(d : Int) * z, ?_, ?_⟩
  · rw [Rat.natCast_mul, Rat.intCast_mul, ← e, Rat.intCast_natCast]
    grind
  · rw [Int.natAbs_mul, Int.natAbs_natCast]; exact mul_bits hd hz
theorem Sz.mono {n m N : Nat} {p : Rat} (h : Sz n N p) (l : n ≤ m) : Sz m N p := by
  obtain ⟨z, e, hz⟩ := h
  exact ⟨z, e, Nat.lt_of_lt_of_le hz (Nat.pow_le_pow_right (by decide) l)⟩
@[simp] theorem fr_0 {q : Rat} {h : Hh} : ixD (fr q) (.int 0) h = .ok (.int q.num) := ix_t0
@[simp] theorem fr_1 {q : Rat} {h : Hh} : ixD (fr q) (.int 1) h = .ok (.int q.den) := ix_t1
theorem Bd.nn {n m : Nat} {a b : Rat} (ha : Bd n a) (hb : Bd m b) (l : n + m < 1000000) : a.num.natAbs.log2 + b.num.natAbs.log2 < 1000000 := by
  have := log_bits ha.1
  have := log_bits hb.1
  omega
theorem Bd.nd {n m : Nat} {a b : Rat} (ha : Bd n a) (hb : Bd m b) (l : n + m < 1000000) : a.num.natAbs.log2 + (b.den : Int).natAbs.log2 < 1000000 := by
  have := log_bits ha.1
  have := log_bits hb.2
  rw [Int.natAbs_natCast]
  omega
theorem Bd.dd {n m : Nat} {a b : Rat} (ha : Bd n a) (hb : Bd m b) (l : n + m < 1000000) : (a.den : Int).natAbs.log2 + (b.den : Int).natAbs.log2 < 1000000 := by
  have := log_bits ha.2
  have := log_bits hb.2
  rw [Int.natAbs_natCast, Int.natAbs_natCast]
  omega
theorem pow_le_8999 {n : Nat} (h : n < 2 ^ (4000 + 4000)) : n < 2 ^ 8999 := Nat.lt_of_lt_of_le h (Nat.pow_le_pow_right (by decide) (by decide))
/-- 10 ** 600 -/
def big : Int := 10 ^ 600
theorem big_eq : big = ((10 ^ 600 : Nat) : Int) := by decide +kernel
theorem big_pow : (2 : Nat) ^ 1900 ≤ 10 ^ 600 := by decide +kernel
theorem big_of {n : Nat} {g g2 : Nat} {i : Int} (e : i = (g : Int)) (l : g2 ≤ g) {q : Rat} (h3 : q.num.natAbs < g2) (h4 : q.den < g2) : -i ≤ q.num ∧ q.num ≤ i ∧ 1 ≤ (q.den : Int) ∧ (q.den : Int) ≤ i := by
  have h5 := q.den_pos
  omega
theorem Bd.big_ok {q : Rat} (h : Bd 1900 q) : -big ≤ q.num ∧ q.num ≤ big ∧ 1 ≤ (q.den : Int) ∧ (q.den : Int) ≤ big := big_of (n := 0) big_eq big_pow h.1 h.2
theorem fr_cop (q : Rat) : Nat.gcd q.num.natAbs q.den = 1 := q.reduced
@[simp] theorem isi_fr {q : Rat} {m : Bool} {h : Hh} : biD (.isi "tuple") m [fr q] h = .ok (.bl true, h) := (rfl)
@[simp] theorem len_fr {q : Rat} {m : Bool} {h : Hh} : biD .len m [fr q] h = .ok (.int 2, h) := (rfl)
def zeros : Str := PySem.Txt.mul (Str.ofString "0") 600
theorem zeros_ok {m : Bool} {h : Hh} : opD .mul m (.str (Str.ofString "0")) (.int 600) h = .ok (.str zeros, h) := by
  simp only [opD, mulD]
  rw [if_pos (by decide)]
  rfl
theorem rep_list (a : Array Nat) : ∀ (n : Nat) (acc : Array Nat), ((List.replicate n a).foldl (· ++ ·) acc).toList = acc.toList ++ (List.replicate n a.toList).flatten
  | 0, acc => by simp
  | n + 1, acc => by
    rw [List.replicate_succ, List.foldl_cons, rep_list a n, List.replicate_succ, List.flatten_cons, Array.toList_append, List.append_assoc]
theorem zeros_cps : zeros.cps.toList = List.replicate 600 48 := by
  unfold zeros PySem.Txt.mul
  rw [if_neg (by decide), if_neg (by decide)]
  refine (rep_list (Str.ofString "0").cps 600 #[]).trans ?_
  have : (Str.ofString "0").cps.toList = [48] := by decide +kernel
  rw [this, List.flatten_replicate_singleton]
  exact List.nil_append _
theorem zeros_list : (Str.ofString "1" ++ zeros).cps.toList = 49 :: List.replicate 600 48 := by
  show ((Str.ofString "1").cps ++ zeros.cps).toList = _
  rw [Array.toList_append, zeros_cps]
  have : (Str.ofString "1").cps.toList = [49] := by decide +kernel
  rw [this]
  rfl
theorem zeros_add {m : Bool} {h : Hh} : opD .add m (.str (Str.ofString "1")) (.str zeros) h = .ok (.str (Str.ofString "1" ++ zeros), h) := by
  simp only [opD, addD]
  rw [if_pos]
  have : zeros.length = 600 := by
    show zeros.cps.size = 600
    rw [← Array.length_toList, zeros_cps, List.length_replicate]
  rw [this]
  decide
theorem digits_zeros : ∀ (n m : Nat), (List.replicate n 48).foldl (fun acc c => acc * 10 + (c - 48)) m = m * 10 ^ n
  | 0, m => by simp
  | n + 1, m => by
    rw [List.replicate_succ, List.foldl_cons, digits_zeros n]
    rw [Nat.pow_succ, Nat.sub_self, Nat.add_zero, Nat.mul_assoc, Nat.mul_comm 10]
theorem zeros_len : (Str.ofString "1" ++ zeros).length = 601 := by
  show (Str.ofString "1" ++ zeros).cps.size = 601
  rw [← Array.length_toList, zeros_list, List.length_cons, List.length_replicate]
theorem zeros_text : PySem.intText? (Str.ofString "1" ++ zeros) = some big := by
  rw [PySem.intText_digits]
  · rw [zeros_list, big_eq]
    unfold PySem.NumText.digitsVal
    rw [List.foldl_cons, digits_zeros]
  · rw [zeros_list]
    intro c hc
    rcases List.mem_cons.mp hc with rfl | hc
    · decide
    · have := (List.mem_replicate.mp hc).2
      omega
  · rw [zeros_list]
    exact List.cons_ne_nil _ _
  · rw [zeros_len]
    decide
theorem int_text {x : Str} {n : Int} {m : Bool} {h : Hh} (h1 : x.length ≤ 640) (h2 : PySem.intText? x = some n) : biD .int m [.str x] h = .ok (.int n, h) := by
  simp only [biD, one, h2]
  rw [if_pos h1]
theorem zeros_int {m : Bool} {h : Hh} : biD .int m [.str (Str.ofString "1" ++ zeros)] h = .ok (.int big, h) := int_text (by rw [zeros_len]; decide) zeros_text
end Fx
set_option Elab.async false
set_option linter.all false
set_option exponentiation.threshold 10000
namespace Fx
open PySem PySem.Spec PyProof.Rows L2
/-! ## states, steps, nets -/
def vec (n : Nat) (v : Nat → Rat) : List D := (List.range n).map fun i => fr (v i)
@[simp] theorem vec_length {n : Nat} {v : Nat → Rat} : (vec n v).length = n := by simp [vec]
theorem vec_get {n i : Nat} {v : Nat → Rat} (h : i < n) : (vec n v)[i]? = some (fr (v i)) := by
  unfold vec
  rw [List.getElem?_map, List.getElem?_range h]
  rfl
def put (v : Nat → Rat) (i : Nat) (q : Rat) : Nat → Rat := fun j => if j = i then q else v j
theorem vec_set {n i : Nat} {v : Nat → Rat} {q : Rat} : (vec n v).set i (fr q) = vec n (put v i q) := by
  apply List.ext_getElem?
  intro j
  by_cases hj : j < n
  · rw [vec_get hj, List.getElem?_set]
    by_cases hi : i = j
    · subst hi
      simp [hj, put]
    · rw [if_neg hi, vec_get hj]
      have z : ¬ j = i := fun z => hi z.symm
      simp [put, z]
  · rw [List.getElem?_eq_none (by simp; omega), List.getElem?_eq_none (by simp; omega)]
theorem plnL_map {α : Type} (f : α → D) (hf : ∀ x, pln (f x) = true) : ∀ xs : List α, plnL (xs.map f) = true
  | [] => rfl
  | x :: xs => by simp only [List.map_cons, plnL, hf x, plnL_map f hf xs, Bool.and_self]
theorem pln_vec {n : Nat} {v : Nat → Rat} : plnL (vec n v) = true := plnL_map _ (fun _ => pln_fr) _
theorem depL_map {α : Type} (f : α → D) (b : Nat) (hf : ∀ x, dep (f x) ≤ b) : ∀ xs : List α, depL (xs.map f) ≤ b
  | [] => Nat.zero_le _
  | x :: xs => by
    simp only [List.map_cons, depL]
    exact Nat.max_le.mpr ⟨hf x, depL_map f b hf xs⟩
theorem dep_vec {n : Nat} {v : Nat → Rat} : depL (vec n v) ≤ 1 := depL_map _ 1 (fun _ => Nat.le_of_eq dep_fr) _
def SQ (xs : List D) (d : D) : Prop := d = .lst xs ∨ d = .tup xs
theorem SQ.ix {xs : List D} {d a : D} {n : Nat} (s : SQ xs d) (e : xs[n]? = some a) (h : Hh) : ixD d (.int n) h = .ok a := by
  rcases s with rfl | rfl
  · exact ix_lst e
  · exact ix_tup e
theorem SQ.list {xs : List D} {d : D} {m : Bool} {h : Hh} (s : SQ xs d) : biD .list m [d] h = mkL m xs h := by
  rcases s with rfl | rfl <;> rfl
theorem SQ.tuple {xs : List D} {d : D} {m : Bool} {h : Hh} (s : SQ xs d) : biD .tuple m [d] h = .ok (.tup xs, h) := by
  rcases s with rfl | rfl <;> rfl
def stp (R : Nat) (s : Nat × Rat) (v : Nat → Rat) : Nat → Rat :=
  if s.1 % 2 = 0 then put v (s.1 / 2) (v (s.1 / 2) + -(s.2 * v (R + s.1 / 2)))
  else put (put v (R + s.1 / 2) (v (R + s.1 / 2) + -(s.2 * (v (s.1 / 2) + -(v (s.1 / 2 + 1)))))) (R + s.1 / 2 + 1) (v (R + s.1 / 2 + 1) + s.2 * (v (s.1 / 2) + -(v (s.1 / 2 + 1))))
def led (R : Nat) (ss : List (Nat × Rat)) (v : Nat → Rat) : Nat → Rat := ss.foldl (fun v s => stp R s v) v
def stD (s : Nat × Rat) : D := .tup [.int s.1, fr s.2]
def netD (R : Nat) (ss : List (Nat × Rat)) : D := .tup [.int R, .tup (ss.map stD)]
structure StOk (R : Nat) (s : Nat × Rat) (bb : Nat := 7) : Prop where
  kind : s.1 + 2 ≤ 2 * R
  pos : 0 < s.2.num
  bd : Bd bb s.2
structure NetOk (R : Nat) (ss : List (Nat × Rat)) (bb : Nat := 7) : Prop where
  lo : 2 ≤ R
  hi : R ≤ 4
  len : ss.length ≤ 14
  st : ∀ s ∈ ss, StOk R s bb
/-! ### sizes of states -/
def SzN (j n : Nat) (v : Nat → Rat) : Prop := ∃ N, 0 < N ∧ N < 2 ^ n ∧ ∀ i, i < j → Sz n N (v i)
theorem SzN.bd {j n i : Nat} {v : Nat → Rat} (h : SzN j n v) (hi : i < j) : Bd n (v i) := by
  obtain ⟨N, a, b, c⟩ := h
  exact (c i hi).bd a b
theorem SzN.mono {j n m : Nat} {v : Nat → Rat} (h : SzN j n v) (l : n ≤ m) : SzN j m v := by
  obtain ⟨N, a, b, c⟩ := h
  exact ⟨N, a, Nat.lt_of_lt_of_le b (Nat.pow_le_pow_right (by decide) l), fun i hi => (c i hi).mono l⟩
theorem SzN.of_bd {b : Nat} (hb : 0 < b) {v : Nat → Rat} : ∀ j, (∀ i, i < j → Bd b (v i)) → SzN j (b * j + b) v
  | 0, _ => ⟨1, by decide, by
      have : 2 ^ 1 ≤ 2 ^ (b * 0 + b) := Nat.pow_le_pow_right (by decide) (by omega)
      omega, fun i hi => by omega⟩
  | j + 1, h => by
    obtain ⟨N, p, q, c⟩ := SzN.of_bd hb j fun i hi => h i (by omega)
    have hj := h j (by omega)
    have e : b * (j + 1) + b = b + (b * j + b) := by rw [Nat.mul_succ]; omega
    rw [e]
    refine ⟨(v j).den * N, Nat.mul_pos (v j).den_pos p, mul_bits hj.2 q, fun i hi => ?_⟩
    by_cases z : i = j
    · subst z
      have h1 : Sz (b * i + b) N 1 := ⟨N, by rw [Rat.one_mul, Rat.intCast_natCast], by rw [Int.natAbs_natCast]; exact q⟩
      have := h1.mul hj
      rwa [Rat.mul_one] at this
    · exact (c i (by omega)).up hj.2
theorem SzN.step {R n bb : Nat} {s : Nat × Rat} {v : Nat → Rat} (hs : StOk R s bb) (h : SzN (2 * R) n v) : SzN (2 * R) (n + (bb + 2)) (stp R s v) := by
  obtain ⟨N, a, b, c⟩ := h
  have hk := hs.kind
  have B := mul_bits hs.bd.2 b
  refine ⟨s.2.den * N, Nat.mul_pos s.2.den_pos a, Nat.lt_of_lt_of_le B (Nat.pow_le_pow_right (by decide) (by omega)), fun i hi => ?_⟩
  unfold stp
  have up : ∀ i, i < 2 * R → Sz (bb + n) (s.2.den * N) (v i) := fun i hi => (c i hi).up hs.bd.2
  by_cases ev : s.1 % 2 = 0
  · rw [if_pos ev]
    unfold put
    split
    · have h1 := up (s.1 / 2) (by omega)
      have h2 := ((c (R + s.1 / 2) (by omega)).mul hs.bd).neg
      exact (h1.add h2).mono (by omega)
    · exact (up i hi).mono (by omega)
  · rw [if_neg ev]
    have p : Sz (bb + (n + 1)) (s.2.den * N) (s.2 * (v (s.1 / 2) + -(v (s.1 / 2 + 1)))) := ((c (s.1 / 2) (by omega)).add (c (s.1 / 2 + 1) (by omega)).neg).mul hs.bd
    unfold put
    split
    · exact (((up (R + s.1 / 2 + 1) (by omega)).mono (by omega)).add p).mono (by omega)
    · split
      · exact (((up (R + s.1 / 2) (by omega)).mono (by omega)).add p.neg).mono (by omega)
      · exact (up i hi).mono (by omega)
theorem SzN.led {R bb : Nat} : ∀ (ss : List (Nat × Rat)) {n : Nat} {v : Nat → Rat}, (∀ s ∈ ss, StOk R s bb) → SzN (2 * R) n v → SzN (2 * R) (n + (bb + 2) * ss.length) (led R ss v)
  | [], n, v, _, h => by simpa [Fx.led] using h
  | s :: ss, n, v, hs, h => by
    have h1 := SzN.step (hs s List.mem_cons_self) h
    have h2 := SzN.led ss (fun x hx => hs x (List.mem_cons_of_mem _ hx)) h1
    have e : n + (bb + 2) * (s :: ss).length = n + (bb + 2) + (bb + 2) * ss.length := by rw [List.length_cons, Nat.mul_succ]; omega
    rw [e]
    exact h2
/-! ### walks by a list of anything -/
theorem comp_mapL {α : Type} {h : Hh} {all : List D} {g : Tg} {r0 : Ev} {elt : Ev → Hh → Res (D × Hh)} {cond : Ev → Hh → Res (Bool × Hh)} (f F : α → D) (R : α → Ev) :
    ∀ (xs : List α), (∀ x ∈ xs, tgD g (f x) r0 = some (R x) ∧ cond (R x) h = .ok (true, h) ∧ elt (R x) h = .ok (F x, h)) → compD none all g r0 cond elt (xs.map f) h = .ok (xs.map F, h)
  | [], _ => by simp [compD, stl]
  | x :: xs, H => by
    obtain ⟨a, b, c⟩ := H x List.mem_cons_self
    have ih := comp_mapL f F R xs (fun y hy => H y (List.mem_cons_of_mem _ hy)) (all := all)
    simp only [List.map_cons, compD, stl, if_true, a, b, c, nox_ok, bind_ok, ih]
theorem rng_nat {n : Nat} (hn : n < 16777215) : rngD [.int (n : Int)] = some ((List.range n).map fun i => .int (i : Nat)) := by
  have e : rgOk 0 (n : Int) = true := by unfold rgOk; rw [decide_eq_true_eq]; omega
  show (if rgOk 0 (n : Int) = true then some (rgD 0 n) else none) = _
  rw [if_pos e]
  unfold rgD
  simp
theorem rng_2 {R : Nat} (hn : R ≤ 4) : rngD [.int (2 * (R : Int))] = some ((List.range (2 * R)).map fun i => .int (i : Nat)) := by
  have := rng_nat (n := 2 * R) (by omega)
  rw [Int.natCast_mul] at this
  exact this
theorem range_aux {C : Cal} {as : Exs} {r : Ev} {h : Hh} {n' : Nat} {ds L : List D} (e : evEs C as r h = .ok (ds, h)) (hl : ds.length = n') (e3 : rngD ds = some L) : evI C (.range n' as) r h = .ok ((L, none), h) := by
  rw [I_1, e, bind_ok]
  simp only [hl, if_true, e3]
theorem comp_aux {C : Cal} {m : Bool} {own : List Nat} {g : Tg} {it : Itr} {cond : Exo} {elt : Ex} {r : Ev} {h : Hh} {L ys : List D} (e1 : evI C it r h = .ok ((L, none), h)) (l : L.length ≤ sizeLine) (e2 : compD none L g (wip r own) (evC C cond) (evE C elt) L h = .ok (ys, h)) :
    evE C (.comp m own g it cond elt) r h = mkL m ys h := by
  rw [E_25, e1, bind_ok]
  simp only [if_pos l, e2, nox_ok, bind_ok]
theorem comp_range {C : Cal} {m : Bool} {own : List Nat} {g : Tg} {a elt : Ex} {r : Ev} {h : Hh} {n : Nat} {z : Int} (F : Nat → D) (R : Nat → Ev) (e1 : evE C a r h = .ok (.int z, h)) (hz : z = (n : Nat)) (hn : n ≤ 1000000) (H : ∀ i, i < n → tgD g (.int (i : Nat)) (wip r own) = some (R i) ∧ evE C elt (R i) h = .ok (F i, h)) :
    evE C (.comp m own g (.range 1 (.cons a .nil)) .none elt) r h = mkL m ((List.range n).map F) h := by
  subst hz
  have e2 : compD none ((List.range n).map fun i => D.int (i : Nat)) g (wip r own) (evC C .none) (evE C elt) ((List.range n).map fun i => D.int (i : Nat)) h = .ok ((List.range n).map F, h) :=
    comp_mapL _ F R _ fun i hi => ⟨(H i (List.mem_range.mp hi)).1, by simp only [evC], (H i (List.mem_range.mp hi)).2⟩
  have l : ((List.range n).map fun i => D.int (i : Nat)).length ≤ sizeLine := by
    rw [List.length_map, List.length_range]
    exact Nat.le_trans hn (by decide)
  have e3 := rng_nat (n := n) (by omega)
  have eE : evEs C (.cons a .nil) r h = .ok ([.int (n : Nat)], h) := by simp only [Es_1, Es_0, e1, bind_ok]
  exact comp_aux (range_aux eE rfl e3) l e2
theorem comp_seq {α : Type} {C : Cal} {m : Bool} {own : List Nat} {g : Tg} {a elt : Ex} {r : Ev} {h : Hh} {d : D} {xs : List α} (f F : α → D) (R : α → Ev) (e1 : evE C a r h = .ok (d, h)) (ew : walkD d h = .ok (xs.map f, none)) (hn : xs.length ≤ 1000000) (H : ∀ x ∈ xs, tgD g (f x) (wip r own) = some (R x) ∧ evE C elt (R x) h = .ok (F x, h)) :
    evE C (.comp m own g (.seq a) .none elt) r h = mkL m (xs.map F) h := by
  have e2 : compD none (xs.map f) g (wip r own) (evC C .none) (evE C elt) (xs.map f) h = .ok (xs.map F, h) :=
    comp_mapL _ F R _ fun i hi => ⟨(H i hi).1, by simp only [evC], (H i hi).2⟩
  have l : (xs.map f).length ≤ sizeLine := by
    rw [List.length_map]
    exact Nat.le_trans hn (by decide)
  exact comp_aux (by simp only [I_0, e1, bind_ok, ew, nox_ok]) l e2
def one_at (p : Nat) : Nat → Rat := fun i => if i = p then 1 else 0
theorem fr_one {p i : Nat} : fr (one_at p i) = .tup [.int (if i = p then 1 else 0), .int 1] := by
  unfold one_at
  split <;> rfl
theorem bd_one {p i : Nat} : Bd 1 (one_at p i) := by
  unfold one_at
  split <;> exact ⟨by decide, by decide⟩
theorem sz_one {p j : Nat} : SzN j (j + 1) (one_at p) := by
  have := SzN.of_bd (b := 1) (v := one_at p) (by decide) j fun i _ => bd_one
  rwa [Nat.one_mul] at this
def mat (R : Nat) (ss : List (Nat × Rat)) (i j : Nat) : Rat := led R ss (one_at j) i
def matD (R : Nat) (ss : List (Nat × Rat)) : D := .tup ((List.range (2 * R)).map fun i => .tup (vec (2 * R) fun j => mat R ss i j))
theorem pln_mat {R : Nat} {ss : List (Nat × Rat)} : pln (matD R ss) = true := by
  unfold matD
  rw [pln]
  exact plnL_map _ (fun x => by rw [pln]; exact pln_vec) _
theorem dep_mat {R : Nat} {ss : List (Nat × Rat)} : dep (matD R ss) ≤ 60 := by
  unfold matD
  rw [dep]
  have := depL_map (fun i => D.tup (vec (2 * R) fun j => mat R ss i j)) 2 (fun x => by rw [dep]; have := dep_vec (n := 2 * R) (v := fun j => mat R ss x j); omega) (List.range (2 * R))
  omega
@[simp] theorem net_0 {R : Nat} {ss : List (Nat × Rat)} {h : Hh} : ixD (netD R ss) (.int 0) h = .ok (.int R) := ix_t0
@[simp] theorem net_1 {R : Nat} {ss : List (Nat × Rat)} {h : Hh} : ixD (netD R ss) (.int 1) h = .ok (.tup (ss.map stD)) := ix_t1
theorem tuple_vec {n : Nat} {v : Nat → Rat} {d : D} {m : Bool} {h : Hh} (s : SQ (vec n v) d) : biD .tuple m [d] h = .ok (.tup (vec n v), h) := s.tuple
end Fx
set_option Elab.async false
set_option linter.all false
set_option exponentiation.threshold 10000
namespace Fx
open PySem PySem.Spec PyProof.Rows L2
/-! ## the law's town: counted draws -/
structure Tn (ns : List Int) (c : Nat) (ts : List Int) : Prop where
  len : ts.length = ns.length + 1
  at0 : ∃ t : Nat, ts[0]? = some (t : Int) ∧ t ≤ c
theorem Tn.up {ns ts : List Int} {c c' : Nat} (h : Tn ns c ts) (l : c ≤ c') : Tn ns c' ts := ⟨h.len, let ⟨t, a, b⟩ := h.at0; ⟨t, a, Nat.le_trans b l⟩⟩
theorem eq_empty {ns : List Int} {h : Hh} : eqD h (.scr (I ns)) (.lst []) = .ok (decide (ns = [])) := by
  have : dep (.scr (I ns)) ≤ 60 := by
    rw [dep]
    have := depL_map D.int 0 (fun x => Nat.le_of_eq rfl) ns
    show depL (List.map D.int ns) + 1 ≤ 60
    omega
  rw [eqD_pln (by rw [pln]; exact pln_I ns) (by simp [pln, plnL]) this (by simp [dep, depL])]
  congr 1
  cases ns with
  | nil => rfl
  | cons x r => rfl
theorem ix_town {ts : List Int} {j : Nat} {t : Int} {rest : Hh} (e : ts[j]? = some t) : ixD (.ref 0) (.int (j : Nat)) (.lst (I ts) :: rest) = .ok (.int t) := ix_ref (xs := I ts) rfl (I_get e)
theorem set_town {ts : List Int} {j : Nat} {t : Int} {rest : Hh} (hj : j < ts.length) : setixD (.ref 0) (.int (j : Nat)) (.int t) (.lst (I ts) :: rest) = .ok (.lst (I (ts.set j t)) :: rest) := by
  rw [setix_ref (xs := I ts) rfl (by simpa using hj), I_set]
  rfl
theorem ten18 {m : Bool} {h : Hh} : opD .pow m (.int 10) (.int 18) h = .ok (.int 1000000000000000000, h) := op_pow_int ⟨by decide, by decide, by decide⟩
/-- what a law's draw promises -/
def Dr (C : Cal) (i : Nat) (ns : List Int) : Prop := ∀ (ts : List Int) (c : Nat) (L : Int) (rest : Hh), Tn ns c ts → c < 30000 → 0 < L → L < 4294967296 →
  ∃ (v : Nat) (ts' : List Int), (v : Int) < L ∧ Tn ns (c + 1) ts' ∧ C i [.scr (I ns), .ref 0, .int L] (.lst (I ts) :: rest) = .ok (.int v, .lst (I ts') :: rest)
theorem tg_fr {i j : Nat} {q : Rat} {r : Ev} : tgD (.tup (.cons (.name i) (.cons (.name j) .nil))) (fr q) r = some ((r.set i (some (.int q.num))).set j (some (.int q.den))) := rfl
theorem mk_pos {t : Int} {b : Nat} (ht : 0 < t) (hb : 0 < b) : 0 < (mkRat t b).num := by
  rw [Rat.num_mkRat, if_neg (by omega)]
  have g1 : 0 < Nat.gcd b t.natAbs := Nat.gcd_pos_of_pos_left _ hb
  have g2 : Nat.gcd b t.natAbs ≤ t.natAbs := Nat.gcd_le_right _ (by omega)
  have : (1 : Int) ≤ t / (Nat.gcd b t.natAbs : Nat) := (Int.le_ediv_iff_mul_le (by omega)).mpr (by omega)
  omega
theorem mk_7 {a b : Nat} (ha : a < 99) (hb : b < 99) : Bd 7 (mkRat (1 + (a : Int)) (1 + b)) := mk_bits (by omega) (by omega) (by omega)
end Fx
set_option Elab.async false
set_option linter.all false
set_option exponentiation.threshold 10000
namespace Fx
open PySem PySem.Spec PyProof.Rows L2
/-! ## a live list behind the town -/
def Ht (ts : List Int) (rest : Hh) (xs : List D) : Hh := .lst (I ts) :: (rest ++ [.lst xs])
theorem Ht_get {ts : List Int} {rest : Hh} {xs : List D} : (Ht ts rest xs)[rest.length + 1]? = some (.lst xs) := by simp [Ht]
theorem Ht_set {ts : List Int} {rest : Hh} {xs ys : List D} : (Ht ts rest xs).set (rest.length + 1) (.lst ys) = Ht ts rest ys := by simp [Ht]
theorem Ht_lst {ts : List Int} {rest : Hh} {xs : List D} : lstOf (Ht ts rest xs) (.ref (rest.length + 1)) = some xs := by simp only [lstOf, Ht_get]
theorem Ht_tuple {ts : List Int} {rest : Hh} {xs : List D} {m : Bool} : biD .tuple m [.ref (rest.length + 1)] (Ht ts rest xs) = .ok (.tup xs, Ht ts rest xs) := by simp only [biD, one, Ht_lst]
theorem Ht_append {ts : List Int} {rest : Hh} {xs : List D} {d : D} (hl : xs.length < 1000000) : mtD .append (.ref (rest.length + 1)) [d] (Ht ts rest xs) = .ok (.non, Ht ts rest (xs ++ [d])) := by
  simp only [mtD, one, onL, Ht_get, Ht_set]
  rw [if_pos (Nat.lt_of_lt_of_le hl (by decide))]
theorem Ht_ne {ts : List Int} {rest : Hh} {xs : List D} (hp : plnL xs = true) (hd : depL xs ≤ 59) : cmpD .ne (Ht ts rest xs) (.ref (rest.length + 1)) (.lst []) = .ok (!decide (xs = [])) := by
  unfold cmpD eqD
  have e1 : drf (Ht ts rest xs) (.ref (rest.length + 1)) = .lst xs := by simp only [drf, Ht_get]
  have e2 : drf (Ht ts rest xs) (.lst []) = .lst [] := rfl
  rw [e1, e2, if_pos ⟨by rw [pln]; exact hp, rfl, by rw [dep]; omega, by decide⟩]
  cases xs with
  | nil => rfl
  | cons x r => rfl
theorem pln_st {s : Nat × Rat} : pln (stD s) = true := rfl
theorem dep_st {s : Nat × Rat} : dep (stD s) = 2 := rfl
theorem Ht_last {ts : List Int} {rest : Hh} {xs : List D} {d : D} : ixD (.ref (rest.length + 1)) (.int (-1)) (Ht ts rest (xs ++ [d])) = .ok d := by
  simp only [ixD, seqOf, Ht_lst, atI_last]
theorem Ht_town {ts ts' : List Int} {C : Cal} {i : Nat} {as : List D} {x : D} {rest : Hh} {xs : List D} (e : C i as (.lst (I ts) :: (rest ++ [.lst xs])) = .ok (x, .lst (I ts') :: (rest ++ [.lst xs]))) : C i as (Ht ts rest xs) = .ok (x, Ht ts' rest xs) := e
theorem pln_net {R : Nat} {ss : List (Nat × Rat)} : pln (netD R ss) = true := by
  have := plnL_map stD (fun _ => pln_st) ss
  simp [netD, pln, plnL, this]
theorem min2 {m : Bool} {h : Hh} {i j : Int} : biD .min m [.int i, .int j] h = .ok (.int (if j < i then j else i), h) := rfl
theorem max2 {m : Bool} {h : Hh} {i j : Int} : biD .max m [.int i, .int j] h = .ok (.int (if j > i then j else i), h) := rfl
@[simp] theorem st_0 {s : Nat × Rat} {h : Hh} : ixD (stD s) (.int 0) h = .ok (.int s.1) := ix_t0
end Fx
set_option Elab.async false
set_option linter.all false
set_option exponentiation.threshold 10000
namespace Fx
open PySem PySem.Spec PyProof.Rows L2
/-! ## sums, and what is linear -/
def sumTo : Nat → (Nat → Rat) → Rat
  | 0, _ => 0
  | n + 1, f => sumTo n f + f n
theorem sumTo_congr {n : Nat} {f g : Nat → Rat} (h : ∀ i, i < n → f i = g i) : sumTo n f = sumTo n g := by
  induction n with
  | zero => rfl
  | succ n ih => simp only [sumTo, ih (fun i hi => h i (by omega)), h n (by omega)]
theorem lin_even (s : Rat) (f g c : Nat → Rat) : ∀ m, sumTo m (fun j => f j * c j) + -(s * sumTo m (fun j => g j * c j)) = sumTo m (fun j => (f j + -(s * g j)) * c j)
  | 0 => by simp only [sumTo]; grind
  | m + 1 => by
    have ih := lin_even s f g c m
    simp only [sumTo]
    grind
theorem lin_odd (s t : Rat) (f g k c : Nat → Rat) : ∀ m, sumTo m (fun j => f j * c j) + t * (s * (sumTo m (fun j => g j * c j) + -(sumTo m fun j => k j * c j))) = sumTo m (fun j => (f j + t * (s * (g j + -(k j)))) * c j)
  | 0 => by simp only [sumTo]; grind
  | m + 1 => by
    have ih := lin_odd s t f g k c m
    simp only [sumTo]
    grind
theorem lin_stp {R m : Nat} {s : Nat × Rat} (hk : s.1 + 2 ≤ 2 * R) {v : Nat → Rat} {w : Nat → Nat → Rat} {c : Nat → Rat} (h : ∀ i, i < 2 * R → v i = sumTo m fun j => w j i * c j) :
    ∀ i, i < 2 * R → stp R s v i = sumTo m fun j => stp R s (w j) i * c j := by
  intro i hi
  unfold stp put
  by_cases ev : s.1 % 2 = 0
  · simp only [if_pos ev]
    by_cases z : i = s.1 / 2
    · simp only [if_pos z]
      rw [h _ (by omega), h _ (by omega), lin_even]
    · simp only [if_neg z]
      exact h i hi
  · simp only [if_neg ev]
    have o := fun t => lin_odd s.2 t
    by_cases z : i = R + s.1 / 2 + 1
    · simp only [if_pos z]
      rw [h _ (by omega), h (s.1 / 2) (by omega), h (s.1 / 2 + 1) (by omega)]
      have := lin_odd s.2 1 (fun j => w j (R + s.1 / 2 + 1)) (fun j => w j (s.1 / 2)) (fun j => w j (s.1 / 2 + 1)) c m
      simp only [Rat.one_mul] at this
      exact this
    · simp only [if_neg z]
      by_cases z2 : i = R + s.1 / 2
      · simp only [if_pos z2]
        rw [h _ (by omega), h (s.1 / 2) (by omega), h (s.1 / 2 + 1) (by omega)]
        have := lin_odd s.2 (-1) (fun j => w j (R + s.1 / 2)) (fun j => w j (s.1 / 2)) (fun j => w j (s.1 / 2 + 1)) c m
        simp only [Rat.neg_mul, Rat.one_mul] at this
        exact this
      · simp only [if_neg z2]
        exact h i hi
theorem lin_led {R m : Nat} {c : Nat → Rat} : ∀ (ss : List (Nat × Rat)) (v : Nat → Rat) (w : Nat → Nat → Rat), (∀ s ∈ ss, s.1 + 2 ≤ 2 * R) → (∀ i, i < 2 * R → v i = sumTo m fun j => w j i * c j) →
    ∀ i, i < 2 * R → led R ss v i = sumTo m fun j => led R ss (w j) i * c j
  | [], v, w, _, h => h
  | s :: ss, v, w, hs, h => lin_led ss (stp R s v) (fun j => stp R s (w j)) (fun x hx => hs x (List.mem_cons_of_mem _ hx)) (lin_stp (hs s List.mem_cons_self) h)
theorem sum_one (v : Nat → Rat) (i : Nat) : ∀ m, sumTo m (fun j => one_at j i * v j) = if i < m then v i else 0
  | 0 => rfl
  | m + 1 => by
    have ih := sum_one v i m
    simp only [one_at] at ih
    simp only [sumTo, one_at, ih]
    by_cases h : i < m
    · rw [if_pos h, if_neg (by omega), if_pos (by omega)]
      grind
    · by_cases e : i = m
      · subst e
        rw [if_neg h, if_pos rfl, if_pos (by omega)]
        grind
      · rw [if_neg h, if_neg e, if_neg (by omega)]
        grind
theorem led_sum {R : Nat} {ss : List (Nat × Rat)} (hs : ∀ s ∈ ss, s.1 + 2 ≤ 2 * R) (v : Nat → Rat) {i : Nat} (hi : i < 2 * R) : led R ss v i = sumTo (2 * R) fun j => mat R ss i j * v j :=
  lin_led ss v (fun j => one_at j) hs (fun i hi => by rw [sum_one, if_pos hi]) i hi
theorem stp_scale (R : Nat) (s : Nat × Rat) (c : Rat) (v : Nat → Rat) : stp R s (fun i => c * v i) = fun i => c * stp R s v i := by
  funext i
  unfold stp put
  by_cases ev : s.1 % 2 = 0
  · simp only [if_pos ev]
    split <;> grind
  · simp only [if_neg ev]
    split
    · grind
    · split <;> grind
theorem led_scale (R : Nat) (c : Rat) : ∀ (ss : List (Nat × Rat)) (v : Nat → Rat), led R ss (fun i => c * v i) = fun i => c * led R ss v i
  | [], v => rfl
  | s :: ss, v => by
    show led R ss (stp R s fun i => c * v i) = fun i => c * led R ss (stp R s v) i
    rw [stp_scale, led_scale R c ss]
/-! ## blocks over live lists -/
mutual
theorem sam_refl : ∀ x : D, sam x x = true
  | .non => by simp [sam]
  | .bl _ => by simp [sam]
  | .int _ => by simp [sam]
  | .str _ => by simp [sam]
  | .ref _ => by simp [sam]
  | .fn _ => by simp [sam]
  | .exc _ => by simp [sam]
  | .pr x y => by simp only [sam, sam_refl x, sam_refl y, Bool.and_self]
  | .tup xs => by simp only [sam]; exact samL_refl xs
  | .lst xs => by simp only [sam]; exact samL_refl xs
  | .scr xs => by simp only [sam]; exact samL_refl xs
theorem samL_refl : ∀ xs : List D, samL xs xs = true
  | [] => by simp [samL]
  | x :: xs => by simp only [samL, sam_refl x, samL_refl xs, Bool.and_self]
end
theorem comp_mapS {α : Type} {h : Hh} {src : Option Nat} {all : List D} {g : Tg} {r0 : Ev} {elt : Ev → Hh → Res (D × Hh)} {cond : Ev → Hh → Res (Bool × Hh)} (f F : α → D) (R : α → Ev) (hst : stl src all h = true) :
    ∀ (xs : List α), (∀ x ∈ xs, tgD g (f x) r0 = some (R x) ∧ cond (R x) h = .ok (true, h) ∧ elt (R x) h = .ok (F x, h)) → compD src all g r0 cond elt (xs.map f) h = .ok (xs.map F, h)
  | [], _ => by simp [compD, hst]
  | x :: xs, H => by
    obtain ⟨a, b, c⟩ := H x List.mem_cons_self
    have ih := comp_mapS f F R hst xs (fun y hy => H y (List.mem_cons_of_mem _ hy)) (all := all)
    simp only [List.map_cons, compD, hst, if_true, a, b, c, nox_ok, bind_ok, ih]
theorem comp_auxS {C : Cal} {m : Bool} {own : List Nat} {g : Tg} {it : Itr} {cond : Exo} {elt : Ex} {r : Ev} {h : Hh} {src : Option Nat} {L ys : List D} (e1 : evI C it r h = .ok ((L, src), h)) (l : L.length ≤ sizeLine) (e2 : compD src L g (wip r own) (evC C cond) (evE C elt) L h = .ok (ys, h)) :
    evE C (.comp m own g it cond elt) r h = mkL m ys h := by
  rw [E_25, e1, bind_ok]
  simp only [if_pos l, e2, nox_ok, bind_ok]
/-- over a list that stands in the heap -/
theorem comp_live {α : Type} {C : Cal} {m : Bool} {own : List Nat} {g : Tg} {a elt : Ex} {r : Ev} {h : Hh} {n : Nat} {xs : List α} (f F : α → D) (R : α → Ev) (e1 : evE C a r h = .ok (.ref n, h)) (eh : h[n]? = some (.lst (xs.map f))) (hn : xs.length ≤ 1000000) (H : ∀ x ∈ xs, tgD g (f x) (wip r own) = some (R x) ∧ evE C elt (R x) h = .ok (F x, h)) :
    evE C (.comp m own g (.seq a) .none elt) r h = mkL m (xs.map F) h := by
  have ew : walkD (.ref n) h = .ok (xs.map f, some n) := by simp only [walkD, eh]
  have hst : stl (some n) (xs.map f) h = true := by simp only [stl, eh, samL_refl]
  have e2 : compD (some n) (xs.map f) g (wip r own) (evC C .none) (evE C elt) (xs.map f) h = .ok (xs.map F, h) :=
    comp_mapS _ F R hst _ fun i hi => ⟨(H i hi).1, by simp only [evC], (H i hi).2⟩
  have l : (xs.map f).length ≤ sizeLine := by
    rw [List.length_map]
    exact Nat.le_trans hn (by decide)
  exact comp_auxS (by simp only [I_0, e1, bind_ok, ew, nox_ok]) l e2
/-- a list of fractions as a state -/
def ofL (qs : List Rat) : Nat → Rat := fun i => qs.getD i 0
theorem vec_ofL {qs : List Rat} {n : Nat} (h : qs.length = n) : vec n (ofL qs) = qs.map fr := by
  subst h
  apply List.ext_getElem?
  intro i
  by_cases hi : i < qs.length
  · rw [vec_get hi, List.getElem?_map, List.getElem?_eq_getElem hi]
    simp [ofL, hi]
  · rw [List.getElem?_eq_none (by simp; omega), List.getElem?_eq_none (by simp; omega)]
theorem bd_ofL {qs : List Rat} {b i : Nat} (h : ∀ q ∈ qs, Bd b q) (hi : i < qs.length) : Bd b (ofL qs i) := by
  have : ofL qs i = qs[i] := by simp [ofL, hi]
  rw [this]
  exact h _ (List.getElem_mem hi)
theorem ne_refl {a : D} {h : Hh} (pa : pln a = true) (da : dep a ≤ 60) : cmpD .ne h a a = .ok false := by
  unfold cmpD
  rw [eqD_refl pa da]
  rfl
theorem pln_tvec {n : Nat} {v : Nat → Rat} : pln (.tup (vec n v)) = true := by rw [pln]; exact pln_vec
theorem dep_tvec {n : Nat} {v : Nat → Rat} : dep (.tup (vec n v)) ≤ 60 := by
  rw [dep]
  have := dep_vec (n := n) (v := v)
  omega
theorem sum_bd {f : Nat → Rat} {b : Nat} : ∀ n, (∀ i, i < n → Bd b (f i)) → Bd (1 + (b + 1) * n) (sumTo n f)
  | 0, _ => ⟨by simp [sumTo], by simp [sumTo]⟩
  | n + 1, h => ((sum_bd n fun i hi => h i (by omega)).add (h n (by omega))).mono (by rw [Nat.mul_succ]; omega)
end Fx
set_option Elab.async false
set_option linter.all false
set_option exponentiation.threshold 10000
namespace Fx
open PySem PySem.Spec PyProof.Rows L2
theorem for_rangeP {all : List D} {g : Tg} {body : Ev → Hh → Res Out} (P : Nat → Ev → Hh → Prop) (n : Nat) (step : ∀ i r h, i < n → P i r h → ∃ r1 r2 h2, tgD g (.int (i : Nat)) r = some r1 ∧ body r1 h = .ok (.nx r2 h2) ∧ P (i + 1) r2 h2) (r : Ev) (h : Hh) (p : P 0 r h) :
    ∃ r' h', forD none all g body ((List.range n).map fun i => .int (i : Nat)) r h = .ok (.nx r' h') ∧ P n r' h' := by
  have key : ∀ m a r h, a + m = n → P a r h → ∃ r' h', forD none all g body ((List.range' a m).map fun i => .int (i : Nat)) r h = .ok (.nx r' h') ∧ P n r' h' := by
    intro m
    induction m with
    | zero => intro a r h e p; exact ⟨r, h, by simp [forD, stl], by rwa [show n = a by omega]⟩
    | succ m ih =>
      intro a r h e p
      obtain ⟨r1, r2, h2, t, b, q⟩ := step a r h (by omega) p
      obtain ⟨r', h', c, q'⟩ := ih (a + 1) r2 h2 (by omega) q
      refine ⟨r', h', ?_, q'⟩
      simp only [List.range'_succ, List.map_cons, forD, stl, if_true, t, b, bind_ok, c]
  rw [List.range_eq_range']
  exact key n 0 r h (by omega) p
theorem comp_no {α : Type} {h : Hh} {all : List D} {g : Tg} {r0 : Ev} {elt : Ev → Hh → Res (D × Hh)} {cond : Ev → Hh → Res (Bool × Hh)} (f : α → D) (R : α → Ev) :
    ∀ (xs : List α), (∀ x ∈ xs, tgD g (f x) r0 = some (R x) ∧ cond (R x) h = .ok (false, h)) → compD none all g r0 cond elt (xs.map f) h = .ok ([], h)
  | [], _ => by simp [compD, stl]
  | x :: xs, H => by
    obtain ⟨a, b⟩ := H x List.mem_cons_self
    have ih := comp_no f R xs (fun y hy => H y (List.mem_cons_of_mem _ hy)) (all := all) (elt := elt)
    simp only [List.map_cons, compD, stl, if_true, a, b, nox_ok, bind_ok, ih, Bool.false_eq_true, if_false]
theorem vec_scale {qs : List Rat} {n : Nat} {c : Rat} (h : qs.length = n) : vec n (fun i => c * ofL qs i) = qs.map fun q => fr (c * q) := by
  subst h
  apply List.ext_getElem?
  intro i
  by_cases hi : i < qs.length
  · rw [vec_get hi, List.getElem?_map, List.getElem?_eq_getElem hi]
    simp [ofL, hi]
  · rw [List.getElem?_eq_none (by simp; omega), List.getElem?_eq_none (by simp; omega)]
theorem Ht1_get {ts : List Int} {xs : List D} : (Ht ts [] xs)[1]? = some (.lst xs) := rfl
theorem Ht1_ix {ts : List Int} {n j : Nat} {v : Nat → Rat} (hj : j < n) : ixD (.ref 1) (.int (j : Nat)) (Ht ts [] (vec n v)) = .ok (fr (v j)) := ix_ref Ht1_get (vec_get hj)
theorem Ht1_tuple {ts : List Int} {xs : List D} {m : Bool} : biD .tuple m [.ref 1] (Ht ts [] xs) = .ok (.tup xs, Ht ts [] xs) := Ht_tuple (rest := [])
theorem Ht1_list {ts : List Int} {xs : List D} : biD .list true [.ref 1] (Ht ts [] xs) = .ok (.ref (Ht ts [] xs).length, Ht ts [] xs ++ [.lst xs]) := by
  simp only [biD, one, seqOf, lstOf, Ht1_get, mkL_t]
theorem Ht1_append {ts : List Int} {xs : List D} {d : D} (hl : xs.length < 1000000) : mtD .append (.ref 1) [d] (Ht ts [] xs) = .ok (.non, Ht ts [] (xs ++ [d])) := Ht_append (rest := []) hl
theorem Ht1_lst {ts : List Int} {xs : List D} : lstOf (Ht ts [] xs) (.ref 1) = some xs := Ht_lst (rest := [])
theorem fr_int {z : Int} : fr (z : Rat) = .tup [.int z, .int 1] := rfl
theorem fr_zero : D.tup [.int 0, .int 1] = fr 0 := rfl
theorem bd_int {z : Int} (h : z.natAbs < 2 ^ 7) : Bd 7 (z : Rat) := ⟨h, by show 1 < 2 ^ 7; decide⟩
theorem mk_7' {t : Int} {b : Nat} (ha : t.natAbs < 100) (hb : b < 99) : Bd 7 (mkRat t (1 + b)) := mk_bits (by omega) (by omega) (by omega)
theorem tg_two {i j : Nat} {a b : D} {r : Ev} : tgD (.tup (.cons (.name i) (.cons (.name j) .nil))) (.tup [a, b]) r = some ((r.set i (some a)).set j (some b)) := rfl
end Fx
set_option Elab.async false
set_option linter.all false
set_option exponentiation.threshold 10000
namespace Fx
open PySem PySem.Spec PyProof.Rows L2
theorem for_rangeG {all : List D} {g : Tg} {body : Ev → Hh → Res Out} (f : Nat → D) (P : Nat → Ev → Hh → Prop) (n : Nat) (step : ∀ i r h, i < n → P i r h → ∃ r1 r2 h2, tgD g (f i) r = some r1 ∧ body r1 h = .ok (.nx r2 h2) ∧ P (i + 1) r2 h2) (r : Ev) (h : Hh) (p : P 0 r h) :
    ∃ r' h', forD none all g body ((List.range n).map f) r h = .ok (.nx r' h') ∧ P n r' h' := by
  have key : ∀ m a r h, a + m = n → P a r h → ∃ r' h', forD none all g body ((List.range' a m).map f) r h = .ok (.nx r' h') ∧ P n r' h' := by
    intro m
    induction m with
    | zero => intro a r h e p; exact ⟨r, h, by simp [forD, stl], by rwa [show n = a by omega]⟩
    | succ m ih =>
      intro a r h e p
      obtain ⟨r1, r2, h2, t, b, q⟩ := step a r h (by omega) p
      obtain ⟨r', h', c, q'⟩ := ih (a + 1) r2 h2 (by omega) q
      refine ⟨r', h', ?_, q'⟩
      simp only [List.range'_succ, List.map_cons, forD, stl, if_true, t, b, bind_ok, c]
  rw [List.range_eq_range']
  exact key n 0 r h (by omega) p
/-! ## cuts and joins of states -/
theorem vec_ext {n : Nat} {xs : List D} {v : Nat → Rat} (hl : xs.length = n) (h : ∀ i, i < n → xs[i]? = some (fr (v i))) : xs = vec n v := by
  apply List.ext_getElem?
  intro i
  by_cases hi : i < n
  · rw [h i hi, vec_get hi]
  · rw [List.getElem?_eq_none (by omega), List.getElem?_eq_none (by simp; omega)]
theorem vec_congr {n : Nat} {v w : Nat → Rat} (h : ∀ i, i < n → v i = w i) : vec n v = vec n w := vec_ext (by simp) fun i hi => by rw [vec_get hi, h i hi]
theorem cut_hi {R : Nat} {v : Nat → Rat} : cutL (vec (2 * R) v) (some (R : Int)) none = vec R fun i => v (R + i) := by
  unfold cutL
  rw [HT.sIx_nat, HT.sIx_none, vec_length, Nat.min_eq_left (by omega)]
  refine vec_ext (by simp; omega) fun i hi => ?_
  rw [List.getElem?_take_of_lt (by omega), List.getElem?_drop, vec_get (by omega)]
theorem cut_lo {R : Nat} {v : Nat → Rat} : cutL (vec (2 * R) v) none (some (R : Int)) = vec R v := by
  unfold cutL
  rw [HT.sIx_nat, HT.sIx_none, vec_length, Nat.min_eq_left (by omega)]
  refine vec_ext (by simp; omega) fun i hi => ?_
  rw [List.getElem?_take_of_lt (by omega), List.getElem?_drop, Nat.zero_add, vec_get (by omega)]
theorem sl_hi {R : Nat} {v : Nat → Rat} {h : Hh} : slD (.tup (vec (2 * R) v)) (some (R : Int)) none h = .ok (.tup (vec R fun i => v (R + i))) := by simp only [slD, cut_hi]
theorem sl_lo {R : Nat} {v : Nat → Rat} {h : Hh} : slD (.tup (vec (2 * R) v)) none (some (R : Int)) h = .ok (.tup (vec R v)) := by simp only [slD, cut_lo]
/-- voltages and currents put together -/
def vc (R : Nat) (a b : Nat → Rat) : Nat → Rat := fun i => if i < R then a i else b (i - R)
theorem vec_vc {R : Nat} {a b : Nat → Rat} : vec R a ++ vec R b = vec (2 * R) (vc R a b) := by
  refine vec_ext (by simp; omega) fun i hi => ?_
  by_cases h : i < R
  · rw [List.getElem?_append_left (by simpa using h), vec_get h]
    simp [vc, h]
  · rw [List.getElem?_append_right (by simp; omega), vec_length, vec_get (by omega)]
    simp [vc, h]
theorem add_vc {R : Nat} {a b : Nat → Rat} {m : Bool} {h : Hh} (hR : R ≤ 4) : opD .add m (.tup (vec R a)) (.tup (vec R b)) h = .ok (.tup (vec (2 * R) (vc R a b)), h) := by
  simp only [opD, addD, vec_vc]
  rw [if_pos (by rw [vec_length, vec_length]; exact Nat.le_trans (by omega) sz14)]
theorem vc_id {R : Nat} {v : Nat → Rat} : vc R v (fun i => v (R + i)) = v := by
  funext i
  unfold vc
  split
  · rfl
  · show v (R + (i - R)) = v i
    rw [show R + (i - R) = i by omega]
theorem mul_vec {R : Nat} {q : Rat} {m : Bool} {h : Hh} (h2 : 2 ≤ R) (h4 : R ≤ 4) : opD .mul m (.tup [fr q]) (.int R) h = .ok (.tup (vec R fun _ => q), h) := by
  have e : (List.replicate ((R : Int).toNat) [fr q]).flatten = vec R fun _ => q := by
    refine vec_ext (by simp) fun i hi => ?_
    rw [List.flatten_replicate_singleton, List.getElem?_replicate, if_pos (by simpa using hi)]
  simp only [opD, mulD]
  rw [if_pos ⟨by simp, by omega, by omega, by simp⟩, e]
  rfl
theorem pair_vec {n : Nat} {a b : Nat → Rat} : pair (vec n a) (vec n b) = (List.range n).map fun i => .pr (fr (a i)) (fr (b i)) := by
  have key : ∀ l : List Nat, pair (l.map fun i => fr (a i)) (l.map fun i => fr (b i)) = l.map fun i => .pr (fr (a i)) (fr (b i)) := by
    intro l
    induction l with
    | nil => rfl
    | cons x l ih => simp only [List.map_cons, pair, ih]
  exact key _
theorem comp_it {α : Type} {C : Cal} {m : Bool} {own : List Nat} {g : Tg} {it : Itr} {elt : Ex} {r : Ev} {h : Hh} {xs : List α} (f F : α → D) (R : α → Ev) (e1 : evI C it r h = .ok ((xs.map f, none), h)) (hn : xs.length ≤ 1000000) (H : ∀ x ∈ xs, tgD g (f x) (wip r own) = some (R x) ∧ evE C elt (R x) h = .ok (F x, h)) :
    evE C (.comp m own g it .none elt) r h = mkL m (xs.map F) h := by
  have e2 : compD none (xs.map f) g (wip r own) (evC C .none) (evE C elt) (xs.map f) h = .ok (xs.map F, h) :=
    comp_mapL _ F R _ fun i hi => ⟨(H i hi).1, by simp only [evC], (H i hi).2⟩
  have l : (xs.map f).length ≤ sizeLine := by
    rw [List.length_map]
    exact Nat.le_trans hn (by decide)
  exact comp_aux e1 l e2
/-! ## what is kept -/
theorem stp_add (R : Nat) (s : Nat × Rat) (v w : Nat → Rat) : stp R s (fun i => v i + w i) = fun i => stp R s v i + stp R s w i := by
  funext i
  unfold stp put
  by_cases ev : s.1 % 2 = 0
  · simp only [if_pos ev]
    split <;> grind
  · simp only [if_neg ev]
    split
    · grind
    · split <;> grind
theorem led_add (R : Nat) : ∀ (ss : List (Nat × Rat)) (v w : Nat → Rat), led R ss (fun i => v i + w i) = fun i => led R ss v i + led R ss w i
  | [], v, w => rfl
  | s :: ss, v, w => by
    show led R ss (stp R s fun i => v i + w i) = fun i => led R ss (stp R s v) i + led R ss (stp R s w) i
    rw [stp_add, led_add R ss]
/-- all voltages raised by q -/
def up (R : Nat) (q : Rat) (v : Nat → Rat) : Nat → Rat := fun i => if i < R then v i + q else v i
theorem stp_up {R : Nat} {s : Nat × Rat} (hk : s.1 + 2 ≤ 2 * R) (q : Rat) (v : Nat → Rat) : stp R s (up R q v) = up R q (stp R s v) := by
  funext i
  unfold stp put up
  by_cases ev : s.1 % 2 = 0
  · simp only [if_pos ev]
    by_cases z : i = s.1 / 2
    · simp only [z, if_true, if_pos (show s.1 / 2 < R by omega), if_neg (show ¬ R + s.1 / 2 < R by omega)]
      grind
    · simp only [if_neg z]
  · simp only [if_neg ev, if_pos (show s.1 / 2 < R by omega), if_pos (show s.1 / 2 + 1 < R by omega), if_neg (show ¬ R + s.1 / 2 < R by omega), if_neg (show ¬ R + s.1 / 2 + 1 < R by omega)]
    by_cases z : i = R + s.1 / 2 + 1
    · simp only [z, if_true, if_neg (show ¬ R + s.1 / 2 + 1 < R by omega)]
      grind
    · simp only [if_neg z]
      by_cases z2 : i = R + s.1 / 2
      · simp only [z2, if_true, if_neg (show ¬ R + s.1 / 2 < R by omega)]
        grind
      · simp only [if_neg z2]
theorem led_up {R : Nat} (q : Rat) : ∀ (ss : List (Nat × Rat)) (v : Nat → Rat), (∀ s ∈ ss, s.1 + 2 ≤ 2 * R) → led R ss (up R q v) = up R q (led R ss v)
  | [], v, _ => rfl
  | s :: ss, v, h => by
    show led R ss (stp R s (up R q v)) = up R q (led R ss (stp R s v))
    rw [stp_up (h s List.mem_cons_self), led_up q ss _ fun x hx => h x (List.mem_cons_of_mem _ hx)]
/-- a number that each step keeps stays -/
theorem led_keep {R : Nat} {β : Type} (f : (Nat → Rat) → β) : ∀ (ss : List (Nat × Rat)) (v : Nat → Rat), (∀ s ∈ ss, ∀ v, f (stp R s v) = f v) → f (led R ss v) = f v
  | [], v, _ => rfl
  | s :: ss, v, h => (led_keep f ss (stp R s v) fun x hx => h x (List.mem_cons_of_mem _ hx)).trans (h s List.mem_cons_self v)
theorem led_keep2 {R : Nat} {β : Type} (f : (Nat → Rat) → (Nat → Rat) → β) : ∀ (ss : List (Nat × Rat)) (v w : Nat → Rat), (∀ s ∈ ss, ∀ v w, f (stp R s v) (stp R s w) = f v w) → f (led R ss v) (led R ss w) = f v w
  | [], v, w, _ => rfl
  | s :: ss, v, w, h => (led_keep2 f ss (stp R s v) (stp R s w) fun x hx => h x (List.mem_cons_of_mem _ hx)).trans (h s List.mem_cons_self v w)
def cur (R : Nat) (v : Nat → Rat) : Rat := sumTo R fun r => v (R + r)
def mix (R : Nat) (a b : Nat → Rat) : Rat := sumTo R fun r => a r * b (R + r) + -(b r * a (R + r))
theorem kinds {R k : Nat} (h2 : 2 ≤ R) (h4 : R ≤ 4) (hk : k + 2 ≤ 2 * R) :
    (R = 2 ∧ (k = 0 ∨ k = 1 ∨ k = 2)) ∨ (R = 3 ∧ (k = 0 ∨ k = 1 ∨ k = 2 ∨ k = 3 ∨ k = 4)) ∨ (R = 4 ∧ (k = 0 ∨ k = 1 ∨ k = 2 ∨ k = 3 ∨ k = 4 ∨ k = 5 ∨ k = 6)) := by omega
theorem cur_stp {R : Nat} (h2 : 2 ≤ R) (h4 : R ≤ 4) {s : Nat × Rat} (hk : s.1 + 2 ≤ 2 * R) (v : Nat → Rat) : cur R (stp R s v) = cur R v := by
  obtain ⟨k, q⟩ := s
  have := kinds h2 h4 hk
  rcases this with ⟨rfl, rfl | rfl | rfl⟩ | ⟨rfl, rfl | rfl | rfl | rfl | rfl⟩ | ⟨rfl, rfl | rfl | rfl | rfl | rfl | rfl | rfl⟩ <;> simp [cur, sumTo, stp, put] <;> grind
theorem mix_stp {R : Nat} (h2 : 2 ≤ R) (h4 : R ≤ 4) {s : Nat × Rat} (hk : s.1 + 2 ≤ 2 * R) (v w : Nat → Rat) : mix R (stp R s v) (stp R s w) = mix R v w := by
  obtain ⟨k, q⟩ := s
  have := kinds h2 h4 hk
  rcases this with ⟨rfl, rfl | rfl | rfl⟩ | ⟨rfl, rfl | rfl | rfl | rfl | rfl⟩ | ⟨rfl, rfl | rfl | rfl | rfl | rfl | rfl | rfl⟩ <;> simp [mix, sumTo, stp, put] <;> grind
end Fx
set_option Elab.async false
set_option linter.all false
namespace Fx
open PySem PySem.Spec PyProof.Rows L2
/-! ## the shape of matrices -/
/-- what mix gives of two units -/
def jj (R i j : Nat) : Rat := (if j = i + R then 1 else 0) - (if i = j + R then 1 else 0)
theorem jj_p {R i j : Nat} (hR : 2 ≤ R) (h : j = i + R) : jj R i j = 1 := by
  unfold jj
  rw [if_pos h, if_neg (by omega)]
  grind
theorem jj_m {R i j : Nat} (hR : 2 ≤ R) (h : i = j + R) : jj R i j = -1 := by
  unfold jj
  rw [if_neg (by omega), if_pos h]
  grind
theorem jj_z {R i j : Nat} (h : j ≠ i + R) (h' : i ≠ j + R) : jj R i j = 0 := by
  unfold jj
  rw [if_neg h, if_neg h']
  grind
theorem mix_one {R i j : Nat} (h2 : 2 ≤ R) (h4 : R ≤ 4) (hi : i < 2 * R) (hj : j < 2 * R) : mix R (one_at i) (one_at j) = jj R i j := by
  have : R = 2 ∨ R = 3 ∨ R = 4 := by omega
  rcases this with rfl | rfl | rfl
  · have : ∀ i, i < 4 → ∀ j, j < 4 → mix 2 (one_at i) (one_at j) = jj 2 i j := by decide +kernel
    exact this i hi j hj
  · have : ∀ i, i < 6 → ∀ j, j < 6 → mix 3 (one_at i) (one_at j) = jj 3 i j := by decide +kernel
    exact this i hi j hj
  · have : ∀ i, i < 8 → ∀ j, j < 8 → mix 4 (one_at i) (one_at j) = jj 4 i j := by decide +kernel
    exact this i hi j hj
theorem mix_cols {R : Nat} {ss : List (Nat × Rat)} (h2 : 2 ≤ R) (h4 : R ≤ 4) (hs : ∀ s ∈ ss, s.1 + 2 ≤ 2 * R) {i j : Nat} (hi : i < 2 * R) (hj : j < 2 * R) : mix R (fun k => mat R ss k i) (fun k => mat R ss k j) = jj R i j := by
  rw [← mix_one h2 h4 hi hj]
  exact led_keep2 (mix R) ss (one_at i) (one_at j) fun s hs' v w => mix_stp h2 h4 (hs s hs') v w
/-- rows: a step mixes them as it mixes a state -/
theorem mix_stp_l {R : Nat} {s : Nat × Rat} (w : Nat → Nat → Rat) (b : Nat → Rat) (i : Nat) : mix R (fun j => stp R s (w j) i) b = stp R s (fun i => mix R (fun j => w j i) b) i := by
  have e1 : ∀ (f g : Nat → Rat) (q : Rat), mix R (fun j => f j + -(q * g j)) b = mix R f b + -(q * mix R g b) := fun f g q => by
    unfold mix
    have : ∀ m, (sumTo m fun r => (f r + -(q * g r)) * b (R + r) + -(b r * (f (R + r) + -(q * g (R + r))))) = (sumTo m fun r => f r * b (R + r) + -(b r * f (R + r))) + -(q * sumTo m fun r => g r * b (R + r) + -(b r * g (R + r))) := by
      intro m
      induction m with
      | zero => simp only [sumTo]; grind
      | succ m ih => simp only [sumTo]; grind
    exact this R
  have e2 : ∀ (t : Rat) (f g k : Nat → Rat) (q : Rat), mix R (fun j => f j + t * (q * (g j + -(k j)))) b = mix R f b + t * (q * (mix R g b + -(mix R k b))) := fun t f g k q => by
    unfold mix
    have : ∀ m, (sumTo m fun r => (f r + t * (q * (g r + -(k r)))) * b (R + r) + -(b r * (f (R + r) + t * (q * (g (R + r) + -(k (R + r))))))) = (sumTo m fun r => f r * b (R + r) + -(b r * f (R + r))) + t * (q * ((sumTo m fun r => g r * b (R + r) + -(b r * g (R + r))) + -(sumTo m fun r => k r * b (R + r) + -(b r * k (R + r))))) := by
      intro m
      induction m with
      | zero => simp only [sumTo]; grind
      | succ m ih => simp only [sumTo]; grind
    exact this R
  unfold stp put
  by_cases ev : s.1 % 2 = 0
  · simp only [if_pos ev]
    by_cases z : i = s.1 / 2
    · simp only [if_pos z]
      exact e1 _ _ _
    · simp only [if_neg z]
  · simp only [if_neg ev]
    by_cases z : i = R + s.1 / 2 + 1
    · simp only [if_pos z]
      have := e2 1 (fun j => w j (R + s.1 / 2 + 1)) (fun j => w j (s.1 / 2)) (fun j => w j (s.1 / 2 + 1)) s.2
      simp only [Rat.one_mul] at this
      exact this
    · simp only [if_neg z]
      by_cases z2 : i = R + s.1 / 2
      · simp only [if_pos z2]
        have := e2 (-1) (fun j => w j (R + s.1 / 2)) (fun j => w j (s.1 / 2)) (fun j => w j (s.1 / 2 + 1)) s.2
        simp only [Rat.neg_mul, Rat.one_mul] at this
        exact this
      · simp only [if_neg z2]
theorem mix_anti {R : Nat} (a b : Nat → Rat) : mix R a b = -(mix R b a) := by
  unfold mix
  have : ∀ m, (sumTo m fun r => a r * b (R + r) + -(b r * a (R + r))) = -(sumTo m fun r => b r * a (R + r) + -(a r * b (R + r))) := by
    intro m
    induction m with
    | zero => rfl
    | succ m ih => simp only [sumTo]; grind
  exact this R
theorem stp_neg {R : Nat} {s : Nat × Rat} (v : Nat → Rat) (i : Nat) : stp R s (fun i => -(v i)) i = -(stp R s v i) := by
  have e : (fun i => -(v i)) = fun i => (-1) * v i := by funext i; grind
  rw [e, stp_scale]
  grind
theorem mix_stp_r {R : Nat} {s : Nat × Rat} (w : Nat → Nat → Rat) (b : Nat → Rat) (i : Nat) : mix R b (fun j => stp R s (w j) i) = stp R s (fun i => mix R b (fun j => w j i)) i := by
  rw [mix_anti, mix_stp_l]
  have e : (fun i => mix R b fun j => w j i) = fun i => -(mix R (fun j => w j i) b) := by funext i; rw [mix_anti]
  rw [e, stp_neg]
theorem stp_ext {R : Nat} {s : Nat × Rat} (hk : s.1 + 2 ≤ 2 * R) {v w : Nat → Rat} (h : ∀ i, i < 2 * R → v i = w i) {i : Nat} (hi : i < 2 * R) : stp R s v i = stp R s w i := by
  unfold stp put
  by_cases ev : s.1 % 2 = 0
  · simp only [if_pos ev]
    rw [h (s.1 / 2) (by omega), h (R + s.1 / 2) (by omega), h i hi]
  · simp only [if_neg ev]
    rw [h (s.1 / 2) (by omega), h (R + s.1 / 2) (by omega), h (s.1 / 2 + 1) (by omega), h (R + s.1 / 2 + 1) (by omega), h i hi]
theorem jj_stp {R : Nat} (h2 : 2 ≤ R) (h4 : R ≤ 4) {s : Nat × Rat} (hk : s.1 + 2 ≤ 2 * R) {i j : Nat} (hi : i < 2 * R) (hj : j < 2 * R) : stp R s (fun i => stp R s (fun j => jj R i j) j) i = jj R i j := by
  unfold stp put
  by_cases ev : s.1 % 2 = 0
  · simp only [if_pos ev]
    generalize hr : s.1 / 2 = r
    have hrR : r < R := by omega
    have j1 : jj R r (R + r) = 1 := jj_p h2 (by omega)
    have j2 : jj R (R + r) r = -1 := jj_m h2 (by omega)
    have j3 : jj R r r = 0 := jj_z (by omega) (by omega)
    have j4 : jj R (R + r) (R + r) = 0 := jj_z (by omega) (by omega)
    have j5 : ∀ i, i < 2 * R → i ≠ r → jj R i (R + r) = 0 := fun i _ hi => jj_z (by omega) (by omega)
    have j6 : ∀ j, j < 2 * R → j ≠ r → jj R (R + r) j = 0 := fun i _ hi => jj_z (by omega) (by omega)
    by_cases z : i = r <;> by_cases z2 : j = r
    · subst z; subst z2; simp only [if_true]; grind
    · subst z; simp only [if_true, if_neg z2]; have := j6 j hj z2; grind
    · subst z2; simp only [if_true, if_neg z]; have := j5 i hi z; grind
    · simp only [if_neg z, if_neg z2]
  · simp only [if_neg ev]
    generalize hr : s.1 / 2 = r
    have hrR : r + 1 < R := by omega
    have a1 : ∀ i, i ≠ R + r → jj R r i = 0 := fun i hi => jj_z (by omega) (by omega)
    have a2 : jj R r (R + r) = 1 := jj_p h2 (by omega)
    have a3 : ∀ i, i ≠ R + r + 1 → jj R (r + 1) i = 0 := fun i hi => jj_z (by omega) (by omega)
    have a4 : jj R (r + 1) (R + r + 1) = 1 := jj_p h2 (by omega)
    have b1 : ∀ i, i ≠ R + r → jj R i r = 0 := fun i hi => jj_z (by omega) (by omega)
    have b2 : jj R (R + r) r = -1 := jj_m h2 (by omega)
    have b3 : ∀ i, i ≠ R + r + 1 → jj R i (r + 1) = 0 := fun i hi => jj_z (by omega) (by omega)
    have b4 : jj R (R + r + 1) (r + 1) = -1 := jj_m h2 (by omega)
    have n1 : R + r ≠ R + r + 1 := by omega
    by_cases y1 : i = R + r + 1 <;> by_cases y2 : i = R + r <;> by_cases x1 : j = R + r + 1 <;> by_cases x2 : j = R + r <;> first | (exfalso; omega) | skip
    · subst y1; subst x1
      simp only [if_true]
      have := a1 (R + r + 1) (by omega); have := a3 r (by omega); have := a1 r (by omega); have := a1 (r + 1) (by omega); have := a3 (r + 1) (by omega); grind
    · subst y1; subst x2
      simp only [if_true, if_neg n1]
      have := a1 (R + r + 1) (by omega); have := a3 (R + r) (by omega); have := b1 (R + r + 1) (by omega); have := a3 r (by omega); have := a1 r (by omega); have := a1 (r + 1) (by omega); have := a3 (r + 1) (by omega); grind
    · subst y1
      simp only [if_true, if_neg x1, if_neg x2]
      have := a1 j x2; have := a3 j x1; grind
    · subst y2; subst x1
      simp only [if_true, if_neg n1]
      have := a1 (R + r + 1) (by omega); have := a3 (R + r) (by omega); have := b3 (R + r) (by omega); have := a3 r (by omega); have := a1 r (by omega); have := a1 (r + 1) (by omega); have := a3 (r + 1) (by omega); grind
    · subst y2; subst x2
      simp only [if_true, if_neg n1]
      have := a3 (R + r) (by omega); have := b3 (R + r) (by omega); have := a3 r (by omega); have := a1 r (by omega); have := a1 (r + 1) (by omega); have := a3 (r + 1) (by omega); grind
    · subst y2
      simp only [if_true, if_neg n1, if_neg x1, if_neg x2]
      have := a1 j x2; have := a3 j x1; grind
    · subst x1
      simp only [if_true, if_neg y1, if_neg y2]
      have := b1 i y2; have := b3 i y1; grind
    · subst x2
      simp only [if_true, if_neg n1, if_neg y1, if_neg y2]
      have := b1 i y2; have := b3 i y1; grind
    · simp only [if_neg y1, if_neg y2, if_neg x1, if_neg x2]
theorem rows_led {R : Nat} (h2 : 2 ≤ R) (h4 : R ≤ 4) : ∀ (ss : List (Nat × Rat)) (w : Nat → Nat → Rat), (∀ s ∈ ss, s.1 + 2 ≤ 2 * R) → (∀ i j, i < 2 * R → j < 2 * R → mix R (fun k => w k i) (fun k => w k j) = jj R i j) →
    ∀ i j, i < 2 * R → j < 2 * R → mix R (fun k => led R ss (w k) i) (fun k => led R ss (w k) j) = jj R i j
  | [], w, _, h => h
  | s :: ss, w, hs, h => rows_led h2 h4 ss (fun k => stp R s (w k)) (fun x hx => hs x (List.mem_cons_of_mem _ hx)) fun i j hi hj => by
    have hk := hs s List.mem_cons_self
    rw [mix_stp_l w _ i]
    have e : ∀ i, i < 2 * R → mix R (fun k => w k i) (fun k => stp R s (w k) j) = stp R s (fun j => jj R i j) j := fun i hi => by
      rw [mix_stp_r]
      exact stp_ext hk (fun j hj => h i j hi hj) hj
    rw [stp_ext hk e hi]
    exact jj_stp h2 h4 hk hi hj
theorem mix_rows {R : Nat} {ss : List (Nat × Rat)} (h2 : 2 ≤ R) (h4 : R ≤ 4) (hs : ∀ s ∈ ss, s.1 + 2 ≤ 2 * R) {i j : Nat} (hi : i < 2 * R) (hj : j < 2 * R) : mix R (fun k => mat R ss i k) (fun k => mat R ss j k) = jj R i j := by
  refine rows_led h2 h4 ss (fun k => one_at k) hs (fun i j hi hj => ?_) i j hi hj
  have e : ∀ i, (fun k => one_at k i) = one_at i := fun i => by
    funext k
    unfold one_at
    by_cases z : i = k
    · rw [if_pos z, if_pos z.symm]
    · rw [if_neg z, if_neg (fun y => z y.symm)]
  rw [e i, e j]
  exact mix_one h2 h4 hi hj
end Fx
set_option Elab.async false
set_option linter.all false
namespace Fx
open PySem PySem.Spec PyProof.Rows L2
theorem cur_one {R j : Nat} (h2 : 2 ≤ R) (h4 : R ≤ 4) (hj : j < 2 * R) : cur R (one_at j) = if R ≤ j then 1 else 0 := by
  have : R = 2 ∨ R = 3 ∨ R = 4 := by omega
  rcases this with rfl | rfl | rfl
  · have : ∀ j, j < 4 → cur 2 (one_at j) = if 2 ≤ j then 1 else 0 := by decide +kernel
    exact this j hj
  · have : ∀ j, j < 6 → cur 3 (one_at j) = if 3 ≤ j then 1 else 0 := by decide +kernel
    exact this j hj
  · have : ∀ j, j < 8 → cur 4 (one_at j) = if 4 ≤ j then 1 else 0 := by decide +kernel
    exact this j hj
theorem cur_cols {R : Nat} {ss : List (Nat × Rat)} (h2 : 2 ≤ R) (h4 : R ≤ 4) (hs : ∀ s ∈ ss, s.1 + 2 ≤ 2 * R) {j : Nat} (hj : j < 2 * R) : (sumTo R fun r => mat R ss (R + r) j) = if R ≤ j then 1 else 0 := by
  rw [← cur_one h2 h4 hj]
  exact led_keep (cur R) ss (one_at j) fun s hs' v => cur_stp h2 h4 (hs s hs') v
theorem sum_low {R : Nat} (f : Nat → Rat) : ∀ m, (sumTo (R + m) fun j => f j * (if j < R then 1 else 0)) = sumTo R f
  | 0 => sumTo_congr fun i (hi : i < R) => by rw [if_pos hi, Rat.mul_one]
  | m + 1 => by
    show (sumTo (R + m) fun j => f j * (if j < R then 1 else 0)) + f (R + m) * (if R + m < R then 1 else 0) = sumTo R f
    rw [sum_low f m, if_neg (by omega)]
    grind
theorem led_zero' {R : Nat} {ss : List (Nat × Rat)} : led R ss (fun _ => 0) = fun _ => 0 := by
  have := led_scale R 0 ss fun _ => 0
  simpa using this
theorem volt_rows {R : Nat} {ss : List (Nat × Rat)} (hs : ∀ s ∈ ss, s.1 + 2 ≤ 2 * R) {i : Nat} (hi : i < 2 * R) : (sumTo R fun r => mat R ss i r) = if i < R then 1 else 0 := by
  have h1 := led_up (R := R) 1 ss (fun _ => 0) hs
  rw [led_zero'] at h1
  have h2 := congrFun h1 i
  rw [led_sum hs _ hi] at h2
  have e : (sumTo (2 * R) fun j => mat R ss i j * up R 1 (fun _ => 0) j) = sumTo (R + R) fun j => mat R ss i j * (if j < R then 1 else 0) := by
    rw [show 2 * R = R + R by omega]
    refine sumTo_congr fun j hj => ?_
    unfold up
    by_cases z : j < R
    · rw [if_pos z, if_pos z, Rat.zero_add]
    · rw [if_neg z, if_neg z]
  rw [e, sum_low] at h2
  rw [h2]
  unfold up
  by_cases z : i < R
  · rw [if_pos z, if_pos z, Rat.zero_add]
  · rw [if_neg z, if_neg z]
/-! ## signs -/
def eps (R i : Nat) : Rat := if i < R then (if i % 2 = 0 then 1 else -1) else (if (i - R) % 2 = 0 then -1 else 1)
theorem eps_cur {R r : Nat} (hr : r < R) : eps R (R + r) = -(eps R r) := by
  unfold eps
  rw [if_neg (by omega), if_pos hr, Nat.add_sub_cancel_left]
  by_cases z : r % 2 = 0
  · rw [if_pos z, if_pos z]
  · rw [if_neg z, if_neg z]; grind
theorem eps_next {R r : Nat} (hr : r + 1 < R) : eps R (r + 1) = -(eps R r) := by
  unfold eps
  rw [if_pos hr, if_pos (show r < R by omega)]
  by_cases z : r % 2 = 0
  · rw [if_pos z, if_neg (show ¬ (r + 1) % 2 = 0 by omega)]
  · rw [if_neg z, if_pos (show (r + 1) % 2 = 0 by omega)]; grind
theorem eps_sq {R i : Nat} : eps R i * eps R i = 1 := by
  unfold eps
  repeat' split
  all_goals grind
/-- all of one sign, where eps tells it -/
def Sg (R : Nat) (e : Rat) (v : Nat → Rat) : Prop := ∀ i, i < 2 * R → 0 ≤ e * (eps R i * v i)
theorem sg_stp {R : Nat} {s : Nat × Rat} (hk : s.1 + 2 ≤ 2 * R) (hs : 0 ≤ s.2) {e : Rat} {v : Nat → Rat} (h : Sg R e v) : Sg R e (stp R s v) := by
  intro i hi
  unfold stp put
  by_cases ev : s.1 % 2 = 0
  · simp only [if_pos ev]
    by_cases z : i = s.1 / 2
    · subst z
      simp only [if_true]
      have a := h (s.1 / 2) (by omega)
      have b := h (R + s.1 / 2) (by omega)
      rw [eps_cur (show s.1 / 2 < R by omega)] at b
      have c := Rat.mul_nonneg hs b
      have d := Rat.add_nonneg a c
      have e1 : e * (eps R (s.1 / 2) * (v (s.1 / 2) + -(s.2 * v (R + s.1 / 2)))) = e * (eps R (s.1 / 2) * v (s.1 / 2)) + s.2 * (e * (-(eps R (s.1 / 2)) * v (R + s.1 / 2))) := by grind
      rw [e1]
      exact d
    · simp only [if_neg z]
      exact h i hi
  · simp only [if_neg ev]
    have n := eps_next (R := R) (r := s.1 / 2) (by omega)
    have a := h (s.1 / 2) (by omega)
    have b := h (s.1 / 2 + 1) (by omega)
    rw [n] at b
    have c := Rat.mul_nonneg hs (Rat.add_nonneg a b)
    by_cases z : i = R + s.1 / 2 + 1
    · subst z
      simp only [if_true]
      have d := Rat.add_nonneg (h (R + s.1 / 2 + 1) hi) c
      have e0 : eps R (R + s.1 / 2 + 1) = eps R (s.1 / 2) := by
        rw [show R + s.1 / 2 + 1 = R + (s.1 / 2 + 1) by omega, eps_cur (by omega), n]
        grind
      rw [e0] at d ⊢
      have e1 : e * (eps R (s.1 / 2) * (v (R + s.1 / 2 + 1) + s.2 * (v (s.1 / 2) + -(v (s.1 / 2 + 1))))) = e * (eps R (s.1 / 2) * v (R + s.1 / 2 + 1)) + s.2 * (e * (eps R (s.1 / 2) * v (s.1 / 2)) + e * (-(eps R (s.1 / 2)) * v (s.1 / 2 + 1))) := by grind
      rw [e1]
      exact d
    · simp only [if_neg z]
      by_cases z2 : i = R + s.1 / 2
      · subst z2
        simp only [if_true]
        have d := Rat.add_nonneg (h (R + s.1 / 2) hi) c
        rw [eps_cur (show s.1 / 2 < R by omega)] at d ⊢
        have e1 : e * (-(eps R (s.1 / 2)) * (v (R + s.1 / 2) + -(s.2 * (v (s.1 / 2) + -(v (s.1 / 2 + 1)))))) = e * (-(eps R (s.1 / 2)) * v (R + s.1 / 2)) + s.2 * (e * (eps R (s.1 / 2) * v (s.1 / 2)) + e * (-(eps R (s.1 / 2)) * v (s.1 / 2 + 1))) := by grind
        rw [e1]
        exact d
      · simp only [if_neg z2]
        exact h i hi
theorem sg_led {R : Nat} {e : Rat} : ∀ (ss : List (Nat × Rat)) (v : Nat → Rat), (∀ s ∈ ss, s.1 + 2 ≤ 2 * R ∧ 0 ≤ s.2) → Sg R e v → Sg R e (led R ss v)
  | [], v, _, h => h
  | s :: ss, v, hs, h => sg_led ss (stp R s v) (fun x hx => hs x (List.mem_cons_of_mem _ hx)) (sg_stp (hs s List.mem_cons_self).1 (hs s List.mem_cons_self).2 h)
theorem sg_one {R j : Nat} : Sg R (eps R j) (one_at j) := fun i hi => by
  unfold one_at
  by_cases z : i = j
  · rw [if_pos z, z, Rat.mul_one, eps_sq]
    decide
  · rw [if_neg z, Rat.mul_zero, Rat.mul_zero]
    exact Rat.le_refl
theorem sg_mat {R i j : Nat} {ss : List (Nat × Rat)} (hs : ∀ s ∈ ss, s.1 + 2 ≤ 2 * R ∧ 0 ≤ s.2) (hi : i < 2 * R) : 0 ≤ eps R j * (eps R i * mat R ss i j) := sg_led ss _ hs sg_one i hi
theorem mat_vc {R r : Nat} {ss : List (Nat × Rat)} (hs : ∀ s ∈ ss, s.1 + 2 ≤ 2 * R ∧ 0 ≤ s.2) (hr : r < R) : mat R ss r (R + r) ≤ 0 := by
  have h := sg_mat (j := R + r) hs (show r < 2 * R by omega)
  rw [eps_cur hr] at h
  have e : -(eps R r) * (eps R r * mat R ss r (R + r)) = -(mat R ss r (R + r)) := by
    have := eps_sq (R := R) (i := r)
    grind
  rw [e] at h
  have := Rat.le_neg_iff.mp h
  grind
theorem mat_cv {R r : Nat} {ss : List (Nat × Rat)} (hs : ∀ s ∈ ss, s.1 + 2 ≤ 2 * R ∧ 0 ≤ s.2) (hr : r < R) : mat R ss (R + r) r ≤ 0 := by
  have h := sg_mat (i := R + r) (j := r) hs (by omega)
  rw [eps_cur hr] at h
  have e : eps R r * (-(eps R r) * mat R ss (R + r) r) = -(mat R ss (R + r) r) := by
    have := eps_sq (R := R) (i := r)
    grind
  rw [e] at h
  have := Rat.le_neg_iff.mp h
  grind
/-- a rail's own voltage is not lessened -/
theorem led_own {R r : Nat} (hr : r < R) : ∀ (ss : List (Nat × Rat)) (v : Nat → Rat), (∀ s ∈ ss, s.1 + 2 ≤ 2 * R ∧ 0 ≤ s.2) → Sg R (eps R r) v → 1 ≤ v r → 1 ≤ led R ss v r
  | [], v, _, _, h => h
  | s :: ss, v, hs, hg, h => by
    have hk := (hs s List.mem_cons_self).1
    have h0 := (hs s List.mem_cons_self).2
    refine led_own hr ss (stp R s v) (fun x hx => hs x (List.mem_cons_of_mem _ hx)) (sg_stp hk h0 hg) ?_
    unfold stp put
    by_cases ev : s.1 % 2 = 0
    · simp only [if_pos ev]
      by_cases z : r = s.1 / 2
      · subst z
        simp only [if_true]
        have b := hg (R + s.1 / 2) (by omega)
        rw [eps_cur hr] at b
        have e : eps R (s.1 / 2) * (-(eps R (s.1 / 2)) * v (R + s.1 / 2)) = -(v (R + s.1 / 2)) := by
          have := eps_sq (R := R) (i := s.1 / 2)
          grind
        rw [e] at b
        have c := Rat.mul_nonneg h0 b
        grind
      · simp only [if_neg z]
        exact h
    · simp only [if_neg ev, if_neg (show ¬ r = R + s.1 / 2 + 1 by omega), if_neg (show ¬ r = R + s.1 / 2 by omega)]
      exact h
theorem mat_own {R r : Nat} {ss : List (Nat × Rat)} (hs : ∀ s ∈ ss, s.1 + 2 ≤ 2 * R ∧ 0 ≤ s.2) (hr : r < R) : 1 ≤ mat R ss r r :=
  led_own hr ss (one_at r) hs sg_one (by unfold one_at; rw [if_pos rfl]; exact Rat.le_refl)
/-! ## turned -/
def pr (R : Nat) (u v : Nat → Rat) : Rat := sumTo R fun r => u (R + r) * v r + u r * v (R + r)
theorem pr_stp {R : Nat} (h2 : 2 ≤ R) (h4 : R ≤ 4) {s : Nat × Rat} (hk : s.1 + 2 ≤ 2 * R) (u v : Nat → Rat) : pr R (stp R s u) v = pr R u (stp R s v) := by
  obtain ⟨k, q⟩ := s
  have := kinds h2 h4 hk
  rcases this with ⟨rfl, rfl | rfl | rfl⟩ | ⟨rfl, rfl | rfl | rfl | rfl | rfl⟩ | ⟨rfl, rfl | rfl | rfl | rfl | rfl | rfl | rfl⟩ <;> simp [pr, sumTo, stp, put] <;> grind
theorem pr_led {R : Nat} (h2 : 2 ≤ R) (h4 : R ≤ 4) : ∀ (ss : List (Nat × Rat)) (u v : Nat → Rat), (∀ s ∈ ss, s.1 + 2 ≤ 2 * R) → pr R (led R ss u) v = pr R u (led R ss.reverse v)
  | [], u, v, _ => rfl
  | s :: ss, u, v, hs => by
    have e : led R (s :: ss).reverse v = stp R s (led R ss.reverse v) := by
      unfold led
      rw [List.reverse_cons, List.foldl_append]
      rfl
    rw [e, ← pr_stp h2 h4 (hs s List.mem_cons_self)]
    exact pr_led h2 h4 ss (stp R s u) v fun x hx => hs x (List.mem_cons_of_mem _ hx)
/-- the other of a rail's two -/
def sw (R i : Nat) : Nat := if i < R then R + i else i - R
theorem sum_pick {f : Nat → Rat} {b : Nat} : ∀ m, (sumTo m fun r => f r * one_at b r) = if b < m then f b else 0
  | 0 => rfl
  | m + 1 => by
    have ih := sum_pick (f := f) (b := b) m
    simp only [one_at] at ih
    simp only [sumTo, ih, one_at]
    by_cases h : b < m
    · rw [if_pos h, if_neg (by omega), if_pos (by omega)]; grind
    · by_cases e : m = b
      · subst e
        rw [if_neg h, if_pos rfl, if_pos (by omega)]; grind
      · rw [if_neg h, if_neg e, if_neg (by omega)]; grind
theorem sumTo_add {f g : Nat → Rat} : ∀ m, (sumTo m fun r => f r + g r) = sumTo m f + sumTo m g
  | 0 => by simp only [sumTo]; grind
  | m + 1 => by
    have := sumTo_add (f := f) (g := g) m
    simp only [sumTo]
    grind
theorem one_shift {R b r : Nat} : one_at b (R + r) = if R ≤ b then one_at (b - R) r else 0 := by
  unfold one_at
  by_cases h : R ≤ b
  · rw [if_pos h]
    by_cases e : R + r = b
    · rw [if_pos e, if_pos (by omega)]
    · rw [if_neg e, if_neg (by omega)]
  · rw [if_neg h, if_neg (by omega)]
theorem pr_right {R b : Nat} (hb : b < 2 * R) (u : Nat → Rat) : pr R u (one_at b) = u (sw R b) := by
  unfold pr sw
  rw [sumTo_add, sum_pick]
  by_cases h : b < R
  · rw [if_pos h, if_pos h]
    have e : (sumTo R fun r => u r * one_at b (R + r)) = sumTo R fun r => u r * one_at (2 * R) r := sumTo_congr fun r hr => by
      rw [one_shift, if_neg (by omega)]
      unfold one_at
      rw [if_neg (by omega)]
    rw [e, sum_pick, if_neg (by omega)]
    grind
  · rw [if_neg h, if_neg h]
    have e : (sumTo R fun r => u r * one_at b (R + r)) = sumTo R fun r => u r * one_at (b - R) r := sumTo_congr fun r hr => by
      rw [one_shift, if_pos (by omega)]
    rw [e, sum_pick, if_pos (by omega)]
    grind
theorem pr_comm {R : Nat} (u v : Nat → Rat) : pr R u v = pr R v u := sumTo_congr fun r _ => by grind
theorem mat_turned {R : Nat} {ss : List (Nat × Rat)} (h2 : 2 ≤ R) (h4 : R ≤ 4) (hs : ∀ s ∈ ss, s.1 + 2 ≤ 2 * R) {a b : Nat} (ha : a < 2 * R) (hb : b < 2 * R) : mat R ss.reverse (sw R a) b = mat R ss (sw R b) a := by
  have h := pr_led h2 h4 ss (one_at a) (one_at b) hs
  rw [pr_right hb, pr_comm, pr_right ha] at h
  exact h.symm
end Fx
set_option Elab.async false
set_option linter.all false
namespace Fx
open PySem PySem.Spec PyProof.Rows L2
/-! ## one statement after the other, what it makes found by reckoning -/
def cont (f : Ev → Hh → Res Out) (o : Res Out) : Res Out := o >>= fun o => match o with
  | .nx r h => f r h
  | o => .ok o
/-- it ends, and so -/
def W (x : Res Out) (Q : Out → Prop) : Prop := ∃ o, x = .ok o ∧ Q o
/-- what a loop's turn may end in -/
def LQ (P K : Ev → Hh → Prop) (Q : Out → Prop) : Out → Prop
  | .nx r h => P r h
  | .ct r h => P r h
  | .bk r h => K r h
  | .rt d h => Q (.rt d h)
  | .ex c r h => Q (.ex c r h)
section
variable {C : Cal} {r r1 : Ev} {h h1 : Hh} {f : Ev → Hh → Res Out} {d : D} {z o : Res Out} {c : Nat} {Q : Out → Prop} {P K : Ev → Hh → Prop} {a : Sm} {rest : Sms}
@[simp] theorem cont_nx : cont f (.ok (.nx r h)) = f r h := (rfl)
@[simp] theorem cont_rt : cont f (.ok (.rt d h)) = .ok (.rt d h) := (rfl)
@[simp] theorem cont_ex : cont f (.ok (.ex c r h)) = .ok (.ex c r h) := (rfl)
@[simp] theorem cont_bk : cont f (.ok (.bk r h)) = .ok (.bk r h) := (rfl)
@[simp] theorem cont_ct : cont f (.ok (.ct r h)) = .ok (.ct r h) := (rfl)
theorem sstep (e : evS C a r h = o) (e2 : cont (evSs C rest) o = z) : evSs C (.cons a rest) r h = z := by
  rw [← e2, ← e]
  simp only [evSs, cont] <;> rfl
theorem wst (e : evS C a r h = o) (e2 : W (cont (evSs C rest) o) Q) : W (evSs C (.cons a rest) r h) Q := by
  rw [sstep e rfl]
  exact e2
theorem wok {o : Out} (q : Q o) : W (.ok o) Q := ⟨o, rfl, q⟩
theorem wnil (q : Q (.nx r h)) : W (evSs C .nil r h) Q := by rw [Ss_0]; exact wok q
theorem wend (q : Q (.nx r h)) : W (cont (evSs C .nil) (.ok (.nx r h))) Q := by rw [cont_nx]; exact wnil q
theorem snx (e : evS C a r h = .ok (.nx r1 h1)) (e2 : evSs C rest r1 h1 = z) : evSs C (.cons a rest) r h = z := ss_nx e e2
theorem wnx (e : evS C a r h = .ok (.nx r1 h1)) (e2 : W (evSs C rest r1 h1) Q) : W (evSs C (.cons a rest) r h) Q := by rw [ss_nx e rfl]; exact e2
theorem wrt (e : evS C a r h = .ok (.rt d h1)) (q : Q (.rt d h1)) : W (evSs C (.cons a rest) r h) Q := by rw [ss_rt e]; exact wok q
theorem W.mono {Q' : Out → Prop} {x : Res Out} (w : W x Q) (m : ∀ o, Q o → Q' o) : W x Q' := by
  obtain ⟨o, e, q⟩ := w
  exact ⟨o, e, m o q⟩
@[simp] theorem LQ_nx : LQ P K Q (.nx r h) = P r h := (rfl)
@[simp] theorem LQ_ct : LQ P K Q (.ct r h) = P r h := (rfl)
@[simp] theorem LQ_bk : LQ P K Q (.bk r h) = K r h := (rfl)
@[simp] theorem LQ_rt : LQ P K Q (.rt d h) = Q (.rt d h) := (rfl)
@[simp] theorem LQ_ex : LQ P K Q (.ex c r h) = Q (.ex c r h) := (rfl)
/-- a chosen branch goes on with what stands behind -/
theorem wif {t : Ex} {x y : Sms} {b : Bool} (e : evE C t r h = .ok (.bl b, h1)) (k : W (cont (evSs C rest) (if b = true then evSs C x r h1 else evSs C y r h1)) Q) : W (evSs C (.cons (.iff t x y) rest) r h) Q := by
  refine wst ?_ k
  rw [S_7, T_, e, bind_ok, asB_bl, lft_ok]
theorem wcont {x : Res Out} (w : W x fun o => match o with | .nx r h => W (f r h) Q | o => Q o) : W (cont f x) Q := by
  obtain ⟨o, e, q⟩ := w
  subst e
  cases o with
  | nx r h => exact q
  | rt d h => exact wok q
  | bk r h => exact wok q
  | ct r h => exact wok q
  | ex c r h => exact wok q
theorem rangeI {a : Ex} {n : Nat} {v : Int} (e : evE C a r h = .ok (.int v, h)) (hv : v = (n : Nat)) (hn : n ≤ 1000000) : evI C (.range 1 (.cons a .nil)) r h = .ok (((List.range n).map fun i => .int (i : Nat), none), h) := by
  subst hv
  refine range_aux (ds := [.int (n : Nat)]) (by simp only [Es_1, Es_0, e, bind_ok]) rfl (rng_nat (by omega))
theorem forL {α : Type} {all : List D} {g : Tg} {body : Ev → Hh → Res Out} (f : α → D) (P : List α → Ev → Hh → Prop) (xs : List α)
    (step : ∀ done x todo r h, xs = done ++ x :: todo → P done r h → ∃ r1, tgD g (f x) r = some r1 ∧ W (body r1 h) (LQ (P (done ++ [x])) K Q)) :
    ∀ (todo done : List α) (r : Ev) (h : Hh), xs = done ++ todo → P done r h → W (forD none all g body (todo.map f) r h) fun o => match o with | .nx r h => P xs r h ∨ K r h | o => Q o
  | [], done, r, h, e, p => by
    refine ⟨_, by simp only [List.map_nil, forD, stl, if_true]; rfl, ?_⟩
    rw [List.append_nil] at e
    subst e
    exact .inl p
  | x :: todo, done, r, h, e, p => by
    obtain ⟨r1, et, o, eb, q⟩ := step done x todo r h e p
    have e2 : xs = (done ++ [x]) ++ todo := by rw [e]; simp
    simp only [List.map_cons, forD, stl, if_true, et, eb, bind_ok]
    cases o with
    | nx r h => exact forL f P xs step todo (done ++ [x]) r h e2 q
    | ct r h => exact forL f P xs step todo (done ++ [x]) r h e2 q
    | bk r h => exact ⟨_, rfl, .inr q⟩
    | rt d h => exact ⟨_, rfl, q⟩
    | ex c r h => exact ⟨_, rfl, q⟩
theorem wfor_all {α : Type} {g : Tg} {it : Itr} {b : Sms} (f : α → D) (xs : List α) (P : List α → Ev → Hh → Prop) (ei : evI C it r h = .ok ((xs.map f, none), h)) (p : P [] r h)
    (step : ∀ done x todo r h, xs = done ++ x :: todo → P done r h → ∃ r1, tgD g (f x) r = some r1 ∧ W (evSs C b r1 h) (LQ (P (done ++ [x])) (fun r h => W (evSs C rest r h) Q) Q))
    (k : ∀ r h, P xs r h → W (evSs C rest r h) Q) : W (evSs C (.cons (.forr g it b) rest) r h) Q := by
  have F := forL (all := xs.map f) (g := g) (body := evSs C b) (K := fun r h => W (evSs C rest r h) Q) (Q := Q) f P xs step xs [] r h rfl p
  refine wst (o := forD none (xs.map f) g (evSs C b) (xs.map f) r h) (by rw [S_9, ei, lft_ok]) (wcont ?_)
  obtain ⟨o, e, q⟩ := F
  refine ⟨o, e, ?_⟩
  cases o with
  | nx r h => exact q.elim (k r h) id
  | _ => exact q
/-- a loop over 0 .. n - 1 -/
theorem wfor {g : Tg} {it : Itr} {b : Sms} (n : Nat) (P : Nat → Ev → Hh → Prop) (ei : evI C it r h = .ok (((List.range n).map fun i => .int (i : Nat), none), h)) (p : P 0 r h)
    (step : ∀ i r h, i < n → P i r h → ∃ r1, tgD g (.int (i : Nat)) r = some r1 ∧ W (evSs C b r1 h) (LQ (P (i + 1)) (fun r h => W (evSs C rest r h) Q) Q))
    (k : ∀ r h, P n r h → W (evSs C rest r h) Q) : W (evSs C (.cons (.forr g it b) rest) r h) Q := by
  refine wfor_all (fun i => .int (i : Nat)) (List.range n) (fun done r h => P done.length r h) ei p (fun done x todo r h e p => ?_) (fun r h p => k r h (by simpa using p))
  have hl : done.length + 1 + todo.length = n := by
    have := congrArg List.length e
    simp at this
    omega
  have hx : x = done.length := by
    have := congrArg (fun l => l[done.length]?) e
    simp at this
    have h2 : (List.range n)[done.length]? = some done.length := List.getElem?_range (by omega)
    rw [h2] at this
    exact (Option.some.inj this).symm
  subst hx
  obtain ⟨r1, e1, w⟩ := step done.length r h (by omega) p
  refine ⟨r1, e1, w.mono fun o q => ?_⟩
  cases o <;> simp only [LQ, List.length_append, List.length_singleton] at q ⊢ <;> exact q
/-- a loop over 0 .. n - 1 that changes nothing but what its own names hold -/
theorem wtmp {α : Type} {s : Nat} {it : Itr} {b : Sms} (n : Nat) (E : α → Ev) (a : α) (er : r = E a) (ei : evI C it r h = .ok (((List.range n).map fun i => .int (i : Nat), none), h))
    (step : ∀ i, i < n → ∀ a, W (evSs C b ((E a).set s (some (.int (i : Nat)))) h) (LQ (fun r h' => ∃ b, r = E b ∧ h' = h) (fun r h => W (evSs C rest r h) Q) Q))
    (k : ∀ b, W (evSs C rest (E b) h) Q) : W (evSs C (.cons (.forr (.name s) it b) rest) r h) Q := by
  subst er
  refine wfor n (fun _ r h' => ∃ b, r = E b ∧ h' = h) ei ⟨a, rfl, rfl⟩ (fun i r h' hi p => ?_) (fun r h' p => ?_)
  · obtain ⟨b, rfl, rfl⟩ := p
    exact ⟨_, rfl, step i hi b⟩
  · obtain ⟨b, rfl, rfl⟩ := p
    exact k b
end
section
variable {tr : Bool} {T : List Fd} {k f : Nat} {d : Fd} {ds : List D} {h : Hh}
/-- a def's run, out of its body's -/
theorem run_W {Q : D × Hh → Prop} (e : T[f]? = some d) (hl : ds.length = d.ps.length) (b : W (evSs (run tr T k) d.body (ds.map some ++ List.replicate (d.ns.length - ds.length) none) h) fun o => ∃ x h1 y, (o = .rt x h1 ∨ (x = .non ∧ ∃ r, o = .nx r h1)) ∧ fin d.keep h x h1 = .ok y ∧ Q y) :
    ∃ y, run tr T (k + 1) f ds h = .ok y ∧ Q y := by
  obtain ⟨o, eo, x, h1, y, c, hf, q⟩ := b
  refine ⟨y, ?_, q⟩
  rcases c with rfl | ⟨rfl, r, rfl⟩
  · exact run_rt e hl eo hf
  · exact run_nx e hl eo hf
end
end Fx
set_option Elab.async false
set_option linter.all false
namespace Fx
open PySem PySem.Spec PyProof.Rows L2
/-! ## what is raised -/
section
variable {T : List Fd} {k f : Nat} {d : Fd} {ds : List D} {h h1 : Hh} {r : Ev} {c : Nat}
@[simp] theorem lft_exc {α : Type} {g : α × Hh → Res Out} : lft r (.exc c h) g = .ok (.ex c r h) := (rfl)
theorem run_ex (e : T[f]? = some d) (hl : ds.length = d.ps.length) (b : evSs (run true T k) d.body (ds.map some ++ List.replicate (d.ns.length - ds.length) none) h = .ok (.ex c r h1)) (ht : h1.take h.length = h) :
    run true T (k + 1) f ds h = .exc c h := by
  simp only [run, e, if_pos hl, b, exR]
  rw [if_pos ⟨rfl, ht⟩]
theorem wex {C : Cal} {a : Sm} {rest : Sms} {Q : Out → Prop} (e : evS C a r h = .ok (.ex c r h1)) (q : Q (.ex c r h1)) : W (evSs C (.cons a rest) r h) Q := by
  refine wst e ?_
  rw [cont_ex]
  exact wok q
end
theorem led_append {R : Nat} (ss tt : List (Nat × Rat)) (v : Nat → Rat) : led R (ss ++ tt) v = led R tt (led R ss v) := List.foldl_append
theorem mat_append {R : Nat} {ss tt : List (Nat × Rat)} (ht : ∀ s ∈ tt, s.1 + 2 ≤ 2 * R) {i j : Nat} (hi : i < 2 * R) : mat R (ss ++ tt) i j = sumTo (2 * R) fun k => mat R tt i k * mat R ss k j := by
  unfold mat
  rw [led_append, led_sum ht _ hi]
  rfl
/-! ## the other way, and upside down -/
/-- currents the other way -/
def opp (R : Nat) (v : Nat → Rat) : Nat → Rat := fun i => if i < R then v i else -(v i)
theorem opp_stp {R : Nat} {s : Nat × Rat} (hk : s.1 + 2 ≤ 2 * R) (v : Nat → Rat) : stp R s (opp R (stp R s v)) = opp R v := by
  funext i
  unfold stp put opp
  by_cases ev : s.1 % 2 = 0
  · simp only [if_pos ev]
    by_cases z : i = s.1 / 2
    · simp only [z, if_true, if_pos (show s.1 / 2 < R by omega), if_neg (show ¬ R + s.1 / 2 < R by omega), if_neg (show ¬ R + s.1 / 2 = s.1 / 2 by omega)]
      grind
    · simp only [if_neg z]
  · simp only [if_neg ev, if_pos (show s.1 / 2 < R by omega), if_pos (show s.1 / 2 + 1 < R by omega), if_neg (show ¬ R + s.1 / 2 < R by omega), if_neg (show ¬ R + s.1 / 2 + 1 < R by omega)]
    have n1 : ¬ s.1 / 2 = R + s.1 / 2 + 1 := by omega
    have n2 : ¬ s.1 / 2 = R + s.1 / 2 := by omega
    have n3 : ¬ s.1 / 2 + 1 = R + s.1 / 2 + 1 := by omega
    have n4 : ¬ s.1 / 2 + 1 = R + s.1 / 2 := by omega
    have n5 : ¬ R + s.1 / 2 = R + s.1 / 2 + 1 := by omega
    have n6 : ¬ R + s.1 / 2 + 1 = R + s.1 / 2 := by omega
    simp only [if_neg n1, if_neg n2, if_neg n3, if_neg n4, if_neg n5, if_true]
    by_cases z : i = R + s.1 / 2 + 1
    · simp only [z, if_true, if_neg (show ¬ R + s.1 / 2 + 1 < R by omega), if_neg n6]
      grind
    · simp only [if_neg z]
      by_cases z2 : i = R + s.1 / 2
      · simp only [z2, if_true, if_neg (show ¬ R + s.1 / 2 < R by omega)]
        grind
      · simp only [if_neg z2]
theorem opp_led {R : Nat} : ∀ (ss : List (Nat × Rat)) (v : Nat → Rat), (∀ s ∈ ss, s.1 + 2 ≤ 2 * R) → led R ss.reverse (opp R (led R ss v)) = opp R v
  | [], v, _ => rfl
  | s :: ss, v, h => by
    show led R (s :: ss).reverse (opp R (led R ss (stp R s v))) = _
    rw [List.reverse_cons, led_append, opp_led ss _ fun x hx => h x (List.mem_cons_of_mem _ hx)]
    exact opp_stp (h s List.mem_cons_self) v
/-- the rails in turned order -/
def flp (R : Nat) (v : Nat → Rat) : Nat → Rat := fun i => if i < R then v (R - 1 - i) else v (R + (R - 1 - (i - R)))
def ups (R : Nat) (ss : List (Nat × Rat)) : List (Nat × Rat) := ss.map fun s => (2 * R - 2 - s.1, s.2)
theorem flp_stp {R : Nat} {s : Nat × Rat} (h2 : 2 ≤ R) (h4 : R ≤ 4) (hk : s.1 + 2 ≤ 2 * R) (v : Nat → Rat) {i : Nat} (hi : i < 2 * R) : stp R (2 * R - 2 - s.1, s.2) (flp R v) i = flp R (stp R s v) i := by
  obtain ⟨k, q⟩ := s
  have hh : (R = 2 ∧ (i = 0 ∨ i = 1 ∨ i = 2 ∨ i = 3)) ∨ (R = 3 ∧ (i = 0 ∨ i = 1 ∨ i = 2 ∨ i = 3 ∨ i = 4 ∨ i = 5)) ∨ (R = 4 ∧ (i = 0 ∨ i = 1 ∨ i = 2 ∨ i = 3 ∨ i = 4 ∨ i = 5 ∨ i = 6 ∨ i = 7)) := by omega
  have hc := kinds h2 h4 hk
  rcases hh with ⟨rfl, rfl | rfl | rfl | rfl⟩ | ⟨rfl, rfl | rfl | rfl | rfl | rfl | rfl⟩ | ⟨rfl, rfl | rfl | rfl | rfl | rfl | rfl | rfl | rfl⟩ <;>
    (rcases hc with ⟨e, hc⟩ | ⟨e, hc⟩ | ⟨e, hc⟩ <;> first | (exfalso; omega) | skip) <;>
    (first
      | (rcases hc with rfl | rfl | rfl <;> simp [stp, put, flp] <;> grind)
      | (rcases hc with rfl | rfl | rfl | rfl | rfl <;> simp [stp, put, flp] <;> grind)
      | (rcases hc with rfl | rfl | rfl | rfl | rfl | rfl | rfl <;> simp [stp, put, flp] <;> grind))
theorem led_ext {R : Nat} : ∀ (ss : List (Nat × Rat)) {v w : Nat → Rat}, (∀ s ∈ ss, s.1 + 2 ≤ 2 * R) → (∀ i, i < 2 * R → v i = w i) → ∀ i, i < 2 * R → led R ss v i = led R ss w i
  | [], _, _, _, h => h
  | s :: ss, v, w, hs, h => led_ext ss (v := stp R s v) (w := stp R s w) (fun x hx => hs x (List.mem_cons_of_mem _ hx)) fun i hi => stp_ext (hs s List.mem_cons_self) h hi
theorem ups_st {R : Nat} {ss : List (Nat × Rat)} (hs : ∀ s ∈ ss, s.1 + 2 ≤ 2 * R) : ∀ s ∈ ups R ss, s.1 + 2 ≤ 2 * R := fun s h => by
  obtain ⟨x, hx, rfl⟩ := List.mem_map.mp h
  have := hs x hx
  show 2 * R - 2 - x.1 + 2 ≤ 2 * R
  omega
theorem flp_led {R : Nat} (h2 : 2 ≤ R) (h4 : R ≤ 4) : ∀ (ss : List (Nat × Rat)) (v : Nat → Rat), (∀ s ∈ ss, s.1 + 2 ≤ 2 * R) → ∀ i, i < 2 * R → led R (ups R ss) (flp R v) i = flp R (led R ss v) i
  | [], v, _, i, _ => rfl
  | s :: ss, v, hs, i, hi => by
    show led R (ups R ss) (stp R (2 * R - 2 - s.1, s.2) (flp R v)) i = flp R (led R ss (stp R s v)) i
    rw [← flp_led h2 h4 ss _ (fun x hx => hs x (List.mem_cons_of_mem _ hx)) i hi]
    exact led_ext _ (ups_st fun x hx => hs x (List.mem_cons_of_mem _ hx)) (fun j hj => flp_stp h2 h4 (hs s List.mem_cons_self) v hj) i hi
theorem ups_ups {R : Nat} {ss : List (Nat × Rat)} (hs : ∀ s ∈ ss, s.1 + 2 ≤ 2 * R) : ups R (ups R ss) = ss := by
  unfold ups
  rw [List.map_map]
  refine (List.map_congr_left fun s h => ?_).trans (List.map_id ss)
  have := hs s h
  obtain ⟨k, q⟩ := s
  show (2 * R - 2 - (2 * R - 2 - k), q) = (k, q)
  dsimp only at this
  congr 1
  omega
end Fx
set_option Elab.async false
set_option linter.all false
namespace Fx
open PySem PySem.Spec PyProof.Rows L2
/-! ## slices -/
theorem cut_take {xs : List D} {k : Nat} : cutL xs none (some (k : Int)) = xs.take k := by
  unfold cutL
  rw [HT.sIx_nat, HT.sIx_none, List.drop_zero, Nat.sub_zero]
  by_cases h : k ≤ xs.length
  · rw [Nat.min_eq_left h]
  · rw [Nat.min_eq_right (by omega), List.take_of_length_le (Nat.le_refl _), List.take_of_length_le (by omega)]
theorem cut_drop {xs : List D} {k : Nat} : cutL xs (some (k : Int)) none = xs.drop k := by
  unfold cutL
  rw [HT.sIx_nat, HT.sIx_none]
  by_cases h : k ≤ xs.length
  · rw [Nat.min_eq_left h, List.take_of_length_le (by rw [List.length_drop]; exact Nat.le_refl _)]
  · rw [Nat.min_eq_right (by omega), List.drop_eq_nil_of_le (Nat.le_refl _), List.drop_eq_nil_of_le (by omega), List.take_nil]
theorem cut_mid {xs : List D} {a b : Nat} : cutL xs (some (a : Int)) (some (b : Int)) = (xs.drop a).take (b - a) := by
  unfold cutL
  rw [HT.sIx_nat, HT.sIx_nat]
  by_cases h : a ≤ xs.length
  · rw [Nat.min_eq_left h]
    by_cases h2 : b ≤ xs.length
    · rw [Nat.min_eq_left h2]
    · rw [Nat.min_eq_right (show xs.length ≤ b by omega), List.take_of_length_le (by rw [List.length_drop]; exact Nat.le_refl _), List.take_of_length_le (by rw [List.length_drop]; omega)]
  · rw [Nat.min_eq_right (show xs.length ≤ a by omega), List.drop_eq_nil_of_le (Nat.le_refl _), List.drop_eq_nil_of_le (show xs.length ≤ a by omega), List.take_nil, List.take_nil]
theorem sl_take {xs : List D} {k : Nat} {h : Hh} : slD (.tup xs) none (some (k : Int)) h = .ok (.tup (xs.take k)) := by simp only [slD, cut_take]
theorem sl_drop {xs : List D} {k : Nat} {h : Hh} : slD (.tup xs) (some (k : Int)) none h = .ok (.tup (xs.drop k)) := by simp only [slD, cut_drop]
theorem sl_mid {xs : List D} {a b : Nat} {h : Hh} : slD (.tup xs) (some (a : Int)) (some (b : Int)) h = .ok (.tup ((xs.drop a).take (b - a))) := by simp only [slD, cut_mid]
theorem add_tup {xs ys : List D} {m : Bool} {h : Hh} (l : xs.length + ys.length ≤ 1000) : opD .add m (.tup xs) (.tup ys) h = .ok (.tup (xs ++ ys), h) := by
  simp only [opD, addD]
  rw [if_pos (Nat.le_trans l (by decide))]
/-! ## live lists in the middle of the heap -/
theorem at_mid {h gs : Hh} {o : Ob} : (h ++ o :: gs)[h.length]? = some o := by simp
theorem set_mid {h gs : Hh} {o o' : Ob} : (h ++ o :: gs).set h.length o' = h ++ o' :: gs := by simp
theorem lst_mid {h gs : Hh} {xs : List D} : lstOf (h ++ .lst xs :: gs) (.ref h.length) = some xs := by simp only [lstOf, at_mid]
theorem app_mid {h gs : Hh} {xs : List D} {d : D} (l : xs.length < 1000000) : mtD .append (.ref h.length) [d] (h ++ .lst xs :: gs) = .ok (.non, h ++ .lst (xs ++ [d]) :: gs) := by
  simp only [mtD, one, onL, at_mid, set_mid]
  rw [if_pos (Nat.lt_of_lt_of_le l (by decide))]
theorem tup_mid {h gs : Hh} {xs : List D} {m : Bool} : biD .tuple m [.ref h.length] (h ++ .lst xs :: gs) = .ok (.tup xs, h ++ .lst xs :: gs) := by simp only [biD, one, lst_mid]
theorem vec_succ {n : Nat} {v : Nat → Rat} : vec (n + 1) v = vec n v ++ [fr (v n)] := by unfold vec; rw [List.range_succ, List.map_append]; rfl
/-! ## square tables -/
def mtx (n : Nat) (A : Nat → Nat → Rat) : D := .tup ((List.range n).map fun i => .tup (vec n (A i)))
theorem matD_mtx {R : Nat} {ss : List (Nat × Rat)} : matD R ss = mtx (2 * R) (mat R ss) := rfl
theorem mtx_len {n : Nat} {A : Nat → Nat → Rat} {m : Bool} {h : Hh} : biD .len m [mtx n A] h = .ok (.int (n : Nat), h) := by
  simp [mtx, biD, one, seqOf]
theorem mtx_ix {n i : Nat} {A : Nat → Nat → Rat} (hi : i < n) (h : Hh) : ixD (mtx n A) (.int (i : Nat)) h = .ok (.tup (vec n (A i))) := ix_tup (by rw [List.getElem?_map, List.getElem?_range hi]; rfl)
theorem pln_mtx {n : Nat} {A : Nat → Nat → Rat} : pln (mtx n A) = true := by
  unfold mtx
  rw [pln]
  exact plnL_map _ (fun x => by rw [pln]; exact pln_vec) _
theorem mtx_congr {n : Nat} {A B : Nat → Nat → Rat} (e : ∀ i j, i < n → j < n → A i j = B i j) : mtx n A = mtx n B := by
  unfold mtx
  congr 1
  apply List.map_congr_left
  intro i hi
  rw [vec_congr fun j hj => e i j (List.mem_range.mp hi) hj]
theorem rev_vec {n : Nat} {v : Nat → Rat} : (vec n v).reverse = vec n fun i => v (n - 1 - i) := by
  refine vec_ext (by simp) fun i hi => ?_
  rw [List.getElem?_reverse (by simpa using hi), vec_length]
  exact vec_get (by omega)
end Fx
set_option Elab.async false
set_option linter.all false
namespace Fx
open PySem PySem.Spec PyProof.Rows L2
/-! ## steps put together, exchanged, turned -/
theorem stpE (R r : Nat) (q : Rat) (v : Nat → Rat) (i : Nat) : stp R (2 * r, q) v i = if i = r then v r + -(q * v (R + r)) else v i := by
  unfold stp put
  rw [if_pos (show 2 * r % 2 = 0 by omega), show 2 * r / 2 = r by omega]
theorem stpO (R r : Nat) (q : Rat) (v : Nat → Rat) (i : Nat) : stp R (2 * r + 1, q) v i = if i = R + r + 1 then v (R + r + 1) + q * (v r + -(v (r + 1))) else if i = R + r then v (R + r) + -(q * (v r + -(v (r + 1)))) else v i := by
  unfold stp put
  rw [if_neg (show ¬ (2 * r + 1) % 2 = 0 by omega), show (2 * r + 1) / 2 = r by omega]
theorem par (k : Nat) : ∃ r, k = 2 * r ∨ k = 2 * r + 1 := ⟨k / 2, by omega⟩
theorem join_stp {R k : Nat} {a b : Rat} (hk : k + 2 ≤ 2 * R) (v : Nat → Rat) : stp R (k, b) (stp R (k, a) v) = stp R (k, a + b) v := by
  funext i
  obtain ⟨r, rfl | rfl⟩ := par k
  · simp only [stpE]
    grind
  · simp only [stpO]
    grind
theorem swap_stp {R k l : Nat} {a b : Rat} (hk : k + 2 ≤ 2 * R) (hl : l + 2 ≤ 2 * R) (h : k + 1 < l ∨ l + 1 < k) (v : Nat → Rat) : stp R (l, b) (stp R (k, a) v) = stp R (k, a) (stp R (l, b) v) := by
  funext i
  obtain ⟨r, rfl | rfl⟩ := par k <;> obtain ⟨s, rfl | rfl⟩ := par l
  · simp only [stpE]
    grind
  · simp only [stpE, stpO]
    grind
  · simp only [stpE, stpO]
    grind
  · simp only [stpO]
    grind
/-- three steps turned, by their sizes' laws alone -/
theorem turn_stp {R k l : Nat} {a b c p q w : Rat} (hk : k + 2 ≤ 2 * R) (hl : l + 2 ≤ 2 * R) (h : k + 1 = l ∨ l + 1 = k) (h1 : p * w = b * c) (h2 : q * w = a * b) (h3 : p + q + p * w * q = b) (h4 : w = a + c + a * b * c) (v : Nat → Rat) :
    stp R (l, q) (stp R (k, w) (stp R (l, p) v)) = stp R (k, c) (stp R (l, b) (stp R (k, a) v)) := by
  funext i
  obtain ⟨r, rfl | rfl⟩ := par k <;> obtain ⟨s, rfl | rfl⟩ := par l
  · omega
  · have hs : s = r ∨ r = s + 1 := by omega
    rcases hs with rfl | rfl
    · simp only [stpE, stpO]
      grind
    · simp only [stpE, stpO]
      grind
  · have hs : r = s ∨ s = r + 1 := by omega
    rcases hs with rfl | rfl
    · simp only [stpE, stpO]
      grind
    · simp only [stpE, stpO]
      grind
  · omega
end Fx
set_option Elab.async false
set_option linter.all false
namespace Fx
open PySem PySem.Spec PyProof.Rows L2
inductive Mv where | join (n : Nat) | swap (n : Nat) | turn (n : Nat)
deriving DecidableEq
def Mv.at : Mv → Nat
  | .join n => n | .swap n => n | .turn n => n
def Mv.nm : Mv → Str
  | .join _ => "join" | .swap _ => "swap" | .turn _ => "turn"
def mvD (m : Mv) : D := .tup [.str m.nm, .int (m.at : Nat)]
def mvsAt (ks : List Nat) (n : Nat) : List Mv :=
  match ks[n]?, ks[n + 1]? with
  | some a, some b => if a = b then [.join n] else if a + 1 = b ∨ b + 1 = a then (if ks[n + 2]? = some a then [.turn n] else []) else [.swap n]
  | _, _ => []
def mvs (ks : List Nat) : List Mv := (List.range (ks.length - 1)).flatMap (mvsAt ks)
abbrev kds (ss : List (Nat × Rat)) : List Nat := ss.map (·.1)
def wh (a b c : Rat) : Rat := a + c + a * b * c
inductive Mvd : List (Nat × Rat) → Mv → List (Nat × Rat) → Prop
  | join (pre post : List (Nat × Rat)) (k : Nat) (a b : Rat) : Mvd (pre ++ (k, a) :: (k, b) :: post) (.join pre.length) (pre ++ (k, a + b) :: post)
  | swap (pre post : List (Nat × Rat)) (x y : Nat × Rat) (h : x.1 + 1 < y.1 ∨ y.1 + 1 < x.1) : Mvd (pre ++ x :: y :: post) (.swap pre.length) (pre ++ y :: x :: post)
  | turn (pre post : List (Nat × Rat)) (k l : Nat) (a b c : Rat) (h : k + 1 = l ∨ l + 1 = k) : Mvd (pre ++ (k, a) :: (l, b) :: (k, c) :: post) (.turn pre.length) (pre ++ (l, b * c / wh a b c) :: (k, wh a b c) :: (l, a * b / wh a b c) :: post)
theorem split2 {α : Type} {xs : List α} {n : Nat} {x y : α} (h1 : xs[n]? = some x) (h2 : xs[n + 1]? = some y) : ∃ pre post, xs = pre ++ x :: y :: post ∧ pre.length = n := by
  obtain ⟨l1, e1⟩ := List.getElem?_eq_some_iff.mp h1
  obtain ⟨l2, e2⟩ := List.getElem?_eq_some_iff.mp h2
  refine ⟨xs.take n, xs.drop (n + 2), ?_, by rw [List.length_take]; omega⟩
  conv => lhs; rw [← List.take_append_drop n xs, List.drop_eq_getElem_cons l1, List.drop_eq_getElem_cons l2, e1, e2]
theorem kds_get {ss : List (Nat × Rat)} {n k : Nat} (h : (kds ss)[n]? = some k) : ∃ q, ss[n]? = some (k, q) := by
  rw [List.getElem?_map] at h
  cases e : ss[n]? with
  | none => rw [e] at h; cases h
  | some s =>
    rw [e] at h
    cases h
    exact ⟨s.2, rfl⟩
theorem mvs_ok {ss : List (Nat × Rat)} {m : Mv} (h : m ∈ mvs (kds ss)) : ∃ ss', Mvd ss m ss' := by
  obtain ⟨n, hn, hm⟩ := List.mem_flatMap.mp h
  unfold mvsAt at hm
  split at hm
  · rename_i a b ea eb
    obtain ⟨qa, ea⟩ := kds_get ea
    obtain ⟨qb, eb⟩ := kds_get eb
    split at hm
    · rename_i hab
      subst hab
      rw [List.mem_singleton.mp hm]
      obtain ⟨pre, post, rfl, rfl⟩ := split2 ea eb
      exact ⟨_, .join pre post a qa qb⟩
    · split at hm
      · rename_i hadj
        split at hm
        · rename_i ec
          obtain ⟨qc, ec⟩ := kds_get ec
          rw [List.mem_singleton.mp hm]
          obtain ⟨pre, post, rfl, rfl⟩ := split2 ea eb
          have : post[0]? = some (a, qc) := by
            rw [List.getElem?_append_right (by omega)] at ec
            simpa using ec
          cases post with
          | nil => simp at this
          | cons z post =>
            simp at this
            subst this
            exact ⟨_, .turn pre post a b qa qb qc hadj⟩
        · simp at hm
      · rw [List.mem_singleton.mp hm]
        obtain ⟨pre, post, rfl, rfl⟩ := split2 ea eb
        exact ⟨_, .swap pre post (a, qa) (b, qb) (by show a + 1 < b ∨ b + 1 < a; omega)⟩
  · simp at hm
theorem Mvd.mem {ss ss' : List (Nat × Rat)} {m : Mv} (h : Mvd ss m ss') : m ∈ mvs (kds ss) := by
  cases h with
  | join pre post k a b =>
    refine List.mem_flatMap.mpr ⟨pre.length, List.mem_range.mpr (by simp), ?_⟩
    simp [mvsAt]
  | swap pre post x y h =>
    refine List.mem_flatMap.mpr ⟨pre.length, List.mem_range.mpr (by simp), ?_⟩
    have h1 : x.1 ≠ y.1 := by omega
    have h2 : ¬ (x.1 + 1 = y.1 ∨ y.1 + 1 = x.1) := by omega
    simp [mvsAt, h1]
    rw [if_neg h2]
    simp
  | turn pre post k l a b c h =>
    refine List.mem_flatMap.mpr ⟨pre.length, List.mem_range.mpr (by simp), ?_⟩
    have h1 : k ≠ l := by omega
    simp [mvsAt, h1]
    rw [if_pos h]
    simp
def StP (R : Nat) (s : Nat × Rat) : Prop := s.1 + 2 ≤ 2 * R ∧ 0 < s.2
theorem wh_pos {a b c : Rat} (ha : 0 < a) (hb : 0 < b) (hc : 0 < c) : 0 < wh a b c := by
  unfold wh
  have h1 := Rat.mul_pos (Rat.mul_pos ha hb) hc
  grind
theorem turn_laws {a b c : Rat} (hw : 0 < wh a b c) : (b * c / wh a b c) * wh a b c = b * c ∧ (a * b / wh a b c) * wh a b c = a * b ∧ b * c / wh a b c + a * b / wh a b c + b * c / wh a b c * wh a b c * (a * b / wh a b c) = b := by
  have h0 : wh a b c ≠ 0 := by grind
  have h1 : (b * c / wh a b c) * wh a b c = b * c := Rat.div_mul_cancel h0
  have h2 : (a * b / wh a b c) * wh a b c = a * b := Rat.div_mul_cancel h0
  refine ⟨h1, h2, ?_⟩
  have e : wh a b c = a + c + a * b * c := rfl
  generalize wh a b c = w at *
  generalize b * c / w = p at *
  generalize a * b / w = q at *
  have h3 : (p + q + p * w * q - b) * w = 0 := by grind
  rcases Rat.mul_eq_zero.mp h3 with h | h
  · grind
  · exact absurd h h0
theorem Mvd.led_eq {R : Nat} {ss ss' : List (Nat × Rat)} {m : Mv} (h : Mvd ss m ss') (hs : ∀ s ∈ ss, StP R s) (v : Nat → Rat) : led R ss' v = led R ss v := by
  cases h with
  | join pre post k a b =>
    have hk := (hs (k, a) (by simp)).1
    rw [led_append, led_append]
    show led R post (stp R (k, a + b) _) = led R post (stp R (k, b) (stp R (k, a) _))
    rw [join_stp hk]
  | swap pre post x y h =>
    have hx := (hs x (by simp)).1
    have hy := (hs y (by simp)).1
    obtain ⟨k, a⟩ := x
    obtain ⟨l, b⟩ := y
    rw [led_append, led_append]
    show led R post (stp R (k, a) (stp R (l, b) _)) = led R post (stp R (l, b) (stp R (k, a) _))
    rw [swap_stp hx hy h]
  | turn pre post k l a b c h =>
    have hk := (hs (k, a) (by simp))
    have hl := (hs (l, b) (by simp))
    have hc := (hs (k, c) (by simp))
    obtain ⟨h1, h2, h3⟩ := turn_laws (wh_pos hk.2 hl.2 hc.2)
    rw [led_append, led_append]
    show led R post (stp R (l, a * b / wh a b c) (stp R (k, wh a b c) (stp R (l, b * c / wh a b c) _))) = led R post (stp R (k, c) (stp R (l, b) (stp R (k, a) _)))
    rw [turn_stp hk.1 hl.1 h h1 h2 h3 rfl]
theorem rat_div_pos {a b : Rat} (ha : 0 < a) (hb : 0 < b) : 0 < a / b := by
  rw [Rat.div_def]
  exact Rat.mul_pos ha (Rat.inv_pos.mpr hb)
theorem Mvd.stp_ok {R : Nat} {ss ss' : List (Nat × Rat)} {m : Mv} (h : Mvd ss m ss') (hs : ∀ s ∈ ss, StP R s) : ∀ s ∈ ss', StP R s := by
  intro s hm
  cases h with
  | join pre post k a b =>
    have hk := (hs (k, a) (by simp))
    have hl := (hs (k, b) (by simp))
    simp only [List.mem_append, List.mem_cons] at hm
    rcases hm with h | rfl | h
    · exact hs s (by simp [h])
    · exact ⟨hk.1, by have h1 := hk.2; have h2 := hl.2; show 0 < a + b; dsimp only at h1 h2; grind⟩
    · exact hs s (by simp [h])
  | swap pre post x y h =>
    simp only [List.mem_append, List.mem_cons] at hm
    rcases hm with h | rfl | rfl | h
    · exact hs s (by simp [h])
    · exact hs _ (by simp)
    · exact hs _ (by simp)
    · exact hs s (by simp [h])
  | turn pre post k l a b c h =>
    have hk := (hs (k, a) (by simp))
    have hl := (hs (l, b) (by simp))
    have hc := (hs (k, c) (by simp))
    have hw := wh_pos hk.2 hl.2 hc.2
    simp only [List.mem_append, List.mem_cons] at hm
    rcases hm with h | rfl | rfl | rfl | h
    · exact hs s (by simp [h])
    · exact ⟨hl.1, rat_div_pos (Rat.mul_pos hl.2 hc.2) hw⟩
    · exact ⟨hk.1, hw⟩
    · exact ⟨hl.1, rat_div_pos (Rat.mul_pos hk.2 hl.2) hw⟩
    · exact hs s (by simp [h])
theorem Mvd.back {R : Nat} {ss ss' : List (Nat × Rat)} {m : Mv} (h : Mvd ss m ss') (hs : ∀ s ∈ ss, StP R s) (hj : ∀ n, m ≠ .join n) : Mvd ss' m ss := by
  cases h with
  | join pre post k a b => exact absurd rfl (hj _)
  | swap pre post x y h => exact .swap pre post y x h.symm
  | turn pre post k l a b c h =>
    have hk := (hs (k, a) (by simp))
    have hl := (hs (l, b) (by simp))
    have hc := (hs (k, c) (by simp))
    obtain ⟨h1, h2, h3⟩ := turn_laws (wh_pos hk.2 hl.2 hc.2)
    have := Mvd.turn pre post l k (b * c / wh a b c) (wh a b c) (a * b / wh a b c) h.symm
    have hb : b ≠ 0 := by have := hl.2; dsimp only at this; grind
    have e0 : wh (b * c / wh a b c) (wh a b c) (a * b / wh a b c) = b := h3
    have e1 : wh a b c * (a * b / wh a b c) / b = a := by
      rw [Rat.mul_comm (wh a b c), h2, Rat.mul_div_cancel hb]
    have e2 : b * c / wh a b c * wh a b c / b = c := by
      rw [h1, Rat.mul_comm b c, Rat.mul_div_cancel hb]
    rw [e0, e1, e2] at this
    exact this
end Fx
set_option Elab.async false
set_option linter.all false
namespace Fx
open PySem PySem.Spec PyProof.Rows L2
/-! ## quotients -/
theorem div_mk {a b : Rat} (hb : 0 < b.num) : a / b = mkRat (a.num * b.den) (a.den * b.num.natAbs) := by
  have h1 : (a.num : Rat) / (a.den : Rat) = a := (Rat.mkRat_eq_div _ _).symm.trans (Rat.mkRat_self a)
  have h2 : (b.num : Rat) / (b.den : Rat) = b := (Rat.mkRat_eq_div _ _).symm.trans (Rat.mkRat_self b)
  have hn : ((b.num.natAbs : Nat) : Rat) = (b.num : Rat) := by
    have : ((b.num.natAbs : Nat) : Int) = b.num := by omega
    rw [← Rat.intCast_natCast, this]
  have hu : (b.num : Rat) ≠ 0 := fun z => by
    have : b.num = 0 := by exact_mod_cast z
    omega
  have ha : (a.den : Rat) ≠ 0 := fun z => by
    have := a.den_pos
    have : a.den = 0 := by exact_mod_cast z
    omega
  have hv : (b.den : Rat) ≠ 0 := fun z => by
    have := b.den_pos
    have : b.den = 0 := by exact_mod_cast z
    omega
  rw [Rat.mkRat_eq_div, Rat.intCast_mul, Rat.natCast_mul, hn, Rat.intCast_natCast]
  conv => lhs; rw [← h1, ← h2]
  generalize (a.num : Rat) = x at *
  generalize (a.den : Rat) = y at *
  generalize (b.num : Rat) = u at *
  generalize (b.den : Rat) = w at *
  grind
theorem Bd.div {n m : Nat} {a b : Rat} (ha : Bd n a) (hb : Bd m b) (h0 : 0 < b.num) : Bd (n + m) (a / b) := by
  rw [div_mk h0]
  refine mk_bits ?_ ?_ (Nat.mul_pos a.den_pos (by omega))
  · rw [Int.natAbs_mul, Int.natAbs_natCast]; exact mul_bits ha.1 hb.2
  · exact mul_bits ha.2 hb.1
theorem num_pos {q : Rat} (h : 0 < q) : 0 < q.num := by
  have h1 := Rat.num_nonneg.mpr (Rat.le_of_lt h)
  have h2 : q.num ≠ 0 := fun z => by
    rw [Rat.num_eq_zero.mp z] at h
    exact absurd h (by decide)
  omega
theorem pos_num {q : Rat} (h : 0 < q.num) : 0 < q := by
  have h1 := Rat.num_nonneg.mp (Int.le_of_lt h)
  have h2 : q ≠ 0 := fun z => by subst z; exact absurd h (by decide)
  grind
theorem NetOk.stp {R bb : Nat} {ss : List (Nat × Rat)} (H : NetOk R ss bb) : ∀ s ∈ ss, StP R s := fun s hs => ⟨(H.st s hs).kind, pos_num (H.st s hs).pos⟩
theorem Mvd.len {ss ss' : List (Nat × Rat)} {m : Mv} (h : Mvd ss m ss') : ss'.length ≤ ss.length := by
  cases h <;> simp
theorem Mvd.netok {R : Nat} {ss ss' : List (Nat × Rat)} {m : Mv} (h : Mvd ss m ss') (H : NetOk R ss) : NetOk R ss' 60 := by
  have hp := h.stp_ok H.stp
  refine ⟨H.lo, H.hi, Nat.le_trans h.len H.len, fun s hs => ⟨(hp s hs).1, num_pos (hp s hs).2, ?_⟩⟩
  have hb : ∀ s ∈ ss, Bd 7 s.2 := fun s hs => (H.st s hs).bd
  have hn : ∀ s ∈ ss, 0 < s.2 := fun s hs => pos_num (H.st s hs).pos
  clear hp H
  cases h with
  | join pre post k a b =>
    have h1 := hb (k, a) (by simp)
    have h2 := hb (k, b) (by simp)
    simp only [List.mem_append, List.mem_cons] at hs
    rcases hs with h | rfl | h
    · exact (hb s (by simp [h])).mono (by decide)
    · exact (h1.add h2).mono (by decide)
    · exact (hb s (by simp [h])).mono (by decide)
  | swap pre post x y h =>
    simp only [List.mem_append, List.mem_cons] at hs
    rcases hs with h | rfl | rfl | h
    · exact (hb s (by simp [h])).mono (by decide)
    · exact (hb _ (by simp)).mono (by decide)
    · exact (hb _ (by simp)).mono (by decide)
    · exact (hb s (by simp [h])).mono (by decide)
  | turn pre post k l a b c h =>
    have h1 := hb (k, a) (by simp)
    have h2 := hb (l, b) (by simp)
    have h3 := hb (k, c) (by simp)
    have hw := num_pos (wh_pos (hn (k, a) (by simp)) (hn (l, b) (by simp)) (hn (k, c) (by simp)))
    have bw : Bd 37 (wh a b c) := ((h1.add h3).add ((h1.mul h2).mul h3)).mono (by decide)
    simp only [List.mem_append, List.mem_cons] at hs
    rcases hs with h | rfl | rfl | rfl | h
    · exact (hb s (by simp [h])).mono (by decide)
    · exact ((h2.mul h3).div bw hw).mono (by decide)
    · exact bw.mono (by decide)
    · exact ((h1.mul h2).div bw hw).mono (by decide)
    · exact (hb s (by simp [h])).mono (by decide)
theorem NetOk.up {R b b' : Nat} {ss : List (Nat × Rat)} (H : NetOk R ss b) (l : b ≤ b') : NetOk R ss b' := ⟨H.lo, H.hi, H.len, fun s hs => ⟨(H.st s hs).kind, (H.st s hs).pos, (H.st s hs).bd.mono l⟩⟩
/-! ## moves as data -/
theorem sok_join : PyData.strOk (Str.ofString "join") = true := by decide +kernel
theorem sok_swap : PyData.strOk (Str.ofString "swap") = true := by decide +kernel
theorem sok_turn : PyData.strOk (Str.ofString "turn") = true := by decide +kernel
theorem pln_mv (m : Mv) : pln (mvD m) = true := by
  cases m <;> simp [mvD, Mv.nm, pln, plnL, sok_join, sok_swap, sok_turn]
theorem dep_mv (m : Mv) : dep (mvD m) ≤ 1 := by simp [mvD, dep, depL]
theorem srt_mv {L : List Mv} (hl : L.length ≤ 1000) : srtOk (L.map mvD) = true := by
  unfold srtOk
  simp only [Bool.and_eq_true, Bool.or_eq_true, decide_eq_true_eq, List.all_eq_true, List.length_map]
  have hd := depL_map mvD 1 dep_mv L
  refine ⟨⟨⟨⟨plnL_map mvD pln_mv L, by omega⟩, by omega⟩, fun x hx y hy => ?_⟩, .inl fun x hx => ?_⟩
  · obtain ⟨m, _, rfl⟩ := List.mem_map.mp hx
    obtain ⟨m', _, rfl⟩ := List.mem_map.mp hy
    simp [mvD, cv, cvL, PySem.W.alike, PySem.W.alikeAll]
  · obtain ⟨m, _, rfl⟩ := List.mem_map.mp hx
    rfl
theorem srt_perm (xs : List D) : (sortL xs).Perm xs := List.mergeSort_perm _ _
theorem srt_pln {xs : List D} (h : plnL xs = true) : plnL (sortL xs) = true := by
  have key : ∀ {ys : List D}, (∀ x ∈ ys, pln x = true) → plnL ys = true := by
    intro ys
    induction ys with
    | nil => intro _; rfl
    | cons y ys ih =>
      intro h
      simp only [plnL, h y List.mem_cons_self, ih fun x hx => h x (List.mem_cons_of_mem _ hx), Bool.and_self]
  exact key fun x hx => pln_mem h ((srt_perm xs).mem_iff.mp hx)
theorem srt_dep {xs : List D} {b : Nat} (h : depL xs ≤ b) : depL (sortL xs) ≤ b := by
  have key : ∀ {ys : List D}, (∀ x ∈ ys, dep x ≤ b) → depL ys ≤ b := by
    intro ys
    induction ys with
    | nil => intro _; exact Nat.zero_le _
    | cons y ys ih =>
      intro h
      simp only [depL]
      exact Nat.max_le.mpr ⟨h y List.mem_cons_self, ih fun x hx => h x (List.mem_cons_of_mem _ hx)⟩
  exact key fun x hx => Nat.le_trans (dep_mem ((srt_perm xs).mem_iff.mp hx)) h
theorem srt_any {xs : List D} {f : D → Bool} : (sortL xs).any f = xs.any f := by
  rw [Bool.eq_iff_iff]
  simp only [List.any_eq_true]
  exact ⟨fun ⟨x, hx, h⟩ => ⟨x, (srt_perm xs).mem_iff.mp hx, h⟩, fun ⟨x, hx, h⟩ => ⟨x, (srt_perm xs).mem_iff.mpr hx, h⟩⟩
theorem deq_mv (m m' : Mv) : deq (mvD m) (mvD m') = decide (m = m') := by
  cases m <;> cases m' <;> simp only [mvD, Mv.nm, Mv.at, deq, deqL, Bool.and_true, Mv.join.injEq, Mv.swap.injEq, Mv.turn.injEq, reduceCtorEq, decide_false] <;> first
    | (simp; done)
    | (rw [show ∀ x : Str, (x == x) = true from fun x => beq_self_eq_true x, Bool.true_and, Bool.eq_iff_iff]; simp; done)
    | (rw [show ∀ x : Str, (x == x) = true from fun x => beq_self_eq_true x, Bool.true_and, Bool.eq_iff_iff]; simp; omega)
    | (rw [show (Str.ofString "join" == Str.ofString "swap") = false by decide +kernel]; rfl)
    | (rw [show (Str.ofString "join" == Str.ofString "turn") = false by decide +kernel]; rfl)
    | (rw [show (Str.ofString "swap" == Str.ofString "join") = false by decide +kernel]; rfl)
    | (rw [show (Str.ofString "swap" == Str.ofString "turn") = false by decide +kernel]; rfl)
    | (rw [show (Str.ofString "turn" == Str.ofString "join") = false by decide +kernel]; rfl)
    | (rw [show (Str.ofString "turn" == Str.ofString "swap") = false by decide +kernel]; rfl)
theorem in_mvs {L : List Mv} {a : D} {h : Hh} {c : D} (hc : seqOf h c = some (sortL (L.map mvD)) ∨ seqOf h c = some (L.map mvD)) (hf : flat a = false) (hp : pln a = true) (hd : dep a ≤ 60) :
    inD h a c = .ok ((L.map mvD).any fun y => deq y a) := by
  have p1 := plnL_map mvD pln_mv L
  have d1 := depL_map mvD 1 dep_mv L
  unfold inD
  rcases hc with e | e
  · rw [e]
    simp only [hf, Bool.false_eq_true, false_and, if_false]
    rw [if_pos ⟨hp, srt_pln p1, hd, Nat.le_trans (srt_dep d1) (by decide)⟩, srt_any]
  · rw [e]
    simp only [hf, Bool.false_eq_true, false_and, if_false]
    rw [if_pos ⟨hp, p1, hd, by omega⟩]
theorem any_mv {L : List Mv} {m : Mv} : ((L.map mvD).any fun y => deq y (mvD m)) = decide (m ∈ L) := by
  rw [List.any_map]
  show (L.any fun x => deq (mvD x) (mvD m)) = _
  simp only [deq_mv]
  rw [Bool.eq_iff_iff]
  simp
end Fx
set_option Elab.async false
set_option linter.all false
namespace Fx
open PySem PySem.Spec PyProof.Rows L2
/-! ## loops over a live list -/
section
variable {C : Cal} {r r1 : Ev} {h h1 : Hh} {Q : Out → Prop} {K : Ev → Hh → Prop} {rest : Sms}
theorem forLs {α : Type} {src : Option Nat} {all : List D} {g : Tg} {body : Ev → Hh → Res Out} (f : α → D) (P : List α → Ev → Hh → Prop) (xs : List α) (hst : ∀ done r h, P done r h → stl src all h = true)
    (step : ∀ done x todo r h, xs = done ++ x :: todo → P done r h → ∃ r1, tgD g (f x) r = some r1 ∧ W (body r1 h) (LQ (P (done ++ [x])) K Q)) :
    ∀ (todo done : List α) (r : Ev) (h : Hh), xs = done ++ todo → P done r h → W (forD src all g body (todo.map f) r h) fun o => match o with | .nx r h => P xs r h ∨ K r h | o => Q o
  | [], done, r, h, e, p => by
    refine ⟨_, by simp only [List.map_nil, forD, hst _ _ _ p, if_true]; rfl, ?_⟩
    rw [List.append_nil] at e
    subst e
    exact .inl p
  | x :: todo, done, r, h, e, p => by
    obtain ⟨r1, et, o, eb, q⟩ := step done x todo r h e p
    have e2 : xs = (done ++ [x]) ++ todo := by rw [e]; simp
    simp only [List.map_cons, forD, hst _ _ _ p, if_true, et, eb, bind_ok]
    cases o with
    | nx r h => exact forLs f P xs hst step todo (done ++ [x]) r h e2 q
    | ct r h => exact forLs f P xs hst step todo (done ++ [x]) r h e2 q
    | bk r h => exact ⟨_, rfl, .inr q⟩
    | rt d h => exact ⟨_, rfl, q⟩
    | ex c r h => exact ⟨_, rfl, q⟩
theorem wfor_live {α : Type} {g : Tg} {a : Ex} {b : Sms} {n : Nat} (f : α → D) (xs : List α) (P : List α → Ev → Hh → Prop) (ei : evE C a r h = .ok (.ref n, h)) (p : P [] r h) (hst : ∀ done r h, P done r h → h[n]? = some (.lst (xs.map f)))
    (step : ∀ done x todo r h, xs = done ++ x :: todo → P done r h → ∃ r1, tgD g (f x) r = some r1 ∧ W (evSs C b r1 h) (LQ (P (done ++ [x])) (fun r h => W (evSs C rest r h) Q) Q))
    (k : ∀ r h, P xs r h → W (evSs C rest r h) Q) : W (evSs C (.cons (.forr g (.seq a) b) rest) r h) Q := by
  have e1 := hst _ _ _ p
  have F := forLs (src := some n) (all := xs.map f) (g := g) (body := evSs C b) (K := fun r h => W (evSs C rest r h) Q) (Q := Q) f P xs (fun done r h p => by
    simp only [stl, hst _ _ _ p]
    exact samL_refl _) step xs [] r h rfl p
  refine wst (o := forD (some n) (xs.map f) g (evSs C b) (xs.map f) r h) (by rw [S_9, I_0, ei, bind_ok]; simp only [walkD, e1, nox_ok, bind_ok, lft_ok]) (wcont ?_)
  obtain ⟨o, e, q⟩ := F
  refine ⟨o, e, ?_⟩
  cases o with
  | nx r h => exact q.elim (k r h) id
  | _ => exact q
/-- a comprehension that keeps nothing -/
theorem comp_none {m : Bool} {own : List Nat} {g : Tg} {a elt t : Ex} {d : D} {xs : List D} (e1 : evE C a r h = .ok (d, h)) (ew : walkD d h = .ok (xs, none)) (hl : xs.length ≤ 1000000)
    (H : ∀ x ∈ xs, ∃ r1, tgD g x (wip r own) = some r1 ∧ evE C t r1 h = .ok (.bl false, h)) : evE C (.comp m own g (.seq a) (.some t) elt) r h = mkL m [] h := by
  have key : ∀ ys : List D, (∀ x ∈ ys, x ∈ xs) → compD none xs g (wip r own) (evC C (.some t)) (evE C elt) ys h = .ok ([], h) := by
    intro ys
    induction ys with
    | nil => intro _; simp only [compD, stl, if_true]
    | cons y ys ih =>
      intro hy
      obtain ⟨r1, e2, e3⟩ := H y (hy y List.mem_cons_self)
      simp only [compD, stl, if_true, e2, C_1, e3, bind_ok, asB_bl, nox_ok, Bool.false_eq_true, if_false, ih fun x hx => hy x (List.mem_cons_of_mem _ hx)]
  exact comp_aux (by rw [I_0, e1, bind_ok]; simp only [ew, nox_ok, bind_ok]) (Nat.le_trans hl (by decide)) (key xs fun x hx => hx)
end
end Fx
set_option Elab.async false
set_option linter.all false
namespace Fx
/-! ## orders of rows of kinds, in plain Lean -/
/-- the things at k, k + 1 exchanged -/
def swp (r : List Int) (k : Nat) : List Int := r.take k ++ [r.getD (k + 1) 0, r.getD k 0] ++ r.drop (k + 2)
/-- the pairs that stand the wrong way round -/
def inv : List Int → Nat
  | [] => 0
  | x :: xs => (xs.filter (· < x)).length + inv xs
theorem cut2 {r : List Int} {k : Nat} (h : k + 1 < r.length) : r = r.take k ++ r.getD k 0 :: r.getD (k + 1) 0 :: r.drop (k + 2) := by
  have e1 : r.drop k = r.getD k 0 :: r.drop (k + 1) := by
    rw [List.drop_eq_getElem_cons (by omega)]
    simp [List.getD, List.getElem?_eq_getElem (show k < r.length by omega)]
  have e2 : r.drop (k + 1) = r.getD (k + 1) 0 :: r.drop (k + 2) := by
    rw [List.drop_eq_getElem_cons h]
    simp [List.getD, List.getElem?_eq_getElem h]
  rw [← e2, ← e1, List.take_append_drop]
theorem swp_eq (r : List Int) (k : Nat) : swp r k = r.take k ++ r.getD (k + 1) 0 :: r.getD k 0 :: r.drop (k + 2) := by simp [swp]
theorem swp_perm {r : List Int} {k : Nat} (h : k + 1 < r.length) : (swp r k).Perm r := by
  conv => rhs; rw [cut2 h]
  rw [swp_eq]
  exact List.Perm.append_left _ (List.Perm.swap ..)
theorem swp_len {r : List Int} {k : Nat} (h : k + 1 < r.length) : (swp r k).length = r.length := (swp_perm h).length_eq
theorem inv_app : ∀ (a b b' : List Int), b.Perm b' → inv (a ++ b) + inv b' = inv (a ++ b') + inv b
  | [], b, b', _ => by simp; omega
  | x :: a, b, b', p => by
    have := inv_app a b b' p
    have e : ((a ++ b).filter (· < x)).length = ((a ++ b').filter (· < x)).length := ((List.Perm.append_left a p).filter _).length_eq
    simp only [List.cons_append, inv, e]
    omega
theorem inv_swp {r : List Int} {k : Nat} (h : k + 1 < r.length) (lt : r.getD k 0 < r.getD (k + 1) 0) : inv (swp r k) = inv r + 1 := by
  have e := cut2 h
  have e2 := swp_eq r k
  generalize r.getD k 0 = x at *
  generalize r.getD (k + 1) 0 = y at *
  generalize r.take k = a at *
  generalize r.drop (k + 2) = b at *
  rw [e2]
  have e3 : inv r = inv (a ++ x :: y :: b) := by rw [← e]
  rw [e3]
  have := inv_app a (y :: x :: b) (x :: y :: b) (List.Perm.swap ..)
  simp only [inv, List.filter_cons] at this
  have n : ¬ y < x := by omega
  simp only [lt, n, decide_true, decide_false, if_true, if_false, List.length_cons, Bool.false_eq_true] at this
  omega
/-- one kind -/
def stO (s : List Int × List Int × Nat) (k : Nat) : List Int × List Int × Nat :=
  if s.1.getD k 0 < s.1.getD (k + 1) 0 then (swp s.1 k, s.2.1, s.2.2 + 1) else (s.1, s.2.1 ++ [(s.2.2 : Int)], s.2.2 + 1)
def runO (r : List Int) (ks : List Nat) : List Int × List Int × Nat := ks.foldl stO (r, [], 0)
theorem runO_snoc {r : List Int} {ks : List Nat} {k : Nat} : runO r (ks ++ [k]) = stO (runO r ks) k := by simp [runO]
/-- induction from the end -/
theorem snoc_ind {P : List Nat → Prop} (h0 : P []) (h1 : ∀ ks k, P ks → P (ks ++ [k])) (ks : List Nat) : P ks := by
  have key : ∀ (l : List Nat), P l.reverse := by
    intro l
    induction l with
    | nil => exact h0
    | cons x l ih => rw [List.reverse_cons]; exact h1 _ _ ih
  have := key ks.reverse
  rwa [List.reverse_reverse] at this
theorem runO_num {r : List Int} : ∀ (ks : List Nat), (runO r ks).2.2 = ks.length :=
  snoc_ind rfl fun ks k ih => by rw [runO_snoc]; unfold stO; split <;> simp [ih]
theorem runO_perm {r : List Int} : ∀ (ks : List Nat), (∀ k ∈ ks, k + 1 < r.length) → (runO r ks).1.Perm r := by
  refine snoc_ind (fun _ => List.Perm.refl _) fun ks k ih h => ?_
  have p := ih fun x hx => h x (List.mem_append_left _ hx)
  have hk := h k (by simp)
  rw [runO_snoc]
  unfold stO
  split
  · exact (swp_perm (by rw [p.length_eq]; exact hk)).trans p
  · exact p
theorem runO_inv {r : List Int} (h0 : inv r = 0) : ∀ (ks : List Nat), (∀ k ∈ ks, k + 1 < r.length) → inv (runO r ks).1 + (runO r ks).2.1.length = ks.length := by
  refine snoc_ind (fun _ => by simp [runO, h0]) fun ks k ih h => ?_
  have hs := fun x hx => h x (List.mem_append_left _ hx)
  have p := runO_perm ks hs
  have hk := h k (by simp)
  have ih := ih hs
  rw [runO_snoc]
  unfold stO
  split
  · rename_i c
    rw [inv_swp (by rw [p.length_eq]; exact hk) c, List.length_append, List.length_singleton]
    show inv _ + 1 + (runO r ks).2.1.length = _
    omega
  · simp only [List.length_append, List.length_singleton]
    omega
/-- numbers left are below the length -/
theorem runO_lt {r : List Int} : ∀ (ks : List Nat), ∀ x ∈ (runO r ks).2.1, ∃ n : Nat, x = n ∧ n < ks.length := by
  refine snoc_ind (fun x hx => by simp [runO] at hx) fun ks k ih x hx => ?_
  rw [runO_snoc] at hx
  unfold stO at hx
  split at hx
  · obtain ⟨n, e, hn⟩ := ih x hx
    exact ⟨n, e, by rw [List.length_append]; omega⟩
  · rcases List.mem_append.mp hx with hx | hx
    · obtain ⟨n, e, hn⟩ := ih x hx
      exact ⟨n, e, by rw [List.length_append]; omega⟩
    · refine ⟨ks.length, ?_, by simp⟩
      rw [runO_num] at hx
      simpa using hx
theorem runO_mem {r : List Int} {ks : List Nat} {k : Nat} : ((ks.length : Int) ∈ (runO r (ks ++ [k])).2.1) ↔ ¬ (runO r ks).1.getD k 0 < (runO r ks).1.getD (k + 1) 0 := by
  rw [runO_snoc]
  unfold stO
  split
  · rename_i c
    refine ⟨fun hx => ?_, fun q => absurd c q⟩
    obtain ⟨n, e, hn⟩ := runO_lt ks _ hx
    omega
  · rename_i c
    refine ⟨fun _ => c, fun _ => List.mem_append_right _ (by rw [runO_num]; simp)⟩
/-- a longer row of kinds leaves the same among the first ones -/
theorem runO_more {r : List Int} {ks : List Nat} {x : Nat} (hx : x < ks.length) : ∀ (ls : List Nat), ((x : Int) ∈ (runO r (ks ++ ls)).2.1) ↔ (x : Int) ∈ (runO r ks).2.1 := by
  refine snoc_ind (by simp) fun ls l ih => ?_
  rw [← List.append_assoc, runO_snoc]
  unfold stO
  split
  · exact ih
  · rw [List.mem_append, ih, runO_num]
    simp
    intro h
    omega
theorem swp_ne {r : List Int} {k : Nat} (h : k + 1 < r.length) (lt : r.getD k 0 < r.getD (k + 1) 0) : swp r k ≠ r := by
  intro e
  have := inv_swp h lt
  rw [e] at this
  omega
/-- the steps that are not left make the same order, and leave none -/
theorem runO_kept {α : Type} (f : α → Nat) {r : List Int} (ss : List α) : ∀ (n : Nat), n ≤ ss.length →
    ∃ ts : List α, ts = (((ss.take n).zipIdx).filter fun p => decide ((p.2 : Int) ∉ (runO r (ss.map f)).2.1)).map (·.1) ∧ (runO r (ts.map f)).1 = (runO r ((ss.take n).map f)).1 ∧ (runO r (ts.map f)).2.1 = [] := by
  intro n
  induction n with
  | zero => intro _; exact ⟨[], by simp, by simp, by simp [runO]⟩
  | succ n ih =>
    intro hn
    obtain ⟨ts, e1, e2, e3⟩ := ih (by omega)
    have et : ss.take (n + 1) = ss.take n ++ [ss[n]] := List.take_succ_eq_append_getElem (by omega)
    have hl : (ss.take n).length = n := by rw [List.length_take]; omega
    have hm : ((n : Int) ∈ (runO r (ss.map f)).2.1) ↔ ¬ (runO r ((ss.take n).map f)).1.getD (f ss[n]) 0 < (runO r ((ss.take n).map f)).1.getD (f ss[n] + 1) 0 := by
      have q1 := runO_more (r := r) (ks := (ss.take (n + 1)).map f) (x := n) (by simp; omega) ((ss.drop (n + 1)).map f)
      rw [← List.map_append, List.take_append_drop] at q1
      rw [q1, et, List.map_append]
      have q2 := runO_mem (r := r) (ks := (ss.take n).map f) (k := f ss[n])
      rw [List.length_map, hl] at q2
      exact q2
    rw [et, List.zipIdx_append, List.filter_append, List.map_append, ← e1, hl, List.map_append]
    by_cases c : (n : Int) ∈ (runO r (ss.map f)).2.1
    · refine ⟨ts, by simp [c], ?_, e3⟩
      show _ = (runO r ((ss.take n).map f ++ [f ss[n]])).1
      rw [runO_snoc, e2]
      unfold stO
      rw [if_neg (hm.mp c)]
    · refine ⟨ts ++ [ss[n]], by simp [c], ?_, ?_⟩
      · show _ = (runO r ((ss.take n).map f ++ [f ss[n]])).1
        rw [List.map_append]
        show (runO r (ts.map f ++ [f ss[n]])).1 = _
        rw [runO_snoc, runO_snoc]
        unfold stO
        rw [e2]
        have c' : (runO r ((ss.take n).map f)).1.getD (f ss[n]) 0 < (runO r ((ss.take n).map f)).1.getD (f ss[n] + 1) 0 := Classical.byContradiction fun q => c (hm.mpr q)
        rw [if_pos c', if_pos c']
      · rw [List.map_append]
        show (runO r (ts.map f ++ [f ss[n]])).2.1 = _
        rw [runO_snoc]
        unfold stO
        have c' : (runO r ((ss.take n).map f)).1.getD (f ss[n]) 0 < (runO r ((ss.take n).map f)).1.getD (f ss[n] + 1) 0 := Classical.byContradiction fun q => c (hm.mpr q)
        rw [e2, if_pos c']
        exact e3
end Fx
set_option Elab.async false
set_option linter.all false
namespace Fx
open PySem PySem.Spec PyProof.Rows L2
/-! ## comprehensions that keep some -/
theorem comp_filL {α : Type} {h : Hh} {all : List D} {g : Tg} {r0 : Ev} {elt : Ev → Hh → Res (D × Hh)} {cond : Ev → Hh → Res (Bool × Hh)} (f F : α → D) (R : α → Ev) (p : α → Bool) :
    ∀ (xs : List α), (∀ x ∈ xs, tgD g (f x) r0 = some (R x) ∧ cond (R x) h = .ok (p x, h) ∧ (p x = true → elt (R x) h = .ok (F x, h))) → compD none all g r0 cond elt (xs.map f) h = .ok ((xs.filter p).map F, h)
  | [], _ => by simp [compD, stl]
  | x :: xs, H => by
    obtain ⟨a, b, c⟩ := H x List.mem_cons_self
    have ih := comp_filL f F R p xs (fun y hy => H y (List.mem_cons_of_mem _ hy)) (all := all)
    cases hp : p x with
    | true =>
      rw [hp] at b
      simp only [List.map_cons, compD, stl, if_true, a, b, c hp, nox_ok, bind_ok, ih, List.filter_cons, hp]
    | false =>
      rw [hp] at b
      simp only [List.map_cons, compD, stl, if_true, a, b, nox_ok, bind_ok, ih, Bool.false_eq_true, if_false, List.filter_cons, hp]
theorem comp_fil {α : Type} {C : Cal} {m : Bool} {own : List Nat} {g : Tg} {it : Itr} {elt t : Ex} {r : Ev} {h : Hh} {xs : List α} (f F : α → D) (R : α → Ev) (p : α → Bool) (e1 : evI C it r h = .ok ((xs.map f, none), h)) (hn : xs.length ≤ 1000000)
    (H : ∀ x ∈ xs, tgD g (f x) (wip r own) = some (R x) ∧ evE C t (R x) h = .ok (.bl (p x), h) ∧ (p x = true → evE C elt (R x) h = .ok (F x, h))) :
    evE C (.comp m own g it (.some t) elt) r h = mkL m ((xs.filter p).map F) h := by
  have e2 : compD none (xs.map f) g (wip r own) (evC C (.some t)) (evE C elt) (xs.map f) h = .ok ((xs.filter p).map F, h) :=
    comp_filL f F R p _ fun x hx => by
      obtain ⟨a, b, c⟩ := H x hx
      exact ⟨a, by simp only [C_1, b, bind_ok, asB_bl, nox_ok], c⟩
  exact comp_aux e1 (by rw [List.length_map]; exact Nat.le_trans hn (by decide)) e2
/-! ## rows of ints -/
theorem I_at {ns : List Int} {k : Nat} (h : k < ns.length) : (I ns)[k]? = some (.int (ns.getD k 0)) := by
  simp [I, List.getElem?_map, List.getD, List.getElem?_eq_getElem h]
theorem I_len {ns : List Int} : (I ns).length = ns.length := by simp [I]
theorem I_app {a b : List Int} : I (a ++ b) = I a ++ I b := by simp [I]
theorem I_ix {ns : List Int} {k : Nat} {h : Hh} (hk : k < ns.length) : ixD (.tup (I ns)) (.int (k : Nat)) h = .ok (.int (ns.getD k 0)) := ix_tup (I_at hk)
theorem I_pln (ns : List Int) : plnL (I ns) = true := plnL_map _ (fun _ => rfl) _
theorem I_swp {ns : List Int} {k : Nat} : I (swp ns k) = (I ns).take k ++ [.int (ns.getD (k + 1) 0), .int (ns.getD k 0)] ++ (I ns).drop (k + 2) := by
  simp [I, swp]
theorem set_swp {ns : List Int} {k : Nat} (h : k + 1 < ns.length) : (ns.set k (ns.getD (k + 1) 0)).set (k + 1) (ns.getD k 0) = swp ns k := by
  apply List.ext_getElem?
  intro i
  rw [swp_eq, List.getElem?_set, List.getElem?_set, List.length_set]
  by_cases h1 : i < k
  · rw [if_neg (by omega), if_neg (by omega), List.getElem?_append_left (by rw [List.length_take]; omega), List.getElem?_take_of_lt h1]
  · rw [List.getElem?_append_right (by rw [List.length_take]; omega), List.length_take, Nat.min_eq_left (by omega)]
    by_cases h2 : i = k
    · subst h2
      rw [if_neg (by omega), if_pos rfl, if_pos (by omega)]
      simp
    · by_cases h3 : i = k + 1
      · subst h3
        rw [if_pos rfl, if_pos h]
        have : k + 1 - k = 1 := by omega
        rw [this]
        simp
      · rw [if_neg (by omega), if_neg (by omega)]
        obtain ⟨j, rfl⟩ : ∃ j, i = k + 2 + j := ⟨i - (k + 2), by omega⟩
        have : k + 2 + j - k = j + 2 := by omega
        rw [this]
        simp
/-- the row at the beginning -/
def rng0 (n : Nat) : List Int := (List.range n).map fun i => Int.ofNat i
theorem rng0_len {n : Nat} : (rng0 n).length = n := by simp [rng0]
theorem rng0_I {n : Nat} : I (rng0 n) = (List.range n).map fun i => D.int (i : Nat) := by simp [I, rng0]
theorem inv_asc : ∀ (xs : List Int), xs.Pairwise (· < ·) → inv xs = 0
  | [], _ => rfl
  | x :: xs, h => by
    cases h with
    | cons h1 h2 =>
      simp only [inv, inv_asc xs h2, Nat.add_zero]
      rw [List.filter_eq_nil_iff.mpr fun y hy => by have := h1 y hy; simp; omega]
      rfl
theorem rng0_asc {n : Nat} : (rng0 n).Pairwise (· < ·) := by
  unfold rng0
  rw [List.pairwise_map]
  exact List.pairwise_lt_range.imp fun h => by simp only [Int.ofNat_eq_natCast]; omega
theorem rng0_inv {n : Nat} : inv (rng0 n) = 0 := inv_asc _ rng0_asc
theorem rng0_nd {n : Nat} : (rng0 n).Nodup := rng0_asc.imp fun h => by omega
/-! ## kinds -/
def klD (ks : List Nat) : List D := ks.map fun k => D.int (k : Nat)
theorem kl_len {ks : List Nat} : (klD ks).length = ks.length := by simp [klD]
theorem kds_len {ss : List (Nat × Rat)} : (kds ss).length = ss.length := by simp [kds]
theorem kl_pln (ks : List Nat) : plnL (klD ks) = true := plnL_map _ (fun _ => rfl) _
theorem kl_get {ks : List Nat} {i : Nat} (h : i < ks.length) : (klD ks)[i]? = some (.int (ks[i] : Nat)) := by
  simp [klD, List.getElem?_map, List.getElem?_eq_getElem h]
theorem numb_zip {α : Type} (g : α → D) : ∀ (xs : List α) (n : Nat), numb n (xs.map g) = (xs.zipIdx n).map fun p => .pr (.int (p.2 : Nat)) (g p.1)
  | [], _ => rfl
  | x :: xs, n => by simp [numb, numb_zip g xs (n + 1)]
/-- which number stands where -/
theorem zip_at {α : Type} {xs : List α} {done : List (α × Nat)} {x : α × Nat} {todo : List (α × Nat)} (e : xs.zipIdx = done ++ x :: todo) : x.2 = done.length ∧ done.map (·.1) = xs.take done.length ∧ xs[done.length]? = some x.1 := by
  have h1 : xs.zipIdx[done.length]? = some x := by rw [e]; simp
  rw [List.getElem?_zipIdx] at h1
  cases hx : xs[done.length]? with
  | none => rw [hx] at h1; simp at h1
  | some a =>
    rw [hx] at h1
    simp only [Option.map_some, Option.some.injEq, Nat.zero_add] at h1
    subst h1
    refine ⟨rfl, ?_, rfl⟩
    have : done = xs.zipIdx.take done.length := by rw [e]; simp
    conv => lhs; rw [this]
    rw [List.map_take, List.zipIdx_map_fst]
section
variable {C : Cal} {r : Ev} {h : Hh}
theorem rgT_ok {as : Exs} {ds xs : List D} (e : evEs C as r h = .ok (ds, h)) (g : rngD ds = some xs) : evE C (.rgT as) r h = .ok (.tup xs, h) := by
  simp only [evE, e, bind_ok, g]
theorem rgL_ok {as : Exs} {ds xs : List D} {m : Bool} (e : evEs C as r h = .ok (ds, h)) (g : rngD ds = some xs) : evE C (.rgL m as) r h = mkL m xs h := by
  simp only [evE, e, bind_ok, g]
end
/-! ## equality, membership of rows of ints -/
theorem deqL_I : ∀ (a b : List Int), deqL (I a) (I b) = decide (a = b)
  | [], [] => rfl
  | [], _ :: _ => rfl
  | _ :: _, [] => rfl
  | x :: a, y :: b => by
    show (deq (.int x) (.int y) && deqL (I a) (I b)) = _
    rw [deqL_I a b]
    show ((x == y) && _) = _
    by_cases h1 : x = y
    · by_cases h2 : a = b
      · simp [h1, h2]
      · simp [h1, h2]
    · simp [h1]
theorem depL_I (a : List Int) : depL (I a) ≤ 0 + 1 := by
  have := depL_map D.int 0 (fun x => Nat.le_of_eq rfl) a
  show depL (List.map D.int a) ≤ _
  omega
theorem eqI_t {a b : List Int} {h : Hh} : cmpD .eq h (.tup (I a)) (.tup (I b)) = .ok (decide (a = b)) := by
  have d1 := depL_I a
  have d2 := depL_I b
  show eqD h _ _ = _
  rw [eqD_pln (by rw [pln]; exact I_pln a) (by rw [pln]; exact I_pln b) (by rw [dep]; omega) (by rw [dep]; omega)]
  show Res.ok (deqL (I a) (I b)) = _
  rw [deqL_I]
theorem neI_t {a b : List Int} {h : Hh} : cmpD .ne h (.tup (I a)) (.tup (I b)) = .ok (!decide (a = b)) := by
  have := eqI_t (a := a) (b := b) (h := h)
  unfold cmpD at this ⊢
  simp only at this ⊢
  rw [this]
  rfl
theorem eqI_l {a b : List Int} {h : Hh} : cmpD .eq h (.lst (I a)) (.lst (I b)) = .ok (decide (a = b)) := by
  have d1 := depL_I a
  have d2 := depL_I b
  show eqD h _ _ = _
  rw [eqD_pln (by rw [pln]; exact I_pln a) (by rw [pln]; exact I_pln b) (by rw [dep]; omega) (by rw [dep]; omega)]
  show Res.ok (deqL (I a) (I b)) = _
  rw [deqL_I]
theorem any_I (x : Int) : ∀ (a : List Int), ((I a).any fun y => deq y (.int x)) = decide (x ∈ a)
  | [] => rfl
  | y :: a => by
    show (deq (.int y) (.int x) || (I a).any fun y => deq y (.int x)) = _
    rw [any_I x a]
    show ((y == x) || _) = _
    by_cases h1 : y = x
    · simp [h1]
    · have : ¬ x = y := fun q => h1 q.symm
      simp [h1, this]
theorem flat_I : ∀ (a : List Int), (I a).all flat = true
  | [] => rfl
  | y :: a => by
    show (flat (.int y) && (I a).all flat) = true
    rw [flat_I a]
    rfl
theorem inI_t {a : List Int} {x : Int} {h : Hh} : cmpD .inn h (.int x) (.tup (I a)) = .ok (decide (x ∈ a)) := by
  have e : cmpD .inn h (.int x) (.tup (I a)) = inD h (.int x) (.tup (I a)) := by simp only [cmpD]
  rw [e]
  unfold inD
  show (if flat (.int x) = true ∧ (I a).all flat = true then Res.ok ((I a).any fun y => deq y (.int x)) else _) = _
  rw [if_pos ⟨rfl, flat_I a⟩, any_I]
theorem ninI_t {a : List Int} {x : Int} {h : Hh} : cmpD .nin h (.int x) (.tup (I a)) = .ok (!decide (x ∈ a)) := by
  have := inI_t (a := a) (x := x) (h := h)
  unfold cmpD at this ⊢
  simp only at this ⊢
  rw [this]
  rfl
end Fx
set_option Elab.async false
set_option linter.all false
namespace Fx
open PySem PySem.Spec PyProof.Rows L2
/-! ## pairs counted place by place -/
def cntA (r : List Int) (k : Nat) : Nat := ((r.drop k).filter fun y => decide (y < r.getD k 0)).length
def cntS (r : List Int) : Nat → Nat
  | 0 => 0
  | k + 1 => cntS r k + cntA r k
theorem cnt_inv (r : List Int) : ∀ k, k ≤ r.length → inv (r.drop k) + cntS r k = inv r
  | 0, _ => by simp [cntS]
  | k + 1, h => by
    have ih := cnt_inv r k (by omega)
    have e1 : r.drop k = r.getD k 0 :: r.drop (k + 1) := by
      rw [List.drop_eq_getElem_cons (by omega)]
      simp [List.getD, List.getElem?_eq_getElem (show k < r.length by omega)]
    have e2 : cntA r k = ((r.drop (k + 1)).filter fun y => decide (y < r.getD k 0)).length := by
      unfold cntA
      rw [e1, List.filter_cons]
      simp
    rw [e1] at ih
    simp only [inv, cntS, e2] at ih ⊢
    omega
theorem cntS_inv (r : List Int) : cntS r r.length = inv r := by
  have := cnt_inv r r.length (Nat.le_refl _)
  rw [List.drop_length] at this
  simpa [inv] using this
theorem cntS_sum (r : List Int) : ∀ n, (((List.range n).map fun i => ((cntA r i : Nat) : Int)).sum) = ((cntS r n : Nat) : Int)
  | 0 => rfl
  | n + 1 => by
    rw [List.range_succ, List.map_append, List.sum_append, cntS_sum r n]
    simp [cntS]
theorem dst_nd : ∀ (xs : List Int), xs.Nodup → dst xs = xs
  | [], _ => rfl
  | x :: xs, h => by
    cases h with
    | cons h1 h2 =>
      have ih := dst_nd xs h2
      unfold dst
      rw [ih, if_neg]
      intro q
      exact h1 x (by simpa using q) rfl
theorem intL_I : ∀ (a : List Int), intL (I a) = some a
  | [] => rfl
  | x :: a => by
    show (intL (I a)).map (x :: ·) = _
    rw [intL_I a]
    rfl
theorem I_filter (p : Int → Bool) (a : List Int) : (a.filter p).map D.int = I (a.filter p) := rfl
theorem I_drop {a : List Int} {k : Nat} : (I a).drop k = I (a.drop k) := by simp [I]
end Fx
set_option Elab.async false
set_option linter.all false
namespace Fx
open PySem PySem.Spec PyProof.Rows L2
/-! ## rows of ints, sorted -/
theorem le_int (a b : Int) : PySem.W.dataLe false cv (.int a) (.int b) = decide (a ≤ b) := by
  show (!(decide (b < a) || (!decide (a < b) && false))) = _
  by_cases h : a ≤ b
  · have : ¬ b < a := by omega
    simp [h, this]
  · have : b < a := by omega
    simp [h, this]
theorem sort_I (r : List Int) : sortL (I r) = I (r.mergeSort fun a b => decide (a ≤ b)) := by
  unfold sortL I
  exact (List.map_mergeSort fun a _ b _ => (le_int a b).symm).symm
theorem sort_rng {r : List Int} {n : Nat} (p : r.Perm (rng0 n)) : (r.mergeSort fun a b => decide (a ≤ b)) = rng0 n := by
  have h1 : (r.mergeSort fun a b => decide (a ≤ b)).Pairwise fun a b => decide (a ≤ b) = true := List.pairwise_mergeSort (fun a b c h1 h2 => by
    have h1 := of_decide_eq_true h1
    have h2 := of_decide_eq_true h2
    exact decide_eq_true (by omega)) (fun a b => by
    simp only [Bool.or_eq_true, decide_eq_true_eq]
    omega) r
  refine List.Perm.eq_of_pairwise (le := fun a b => decide (a ≤ b) = true) (fun a b _ _ h1 h2 => ?_) h1 (rng0_asc.imp fun h => decide_eq_true (by omega)) ((List.mergeSort_perm _ _).trans p)
  have h1 := of_decide_eq_true h1
  have h2 := of_decide_eq_true h2
  omega
theorem srt_int {r : List Int} (hl : r.length ≤ 1000) : srtOk (I r) = true := by
  unfold srtOk
  simp only [Bool.and_eq_true, Bool.or_eq_true, decide_eq_true_eq, List.all_eq_true, I_len]
  have hd := depL_I r
  refine ⟨⟨⟨⟨I_pln r, by omega⟩, by omega⟩, fun x hx y hy => ?_⟩, .inr fun x hx => ?_⟩
  · obtain ⟨m, _, rfl⟩ := List.mem_map.mp hx
    obtain ⟨m', _, rfl⟩ := List.mem_map.mp hy
    rfl
  · obtain ⟨m, _, rfl⟩ := List.mem_map.mp hx
    rfl
theorem srt_rng {r : List Int} {n : Nat} {h : Hh} (p : r.Perm (rng0 n)) (hn : n ≤ 1000) : srtD false (.tup (I r)) h = .ok (.lst (I (rng0 n)), h) := by
  have hl : r.length ≤ 1000 := by rw [p.length_eq, rng0_len]; exact hn
  have e : seqOf h (.tup (I r)) = some (I r) := rfl
  unfold srtD
  rw [e]
  simp only [srt_int hl, if_true, sort_I, sort_rng p]
  rfl
end Fx
set_option Elab.async false
set_option linter.all false
namespace El
/-! ## steps on rows of numbers, in coordinates in which all steps look alike -/
def bv (y : Nat → Rat) (k : Nat) : Rat := if k = 0 then 0 else y (k - 1)
def tk (s : Nat × Rat) (y : Nat → Rat) : Nat → Rat := fun i => if i = s.1 then y i + s.2 * (y (i + 1) + bv y i) else y i
def run (ss : List (Nat × Rat)) (y : Nat → Rat) : Nat → Rat := ss.foldl (fun y s => tk s y) y
theorem tk_eq {k : Nat} {a : Rat} {y : Nat → Rat} : tk (k, a) y k = y k + a * (y (k + 1) + bv y k) := by simp [tk]
theorem tk_ne {k i : Nat} {a : Rat} {y : Nat → Rat} (h : i ≠ k) : tk (k, a) y i = y i := by simp [tk, h]
theorem bv0 {y : Nat → Rat} {k : Nat} (h : ∀ i, i < k → y i = 0) : bv y k = 0 := by
  unfold bv
  split
  · rfl
  · exact h _ (by omega)
@[simp] theorem run_nil {y : Nat → Rat} : run [] y = y := rfl
theorem run_cons {s : Nat × Rat} {ss : List (Nat × Rat)} {y : Nat → Rat} : run (s :: ss) y = run ss (tk s y) := rfl
theorem run_app {ss tt : List (Nat × Rat)} {y : Nat → Rat} : run (ss ++ tt) y = run tt (run ss y) := List.foldl_append
theorem run_snoc {ss : List (Nat × Rat)} {s : Nat × Rat} {y : Nat → Rat} : run (ss ++ [s]) y = tk s (run ss y) := run_app
theorem tk_lin {s : Nat × Rat} {x y : Nat → Rat} {c : Rat} : tk s (fun i => x i + c * y i) = fun i => tk s x i + c * tk s y i := by
  funext i
  unfold tk bv
  by_cases h : i = s.1
  · simp only [if_pos h]
    by_cases h0 : i = 0
    · simp only [if_pos h0]; grind
    · simp only [if_neg h0]; grind
  · simp only [if_neg h]
theorem run_lin {ss : List (Nat × Rat)} {c : Rat} : ∀ {x y : Nat → Rat}, run ss (fun i => x i + c * y i) = fun i => run ss x i + c * run ss y i := by
  induction ss with
  | nil => intros; rfl
  | cons s ss ih => intro x y; rw [run_cons, tk_lin, ih]; rfl
/-- rows beyond N hold nothing: kept -/
theorem run_sup {N : Nat} {ss : List (Nat × Rat)} (hk : ∀ s ∈ ss, s.1 < N) {x : Nat → Rat} (h : ∀ i, N ≤ i → x i = 0) : ∀ i, N ≤ i → run ss x i = 0 := by
  induction ss generalizing x with
  | nil => exact h
  | cons s ss ih =>
    rw [run_cons]
    refine ih (fun t ht => hk t (List.mem_cons_of_mem _ ht)) fun i hi => ?_
    have := hk s List.mem_cons_self
    unfold tk
    rw [if_neg (by omega)]
    exact h i hi
/-! ## least nets -/
def sw (row : Nat → Nat) (k : Nat) : Nat → Nat := fun j => if j = k then row (k + 1) else if j = k + 1 then row k else row j
theorem sw_l {row : Nat → Nat} {k : Nat} : sw row k k = row (k + 1) := by simp [sw]
theorem sw_r {row : Nat → Nat} {k : Nat} : sw row k (k + 1) = row k := by simp [sw]
theorem sw_o {row : Nat → Nat} {k j : Nat} (h1 : j ≠ k) (h2 : j ≠ k + 1) : sw row k j = row j := by simp [sw, h1, h2]
theorem sw_sw {row : Nat → Nat} {k : Nat} : sw (sw row k) k = row := by
  funext j
  by_cases h1 : j = k
  · subst h1; rw [sw_l, sw_r]
  · by_cases h2 : j = k + 1
    · subst h2; rw [sw_r, sw_l]
    · rw [sw_o h1 h2, sw_o h1 h2]
inductive Lst (N : Nat) : List (Nat × Rat) → (Nat → Nat) → Prop
  | nil : Lst N [] id
  | snoc {ss : List (Nat × Rat)} {row : Nat → Nat} {k : Nat} {a : Rat} : Lst N ss row → k + 1 < N → row k < row (k + 1) → 0 < a → Lst N (ss ++ [(k, a)]) (sw row k)
theorem first {y : Nat → Rat} : ∀ {m : Nat}, (∃ i, i ≤ m ∧ y i ≠ 0) → ∃ i, i ≤ m ∧ y i ≠ 0 ∧ ∀ j, j < i → y j = 0
  | 0, ⟨i, h1, h2⟩ => ⟨i, h1, h2, fun j hj => by omega⟩
  | m + 1, ⟨i, h1, h2⟩ => by
    by_cases c : ∃ i, i ≤ m ∧ y i ≠ 0
    · obtain ⟨i, a, b, d⟩ := first c
      exact ⟨i, by omega, b, d⟩
    · refine ⟨i, h1, h2, fun j hj => Classical.byContradiction fun q => c ⟨j, by omega, q⟩⟩
/-- what stands first at the ends stands early at the beginning -/
theorem st1 {N : Nat} {ss : List (Nat × Rat)} {row : Nat → Nat} (h : Lst N ss row) {x : Nat → Rat} : ∀ {j : Nat}, (∀ i, i < j → run ss x i = 0) → run ss x j ≠ 0 → ∃ i, i ≤ row j ∧ x i ≠ 0 := by
  induction h with
  | nil => exact fun {j} _ h1 => ⟨j, Nat.le_refl _, h1⟩
  | @snoc ss row k a h hk hlt ha ih =>
    intro j h0 h1
    rw [run_snoc] at h0 h1
    generalize hy : run ss x = y at *
    have ne : ∀ i, i ≠ k → tk (k, a) y i = y i := fun i => tk_ne
    by_cases c1 : j < k
    · rw [sw_o (by omega) (by omega)]
      rw [ne j (by omega)] at h1
      exact ih (fun i hi => by rw [← ne i (by omega)]; exact h0 i hi) h1
    · by_cases c2 : j = k
      · subst c2
        have z : ∀ i, i < j → y i = 0 := fun i hi => by rw [← ne i (by omega)]; exact h0 i hi
        rw [tk_eq, bv0 z] at h1
        rw [sw_l]
        by_cases c3 : y j = 0
        · have : y (j + 1) ≠ 0 := fun q => h1 (by rw [c3, q]; grind)
          obtain ⟨i, a1, a2⟩ := ih (j := j + 1) (fun i hi => by
            by_cases e : i = j
            · rw [e]; exact c3
            · exact z i (by omega)) this
          exact ⟨i, a1, a2⟩
        · obtain ⟨i, a1, a2⟩ := ih z c3
          exact ⟨i, by omega, a2⟩
      · by_cases c3 : j = k + 1
        · subst c3
          have z : ∀ i, i < k → y i = 0 := fun i hi => by rw [← ne i (by omega)]; exact h0 i (by omega)
          have e := h0 k (by omega)
          rw [tk_eq, bv0 z] at e
          rw [ne _ (by omega)] at h1
          rw [sw_r]
          refine ih z fun q => h1 ?_
          rw [q] at e
          have : a * y (k + 1) = 0 := by grind
          rcases Rat.mul_eq_zero.mp this with r | r
          · rw [r] at ha; exact absurd ha (by decide)
          · exact r
        · rw [sw_o c2 c3]
          rw [ne _ c2] at h1
          have z : ∀ i, i < j → i ≠ k → y i = 0 := fun i hi hn => by rw [← ne i hn]; exact h0 i hi
          have e := h0 k (by omega)
          rw [tk_eq, bv0 fun i hi => z i (by omega) (by omega), z (k + 1) (by omega) (by omega)] at e
          refine ih (fun i hi => ?_) h1
          by_cases e2 : i = k
          · rw [e2]; grind
          · exact z i hi e2
/-- what stands first at the beginning stands early at the ends -/
theorem st2 {N : Nat} {ss : List (Nat × Rat)} {row : Nat → Nat} (h : Lst N ss row) {x : Nat → Rat} {q : Nat} (x0 : ∀ i, i < q → x i = 0) (xq : x q ≠ 0) : ∀ {p : Nat}, row p = q → ∃ i, i ≤ p ∧ run ss x i ≠ 0 := by
  induction h with
  | nil => exact fun {p} e => ⟨p, Nat.le_refl _, by simp only [id] at e; subst e; exact xq⟩
  | @snoc ss row k a h hk hlt ha ih =>
    intro p e
    rw [run_snoc]
    have s1 := fun {j} => st1 h (x := x) (j := j)
    generalize hy : run ss x = y at *
    have ne : ∀ i, i ≠ k → tk (k, a) y i = y i := fun i => tk_ne
    have an : a ≠ 0 := fun z => by rw [z] at ha; exact absurd ha (by decide)
    have key : ∀ i0, (∀ j, j < i0 → y j = 0) → y i0 ≠ 0 → i0 = k → tk (k, a) y k = 0 → y (k + 1) ≠ 0 := fun i0 z b e1 e2 q => by
      subst e1
      rw [tk_eq, bv0 z, q] at e2
      exact b (by grind)
    by_cases c1 : p = k
    · subst c1
      rw [sw_l] at e
      obtain ⟨i, a1, a2, a3⟩ := first (ih (p := p + 1) e)
      by_cases d1 : i < p
      · exact ⟨i, by omega, by rw [ne i (by omega)]; exact a2⟩
      · by_cases d2 : i = p
        · subst d2
          obtain ⟨t, t1, t2⟩ := s1 a3 a2
          exact absurd (x0 t (by omega)) t2
        · have d3 : i = p + 1 := by omega
          subst d3
          refine ⟨p, Nat.le_refl _, ?_⟩
          rw [tk_eq, bv0 fun j hj => a3 j (by omega), a3 p (by omega)]
          intro z
          have : a * y (p + 1) = 0 := by grind
          rcases Rat.mul_eq_zero.mp this with r | r
          · exact an r
          · exact a2 r
    · by_cases c2 : p = k + 1
      · subst c2
        rw [sw_r] at e
        obtain ⟨i, a1, a2, a3⟩ := first (ih (p := k) e)
        by_cases d1 : i = k
        · by_cases d2 : tk (k, a) y k = 0
          · exact ⟨k + 1, Nat.le_refl _, by rw [ne _ (by omega)]; exact key i a3 a2 d1 d2⟩
          · exact ⟨k, by omega, d2⟩
        · exact ⟨i, by omega, by rw [ne i d1]; exact a2⟩
      · rw [sw_o c1 c2] at e
        obtain ⟨i, a1, a2, a3⟩ := first (ih (p := p) e)
        by_cases d1 : i = k
        · by_cases d2 : tk (k, a) y k = 0
          · exact ⟨k + 1, by omega, by rw [ne _ (by omega)]; exact key i a3 a2 d1 d2⟩
          · exact ⟨k, by omega, d2⟩
        · exact ⟨i, by omega, by rw [ne i d1]; exact a2⟩
/-- a vector for the thing at place p -/
structure Ad (N : Nat) (ss : List (Nat × Rat)) (row : Nat → Nat) (p : Nat) (f : Nat → Rat) : Prop where
  lo : ∀ i, i < row p → f i = 0
  at_ : f (row p) ≠ 0
  out : ∀ i, i < p → run ss f i = 0
  sup : ∀ i, N ≤ i → f i = 0
theorem Ad.nz {N : Nat} {ss : List (Nat × Rat)} {row : Nat → Nat} {p : Nat} {f : Nat → Rat} (A : Ad N ss row p f) (h : Lst N ss row) : run ss f p ≠ 0 := fun z => by
  obtain ⟨i, h1, h2⟩ := st2 h A.lo A.at_ rfl
  by_cases e : i = p
  · rw [e] at h2; exact h2 z
  · exact h2 (A.out i (by omega))
theorem ad_ex {N : Nat} {ss : List (Nat × Rat)} {row : Nat → Nat} (h : Lst N ss row) : ∀ p, p < N → ∃ f, Ad N ss row p f := by
  induction h with
  | nil => exact fun p hp => ⟨fun i => if i = p then 1 else 0, fun i hi => by simp only [id] at hi; rw [if_neg (by omega)], by simp, fun i hi => by simp only [run_nil]; rw [if_neg (by omega)], fun i hi => by rw [if_neg (by omega)]⟩
  | @snoc ss row k a h hk hlt ha ih =>
    intro p hp
    have an : a ≠ 0 := fun z => by rw [z] at ha; exact absurd ha (by decide)
    by_cases c1 : p = k
    · subst c1
      obtain ⟨f, F⟩ := ih (p + 1) (by omega)
      refine ⟨f, by rw [sw_l]; exact F.lo, by rw [sw_l]; exact F.at_, fun i hi => ?_, F.sup⟩
      rw [run_snoc, tk_ne (by omega)]
      exact F.out i (by omega)
    · by_cases c2 : p = k + 1
      · subst c2
        obtain ⟨f, F⟩ := ih k (by omega)
        obtain ⟨g, G⟩ := ih (k + 1) (by omega)
        have gz := G.nz h
        have key : ∃ c : Rat, (run ss f k + a * run ss f (k + 1)) + c * (a * run ss g (k + 1)) = 0 := by
          have hne : a * run ss g (k + 1) ≠ 0 := fun z => (Rat.mul_eq_zero.mp z).elim an gz
          refine ⟨-(run ss f k + a * run ss f (k + 1)) / (a * run ss g (k + 1)), ?_⟩
          rw [Rat.div_mul_cancel hne]
          grind
        obtain ⟨c, hc⟩ := key
        refine ⟨fun i => f i + c * g i, fun i hi => ?_, ?_, fun i hi => ?_, fun i hi => by simp only [F.sup i hi, G.sup i hi]; grind⟩
        · rw [sw_r] at hi
          simp only [F.lo i hi, G.lo i (by omega)]
          grind
        · rw [sw_r]
          simp only [G.lo (row k) (by omega)]
          intro z
          exact F.at_ (by grind)
        · rw [run_snoc, run_lin]
          by_cases e : i = k
          · subst e
            rw [tk_eq, bv0 fun j hj => by simp only [F.out j (by omega), G.out j (by omega)]; grind]
            simp only [G.out i (by omega)]
            grind
          · rw [tk_ne e]
            simp only [F.out i (by omega), G.out i (by omega)]
            grind
      · obtain ⟨f, F⟩ := ih p hp
        refine ⟨f, by rw [sw_o c1 c2]; exact F.lo, by rw [sw_o c1 c2]; exact F.at_, fun i hi => ?_, F.sup⟩
        rw [run_snoc]
        by_cases e : i = k
        · subst e
          rw [tk_eq, bv0 fun j hj => F.out j (by omega), F.out i hi, F.out (i + 1) (by omega)]
          grind
        · rw [tk_ne e]
          exact F.out i hi
/-- nets that do the same have one order -/
theorem same_row {N : Nat} {ss tt : List (Nat × Rat)} {row row' : Nat → Nat} (h : Lst N ss row) (h' : Lst N tt row') (e : ∀ x, (∀ i, N ≤ i → x i = 0) → run ss x = run tt x) : ∀ p, p < N → row p = row' p := by
  have key : ∀ {ss tt : List (Nat × Rat)} {row row' : Nat → Nat}, Lst N ss row → Lst N tt row' → (∀ x, (∀ i, N ≤ i → x i = 0) → run ss x = run tt x) → ∀ p, p < N → row p ≤ row' p := fun {ss tt row row'} h h' e p hp => by
    obtain ⟨f, F⟩ := ad_ex h p hp
    have nz := F.nz h
    have z := F.out
    rw [e f F.sup] at nz z
    obtain ⟨i, h1, h2⟩ := st1 h' z nz
    have : ¬ i < row p := fun q => h2 (F.lo i q)
    omega
  exact fun p hp => Nat.le_antisymm (key h h' e p hp) (key h' h (fun x hx => (e x hx).symm) p hp)
theorem tk_inj {k : Nat} {a : Rat} {x y : Nat → Rat} (e : tk (k, a) x = tk (k, a) y) : x = y := by
  have ne : ∀ i, i ≠ k → x i = y i := fun i hi => by have := congrFun e i; rwa [tk_ne hi, tk_ne hi] at this
  funext i
  by_cases h : i = k
  · subst h
    have := congrFun e i
    rw [tk_eq, tk_eq] at this
    have b : bv x i = bv y i := by
      unfold bv
      split
      · rfl
      · exact ne _ (by omega)
    rw [b, ne (i + 1) (by omega)] at this
    grind
  · exact ne i h
theorem Lst.kinds {N : Nat} {ss : List (Nat × Rat)} {row : Nat → Nat} (h : Lst N ss row) : ∀ s ∈ ss, s.1 + 1 < N := by
  induction h with
  | nil => simp
  | @snoc ss row k a h hk hlt ha ih =>
    intro s hs
    rcases List.mem_append.mp hs with hs | hs
    · exact ih s hs
    · rw [List.mem_singleton] at hs; subst hs; exact hk
theorem Lst.pos {N : Nat} {ss : List (Nat × Rat)} {row : Nat → Nat} (h : Lst N ss row) : ∀ s ∈ ss, 0 < s.2 := by
  induction h with
  | nil => simp
  | @snoc ss row k a h hk hlt ha ih =>
    intro s hs
    rcases List.mem_append.mp hs with hs | hs
    · exact ih s hs
    · rw [List.mem_singleton] at hs; subst hs; exact ha
theorem snoc_inv {N : Nat} {us : List (Nat × Rat)} {row' : Nat → Nat} (h : Lst N us row') : us = [] ∧ row' = id ∨ ∃ ss row k a, us = ss ++ [(k, a)] ∧ row' = sw row k ∧ Lst N ss row ∧ k + 1 < N ∧ row k < row (k + 1) ∧ 0 < a := by
  cases h with
  | nil => exact .inl ⟨rfl, rfl⟩
  | snoc h hk hlt ha => exact .inr ⟨_, _, _, _, rfl, rfl, h, hk, hlt, ha⟩
theorem Lst.un {N : Nat} {ss : List (Nat × Rat)} {row' : Nat → Nat} {k : Nat} {a : Rat} (h : Lst N (ss ++ [(k, a)]) row') : ∃ row, row' = sw row k ∧ Lst N ss row ∧ k + 1 < N ∧ row k < row (k + 1) ∧ 0 < a := by
  rcases snoc_inv h with ⟨e, _⟩ | ⟨ss', row, k', a', e, e2, h', hk, hlt, ha⟩
  · simp at e
  · obtain ⟨e3, e4⟩ := List.append_inj' e rfl
    simp only [List.cons.injEq, Prod.mk.injEq, and_true] at e4
    obtain ⟨rfl, rfl⟩ := e4
    subst e3
    exact ⟨row, e2, h', hk, hlt, ha⟩
/-- least nets of one row of kinds that do the same have one row of sizes -/
theorem same_sizes {N : Nat} : ∀ (n : Nat) {ss tt : List (Nat × Rat)} {row row' : Nat → Nat}, ss.length = n → Lst N ss row → Lst N tt row' → ss.map (·.1) = tt.map (·.1) → (∀ x, (∀ i, N ≤ i → x i = 0) → run ss x = run tt x) → ss = tt
  | 0, ss, tt, row, row', hn, h, h', ek, e => by
    have := List.length_eq_zero_iff.mp hn
    subst this
    simp at ek
    exact ek.symm
  | n + 1, us, vs, row1, row1', hn, h, h', ek, e => by
    have rows := same_row h h' e
    rcases snoc_inv h with ⟨e1, _⟩ | ⟨ss, row, k, a, rfl, rfl, hs, hk, hlt, ha⟩
    · subst e1; simp at hn
    rcases snoc_inv h' with ⟨e1, _⟩ | ⟨tt, row', k', b, rfl, rfl, ht, hk', hlt', hb⟩
    · subst e1
      have := congrArg List.length ek
      simp at this
    rw [List.map_append, List.map_append] at ek
    obtain ⟨e3, e4⟩ := List.append_inj' ek rfl
    simp only [List.map_cons, List.map_nil, List.cons.injEq, and_true] at e4
    subst e4
    -- the larger thing
    obtain ⟨x, X⟩ := ad_ex h k (by omega)
    have xz := X.nz h
    have xl := X.lo
    rw [sw_l] at xl
    have rk : row k = row' k := by
      have := rows (k + 1) hk
      rwa [sw_r, sw_r] at this
    have rk1 : row (k + 1) = row' (k + 1) := by
      have := rows k (by omega)
      rwa [sw_l, sw_l] at this
    have exx := e x X.sup
    have half : ∀ {ss : List (Nat × Rat)} {row : Nat → Nat} {a : Rat}, Lst N ss row → row k < row (k + 1) → (∀ i, i < row (k + 1) → x i = 0) → (∀ i, i < k → run (ss ++ [(k, a)]) x i = 0) → run (ss ++ [(k, a)]) x k = a * run (ss ++ [(k, a)]) x (k + 1) := fun {ss row a} hs hlt xl out => by
      rw [run_snoc] at out ⊢
      have z : ∀ i, i < k → run ss x i = 0 := fun i hi => by rw [← tk_ne (k := k) (a := a) (y := run ss x) (i := i) (by omega)]; exact out i hi
      have y0 : run ss x k = 0 := Classical.byContradiction fun q => by
        obtain ⟨i, i1, i2⟩ := st1 hs z q
        exact i2 (xl i (by omega))
      rw [tk_eq, tk_ne (by omega), bv0 z, y0]
      grind
    have h1 := half hs hlt xl X.out
    have h2 := half (a := b) ht hlt' (by rw [← rk1]; exact xl) (by rw [← exx]; exact X.out)
    rw [← exx] at h2
    have nz : run (ss ++ [(k, a)]) x (k + 1) ≠ 0 := fun q => xz (by rw [h1, q]; grind)
    have ab : a = b := by
      have : (a - b) * run (ss ++ [(k, a)]) x (k + 1) = 0 := by grind
      rcases Rat.mul_eq_zero.mp this with r | r
      · grind
      · exact absurd r nz
    subst ab
    have es : ss = tt := same_sizes n (by simp at hn; exact hn) hs ht e3 fun x hx => tk_inj (k := k) (a := a) (by rw [← run_snoc, ← run_snoc]; exact e x hx)
    rw [es]
end El
set_option Elab.async false
set_option linter.all false
namespace El
/-! ## moves of steps -/
def Eqv (ss tt : List (Nat × Rat)) : Prop := ∀ x, run ss x = run tt x
theorem Eqv.refl {ss : List (Nat × Rat)} : Eqv ss ss := fun _ => rfl
theorem Eqv.symm {ss tt : List (Nat × Rat)} (h : Eqv ss tt) : Eqv tt ss := fun x => (h x).symm
theorem Eqv.trans {ss tt us : List (Nat × Rat)} (h : Eqv ss tt) (g : Eqv tt us) : Eqv ss us := fun x => (h x).trans (g x)
theorem Eqv.app {ss tt us vs : List (Nat × Rat)} (h : Eqv ss tt) (g : Eqv us vs) : Eqv (ss ++ us) (tt ++ vs) := fun x => by rw [run_app, run_app, h, g]
theorem swap_tk {k l : Nat} {a b : Rat} (h : k + 1 < l ∨ l + 1 < k) (y : Nat → Rat) : tk (l, b) (tk (k, a) y) = tk (k, a) (tk (l, b) y) := by
  funext i
  unfold tk bv
  simp only
  by_cases h1 : i = k
  · subst h1
    have e1 : ¬ i = l := by omega
    have e2 : ¬ i + 1 = l := by omega
    have e3 : i ≠ 0 → ¬ i - 1 = l := by omega
    simp only [if_neg e1, if_neg e2]
    by_cases z : i = 0
    · simp [z]
    · simp [z, e3 z]
  · by_cases h2 : i = l
    · subst h2
      have e2 : ¬ i + 1 = k := by omega
      have e3 : i ≠ 0 → ¬ i - 1 = k := by omega
      simp only [if_neg h1, if_neg e2]
      by_cases z : i = 0
      · simp [z]
      · simp [z, e3 z]
    · simp only [if_neg h1, if_neg h2]
theorem join_tk {k : Nat} {a b : Rat} (y : Nat → Rat) : tk (k, b) (tk (k, a) y) = tk (k, a + b) y := by
  funext i
  unfold tk bv
  simp only
  by_cases h1 : i = k
  · subst h1
    have e1 : ¬ i + 1 = i := by omega
    have e3 : i ≠ 0 → ¬ i - 1 = i := by omega
    simp only [if_neg e1]
    by_cases z : i = 0
    · simp [z]; grind
    · simp [z, e3 z]; grind
  · simp only [if_neg h1]
def wh (a b c : Rat) : Rat := a + c + a * b * c
theorem turn_up {k : Nat} {a b c p q w : Rat} (h1 : p * w = b * c) (h2 : q * w = a * b) (h3 : p + q + p * w * q = b) (h4 : w = a + c + a * b * c) (y : Nat → Rat) :
    tk (k, c) (tk (k + 1, b) (tk (k, a) y)) = tk (k + 1, q) (tk (k, w) (tk (k + 1, p) y)) := by
  funext i
  unfold tk bv
  simp only
  by_cases e1 : i = k
  · subst e1
    have z1 : ¬ i = i + 1 := by omega
    have z2 : ¬ i + 1 = i := by omega
    by_cases z : i = 0
    · subst z; simp; grind
    · have z3 : ¬ i - 1 = i := by omega
      have z4 : ¬ i - 1 = i + 1 := by omega
      simp [z, z3, z4, z1, z2]; grind
  · by_cases e2 : i = k + 1
    · subst e2
      simp
      by_cases z : k = 0
      · subst z; simp; grind
      · have z3 : ¬ k - 1 = k := by omega
        have z4 : ¬ k - 1 = k + 1 := by omega
        simp [z, z3, z4]; grind
    · simp only [if_neg e1, if_neg e2]
theorem turn_dn {k : Nat} {a b c p q w : Rat} (h1 : p * w = b * c) (h2 : q * w = a * b) (h3 : p + q + p * w * q = b) (h4 : w = a + c + a * b * c) (y : Nat → Rat) :
    tk (k + 1, c) (tk (k, b) (tk (k + 1, a) y)) = tk (k, q) (tk (k + 1, w) (tk (k, p) y)) := by
  funext i
  unfold tk bv
  simp only
  by_cases e1 : i = k
  · subst e1
    have z1 : ¬ i = i + 1 := by omega
    have z2 : ¬ i + 1 = i := by omega
    by_cases z : i = 0
    · subst z; simp; grind
    · have z3 : ¬ i - 1 = i := by omega
      have z4 : ¬ i - 1 = i + 1 := by omega
      simp [z, z3, z4, z1, z2]; grind
  · by_cases e2 : i = k + 1
    · subst e2
      simp
      by_cases z : k = 0
      · subst z; simp; grind
      · have z3 : ¬ k - 1 = k := by omega
        have z4 : ¬ k - 1 = k + 1 := by omega
        simp [z, z3, z4]; grind
    · simp only [if_neg e1, if_neg e2]
theorem wh_pos {a b c : Rat} (ha : 0 < a) (hb : 0 < b) (hc : 0 < c) : 0 < wh a b c := by
  have h1 := Rat.mul_pos (Rat.mul_pos ha hb) hc
  unfold wh
  grind
theorem div_pos {a b : Rat} (ha : 0 < a) (hb : 0 < b) : 0 < a / b := by
  rw [Rat.div_def]
  exact Rat.mul_pos ha (Rat.inv_pos.mpr hb)
theorem turn_laws {a b c : Rat} (hw : 0 < wh a b c) : (b * c / wh a b c) * wh a b c = b * c ∧ (a * b / wh a b c) * wh a b c = a * b ∧ b * c / wh a b c + a * b / wh a b c + b * c / wh a b c * wh a b c * (a * b / wh a b c) = b := by
  have hn : wh a b c ≠ 0 := fun z => by rw [z] at hw; exact absurd hw (by decide)
  have h1 : (b * c / wh a b c) * wh a b c = b * c := Rat.div_mul_cancel hn
  have h2 : (a * b / wh a b c) * wh a b c = a * b := Rat.div_mul_cancel hn
  refine ⟨h1, h2, ?_⟩
  have e : wh a b c = a + c + a * b * c := rfl
  generalize b * c / wh a b c = p at *
  generalize a * b / wh a b c = q at *
  generalize wh a b c = w at *
  have : (p + q + p * w * q) * w = b * w := by
    have : (p + q + p * w * q) * w = p * w + q * w + (p * w) * (q * w) := by grind
    rw [this, h1, h2, e]
    grind
  have : (p + q + p * w * q - b) * w = 0 := by grind
  rcases Rat.mul_eq_zero.mp this with r | r
  · grind
  · exact absurd r hn
/-- what comes of three steps -/
def tr3 (k l : Nat) (a b c : Rat) : List (Nat × Rat) := [(l, b * c / wh a b c), (k, wh a b c), (l, a * b / wh a b c)]
theorem tr3_eqv {k l : Nat} {a b c : Rat} (ha : 0 < a) (hb : 0 < b) (hc : 0 < c) (h : k + 1 = l ∨ l + 1 = k) : Eqv [(k, a), (l, b), (k, c)] (tr3 k l a b c) := fun x => by
  obtain ⟨h1, h2, h3⟩ := turn_laws (wh_pos ha hb hc)
  simp only [tr3, run_cons, run_nil]
  rcases h with rfl | rfl
  · exact turn_up h1 h2 h3 rfl x
  · exact turn_dn h1 h2 h3 rfl x
/-! ## the last kind -/
/-- least steps of one order that do the same have sizes so -/
def HB (N : Nat) (P : Rat → Prop) (ss : List (Nat × Rat)) (row : Nat → Nat) : Prop := ∀ tt, Lst N tt row → Eqv tt ss → ∀ s ∈ tt, P s.2
theorem HB.pre {N : Nat} {P : Rat → Prop} {ss : List (Nat × Rat)} {row : Nat → Nat} {k : Nat} {a : Rat} (H : HB N P (ss ++ [(k, a)]) (sw row k)) (hk : k + 1 < N) (hlt : row k < row (k + 1)) (ha : 0 < a) : HB N P ss row := fun tt ht et s hs =>
  H (tt ++ [(k, a)]) (.snoc ht hk hlt ha) (et.app .refl) s (List.mem_append_left _ hs)
theorem HB.eqv {N : Nat} {P : Rat → Prop} {ss tt : List (Nat × Rat)} {row : Nat → Nat} (H : HB N P ss row) (e : Eqv ss tt) : HB N P tt row := fun us hu eu => H us hu (eu.trans e.symm)
theorem far_ok {N : Nat} {us : List (Nat × Rat)} {row0 : Nat → Nat} {k l : Nat} {a b : Rat} (h : k + 1 < l ∨ l + 1 < k) (h1 : Lst N (us ++ [(k, b)]) row0) (hl : l + 1 < N) (hlt : row0 l < row0 (l + 1)) (ha : 0 < a) :
    Lst N (us ++ [(l, a), (k, b)]) (sw row0 l) ∧ Eqv (us ++ [(k, b), (l, a)]) (us ++ [(l, a), (k, b)]) := by
  obtain ⟨row, e, hu, hk, hlt', hb⟩ := h1.un
  subst e
  rw [sw_o (by omega) (by omega), sw_o (by omega) (by omega)] at hlt
  have g1 := Lst.snoc hu hl hlt ha
  have g2 := Lst.snoc (k := k) (a := b) g1 hk (by rw [sw_o (by omega) (by omega), sw_o (by omega) (by omega)]; exact hlt') hb
  have e2 : sw (sw row l) k = sw (sw row k) l := by
    funext j
    unfold sw
    by_cases j1 : j = k
    · subst j1
      have n1 : ¬ j = l := by omega
      have n2 : ¬ j = l + 1 := by omega
      have n3 : ¬ j + 1 = l := by omega
      simp [n1, n2, n3]
    · by_cases j2 : j = k + 1
      · subst j2
        have n1 : ¬ k = l := by omega
        have n2 : ¬ k = l + 1 := by omega
        have n3 : ¬ k + 1 = l := by omega
        simp [n1, n2, n3]
      · simp only [if_neg j1, if_neg j2]
        by_cases j3 : j = l
        · subst j3
          have n1 : ¬ j + 1 = k := by omega
          simp [n1, j1, j2]
        · by_cases j4 : j = l + 1
          · subst j4
            have n1 : ¬ l = k := by omega
            have n2 : ¬ l = k + 1 := by omega
            simp [n1, n2]
          · simp only [if_neg j3, if_neg j4]
  rw [e2] at g2
  refine ⟨by simpa using g2, fun x => ?_⟩
  rw [run_app, run_app]
  simp only [run_cons, run_nil]
  exact swap_tk h _
theorem near_ok {N : Nat} {vs : List (Nat × Rat)} {row : Nat → Nat} {k l : Nat} {a b c : Rat} (h : k + 1 = l ∨ l + 1 = k) (hv : Lst N (vs ++ [(l, c)]) row) (hk : k + 1 < N) (hkt : row k < row (k + 1)) (hb : 0 < b) (hlt : sw row k l < sw row k (l + 1)) (ha : 0 < a) :
    Lst N (vs ++ tr3 l k c b a) (sw (sw row k) l) ∧ Eqv (vs ++ [(l, c), (k, b), (l, a)]) (vs ++ tr3 l k c b a) := by
  obtain ⟨r, e, hu, hl, hlt', hc⟩ := hv.un
  subst e
  have hw := wh_pos hc hb ha
  have p1 : 0 < b * a / wh c b a := div_pos (Rat.mul_pos hb ha) hw
  have p2 : 0 < c * b / wh c b a := div_pos (Rat.mul_pos hc hb) hw
  refine ⟨?_, Eqv.refl.app (tr3_eqv hc hb ha (by omega))⟩
  unfold tr3
  rcases h with rfl | rfl
  · have v1 : sw r (k + 1) k = r k := sw_o (by omega) (by omega)
    rw [v1, sw_l] at hkt
    rw [sw_r, v1, sw_o (by omega) (by omega), sw_r] at hlt
    have g1 := Lst.snoc hu hk hlt p1
    have g2 := Lst.snoc (k := k + 1) (a := wh c b a) g1 hl (by rw [sw_r, sw_o (by omega) (by omega)]; exact hkt) hw
    have g3 := Lst.snoc (k := k) (a := c * b / wh c b a) g2 hk (by rw [sw_o (j := k) (by omega) (by omega), sw_l, sw_l, sw_o (by omega) (by omega)]; exact hlt') p2
    have e2 : sw (sw (sw r k) (k + 1)) k = sw (sw (sw r (k + 1)) k) (k + 1) := by
      funext j
      by_cases j1 : j = k
      · subst j1
        rw [sw_l, sw_l, sw_o (j := j) (by omega) (by omega), sw_l, sw_l, sw_o (by omega) (by omega)]
      · by_cases j2 : j = k + 1
        · subst j2
          rw [sw_r, sw_o (j := k) (by omega) (by omega), sw_l, sw_l, sw_o (by omega) (by omega), sw_r]
        · by_cases j3 : j = k + 1 + 1
          · subst j3
            rw [sw_o (by omega) (by omega), sw_r, sw_r, sw_r, sw_r, sw_o (by omega) (by omega)]
          · rw [sw_o (by omega) (by omega), sw_o (by omega) (by omega), sw_o (by omega) (by omega), sw_o (by omega) (by omega), sw_o (by omega) (by omega), sw_o (by omega) (by omega)]
    rw [e2] at g3
    simpa using g3
  · have v1 : sw r l (l + 1 + 1) = r (l + 1 + 1) := sw_o (by omega) (by omega)
    rw [v1, sw_r] at hkt
    rw [sw_o (by omega) (by omega), sw_l, sw_l, v1] at hlt
    have g1 := Lst.snoc hu hk hlt p1
    have g2 := Lst.snoc (k := l) (a := wh c b a) g1 hl (by rw [sw_l, sw_o (by omega) (by omega)]; exact hkt) hw
    have g3 := Lst.snoc (k := l + 1) (a := c * b / wh c b a) g2 hk (by rw [sw_r, sw_o (by omega) (by omega), sw_o (by omega) (by omega), sw_r]; exact hlt') p2
    have e2 : sw (sw (sw r (l + 1)) l) (l + 1) = sw (sw (sw r l) (l + 1)) l := by
      funext j
      by_cases j1 : j = l
      · subst j1
        rw [sw_o (by omega) (by omega), sw_l, sw_l, sw_l, sw_l, sw_o (by omega) (by omega)]
      · by_cases j2 : j = l + 1
        · subst j2
          rw [sw_l, sw_o (by omega) (by omega), sw_r, sw_r, sw_o (by omega) (by omega), sw_l]
        · by_cases j3 : j = l + 1 + 1
          · subst j3
            rw [sw_r, sw_r, sw_o (by omega) (by omega), sw_o (by omega) (by omega), sw_r, sw_r]
          · rw [sw_o (by omega) (by omega), sw_o (by omega) (by omega), sw_o (by omega) (by omega), sw_o (by omega) (by omega), sw_o (by omega) (by omega), sw_o (by omega) (by omega)]
    rw [e2] at g3
    simpa using g3
end El
set_option Elab.async false
set_option linter.all false
namespace El
/-! ## the other way round -/
def tr (k i : Nat) : Nat := if i = k then k + 1 else if i = k + 1 then k else i
theorem tr_l {k : Nat} : tr k k = k + 1 := by simp [tr]
theorem tr_r {k : Nat} : tr k (k + 1) = k := by simp [tr]
theorem tr_o {k i : Nat} (h1 : i ≠ k) (h2 : i ≠ k + 1) : tr k i = i := by simp [tr, h1, h2]
theorem tr_tr {k i : Nat} : tr k (tr k i) = i := by
  unfold tr
  by_cases h1 : i = k
  · simp [h1]
  · by_cases h2 : i = k + 1
    · simp [h2]
    · simp [h1, h2]
theorem sw_tr {row : Nat → Nat} {k i : Nat} : sw row k i = row (tr k i) := by
  unfold sw tr
  split
  · rfl
  · split <;> rfl
theorem sw_out {f : Nat → Nat} {row : Nat → Nat} {k : Nat} : sw (fun i => f (row i)) k = fun i => f (sw row k i) := by
  funext i
  rw [sw_tr, sw_tr]
theorem tr_lt {k i j : Nat} (h : i < j) (n : ¬ (i = k ∧ j = k + 1)) : tr k i < tr k j := by
  unfold tr
  split <;> split <;> (try split) <;> (try split) <;> omega
structure Inv (row ρ : Nat → Nat) : Prop where
  l : ∀ i, ρ (row i) = i
  r : ∀ i, row (ρ i) = i
theorem Inv.symm {row ρ : Nat → Nat} (h : Inv row ρ) : Inv ρ row := ⟨h.r, h.l⟩
theorem Inv.un {row ρ ρ' : Nat → Nat} (h : Inv row ρ) (h' : Inv row ρ') : ρ = ρ' := by
  funext i
  have := h'.l (ρ i)
  rw [h.r] at this
  exact this.symm
theorem inv_id : Inv id id := ⟨fun _ => rfl, fun _ => rfl⟩
theorem Inv.sw {row ρ : Nat → Nat} (h : Inv row ρ) (k : Nat) : Inv (sw row k) (fun i => tr k (ρ i)) :=
  ⟨fun i => by simp only [sw_tr, h.l, tr_tr], fun i => by simp only [sw_tr, tr_tr, h.r]⟩
theorem Inv.tr {row ρ : Nat → Nat} (h : Inv row ρ) (k : Nat) : Inv (fun i => tr k (row i)) (El.sw ρ k) := (h.symm.sw k).symm
theorem lcons {N : Nat} {ss : List (Nat × Rat)} {row : Nat → Nat} (h : Lst N ss row) {k : Nat} {a : Rat} (hk : k + 1 < N) (ha : 0 < a) : ∀ {ρ : Nat → Nat}, Inv row ρ → ρ k < ρ (k + 1) → Lst N ((k, a) :: ss) (fun i => tr k (row i)) := by
  induction h with
  | nil =>
    intro ρ _ _
    have g := Lst.snoc (N := N) (k := k) (a := a) Lst.nil hk (Nat.lt_succ_self k) ha
    have e : sw id k = fun i => tr k (id i) := by funext i; rw [sw_tr]; rfl
    rw [e] at g
    exact g
  | @snoc ss row0 l b h hl hlt hb ih =>
    intro ρ I hρ
    have I0 : Inv row0 (fun i => tr l (ρ i)) := by
      have := I.sw l
      rwa [sw_sw] at this
    have c1 : ¬ (ρ k = l ∧ ρ (k + 1) = l + 1) := fun ⟨q1, q2⟩ => by
      have r1 := I.r k
      have r2 := I.r (k + 1)
      rw [q1, sw_l] at r1
      rw [q2, sw_r] at r2
      omega
    have g := ih I0 (tr_lt hρ c1)
    have c2 : ¬ (row0 l = k ∧ row0 (l + 1) = k + 1) := fun ⟨q1, q2⟩ => by
      have r1 := I.l (l + 1)
      have r2 := I.l l
      rw [sw_r, q1] at r1
      rw [sw_l, q2] at r2
      omega
    have g2 := Lst.snoc (k := l) (a := b) g hl (tr_lt hlt c2) hb
    rw [sw_out] at g2
    exact g2
theorem lrev {N : Nat} {ss : List (Nat × Rat)} {row : Nat → Nat} (h : Lst N ss row) : ∃ ρ, Inv row ρ ∧ Lst N ss.reverse ρ := by
  induction h with
  | nil => exact ⟨id, inv_id, .nil⟩
  | @snoc ss row k a h hk hlt ha ih =>
    obtain ⟨ρ, I, g⟩ := ih
    refine ⟨_, I.sw k, ?_⟩
    rw [List.reverse_append]
    exact lcons g hk ha I.symm hlt
theorem luncons {N : Nat} {ss : List (Nat × Rat)} {row : Nat → Nat} {k : Nat} {a : Rat} (h : Lst N ((k, a) :: ss) row) : ∃ row0 ρ0, row = (fun i => tr k (row0 i)) ∧ Inv row0 ρ0 ∧ Lst N ss row0 ∧ ρ0 k < ρ0 (k + 1) ∧ k + 1 < N ∧ 0 < a := by
  obtain ⟨ρ, I, g⟩ := lrev h
  rw [List.reverse_cons] at g
  obtain ⟨ρ0, e, g0, hk, hlt, ha⟩ := g.un
  subst e
  obtain ⟨row0, I0, g1⟩ := lrev g0
  rw [List.reverse_reverse] at g1
  exact ⟨row0, ρ0, I.symm.un (I0.sw k), I0.symm, g1, hlt, hk, ha⟩
/-! ### signs -/
def sg (y : Nat → Rat) : Nat → Rat := fun i => if i % 2 = 0 then y i else -(y i)
theorem sg_sg {y : Nat → Rat} : sg (sg y) = y := by
  funext i
  unfold sg
  split
  · rfl
  · grind
theorem tk_sg {s : Nat × Rat} {y : Nat → Rat} : tk s (sg (tk s y)) = sg y := by
  funext i
  unfold tk sg bv
  by_cases h : i = s.1
  · have n1 : ¬ i + 1 = s.1 := by omega
    have n2 : i ≠ 0 → ¬ i - 1 = s.1 := by omega
    simp only [if_pos h, if_neg n1]
    by_cases z : i = 0
    · simp only [if_pos z]
      have z1 : i % 2 = 0 := by omega
      have z2 : ¬ (i + 1) % 2 = 0 := by omega
      simp only [if_pos z1, if_neg z2]
      grind
    · simp only [if_neg z, if_neg (n2 z)]
      by_cases z1 : i % 2 = 0
      · have z2 : ¬ (i + 1) % 2 = 0 := by omega
        have z3 : ¬ (i - 1) % 2 = 0 := by omega
        simp only [if_pos z1, if_neg z2, if_neg z3]
        grind
      · have z2 : (i + 1) % 2 = 0 := by omega
        have z3 : (i - 1) % 2 = 0 := by omega
        simp only [if_neg z1, if_pos z2, if_pos z3]
        grind
  · simp only [if_neg h]
theorem run_sg : ∀ (ss : List (Nat × Rat)) {y : Nat → Rat}, run ss.reverse (sg (run ss y)) = sg y
  | [], y => rfl
  | s :: ss, y => by
    rw [List.reverse_cons, run_snoc, run_cons, run_sg ss, tk_sg]
theorem Eqv.rev {ss tt : List (Nat × Rat)} (h : Eqv ss tt) : Eqv ss.reverse tt.reverse := fun z => by
  have e1 := run_sg ss.reverse (y := z)
  rw [List.reverse_reverse] at e1
  have e2 := run_sg tt (y := sg (run ss.reverse z))
  rw [← h, e1, sg_sg, sg_sg] at e2
  exact e2.symm
theorem HB.rev {N : Nat} {P : Rat → Prop} {ss : List (Nat × Rat)} {row ρ : Nat → Nat} (I : Inv row ρ) (H : HB N P ss row) : HB N P ss.reverse ρ := fun tt ht et s hs => by
  obtain ⟨row', I', g⟩ := lrev ht
  rw [I'.un I.symm] at g
  have := et.rev
  rw [List.reverse_reverse] at this
  exact H _ g this s (List.mem_reverse.mpr hs)
theorem HB.tail {N : Nat} {P : Rat → Prop} {ss : List (Nat × Rat)} {row0 ρ0 : Nat → Nat} {k : Nat} {a : Rat} (H : HB N P ((k, a) :: ss) (fun i => tr k (row0 i))) (I : Inv row0 ρ0) (hlt : ρ0 k < ρ0 (k + 1)) (hk : k + 1 < N) (ha : 0 < a) : HB N P ss row0 := fun tt ht et s hs =>
  H ((k, a) :: tt) (lcons ht hk ha I hlt) (fun x => by rw [run_cons, run_cons, et]) s (List.mem_cons_of_mem _ hs)
/-! ### steps that end with a kind -/
theorem te_ex {N : Nat} : ∀ (n : Nat) {ss : List (Nat × Rat)} {row : Nat → Nat} {k : Nat}, ss.length ≤ n → Lst N ss row → k + 1 < N → row (k + 1) < row k → ∃ us b, Lst N (us ++ [(k, b)]) row ∧ Eqv ss (us ++ [(k, b)]) ∧ us.length + 1 = ss.length
  | n, ss, row, k, hn, h, hk, hlt => by
    rcases snoc_inv h with ⟨e1, e2⟩ | ⟨tt, row0, l, a, rfl, rfl, ht, hl, hl2, ha⟩
    · subst e2; simp only [id] at hlt; omega
    · have n0 : n ≠ 0 := fun z => by simp [z] at hn
      obtain ⟨n, rfl⟩ : ∃ m, n = m + 1 := ⟨n - 1, by omega⟩
      have hn : tt.length ≤ n := by simp at hn; exact hn
      by_cases c : l = k
      · subst c
        exact ⟨tt, a, h, .refl, by simp⟩
      · by_cases far : k + 1 < l ∨ l + 1 < k
        · rw [sw_o (by omega) (by omega), sw_o (by omega) (by omega)] at hlt
          obtain ⟨us, b, g1, g2, g3⟩ := te_ex n hn ht hk hlt
          obtain ⟨f1, f2⟩ := far_ok far g1 hl hl2 ha
          have e : us ++ [(l, a), (k, b)] = (us ++ [(l, a)]) ++ [(k, b)] := by simp
          rw [e] at f1 f2
          refine ⟨us ++ [(l, a)], b, f1, ?_, by simp; omega⟩
          refine Eqv.trans ?_ f2
          have : us ++ [(k, b), (l, a)] = (us ++ [(k, b)]) ++ [(l, a)] := by simp
          rw [this]
          exact g2.app .refl
        · have hlt0 : row0 (k + 1) < row0 k := by
            rcases (by omega : k + 1 = l ∨ l + 1 = k) with rfl | rfl
            · rw [sw_l, sw_o (by omega) (by omega)] at hlt
              omega
            · rw [sw_r, sw_o (by omega) (by omega)] at hlt
              omega
          obtain ⟨us, b, g1, g2, g3⟩ := te_ex n hn ht hk hlt0
          obtain ⟨row1, e, hu, _, hkt, hb⟩ := g1.un
          subst e
          have hlt1 : row1 (l + 1) < row1 l := by
            rcases (by omega : k + 1 = l ∨ l + 1 = k) with rfl | rfl
            · rw [sw_l, sw_o (j := k) (by omega) (by omega), sw_l, sw_o (by omega) (by omega)] at hlt
              rw [sw_r, sw_o (by omega) (by omega)] at hl2
              omega
            · rw [sw_o (j := l + 1 + 1) (by omega) (by omega), sw_r, sw_r, sw_o (by omega) (by omega)] at hlt
              rw [sw_l, sw_o (by omega) (by omega)] at hl2
              omega
          obtain ⟨vs, c', v1, v2, v3⟩ := te_ex n (by omega) hu hl hlt1
          obtain ⟨f1, f2⟩ := near_ok (by omega) v1 hk hkt hb hl2 ha
          unfold tr3 at f1 f2
          refine ⟨vs ++ [(k, b * a / wh c' b a), (l, wh c' b a)], c' * b / wh c' b a, by simpa using f1, ?_, by simp; omega⟩
          have e3 : vs ++ [(k, b * a / wh c' b a), (l, wh c' b a), (k, c' * b / wh c' b a)] = (vs ++ [(k, b * a / wh c' b a), (l, wh c' b a)]) ++ [(k, c' * b / wh c' b a)] := by simp
          rw [← e3]
          refine Eqv.trans ?_ f2
          refine (g2.app .refl).trans ?_
          have e4 : us ++ [(k, b)] ++ [(l, a)] = us ++ [(k, b), (l, a)] := by simp
          have e5 : vs ++ [(l, c'), (k, b), (l, a)] = (vs ++ [(l, c')]) ++ [(k, b), (l, a)] := by simp
          rw [e4, e5]
          exact v2.app .refl
/-- steps that begin with a kind -/
theorem tf_ex {N : Nat} {ss : List (Nat × Rat)} {row ρ : Nat → Nat} {k : Nat} (h : Lst N ss row) (I : Inv row ρ) (hk : k + 1 < N) (hlt : ρ (k + 1) < ρ k) : ∃ us b, Lst N ((k, b) :: us) row ∧ Eqv ss ((k, b) :: us) ∧ us.length + 1 = ss.length := by
  obtain ⟨ρ', I', g⟩ := lrev h
  rw [I'.un I] at g
  obtain ⟨us, b, g1, g2, g3⟩ := te_ex _ (Nat.le_refl _) g hk hlt
  obtain ⟨row', J, g4⟩ := lrev g1
  rw [J.un I.symm] at g4
  have g5 := g2.rev
  rw [List.reverse_reverse] at g5
  rw [List.reverse_append] at g4 g5
  exact ⟨us.reverse, b, g4, g5, by rw [List.length_reverse, g3, List.length_reverse]⟩
end El
set_option Elab.async false
set_option linter.all false
namespace El
/-! ## least steps, forms -/
/-- one kind acts on a row -/
def ro1 (row : Nat → Nat) (k : Nat) : Nat → Nat := if row k < row (k + 1) then sw row k else row
def ro (ks : List Nat) : Nat → Nat := ks.foldl ro1 id
theorem ro_snoc {ks : List Nat} {k : Nat} : ro (ks ++ [k]) = ro1 (ro ks) k := by simp [ro]
theorem Lst.inv {N : Nat} {ss : List (Nat × Rat)} {row : Nat → Nat} (h : Lst N ss row) : ∃ ρ, Inv row ρ := (lrev h).imp fun _ h => h.1
theorem Lst.ro {N : Nat} {ss : List (Nat × Rat)} {row : Nat → Nat} (h : Lst N ss row) : El.ro (ss.map (·.1)) = row := by
  induction h with
  | nil => rfl
  | @snoc ss row k a h hk hlt ha ih =>
    rw [List.map_append]
    show El.ro (ss.map (·.1) ++ [k]) = _
    rw [ro_snoc, ih]
    unfold ro1
    rw [if_pos hlt]
theorem sn_ind {α : Type} {P : List α → Prop} (h0 : P []) (h1 : ∀ ks k, P ks → P (ks ++ [k])) (ks : List α) : P ks := by
  have key : ∀ (l : List α), P l.reverse := by
    intro l
    induction l with
    | nil => exact h0
    | cons x l ih => rw [List.reverse_cons]; exact h1 _ _ ih
  have := key ks.reverse
  rwa [List.reverse_reverse] at this
/-- one more step, put to the last one of its kind -/
theorem put_on {N : Nat} {us : List (Nat × Rat)} {row : Nat → Nat} {k : Nat} {a b : Rat} (h : Lst N (us ++ [(k, b)]) row) (ha : 0 < a) : Lst N (us ++ [(k, b + a)]) row ∧ Eqv (us ++ [(k, b)] ++ [(k, a)]) (us ++ [(k, b + a)]) := by
  obtain ⟨row0, e, g, hk, hlt, hb⟩ := h.un
  subst e
  refine ⟨.snoc g hk hlt (by grind), fun x => ?_⟩
  rw [run_snoc, run_snoc, run_snoc]
  exact join_tk _
theorem ls_ex {N : Nat} (ss : List (Nat × Rat)) : (∀ s ∈ ss, s.1 + 1 < N ∧ 0 < s.2) → ∃ tt, Lst N tt (ro (ss.map (·.1))) ∧ Eqv ss tt := by
  refine sn_ind (P := fun ss => (∀ s ∈ ss, s.1 + 1 < N ∧ 0 < s.2) → ∃ tt, Lst N tt (ro (ss.map (·.1))) ∧ Eqv ss tt) (fun _ => ⟨[], .nil, .refl⟩) (fun ss s ih h => ?_) ss
  obtain ⟨k, a⟩ := s
  obtain ⟨tt, g, e⟩ := ih fun s hs => h s (List.mem_append_left _ hs)
  obtain ⟨hk, ha⟩ := h (k, a) (by simp)
  rw [List.map_append]
  show ∃ tt, Lst N tt (ro (ss.map (·.1) ++ [k])) ∧ _
  rw [ro_snoc]
  unfold ro1
  simp only at hk ha
  by_cases c : ro (ss.map (·.1)) k < ro (ss.map (·.1)) (k + 1)
  · rw [if_pos c]
    exact ⟨_, .snoc g hk c ha, e.app .refl⟩
  · rw [if_neg c]
    obtain ⟨ρ, I⟩ := g.inv
    have ne : ro (ss.map (·.1)) k ≠ ro (ss.map (·.1)) (k + 1) := fun q => by
      have := congrArg ρ q
      rw [I.l, I.l] at this
      omega
    obtain ⟨us, b, g1, g2, g3⟩ := te_ex _ (Nat.le_refl _) g hk (by omega)
    obtain ⟨p1, p2⟩ := put_on g1 ha
    exact ⟨_, p1, ((e.trans g2).app .refl).trans p2⟩
/-- the first row of kinds of an order -/
inductive LRow (N : Nat) : (Nat → Nat) → List Nat → Prop
  | nil {row ρ : Nat → Nat} : Inv row ρ → (∀ k, k + 1 < N → ρ k < ρ (k + 1)) → LRow N row []
  | cons {row ρ : Nat → Nat} {k : Nat} {ks : List Nat} : Inv row ρ → k + 1 < N → ρ (k + 1) < ρ k → (∀ l, l < k → ρ l < ρ (l + 1)) → LRow N (fun i => tr k (row i)) ks → LRow N row (k :: ks)
theorem LRow.det {N : Nat} {row : Nat → Nat} {ks ls : List Nat} (h : LRow N row ks) (g : LRow N row ls) : ks = ls := by
  induction h generalizing ls with
  | nil I a =>
    cases g with
    | nil => rfl
    | cons I' hk hlt _ _ =>
      rw [I'.un I] at hlt
      have := a _ hk
      omega
  | cons I hk hlt lo _ ih =>
    cases g with
    | nil I' a =>
      rw [I'.un I] at a
      have := a _ hk
      omega
    | cons I' hk' hlt' lo' g' =>
      rw [I'.un I] at hlt' lo'
      rename_i k _ _ _ k' _
      have e : k = k' := by
        rcases Nat.lt_trichotomy k k' with q | q | q
        · have := lo' k q; omega
        · exact q
        · have := lo k' q; omega
      subst e
      rw [ih g']
theorem asc_nil {N : Nat} {ss : List (Nat × Rat)} {row ρ : Nat → Nat} (h : Lst N ss row) (I : Inv row ρ) (a : ∀ k, k + 1 < N → ρ k < ρ (k + 1)) : ss = [] := by
  obtain ⟨ρ', I', g⟩ := lrev h
  rw [I'.un I] at g
  rcases snoc_inv g with ⟨e, _⟩ | ⟨tt, row0, k, b, e, e2, g', hk, hlt, hb⟩
  · exact List.reverse_eq_nil_iff.mp e
  · subst e2
    have := a k hk
    rw [sw_l, sw_r] at this
    omega
theorem least_k {P : Nat → Prop} : ∀ {n : Nat}, (∃ k, k < n ∧ P k) → ∃ k, k < n ∧ P k ∧ ∀ l, l < k → ¬ P l
  | 0, ⟨k, h, _⟩ => by omega
  | n + 1, ⟨k, h, p⟩ => by
    by_cases c : ∃ k, k < n ∧ P k
    · obtain ⟨k, h1, h2, h3⟩ := least_k c
      exact ⟨k, by omega, h2, h3⟩
    · exact ⟨k, h, p, fun l hl q => c ⟨l, by omega, q⟩⟩
/-- the form -/
structure Fm (N : Nat) (ss : List (Nat × Rat)) (row : Nat → Nat) (ff : List (Nat × Rat)) : Prop where
  lst : Lst N ff row
  eqv : Eqv ss ff
  row : LRow N row (ff.map (·.1))
theorem Inv.ne {row ρ : Nat → Nat} (I : Inv row ρ) {i j : Nat} (h : i ≠ j) : ρ i ≠ ρ j := fun q => h (by
  have := congrArg row q
  rwa [I.r, I.r] at this)
theorem fm_ex {N : Nat} : ∀ (n : Nat) {ss : List (Nat × Rat)} {row : Nat → Nat}, ss.length ≤ n → Lst N ss row → ∃ ff, Fm N ss row ff
  | n, ss, row, hn, h => by
    obtain ⟨ρ, I⟩ := h.inv
    by_cases c : ∃ k, k < N ∧ (k + 1 < N ∧ ρ (k + 1) < ρ k)
    · obtain ⟨k, _, ⟨hk, hlt⟩, lo⟩ := least_k c
      obtain ⟨us, b, g1, g2, g3⟩ := tf_ex h I hk hlt
      obtain ⟨n, rfl⟩ : ∃ m, n = m + 1 := ⟨n - 1, by omega⟩
      obtain ⟨row0, ρ0, e, I0, gu, hlt0, _, hb⟩ := luncons g1
      subst e
      obtain ⟨ff, f⟩ := fm_ex n (by omega) gu
      refine ⟨(k, b) :: ff, lcons f.lst hk hb I0 hlt0, fun x => by rw [g2, run_cons, run_cons, f.eqv], ?_⟩
      refine .cons I hk hlt (fun l hl => ?_) ?_
      · have hl : l < k := hl
        have q := lo l hl
        have ne := I.ne (i := l) (j := l + 1) (by omega)
        have q2 : ¬ ρ (l + 1) < ρ l := fun q3 => q ⟨by omega, q3⟩
        omega
      · simp only [tr_tr]
        exact f.row
    · have a : ∀ k, k + 1 < N → ρ k < ρ (k + 1) := fun k hk => by
        have ne := I.ne (i := k) (j := k + 1) (by omega)
        have q : ¬ ρ (k + 1) < ρ k := fun q => c ⟨k, by omega, hk, q⟩
        omega
      have e := asc_nil h I a
      subst e
      exact ⟨[], h, .refl, .nil I a⟩
theorem fm_un {N : Nat} {ss tt ff gg : List (Nat × Rat)} {row row' : Nat → Nat} (f : Fm N ss row ff) (g : Fm N tt row' gg) (e : Eqv ss tt) (er : row = row') : ff = gg := by
  subst er
  exact same_sizes _ rfl f.lst g.lst (f.row.det g.row) fun x _ => (f.eqv x).symm.trans ((e x).trans (g.eqv x))
theorem Lst.out {N : Nat} {ss : List (Nat × Rat)} {row : Nat → Nat} (h : Lst N ss row) : ∀ i, N ≤ i → row i = i := by
  induction h with
  | nil => exact fun _ _ => rfl
  | snoc h hk hlt ha ih => exact fun i hi => by rw [sw_o (by omega) (by omega)]; exact ih i hi
/-- least nets that do the same have one row -/
theorem row_un {N : Nat} {ss tt : List (Nat × Rat)} {row row' : Nat → Nat} (h : Lst N ss row) (g : Lst N tt row') (e : Eqv ss tt) : row = row' := by
  funext i
  by_cases hi : i < N
  · exact same_row h g (fun x _ => e x) i hi
  · rw [h.out i (by omega), g.out i (by omega)]
end El
set_option Elab.async false
set_option linter.all false
namespace El
/-! ## minors -/
def sm (n : Nat) (f : Nat → Rat) : Rat := match n with
  | 0 => 0
  | n + 1 => sm n f + f n
theorem sm_congr {f g : Nat → Rat} : ∀ {n : Nat}, (∀ i, i < n → f i = g i) → sm n f = sm n g
  | 0, _ => rfl
  | n + 1, h => by simp only [sm]; rw [sm_congr fun i hi => h i (by omega), h n (by omega)]
theorem sm_zero {f : Nat → Rat} : ∀ {n : Nat}, (∀ i, i < n → f i = 0) → sm n f = 0
  | 0, _ => rfl
  | n + 1, h => by simp only [sm]; rw [sm_zero fun i hi => h i (by omega), h n (by omega)]; grind
theorem sm_lin {f g : Nat → Rat} {c : Rat} : ∀ {n : Nat}, sm n (fun i => f i + c * g i) = sm n f + c * sm n g
  | 0 => by simp only [sm]; grind
  | n + 1 => by simp only [sm]; rw [sm_lin]; grind
theorem sm_mul {f : Nat → Rat} {c : Rat} : ∀ {n : Nat}, sm n (fun i => c * f i) = c * sm n f
  | 0 => by simp only [sm]; grind
  | n + 1 => by simp only [sm]; rw [sm_mul]; grind
theorem sm_swap {F : Nat → Nat → Rat} {m : Nat} : ∀ {n : Nat}, sm n (fun i => sm m (F i)) = sm m (fun j => sm n fun i => F i j)
  | 0 => by simp only [sm]; exact (sm_zero fun _ _ => rfl).symm
  | n + 1 => by
    simp only [sm]
    rw [sm_swap]
    have := sm_lin (n := m) (f := fun j => sm n fun i => F i j) (g := F n) (c := 1)
    rw [show (fun j => sm n (fun i => F i j) + F n j) = fun i => sm n (fun i_1 => F i_1 i) + 1 * F n i by funext i; grind, this]
    grind
def cnt (S : Nat → Bool) : Nat → Nat
  | 0 => 0
  | c + 1 => cnt S c + (if S c = true then 1 else 0)
def sgn (n : Nat) : Rat := if n % 2 = 0 then 1 else -1
theorem sgn_succ {n : Nat} : sgn (n + 1) = -sgn n := by
  unfold sgn
  by_cases h : n % 2 = 0
  · rw [if_pos h, if_neg (by omega)]
  · rw [if_neg h, if_pos (by omega)]; rfl
theorem sgn_sq {n : Nat} : sgn n * sgn n = 1 := by
  unfold sgn
  split <;> grind
theorem sgn_or (n : Nat) : sgn n = 1 ∨ sgn n = -1 := by
  unfold sgn
  split
  · exact .inl rfl
  · exact .inr rfl
def del (S : Nat → Bool) (c : Nat) : Nat → Bool := fun i => S i && decide (i ≠ c)
theorem cnt_le {S : Nat → Bool} {c : Nat} : ∀ {d : Nat}, d ≤ c → cnt (del S c) d = cnt S d
  | 0, _ => rfl
  | d + 1, h => by
    have e : del S c d = S d := by
      have : d ≠ c := by omega
      simp [del, this]
    have h2 := cnt_le (S := S) (c := c) (d := d) (by omega)
    simp only [cnt, e, h2]
theorem cnt_gt {S : Nat → Bool} {c : Nat} (hc : S c = true) : ∀ {d : Nat}, c < d → cnt (del S c) d + 1 = cnt S d
  | 0, h => by omega
  | d + 1, h => by
    by_cases e : d = c
    · subst e
      have z : del S d d = false := by simp [del]
      simp only [cnt, z, hc, cnt_le (Nat.le_refl d)]
      simp
    · have := cnt_gt hc (d := d) (by omega)
      have z : del S c d = S d := by simp [del, e]
      simp only [cnt, z]
      omega
theorem del_del {S : Nat → Bool} {c d : Nat} : del (del S c) d = del (del S d) c := by
  funext i
  unfold del
  cases S i <;> simp [Bool.and_comm]
def wg (N : Nat) (u : Nat → Rat) (w : (Nat → Bool) → Rat) (S : Nat → Bool) : Rat := sm N fun c => if S c = true then sgn (cnt S c) * u c * w (del S c) else 0
theorem wg_lin1 {N : Nat} {u v : Nat → Rat} {a : Rat} {w : (Nat → Bool) → Rat} {S : Nat → Bool} : wg N (fun i => u i + a * v i) w S = wg N u w S + a * wg N v w S := by
  unfold wg
  rw [← sm_lin]
  refine sm_congr fun i _ => ?_
  split
  · grind
  · grind
theorem wg_lin2 {N : Nat} {u : Nat → Rat} {a : Rat} {w x : (Nat → Bool) → Rat} {S : Nat → Bool} : wg N u (fun T => w T + a * x T) S = wg N u w S + a * wg N u x S := by
  unfold wg
  rw [← sm_lin]
  refine sm_congr fun i _ => ?_
  split
  · grind
  · grind
theorem wg_zero {N : Nat} {u : Nat → Rat} {w : (Nat → Bool) → Rat} (h : ∀ T, w T = 0) {S : Nat → Bool} : wg N u w S = 0 := by
  unfold wg
  refine sm_zero fun i _ => ?_
  rw [h]
  split
  · grind
  · rfl
theorem wg_anti {N : Nat} {u v : Nat → Rat} {w : (Nat → Bool) → Rat} {S : Nat → Bool} : wg N u (wg N v w) S = -wg N v (wg N u w) S := by
  have ex : ∀ (u v : Nat → Rat), wg N u (wg N v w) S = sm N fun c => sm N fun d => (if S c = true ∧ S d = true ∧ d ≠ c then sgn (cnt S c) * sgn (cnt (del S c) d) else 0) * (u c * v d * w (del (del S c) d)) := fun u v => by
    unfold wg
    refine sm_congr fun c _ => ?_
    by_cases hc : S c = true
    · rw [if_pos hc, ← sm_mul]
      refine sm_congr fun d _ => ?_
      by_cases hd : S d = true ∧ d ≠ c
      · have e : del S c d = true := by simp [del, hd.1, hd.2]
        rw [if_pos e, if_pos ⟨hc, hd⟩]
        grind
      · have e : ¬ del S c d = true := fun q => hd (by simpa [del] using q)
        rw [if_neg e, if_neg fun q => hd q.2]
        grind
    · rw [if_neg hc]
      refine (sm_zero fun d _ => ?_).symm
      rw [if_neg fun q => hc q.1]
      grind
  rw [ex, ex, sm_swap]
  have : ∀ (x : Rat), -x = (-1) * x := fun x => by grind
  rw [this, ← sm_mul]
  refine sm_congr fun c _ => ?_
  rw [← sm_mul]
  refine sm_congr fun d _ => ?_
  by_cases h : S c = true ∧ S d = true ∧ d ≠ c
  · obtain ⟨hc, hd, hn⟩ := h
    rw [if_pos ⟨hd, hc, fun q => hn q.symm⟩, if_pos ⟨hc, hd, hn⟩, del_del (c := d)]
    rcases (by omega : c < d ∨ d < c) with q | q
    · have e1 := cnt_gt hc q
      rw [← e1, sgn_succ, cnt_le (c := d) (Nat.le_of_lt q)]
      grind
    · have e1 := cnt_gt hd q
      rw [← e1, sgn_succ, cnt_le (c := c) (Nat.le_of_lt q)]
      grind
  · rw [if_neg fun q => h ⟨q.2.1, q.1, fun z => q.2.2 z.symm⟩, if_neg h]
    grind
def wl (N : Nat) : List (Nat → Rat) → (Nat → Bool) → Rat
  | [] => fun _ => 1
  | u :: B => wg N u (wl N B)
theorem wl_alt {N : Nat} {u : Nat → Rat} : ∀ {B : List (Nat → Rat)}, u ∈ B → ∀ S, wg N u (wl N B) S = 0
  | [], h, _ => by simp at h
  | v :: B, h, S => by
    have an := wg_anti (N := N) (u := u) (v := v) (w := wl N B) (S := S)
    show wg N u (wg N v (wl N B)) S = 0
    rcases List.mem_cons.mp h with e | h
    · subst e
      grind
    · rw [an, wg_zero (wl_alt h)]
      grind
theorem wl_lin {N : Nat} {u v : Nat → Rat} {a : Rat} {B2 : List (Nat → Rat)} : ∀ {B1 : List (Nat → Rat)} (S : Nat → Bool), wl N (B1 ++ (fun i => u i + a * v i) :: B2) S = wl N (B1 ++ u :: B2) S + a * wl N (B1 ++ v :: B2) S
  | [], S => wg_lin1
  | w :: B1, S => by
    have ih := fun S => wl_lin (N := N) (u := u) (v := v) (a := a) (B1 := B1) (B2 := B2) S
    show wg N w (wl N (B1 ++ _ :: B2)) S = _
    rw [show wl N (B1 ++ (fun i => u i + a * v i) :: B2) = fun T => wl N (B1 ++ u :: B2) T + a * wl N (B1 ++ v :: B2) T from funext ih, wg_lin2]
    rfl
theorem wl_dup {N : Nat} {B : List (Nat → Rat)} {u : Nat → Rat} (h : u ∈ B) : ∀ {B1 : List (Nat → Rat)} (S : Nat → Bool), wl N (B1 ++ u :: B) S = 0
  | [], S => wl_alt h S
  | w :: B1, S => wg_zero fun T => wl_dup h T
/-! ### a solution made of minors -/
def st (C : List Nat) : Nat → Bool := fun i => decide (i ∈ C)
theorem st_del {C : List Nat} {c : Nat} (h : c ∉ C) : del (st (c :: C)) c = st C := by
  funext i
  unfold del st
  by_cases e : i = c
  · subst e; simp [h]
  · simp [e]
theorem pig : ∀ {U C : List Nat}, U.Nodup → C.length < U.length → ∃ c, c ∈ U ∧ c ∉ C
  | [], C, _, h => by simp at h
  | u :: U, C, nd, h => by
    cases nd with
    | cons n1 n2 =>
      by_cases c : u ∈ C
      · have hl : (C.erase u).length < U.length := by
          rw [List.length_erase_of_mem c]
          have := List.length_pos_of_mem c
          simp at h
          omega
        obtain ⟨x, h1, h2⟩ := pig n2 hl
        refine ⟨x, List.mem_cons_of_mem _ h1, fun q => h2 ?_⟩
        have : x ≠ u := fun z => n1 x h1 z.symm
        exact (List.mem_erase_of_ne this).mpr q
      · exact ⟨u, List.mem_cons_self, c⟩
theorem nd_len {A B : List Nat} (nd : A.Nodup) (h : ∀ x ∈ A, x ∈ B) : A.length ≤ B.length := by
  refine Classical.byContradiction fun q => ?_
  obtain ⟨c, h1, h2⟩ := pig (C := B) nd (by omega)
  exact h2 (h c h1)
def sol (N : Nat) (rows : Nat → Nat → Rat) (B : List Nat) (C : List Nat) : Nat → Rat := fun c => if c < N ∧ st C c = true then sgn (cnt (st C) c) * wl N (B.map rows) (del (st C) c) else 0
theorem cram {N : Nat} {rows : Nat → Nat → Rat} {L U : List Nat} (nU : U.Nodup) (lU : ∀ c ∈ U, c < N) (hl : L.length < U.length) : ∀ (n : Nat) (B C : List Nat), L.length - B.length ≤ n → B.Nodup → (∀ l ∈ B, l ∈ L) → C.length = B.length → (∀ c ∈ C, c ∈ U) → wl N (B.map rows) (st C) ≠ 0 →
    ∃ B' C', B'.Nodup ∧ (∀ l ∈ B', l ∈ L) ∧ (∀ c ∈ C', c ∈ U) ∧ (∃ c, sol N rows B' C' c ≠ 0) ∧ ∀ l ∈ L, sm N (fun c => rows l c * sol N rows B' C' c) = 0
  | n, B, C, hn, nB, sB, lC, sC, nz => by
    have lB := nd_len nB sB
    obtain ⟨c0, h1, h2⟩ := pig (C := C) nU (by omega)
    have sC' : ∀ c ∈ c0 :: C, c ∈ U := fun c hc => by
      rcases List.mem_cons.mp hc with e | hc
      · rw [e]; exact h1
      · exact sC c hc
    by_cases all : ∀ l ∈ L, wg N (rows l) (wl N (B.map rows)) (st (c0 :: C)) = 0
    · refine ⟨B, c0 :: C, nB, sB, sC', ⟨c0, ?_⟩, fun l hl => ?_⟩
      · unfold sol
        rw [if_pos ⟨lU c0 h1, by simp [st]⟩, st_del h2]
        intro z
        rcases Rat.mul_eq_zero.mp z with r | r
        · rcases sgn_or (cnt (st (c0 :: C)) c0) with q | q <;> rw [q] at r <;> exact absurd r (by decide)
        · exact nz r
      · rw [← all l hl]
        unfold wg
        refine sm_congr fun c hc => ?_
        unfold sol
        by_cases e : st (c0 :: C) c = true
        · rw [if_pos ⟨hc, e⟩, if_pos e]; grind
        · rw [if_neg fun q => e q.2, if_neg e]; grind
    · have : ∃ l, l ∈ L ∧ wg N (rows l) (wl N (B.map rows)) (st (c0 :: C)) ≠ 0 := Classical.byContradiction fun q => all fun l hl => Classical.byContradiction fun r => q ⟨l, hl, r⟩
      obtain ⟨l, ll, lz⟩ := this
      have lnB : l ∉ B := fun q => lz (wl_alt (List.mem_map_of_mem q) _)
      have nB' : (l :: B).Nodup := List.nodup_cons.mpr ⟨lnB, nB⟩
      have sB' : ∀ x ∈ l :: B, x ∈ L := fun x hx => by
        rcases List.mem_cons.mp hx with e | hx
        · rw [e]; exact ll
        · exact sB x hx
      have lB' := nd_len nB' sB'
      simp only [List.length_cons] at lB'
      obtain ⟨n, rfl⟩ : ∃ m, n = m + 1 := ⟨n - 1, by omega⟩
      exact cram nU lU hl n (l :: B) (c0 :: C) (by simp only [List.length_cons]; omega) nB' sB' (by simp [lC]) sC' lz
end El
set_option Elab.async false
set_option linter.all false
namespace El
/-! ## vectors for things, of bounded size -/
def de (c : Nat) : Nat → Rat := fun i => if i = c then 1 else 0
def rw' (ss : List (Nat × Rat)) (l c : Nat) : Rat := run ss (de c) l
theorem run_zero {ss : List (Nat × Rat)} : run ss (fun _ => 0) = fun _ => 0 := by
  have h := run_lin (ss := ss) (c := -1) (x := fun _ => 0) (y := fun _ => 0)
  have e : (fun i : Nat => (0 : Rat) + -1 * 0) = fun _ => 0 := by funext i; grind
  rw [e] at h
  funext i
  have := congrFun h i
  grind
theorem run_exp {N : Nat} {ss : List (Nat × Rat)} {x : Nat → Rat} (hx : ∀ i, N ≤ i → x i = 0) (l : Nat) : run ss x l = sm N fun c => rw' ss l c * x c := by
  have key : ∀ n, run ss (fun i => if i < n then x i else 0) l = sm n fun c => rw' ss l c * x c := by
    intro n
    induction n with
    | zero =>
      have e : (fun i => if i < 0 then x i else 0) = fun _ => (0 : Rat) := by funext i; rw [if_neg (by omega)]
      rw [e, run_zero]
      rfl
    | succ n ih =>
      have e : (fun i => if i < n + 1 then x i else 0) = fun i => (if i < n then x i else 0) + x n * de n i := by
        funext i
        unfold de
        by_cases h1 : i < n
        · rw [if_pos (by omega), if_pos h1, if_neg (by omega)]; grind
        · by_cases h2 : i = n
          · subst h2; rw [if_pos (by omega), if_neg h1, if_pos rfl]; grind
          · rw [if_neg (by omega), if_neg h1, if_neg h2]; grind
      rw [e, run_lin]
      simp only [sm]
      rw [ih]
      unfold rw'
      grind
  rw [← key N]
  congr 1
  funext i
  by_cases h : i < N
  · rw [if_pos h]
  · rw [if_neg h]; exact hx i (by omega)
def IB (D U : Nat) (q : Rat) : Prop := ∃ z : Int, q * (D : Rat) = (z : Rat) ∧ z.natAbs ≤ U
theorem IB.zero {D U : Nat} : IB D U 0 := ⟨0, by rw [Rat.zero_mul]; rfl, Nat.zero_le _⟩
theorem IB.neg {D U : Nat} {q : Rat} (h : IB D U q) : IB D U (-q) := by
  obtain ⟨z, e, b⟩ := h
  exact ⟨-z, by rw [Rat.neg_mul, e, Rat.intCast_neg], by omega⟩
theorem IB.sgn {D U n : Nat} {q : Rat} (h : IB D U q) : IB D U (sgn n * q) := by
  rcases sgn_or n with e | e
  · rw [e, Rat.one_mul]; exact h
  · rw [e]
    have : (-1 : Rat) * q = -q := by grind
    rw [this]; exact h.neg
theorem num_den (a : Rat) : a * (a.den : Rat) = (a.num : Rat) := by
  have hd : (a.den : Rat) ≠ 0 := fun z => by
    have := a.den_pos
    have : a.den = 0 := by exact_mod_cast z
    omega
  have h1 : (a.num : Rat) / (a.den : Rat) = a := (Rat.mkRat_eq_div _ _).symm.trans (Rat.mkRat_self a)
  have := Rat.div_mul_cancel (a := (a.num : Rat)) hd
  rwa [h1] at this
theorem IB.step {D U : Nat} {a q1 q2 q3 : Rat} (h1 : IB D U q1) (h2 : IB D U q2) (h3 : IB D U q3) : IB (D * a.den) (U * (a.den + 2 * a.num.natAbs)) (q1 + a * q2 + a * q3) := by
  obtain ⟨z1, e1, b1⟩ := h1
  obtain ⟨z2, e2, b2⟩ := h2
  obtain ⟨z3, e3, b3⟩ := h3
  refine ⟨z1 * a.den + a.num * z2 + a.num * z3, ?_, ?_⟩
  · have hn := num_den a
    rw [Rat.intCast_add, Rat.intCast_add, Rat.intCast_mul, Rat.intCast_mul, Rat.intCast_mul, Rat.natCast_mul, ← e1, ← e2, ← e3, Rat.intCast_natCast, ← hn]
    grind
  · have t1 : (z1 * (a.den : Int) + a.num * z2 + a.num * z3).natAbs ≤ z1.natAbs * a.den + a.num.natAbs * z2.natAbs + a.num.natAbs * z3.natAbs := by
      refine Nat.le_trans (Int.natAbs_add_le _ _) (Nat.add_le_add (Nat.le_trans (Int.natAbs_add_le _ _) (Nat.add_le_add ?_ ?_)) ?_)
      · rw [Int.natAbs_mul, Int.natAbs_natCast]; exact Nat.le_refl _
      · rw [Int.natAbs_mul]; exact Nat.le_refl _
      · rw [Int.natAbs_mul]; exact Nat.le_refl _
    have m1 := Nat.mul_le_mul_right a.den b1
    have m2 := Nat.mul_le_mul_left a.num.natAbs b2
    have m3 := Nat.mul_le_mul_left a.num.natAbs b3
    have e : U * (a.den + 2 * a.num.natAbs) = U * a.den + a.num.natAbs * U + a.num.natAbs * U := by grind
    omega
theorem IB.up {D U : Nat} {a q : Rat} (h : IB D U q) : IB (D * a.den) (U * (a.den + 2 * a.num.natAbs)) q := by
  have := IB.step (a := a) h .zero .zero
  rw [Rat.mul_zero, Rat.add_zero, Rat.add_zero] at this
  exact this
def dn (ss : List (Nat × Rat)) : Nat := ss.foldl (fun n s => n * s.2.den) 1
def up (ss : List (Nat × Rat)) : Nat := ss.foldl (fun n s => n * (s.2.den + 2 * s.2.num.natAbs)) 1
theorem dn_snoc {ss : List (Nat × Rat)} {s : Nat × Rat} : dn (ss ++ [s]) = dn ss * s.2.den := by simp [dn]
theorem up_snoc {ss : List (Nat × Rat)} {s : Nat × Rat} : up (ss ++ [s]) = up ss * (s.2.den + 2 * s.2.num.natAbs) := by simp [up]
theorem sm_one {f : Nat → Rat} {b : Nat} : ∀ {n : Nat}, (∀ i, i < n → i ≠ b → f i = 0) → sm n f = if b < n then f b else 0
  | 0, _ => by rw [if_neg (by omega)]; rfl
  | n + 1, h => by
    simp only [sm]
    rw [sm_one fun i hi => h i (by omega)]
    by_cases h1 : b < n
    · rw [if_pos h1, if_pos (by omega), h n (by omega) (by omega)]; grind
    · by_cases h2 : b = n
      · subst h2; rw [if_neg h1, if_pos (by omega)]; grind
      · rw [if_neg h1, if_neg (by omega), h n (by omega) (fun q => h2 q.symm)]; grind
theorem wl_zero {N : Nat} {B2 : List (Nat → Rat)} : ∀ {B1 : List (Nat → Rat)} (S : Nat → Bool), wl N (B1 ++ (fun _ => 0) :: B2) S = 0
  | [], S => by
    show wg N _ _ S = 0
    unfold wg
    refine sm_zero fun i _ => ?_
    split <;> grind
  | w :: B1, S => wg_zero fun T => wl_zero T
theorem mn_nil {N : Nat} : ∀ (B : List Nat) (S : Nat → Bool), IB 1 1 (wl N (B.map (rw' [])) S)
  | [], S => ⟨1, by show (1 : Rat) * _ = _; rw [Rat.one_mul]; rfl, by decide⟩
  | b :: B, S => by
    show IB 1 1 (wg N _ _ S)
    unfold wg
    rw [sm_one (b := b)]
    · split
      · split
        · have e : rw' [] b b = 1 := by simp [rw', de]
          rw [e, Rat.mul_one]
          exact (mn_nil B _).sgn
        · exact .zero
      · exact .zero
    · intro i _ hi
      split
      · have e : rw' [] b i = 0 := by
          have : ¬ b = i := fun q => hi q.symm
          simp [rw', de, this]
        rw [e]; grind
      · rfl
theorem rw_ne {ss : List (Nat × Rat)} {k l : Nat} {a : Rat} (h : l ≠ k) : rw' (ss ++ [(k, a)]) l = rw' ss l := by
  funext c
  unfold rw'
  rw [run_snoc, tk_ne h]
theorem rw_eq {ss : List (Nat × Rat)} {k : Nat} {a : Rat} : rw' (ss ++ [(k, a)]) k = fun c => (rw' ss k c + a * rw' ss (k + 1) c) + a * (if k = 0 then fun _ => 0 else rw' ss (k - 1)) c := by
  funext c
  unfold rw'
  rw [run_snoc, tk_eq]
  unfold bv
  split
  · grind
  · grind
theorem mn_bd {N : Nat} (ss : List (Nat × Rat)) : ∀ (B : List Nat) (S : Nat → Bool), B.Nodup → IB (dn ss) (up ss) (wl N (B.map (rw' ss)) S) := by
  refine sn_ind (P := fun ss => ∀ (B : List Nat) (S : Nat → Bool), B.Nodup → IB (dn ss) (up ss) (wl N (B.map (rw' ss)) S)) (fun B S _ => mn_nil B S) (fun ss s ih B S nd => ?_) ss
  obtain ⟨k, a⟩ := s
  rw [dn_snoc, up_snoc]
  by_cases hk : k ∈ B
  · obtain ⟨B1, B2, rfl⟩ := List.append_of_mem hk
    have n1 : ∀ b ∈ B1, b ≠ k := fun b hb q => by
      subst q
      have := (List.nodup_append.mp nd).2.2 b hb b List.mem_cons_self
      exact this rfl
    have n2 : ∀ b ∈ B2, b ≠ k := fun b hb q => by
      subst q
      exact (List.nodup_cons.mp (List.nodup_append.mp nd).2.1).1 hb
    have m1 : B1.map (rw' (ss ++ [(k, a)])) = B1.map (rw' ss) := List.map_congr_left fun b hb => rw_ne (n1 b hb)
    have m2 : B2.map (rw' (ss ++ [(k, a)])) = B2.map (rw' ss) := List.map_congr_left fun b hb => rw_ne (n2 b hb)
    have other : ∀ j, IB (dn ss) (up ss) (wl N (B1.map (rw' ss) ++ rw' ss j :: B2.map (rw' ss)) S) := fun j => by
      by_cases j1 : j ∈ B1
      · obtain ⟨C1, C2, rfl⟩ := List.append_of_mem j1
        have : wl N ((C1 ++ j :: C2).map (rw' ss) ++ rw' ss j :: B2.map (rw' ss)) S = 0 := by
          rw [List.map_append, List.map_cons, List.append_assoc, List.cons_append]
          exact wl_dup (List.mem_append_right _ List.mem_cons_self) S
        rw [this]; exact .zero
      · by_cases j2 : j ∈ B2
        · rw [wl_dup (List.mem_map_of_mem j2) S]; exact .zero
        · have e : B1.map (rw' ss) ++ rw' ss j :: B2.map (rw' ss) = (B1 ++ j :: B2).map (rw' ss) := by simp
          rw [e]
          refine ih _ S (List.nodup_append.mpr ⟨(List.nodup_append.mp nd).1, List.nodup_cons.mpr ⟨j2, (List.nodup_cons.mp (List.nodup_append.mp nd).2.1).2⟩, fun x hx y hy q => ?_⟩)
          subst q
          rcases List.mem_cons.mp hy with e | hy
          · rw [e] at hx; exact j1 hx
          · exact (List.nodup_append.mp nd).2.2 x hx x (List.mem_cons_of_mem _ hy) rfl
    rw [List.map_append, List.map_cons, m1, m2, rw_eq, wl_lin, wl_lin]
    refine IB.step (other k) (other (k + 1)) ?_
    by_cases z : k = 0
    · rw [if_pos z, wl_zero]; exact .zero
    · rw [if_neg z]; exact other (k - 1)
  · have m : B.map (rw' (ss ++ [(k, a)])) = B.map (rw' ss) := List.map_congr_left fun b hb => rw_ne fun q => hk (by rw [← q]; exact hb)
    rw [m]
    exact (ih B S nd).up
theorem Lst.lt {N : Nat} {ss : List (Nat × Rat)} {row : Nat → Nat} (h : Lst N ss row) : ∀ i, i < N → row i < N := by
  induction h with
  | nil => exact fun i hi => hi
  | snoc h hk hlt ha ih =>
    intro i hi
    unfold sw
    split
    · exact ih _ (by omega)
    · split
      · exact ih _ (by omega)
      · exact ih _ hi
theorem ad_bd {N : Nat} {nn ss : List (Nat × Rat)} {row : Nat → Nat} (h : Lst N ss row) (e : Eqv nn ss) {p : Nat} (hp : p < N) : ∃ f, Ad N ss row p f ∧ ∀ i, IB (dn nn) (up nn) (f i) := by
  obtain ⟨ρ, I⟩ := h.inv
  have er : rw' nn = rw' ss := by
    funext l c
    unfold rw'
    rw [e]
  have inj : ∀ {i j}, row i = row j → i = j := fun {i j} q => by
    have := congrArg ρ q
    rwa [I.l, I.l] at this
  let L := (List.range p).filter fun l => decide (row p < row l)
  have hL : ∀ l, l ∈ L ↔ l < p ∧ row p < row l := fun l => by simp [L]
  have nL : L.Nodup := List.Pairwise.filter _ List.nodup_range
  let U := row p :: L.map row
  have hU : ∀ c, c ∈ U ↔ c = row p ∨ ∃ l, l ∈ L ∧ row l = c := fun c => by simp [U]
  have nU : U.Nodup := by
    refine List.nodup_cons.mpr ⟨fun q => ?_, ?_⟩
    · obtain ⟨l, hl, q⟩ := List.mem_map.mp q
      have := (hL l).mp hl
      omega
    · exact List.Pairwise.map row (fun a b hab q => hab (inj q)) nL
  have lU : ∀ c ∈ U, c < N := fun c hc => by
    rcases (hU c).mp hc with q | ⟨l, hl, q⟩
    · rw [q]; exact h.lt p hp
    · rw [← q]; exact h.lt l (by have := (hL l).mp hl; omega)
  obtain ⟨B', C', nB, sB, sC, ⟨c0, hc0⟩, van⟩ := cram (rows := rw' ss) nU lU (L := L) (by simp [U]) L.length [] [] (by simp) List.nodup_nil (by simp) rfl (by simp) (by show (1 : Rat) ≠ 0; decide)
  generalize hx : sol N (rw' ss) B' C' = x at *
  have sup : ∀ i, x i ≠ 0 → i ∈ U := fun i hi => by
    rw [← hx] at hi
    unfold sol at hi
    by_cases q : i < N ∧ st C' i = true
    · exact sC i (by simpa [st] using q.2)
    · rw [if_neg q] at hi; exact absurd rfl hi
  have geU : ∀ i, i ∈ U → row p ≤ i := fun i hi => by
    rcases (hU i).mp hi with q | ⟨l, hl, q⟩
    · omega
    · have := (hL l).mp hl; omega
  have sN : ∀ i, N ≤ i → x i = 0 := fun i hi => Classical.byContradiction fun q => by
    have := lU i (sup i q)
    omega
  have van : ∀ l ∈ L, run ss x l = 0 := fun l hl => by rw [run_exp sN]; exact van l hl
  obtain ⟨i1, _, a1, b1⟩ := first (y := x) ⟨c0, Nat.le_refl _, hc0⟩
  have hp1 : ∃ p1, row p1 = i1 ∧ (p1 = p ∨ p1 < p) := by
    rcases (hU i1).mp (sup i1 a1) with q | ⟨l, hl, q⟩
    · exact ⟨p, q.symm, .inl rfl⟩
    · exact ⟨l, q, .inr ((hL l).mp hl).1⟩
  obtain ⟨p1, e1, c1⟩ := hp1
  obtain ⟨i0, g1, g2, g3⟩ := first (st2 h b1 a1 e1)
  obtain ⟨i2, d1, d2⟩ := st1 h g3 g2
  have d3 := geU i2 (sup i2 d2)
  have hge : p ≤ i0 := Classical.byContradiction fun q => by
    by_cases r : row p < row i0
    · exact g2 (van i0 ((hL i0).mpr ⟨by omega, r⟩))
    · have := inj (i := i0) (j := p) (by omega)
      omega
  have ep : p1 = p := by omega
  subst ep
  refine ⟨x, ⟨fun i hi => b1 i (by omega), by rw [e1]; exact a1, fun i hi => g3 i (by omega), sN⟩, fun i => ?_⟩
  rw [← hx]
  unfold sol
  split
  · rw [← er]
    exact (mn_bd nn B' _ nB).sgn
  · exact .zero
theorem Ad.pre {N : Nat} {ss : List (Nat × Rat)} {row : Nat → Nat} {k p : Nat} {a : Rat} {f : Nat → Rat} (h : Lst N ss row) (hlt : row k < row (k + 1)) (A : Ad N (ss ++ [(k, a)]) (sw row k) p f) : Ad N ss row (tr k p) f := by
  have er : row (tr k p) = sw row k p := sw_tr.symm
  refine ⟨by rw [er]; exact A.lo, by rw [er]; exact A.at_, ?_, A.sup⟩
  have out := A.out
  have lo := A.lo
  have s1 := fun {j} => st1 h (x := f) (j := j)
  rw [run_snoc] at out
  generalize run ss f = y at *
  have z : ∀ i, i < p → i ≠ k → y i = 0 := fun i hi hn => by rw [← tk_ne (a := a) (y := y) hn]; exact out i hi
  intro i hi
  unfold tr at hi
  by_cases c1 : p = k
  · subst c1
    rw [if_pos rfl] at hi
    rw [sw_l] at lo
    by_cases e : i = p
    · subst e
      refine Classical.byContradiction fun q => ?_
      obtain ⟨t, t1, t2⟩ := s1 (fun j hj => z j hj (by omega)) q
      exact t2 (lo t (by omega))
    · exact z i (by omega) e
  · by_cases c2 : p = k + 1
    · subst c2
      rw [if_neg c1, if_pos rfl] at hi
      exact z i (by omega) (by omega)
    · rw [if_neg c1, if_neg c2] at hi
      by_cases e : i = k
      · subst e
        have q := out i hi
        rw [tk_eq, bv0 fun j hj => z j (by omega) (by omega), z (i + 1) (by omega) (by omega)] at q
        grind
      · exact z i hi e
theorem Lst.pre {N : Nat} : ∀ (post : List (Nat × Rat)) {pre : List (Nat × Rat)} {row : Nat → Nat}, Lst N (pre ++ post) row → ∃ row0, Lst N pre row0 := by
  intro post
  refine sn_ind (P := fun post => ∀ {pre : List (Nat × Rat)} {row : Nat → Nat}, Lst N (pre ++ post) row → ∃ row0, Lst N pre row0) (fun {pre row} h => ⟨row, by simpa using h⟩) (fun post s ih => ?_) post
  intro pre row h
  obtain ⟨k, a⟩ := s
  rw [← List.append_assoc] at h
  obtain ⟨row1, _, g, _⟩ := h.un
  exact ih g
theorem Ad.pres {N : Nat} {pre : List (Nat × Rat)} {row0 : Nat → Nat} (h0 : Lst N pre row0) {f : Nat → Rat} : ∀ (post : List (Nat × Rat)) {row : Nat → Nat} {p : Nat}, Lst N (pre ++ post) row → Ad N (pre ++ post) row p f → ∃ p0, row0 p0 = row p ∧ Ad N pre row0 p0 f := by
  intro post
  refine sn_ind (P := fun post => ∀ {row : Nat → Nat} {p : Nat}, Lst N (pre ++ post) row → Ad N (pre ++ post) row p f → ∃ p0, row0 p0 = row p ∧ Ad N pre row0 p0 f) (fun {row p} h A => ?_) (fun post s ih => ?_) post
  · rw [List.append_nil] at h A
    have e := row_un h0 h .refl
    subst e
    exact ⟨p, rfl, A⟩
  · intro row p h A
    obtain ⟨k, a⟩ := s
    rw [← List.append_assoc] at h A
    obtain ⟨row1, e, g, _, hlt, _⟩ := h.un
    subst e
    obtain ⟨p0, e0, A0⟩ := ih g (A.pre g hlt)
    exact ⟨p0, by rw [e0, sw_tr], A0⟩
/-- vectors for the things from place to place, ahead of a step -/
theorem fam {N : Nat} {nn pre post : List (Nat × Rat)} {row : Nat → Nat} {k : Nat} {a : Rat} (h : Lst N (pre ++ (k, a) :: post) row) (e : Eqv nn (pre ++ (k, a) :: post)) :
    ∃ F : Nat → Nat → Rat, (∀ j, j < N → (∀ i, i < j → run pre (F j) i = 0) ∧ run pre (F j) j ≠ 0 ∧ (∀ i, N ≤ i → F j i = 0) ∧ ∀ i, IB (dn nn) (up nn) (F j i)) ∧ run pre (F k) k + a * run pre (F k) (k + 1) = 0 := by
  obtain ⟨row0, h0⟩ := h.pre
  have h' : Lst N ((pre ++ [(k, a)]) ++ post) row := by simpa using h
  obtain ⟨row1, h1⟩ := h'.pre
  obtain ⟨row0', e1, h0', hk, hlt, ha⟩ := h1.un
  have e2 := row_un h0 h0' .refl
  subst e2
  obtain ⟨ρ, I⟩ := h.inv
  obtain ⟨ρ0, I0⟩ := h0.inv
  have lt : ∀ i, i < N → ρ i < N := fun i hi => Classical.byContradiction fun q => by
    have := h.out (ρ i) (by omega)
    rw [I.r] at this
    omega
  have ex : ∀ j, ∃ f : Nat → Rat, j < N → ((∀ i, i < j → run pre f i = 0) ∧ run pre f j ≠ 0 ∧ (∀ i, N ≤ i → f i = 0) ∧ ∀ i, IB (dn nn) (up nn) (f i)) ∧ (j = k → run pre f k + a * run pre f (k + 1) = 0) := fun j => by
    by_cases hj : j < N
    · obtain ⟨f, A, b⟩ := ad_bd h e (lt _ (h0.lt j hj)) (p := ρ (row0 j))
      refine ⟨f, fun _ => ?_⟩
      obtain ⟨p0, q0, A0⟩ := Ad.pres h0 _ h A
      rw [I.r] at q0
      have q0 := congrArg ρ0 q0
      rw [I0.l, I0.l] at q0
      subst q0
      refine ⟨⟨A0.out, A0.nz h0, A0.sup, b⟩, fun ek => ?_⟩
      subst ek
      have A' : Ad N ((pre ++ [(p0, a)]) ++ post) row (ρ (row0 p0)) f := by simpa using A
      obtain ⟨p1, q1, A1⟩ := Ad.pres h1 _ h' A'
      rw [I.r, e1] at q1
      have : p1 = p0 + 1 := by
        have I1 := I0.sw p0
        have z := congrArg (fun i => tr p0 (ρ0 i)) q1
        simp only [I1.l] at z
        rw [z, I0.l, tr_l]
      subst this
      have out := A1.out p0 (by omega)
      rw [run_snoc, tk_eq, bv0 A0.out] at out
      grind
    · exact ⟨fun _ => 0, fun q => absurd q hj⟩
  refine ⟨fun j => (ex j).choose, fun j hj => ((ex j).choose_spec hj).1, ((ex k).choose_spec (by omega)).2 rfl⟩
end El
set_option Elab.async false
set_option linter.all false
namespace El
/-! ## a skew form that steps keep -/
def om (N : Nat) (x y : Nat → Rat) : Rat := sm N fun i => sgn i * (x i * y (i + 1) - x (i + 1) * y i)
theorem sm_two {f g : Nat → Rat} {k : Nat} (ho : ∀ i, i ≠ k → i + 1 ≠ k → f i = g i) (h0 : k = 0 → f 0 = g 0) (hs : ∀ j, k = j + 1 → f j + f k = g j + g k) : ∀ {n : Nat}, k < n → sm n f = sm n g
  | 0, h => by omega
  | n + 1, h => by
    by_cases c : k = n
    · subst c
      cases k with
      | zero => simp only [sm]; rw [h0 rfl]
      | succ j =>
        have e : sm j f = sm j g := sm_congr fun i hi => ho i (by omega) (by omega)
        have := hs j rfl
        simp only [sm]
        rw [e]
        grind
    · simp only [sm]
      rw [sm_two ho h0 hs (by omega), ho n (fun q => c q.symm) (by omega)]
theorem om_tk {N k : Nat} {a : Rat} (hk : k + 1 < N) (x y : Nat → Rat) : om N (tk (k, a) x) (tk (k, a) y) = om N x y := by
  unfold om
  refine sm_two (k := k) (fun i h1 h2 => ?_) (fun e => ?_) (fun j e => ?_) (by omega)
  · rw [tk_ne h1, tk_ne h1, tk_ne h2, tk_ne h2]
  · subst e
    rw [tk_eq, tk_eq, tk_ne (by omega), tk_ne (by omega)]
    simp only [bv, if_true]
    grind
  · subst e
    rw [tk_eq, tk_eq, tk_ne (i := j) (by omega), tk_ne (i := j) (by omega), tk_ne (i := j + 1 + 1) (by omega), tk_ne (i := j + 1 + 1) (by omega), sgn_succ]
    have z : ¬ j + 1 = 0 := by omega
    simp only [bv, if_neg z, Nat.add_sub_cancel]
    grind
theorem om_run {N : Nat} : ∀ (ss : List (Nat × Rat)), (∀ s ∈ ss, s.1 + 1 < N) → ∀ (x y : Nat → Rat), om N (run ss x) (run ss y) = om N x y
  | [], _, _, _ => rfl
  | s :: ss, h, x, y => by
    rw [run_cons, run_cons, om_run ss (fun t ht => h t (List.mem_cons_of_mem _ ht)), om_tk (h s List.mem_cons_self)]
theorem sm_from {f : Nat → Rat} {k : Nat} (h : ∀ i, i < k → f i = 0) : ∀ m, sm (k + m) f = sm m fun i => f (k + i)
  | 0 => sm_zero h
  | m + 1 => by
    show sm (k + m) f + f (k + m) = _
    rw [sm_from h m]
    rfl
theorem om_from {k m : Nat} {x y : Nat → Rat} (hx : ∀ i, i < k → x i = 0) (hy : ∀ i, i < k → y i = 0) : om (k + m) x y = sm m fun i => sgn (k + i) * (x (k + i) * y (k + i + 1) - x (k + i + 1) * y (k + i)) := by
  unfold om
  refine sm_from (fun i hi => ?_) m
  rw [hx i hi, hy i hi]
  grind
theorem om_anti {N : Nat} {x y : Nat → Rat} : om N x y = -om N y x := by
  unfold om
  have : ∀ q : Rat, -q = (-1) * q := fun q => by grind
  rw [this, ← sm_mul]
  refine sm_congr fun i _ => ?_
  grind
def pf4 (ab ac ad bc bd cd : Rat) : Rat := ab * cd - ac * bd + ad * bc
/-- the value beyond the last row -/
def en (N : Nat) : Nat → Rat := fun i => if i = N then 1 else 0
theorem om_en {N : Nat} (hN : 0 < N) {x : Nat → Rat} : om N x (en N) = sgn (N - 1) * x (N - 1) := by
  obtain ⟨n, rfl⟩ : ∃ n, N = n + 1 := ⟨N - 1, by omega⟩
  unfold om
  show sm n _ + _ = _
  rw [sm_zero fun i hi => by
    unfold en
    rw [if_neg (by omega), if_neg (by omega)]
    grind]
  unfold en
  show 0 + sgn n * (x n * (if n + 1 = n + 1 then 1 else 0) - x (n + 1) * (if n = n + 1 then 1 else 0)) = _
  rw [if_pos rfl, if_neg (by omega)]
  simp only [Nat.add_sub_cancel]
  grind
section
variable {s a b c q : Rat}
theorem nz2 {x y : Rat} (hx : x ≠ 0) (hy : y ≠ 0) : x * y ≠ 0 := fun z => (Rat.mul_eq_zero.mp z).elim hx hy
theorem cnz (hb : b ≠ 0) (e : b + a * c = 0) : c ≠ 0 := fun z => hb (by rw [z] at e; grind)
theorem snz (hs : s * s = 1) : s ≠ 0 := fun z => by rw [z] at hs; grind
theorem id0 (hs : s * s = 1) (hb : b ≠ 0) (hq : q ≠ 0) (e : b + a * c = 0) {PQ PE QE : Rat} (h1 : PQ = s * (b * q)) (h2 : PE = -s * c) (h3 : QE = -s * q) : a * (PE * QE) = -s * PQ ∧ PE * QE ≠ 0 := by
  subst h1 h2 h3
  refine ⟨?_, nz2 (nz2 (fun z => snz hs (by grind)) (cnz hb e)) (nz2 (fun z => snz hs (by grind)) hq)⟩
  have : a * c = -b := by grind
  grind
theorem id1 {p2 q2 z : Rat} (hs : s * s = 1) (hb : b ≠ 0) (hq : q ≠ 0) (hz : z ≠ 0) (e : b + a * c = 0) {PQ PZ QZ ZE PE QE : Rat} (h1 : PQ = s * (b * q - c * 0 - (c * q2 - p2 * q))) (h2 : PZ = s * (b * 0 - c * 0 - (c * z - p2 * 0))) (h3 : QZ = s * (0 * 0 - q * 0 - (q * z - q2 * 0))) (h4 : ZE = - -s * z) (h5 : PE = - -s * p2) (h6 : QE = - -s * q2) :
    a * (PZ * QZ) = -s * (ZE * pf4 (-PZ) (-QZ) ZE PQ PE QE) ∧ PZ * QZ ≠ 0 := by
  have e1 : pf4 (-PZ) (-QZ) ZE PQ PE QE = b * q * z := by
    unfold pf4
    subst h1 h2 h3 h4 h5 h6
    grind
  rw [e1]
  have h2 : PZ = -s * (c * z) := by rw [h2]; grind
  have h3 : QZ = -s * (q * z) := by rw [h3]; grind
  have h4 : ZE = s * z := by rw [h4]; grind
  subst h2 h3 h4
  refine ⟨?_, nz2 (nz2 (fun z => snz hs (by grind)) (nz2 (cnz hb e) hz)) (nz2 (fun z => snz hs (by grind)) (nz2 hq hz))⟩
  have : a * c = -b := by grind
  grind
theorem id2 {p2 p3 q2 q3 u2 u3 v : Rat} (hs : s * s = 1) (hb : b ≠ 0) (hq : q ≠ 0) (hu : u2 ≠ 0) (hv : v ≠ 0) (e : b + a * c = 0) {PQ PX QX PY QY XY PE QE XE YE : Rat} (h1 : PQ = s * (b * q - c * 0 - (c * q2 - p2 * q) + (p2 * q3 - p3 * q2))) (h2 : PX = s * (b * 0 - c * 0 - (c * u2 - p2 * 0) + (p2 * u3 - p3 * u2))) (h3 : QX = s * (0 * 0 - q * 0 - (q * u2 - q2 * 0) + (q2 * u3 - q3 * u2))) (h4 : PY = s * (b * 0 - c * 0 - (c * 0 - p2 * 0) + (p2 * v - p3 * 0))) (h5 : QY = s * (0 * 0 - q * 0 - (q * 0 - q2 * 0) + (q2 * v - q3 * 0))) (h6 : XY = s * (0 * 0 - 0 * 0 - (0 * 0 - u2 * 0) + (u2 * v - u3 * 0))) (h7 : PE = - - -s * p3) (h8 : QE = - - -s * q3) (h9 : XE = - - -s * u3) (h10 : YE = - - -s * v) :
    a * (pf4 PX PY PE XY XE YE * pf4 QX QY QE XY XE YE) = -s * (XY * pf4 PQ PX PY QX QY XY) ∧ pf4 PX PY PE XY XE YE * pf4 QX QY QE XY XE YE ≠ 0 := by
  have e1 : pf4 PX PY PE XY XE YE = c * u2 * v := by
    unfold pf4
    subst h1 h2 h3 h4 h5 h6 h7 h8 h9 h10
    grind
  have e2 : pf4 QX QY QE XY XE YE = q * u2 * v := by
    unfold pf4
    subst h1 h2 h3 h4 h5 h6 h7 h8 h9 h10
    grind
  have e3 : pf4 PQ PX PY QX QY XY = b * q * u2 * v := by
    unfold pf4
    subst h1 h2 h3 h4 h5 h6 h7 h8 h9 h10
    grind
  rw [e1, e2, e3]
  refine ⟨?_, nz2 (nz2 (nz2 (cnz hb e) hu) hv) (nz2 (nz2 hq hu) hv)⟩
  have h6 : XY = s * (u2 * v) := by rw [h6]; grind
  subst h6
  have : a * c = -b := by grind
  grind
def pf6 (ab ac ad ae af bc bd be bf cd ce cf de df ef : Rat) : Rat := ab * pf4 cd ce cf de df ef - ac * pf4 bd be bf de df ef + ad * pf4 bc be bf ce cf ef - ae * pf4 bc bd bf cd cf df + af * pf4 bc bd be cd ce de
theorem id3 {p2 p3 p4 q2 q3 q4 u2 u3 u4 v3 v4 w : Rat} (hs : s * s = 1) (hb : b ≠ 0) (hq : q ≠ 0) (hu : u2 ≠ 0) (hv : v3 ≠ 0) (hw : w ≠ 0) (e : b + a * c = 0) {PQ PX PY PZ QX QY QZ XY XZ YZ PE QE XE YE ZE : Rat}
    (h1 : PQ = s * (b * q - c * 0 - (c * q2 - p2 * q) + (p2 * q3 - p3 * q2) - (p3 * q4 - p4 * q3))) (h2 : PX = s * (b * 0 - c * 0 - (c * u2 - p2 * 0) + (p2 * u3 - p3 * u2) - (p3 * u4 - p4 * u3))) (h3 : QX = s * (0 * 0 - q * 0 - (q * u2 - q2 * 0) + (q2 * u3 - q3 * u2) - (q3 * u4 - q4 * u3))) (h4 : PY = s * (b * 0 - c * 0 - (c * 0 - p2 * 0) + (p2 * v3 - p3 * 0) - (p3 * v4 - p4 * v3))) (h5 : QY = s * (0 * 0 - q * 0 - (q * 0 - q2 * 0) + (q2 * v3 - q3 * 0) - (q3 * v4 - q4 * v3))) (h6 : XY = s * (0 * 0 - 0 * 0 - (0 * 0 - u2 * 0) + (u2 * v3 - u3 * 0) - (u3 * v4 - u4 * v3))) (h7 : PZ = s * (b * 0 - c * 0 - (c * 0 - p2 * 0) + (p2 * 0 - p3 * 0) - (p3 * w - p4 * 0))) (h8 : QZ = s * (0 * 0 - q * 0 - (q * 0 - q2 * 0) + (q2 * 0 - q3 * 0) - (q3 * w - q4 * 0))) (h9 : XZ = s * (0 * 0 - 0 * 0 - (0 * 0 - u2 * 0) + (u2 * 0 - u3 * 0) - (u3 * w - u4 * 0))) (h10 : YZ = s * (0 * 0 - 0 * 0 - (0 * 0 - 0 * 0) + (0 * 0 - v3 * 0) - (v3 * w - v4 * 0))) (h11 : PE = - - - -s * p4) (h12 : QE = - - - -s * q4) (h13 : XE = - - - -s * u4) (h14 : YE = - - - -s * v4) (h15 : ZE = - - - -s * w) :
    a * (pf4 PX PY PZ XY XZ YZ * pf4 QX QY QZ XY XZ YZ) = -s * (pf4 XY XZ XE YZ YE ZE * pf6 PQ PX PY PZ PE QX QY QZ QE XY XZ XE YZ YE ZE) ∧ pf4 PX PY PZ XY XZ YZ * pf4 QX QY QZ XY XZ YZ ≠ 0 := by
  have e1 : pf4 PX PY PZ XY XZ YZ = c * u2 * v3 * w := by
    unfold pf4
    subst h1 h2 h3 h4 h5 h6 h7 h8 h9 h10 h11 h12 h13 h14 h15
    grind
  have e2 : pf4 QX QY QZ XY XZ YZ = q * u2 * v3 * w := by
    unfold pf4
    subst h1 h2 h3 h4 h5 h6 h7 h8 h9 h10 h11 h12 h13 h14 h15
    grind
  have e4 : pf4 XY XZ XE YZ YE ZE = u2 * v3 * w := by
    unfold pf4
    subst h1 h2 h3 h4 h5 h6 h7 h8 h9 h10 h11 h12 h13 h14 h15
    grind
  have e3 : pf6 PQ PX PY PZ PE QX QY QZ QE XY XZ XE YZ YE ZE = s * b * q * u2 * v3 * w := by
    unfold pf6 pf4
    subst h1 h2 h3 h4 h5 h6 h7 h8 h9 h10 h11 h12 h13 h14 h15
    grind
  rw [e1, e2, e3, e4]
  refine ⟨?_, nz2 (nz2 (nz2 (nz2 (cnz hb e) hu) hv) hw) (nz2 (nz2 (nz2 hq hu) hv) hw)⟩
  have : a * c = -b := by grind
  grind
end
end El
set_option Elab.async false
set_option linter.all false
namespace El
/-! ## sizes of least steps are bounded -/
theorem IB.mul {D U D' U' : Nat} {p q : Rat} (h : IB D U p) (g : IB D' U' q) : IB (D * D') (U * U') (p * q) := by
  obtain ⟨z, e, b⟩ := h
  obtain ⟨y, f, c⟩ := g
  refine ⟨z * y, ?_, by rw [Int.natAbs_mul]; exact Nat.mul_le_mul b c⟩
  rw [Rat.intCast_mul, Rat.natCast_mul, ← e, ← f]
  grind
theorem IB.add {D U V : Nat} {p q : Rat} (h : IB D U p) (g : IB D V q) : IB D (U + V) (p + q) := by
  obtain ⟨z, e, b⟩ := h
  obtain ⟨y, f, c⟩ := g
  refine ⟨z + y, ?_, Nat.le_trans (Int.natAbs_add_le _ _) (Nat.add_le_add b c)⟩
  rw [Rat.intCast_add, ← e, ← f]
  grind
theorem IB.mono {D U V : Nat} {p : Rat} (h : IB D U p) (l : U ≤ V) : IB D V p := by
  obtain ⟨z, e, b⟩ := h
  exact ⟨z, e, Nat.le_trans b l⟩
theorem sm_ib {D V : Nat} {f : Nat → Rat} : ∀ {n : Nat}, (∀ i, i < n → IB D V (f i)) → IB D (n * V) (sm n f)
  | 0, _ => IB.zero
  | n + 1, h => by
    rw [Nat.succ_mul]
    exact (sm_ib fun i hi => h i (by omega)).add (h n (by omega))
def J (D U e c : Nat) (q : Rat) : Prop := IB (D ^ e) (c * U ^ e) q
section
variable {D U : Nat}
theorem J.mul {e c e' c' : Nat} {p q : Rat} (h : J D U e c p) (g : J D U e' c' q) : J D U (e + e') (c * c') (p * q) := by
  have := IB.mul h g
  unfold J
  rw [Nat.pow_add, Nat.pow_add]
  have e2 : c * U ^ e * (c' * U ^ e') = c * c' * (U ^ e * U ^ e') := by
    rw [Nat.mul_assoc, Nat.mul_assoc, Nat.mul_left_comm (U ^ e)]
  rwa [e2] at this
theorem J.add {e c c' : Nat} {p q : Rat} (h : J D U e c p) (g : J D U e c' q) : J D U e (c + c') (p + q) := by
  have := IB.add h g
  unfold J
  rwa [← Nat.add_mul] at this
theorem J.neg {e c : Nat} {p : Rat} (h : J D U e c p) : J D U e c (-p) := IB.neg h
theorem J.sub {e c c' : Nat} {p q : Rat} (h : J D U e c p) (g : J D U e c' q) : J D U e (c + c') (p - q) := by
  rw [Rat.sub_eq_add_neg]
  exact h.add g.neg
theorem J.pf4 {ab ac ad bc bd cd : Rat} {e1 c1 e2 c2 : Nat} (h1 : J D U e1 c1 ab) (h2 : J D U e1 c1 ac) (h3 : J D U e2 c2 ad) (h4 : J D U e1 c1 bc) (h5 : J D U e2 c2 bd) (h6 : J D U e2 c2 cd) : J D U (e1 + e2) (c1 * c2 + c1 * c2 + c1 * c2) (El.pf4 ab ac ad bc bd cd) := by
  unfold El.pf4
  have g := h3.mul h4
  rw [Nat.add_comm e2, Nat.mul_comm c2] at g
  exact ((h1.mul h6).sub (h2.mul h5)).add g
theorem om_J {N : Nat} (hN : N ≤ 8) {x y : Nat → Rat} (hx : ∀ i, IB D U (x i)) (hy : ∀ i, IB D U (y i)) : J D U 2 16 (om N x y) := by
  unfold J om
  have t : ∀ i, i < N → IB (D * D) (2 * (U * U)) (sgn i * (x i * y (i + 1) - x (i + 1) * y i)) := fun i _ => by
    refine IB.sgn ?_
    rw [Rat.sub_eq_add_neg]
    have := ((hx i).mul (hy (i + 1))).add ((hx (i + 1)).mul (hy i)).neg
    rwa [← Nat.two_mul] at this
  have := sm_ib t
  rw [Nat.pow_two, Nat.pow_two]
  refine this.mono ?_
  rw [← Nat.mul_assoc]
  exact Nat.mul_le_mul_right _ (by omega)
theorem en_J {N : Nat} (h0 : 0 < N) {x : Nat → Rat} (hx : ∀ i, IB D U (x i)) : J D U 1 1 (om N x (en N)) := by
  rw [om_en h0]
  unfold J
  rw [Nat.pow_one, Nat.pow_one, Nat.one_mul]
  exact (hx _).sgn
end
theorem run_en {N : Nat} : ∀ (ss : List (Nat × Rat)), (∀ s ∈ ss, s.1 + 1 < N) → run ss (en N) = en N
  | [], _ => rfl
  | (k, a) :: ss, h => by
    have hk : k + 1 < N := h (k, a) List.mem_cons_self
    have e : tk (k, a) (en N) = en N := by
      funext i
      by_cases hi : i = k
      · subst hi
        rw [tk_eq, bv0 fun j hj => by unfold en; rw [if_neg (by omega)]]
        unfold en
        rw [if_neg (by omega), if_neg (by omega)]
        grind
      · exact tk_ne hi
    rw [run_cons, e, run_en ss fun t ht => h t (List.mem_cons_of_mem _ ht)]
theorem quo {a : Rat} {z1 z2 : Int} (h : a * (z1 : Rat) = (z2 : Rat)) (hz : z1 ≠ 0) : a.num.natAbs ≤ z2.natAbs ∧ a.den ≤ z1.natAbs ∨ z2 = 0 := by
  by_cases c : z2 = 0
  · exact .inr c
  have hd := num_den a
  have e : a.num * z1 = z2 * (a.den : Int) := by
    have : ((a.num * z1 : Int) : Rat) = ((z2 * (a.den : Int) : Int) : Rat) := by
      rw [Rat.intCast_mul, Rat.intCast_mul, ← h, Rat.intCast_natCast, ← hd]
      grind
    exact_mod_cast this
  have e' : a.num.natAbs * z1.natAbs = z2.natAbs * a.den := by
    have := congrArg Int.natAbs e
    rwa [Int.natAbs_mul, Int.natAbs_mul, Int.natAbs_natCast] at this
  have co := a.reduced
  have d1 : a.num.natAbs ∣ z2.natAbs := co.dvd_of_dvd_mul_right ⟨z1.natAbs, by rw [e']⟩
  have d2 : a.den ∣ z1.natAbs := co.symm.dvd_of_dvd_mul_left ⟨z2.natAbs, by rw [e', Nat.mul_comm]⟩
  exact .inl ⟨Nat.le_of_dvd (by omega) d1, Nat.le_of_dvd (by omega) d2⟩
theorem fin_bd {D U e c1 c2 n : Nat} {a num den : Rat} (ha : 0 < a) (h : a * den = -sgn n * num) (nz : den ≠ 0) (hd : J D U e c1 den) (hn : J D U e c2 num) (l1 : c1 ≤ 2 ^ 20) (l2 : c2 ≤ 2 ^ 20) (he : e ≤ 8) (hU : 1 ≤ U) (hD : 1 ≤ D) :
    a.num.natAbs ≤ 2 ^ 20 * U ^ 8 ∧ a.den ≤ 2 ^ 20 * U ^ 8 := by
  obtain ⟨z1, e1, b1⟩ := hd
  have hn : IB (D ^ e) (c2 * U ^ e) (-sgn n * num) := by
    rw [Rat.neg_mul]
    exact (IB.sgn hn).neg
  obtain ⟨z2, e2, b2⟩ := hn
  have key : a * (z1 : Rat) = (z2 : Rat) := by rw [← e1, ← e2, ← h]; grind
  have D0 : ((D ^ e : Nat) : Rat) ≠ 0 := fun z => by
    have h1 : D ^ e = 0 := by exact_mod_cast z
    have h2 : 0 < D ^ e := Nat.pow_pos hD
    omega
  have hz : z1 ≠ 0 := fun z => by
    rw [z] at e1
    have e1 : den * ((D ^ e : Nat) : Rat) = 0 := e1
    exact (Rat.mul_eq_zero.mp e1).elim nz D0
  have lU : U ^ e ≤ U ^ 8 := Nat.pow_le_pow_right hU he
  have m1 := Nat.mul_le_mul l1 lU
  have m2 := Nat.mul_le_mul l2 lU
  rcases quo key hz with ⟨q1, q2⟩ | q
  · exact ⟨by omega, by omega⟩
  · rw [q] at key
    have key : a * (z1 : Rat) = 0 := key
    rcases Rat.mul_eq_zero.mp key with r | r
    · rw [r] at ha; exact absurd ha (by decide)
    · exact absurd (by exact_mod_cast r) hz
/-- what is known of the vectors ahead of a step -/
structure Fam (N D U : Nat) (pre : List (Nat × Rat)) (F : Nat → Nat → Rat) (j : Nat) : Prop where
  lo : ∀ i, i < j → run pre (F j) i = 0
  nz : run pre (F j) j ≠ 0
  sup : ∀ i, N ≤ i → run pre (F j) i = 0
  bd : ∀ i, IB D U (F j i)
theorem step_bd {N k D U : Nat} {pre : List (Nat × Rat)} {F : Nat → Nat → Rat} {a : Rat} (hpre : ∀ s ∈ pre, s.1 + 1 < N) (hN : N ≤ 8) (hm : N ≤ k + 5) (hk : k + 1 < N) (hF : ∀ j, j < N → Fam N D U pre F j) (ha : 0 < a) (e : run pre (F k) k + a * run pre (F k) (k + 1) = 0) (hU : 1 ≤ U) (hD : 1 ≤ D) :
    a.num.natAbs ≤ 2 ^ 20 * U ^ 8 ∧ a.den ≤ 2 ^ 20 * U ^ 8 := by
  have G : ∀ i j, i < N → j < N → J D U 2 16 (om N (F i) (F j)) := fun i j hi hj => om_J hN (hF i hi).bd (hF j hj).bd
  have GE : ∀ i, i < N → J D U 1 1 (om N (F i) (en N)) := fun i hi => en_J (by omega) (hF i hi).bd
  have oE : ∀ i, i < N → om N (F i) (en N) = sgn (N - 1) * run pre (F i) (N - 1) := fun i hi => by
    rw [← om_run pre hpre, run_en pre hpre, om_en (by omega)]
  have s0 := fun n => sgn_sq (n := n)
  rcases (by omega : N = k + 2 ∨ N = k + 3 ∨ N = k + 4 ∨ N = k + 5) with r | r | r | r
  · subst r
    have fp := hF k (by omega)
    have fq := hF (k + 1) (by omega)
    have PQ : om (k + 2) (F k) (F (k + 1)) = sgn k * (run pre (F k) k * run pre (F (k + 1)) (k + 1)) := by
      rw [← om_run pre hpre, om_from fp.lo fun i hi => fq.lo i (by omega)]
      simp only [sm, Nat.add_zero, sgn_succ, fq.lo k (by omega), fp.sup (k + 1 + 1) (by omega), fq.sup (k + 1 + 1) (by omega)]
      grind
    have PE := oE k (by omega)
    have QE := oE (k + 1) (by omega)
    simp only [show k + 2 - 1 = k + 1 from rfl, sgn_succ] at PE QE
    obtain ⟨g1, g2⟩ := id0 (s0 k) fp.nz fq.nz e PQ PE QE
    exact fin_bd ha g1 g2 ((GE k (by omega)).mul (GE (k + 1) (by omega))) (G k (k + 1) (by omega) (by omega)) (by decide) (by decide) (by decide) hU hD
  · subst r
    have fp := hF k (by omega)
    have fq := hF (k + 1) (by omega)
    have fz := hF (k + 2) (by omega)
    have ex : ∀ x y : Nat → Rat, (∀ i, i < k → x i = 0) → (∀ i, i < k → y i = 0) → x (k + 3) = 0 → y (k + 3) = 0 → om (k + 3) x y = sgn k * ((x k * y (k + 1) - x (k + 1) * y k) - (x (k + 1) * y (k + 2) - x (k + 2) * y (k + 1))) := fun x y hx hy h1 h2 => by
      rw [om_from hx hy]
      simp only [sm, Nat.add_zero, sgn_succ, show k + 2 + 1 = k + 3 from rfl, show k + 1 + 1 = k + 2 from rfl, h1, h2]
      grind
    have ex2 : ∀ i j, i < k + 3 → j < k + 3 → k ≤ i → k ≤ j → om (k + 3) (F i) (F j) = _ := fun i j hi hj ki kj => (om_run pre hpre _ _).symm.trans (ex (run pre (F i)) (run pre (F j)) (fun l hl => (hF i hi).lo l (by omega)) (fun l hl => (hF j hj).lo l (by omega)) ((hF i hi).sup _ (by omega)) ((hF j hj).sup _ (by omega)))
    have PQ := ex2 k (k + 1) (by omega) (by omega) (by omega) (by omega)
    have PZ := ex2 k (k + 2) (by omega) (by omega) (by omega) (by omega)
    have QZ := ex2 (k + 1) (k + 2) (by omega) (by omega) (by omega) (by omega)
    simp only [fq.lo k (by omega), fz.lo k (by omega), fz.lo (k + 1) (by omega)] at PQ PZ QZ
    have PE := oE k (by omega)
    have QE := oE (k + 1) (by omega)
    have ZE := oE (k + 2) (by omega)
    simp only [show k + 3 - 1 = k + 2 from rfl, sgn_succ] at PE QE ZE
    obtain ⟨g1, g2⟩ := id1 (s0 k) fp.nz fq.nz fz.nz e PQ PZ QZ ZE PE QE
    exact fin_bd ha g1 g2 ((G _ _ (by omega) (by omega)).mul (G _ _ (by omega) (by omega))) ((GE _ (by omega)).mul (J.pf4 (G _ _ (by omega) (by omega)).neg (G _ _ (by omega) (by omega)).neg (GE _ (by omega)) (G _ _ (by omega) (by omega)) (GE _ (by omega)) (GE _ (by omega)))) (by decide) (by decide) (by decide) hU hD
  · subst r
    have fp := hF k (by omega)
    have fq := hF (k + 1) (by omega)
    have fx := hF (k + 2) (by omega)
    have fy := hF (k + 3) (by omega)
    have ex : ∀ x y : Nat → Rat, (∀ i, i < k → x i = 0) → (∀ i, i < k → y i = 0) → x (k + 4) = 0 → y (k + 4) = 0 → om (k + 4) x y = sgn k * ((x k * y (k + 1) - x (k + 1) * y k) - (x (k + 1) * y (k + 2) - x (k + 2) * y (k + 1)) + (x (k + 2) * y (k + 3) - x (k + 3) * y (k + 2))) := fun x y hx hy h1 h2 => by
      rw [om_from hx hy]
      simp only [sm, Nat.add_zero, sgn_succ, show k + 3 + 1 = k + 4 from rfl, show k + 2 + 1 = k + 3 from rfl, show k + 1 + 1 = k + 2 from rfl, h1, h2]
      grind
    have ex2 : ∀ i j, i < k + 4 → j < k + 4 → k ≤ i → k ≤ j → om (k + 4) (F i) (F j) = _ := fun i j hi hj ki kj => (om_run pre hpre _ _).symm.trans (ex (run pre (F i)) (run pre (F j)) (fun l hl => (hF i hi).lo l (by omega)) (fun l hl => (hF j hj).lo l (by omega)) ((hF i hi).sup _ (by omega)) ((hF j hj).sup _ (by omega)))
    have PQ := ex2 k (k + 1) (by omega) (by omega) (by omega) (by omega)
    have PX := ex2 k (k + 2) (by omega) (by omega) (by omega) (by omega)
    have QX := ex2 (k + 1) (k + 2) (by omega) (by omega) (by omega) (by omega)
    have PY := ex2 k (k + 3) (by omega) (by omega) (by omega) (by omega)
    have QY := ex2 (k + 1) (k + 3) (by omega) (by omega) (by omega) (by omega)
    have XY := ex2 (k + 2) (k + 3) (by omega) (by omega) (by omega) (by omega)
    simp only [fq.lo k (by omega), fx.lo k (by omega), fx.lo (k + 1) (by omega), fy.lo k (by omega), fy.lo (k + 1) (by omega), fy.lo (k + 2) (by omega)] at PQ PX QX PY QY XY
    have PE := oE k (by omega)
    have QE := oE (k + 1) (by omega)
    have XE := oE (k + 2) (by omega)
    have YE := oE (k + 3) (by omega)
    simp only [show k + 4 - 1 = k + 3 from rfl, sgn_succ] at PE QE XE YE
    obtain ⟨g1, g2⟩ := id2 (s0 k) fp.nz fq.nz fx.nz fy.nz e PQ PX QX PY QY XY PE QE XE YE
    exact fin_bd ha g1 g2 ((J.pf4 (G _ _ (by omega) (by omega)) (G _ _ (by omega) (by omega)) (GE _ (by omega)) (G _ _ (by omega) (by omega)) (GE _ (by omega)) (GE _ (by omega))).mul (J.pf4 (G _ _ (by omega) (by omega)) (G _ _ (by omega) (by omega)) (GE _ (by omega)) (G _ _ (by omega) (by omega)) (GE _ (by omega)) (GE _ (by omega))))
      ((G _ _ (by omega) (by omega)).mul (J.pf4 (G _ _ (by omega) (by omega)) (G _ _ (by omega) (by omega)) (G _ _ (by omega) (by omega)) (G _ _ (by omega) (by omega)) (G _ _ (by omega) (by omega)) (G _ _ (by omega) (by omega)))) (by decide) (by decide) (by decide) hU hD
  · subst r
    have fp := hF k (by omega)
    have fq := hF (k + 1) (by omega)
    have fx := hF (k + 2) (by omega)
    have fy := hF (k + 3) (by omega)
    have fz := hF (k + 4) (by omega)
    have ex : ∀ x y : Nat → Rat, (∀ i, i < k → x i = 0) → (∀ i, i < k → y i = 0) → x (k + 5) = 0 → y (k + 5) = 0 → om (k + 5) x y = sgn k * ((x k * y (k + 1) - x (k + 1) * y k) - (x (k + 1) * y (k + 2) - x (k + 2) * y (k + 1)) + (x (k + 2) * y (k + 3) - x (k + 3) * y (k + 2)) - (x (k + 3) * y (k + 4) - x (k + 4) * y (k + 3))) := fun x y hx hy h1 h2 => by
      rw [om_from hx hy]
      simp only [sm, Nat.add_zero, sgn_succ, show k + 4 + 1 = k + 5 from rfl, show k + 3 + 1 = k + 4 from rfl, show k + 2 + 1 = k + 3 from rfl, show k + 1 + 1 = k + 2 from rfl, h1, h2]
      grind
    have ex2 : ∀ i j, i < k + 5 → j < k + 5 → k ≤ i → k ≤ j → om (k + 5) (F i) (F j) = _ := fun i j hi hj ki kj => (om_run pre hpre _ _).symm.trans (ex (run pre (F i)) (run pre (F j)) (fun l hl => (hF i hi).lo l (by omega)) (fun l hl => (hF j hj).lo l (by omega)) ((hF i hi).sup _ (by omega)) ((hF j hj).sup _ (by omega)))
    have PQ := ex2 k (k + 1) (by omega) (by omega) (by omega) (by omega)
    have PX := ex2 k (k + 2) (by omega) (by omega) (by omega) (by omega)
    have QX := ex2 (k + 1) (k + 2) (by omega) (by omega) (by omega) (by omega)
    have PY := ex2 k (k + 3) (by omega) (by omega) (by omega) (by omega)
    have QY := ex2 (k + 1) (k + 3) (by omega) (by omega) (by omega) (by omega)
    have XY := ex2 (k + 2) (k + 3) (by omega) (by omega) (by omega) (by omega)
    have PZ := ex2 k (k + 4) (by omega) (by omega) (by omega) (by omega)
    have QZ := ex2 (k + 1) (k + 4) (by omega) (by omega) (by omega) (by omega)
    have XZ := ex2 (k + 2) (k + 4) (by omega) (by omega) (by omega) (by omega)
    have YZ := ex2 (k + 3) (k + 4) (by omega) (by omega) (by omega) (by omega)
    simp only [fq.lo k (by omega), fx.lo k (by omega), fx.lo (k + 1) (by omega), fy.lo k (by omega), fy.lo (k + 1) (by omega), fy.lo (k + 2) (by omega), fz.lo k (by omega), fz.lo (k + 1) (by omega), fz.lo (k + 2) (by omega), fz.lo (k + 3) (by omega)] at PQ PX QX PY QY XY PZ QZ XZ YZ
    have PE := oE k (by omega)
    have QE := oE (k + 1) (by omega)
    have XE := oE (k + 2) (by omega)
    have YE := oE (k + 3) (by omega)
    have ZE := oE (k + 4) (by omega)
    simp only [show k + 5 - 1 = k + 4 from rfl, sgn_succ] at PE QE XE YE ZE
    obtain ⟨g1, g2⟩ := id3 (s0 k) fp.nz fq.nz fx.nz fy.nz fz.nz e PQ PX QX PY QY XY PZ QZ XZ YZ PE QE XE YE ZE
    have g := fun i j (hi : i < k + 5) (hj : j < k + 5) => G i j hi hj
    have x := fun i (hi : i < k + 5) => GE i hi
    have z4 := fun {a b c d : Nat} (ha : a < k + 5) (hb : b < k + 5) (hc : c < k + 5) (hd : d < k + 5) => J.pf4 (g a b ha hb) (g a c ha hc) (g a d ha hd) (g b c hb hc) (g b d hb hd) (g c d hc hd)
    have z5 := fun {a b c : Nat} (ha : a < k + 5) (hb : b < k + 5) (hc : c < k + 5) => J.pf4 (g a b ha hb) (g a c ha hc) (x a ha) (g b c hb hc) (x b hb) (x c hc)
    have h0 : k < k + 5 := by omega
    have h1 : k + 1 < k + 5 := by omega
    have h2 : k + 2 < k + 5 := by omega
    have h3 : k + 3 < k + 5 := by omega
    have h4 : k + 4 < k + 5 := by omega
    have l6 := ((((g _ _ h0 h1).mul (z5 h2 h3 h4)).sub ((g _ _ h0 h2).mul (z5 h1 h3 h4))).add ((g _ _ h0 h3).mul (z5 h1 h2 h4))).sub ((g _ _ h0 h4).mul (z5 h1 h2 h3))
    have l6 := l6.add ((x k h0).mul (z4 h1 h2 h3 h4))
    exact fin_bd ha g1 g2 ((z4 h0 h2 h3 h4).mul (z4 h1 h2 h3 h4)) ((z5 h2 h3 h4).mul l6) (by decide) (by decide) (by decide) hU hD
end El
set_option Elab.async false
set_option linter.all false
namespace El
/-! ## upside down -/
def cf (i : Nat) : Rat := if i % 2 = 0 then 0 else if i % 4 = 1 then 1 else -1
theorem cf_2 {i : Nat} : cf (i + 2) = -cf i := by
  unfold cf
  by_cases h : i % 2 = 0
  · rw [if_pos h, if_pos (by omega)]; rfl
  · rw [if_neg h, if_neg (by omega)]
    by_cases h2 : i % 4 = 1
    · rw [if_pos h2, if_neg (by omega)]
    · rw [if_neg h2, if_pos (by omega)]; rfl
def ph (N : Nat) (y : Nat → Rat) : Nat → Rat := fun i => if i + 1 < N then y (N - 2 - i) + cf i * y (N - 1) else if i + 1 = N then cf i * y (N - 1) else y i
theorem ph_tk {N k : Nat} {a : Rat} (he : N % 2 = 0) (h4 : 4 ≤ N) (hk : k + 1 < N) (y : Nat → Rat) : ph N (tk (k, a) y) = tk (N - 2 - k, a) (ph N y) := by
  funext i
  have tl : tk (k, a) y (N - 1) = y (N - 1) := tk_ne (by omega)
  by_cases hi : i = N - 2 - k
  · subst hi
    rw [tk_eq]
    have p0 : ∀ z : Nat → Rat, ph N z (N - 2 - k) = z k + cf (N - 2 - k) * z (N - 1) := fun z => by
      unfold ph
      rw [if_pos (by omega)]
      have : N - 2 - (N - 2 - k) = k := by omega
      rw [this]
    rw [p0, p0, tl, tk_eq]
    by_cases k0 : k = 0
    · subst k0
      have p1 : ph N y (N - 2 - 0 + 1) = cf (N - 1) * y (N - 1) := by
        unfold ph
        rw [if_neg (by omega), if_pos (by omega)]
        have : N - 2 - 0 + 1 = N - 1 := by omega
        rw [this]
      have p2 : bv (ph N y) (N - 2 - 0) = y 1 + cf (N - 3) * y (N - 1) := by
        unfold bv ph
        rw [if_neg (by omega), if_pos (by omega)]
        have e1 : N - 2 - (N - 2 - 0 - 1) = 1 := by omega
        have e2 : N - 2 - 0 - 1 = N - 3 := by omega
        rw [e1, e2]
      have c := cf_2 (i := N - 3)
      have e3 : N - 3 + 2 = N - 1 := by omega
      rw [e3] at c
      rw [p1, p2, c]
      simp only [bv, if_true]
      grind
    · have p1 : ph N y (N - 2 - k + 1) = y (k - 1) + cf (N - 2 - k + 1) * y (N - 1) := by
        unfold ph
        rw [if_pos (by omega)]
        have : N - 2 - (N - 2 - k + 1) = k - 1 := by omega
        rw [this]
      have b1 : bv y k = y (k - 1) := by unfold bv; rw [if_neg k0]
      by_cases kl : N - 2 - k = 0
      · have p2 : bv (ph N y) (N - 2 - k) = 0 := by unfold bv; rw [if_pos kl]
        rw [p1, p2, b1, kl]
        have e1 : k + 1 = N - 1 := by omega
        have c0 : cf 0 = 0 := rfl
        have c1 : cf (0 + 1) = 1 := rfl
        rw [e1, c0, c1]
        grind
      · have p2 : bv (ph N y) (N - 2 - k) = y (k + 1) + cf (N - 2 - k - 1) * y (N - 1) := by
          unfold bv ph
          rw [if_neg kl, if_pos (by omega)]
          have e1 : N - 2 - (N - 2 - k - 1) = k + 1 := by omega
          rw [e1]
        have c := cf_2 (i := N - 2 - k - 1)
        have e3 : N - 2 - k - 1 + 2 = N - 2 - k + 1 := by omega
        rw [e3] at c
        rw [p1, p2, b1, c]
        grind
  · rw [tk_ne hi]
    unfold ph
    split
    · rw [tl, tk_ne (by omega)]
    · split
      · rw [tl]
      · rw [tk_ne (by omega)]
def ups (N : Nat) (ss : List (Nat × Rat)) : List (Nat × Rat) := ss.map fun s => (N - 2 - s.1, s.2)
theorem ph_run {N : Nat} (he : N % 2 = 0) (h4 : 4 ≤ N) : ∀ (ss : List (Nat × Rat)), (∀ s ∈ ss, s.1 + 1 < N) → ∀ y, run (ups N ss) (ph N y) = ph N (run ss y)
  | [], _, y => rfl
  | s :: ss, h, y => by
    show run (ups N ss) (tk (N - 2 - s.1, s.2) (ph N y)) = _
    rw [← ph_tk he h4 (h s List.mem_cons_self), ph_run he h4 ss fun t ht => h t (List.mem_cons_of_mem _ ht)]
    rfl
theorem ph_sur {N : Nat} (he : N % 2 = 0) (h4 : 4 ≤ N) (x : Nat → Rat) : ∃ y, ph N y = x := by
  have cc : cf (N - 1) * cf (N - 1) = 1 := by
    unfold cf
    rw [if_neg (by omega)]
    split <;> grind
  refine ⟨fun j => if j + 1 < N then x (N - 2 - j) - cf (N - 2 - j) * (cf (N - 1) * x (N - 1)) else if j + 1 = N then cf (N - 1) * x (N - 1) else x j, ?_⟩
  funext i
  unfold ph
  have l1 : ¬ N - 1 + 1 < N := by omega
  have l2 : N - 1 + 1 = N := by omega
  simp only [if_neg l1, if_pos l2]
  by_cases h1 : i + 1 < N
  · have h2 : N - 2 - i + 1 < N := by omega
    have h3 : N - 2 - (N - 2 - i) = i := by omega
    simp only [if_pos h1, if_pos h2, h3]
    grind
  · by_cases h2 : i + 1 = N
    · have : i = N - 1 := by omega
      subst this
      simp only [if_neg h1, if_pos h2]
      grind
    · simp only [if_neg h1, if_neg h2]
theorem Eqv.ups {N : Nat} (he : N % 2 = 0) (h4 : 4 ≤ N) {ss tt : List (Nat × Rat)} (hs : ∀ s ∈ ss, s.1 + 1 < N) (ht : ∀ s ∈ tt, s.1 + 1 < N) (e : Eqv ss tt) : Eqv (El.ups N ss) (El.ups N tt) := fun x => by
  obtain ⟨y, rfl⟩ := ph_sur he h4 x
  rw [ph_run he h4 ss hs, ph_run he h4 tt ht, e]
def fl (N i : Nat) : Nat := if i < N then N - 1 - i else i
theorem fl_tr {N k j : Nat} (hk : k + 1 < N) : fl N (tr (N - 2 - k) j) = tr k (fl N j) := by
  unfold fl tr
  by_cases h1 : j = N - 2 - k
  · have a1 : N - 2 - k + 1 < N := by omega
    have a2 : j < N := by omega
    have a3 : ¬ N - 1 - j = k := by omega
    have a4 : N - 1 - j = k + 1 := by omega
    simp only [if_pos h1, if_pos a1, if_pos a2, if_neg a3, if_pos a4]
    omega
  · by_cases h2 : j = N - 2 - k + 1
    · have a1 : N - 2 - k < N := by omega
      have a2 : j < N := by omega
      have a3 : N - 1 - j = k := by omega
      simp only [if_neg h1, if_pos h2, if_pos a1, if_pos a2, if_pos a3]
      omega
    · simp only [if_neg h1, if_neg h2]
      by_cases h3 : j < N
      · have a3 : ¬ N - 1 - j = k := by omega
        have a4 : ¬ N - 1 - j = k + 1 := by omega
        simp only [if_pos h3, if_neg a3, if_neg a4]
      · have a3 : ¬ j = k := by omega
        have a4 : ¬ j = k + 1 := by omega
        simp only [if_neg h3, if_neg a3, if_neg a4]
theorem Lst.ups {N : Nat} {ss : List (Nat × Rat)} {row : Nat → Nat} (h : Lst N ss row) : Lst N (El.ups N ss) (fun j => fl N (row (fl N j))) := by
  induction h with
  | nil =>
    have e : (fun j => fl N (id (fl N j))) = id := by
      funext j
      unfold fl
      simp only [id]
      by_cases h : j < N
      · rw [if_pos h, if_pos (by omega)]; omega
      · rw [if_neg h, if_neg h]
    rw [e]
    exact .nil
  | @snoc ss row k a h hk hlt ha ih =>
    have lt := h.lt
    have g := Lst.snoc (k := N - 2 - k) (a := a) ih (by omega) (by
      have e1 : fl N (N - 2 - k) = k + 1 := by unfold fl; rw [if_pos (by omega)]; omega
      have e2 : fl N (N - 2 - k + 1) = k := by unfold fl; rw [if_pos (by omega)]; omega
      rw [e1, e2]
      have := lt (k + 1) hk
      unfold fl
      rw [if_pos this, if_pos (by omega)]
      omega) ha
    have e : sw (fun j => fl N (row (fl N j))) (N - 2 - k) = fun j => fl N (sw row k (fl N j)) := by
      funext j
      rw [sw_tr, sw_tr, fl_tr hk]
    rw [e] at g
    have : El.ups N (ss ++ [(k, a)]) = El.ups N ss ++ [(N - 2 - k, a)] := by simp [El.ups]
    rw [this]
    exact g
theorem up_ups {N : Nat} {ss : List (Nat × Rat)} : up (ups N ss) = up ss := by
  unfold up ups
  rw [List.foldl_map]
theorem up_pos : ∀ (ss : List (Nat × Rat)), 1 ≤ up ss := by
  refine sn_ind (by decide) fun ss s ih => ?_
  rw [up_snoc]
  have := s.2.den_pos
  exact Nat.mul_pos ih (by omega)
theorem dn_pos : ∀ (ss : List (Nat × Rat)), 1 ≤ dn ss := by
  refine sn_ind (by decide) fun ss s ih => ?_
  rw [dn_snoc]
  exact Nat.mul_pos ih s.2.den_pos
theorem one_bd {N k : Nat} {nn pre post : List (Nat × Rat)} {row : Nat → Nat} {a : Rat} (h8 : N ≤ 8) (hm : N ≤ k + 5) (h : Lst N (pre ++ (k, a) :: post) row) (e : Eqv nn (pre ++ (k, a) :: post)) :
    a.num.natAbs ≤ 2 ^ 20 * up nn ^ 8 ∧ a.den ≤ 2 ^ 20 * up nn ^ 8 := by
  obtain ⟨F, hF, e0⟩ := fam h e
  have hk : k + 1 < N := h.kinds (k, a) (by simp)
  have hp : ∀ s ∈ pre, s.1 + 1 < N := fun s hs => h.kinds s (List.mem_append_left _ hs)
  exact step_bd hp h8 hm hk (fun j hj => by
    obtain ⟨a1, a2, a3, a4⟩ := hF j hj
    exact ⟨a1, a2, run_sup (fun s hs => by have := hp s hs; omega) a3, a4⟩) (h.pos (k, a) (by simp)) e0 (up_pos _) (dn_pos _)
/-- every size of least steps that do the same as some steps -/
theorem sz_bd {N : Nat} {nn ss : List (Nat × Rat)} {row : Nat → Nat} (he : N % 2 = 0) (h4 : 4 ≤ N) (h8 : N ≤ 8) (hn : ∀ s ∈ nn, s.1 + 1 < N) (h : Lst N ss row) (e : Eqv nn ss) {s : Nat × Rat} (hs : s ∈ ss) :
    s.2.num.natAbs ≤ 2 ^ 20 * up nn ^ 8 ∧ s.2.den ≤ 2 ^ 20 * up nn ^ 8 := by
  obtain ⟨pre, post, rfl⟩ := List.append_of_mem hs
  obtain ⟨k, a⟩ := s
  have hk : k + 1 < N := h.kinds (k, a) hs
  by_cases hm : N ≤ k + 5
  · exact one_bd h8 hm h e
  · have g := h.ups
    have e' := e.ups he h4 hn h.kinds
    have ex : ups N (pre ++ (k, a) :: post) = ups N pre ++ (N - 2 - k, a) :: ups N post := by simp [ups]
    rw [ex] at g e'
    have := one_bd h8 (by omega) g e'
    rwa [up_ups] at this
end El
set_option Elab.async false
set_option linter.all false
namespace Fx
open PySem PySem.Spec PyProof.Rows L2
/-! ## states in coordinates in which all steps look alike -/
def pp (R : Nat) (v : Nat → Rat) : Nat → Rat
  | 0 => v R
  | r + 1 => pp R v r + v (R + (r + 1))
def yv (R : Nat) (v : Nat → Rat) : Nat → Rat := fun i => if i < 2 * R then (if i % 2 = 0 then El.sgn (i / 2) * v (i / 2) else El.sgn (i / 2 + 1) * pp R v (i / 2)) else 0
theorem yv_e {R r : Nat} {v : Nat → Rat} (h : r < R) : yv R v (2 * r) = El.sgn r * v r := by
  unfold yv
  rw [if_pos (by omega), if_pos (by omega)]
  have : 2 * r / 2 = r := by omega
  rw [this]
theorem yv_o {R r : Nat} {v : Nat → Rat} (h : r < R) : yv R v (2 * r + 1) = El.sgn (r + 1) * pp R v r := by
  unfold yv
  rw [if_pos (by omega), if_neg (by omega)]
  have : (2 * r + 1) / 2 = r := by omega
  rw [this]
theorem yv_out {R i : Nat} {v : Nat → Rat} (h : 2 * R ≤ i) : yv R v i = 0 := by unfold yv; rw [if_neg (by omega)]
theorem pp_congr {R : Nat} {v w : Nat → Rat} : ∀ {r : Nat}, (∀ s, s ≤ r → v (R + s) = w (R + s)) → pp R v r = pp R w r
  | 0, h => h 0 (Nat.le_refl _)
  | r + 1, h => by simp only [pp]; rw [pp_congr fun s hs => h s (by omega), h (r + 1) (Nat.le_refl _)]
/-- two neighbouring currents, one lessened and one raised alike -/
theorem pp_move {R r : Nat} {v w : Nat → Rat} {d : Rat} (h1 : w (R + r) = v (R + r) - d) (h2 : w (R + (r + 1)) = v (R + (r + 1)) + d) (ho : ∀ s, s ≠ r → s ≠ r + 1 → w (R + s) = v (R + s)) : ∀ n, pp R w n = if n = r then pp R v n - d else pp R v n
  | 0 => by
    simp only [pp]
    by_cases e : 0 = r
    · subst e; rw [if_pos rfl]; exact h1
    · rw [if_neg e]; exact ho 0 e (by omega)
  | n + 1 => by
    simp only [pp]
    rw [pp_move h1 h2 ho n]
    by_cases e : n + 1 = r
    · subst e
      rw [if_pos rfl, if_neg (by omega), h1]
      grind
    · rw [if_neg e]
      by_cases e2 : n = r
      · subst e2
        rw [if_pos rfl, h2]
        grind
      · rw [if_neg e2, ho (n + 1) e (by omega)]
theorem yv_stp {R : Nat} {s : Nat × Rat} (hk : s.1 + 2 ≤ 2 * R) (v : Nat → Rat) : yv R (stp R s v) = El.tk s (yv R v) := by
  obtain ⟨k, q⟩ := s
  simp only at hk
  funext i
  by_cases hi : i < 2 * R
  · obtain ⟨r, rfl | rfl⟩ := par k
    · have pe : pp R (stp R (2 * r, q) v) = pp R v := by
        funext n
        exact pp_congr fun s _ => by rw [stpE, if_neg (by omega)]
      by_cases e : i = 2 * r
      · subst e
        rw [yv_e (by omega), El.tk_eq, stpE, if_pos rfl, yv_e (by omega), yv_o (by omega), El.sgn_succ]
        unfold El.bv
        by_cases z : r = 0
        · subst z
          rw [if_pos rfl]
          simp only [pp, Nat.add_zero]
          grind
        · obtain ⟨m, rfl⟩ : ∃ m, r = m + 1 := ⟨r - 1, by omega⟩
          rw [if_neg (by omega), show 2 * (m + 1) - 1 = 2 * m + 1 by omega, yv_o (by omega)]
          simp only [pp, El.sgn_succ]
          grind
      · rw [El.tk_ne e]
        obtain ⟨j, rfl | rfl⟩ := par i
        · rw [yv_e (by omega), yv_e (by omega), stpE, if_neg (by omega)]
        · rw [yv_o (by omega), yv_o (by omega), pe]
    · have pm := pp_move (R := R) (r := r) (v := v) (w := stp R (2 * r + 1, q) v) (d := q * (v r + -(v (r + 1)))) (by rw [stpO, if_neg (by omega), if_pos rfl]; grind) (by rw [stpO, if_pos (by omega)]; rfl) fun s h1 h2 => by rw [stpO, if_neg (by omega), if_neg (by omega)]
      by_cases e : i = 2 * r + 1
      · subst e
        rw [yv_o (by omega), El.tk_eq, pm, if_pos rfl, yv_o (by omega), show 2 * r + 1 + 1 = 2 * (r + 1) by omega, yv_e (by omega)]
        unfold El.bv
        rw [if_neg (by omega), show 2 * r + 1 - 1 = 2 * r by omega, yv_e (by omega), El.sgn_succ]
        grind
      · rw [El.tk_ne e]
        obtain ⟨j, rfl | rfl⟩ := par i
        · rw [yv_e (by omega), yv_e (by omega), stpO, if_neg (by omega), if_neg (by omega)]
        · rw [yv_o (by omega), yv_o (by omega), pm, if_neg (by omega)]
  · rw [yv_out (by omega)]
    have : i ≠ k := by omega
    rw [El.tk_ne this, yv_out (by omega)]
theorem yv_led {R : Nat} : ∀ (ss : List (Nat × Rat)), (∀ s ∈ ss, s.1 + 2 ≤ 2 * R) → ∀ v, yv R (led R ss v) = El.run ss (yv R v)
  | [], _, _ => rfl
  | s :: ss, h, v => by
    rw [El.run_cons, ← yv_stp (h s List.mem_cons_self)]
    exact yv_led ss (fun t ht => h t (List.mem_cons_of_mem _ ht)) _
theorem pp_step {R r : Nat} {v w : Nat → Rat} (h : ∀ n, n < R → pp R v n = pp R w n) (hr : r < R) : v (R + r) = w (R + r) := by
  cases r with
  | zero => exact h 0 hr
  | succ r =>
    have h1 := h (r + 1) hr
    have h2 := h r (by omega)
    simp only [pp] at h1
    grind
theorem sgn_can {n : Nat} {x y : Rat} (h : El.sgn n * x = El.sgn n * y) : x = y := by
  have s := El.sgn_sq (n := n)
  have : El.sgn n * El.sgn n * x = El.sgn n * El.sgn n * y := by grind
  rw [s] at this
  grind
theorem yv_inj {R : Nat} {v w : Nat → Rat} (e : yv R v = yv R w) : ∀ i, i < 2 * R → v i = w i := fun i hi => by
  by_cases h : i < R
  · have := congrFun e (2 * i)
    rw [yv_e h, yv_e h] at this
    exact sgn_can this
  · obtain ⟨r, rfl⟩ : ∃ r, i = R + r := ⟨i - R, by omega⟩
    refine pp_step (fun n hn => ?_) (by omega)
    have := congrFun e (2 * n + 1)
    rw [yv_o hn, yv_o hn] at this
    exact sgn_can this
theorem yv_sur {R : Nat} {x : Nat → Rat} (hx : ∀ i, 2 * R ≤ i → x i = 0) : ∃ v, yv R v = x := by
  let p : Nat → Rat := fun n => El.sgn (n + 1) * x (2 * n + 1)
  let v : Nat → Rat := fun i => if i < R then El.sgn i * x (2 * i) else if i = R then p 0 else p (i - R) - p (i - R - 1)
  have pv : ∀ n, n < R → pp R v n = p n := by
    intro n
    induction n with
    | zero =>
      intro h
      show v R = _
      simp only [v]
      rw [if_neg (by omega), if_pos trivial]
    | succ n ih =>
      intro h
      simp only [pp]
      rw [ih (by omega)]
      simp only [v]
      rw [if_neg (by omega), if_neg (by omega), show R + (n + 1) - R = n + 1 by omega, show n + 1 - 1 = n by omega]
      grind
  refine ⟨v, ?_⟩
  funext i
  by_cases hi : i < 2 * R
  · obtain ⟨j, rfl | rfl⟩ := par i
    · rw [yv_e (by omega)]
      simp only [v]
      rw [if_pos (by omega)]
      have s := El.sgn_sq (n := j)
      have : El.sgn j * (El.sgn j * x (2 * j)) = El.sgn j * El.sgn j * x (2 * j) := by grind
      rw [this, s]
      grind
    · rw [yv_o (by omega), pv j (by omega)]
      simp only [p]
      have s := El.sgn_sq (n := j + 1)
      have : El.sgn (j + 1) * (El.sgn (j + 1) * x (2 * j + 1)) = El.sgn (j + 1) * El.sgn (j + 1) * x (2 * j + 1) := by grind
      rw [this, s]
      grind
  · rw [yv_out (by omega), hx i (by omega)]
theorem run_hi {N : Nat} : ∀ {ss : List (Nat × Rat)}, (∀ s ∈ ss, s.1 + 1 < N) → ∀ {x : Nat → Rat}, (∀ i, i < N → x i = 0) → El.run ss x = x
  | [], _, _, _ => rfl
  | (k, a) :: ss, h, x, hx => by
    have hk : k + 1 < N := h (k, a) List.mem_cons_self
    have e : El.tk (k, a) x = x := by
      funext i
      by_cases hi : i = k
      · subst hi
        rw [El.tk_eq, El.bv0 fun j hj => hx j (by omega), hx i (by omega), hx (i + 1) hk]
        grind
      · exact El.tk_ne hi
    rw [El.run_cons, e]
    exact run_hi (fun t ht => h t (List.mem_cons_of_mem _ ht)) hx
theorem eqv_sup {N : Nat} {ss tt : List (Nat × Rat)} (hs : ∀ s ∈ ss, s.1 + 1 < N) (ht : ∀ s ∈ tt, s.1 + 1 < N) (e : ∀ x, (∀ i, N ≤ i → x i = 0) → El.run ss x = El.run tt x) : El.Eqv ss tt := fun x => by
  have ex : x = fun i => (if i < N then x i else 0) + 1 * (if i < N then 0 else x i) := by
    funext i
    by_cases h : i < N
    · rw [if_pos h, if_pos h]; grind
    · rw [if_neg h, if_neg h]; grind
  have h1 := run_hi hs (x := fun i => if i < N then 0 else x i) fun i hi => if_pos hi
  have h2 := run_hi ht (x := fun i => if i < N then 0 else x i) fun i hi => if_pos hi
  rw [ex, El.run_lin, El.run_lin, e (fun i => if i < N then x i else 0) fun i hi => if_neg (by omega), h1, h2]
theorem eqv_led {R : Nat} {ss tt : List (Nat × Rat)} (hs : ∀ s ∈ ss, s.1 + 2 ≤ 2 * R) (ht : ∀ s ∈ tt, s.1 + 2 ≤ 2 * R) (e : ∀ v, ∀ i, i < 2 * R → led R ss v i = led R tt v i) : El.Eqv ss tt := by
  refine eqv_sup (N := 2 * R) (fun s h => by have := hs s h; omega) (fun s h => by have := ht s h; omega) fun x hx => ?_
  obtain ⟨v, rfl⟩ := yv_sur hx
  rw [← yv_led ss hs, ← yv_led tt ht]
  funext i
  by_cases hi : i < 2 * R
  · obtain ⟨j, rfl | rfl⟩ := par i
    · rw [yv_e (by omega), yv_e (by omega), e v _ (by omega)]
    · rw [yv_o (by omega), yv_o (by omega), pp_congr fun s hs => e v _ (by omega)]
  · rw [yv_out (by omega), yv_out (by omega)]
theorem led_eqv {R : Nat} {ss tt : List (Nat × Rat)} (hs : ∀ s ∈ ss, s.1 + 2 ≤ 2 * R) (ht : ∀ s ∈ tt, s.1 + 2 ≤ 2 * R) (e : El.Eqv ss tt) : ∀ v, ∀ i, i < 2 * R → led R ss v i = led R tt v i := fun v =>
  yv_inj (by rw [yv_led ss hs, yv_led tt ht, e])
/-! ## orders as lists -/
def rowL (N : Nat) (row : Nat → Nat) : List Int := (List.range N).map fun j => ((row j : Nat) : Int)
theorem rowL_len {N : Nat} {row : Nat → Nat} : (rowL N row).length = N := by simp [rowL]
theorem rowL_get {N j : Nat} {row : Nat → Nat} (h : j < N) : (rowL N row).getD j 0 = (row j : Nat) := by
  simp [rowL, List.getD, h]
theorem rowL_swp {N k : Nat} {row : Nat → Nat} (h : k + 1 < N) : swp (rowL N row) k = rowL N (El.sw row k) := by
  rw [← set_swp (by rw [rowL_len]; exact h), rowL_get h, rowL_get (by omega)]
  apply List.ext_getElem?
  intro i
  by_cases hi : i < N
  · have l0 : (rowL N row)[i]? = some ((row i : Nat) : Int) := by simp [rowL, hi]
    have l1 : (rowL N (El.sw row k))[i]? = some ((El.sw row k i : Nat) : Int) := by simp [rowL, hi]
    rw [l1, List.getElem?_set, List.getElem?_set]
    by_cases h1 : i = k
    · subst h1
      rw [if_neg (by omega), if_pos rfl, if_pos (by rw [rowL_len]; omega), El.sw_l]
    · by_cases h2 : i = k + 1
      · subst h2
        rw [if_pos rfl, if_pos (by rw [List.length_set, rowL_len]; omega), El.sw_r]
      · rw [if_neg (fun q => h2 q.symm), if_neg (fun q => h1 q.symm), l0, El.sw_o h1 h2]
  · rw [List.getElem?_eq_none (by rw [List.length_set, List.length_set, rowL_len]; omega), List.getElem?_eq_none (by rw [rowL_len]; omega)]
theorem runO_ro {N : Nat} : ∀ (ks : List Nat), (∀ k ∈ ks, k + 1 < N) → (runO (rng0 N) ks).1 = rowL N (El.ro ks) := by
  refine snoc_ind (fun _ => rfl) fun ks k ih h => ?_
  have ih := ih fun x hx => h x (List.mem_append_left _ hx)
  have hk := h k (by simp)
  rw [runO_snoc, El.ro_snoc]
  unfold stO El.ro1
  rw [ih, rowL_get (by omega), rowL_get hk]
  by_cases c : El.ro ks k < El.ro ks (k + 1)
  · rw [if_pos c, if_pos (by omega)]
    exact rowL_swp hk
  · rw [if_neg c, if_neg (by omega)]
theorem rowL_eq {N : Nat} {row row' : Nat → Nat} (e : rowL N row = rowL N row') : ∀ i, i < N → row i = row' i := fun i hi => by
  have := congrArg (fun l => l.getD i 0) e
  simp only [rowL_get hi] at this
  exact_mod_cast this
/-! ## from the end -/
theorem sIx_neg {n d m : Nat} (h0 : 0 < m) (h : m ≤ n) {i : Int} (e : i = -(m : Int)) : HT.sIx n d (some i) = n - m := by
  subst e
  show (if -(m : Int) < 0 then (-(m : Int) + (n : Int)).toNat else min (-(m : Int)).toNat n) = _
  rw [if_pos (by omega)]
  omega
theorem sl_init {xs ys : List D} {i : Int} {h : Hh} (e : i = -(ys.length : Int)) (h0 : 0 < ys.length) : slD (.tup (xs ++ ys)) none (some i) h = .ok (.tup xs) := by
  simp only [slD]
  unfold cutL
  rw [sIx_neg h0 (by rw [List.length_append]; omega) e, HT.sIx_none, List.drop_zero, List.length_append, Nat.add_sub_cancel, Nat.sub_zero, List.take_left]
theorem sl_tail {xs ys : List D} {i : Int} {h : Hh} (e : i = -(ys.length : Int)) (h0 : 0 < ys.length) : slD (.tup (xs ++ ys)) (some i) none h = .ok (.tup ys) := by
  simp only [slD]
  unfold cutL
  rw [sIx_neg h0 (by rw [List.length_append]; omega) e, HT.sIx_none, List.length_append, Nat.add_sub_cancel, List.drop_left, List.take_of_length_le (by omega)]
theorem ix_last {xs : List D} {d : D} {h : Hh} : ixD (.tup (xs ++ [d])) (.int (-1)) h = .ok d := by
  have : atI (xs ++ [d]) (-1) = some d := by
    have e : ixN (xs.length + 1) (-1) = some xs.length := by
      unfold ixN
      simp
      omega
    unfold atI
    simp [e]
  simp only [ixD, seqOf, this]
end Fx
set_option Elab.async false
set_option linter.all false
namespace Fx
open PySem PySem.Spec PyProof.Rows L2
/-! ## orders are told by what nets do -/
/-- steps of kinds and sizes as they should be -/
def Sok (N : Nat) (ss : List (Nat × Rat)) : Prop := ∀ s ∈ ss, s.1 + 1 < N ∧ 0 < s.2
theorem Sok.app {N : Nat} {ss tt : List (Nat × Rat)} (h : Sok N ss) (g : Sok N tt) : Sok N (ss ++ tt) := fun s hs => (List.mem_append.mp hs).elim (h s) (g s)
theorem Sok.rev {N : Nat} {ss : List (Nat × Rat)} (h : Sok N ss) : Sok N ss.reverse := fun s hs => h s (List.mem_reverse.mp hs)
theorem NetOk.sok {R bb : Nat} {ss : List (Nat × Rat)} (H : NetOk R ss bb) : Sok (2 * R) ss := fun s hs => ⟨by have := (H.st s hs).kind; omega, pos_num (H.st s hs).pos⟩
theorem ro_eqv {N : Nat} {ss tt : List (Nat × Rat)} (hs : Sok N ss) (ht : Sok N tt) (e : El.Eqv ss tt) : El.ro (kds ss) = El.ro (kds tt) := by
  obtain ⟨ff, f1, f2⟩ := El.ls_ex ss hs
  obtain ⟨gg, g1, g2⟩ := El.ls_ex tt ht
  exact El.row_un f1 g1 (f2.symm.trans (e.trans g2))
theorem ro_inv {N : Nat} {ss : List (Nat × Rat)} (hs : Sok N ss) : El.Inv (El.ro (kds ss)) (El.ro (kds ss.reverse)) := by
  obtain ⟨ff, f1, f2⟩ := El.ls_ex ss hs
  obtain ⟨gg, g1, g2⟩ := El.ls_ex ss.reverse hs.rev
  obtain ⟨ρ, I, g3⟩ := El.lrev f1
  have e := El.row_un g1 g3 (g2.symm.trans f2.rev)
  show El.Inv (El.ro (ss.map (·.1))) (El.ro (ss.reverse.map (·.1)))
  rw [e]
  exact I
theorem Sok.ups {N : Nat} {ss : List (Nat × Rat)} (h : Sok N ss) : Sok N (El.ups N ss) := fun s hs => by
  obtain ⟨t, ht, rfl⟩ := List.mem_map.mp hs
  have := h t ht
  exact ⟨by simp only; omega, this.2⟩
theorem ro_ups {N : Nat} (he : N % 2 = 0) (h4 : 4 ≤ N) {ss : List (Nat × Rat)} (hs : Sok N ss) : El.ro (kds (El.ups N ss)) = fun j => El.fl N (El.ro (kds ss) (El.fl N j)) := by
  obtain ⟨ff, f1, f2⟩ := El.ls_ex ss hs
  obtain ⟨gg, g1, g2⟩ := El.ls_ex (El.ups N ss) hs.ups
  exact El.row_un g1 f1.ups (g2.symm.trans (f2.ups he h4 (fun s h => (hs s h).1) f1.kinds))
/-- how many steps least ones have -/
def iv (N : Nat) (ks : List Nat) : Nat := inv (rowL N (El.ro ks))
theorem iv_snoc {N : Nat} {ks : List Nat} {k : Nat} (hk : k + 1 < N) : iv N (ks ++ [k]) = if El.ro ks k < El.ro ks (k + 1) then iv N ks + 1 else iv N ks := by
  unfold iv
  rw [El.ro_snoc]
  unfold El.ro1
  by_cases c : El.ro ks k < El.ro ks (k + 1)
  · rw [if_pos c, if_pos c, ← rowL_swp hk, inv_swp (by rw [rowL_len]; exact hk) (by rw [rowL_get hk, rowL_get (by omega)]; omega)]
  · rw [if_neg c, if_neg c]
theorem iv_nil {N : Nat} : iv N [] = 0 := rng0_inv
theorem iv_app {N : Nat} {ks : List Nat} : ∀ (ls : List Nat), (∀ l ∈ ls, l + 1 < N) → iv N ks ≤ iv N (ks ++ ls) ∧ iv N (ks ++ ls) ≤ iv N ks + ls.length := by
  refine El.sn_ind (fun _ => by simp) fun ls l ih h => ?_
  have ih := ih fun x hx => h x (List.mem_append_left _ hx)
  rw [← List.append_assoc, iv_snoc (h l (by simp)), List.length_append, List.length_singleton]
  split <;> omega
theorem iv_lst {N : Nat} {ff : List (Nat × Rat)} {row : Nat → Nat} (h : El.Lst N ff row) : iv N (kds ff) = ff.length := by
  induction h with
  | nil => exact iv_nil
  | @snoc ss row k a h hk hlt ha ih =>
    have e : kds (ss ++ [(k, a)]) = kds ss ++ [k] := by simp [kds]
    rw [e, iv_snoc hk, show El.ro (kds ss) = row from h.ro, if_pos hlt, ih, List.length_append]
    rfl
theorem iv_len {N : Nat} {ss ff : List (Nat × Rat)} (h : El.Lst N ff (El.ro (kds ss))) : iv N (kds ss) = ff.length := by
  rw [← iv_lst h]
  unfold iv
  rw [show El.ro (kds ff) = _ from h.ro]
theorem iv_rev {N : Nat} {ss : List (Nat × Rat)} (hs : Sok N ss) : iv N (kds ss.reverse) = iv N (kds ss) := by
  obtain ⟨ff, f1, f2⟩ := El.ls_ex ss hs
  obtain ⟨gg, g1, g2⟩ := El.ls_ex ss.reverse hs.rev
  obtain ⟨ρ, I, g3⟩ := El.lrev f1
  have e := El.row_un g1 g3 (g2.symm.trans f2.rev)
  have g1 : El.Lst N gg (El.ro (kds ss.reverse)) := g1
  have e : El.ro (kds ss.reverse) = ρ := e
  rw [iv_len f1, ← List.length_reverse, ← iv_lst g3]
  unfold iv
  rw [e, show El.ro (kds ff.reverse) = ρ from g3.ro]
theorem kds_app {ss tt : List (Nat × Rat)} : kds (ss ++ tt) = kds ss ++ kds tt := List.map_append
theorem kds_mem {N : Nat} {ss : List (Nat × Rat)} (h : Sok N ss) : ∀ k ∈ kds ss, k + 1 < N := fun k hk => by
  obtain ⟨s, hs, rfl⟩ := List.mem_map.mp hk
  exact (h s hs).1
theorem iv_cons {N : Nat} {ss tt : List (Nat × Rat)} (h : Sok N ss) (g : Sok N tt) : iv N (kds tt) ≤ iv N (kds (ss ++ tt)) ∧ iv N (kds (ss ++ tt)) ≤ iv N (kds tt) + ss.length := by
  have a := iv_app (N := N) (ks := kds tt.reverse) (kds ss.reverse) (kds_mem h.rev)
  rw [← kds_app, ← List.reverse_append, iv_rev (h.app g), iv_rev g] at a
  have : (kds ss.reverse).length = ss.length := by simp [kds]
  omega
theorem find_row {N k : Nat} {row ρ : Nat → Nat} (I : El.Inv row ρ) (hk : ρ k < N) : (rowL N row).findIdx? (fun j => j == (k : Int)) = some (ρ k) := by
  rw [List.findIdx?_eq_some_iff_getElem]
  have hl : ρ k < (rowL N row).length := by rw [rowL_len]; exact hk
  refine ⟨hl, ?_, fun j hj => ?_⟩
  · have : (rowL N row)[ρ k] = ((row (ρ k) : Nat) : Int) := by simp [rowL]
    rw [this, I.r]
    exact beq_self_eq_true _
  · have : (rowL N row)[j]'(by omega) = ((row j : Nat) : Int) := by simp [rowL]
    rw [this]
    intro q
    have q := eq_of_beq q
    have q : row j = k := by exact_mod_cast q
    have := congrArg ρ q
    rw [I.l] at this
    omega
theorem rowL_I {N : Nat} {row : Nat → Nat} : I (rowL N row) = (List.range N).map fun j => D.int (row j : Nat) := by simp [I, rowL]
theorem intL_row (ns : List Int) : intL (I ns) = some ns := intL_I ns
end Fx
set_option Elab.async false
set_option linter.all false
namespace Fx
open PySem PySem.Spec PyProof.Rows L2
/-! ## rows of kinds -/
/-- an order: what stands at a place, and where a thing stands -/
structure Oo (N : Nat) (row ρ : Nat → Nat) : Prop where
  inv : El.Inv row ρ
  lt : ∀ i, i < N → row i < N
  out : ∀ i, N ≤ i → row i = i
theorem Oo.rlt {N : Nat} {row ρ : Nat → Nat} (P : Oo N row ρ) {i : Nat} (h : i < N) : ρ i < N := Classical.byContradiction fun q => by
  have e := P.out (ρ i) (by omega)
  rw [P.inv.r] at e
  omega
theorem Oo.rout {N : Nat} {row ρ : Nat → Nat} (P : Oo N row ρ) {i : Nat} (h : N ≤ i) : ρ i = i := by
  have e := P.out i h
  have := P.inv.l i
  rwa [e] at this
theorem Oo.symm {N : Nat} {row ρ : Nat → Nat} (P : Oo N row ρ) : Oo N ρ row := ⟨P.inv.symm, fun _ => P.rlt, fun _ => P.rout⟩
theorem pm_id {N : Nat} : Oo N id id := ⟨El.inv_id, fun _ h => h, fun _ _ => rfl⟩
theorem tr_lt' {N k i : Nat} (hk : k + 1 < N) (h : i < N) : El.tr k i < N := by
  unfold El.tr
  split
  · omega
  · split <;> omega
theorem tr_out {N k i : Nat} (hk : k + 1 < N) (h : N ≤ i) : El.tr k i = i := El.tr_o (by omega) (by omega)
/-- a first kind taken away -/
theorem Oo.wf {N k : Nat} {row ρ : Nat → Nat} (P : Oo N row ρ) (hk : k + 1 < N) : Oo N (fun i => El.tr k (row i)) (El.sw ρ k) :=
  ⟨P.inv.tr k, fun i hi => tr_lt' hk (P.lt i hi), fun i hi => by rw [P.out i hi]; exact tr_out hk hi⟩
theorem Oo.of_lst {N : Nat} {ff : List (Nat × Rat)} {row : Nat → Nat} (h : El.Lst N ff row) : ∃ ρ, Oo N row ρ := by
  obtain ⟨ρ, I⟩ := h.inv
  exact ⟨ρ, I, h.lt, h.out⟩
theorem Oo.un {N : Nat} {row ρ row' ρ' : Nat → Nat} (P : Oo N row ρ) (P' : Oo N row' ρ') (e : rowL N row = rowL N row') : row = row' ∧ ρ = ρ' := by
  have er : row = row' := by
    funext i
    by_cases h : i < N
    · exact rowL_eq e i h
    · rw [P.out i (by omega), P'.out i (by omega)]
  subst er
  exact ⟨rfl, P.inv.un P'.inv⟩
theorem Oo.perm {N : Nat} {row ρ : Nat → Nat} (P : Oo N row ρ) : (rowL N row).Perm (rng0 N) := by
  have nd : (rowL N row).Nodup := by
    unfold rowL
    refine List.Pairwise.map _ (fun a b hab q => ?_) List.nodup_range
    have q : row a = row b := by exact_mod_cast q
    have := congrArg ρ q
    rw [P.inv.l, P.inv.l] at this
    exact hab this
  refine (List.perm_ext_iff_of_nodup nd rng0_nd).mpr fun x => ?_
  unfold rowL rng0
  simp only [List.mem_map, List.mem_range]
  constructor
  · rintro ⟨i, hi, rfl⟩
    exact ⟨row i, P.lt i hi, rfl⟩
  · rintro ⟨i, hi, rfl⟩
    exact ⟨ρ i, P.rlt hi, by rw [P.inv.r]; rfl⟩
/-- the first kinds -/
def fk (N : Nat) (ρ : Nat → Nat) : List Nat := (List.range (N - 1)).filter fun k => decide (ρ (k + 1) < ρ k)
theorem fk_mem {N k : Nat} {ρ : Nat → Nat} : k ∈ fk N ρ ↔ k + 1 < N ∧ ρ (k + 1) < ρ k := by
  unfold fk
  rw [List.mem_filter, List.mem_range, decide_eq_true_iff]
  constructor
  · rintro ⟨a, b⟩; exact ⟨by omega, b⟩
  · rintro ⟨a, b⟩; exact ⟨by omega, b⟩
theorem fk_asc {N : Nat} {ρ : Nat → Nat} : (fk N ρ).Pairwise (· < ·) := List.Pairwise.filter _ List.pairwise_lt_range
theorem fk_nd {N : Nat} {ρ : Nat → Nat} : (fk N ρ).Nodup := fk_asc.imp fun h => by omega
theorem fk_len {N : Nat} {ρ : Nat → Nat} : (fk N ρ).length ≤ N := by
  have := List.length_filter_le (fun k => decide (ρ (k + 1) < ρ k)) (List.range (N - 1))
  rw [List.length_range] at this
  unfold fk
  omega
/-- how many pairs -/
def np (N : Nat) (ρ : Nat → Nat) : Nat := inv (rowL N ρ)
theorem np_sw {N k : Nat} {ρ : Nat → Nat} (h : k ∈ fk N ρ) : np N ρ = np N (El.sw ρ k) + 1 := by
  obtain ⟨hk, hlt⟩ := fk_mem.mp h
  unfold np
  have e : swp (rowL N (El.sw ρ k)) k = rowL N ρ := by rw [rowL_swp hk, El.sw_sw]
  rw [← e, inv_swp (by rw [rowL_len]; exact hk)]
  rw [rowL_get hk, rowL_get (by omega), El.sw_l, El.sw_r]
  omega
theorem fmap_congr {α β : Type} {f g : α → List β} : ∀ {xs : List α}, (∀ x ∈ xs, f x = g x) → xs.flatMap f = xs.flatMap g
  | [], _ => rfl
  | x :: xs, h => by rw [List.flatMap_cons, List.flatMap_cons, h x List.mem_cons_self, fmap_congr fun y hy => h y (List.mem_cons_of_mem _ hy)]
/-- all rows -/
def rR (N : Nat) : Nat → (Nat → Nat) → List (List Nat)
  | 0, _ => [[]]
  | n + 1, ρ => if fk N ρ = [] then [[]] else (fk N ρ).flatMap fun k => (rR N n (El.sw ρ k)).map (k :: ·)
def rW (N : Nat) (ρ : Nat → Nat) : List (List Nat) := rR N (np N ρ) ρ
theorem np_0 {N : Nat} {ρ : Nat → Nat} (h : np N ρ = 0) : fk N ρ = [] := by
  cases e : fk N ρ with
  | nil => rfl
  | cons k ks =>
    have := np_sw (N := N) (ρ := ρ) (k := k) (by rw [e]; exact List.mem_cons_self)
    omega
theorem rW_eq {N : Nat} {ρ : Nat → Nat} : rW N ρ = if fk N ρ = [] then [[]] else (fk N ρ).flatMap fun k => (rW N (El.sw ρ k)).map (k :: ·) := by
  unfold rW
  cases e : np N ρ with
  | zero => rw [if_pos (np_0 e)]; rfl
  | succ n =>
    show (if fk N ρ = [] then _ else _) = _
    by_cases c : fk N ρ = []
    · rw [if_pos c, if_pos c]
    · rw [if_neg c, if_neg c]
      refine fmap_congr fun k hk => ?_
      have := np_sw hk
      rw [show np N (El.sw ρ k) = n by omega]
/-- how many -/
def cW (N : Nat) (ρ : Nat → Nat) : Nat := (rW N ρ).length
theorem cW_eq {N : Nat} {ρ : Nat → Nat} : cW N ρ = if fk N ρ = [] then 1 else ((fk N ρ).map fun k => cW N (El.sw ρ k)).sum := by
  unfold cW
  rw [rW_eq]
  by_cases c : fk N ρ = []
  · rw [if_pos c, if_pos c]; rfl
  · rw [if_neg c, if_neg c, List.length_flatMap]
    congr 1
    refine List.map_congr_left fun k _ => ?_
    rw [List.length_map]
/-- the first of all -/
def lR (N : Nat) : Nat → (Nat → Nat) → List Nat
  | 0, _ => []
  | n + 1, ρ => match fk N ρ with
    | [] => []
    | k :: _ => k :: lR N n (El.sw ρ k)
def lW (N : Nat) (ρ : Nat → Nat) : List Nat := lR N (np N ρ) ρ
theorem lW_eq {N : Nat} {ρ : Nat → Nat} : lW N ρ = match fk N ρ with
    | [] => []
    | k :: _ => k :: lW N (El.sw ρ k) := by
  unfold lW
  cases e : np N ρ with
  | zero => rw [np_0 e]; rfl
  | succ n =>
    show (match fk N ρ with | [] => [] | k :: _ => k :: lR N n (El.sw ρ k)) = _
    cases e2 : fk N ρ with
    | nil => rfl
    | cons k ks =>
      have := np_sw (N := N) (ρ := ρ) (k := k) (by rw [e2]; exact List.mem_cons_self)
      show k :: lR N n (El.sw ρ k) = k :: lR N (np N (El.sw ρ k)) (El.sw ρ k)
      rw [show np N (El.sw ρ k) = n by omega]
theorem np_ind {N : Nat} {P : (Nat → Nat) → (Nat → Nat) → Prop} (h : ∀ row ρ, Oo N row ρ → (∀ k, k ∈ fk N ρ → P (fun i => El.tr k (row i)) (El.sw ρ k)) → P row ρ) : ∀ (n : Nat) {row ρ : Nat → Nat}, Oo N row ρ → np N ρ ≤ n → P row ρ
  | 0, row, ρ, p, hn => h row ρ p fun k hk => by have := np_sw hk; omega
  | n + 1, row, ρ, p, hn => h row ρ p fun k hk => np_ind h n (p.wf (fk_mem.mp hk).1) (by have := np_sw hk; omega)
theorem lW_row {N : Nat} {row ρ : Nat → Nat} (p : Oo N row ρ) : El.LRow N row (lW N ρ) := by
  refine np_ind (P := fun row ρ => El.LRow N row (lW N ρ)) (fun row ρ p ih => ?_) _ p (Nat.le_refl _)
  rw [lW_eq]
  cases e : fk N ρ with
  | nil =>
    refine .nil p.inv fun k hk => ?_
    have n1 : ¬ ρ (k + 1) < ρ k := fun q => by
      have : k ∈ fk N ρ := fk_mem.mpr ⟨hk, q⟩
      rw [e] at this
      cases this
    have n2 := p.inv.ne (i := k) (j := k + 1) (by omega)
    omega
  | cons k ks =>
    have hk : k ∈ fk N ρ := by rw [e]; exact List.mem_cons_self
    obtain ⟨h1, h2⟩ := fk_mem.mp hk
    refine .cons p.inv h1 h2 (fun l hl => ?_) (ih k hk)
    have n1 : ¬ ρ (l + 1) < ρ l := fun q => by
      have hm : l ∈ fk N ρ := fk_mem.mpr ⟨by omega, q⟩
      have as := fk_asc (N := N) (ρ := ρ)
      rw [e] at hm as
      rcases List.mem_cons.mp hm with r | r
      · omega
      · have := (List.pairwise_cons.mp as).1 l r
        omega
    have n2 := p.inv.ne (i := l) (j := l + 1) (by omega)
    omega
theorem fk_nil {N : Nat} {row ρ : Nat → Nat} (p : Oo N row ρ) (e : fk N ρ = []) : ∀ k, k + 1 < N → ρ k < ρ (k + 1) := fun k hk => by
  have n1 : ¬ ρ (k + 1) < ρ k := fun q => by
    have : k ∈ fk N ρ := fk_mem.mpr ⟨hk, q⟩
    rw [e] at this
    cases this
  have n2 := p.inv.ne (i := k) (j := k + 1) (by omega)
  omega
theorem np_nil {N : Nat} {row ρ : Nat → Nat} (p : Oo N row ρ) (e : fk N ρ = []) : np N ρ = 0 := by
  have a := fk_nil p e
  have up : ∀ d i, i + d + 1 < N → ρ i < ρ (i + d + 1) := by
    intro d
    induction d with
    | zero => exact fun i hi => a i hi
    | succ d ih =>
      intro i hi
      have h1 := ih i (by omega)
      have h2 := a (i + d + 1) (by omega)
      exact Nat.lt_trans h1 h2
  refine inv_asc _ ?_
  unfold rowL
  rw [List.pairwise_map]
  refine List.Pairwise.imp_of_mem (fun {x y} hx hy hxy => ?_) List.pairwise_lt_range
  have hy := List.mem_range.mp hy
  have := up (y - x - 1) x (by omega)
  rw [show x + (y - x - 1) + 1 = y by omega] at this
  omega
theorem lW_len {N : Nat} {row ρ : Nat → Nat} (p : Oo N row ρ) : (lW N ρ).length = np N ρ := by
  refine np_ind (P := fun row ρ => (lW N ρ).length = np N ρ) (fun row ρ p ih => ?_) _ p (Nat.le_refl _)
  rw [lW_eq]
  cases e : fk N ρ with
  | nil =>
    rw [np_nil p e]
    rfl
  | cons k ks =>
    have hk : k ∈ fk N ρ := by rw [e]; exact List.mem_cons_self
    rw [List.length_cons, ih k hk, np_sw hk]
/-! ## comprehensions that change the heap -/
theorem comp_stL {α : Type} {all : List D} {g : Tg} {r0 : Ev} {elt : Ev → Hh → Res (D × Hh)} {cond : Ev → Hh → Res (Bool × Hh)} (f F : α → D) (R : α → Ev) (P : Hh → Prop) :
    ∀ (xs : List α), (∀ x ∈ xs, ∀ h, P h → tgD g (f x) r0 = some (R x) ∧ cond (R x) h = .ok (true, h) ∧ ∃ h', elt (R x) h = .ok (F x, h') ∧ P h') → ∀ h, P h → ∃ h', compD none all g r0 cond elt (xs.map f) h = .ok (xs.map F, h') ∧ P h'
  | [], _, h, p => ⟨h, by simp [compD, stl], p⟩
  | x :: xs, H, h, p => by
    obtain ⟨a, b, h1, c, p1⟩ := H x List.mem_cons_self h p
    obtain ⟨h2, e, p2⟩ := comp_stL f F R P xs (fun y hy => H y (List.mem_cons_of_mem _ hy)) h1 p1 (all := all)
    exact ⟨h2, by simp only [List.map_cons, compD, stl, if_true, a, b, c, nox_ok, bind_ok, e], p2⟩
/-! ## least steps for an order -/
theorem Oo.asc_id {N : Nat} {row ρ : Nat → Nat} (p : Oo N row ρ) (e : fk N ρ = []) : row = id := by
  have a := fk_nil p e
  have up : ∀ d i, i + d < N → ρ i + d ≤ ρ (i + d) := by
    intro d
    induction d with
    | zero => exact fun i _ => Nat.le_refl _
    | succ d ih =>
      intro i hi
      have h1 := ih i (by omega)
      have h2 := a (i + d) (by omega)
      have : i + d + 1 = i + (d + 1) := by omega
      rw [this] at h2
      omega
  have r : ρ = id := by
    funext i
    by_cases h : i < N
    · have h1 := up i 0 (by omega)
      have h2 := up (N - 1 - i) i (by omega)
      have h3 := p.rlt (i := i + (N - 1 - i)) (by omega)
      rw [Nat.zero_add] at h1
      simp only [id]
      omega
    · rw [p.rout (by omega)]; rfl
  funext i
  have := p.inv.r i
  rw [r] at this
  exact this
/-- the rows of an order -/
inductive RW (N : Nat) : (Nat → Nat) → List Nat → Prop
  | nil {row ρ : Nat → Nat} : Oo N row ρ → fk N ρ = [] → RW N row []
  | cons {row ρ : Nat → Nat} {k : Nat} {ks : List Nat} : Oo N row ρ → k ∈ fk N ρ → RW N (fun i => El.tr k (row i)) ks → RW N row (k :: ks)
theorem RW.lst {N : Nat} {row : Nat → Nat} {ks : List Nat} (h : RW N row ks) : ∃ ff, El.Lst N ff row ∧ kds ff = ks := by
  induction h with
  | nil p e => exact ⟨[], by rw [p.asc_id e]; exact .nil, rfl⟩
  | @cons row ρ k ks p hk _ ih =>
    obtain ⟨ff, g, e⟩ := ih
    obtain ⟨h1, h2⟩ := fk_mem.mp hk
    have g2 := El.lcons (k := k) (a := 1) g h1 (by decide) (p.inv.tr k) (by rw [El.sw_l, El.sw_r]; exact h2)
    simp only [El.tr_tr] at g2
    exact ⟨_, g2, by show k :: kds ff = _; rw [e]⟩
theorem lW_rw {N : Nat} {row ρ : Nat → Nat} (p : Oo N row ρ) : RW N row (lW N ρ) := by
  refine np_ind (P := fun row ρ => RW N row (lW N ρ)) (fun row ρ p ih => ?_) _ p (Nat.le_refl _)
  rw [lW_eq]
  cases e : fk N ρ with
  | nil => exact .nil p e
  | cons k ks =>
    have hk : k ∈ fk N ρ := by rw [e]; exact List.mem_cons_self
    exact .cons p hk (ih k hk)
theorem np_row {N : Nat} {row ρ : Nat → Nat} (p : Oo N row ρ) : inv (rowL N row) = np N ρ := by
  obtain ⟨ff, g, e⟩ := (lW_rw p).lst
  rw [← lW_len p, ← e, kds_len, ← iv_lst g]
  unfold iv
  rw [show El.ro (kds ff) = row from g.ro]
/-! ## dicts of counts -/
theorem pigA {α : Type} [DecidableEq α] : ∀ {U C : List α}, U.Nodup → C.length < U.length → ∃ c, c ∈ U ∧ c ∉ C
  | [], C, _, h => by simp at h
  | u :: U, C, nd, h => by
    cases nd with
    | cons n1 n2 =>
      by_cases c : u ∈ C
      · have hl : (C.erase u).length < U.length := by
          rw [List.length_erase_of_mem c]
          have := List.length_pos_of_mem c
          simp at h
          omega
        obtain ⟨x, h1, h2⟩ := pigA n2 hl
        refine ⟨x, List.mem_cons_of_mem _ h1, fun q => h2 ?_⟩
        have : x ≠ u := fun z => n1 x h1 z.symm
        exact (List.mem_erase_of_ne this).mpr q
      · exact ⟨u, List.mem_cons_self, c⟩
theorem nd_lenA {α : Type} [DecidableEq α] {A B : List α} (nd : A.Nodup) (h : ∀ x ∈ A, x ∈ B) : A.length ≤ B.length := by
  refine Classical.byContradiction fun q => ?_
  obtain ⟨c, h1, h2⟩ := pigA (C := B) nd (by omega)
  exact h2 (h c h1)
def allL (N : Nat) : Nat → List (List Int)
  | 0 => [[]]
  | n + 1 => (rng0 N).flatMap fun x => (allL N n).map (x :: ·)
theorem allL_len {N : Nat} : ∀ n, (allL N n).length = N ^ n
  | 0 => rfl
  | n + 1 => by
    unfold allL
    rw [List.length_flatMap]
    have : ((rng0 N).map fun x => ((allL N n).map (x :: ·)).length) = (rng0 N).map fun _ => N ^ n := List.map_congr_left fun x _ => by rw [List.length_map, allL_len n]
    rw [this, List.map_const', List.sum_replicate_nat, rng0_len, Nat.pow_succ, Nat.mul_comm]
theorem allL_mem {N : Nat} : ∀ (xs : List Int), (∀ x ∈ xs, x ∈ rng0 N) → xs ∈ allL N xs.length
  | [], _ => List.mem_singleton.mpr rfl
  | x :: xs, h => by
    show x :: xs ∈ (rng0 N).flatMap fun x => (allL N xs.length).map (x :: ·)
    exact List.mem_flatMap.mpr ⟨x, h x List.mem_cons_self, List.mem_map.mpr ⟨xs, allL_mem xs fun y hy => h y (List.mem_cons_of_mem _ hy), rfl⟩⟩
/-- what the dict of counts holds -/
structure KI (N : Nat) (kvs : List (List Int × D)) : Prop where
  ok : ∀ p ∈ kvs, ∃ row ρ, Oo N row ρ ∧ p.1 = rowL N row ∧ p.2 = .int (cW N ρ : Nat)
  nd : (kvs.map (·.1)).Nodup
theorem KI.nil {N : Nat} : KI N [] := ⟨fun p hp => by simp at hp, List.nodup_nil⟩
theorem KI.len {N : Nat} {kvs : List (List Int × D)} (K : KI N kvs) (h2 : 2 ≤ N) (h8 : N ≤ 8) : kvs.length < 2 ^ 24 := by
  have nd : (List.replicate N (0 : Int) :: kvs.map (·.1)).Nodup := by
    refine List.nodup_cons.mpr ⟨fun q => ?_, K.nd⟩
    obtain ⟨p, hp, e⟩ := List.mem_map.mp q
    obtain ⟨row, ρ, P, e1, _⟩ := K.ok p hp
    rw [e1] at e
    have a0 := congrArg (fun l => l.getD 0 0) e
    have a1 := congrArg (fun l => l.getD 1 0) e
    simp only [rowL_get (show 0 < N by omega), rowL_get (show 1 < N by omega)] at a0 a1
    have r : ∀ i, i < N → (List.replicate N (0 : Int)).getD i 0 = 0 := fun i hi => by simp [List.getD, hi]
    rw [r 0 (by omega)] at a0
    rw [r 1 (by omega)] at a1
    have z0 : row 0 = 0 := by exact_mod_cast a0
    have z1 : row 1 = 0 := by exact_mod_cast a1
    have := P.inv.l 1
    rw [z1, ← z0, P.inv.l] at this
    omega
  have sub : ∀ x ∈ (List.replicate N (0 : Int) :: kvs.map (·.1)), x ∈ allL N N := fun x hx => by
    have key : ∀ (xs : List Int), xs.length = N → (∀ y ∈ xs, y ∈ rng0 N) → xs ∈ allL N N := fun xs hl h => by
      have := allL_mem xs h
      rwa [hl] at this
    rcases List.mem_cons.mp hx with e | hx
    · subst e
      exact key _ (by simp) fun y hy => by
        rw [(List.mem_replicate.mp hy).2]
        exact List.mem_map.mpr ⟨0, List.mem_range.mpr (by omega), rfl⟩
    · obtain ⟨p, hp, e⟩ := List.mem_map.mp hx
      obtain ⟨row, ρ, P, e1, _⟩ := K.ok p hp
      subst e
      rw [e1]
      exact key _ rowL_len fun y hy => P.perm.mem_iff.mp hy
  have l := nd_lenA nd sub
  rw [allL_len, List.length_cons, List.length_map] at l
  have : N ^ N ≤ 8 ^ 8 := Nat.le_trans (Nat.pow_le_pow_left h8 N) (Nat.pow_le_pow_right (by decide) h8)
  have e : (8 : Nat) ^ 8 = 2 ^ 24 := by decide
  omega
theorem getK_mem {κ : Type} [DecidableEq κ] {kvs : List (κ × D)} {k : κ} {v : D} (h : getK kvs k = some v) : (k, v) ∈ kvs := by
  unfold getK at h
  cases e : kvs.find? (fun kv => decide (kv.1 = k)) with
  | none => rw [e] at h; cases h
  | some p =>
    rw [e] at h
    have h1 := List.find?_some e
    have h2 := List.mem_of_find?_eq_some e
    have h1 := of_decide_eq_true h1
    simp only [Option.map_some, Option.some.injEq] at h
    obtain ⟨a, b⟩ := p
    simp only at h1 h
    subst h1 h
    exact h2
theorem getK_set {κ : Type} [DecidableEq κ] {kvs : List (κ × D)} {k : κ} {v : D} : getK (setK kvs k v) k = some v := by
  unfold setK
  split
  · rename_i h
    obtain ⟨p, hp, e⟩ := List.any_eq_true.mp h
    unfold getK
    induction kvs with
    | nil => simp at hp
    | cons q kvs ih =>
      by_cases c : q.1 = k
      · simp [c]
      · have : p ∈ kvs := by
          rcases List.mem_cons.mp hp with r | r
          · subst r; exact absurd (of_decide_eq_true e) c
          · exact r
        have ih := ih (List.any_eq_true.mpr ⟨p, this, e⟩) this
        simp only [List.map_cons, if_neg c]
        rw [List.find?_cons_of_neg (by simp [c])]
        exact ih
  · rename_i h
    unfold getK
    rw [List.find?_append]
    have : kvs.find? (fun kv => decide (kv.1 = k)) = none := by
      rw [List.find?_eq_none]
      intro x hx q
      exact h (List.any_eq_true.mpr ⟨x, hx, q⟩)
    simp [this]
theorem KI.set {N : Nat} {kvs : List (List Int × D)} {row ρ : Nat → Nat} (K : KI N kvs) (P : Oo N row ρ) : KI N (setK kvs (rowL N row) (.int (cW N ρ : Nat))) := by
  unfold setK
  split
  · refine ⟨fun p hp => ?_, ?_⟩
    · obtain ⟨q, hq, rfl⟩ := List.mem_map.mp hp
      split
      · rename_i e
        exact ⟨row, ρ, P, e, rfl⟩
      · exact K.ok q hq
    · have e : (kvs.map fun kv => if kv.1 = rowL N row then (kv.1, D.int (cW N ρ : Nat)) else kv).map (·.1) = kvs.map (·.1) := by
        rw [List.map_map]
        refine List.map_congr_left fun q _ => ?_
        simp only [Function.comp]
        split <;> rfl
      rw [e]
      exact K.nd
  · rename_i h
    refine ⟨fun p hp => ?_, ?_⟩
    · rcases List.mem_append.mp hp with hp | hp
      · exact K.ok p hp
      · rw [List.mem_singleton] at hp
        subst hp
        exact ⟨row, ρ, P, rfl, rfl⟩
    · rw [List.map_append]
      refine List.nodup_append.mpr ⟨K.nd, by simp, fun a ha b hb q => ?_⟩
      simp only [List.map_cons, List.map_nil, List.mem_singleton] at hb
      subst hb q
      obtain ⟨p, hp, e⟩ := List.mem_map.mp ha
      exact h (List.any_eq_true.mpr ⟨p, hp, by simp [e]⟩)
theorem KI.get {N : Nat} {kvs : List (List Int × D)} {row ρ : Nat → Nat} {v : D} (K : KI N kvs) (P : Oo N row ρ) (h : getK kvs (rowL N row) = some v) : v = .int (cW N ρ : Nat) := by
  obtain ⟨row', ρ', P', e1, e2⟩ := K.ok _ (getK_mem h)
  simp only at e1 e2
  obtain ⟨_, e⟩ := P.un P' e1
  rw [e2, e]
end Fx
set_option Elab.async false
set_option linter.all false
namespace Fx
open PySem PySem.Spec PyProof.Rows L2
/-! ## groups of far kinds -/
def ch : Nat → Nat → Nat
  | _, 0 => 1
  | 0, _ + 1 => 0
  | n + 1, k + 1 => ch n k + ch n (k + 1)
theorem ch_0 {n : Nat} : ch n 0 = 1 := by cases n <;> rfl
theorem ch_gt : ∀ (n k : Nat), n < k → ch n k = 0
  | 0, 0, h => by omega
  | 0, k + 1, _ => rfl
  | n + 1, 0, h => by omega
  | n + 1, k + 1, h => by
    show ch n k + ch n (k + 1) = 0
    rw [ch_gt n k (by omega), ch_gt n (k + 1) (by omega)]
theorem ch_n : ∀ n, ch n n = 1
  | 0 => rfl
  | n + 1 => by
    show ch n n + ch n (n + 1) = 1
    rw [ch_n n, ch_gt n (n + 1) (by omega)]
theorem ch_mul : ∀ (n k : Nat), k ≤ n → ch n k * (n - k) = ch n (k + 1) * (k + 1)
  | 0, k, h => by
    have : k = 0 := by omega
    subst this
    rfl
  | n + 1, 0, _ => by
    have e := ch_mul n 0 (by omega)
    rw [ch_0] at e ⊢
    show 1 * (n + 1 - 0) = (ch n 0 + ch n (0 + 1)) * (0 + 1)
    rw [ch_0]
    omega
  | n + 1, k + 1, h => by
    show (ch n k + ch n (k + 1)) * (n + 1 - (k + 1)) = (ch n (k + 1) + ch n (k + 1 + 1)) * (k + 1 + 1)
    have e1 := ch_mul n k (by omega)
    have s : n + 1 - (k + 1) = n - k := by omega
    rw [s]
    by_cases c : k + 1 ≤ n
    · have e2 := ch_mul n (k + 1) c
      obtain ⟨d, hd⟩ : ∃ d, n - k = d + 1 := ⟨n - k - 1, by omega⟩
      have hd2 : n - (k + 1) = d := by omega
      rw [hd] at e1 ⊢
      rw [hd2] at e2
      have : ch n (k + 1) * (d + 1) = ch n (k + 1) * d + ch n (k + 1) := Nat.mul_succ _ _
      grind
    · have z : n - k = 0 := by omega
      rw [z, Nat.mul_zero, ch_gt n (k + 1) (by omega), ch_gt n (k + 1 + 1) (by omega)]
      simp
def mg (L : Nat) (a b : Nat → Nat) : Nat → Nat := fun j => if j < L + 2 then a j else b j
/-- what moves only the low, the high things -/
def Lo (L : Nat) (a : Nat → Nat) : Prop := (∀ j, j < L + 2 → a j < L + 2) ∧ ∀ j, L + 2 ≤ j → a j = j
def Hg (L : Nat) (b : Nat → Nat) : Prop := (∀ j, j < L + 2 → b j = j) ∧ ∀ j, L + 2 ≤ j → L + 2 ≤ b j
theorem lo_sw {L k : Nat} {a : Nat → Nat} (h : Lo L a) (hk : k ≤ L) : Lo L (El.sw a k) := by
  refine ⟨fun j hj => ?_, fun j hj => ?_⟩
  · unfold El.sw
    split
    · exact h.1 _ (by omega)
    · split
      · exact h.1 _ (by omega)
      · exact h.1 _ hj
  · rw [El.sw_o (by omega) (by omega)]
    exact h.2 j hj
theorem hg_sw {L k : Nat} {b : Nat → Nat} (h : Hg L b) (hk : L + 2 ≤ k) : Hg L (El.sw b k) := by
  refine ⟨fun j hj => ?_, fun j hj => ?_⟩
  · rw [El.sw_o (by omega) (by omega)]
    exact h.1 j hj
  · unfold El.sw
    split
    · exact h.2 _ (by omega)
    · split
      · exact h.2 _ (by omega)
      · exact h.2 _ hj
theorem tr_side {L k j : Nat} (hk : k ≤ L ∨ L + 2 ≤ k) : El.tr k j < L + 2 ↔ j < L + 2 := by
  unfold El.tr
  split
  · omega
  · split <;> omega
theorem mg_swl {L k : Nat} {a b : Nat → Nat} (hk : k ≤ L) : El.sw (mg L a b) k = mg L (El.sw a k) b := by
  funext j
  rw [El.sw_tr]
  unfold mg
  by_cases h : j < L + 2
  · rw [if_pos ((tr_side (.inl hk)).mpr h), if_pos h, El.sw_tr]
  · rw [if_neg (fun q => h ((tr_side (.inl hk)).mp q)), if_neg h, El.tr_o (by omega) (by omega)]
theorem mg_swr {L k : Nat} {a b : Nat → Nat} (hk : L + 2 ≤ k) : El.sw (mg L a b) k = mg L a (El.sw b k) := by
  funext j
  rw [El.sw_tr]
  unfold mg
  by_cases h : j < L + 2
  · rw [if_pos ((tr_side (.inr hk)).mpr h), if_pos h, El.tr_o (by omega) (by omega)]
  · rw [if_neg (fun q => h ((tr_side (.inr hk)).mp q)), if_neg h, El.sw_tr]
theorem ro_lo {L : Nat} : ∀ (ks : List Nat), (∀ k ∈ ks, k ≤ L) → Lo L (El.ro ks) := by
  refine El.sn_ind (fun _ => ⟨fun j h => h, fun j _ => rfl⟩) fun ks k ih h => ?_
  have ih := ih fun x hx => h x (List.mem_append_left _ hx)
  rw [El.ro_snoc]
  unfold El.ro1
  split
  · exact lo_sw ih (h k (by simp))
  · exact ih
theorem ro_hg {L : Nat} : ∀ (ks : List Nat), (∀ k ∈ ks, L + 2 ≤ k) → Hg L (El.ro ks) := by
  refine El.sn_ind (fun _ => ⟨fun j _ => rfl, fun j h => h⟩) fun ks k ih h => ?_
  have ih := ih fun x hx => h x (List.mem_append_left _ hx)
  rw [El.ro_snoc]
  unfold El.ro1
  split
  · exact hg_sw ih (h k (by simp))
  · exact ih
theorem ro_mg {L : Nat} {ks : List Nat} (hs : ∀ k ∈ ks, k ≤ L) : ∀ (ls : List Nat), (∀ k ∈ ls, L + 2 ≤ k) → El.ro (ks ++ ls) = mg L (El.ro ks) (El.ro ls) := by
  refine El.sn_ind (fun _ => ?_) fun ls k ih h => ?_
  · rw [List.append_nil]
    funext j
    unfold mg
    split
    · rfl
    · rw [(ro_lo ks hs).2 j (by omega)]; rfl
  · have ih := ih fun x hx => h x (List.mem_append_left _ hx)
    have hk := h k (by simp)
    rw [← List.append_assoc, El.ro_snoc, El.ro_snoc, ih]
    unfold El.ro1
    have e : ∀ j, L + 2 ≤ j → mg L (El.ro ks) (El.ro ls) j = El.ro ls j := fun j hj => by unfold mg; rw [if_neg (by omega)]
    rw [e k hk, e (k + 1) (by omega)]
    split
    · exact mg_swr hk
    · rfl
theorem oo_mg {N L : Nat} {a b ρa ρb : Nat → Nat} (A : Oo N a ρa) (B : Oo N b ρb) (la : Lo L a) (lb : Hg L b) (ra : Lo L ρa) (rb : Hg L ρb) : Oo N (mg L a b) (mg L ρa ρb) := by
  refine ⟨⟨fun i => ?_, fun i => ?_⟩, fun i hi => ?_, fun i hi => ?_⟩
  · unfold mg
    by_cases h : i < L + 2
    · rw [if_pos h, if_pos (la.1 i h)]; exact A.inv.l i
    · have := lb.2 i (by omega)
      rw [if_neg h, if_neg (by omega)]; exact B.inv.l i
  · unfold mg
    by_cases h : i < L + 2
    · rw [if_pos h, if_pos (ra.1 i h)]; exact A.inv.r i
    · have := rb.2 i (by omega)
      rw [if_neg h, if_neg (by omega)]; exact B.inv.r i
  · unfold mg
    split
    · exact A.lt i hi
    · exact B.lt i hi
  · unfold mg
    split
    · exact A.out i hi
    · exact B.out i hi
theorem asc_ext {xs ys : List Nat} (hx : xs.Pairwise (· < ·)) (hy : ys.Pairwise (· < ·)) (h : ∀ k, k ∈ xs ↔ k ∈ ys) : xs = ys := by
  have nx : xs.Nodup := hx.imp fun h => by omega
  have ny : ys.Nodup := hy.imp fun h => by omega
  exact List.Perm.eq_of_pairwise (le := fun a b => a < b) (fun a b _ _ h1 h2 => by omega) hx hy ((List.perm_ext_iff_of_nodup nx ny).mpr h)
theorem fk_lo {N L k : Nat} {ρ : Nat → Nat} (r : Lo L ρ) (h : k ∈ fk N ρ) : k ≤ L := by
  obtain ⟨h1, h2⟩ := fk_mem.mp h
  refine Classical.byContradiction fun q => ?_
  rw [r.2 (k + 1) (by omega)] at h2
  by_cases c : k = L + 1
  · have := r.1 k (by omega)
    omega
  · rw [r.2 k (by omega)] at h2
    omega
theorem fk_hg {N L k : Nat} {ρ : Nat → Nat} (r : Hg L ρ) (h : k ∈ fk N ρ) : L + 2 ≤ k := by
  obtain ⟨h1, h2⟩ := fk_mem.mp h
  refine Classical.byContradiction fun q => ?_
  rw [r.1 k (by omega)] at h2
  by_cases c : k + 1 = L + 2
  · have := r.2 (k + 1) (by omega)
    omega
  · rw [r.1 (k + 1) (by omega)] at h2
    omega
theorem fk_mg {N L : Nat} {ρa ρb : Nat → Nat} (ra : Lo L ρa) (rb : Hg L ρb) : fk N (mg L ρa ρb) = fk N ρa ++ fk N ρb := by
  refine asc_ext fk_asc (List.pairwise_append.mpr ⟨fk_asc, fk_asc, fun x hx y hy => ?_⟩) fun k => ?_
  · have := fk_lo ra hx
    have := fk_hg rb hy
    omega
  · rw [List.mem_append]
    constructor
    · intro h
      obtain ⟨h1, h2⟩ := fk_mem.mp h
      unfold mg at h2
      by_cases c : k + 1 < L + 2
      · rw [if_pos c, if_pos (by omega)] at h2
        exact .inl (fk_mem.mpr ⟨h1, h2⟩)
      · by_cases c2 : k = L + 1
        · rw [if_neg c, if_pos (by omega)] at h2
          have := ra.1 k (by omega)
          have := rb.2 (k + 1) (by omega)
          omega
        · rw [if_neg c, if_neg (by omega)] at h2
          exact .inr (fk_mem.mpr ⟨h1, h2⟩)
    · rintro (h | h)
      · have l := fk_lo ra h
        obtain ⟨h1, h2⟩ := fk_mem.mp h
        refine fk_mem.mpr ⟨h1, ?_⟩
        unfold mg
        rw [if_pos (by omega), if_pos (by omega)]
        exact h2
      · have l := fk_hg rb h
        obtain ⟨h1, h2⟩ := fk_mem.mp h
        refine fk_mem.mpr ⟨h1, ?_⟩
        unfold mg
        rw [if_neg (by omega), if_neg (by omega)]
        exact h2
/-- all that is told of the orders of two far groups -/
structure Far (N L : Nat) (a b ρa ρb : Nat → Nat) : Prop where
  A : Oo N a ρa
  B : Oo N b ρb
  la : Lo L a
  lb : Hg L b
  ra : Lo L ρa
  rb : Hg L ρb
theorem tr_lo {L k : Nat} {a : Nat → Nat} (h : Lo L a) (hk : k ≤ L) : Lo L (fun i => El.tr k (a i)) :=
  ⟨fun j hj => (tr_side (.inl hk)).mpr (h.1 j hj), fun j hj => by
    show El.tr k (a j) = j
    rw [h.2 j hj]
    exact El.tr_o (by omega) (by omega)⟩
theorem tr_hg {L k : Nat} {b : Nat → Nat} (h : Hg L b) (hk : L + 2 ≤ k) : Hg L (fun i => El.tr k (b i)) :=
  ⟨fun j hj => by
    show El.tr k (b j) = j
    rw [h.1 j hj]
    exact El.tr_o (by omega) (by omega), fun j hj => by
    have h1 := h.2 j hj
    have h2 := tr_side (L := L) (k := k) (j := b j) (.inr hk)
    show L + 2 ≤ El.tr k (b j)
    omega⟩
theorem Far.l {N L k : Nat} {a b ρa ρb : Nat → Nat} (F : Far N L a b ρa ρb) (h : k ∈ fk N ρa) : Far N L (fun i => El.tr k (a i)) b (El.sw ρa k) ρb :=
  ⟨F.A.wf (fk_mem.mp h).1, F.B, tr_lo F.la (fk_lo F.ra h), F.lb, lo_sw F.ra (fk_lo F.ra h), F.rb⟩
theorem Far.r {N L k : Nat} {a b ρa ρb : Nat → Nat} (F : Far N L a b ρa ρb) (h : k ∈ fk N ρb) : Far N L a (fun i => El.tr k (b i)) ρa (El.sw ρb k) :=
  ⟨F.A, F.B.wf (fk_mem.mp h).1, F.la, tr_hg F.lb (fk_hg F.rb h), F.ra, hg_sw F.rb (fk_hg F.rb h)⟩
theorem far_np {N L : Nat} : ∀ (n : Nat) {a b ρa ρb : Nat → Nat}, Far N L a b ρa ρb → np N ρa + np N ρb ≤ n → np N (mg L ρa ρb) = np N ρa + np N ρb := by
  intro n
  induction n with
  | zero =>
    intro a b ρa ρb F hn
    have e := fk_mg (N := N) F.ra F.rb
    rw [np_0 (N := N) (ρ := ρa) (by omega), np_0 (N := N) (ρ := ρb) (by omega)] at e
    rw [np_nil (oo_mg F.A F.B F.la F.lb F.ra F.rb) e]
    omega
  | succ n ih =>
    intro a b ρa ρb F hn
    have e := fk_mg (N := N) F.ra F.rb
    cases ea : fk N ρa with
    | cons k ks =>
      have hk : k ∈ fk N ρa := by rw [ea]; exact List.mem_cons_self
      have h1 := np_sw hk
      have h2 := np_sw (N := N) (ρ := mg L ρa ρb) (k := k) (by rw [e]; exact List.mem_append_left _ hk)
      rw [mg_swl (fk_lo F.ra hk), ih (F.l hk) (by omega)] at h2
      omega
    | nil =>
      have za := np_nil F.A ea
      cases eb : fk N ρb with
      | cons k ks =>
        have hk : k ∈ fk N ρb := by rw [eb]; exact List.mem_cons_self
        have h1 := np_sw hk
        have h2 := np_sw (N := N) (ρ := mg L ρa ρb) (k := k) (by rw [e]; exact List.mem_append_right _ hk)
        rw [mg_swr (fk_hg F.rb hk), ih (F.r hk) (by omega)] at h2
        omega
      | nil =>
        rw [ea, eb] at e
        rw [np_nil (oo_mg F.A F.B F.la F.lb F.ra F.rb) e, za, np_nil F.B eb]
theorem far_lW {N L : Nat} : ∀ (n : Nat) {a b ρa ρb : Nat → Nat}, Far N L a b ρa ρb → np N ρa + np N ρb ≤ n → lW N (mg L ρa ρb) = lW N ρa ++ lW N ρb := by
  intro n
  induction n with
  | zero =>
    intro a b ρa ρb F hn
    have e := fk_mg (N := N) F.ra F.rb
    have z1 := np_0 (N := N) (ρ := ρa) (by omega)
    have z2 := np_0 (N := N) (ρ := ρb) (by omega)
    rw [z1, z2] at e
    rw [lW_eq, e, lW_eq (ρ := ρa), z1, lW_eq (ρ := ρb), z2]
    rfl
  | succ n ih =>
    intro a b ρa ρb F hn
    have e := fk_mg (N := N) F.ra F.rb
    cases ea : fk N ρa with
    | cons k ks =>
      have hk : k ∈ fk N ρa := by rw [ea]; exact List.mem_cons_self
      have h1 := np_sw hk
      rw [ea] at e
      rw [lW_eq, e, lW_eq (ρ := ρa), ea]
      show k :: lW N (El.sw (mg L ρa ρb) k) = k :: lW N (El.sw ρa k) ++ lW N ρb
      rw [mg_swl (fk_lo F.ra hk), ih (F.l hk) (by omega)]
      rfl
    | nil =>
      have la : lW N ρa = [] := by rw [lW_eq, ea]
      rw [la, List.nil_append]
      rw [ea, List.nil_append] at e
      cases eb : fk N ρb with
      | cons k ks =>
        have hk : k ∈ fk N ρb := by rw [eb]; exact List.mem_cons_self
        have h1 := np_sw hk
        rw [lW_eq, e, lW_eq (ρ := ρb), eb]
        show k :: lW N (El.sw (mg L ρa ρb) k) = k :: lW N (El.sw ρb k)
        rw [mg_swr (fk_hg F.rb hk), ih (F.r hk) (by omega), la]
        rfl
      | nil =>
        rw [lW_eq, e, lW_eq (ρ := ρb), eb]
theorem sum_mul (c : Nat) : ∀ (xs : List Nat), (xs.map fun x => c * x).sum = c * xs.sum
  | [] => rfl
  | x :: xs => by simp only [List.map_cons, List.sum_cons, sum_mul c xs, Nat.mul_add]
theorem far_cW {N L : Nat} : ∀ (n : Nat) {a b ρa ρb : Nat → Nat}, Far N L a b ρa ρb → np N ρa + np N ρb ≤ n → cW N (mg L ρa ρb) = cW N ρa * cW N ρb * ch (np N ρa + np N ρb) (np N ρa) := by
  intro n
  induction n with
  | zero =>
    intro a b ρa ρb F hn
    have e := fk_mg (N := N) F.ra F.rb
    have z1 := np_0 (N := N) (ρ := ρa) (by omega)
    have z2 := np_0 (N := N) (ρ := ρb) (by omega)
    rw [z1, z2] at e
    have n1 : np N ρa = 0 := by omega
    have n2 : np N ρb = 0 := by omega
    rw [List.nil_append] at e
    rw [cW_eq, if_pos e, cW_eq (ρ := ρa), if_pos z1, cW_eq (ρ := ρb), if_pos z2, n1, n2]
    rfl
  | succ n ih =>
    intro a b ρa ρb F hn
    have e := fk_mg (N := N) F.ra F.rb
    have sa : ((fk N ρa).map fun k => cW N (El.sw (mg L ρa ρb) k)).sum = if fk N ρa = [] then 0 else cW N ρa * (cW N ρb * ch (np N ρa - 1 + np N ρb) (np N ρa - 1)) := by
      have m : ((fk N ρa).map fun k => cW N (El.sw (mg L ρa ρb) k)) = ((fk N ρa).map fun k => cW N (El.sw ρa k)).map fun x => (cW N ρb * ch (np N ρa - 1 + np N ρb) (np N ρa - 1)) * x := by
        rw [List.map_map]
        refine List.map_congr_left fun k hk => ?_
        have h1 := np_sw hk
        have e2 : np N (El.sw ρa k) = np N ρa - 1 := by omega
        rw [mg_swl (fk_lo F.ra hk), ih (F.l hk) (by omega), e2]
        show _ = (cW N ρb * ch (np N ρa - 1 + np N ρb) (np N ρa - 1)) * cW N (El.sw ρa k)
        rw [Nat.mul_assoc, Nat.mul_comm]
      rw [m, sum_mul]
      split
      · rename_i z; rw [z]; rfl
      · rename_i z; rw [cW_eq (ρ := ρa), if_neg z, Nat.mul_comm]
    have sb : ((fk N ρb).map fun k => cW N (El.sw (mg L ρa ρb) k)).sum = if fk N ρb = [] then 0 else cW N ρb * (cW N ρa * ch (np N ρa + (np N ρb - 1)) (np N ρa)) := by
      have m : ((fk N ρb).map fun k => cW N (El.sw (mg L ρa ρb) k)) = ((fk N ρb).map fun k => cW N (El.sw ρb k)).map fun x => (cW N ρa * ch (np N ρa + (np N ρb - 1)) (np N ρa)) * x := by
        rw [List.map_map]
        refine List.map_congr_left fun k hk => ?_
        have h1 := np_sw hk
        have e2 : np N (El.sw ρb k) = np N ρb - 1 := by omega
        rw [mg_swr (fk_hg F.rb hk), ih (F.r hk) (by omega), e2]
        show _ = (cW N ρa * ch (np N ρa + (np N ρb - 1)) (np N ρa)) * cW N (El.sw ρb k)
        grind
      rw [m, sum_mul]
      split
      · rename_i z; rw [z]; rfl
      · rename_i z; rw [cW_eq (ρ := ρb), if_neg z, Nat.mul_comm]
    by_cases za : fk N ρa = []
    · have n1 := np_nil F.A za
      have c1 : cW N ρa = 1 := by rw [cW_eq, if_pos za]
      by_cases zb : fk N ρb = []
      · rw [za, zb, List.nil_append] at e
        rw [cW_eq, if_pos e, c1, cW_eq (ρ := ρb), if_pos zb, n1, ch_0]
      · rw [cW_eq, e, if_neg (by rw [za, List.nil_append]; exact zb), List.map_append, List.sum_append, sa, sb, if_pos za, if_neg zb, c1, n1, ch_0, ch_0]
        omega
    · have p1 : 0 < np N ρa := by
        cases ea : fk N ρa with
        | nil => exact absurd ea za
        | cons k ks => have := np_sw (N := N) (ρ := ρa) (k := k) (by rw [ea]; exact List.mem_cons_self); omega
      have nn : fk N ρa ++ fk N ρb ≠ [] := fun q => za (List.append_eq_nil_iff.mp q).1
      by_cases zb : fk N ρb = []
      · have n2 := np_nil F.B zb
        have c2 : cW N ρb = 1 := by rw [cW_eq, if_pos zb]
        rw [cW_eq, e, if_neg nn, List.map_append, List.sum_append, sa, sb, if_neg za, if_pos zb, c2, n2, Nat.add_zero, Nat.add_zero, Nat.add_zero, ch_n, ch_n]
        simp
      · have p2 : 0 < np N ρb := by
          cases eb : fk N ρb with
          | nil => exact absurd eb zb
          | cons k ks => have := np_sw (N := N) (ρ := ρb) (k := k) (by rw [eb]; exact List.mem_cons_self); omega
        rw [cW_eq, e, if_neg nn, List.map_append, List.sum_append, sa, sb, if_neg za, if_neg zb]
        obtain ⟨p, hp⟩ : ∃ p, np N ρa = p + 1 := ⟨np N ρa - 1, by omega⟩
        obtain ⟨q, hq⟩ : ∃ q, np N ρb = q + 1 := ⟨np N ρb - 1, by omega⟩
        rw [hp, hq]
        have e1 : p + 1 - 1 + (q + 1) = p + q + 1 := by omega
        have e2 : p + 1 + (q + 1 - 1) = p + q + 1 := by omega
        have e3 : p + 1 + (q + 1) = p + q + 1 + 1 := by omega
        rw [e1, e2, e3, Nat.add_sub_cancel]
        show _ = cW N ρa * cW N ρb * (ch (p + q + 1) p + ch (p + q + 1) (p + 1))
        grind
theorem cW_le {N : Nat} (h8 : N ≤ 8) : ∀ (n : Nat) {ρ : Nat → Nat}, np N ρ ≤ n → cW N ρ ≤ 8 ^ n := by
  intro n
  induction n with
  | zero =>
    intro ρ hn
    rw [cW_eq, if_pos (np_0 (by omega))]
    exact Nat.le_refl _
  | succ n ih =>
    intro ρ hn
    rw [cW_eq]
    split
    · exact Nat.pow_pos (by decide)
    · have key : ∀ (xs : List Nat) (f : Nat → Nat), (∀ x ∈ xs, f x ≤ 8 ^ n) → (xs.map f).sum ≤ xs.length * 8 ^ n := by
        intro xs f
        induction xs with
        | nil => intro _; simp
        | cons x xs ihx =>
          intro h
          have h1 := h x List.mem_cons_self
          have h2 := ihx fun y hy => h y (List.mem_cons_of_mem _ hy)
          simp only [List.map_cons, List.sum_cons, List.length_cons, Nat.succ_mul]
          omega
      have h1 := key (fk N ρ) (fun k => cW N (El.sw ρ k)) fun k hk => ih (by have := np_sw hk; omega)
      have h2 : (fk N ρ).length * 8 ^ n ≤ 8 * 8 ^ n := Nat.mul_le_mul_right _ (Nat.le_trans fk_len h8)
      rw [Nat.pow_succ, Nat.mul_comm]
      omega
theorem rowL_mg {N L : Nat} {a b : Nat → Nat} (hL : L + 2 ≤ N) : rowL N (mg L a b) = (rowL N a).take (L + 2) ++ (rowL N b).drop (L + 2) := by
  apply List.ext_getElem?
  intro i
  by_cases hi : i < N
  · have l0 : (rowL N (mg L a b))[i]? = some ((mg L a b i : Nat) : Int) := by simp [rowL, hi]
    rw [l0]
    unfold mg
    by_cases h : i < L + 2
    · rw [if_pos h, List.getElem?_append_left (by rw [List.length_take, rowL_len]; omega), List.getElem?_take_of_lt h]
      simp [rowL, hi]
    · rw [if_neg h, List.getElem?_append_right (by rw [List.length_take, rowL_len]; omega), List.length_take, rowL_len, Nat.min_eq_left hL, List.getElem?_drop, show L + 2 + (i - (L + 2)) = i by omega]
      simp [rowL, hi]
  · rw [List.getElem?_eq_none (by rw [rowL_len]; omega), List.getElem?_eq_none (by rw [List.length_append, List.length_take, List.length_drop, rowL_len, rowL_len]; omega)]
end Fx
set_option Elab.async false
set_option linter.all false
set_option maxRecDepth 100000
namespace K26
open PySem PySem.Spec PyProof.Rows L2 Fx
abbrev i_is_between : Nat := 0
abbrev i_divisor_of : Nat := 1
abbrev i_reduced : Nat := 2
abbrev i_plus : Nat := 3
abbrev i_times : Nat := 4
abbrev i_divided : Nat := 5
abbrev i_greatest : Nat := 6
abbrev i_is_fraction : Nat := 7
abbrev i_is_step : Nat := 8
abbrev i_is_net : Nat := 9
abbrev i_check_net : Nat := 10
abbrev i_kinds_of : Nat := 11
abbrev i_exchanged : Nat := 12
abbrev i_order_with_left : Nat := 13
abbrev i_order : Nat := 14
abbrev i_check_order : Nat := 15
abbrev i_count_pairs : Nat := 16
abbrev i_pairs_of : Nat := 17
abbrev i_first_kinds : Nat := 18
abbrev i_without_first : Nat := 19
abbrev i_least_row : Nat := 20
abbrev i_first_row : Nat := 21
abbrev i_count_for : Nat := 22
abbrev i_count_rows : Nat := 23
abbrev i_turned_three : Nat := 24
abbrev i_is_last : Nat := 25
abbrev i_to_end : Nat := 26
abbrev i_to_front : Nat := 27
abbrev i_least_steps : Nat := 28
abbrev i_steps_as : Nat := 29
abbrev i_found_form : Nat := 30
abbrev i_form : Nat := 31
abbrev i_do_same : Nat := 32
abbrev i_same : Nat := 33
abbrev i_freedom : Nat := 34
abbrev i_joined : Nat := 35
abbrev i_law_town : Nat := 36
abbrev i_law_draw : Nat := 37
abbrev i_law_pick : Nat := 38
abbrev i_law_reduced : Nat := 39
abbrev i_law_size : Nat := 40
abbrev i_law_binomial : Nat := 41
abbrev i_law : Nat := 42
def t_is_between : Fd := ⟨"is_between", "is_between", ["value", "low", "high"], ["value", "low", "high"], false, (.cons (.ret (.bop true (.cons (.isi "int" (.v 0)) (.cons (.no (.isi "bool" (.v 0))) (.cons (.chain .le .le (.v 1) (.v 0) (.v 2)) .nil))))) .nil)⟩
def t_divisor_of : Fd := ⟨"divisor_of", "divisor_of", ["one", "other"], ["one", "other"], false, (.cons (.par [0, 1] (.cons (.bi .abs false (.cons (.v 0) .nil)) (.cons (.bi .abs false (.cons (.v 1) .nil)) .nil))) (.cons (.whil (.cmp .ne (.v 1) (.ci 0)) (.cons (.par [0, 1] (.cons (.v 1) (.cons (.op .mod false (.v 0) (.v 1)) .nil))) .nil)) (.cons (.ret (.v 0)) .nil)))⟩
def t_reduced : Fd := ⟨"reduced", "reduced", ["top", "bottom"], ["top", "bottom", "by"], false, (.cons (.asg (.name 2) (.call i_divisor_of (.cons (.v 0) (.cons (.v 1) .nil)))) (.cons (.ret (.tup (.cons (.op .fdiv false (.v 0) (.v 2)) (.cons (.op .fdiv false (.v 1) (.v 2)) .nil)))) .nil))⟩
def t_plus : Fd := ⟨"plus", "plus", ["one", "other"], ["one", "other"], false, (.cons (.ret (.call i_reduced (.cons (.op .add false (.op .mul false (.ix (.v 0) (.ci 0)) (.ix (.v 1) (.ci 1))) (.op .mul false (.ix (.v 1) (.ci 0)) (.ix (.v 0) (.ci 1)))) (.cons (.op .mul false (.ix (.v 0) (.ci 1)) (.ix (.v 1) (.ci 1))) .nil)))) .nil)⟩
def t_times : Fd := ⟨"times", "times", ["one", "other"], ["one", "other"], false, (.cons (.ret (.call i_reduced (.cons (.op .mul false (.ix (.v 0) (.ci 0)) (.ix (.v 1) (.ci 0))) (.cons (.op .mul false (.ix (.v 0) (.ci 1)) (.ix (.v 1) (.ci 1))) .nil)))) .nil)⟩
def t_divided : Fd := ⟨"divided", "divided", ["one", "other"], ["one", "other"], false, (.cons (.ret (.call i_reduced (.cons (.op .mul false (.ix (.v 0) (.ci 0)) (.ix (.v 1) (.ci 1))) (.cons (.op .mul false (.ix (.v 0) (.ci 1)) (.ix (.v 1) (.ci 0))) .nil)))) .nil)⟩
def t_greatest : Fd := ⟨"greatest", "greatest", [], [], false, (.cons (.ret (.bi .int false (.cons (.op .add false (.cs "1") (.op .mul false (.cs "0") (.ci 600))) .nil))) .nil)⟩
def t_is_fraction : Fd := ⟨"is_fraction", "is_fraction", ["value"], ["value"], false, (.cons (.iff (.bop false (.cons (.no (.isi "tuple" (.v 0))) (.cons (.cmp .ne (.bi .len false (.cons (.v 0) .nil)) (.ci 2)) (.cons (.no (.call i_is_between (.cons (.ix (.v 0) (.ci 0)) (.cons (.neg (.call i_greatest .nil)) (.cons (.call i_greatest .nil) .nil))))) .nil)))) (.cons (.ret (.cb false)) .nil) .nil) (.cons (.ret (.bop true (.cons (.call i_is_between (.cons (.ix (.v 0) (.ci 1)) (.cons (.ci 1) (.cons (.call i_greatest .nil) .nil)))) (.cons (.cmp .eq (.call i_divisor_of (.cons (.ix (.v 0) (.ci 0)) (.cons (.ix (.v 0) (.ci 1)) .nil))) (.ci 1)) .nil)))) .nil))⟩
def t_is_step : Fd := ⟨"is_step", "is_step", ["rails", "value"], ["rails", "value"], false, (.cons (.iff (.bop false (.cons (.no (.isi "tuple" (.v 1))) (.cons (.cmp .ne (.bi .len false (.cons (.v 1) .nil)) (.ci 2)) (.cons (.no (.call i_is_between (.cons (.ix (.v 1) (.ci 0)) (.cons (.ci 0) (.cons (.op .sub false (.op .mul false (.ci 2) (.v 0)) (.ci 2)) .nil))))) .nil)))) (.cons (.ret (.cb false)) .nil) .nil) (.cons (.ret (.bop true (.cons (.call i_is_fraction (.cons (.ix (.v 1) (.ci 1)) .nil)) (.cons (.cmp .gt (.ix (.ix (.v 1) (.ci 1)) (.ci 0)) (.ci 0)) .nil)))) .nil))⟩
def t_is_net : Fd := ⟨"is_net", "is_net", ["value"], ["value", "step"], false, (.cons (.iff (.bop false (.cons (.no (.isi "tuple" (.v 0))) (.cons (.cmp .ne (.bi .len false (.cons (.v 0) .nil)) (.ci 2)) (.cons (.no (.call i_is_between (.cons (.ix (.v 0) (.ci 0)) (.cons (.ci 2) (.cons (.ci 4) .nil))))) .nil)))) (.cons (.ret (.cb false)) .nil) .nil) (.cons (.iff (.bop false (.cons (.no (.isi "tuple" (.ix (.v 0) (.ci 1)))) (.cons (.cmp .gt (.bi .len false (.cons (.ix (.v 0) (.ci 1)) .nil)) (.ci 14)) .nil))) (.cons (.ret (.cb false)) .nil) .nil) (.cons (.ret (.bi .all false (.cons (.comp false [1] (.name 1) (.seq (.ix (.v 0) (.ci 1))) .none (.call i_is_step (.cons (.ix (.v 0) (.ci 0)) (.cons (.v 1) .nil)))) .nil))) .nil)))⟩
def t_check_net : Fd := ⟨"check_net", "check_net", ["net"], ["net"], false, (.cons (.iff (.no (.call i_is_net (.cons (.v 0) .nil))) (.cons (.rais 1) .nil) .nil) .nil)⟩
def t_kinds_of : Fd := ⟨"kinds_of", "kinds_of", ["net"], ["net", "kind", "size"], false, (.cons (.ret (.bi .tuple false (.cons (.comp false [1, 2] (.tup (.cons (.name 1) (.cons (.name 2) .nil))) (.seq (.ix (.v 0) (.ci 1))) .none (.v 1)) .nil))) .nil)⟩
def t_exchanged : Fd := ⟨"exchanged", "exchanged", ["row", "kind"], ["row", "kind"], false, (.cons (.ret (.op .add false (.op .add false (.sl (.v 0) .none (.some (.v 1))) (.tup (.cons (.ix (.v 0) (.op .add false (.v 1) (.ci 1))) (.cons (.ix (.v 0) (.v 1)) .nil)))) (.sl (.v 0) (.some (.op .add false (.v 1) (.ci 2))) .none))) .nil)⟩
def t_order_with_left : Fd := ⟨"order_with_left", "order_with_left", ["rails", "kinds"], ["rails", "kinds", "row", "found", "number", "kind"], false, (.cons (.par [2, 3] (.cons (.rgT (.cons (.op .mul false (.ci 2) (.v 0)) .nil)) (.cons (.lst true .nil) .nil))) (.cons (.forr (.tup (.cons (.name 4) (.cons (.name 5) .nil))) (.enum (.v 1)) (.cons (.iff (.cmp .lt (.ix (.v 2) (.v 5)) (.ix (.v 2) (.op .add false (.v 5) (.ci 1)))) (.cons (.asg (.name 2) (.call i_exchanged (.cons (.v 2) (.cons (.v 5) .nil)))) .nil) (.cons (.expr (.mt .append (.v 3) (.cons (.v 4) .nil))) .nil)) .nil)) (.cons (.ret (.tup (.cons (.v 2) (.cons (.v 3) .nil)))) .nil)))⟩
def t_order : Fd := ⟨"order", "order", ["net"], ["net"], false, (.cons (.expr (.call i_check_net (.cons (.v 0) .nil))) (.cons (.ret (.ix (.call i_order_with_left (.cons (.ix (.v 0) (.ci 0)) (.cons (.call i_kinds_of (.cons (.v 0) .nil)) .nil))) (.ci 0))) .nil))⟩
def t_check_order : Fd := ⟨"check_order", "check_order", ["order_given"], ["order_given", "one"], false, (.cons (.iff (.bop false (.cons (.no (.isi "tuple" (.v 0))) (.cons (.cmp .nin (.bi .len false (.cons (.v 0) .nil)) (.tup (.cons (.ci 4) (.cons (.ci 6) (.cons (.ci 8) .nil))))) .nil))) (.cons (.rais 2) .nil) .nil) (.cons (.iff (.no (.bi .all false (.cons (.comp false [1] (.name 1) (.seq (.v 0)) .none (.call i_is_between (.cons (.v 1) (.cons (.ci 0) (.cons (.op .sub false (.bi .len false (.cons (.v 0) .nil)) (.ci 1)) .nil))))) .nil))) (.cons (.rais 2) .nil) .nil) (.cons (.iff (.cmp .ne (.lset (.v 0)) (.bi .len false (.cons (.v 0) .nil))) (.cons (.rais 2) .nil) .nil) .nil)))⟩
def t_count_pairs : Fd := ⟨"count_pairs", "count_pairs", ["row"], ["row", "place", "one", "two"], false, (.cons (.ret (.bi .sum false (.cons (.comp false [1, 2] (.tup (.cons (.name 1) (.cons (.name 2) .nil))) (.enum (.v 0)) .none (.bi .len false (.cons (.comp false [3] (.name 3) (.seq (.sl (.v 0) (.some (.v 1)) .none)) (.some (.cmp .lt (.v 3) (.v 2))) (.v 3)) .nil))) .nil))) .nil)⟩
def t_pairs_of : Fd := ⟨"pairs_of", "pairs_of", ["order_given"], ["order_given"], false, (.cons (.expr (.call i_check_order (.cons (.v 0) .nil))) (.cons (.ret (.call i_count_pairs (.cons (.v 0) .nil))) .nil))⟩
def t_first_kinds : Fd := ⟨"first_kinds", "first_kinds", ["row"], ["row", "places", "thing", "kind"], false, (.cons (.asg (.name 1) (.comp false [2] (.name 2) (.range 1 (.cons (.bi .len false (.cons (.v 0) .nil)) .nil)) .none (.tix (.v 0) (.v 2)))) (.cons (.ret (.comp false [3] (.name 3) (.range 1 (.cons (.op .sub false (.bi .len false (.cons (.v 0) .nil)) (.ci 1)) .nil)) (.some (.cmp .gt (.ix (.v 1) (.v 3)) (.ix (.v 1) (.op .add false (.v 3) (.ci 1))))) (.v 3))) .nil))⟩
def t_without_first : Fd := ⟨"without_first", "without_first", ["row", "kind"], ["row", "kind", "names", "thing"], false, (.cons (.asg (.name 2) (.dkd (.cons (.v 1) (.op .add false (.v 1) (.ci 1)) (.cons (.op .add false (.v 1) (.ci 1)) (.v 1) .nil)))) (.cons (.ret (.bi .tuple false (.cons (.comp false [3] (.name 3) (.seq (.v 0)) .none (.dget (.v 2) (.v 3) (.v 3))) .nil))) .nil))⟩
def t_least_row : Fd := ⟨"least_row", "least_row", ["row"], ["row", "found"], false, (.cons (.asg (.name 1) (.lst true .nil)) (.cons (.whil (.cmp .ne (.call i_first_kinds (.cons (.v 0) .nil)) (.lst false .nil)) (.cons (.expr (.mt .append (.v 1) (.cons (.ix (.call i_first_kinds (.cons (.v 0) .nil)) (.ci 0)) .nil))) (.cons (.asg (.name 0) (.call i_without_first (.cons (.v 0) (.cons (.ix (.v 1) (.neg (.ci 1))) .nil)))) .nil))) (.cons (.ret (.bi .tuple false (.cons (.v 1) .nil))) .nil)))⟩
def t_first_row : Fd := ⟨"first_row", "first_row", ["order_given"], ["order_given"], false, (.cons (.expr (.call i_check_order (.cons (.v 0) .nil))) (.cons (.iff (.cmp .gt (.call i_count_pairs (.cons (.v 0) .nil)) (.ci 14)) (.cons (.rais 4) .nil) .nil) (.cons (.ret (.call i_least_row (.cons (.v 0) .nil))) .nil)))⟩
def t_count_for : Fd := ⟨"count_for", "count_for", ["row", "known"], ["row", "known", "some", "kind"], false, (.cons (.iff (.din true (.v 0) (.v 1)) (.cons (.asg (.name 2) (.call i_first_kinds (.cons (.v 0) .nil))) (.cons (.dset (.v 1) (.v 0) (.ite (.cmp .ne (.v 2) (.lst false .nil)) (.bi .sum false (.cons (.comp false [3] (.name 3) (.seq (.v 2)) .none (.call i_count_for (.cons (.call i_without_first (.cons (.v 0) (.cons (.v 3) .nil))) (.cons (.v 1) .nil)))) .nil)) (.ci 1))) .nil)) .nil) (.cons (.ret (.dix (.v 1) (.v 0))) .nil))⟩
def t_count_rows : Fd := ⟨"count_rows", "count_rows", ["order_given"], ["order_given"], false, (.cons (.expr (.call i_check_order (.cons (.v 0) .nil))) (.cons (.ret (.call i_count_for (.cons (.v 0) (.cons (.dt0) .nil)))) .nil))⟩
def t_turned_three : Fd := ⟨"turned_three", "turned_three", ["steps"], ["steps", "first", "a", "second", "b", "third", "c", "part", "whole"], false, (.cons (.asg (.tup (.cons (.tup (.cons (.name 1) (.cons (.name 2) .nil))) (.cons (.tup (.cons (.name 3) (.cons (.name 4) .nil))) (.cons (.tup (.cons (.name 5) (.cons (.name 6) .nil))) .nil)))) (.v 0)) (.cons (.asg (.name 7) (.call i_times (.cons (.v 4) (.cons (.v 6) .nil)))) (.cons (.asg (.name 8) (.call i_plus (.cons (.call i_plus (.cons (.v 2) (.cons (.v 6) .nil))) (.cons (.call i_times (.cons (.v 2) (.cons (.v 7) .nil))) .nil)))) (.cons (.ret (.tup (.cons (.tup (.cons (.v 3) (.cons (.call i_divided (.cons (.v 7) (.cons (.v 8) .nil))) .nil))) (.cons (.tup (.cons (.v 1) (.cons (.v 8) .nil))) (.cons (.tup (.cons (.v 3) (.cons (.call i_divided (.cons (.call i_times (.cons (.v 2) (.cons (.v 4) .nil))) (.cons (.v 8) .nil))) .nil))) .nil))))) .nil))))⟩
def t_is_last : Fd := ⟨"is_last", "is_last", ["rails", "steps", "kind"], ["rails", "steps", "kind", "row", "one", "size"], false, (.cons (.asg (.name 3) (.ix (.call i_order_with_left (.cons (.v 0) (.cons (.comp false [4, 5] (.tup (.cons (.name 4) (.cons (.name 5) .nil))) (.seq (.v 1)) .none (.v 4)) .nil))) (.ci 0))) (.cons (.ret (.cmp .gt (.ix (.v 3) (.v 2)) (.ix (.v 3) (.op .add false (.v 2) (.ci 1))))) .nil))⟩
def t_to_end : Fd := ⟨"to_end", "to_end", ["steps", "kind"], ["steps", "kind", "last", "rest"], false, (.cons (.asg (.name 2) (.ix (.ix (.v 0) (.neg (.ci 1))) (.ci 0))) (.cons (.iff (.cmp .eq (.v 2) (.v 1)) (.cons (.ret (.v 0)) .nil) .nil) (.cons (.iff (.cmp .gt (.bi .abs false (.cons (.op .sub false (.v 2) (.v 1)) .nil)) (.ci 1)) (.cons (.asg (.name 3) (.call i_to_end (.cons (.sl (.v 0) .none (.some (.neg (.ci 1)))) (.cons (.v 1) .nil)))) (.cons (.ret (.op .add false (.sl (.v 3) .none (.some (.neg (.ci 1)))) (.tup (.cons (.ix (.v 0) (.neg (.ci 1))) (.cons (.ix (.v 3) (.neg (.ci 1))) .nil))))) .nil)) .nil) (.cons (.asg (.name 3) (.call i_to_end (.cons (.sl (.v 0) .none (.some (.neg (.ci 1)))) (.cons (.v 1) .nil)))) (.cons (.asg (.name 3) (.op .add false (.op .add false (.call i_to_end (.cons (.sl (.v 3) .none (.some (.neg (.ci 1)))) (.cons (.v 2) .nil))) (.sl (.v 3) (.some (.neg (.ci 1))) .none)) (.sl (.v 0) (.some (.neg (.ci 1))) .none))) (.cons (.ret (.op .add false (.sl (.v 3) .none (.some (.neg (.ci 3)))) (.call i_turned_three (.cons (.sl (.v 3) (.some (.neg (.ci 3))) .none) .nil)))) .nil))))))⟩
def t_to_front : Fd := ⟨"to_front", "to_front", ["steps", "kind"], ["steps", "kind"], false, (.cons (.ret (.rev (.call i_to_end (.cons (.rev (.v 0)) (.cons (.v 1) .nil))))) .nil)⟩
def t_least_steps : Fd := ⟨"least_steps", "least_steps", ["rails", "steps"], ["rails", "steps", "found", "kind", "size"], false, (.cons (.asg (.name 2) (.tup .nil)) (.cons (.forr (.tup (.cons (.name 3) (.cons (.name 4) .nil))) (.seq (.v 1)) (.cons (.iff (.call i_is_last (.cons (.v 0) (.cons (.v 2) (.cons (.v 3) .nil)))) (.cons (.asg (.name 2) (.call i_to_end (.cons (.v 2) (.cons (.v 3) .nil)))) (.cons (.asg (.name 2) (.op .add false (.sl (.v 2) .none (.some (.neg (.ci 1)))) (.tup (.cons (.tup (.cons (.v 3) (.cons (.call i_plus (.cons (.ix (.ix (.v 2) (.neg (.ci 1))) (.ci 1)) (.cons (.v 4) .nil))) .nil))) .nil)))) .nil)) (.cons (.asg (.name 2) (.op .add false (.v 2) (.tup (.cons (.tup (.cons (.v 3) (.cons (.v 4) .nil))) .nil)))) .nil)) .nil)) (.cons (.ret (.v 2)) .nil)))⟩
def t_steps_as : Fd := ⟨"steps_as", "steps_as", ["steps", "kinds"], ["steps", "kinds", "found", "kind"], false, (.cons (.asg (.name 2) (.tup .nil)) (.cons (.forr (.name 3) (.seq (.v 1)) (.cons (.asg (.name 0) (.call i_to_front (.cons (.v 0) (.cons (.v 3) .nil)))) (.cons (.par [2, 0] (.cons (.op .add false (.v 2) (.sl (.v 0) .none (.some (.ci 1)))) (.cons (.sl (.v 0) (.some (.ci 1)) .none) .nil))) .nil))) (.cons (.ret (.v 2)) .nil)))⟩
def t_found_form : Fd := ⟨"found_form", "found_form", ["net"], ["net", "kinds"], false, (.cons (.asg (.name 1) (.call i_least_row (.cons (.ix (.call i_order_with_left (.cons (.ix (.v 0) (.ci 0)) (.cons (.call i_kinds_of (.cons (.v 0) .nil)) .nil))) (.ci 0)) .nil))) (.cons (.ret (.tup (.cons (.ix (.v 0) (.ci 0)) (.cons (.call i_steps_as (.cons (.call i_least_steps (.cons (.ix (.v 0) (.ci 0)) (.cons (.ix (.v 0) (.ci 1)) .nil))) (.cons (.v 1) .nil))) .nil)))) .nil))⟩
def t_form : Fd := ⟨"form", "form", ["net"], ["net"], false, (.cons (.expr (.call i_check_net (.cons (.v 0) .nil))) (.cons (.ret (.call i_found_form (.cons (.v 0) .nil))) .nil))⟩
def t_do_same : Fd := ⟨"do_same", "do_same", ["net", "other"], ["net", "other"], false, (.cons (.ret (.bop true (.cons (.cmp .eq (.ix (.v 0) (.ci 0)) (.ix (.v 1) (.ci 0))) (.cons (.cmp .eq (.call i_found_form (.cons (.v 0) .nil)) (.call i_found_form (.cons (.v 1) .nil))) .nil)))) .nil)⟩
def t_same : Fd := ⟨"same", "same", ["net", "other"], ["net", "other"], false, (.cons (.expr (.call i_check_net (.cons (.v 0) .nil))) (.cons (.expr (.call i_check_net (.cons (.v 1) .nil))) (.cons (.ret (.call i_do_same (.cons (.v 0) (.cons (.v 1) .nil)))) .nil)))⟩
def t_freedom : Fd := ⟨"freedom", "freedom", ["net"], ["net"], false, (.cons (.expr (.call i_check_net (.cons (.v 0) .nil))) (.cons (.ret (.bi .len false (.cons (.ix (.call i_order_with_left (.cons (.ix (.v 0) (.ci 0)) (.cons (.call i_kinds_of (.cons (.v 0) .nil)) .nil))) (.ci 1)) .nil))) .nil))⟩
def t_joined : Fd := ⟨"joined", "joined", ["net", "other"], ["net", "other"], false, (.cons (.expr (.call i_check_net (.cons (.v 0) .nil))) (.cons (.expr (.call i_check_net (.cons (.v 1) .nil))) (.cons (.iff (.cmp .ne (.ix (.v 0) (.ci 0)) (.ix (.v 1) (.ci 0))) (.cons (.rais 3) .nil) .nil) (.cons (.iff (.cmp .gt (.op .add false (.bi .len false (.cons (.ix (.v 0) (.ci 1)) .nil)) (.bi .len false (.cons (.ix (.v 1) (.ci 1)) .nil))) (.ci 14)) (.cons (.rais 4) .nil) .nil) (.cons (.ret (.tup (.cons (.ix (.v 0) (.ci 0)) (.cons (.op .add false (.ix (.v 0) (.ci 1)) (.ix (.v 1) (.ci 1))) .nil)))) .nil)))))⟩
def t_law_town : Fd := ⟨"_law_town", "_law_town", ["_law_script"], ["_law_script"], true, (.cons (.ret (.op .add true (.lst false (.cons (.ci 0) .nil)) (.bi .list false (.cons (.v 0) .nil)))) .nil)⟩
def t_law_draw : Fd := ⟨"_law_draw", "_law_draw", ["_law_script", "_law_town_here", "_law_limit"], ["_law_script", "_law_town_here", "_law_limit", "_law_at", "_law_left", "_law_number"], false, (.cons (.setix (.v 1) (.ci 0) (.op .add false (.ix (.v 1) (.ci 0)) (.ci 1))) (.cons (.iff (.cmp .eq (.v 0) (.lst false .nil)) (.cons (.ret (.op .mod false (.op .fdiv false (.op .mul false (.op .mul false (.ix (.v 1) (.ci 0)) (.ix (.v 1) (.ci 0))) (.ci 7)) (.ci 3)) (.v 2))) .nil) .nil) (.cons (.asg (.name 3) (.op .mod false (.ix (.v 1) (.ci 0)) (.bi .len false (.cons (.v 0) .nil)))) (.cons (.asg (.name 4) (.ix (.v 1) (.op .add false (.ci 1) (.v 3)))) (.cons (.iff (.bop true (.cons (.cmp .ge (.ix (.v 0) (.v 3)) (.op .pow false (.ci 10) (.ci 18))) (.cons (.cmp .gt (.v 4) (.ci 0)) .nil))) (.cons (.setix (.v 1) (.op .add false (.ci 1) (.v 3)) (.op .fdiv false (.v 4) (.v 2))) (.cons (.ret (.op .mod false (.v 4) (.v 2))) .nil)) .nil) (.cons (.asg (.name 5) (.op .mod false (.op .add false (.ix (.v 0) (.v 3)) (.op .mul false (.ci 104729) (.ix (.v 1) (.ci 0)))) (.ci 4294967291))) (.cons (.asg (.name 5) (.op .mod false (.op .pow false (.v 5) (.ci 5)) (.ci 4294967279))) (.cons (.ret (.op .mod false (.op .fdiv false (.op .mod false (.op .add false (.op .mul false (.op .fdiv false (.v 5) (.ci 64)) (.ci 69621)) (.v 5)) (.ci 4294967231)) (.ci 8)) (.v 2))) .nil))))))))⟩
def t_law_pick : Fd := ⟨"_law_pick", "_law_pick", ["_law_script", "_law_town_here", "_law_choices"], ["_law_script", "_law_town_here", "_law_choices"], false, (.cons (.ret (.ix (.v 2) (.call i_law_draw (.cons (.v 0) (.cons (.v 1) (.cons (.bi .len false (.cons (.v 2) .nil)) .nil)))))) .nil)⟩
def t_law_reduced : Fd := ⟨"_law_reduced", "_law_reduced", ["_law_top", "_law_bottom"], ["_law_top", "_law_bottom", "_law_one", "_law_two"], false, (.cons (.par [2, 3] (.cons (.bi .abs false (.cons (.v 0) .nil)) (.cons (.v 1) .nil))) (.cons (.whil (.cmp .ne (.v 3) (.ci 0)) (.cons (.par [2, 3] (.cons (.v 3) (.cons (.op .mod false (.v 2) (.v 3)) .nil))) .nil)) (.cons (.ret (.tup (.cons (.op .fdiv false (.v 0) (.v 2)) (.cons (.op .fdiv false (.v 1) (.v 2)) .nil)))) .nil)))⟩
def t_law_size : Fd := ⟨"_law_size", "_law_size", ["_law_script", "_law_town_here"], ["_law_script", "_law_town_here", "_law_far"], false, (.cons (.asg (.name 2) (.call i_law_pick (.cons (.v 0) (.cons (.v 1) (.cons (.lst false (.cons (.ci 3) (.cons (.ci 9) (.cons (.ci 9) (.cons (.ci 99) .nil))))) .nil))))) (.cons (.ret (.call i_law_reduced (.cons (.op .add false (.ci 1) (.call i_law_draw (.cons (.v 0) (.cons (.v 1) (.cons (.v 2) .nil))))) (.cons (.op .add false (.ci 1) (.call i_law_draw (.cons (.v 0) (.cons (.v 1) (.cons (.v 2) .nil))))) .nil)))) .nil))⟩
def t_law_binomial : Fd := ⟨"_law_binomial", "_law_binomial", ["_law_many", "_law_some"], ["_law_many", "_law_some", "_law_found", "_law_k"], false, (.cons (.asg (.name 2) (.ci 1)) (.cons (.forr (.name 3) (.range 1 (.cons (.v 1) .nil)) (.cons (.asg (.name 2) (.op .fdiv false (.op .mul false (.v 2) (.op .sub false (.v 0) (.v 3))) (.op .add false (.v 3) (.ci 1)))) .nil)) (.cons (.ret (.v 2)) .nil)))⟩
def t_law : Fd := ⟨"law", "law", ["_law_script"], ["_law_script", "_law_town_here", "_law_rails", "_law_low", "_law_first", "_law_second", "_law_steps", "_law_turn", "_law_step", "_law_whole", "_law_one", "_law_two", "_law_a", "_law_b", "_law_mixes", "_law_known", "_law_low_steps", "_law_high_steps"], false, (.cons (.asg (.name 1) (.call i_law_town (.cons (.v 0) .nil))) (.cons (.asg (.name 2) (.op .add false (.ci 3) (.call i_law_draw (.cons (.v 0) (.cons (.v 1) (.cons (.ci 2) .nil)))))) (.cons (.asg (.name 3) (.call i_law_draw (.cons (.v 0) (.cons (.v 1) (.cons (.op .sub false (.op .mul false (.ci 2) (.v 2)) (.ci 4)) .nil))))) (.cons (.par [4, 5, 6] (.cons (.lst true .nil) (.cons (.lst true .nil) (.cons (.lst true .nil) .nil)))) (.cons (.forr (.name 7) (.range 1 (.cons (.call i_law_draw (.cons (.v 0) (.cons (.v 1) (.cons (.ci 10) .nil)))) .nil)) (.cons (.iff (.cmp .eq (.call i_law_draw (.cons (.v 0) (.cons (.v 1) (.cons (.ci 2) .nil)))) (.ci 0)) (.cons (.asg (.name 8) (.tup (.cons (.call i_law_draw (.cons (.v 0) (.cons (.v 1) (.cons (.op .add false (.v 3) (.ci 1)) .nil)))) (.cons (.call i_law_size (.cons (.v 0) (.cons (.v 1) .nil))) .nil)))) (.cons (.expr (.mt .append (.v 4) (.cons (.v 8) .nil))) .nil)) (.cons (.asg (.name 8) (.tup (.cons (.op .add false (.op .add false (.v 3) (.ci 2)) (.call i_law_draw (.cons (.v 0) (.cons (.v 1) (.cons (.op .sub false (.op .sub false (.op .mul false (.ci 2) (.v 2)) (.ci 3)) (.v 3)) .nil))))) (.cons (.call i_law_size (.cons (.v 0) (.cons (.v 1) .nil))) .nil)))) (.cons (.expr (.mt .append (.v 5) (.cons (.v 8) .nil))) .nil))) (.cons (.expr (.mt .append (.v 6) (.cons (.v 8) .nil))) .nil))) (.cons (.par [9, 10, 11] (.cons (.tup (.cons (.v 2) (.cons (.bi .tuple false (.cons (.v 6) .nil)) .nil))) (.cons (.tup (.cons (.v 2) (.cons (.bi .tuple false (.cons (.v 4) .nil)) .nil))) (.cons (.tup (.cons (.v 2) (.cons (.bi .tuple false (.cons (.v 5) .nil)) .nil))) .nil)))) (.cons (.iff (.bop false (.cons (.cmp .isn (.call i_same (.cons (.v 9) (.cons (.call i_joined (.cons (.v 10) (.cons (.v 11) .nil))) .nil))) (.cb true)) (.cons (.cmp .isn (.call i_same (.cons (.v 9) (.cons (.call i_joined (.cons (.v 11) (.cons (.v 10) .nil))) .nil))) (.cb true)) .nil))) (.cons (.ret (.cb false)) .nil) .nil) (.cons (.par [12, 13] (.cons (.call i_order (.cons (.v 10) .nil)) (.cons (.call i_order (.cons (.v 11) .nil)) .nil))) (.cons (.iff (.bop false (.cons (.cmp .ne (.call i_order (.cons (.v 9) .nil)) (.op .add false (.sl (.v 12) .none (.some (.op .add false (.v 3) (.ci 2)))) (.sl (.v 13) (.some (.op .add false (.v 3) (.ci 2))) .none))) (.cons (.cmp .ne (.call i_pairs_of (.cons (.call i_order (.cons (.v 9) .nil)) .nil)) (.op .add false (.call i_pairs_of (.cons (.v 12) .nil)) (.call i_pairs_of (.cons (.v 13) .nil)))) .nil))) (.cons (.ret (.cb false)) .nil) .nil) (.cons (.iff (.cmp .ne (.call i_freedom (.cons (.v 9) .nil)) (.op .add false (.call i_freedom (.cons (.v 10) .nil)) (.call i_freedom (.cons (.v 11) .nil)))) (.cons (.ret (.cb false)) .nil) .nil) (.cons (.asg (.name 14) (.call i_law_binomial (.cons (.call i_pairs_of (.cons (.call i_order (.cons (.v 9) .nil)) .nil)) (.cons (.call i_pairs_of (.cons (.v 12) .nil)) .nil)))) (.cons (.iff (.cmp .ne (.call i_count_rows (.cons (.call i_order (.cons (.v 9) .nil)) .nil)) (.op .mul false (.op .mul false (.call i_count_rows (.cons (.v 12) .nil)) (.call i_count_rows (.cons (.v 13) .nil))) (.v 14))) (.cons (.ret (.cb false)) .nil) .nil) (.cons (.asg (.name 15) (.call i_form (.cons (.v 9) .nil))) (.cons (.asg (.name 16) (.bi .tuple false (.cons (.comp false [8] (.name 8) (.seq (.ix (.v 15) (.ci 1))) (.some (.cmp .le (.ix (.v 8) (.ci 0)) (.v 3))) (.v 8)) .nil))) (.cons (.asg (.name 17) (.bi .tuple false (.cons (.comp false [8] (.name 8) (.seq (.ix (.v 15) (.ci 1))) (.some (.cmp .gt (.ix (.v 8) (.ci 0)) (.v 3))) (.v 8)) .nil))) (.cons (.iff (.bop false (.cons (.cmp .ne (.tup (.cons (.v 2) (.cons (.v 16) .nil))) (.call i_form (.cons (.v 10) .nil))) (.cons (.cmp .ne (.tup (.cons (.v 2) (.cons (.v 17) .nil))) (.call i_form (.cons (.v 11) .nil))) .nil))) (.cons (.ret (.cb false)) .nil) .nil) (.cons (.ret (.cmp .eq (.srt false (.call i_first_row (.cons (.call i_order (.cons (.v 9) .nil)) .nil))) (.srt false (.op .add false (.call i_first_row (.cons (.v 12) .nil)) (.call i_first_row (.cons (.v 13) .nil)))))) .nil)))))))))))))))))⟩
def topS (i : Nat) : Stmt := PySem.Challenge.pw_railnets_k26_far_groups.main.body.getD i (.Pass ⟨0, 0, 0, 0⟩)
def tab : List (Fd × Stmt) := [(t_is_between, topS 7), (t_divisor_of, topS 8), (t_reduced, topS 9), (t_plus, topS 10), (t_times, topS 11), (t_divided, topS 12), (t_greatest, topS 13), (t_is_fraction, topS 14), (t_is_step, topS 16), (t_is_net, topS 17), (t_check_net, topS 18), (t_kinds_of, topS 19), (t_exchanged, topS 21), (t_order_with_left, topS 22), (t_order, topS 23), (t_check_order, topS 24), (t_count_pairs, topS 25), (t_pairs_of, topS 26), (t_first_kinds, topS 27), (t_without_first, topS 28), (t_least_row, topS 29), (t_first_row, topS 30), (t_count_for, topS 31), (t_count_rows, topS 32), (t_turned_three, topS 34), (t_is_last, topS 36), (t_to_end, topS 37), (t_to_front, topS 38), (t_least_steps, topS 39), (t_steps_as, topS 40), (t_found_form, topS 41), (t_form, topS 42), (t_do_same, topS 43), (t_same, topS 44), (t_freedom, topS 46), (t_joined, topS 48), (t_law_town, topS 50), (t_law_draw, topS 51), (t_law_pick, topS 52), (t_law_reduced, topS 53), (t_law_size, topS 54), (t_law_binomial, topS 55), (t_law, topS 56)]
def defs : List Fd := [t_is_between, t_divisor_of, t_reduced, t_plus, t_times, t_divided, t_greatest, t_is_fraction, t_is_step, t_is_net, t_check_net, t_kinds_of, t_exchanged, t_order_with_left, t_order, t_check_order, t_count_pairs, t_pairs_of, t_first_kinds, t_without_first, t_least_row, t_first_row, t_count_for, t_count_rows, t_turned_three, t_is_last, t_to_end, t_to_front, t_least_steps, t_steps_as, t_found_form, t_form, t_do_same, t_same, t_freedom, t_joined, t_law_town, t_law_draw, t_law_pick, t_law_reduced, t_law_size, t_law_binomial, t_law]
@[simp] theorem att_is_between : defs[0]? = some t_is_between := rfl
@[simp] theorem att_divisor_of : defs[1]? = some t_divisor_of := rfl
@[simp] theorem att_reduced : defs[2]? = some t_reduced := rfl
@[simp] theorem att_plus : defs[3]? = some t_plus := rfl
@[simp] theorem att_times : defs[4]? = some t_times := rfl
@[simp] theorem att_divided : defs[5]? = some t_divided := rfl
@[simp] theorem att_greatest : defs[6]? = some t_greatest := rfl
@[simp] theorem att_is_fraction : defs[7]? = some t_is_fraction := rfl
@[simp] theorem att_is_step : defs[8]? = some t_is_step := rfl
@[simp] theorem att_is_net : defs[9]? = some t_is_net := rfl
@[simp] theorem att_check_net : defs[10]? = some t_check_net := rfl
@[simp] theorem att_kinds_of : defs[11]? = some t_kinds_of := rfl
@[simp] theorem att_exchanged : defs[12]? = some t_exchanged := rfl
@[simp] theorem att_order_with_left : defs[13]? = some t_order_with_left := rfl
@[simp] theorem att_order : defs[14]? = some t_order := rfl
@[simp] theorem att_check_order : defs[15]? = some t_check_order := rfl
@[simp] theorem att_count_pairs : defs[16]? = some t_count_pairs := rfl
@[simp] theorem att_pairs_of : defs[17]? = some t_pairs_of := rfl
@[simp] theorem att_first_kinds : defs[18]? = some t_first_kinds := rfl
@[simp] theorem att_without_first : defs[19]? = some t_without_first := rfl
@[simp] theorem att_least_row : defs[20]? = some t_least_row := rfl
@[simp] theorem att_first_row : defs[21]? = some t_first_row := rfl
@[simp] theorem att_count_for : defs[22]? = some t_count_for := rfl
@[simp] theorem att_count_rows : defs[23]? = some t_count_rows := rfl
@[simp] theorem att_turned_three : defs[24]? = some t_turned_three := rfl
@[simp] theorem att_is_last : defs[25]? = some t_is_last := rfl
@[simp] theorem att_to_end : defs[26]? = some t_to_end := rfl
@[simp] theorem att_to_front : defs[27]? = some t_to_front := rfl
@[simp] theorem att_least_steps : defs[28]? = some t_least_steps := rfl
@[simp] theorem att_steps_as : defs[29]? = some t_steps_as := rfl
@[simp] theorem att_found_form : defs[30]? = some t_found_form := rfl
@[simp] theorem att_form : defs[31]? = some t_form := rfl
@[simp] theorem att_do_same : defs[32]? = some t_do_same := rfl
@[simp] theorem att_same : defs[33]? = some t_same := rfl
@[simp] theorem att_freedom : defs[34]? = some t_freedom := rfl
@[simp] theorem att_joined : defs[35]? = some t_joined := rfl
@[simp] theorem att_law_town : defs[36]? = some t_law_town := rfl
@[simp] theorem att_law_draw : defs[37]? = some t_law_draw := rfl
@[simp] theorem att_law_pick : defs[38]? = some t_law_pick := rfl
@[simp] theorem att_law_reduced : defs[39]? = some t_law_reduced := rfl
@[simp] theorem att_law_size : defs[40]? = some t_law_size := rfl
@[simp] theorem att_law_binomial : defs[41]? = some t_law_binomial := rfl
@[simp] theorem att_law : defs[42]? = some t_law := rfl
def cls : List Str := ["RailError", "InvalidNet", "InvalidOrder", "UnequalRails", "TooMany"]
abbrev trB : Bool := false
theorem tab_ck : (tab.all fun x => ckFd trB (tab.map (·.1.name)) cls x.1 x.2) = true := by decide +kernel
-- N is_between:0:3 divisor_of:1:2 reduced:2:2 plus:3:2 times:4:2 divided:5:2 greatest:6:0 is_fraction:7:1 is_step:8:2 is_net:9:1 check_net:10:1 kinds_of:11:1 exchanged:12:2 order_with_left:13:2 order:14:1 check_order:15:1 count_pairs:16:1 pairs_of:17:1 first_kinds:18:1 without_first:19:2 least_row:20:1 first_row:21:1 count_for:22:2 count_rows:23:1 turned_three:24:1 is_last:25:3 to_end:26:2 to_front:27:2 least_steps:28:2 steps_as:29:2 found_form:30:1 form:31:1 do_same:32:2 same:33:2 freedom:34:1 joined:35:2 _law_town:36:1 _law_draw:37:3 _law_pick:38:3 _law_reduced:39:2 _law_size:40:2 _law_binomial:41:2 law:42:1
end K26
set_option Elab.async false
set_option linter.all false
set_option maxRecDepth 100000
set_option exponentiation.threshold 10000
namespace K26
open PySem PySem.Spec PyProof.Rows L2 Fx
section
variable {h : Hh}
theorem c_between (k : Nat) (v lo hi : Int) : run false defs (k + 1) i_is_between [.int v, .int lo, .int hi] h = .ok (.bl (decide (lo ≤ v ∧ v ≤ hi)), h) := by
  refine run_rt rfl rfl (x := .bl (decide (lo ≤ v ∧ v ≤ hi))) (h1 := h) ?_ (fin_self rfl)
  by_cases c : lo ≤ v <;> simp [t_is_between, c]
theorem c_divisor (k : Nat) (t : Int) (b : Nat) : run false defs (k + 1) i_divisor_of [.int t, .int b] h = .ok (.int (Nat.gcd t.natAbs b : Nat), h) := by
  refine run_rt rfl rfl (x := .int (Nat.gcd t.natAbs b : Nat)) (h1 := h) ?_ (fin_self rfl)
  obtain ⟨n, e⟩ := loop_gcd (h := h) (c := evT (run false defs k) (.cmp .ne (.v 1) (.ci 0))) (body := evSs (run false defs k) (.cons (.par [0, 1] (.cons (.v 1) (.cons (.op .mod false (.v 0) (.v 1)) .nil))) .nil)) (fun a b => [some (.int a), some (.int b)])
    (fun a => by simp) (fun a b hb => by simp [Int.ne_of_gt hb]) (fun a b hb => by simp [setAll, op_mod_int hb]) b t.natAbs
  have ab : (if t < 0 then -t else t) = (t.natAbs : Int) := by omega
  have ab2 : (if (b : Int) < 0 then -(b : Int) else b) = (b : Int) := by omega
  have e2 := whileD_of e (by simp)
  simp [t_divisor_of, ab, ab2, setAll, e2]
theorem c_reduced (k : Nat) (t : Int) (b : Nat) (hb : 0 < b) (hs : b < 2 ^ 8999) : run false defs (k + 2) i_reduced [.int t, .int b] h = .ok (fr (mkRat t b), h) := by
  refine run_rt rfl rfl (x := fr (mkRat t b)) (h1 := h) ?_ (fin_self rfl)
  obtain ⟨g1, g2⟩ := gcd_small (t := t) hb hs (by decide)
  simp [t_reduced, c_divisor, tgD, op_fdiv_int ⟨g1, Nat.lt_trans g2 (by decide)⟩, fr_mk hb]
theorem c_plus (k : Nat) {a b : Rat} (ha : Bd 4000 a) (hb : Bd 4000 b) : run false defs (k + 3) i_plus [fr a, fr b] h = .ok (fr (a + b), h) := by
  refine run_rt rfl rfl (x := fr (a + b)) (h1 := h) ?_ (fin_self rfl)
  have e := c_reduced (h := h) k (a.num * b.den + b.num * a.den) (a.den * b.den) (Nat.mul_pos a.den_pos b.den_pos) (pow_le_8999 (mul_bits ha.2 hb.2))
  rw [← Rat.add_def', Int.natCast_mul] at e
  simp [t_plus, op_mul_int (ha.nd hb (by decide)), op_mul_int (hb.nd ha (by decide)), op_mul_int (ha.dd hb (by decide)), e]
theorem c_times (k : Nat) {a b : Rat} (ha : Bd 4000 a) (hb : Bd 4000 b) : run false defs (k + 3) i_times [fr a, fr b] h = .ok (fr (a * b), h) := by
  refine run_rt rfl rfl (x := fr (a * b)) (h1 := h) ?_ (fin_self rfl)
  have e := c_reduced (h := h) k (a.num * b.num) (a.den * b.den) (Nat.mul_pos a.den_pos b.den_pos) (pow_le_8999 (mul_bits ha.2 hb.2))
  rw [← Rat.mul_def', Int.natCast_mul] at e
  simp [t_times, op_mul_int (ha.nn hb (by decide)), op_mul_int (ha.dd hb (by decide)), e]
theorem c_greatest_of {Z Z1 : Str} {B : Int} (e1 : ∀ {m : Bool} {h : Hh}, opD .mul m (.str (Str.ofString "0")) (.int 600) h = .ok (.str Z, h)) (e2 : ∀ {m : Bool} {h : Hh}, opD .add m (.str (Str.ofString "1")) (.str Z) h = .ok (.str Z1, h))
    (e3 : ∀ {m : Bool} {h : Hh}, biD .int m [.str Z1] h = .ok (.int B, h)) (k : Nat) : run false defs (k + 1) i_greatest [] h = .ok (.int B, h) := by
  refine run_rt rfl rfl (x := .int B) (h1 := h) ?_ (fin_self rfl)
  simp [t_greatest, e1, e2, e3]
theorem c_greatest (k : Nat) : run false defs (k + 1) i_greatest [] h = .ok (.int big, h) := c_greatest_of zeros_ok zeros_add zeros_int k
theorem b_frac1 {B : Int} {C : Cal} {q : Rat} (e4 : ∀ h, C i_greatest [] h = .ok (.int B, h)) (e1 : C i_is_between [D.int q.num, D.int (-B), D.int B] h = Res.ok (D.bl true, h))
 (e2 : C i_is_between [D.int ↑q.den, D.int 1, D.int B] h = Res.ok (D.bl true, h))
 (e3 : C i_divisor_of [D.int q.num, D.int ↑q.den] h = Res.ok (D.int ↑1, h)) : evS C (.iff (.bop false (.cons (.no (.isi "tuple" (.v 0))) (.cons (.cmp .ne (.bi .len false (.cons (.v 0) .nil)) (.ci 2)) (.cons (.no (.call i_is_between (.cons (.ix (.v 0) (.ci 0)) (.cons (.neg (.call i_greatest .nil)) (.cons (.call i_greatest .nil) .nil))))) .nil)))) (.cons (.ret (.cb false)) .nil) .nil) [some (fr q)] h = .ok (.nx [some (fr q)] h) := by
  simp [e1, e4]
theorem b_frac2 {B : Int} {C : Cal} {q : Rat} (e4 : ∀ h, C i_greatest [] h = .ok (.int B, h)) (e1 : C i_is_between [D.int q.num, D.int (-B), D.int B] h = Res.ok (D.bl true, h))
 (e2 : C i_is_between [D.int ↑q.den, D.int 1, D.int B] h = Res.ok (D.bl true, h))
 (e3 : C i_divisor_of [D.int q.num, D.int ↑q.den] h = Res.ok (D.int ↑1, h)) : evS C (.ret (.bop true (.cons (.call i_is_between (.cons (.ix (.v 0) (.ci 1)) (.cons (.ci 1) (.cons (.call i_greatest .nil) .nil)))) (.cons (.cmp .eq (.call i_divisor_of (.cons (.ix (.v 0) (.ci 0)) (.cons (.ix (.v 0) (.ci 1)) .nil))) (.ci 1)) .nil)))) [some (fr q)] h = .ok (.rt (.bl true) h) := by
  simp [e2, e3, e4]
theorem c_fraction_of {B : Int} (k : Nat) (hg2 : ∀ h, run false defs (k + 1) i_greatest [] h = .ok (.int B, h)) {q : Rat} (b1 : -B ≤ q.num) (b2 : q.num ≤ B) (b3 : 1 ≤ (q.den : Int)) (b4 : (q.den : Int) ≤ B) :
    run false defs (k + 2) i_is_fraction [fr q] h = .ok (.bl true, h) := by
  have e1 := c_between (h := h) k q.num (-B) B
  have e2 := c_between (h := h) k q.den 1 B
  have e3 := c_divisor (h := h) k q.num q.den
  rw [decide_eq_true ⟨b1, b2⟩] at e1
  rw [decide_eq_true ⟨b3, b4⟩] at e2
  rw [fr_cop] at e3
  exact run_rt (d := t_is_fraction) rfl rfl (x := .bl true) (h1 := h) (ss_nx (b_frac1 hg2 e1 e2 e3) (ss_rt (b_frac2 hg2 e1 e2 e3))) (fin_self rfl)
theorem c_fraction (k : Nat) {q : Rat} (hq : Bd 1900 q) : run false defs (k + 2) i_is_fraction [fr q] h = .ok (.bl true, h) :=
  have ⟨b1, b2, b3, b4⟩ := hq.big_ok
  c_fraction_of k (fun h => c_greatest k) b1 b2 b3 b4
end
section
variable {h : Hh} {C : Cal}
theorem b_step {R : Nat} {s : Nat × Rat} (hR : R ≤ 4) (hp : 0 < s.2.num) (e1 : C i_is_between [.int s.1, .int 0, .int (2 * R - 2)] h = .ok (.bl true, h)) (e2 : C i_is_fraction [fr s.2] h = .ok (.bl true, h)) :
    evSs C t_is_step.body [some (.int R), some (stD s)] h = .ok (.rt (.bl true) h) := by
  have m := op_mul_sm (m := false) (h := h) (i := 2) (j := R) (by decide) (by omega)
  simp only [t_is_step]
  exact ss_nx (r1 := [some (.int R), some (stD s)]) (h1 := h) (by simp [stD, e1, m]) (ss_rt (by simp [stD, e2, hp]))
theorem c_step (k : Nat) {R bb : Nat} {s : Nat × Rat} (hR : R ≤ 4) (hs : StOk R s bb) (hb : bb ≤ 1900 := by omega) : run false defs (k + 3) i_is_step [.int R, stD s] h = .ok (.bl true, h) := by
  have hk := hs.kind
  have e1 := c_between (h := h) (k + 1) s.1 0 (2 * R - 2)
  rw [decide_eq_true ⟨by omega, by omega⟩] at e1
  exact run_rt rfl rfl (b_step hR hs.pos e1 (c_fraction k (hs.bd.mono (by omega)))) (fin_self rfl)
theorem b_net {R : Nat} {ss : List (Nat × Rat)} (hl : ss.length ≤ 14) (e1 : C i_is_between [.int R, .int 2, .int 4] h = .ok (.bl true, h)) (e2 : ∀ s ∈ ss, C i_is_step [.int R, stD s] h = .ok (.bl true, h)) :
    evSs C t_is_net.body [some (netD R ss), none] h = .ok (.rt (.bl true) h) := by
  simp only [t_is_net]
  have l2 : ss.length ≤ sizeLine := Nat.le_trans hl sz14
  refine ss_nx (r1 := [some (netD R ss), none]) (h1 := h) (by simp [netD, e1]) (ss_nx (r1 := [some (netD R ss), none]) (h1 := h) (by simp [netD]; omega) (ss_rt ?_))
  simp [netD, wip, l2]
  rw [comp_map (fun _ => .bl true) (fun x => [some (netD R ss), some x])]
  · simp only [nox_ok, bind_ok, mkL_f, all_true]
    simp
  · intro x hx
    obtain ⟨s, hs, rfl⟩ := List.mem_map.mp hx
    simp [netD, tgD, e2 s hs]
theorem c_net (k : Nat) {R bb : Nat} {ss : List (Nat × Rat)} (H : NetOk R ss bb) (hb : bb ≤ 1900 := by omega) : run false defs (k + 4) i_is_net [netD R ss] h = .ok (.bl true, h) := by
  have h1 := H.lo
  have h2 := H.hi
  have e1 := c_between (h := h) (k + 2) R 2 4
  rw [decide_eq_true ⟨by omega, by omega⟩] at e1
  exact run_rt rfl rfl (b_net H.len e1 fun s hs => c_step k H.hi (H.st s hs)) (fin_self rfl)
theorem b_check {x : D} (e1 : C i_is_net [x] h = .ok (.bl true, h)) : evSs C t_check_net.body [some x] h = .ok (.nx [some x] h) := by
  simp only [t_check_net]
  simp [e1]
theorem c_check (k : Nat) {R bb : Nat} {ss : List (Nat × Rat)} (H : NetOk R ss bb) (hb : bb ≤ 1900 := by omega) : run false defs (k + 5) i_check_net [netD R ss] h = .ok (.non, h) :=
  run_nx rfl rfl (b_check (c_net k H)) (fin_self rfl)
end
section
variable {h : Hh} {C : Cal}
theorem set_vec {n j : Nat} {v : Nat → Rat} {q : Rat} (hj : j < n) : setixD (.ref h.length) (.int j) (fr q) (h ++ [.lst (vec n v)]) = .ok (h ++ [.lst (vec n (put v j q))]) := by
  rw [setix_ref get_last (by simpa using hj), set_last, vec_set]
end
section
variable {h : Hh} {C : Cal}
end
section
variable {h : Hh} {C : Cal}
theorem b_draw {ns ts : List Int} {c : Nat} {L : Int} {rest : Hh} (T : Tn ns c ts) (hc : c < 30000) (h0 : 0 < L) (h1 : L < 4294967296) :
    ∃ (v : Nat) (ts' : List Int), (v : Int) < L ∧ Tn ns (c + 1) ts' ∧ evSs C t_law_draw.body [some (.scr (I ns)), some (.ref 0), some (.int L), none, none, none] (.lst (I ts) :: rest) = .ok (.rt (.int v) (.lst (I ts') :: rest)) := by
  obtain ⟨t, et, ht⟩ := T.at0
  have hl := T.len
  have a1 := ix_town (rest := rest) et
  have s1 := set_town (rest := rest) (j := 0) (t := (t : Int) + 1) (ts := ts) (by omega)
  have et1 : (ts.set 0 ((t : Int) + 1))[0]? = some ((t : Int) + 1) := by rw [List.getElem?_set_self (by omega)]
  have a2 := ix_town (rest := rest) et1
  have T1 : Tn ns (c + 1) (ts.set 0 ((t : Int) + 1)) := ⟨by rw [List.length_set]; exact hl, t + 1, by rw [et1]; rfl, by omega⟩
  generalize hts : ts.set 0 ((t : Int) + 1) = ts1 at *
  rw [Int.natCast_zero] at a1 a2 s1
  have md : ∀ i : Int, ∃ v : Nat, (v : Int) < L ∧ i % L = v := fun i => ⟨(i % L).toNat, by have := Int.emod_lt_of_pos i h0; have := Int.emod_nonneg i (Int.ne_of_gt h0); omega, by have := Int.emod_nonneg i (Int.ne_of_gt h0); omega⟩
  have st1 : evS C (.setix (.v 1) (.ci 0) (.op .add false (.ix (.v 1) (.ci 0)) (.ci 1))) [some (.scr (I ns)), some (.ref 0), some (.int L), none, none, none] (.lst (I ts) :: rest) = .ok (.nx [some (.scr (I ns)), some (.ref 0), some (.int L), none, none, none] (.lst (I ts1) :: rest)) := by
    simp [a1, s1]
  by_cases hn : ns = []
  · obtain ⟨v, hv, ev⟩ := md (((t : Int) + 1) * ((t : Int) + 1) * 7 / 3)
    refine ⟨v, ts1, hv, T1, ?_⟩
    have hsq : ((t : Int) + 1) * ((t : Int) + 1) ≤ 30001 * 30001 := Int.mul_le_mul (by omega) (by omega) (by omega) (by omega)
    have hsq0 : 0 ≤ ((t : Int) + 1) * ((t : Int) + 1) := Int.mul_nonneg (by omega) (by omega)
    have m1 := op_mul_sm (m := false) (h := .lst (I ts1) :: rest) (i := (t : Int) + 1) (j := (t : Int) + 1) (by omega) (by omega)
    have m2 := op_mul_sm (m := false) (h := .lst (I ts1) :: rest) (i := ((t : Int) + 1) * ((t : Int) + 1)) (j := 7) (by omega) (by decide)
    simp only [t_law_draw]
    refine ss_nx st1 (ss_rt ?_)
    have e0 := eq_empty (ns := ns) (h := .lst (I ts1) :: rest)
    rw [decide_eq_true hn] at e0
    simp [cmpD, e0, a2, m1, m2, op_fdiv_sm, op_mod_int h0, ev]
  · have hlen : 0 < ns.length := by cases ns with
      | nil => exact absurd rfl hn
      | cons x r => simp
    have hp : (0 : Int) < ns.length := by omega
    obtain ⟨a, ha, ea⟩ : ∃ a : Nat, a < ns.length ∧ ((t : Int) + 1) % (ns.length : Int) = a := ⟨(((t : Int) + 1) % (ns.length : Int)).toNat, by have := Int.emod_lt_of_pos ((t : Int) + 1) hp; have := Int.emod_nonneg ((t : Int) + 1) (Int.ne_of_gt hp); omega, by have := Int.emod_nonneg ((t : Int) + 1) (Int.ne_of_gt hp); omega⟩
    have hl1 := T1.len
    obtain ⟨x, ex⟩ : ∃ x, ns[a]? = some x := ⟨ns[a], List.getElem?_eq_getElem ha⟩
    obtain ⟨l, el⟩ : ∃ l, ts1[1 + a]? = some l := ⟨ts1[1 + a], List.getElem?_eq_getElem (by omega)⟩
    have x1 : ∀ h, ixD (.scr (I ns)) (.int (a : Nat)) h = .ok (.int x) := fun h => ix_scr (I_get ex)
    have l1 := ix_town (rest := rest) el
    rw [Int.natCast_add, Int.natCast_one] at l1
    have e0 := fun h => eq_empty (ns := ns) (h := h)
    simp only [decide_eq_false hn] at e0
    have m0 := fun h => op_mod_int (m := false) (h := h) (i := (t : Int) + 1) hp
    have st2 : evS C (.iff (.cmp .eq (.v 0) (.lst false .nil)) (.cons (.ret (.op .mod false (.op .fdiv false (.op .mul false (.op .mul false (.ix (.v 1) (.ci 0)) (.ix (.v 1) (.ci 0))) (.ci 7)) (.ci 3)) (.v 2))) .nil) .nil) [some (.scr (I ns)), some (.ref 0), some (.int L), none, none, none] (.lst (I ts1) :: rest) = .ok (.nx [some (.scr (I ns)), some (.ref 0), some (.int L), none, none, none] (.lst (I ts1) :: rest)) := by
      simp [cmpD, e0]
    have st3 : evS C (.asg (.name 3) (.op .mod false (.ix (.v 1) (.ci 0)) (.bi .len false (.cons (.v 0) .nil)))) [some (.scr (I ns)), some (.ref 0), some (.int L), none, none, none] (.lst (I ts1) :: rest) = .ok (.nx [some (.scr (I ns)), some (.ref 0), some (.int L), some (.int a), none, none] (.lst (I ts1) :: rest)) := by
      simp [a2, m0, ea, tgD]
    have st4 : evS C (.asg (.name 4) (.ix (.v 1) (.op .add false (.ci 1) (.v 3)))) [some (.scr (I ns)), some (.ref 0), some (.int L), some (.int a), none, none] (.lst (I ts1) :: rest) = .ok (.nx [some (.scr (I ns)), some (.ref 0), some (.int L), some (.int a), some (.int l), none] (.lst (I ts1) :: rest)) := by
      simp [l1, tgD]
    by_cases hb : 1000000000000000000 ≤ x ∧ 0 < l
    · obtain ⟨v, hv, ev⟩ := md l
      have s2 := set_town (rest := rest) (j := 1 + a) (t := l / L) (ts := ts1) (by omega)
      rw [Int.natCast_add, Int.natCast_one] at s2
      obtain ⟨t1, et1', ht1⟩ := T1.at0
      refine ⟨v, ts1.set (1 + a) (l / L), hv, ⟨by rw [List.length_set]; exact hl1, t1, by rw [List.getElem?_set_ne (by omega)]; exact et1', ht1⟩, ?_⟩
      simp only [t_law_draw]
      refine ss_nx st1 (ss_nx st2 (ss_nx st3 (ss_nx st4 (ss_rt ?_))))
      simp [x1, ten18, hb.1, hb.2, op_fdiv_sm h0 h1, op_mod_int h0, s2, ev]
    · have st5 : ∀ b, evS C (.iff (.bop true (.cons (.cmp .ge (.ix (.v 0) (.v 3)) (.op .pow false (.ci 10) (.ci 18))) (.cons (.cmp .gt (.v 4) (.ci 0)) .nil))) b .nil) [some (.scr (I ns)), some (.ref 0), some (.int L), some (.int a), some (.int l), none] (.lst (I ts1) :: rest) = .ok (.nx [some (.scr (I ns)), some (.ref 0), some (.int L), some (.int a), some (.int l), none] (.lst (I ts1) :: rest)) := fun b => by
        by_cases hx : 1000000000000000000 ≤ x
        · have hl : ¬ 0 < l := fun z => hb ⟨hx, z⟩
          simp [x1, ten18, hx, hl]
        · simp [x1, ten18, hx]
      have n1 : 0 ≤ (x + 104729 * ((t : Int) + 1)) % 4294967291 ∧ (x + 104729 * ((t : Int) + 1)) % 4294967291 < 4294967291 := ⟨Int.emod_nonneg _ (by decide), Int.emod_lt_of_pos _ (by decide)⟩
      generalize hy : (x + 104729 * ((t : Int) + 1)) % 4294967291 = y at *
      have n2 : 0 ≤ y ^ 5 % 4294967279 ∧ y ^ 5 % 4294967279 < 4294967279 := ⟨Int.emod_nonneg _ (by decide), Int.emod_lt_of_pos _ (by decide)⟩
      generalize hz : y ^ 5 % 4294967279 = z at *
      obtain ⟨v, hv, ev⟩ := md ((z / 64 * 69621 + z) % 4294967231 / 8)
      refine ⟨v, ts1, hv, T1, ?_⟩
      have m1 := op_mul_sm (m := false) (h := .lst (I ts1) :: rest) (i := 104729) (j := (t : Int) + 1) (by decide) (by omega)
      have m2 := op_mul_sm (m := false) (h := .lst (I ts1) :: rest) (i := z / 64) (j := 69621) (by omega) (by decide)
      have p5 := op_pow_int (m := false) (h := .lst (I ts1) :: rest) (i := y) (j := 5) ⟨by decide, by decide, by omega⟩
      have t5 : (5 : Int).toNat = 5 := rfl
      rw [t5] at p5
      simp only [t_law_draw]
      refine ss_nx st1 (ss_nx st2 (ss_nx st3 (ss_nx st4 (ss_nx (st5 _) (ss_nx (r1 := [some (.scr (I ns)), some (.ref 0), some (.int L), some (.int a), some (.int l), some (.int y)]) (h1 := .lst (I ts1) :: rest) ?_ (ss_nx (r1 := [some (.scr (I ns)), some (.ref 0), some (.int L), some (.int a), some (.int l), some (.int z)]) (h1 := .lst (I ts1) :: rest) ?_ (ss_rt ?_)))))))
      · simp [x1, a2, m1, op_mod_int, hy, tgD]
      · simp [p5, op_mod_int, hz, tgD]
      · simp [m2, op_mod_int, op_fdiv_sm, h0, ev]
theorem c_draw (k : Nat) (ns : List Int) : Dr (run false defs (k + 1)) i_law_draw ns := fun ts c L rest T hc h0 h1 => by
  obtain ⟨v, ts', a, b, e⟩ := b_draw (C := run false defs k) (rest := rest) T hc h0 h1
  exact ⟨v, ts', a, b, run_rt rfl rfl e (fin_town0 rfl)⟩
end
section
variable {h : Hh} {C : Cal}
theorem c_pick (k : Nat) {ns ts : List Int} {c : Nat} {rest : Hh} (cs : List Int) (h0 : 0 < cs.length) (h1 : cs.length < 100) (T : Tn ns c ts) (hc : c < 30000) :
    ∃ x ts', x ∈ cs ∧ Tn ns (c + 1) ts' ∧ run false defs (k + 2) i_law_pick [.scr (I ns), .ref 0, .lst (I cs)] (.lst (I ts) :: rest) = .ok (.int x, .lst (I ts') :: rest) := by
  obtain ⟨v, ts', a, b, e⟩ := c_draw k ns ts c cs.length rest T hc (by omega) (by omega)
  have hv : v < cs.length := by omega
  refine ⟨cs[v], ts', List.getElem_mem hv, b, run_rt rfl rfl (x := .int cs[v]) (h1 := .lst (I ts') :: rest) ?_ (fin_town0 rfl)⟩
  have i1 : ∀ h, ixD (.lst (I cs)) (.int (v : Nat)) h = .ok (.int cs[v]) := fun h => ix_lst (I_get (List.getElem?_eq_getElem hv))
  generalize run false defs (k + 1) = C at *
  show evSs C t_law_pick.body [some (.scr (I ns)), some (.ref 0), some (.lst (I cs))] _ = _
  simp only [t_law_pick]
  exact ss_rt (by simp [e, i1])
theorem b_lred {t : Int} {b : Nat} (hb : 0 < b) (hs : b < 2 ^ 8999) : evSs C t_law_reduced.body [some (.int t), some (.int b), none, none] h = .ok (.rt (fr (mkRat t b)) h) := by
  obtain ⟨n, e⟩ := loop_gcd (h := h) (c := evT C (.cmp .ne (.v 3) (.ci 0))) (body := evSs C (.cons (.par [2, 3] (.cons (.v 3) (.cons (.op .mod false (.v 2) (.v 3)) .nil))) .nil)) (fun a c => [some (.int t), some (.int b), some (.int a), some (.int c)])
    (fun a => by simp) (fun a b hb => by simp [Int.ne_of_gt hb]) (fun a b hb => by simp [setAll, op_mod_int hb]) b t.natAbs
  have ab : (if t < 0 then -t else t) = (t.natAbs : Int) := by omega
  obtain ⟨g1, g2⟩ := gcd_small (t := t) hb hs (by decide)
  have f1 := fun i => op_fdiv_int (m := false) (h := h) (i := i) ⟨g1, Nat.lt_trans g2 (by decide)⟩
  simp only [t_law_reduced]
  refine ss_nx (r1 := [some (.int t), some (.int b), some (.int t.natAbs), some (.int b)]) (h1 := h) (by simp [setAll, ab]) (ss_nx (r1 := [some (.int t), some (.int b), some (.int (Nat.gcd t.natAbs b : Nat)), some (.int 0)]) (h1 := h) ?_ (ss_rt ?_))
  · rw [S_8]
    exact whileD_of e (by simp)
  · rw [fr_mk hb]
    simp [f1]
theorem c_lred (k : Nat) (t : Int) (b : Nat) (hb : 0 < b) (hs : b < 2 ^ 8999) : run false defs (k + 1) i_law_reduced [.int t, .int b] h = .ok (fr (mkRat t b), h) :=
  run_rt rfl rfl (b_lred hb hs) (fin_self rfl)
theorem c_size (k : Nat) {ns ts : List Int} {c : Nat} {rest : Hh} (T : Tn ns c ts) (hc : c < 29000) :
    ∃ q ts', 0 < q.num ∧ Bd 7 q ∧ Tn ns (c + 3) ts' ∧ run false defs (k + 3) i_law_size [.scr (I ns), .ref 0] (.lst (I ts) :: rest) = .ok (fr q, .lst (I ts') :: rest) := by
  obtain ⟨x, t1, hx, T1, e1⟩ := c_pick k (rest := rest) [3, 9, 9, 99] (by decide) (by decide) T (by omega)
  have hx2 : 0 < x ∧ x ≤ 99 := by
    simp only [List.mem_cons, List.not_mem_nil, or_false] at hx
    omega
  obtain ⟨v1, t2, hv1, T2, e2⟩ := c_draw (k + 1) ns t1 (c + 1) x rest T1 (by omega) (by omega) (by omega)
  obtain ⟨v2, t3, hv2, T3, e3⟩ := c_draw (k + 1) ns t2 (c + 2) x rest T2 (by omega) (by omega) (by omega)
  have e4 := c_lred (h := .lst (I t3) :: rest) (k + 1) (1 + (v1 : Int)) (1 + v2) (by omega) (Nat.lt_of_lt_of_le (show 1 + v2 < 2 ^ 8 by omega) (Nat.pow_le_pow_right (by decide) (by decide)))
  rw [Int.natCast_add, Int.natCast_one] at e4
  refine ⟨mkRat (1 + (v1 : Int)) (1 + v2), t3, mk_pos (by omega) (by omega), mk_7 (by omega) (by omega), T3, run_rt rfl rfl (x := fr (mkRat (1 + (v1 : Int)) (1 + v2))) (h1 := .lst (I t3) :: rest) ?_ (fin_town0 rfl)⟩
  generalize run false defs (k + 2) = C at *
  show evSs C t_law_size.body [some (.scr (I ns)), some (.ref 0), none] _ = _
  have e1' : C i_law_pick [.scr (I ns), .ref 0, .lst [.int 3, .int 9, .int 9, .int 99]] (.lst (I ts) :: rest) = .ok (.int x, .lst (I t1) :: rest) := e1
  simp only [t_law_size]
  exact ss_nx (r1 := [some (.scr (I ns)), some (.ref 0), some (.int x)]) (h1 := .lst (I t1) :: rest) (by simp [e1', tgD]) (ss_rt (by simp [e2, e3, e4]))
end
section
variable {h : Hh} {C : Cal}
theorem ix_here {n j : Nat} {v : Nat → Rat} (hj : j < n) : ixD (.ref h.length) (.int j) (h ++ [.lst (vec n v)]) = .ok (fr (v j)) := ix_ref get_last (vec_get hj)
end
section
variable {h : Hh} {C : Cal}
theorem mat_ix {R i j : Nat} {ss : List (Nat × Rat)} (hi : i < 2 * R) (h : Hh) : ixD (matD R ss) (.int i) h = .ok (.tup (vec (2 * R) fun j => mat R ss i j)) := ix_tup (by rw [List.getElem?_map, List.getElem?_range hi]; rfl)
theorem c_town (k : Nat) (ns : List Int) (hl : ns.length ≤ 63) : run false defs (k + 1) i_law_town [.scr (I ns)] [] = .ok (.ref 0, [.lst (I (0 :: ns))]) := by
  refine run_rt rfl rfl (x := .ref 0) (h1 := [.lst (I (0 :: ns))]) ?_ (fin_keep (h := []) (xs := I (0 :: ns)) (pln_I _))
  generalize run false defs k = C
  show evSs C t_law_town.body [some (.scr (I ns))] [] = _
  have e : opD .add true (.lst [.int 0]) (.lst (I ns)) [] = .ok (.ref 0, [.lst (I (0 :: ns))]) := by
    simp only [opD, addD, trkOf]
    rw [if_pos]
    · rfl
    · have : (I ns).length = ns.length := I_length ns
      rw [this]
      have : 70 ≤ sizeLine := by decide
      simp only [List.length_cons, List.length_nil]
      omega
  simp only [t_law_town]
  exact ss_rt (by simp [e])
theorem tn_start (ns : List Int) : Tn ns 0 (0 :: ns) := ⟨by simp, 0, rfl, Nat.le_refl _⟩
end
section
variable {C : Cal} {rest : Hh} {ns : List Int}
structure Nf (C : Cal) (ns : List Int) : Prop where
  draw : ∀ (ts : List Int) (c : Nat) (L : Int) (rest : Hh), Tn ns c ts → c < 30000 → 0 < L → L < 4294967296 → ∃ (v : Nat) (ts' : List Int), (v : Int) < L ∧ Tn ns (c + 1) ts' ∧ C i_law_draw [.scr (I ns), .ref 0, .int L] (.lst (I ts) :: rest) = .ok (.int v, .lst (I ts') :: rest)
  pick : ∀ (ts : List Int) (c : Nat) (rest : Hh) (cs : List Int), 0 < cs.length → cs.length < 100 → Tn ns c ts → c < 30000 → ∃ x ts', x ∈ cs ∧ Tn ns (c + 1) ts' ∧ C i_law_pick [.scr (I ns), .ref 0, .lst (I cs)] (.lst (I ts) :: rest) = .ok (.int x, .lst (I ts') :: rest)
  size : ∀ (ts : List Int) (c : Nat) (rest : Hh), Tn ns c ts → c < 29000 → ∃ q ts', 0 < q.num ∧ Bd 7 q ∧ Tn ns (c + 3) ts' ∧ C i_law_size [.scr (I ns), .ref 0] (.lst (I ts) :: rest) = .ok (fr q, .lst (I ts') :: rest)
theorem nf (k : Nat) (ns : List Int) : Nf (run false defs (k + 3)) ns :=
  ⟨fun ts c L rest T hc h0 h1 => c_draw (k + 2) ns ts c L rest T hc h0 h1, fun ts c rest cs h0 h1 T hc => c_pick (k + 1) cs h0 h1 T hc, fun ts c rest T hc => c_size k T hc⟩
def nbody : Sms := (.cons (.asg (.name 7) (.call i_law_draw (.cons (.v 0) (.cons (.v 1) (.cons (.op .sub false (.op .mul false (.ci 2) (.v 2)) (.ci 1)) .nil))))) (.cons (.iff (.bop true (.cons (.cmp .ne (.v 4) (.lst false .nil)) (.cons (.cmp .eq (.call i_law_draw (.cons (.v 0) (.cons (.v 1) (.cons (.ci 3) .nil)))) (.ci 0)) .nil))) (.cons (.asg (.name 7) (.bi .max false (.cons (.ci 0) (.cons (.bi .min false (.cons (.op .sub false (.op .mul false (.ci 2) (.v 2)) (.ci 2)) (.cons (.op .add false (.ix (.ix (.v 4) (.neg (.ci 1))) (.ci 0)) (.call i_law_pick (.cons (.v 0) (.cons (.v 1) (.cons (.lst false (.cons (.neg (.ci 1)) (.cons (.ci 1) .nil))) .nil))))) .nil))) .nil)))) .nil) .nil) (.cons (.expr (.mt .append (.v 4) (.cons (.tup (.cons (.v 7) (.cons (.call i_law_size (.cons (.v 0) (.cons (.v 1) .nil))) .nil))) .nil))) .nil)))
def nsl (ns : List Int) (rest : Hh) (R : Nat) (most many : Int) (x6 x7 : Option D) : Ev := [some (.scr (I ns)), some (.ref 0), some (.int R), some (.int most), some (.ref (rest.length + 1)), some (.int many), x6, x7]
theorem b_nbody (F : Nf C ns) {ts : List Int} {c R : Nat} {most many : Int} {f : List (Nat × Rat)} {x6 x7 : Option D} (T : Tn ns c ts) (hc : c < 28000) (h2 : 2 ≤ R) (h4 : R ≤ 4) (hf : ∀ s ∈ f, StOk R s) (hl : f.length < 100) :
    ∃ s ts' y7, StOk R s ∧ Tn ns (c + 7) ts' ∧ evSs C nbody (nsl ns rest R most many x6 x7) (Ht ts rest (f.map stD)) = .ok (.nx (nsl ns rest R most many x6 y7) (Ht ts' rest ((f ++ [s]).map stD))) := by
  have m := fun h => op_mul_sm (m := false) (h := h) (i := 2) (j := R) (by decide) (by omega)
  obtain ⟨v, t1, hv, T1, e1⟩ := F.draw ts c (2 * R - 1) (rest ++ [.lst (f.map stD)]) T (by omega) (by omega) (by omega)
  have e1 := Ht_town e1
  have s1 : evS C (.asg (.name 7) (.call i_law_draw (.cons (.v 0) (.cons (.v 1) (.cons (.op .sub false (.op .mul false (.ci 2) (.v 2)) (.ci 1)) .nil))))) (nsl ns rest R most many x6 x7) (Ht ts rest (f.map stD)) = .ok (.nx (nsl ns rest R most many x6 (some (.int v))) (Ht t1 rest (f.map stD))) := by
    simp [nsl, m, e1, tgD]
  have st2 : ∃ (k : Nat) (t2 : List Int), k + 2 ≤ 2 * R ∧ Tn ns (c + 4) t2 ∧ evS C (.iff (.bop true (.cons (.cmp .ne (.v 4) (.lst false .nil)) (.cons (.cmp .eq (.call i_law_draw (.cons (.v 0) (.cons (.v 1) (.cons (.ci 3) .nil)))) (.ci 0)) .nil))) (.cons (.asg (.name 7) (.bi .max false (.cons (.ci 0) (.cons (.bi .min false (.cons (.op .sub false (.op .mul false (.ci 2) (.v 2)) (.ci 2)) (.cons (.op .add false (.ix (.ix (.v 4) (.neg (.ci 1))) (.ci 0)) (.call i_law_pick (.cons (.v 0) (.cons (.v 1) (.cons (.lst false (.cons (.neg (.ci 1)) (.cons (.ci 1) .nil))) .nil))))) .nil))) .nil)))) .nil) .nil) (nsl ns rest R most many x6 (some (.int v))) (Ht t1 rest (f.map stD)) =
      .ok (.nx (nsl ns rest R most many x6 (some (.int k))) (Ht t2 rest (f.map stD))) := by
    have ne := fun ts => Ht_ne (ts := ts) (rest := rest) (xs := f.map stD) (plnL_map _ (fun _ => pln_st) _) (Nat.le_trans (depL_map _ 2 (fun _ => Nat.le_of_eq dep_st) _) (by decide))
    by_cases hn : f = []
    · refine ⟨v, t1, by omega, T1.up (by omega), ?_⟩
      have ne1 := ne t1
      rw [decide_eq_true (by rw [hn]; rfl)] at ne1
      unfold nsl
      simp [ne1]
    · have ne1 := ne t1
      rw [decide_eq_false (fun z => hn (List.map_eq_nil_iff.mp z))] at ne1
      obtain ⟨w, t2, hw, T2, e2⟩ := F.draw t1 (c + 1) 3 (rest ++ [.lst (f.map stD)]) T1 (by omega) (by omega) (by omega)
      have e2 := Ht_town e2
      by_cases hw0 : w = 0
      · obtain ⟨x, t3, hx, T3, e3⟩ := F.pick t2 (c + 2) (rest ++ [.lst (f.map stD)]) [-1, 1] (by decide) (by decide) T2 (by omega)
        have e3 := Ht_town e3
        have e3' : C i_law_pick [.scr (I ns), .ref 0, .lst [.int (-1), .int 1]] (Ht t2 rest (f.map stD)) = .ok (.int x, Ht t3 rest (f.map stD)) := e3
        obtain ⟨f0, s, rfl⟩ : ∃ f0 s, f = f0 ++ [s] := ⟨f.dropLast, f.getLast hn, (List.dropLast_concat_getLast hn).symm⟩
        have hk := (hf s (by simp)).kind
        have l1 : ixD (.ref (rest.length + 1)) (.int (-1)) (Ht t2 rest ((f0 ++ [s]).map stD)) = .ok (stD s) := by
          rw [List.map_append]
          exact Ht_last
        obtain ⟨K, hK, eK⟩ : ∃ K : Nat, K + 2 ≤ 2 * R ∧ (if (if (s.1 : Int) + x < 2 * (R : Int) - 2 then (s.1 : Int) + x else 2 * (R : Int) - 2) > 0 then (if (s.1 : Int) + x < 2 * (R : Int) - 2 then (s.1 : Int) + x else 2 * (R : Int) - 2) else 0) = (K : Int) := by
          refine ⟨(if (if (s.1 : Int) + x < 2 * (R : Int) - 2 then (s.1 : Int) + x else 2 * (R : Int) - 2) > 0 then (if (s.1 : Int) + x < 2 * (R : Int) - 2 then (s.1 : Int) + x else 2 * (R : Int) - 2) else 0).toNat, ?_, ?_⟩ <;> split <;> split <;> omega
        refine ⟨K, t3, hK, T3.up (by omega), ?_⟩
        generalize (f0 ++ [s]).map stD = xs at *
        subst hw0
        unfold nsl
        rw [Int.natCast_zero] at e2
        simp [ne1, e2, m, l1, e3', min2, max2, tgD]
        exact eK
      · refine ⟨v, t2, by omega, T2.up (by omega), ?_⟩
        unfold nsl
        have : ¬ (w : Int) = 0 := by omega
        simp [ne1, e2, hw0]
  obtain ⟨k, t2, hk, T2, e2⟩ := st2
  obtain ⟨q, t3, hq, hb, T3, e3⟩ := F.size t2 (c + 4) (rest ++ [.lst (f.map stD)]) T2 (by omega)
  have e3 := Ht_town e3
  refine ⟨(k, q), t3, some (.int k), ⟨hk, hq, hb⟩, T3, ?_⟩
  have la := Ht_append (ts := t3) (rest := rest) (xs := f.map stD) (d := stD (k, q)) (by rw [List.length_map]; omega)
  have la' : mtD .append (.ref (rest.length + 1)) [.tup [.int k, fr q]] (Ht t3 rest (f.map stD)) = .ok (.non, Ht t3 rest ((f ++ [(k, q)]).map stD)) := by
    rw [List.map_append]
    exact la
  have lo := Ht_lst (ts := t2) (rest := rest) (xs := f.map stD)
  unfold nbody
  refine ss_nx s1 (ss_nx e2 ?_)
  unfold nsl
  simp [lo, e3, la']
theorem l_net (F : Nf C ns) {R : Nat} {most many : Int} (h2 : 2 ≤ R) (h4 : R ≤ 4) {all : List D} : ∀ (xs : List D) (f : List (Nat × Rat)) (ts : List Int) (c : Nat) (x6 x7 : Option D), Tn ns c ts → c + 7 * xs.length < 28000 → (∀ s ∈ f, StOk R s) → f.length + xs.length < 100 →
    ∃ (f' : List (Nat × Rat)) (ts' : List Int) (y6 y7 : Option D), f'.length = f.length + xs.length ∧ (∀ s ∈ f', StOk R s) ∧ Tn ns (c + 7 * xs.length) ts' ∧ forD none all (.name 6) (evSs C nbody) xs (nsl ns rest R most many x6 x7) (Ht ts rest (f.map stD)) = .ok (.nx (nsl ns rest R most many y6 y7) (Ht ts' rest (f'.map stD)))
  | [], f, ts, c, x6, x7, T, _, hf, _ => ⟨f, ts, x6, x7, rfl, hf, T, by simp [forD, stl]⟩
  | x :: xs, f, ts, c, x6, x7, T, hc, hf, hl => by
    rw [List.length_cons] at hc hl
    obtain ⟨s, t1, y7, hs, T1, e1⟩ := b_nbody F (rest := rest) (most := most) (many := many) (x6 := some x) (x7 := x7) T (by omega) h2 h4 hf (by omega)
    obtain ⟨f', t2, z6, z7, l2, hf2, T2, e2⟩ := l_net F (most := most) (many := many) h2 h4 xs (f ++ [s]) t1 (c + 7) (some x) y7 T1 (by omega) (fun y hy => by
      rcases List.mem_append.mp hy with hy | hy
      · exact hf y hy
      · rw [List.mem_singleton.mp hy]; exact hs) (by rw [List.length_append, List.length_singleton]; omega) (all := all)
    refine ⟨f', t2, z6, z7, by rw [l2, List.length_append, List.length_singleton, List.length_cons]; omega, hf2, T2.up (by rw [List.length_cons]; omega), ?_⟩
    have et : tgD (.name 6) x (nsl ns rest R most many x6 x7) = some (nsl ns rest R most many (some x) x7) := rfl
    simp only [forD, stl, if_true, et, e1, bind_ok, e2]
end
section
variable {C : Cal} {ns : List Int} {h : Hh}
theorem kl_map {ss : List (Nat × Rat)} : (ss.map fun s => D.int (s.1 : Nat)) = klD (kds ss) := by unfold klD kds; rw [List.map_map]; rfl
theorem c_kinds (k : Nat) {R : Nat} {ss : List (Nat × Rat)} (hl : ss.length ≤ 14) : run false defs (k + 1) i_kinds_of [netD R ss] h = .ok (.tup (klD (kds ss)), h) := by
  refine run_rt rfl rfl (x := .tup (klD (kds ss))) (h1 := h) ?_ (fin_self (by rw [pln]; exact kl_pln _))
  generalize run false defs k = C
  have f := comp_seq (C := C) (m := false) (own := [1, 2]) (g := .tup (.cons (.name 1) (.cons (.name 2) .nil))) (a := .ix (.v 0) (.ci 1)) (elt := .v 1)
    (r := [some (netD R ss), none, none]) (h := h) (d := .tup (ss.map stD)) (xs := ss) stD (fun s => .int (s.1 : Nat)) (fun s => [some (netD R ss), some (.int s.1), some (fr s.2)]) (by simp) rfl (by omega) fun s hs => ⟨rfl, by simp⟩
  rw [kl_map] at f
  simp only [t_kinds_of]
  simp [-E_25, f]
theorem c_exchanged (k : Nat) {r : List Int} {i : Nat} (hr : r.length ≤ 8) (hi : i + 1 < r.length) : run false defs (k + 1) i_exchanged [.tup (I r), .int (i : Nat)] h = .ok (.tup (I (swp r i)), h) := by
  refine run_rt rfl rfl (x := .tup (I (swp r i))) (h1 := h) ?_ (fin_self (by rw [pln]; exact I_pln _))
  generalize run false defs k = C
  have s1 := sl_take (xs := I r) (k := i) (h := h)
  have s2 := sl_drop (xs := I r) (k := i + 2) (h := h)
  have x1 := I_ix (ns := r) (k := i + 1) (h := h) hi
  have x2 := I_ix (ns := r) (k := i) (h := h) (by omega)
  have a1 := add_tup (xs := (I r).take i) (ys := [.int (r.getD (i + 1) 0), .int (r.getD i 0)]) (m := false) (h := h) (by rw [List.length_take, I_len]; simp; omega)
  have a2 := add_tup (xs := (I r).take i ++ [.int (r.getD (i + 1) 0), .int (r.getD i 0)]) (ys := (I r).drop (i + 2)) (m := false) (h := h) (by rw [List.length_append, List.length_take, List.length_drop, I_len]; simp; omega)
  rw [← I_swp] at a2
  rw [Int.natCast_add] at s2 x1
  generalize r.getD (i + 1) 0 = y at *
  generalize r.getD i 0 = x at *
  have s2 : slD (.tup (I r)) (some ((i : Int) + 2)) none h = .ok (.tup ((I r).drop (i + 2))) := s2
  have x1 : ixD (.tup (I r)) (.int ((i : Int) + 1)) h = .ok (.int y) := x1
  generalize (I r).drop (i + 2) = u at *
  generalize (I r).take i = w at *
  generalize I (swp r i) = z at *
  generalize I r = q at *
  simp only [t_exchanged]
  refine ss_rt ?_
  simp [s1, s2, x1, x2, a1, a2]
theorem b_owl {R : Nat} {ks : List Nat} (hR : R ≤ 4) (hk : ∀ k ∈ ks, k + 1 < 2 * R) (hl : ks.length ≤ 14)
    (ex : ∀ (r : List Int) (i : Nat) (h : Hh), r.length ≤ 8 → i + 1 < r.length → C i_exchanged [.tup (I r), .int (i : Nat)] h = .ok (.tup (I (swp r i)), h)) :
    W (evSs C t_order_with_left.body [some (.int R), some (.tup (klD ks)), none, none, none, none] h) fun o =>
      o = .rt (.tup [.tup (I (runO (rng0 (2 * R)) ks).1), .ref h.length]) (h ++ [.lst (I (runO (rng0 (2 * R)) ks).2.1)]) := by
  have m := fun h => op_mul_sm (m := false) (h := h) (i := 2) (j := R) (by decide) (by omega)
  have rg : rngD [.int ((2 * R : Nat) : Int)] = some ((List.range (2 * R)).map fun i => .int (i : Nat)) := rng_nat (by omega)
  simp only [Int.natCast_mul, Int.cast_ofNat_Int] at rg
  rw [← rng0_I] at rg
  have e0 : (runO (rng0 (2 * R)) []).1 = rng0 (2 * R) := by simp only [runO, List.foldl_nil]
  have e1 : I (runO (rng0 (2 * R)) []).2.1 = [] := by simp only [runO, List.foldl_nil]; exact List.map_nil
  have nz : numb 0 (klD ks) = ks.zipIdx.map fun p => .pr (.int (p.2 : Nat)) (.int (p.1 : Nat)) := numb_zip _ _ _
  have hr0l : (rng0 (2 * R)).length = 2 * R := rng0_len
  have hr0i : inv (rng0 (2 * R)) = 0 := rng0_inv
  simp only [t_order_with_left]
  have rt : ∀ (h : Hh) x1 x2 x3 x4 x5, evE C (.rgT (.cons (.op .mul false (.ci 2) (.v 0)) .nil)) [some (.int R), x1, x2, x3, x4, x5] h = .ok (.tup (I (rng0 (2 * R))), h) := fun h x1 x2 x3 x4 x5 => rgT_ok (ds := [.int (2 * (R : Int))]) (by simp [m]) rg
  generalize hr0 : rng0 (2 * R) = r0 at *
  refine wst (by simp [-E_18, rt, setAll]; rfl) ?_
  simp only [cont_nx, List.set_cons_succ, List.set_cons_zero]
  refine wfor_all (fun p : Nat × Nat => .pr (.int (p.2 : Nat)) (.int (p.1 : Nat))) ks.zipIdx
    (fun done r h' => ∃ x4 x5, r = [some (.int R), some (.tup (klD ks)), some (.tup (I (runO r0 (done.map (·.1))).1)), some (.ref h.length), x4, x5] ∧ h' = h ++ [.lst (I (runO r0 (done.map (·.1))).2.1)])
    (by rw [← nz]; simp) ⟨none, none, by simp only [List.map_nil, e0], by simp only [List.map_nil, e1]⟩ (fun done x todo r h' e p => ?_) (fun r h' p => ?_)
  · obtain ⟨x4, x5, rfl, rfl⟩ := p
    obtain ⟨z1, z2, z3⟩ := zip_at e
    obtain ⟨kk, nn⟩ := x
    simp only at z1 z3
    subst z1
    have hd : ∀ y ∈ done.map (·.1), y + 1 < r0.length := fun y hy => by
      rw [hr0l]
      exact hk y (by rw [z2] at hy; exact List.mem_of_mem_take hy)
    have hkk : kk + 1 < 2 * R := hk kk (List.mem_of_getElem? z3)
    have pl := (runO_perm _ hd).length_eq
    rw [hr0l] at pl
    have nu := runO_num (r := r0) (done.map (·.1))
    rw [List.length_map] at nu
    have sn := runO_snoc (r := r0) (ks := done.map (·.1)) (k := kk)
    have em : (done ++ [(kk, done.length)]).map (·.1) = done.map (·.1) ++ [kk] := by simp
    rw [em, sn]
    have ll := runO_lt (r := r0) (done.map (·.1))
    have inv0 := runO_inv (r := r0) hr0i (done.map (·.1)) hd
    rw [List.length_map] at inv0
    have hdl : done.length < ks.length := (List.getElem?_eq_some_iff.mp z3).1
    generalize runO r0 (done.map (·.1)) = st at *
    obtain ⟨row, left, num⟩ := st
    simp only at nu pl inv0
    subst nu
    have x1 := fun h => I_ix (ns := row) (k := kk) (h := h) (by omega)
    have x2 := fun h => I_ix (ns := row) (k := kk + 1) (h := h) (by omega)
    simp only [Int.natCast_add, Int.cast_ofNat_Int] at x2
    refine ⟨_, rfl, ?_⟩
    simp only [List.set_cons_succ, List.set_cons_zero]
    unfold stO
    simp only
    by_cases c : row.getD kk 0 < row.getD (kk + 1) 0
    · rw [if_pos c]
      have ee := ex row kk (h ++ [.lst (I left)]) (by omega) (by omega)
      generalize row.getD kk 0 = a at *
      generalize row.getD (kk + 1) 0 = b at *
      refine wst (by simp [x1, x2, c, ee, tgD]; rfl) ?_
      exact wend ⟨_, _, rfl, rfl⟩
    · rw [if_neg c]
      have ap := app_mid (h := h) (gs := []) (xs := I left) (d := .int (done.length : Nat)) (by rw [I_len]; omega)
      have lm := lst_mid (h := h) (gs := []) (xs := I left)
      have eI : I left ++ [.int (done.length : Nat)] = I (left ++ [(done.length : Int)]) := by simp [I]
      rw [eI] at ap
      generalize left ++ [(done.length : Int)] = left2 at *
      generalize row.getD kk 0 = a at *
      generalize row.getD (kk + 1) 0 = b at *
      refine wst (by simp [x1, x2, c, ap, lm]; rfl) ?_
      exact wend ⟨_, _, rfl, rfl⟩
  · obtain ⟨x4, x5, rfl, rfl⟩ := p
    rw [List.zipIdx_map_fst]
    exact wrt (d := .tup [.tup (I (runO r0 ks).1), .ref h.length]) (h1 := h ++ [.lst (I (runO r0 ks).2.1)]) (by simp) rfl
/-- the order, what is left -/
def ord (R : Nat) (ks : List Nat) : List Int := (runO (rng0 (2 * R)) ks).1
def lef (R : Nat) (ks : List Nat) : List Int := (runO (rng0 (2 * R)) ks).2.1
theorem c_owl (k : Nat) {R : Nat} {ks : List Nat} (hR : R ≤ 4) (hk : ∀ k ∈ ks, k + 1 < 2 * R) (hl : ks.length ≤ 14) : run false defs (k + 2) i_order_with_left [.int R, .tup (klD ks)] h = .ok (.tup [.tup (I (ord R ks)), .lst (I (lef R ks))], h) := by
  obtain ⟨o, e, rfl⟩ := b_owl (C := run false defs (k + 1)) (h := h) hR hk hl fun r i h hr hi => c_exchanged k hr hi
  refine run_rt rfl rfl e ?_
  unfold fin
  rw [if_pos stay_app, if_neg (by decide)]
  have z : (h ++ [Ob.lst (I (runO (rng0 (2 * R)) ks).2.1)])[h.length]? = some (.lst (I (runO (rng0 (2 * R)) ks).2.1)) := by simp
  have p1 : ∀ rf, fzL rf (I (runO (rng0 (2 * R)) ks).1) = some (I (runO (rng0 (2 * R)) ks).1) := fun rf => fzL_pln _ (I_pln _)
  have p2 : ∀ rf, fzL rf (I (runO (rng0 (2 * R)) ks).2.1) = some (I (runO (rng0 (2 * R)) ks).2.1) := fun rf => fzL_pln _ (I_pln _)
  unfold ord lef
  generalize I (runO (rng0 (2 * R)) ks).1 = a at *
  generalize I (runO (rng0 (2 * R)) ks).2.1 = b at *
  simp only [fzW, fzL, fz2, Nat.lt_irrefl, if_false, z, p1, p2, Option.map_some, List.take_left]
theorem b_owlL {R : Nat} {ks : List Nat} (hR : R ≤ 4) (hk : ∀ k ∈ ks, k + 1 < 2 * R) (hl : ks.length ≤ 14)
    (ex : ∀ (r : List Int) (i : Nat) (h : Hh), r.length ≤ 8 → i + 1 < r.length → C i_exchanged [.tup (I r), .int (i : Nat)] h = .ok (.tup (I (swp r i)), h)) :
    W (evSs C t_order_with_left.body [some (.int R), some (.lst (klD ks)), none, none, none, none] h) fun o =>
      o = .rt (.tup [.tup (I (runO (rng0 (2 * R)) ks).1), .ref h.length]) (h ++ [.lst (I (runO (rng0 (2 * R)) ks).2.1)]) := by
  have m := fun h => op_mul_sm (m := false) (h := h) (i := 2) (j := R) (by decide) (by omega)
  have rg : rngD [.int ((2 * R : Nat) : Int)] = some ((List.range (2 * R)).map fun i => .int (i : Nat)) := rng_nat (by omega)
  simp only [Int.natCast_mul, Int.cast_ofNat_Int] at rg
  rw [← rng0_I] at rg
  have e0 : (runO (rng0 (2 * R)) []).1 = rng0 (2 * R) := by simp only [runO, List.foldl_nil]
  have e1 : I (runO (rng0 (2 * R)) []).2.1 = [] := by simp only [runO, List.foldl_nil]; exact List.map_nil
  have nz : numb 0 (klD ks) = ks.zipIdx.map fun p => .pr (.int (p.2 : Nat)) (.int (p.1 : Nat)) := numb_zip _ _ _
  have hr0l : (rng0 (2 * R)).length = 2 * R := rng0_len
  have hr0i : inv (rng0 (2 * R)) = 0 := rng0_inv
  simp only [t_order_with_left]
  have rt : ∀ (h : Hh) x1 x2 x3 x4 x5, evE C (.rgT (.cons (.op .mul false (.ci 2) (.v 0)) .nil)) [some (.int R), x1, x2, x3, x4, x5] h = .ok (.tup (I (rng0 (2 * R))), h) := fun h x1 x2 x3 x4 x5 => rgT_ok (ds := [.int (2 * (R : Int))]) (by simp [m]) rg
  generalize hr0 : rng0 (2 * R) = r0 at *
  refine wst (by simp [-E_18, rt, setAll]; rfl) ?_
  simp only [cont_nx, List.set_cons_succ, List.set_cons_zero]
  refine wfor_all (fun p : Nat × Nat => .pr (.int (p.2 : Nat)) (.int (p.1 : Nat))) ks.zipIdx
    (fun done r h' => ∃ x4 x5, r = [some (.int R), some (.lst (klD ks)), some (.tup (I (runO r0 (done.map (·.1))).1)), some (.ref h.length), x4, x5] ∧ h' = h ++ [.lst (I (runO r0 (done.map (·.1))).2.1)])
    (by rw [← nz]; simp) ⟨none, none, by simp only [List.map_nil, e0], by simp only [List.map_nil, e1]⟩ (fun done x todo r h' e p => ?_) (fun r h' p => ?_)
  · obtain ⟨x4, x5, rfl, rfl⟩ := p
    obtain ⟨z1, z2, z3⟩ := zip_at e
    obtain ⟨kk, nn⟩ := x
    simp only at z1 z3
    subst z1
    have hd : ∀ y ∈ done.map (·.1), y + 1 < r0.length := fun y hy => by
      rw [hr0l]
      exact hk y (by rw [z2] at hy; exact List.mem_of_mem_take hy)
    have hkk : kk + 1 < 2 * R := hk kk (List.mem_of_getElem? z3)
    have pl := (runO_perm _ hd).length_eq
    rw [hr0l] at pl
    have nu := runO_num (r := r0) (done.map (·.1))
    rw [List.length_map] at nu
    have sn := runO_snoc (r := r0) (ks := done.map (·.1)) (k := kk)
    have em : (done ++ [(kk, done.length)]).map (·.1) = done.map (·.1) ++ [kk] := by simp
    rw [em, sn]
    have ll := runO_lt (r := r0) (done.map (·.1))
    have inv0 := runO_inv (r := r0) hr0i (done.map (·.1)) hd
    rw [List.length_map] at inv0
    have hdl : done.length < ks.length := (List.getElem?_eq_some_iff.mp z3).1
    generalize runO r0 (done.map (·.1)) = st at *
    obtain ⟨row, left, num⟩ := st
    simp only at nu pl inv0
    subst nu
    have x1 := fun h => I_ix (ns := row) (k := kk) (h := h) (by omega)
    have x2 := fun h => I_ix (ns := row) (k := kk + 1) (h := h) (by omega)
    simp only [Int.natCast_add, Int.cast_ofNat_Int] at x2
    refine ⟨_, rfl, ?_⟩
    simp only [List.set_cons_succ, List.set_cons_zero]
    unfold stO
    simp only
    by_cases c : row.getD kk 0 < row.getD (kk + 1) 0
    · rw [if_pos c]
      have ee := ex row kk (h ++ [.lst (I left)]) (by omega) (by omega)
      generalize row.getD kk 0 = a at *
      generalize row.getD (kk + 1) 0 = b at *
      refine wst (by simp [x1, x2, c, ee, tgD]; rfl) ?_
      exact wend ⟨_, _, rfl, rfl⟩
    · rw [if_neg c]
      have ap := app_mid (h := h) (gs := []) (xs := I left) (d := .int (done.length : Nat)) (by rw [I_len]; omega)
      have lm := lst_mid (h := h) (gs := []) (xs := I left)
      have eI : I left ++ [.int (done.length : Nat)] = I (left ++ [(done.length : Int)]) := by simp [I]
      rw [eI] at ap
      generalize left ++ [(done.length : Int)] = left2 at *
      generalize row.getD kk 0 = a at *
      generalize row.getD (kk + 1) 0 = b at *
      refine wst (by simp [x1, x2, c, ap, lm]; rfl) ?_
      exact wend ⟨_, _, rfl, rfl⟩
  · obtain ⟨x4, x5, rfl, rfl⟩ := p
    rw [List.zipIdx_map_fst]
    exact wrt (d := .tup [.tup (I (runO r0 ks).1), .ref h.length]) (h1 := h ++ [.lst (I (runO r0 ks).2.1)]) (by simp) rfl
theorem c_owlL (k : Nat) {R : Nat} {ks : List Nat} (hR : R ≤ 4) (hk : ∀ k ∈ ks, k + 1 < 2 * R) (hl : ks.length ≤ 14) : run false defs (k + 2) i_order_with_left [.int R, .lst (klD ks)] h = .ok (.tup [.tup (I (ord R ks)), .lst (I (lef R ks))], h) := by
  obtain ⟨o, e, rfl⟩ := b_owlL (C := run false defs (k + 1)) (h := h) hR hk hl fun r i h hr hi => c_exchanged k hr hi
  refine run_rt rfl rfl e ?_
  unfold fin
  rw [if_pos stay_app, if_neg (by decide)]
  have z : (h ++ [Ob.lst (I (runO (rng0 (2 * R)) ks).2.1)])[h.length]? = some (.lst (I (runO (rng0 (2 * R)) ks).2.1)) := by simp
  have p1 : ∀ rf, fzL rf (I (runO (rng0 (2 * R)) ks).1) = some (I (runO (rng0 (2 * R)) ks).1) := fun rf => fzL_pln _ (I_pln _)
  have p2 : ∀ rf, fzL rf (I (runO (rng0 (2 * R)) ks).2.1) = some (I (runO (rng0 (2 * R)) ks).2.1) := fun rf => fzL_pln _ (I_pln _)
  unfold ord lef
  generalize I (runO (rng0 (2 * R)) ks).1 = a at *
  generalize I (runO (rng0 (2 * R)) ks).2.1 = b at *
  simp only [fzW, fzL, fz2, Nat.lt_irrefl, if_false, z, p1, p2, Option.map_some, List.take_left]
theorem kds_ok {R bb : Nat} {ss : List (Nat × Rat)} (H : NetOk R ss bb) : ∀ k ∈ kds ss, k + 1 < 2 * R := fun k hk => by
  obtain ⟨s, hs, rfl⟩ := List.mem_map.mp hk
  have := (H.st s hs).kind
  omega
/-- what the calls of a def on a net come to -/
structure Of (C : Cal) : Prop where
  chk : ∀ {R bb : Nat} {ss : List (Nat × Rat)} (h : Hh), NetOk R ss bb → bb ≤ 1900 → C i_check_net [netD R ss] h = .ok (.non, h)
  kin : ∀ {R : Nat} {ss : List (Nat × Rat)} (h : Hh), ss.length ≤ 14 → C i_kinds_of [netD R ss] h = .ok (.tup (klD (kds ss)), h)
  owl : ∀ {R : Nat} {ks : List Nat} (h : Hh), R ≤ 4 → (∀ k ∈ ks, k + 1 < 2 * R) → ks.length ≤ 14 → C i_order_with_left [.int R, .tup (klD ks)] h = .ok (.tup [.tup (I (ord R ks)), .lst (I (lef R ks))], h)
theorem of_ (k : Nat) : Of (run false defs (k + 5)) :=
  ⟨fun h H hb => c_check k H hb, fun h hl => c_kinds (k + 4) hl, fun h hR hk hl => c_owl (k + 3) hR hk hl⟩
theorem c_order (k : Nat) {R bb : Nat} {ss : List (Nat × Rat)} (H : NetOk R ss bb) (hb : bb ≤ 1900 := by omega) : run false defs (k + 6) i_order [netD R ss] h = .ok (.tup (I (ord R (kds ss))), h) := by
  have F := of_ k
  refine run_rt rfl rfl (x := .tup (I (ord R (kds ss)))) (h1 := h) ?_ (fin_self (by rw [pln]; exact I_pln _))
  generalize run false defs (k + 5) = C at *
  have e1 := F.chk h H hb
  have e2 := F.kin (R := R) h H.len
  have e3 := F.owl h H.hi (kds_ok H) (by rw [kds_len]; exact H.len)
  generalize I (ord R (kds ss)) = a at *
  generalize I (lef R (kds ss)) = b at *
  generalize klD (kds ss) = q at *
  simp only [t_order]
  exact snx (r1 := [some (netD R ss)]) (h1 := h) (by simp [e1]) (ss_rt (by simp [e2, e3]))
theorem c_freedom (k : Nat) {R bb : Nat} {ss : List (Nat × Rat)} (H : NetOk R ss bb) (hb : bb ≤ 1900 := by omega) : run false defs (k + 6) i_freedom [netD R ss] h = .ok (.int ((lef R (kds ss)).length : Nat), h) := by
  have F := of_ k
  refine run_rt rfl rfl (x := .int ((lef R (kds ss)).length : Nat)) (h1 := h) ?_ (fin_self rfl)
  generalize run false defs (k + 5) = C at *
  have e1 := F.chk h H hb
  have e2 := F.kin (R := R) h H.len
  have e3 := F.owl h H.hi (kds_ok H) (by rw [kds_len]; exact H.len)
  have ll : (I (lef R (kds ss))).length = (lef R (kds ss)).length := I_len
  generalize I (ord R (kds ss)) = a at *
  generalize I (lef R (kds ss)) = b at *
  generalize klD (kds ss) = q at *
  simp only [t_freedom]
  exact snx (r1 := [some (netD R ss)]) (h1 := h) (by simp [e1]) (ss_rt (by simp [e2, e3, ll]))
/-! ## the law's own order -/
theorem numb_I (r : List Int) : numb 0 (I r) = (List.range r.length).map fun i => D.pr (.int (i : Nat)) (.int (r.getD i 0)) := by
  have e : numb 0 (I r) = r.zipIdx.map fun p => .pr (.int (p.2 : Nat)) (.int p.1) := numb_zip D.int r 0
  rw [e]
  apply List.ext_getElem?
  intro i
  rw [List.getElem?_map, List.getElem?_zipIdx, List.getElem?_map]
  by_cases hi : i < r.length
  · simp [hi, List.getD, List.getElem?_eq_getElem hi]
  · simp [hi]
theorem c_count (k : Nat) {r : List Int} (hr : r.length ≤ 8) : run false defs (k + 1) i_count_pairs [.tup (I r)] h = .ok (.int (inv r : Nat), h) := by
  refine run_rt rfl rfl (x := .int (inv r : Nat)) (h1 := h) ?_ (fin_self rfl)
  generalize run false defs k = C
  have ei : ∀ (x1 x2 x3 : Option D) h, evI C (.enum (.v 0)) [some (.tup (I r)), x1, x2, x3] h = .ok (((List.range r.length).map fun i => D.pr (.int (i : Nat)) (.int (r.getD i 0)), none), h) := fun x1 x2 x3 h => by
    rw [← numb_I]
    simp
  have inner : ∀ i, i < r.length → ∀ h, evE C (.bi .len false (.cons (.comp false [3] (.name 3) (.seq (.sl (.v 0) (.some (.v 1)) .none)) (.some (.cmp .lt (.v 3) (.v 2))) (.v 3)) .nil)) [some (.tup (I r)), some (.int (i : Nat)), some (.int (r.getD i 0)), none] h = .ok (.int (cntA r i : Nat), h) := fun i hi h => by
    have s1 := sl_drop (xs := I r) (k := i) (h := h)
    rw [I_drop] at s1
    have f := comp_fil (C := C) (m := false) (own := [3]) (g := .name 3) (it := .seq (.sl (.v 0) (.some (.v 1)) .none)) (t := .cmp .lt (.v 3) (.v 2)) (elt := .v 3)
      (r := [some (.tup (I r)), some (.int (i : Nat)), some (.int (r.getD i 0)), none]) (h := h) (xs := r.drop i) D.int D.int (fun y => [some (.tup (I r)), some (.int (i : Nat)), some (.int (r.getD i 0)), some (.int y)]) (fun y => decide (y < r.getD i 0))
      (by simp [s1]; simp [I]) (by rw [List.length_drop]; omega) fun y hy => ⟨rfl, by simp, fun _ => by simp⟩
    have ll : ∀ (m : Bool) (h : Hh), biD .len m [.lst (((r.drop i).filter fun y => decide (y < r.getD i 0)).map D.int)] h = .ok (.int (cntA r i : Nat), h) := fun m h => by
      have : biD .len m [.lst (((r.drop i).filter fun y => decide (y < r.getD i 0)).map D.int)] h = .ok (.int ((((r.drop i).filter fun y => decide (y < r.getD i 0)).map D.int).length : Nat), h) := rfl
      rw [this, List.length_map]
      rfl
    generalize r.getD i 0 = w at *
    simp [-E_25, f, ll]
  have f := comp_it (C := C) (m := false) (own := [1, 2]) (g := .tup (.cons (.name 1) (.cons (.name 2) .nil))) (it := .enum (.v 0)) (elt := .bi .len false (.cons (.comp false [3] (.name 3) (.seq (.sl (.v 0) (.some (.v 1)) .none)) (.some (.cmp .lt (.v 3) (.v 2))) (.v 3)) .nil))
    (r := [some (.tup (I r)), none, none, none]) (h := h) (xs := List.range r.length) (fun i => D.pr (.int (i : Nat)) (.int (r.getD i 0))) (fun i => .int (cntA r i : Nat)) (fun i => [some (.tup (I r)), some (.int (i : Nat)), some (.int (r.getD i 0)), none])
    (ei _ _ _ _) (by simp; omega) fun i hi => ⟨rfl, inner i (by simpa using hi) h⟩
  have sm : ∀ (m : Bool) (h : Hh), biD .sum m [.lst ((List.range r.length).map fun i => .int (cntA r i : Nat))] h = .ok (.int (inv r : Nat), h) := fun m h => by
    have e1 : ((List.range r.length).map fun i => D.int (cntA r i : Nat)) = I ((List.range r.length).map fun i => ((cntA r i : Nat) : Int)) := by simp [I]
    rw [e1]
    simp only [biD, one, lstOf, intL_I, cntS_sum, cntS_inv]
  simp only [t_count_pairs]
  exact ss_rt (by simp [-E_25, f, sm])
theorem cat_ok {R bb : Nat} {ss tt : List (Nat × Rat)} (H1 : NetOk R ss bb) (H2 : NetOk R tt bb) (hl : ss.length + tt.length ≤ 14) : NetOk R (ss ++ tt) bb :=
  ⟨H1.lo, H1.hi, by rw [List.length_append]; exact hl, fun s hs => (List.mem_append.mp hs).elim (H1.st s) (H2.st s)⟩
theorem b_joined {R : Nat} {ss tt : List (Nat × Rat)} (e1 : C i_check_net [netD R ss] h = .ok (.non, h)) (e2 : C i_check_net [netD R tt] h = .ok (.non, h)) (hl : ss.length + tt.length ≤ 14) :
    W (evSs C t_joined.body [some (netD R ss), some (netD R tt)] h) fun o => o = .rt (netD R (ss ++ tt)) h := by
  simp only [t_joined]
  refine wst (by simp [e1]; rfl) ?_
  simp only [cont_nx]
  refine wst (by simp [e2]; rfl) ?_
  simp only [cont_nx]
  have n1 := ne_refl (a := .int R) (h := h) rfl (by simp [dep])
  refine wst (by simp [n1]; rfl) ?_
  simp only [cont_nx]
  have c' : ¬ 14 < (ss.length : Int) + (tt.length : Int) := by omega
  refine wst (by simp [c']; rfl) ?_
  simp only [cont_nx]
  have ad := add_tup (xs := ss.map stD) (ys := tt.map stD) (m := false) (h := h) (by simp; omega)
  exact wrt (d := netD R (ss ++ tt)) (h1 := h) (by simp [ad, netD]) rfl
theorem c_joined (k : Nat) {R b1 b2 : Nat} {ss tt : List (Nat × Rat)} (H1 : NetOk R ss b1) (H2 : NetOk R tt b2) (hl : ss.length + tt.length ≤ 14) (hb1 : b1 ≤ 1900 := by omega) (hb2 : b2 ≤ 1900 := by omega) : run false defs (k + 6) i_joined [netD R ss, netD R tt] h = .ok (netD R (ss ++ tt), h) := by
  obtain ⟨o, e, rfl⟩ := b_joined (C := run false defs (k + 5)) (c_check (h := h) k H1) (c_check k H2) hl
  exact run_rt rfl rfl e (fin_self pln_net)
theorem all_true {α : Type} (xs : List α) (m : Bool) (h : Hh) : biD .all m [.lst (xs.map fun _ => D.bl true)] h = .ok (.bl true, h) := by
  have e : blL (xs.map fun _ => D.bl true) = some (xs.map fun _ => true) := by
    induction xs with
    | nil => rfl
    | cons x xs ih => simp only [List.map_cons, blL, ih, Option.map_some]
  simp only [biD, one, lstOf, e]
  simp
theorem b_check_order {R : Nat} {r : List Int} (h2 : 2 ≤ R) (h4 : R ≤ 4) (p : r.Perm (rng0 (2 * R)))
    (bt : ∀ (v lo hi : Int) h, C i_is_between [.int v, .int lo, .int hi] h = .ok (.bl (decide (lo ≤ v ∧ v ≤ hi)), h)) :
    evSs C t_check_order.body [some (.tup (I r)), none] h = .ok (.nx [some (.tup (I r)), none] h) := by
  have pl : r.length = 2 * R := by rw [p.length_eq, rng0_len]
  have nd : r.Nodup := p.nodup_iff.mpr rng0_nd
  have bd : ∀ x ∈ r, (0 : Int) ≤ x ∧ x ≤ (r.length : Int) - 1 := fun x hx => by
    have := p.mem_iff.mp hx
    unfold rng0 at this
    obtain ⟨i, hi, rfl⟩ := List.mem_map.mp this
    have := List.mem_range.mp hi
    simp only [Int.ofNat_eq_natCast]
    omega
  have ln : ∀ (m : Bool) (h : Hh), biD .len m [.tup (I r)] h = .ok (.int (r.length : Nat), h) := fun m h => by
    have : biD .len m [.tup (I r)] h = .ok (.int ((I r).length : Nat), h) := rfl
    rw [this, I_len]
  have n1 : cmpD .nin h (.int (r.length : Nat)) (.tup [.int 4, .int 6, .int 8]) = .ok false := by
    have := ninI_t (a := [4, 6, 8]) (x := (r.length : Int)) (h := h)
    rw [decide_eq_true (by rw [pl]; simp; omega)] at this
    exact this
  have f := comp_seq (C := C) (m := false) (own := [1]) (g := .name 1) (a := .v 0) (elt := .call i_is_between (.cons (.v 1) (.cons (.ci 0) (.cons (.op .sub false (.bi .len false (.cons (.v 0) .nil)) (.ci 1)) .nil))))
    (r := [some (.tup (I r)), none]) (h := h) (d := .tup (I r)) (xs := r) D.int (fun _ => .bl true) (fun x => [some (.tup (I r)), some (.int x)]) (by simp) rfl (by omega) fun x hx => ⟨rfl, by
      have := bt x 0 ((r.length : Int) - 1) h
      rw [decide_eq_true (bd x hx)] at this
      simp [ln, this]⟩
  have ls : evE C (.lset (.v 0)) [some (.tup (I r)), none] h = .ok (.int (r.length : Nat), h) := by
    have h1 : r.length ≤ 4000 := by omega
    simp only [E_38, E_0, bind_ok]
    simp [intL_I, h1, dst_nd r nd]
  have n2 := ne_refl (a := .int (r.length : Nat)) (h := h) rfl (by simp [dep])
  have at_ := all_true r false h
  simp only [t_check_order]
  refine snx (r1 := [some (.tup (I r)), none]) (h1 := h) (by simp [ln, n1]) ?_
  refine snx (r1 := [some (.tup (I r)), none]) (h1 := h) (by simp [-E_25, f, at_]) ?_
  refine snx (r1 := [some (.tup (I r)), none]) (h1 := h) (by simp [-E_38, ls, ln, n2]) ?_
  simp only [Ss_0]
theorem c_pairs (k : Nat) {R : Nat} {r : List Int} (h2 : 2 ≤ R) (h4 : R ≤ 4) (p : r.Perm (rng0 (2 * R))) : run false defs (k + 3) i_pairs_of [.tup (I r)] h = .ok (.int (inv r : Nat), h) := by
  have pl : r.length = 2 * R := by rw [p.length_eq, rng0_len]
  have e1 : run false defs (k + 2) i_check_order [.tup (I r)] h = .ok (.non, h) := run_nx rfl rfl (b_check_order (C := run false defs (k + 1)) h2 h4 p fun v lo hi h => c_between k v lo hi) (fin_self rfl)
  have e2 := c_count (h := h) (k + 1) (r := r) (by omega)
  refine run_rt rfl rfl (x := .int (inv r : Nat)) (h1 := h) ?_ (fin_self rfl)
  generalize run false defs (k + 2) = C at *
  simp only [t_pairs_of]
  exact snx (r1 := [some (.tup (I r))]) (h1 := h) (by simp [e1]) (ss_rt (by simp [e2]))
end
section
variable {C : Cal} {ns : List Int} {h : Hh}
theorem c_divided (k : Nat) {a b : Rat} (ha : Bd 2000 a) (hb : Bd 2000 b) (h0 : 0 < b.num) : run false defs (k + 3) i_divided [fr a, fr b] h = .ok (fr (a / b), h) := by
  refine run_rt rfl rfl (x := fr (a / b)) (h1 := h) ?_ (fin_self rfl)
  have e := c_reduced (h := h) k (a.num * b.den) (a.den * b.num.natAbs) (Nat.mul_pos a.den_pos (by omega)) (Nat.lt_of_lt_of_le (mul_bits ha.2 hb.1) (Nat.pow_le_pow_right (by decide) (by decide)))
  rw [← div_mk h0, Int.natCast_mul, show ((b.num.natAbs : Nat) : Int) = b.num by omega] at e
  have l1 := ha.nd hb (by decide)
  have l2 := hb.nd ha (by decide)
  have l3 : (a.den : Int).natAbs.log2 + b.num.natAbs.log2 < 1000000 := by omega
  generalize run false defs (k + 2) = C at *
  simp [t_divided, op_mul_int l1, op_mul_int l3, e]
/-- fractions' facts -/
structure Qf (C : Cal) : Prop where
  plus : ∀ {a b : Rat} (h : Hh), Bd 4000 a → Bd 4000 b → C i_plus [fr a, fr b] h = .ok (fr (a + b), h)
  times : ∀ {a b : Rat} (h : Hh), Bd 4000 a → Bd 4000 b → C i_times [fr a, fr b] h = .ok (fr (a * b), h)
  div : ∀ {a b : Rat} (h : Hh), Bd 2000 a → Bd 2000 b → 0 < b.num → C i_divided [fr a, fr b] h = .ok (fr (a / b), h)
theorem qf (k : Nat) : Qf (run false defs (k + 3)) := ⟨fun h a b => c_plus k a b, fun h a b => c_times k a b, fun h a b c => c_divided k a b c⟩
theorem stD_eq {k : Nat} {q : Rat} : D.tup [.int (k : Nat), fr q] = stD (k, q) := rfl
theorem pln_steps {ss : List (Nat × Rat)} : pln (.tup (ss.map stD)) = true := by rw [pln]; exact plnL_map stD (fun _ => pln_st) ss
theorem abs_sub {a b : Nat} {m : Bool} {h : Hh} : biD .abs m [.int ((a : Int) - (b : Int))] h = .ok (.int ((a - b + (b - a) : Nat) : Int), h) := by
  show Res.ok (D.int (if (a : Int) - (b : Int) < 0 then -((a : Int) - (b : Int)) else (a : Int) - (b : Int)), h) = _
  congr 3
  split <;> omega
end
section
variable {C : Cal} {ns : List Int} {h : Hh}
end
section
variable {C : Cal} {ns : List Int} {h : Hh}
theorem b_three (F : Qf C) {i j : Nat} {a b c : Rat} (ba : Bd 100 a) (bb : Bd 100 b) (bc : Bd 100 c) (hw : 0 < (wh a b c).num) :
    evSs C t_turned_three.body [some (.tup [stD (i, a), stD (j, b), stD (i, c)]), none, none, none, none, none, none, none, none] h = .ok (.rt (.tup [stD (j, b * c / wh a b c), stD (i, wh a b c), stD (j, a * b / wh a b c)]) h) := by
  have bp := bb.mul bc
  have bw : Bd 1000 (wh a b c) := by
    have := (ba.add bc).add ((ba.mul bb).mul bc)
    exact this.mono (by decide)
  have e : a + c + a * (b * c) = wh a b c := by unfold wh; rw [Rat.mul_assoc]
  have t1 := fun h => F.times h (bb.mono (by decide)) (bc.mono (by decide) : Bd 4000 c)
  have t2 := fun h => F.plus h (ba.mono (by decide)) (bc.mono (by decide) : Bd 4000 c)
  have t3 := fun h => F.times h (ba.mono (by decide)) (bp.mono (by decide) : Bd 4000 (b * c))
  have t4 := fun h => F.plus h ((ba.add bc).mono (by decide)) ((ba.mul bp).mono (by decide) : Bd 4000 (a * (b * c)))
  rw [e] at t4
  have t5 := fun h => F.div h (bp.mono (by decide)) (bw.mono (by decide)) hw
  have t6 := fun h => F.times h (ba.mono (by decide)) (bb.mono (by decide) : Bd 4000 b)
  have t7 := fun h => F.div h ((ba.mul bb).mono (by decide)) (bw.mono (by decide)) hw
  simp only [t_turned_three]
  refine sstep (o := .ok (.nx [some (.tup [stD (i, a), stD (j, b), stD (i, c)]), some (.int (i : Nat)), some (fr a), some (.int (j : Nat)), some (fr b), some (.int (i : Nat)), some (fr c), none, none] h)) (by rw [S_0, E_0]; rfl) ?_
  simp only [cont_nx]
  refine sstep (by simp [t1, tgD]; rfl) ?_
  simp only [cont_nx, List.set_cons_succ, List.set_cons_zero]
  refine sstep (by simp [t2, t3, t4, tgD]; rfl) ?_
  simp only [cont_nx, List.set_cons_succ, List.set_cons_zero]
  simp [t5, t6, t7, stD]
theorem kl_get2 {ks : List Nat} {n a : Nat} (e : ks[n]? = some a) : (klD ks)[n]? = some (.int (a : Nat)) := by
  unfold klD
  rw [List.getElem?_map, e]
  rfl
theorem take_one {α : Type} {xs : List α} {n : Nat} : (xs.drop n).take 1 = xs[n]?.toList := by
  by_cases h : n < xs.length
  · rw [List.drop_eq_getElem_cons h, List.getElem?_eq_getElem h]
    rfl
  · rw [List.drop_eq_nil_of_le (by omega), List.getElem?_eq_none (by omega)]
    rfl
theorem fm_len (ks : List Nat) : ∀ n, ((List.range n).flatMap (mvsAt ks)).length ≤ n
  | 0 => by simp
  | n + 1 => by
    have ih := fm_len ks n
    rw [List.range_succ, List.flatMap_append, List.length_append]
    have : (mvsAt ks n).length ≤ 1 := by
      unfold mvsAt
      repeat' split
      all_goals simp
    simp only [List.flatMap_cons, List.flatMap_nil, List.append_nil]
    omega
theorem mvs_len (ks : List Nat) : (mvs ks).length ≤ ks.length := Nat.le_trans (fm_len ks _) (Nat.sub_le _ _)
theorem fm_succ (ks : List Nat) (n : Nat) : (List.range (n + 1)).flatMap (mvsAt ks) = (List.range n).flatMap (mvsAt ks) ++ mvsAt ks n := by
  rw [List.range_succ, List.flatMap_append]
  simp
theorem rangeZ {C : Cal} {r : Ev} {h : Hh} {a : Ex} {n : Nat} {v : Int} (e : evE C a r h = .ok (.int v, h)) (hv : v.toNat = n) (hn : n ≤ 1000000) (h0 : -1000 ≤ v) : evI C (.range 1 (.cons a .nil)) r h = .ok (((List.range n).map fun i => .int (i : Nat), none), h) := by
  by_cases z : 0 ≤ v
  · exact rangeI e (by omega) hn
  · refine range_aux (ds := [.int v]) (by simp only [Es_1, Es_0, e, bind_ok]) rfl ?_
    have e1 : rgOk 0 v = true := by unfold rgOk; rw [decide_eq_true_eq]; omega
    show (if rgOk 0 v = true then some (rgD 0 v) else none) = _
    rw [if_pos e1]
    unfold rgD
    rw [show (v - 0).toNat = 0 by omega, show n = 0 by omega]
    rfl
theorem eq_str {x y : Str} {h : Hh} (hx : PyData.strOk x = true) (hy : PyData.strOk y = true) : cmpD .eq h (.str x) (.str y) = .ok (x == y) := by
  show eqD h _ _ = _
  unfold eqD drf
  rw [if_pos ⟨by simp only [pln]; exact hx, by simp only [pln]; exact hy, by simp [dep], by simp [dep]⟩]
  simp only [deq]
theorem nm_ok (m : Mv) : PyData.strOk m.nm = true := by
  cases m
  · exact sok_join
  · exact sok_swap
  · exact sok_turn
theorem q_join (m : Mv) (h : Hh) : cmpD .eq h (.str m.nm) (.str "join") = .ok (match m with | .join _ => true | _ => false) := by
  rw [eq_str (nm_ok m) sok_join]
  cases m with
  | join n => exact congrArg Res.ok (beq_self_eq_true _)
  | swap n => exact congrArg Res.ok (by show (Str.ofString "swap" == Str.ofString "join") = false; decide +kernel)
  | turn n => exact congrArg Res.ok (by show (Str.ofString "turn" == Str.ofString "join") = false; decide +kernel)
theorem q_swap (m : Mv) (h : Hh) : cmpD .eq h (.str m.nm) (.str "swap") = .ok (match m with | .swap _ => true | _ => false) := by
  rw [eq_str (nm_ok m) sok_swap]
  cases m with
  | join n => exact congrArg Res.ok (by show (Str.ofString "join" == Str.ofString "swap") = false; decide +kernel)
  | swap n => exact congrArg Res.ok (beq_self_eq_true _)
  | turn n => exact congrArg Res.ok (by show (Str.ofString "turn" == Str.ofString "swap") = false; decide +kernel)
theorem at_pre {pre post : List (Nat × Rat)} {x : Nat × Rat} {h : Hh} : ixD (.tup ((pre ++ x :: post).map stD)) (.int (pre.length : Nat)) h = .ok (stD x) := ix_tup (by rw [List.getElem?_map, List.getElem?_append_right (Nat.le_refl _)]; simp)
theorem at_pre1 {pre post : List (Nat × Rat)} {x y : Nat × Rat} {h : Hh} : ixD (.tup ((pre ++ x :: y :: post).map stD)) (.int ((pre.length : Int) + 1)) h = .ok (stD y) :=
  ix_tup (n := pre.length + 1) (by rw [List.getElem?_map, List.getElem?_append_right (by omega)]; simp)
theorem sl_pre {pre post : List (Nat × Rat)} {h : Hh} : slD (.tup ((pre ++ post).map stD)) none (some (pre.length : Int)) h = .ok (.tup (pre.map stD)) := by
  rw [sl_take, ← List.map_take, List.take_left]
theorem sl_post {pre mid post : List (Nat × Rat)} {n : Nat} {h : Hh} (hn : n = (pre ++ mid).length) : slD (.tup ((pre ++ (mid ++ post)).map stD)) (some (n : Int)) none h = .ok (.tup (post.map stD)) := by
  rw [sl_drop, ← List.map_drop, ← List.append_assoc, hn, List.drop_left]
theorem sl_of3 {pre mid post : List (Nat × Rat)} {n : Nat} {h : Hh} (hn : n = (pre ++ mid).length) : slD (.tup ((pre ++ (mid ++ post)).map stD)) (some (pre.length : Int)) (some (n : Int)) h = .ok (.tup (mid.map stD)) := by
  rw [sl_mid, ← List.map_drop, ← List.map_take, List.drop_left, hn, List.length_append, Nat.add_sub_cancel_left, List.take_left]
theorem cat3 {a b c : List D} {h : Hh} (l : a.length + b.length + c.length ≤ 100) : (opD .add false (.tup a) (.tup b) h >>= fun x => opD .add false x.1 (.tup c) x.2) = .ok (.tup (a ++ b ++ c), h) := by
  rw [add_tup (by omega), bind_ok]
  exact add_tup (by rw [List.length_append]; omega)
/-- sizes of all steps -/
def SzS (b : Nat) (ss : List (Nat × Rat)) : Prop := ∀ s ∈ ss, Bd b s.2 ∧ 0 < s.2
theorem c_three (k : Nat) {i j : Nat} {a b c : Rat} (ba : Bd 100 a) (bb : Bd 100 b) (bc : Bd 100 c) (hw : 0 < (wh a b c).num) :
    run false defs (k + 4) i_turned_three [.tup [stD (i, a), stD (j, b), stD (i, c)]] h = .ok (.tup [stD (j, b * c / wh a b c), stD (i, wh a b c), stD (j, a * b / wh a b c)], h) :=
  run_rt rfl rfl (b_three (qf k) ba bb bc hw) (fin_self rfl)
theorem mv_0 {m : Mv} {h : Hh} : ixD (mvD m) (.int 0) h = .ok (.str m.nm) := ix_t0
theorem mv_1 {m : Mv} {h : Hh} : ixD (mvD m) (.int 1) h = .ok (.int (m.at : Nat)) := ix_t1
theorem mv_t {m : Mv} {b : Bool} {h : Hh} : biD (.isi "tuple") b [mvD m] h = .ok (.bl true, h) := (rfl)
theorem mv_l {m : Mv} {b : Bool} {h : Hh} : biD .len b [mvD m] h = .ok (.int 2, h) := (rfl)
theorem isi_ss {s : Str} {b : Bool} {h : Hh} : biD (.isi "str") b [.str s] h = .ok (.bl true, h) := (rfl)
theorem isi_bs {s : Str} {b : Bool} {h : Hh} : biD (.isi "bool") b [.str s] h = .ok (.bl false, h) := (rfl)
theorem isi_bi {s : Int} {b : Bool} {h : Hh} : biD (.isi "bool") b [.int s] h = .ok (.bl false, h) := (rfl)
theorem isi_bb {s : Bool} {b : Bool} {h : Hh} : biD (.isi "bool") b [.bl s] h = .ok (.bl true, h) := (rfl)
theorem isi_ii {s : Int} {b : Bool} {h : Hh} : biD (.isi "int") b [.int s] h = .ok (.bl true, h) := (rfl)
theorem isi_is {s : Str} {b : Bool} {h : Hh} : biD (.isi "int") b [.str s] h = .ok (.bl false, h) := (rfl)
theorem isi_tt {xs : List D} {b : Bool} {h : Hh} : biD (.isi "tuple") b [.tup xs] h = .ok (.bl true, h) := (rfl)
theorem isi_tn {b : Bool} {h : Hh} : biD (.isi "tuple") b [.non] h = .ok (.bl false, h) := (rfl)
theorem isi_tl {xs : List D} {b : Bool} {h : Hh} : biD (.isi "tuple") b [.lst xs] h = .ok (.bl false, h) := (rfl)
theorem nin_mvs {L : List Mv} {a : D} {h : Hh} (hf : flat a = false) (hp : pln a = true) (hd : dep a ≤ 60) : cmpD .nin h a (.lst (sortL (L.map mvD))) = .ok (!((L.map mvD).any fun y => deq y a)) := by
  show (inD h a _ >>= fun t => Res.ok (!t)) = _
  rw [in_mvs (L := L) (.inl rfl) hf hp hd]
  rfl
theorem nin_mvt {L : List Mv} {a : D} {h : Hh} (hf : flat a = false) (hp : pln a = true) (hd : dep a ≤ 60) : cmpD .nin h a (.tup (sortL (L.map mvD))) = .ok (!((L.map mvD).any fun y => deq y a)) := by
  show (inD h a _ >>= fun t => Res.ok (!t)) = _
  rw [in_mvs (L := L) (.inl rfl) hf hp hd]
  rfl
theorem in_due {L : List Mv} {a c : D} {h : Hh} (hc : seqOf h c = some (L.map mvD)) (hf : flat a = false) (hp : pln a = true) (hd : dep a ≤ 60) : cmpD .inn h a c = .ok ((L.map mvD).any fun y => deq y a) := by
  show inD h a c = _
  exact in_mvs (.inr hc) hf hp hd
theorem nin_due {L : List Mv} {a c : D} {h : Hh} (hc : seqOf h c = some (L.map mvD)) (hf : flat a = false) (hp : pln a = true) (hd : dep a ≤ 60) : cmpD .nin h a c = .ok (!((L.map mvD).any fun y => deq y a)) := by
  show (inD h a c >>= fun t => Res.ok (!t)) = _
  rw [in_mvs (.inr hc) hf hp hd]
  rfl
theorem flat_mv {m : Mv} : flat (mvD m) = false := rfl
/-- no move of these steps -/
inductive BadMv (L : List Mv) : D → Prop
  | non : BadMv L .non
  | lst (xs) : BadMv L (.lst xs)
  | len (xs) (h : xs.length ≠ 2) (h2 : xs.length ≤ 10) : BadMv L (.tup xs)
  | bol (s b) : BadMv L (.tup [.str s, .bl b])
  | str (s b) : BadMv L (.tup [.str s, .str b])
  | int (s) (z : Int) (hs : PyData.strOk s = true) (h : ∀ m ∈ L, ¬ (m.nm = s ∧ (m.at : Int) = z)) : BadMv L (.tup [.str s, .int z])
theorem netok_szs {R bb : Nat} {ss : List (Nat × Rat)} (H : NetOk R ss bb) (hb : bb ≤ 100) : SzS 100 ss := fun s hs => ⟨(H.st s hs).bd.mono hb, pos_num (H.st s hs).pos⟩
end
section
variable {C : Cal} {rest : Hh} {ns : List Int}
end
section
variable {C : Cal} {ns : List Int} {h : Hh}
/-! ## forms -/
/-- sizes of all least steps that do the same as drawn ones -/
def PB (q : Rat) : Prop := Bd 990 q
theorem b_three2 (F : Qf C) {i j : Nat} {a b c : Rat} (ba : PB a) (bb : PB b) (bc : PB c) (bw : PB (El.wh a b c)) (hw : 0 < (El.wh a b c).num) :
    evSs C t_turned_three.body [some (.tup [stD (i, a), stD (j, b), stD (i, c)]), none, none, none, none, none, none, none, none] h = .ok (.rt (.tup [stD (j, b * c / El.wh a b c), stD (i, El.wh a b c), stD (j, a * b / El.wh a b c)]) h) := by
  have bp := Bd.mul bb bc
  have e : a + c + a * (b * c) = El.wh a b c := by unfold El.wh; rw [Rat.mul_assoc]
  have t1 := fun h => F.times h (Bd.mono bb (by decide)) (Bd.mono bc (by decide) : Bd 4000 c)
  have t2 := fun h => F.plus h (Bd.mono ba (by decide)) (Bd.mono bc (by decide) : Bd 4000 c)
  have t3 := fun h => F.times h (Bd.mono ba (by decide)) (bp.mono (by decide) : Bd 4000 (b * c))
  have t4 := fun h => F.plus h ((Bd.add ba bc).mono (by decide)) ((Bd.mul ba bp).mono (by decide) : Bd 4000 (a * (b * c)))
  rw [e] at t4
  have t5 := fun h => F.div h (bp.mono (by decide)) (Bd.mono bw (by decide)) hw
  have t6 := fun h => F.times h (Bd.mono ba (by decide)) (Bd.mono bb (by decide) : Bd 4000 b)
  have t7 := fun h => F.div h ((Bd.mul ba bb).mono (by decide)) (Bd.mono bw (by decide)) hw
  simp only [t_turned_three]
  refine sstep (o := .ok (.nx [some (.tup [stD (i, a), stD (j, b), stD (i, c)]), some (.int (i : Nat)), some (fr a), some (.int (j : Nat)), some (fr b), some (.int (i : Nat)), some (fr c), none, none] h)) (by rw [S_0, E_0]; rfl) ?_
  simp only [cont_nx]
  refine sstep (by simp [t1, tgD]; rfl) ?_
  simp only [cont_nx, List.set_cons_succ, List.set_cons_zero]
  refine sstep (by simp [t2, t3, t4, tgD]; rfl) ?_
  simp only [cont_nx, List.set_cons_succ, List.set_cons_zero]
  simp [t5, t6, t7, stD]
theorem c_three2 (k : Nat) {i j : Nat} {a b c : Rat} (ba : PB a) (bb : PB b) (bc : PB c) (bw : PB (El.wh a b c)) (hw : 0 < (El.wh a b c).num) : run false defs (k + 4) i_turned_three [.tup [stD (i, a), stD (j, b), stD (i, c)]] h = .ok (.tup ((El.tr3 i j a b c).map stD), h) :=
  run_rt rfl rfl (b_three2 (qf k) ba bb bc bw hw) (fin_self (pln_steps (ss := El.tr3 i j a b c)))
theorem st_0 {s : Nat × Rat} {h : Hh} : ixD (stD s) (.int 0) h = .ok (.int (s.1 : Nat)) := ix_t0
theorem st_1 {s : Nat × Rat} {h : Hh} : ixD (stD s) (.int 1) h = .ok (fr s.2) := ix_t1
theorem b_te1 {tt : List (Nat × Rat)} {k : Nat} {a : Rat} : evSs C t_to_end.body [some (.tup ((tt ++ [(k, a)]).map stD)), some (.int (k : Nat)), none, none] h = .ok (.rt (.tup ((tt ++ [(k, a)]).map stD)) h) := by
  rw [List.map_append, List.map_cons, List.map_nil]
  have i1 := fun h => ix_last (xs := tt.map stD) (d := stD (k, a)) (h := h)
  have i2 := fun h => st_0 (s := (k, a)) (h := h)
  generalize stD (k, a) = s at *
  generalize tt.map stD = T at *
  simp only [t_to_end]
  refine sstep (by simp [i1, i2, tgD]; rfl) ?_
  simp only [cont_nx, List.set_cons_succ, List.set_cons_zero]
  have q := fun h => eqD_refl (a := .int (k : Nat)) (h := h) rfl (by simp [dep])
  have q : ∀ h, cmpD .eq h (.int (k : Nat)) (.int (k : Nat)) = .ok true := q
  simp [q]
theorem b_te2 {tt us : List (Nat × Rat)} {k l : Nat} {a b : Rat} (hl : us.length ≤ 14) (far : k + 1 < l ∨ l + 1 < k) (e1 : ∀ h, C i_to_end [.tup (tt.map stD), .int (k : Nat)] h = .ok (.tup ((us ++ [(k, b)]).map stD), h)) :
    evSs C t_to_end.body [some (.tup ((tt ++ [(l, a)]).map stD)), some (.int (k : Nat)), none, none] h = .ok (.rt (.tup ((us ++ [(l, a), (k, b)]).map stD)) h) := by
  rw [List.map_append, List.map_cons, List.map_nil] at e1 ⊢
  rw [List.map_append, List.map_cons, List.map_cons, List.map_nil]
  have i1 := fun h => ix_last (xs := tt.map stD) (d := stD (l, a)) (h := h)
  have i2 := fun h => st_0 (s := (l, a)) (h := h)
  have i3 := fun h => ix_last (xs := us.map stD) (d := stD (k, b)) (h := h)
  have s1 := fun h => sl_init (xs := tt.map stD) (ys := [stD (l, a)]) (i := -1) (h := h) rfl (Nat.succ_pos _)
  have s2 := fun h => sl_init (xs := us.map stD) (ys := [stD (k, b)]) (i := -1) (h := h) rfl (Nat.succ_pos _)
  have ad := fun h => add_tup (xs := us.map stD) (ys := [stD (l, a), stD (k, b)]) (m := false) (h := h) (by simp; omega)
  generalize stD (l, a) = s at *
  generalize stD (k, b) = s' at *
  generalize us.map stD = U at *
  generalize tt.map stD = T at *
  have ab := fun h => abs_sub (a := l) (b := k) (m := false) (h := h)
  have nq : ∀ h, cmpD .eq h (.int (l : Nat)) (.int (k : Nat)) = .ok false := fun h => by
    have : ¬ ((l : Int) = (k : Int)) := by omega
    simp [this]
  have c1 : (1 : Int) < ((l - k + (k - l) : Nat) : Int) := by omega
  simp only [t_to_end]
  refine sstep (by simp [i1, i2, tgD]; rfl) ?_
  simp only [cont_nx, List.set_cons_succ, List.set_cons_zero]
  refine sstep (by simp [nq]; rfl) ?_
  simp only [cont_nx]
  generalize ((l - k + (k - l) : Nat) : Int) = far at *
  simp [ab, c1, s1, e1, tgD, s2, i1, i3, ad]
theorem b_te3 {tt us vs : List (Nat × Rat)} {k l : Nat} {a b c : Rat} (hl : us.length ≤ 14) (hv : vs.length ≤ 14) (near : k + 1 = l ∨ l + 1 = k) (e1 : ∀ h, C i_to_end [.tup (tt.map stD), .int (k : Nat)] h = .ok (.tup ((us ++ [(k, b)]).map stD), h))
    (e2 : ∀ h, C i_to_end [.tup (us.map stD), .int (l : Nat)] h = .ok (.tup ((vs ++ [(l, c)]).map stD), h)) (e3 : ∀ h, C i_turned_three [.tup [stD (l, c), stD (k, b), stD (l, a)]] h = .ok (.tup ((El.tr3 l k c b a).map stD), h)) :
    evSs C t_to_end.body [some (.tup ((tt ++ [(l, a)]).map stD)), some (.int (k : Nat)), none, none] h = .ok (.rt (.tup ((vs ++ El.tr3 l k c b a).map stD)) h) := by
  rw [List.map_append, List.map_cons, List.map_nil] at e1 e2 ⊢
  rw [List.map_append]
  have i1 := fun h => ix_last (xs := tt.map stD) (d := stD (l, a)) (h := h)
  have i2 := fun h => st_0 (s := (l, a)) (h := h)
  have s1 := fun h => sl_init (xs := tt.map stD) (ys := [stD (l, a)]) (i := -1) (h := h) rfl (Nat.succ_pos _)
  have s2 := fun h => sl_init (xs := us.map stD) (ys := [stD (k, b)]) (i := -1) (h := h) rfl (Nat.succ_pos _)
  have s3 := fun h => sl_tail (xs := us.map stD) (ys := [stD (k, b)]) (i := -1) (h := h) rfl (Nat.succ_pos _)
  have s4 := fun h => sl_tail (xs := tt.map stD) (ys := [stD (l, a)]) (i := -1) (h := h) rfl (Nat.succ_pos _)
  have s5 := fun h => sl_init (xs := vs.map stD) (ys := [stD (l, c), stD (k, b), stD (l, a)]) (i := -3) (h := h) rfl (Nat.succ_pos _)
  have s6 := fun h => sl_tail (xs := vs.map stD) (ys := [stD (l, c), stD (k, b), stD (l, a)]) (i := -3) (h := h) rfl (Nat.succ_pos _)
  have a1 := fun h => add_tup (xs := vs.map stD ++ [stD (l, c)]) (ys := [stD (k, b)]) (m := false) (h := h) (by simp; omega)
  have a2 := fun h => add_tup (xs := vs.map stD ++ [stD (l, c)] ++ [stD (k, b)]) (ys := [stD (l, a)]) (m := false) (h := h) (by simp; omega)
  have a3 := fun h => add_tup (xs := vs.map stD) (ys := (El.tr3 l k c b a).map stD) (m := false) (h := h) (by simp [El.tr3]; omega)
  have ap : vs.map stD ++ [stD (l, c)] ++ [stD (k, b)] ++ [stD (l, a)] = vs.map stD ++ [stD (l, c), stD (k, b), stD (l, a)] := by simp
  simp only [ap] at a2
  generalize (El.tr3 l k c b a).map stD = Z at *
  generalize stD (l, a) = s at *
  generalize stD (k, b) = s' at *
  generalize stD (l, c) = s'' at *
  generalize us.map stD = U at *
  generalize tt.map stD = T at *
  generalize vs.map stD = V at *
  have ab := fun h => abs_sub (a := l) (b := k) (m := false) (h := h)
  have nq : ∀ h, cmpD .eq h (.int (l : Nat)) (.int (k : Nat)) = .ok false := fun h => by
    have : ¬ ((l : Int) = (k : Int)) := by omega
    simp [this]
  have c1 : ¬ (1 : Int) < ((l - k + (k - l) : Nat) : Int) := by omega
  simp only [t_to_end]
  refine sstep (by simp [i1, i2, tgD]; rfl) ?_
  simp only [cont_nx, List.set_cons_succ, List.set_cons_zero]
  refine sstep (by simp [nq]; rfl) ?_
  simp only [cont_nx]
  generalize ((l - k + (k - l) : Nat) : Int) = far at *
  refine sstep (by simp [ab, c1]; rfl) ?_
  simp only [cont_nx]
  refine sstep (by simp [s1, e1, tgD]; rfl) ?_
  simp only [cont_nx, List.set_cons_succ, List.set_cons_zero]
  refine sstep (by simp [-List.append_assoc, s2, e2, s3, s4, a1, a2, tgD]; rfl) ?_
  simp only [cont_nx, List.set_cons_succ, List.set_cons_zero]
  simp [s5, s6, e3, a3]
theorem c_to_end {N : Nat} : ∀ (n k0 : Nat) {ss : List (Nat × Rat)} {row : Nat → Nat} {k : Nat}, ss.length ≤ n → n ≤ 14 → El.Lst N ss row → k + 1 < N → row (k + 1) < row k → El.HB N PB ss row →
    ∃ us b, (∀ h, run false defs (k0 + n + 5) i_to_end [.tup (ss.map stD), .int (k : Nat)] h = .ok (.tup ((us ++ [(k, b)]).map stD), h)) ∧ El.Lst N (us ++ [(k, b)]) row ∧ El.Eqv ss (us ++ [(k, b)]) ∧ us.length + 1 = ss.length
  | n, k0, ss, row, k, hn, h14, hL, hk, hlt, H => by
    rcases El.snoc_inv hL with ⟨e1, e2⟩ | ⟨tt, row0, l, a, rfl, rfl, ht, hl, hl2, ha⟩
    · subst e2; simp only [id] at hlt; omega
    · have n0 : n ≠ 0 := fun z => by simp [z] at hn
      obtain ⟨n, rfl⟩ : ∃ m, n = m + 1 := ⟨n - 1, by omega⟩
      have hn : tt.length ≤ n := by simp at hn; exact hn
      by_cases c : l = k
      · subst c
        exact ⟨tt, a, fun h => run_rt rfl rfl b_te1 (fin_self pln_steps), hL, .refl, by simp⟩
      · have H0 := H.pre hl hl2 ha
        by_cases far : k + 1 < l ∨ l + 1 < k
        · rw [El.sw_o (by omega) (by omega), El.sw_o (by omega) (by omega)] at hlt
          obtain ⟨us, b, w, g1, g2, g3⟩ := c_to_end n k0 hn (by omega) ht hk hlt H0
          obtain ⟨f1, f2⟩ := El.far_ok far g1 hl hl2 ha
          have e : us ++ [(l, a), (k, b)] = (us ++ [(l, a)]) ++ [(k, b)] := by simp
          refine ⟨us ++ [(l, a)], b, fun h => ?_, by rwa [e] at f1, ?_, by simp; omega⟩
          · rw [← e]
            exact run_rt rfl rfl (b_te2 (by omega) far w) (fin_self pln_steps)
          · rw [e] at f2
            refine El.Eqv.trans ?_ f2
            have : us ++ [(k, b), (l, a)] = (us ++ [(k, b)]) ++ [(l, a)] := by simp
            rw [this]
            exact g2.app .refl
        · have hlt0 : row0 (k + 1) < row0 k := by
            rcases (by omega : k + 1 = l ∨ l + 1 = k) with rfl | rfl
            · rw [El.sw_l, El.sw_o (by omega) (by omega)] at hlt
              omega
            · rw [El.sw_r, El.sw_o (by omega) (by omega)] at hlt
              omega
          obtain ⟨us, b, w, g1, g2, g3⟩ := c_to_end n k0 hn (by omega) ht hk hlt0 H0
          obtain ⟨row1, e, hu, _, hkt, hb⟩ := g1.un
          subst e
          have H1 := H0.eqv g2
          have H2 := H1.pre hk hkt hb
          have hlt1 : row1 (l + 1) < row1 l := by
            rcases (by omega : k + 1 = l ∨ l + 1 = k) with rfl | rfl
            · rw [El.sw_l, El.sw_o (j := k) (by omega) (by omega), El.sw_l, El.sw_o (by omega) (by omega)] at hlt
              rw [El.sw_r, El.sw_o (by omega) (by omega)] at hl2
              omega
            · rw [El.sw_o (j := l + 1 + 1) (by omega) (by omega), El.sw_r, El.sw_r, El.sw_o (by omega) (by omega)] at hlt
              rw [El.sw_l, El.sw_o (by omega) (by omega)] at hl2
              omega
          obtain ⟨vs, c', w2, v1, v2, v3⟩ := c_to_end n k0 (by omega) (by omega) hu hl hlt1 H2
          obtain ⟨f1, f2⟩ := El.near_ok (by omega) v1 hk hkt hb hl2 ha
          have e4 : us ++ [(k, b)] ++ [(l, a)] = us ++ [(k, b), (l, a)] := by simp
          have e5 : vs ++ [(l, c'), (k, b), (l, a)] = (vs ++ [(l, c')]) ++ [(k, b), (l, a)] := by simp
          have f3 : El.Eqv (tt ++ [(l, a)]) (vs ++ El.tr3 l k c' b a) := by
            refine El.Eqv.trans ?_ f2
            refine (g2.app .refl).trans ?_
            rw [e4, e5]
            exact v2.app .refl
          have pa : PB a := H _ hL .refl (l, a) (by simp)
          have pb : PB b := H1 _ g1 .refl (k, b) (by simp)
          have pc : PB c' := H2 _ v1 v2.symm (l, c') (by simp)
          have pw : PB (El.wh c' b a) := H _ f1 f3.symm (l, El.wh c' b a) (by simp [El.tr3])
          have hc : 0 < c' := v1.pos (l, c') (by simp)
          have hw := num_pos (El.wh_pos hc hb ha)
          have e6 : vs ++ El.tr3 l k c' b a = (vs ++ [(k, b * a / El.wh c' b a), (l, El.wh c' b a)]) ++ [(k, c' * b / El.wh c' b a)] := by simp [El.tr3]
          refine ⟨vs ++ [(k, b * a / El.wh c' b a), (l, El.wh c' b a)], c' * b / El.wh c' b a, fun h => ?_, by rwa [e6] at f1, by rwa [e6] at f3, by simp; omega⟩
          rw [← e6]
          exact run_rt rfl rfl (b_te3 (by omega) (by omega) (by omega) w w2 fun h => c_three2 (k0 + n + 1) pc pb pa pw hw) (fin_self pln_steps)
end
section
variable {C : Cal} {ns : List Int} {h : Hh}
theorem up_le : ∀ (ss : List (Nat × Rat)), (∀ s ∈ ss, Bd 7 s.2) → El.up ss ≤ 384 ^ ss.length := by
  refine El.sn_ind (fun _ => Nat.le_refl _) fun ss s ih h => ?_
  have ih := ih fun t ht => h t (List.mem_append_left _ ht)
  obtain ⟨h1, h2⟩ := h s (by simp)
  rw [El.up_snoc, List.length_append, List.length_singleton, Nat.pow_succ]
  exact Nat.mul_le_mul ih (by omega)
theorem net_kinds {R bb : Nat} {ss : List (Nat × Rat)} (H : NetOk R ss bb) : ∀ s ∈ ss, s.1 + 1 < 2 * R := fun s hs => by
  have := (H.st s hs).kind
  omega
theorem big384 : 2 ^ 20 * (384 ^ 14) ^ 8 < 2 ^ 990 := by decide +kernel
theorem pb_of {n : Nat} {q : Rat} (hn : n ≤ 384 ^ 14) (h : q.num.natAbs ≤ 2 ^ 20 * n ^ 8 ∧ q.den ≤ 2 ^ 20 * n ^ 8) : PB q := by
  have m := Nat.mul_le_mul_left (2 ^ 20) (Nat.pow_le_pow_left hn 8)
  have b := big384
  exact ⟨Nat.lt_of_le_of_lt (Nat.le_trans h.1 m) b, Nat.lt_of_le_of_lt (Nat.le_trans h.2 m) b⟩
/-- a net of drawn sizes: all least steps that do the same are bounded -/
theorem hb_net {R : Nat} {ss ff : List (Nat × Rat)} {row : Nat → Nat} (H : NetOk R ss) (g : El.Lst (2 * R) ff row) (e : El.Eqv ss ff) : El.HB (2 * R) PB ff row := fun tt ht et s hs => by
  have h4 := H.lo
  have h8 := H.hi
  have hl := H.len
  have u := up_le ss fun s hs => (H.st s hs).bd
  exact pb_of (Nat.le_trans u (Nat.pow_le_pow_right (by decide) hl)) (El.sz_bd (nn := ss) (by omega) (by omega) (by omega) (net_kinds H) ht (e.trans et.symm) hs)
theorem net_lst {R : Nat} {ss ff : List (Nat × Rat)} {row : Nat → Nat} (H : NetOk R ss) (g : El.Lst (2 * R) ff row) (e : El.Eqv ss ff) (hl : ff.length ≤ 14) : NetOk R ff 990 :=
  ⟨H.lo, H.hi, hl, fun s hs => ⟨by have := g.kinds s hs; omega, num_pos (g.pos s hs), hb_net H g e ff g .refl s hs⟩⟩
theorem pre_ok {R bb : Nat} {ss tt : List (Nat × Rat)} (H : NetOk R (ss ++ tt) bb) : NetOk R ss bb := ⟨H.lo, H.hi, by have := H.len; rw [List.length_append] at this; omega, fun s hs => H.st s (List.mem_append_left _ hs)⟩
theorem b_is_last {R k : Nat} {ss : List (Nat × Rat)} {row : Nat → Nat} (hl : ss.length ≤ 14) (hk : k + 1 < 2 * R) (e1 : ∀ h, ∃ b, C i_order_with_left [.int R, .lst (klD (kds ss))] h = .ok (.tup [.tup (I (rowL (2 * R) row)), b], h)) :
    evSs C t_is_last.body [some (.int R), some (.tup (ss.map stD)), some (.int (k : Nat)), none, none, none] h = .ok (.rt (.bl (decide (row (k + 1) < row k))) h) := by
  obtain ⟨b, e1⟩ := e1 h
  have f := comp_seq (C := C) (m := false) (own := [4, 5]) (g := .tup (.cons (.name 4) (.cons (.name 5) .nil))) (a := .v 1) (elt := .v 4)
    (r := [some (.int R), some (.tup (ss.map stD)), some (.int (k : Nat)), none, none, none]) (h := h) (d := .tup (ss.map stD)) (xs := ss) stD (fun s => .int (s.1 : Nat)) (fun s => [some (.int R), some (.tup (ss.map stD)), some (.int (k : Nat)), none, some (.int s.1), some (fr s.2)]) (by simp) rfl (by omega) fun s hs => ⟨rfl, by simp⟩
  rw [kl_map] at f
  have f := f.trans (mkL_f ..)
  have x1 := fun h => I_ix (ns := rowL (2 * R) row) (k := k) (h := h) (by rw [rowL_len]; omega)
  have x2 := fun h => I_ix (ns := rowL (2 * R) row) (k := k + 1) (h := h) (by rw [rowL_len]; omega)
  simp only [rowL_get hk, rowL_get (show k < 2 * R by omega), Int.natCast_add, Int.cast_ofNat_Int] at x1 x2
  generalize I (rowL (2 * R) row) = Y at *
  generalize klD (kds ss) = X at *
  simp only [t_is_last]
  refine sstep (by simp [-E_25, f, e1, tgD]; rfl) ?_
  simp only [cont_nx, List.set_cons_succ, List.set_cons_zero]
  simp [x1, x2]
theorem c_is_last (k0 : Nat) {R k : Nat} {ff : List (Nat × Rat)} {row : Nat → Nat} (hR : R ≤ 4) (g : El.Lst (2 * R) ff row) (hl : ff.length ≤ 14) (hk : k + 1 < 2 * R) : run false defs (k0 + 3) i_is_last [.int R, .tup (ff.map stD), .int (k : Nat)] h = .ok (.bl (decide (row (k + 1) < row k)), h) := by
  have ks : ∀ k ∈ kds ff, k + 1 < 2 * R := fun k hk => by
    obtain ⟨s, hs, rfl⟩ := List.mem_map.mp hk
    exact g.kinds s hs
  refine run_rt rfl rfl (b_is_last hl hk fun h => ?_) (fin_self rfl)
  have e := c_owlL (h := h) k0 hR ks (by rw [kds_len]; exact hl)
  unfold ord at e
  rw [runO_ro _ ks, show El.ro (kds ff) = row from g.ro] at e
  exact ⟨_, e⟩
/-- what least steps are made with -/
structure Sf (C : Cal) (R : Nat) : Prop where
  last : ∀ {k : Nat} {ff : List (Nat × Rat)} {row : Nat → Nat} (h : Hh), El.Lst (2 * R) ff row → ff.length ≤ 14 → k + 1 < 2 * R → C i_is_last [.int R, .tup (ff.map stD), .int (k : Nat)] h = .ok (.bl (decide (row (k + 1) < row k)), h)
  ende : ∀ {k : Nat} {ff : List (Nat × Rat)} {row : Nat → Nat}, El.Lst (2 * R) ff row → ff.length ≤ 14 → k + 1 < 2 * R → row (k + 1) < row k → El.HB (2 * R) PB ff row →
    ∃ us b, (∀ h, C i_to_end [.tup (ff.map stD), .int (k : Nat)] h = .ok (.tup ((us ++ [(k, b)]).map stD), h)) ∧ El.Lst (2 * R) (us ++ [(k, b)]) row ∧ El.Eqv ff (us ++ [(k, b)]) ∧ us.length + 1 = ff.length
  plus : ∀ {a b : Rat} (h : Hh), Bd 4000 a → Bd 4000 b → C i_plus [fr a, fr b] h = .ok (fr (a + b), h)
theorem sf (k0 : Nat) {R : Nat} (hR : R ≤ 4) : Sf (run false defs (k0 + 19)) R where
  last := fun h g hl hk => c_is_last (k0 + 16) hR g hl hk
  ende := fun g hl hk hlt H => c_to_end 14 k0 hl (Nat.le_refl _) g hk hlt H
  plus := fun h ha hb => c_plus (k0 + 16) ha hb
/-- steps whose least equals are bounded, as far as one goes -/
structure Gd (R : Nat) (ss : List (Nat × Rat)) : Prop where
  ok : NetOk R ss 1900
  hb : ∀ pre post, ss = pre ++ post → ∀ {ff row}, El.Lst (2 * R) ff row → El.Eqv pre ff → El.HB (2 * R) PB ff row
theorem gd_net {R : Nat} {ss : List (Nat × Rat)} (H : NetOk R ss) : Gd R ss :=
  ⟨H.up (by decide), fun pre post e ff row g q => by subst e; exact hb_net (pre_ok H) g q⟩
theorem Gd.pre {R : Nat} {ss tt : List (Nat × Rat)} (G : Gd R (ss ++ tt)) : Gd R ss :=
  ⟨pre_ok G.ok, fun pre post e ff row g q => G.hb pre (post ++ tt) (by rw [e]; simp) g q⟩
theorem Gd.hbw {R : Nat} {ss ff : List (Nat × Rat)} {row : Nat → Nat} (G : Gd R ss) (g : El.Lst (2 * R) ff row) (q : El.Eqv ss ff) : El.HB (2 * R) PB ff row := G.hb ss [] (by simp) g q
/-- least steps of bounded equals -/
theorem gd_lst {R : Nat} {ss : List (Nat × Rat)} {row : Nat → Nat} (H : NetOk R ss 1900) (g : El.Lst (2 * R) ss row) (B : El.HB (2 * R) PB ss row) : Gd R ss := by
  refine ⟨H, fun pre post e => ?_⟩
  subst e
  revert row
  refine El.sn_ind (P := fun post => ∀ {row : Nat → Nat}, El.Lst (2 * R) (pre ++ post) row → El.HB (2 * R) PB (pre ++ post) row → ∀ {ff : List (Nat × Rat)} {row' : Nat → Nat}, El.Lst (2 * R) ff row' → El.Eqv pre ff → El.HB (2 * R) PB ff row') (fun {row} g B ff row' g' q => ?_) (fun post s ih => ?_) post
  · rw [List.append_nil] at g B
    have e := El.row_un g g' q
    subst e
    exact B.eqv q
  · obtain ⟨k, a⟩ := s
    intro row g B
    rw [← List.append_assoc] at g B
    obtain ⟨row1, e, g1, hk, hlt, ha⟩ := g.un
    subst e
    exact ih g1 (B.pre hk hlt ha)
abbrev lsB : Sms := (.cons (.iff (.call i_is_last (.cons (.v 0) (.cons (.v 2) (.cons (.v 3) .nil)))) (.cons (.asg (.name 2) (.call i_to_end (.cons (.v 2) (.cons (.v 3) .nil)))) (.cons (.asg (.name 2) (.op .add false (.sl (.v 2) .none (.some (.neg (.ci 1)))) (.tup (.cons (.tup (.cons (.v 3) (.cons (.call i_plus (.cons (.ix (.ix (.v 2) (.neg (.ci 1))) (.ci 1)) (.cons (.v 4) .nil))) .nil))) .nil)))) .nil)) (.cons (.asg (.name 2) (.op .add false (.v 2) (.tup (.cons (.tup (.cons (.v 3) (.cons (.v 4) .nil))) .nil)))) .nil)) .nil)
theorem b_lsb {R k : Nat} {a : Rat} {S : D} {done ff : List (Nat × Rat)} (F : Sf C R) (G0 : Gd R (done ++ [(k, a)])) (g : El.Lst (2 * R) ff (El.ro (kds done))) (q : El.Eqv done ff) (lff : ff.length ≤ done.length) :
    ∃ gg, El.Lst (2 * R) gg (El.ro (kds (done ++ [(k, a)]))) ∧ El.Eqv (done ++ [(k, a)]) gg ∧ gg.length ≤ done.length + 1 ∧ ∀ h, evSs C lsB [some (.int R), some S, some (.tup (ff.map stD)), some (.int (k : Nat)), some (fr a)] h = .ok (.nx [some (.int R), some S, some (.tup (gg.map stD)), some (.int (k : Nat)), some (fr a)] h) := by
  have Hd := G0.ok
  have hl14 := Hd.len
  rw [List.length_append, List.length_singleton] at hl14
  have hm : (k, a) ∈ done ++ [(k, a)] := by simp
  have hk := net_kinds Hd _ hm
  simp only at hk
  have hs := Hd.st _ hm
  have ha : 0 < a := pos_num hs.pos
  have ba : Bd 1900 a := hs.bd
  have Hd := pre_ok Hd
  have Gp := G0.pre
  have ek : kds (done ++ [(k, a)]) = kds done ++ [k] := by simp [kds]
  have la := fun h => F.last h g (by omega) hk
  by_cases c : El.ro (kds done) (k + 1) < El.ro (kds done) k
  · obtain ⟨us, b, w, g1, g2, g3⟩ := F.ende g (by omega) hk c (Gp.hbw g q)
    have bb : PB b := Gp.hbw g q _ g1 g2.symm (k, b) (by simp)
    have pl := fun h => F.plus (a := b) (b := a) h (Bd.mono bb (by decide)) (ba.mono (by decide))
    obtain ⟨p1, p2⟩ := El.put_on g1 ha
    rw [List.map_append, List.map_cons, List.map_nil] at w
    have i1 := fun h => ix_last (xs := us.map stD) (d := stD (k, b)) (h := h)
    have i2 := fun h => st_1 (s := (k, b)) (h := h)
    have s1 := fun h => sl_init (xs := us.map stD) (ys := [stD (k, b)]) (i := -1) (h := h) rfl (Nat.succ_pos _)
    have ad := fun h => add_tup (xs := us.map stD) (ys := [stD (k, b + a)]) (m := false) (h := h) (by simp; omega)
    have fo : D.tup [.int (k : Nat), fr (b + a)] = stD (k, b + a) := rfl
    have eq : us.map stD ++ [stD (k, b + a)] = (us ++ [(k, b + a)]).map stD := by simp
    simp only [eq] at ad
    refine ⟨us ++ [(k, b + a)], ?_, ((q.trans g2).app .refl).trans p2, by simp; omega, fun h => ?_⟩
    · rw [ek, El.ro_snoc]
      unfold El.ro1
      rw [if_neg (by omega)]
      exact p1
    · generalize stD (k, b) = s' at *
      generalize stD (k, b + a) = s'' at *
      generalize (us ++ [(k, b + a)]).map stD = Z at *
      generalize us.map stD = U at *
      generalize ff.map stD = V at *
      have la' : ∀ h, C i_is_last [.int R, .tup V, .int (k : Nat)] h = .ok (.bl true, h) := fun h => by rw [la, decide_eq_true c]
      refine sstep (by simp [la', w, s1, i1, i2, pl, fo, ad, tgD]; rfl) ?_
      rfl
  · have ad := fun h => add_tup (xs := ff.map stD) (ys := [stD (k, a)]) (m := false) (h := h) (by simp; omega)
    have fo : D.tup [.int (k : Nat), fr a] = stD (k, a) := rfl
    have eq : ff.map stD ++ [stD (k, a)] = (ff ++ [(k, a)]).map stD := by simp
    simp only [eq] at ad
    have ne : El.ro (kds done) k ≠ El.ro (kds done) (k + 1) := fun z => by
      obtain ⟨ρ, I⟩ := g.inv
      have := congrArg ρ z
      rw [I.l, I.l] at this
      omega
    refine ⟨ff ++ [(k, a)], ?_, q.app .refl, by simp; omega, fun h => ?_⟩
    · rw [ek, El.ro_snoc]
      unfold El.ro1
      rw [if_pos (by omega)]
      exact .snoc g hk (by omega) ha
    · generalize (ff ++ [(k, a)]).map stD = Z at *
      generalize ff.map stD = V at *
      have la' : ∀ h, C i_is_last [.int R, .tup V, .int (k : Nat)] h = .ok (.bl false, h) := fun h => by rw [la, decide_eq_false c]
      generalize hs : stD (k, a) = s' at *
      refine sstep (by simp [la', fo, ad, tgD]; rfl) ?_
      rfl
theorem l_ls {R : Nat} {S : D} (F : Sf C R) : ∀ (todo done ff : List (Nat × Rat)), Gd R (done ++ todo) → El.Lst (2 * R) ff (El.ro (kds done)) → El.Eqv done ff → ff.length ≤ done.length →
    ∃ gg, El.Lst (2 * R) gg (El.ro (kds (done ++ todo))) ∧ El.Eqv (done ++ todo) gg ∧ gg.length ≤ (done ++ todo).length ∧ ∀ (all : List D) (h : Hh) (x3 x4 : Option D), ∃ x3' x4', forD none all (.tup (.cons (.name 3) (.cons (.name 4) .nil))) (evSs C lsB) (todo.map stD) [some (.int R), some S, some (.tup (ff.map stD)), x3, x4] h = .ok (.nx [some (.int R), some S, some (.tup (gg.map stD)), x3', x4'] h)
  | [], done, ff, H, g, q, lff => ⟨ff, by rwa [List.append_nil], by rwa [List.append_nil], by rwa [List.append_nil], fun all h x3 x4 => ⟨x3, x4, by simp only [List.map_nil, forD, stl, if_true]⟩⟩
  | (k, a) :: todo, done, ff, H, g, q, lff => by
    have e : done ++ (k, a) :: todo = (done ++ [(k, a)]) ++ todo := by simp
    rw [e] at H ⊢
    obtain ⟨f1, g1, q1, l1, b⟩ := b_lsb (S := S) F H.pre g q lff
    obtain ⟨gg, g2, q2, l2, w⟩ := l_ls F todo (done ++ [(k, a)]) f1 H g1 q1 (by simp; omega)
    refine ⟨gg, g2, q2, l2, fun all h x3 x4 => ?_⟩
    obtain ⟨y3, y4, ew⟩ := w all h (some (.int (k : Nat))) (some (fr a))
    refine ⟨y3, y4, ?_⟩
    have et : tgD (.tup (.cons (.name 3) (.cons (.name 4) .nil))) (stD (k, a)) [some (.int R), some S, some (.tup (ff.map stD)), x3, x4] = some [some (.int R), some S, some (.tup (ff.map stD)), some (.int (k : Nat)), some (fr a)] := rfl
    simp only [List.map_cons, forD, stl, if_true, et, b, bind_ok]
    exact ew
theorem b_least_steps {R : Nat} {ss : List (Nat × Rat)} (F : Sf C R) (H : Gd R ss) : ∃ ff, El.Lst (2 * R) ff (El.ro (kds ss)) ∧ El.Eqv ss ff ∧ ff.length ≤ ss.length ∧ ∀ h, evSs C t_least_steps.body [some (.int R), some (.tup (ss.map stD)), none, none, none] h = .ok (.rt (.tup (ff.map stD)) h) := by
  obtain ⟨ff, g, q, lff, w⟩ := l_ls (S := .tup (ss.map stD)) F ss [] [] H .nil .refl (Nat.le_refl _)
  refine ⟨ff, g, q, lff, fun h => ?_⟩
  obtain ⟨x3, x4, e⟩ := w (ss.map stD) h none none
  simp only [t_least_steps]
  refine sstep (by simp [tgD]; rfl) ?_
  simp only [cont_nx, List.set_cons_succ, List.set_cons_zero]
  have ei : ∀ (x : Option D), evI C (.seq (.v 1)) [some (.int R), some (.tup (ss.map stD)), x, none, none] h = .ok ((ss.map stD, none), h) := fun x => by simp
  refine sstep (o := .ok (.nx [some (.int R), some (.tup (ss.map stD)), some (.tup (ff.map stD)), x3, x4] h)) (by rw [S_9, ei, lft_ok]; exact e) ?_
  simp only [cont_nx]
  simp
/-- what is told of the least steps of a net -/
structure Ls (R : Nat) (ss ff : List (Nat × Rat)) : Prop where
  lst : El.Lst (2 * R) ff (El.ro (kds ss))
  eqv : El.Eqv ss ff
  len : ff.length ≤ ss.length
  ok : NetOk R ff 990
theorem c_least_steps (k0 : Nat) {R : Nat} {ss : List (Nat × Rat)} (H : Gd R ss) : ∃ ff, (∀ h, run false defs (k0 + 20) i_least_steps [.int R, .tup (ss.map stD)] h = .ok (.tup (ff.map stD), h)) ∧ Ls R ss ff := by
  obtain ⟨ff, g, q, lff, e⟩ := b_least_steps (sf k0 H.ok.hi) H
  exact ⟨ff, fun h => run_rt rfl rfl (e h) (fin_self pln_steps), g, q, lff, ⟨H.ok.lo, H.ok.hi, by have := H.ok.len; omega, fun s hs => ⟨by have := g.kinds s hs; omega, num_pos (g.pos s hs), H.hbw g q _ g .refl s hs⟩⟩⟩
theorem ls_un {R : Nat} {ss ff gg : List (Nat × Rat)} (f : Ls R ss ff) (g : Ls R ss gg) (e : kds ff = kds gg) : ff = gg :=
  El.same_sizes _ rfl f.lst g.lst e fun x _ => (f.eqv x).symm.trans (g.eqv x)
end
section
variable {C : Cal} {ns : List Int} {h : Hh}
/-- the order of a net -/
def od (R : Nat) (ss : List (Nat × Rat)) : List Int := rowL (2 * R) (El.ro (kds ss))
theorem od_ord {R bb : Nat} {ss : List (Nat × Rat)} (H : NetOk R ss bb) : ord R (kds ss) = od R ss := runO_ro _ (kds_ok H)
theorem od_perm {R bb : Nat} {ss : List (Nat × Rat)} (H : NetOk R ss bb) : (od R ss).Perm (rng0 (2 * R)) := by
  rw [← od_ord H]
  exact runO_perm _ fun k hk => by rw [rng0_len]; exact kds_ok H k hk
theorem od_eqv {R bb bc : Nat} {ss tt : List (Nat × Rat)} (H : NetOk R ss bb) (G : NetOk R tt bc) (e : El.Eqv ss tt) : od R ss = od R tt := by
  unfold od
  rw [ro_eqv H.sok G.sok e]
theorem c_od (k : Nat) {R bb : Nat} {ss : List (Nat × Rat)} (H : NetOk R ss bb) (hb : bb ≤ 1900) : run false defs (k + 6) i_order [netD R ss] h = .ok (.tup (I (od R ss)), h) := by
  rw [← od_ord H]
  exact c_order k H hb
theorem rev_ok {R bb : Nat} {ss : List (Nat × Rat)} (H : NetOk R ss bb) : NetOk R ss.reverse bb := ⟨H.lo, H.hi, by rw [List.length_reverse]; exact H.len, fun s hs => H.st s (List.mem_reverse.mp hs)⟩
theorem ups_ok {R bb : Nat} {ss : List (Nat × Rat)} (H : NetOk R ss bb) : NetOk R (ups R ss) bb := ⟨H.lo, H.hi, by unfold ups; rw [List.length_map]; exact H.len, fun s hs => by
  obtain ⟨t, ht, rfl⟩ := List.mem_map.mp hs
  have := H.st t ht
  exact ⟨by have := this.kind; simp only; omega, this.pos, this.bd⟩⟩
theorem row_lt {N : Nat} {ss : List (Nat × Rat)} (hs : Sok N ss) {i : Nat} (hi : i < N) : El.ro (kds ss) i < N := by
  obtain ⟨ff, f1, _⟩ := El.ls_ex ss hs
  exact f1.lt i hi
/-- places of things, looked up one by one -/
theorem places {R bb : Nat} {ss : List (Nat × Rat)} (H : NetOk R ss bb) {a : Ex} {r : Ev} {h : Hh} {m : Bool} {own : List Nat} {s : Nat} {hi : Ex} (e0 : evE C hi r h = .ok (.int (2 * (R : Int)), h))
    (e1 : ∀ k : Nat, evE C a ((wip r own).set s (some (.int (k : Nat)))) h = .ok (.tup (I (od R ss)), h)) (e2 : ∀ k : Nat, evE C (.v s) ((wip r own).set s (some (.int (k : Nat)))) h = .ok (.int (k : Nat), h)) :
    evE C (.comp m own (.name s) (.range 1 (.cons hi .nil)) .none (.tix a (.v s))) r h = mkL m (I (od R ss.reverse)) h := by
  have hR := H.hi
  have I0 := ro_inv H.sok
  have f := comp_range (C := C) (m := m) (own := own) (g := .name s) (a := hi) (elt := .tix a (.v s)) (r := r) (h := h) (n := 2 * R) (z := 2 * (R : Int)) (fun k => .int (El.ro (kds ss.reverse) k : Nat)) (fun k => (wip r own).set s (some (.int (k : Nat)))) e0 (by omega) (by omega) fun k hk => by
    refine ⟨rfl, ?_⟩
    have fr := find_row I0 (row_lt H.sok.rev hk)
    rw [E_39, e1, bind_ok]
    simp only [e2, bind_ok, intL_row]
    unfold od
    rw [fr]
  rw [f]
  unfold od
  rw [rowL_I]
end
end K26
set_option Elab.async false
set_option linter.all false
set_option maxRecDepth 100000
set_option exponentiation.threshold 10000
namespace K26
open PySem PySem.Spec PyProof.Rows L2 Fx
section
variable {C : Cal} {ns : List Int} {h : Hh}
/-! ## rows of kinds -/
theorem c_chk_order (k : Nat) {R : Nat} {r : List Int} (h2 : 2 ≤ R) (h4 : R ≤ 4) (p : r.Perm (rng0 (2 * R))) : run false defs (k + 3) i_check_order [.tup (I r)] h = .ok (.non, h) :=
  run_nx rfl rfl (b_check_order (C := run false defs (k + 2)) h2 h4 p fun v lo hi h => c_between (k + 1) v lo hi) (fin_self rfl)
theorem row_ln {N : Nat} {row : Nat → Nat} {m : Bool} {h : Hh} : biD .len m [.tup (I (rowL N row))] h = .ok (.int (N : Nat), h) := by
  have : biD .len m [.tup (I (rowL N row))] h = .ok (.int ((I (rowL N row)).length : Nat), h) := rfl
  rw [this, I_len, rowL_len]
theorem row_ixL {N k : Nat} {row : Nat → Nat} {h : Hh} (hk : k < N) : ixD (.lst (I (rowL N row))) (.int (k : Nat)) h = .ok (.int (row k : Nat)) := by
  have := I_at (ns := rowL N row) (k := k) (by rw [rowL_len]; exact hk)
  rw [rowL_get hk] at this
  exact ix_lst this
theorem b_first_kinds {N : Nat} {row ρ : Nat → Nat} (P : Oo N row ρ) (h0 : 0 < N) (h8 : N ≤ 8) : evSs C t_first_kinds.body [some (.tup (I (rowL N row))), none, none, none] h = .ok (.rt (.lst (klD (fk N ρ))) h) := by
  have f1 := comp_range (C := C) (m := false) (own := [2]) (g := .name 2) (a := .bi .len false (.cons (.v 0) .nil)) (elt := .tix (.v 0) (.v 2)) (r := [some (.tup (I (rowL N row))), none, none, none]) (h := h) (n := N) (z := (N : Nat))
    (fun k => .int (ρ k : Nat)) (fun k => [some (.tup (I (rowL N row))), none, some (.int (k : Nat)), none]) (by simp [row_ln, rowL_len]) rfl (by omega) fun k hk => by
      refine ⟨rfl, ?_⟩
      have fr := find_row P.inv (P.rlt hk)
      rw [E_39]
      simp only [E_0, List.getElem?_cons_zero, List.getElem?_cons_succ, bind_ok, intL_row, fr]
  rw [← rowL_I] at f1
  have f1 := f1.trans (mkL_f ..)
  have f2 := comp_fil (C := C) (m := false) (own := [3]) (g := .name 3) (it := .range 1 (.cons (.op .sub false (.bi .len false (.cons (.v 0) .nil)) (.ci 1)) .nil)) (t := .cmp .gt (.ix (.v 1) (.v 3)) (.ix (.v 1) (.op .add false (.v 3) (.ci 1)))) (elt := .v 3)
    (r := [some (.tup (I (rowL N row))), some (.lst (I (rowL N ρ))), none, none]) (h := h) (xs := List.range (N - 1)) (fun k => .int (k : Nat)) (fun k => .int (k : Nat)) (fun k => [some (.tup (I (rowL N row))), some (.lst (I (rowL N ρ))), none, some (.int (k : Nat))]) (fun k => decide (ρ (k + 1) < ρ k))
    (rangeI (n := N - 1) (v := (N : Int) - 1) (by simp [row_ln, rowL_len]) (by omega) (by omega)) (by simp; omega) fun k hk => by
      have hk := List.mem_range.mp hk
      have x1 := row_ixL (row := ρ) (h := h) (show k < N by omega)
      have x2 := row_ixL (row := ρ) (h := h) (show k + 1 < N by omega)
      rw [Int.natCast_add] at x2
      have x2 : ixD (.lst (I (rowL N ρ))) (.int ((k : Int) + 1)) h = .ok (.int (ρ (k + 1) : Nat)) := x2
      refine ⟨rfl, ?_, fun _ => by simp⟩
      have cd : decide (((ρ (k + 1) : Nat) : Int) < ((ρ k : Nat) : Int)) = decide (ρ (k + 1) < ρ k) := by
        rw [decide_eq_decide]; omega
      generalize I (rowL N ρ) = Z at *
      generalize I (rowL N row) = Y at *
      simp [x1, x2, cd]
  have f2 := f2.trans (mkL_f ..)
  generalize I (rowL N ρ) = Z at *
  generalize I (rowL N row) = Y at *
  simp only [t_first_kinds]
  refine sstep (by simp [-E_25, f1, tgD]; rfl) ?_
  simp only [cont_nx, List.set_cons_succ, List.set_cons_zero]
  simp only [Ss_1, S_5, f2, lft_ok, bind_ok]
  rfl
theorem c_first_kinds (k : Nat) {N : Nat} {row ρ : Nat → Nat} (P : Oo N row ρ) (h0 : 0 < N) (h8 : N ≤ 8) : run false defs (k + 1) i_first_kinds [.tup (I (rowL N row))] h = .ok (.lst (klD (fk N ρ)), h) :=
  run_rt rfl rfl (b_first_kinds P h0 h8) (fin_self (by rw [pln]; exact kl_pln _))
theorem two_keys {k : Nat} {x : Int} {h gs : Hh} : dctG (h ++ .dk [(.inl (k : Int), .int ((k : Int) + 1)), (.inl ((k : Int) + 1), .int (k : Nat))] :: gs) (.ref h.length) (.int x) = some (if x = k then some (.int ((k : Int) + 1)) else if x = (k : Int) + 1 then some (.int (k : Nat)) else none) := by
  simp only [dctG, at_mid, keyD, Option.map_some]
  congr 1
  unfold getK
  by_cases h1 : x = k
  · subst h1; simp
  · have n1 : ¬ (k : Int) = x := fun q => h1 q.symm
    by_cases h2 : x = (k : Int) + 1
    · subst h2
      have n2 : ¬ (k : Int) = (k : Int) + 1 := by omega
      have n3 : ¬ (k : Int) + 1 = (k : Int) := by omega
      simp [n2, n3]
    · have n2 : ¬ (k : Int) + 1 = x := fun q => h2 q.symm
      simp [n1, n2, h1, h2]
theorem b_without_first {N k : Nat} {row : Nat → Nat} (h8 : N ≤ 8) : W (evSs C t_without_first.body [some (.tup (I (rowL N row))), some (.int (k : Nat)), none, none] h) fun o => ∃ gs, o = .rt (.tup (I (rowL N fun i => El.tr k (row i)))) (h ++ gs) := by
  have kv : pairsK [(.int (k : Nat), .int ((k : Int) + 1)), (.int ((k : Int) + 1), .int (k : Nat))] = some [(.inl (k : Int), .int ((k : Int) + 1)), (.inl ((k : Int) + 1), .int (k : Nat))] := rfl
  have mg : mergK [] [(.inl (k : Int), .int ((k : Int) + 1)), (.inl ((k : Int) + 1), .int (k : Nat))] = [(.inl (k : Int), .int ((k : Int) + 1)), (.inl ((k : Int) + 1), .int (k : Nat))] := by
    have n2 : ¬ (k : Int) = (k : Int) + 1 := by omega
    simp [mergK, setK, n2]
  have tk := fun (x : Int) => two_keys (k := k) (x := x) (h := h) (gs := [])
  have isd : ∀ M, isDct (h ++ [.dk M]) (.ref h.length) = true := fun M => by simp [isDct]
  have tl : ∀ (xs : List D) (m : Bool) (h : Hh), biD .tuple m [.lst xs] h = .ok (.tup xs, h) := fun xs m h => rfl
  generalize hM : [(Sum.inl (k : Int), D.int ((k : Int) + 1)), (Sum.inl ((k : Int) + 1), D.int (k : Nat))] = M at *
  have ml : M.length ≤ 15 := by rw [← hM]; simp
  have f := comp_seq (C := C) (m := false) (own := [3]) (g := .name 3) (a := .v 0) (elt := .dget (.v 2) (.v 3) (.v 3)) (r := [some (.tup (I (rowL N row))), some (.int (k : Nat)), some (.ref h.length), none]) (h := h ++ [.dk M]) (d := .tup (I (rowL N row))) (xs := List.range N)
    (fun j => .int (row j : Nat)) (fun j => .int (El.tr k (row j) : Nat)) (fun j => [some (.tup (I (rowL N row))), some (.int (k : Nat)), some (.ref h.length), some (.int (row j : Nat))]) (by simp) (by rw [rowL_I]; rfl) (by simp; omega) fun j hj => by
      refine ⟨rfl, ?_⟩
      generalize row j = v at *
      simp [isd, tk]
      unfold El.tr
      by_cases h1 : v = k
      · subst h1; simp
      · have n1 : ¬ (v : Int) = (k : Int) := by omega
        by_cases h2 : v = k + 1
        · subst h2
          have n2 : ¬ ((k : Int) + 1 = (k : Int)) := by omega
          simp [n2]
        · have n2 : ¬ (v : Int) = (k : Int) + 1 := by omega
          simp [n1, n2, h1, h2]
  rw [show ((List.range N).map fun j => D.int (El.tr k (row j) : Nat)) = I (rowL N fun i => El.tr k (row i)) by rw [rowL_I]] at f
  have f := f.trans (mkL_f ..)
  generalize I (rowL N fun i => El.tr k (row i)) = Z at *
  generalize I (rowL N row) = Y at *
  have e31 : ∀ ps r h, evE C (.dkd ps) r h = _ := fun ps r h => E_31
  simp only [t_without_first]
  refine wst (by simp [kv, mg, ml, tgD]; rfl) ?_
  simp only [cont_nx, List.set_cons_succ, List.set_cons_zero]
  exact wrt (d := .tup Z) (h1 := h ++ [.dk M]) (by simp [-E_25, f, tl]) ⟨_, rfl⟩
theorem c_without_first (m : Nat) {N k : Nat} {row : Nat → Nat} (h8 : N ≤ 8) : run false defs (m + 1) i_without_first [.tup (I (rowL N row)), .int (k : Nat)] h = .ok (.tup (I (rowL N fun i => El.tr k (row i))), h) := by
  obtain ⟨o, e, gs, rfl⟩ := b_without_first (C := run false defs m) (h := h) (k := k) (row := row) h8
  exact run_rt rfl rfl e (fin_app (by rw [pln]; exact I_pln _))
end
end K26
set_option Elab.async false
set_option linter.all false
set_option maxRecDepth 100000
set_option exponentiation.threshold 10000
namespace K26
open PySem PySem.Spec PyProof.Rows L2 Fx
section
variable {C : Cal} {ns : List Int} {h : Hh}
theorem kl_I {ks : List Nat} : klD ks = I (ks.map fun k : Nat => (k : Int)) := by
  unfold klD I
  rw [List.map_map]
  rfl
theorem ne_kl {ks : List Nat} {h : Hh} : cmpD .ne h (.lst (klD ks)) (.lst []) = .ok (!decide (ks = [])) := by
  have e := eqI_l (a := ks.map fun k : Nat => (k : Int)) (b := []) (h := h)
  rw [← kl_I] at e
  have e : cmpD .eq h (.lst (klD ks)) (.lst []) = .ok (decide (ks.map (fun k : Nat => (k : Int)) = [])) := e
  have d : decide (ks.map (fun k : Nat => (k : Int)) = []) = decide (ks = []) := by
    rw [decide_eq_decide]
    cases ks <;> simp
  rw [d] at e
  unfold cmpD at e ⊢
  simp only at e ⊢
  rw [e]
  rfl
theorem ix_last_ref {xs : List D} {d : D} {h gs : Hh} : ixD (.ref h.length) (.int (-1)) (h ++ .lst (xs ++ [d]) :: gs) = .ok d := by
  have e := ix_last (xs := xs) (d := d) (h := h)
  simp only [ixD, seqOf] at e ⊢
  simp only [lst_mid]
  exact e
abbrev lrC : Ex := .cmp .ne (.call i_first_kinds (.cons (.v 0) .nil)) (.lst false .nil)
abbrev lrB : Sms := (.cons (.expr (.mt .append (.v 1) (.cons (.ix (.call i_first_kinds (.cons (.v 0) .nil)) (.ci 0)) .nil))) (.cons (.asg (.name 0) (.call i_without_first (.cons (.v 0) (.cons (.ix (.v 1) (.neg (.ci 1))) .nil)))) .nil))
/-- what rows are made with -/
structure Rf (C : Cal) (N : Nat) : Prop where
  fst : ∀ {row ρ : Nat → Nat} (h : Hh), Oo N row ρ → C i_first_kinds [.tup (I (rowL N row))] h = .ok (.lst (klD (fk N ρ)), h)
  wof : ∀ {row : Nat → Nat} {k : Nat} (h : Hh), C i_without_first [.tup (I (rowL N row)), .int (k : Nat)] h = .ok (.tup (I (rowL N fun i => El.tr k (row i))), h)
theorem rf (k : Nat) {N : Nat} (h0 : 0 < N) (h8 : N ≤ 8) : Rf (run false defs (k + 1)) N := ⟨fun h P => c_first_kinds k P h0 h8, fun h => c_without_first k h8⟩
theorem l_lr {N : Nat} (F : Rf C N) : ∀ (n : Nat) {row ρ : Nat → Nat}, Oo N row ρ → np N ρ ≤ n → ∀ (done : List Nat), done.length + n ≤ 100 →
    ∃ m row', whileN (evT C lrC) (evSs C lrB) m [some (.tup (I (rowL N row))), some (.ref h.length)] (h ++ [.lst (klD done)]) = .ok (.nx [some (.tup (I (rowL N row'))), some (.ref h.length)] (h ++ [.lst (klD (done ++ lW N ρ))])) := by
  intro n
  induction n with
  | zero =>
    intro row ρ P hn done hd
    have e := np_0 (N := N) (ρ := ρ) (by omega)
    have f := fun h => F.fst h P
    rw [e] at f
    refine ⟨1, row, ?_⟩
    have l0 : lW N ρ = [] := by rw [lW_eq, e]
    rw [l0, List.append_nil]
    have nk := fun h => ne_kl (ks := []) (h := h)
    refine while_end (n := 0) ?_
    simp [f, nk]
  | succ n ih =>
    intro row ρ P hn done hd
    have f := fun h => F.fst h P
    cases e : fk N ρ with
    | nil =>
      rw [e] at f
      refine ⟨1, row, ?_⟩
      have l0 : lW N ρ = [] := by rw [lW_eq, e]
      rw [l0, List.append_nil]
      have nk := fun h => ne_kl (ks := []) (h := h)
      refine while_end (n := 0) ?_
      simp [f, nk]
    | cons k ks =>
      rw [e] at f
      have hk : k ∈ fk N ρ := by rw [e]; exact List.mem_cons_self
      have hp := np_sw hk
      obtain ⟨m, row', w⟩ := ih (P.wf (fk_mem.mp hk).1) (by omega) (done ++ [k]) (by simp; omega)
      have el : lW N ρ = k :: lW N (El.sw ρ k) := by rw [lW_eq, e]
      have ed : done ++ [k] ++ lW N (El.sw ρ k) = done ++ lW N ρ := by rw [el]; simp
      rw [ed] at w
      refine ⟨m + 1, row', ?_⟩
      have nk := fun h => ne_kl (ks := k :: ks) (h := h)
      have ea : klD (done ++ [k]) = klD done ++ [.int (k : Nat)] := by simp [klD]
      have lo := lst_mid (h := h) (gs := []) (xs := klD done)
      have ap := app_mid (h := h) (gs := []) (xs := klD done) (d := .int (k : Nat)) (by rw [kl_len]; omega)
      have i0 : ∀ h, ixD (.lst (klD (k :: ks))) (.int 0) h = .ok (.int (k : Nat)) := fun h => ix_lst (n := 0) rfl
      have il := ix_last_ref (h := h) (gs := []) (xs := klD done) (d := .int (k : Nat))
      have wo := fun h => F.wof (row := row) (k := k) h
      rw [← ea] at ap il
      have nk : ∀ h, cmpD .ne h (.lst (klD (k :: ks))) (.lst []) = .ok true := fun h => by rw [nk]; rfl
      generalize klD (k :: ks) = Z at *
      refine (while_on (h1 := h ++ [.lst (klD done)]) (r2 := [some (.tup (I (rowL N fun i => El.tr k (row i)))), some (.ref h.length)]) (h2 := h ++ [.lst (klD (done ++ [k]))]) ?_ ?_).trans w
      · simp [f, nk]
      · generalize klD (done ++ [k]) = W at *
        generalize klD done = V at *
        generalize I (rowL N fun i => El.tr k (row i)) = Y at *
        generalize I (rowL N row) = X at *
        refine snx (r1 := [some (.tup X), some (.ref h.length)]) (h1 := h ++ [.lst W]) (by simp [lo, f, i0, ap]) ?_
        refine snx (r1 := [some (.tup Y), some (.ref h.length)]) (h1 := h ++ [.lst W]) (by simp [il, wo, tgD]) ?_
        rfl
theorem b_least_row {N : Nat} {row ρ : Nat → Nat} (F : Rf C N) (P : Oo N row ρ) (hn : np N ρ ≤ 50) : W (evSs C t_least_row.body [some (.tup (I (rowL N row))), none] h) fun o => ∃ gs, o = .rt (.tup (klD (lW N ρ))) (h ++ gs) := by
  obtain ⟨m, row', w⟩ := l_lr (h := h) F 50 P hn [] (by simp)
  rw [List.nil_append] at w
  have w := whileD_of w (by simp)
  simp only [t_least_row]
  refine wst (by simp [tgD]; rfl) ?_
  simp only [cont_nx, List.set_cons_succ, List.set_cons_zero]
  have z : klD [] = [] := rfl
  rw [z] at w
  refine wst (o := .ok (.nx [some (.tup (I (rowL N row'))), some (.ref h.length)] (h ++ [.lst (klD (lW N ρ))]))) (by rw [S_8]; exact w) ?_
  simp only [cont_nx]
  have tm := tup_mid (h := h) (gs := []) (xs := klD (lW N ρ)) (m := false)
  exact wrt (d := .tup (klD (lW N ρ))) (h1 := h ++ [.lst (klD (lW N ρ))]) (by simp [tm]) ⟨_, rfl⟩
theorem c_least_row (k : Nat) {N : Nat} {row ρ : Nat → Nat} (P : Oo N row ρ) (h0 : 0 < N) (h8 : N ≤ 8) (hn : np N ρ ≤ 50) : run false defs (k + 2) i_least_row [.tup (I (rowL N row))] h = .ok (.tup (klD (lW N ρ)), h) := by
  obtain ⟨o, e, gs, rfl⟩ := b_least_row (h := h) (rf k h0 h8) P hn
  exact run_rt rfl rfl e (fin_app (by rw [pln]; exact kl_pln _))
/-! ## counts -/
theorem dct_get {h gs : Hh} {kvs : List (List Int × D)} {r : List Int} : dctG (h ++ .dt kvs :: gs) (.ref h.length) (.tup (I r)) = some (getK kvs r) := by
  simp only [dctG, at_mid, intL_row, Option.map_some]
theorem dct_set {h gs : Hh} {kvs : List (List Int × D)} {r : List Int} {v : D} (hl : kvs.length < 2 ^ 24) : dctS (h ++ .dt kvs :: gs) (.ref h.length) (.tup (I r)) v = .ok (h ++ .dt (setK kvs r v) :: gs) := by
  have hl : kvs.length < sizeLine := hl
  simp only [dctS, at_mid, intL_row, if_pos hl, set_mid]
theorem cast_sum : ∀ (xs : List Nat), ((xs.map fun k : Nat => (k : Int)).sum) = ((xs.sum : Nat) : Int)
  | [] => rfl
  | x :: xs => by rw [List.map_cons, List.sum_cons, List.sum_cons, cast_sum xs, Int.natCast_add]
theorem sum_kl (xs : List Nat) (m : Bool) (h : Hh) : biD .sum m [.lst (klD xs)] h = .ok (.int (xs.sum : Nat), h) := by
  rw [kl_I]
  simp only [biD, one, lstOf, intL_I, cast_sum]
/-- comprehensions that change the heap -/
theorem comp_st {α : Type} {C : Cal} {m : Bool} {own : List Nat} {g : Tg} {it : Itr} {elt : Ex} {r : Ev} {h : Hh} {xs : List α} (f F : α → D) (R : α → Ev) (P : Hh → Prop) (e1 : evI C it r h = .ok ((xs.map f, none), h)) (hn : xs.length ≤ 1000000) (p : P h)
    (H : ∀ x ∈ xs, ∀ h, P h → tgD g (f x) (wip r own) = some (R x) ∧ ∃ h', evE C elt (R x) h = .ok (F x, h') ∧ P h') :
    ∃ h', evE C (.comp m own g it .none elt) r h = mkL m (xs.map F) h' ∧ P h' := by
  obtain ⟨h', e2, p2⟩ := comp_stL (all := xs.map f) (g := g) (r0 := wip r own) (cond := evC C .none) (elt := evE C elt) f F R P xs (fun x hx h p => by
    obtain ⟨a, h1, b, c⟩ := H x hx h p
    exact ⟨a, by simp only [evC], h1, b, c⟩) h p
  refine ⟨h', ?_, p2⟩
  have l : (xs.map f).length ≤ sizeLine := by rw [List.length_map]; exact Nat.le_trans hn (by decide)
  rw [E_25, e1, bind_ok]
  simp only [if_pos l, e2, nox_ok, bind_ok]
theorem b_count_for {N : Nat} {row ρ : Nat → Nat} (F : Rf C N) (P : Oo N row ρ) (h2 : 2 ≤ N) (h8 : N ≤ 8) {gs : Hh} {kvs : List (List Int × D)} (K : KI N kvs)
    (rec : ∀ k, k ∈ fk N ρ → ∀ kvs, KI N kvs → ∃ kvs', KI N kvs' ∧ C i_count_for [.tup (I (rowL N fun i => El.tr k (row i))), .ref h.length] (h ++ .dt kvs :: gs) = .ok (.int (cW N (El.sw ρ k) : Nat), h ++ .dt kvs' :: gs)) :
    W (evSs C t_count_for.body [some (.tup (I (rowL N row))), some (.ref h.length), none, none] (h ++ .dt kvs :: gs)) fun o => ∃ kvs', KI N kvs' ∧ o = .rt (.int (cW N ρ : Nat)) (h ++ .dt kvs' :: gs) := by
  have dg := fun kvs => dct_get (h := h) (gs := gs) (kvs := kvs) (r := rowL N row)
  simp only [t_count_for]
  cases c : getK kvs (rowL N row) with
  | some v =>
    have hv := K.get P c
    subst hv
    refine wst (o := .ok (.nx [some (.tup (I (rowL N row))), some (.ref h.length), none, none] (h ++ .dt kvs :: gs))) (by simp [dg, c]) ?_
    simp only [cont_nx]
    exact wrt (d := .int (cW N ρ : Nat)) (h1 := h ++ .dt kvs :: gs) (by simp [dg, c]) ⟨kvs, K, rfl⟩
  | none =>
    have f := fun h => F.fst h P
    refine wif (b := true) (h1 := h ++ .dt kvs :: gs) (by simp [dg, c]) (wcont ?_)
    rw [if_pos rfl]
    refine wst (by simp [f, tgD]; rfl) ?_
    simp only [cont_nx, List.set_cons_succ, List.set_cons_zero]
    have fin : ∀ (x3 : Option D) (kvs' : List (List Int × D)), KI N kvs' → W (evSs C (.cons (.ret (.dix (.v 1) (.v 0))) .nil) [some (.tup (I (rowL N row))), some (.ref h.length), some (.lst (klD (fk N ρ))), x3] (h ++ .dt (setK kvs' (rowL N row) (.int (cW N ρ : Nat))) :: gs)) fun o => ∃ kvs', KI N kvs' ∧ o = .rt (.int (cW N ρ : Nat)) (h ++ .dt kvs' :: gs) := fun x3 kvs' K' => by
      have gk := getK_set (kvs := kvs') (k := rowL N row) (v := .int (cW N ρ : Nat))
      exact wrt (d := .int (cW N ρ : Nat)) (h1 := h ++ .dt (setK kvs' (rowL N row) (.int (cW N ρ : Nat))) :: gs) (by simp [dg, gk]) ⟨_, K'.set P, rfl⟩
    by_cases z : fk N ρ = []
    · have ds := dct_set (h := h) (gs := gs) (r := rowL N row) (v := .int (cW N ρ : Nat)) (K.len h2 h8)
      have c1 : cW N ρ = 1 := by rw [cW_eq, if_pos z]
      have nk := fun h => ne_kl (ks := fk N ρ) (h := h)
      rw [c1] at ds
      simp only [z, decide_true, Bool.not_true] at nk
      have fin := fin none kvs K
      rw [c1, z] at fin
      rw [c1, z]
      generalize I (rowL N row) = X at *
      have ds : dctS (h ++ .dt kvs :: gs) (.ref h.length) (.tup X) (.int 1) = _ := ds
      refine wst (by simp [nk, ds]; rfl) ?_
      exact wend fin
    · have nk := fun h => ne_kl (ks := fk N ρ) (h := h)
      simp only [z, decide_false, Bool.not_false] at nk
      have cc := comp_st (C := C) (m := false) (own := [3]) (g := .name 3) (it := .seq (.v 2)) (elt := .call i_count_for (.cons (.call i_without_first (.cons (.v 0) (.cons (.v 3) .nil))) (.cons (.v 1) .nil)))
        (r := [some (.tup (I (rowL N row))), some (.ref h.length), some (.lst (klD (fk N ρ))), none]) (h := h ++ .dt kvs :: gs) (xs := fk N ρ) (fun k => .int (k : Nat)) (fun k => .int (cW N (El.sw ρ k) : Nat)) (fun k => [some (.tup (I (rowL N row))), some (.ref h.length), some (.lst (klD (fk N ρ))), some (.int (k : Nat))])
        (fun h1 => ∃ kvs', KI N kvs' ∧ h1 = h ++ .dt kvs' :: gs) (by simp [klD]) (Nat.le_trans fk_len (by omega)) ⟨kvs, K, rfl⟩ fun k hk h1 p => by
          obtain ⟨kvs1, K1, rfl⟩ := p
          obtain ⟨kvs2, K2, e⟩ := rec k hk kvs1 K1
          have wo := fun h => F.wof (row := row) (k := k) h
          exact ⟨rfl, _, by simp [wo, e], kvs2, K2, rfl⟩
      obtain ⟨h', e, kvs', K', rfl⟩ := cc
      have e := e.trans (mkL_f ..)
      have sm := sum_kl ((fk N ρ).map fun k => cW N (El.sw ρ k))
      have el : klD ((fk N ρ).map fun k => cW N (El.sw ρ k)) = (fk N ρ).map fun k => D.int (cW N (El.sw ρ k) : Nat) := by unfold klD; rw [List.map_map]; rfl
      rw [el, show ((fk N ρ).map fun k => cW N (El.sw ρ k)).sum = cW N ρ by rw [cW_eq (ρ := ρ), if_neg z]] at sm
      have ds := dct_set (h := h) (gs := gs) (r := rowL N row) (v := .int (cW N ρ : Nat)) (K'.len h2 h8)
      have fin := fin none kvs' K'
      generalize (fk N ρ).map (fun k => D.int (cW N (El.sw ρ k) : Nat)) = Z at *
      generalize klD (fk N ρ) = Y at *
      generalize hX : I (rowL N row) = X at *
      refine wst (by simp [-E_25, nk, e, sm, ds]; rfl) ?_
      exact wend fin
theorem clsd_cnt {N n : Nat} {kvs : List (List Int × D)} (K : KI N kvs) : clsdO n (.dt kvs) = true := by
  show clsdL n (kvs.map (·.2)) = true
  have key : ∀ (ds : List D), (∀ d ∈ ds, ∃ i : Int, d = .int i) → clsdL n ds = true := by
    intro ds
    induction ds with
    | nil => intro _; rfl
    | cons d ds ih =>
      intro h
      obtain ⟨i, e⟩ := h d List.mem_cons_self
      subst e
      show (clsd n (.int i) && clsdL n ds) = true
      rw [ih fun x hx => h x (List.mem_cons_of_mem _ hx)]
      rfl
  refine key _ fun d hd => ?_
  obtain ⟨p, hp, rfl⟩ := List.mem_map.mp hd
  obtain ⟨_, _, _, _, e⟩ := K.ok p hp
  exact ⟨_, e⟩
theorem stay_dt {N : Nat} {h gs : Hh} {kvs kvs' : List (List Int × D)} (K : KI N kvs') : stay (h ++ .dt kvs :: gs) (h ++ .dt kvs' :: gs) := by
  refine ⟨by simp, fun i o hi e => ?_⟩
  by_cases h1 : i < h.length
  · rw [List.getElem?_append_left h1] at e ⊢
    exact .inl e
  · rw [List.getElem?_append_right (by omega)] at e ⊢
    by_cases h2 : i = h.length
    · subst h2
      rw [Nat.sub_self, List.getElem?_cons_zero] at e
      cases e
      exact .inr (clsd_cnt K)
    · obtain ⟨j, hj⟩ : ∃ j, i - h.length = j + 1 := ⟨i - h.length - 1, by omega⟩
      rw [hj, List.getElem?_cons_succ] at e ⊢
      exact .inl e
theorem fin_dt {N : Nat} {x : D} {h gs : Hh} {kvs kvs' : List (List Int × D)} (K : KI N kvs') (p : pln x = true) : fin false (h ++ .dt kvs :: gs) x (h ++ .dt kvs' :: gs) = .ok (x, h ++ .dt kvs' :: gs) := by
  rw [fin_at (stay_dt K) p, List.take_of_length_le (by simp)]
theorem c_count_for : ∀ (n k0 : Nat) {N : Nat} {row ρ : Nat → Nat}, Oo N row ρ → 2 ≤ N → N ≤ 8 → np N ρ ≤ n → ∀ (h gs : Hh) (kvs : List (List Int × D)), KI N kvs →
    ∃ kvs', KI N kvs' ∧ run false defs (k0 + n + 3) i_count_for [.tup (I (rowL N row)), .ref h.length] (h ++ .dt kvs :: gs) = .ok (.int (cW N ρ : Nat), h ++ .dt kvs' :: gs) := by
  intro n
  induction n with
  | zero =>
    intro k0 N row ρ P h2 h8 hn h gs kvs K
    have z := np_0 (N := N) (ρ := ρ) (by omega)
    obtain ⟨o, e, kvs', K', rfl⟩ := b_count_for (C := run false defs (k0 + 2)) (rf (k0 + 1) (by omega) h8) P h2 h8 (h := h) (gs := gs) K fun k hk => by rw [z] at hk; cases hk
    exact ⟨kvs', K', run_rt rfl rfl e (fin_dt K' rfl)⟩
  | succ n ih =>
    intro k0 N row ρ P h2 h8 hn h gs kvs K
    obtain ⟨o, e, kvs', K', rfl⟩ := b_count_for (C := run false defs (k0 + n + 3)) (rf (k0 + n + 2) (by omega) h8) P h2 h8 (h := h) (gs := gs) K fun k hk kvs K => by
      have := np_sw hk
      exact ih k0 (P.wf (fk_mem.mp hk).1) h2 h8 (by omega) h gs kvs K
    exact ⟨kvs', K', run_rt rfl rfl e (fin_dt K' rfl)⟩
theorem c_count_rows (n k0 : Nat) {R : Nat} {row ρ : Nat → Nat} (P : Oo (2 * R) row ρ) (h2 : 2 ≤ R) (h4 : R ≤ 4) (hn : np (2 * R) ρ ≤ n) : run false defs (k0 + n + 4) i_count_rows [.tup (I (rowL (2 * R) row))] h = .ok (.int (cW (2 * R) ρ : Nat), h) := by
  obtain ⟨kvs', K', e⟩ := c_count_for n k0 P (by omega) (by omega) hn h [] [] KI.nil
  have ck : run false defs (k0 + n + 3) i_check_order [.tup (I (rowL (2 * R) row))] h = .ok (.non, h) := c_chk_order (k0 + n) h2 h4 P.perm
  refine run_rt rfl rfl (x := .int (cW (2 * R) ρ : Nat)) (h1 := h ++ [.dt kvs']) ?_ (fin_app rfl)
  generalize run false defs (k0 + n + 3) = C at *
  generalize I (rowL (2 * R) row) = X at *
  simp only [t_count_rows]
  refine sstep (by simp [ck]; rfl) ?_
  simp only [cont_nx]
  simp [e]
theorem b_first_row {R : Nat} {row ρ : Nat → Nat} (P : Oo (2 * R) row ρ) (hn : np (2 * R) ρ ≤ 14) (e1 : ∀ h, C i_check_order [.tup (I (rowL (2 * R) row))] h = .ok (.non, h)) (e2 : ∀ h, C i_count_pairs [.tup (I (rowL (2 * R) row))] h = .ok (.int (inv (rowL (2 * R) row) : Nat), h)) (e3 : ∀ h, C i_least_row [.tup (I (rowL (2 * R) row))] h = .ok (.tup (klD (lW (2 * R) ρ)), h)) :
    evSs C t_first_row.body [some (.tup (I (rowL (2 * R) row)))] h = .ok (.rt (.tup (klD (lW (2 * R) ρ))) h) := by
  rw [np_row P] at e2
  have c : ¬ (14 : Int) < ((np (2 * R) ρ : Nat) : Int) := by omega
  generalize np (2 * R) ρ = n at *
  simp only [t_first_row]
  refine sstep (by simp [e1]; rfl) ?_
  simp only [cont_nx]
  refine sstep (by simp [e2, c]; rfl) ?_
  simp only [cont_nx]
  simp [e3]
theorem c_first_row (k : Nat) {R : Nat} {row ρ : Nat → Nat} (P : Oo (2 * R) row ρ) (h2 : 2 ≤ R) (h4 : R ≤ 4) (hn : np (2 * R) ρ ≤ 14) : run false defs (k + 4) i_first_row [.tup (I (rowL (2 * R) row))] h = .ok (.tup (klD (lW (2 * R) ρ)), h) :=
  run_rt rfl rfl (b_first_row P hn (fun h => c_chk_order k h2 h4 P.perm) (fun h => c_count (k + 2) (by rw [rowL_len]; omega)) fun h => c_least_row (k + 1) P (by omega) (by omega) (by omega)) (fin_self (by rw [pln]; exact kl_pln _))
end
end K26
set_option Elab.async false
set_option linter.all false
set_option maxRecDepth 100000
set_option exponentiation.threshold 10000
namespace K26
open PySem PySem.Spec PyProof.Rows L2 Fx
section
variable {C : Cal} {ns : List Int} {h : Hh}
/-! ## forms -/
theorem c_to_front {N : Nat} (k0 : Nat) {ss : List (Nat × Rat)} {row ρ : Nat → Nat} {k : Nat} (hl : ss.length ≤ 14) (g : El.Lst N ss row) (P : Oo N row ρ) (hk : k ∈ fk N ρ) (H : El.HB N PB ss row) :
    ∃ us b, (∀ h, run false defs (k0 + 20) i_to_front [.tup (ss.map stD), .int (k : Nat)] h = .ok (.tup (((k, b) :: us).map stD), h)) ∧ El.Lst N ((k, b) :: us) row ∧ El.Eqv ss ((k, b) :: us) ∧ us.length + 1 = ss.length := by
  obtain ⟨h1, h2⟩ := fk_mem.mp hk
  obtain ⟨ρ', I', gr⟩ := El.lrev g
  have e := I'.un P.inv
  subst e
  obtain ⟨us, b, w, g1, g2, g3⟩ := c_to_end 14 k0 (by rw [List.length_reverse]; exact hl) (Nat.le_refl _) gr h1 h2 (H.rev P.inv)
  obtain ⟨row', J, g4⟩ := El.lrev g1
  have e := J.un P.inv.symm
  subst e
  have g5 := g2.rev
  rw [List.reverse_reverse] at g5
  rw [List.reverse_append] at g4 g5
  refine ⟨us.reverse, b, fun h => ?_, g4, g5, by rw [List.length_reverse, g3, List.length_reverse]⟩
  refine run_rt rfl rfl (x := .tup (((k, b) :: us.reverse).map stD)) (h1 := h) ?_ (fin_self pln_steps)
  have r1 : ∀ h, revD (.tup (ss.map stD)) h = .ok (.tup (ss.reverse.map stD)) := fun h => by simp [revD, List.map_reverse]
  have r2 : ∀ h, revD (.tup ((us ++ [(k, b)]).map stD)) h = .ok (.tup (((k, b) :: us.reverse).map stD)) := fun h => by simp [revD, List.map_reverse]
  have w : ∀ h, run false defs (k0 + 19) i_to_end [.tup (ss.reverse.map stD), .int (k : Nat)] h = .ok (.tup ((us ++ [(k, b)]).map stD), h) := w
  generalize run false defs (k0 + 19) = C at *
  generalize ((k, b) :: us.reverse).map stD = Z at *
  generalize (us ++ [(k, b)]).map stD = Y at *
  generalize ss.reverse.map stD = X at *
  generalize ss.map stD = V at *
  simp only [t_to_front]
  simp [r1, r2, w]
abbrev saB : Sms := (.cons (.asg (.name 0) (.call i_to_front (.cons (.v 0) (.cons (.v 3) .nil)))) (.cons (.par [2, 0] (.cons (.op .add false (.v 2) (.sl (.v 0) .none (.some (.ci 1)))) (.cons (.sl (.v 0) (.some (.ci 1)) .none) .nil))) .nil))
structure Tf (C : Cal) (N : Nat) : Prop where
  front : ∀ {ss : List (Nat × Rat)} {row ρ : Nat → Nat} {k : Nat}, ss.length ≤ 14 → El.Lst N ss row → Oo N row ρ → k ∈ fk N ρ → El.HB N PB ss row →
    ∃ us b, (∀ h, C i_to_front [.tup (ss.map stD), .int (k : Nat)] h = .ok (.tup (((k, b) :: us).map stD), h)) ∧ El.Lst N ((k, b) :: us) row ∧ El.Eqv ss ((k, b) :: us) ∧ us.length + 1 = ss.length
theorem tf (k0 N : Nat) : Tf (run false defs (k0 + 20)) N := ⟨fun hl g P hk H => c_to_front k0 hl g P hk H⟩
theorem l_sa {N : Nat} (F : Tf C N) {d : D} {row : Nat → Nat} {ks : List Nat} (R : RW N row ks) : ∀ {ss : List (Nat × Rat)}, El.Lst N ss row → ss.length ≤ 14 → El.HB N PB ss row →
    ∃ ff, El.Lst N ff row ∧ El.Eqv ss ff ∧ kds ff = ks ∧ ∀ (found : List (Nat × Rat)) (all : List D) (h : Hh) (x3 : Option D), found.length + ks.length ≤ 100 → ∃ x0 x3', forD none all (.name 3) (evSs C saB) (klD ks) [some (.tup (ss.map stD)), some d, some (.tup (found.map stD)), x3] h = .ok (.nx [x0, some d, some (.tup ((found ++ ff).map stD)), x3'] h) := by
  induction R with
  | @nil row ρ P e =>
    intro ss g hl H
    have z : ss = [] := El.asc_nil g P.inv (fk_nil P e)
    subst z
    exact ⟨[], g, .refl, rfl, fun found all h x3 _ => ⟨some (.tup []), x3, by rw [List.append_nil]; simp only [klD, List.map_nil, forD, stl, if_true]⟩⟩
  | @cons row ρ k ks P hk R ih =>
    intro ss g hl H
    obtain ⟨us, b, w, g1, g2, g3⟩ := F.front hl g P hk H
    obtain ⟨row0, ρ0, e, I0, gu, hlt0, hk1, hb⟩ := El.luncons g1
    subst e
    simp only [El.tr_tr] at ih
    have H1 := H.eqv g2
    obtain ⟨ff, f1, f2, f3, f4⟩ := ih gu (by omega) (H1.tail I0 hlt0 hk1 hb)
    refine ⟨(k, b) :: ff, El.lcons f1 hk1 hb I0 hlt0, fun x => by rw [g2, El.run_cons, El.run_cons, f2], by show k :: kds ff = _; rw [f3], fun found all h x3 hf => ?_⟩
    simp only [List.length_cons] at hf
    obtain ⟨y0, y3, ew⟩ := f4 (found ++ [(k, b)]) all h (some (.int (k : Nat))) (by simp; omega)
    refine ⟨y0, y3, ?_⟩
    have es : found ++ (k, b) :: ff = found ++ [(k, b)] ++ ff := by simp
    rw [es]
    have et : tgD (.name 3) (.int (k : Nat)) [some (.tup (ss.map stD)), some d, some (.tup (found.map stD)), x3] = some [some (.tup (ss.map stD)), some d, some (.tup (found.map stD)), some (.int (k : Nat))] := rfl
    have eb : evSs C saB [some (.tup (ss.map stD)), some d, some (.tup (found.map stD)), some (.int (k : Nat))] h = .ok (.nx [some (.tup (us.map stD)), some d, some (.tup ((found ++ [(k, b)]).map stD)), some (.int (k : Nat))] h) := by
      have s1 := fun h => sl_take (xs := ((k, b) :: us).map stD) (k := 1) (h := h)
      have s2 := fun h => sl_drop (xs := ((k, b) :: us).map stD) (k := 1) (h := h)
      have ad := fun h => add_tup (xs := found.map stD) (ys := [stD (k, b)]) (m := false) (h := h) (by simp; omega)
      have eq : found.map stD ++ [stD (k, b)] = (found ++ [(k, b)]).map stD := by simp
      simp only [eq] at ad
      have s1 : ∀ h, slD (.tup (((k, b) :: us).map stD)) none (some 1) h = .ok (.tup [stD (k, b)]) := s1
      have s2 : ∀ h, slD (.tup (((k, b) :: us).map stD)) (some 1) none h = .ok (.tup (us.map stD)) := s2
      generalize ((k, b) :: us).map stD = Z at *
      generalize stD (k, b) = s at *
      generalize (found ++ [(k, b)]).map stD = Y at *
      generalize found.map stD = X at *
      generalize ss.map stD = V at *
      generalize us.map stD = U at *
      refine sstep (by simp [w, tgD]; rfl) ?_
      simp only [cont_nx, List.set_cons_succ, List.set_cons_zero]
      simp [s1, s2, ad, setAll]
    show forD none all (.name 3) (evSs C saB) (.int (k : Nat) :: klD ks) _ h = _
    simp only [forD, stl, if_true, et, eb, bind_ok]
    exact ew
theorem b_steps_as {N : Nat} (F : Tf C N) {d : D} {row : Nat → Nat} {ks : List Nat} (R : RW N row ks) (hd : SQ (klD ks) d) (hk : ks.length ≤ 14) {ss : List (Nat × Rat)} (g : El.Lst N ss row) (hl : ss.length ≤ 14) (H : El.HB N PB ss row) :
    ∃ ff, El.Lst N ff row ∧ El.Eqv ss ff ∧ kds ff = ks ∧ ∀ h, evSs C t_steps_as.body [some (.tup (ss.map stD)), some d, none, none] h = .ok (.rt (.tup (ff.map stD)) h) := by
  obtain ⟨ff, f1, f2, f3, f4⟩ := l_sa F (d := d) R g hl H
  refine ⟨ff, f1, f2, f3, fun h => ?_⟩
  obtain ⟨x0, x3, e⟩ := f4 [] (klD ks) h none (by simp; omega)
  rw [List.nil_append] at e
  have ei : ∀ (x : Option D), evI C (.seq (.v 1)) [some (.tup (ss.map stD)), some d, x, none] h = .ok ((klD ks, none), h) := fun x => by
    rcases hd with rfl | rfl <;> simp
  simp only [t_steps_as]
  refine sstep (by simp [tgD]; rfl) ?_
  simp only [cont_nx, List.set_cons_succ, List.set_cons_zero]
  refine sstep (o := .ok (.nx [x0, some d, some (.tup (ff.map stD)), x3] h)) (by rw [S_9, ei, lft_ok]; exact e) ?_
  simp only [cont_nx]
  simp
theorem c_steps_as (k0 : Nat) {N : Nat} {d : D} {row : Nat → Nat} {ks : List Nat} (R : RW N row ks) (hd : SQ (klD ks) d) (hk : ks.length ≤ 14) {ss : List (Nat × Rat)} (g : El.Lst N ss row) (hl : ss.length ≤ 14) (H : El.HB N PB ss row) :
    ∃ ff, El.Lst N ff row ∧ El.Eqv ss ff ∧ kds ff = ks ∧ ∀ h, run false defs (k0 + 21) i_steps_as [.tup (ss.map stD), d] h = .ok (.tup (ff.map stD), h) := by
  obtain ⟨ff, f1, f2, f3, e⟩ := b_steps_as (tf k0 N) R hd hk g hl H
  exact ⟨ff, f1, f2, f3, fun h => run_rt rfl rfl (e h) (fin_self pln_steps)⟩
/-- the form of a net -/
structure Fo (R : Nat) (ss ff : List (Nat × Rat)) : Prop where
  lst : El.Lst (2 * R) ff (El.ro (kds ss))
  eqv : El.Eqv ss ff
  row : ∃ ρ, Oo (2 * R) (El.ro (kds ss)) ρ ∧ kds ff = lW (2 * R) ρ
  ok : NetOk R ff 990
theorem fo_un {R : Nat} {ss tt ff gg : List (Nat × Rat)} (f : Fo R ss ff) (g : Fo R tt gg) (e : El.Eqv ss tt) : ff = gg := by
  have er : El.ro (kds ss) = El.ro (kds tt) := El.row_un f.lst g.lst (f.eqv.symm.trans (e.trans g.eqv))
  obtain ⟨ρ, P, k1⟩ := f.row
  obtain ⟨ρ', P', k2⟩ := g.row
  rw [er] at P
  have e2 := (P.un P' rfl).2
  subst e2
  exact El.same_sizes _ rfl f.lst g.lst (k1.trans k2.symm) fun x _ => (f.eqv x).symm.trans ((e x).trans (g.eqv x))
theorem fo_eqv {R : Nat} {ss tt ff : List (Nat × Rat)} (f : Fo R ss ff) (g : Fo R tt ff) : El.Eqv ss tt := f.eqv.trans g.eqv.symm
theorem b_found_form {R : Nat} {ss ll ff : List (Nat × Rat)} {row : Nat → Nat} {ks : List Nat} {L : D} (e1 : ∀ h, C i_kinds_of [netD R ss] h = .ok (.tup (klD (kds ss)), h)) (e2 : ∀ h, C i_order_with_left [.int R, .tup (klD (kds ss))] h = .ok (.tup [.tup (I (rowL (2 * R) row)), L], h))
    (e3 : ∀ h, C i_least_row [.tup (I (rowL (2 * R) row))] h = .ok (.tup (klD ks), h)) (e4 : ∀ h, C i_least_steps [.int R, .tup (ss.map stD)] h = .ok (.tup (ll.map stD), h)) (e5 : ∀ h, C i_steps_as [.tup (ll.map stD), .tup (klD ks)] h = .ok (.tup (ff.map stD), h)) :
    evSs C t_found_form.body [some (netD R ss), none] h = .ok (.rt (netD R ff) h) := by
  have n0 : ∀ h, ixD (netD R ss) (.int 0) h = .ok (.int R) := fun h => ix_t0
  have n1 : ∀ h, ixD (netD R ss) (.int 1) h = .ok (.tup (ss.map stD)) := fun h => ix_t1
  have fn : netD R ff = .tup [.int R, .tup (ff.map stD)] := rfl
  rw [fn]
  generalize netD R ss = A at *
  generalize klD (kds ss) = B at *
  generalize klD ks = E at *
  generalize I (rowL (2 * R) row) = G at *
  generalize ss.map stD = U at *
  generalize ll.map stD = V at *
  generalize ff.map stD = Z at *
  simp only [t_found_form]
  refine sstep (by simp [n0, e1, e2, e3, tgD]; rfl) ?_
  simp only [cont_nx, List.set_cons_succ, List.set_cons_zero]
  simp [n0, n1, e4, e5]
theorem c_found_form (k0 : Nat) {R : Nat} {ss : List (Nat × Rat)} (G : Gd R ss) : ∃ ff, (∀ h, run false defs (k0 + 22) i_found_form [netD R ss] h = .ok (netD R ff, h)) ∧ Fo R ss ff := by
  have H := G.ok
  have hl := H.len
  have h4 := H.hi
  have h2 := H.lo
  obtain ⟨ll, w1, L⟩ := c_least_steps (k0 + 1) G
  have l1 := L.len
  obtain ⟨ρ, P⟩ := Oo.of_lst L.lst
  have hn : np (2 * R) ρ = ll.length := by rw [← np_row P, ← iv_lst L.lst]; unfold iv; rw [show El.ro (kds ll) = _ from L.lst.ro]
  have HBl : El.HB (2 * R) PB ll (El.ro (kds ss)) := G.hbw L.lst L.eqv
  obtain ⟨ff, f1, f2, f3, w2⟩ := c_steps_as k0 (lW_rw P) (.inr rfl) (by rw [lW_len P]; omega) L.lst (by omega) HBl
  have fl : ff.length = ll.length := by rw [← kds_len (ss := ff), f3, lW_len P, hn]
  have ok : NetOk R ff 990 := ⟨h2, h4, by omega, fun s hs => ⟨by have := f1.kinds s hs; omega, num_pos (f1.pos s hs), HBl ff f1 f2.symm s hs⟩⟩
  refine ⟨ff, fun h => ?_, f1, L.eqv.trans f2, ⟨ρ, P, f3⟩, ok⟩
  have e2 : ∀ h, run false defs (k0 + 21) i_order_with_left [.int R, .tup (klD (kds ss))] h = .ok (.tup [.tup (I (rowL (2 * R) (El.ro (kds ss)))), .lst (I (lef R (kds ss)))], h) := fun h => by
    have := c_owl (h := h) (k0 + 19) h4 (kds_ok H) (by rw [kds_len]; exact hl)
    unfold ord at this
    rw [runO_ro _ (kds_ok H)] at this
    exact this
  exact run_rt rfl rfl (b_found_form (fun h => c_kinds (k0 + 20) hl) e2 (fun h => c_least_row (k0 + 19) P (by omega) (by omega) (by omega)) w1 w2) (fin_self pln_net)
theorem b_form {R : Nat} {ss ff : List (Nat × Rat)} (e1 : ∀ h, C i_check_net [netD R ss] h = .ok (.non, h)) (e2 : ∀ h, C i_found_form [netD R ss] h = .ok (netD R ff, h)) : evSs C t_form.body [some (netD R ss)] h = .ok (.rt (netD R ff) h) := by
  generalize netD R ss = A at *
  generalize netD R ff = B at *
  simp only [t_form]
  refine sstep (by simp [e1]; rfl) ?_
  simp only [cont_nx]
  simp [e2]
theorem c_form (k0 : Nat) {R : Nat} {ss : List (Nat × Rat)} (G : Gd R ss) : ∃ ff, (∀ h, run false defs (k0 + 23) i_form [netD R ss] h = .ok (netD R ff, h)) ∧ Fo R ss ff := by
  obtain ⟨ff, w, F⟩ := c_found_form k0 G
  exact ⟨ff, fun h => run_rt rfl rfl (b_form (fun h => c_check (k0 + 17) G.ok) w) (fin_self pln_net), F⟩
/-! ### likeness -/
theorem fr_inj {p q : Rat} (h : fr p = fr q) : p = q := by
  unfold fr at h
  simp only [D.tup.injEq, List.cons.injEq, D.int.injEq, and_true] at h
  obtain ⟨h1, h2⟩ := h
  have h2 : p.den = q.den := by exact_mod_cast h2
  exact Rat.ext h1 h2
theorem st_inj {s t : Nat × Rat} (h : stD s = stD t) : s = t := by
  unfold stD at h
  simp only [D.tup.injEq, List.cons.injEq, D.int.injEq, and_true] at h
  obtain ⟨h1, h2⟩ := h
  have h1 : s.1 = t.1 := by exact_mod_cast h1
  exact Prod.ext h1 (fr_inj h2)
theorem deq_st (s t : Nat × Rat) : deq (stD s) (stD t) = decide (s = t) := by
  have e : deq (stD s) (stD t) = ((((s.1 : Nat) : Int) == ((t.1 : Nat) : Int)) && ((s.2.num == t.2.num && (((s.2.den : Nat) : Int) == ((t.2.den : Nat) : Int) && true)) && true)) := rfl
  rw [e, Bool.eq_iff_iff]
  simp only [Bool.and_eq_true, beq_iff_eq, and_true, decide_eq_true_iff]
  constructor
  · rintro ⟨h1, h2, h3⟩
    exact Prod.ext (by exact_mod_cast h1) (Rat.ext h2 (by exact_mod_cast h3))
  · rintro rfl
    exact ⟨rfl, rfl, rfl⟩
theorem deqL_st : ∀ (ss tt : List (Nat × Rat)), deqL (ss.map stD) (tt.map stD) = decide (ss = tt)
  | [], [] => rfl
  | [], _ :: _ => rfl
  | _ :: _, [] => rfl
  | s :: ss, t :: tt => by
    show (deq (stD s) (stD t) && deqL (ss.map stD) (tt.map stD)) = _
    rw [deq_st, deqL_st ss tt]
    by_cases h1 : s = t
    · by_cases h2 : ss = tt
      · simp [h1, h2]
      · simp [h1, h2]
    · simp [h1]
theorem dep_net {R : Nat} {ss : List (Nat × Rat)} : dep (netD R ss) ≤ 4 := by
  have := depL_map stD 2 (fun _ => Nat.le_of_eq dep_st) ss
  simp only [netD, dep, depL]
  omega
theorem eq_net {R : Nat} {ss tt : List (Nat × Rat)} {h : Hh} : cmpD .eq h (netD R ss) (netD R tt) = .ok (decide (ss = tt)) := by
  have d1 := dep_net (R := R) (ss := ss)
  have d2 := dep_net (R := R) (ss := tt)
  show eqD h _ _ = _
  rw [eqD_pln pln_net pln_net (by omega) (by omega)]
  show Res.ok ((((R : Int) == (R : Int)) && ((deqL (ss.map stD) (tt.map stD)) && true))) = _
  rw [deqL_st]
  simp
theorem ne_net {R : Nat} {ss tt : List (Nat × Rat)} {h : Hh} : cmpD .ne h (netD R ss) (netD R tt) = .ok (!decide (ss = tt)) := by
  have := eq_net (R := R) (ss := ss) (tt := tt) (h := h)
  unfold cmpD at this ⊢
  simp only at this ⊢
  rw [this]
  rfl
theorem b_do_same {R : Nat} {ss tt ff gg : List (Nat × Rat)} (e1 : ∀ h, C i_found_form [netD R ss] h = .ok (netD R ff, h)) (e2 : ∀ h, C i_found_form [netD R tt] h = .ok (netD R gg, h)) :
    evSs C t_do_same.body [some (netD R ss), some (netD R tt)] h = .ok (.rt (.bl (decide (ff = gg))) h) := by
  have n0 : ∀ h, ixD (netD R ss) (.int 0) h = .ok (.int R) := fun h => ix_t0
  have n1 : ∀ h, ixD (netD R tt) (.int 0) h = .ok (.int R) := fun h => ix_t0
  have q : ∀ h, cmpD .eq h (.int (R : Nat)) (.int (R : Nat)) = .ok true := fun h => eqD_refl rfl (by simp [dep])
  have en := fun h => eq_net (R := R) (ss := ff) (tt := gg) (h := h)
  generalize netD R ss = A at *
  generalize netD R tt = B at *
  generalize netD R ff = A' at *
  generalize netD R gg = B' at *
  simp only [t_do_same]
  simp [n0, n1, q, e1, e2, en]
theorem b_same {A B : D} {b : Bool} (e1 : ∀ h, C i_check_net [A] h = .ok (.non, h)) (e2 : ∀ h, C i_check_net [B] h = .ok (.non, h)) (e3 : ∀ h, C i_do_same [A, B] h = .ok (.bl b, h)) : evSs C t_same.body [some A, some B] h = .ok (.rt (.bl b) h) := by
  simp only [t_same]
  refine sstep (by simp [e1]; rfl) ?_
  simp only [cont_nx]
  refine sstep (by simp [e2]; rfl) ?_
  simp only [cont_nx]
  simp [e3]
theorem c_do_same (k0 : Nat) {R : Nat} {ss tt : List (Nat × Rat)} (G : Gd R ss) (G' : Gd R tt) : ∃ ff gg, (∀ h, run false defs (k0 + 23) i_do_same [netD R ss, netD R tt] h = .ok (.bl (decide (ff = gg)), h)) ∧ Fo R ss ff ∧ Fo R tt gg := by
  obtain ⟨ff, w, F⟩ := c_found_form k0 G
  obtain ⟨gg, w', F'⟩ := c_found_form k0 G'
  exact ⟨ff, gg, fun h => run_rt rfl rfl (b_do_same w w') (fin_self rfl), F, F'⟩
/-- two nets are told as alike exactly if they do the same -/
theorem c_same (k0 : Nat) {R : Nat} {ss tt : List (Nat × Rat)} (G : Gd R ss) (G' : Gd R tt) : ∃ b, (∀ h, run false defs (k0 + 24) i_same [netD R ss, netD R tt] h = .ok (.bl b, h)) ∧ (b = true ↔ El.Eqv ss tt) := by
  obtain ⟨ff, gg, w, F, F'⟩ := c_do_same k0 G G'
  refine ⟨decide (ff = gg), fun h => run_rt rfl rfl (b_same (fun h => c_check (k0 + 18) G.ok) (fun h => c_check (k0 + 18) G'.ok) w) (fin_self rfl), ?_⟩
  rw [decide_eq_true_iff]
  constructor
  · rintro rfl
    exact fo_eqv F F'
  · exact fo_un F F'
end
end K26
set_option Elab.async false
set_option linter.all false
set_option maxRecDepth 100000
set_option exponentiation.threshold 10000
namespace K26
open PySem PySem.Spec PyProof.Rows L2 Fx
section
variable {C : Cal} {ns : List Int} {h : Hh}
theorem ch_le : ∀ (n k : Nat), ch n k ≤ 2 ^ n
  | 0, 0 => Nat.le_refl _
  | 0, k + 1 => by show 0 ≤ _; exact Nat.zero_le _
  | n + 1, 0 => by rw [ch_0]; exact Nat.pow_pos (by decide)
  | n + 1, k + 1 => by
    show ch n k + ch n (k + 1) ≤ _
    have h1 := ch_le n k
    have h2 := ch_le n (k + 1)
    rw [Nat.pow_succ]
    omega
theorem b_binom {m s : Nat} (hs : s ≤ m) (hm : m ≤ 20) : W (evSs C t_law_binomial.body [some (.int (m : Nat)), some (.int (s : Nat)), none, none] h) fun o => o = .rt (.int (ch m s : Nat)) h := by
  simp only [t_law_binomial]
  refine wst (by simp [tgD]; rfl) ?_
  simp only [cont_nx, List.set_cons_succ, List.set_cons_zero]
  refine wfor s (fun i r h' => ∃ x3, r = [some (.int (m : Nat)), some (.int (s : Nat)), some (.int (ch m i : Nat)), x3] ∧ h' = h) (rangeI (n := s) (v := (s : Nat)) (by simp) rfl (by omega)) ⟨none, by rw [ch_0]; rfl, rfl⟩ (fun i r h' hi p => ?_) (fun r h' p => ?_)
  · obtain ⟨x3, rfl, rfl⟩ := p
    refine ⟨_, rfl, ?_⟩
    simp only [List.set_cons_succ, List.set_cons_zero]
    have e := ch_mul m i (by omega)
    have z : ((ch m i : Nat) : Int) * ((m : Int) - (i : Int)) / ((i : Int) + 1) = ((ch m (i + 1) : Nat) : Int) := by
      have e2 : ((ch m i : Nat) : Int) * ((m : Int) - (i : Int)) = ((ch m (i + 1) : Nat) : Int) * ((i : Int) + 1) := by
        have : ((m : Int) - (i : Int)) = ((m - i : Nat) : Int) := by omega
        rw [this]
        exact_mod_cast e
      rw [e2]
      exact Int.mul_ediv_cancel _ (by omega)
    have l1 : ((ch m i : Nat) : Int).natAbs.log2 + ((m : Int) - (i : Int)).natAbs.log2 < 1000000 := by
      have a1 : ((ch m i : Nat) : Int).natAbs < 2 ^ 21 := by
        have := ch_le m i
        have h2 : (2 : Nat) ^ m ≤ 2 ^ 20 := Nat.pow_le_pow_right (by decide) hm
        have : (2 : Nat) ^ 20 < 2 ^ 21 := by decide
        omega
      have a2 : ((m : Int) - (i : Int)).natAbs < 2 ^ 21 := by
        have : (20 : Nat) < 2 ^ 21 := by decide
        omega
      have b1 := log_bits a1
      have b2 := log_bits a2
      omega
    have om := fun h => op_mul_int (m := false) (h := h) l1
    have fd : ∀ h, opD .fdiv false (.int (((ch m i : Nat) : Int) * ((m : Int) - (i : Int)))) (.int ((i : Int) + 1)) h = .ok (.int (ch m (i + 1) : Nat), h) := fun h => by
      have c : 0 < (i : Int) + 1 ∧ ((i : Int) + 1).natAbs.log2 < 9000 := by
        refine ⟨by omega, ?_⟩
        have : ((i : Int) + 1).natAbs < 2 ^ 21 := by
          have : (20 : Nat) + 1 < 2 ^ 21 := by decide
          omega
        have := log_bits this
        omega
      simp only [opD, intsD, if_pos c, z, bind_ok]
    refine wst (by simp [om, fd, tgD]; rfl) ?_
    exact wend ⟨_, rfl, rfl⟩
  · obtain ⟨x3, rfl, rfl⟩ := p
    exact wrt (d := .int (ch m s : Nat)) (h1 := h') (by simp) rfl
theorem c_binom (k : Nat) {m s : Nat} (hs : s ≤ m) (hm : m ≤ 20) : run false defs (k + 1) i_law_binomial [.int (m : Nat), .int (s : Nat)] h = .ok (.int (ch m s : Nat), h) := by
  obtain ⟨o, e, rfl⟩ := b_binom (C := run false defs k) (h := h) hs hm
  exact run_rt rfl rfl e (fin_self rfl)
/-! ## the two groups -/
theorem oo_net {N : Nat} {ss : List (Nat × Rat)} (hs : Sok N ss) : Oo N (El.ro (kds ss)) (El.ro (kds ss.reverse)) := by
  obtain ⟨ff, f1, f2⟩ := El.ls_ex ss hs
  exact ⟨ro_inv hs, f1.lt, f1.out⟩
theorem kds_rev {ss : List (Nat × Rat)} {P : Nat → Prop} (h : ∀ k ∈ kds ss, P k) : ∀ k ∈ kds ss.reverse, P k := fun k hk => by
  obtain ⟨s, hs, rfl⟩ := List.mem_map.mp hk
  exact h _ (List.mem_map.mpr ⟨s, List.mem_reverse.mp hs, rfl⟩)
theorem far_nets {N L : Nat} {aa bb : List (Nat × Rat)} (ha : Sok N aa) (hb : Sok N bb) (ka : ∀ k ∈ kds aa, k ≤ L) (kb : ∀ k ∈ kds bb, L + 2 ≤ k) :
    Far N L (El.ro (kds aa)) (El.ro (kds bb)) (El.ro (kds aa.reverse)) (El.ro (kds bb.reverse)) :=
  ⟨oo_net ha, oo_net hb, ro_lo _ ka, ro_hg _ kb, ro_lo _ (kds_rev ka), ro_hg _ (kds_rev kb)⟩
theorem far_comm {s : Nat × Rat} : ∀ {bb : List (Nat × Rat)}, (∀ t ∈ bb, s.1 + 1 < t.1 ∨ t.1 + 1 < s.1) → El.Eqv (bb ++ [s]) (s :: bb)
  | [], _ => .refl
  | t :: bb, h => fun x => by
    have ih := far_comm (s := s) fun u hu => h u (List.mem_cons_of_mem _ hu)
    have e := El.swap_tk (k := t.1) (l := s.1) (a := t.2) (b := s.2) (by have := h t List.mem_cons_self; omega) x
    show El.run (bb ++ [s]) (El.tk t x) = El.run bb (El.tk t (El.tk s x))
    rw [ih, El.run_cons]
    exact congrArg _ e
theorem lst_mg {N L : Nat} {fa fb : List (Nat × Rat)} {a b : Nat → Nat} (ga : El.Lst N fa a) (la : Lo L a) (gb : El.Lst N fb b) : (∀ s ∈ fb, L + 2 ≤ s.1) → El.Lst N (fa ++ fb) (mg L a b) := by
  induction gb with
  | nil =>
    intro _
    have e : mg L a id = a := by
      funext j
      unfold mg
      split
      · rfl
      · rw [la.2 j (by omega)]; rfl
    rw [e, List.append_nil]
    exact ga
  | @snoc ss row k c g hk hlt hc ih =>
    intro h
    have hk2 := h (k, c) (by simp)
    simp only at hk2
    have g2 := El.Lst.snoc (k := k) (a := c) (ih fun s hs => h s (List.mem_append_left _ hs)) hk (by unfold mg; rw [if_neg (by omega), if_neg (by omega)]; exact hlt) hc
    rw [mg_swr hk2] at g2
    rwa [← List.append_assoc]
theorem lW_hg {N L : Nat} : ∀ (n : Nat) {ρ : Nat → Nat}, Hg L ρ → np N ρ ≤ n → ∀ k ∈ lW N ρ, L + 2 ≤ k := by
  intro n
  induction n with
  | zero => intro ρ r hn k hk; rw [lW_eq, np_0 (by omega)] at hk; cases hk
  | succ n ih =>
    intro ρ r hn k hk
    rw [lW_eq] at hk
    cases e : fk N ρ with
    | nil => rw [e] at hk; cases hk
    | cons l ls =>
      rw [e] at hk
      have hl : l ∈ fk N ρ := by rw [e]; exact List.mem_cons_self
      have h1 := np_sw hl
      rcases List.mem_cons.mp hk with q | q
      · subst q; exact fk_hg r hl
      · exact ih (hg_sw r (fk_hg r hl)) (by omega) k q
theorem lW_lo {N L : Nat} : ∀ (n : Nat) {ρ : Nat → Nat}, Lo L ρ → np N ρ ≤ n → ∀ k ∈ lW N ρ, k ≤ L := by
  intro n
  induction n with
  | zero => intro ρ r hn k hk; rw [lW_eq, np_0 (by omega)] at hk; cases hk
  | succ n ih =>
    intro ρ r hn k hk
    rw [lW_eq] at hk
    cases e : fk N ρ with
    | nil => rw [e] at hk; cases hk
    | cons l ls =>
      rw [e] at hk
      have hl : l ∈ fk N ρ := by rw [e]; exact List.mem_cons_self
      have h1 := np_sw hl
      rcases List.mem_cons.mp hk with q | q
      · subst q; exact fk_lo r hl
      · exact ih (lo_sw r (fk_lo r hl)) (by omega) k q
/-- the whole, in what is told of both groups -/
structure Two (R L : Nat) (ss aa bb : List (Nat × Rat)) : Prop where
  hs : NetOk R ss
  ha : NetOk R aa
  hb : NetOk R bb
  ka : ∀ k ∈ kds aa, k ≤ L
  kb : ∀ k ∈ kds bb, L + 2 ≤ k
  len : ss.length = aa.length + bb.length
  e : El.Eqv ss (aa ++ bb)
section
variable {R L : Nat} {ss aa bb : List (Nat × Rat)}
theorem Two.far (T : Two R L ss aa bb) : Far (2 * R) L (El.ro (kds aa)) (El.ro (kds bb)) (El.ro (kds aa.reverse)) (El.ro (kds bb.reverse)) := far_nets T.ha.sok T.hb.sok T.ka T.kb
theorem Two.row (T : Two R L ss aa bb) : El.ro (kds ss) = mg L (El.ro (kds aa)) (El.ro (kds bb)) := by
  rw [ro_eqv T.hs.sok (T.ha.sok.app T.hb.sok) T.e, kds_app, ro_mg T.ka _ T.kb]
theorem Two.oo (T : Two R L ss aa bb) : Oo (2 * R) (El.ro (kds ss)) (mg L (El.ro (kds aa.reverse)) (El.ro (kds bb.reverse))) := by
  have F := T.far
  rw [T.row]
  exact oo_mg F.A F.B F.la F.lb F.ra F.rb
theorem Two.np (T : Two R L ss aa bb) : Fx.np (2 * R) (mg L (El.ro (kds aa.reverse)) (El.ro (kds bb.reverse))) = Fx.np (2 * R) (El.ro (kds aa.reverse)) + Fx.np (2 * R) (El.ro (kds bb.reverse)) := far_np _ T.far (Nat.le_refl _)
theorem Two.form (T : Two R L ss aa bb) {fs fa fb : List (Nat × Rat)} (f : Fo R ss fs) (g : Fo R aa fa) (h : Fo R bb fb) : fs = fa ++ fb ∧ (∀ s ∈ fa, s.1 ≤ L) ∧ ∀ s ∈ fb, L + 2 ≤ s.1 := by
  have F := T.far
  obtain ⟨ρs, Ps, ks⟩ := f.row
  obtain ⟨ρa, Pa, ka⟩ := g.row
  obtain ⟨ρb, Pb, kb⟩ := h.row
  have ea := (Pa.un F.A rfl).2
  have eb := (Pb.un F.B rfl).2
  have es := (Ps.un T.oo rfl).2
  subst ea eb es
  have la : ∀ s ∈ fa, s.1 ≤ L := fun s hs => lW_lo _ F.ra (Nat.le_refl _) s.1 (by rw [← ka]; exact List.mem_map.mpr ⟨s, hs, rfl⟩)
  have lb : ∀ s ∈ fb, L + 2 ≤ s.1 := fun s hs => lW_hg _ F.rb (Nat.le_refl _) s.1 (by rw [← kb]; exact List.mem_map.mpr ⟨s, hs, rfl⟩)
  refine ⟨?_, la, lb⟩
  have g2 := lst_mg g.lst F.la h.lst lb
  have kk : kds fs = kds (fa ++ fb) := by rw [ks, far_lW _ F (Nat.le_refl _), kds_app, ka, kb]
  exact El.same_sizes _ rfl f.lst g2 kk fun x _ => (f.eqv x).symm.trans ((T.e x).trans ((g.eqv.app h.eqv) x))
theorem lef_len {R : Nat} {ss : List (Nat × Rat)} (H : NetOk R ss) : inv (od R ss) + (lef R (kds ss)).length = ss.length := by
  have := runO_inv (r := rng0 (2 * R)) rng0_inv (kds ss) fun k hk => by rw [rng0_len]; exact kds_ok H k hk
  rw [kds_len] at this
  rw [← od_ord H]
  exact this
end
end
end K26
set_option Elab.async false
set_option linter.all false
set_option maxRecDepth 100000
set_option exponentiation.threshold 10000
namespace K26
open PySem PySem.Spec PyProof.Rows L2 Fx
section
variable {C : Cal} {ns : List Int} {h : Hh}
theorem range_aux2 {as : Exs} {r : Ev} {h h1 : Hh} {n' : Nat} {ds L : List D} (e : evEs C as r h = .ok (ds, h1)) (hl : ds.length = n') (e3 : rngD ds = some L) : evI C (.range n' as) r h = .ok ((L, none), h1) := by
  rw [I_1, e, bind_ok]
  simp only [hl, if_true, e3]
/-- a loop over 0 .. n - 1 whose bound changes the heap -/
theorem wfor2 {r : Ev} {h h1 : Hh} {rest : Sms} {Q : Out → Prop} {g : Tg} {it : Itr} {b : Sms} (n : Nat) (P : Nat → Ev → Hh → Prop) (ei : evI C it r h = .ok (((List.range n).map fun i => .int (i : Nat), none), h1)) (p : P 0 r h1)
    (step : ∀ i r h, i < n → P i r h → ∃ r1, tgD g (.int (i : Nat)) r = some r1 ∧ W (evSs C b r1 h) (LQ (P (i + 1)) (fun r h => W (evSs C rest r h) Q) Q))
    (k : ∀ r h, P n r h → W (evSs C rest r h) Q) : W (evSs C (.cons (.forr g it b) rest) r h) Q := by
  have F := forL (all := (List.range n).map fun i => .int (i : Nat)) (g := g) (body := evSs C b) (K := fun r h => W (evSs C rest r h) Q) (Q := Q) (fun i => .int (i : Nat)) (fun done r h => P done.length r h) (List.range n) (fun done x todo r h e p => by
    have hl : done.length + 1 + todo.length = n := by
      have := congrArg List.length e
      simp at this
      omega
    have hx : x = done.length := by
      have := congrArg (fun l => l[done.length]?) e
      simp at this
      have h2 : (List.range n)[done.length]? = some done.length := List.getElem?_range (by omega)
      rw [h2] at this
      exact (Option.some.inj this).symm
    subst hx
    obtain ⟨r1, e1, w⟩ := step done.length r h (by omega) p
    refine ⟨r1, e1, w.mono fun o q => ?_⟩
    cases o <;> simp only [LQ, List.length_append, List.length_singleton] at q ⊢ <;> exact q) (List.range n) [] r h1 rfl p
  refine wst (o := forD none ((List.range n).map fun i => .int (i : Nat)) g (evSs C b) ((List.range n).map fun i => .int (i : Nat)) r h1) (by rw [S_9, ei, lft_ok]) (wcont ?_)
  obtain ⟨o, e, q⟩ := F
  refine ⟨o, e, ?_⟩
  cases o with
  | nx r h => exact q.elim (fun q => k r h (by simpa using q)) id
  | _ => exact q
/-- all that the law calls -/
structure LawF (C : Cal) (ns : List Int) : Prop where
  town : ns.length ≤ 63 → C i_law_town [.scr (I ns)] [] = .ok (.ref 0, [.lst (I (0 :: ns))])
  draw : ∀ (ts : List Int) (c : Nat) (L : Int) (rest : Hh), Tn ns c ts → c < 30000 → 0 < L → L < 4294967296 → ∃ (v : Nat) (ts' : List Int), (v : Int) < L ∧ Tn ns (c + 1) ts' ∧ C i_law_draw [.scr (I ns), .ref 0, .int L] (.lst (I ts) :: rest) = .ok (.int v, .lst (I ts') :: rest)
  size : ∀ (ts : List Int) (c : Nat) (rest : Hh), Tn ns c ts → c < 29000 → ∃ q ts', 0 < q.num ∧ Bd 7 q ∧ Tn ns (c + 3) ts' ∧ C i_law_size [.scr (I ns), .ref 0] (.lst (I ts) :: rest) = .ok (fr q, .lst (I ts') :: rest)
  order : ∀ {R : Nat} {ss : List (Nat × Rat)} (h : Hh), NetOk R ss → C i_order [netD R ss] h = .ok (.tup (I (od R ss)), h)
  pairs : ∀ {R : Nat} {r : List Int} (h : Hh), 2 ≤ R → R ≤ 4 → r.Perm (rng0 (2 * R)) → C i_pairs_of [.tup (I r)] h = .ok (.int (inv r : Nat), h)
  joined : ∀ {R : Nat} {ss tt : List (Nat × Rat)} (h : Hh), NetOk R ss → NetOk R tt → ss.length + tt.length ≤ 14 → C i_joined [netD R ss, netD R tt] h = .ok (netD R (ss ++ tt), h)
  free : ∀ {R : Nat} {ss : List (Nat × Rat)} (h : Hh), NetOk R ss → C i_freedom [netD R ss] h = .ok (.int ((lef R (kds ss)).length : Nat), h)
  same : ∀ {R : Nat} {ss tt : List (Nat × Rat)}, NetOk R ss → NetOk R tt → ∃ b, (∀ h, C i_same [netD R ss, netD R tt] h = .ok (.bl b, h)) ∧ (b = true ↔ El.Eqv ss tt)
  form : ∀ {R : Nat} {ss : List (Nat × Rat)}, NetOk R ss → ∃ ff, (∀ h, C i_form [netD R ss] h = .ok (netD R ff, h)) ∧ Fo R ss ff
  count : ∀ {R : Nat} {row ρ : Nat → Nat} (h : Hh), Oo (2 * R) row ρ → 2 ≤ R → R ≤ 4 → np (2 * R) ρ ≤ 14 → C i_count_rows [.tup (I (rowL (2 * R) row))] h = .ok (.int (cW (2 * R) ρ : Nat), h)
  first : ∀ {R : Nat} {row ρ : Nat → Nat} (h : Hh), Oo (2 * R) row ρ → 2 ≤ R → R ≤ 4 → np (2 * R) ρ ≤ 14 → C i_first_row [.tup (I (rowL (2 * R) row))] h = .ok (.tup (klD (lW (2 * R) ρ)), h)
  binom : ∀ {m s : Nat} (h : Hh), s ≤ m → m ≤ 20 → C i_law_binomial [.int (m : Nat), .int (s : Nat)] h = .ok (.int (ch m s : Nat), h)
theorem lawf (k : Nat) (ns : List Int) : LawF (run false defs (k + 30)) ns where
  town := fun hl => c_town (k + 29) ns hl
  draw := fun ts c L rest T hc h0 h1 => c_draw (k + 29) ns ts c L rest T hc h0 h1
  size := fun ts c rest T hc => c_size (k + 27) T hc
  order := fun h H => c_od (k + 24) H (by decide)
  pairs := fun h h2 h4 p => c_pairs (k + 27) h2 h4 p
  joined := fun h H1 H2 hl => c_joined (k + 24) H1 H2 hl
  free := fun h H => c_freedom (k + 24) H
  same := fun H1 H2 => c_same (k + 6) (gd_net H1) (gd_net H2)
  form := fun H => c_form (k + 7) (gd_net H)
  count := fun h P h2 h4 hn => c_count_rows 14 (k + 12) P h2 h4 hn
  first := fun h P h2 h4 hn => c_first_row (k + 26) P h2 h4 hn
  binom := fun h hs hm => c_binom (k + 29) hs hm
theorem far_swap {bb : List (Nat × Rat)} : ∀ {aa : List (Nat × Rat)}, (∀ s ∈ aa, ∀ t ∈ bb, s.1 + 1 < t.1 ∨ t.1 + 1 < s.1) → El.Eqv (bb ++ aa) (aa ++ bb)
  | [], _ => by rw [List.append_nil]; exact .refl
  | s :: aa, h => by
    have e1 := far_comm (s := s) (bb := bb) (h s List.mem_cons_self)
    have e2 := far_swap (bb := bb) (aa := aa) fun u hu => h u (List.mem_cons_of_mem _ hu)
    have e3 : bb ++ s :: aa = (bb ++ [s]) ++ aa := by simp
    rw [e3]
    refine (e1.app .refl).trans ?_
    show El.Eqv ([s] ++ (bb ++ aa)) ([s] ++ (aa ++ bb))
    exact El.Eqv.refl.app e2
theorem srt_kl {ks : List Nat} {d : D} {h : Hh} (hl : ks.length ≤ 100) (hd : d = .tup (klD ks)) : srtD false d h = .ok (.lst (I ((ks.map fun k : Nat => (k : Int)).mergeSort fun a b => decide (a ≤ b))), h) := by
  subst hd
  rw [kl_I]
  have e : seqOf h (.tup (I (ks.map fun k : Nat => (k : Int)))) = some (I (ks.map fun k : Nat => (k : Int))) := rfl
  unfold srtD
  rw [e]
  simp only [srt_int (r := ks.map fun k : Nat => (k : Int)) (by rw [List.length_map]; omega), if_true, sort_I]
  rfl
theorem app_1 {t a b c : List D} {d : D} (l : a.length < 1000000) : mtD .append (.ref 1) [d] [.lst t, .lst a, .lst b, .lst c] = .ok (.non, [.lst t, .lst (a ++ [d]), .lst b, .lst c]) := app_mid (h := [.lst t]) (gs := [.lst b, .lst c]) l
theorem app_2 {t a b c : List D} {d : D} (l : b.length < 1000000) : mtD .append (.ref 2) [d] [.lst t, .lst a, .lst b, .lst c] = .ok (.non, [.lst t, .lst a, .lst (b ++ [d]), .lst c]) := app_mid (h := [.lst t, .lst a]) (gs := [.lst c]) l
theorem app_3 {t a b c : List D} {d : D} (l : c.length < 1000000) : mtD .append (.ref 3) [d] [.lst t, .lst a, .lst b, .lst c] = .ok (.non, [.lst t, .lst a, .lst b, .lst (c ++ [d])]) := app_mid (h := [.lst t, .lst a, .lst b]) (gs := []) l
theorem b_law (F : LawF C ns) (hl : ns.length ≤ 63) : W (evSs C t_law.body [some (.scr (I ns)), none, none, none, none, none, none, none, none, none, none, none, none, none, none, none, none, none] []) fun o => ∃ h', o = .rt (.bl true) h' := by
  have e0 := F.town hl
  obtain ⟨w, t1, hw, T1, e1⟩ := F.draw (0 :: ns) 0 2 [] (tn_start ns) (by omega) (by omega) (by omega)
  have e1 : C i_law_draw [.scr (I ns), .ref 0, .int 2] [.lst (I (0 :: ns))] = .ok (.int (w : Nat), [.lst (I t1)]) := e1
  have z2 : (3 : Int) + (w : Int) = ((3 + w : Nat) : Int) := by omega
  simp only [t_law]
  refine wst (by simp [e0, tgD]; rfl) ?_
  simp only [cont_nx]
  refine wst (by simp [e1, tgD]; rfl) ?_
  simp only [cont_nx, z2]
  have hR : 3 + w ≤ 4 := by omega
  have hR3 : 3 ≤ 3 + w := by omega
  generalize 3 + w = R at *
  have m := fun h => op_mul_sm (m := false) (h := h) (i := 2) (j := R) (by decide) (by omega)
  obtain ⟨L, t2, hL, T2, e2⟩ := F.draw t1 _ (2 * (R : Int) - 4) [] T1 (by omega) (by omega) (by omega)
  have e2 : C i_law_draw [.scr (I ns), .ref 0, .int (2 * (R : Int) - 4)] [.lst (I t1)] = .ok (.int (L : Nat), [.lst (I t2)]) := e2
  refine wst (by simp [m, e2, tgD]; rfl) ?_
  simp only [cont_nx, List.set_cons_succ, List.set_cons_zero]
  refine wst (by simp [setAll]; rfl) ?_
  simp only [cont_nx, List.set_cons_succ, List.set_cons_zero]
  obtain ⟨many, t3, hm, T3, e3⟩ := F.draw t2 _ 10 [.lst [], .lst [], .lst []] T2 (by omega) (by omega) (by omega)
  have e3 : C i_law_draw [.scr (I ns), .ref 0, .int 10] [.lst (I t2), .lst [], .lst [], .lst []] = .ok (.int (many : Nat), [.lst (I t3), .lst [], .lst [], .lst []]) := e3
  refine wfor2 many (fun i r h' => ∃ ts c A B S x7 x8, Tn ns c ts ∧ c ≤ 100 + 10 * i ∧ (∀ s ∈ A, StOk R s ∧ s.1 ≤ L) ∧ (∀ s ∈ B, StOk R s ∧ L + 2 ≤ s.1) ∧ (∀ s ∈ S, StOk R s) ∧ S.length = A.length + B.length ∧ S.length ≤ i ∧ El.Eqv S (A ++ B) ∧
      r = [some (.scr (I ns)), some (.ref 0), some (.int R), some (.int (L : Nat)), some (.ref 1), some (.ref 2), some (.ref 3), x7, x8, none, none, none, none, none, none, none, none, none] ∧ h' = [.lst (I ts), .lst (A.map stD), .lst (B.map stD), .lst (S.map stD)])
    (h1 := [.lst (I t3), .lst [], .lst [], .lst []]) (range_aux2 (ds := [.int (many : Nat)]) (by simp [e3]) rfl (rng_nat (by omega))) ⟨t3, _, [], [], [], none, none, T3, by omega, by simp, by simp, by simp, rfl, Nat.le_refl _, .refl, rfl, rfl⟩ (fun i r h' hi p => ?_) (fun r h' p => ?_)
  · obtain ⟨ts, c, A, B, S, x7, x8, T, hc, hA, hB, hS, hlen, hSi, hE, rfl, rfl⟩ := p
    obtain ⟨d, u1, hd, U1, d1⟩ := F.draw ts c 2 [.lst (A.map stD), .lst (B.map stD), .lst (S.map stD)] T (by omega) (by omega) (by omega)
    have d1 : C i_law_draw [.scr (I ns), .ref 0, .int 2] [.lst (I ts), .lst (A.map stD), .lst (B.map stD), .lst (S.map stD)] = .ok (.int (d : Nat), [.lst (I u1), .lst (A.map stD), .lst (B.map stD), .lst (S.map stD)]) := d1
    refine ⟨_, rfl, ?_⟩
    simp only [List.set_cons_succ, List.set_cons_zero]
    have l1 : ∀ t a b c : List D, lstOf [.lst t, .lst a, .lst b, .lst c] (.ref 1) = some a := fun _ _ _ _ => rfl
    have l2 : ∀ t a b c : List D, lstOf [.lst t, .lst a, .lst b, .lst c] (.ref 2) = some b := fun _ _ _ _ => rfl
    have l3 : ∀ t a b c : List D, lstOf [.lst t, .lst a, .lst b, .lst c] (.ref 3) = some c := fun _ _ _ _ => rfl
    refine wif (b := ((d : Int) == 0)) (h1 := [.lst (I u1), .lst (A.map stD), .lst (B.map stD), .lst (S.map stD)]) (by simp [d1]) (wcont ?_)
    by_cases c0 : (d : Int) = 0
    · rw [if_pos (by rw [c0]; rfl)]
      obtain ⟨k, u2, hk, U2, d2⟩ := F.draw u1 _ ((L : Int) + 1) [.lst (A.map stD), .lst (B.map stD), .lst (S.map stD)] U1 (by omega) (by omega) (by omega)
      obtain ⟨q, u3, hq, bq, U3, d3⟩ := F.size u2 _ [.lst (A.map stD), .lst (B.map stD), .lst (S.map stD)] U2 (by omega)
      have d2 : C i_law_draw [.scr (I ns), .ref 0, .int ((L : Int) + 1)] [.lst (I u1), .lst (A.map stD), .lst (B.map stD), .lst (S.map stD)] = .ok (.int (k : Nat), [.lst (I u2), .lst (A.map stD), .lst (B.map stD), .lst (S.map stD)]) := d2
      have d3 : C i_law_size [.scr (I ns), .ref 0] [.lst (I u2), .lst (A.map stD), .lst (B.map stD), .lst (S.map stD)] = .ok (fr q, [.lst (I u3), .lst (A.map stD), .lst (B.map stD), .lst (S.map stD)]) := d3
      have st : StOk R (k, q) := ⟨by simp only; omega, hq, bq⟩
      have a1 := app_1 (t := I u3) (a := A.map stD) (b := B.map stD) (c := S.map stD) (d := stD (k, q)) (by simp; omega)
      have a3 := app_3 (t := I u3) (a := A.map stD ++ [stD (k, q)]) (b := B.map stD) (c := S.map stD) (d := stD (k, q)) (by simp; omega)
      have fo : D.tup [.int (k : Nat), fr q] = stD (k, q) := rfl
      refine wst (by simp [d2, d3, fo, tgD]; rfl) ?_
      simp only [cont_nx, List.set_cons_succ, List.set_cons_zero]
      refine wst (by simp [l1, a1]; rfl) ?_
      simp only [cont_nx]
      refine wnil ?_
      refine wst (by simp [l3, a3]; rfl) ?_
      simp only [cont_nx]
      refine wnil ⟨u3, _, A ++ [(k, q)], B, S ++ [(k, q)], _, _, U3, by omega, fun s hs => ?_, hB, fun s hs => ?_, by simp; omega, by simp; omega, ?_, rfl, by simp⟩
      · rcases List.mem_append.mp hs with h | h
        · exact hA s h
        · rw [List.mem_singleton] at h; subst h; exact ⟨st, by simp only; omega⟩
      · rcases List.mem_append.mp hs with h | h
        · exact hS s h
        · rw [List.mem_singleton] at h; subst h; exact st
      · refine (hE.app .refl).trans ?_
        have cm := far_comm (s := (k, q)) (bb := B) fun t ht => by have := (hB t ht).2; simp only; omega
        rw [List.append_assoc, List.append_assoc]
        exact El.Eqv.refl.app cm
    · rw [if_neg (fun q => c0 (eq_of_beq q))]
      obtain ⟨k, u2, hk, U2, d2⟩ := F.draw u1 _ (2 * (R : Int) - 3 - (L : Int)) [.lst (A.map stD), .lst (B.map stD), .lst (S.map stD)] U1 (by omega) (by omega) (by omega)
      obtain ⟨q, u3, hq, bq, U3, d3⟩ := F.size u2 _ [.lst (A.map stD), .lst (B.map stD), .lst (S.map stD)] U2 (by omega)
      have d2 : C i_law_draw [.scr (I ns), .ref 0, .int (2 * (R : Int) - 3 - (L : Int))] [.lst (I u1), .lst (A.map stD), .lst (B.map stD), .lst (S.map stD)] = .ok (.int (k : Nat), [.lst (I u2), .lst (A.map stD), .lst (B.map stD), .lst (S.map stD)]) := d2
      have d3 : C i_law_size [.scr (I ns), .ref 0] [.lst (I u2), .lst (A.map stD), .lst (B.map stD), .lst (S.map stD)] = .ok (fr q, [.lst (I u3), .lst (A.map stD), .lst (B.map stD), .lst (S.map stD)]) := d3
      have zk : (L : Int) + 2 + (k : Int) = ((L + 2 + k : Nat) : Int) := by omega
      have st : StOk R (L + 2 + k, q) := ⟨by simp only; omega, hq, bq⟩
      have a2 := app_2 (t := I u3) (a := A.map stD) (b := B.map stD) (c := S.map stD) (d := stD (L + 2 + k, q)) (by simp; omega)
      have a3 := app_3 (t := I u3) (a := A.map stD) (b := B.map stD ++ [stD (L + 2 + k, q)]) (c := S.map stD) (d := stD (L + 2 + k, q)) (by simp; omega)
      have fo : D.tup [.int ((L + 2 + k : Nat) : Int), fr q] = stD (L + 2 + k, q) := rfl
      have kb : L + 2 ≤ L + 2 + k := by omega
      generalize L + 2 + k = K at *
      refine wst (by simp [m, d2, d3, zk, fo, tgD]; rfl) ?_
      simp only [cont_nx, List.set_cons_succ, List.set_cons_zero]
      refine wst (by simp [l2, a2]; rfl) ?_
      simp only [cont_nx]
      refine wnil ?_
      refine wst (by simp [l3, a3]; rfl) ?_
      simp only [cont_nx]
      refine wnil ⟨u3, _, A, B ++ [(K, q)], S ++ [(K, q)], _, _, U3, by omega, hA, fun s hs => ?_, fun s hs => ?_, by simp; omega, by simp; omega, ?_, rfl, by simp⟩
      · rcases List.mem_append.mp hs with h | h
        · exact hB s h
        · rw [List.mem_singleton] at h; subst h; exact ⟨st, kb⟩
      · rcases List.mem_append.mp hs with h | h
        · exact hS s h
        · rw [List.mem_singleton] at h; subst h; exact st
      · refine (hE.app .refl).trans ?_
        rw [List.append_assoc]
        exact .refl
  · obtain ⟨ts, c, aa, bb, ss, x7, x8, T, hc, hA, hB, hS, hlen, hSi, hE, rfl, rfl⟩ := p
    have Ha : NetOk R aa := ⟨by omega, by omega, by omega, fun s hs => (hA s hs).1⟩
    have Hb : NetOk R bb := ⟨by omega, by omega, by omega, fun s hs => (hB s hs).1⟩
    have Hs : NetOk R ss := ⟨by omega, by omega, by omega, hS⟩
    have TT : Two R L ss aa bb := ⟨Hs, Ha, Hb, fun k hk => by obtain ⟨s, hs, rfl⟩ := List.mem_map.mp hk; exact (hA s hs).2, fun k hk => by obtain ⟨s, hs, rfl⟩ := List.mem_map.mp hk; exact (hB s hs).2, hlen, hE⟩
    have tp1 : ∀ m, biD .tuple m [.ref 1] [.lst (I ts), .lst (aa.map stD), .lst (bb.map stD), .lst (ss.map stD)] = .ok (.tup (aa.map stD), [.lst (I ts), .lst (aa.map stD), .lst (bb.map stD), .lst (ss.map stD)]) := fun m => rfl
    have tp2 : ∀ m, biD .tuple m [.ref 2] [.lst (I ts), .lst (aa.map stD), .lst (bb.map stD), .lst (ss.map stD)] = .ok (.tup (bb.map stD), [.lst (I ts), .lst (aa.map stD), .lst (bb.map stD), .lst (ss.map stD)]) := fun m => rfl
    have tp3 : ∀ m, biD .tuple m [.ref 3] [.lst (I ts), .lst (aa.map stD), .lst (bb.map stD), .lst (ss.map stD)] = .ok (.tup (ss.map stD), [.lst (I ts), .lst (aa.map stD), .lst (bb.map stD), .lst (ss.map stD)]) := fun m => rfl
    have fN : ∀ xs : List (Nat × Rat), D.tup [.int R, .tup (xs.map stD)] = netD R xs := fun _ => rfl
    generalize [Ob.lst (I ts), .lst (aa.map stD), .lst (bb.map stD), .lst (ss.map stD)] = h0 at *
    refine wst (by simp [tp1, tp2, tp3, fN, setAll]; rfl) ?_
    simp only [cont_nx, List.set_cons_succ, List.set_cons_zero]
    have Hab := cat_ok Ha Hb (by omega)
    have Hba := cat_ok Hb Ha (by omega)
    have far : ∀ s ∈ aa, ∀ t ∈ bb, s.1 + 1 < t.1 ∨ t.1 + 1 < s.1 := fun s hs t ht => by have := (hA s hs).2; have := (hB t ht).2; omega
    obtain ⟨b1, s1, r1⟩ := F.same Hs Hab
    obtain ⟨b2, s2, r2⟩ := F.same Hs Hba
    have z1 := r1.mpr hE
    have z2 := r2.mpr (hE.trans (far_swap far).symm)
    subst z1 z2
    have j1 := fun h => F.joined h Ha Hb (by omega)
    have j2 := fun h => F.joined h Hb Ha (by omega)
    have bt : ∀ h, cmpD .isn h (.bl true) (.bl true) = .ok false := fun h => rfl
    refine wst (by simp [j1, j2, s1, s2, bt]; rfl) ?_
    simp only [cont_nx]
    have oa := fun h => F.order h Ha
    have ob := fun h => F.order h Hb
    have os := fun h => F.order h Hs
    refine wst (by simp [oa, ob, setAll]; rfl) ?_
    simp only [cont_nx, List.set_cons_succ, List.set_cons_zero]
    have FF := TT.far
    have nn := TT.np
    have P := TT.oo
    have npa := np_row FF.A
    have npb := np_row FF.B
    have nps := np_row P
    rw [nn] at nps
    have la := lef_len Ha
    have lb := lef_len Hb
    have ls := lef_len Hs
    have npa : inv (od R aa) = np (2 * R) (El.ro (kds aa.reverse)) := npa
    have npb : inv (od R bb) = np (2 * R) (El.ro (kds bb.reverse)) := npb
    have nps : inv (od R ss) = np (2 * R) (El.ro (kds aa.reverse)) + np (2 * R) (El.ro (kds bb.reverse)) := nps
    have n9 : np (2 * R) (El.ro (kds aa.reverse)) + np (2 * R) (El.ro (kds bb.reverse)) ≤ 9 := by omega
    have cw := far_cW _ FF (Nat.le_refl _)
    have lw := far_lW _ FF (Nat.le_refl _)
    have q1 := fun (r : List Int) h => neI_t (a := r) (b := r) (h := h)
    simp only [decide_true, Bool.not_true] at q1
    have ni : ∀ (a : Int) h, cmpD .ne h (.int a) (.int a) = .ok false := fun a h => ne_refl rfl (by simp [dep])
    have t1 := fun h => sl_take (xs := I (od R aa)) (k := L + 2) (h := h)
    have t2 := fun h => sl_drop (xs := I (od R bb)) (k := L + 2) (h := h)
    simp only [Int.natCast_add, Int.cast_ofNat_Int] at t1 t2
    have lna : (od R aa).length = 2 * R := rowL_len
    have lnb : (od R bb).length = 2 * R := rowL_len
    have ad := fun h => add_tup (xs := (I (od R aa)).take (L + 2)) (ys := (I (od R bb)).drop (L + 2)) (m := false) (h := h) (by rw [List.length_take, List.length_drop, I_len, I_len]; omega)
    have eo : (I (od R aa)).take (L + 2) ++ (I (od R bb)).drop (L + 2) = I (od R ss) := by
      have e := rowL_mg (N := 2 * R) (L := L) (a := El.ro (kds aa)) (b := El.ro (kds bb)) (by omega)
      rw [← TT.row] at e
      have e : od R ss = (od R aa).take (L + 2) ++ (od R bb).drop (L + 2) := e
      rw [e]
      simp [I]
    simp only [eo] at ad
    have pa := fun h => F.pairs h (by omega) hR (od_perm Ha)
    have pb := fun h => F.pairs h (by omega) hR (od_perm Hb)
    have ps := fun h => F.pairs h (by omega) hR (od_perm Hs)
    have ca := fun h => F.count h FF.A (by omega) hR (by omega)
    have cb := fun h => F.count h FF.B (by omega) hR (by omega)
    have cs := fun h => F.count h P (by omega) hR (by rw [nn]; omega)
    have fa := fun h => F.first h FF.A (by omega) hR (by omega)
    have fb := fun h => F.first h FF.B (by omega) hR (by omega)
    have fs := fun h => F.first h P (by omega) hR (by rw [nn]; omega)
    have ca : ∀ h, C i_count_rows [.tup (I (od R aa))] h = _ := ca
    have cb : ∀ h, C i_count_rows [.tup (I (od R bb))] h = _ := cb
    have cs : ∀ h, C i_count_rows [.tup (I (od R ss))] h = _ := cs
    have fa : ∀ h, C i_first_row [.tup (I (od R aa))] h = _ := fa
    have fb : ∀ h, C i_first_row [.tup (I (od R bb))] h = _ := fb
    have fs : ∀ h, C i_first_row [.tup (I (od R ss))] h = _ := fs
    rw [cw] at cs
    rw [lw] at fs
    have lwa := lW_len FF.A
    have lwb := lW_len FF.B.symm.symm
    have ba := cW_le (N := 2 * R) (by omega) 9 (ρ := El.ro (kds aa.reverse)) (by omega)
    have bb' := cW_le (N := 2 * R) (by omega) 9 (ρ := El.ro (kds bb.reverse)) (by omega)
    have bn := F.binom h0 (m := np (2 * R) (El.ro (kds aa.reverse)) + np (2 * R) (El.ro (kds bb.reverse))) (s := np (2 * R) (El.ro (kds aa.reverse))) (by omega) (by omega)
    have bc := ch_le (np (2 * R) (El.ro (kds aa.reverse)) + np (2 * R) (El.ro (kds bb.reverse))) (np (2 * R) (El.ro (kds aa.reverse)))
    have bc : ch (np (2 * R) (El.ro (kds aa.reverse)) + np (2 * R) (El.ro (kds bb.reverse))) (np (2 * R) (El.ro (kds aa.reverse))) ≤ 2 ^ 9 := Nat.le_trans bc (Nat.pow_le_pow_right (by decide) n9)
    rw [nps] at ps
    rw [npa] at pa
    rw [npb] at pb
    simp only [Int.natCast_add] at ps bn
    have fra := fun h => F.free h Ha
    have frb := fun h => F.free h Hb
    have frs := fun h => F.free h Hs
    have frz : (lef R (kds ss)).length = (lef R (kds aa)).length + (lef R (kds bb)).length := by omega
    rw [frz] at frs
    simp only [Int.natCast_add] at frs
    generalize np (2 * R) (El.ro (kds aa.reverse)) = pA at *
    generalize np (2 * R) (El.ro (kds bb.reverse)) = pB at *
    generalize cW (2 * R) (El.ro (kds aa.reverse)) = cA at *
    generalize cW (2 * R) (El.ro (kds bb.reverse)) = cB at *
    generalize ch (pA + pB) pA = cC at *
    generalize (lef R (kds aa)).length = lA at *
    generalize (lef R (kds bb)).length = lB at *
    refine wst (by simp [os, t1, t2, ad, q1, pa, pb, ps, ni]; rfl) ?_
    simp only [cont_nx]
    refine wst (by simp [fra, frb, frs, ni]; rfl) ?_
    simp only [cont_nx]
    refine wst (by simp [os, ps, pa, bn, tgD]; rfl) ?_
    simp only [cont_nx, List.set_cons_succ, List.set_cons_zero]
    have e27 : (8 : Nat) ^ 9 = 134217728 := by decide
    have e9 : (2 : Nat) ^ 9 = 512 := by decide
    have m1 := fun h => op_mul_sm (m := false) (h := h) (i := (cA : Int)) (j := (cB : Int)) (by omega) (by omega)
    have m2 : ∀ h, opD .mul false (.int ((cA : Int) * (cB : Int))) (.int (cC : Int)) h = .ok (.int ((cA : Int) * (cB : Int) * (cC : Int)), h) := fun h => by
      refine op_mul_int ?_
      have h1 : ((cA : Int) * (cB : Int)).natAbs < 2 ^ 60 := by
        rw [Int.natAbs_mul, Int.natAbs_natCast, Int.natAbs_natCast]
        have : cA * cB ≤ 8 ^ 9 * 8 ^ 9 := Nat.mul_le_mul ba bb'
        have e : (8 : Nat) ^ 9 * 8 ^ 9 < 2 ^ 60 := by decide
        omega
      have h2 : (cC : Int).natAbs < 2 ^ 60 := by
        have e : (2 : Nat) ^ 9 < 2 ^ 60 := by decide
        omega
      have := log_bits h1
      have := log_bits h2
      omega
    simp only [Int.natCast_mul] at cs
    refine wst (by simp [os, cs, ca, cb, m1, m2, ni]; rfl) ?_
    simp only [cont_nx]
    obtain ⟨ff, w1, G1⟩ := F.form Hs
    obtain ⟨fa', w2, G2⟩ := F.form Ha
    obtain ⟨fb', w3, G3⟩ := F.form Hb
    obtain ⟨ef, ka, kb⟩ := TT.form G1 G2 G3
    subst ef
    have lf := G1.ok.len
    refine wst (by simp [w1, tgD]; rfl) ?_
    simp only [cont_nx, List.set_cons_succ, List.set_cons_zero]
    have tl : ∀ (xs : List D) (m : Bool) (h : Hh), biD .tuple m [.lst xs] h = .ok (.tup xs, h) := fun xs m h => rfl
    have ix1 : ∀ (xs : List (Nat × Rat)) (h : Hh), ixD (netD R xs) (.int 1) h = .ok (.tup (xs.map stD)) := fun xs h => ix_t1
    have c1 := fun (x16 : Option D) => comp_fil (C := C) (m := false) (own := [8]) (g := .name 8) (it := .seq (.ix (.v 15) (.ci 1))) (t := .cmp .le (.ix (.v 8) (.ci 0)) (.v 3)) (elt := .v 8)
      (r := [some (.scr (I ns)), some (.ref 0), some (.int R), some (.int (L : Nat)), some (.ref 1), some (.ref 2), some (.ref 3), x7, x8, some (netD R ss), some (netD R aa), some (netD R bb), some (.tup (I (od R aa))), some (.tup (I (od R bb))), some (.int (cC : Nat)), some (netD R (fa' ++ fb')), x16, none]) (h := h0) (xs := fa' ++ fb')
      stD stD (fun s => [some (.scr (I ns)), some (.ref 0), some (.int R), some (.int (L : Nat)), some (.ref 1), some (.ref 2), some (.ref 3), x7, some (stD s), some (netD R ss), some (netD R aa), some (netD R bb), some (.tup (I (od R aa))), some (.tup (I (od R bb))), some (.int (cC : Nat)), some (netD R (fa' ++ fb')), x16, none]) (fun s => decide (s.1 ≤ L)) (by simp [-List.map_append, ix1]) (by omega) fun s hs => by
        have s0 := st_0 (s := s) (h := h0)
        generalize stD s = sd at *
        exact ⟨rfl, by simp [s0], fun _ => by simp⟩
    have c2 := fun (x16 : Option D) => comp_fil (C := C) (m := false) (own := [8]) (g := .name 8) (it := .seq (.ix (.v 15) (.ci 1))) (t := .cmp .gt (.ix (.v 8) (.ci 0)) (.v 3)) (elt := .v 8)
      (r := [some (.scr (I ns)), some (.ref 0), some (.int R), some (.int (L : Nat)), some (.ref 1), some (.ref 2), some (.ref 3), x7, x8, some (netD R ss), some (netD R aa), some (netD R bb), some (.tup (I (od R aa))), some (.tup (I (od R bb))), some (.int (cC : Nat)), some (netD R (fa' ++ fb')), x16, none]) (h := h0) (xs := fa' ++ fb')
      stD stD (fun s => [some (.scr (I ns)), some (.ref 0), some (.int R), some (.int (L : Nat)), some (.ref 1), some (.ref 2), some (.ref 3), x7, some (stD s), some (netD R ss), some (netD R aa), some (netD R bb), some (.tup (I (od R aa))), some (.tup (I (od R bb))), some (.int (cC : Nat)), some (netD R (fa' ++ fb')), x16, none]) (fun s => decide (L < s.1)) (by simp [-List.map_append, ix1]) (by omega) fun s hs => by
        have s0 := st_0 (s := s) (h := h0)
        generalize stD s = sd at *
        exact ⟨rfl, by simp [s0], fun _ => by simp⟩
    have fl1 : (fa' ++ fb').filter (fun s => decide (s.1 ≤ L)) = fa' := by
      rw [List.filter_append, List.filter_eq_self.mpr fun s hs => decide_eq_true (ka s hs), List.filter_eq_nil_iff.mpr fun s hs => by have := kb s hs; simp; omega, List.append_nil]
    have fl2 : (fa' ++ fb').filter (fun s => decide (L < s.1)) = fb' := by
      rw [List.filter_append, List.filter_eq_nil_iff.mpr fun s hs => by have := ka s hs; simp; omega, List.filter_eq_self.mpr fun s hs => decide_eq_true (by have := kb s hs; omega), List.nil_append]
    have c1 := fun x16 => (c1 x16).trans (mkL_f ..)
    have c2 := fun x16 => (c2 x16).trans (mkL_f ..)
    simp only [fl1] at c1
    simp only [fl2] at c2
    refine wst (by simp [-E_25, c1, tl, tgD]; rfl) ?_
    simp only [cont_nx, List.set_cons_succ, List.set_cons_zero]
    refine wst (by simp [-E_25, c2, tl, tgD]; rfl) ?_
    simp only [cont_nx, List.set_cons_succ, List.set_cons_zero]
    have q2 := fun (xs : List (Nat × Rat)) h => ne_net (R := R) (ss := xs) (tt := xs) (h := h)
    simp only [decide_true, Bool.not_true] at q2
    refine wst (by simp [fN, w2, w3, q2]; rfl) ?_
    simp only [cont_nx]
    have la1 : (lW (2 * R) (El.ro (kds aa.reverse)) ++ lW (2 * R) (El.ro (kds bb.reverse))).length ≤ 100 := by rw [List.length_append]; omega
    have sr := fun h => srt_kl (h := h) la1 rfl
    have ea : klD (lW (2 * R) (El.ro (kds aa.reverse)) ++ lW (2 * R) (El.ro (kds bb.reverse))) = klD (lW (2 * R) (El.ro (kds aa.reverse))) ++ klD (lW (2 * R) (El.ro (kds bb.reverse))) := by simp [klD]
    have ad2 := fun h => add_tup (xs := klD (lW (2 * R) (El.ro (kds aa.reverse)))) (ys := klD (lW (2 * R) (El.ro (kds bb.reverse)))) (m := false) (h := h) (by rw [kl_len, kl_len]; omega)
    rw [← ea] at ad2
    have eq1 := fun (r : List Int) h => eqI_l (a := r) (b := r) (h := h)
    simp only [decide_true] at eq1
    generalize klD (lW (2 * R) (El.ro (kds aa.reverse)) ++ lW (2 * R) (El.ro (kds bb.reverse))) = kW at *
    generalize klD (lW (2 * R) (El.ro (kds aa.reverse))) = kA at *
    generalize klD (lW (2 * R) (El.ro (kds bb.reverse))) = kB at *
    exact wrt (d := .bl true) (h1 := h0) (by simp [os, fs, fa, fb, ad2, sr, eq1]) ⟨_, rfl⟩
theorem pure_law (ns : List Int) (hl : ns.length ≤ 63) : ∃ h, run false (tab.map (·.1)) 40 i_law [.scr (ns.map D.int)] [] = .ok (.bl true, h) := by
  obtain ⟨o, e, h', rfl⟩ := b_law (C := run false defs 39) (lawf 9 ns) hl
  refine ⟨h'.take 0, ?_⟩
  show run false defs (39 + 1) i_law [.scr (I ns)] [] = _
  exact run_rt rfl rfl e (fin_at ⟨Nat.zero_le _, fun i o hi => absurd hi (Nat.not_lt_zero i)⟩ rfl)
end
end K26
set_option Elab.async false
set_option linter.all false
set_option maxRecDepth 100000
namespace K26
open PySem PySem.Spec PyProof.Rows L2 Fx
def as0 : List Addr := [24, 37, 49, 61, 73, 85, 97, 109, 121, 133, 145, 157, 169, 181, 193, 205]
def pm0 : Pm := ⟨fun _ => 0, fun _ => 0⟩
theorem end_ok {l : PySem.W.OpenLaw} {w : World} {K : PySem.W.Frag} {h : Heap} {mg : Str → Option Value} {fa : Addr} (X : K.In h) (G : h.Ns mainGlobals mg) (hfa : mg "law" = some (.ref fa)) (facts : Facts K mg tab) (hbn : ∀ x ∈ bnames, mg x = none) (hxf : trB = true → ExF K mg cls pm0) :
    ∃ fd : FuncData, (∀ (s : Shared) (v : Value), BindsTo s fd ⟨[v], []⟩ [("_law_script", v)]) ∧ ∀ base : Heap, K.In base → base.Ns mainGlobals mg → FnOk l.prog w K mg base (L2.CX l.prog w) 40 fa fd ["_law_script"] (spR K pm0 (run trB (tab.map (·.1)) 40 42)) := by
  obtain ⟨f, fd, F, _, hb, hm⟩ := facts.at 42 _ _ rfl
  have e := hfa.symm.trans hm
  cases e
  exact ⟨fd, fun s v => hb s [v] rfl, fun base _ _ => tab_ok trB tab cls tab_ck facts hbn hxf 40 42 _ _ _ fd rfl F⟩
end K26
open PySem PySem.W PyProof.Rows
set_option maxHeartbeats 0 in
theorem PySem.Challenge.cw_railnets_k26_far_groups_holds : PySem.Challenge.rw_railnets_k26_far_groups.Holds := by
  w_on; o_law; k_head; (case hw => w_witness2)
  k_fill
  refine L2.walk_of (l := PySem.Challenge.rw_railnets_k26_far_groups) (n := 63) (k := 40) (x := "_law_script") (CX := fun w => L2.CX PySem.Challenge.rw_railnets_k26_far_groups.prog w) (sp := fun w => Fx.spR _ K26.pm0 (Fx.run K26.trB (K26.tab.map (·.1)) 40 42)) rfl (by decide) rfl ⟨rfl, by decide, by decide⟩ (fun w h Y => PySem.W.kIn_of Y) ?F (fun w H a ns hl hO hS => Fx.law_sp hO hS (K26.pure_law ns hl).choose_spec) (fun w H s e s' h => by obtain ⟨H2, z⟩ := h; simp at z)
  case F =>
    intro w mg fa h KX G hmg
    refine' K26.end_ok KX G hmg ?facts ?bn ?xf
    case facts =>
      refine' ⟨Fx.fact_mk KX G ?a0 ?l0 ?c0 ?k0 (fun _ _ _ _ _ _ us hl => match us, hl with | [_, _, _], _ => rfl), Fx.fact_mk KX G ?a1 ?l1 ?c1 ?k1 (fun _ _ _ _ _ _ us hl => match us, hl with | [_, _], _ => rfl), Fx.fact_mk KX G ?a2 ?l2 ?c2 ?k2 (fun _ _ _ _ _ _ us hl => match us, hl with | [_, _], _ => rfl), Fx.fact_mk KX G ?a3 ?l3 ?c3 ?k3 (fun _ _ _ _ _ _ us hl => match us, hl with | [_, _], _ => rfl), Fx.fact_mk KX G ?a4 ?l4 ?c4 ?k4 (fun _ _ _ _ _ _ us hl => match us, hl with | [_, _], _ => rfl), Fx.fact_mk KX G ?a5 ?l5 ?c5 ?k5 (fun _ _ _ _ _ _ us hl => match us, hl with | [_, _], _ => rfl), Fx.fact_mk KX G ?a6 ?l6 ?c6 ?k6 (fun _ _ _ _ _ _ us hl => match us, hl with | [], _ => rfl), Fx.fact_mk KX G ?a7 ?l7 ?c7 ?k7 (fun _ _ _ _ _ _ us hl => match us, hl with | [_], _ => rfl), Fx.fact_mk KX G ?a8 ?l8 ?c8 ?k8 (fun _ _ _ _ _ _ us hl => match us, hl with | [_, _], _ => rfl), Fx.fact_mk KX G ?a9 ?l9 ?c9 ?k9 (fun _ _ _ _ _ _ us hl => match us, hl with | [_], _ => rfl), Fx.fact_mk KX G ?a10 ?l10 ?c10 ?k10 (fun _ _ _ _ _ _ us hl => match us, hl with | [_], _ => rfl), Fx.fact_mk KX G ?a11 ?l11 ?c11 ?k11 (fun _ _ _ _ _ _ us hl => match us, hl with | [_], _ => rfl), Fx.fact_mk KX G ?a12 ?l12 ?c12 ?k12 (fun _ _ _ _ _ _ us hl => match us, hl with | [_, _], _ => rfl), Fx.fact_mk KX G ?a13 ?l13 ?c13 ?k13 (fun _ _ _ _ _ _ us hl => match us, hl with | [_, _], _ => rfl), Fx.fact_mk KX G ?a14 ?l14 ?c14 ?k14 (fun _ _ _ _ _ _ us hl => match us, hl with | [_], _ => rfl), Fx.fact_mk KX G ?a15 ?l15 ?c15 ?k15 (fun _ _ _ _ _ _ us hl => match us, hl with | [_], _ => rfl), Fx.fact_mk KX G ?a16 ?l16 ?c16 ?k16 (fun _ _ _ _ _ _ us hl => match us, hl with | [_], _ => rfl), Fx.fact_mk KX G ?a17 ?l17 ?c17 ?k17 (fun _ _ _ _ _ _ us hl => match us, hl with | [_], _ => rfl), Fx.fact_mk KX G ?a18 ?l18 ?c18 ?k18 (fun _ _ _ _ _ _ us hl => match us, hl with | [_], _ => rfl), Fx.fact_mk KX G ?a19 ?l19 ?c19 ?k19 (fun _ _ _ _ _ _ us hl => match us, hl with | [_, _], _ => rfl), Fx.fact_mk KX G ?a20 ?l20 ?c20 ?k20 (fun _ _ _ _ _ _ us hl => match us, hl with | [_], _ => rfl), Fx.fact_mk KX G ?a21 ?l21 ?c21 ?k21 (fun _ _ _ _ _ _ us hl => match us, hl with | [_], _ => rfl), Fx.fact_mk KX G ?a22 ?l22 ?c22 ?k22 (fun _ _ _ _ _ _ us hl => match us, hl with | [_, _], _ => rfl), Fx.fact_mk KX G ?a23 ?l23 ?c23 ?k23 (fun _ _ _ _ _ _ us hl => match us, hl with | [_], _ => rfl), Fx.fact_mk KX G ?a24 ?l24 ?c24 ?k24 (fun _ _ _ _ _ _ us hl => match us, hl with | [_], _ => rfl), Fx.fact_mk KX G ?a25 ?l25 ?c25 ?k25 (fun _ _ _ _ _ _ us hl => match us, hl with | [_, _, _], _ => rfl), Fx.fact_mk KX G ?a26 ?l26 ?c26 ?k26 (fun _ _ _ _ _ _ us hl => match us, hl with | [_, _], _ => rfl), Fx.fact_mk KX G ?a27 ?l27 ?c27 ?k27 (fun _ _ _ _ _ _ us hl => match us, hl with | [_, _], _ => rfl), Fx.fact_mk KX G ?a28 ?l28 ?c28 ?k28 (fun _ _ _ _ _ _ us hl => match us, hl with | [_, _], _ => rfl), Fx.fact_mk KX G ?a29 ?l29 ?c29 ?k29 (fun _ _ _ _ _ _ us hl => match us, hl with | [_, _], _ => rfl), Fx.fact_mk KX G ?a30 ?l30 ?c30 ?k30 (fun _ _ _ _ _ _ us hl => match us, hl with | [_], _ => rfl), Fx.fact_mk KX G ?a31 ?l31 ?c31 ?k31 (fun _ _ _ _ _ _ us hl => match us, hl with | [_], _ => rfl), Fx.fact_mk KX G ?a32 ?l32 ?c32 ?k32 (fun _ _ _ _ _ _ us hl => match us, hl with | [_, _], _ => rfl), Fx.fact_mk KX G ?a33 ?l33 ?c33 ?k33 (fun _ _ _ _ _ _ us hl => match us, hl with | [_, _], _ => rfl), Fx.fact_mk KX G ?a34 ?l34 ?c34 ?k34 (fun _ _ _ _ _ _ us hl => match us, hl with | [_], _ => rfl), Fx.fact_mk KX G ?a35 ?l35 ?c35 ?k35 (fun _ _ _ _ _ _ us hl => match us, hl with | [_, _], _ => rfl), Fx.fact_mk KX G ?a36 ?l36 ?c36 ?k36 (fun _ _ _ _ _ _ us hl => match us, hl with | [_], _ => rfl), Fx.fact_mk KX G ?a37 ?l37 ?c37 ?k37 (fun _ _ _ _ _ _ us hl => match us, hl with | [_, _, _], _ => rfl), Fx.fact_mk KX G ?a38 ?l38 ?c38 ?k38 (fun _ _ _ _ _ _ us hl => match us, hl with | [_, _, _], _ => rfl), Fx.fact_mk KX G ?a39 ?l39 ?c39 ?k39 (fun _ _ _ _ _ _ us hl => match us, hl with | [_, _], _ => rfl), Fx.fact_mk KX G ?a40 ?l40 ?c40 ?k40 (fun _ _ _ _ _ _ us hl => match us, hl with | [_, _], _ => rfl), Fx.fact_mk KX G ?a41 ?l41 ?c41 ?k41 (fun _ _ _ _ _ _ us hl => match us, hl with | [_, _], _ => rfl), Fx.fact_mk KX G ?a42 ?l42 ?c42 ?k42 (fun _ _ _ _ _ _ us hl => match us, hl with | [_], _ => rfl), trivial⟩
      (case a0 => k_is); (case l0 => k_is); (case c0 => k_is); (case k0 => k_is)
      (case a1 => k_is); (case l1 => k_is); (case c1 => k_is); (case k1 => k_is)
      (case a2 => k_is); (case l2 => k_is); (case c2 => k_is); (case k2 => k_is)
      (case a3 => k_is); (case l3 => k_is); (case c3 => k_is); (case k3 => k_is)
      (case a4 => k_is); (case l4 => k_is); (case c4 => k_is); (case k4 => k_is)
      (case a5 => k_is); (case l5 => k_is); (case c5 => k_is); (case k5 => k_is)
      (case a6 => k_is); (case l6 => k_is); (case c6 => k_is); (case k6 => k_is)
      (case a7 => k_is); (case l7 => k_is); (case c7 => k_is); (case k7 => k_is)
      (case a8 => k_is); (case l8 => k_is); (case c8 => k_is); (case k8 => k_is)
      (case a9 => k_is); (case l9 => k_is); (case c9 => k_is); (case k9 => k_is)
      (case a10 => k_is); (case l10 => k_is); (case c10 => k_is); (case k10 => k_is)
      (case a11 => k_is); (case l11 => k_is); (case c11 => k_is); (case k11 => k_is)
      (case a12 => k_is); (case l12 => k_is); (case c12 => k_is); (case k12 => k_is)
      (case a13 => k_is); (case l13 => k_is); (case c13 => k_is); (case k13 => k_is)
      (case a14 => k_is); (case l14 => k_is); (case c14 => k_is); (case k14 => k_is)
      (case a15 => k_is); (case l15 => k_is); (case c15 => k_is); (case k15 => k_is)
      (case a16 => k_is); (case l16 => k_is); (case c16 => k_is); (case k16 => k_is)
      (case a17 => k_is); (case l17 => k_is); (case c17 => k_is); (case k17 => k_is)
      (case a18 => k_is); (case l18 => k_is); (case c18 => k_is); (case k18 => k_is)
      (case a19 => k_is); (case l19 => k_is); (case c19 => k_is); (case k19 => k_is)
      (case a20 => k_is); (case l20 => k_is); (case c20 => k_is); (case k20 => k_is)
      (case a21 => k_is); (case l21 => k_is); (case c21 => k_is); (case k21 => k_is)
      (case a22 => k_is); (case l22 => k_is); (case c22 => k_is); (case k22 => k_is)
      (case a23 => k_is); (case l23 => k_is); (case c23 => k_is); (case k23 => k_is)
      (case a24 => k_is); (case l24 => k_is); (case c24 => k_is); (case k24 => k_is)
      (case a25 => k_is); (case l25 => k_is); (case c25 => k_is); (case k25 => k_is)
      (case a26 => k_is); (case l26 => k_is); (case c26 => k_is); (case k26 => k_is)
      (case a27 => k_is); (case l27 => k_is); (case c27 => k_is); (case k27 => k_is)
      (case a28 => k_is); (case l28 => k_is); (case c28 => k_is); (case k28 => k_is)
      (case a29 => k_is); (case l29 => k_is); (case c29 => k_is); (case k29 => k_is)
      (case a30 => k_is); (case l30 => k_is); (case c30 => k_is); (case k30 => k_is)
      (case a31 => k_is); (case l31 => k_is); (case c31 => k_is); (case k31 => k_is)
      (case a32 => k_is); (case l32 => k_is); (case c32 => k_is); (case k32 => k_is)
      (case a33 => k_is); (case l33 => k_is); (case c33 => k_is); (case k33 => k_is)
      (case a34 => k_is); (case l34 => k_is); (case c34 => k_is); (case k34 => k_is)
      (case a35 => k_is); (case l35 => k_is); (case c35 => k_is); (case k35 => k_is)
      (case a36 => k_is); (case l36 => k_is); (case c36 => k_is); (case k36 => k_is)
      (case a37 => k_is); (case l37 => k_is); (case c37 => k_is); (case k37 => k_is)
      (case a38 => k_is); (case l38 => k_is); (case c38 => k_is); (case k38 => k_is)
      (case a39 => k_is); (case l39 => k_is); (case c39 => k_is); (case k39 => k_is)
      (case a40 => k_is); (case l40 => k_is); (case c40 => k_is); (case k40 => k_is)
      (case a41 => k_is); (case l41 => k_is); (case c41 => k_is); (case k41 => k_is)
      (case a42 => k_is); (case l42 => k_is); (case c42 => k_is); (case k42 => k_is)
    case bn =>
      intro x hx
      simp only [Fx.bnames, List.mem_cons, List.not_mem_nil, or_false] at hx
      rcases hx with rfl | rfl | rfl | rfl | rfl | rfl | rfl | rfl | rfl | rfl | rfl | rfl | rfl | rfl | rfl | rfl | rfl | rfl | rfl
      · exact PySem.W.mg_none_of KX G (by k_is)
      · exact PySem.W.mg_none_of KX G (by k_is)
      · exact PySem.W.mg_none_of KX G (by k_is)
      · exact PySem.W.mg_none_of KX G (by k_is)
      · exact PySem.W.mg_none_of KX G (by k_is)
      · exact PySem.W.mg_none_of KX G (by k_is)
      · exact PySem.W.mg_none_of KX G (by k_is)
      · exact PySem.W.mg_none_of KX G (by k_is)
      · exact PySem.W.mg_none_of KX G (by k_is)
      · exact PySem.W.mg_none_of KX G (by k_is)
      · exact PySem.W.mg_none_of KX G (by k_is)
      · exact PySem.W.mg_none_of KX G (by k_is)
      · exact PySem.W.mg_none_of KX G (by k_is)
      · exact PySem.W.mg_none_of KX G (by k_is)
      · exact PySem.W.mg_none_of KX G (by k_is)
      · exact PySem.W.mg_none_of KX G (by k_is)
      · exact PySem.W.mg_none_of KX G (by k_is)
      · exact PySem.W.mg_none_of KX G (by k_is)
      · exact PySem.W.mg_none_of KX G (by k_is)
    case xf =>
      exact fun z => (Bool.false_ne_true z).elim
