import PyProof.Rows.All
import Wide.All
import OpenK.AllK
import Wide.FinOn
import HandS.ForMost
import HandS.ForExc
import HandS.Deep
import HandS.TupLe
import HandS.Iter
import KE.DataEq
import KE.DataCmp
import KE.SortData
import KE.DataMinMax
import KE.DataFind
import HandS.IsInst
import HandS.ExcIs
import HandS.Codes
import HandS.Defaults
import HandS.Head0
import HandS.Head1
import HandS.Head2
import HandS.HeadEnd
import HandS.HeadHook1
import HandS.HeadHook2
import HandS.HeadHook3
import HandS.HeadHook4
import HandS.ReplaceLit
import HandS.ReplaceDef
import PySem.Challenge.RW_stonelay_k81_texts_refused
set_option Elab.async false
set_option linter.all false
set_option maxRecDepth 100000
set_option maxHeartbeats 0
namespace Sd
open PySem PySem.Spec PyProof.Rows L2

/-! ### deep values -/
inductive Tag where
  | own | new | any
  deriving DecidableEq
inductive D where
  | non | bl (b : Bool) | int (i : Int) | str (s : List Nat)
  | lst (t : Tag) (xs : List D) | tup (xs : List D)
  | dK (t : Tag) (ks : List Key) (vs : List D)
  | dT (t : Tag) (ks : List (List Key)) (vs : List D)
  | exc (c : Nat)

mutual
def D.tg (f : Tag → Tag) : D → D
  | .non => .non
  | .bl b => .bl b
  | .int i => .int i
  | .str s => .str s
  | .lst t xs => .lst (f t) (tgs f xs)
  | .tup xs => .tup (tgs f xs)
  | .dK t ks vs => .dK (f t) ks (tgs f vs)
  | .dT t ks vs => .dT (f t) ks (tgs f vs)
  | .exc c => .exc c
def tgs (f : Tag → Tag) : List D → List D
  | [] => []
  | d :: ds => d.tg f :: tgs f ds
end
mutual
/-- every tag passes p -/
def D.all (p : Tag → Bool) : D → Bool
  | .non => true
  | .bl b => true
  | .int i => true
  | .str s => true
  | .lst t xs => p t && alls p xs
  | .tup xs => alls p xs
  | .dK t ks vs => p t && alls p vs
  | .dT t ks vs => p t && alls p vs
  | .exc c => true
def alls (p : Tag → Bool) : List D → Bool
  | [] => true
  | d :: ds => d.all p && alls p ds
end
def Tag.dem : Tag → Tag
  | .own => .new
  | t => t
def Tag.noOwn : Tag → Bool
  | .own => false
  | _ => true
def Tag.noAny : Tag → Bool
  | .any => false
  | _ => true
abbrev D.dem (d : D) : D := d.tg Tag.dem
abbrev D.toAny (d : D) : D := d.tg fun _ => .any
abbrev D.noOwn (d : D) : Bool := d.all Tag.noOwn
abbrev D.noAny (d : D) : Bool := d.all Tag.noAny
theorem tgs_map (f : Tag → Tag) : ∀ ds : List D, tgs f ds = ds.map (D.tg f)
  | [] => rfl
  | d :: ds => by simp [tgs, tgs_map f ds]
theorem alls_all (p : Tag → Bool) : ∀ ds : List D, alls p ds = ds.all (D.all p)
  | [] => rfl
  | d :: ds => by simp [alls, alls_all p ds]
theorem tgs_length (f : Tag → Tag) (ds : List D) : (tgs f ds).length = ds.length := by rw [tgs_map, List.length_map]
mutual
theorem D.tg_id {f : Tag → Tag} {p : Tag → Bool} (h : ∀ t, p t = true → f t = t) : ∀ d : D, d.all p = true → d.tg f = d
  | .non, _ => rfl
  | .bl _, _ => rfl
  | .int _, _ => rfl
  | .str _, _ => rfl
  | .exc _, _ => rfl
  | .lst t xs, e => by simp only [D.all, Bool.and_eq_true] at e; simp only [D.tg, h t e.1, tgs_id h xs e.2]
  | .tup xs, e => by simp only [D.all] at e; simp only [D.tg, tgs_id h xs e]
  | .dK t ks vs, e => by simp only [D.all, Bool.and_eq_true] at e; simp only [D.tg, h t e.1, tgs_id h vs e.2]
  | .dT t ks vs, e => by simp only [D.all, Bool.and_eq_true] at e; simp only [D.tg, h t e.1, tgs_id h vs e.2]
theorem tgs_id {f : Tag → Tag} {p : Tag → Bool} (h : ∀ t, p t = true → f t = t) : ∀ ds : List D, alls p ds = true → tgs f ds = ds
  | [], _ => rfl
  | d :: ds, e => by simp only [alls, Bool.and_eq_true] at e; simp only [tgs, D.tg_id h d e.1, tgs_id h ds e.2]
end
mutual
theorem D.all_tg {f : Tag → Tag} {p : Tag → Bool} (h : ∀ t, p (f t) = true) : ∀ d : D, (d.tg f).all p = true
  | .non => rfl
  | .bl _ => rfl
  | .int _ => rfl
  | .str _ => rfl
  | .exc _ => rfl
  | .lst t xs => by simp only [D.tg, D.all, h, alls_tgs h xs, Bool.and_self]
  | .tup xs => by simp only [D.tg, D.all, alls_tgs h xs]
  | .dK t ks vs => by simp only [D.tg, D.all, h, alls_tgs h vs, Bool.and_self]
  | .dT t ks vs => by simp only [D.tg, D.all, h, alls_tgs h vs, Bool.and_self]
theorem alls_tgs {f : Tag → Tag} {p : Tag → Bool} (h : ∀ t, p (f t) = true) : ∀ ds : List D, alls p (tgs f ds) = true
  | [] => rfl
  | d :: ds => by simp only [tgs, alls, D.all_tg h d, alls_tgs h ds, Bool.and_self]
end
theorem D.dem_noOwn (d : D) : d.dem.noOwn = true := D.all_tg (by intro t; cases t <;> rfl) d
theorem D.dem_of_noOwn {d : D} (h : d.noOwn = true) : d.dem = d := D.tg_id (p := Tag.noOwn) (by intro t; cases t <;> first | (intro _; rfl) | (intro h; cases h)) d h

/-- more than any text or list here has -/
def big : Nat := 1000000
theorem big_line : big < sizeLine := by decide
/-! ### how a deep value stands in a heap: w tells the label of each owned address -/
abbrev Lab := List Nat
abbrev Own := Addr → Option Lab
def AtT (t : Tag) (H : Hp) (p : Addr) (u : HO) : Prop :=
  match t with
  | .any => Rd H p u
  | _ => H p = some u
def TagOk (H0 : Hp) (w : Own) (l : Lab) (p : Addr) : Tag → Prop
  | .own => H0 p = none ∧ w p = some l
  | .new => H0 p = none ∧ w p = none
  | .any => w p = none

/-- lists of the program's own top -/
class KLs where
  kl : Addr → List V → Prop
  /-- the classes of errors, by number -/
  cv : Nat → Value
/-- an error that was caught, as it is tracked -/
def excHO (p : Addr) (cls : Value) : HO := .ext fun h => ∃ (oe : Obj) (vs : Array Value), h.get? p = some oe ∧ oe.cls = cls ∧ oe.dict = none ∧ oe.data = .fields vs
variable [KLs]
mutual
inductive Rep (H0 H : Hp) (w : Own) : Lab → V → D → Prop where
  | non {l : Lab} : Rep H0 H w l .non .non
  | bl {l : Lab} {b : Bool} : Rep H0 H w l (.bl b) (.bl b)
  | int {l : Lab} {i : Int} : Rep H0 H w l (.int i) (.int i)
  | str {l : Lab} {s : List Nat} (b : s.length < big) : Rep H0 H w l (.str ⟨s.toArray⟩) (.str s)
  | lst {l : Lab} {p : Addr} {t : Tag} {vs : List V} {ds : List D} (a : AtT t H p (.lst vs)) (k : TagOk H0 w l p t) (r : Reps H0 H w l 0 vs ds) (b : ds.length < big) : Rep H0 H w l (.ref p) (.lst t ds)
  | lstK {l : Lab} {p : Addr} {vs : List V} {ds : List D} (a : KLs.kl p vs) (r : Reps H0 H w l 0 vs ds) (b : ds.length < big) : Rep H0 H w l (.ref p) (.lst .any ds)
  | tup {l : Lab} {p : Addr} {vs : List V} {ds : List D} (a : H p = some (.tup vs)) (r : Reps H0 H w l 0 vs ds) : Rep H0 H w l (.ref p) (.tup ds)
  | exc {l : Lab} {p : Addr} {c : Nat} (a : H p = some (excHO p (KLs.cv c))) : Rep H0 H w l (.ref p) (.exc c)
  | dK {l : Lab} {p : Addr} {t : Tag} {kvs : List (Key × V)} {ks : List Key} {ds : List D} (a : AtT t H p (.dK kvs)) (k : TagOk H0 w l p t) (e : kvs.map (·.1) = ks) (r : Reps H0 H w l 0 (kvs.map (·.2)) ds) : Rep H0 H w l (.ref p) (.dK t ks ds)
  | dT {l : Lab} {p : Addr} {t : Tag} {kvs : List (List Key × V)} {ks : List (List Key)} {ds : List D} (a : AtT t H p (.dT kvs)) (k : TagOk H0 w l p t) (e : kvs.map (·.1) = ks) (r : Reps H0 H w l 0 (kvs.map (·.2)) ds) : Rep H0 H w l (.ref p) (.dT t ks ds)
inductive Reps (H0 H : Hp) (w : Own) : Lab → Nat → List V → List D → Prop where
  | nil {l : Lab} {i : Nat} : Reps H0 H w l i [] []
  | cons {l : Lab} {i : Nat} {v : V} {vs : List V} {d : D} {ds : List D} (h : Rep H0 H w (i :: l) v d) (t : Reps H0 H w l (i + 1) vs ds) : Reps H0 H w l i (v :: vs) (d :: ds)
end

/-- a tuple, locked or not -/
def IsTupO (o : HO) : Prop := (∃ xs, o = .tup xs) ∨ (∃ ob xs, o = .frz ob (.tup xs)) ∨ ∃ φ, o = .ext φ
theorem rd_mono {H H' : Hp} {p : Addr} {u : HO} (r : Rd H p u) (h : ∀ o, H p = some o → H' p = some o) : Rd H' p u := by
  rcases r with r | ⟨o, r⟩
  · exact .inl (h _ r)
  · exact .inr ⟨o, h _ r⟩
theorem rd_some {H : Hp} {p : Addr} {u : HO} (r : Rd H p u) : ∃ o, H p = some o ∧ (o = u ∨ ∃ ob, o = .frz ob u) := by
  rcases r with r | ⟨o, r⟩
  · exact ⟨_, r, .inl rfl⟩
  · exact ⟨_, r, .inr ⟨o, rfl⟩⟩
theorem AtT.rd {t : Tag} {H : Hp} {p : Addr} {u : HO} (a : AtT t H p u) : Rd H p u := by
  cases t
  · exact .inl a
  · exact .inl a
  · exact a
theorem AtT.mono {t : Tag} {H H' : Hp} {p : Addr} {u : HO} (a : AtT t H p u) (h : ∀ o, H p = some o → H' p = some o) : AtT t H' p u := by
  cases t
  · exact h _ a
  · exact h _ a
  · exact rd_mono a h
theorem TagOk.wp {H0 : Hp} {w : Own} {l : Lab} {p : Addr} {t : Tag} (k : TagOk H0 w l p t) : w p = none ∨ w p = some l := by
  cases t
  · exact .inr k.2
  · exact .inl k.2
  · exact .inl k

/-- what a change of heap, of the labels and of the root's label must keep -/
structure Keep (H0 H H0' H' : Hp) (w w' : Own) (l l' : Lab) : Prop where
  tup : ∀ p o, H p = some o → IsTupO o → H' p = some o
  sh : ∀ p o, H p = some o → w p = none → H' p = some o ∧ w' p = none
  own : ∀ p o m, H p = some o → w p = some (m ++ l) → H' p = some o ∧ w' p = some (m ++ l')
  h0 : ∀ p o, H p = some o → H0 p = none → H0' p = none
theorem Keep.down {H0 H H0' H' : Hp} {w w' : Own} {l l' : Lab} (k : Keep H0 H H0' H' w w' l l') (i : Nat) : Keep H0 H H0' H' w w' (i :: l) (i :: l') where
  tup := k.tup
  sh := k.sh
  own := fun p o m hp hw => by
    have := k.own p o (m ++ [i]) hp (by rw [hw]; simp)
    simpa using this
  h0 := k.h0
theorem Keep.at {H0 H H0' H' : Hp} {w w' : Own} {l l' : Lab} (k : Keep H0 H H0' H' w w' l l') {p : Addr} {t : Tag} {u : HO} (a : AtT t H p u) (g : TagOk H0 w l p t) : AtT t H' p u ∧ TagOk H0' w' l' p t := by
  obtain ⟨o, ho, _⟩ := rd_some a.rd
  cases t with
  | own =>
    have q := k.own p o [] ho (by simpa using g.2)
    exact ⟨a.mono fun o' ho' => by rw [ho] at ho'; cases ho'; exact q.1, k.h0 p o ho g.1, by simpa using q.2⟩
  | new =>
    have q := k.sh p o ho g.2
    exact ⟨a.mono fun o' ho' => by rw [ho] at ho'; cases ho'; exact q.1, k.h0 p o ho g.1, q.2⟩
  | any =>
    have q := k.sh p o ho g
    exact ⟨a.mono fun o' ho' => by rw [ho] at ho'; cases ho'; exact q.1, q.2⟩
mutual
theorem Rep.tr {H0 H H0' H' : Hp} {w w' : Own} : ∀ {l : Lab} {v : V} {d : D}, Rep H0 H w l v d → ∀ {l' : Lab}, Keep H0 H H0' H' w w' l l' → Rep H0' H' w' l' v d
  | _, _, _, .non, _, _ => .non
  | _, _, _, .bl, _, _ => .bl
  | _, _, _, .int, _, _ => .int
  | _, _, _, .str b, _, _ => .str b
  | _, _, _, .lst a g r b, _, k => .lst (k.at a g).1 (k.at a g).2 (r.tr k) b
  | _, _, _, .lstK a r b, _, k => .lstK a (r.tr k) b
  | _, _, _, .tup a r, _, k => .tup (k.tup _ _ a (.inl ⟨_, rfl⟩)) (r.tr k)
  | _, _, _, .exc a, _, k => .exc (k.tup _ _ a (.inr (.inr ⟨_, rfl⟩)))
  | _, _, _, .dK a g e r, _, k => .dK (k.at a g).1 (k.at a g).2 e (r.tr k)
  | _, _, _, .dT a g e r, _, k => .dT (k.at a g).1 (k.at a g).2 e (r.tr k)
theorem Reps.tr {H0 H H0' H' : Hp} {w w' : Own} : ∀ {l : Lab} {i : Nat} {vs : List V} {ds : List D}, Reps H0 H w l i vs ds → ∀ {l' : Lab}, Keep H0 H H0' H' w w' l l' → Reps H0' H' w' l' i vs ds
  | _, _, _, _, .nil, _, _ => .nil
  | _, _, _, _, .cons h t, _, k => .cons (h.tr (k.down _)) (t.tr k)
end
/-- the same for values without owned places: the root's label does not matter -/
structure KeepS (H0 H H0' H' : Hp) (w w' : Own) : Prop where
  tup : ∀ p o, H p = some o → IsTupO o → H' p = some o
  sh : ∀ p o, H p = some o → w p = none → H' p = some o ∧ w' p = none
  h0 : ∀ p o, H p = some o → H0 p = none → H0' p = none
theorem Keep.s {H0 H H0' H' : Hp} {w w' : Own} {l l' : Lab} (k : Keep H0 H H0' H' w w' l l') : KeepS H0 H H0' H' w w' := ⟨k.tup, k.sh, k.h0⟩
theorem KeepS.refl {H0 H : Hp} {w : Own} : KeepS H0 H H0 H w w := ⟨fun _ _ h _ => h, fun _ _ h e => ⟨h, e⟩, fun _ _ _ h => h⟩
theorem KeepS.at {H0 H H0' H' : Hp} {w w' : Own} {l l' : Lab} (k : KeepS H0 H H0' H' w w') {p : Addr} {t : Tag} {u : HO} (a : AtT t H p u) (g : TagOk H0 w l p t) (n : t.noOwn = true) : AtT t H' p u ∧ TagOk H0' w' l' p t := by
  obtain ⟨o, ho, _⟩ := rd_some a.rd
  cases t with
  | own => cases n
  | new =>
    have q := k.sh p o ho g.2
    exact ⟨a.mono fun o' ho' => by rw [ho] at ho'; cases ho'; exact q.1, k.h0 p o ho g.1, q.2⟩
  | any =>
    have q := k.sh p o ho g
    exact ⟨a.mono fun o' ho' => by rw [ho] at ho'; cases ho'; exact q.1, q.2⟩
mutual
theorem Rep.trS {H0 H H0' H' : Hp} {w w' : Own} (k : KeepS H0 H H0' H' w w') : ∀ {l : Lab} {v : V} {d : D}, Rep H0 H w l v d → ∀ {l' : Lab}, d.noOwn = true → Rep H0' H' w' l' v d
  | _, _, _, .non, _, _ => .non
  | _, _, _, .bl, _, _ => .bl
  | _, _, _, .int, _, _ => .int
  | _, _, _, .str b, _, _ => .str b
  | _, _, _, .lst a g r b, _, n => by
    simp only [D.noOwn, D.all, Bool.and_eq_true] at n
    have q := fun l' => k.at (l' := l') a g n.1
    exact .lst (q []).1 (q _).2 (r.trS k n.2) b
  | _, _, _, .lstK a r b, _, n => by
    simp only [D.noOwn, D.all, Bool.and_eq_true] at n
    exact .lstK a (r.trS k n.2) b
  | _, _, _, .tup a r, _, n => .tup (k.tup _ _ a (.inl ⟨_, rfl⟩)) (r.trS k n)
  | _, _, _, .exc a, _, _ => .exc (k.tup _ _ a (.inr (.inr ⟨_, rfl⟩)))
  | _, _, _, .dK a g e r, _, n => by
    simp only [D.noOwn, D.all, Bool.and_eq_true] at n
    have q := fun l' => k.at (l' := l') a g n.1
    exact .dK (q []).1 (q _).2 e (r.trS k n.2)
  | _, _, _, .dT a g e r, _, n => by
    simp only [D.noOwn, D.all, Bool.and_eq_true] at n
    have q := fun l' => k.at (l' := l') a g n.1
    exact .dT (q []).1 (q _).2 e (r.trS k n.2)
theorem Reps.trS {H0 H H0' H' : Hp} {w w' : Own} (k : KeepS H0 H H0' H' w w') : ∀ {l : Lab} {i : Nat} {vs : List V} {ds : List D}, Reps H0 H w l i vs ds → ∀ {l' : Lab} {j : Nat}, alls Tag.noOwn ds = true → Reps H0' H' w' l' j vs ds
  | _, _, _, _, .nil, _, _, _ => .nil
  | _, _, _, _, .cons h t, _, _, n => by
    simp only [alls, Bool.and_eq_true] at n
    exact .cons (h.trS k n.1) (t.trS k n.2)
end
/-- the tags changed -/
structure KeepT (f : Tag → Tag) (H0 H H0' H' : Hp) (w w' : Own) (l : Lab) : Prop where
  any : f .any = .any
  tup : ∀ p o, H p = some o → IsTupO o → H' p = some o
  at_ : ∀ m p t u, AtT t H p u → TagOk H0 w (m ++ l) p t → AtT (f t) H' p u ∧ ∀ l', TagOk H0' w' l' p (f t)
theorem KeepT.down {f : Tag → Tag} {H0 H H0' H' : Hp} {w w' : Own} {l : Lab} (k : KeepT f H0 H H0' H' w w' l) (i : Nat) : KeepT f H0 H H0' H' w w' (i :: l) where
  any := k.any
  tup := k.tup
  at_ := fun m p t u a g => k.at_ (m ++ [i]) p t u a (by simpa using g)
theorem KeepT.here {f : Tag → Tag} {H0 H H0' H' : Hp} {w w' : Own} {l : Lab} (k : KeepT f H0 H H0' H' w w' l) {p : Addr} {t : Tag} {u : HO} (a : AtT t H p u) (g : TagOk H0 w l p t) : AtT (f t) H' p u ∧ ∀ l', TagOk H0' w' l' p (f t) :=
  k.at_ [] p t u a g
mutual
theorem Rep.trT {f : Tag → Tag} {H0 H H0' H' : Hp} {w w' : Own} : ∀ {l : Lab} {v : V} {d : D}, Rep H0 H w l v d → KeepT f H0 H H0' H' w w' l → ∀ {l' : Lab}, Rep H0' H' w' l' v (d.tg f)
  | _, _, _, .non, _, _ => .non
  | _, _, _, .bl, _, _ => .bl
  | _, _, _, .int, _, _ => .int
  | _, _, _, .str b, _, _ => .str b
  | _, _, _, .lst a g r b, k, _ => .lst (k.here a g).1 ((k.here a g).2 _) (r.trT k) (by rw [tgs_length]; exact b)
  | _, _, _, .lstK a r b, k, _ => by
    simp only [D.tg, k.any]
    exact .lstK a (r.trT k) (by rw [tgs_length]; exact b)
  | _, _, _, .tup a r, k, _ => .tup (k.tup _ _ a (.inl ⟨_, rfl⟩)) (r.trT k)
  | _, _, _, .exc a, k, _ => .exc (k.tup _ _ a (.inr (.inr ⟨_, rfl⟩)))
  | _, _, _, .dK a g e r, k, _ => .dK (k.here a g).1 ((k.here a g).2 _) e (r.trT k)
  | _, _, _, .dT a g e r, k, _ => .dT (k.here a g).1 ((k.here a g).2 _) e (r.trT k)
theorem Reps.trT {f : Tag → Tag} {H0 H H0' H' : Hp} {w w' : Own} : ∀ {l : Lab} {i : Nat} {vs : List V} {ds : List D}, Reps H0 H w l i vs ds → KeepT f H0 H H0' H' w w' l → ∀ {l' : Lab} {j : Nat}, Reps H0' H' w' l' j vs (tgs f ds)
  | _, _, _, _, .nil, _, _, _ => .nil
  | _, _, _, _, .cons h t, k, _, _ => .cons (h.trT (k.down _)) (t.trT k)
end
/-- for a callee: all tags forgotten -/
theorem keepAny {H0 H H1 : Hp} {w : Own} {l : Lab} : KeepT (fun _ => .any) H0 H H1 H w (fun _ => none) l := ⟨rfl, fun _ _ h _ => h, fun m p t u a _ => ⟨a.rd, fun _ => rfl⟩⟩
theorem Rep.any {H0 H H1 : Hp} {w : Own} {l l' : Lab} {v : V} {d : D} (r : Rep H0 H w l v d) : Rep H1 H (fun _ => none) l' v d.toAny := r.trT keepAny
theorem Reps.any {H0 H H1 : Hp} {w : Own} {l l' : Lab} {i j : Nat} {vs : List V} {ds : List D} (r : Reps H0 H w l i vs ds) : Reps H1 H (fun _ => none) l' j vs (tgs (fun _ => .any) ds) := r.trT keepAny

theorem Reps.length {H0 H : Hp} {w : Own} : ∀ {l : Lab} {i : Nat} {vs : List V} {ds : List D}, Reps H0 H w l i vs ds → vs.length = ds.length
  | _, _, _, _, .nil => rfl
  | _, _, _, _, .cons _ t => by simp [t.length]
theorem Reps.append {H0 H : Hp} {w : Own} : ∀ {l : Lab} {i : Nat} {vs us : List V} {ds es : List D}, Reps H0 H w l i vs ds → Reps H0 H w l (i + vs.length) us es → Reps H0 H w l i (vs ++ us) (ds ++ es)
  | _, _, _, _, _, _, .nil, r => by simpa using r
  | _, i, _, _, _, _, .cons (vs := vs) h t, r => .cons h (t.append (by simpa [Nat.add_assoc, Nat.add_comm, Nat.add_left_comm] using r))
theorem Reps.get {H0 H : Hp} {w : Own} : ∀ {l : Lab} {i : Nat} {vs : List V} {ds : List D}, Reps H0 H w l i vs ds → ∀ {j : Nat} {d : D}, ds[j]? = some d → ∃ v, vs[j]? = some v ∧ Rep H0 H w ((i + j) :: l) v d
  | _, _, _, _, .nil, j, d, e => by simp at e
  | _, _, _, _, .cons h t, 0, d, e => by simp at e; subst e; exact ⟨_, rfl, h⟩
  | _, i, _, _, .cons h t, j + 1, d, e => by
    obtain ⟨v, e1, r⟩ := t.get (j := j) (d := d) (by simpa using e)
    exact ⟨v, by simpa using e1, by simpa [Nat.add_assoc, Nat.add_comm, Nat.add_left_comm] using r⟩
theorem Reps.getV {H0 H : Hp} {w : Own} : ∀ {l : Lab} {i : Nat} {vs : List V} {ds : List D}, Reps H0 H w l i vs ds → ∀ {j : Nat} {v : V}, vs[j]? = some v → ∃ d, ds[j]? = some d ∧ Rep H0 H w ((i + j) :: l) v d
  | _, _, _, _, .nil, j, d, e => by simp at e
  | _, _, _, _, .cons h t, 0, d, e => by simp at e; subst e; exact ⟨_, rfl, h⟩
  | _, i, _, _, .cons h t, j + 1, d, e => by
    obtain ⟨v, e1, r⟩ := t.getV (j := j) (v := d) (by simpa using e)
    exact ⟨v, by simpa using e1, by simpa [Nat.add_assoc, Nat.add_comm, Nat.add_left_comm] using r⟩


/-- tags as they are, labels moved, by what the tag says -/
structure KeepG (pr : Tag → Bool) (H0 H H0' H' : Hp) (w w' : Own) (l l' : Lab) : Prop where
  tup : ∀ p o, H p = some o → IsTupO o → H' p = some o
  at_ : ∀ m p t u, pr t = true → AtT t H p u → TagOk H0 w (m ++ l) p t → AtT t H' p u ∧ TagOk H0' w' (m ++ l') p t
theorem KeepG.down {pr : Tag → Bool} {H0 H H0' H' : Hp} {w w' : Own} {l l' : Lab} (k : KeepG pr H0 H H0' H' w w' l l') (i : Nat) : KeepG pr H0 H H0' H' w w' (i :: l) (i :: l') where
  tup := k.tup
  at_ := fun m p t u e a g => by
    have := k.at_ (m ++ [i]) p t u e a (by simpa using g)
    simpa using this
mutual
theorem Rep.trG {pr : Tag → Bool} {H0 H H0' H' : Hp} {w w' : Own} : ∀ {l : Lab} {v : V} {d : D}, Rep H0 H w l v d → ∀ {l' : Lab}, KeepG pr H0 H H0' H' w w' l l' → d.all pr = true → Rep H0' H' w' l' v d
  | _, _, _, .non, _, _, _ => .non
  | _, _, _, .bl, _, _, _ => .bl
  | _, _, _, .int, _, _, _ => .int
  | _, _, _, .str b, _, _, _ => .str b
  | _, _, _, .lst a g r b, _, k, n => by
    simp only [D.all, Bool.and_eq_true] at n
    have q := k.at_ [] _ _ _ n.1 a g
    exact .lst q.1 q.2 (r.trG k n.2) b
  | _, _, _, .lstK a r b, _, k, n => by
    simp only [D.all, Bool.and_eq_true] at n
    exact .lstK a (r.trG k n.2) b
  | _, _, _, .tup a r, _, k, n => .tup (k.tup _ _ a (.inl ⟨_, rfl⟩)) (r.trG k n)
  | _, _, _, .exc a, _, k, _ => .exc (k.tup _ _ a (.inr (.inr ⟨_, rfl⟩)))
  | _, _, _, .dK a g e r, _, k, n => by
    simp only [D.all, Bool.and_eq_true] at n
    have q := k.at_ [] _ _ _ n.1 a g
    exact .dK q.1 q.2 e (r.trG k n.2)
  | _, _, _, .dT a g e r, _, k, n => by
    simp only [D.all, Bool.and_eq_true] at n
    have q := k.at_ [] _ _ _ n.1 a g
    exact .dT q.1 q.2 e (r.trG k n.2)
theorem Reps.trG {pr : Tag → Bool} {H0 H H0' H' : Hp} {w w' : Own} : ∀ {l : Lab} {i : Nat} {vs : List V} {ds : List D}, Reps H0 H w l i vs ds → ∀ {l' : Lab}, KeepG pr H0 H H0' H' w w' l l' → alls pr ds = true → Reps H0' H' w' l' i vs ds
  | _, _, _, _, .nil, _, _, _ => .nil
  | _, _, _, _, .cons h t, _, k, n => by
    simp only [alls, Bool.and_eq_true] at n
    exact .cons (h.trG (k.down _) n.1) (t.trG k n.2)
end
theorem Reps.tr2 {H0 H H0' H' : Hp} {w w' : Own} : ∀ {l : Lab} {i : Nat} {vs : List V} {ds : List D}, Reps H0 H w l i vs ds → ∀ {l' : Lab}, (∀ j, Keep H0 H H0' H' w w' (j :: l) (j :: l')) → Reps H0' H' w' l' i vs ds
  | _, _, _, _, .nil, _, _ => .nil
  | _, _, _, _, .cons h t, _, k => .cons (h.tr (k _)) (t.tr2 k)

/-! ### the state: slots and values on the way, each with a root of its own -/
abbrev DEnv := List (Option D)
/-- the root of a label -/
def rootOf (l : Lab) : Option Nat := l.getLast?
theorem rootOf_app (m : Lab) (k : Nat) : rootOf (m ++ [k]) = some k := by simp [rootOf]
theorem rootOf_one (k : Nat) : rootOf [k] = some k := rfl
def TReps (H0 H : Hp) (w : Own) : List Nat → List (V × D) → Prop
  | [], [] => True
  | k :: ks, (v, d) :: ts => Rep H0 H w [k] v d ∧ TReps H0 H w ks ts
  | _, _ => False
structure Sta (H0 H : Hp) (w : Own) (sid tid : List Nat) (σ : L2.St) (ρ : DEnv) (ts : List (V × D)) : Prop where
  same : Same H0 H
  dom : ∀ p l, w p = some l → H p ≠ none ∧ H0 p = none ∧ ∃ k, rootOf l = some k ∧ k ∈ sid ++ tid
  nod : (sid ++ tid).Nodup
  slen : sid.length = ρ.length
  len : ρ.length = σ.length
  slot : ∀ (i : Nat) (d : D), ρ[i]? = some (some d) → ∃ v k, σ[i]? = some (some v) ∧ sid[i]? = some k ∧ Rep H0 H w [k] v d
  tmp : TReps H0 H w tid ts
def SS (H0 H : Hp) (σ : L2.St) (ρ : DEnv) (ts : List (V × D)) : Prop := ∃ w sid tid, Sta H0 H w sid tid σ ρ ts

/-- the labels but those of the root k -/
def wo (k : Nat) (w : Own) : Own := fun p => match w p with | some l => if rootOf l = some k then none else some l | none => none
section
variable {H0 H H' : Hp} {w w' : Own} {sid tid : List Nat} {σ : L2.St} {ρ : DEnv} {ts : List (V × D)} {v : V} {d : D}
theorem wo_none {k : Nat} {p : Addr} (h : w p = none) : wo k w p = none := by simp [wo, h]
theorem wo_root {k : Nat} {p : Addr} {m : Lab} (h : w p = some (m ++ [k])) : wo k w p = none := by simp [wo, h, rootOf_app]
theorem wo_other {k j : Nat} {p : Addr} {m : Lab} (hn : j ≠ k) (h : w p = some (m ++ [j])) : wo k w p = some (m ++ [j]) := by
  simp only [wo, h, rootOf_app]
  rw [if_neg]
  intro q; cases q; exact hn rfl
theorem wo_some {k : Nat} {p : Addr} {l : Lab} (h : wo k w p = some l) : w p = some l ∧ rootOf l ≠ some k := by
  unfold wo at h
  cases hw : w p with
  | none => simp [hw] at h
  | some l' =>
    simp only [hw] at h
    split at h
    · cases h
    · rename_i hr
      cases h
      exact ⟨rfl, hr⟩
theorem keep_wo {k j : Nat} (hn : j ≠ k) : Keep H0 H H0 H w (wo k w) [j] [j] where
  tup := fun _ _ e _ => e
  sh := fun p o e hw => ⟨e, wo_none hw⟩
  own := fun p o m e hw => ⟨e, wo_other hn hw⟩
  h0 := fun _ _ _ e => e
theorem keepS_wo {k : Nat} : KeepS H0 H H0 H w (wo k w) where
  tup := fun _ _ e _ => e
  sh := fun p o e hw => ⟨e, wo_none hw⟩
  h0 := fun _ _ _ e => e
theorem keepT_wo {k : Nat} : KeepT Tag.dem H0 H H0 H w (wo k w) [k] where
  any := rfl
  tup := fun _ _ e _ => e
  at_ := fun m p t u a g => by
    cases t with
    | own => exact ⟨a, fun l' => ⟨g.1, wo_root g.2⟩⟩
    | new => exact ⟨a, fun l' => ⟨g.1, wo_none g.2⟩⟩
    | any => exact ⟨a, fun l' => wo_none g⟩
theorem TReps.imp {H0 H H' : Hp} {w w' : Own} : ∀ {ks : List Nat} {ts : List (V × D)}, TReps H0 H w ks ts → (∀ k ∈ ks, ∀ v d, Rep H0 H w [k] v d → Rep H0 H' w' [k] v d) → TReps H0 H' w' ks ts
  | [], [], _, _ => trivial
  | k :: ks, (v, d) :: ts, h, f => ⟨f k List.mem_cons_self v d h.1, h.2.imp fun k' hk' => f k' (List.mem_cons_of_mem _ hk')⟩
  | [], _ :: _, h, _ => h.elim
  | _ :: _, [], h, _ => h.elim
/-- a number that is no root -/
theorem fresh_id (l : List Nat) : ∃ k, k ∉ l := by
  refine ⟨l.sum + 1, fun h => ?_⟩
  have : ∀ l : List Nat, ∀ x ∈ l, x ≤ l.sum := by
    intro l
    induction l with
    | nil => intro x hx; cases hx
    | cons a l ih =>
      intro x hx
      rw [List.sum_cons]
      rcases List.mem_cons.mp hx with rfl | hx
      · omega
      · have := ih x hx; omega
  have := this l _ h
  omega
theorem nodup_of_ix {l : List Nat} (h : ∀ a b : Nat, a < b → b < l.length → l[a]? ≠ l[b]?) : l.Nodup := by
  refine List.pairwise_iff_getElem.mpr fun a b ha hb hab e => h a b hab hb ?_
  rw [List.getElem?_eq_getElem ha, List.getElem?_eq_getElem hb, e]
theorem nodup_parts {k : Nat} {ks : List Nat} (h : (sid ++ k :: ks).Nodup) : (sid ++ ks).Nodup ∧ k ∉ sid ∧ k ∉ ks := by
  rw [List.nodup_append] at h
  obtain ⟨h1, h2, h3⟩ := h
  rw [List.nodup_cons] at h2
  refine ⟨List.nodup_append.mpr ⟨h1, h2.2, fun a ha b hb => h3 a ha b (List.mem_cons_of_mem _ hb)⟩, fun hm => h3 k hm k List.mem_cons_self rfl, h2.1⟩
theorem nodup_push {k : Nat} (h : (sid ++ tid).Nodup) (hk : k ∉ sid ++ tid) : (sid ++ k :: tid).Nodup := by
  rw [List.nodup_append] at h ⊢
  obtain ⟨h1, h2, h3⟩ := h
  rw [List.mem_append, not_or] at hk
  refine ⟨h1, List.nodup_cons.mpr ⟨hk.2, h2⟩, fun a ha b hb => ?_⟩
  rcases List.mem_cons.mp hb with rfl | hb
  · intro e; subst e; exact hk.1 ha
  · exact h3 a ha b hb
/-- roots are taken over one by one -/
theorem Sta.map (s : Sta H0 H w sid tid σ ρ ts) (hs : Same H0 H') (hd : ∀ p l, w' p = some l → H' p ≠ none ∧ H0 p = none ∧ ∃ k, rootOf l = some k ∧ k ∈ sid ++ tid)
    (h : ∀ k ∈ sid ++ tid, ∀ v d, Rep H0 H w [k] v d → Rep H0 H' w' [k] v d) : Sta H0 H' w' sid tid σ ρ ts where
  same := hs
  dom := hd
  nod := s.nod
  slen := s.slen
  len := s.len
  slot := fun i d e => by
    obtain ⟨v, k, e1, e2, r⟩ := s.slot i d e
    exact ⟨v, k, e1, e2, h k (List.mem_append_left _ (List.mem_of_getElem? e2)) v d r⟩
  tmp := s.tmp.imp fun k hk => h k (List.mem_append_right _ hk)
theorem Sta.top {x : V × D} (s : Sta H0 H w sid tid σ ρ (x :: ts)) : ∃ k ks, tid = k :: ks ∧ Rep H0 H w [k] x.1 x.2 ∧ TReps H0 H w ks ts := by
  cases tid with
  | nil => exact s.tmp.elim
  | cons k ks => exact ⟨k, ks, rfl, s.tmp.1, s.tmp.2⟩
theorem Sta.drop {k : Nat} {ks : List Nat} {x : V × D} (s : Sta H0 H w sid (k :: ks) σ ρ (x :: ts)) : Sta H0 H (wo k w) sid ks σ ρ ts := by
  obtain ⟨n1, n2, n3⟩ := nodup_parts s.nod
  have hk : ∀ k' ∈ sid ++ ks, k' ≠ k := fun k' h e => by
    subst e
    rcases List.mem_append.mp h with h | h
    · exact n2 h
    · exact n3 h
  refine ⟨s.same, fun p l e => ?_, n1, s.slen, s.len, fun i d e => ?_, s.tmp.2.imp fun k' hk' v d r => r.tr (keep_wo (hk k' (List.mem_append_right _ hk')))⟩
  · obtain ⟨hw, hr⟩ := wo_some e
    obtain ⟨h1, h0, k2, h2, h3⟩ := s.dom p l hw
    refine ⟨h1, h0, k2, h2, ?_⟩
    rcases List.mem_append.mp h3 with h3 | h3
    · exact List.mem_append_left _ h3
    · rcases List.mem_cons.mp h3 with rfl | h3
      · exact absurd h2 hr
      · exact List.mem_append_right _ h3
  · obtain ⟨v, k2, e1, e2, r⟩ := s.slot i d e
    exact ⟨v, k2, e1, e2, r.tr (keep_wo (hk k2 (List.mem_append_left _ (List.mem_of_getElem? e2))))⟩
theorem SS.drop {x : V × D} (s : SS H0 H σ ρ (x :: ts)) : SS H0 H σ ρ ts := by
  obtain ⟨w, sid, tid, s⟩ := s
  obtain ⟨k, ks, rfl, _⟩ := s.top
  exact ⟨_, _, _, s.drop⟩
theorem SS.drops : ∀ {nt : List (V × D)}, SS H0 H σ ρ (nt ++ ts) → SS H0 H σ ρ ts
  | [], s => s
  | _ :: nt, s => SS.drops (nt := nt) s.drop
/-- what lies second is dropped -/
theorem SS.drop2 {x y : V × D} (s : SS H0 H σ ρ (x :: y :: ts)) : SS H0 H σ ρ (x :: ts) := by
  obtain ⟨w, sid, tid, s⟩ := s
  obtain ⟨k, ks, rfl, r, tr⟩ := s.top
  obtain ⟨vx, dx⟩ := x
  obtain ⟨vy, dy⟩ := y
  cases ks with
  | nil => exact tr.elim
  | cons k2 ks =>
    obtain ⟨n1, n2, n3⟩ := nodup_parts s.nod
    obtain ⟨m1, m2, m3⟩ := nodup_parts n1
    have hk : ∀ k' ∈ sid ++ k :: ks, k' ≠ k2 := fun k' h e => by
      subst e
      rcases List.mem_append.mp h with h | h
      · exact m2 h
      · rcases List.mem_cons.mp h with rfl | h
        · exact n3 List.mem_cons_self
        · exact m3 h
    refine ⟨wo k2 w, sid, k :: ks, s.same, fun p l e => ?_, nodup_push m1 ?_, s.slen, s.len, fun i d e => ?_, r.tr (keep_wo (hk k (by simp))), tr.2.imp fun k' hk' v d r => r.tr (keep_wo (hk k' (by simp [hk'])))⟩
    · obtain ⟨hw, hr⟩ := wo_some e
      obtain ⟨h1, h0, k3, h2, h3⟩ := s.dom p l hw
      refine ⟨h1, h0, k3, h2, ?_⟩
      simp only [List.mem_append, List.mem_cons] at h3 ⊢
      rcases h3 with h3 | h3 | h3 | h3
      · exact .inl h3
      · exact .inr (.inl h3)
      · subst h3; exact absurd h2 hr
      · exact .inr (.inr h3)
    · simp only [List.mem_append, not_or]
      exact ⟨n2, fun h => n3 (List.mem_cons_of_mem _ h)⟩
    · obtain ⟨v, k3, e1, e2, r⟩ := s.slot i d e
      exact ⟨v, k3, e1, e2, r.tr (keep_wo (hk k3 (List.mem_append_left _ (List.mem_of_getElem? e2))))⟩
theorem SS.drops2 {x : V × D} : ∀ {nt : List (V × D)}, SS H0 H σ ρ (x :: (nt ++ ts)) → SS H0 H σ ρ (x :: ts)
  | [], s => s
  | _ :: nt, s => SS.drops2 (nt := nt) s.drop2
/-- less is known of the slots -/
theorem Sta.sig {σ' : L2.St} {ρ' : DEnv} (s : Sta H0 H w sid tid σ ρ ts) (hl : ρ'.length = ρ.length) (hl2 : σ'.length = σ.length) (h : ∀ (i : Nat) (d : D), ρ'[i]? = some (some d) → ρ[i]? = some (some d) ∧ σ'[i]? = σ[i]?) : Sta H0 H w sid tid σ' ρ' ts :=
  ⟨s.same, s.dom, s.nod, by rw [s.slen, hl], by rw [hl, hl2, s.len], fun i d e => by
    obtain ⟨e1, e2⟩ := h i d e
    obtain ⟨v, k, q1, q2, r⟩ := s.slot i d e1
    exact ⟨v, k, by rw [e2, q1], q2, r⟩, s.tmp⟩
theorem SS.sig {σ' : L2.St} {ρ' : DEnv} (s : SS H0 H σ ρ ts) (hl : ρ'.length = ρ.length) (hl2 : σ'.length = σ.length) (h : ∀ (i : Nat) (d : D), ρ'[i]? = some (some d) → ρ[i]? = some (some d) ∧ σ'[i]? = σ[i]?) : SS H0 H σ' ρ' ts := by
  obtain ⟨w, sid, tid, s⟩ := s
  exact ⟨_, _, _, s.sig hl hl2 h⟩
theorem set_get {α : Type} {l : List α} {i j : Nat} {x y : α} (h : (l.set i x)[j]? = some y) : (i = j ∧ y = x) ∨ (i ≠ j ∧ l[j]? = some y) := by
  by_cases e : i = j
  · subst e
    by_cases hi : i < l.length
    · rw [List.getElem?_set_self hi] at h; cases h; exact .inl ⟨rfl, rfl⟩
    · rw [List.getElem?_eq_none (by simpa using hi)] at h; cases h
  · rw [List.getElem?_set_ne e] at h; exact .inr ⟨e, h⟩
theorem SS.forget (i : Nat) (s : SS H0 H σ ρ ts) : SS H0 H σ (ρ.set i none) ts :=
  s.sig (List.length_set) rfl fun j d e => by
    rcases set_get e with ⟨_, e⟩ | ⟨_, e⟩
    · cases e
    · exact ⟨e, rfl⟩
theorem Sta.root (s : Sta H0 H w sid tid σ ρ ts) {k : Nat} (hk : k ∉ sid ++ tid) {p : Addr} {l : Lab} (h : w p = some l) : rootOf l ≠ some k := fun e => by
  obtain ⟨_, _, k2, h2, h3⟩ := s.dom p l h
  rw [e] at h2; cases h2; exact hk h3
/-- the value on top is stored -/
theorem Sta.store {i k : Nat} {ks : List Nat} (s : Sta H0 H w sid (k :: ks) σ ρ ((v, d) :: ts)) (hi : i < ρ.length) : ∃ w', Sta H0 H w' (sid.set i k) ks (σ.set i (some v)) (ρ.set i (some d)) ts := by
  obtain ⟨n1, n2, n3⟩ := nodup_parts s.nod
  have his : i < sid.length := by rw [s.slen]; exact hi
  have hσ : i < σ.length := by rw [← s.len]; exact hi
  generalize hk0 : sid[i] = k0
  have e0 : sid[i]? = some k0 := by rw [List.getElem?_eq_getElem his, hk0]
  have k0m : k0 ∈ sid := List.mem_of_getElem? e0
  have kn : k ≠ k0 := fun e => n2 (e ▸ k0m)
  have nds : sid.Nodup := (List.nodup_append.mp n1).1
  have oth : ∀ j k', sid[j]? = some k' → i ≠ j → k' ≠ k0 := fun j k' e hij q => by
    subst q
    exact hij ((List.getElem?_inj his nds).mp (by rw [e0, e]))
  have k0ks : k0 ∉ ks := fun h => (List.nodup_append.mp n1).2.2 k0 k0m k0 h rfl
  refine ⟨wo k0 w, s.same, fun p l e => ?_, ?_, by simp [s.slen], by simp [s.len], fun j d' e => ?_, s.tmp.2.imp fun k' hk' v d r => r.tr (keep_wo fun q => k0ks (q ▸ hk'))⟩
  · obtain ⟨hw, hr⟩ := wo_some e
    obtain ⟨h1, h0, k2, h2, h3⟩ := s.dom p l hw
    refine ⟨h1, h0, k2, h2, ?_⟩
    simp only [List.mem_append, List.mem_cons] at h3 ⊢
    rcases h3 with h3 | h3 | h3
    · obtain ⟨j, hj⟩ := List.getElem?_of_mem h3
      by_cases hij : i = j
      · subst hij
        rw [e0] at hj; cases hj
        exact absurd h2 hr
      · exact .inl (List.mem_of_getElem? (i := j) (by rw [List.getElem?_set_ne hij]; exact hj))
    · subst h3
      exact .inl (List.mem_of_getElem? (i := i) (List.getElem?_set_self his))
    · exact .inr h3
  · rw [List.nodup_append] at n1 ⊢
    obtain ⟨_, m2, m3⟩ := n1
    refine ⟨?_, m2, fun a ha b hb => ?_⟩
    · refine nodup_of_ix fun a b hab hb he => ?_
      rw [List.length_set] at hb
      by_cases h1 : i = a
      · subst h1
        rw [List.getElem?_set_self his, List.getElem?_set_ne (by omega)] at he
        exact n2 (List.mem_of_getElem? he.symm)
      · by_cases h2 : i = b
        · subst h2
          rw [List.getElem?_set_self his, List.getElem?_set_ne (by omega)] at he
          exact n2 (List.mem_of_getElem? he)
        · rw [List.getElem?_set_ne h1, List.getElem?_set_ne h2] at he
          have := (List.getElem?_inj (by omega) nds).mp he
          omega
    · obtain ⟨j, hj⟩ := List.getElem?_of_mem ha
      rcases set_get hj with ⟨_, rfl⟩ | ⟨_, hj⟩
      · intro q; exact n3 (q ▸ hb)
      · exact m3 a (List.mem_of_getElem? hj) b hb
  · rcases set_get e with ⟨rfl, e3⟩ | ⟨hij, e⟩
    · cases e3
      exact ⟨v, k, List.getElem?_set_self hσ, List.getElem?_set_self his, s.tmp.1.tr (keep_wo kn)⟩
    · obtain ⟨v', k', q1, q2, r⟩ := s.slot j d' e
      exact ⟨v', k', by rw [List.getElem?_set_ne hij]; exact q1, by rw [List.getElem?_set_ne hij]; exact q2, r.tr (keep_wo (oth j k' q2 hij))⟩
theorem SS.store (i : Nat) (s : SS H0 H σ ρ ((v, d) :: ts)) : SS H0 H (σ.set i (some v)) (ρ.set i (some d)) ts := by
  by_cases hi : i < ρ.length
  · obtain ⟨w, sid, tid, s⟩ := s
    obtain ⟨k, ks, rfl, _⟩ := s.top
    obtain ⟨w', s'⟩ := s.store hi
    exact ⟨_, _, _, s'⟩
  · obtain ⟨w, sid, tid, s1⟩ := id s
    rw [List.set_eq_of_length_le (by rw [← s1.len]; omega), List.set_eq_of_length_le (by omega)]
    exact s.drop
/-- a value without owned places is put on top -/
theorem Sta.dup {l : Lab} (s : Sta H0 H w sid tid σ ρ ts) (r : Rep H0 H w l v d) (n : d.noOwn = true) : ∃ k, Sta H0 H w sid (k :: tid) σ ρ ((v, d) :: ts) := by
  obtain ⟨k, hk⟩ := fresh_id (sid ++ tid)
  refine ⟨k, s.same, fun p l e => ?_, nodup_push s.nod hk, s.slen, s.len, s.slot, r.trS KeepS.refl n, s.tmp⟩
  obtain ⟨h1, h0, k2, h2, h3⟩ := s.dom p l e
  exact ⟨h1, h0, k2, h2, by simp only [List.mem_append, List.mem_cons] at h3 ⊢; rcases h3 with h | h <;> simp [h]⟩
theorem SS.imm (s : SS H0 H σ ρ ts) (r : ∀ w, Rep H0 H w [] v d) (n : d.noOwn = true) : SS H0 H σ ρ ((v, d) :: ts) := by
  obtain ⟨w, sid, tid, s⟩ := s
  obtain ⟨k, s'⟩ := s.dup (r w) n
  exact ⟨_, _, _, s'⟩
theorem SS.int (s : SS H0 H σ ρ ts) (i : Int) : SS H0 H σ ρ ((.int i, .int i) :: ts) := s.imm (fun _ => .int) rfl
theorem SS.bl (s : SS H0 H σ ρ ts) (i : Bool) : SS H0 H σ ρ ((.bl i, .bl i) :: ts) := s.imm (fun _ => .bl) rfl
theorem SS.non (s : SS H0 H σ ρ ts) : SS H0 H σ ρ ((.non, .non) :: ts) := s.imm (fun _ => .non) rfl
theorem SS.str (s : SS H0 H σ ρ ts) {x : List Nat} (b : x.length < big) : SS H0 H σ ρ ((.str ⟨x.toArray⟩, .str x) :: ts) := s.imm (fun _ => .str b) rfl
/-- a root gives its own places up -/
theorem Sta.demRoot (s : Sta H0 H w sid tid σ ρ ts) (k : Nat) : (∀ p l, wo k w p = some l → H p ≠ none ∧ H0 p = none ∧ ∃ k, rootOf l = some k ∧ k ∈ sid ++ tid) := fun p l e => s.dom p l (wo_some e).1
theorem SS.demTop (s : SS H0 H σ ρ ((v, d) :: ts)) : SS H0 H σ ρ ((v, d.dem) :: ts) := by
  obtain ⟨w, sid, tid, s⟩ := s
  obtain ⟨k, ks, rfl, r, tr⟩ := s.top
  obtain ⟨n1, n2, n3⟩ := nodup_parts s.nod
  refine ⟨wo k w, sid, k :: ks, s.same, s.demRoot k, s.nod, s.slen, s.len, fun i d e => ?_, r.trT keepT_wo, tr.imp fun k' hk' v d r => r.tr (keep_wo fun q => n3 (q ▸ hk'))⟩
  obtain ⟨v, k2, e1, e2, r⟩ := s.slot i d e
  exact ⟨v, k2, e1, e2, r.tr (keep_wo fun q => n2 (q ▸ List.mem_of_getElem? e2))⟩
theorem Sta.sidne (s : Sta H0 H w sid tid σ ρ ts) {i j k k' : Nat} (h : sid[i]? = some k) (h' : sid[j]? = some k') (hij : i ≠ j) : k' ≠ k := fun q => by
  subst q
  have nds : sid.Nodup := (List.nodup_append.mp s.nod).1
  have : i < sid.length := (List.getElem?_eq_some_iff.mp h).1
  exact hij ((List.getElem?_inj this nds).mp (by rw [h, h']))
theorem Sta.tidne (s : Sta H0 H w sid tid σ ρ ts) {i k k' : Nat} (h : sid[i]? = some k) (h' : k' ∈ tid) : k' ≠ k := fun q => by
  subst q
  exact (List.nodup_append.mp s.nod).2.2 k' (List.mem_of_getElem? h) k' h' rfl
theorem SS.demSlot (i : Nat) (s : SS H0 H σ ρ ts) (e : ρ[i]? = some (some d)) : SS H0 H σ (ρ.set i (some d.dem)) ts := by
  obtain ⟨w, sid, tid, s⟩ := s
  obtain ⟨v, k, e1, e2, r⟩ := s.slot i d e
  refine ⟨wo k w, sid, tid, s.same, s.demRoot k, s.nod, by rw [List.length_set]; exact s.slen, by rw [List.length_set]; exact s.len, fun j d' e' => ?_, s.tmp.imp fun k' hk' v d r => r.tr (keep_wo (s.tidne e2 hk'))⟩
  rcases set_get e' with ⟨rfl, e3⟩ | ⟨hij, e'⟩
  · cases e3
    exact ⟨v, k, e1, e2, r.trT keepT_wo⟩
  · obtain ⟨v', k', q1, q2, r'⟩ := s.slot j d' e'
    exact ⟨v', k', q1, q2, r'.tr (keep_wo (s.sidne e2 q2 hij))⟩
/-- a slot's value, given away: the slot keeps it, but no place of it as its own -/
theorem SS.give (i : Nat) (s : SS H0 H σ ρ ts) (e : ρ[i]? = some (some d)) : ∃ v, σ[i]? = some (some v) ∧ SS H0 H σ (ρ.set i (some d.dem)) ((v, d.dem) :: ts) := by
  have s' := s.demSlot i e
  have hi : i < ρ.length := (List.getElem?_eq_some_iff.mp e).1
  obtain ⟨w, sid, tid, s'⟩ := s'
  obtain ⟨v, k, e1, e2, r⟩ := s'.slot i d.dem (List.getElem?_set_self hi)
  obtain ⟨k2, s2⟩ := s'.dup r d.dem_noOwn
  exact ⟨v, e1, _, _, _, s2⟩

/-! ### new objects -/
def wi (w : Own) (p : Addr) (k : Nat) : Own := fun q => if q = p then some [k] else w q
theorem wi_same {p : Addr} {k : Nat} : wi w p k p = some [k] := by simp [wi]
theorem wi_ne {p q : Addr} {k : Nat} (h : q ≠ p) : wi w p k q = w q := by simp [wi, h]
theorem keep_new {p : Addr} {o : HO} {k : Nat} {l : Lab} (hp : H p = none) : Keep H0 H H0 (upd H p o) w (wi w p k) l l where
  tup := fun q o e _ => by rw [upd_ne (ne_of_none e hp)]; exact e
  sh := fun q o e hw => by rw [upd_ne (ne_of_none e hp), wi_ne (ne_of_none e hp)]; exact ⟨e, hw⟩
  own := fun q o m e hw => by rw [upd_ne (ne_of_none e hp), wi_ne (ne_of_none e hp)]; exact ⟨e, hw⟩
  h0 := fun _ _ _ e => e
theorem keep_tup {p : Addr} {o : HO} {l : Lab} (hp : H p = none) : Keep H0 H H0 (upd H p o) w w l l where
  tup := fun q o e _ => by rw [upd_ne (ne_of_none e hp)]; exact e
  sh := fun q o e hw => by rw [upd_ne (ne_of_none e hp)]; exact ⟨e, hw⟩
  own := fun q o m e hw => by rw [upd_ne (ne_of_none e hp)]; exact ⟨e, hw⟩
  h0 := fun _ _ _ e => e
theorem same_upd {p : Addr} {o : HO} (s : Same H0 H) (hp : H p = none) : Same H0 (upd H p o) := fun b u e => by
  have := s b u e
  rw [upd_ne (ne_of_none this hp)]; exact this
/-- a new object at p, the new root's own; what it holds is told behind -/
theorem Sta.new {p : Addr} {o : HO} (s : Sta H0 H w sid tid σ ρ ts) (hp : H p = none) (h : ∀ k, Rep H0 (upd H p o) (wi w p k) [k] (.ref p) d) : SS H0 (upd H p o) σ ρ ((.ref p, d) :: ts) := by
  obtain ⟨k, hk⟩ := fresh_id (sid ++ tid)
  have hp0 : H0 p = none := s.same.free hp
  refine ⟨wi w p k, sid, k :: tid, same_upd s.same hp, fun q l e => ?_, nodup_push s.nod hk, s.slen, s.len, fun i d e => ?_, h k, s.tmp.imp fun k' _ v d r => r.tr (keep_new hp)⟩
  · by_cases hq : q = p
    · subst hq
      rw [wi_same] at e; cases e
      exact ⟨by rw [upd_same]; simp, hp0, k, rfl, by simp⟩
    · rw [wi_ne hq] at e
      obtain ⟨h1, h0, k2, h2, h3⟩ := s.dom q l e
      exact ⟨by rw [upd_ne hq]; exact h1, h0, k2, h2, by simp only [List.mem_append, List.mem_cons] at h3 ⊢; rcases h3 with h | h <;> simp [h]⟩
  · obtain ⟨v, k2, e1, e2, r⟩ := s.slot i d e
    exact ⟨v, k2, e1, e2, r.tr (keep_new hp)⟩
/-- a new tuple -/
theorem Sta.newTup {p : Addr} {o : HO} (s : Sta H0 H w sid tid σ ρ ts) (hp : H p = none) (n : d.noOwn = true) (h : Rep H0 (upd H p o) w [] (.ref p) d) : SS H0 (upd H p o) σ ρ ((.ref p, d) :: ts) := by
  have s' : Sta H0 (upd H p o) w sid tid σ ρ ts := s.map (same_upd s.same hp) (fun q l e => by
    obtain ⟨h1, h0, r⟩ := s.dom q l e
    refine ⟨?_, h0, r⟩
    intro z
    by_cases hq : q = p
    · subst hq; exact h1 hp
    · rw [upd_ne hq] at z; exact h1 z) fun k _ v d r => r.tr (keep_tup hp)
  obtain ⟨k, s2⟩ := s'.dup h n
  exact ⟨_, _, _, s2⟩
/-- items that have no own places -/
def Its (H0 H : Hp) (w : Own) (vs : List V) (ds : List D) : Prop := ∃ l j, Reps H0 H w l j vs ds ∧ alls Tag.noOwn ds = true
theorem Its.reps {vs : List V} {ds : List D} (h : Its H0 H w vs ds) (l : Lab) (j : Nat) : Reps H0 H w l j vs ds := by
  obtain ⟨l', j', r, n⟩ := h
  exact r.trS KeepS.refl n
theorem keepS_new {p : Addr} {o : HO} {k : Nat} (hp : H p = none) : KeepS H0 H H0 (upd H p o) w (wi w p k) := (keep_new (l := []) hp).s
theorem Sta.newL {p : Addr} {vs : List V} {ds : List D} (s : Sta H0 H w sid tid σ ρ ts) (hp : H p = none) (h : Its H0 H w vs ds) (b : ds.length < big) : SS H0 (upd H p (.lst vs)) σ ρ ((.ref p, .lst .own ds) :: ts) := by
  obtain ⟨l, j, r, n⟩ := h
  exact s.new hp fun k => .lst upd_same ⟨s.same.free hp, wi_same⟩ (r.trS (keepS_new hp) n) b
theorem Sta.newT {p : Addr} {vs : List V} {ds : List D} (s : Sta H0 H w sid tid σ ρ ts) (hp : H p = none) (h : Its H0 H w vs ds) : SS H0 (upd H p (.tup vs)) σ ρ ((.ref p, .tup ds) :: ts) := by
  obtain ⟨l, j, r, n⟩ := h
  exact s.newTup hp n (.tup upd_same (r.trS (keep_tup (l := []) hp).s n))
theorem Sta.newDK {p : Addr} (s : Sta H0 H w sid tid σ ρ ts) (hp : H p = none) : SS H0 (upd H p (.dK [])) σ ρ ((.ref p, .dK .own [] []) :: ts) :=
  s.new hp fun k => .dK upd_same ⟨s.same.free hp, wi_same⟩ rfl .nil
theorem Sta.newDT {p : Addr} (s : Sta H0 H w sid tid σ ρ ts) (hp : H p = none) : SS H0 (upd H p (.dT [])) σ ρ ((.ref p, .dT .own [] []) :: ts) :=
  s.new hp fun k => .dT upd_same ⟨s.same.free hp, wi_same⟩ rfl .nil

/-! ### what a call hands back: all of it new -/
structure ResOk (H : Hp) (v : V) (H' : Hp) (d : D) : Prop where
  same : Same H H'
  noAny : d.noAny = true
  rep : ∃ w', (∀ p l, w' p = some l → H p = none ∧ H' p ≠ none) ∧ Rep H H' w' [0] v d
def reroot (k : Nat) (l : Lab) : Lab := l.dropLast ++ [k]
theorem reroot_app (m : Lab) (j k : Nat) : reroot k (m ++ [j]) = m ++ [k] := by simp [reroot]
theorem rootOf_re (k : Nat) (l : Lab) : rootOf (reroot k l) = some k := by simp [reroot, rootOf]
theorem SS.res (s : SS H0 H σ ρ ts) (r : ResOk H v H' d) : SS H0 H' σ ρ ((v, d) :: ts) := by
  obtain ⟨w, sid, tid, s⟩ := s
  obtain ⟨k, hk⟩ := fresh_id (sid ++ tid)
  obtain ⟨w', hw', rp⟩ := r.rep
  have nw : ∀ p l, w' p = some l → w p = none := fun p l e => by
    cases q : w p with
    | none => rfl
    | some l' => exact absurd (hw' p l e).1 (s.dom p l' q).1
  have old : ∀ l, Keep H0 H H0 H' w (fun p => match w p with | some l => some l | none => (w' p).map (reroot k)) l l := fun l =>
    { tup := fun p o e _ => r.same p o e
      sh := fun p o e hw => ⟨r.same p o e, by
        simp only [hw]
        cases q : w' p with
        | none => rfl
        | some l' => rw [(hw' p l' q).1] at e; cases e⟩
      own := fun p o m e hw => ⟨r.same p o e, by simp only [hw]⟩
      h0 := fun _ _ _ e => e }
  refine ⟨_, sid, k :: tid, s.same.trans r.same, fun p l e => ?_, nodup_push s.nod hk, s.slen, s.len, fun i d e => ?_, ?_, s.tmp.imp fun k' _ v d r => r.tr (old _)⟩
  · cases q : w p with
    | some l' =>
      simp only [q] at e
      cases e
      obtain ⟨h1, h0, k2, h2, h3⟩ := s.dom p l q
      refine ⟨?_, h0, k2, h2, by simp only [List.mem_append, List.mem_cons] at h3 ⊢; rcases h3 with h | h <;> simp [h]⟩
      cases z : H p with
      | none => exact absurd z h1
      | some o => rw [r.same p o z]; simp
    | none =>
      simp only [q] at e
      cases q' : w' p with
      | none => rw [q'] at e; cases e
      | some l' =>
        rw [q'] at e
        cases e
        exact ⟨(hw' p l' q').2, s.same.free (hw' p l' q').1, k, rootOf_re k l', by simp⟩
  · obtain ⟨v, k2, e1, e2, r2⟩ := s.slot i d e
    exact ⟨v, k2, e1, e2, r2.tr (old _)⟩
  · refine rp.trG (pr := Tag.noAny) ⟨fun _ _ e _ => e, fun m p t u n a g => ?_⟩ r.noAny
    cases t with
    | any => cases n
    | new => exact ⟨a, s.same.free g.1, by
        have : w p = none := by
          cases q : w p with
          | none => rfl
          | some l' => exact absurd g.1 (s.dom p l' q).1
        show (match w p with | some l => some l | none => (w' p).map (reroot k)) = none
        rw [this, g.2]; rfl⟩
    | own => exact ⟨a, s.same.free g.1, by
        show (match w p with | some l => some l | none => (w' p).map (reroot k)) = some (m ++ [k])
        rw [nw p _ g.2, g.2, Option.map_some, reroot_app]⟩
/-- what a def hands back: its value on top, no place of the asker's in it -/
theorem SS.ret (s : SS H0 H σ ρ ((v, d) :: ts)) (n : d.noAny = true) : ResOk H0 v H d := by
  obtain ⟨w, sid, tid, s⟩ := s
  obtain ⟨k, ks, rfl, r, _⟩ := s.top
  refine ⟨s.same, n, fun p => match w p with | some l => if rootOf l = some k then some (reroot 0 l) else none | none => none, fun p l e => ?_, r.trG (pr := Tag.noAny) ⟨fun _ _ e _ => e, fun m p t u n a g => ?_⟩ n⟩
  · cases q : w p with
    | none => simp [q] at e
    | some l' => exact ⟨(s.dom p l' q).2.1, (s.dom p l' q).1⟩
  · cases t with
    | any => cases n
    | new => exact ⟨a, g.1, by simp only [g.2]⟩
    | own => exact ⟨a, g.1, by simp only [g.2, rootOf_app, reroot_app, if_true]⟩

/-! ### an own object is changed -/
theorem keep_mut {p : Addr} {o o' : HO} {l0 l : Lab} (ho : H p = some o) (nt : ¬ IsTupO o) (hw : w p = some l0) (hl : ∀ m, m ++ l ≠ l0) : Keep H0 H H0 (upd H p o') w w l l where
  tup := fun q u e ht => by
    have : q ≠ p := fun z => by subst z; rw [ho] at e; cases e; exact nt ht
    rw [upd_ne this]; exact e
  sh := fun q u e h => by
    have : q ≠ p := fun z => by subst z; rw [hw] at h; cases h
    rw [upd_ne this]; exact ⟨e, h⟩
  own := fun q u m e h => by
    have : q ≠ p := fun z => by subst z; rw [hw] at h; cases h; exact hl m rfl
    rw [upd_ne this]; exact ⟨e, h⟩
  h0 := fun _ _ _ e => e
/-- the object at p, a place of the slot i's own value (its label m ++ [k]), is changed: the slot's new value is told behind -/
theorem Sta.mut {i k : Nat} {m : Lab} {p : Addr} {o o' : HO} {d' : D} (s : Sta H0 H w sid tid σ ρ ts) (hk : sid[i]? = some k) (hv : σ[i]? = some (some v)) (ho : H p = some o) (nt : ¬ IsTupO o) (hw : w p = some (m ++ [k]))
    (h : Rep H0 (upd H p o') w [k] v d') : Sta H0 (upd H p o') w sid tid σ (ρ.set i (some d')) ts := by
  have oth : ∀ k', k' ≠ k → Keep H0 H H0 (upd H p o') w w [k'] [k'] := fun k' hn => keep_mut ho nt hw fun m' e => hn (by
    have := congrArg rootOf e
    rw [rootOf_app, rootOf_app] at this
    exact Option.some.inj this)
  refine ⟨fun b u e => ?_, fun q l e => ?_, s.nod, by rw [List.length_set]; exact s.slen, by rw [List.length_set]; exact s.len, fun j d2 e => ?_, s.tmp.imp fun k' hk' v d r => r.tr (oth k' (s.tidne hk hk'))⟩
  · have : b ≠ p := fun z => by subst z; rw [(s.dom b _ hw).2.1] at e; cases e
    rw [upd_ne this]; exact s.same b u e
  · obtain ⟨h1, h2⟩ := s.dom q l e
    refine ⟨?_, h2⟩
    by_cases hq : q = p
    · subst hq; rw [upd_same]; simp
    · rw [upd_ne hq]; exact h1
  · rcases set_get e with ⟨rfl, e3⟩ | ⟨hij, e⟩
    · cases e3
      exact ⟨v, k, hv, hk, h⟩
    · obtain ⟨v', k', q1, q2, r'⟩ := s.slot j d2 e
      exact ⟨v', k', q1, q2, r'.tr (oth k' (s.sidne hk q2 hij))⟩
theorem keep_sub {k : Nat} {p : Addr} {o o' : HO} (ho : H p = some o) (nt : ¬ IsTupO o) (hw : w p = some [k]) (j : Nat) : Keep H0 H H0 (upd H p o') w w (j :: [k]) (j :: [k]) :=
  keep_mut ho nt hw fun m e => by
    have := congrArg List.length e
    simp at this
theorem notTup_lst {xs : List V} : ¬ IsTupO (.lst xs) := by
  rintro (⟨_, h⟩ | ⟨_, _, h⟩ | ⟨_, h⟩) <;> cases h
theorem notTup_dK {xs : List (Key × V)} : ¬ IsTupO (.dK xs) := by
  rintro (⟨_, h⟩ | ⟨_, _, h⟩ | ⟨_, h⟩) <;> cases h
theorem notTup_dT {xs : List (List Key × V)} : ¬ IsTupO (.dT xs) := by
  rintro (⟨_, h⟩ | ⟨_, _, h⟩ | ⟨_, h⟩) <;> cases h
/-- the own list in slot i -/
theorem SS.ownL {i : Nat} {ds : List D} (s : SS H0 H σ ρ ts) (e : ρ[i]? = some (some (.lst .own ds))) : ∃ p vs, σ[i]? = some (some (.ref p)) ∧ H p = some (.lst vs) ∧ vs.length = ds.length ∧
    ds.length < big ∧ ∀ vs' ds', ds'.length < big → (∀ w k, Reps H0 H w [k] 0 vs ds → (∃ sid tid, Sta H0 H w sid tid σ ρ ts) → Reps H0 H w [k] 0 vs' ds') →
      SS H0 (upd H p (.lst vs')) σ (ρ.set i (some (.lst .own ds'))) ts := by
  obtain ⟨w, sid, tid, s⟩ := s
  obtain ⟨v, k, e1, e2, r⟩ := s.slot i _ e
  cases r with
  | @lst l p t vs ds a g r b =>
    refine ⟨p, vs, e1, a, r.length, b, fun vs' ds' b' h => ?_⟩
    have h' := h w k r ⟨_, _, s⟩
    exact ⟨_, _, _, s.mut (m := []) e2 e1 a notTup_lst g.2 (.lst upd_same ⟨g.1, g.2⟩ (h'.tr2 (keep_sub a notTup_lst g.2)) b')⟩
end
end Sd

namespace Sd
open PySem PySem.Spec PyProof.Rows L2
variable [KLs]

/-! ### what code comes to -/
inductive CR where
  | ok (d : D) | err (c : Nat) | stuck
inductive R (α : Type) where
  | ok (a : α) (ρ : DEnv) | err (c : Nat) (ρ : DEnv) | stuck
def R.bind {α β : Type} (r : R α) (f : α → DEnv → R β) : R β := match r with
  | .ok a ρ => f a ρ
  | .err c ρ => .err c ρ
  | .stuck => .stuck
@[simp] theorem R.bind_ok {α β : Type} (a : α) (ρ : DEnv) (f : α → DEnv → R β) : (R.ok a ρ).bind f = f a ρ := rfl
@[simp] theorem R.bind_err {α β : Type} (c : Nat) (ρ : DEnv) (f : α → DEnv → R β) : (R.err c ρ : R α).bind f = .err c ρ := rfl
@[simp] theorem R.bind_stuck {α β : Type} (f : α → DEnv → R β) : (R.stuck : R α).bind f = .stuck := rfl

/-- what stands below the top gives its own places up -/
def D.demIn : D → D
  | .lst t xs => .lst t (tgs Tag.dem xs)
  | .tup xs => .tup (tgs Tag.dem xs)
  | .dK t ks vs => .dK t ks (tgs Tag.dem vs)
  | .dT t ks vs => .dT t ks (tgs Tag.dem vs)
  | d => d
def D.inOk : D → Bool
  | .lst t xs => alls Tag.noOwn xs
  | .tup xs => alls Tag.noOwn xs
  | .dK t ks vs => alls Tag.noOwn vs
  | .dT t ks vs => alls Tag.noOwn vs
  | d => true
theorem tgs_dem_noOwn (ds : List D) : alls Tag.noOwn (tgs Tag.dem ds) = true := alls_tgs (by intro t; cases t <;> rfl) ds
theorem D.demIn_ok (d : D) : d.demIn.inOk = true := by
  cases d <;> first | rfl | exact tgs_dem_noOwn _
theorem D.inOk_of {d : D} (h : d.noOwn = true) : d.inOk = true := by
  cases d <;> first | rfl | (simp only [D.noOwn, D.all, Bool.and_eq_true] at h; exact h.2) | (simp only [D.noOwn, D.all] at h; exact h)

section
variable {H0 H H' : Hp} {w w' : Own} {sid tid : List Nat} {σ : L2.St} {ρ : DEnv} {ts : List (V × D)} {v : V} {d : D}
/-- the labels of the root k, but the root itself, are given up -/
def wsub (k : Nat) (w : Own) : Own := fun p => match w p with | some l => if rootOf l = some k ∧ l ≠ [k] then none else some l | none => none
theorem wsub_none {k : Nat} {p : Addr} (h : w p = none) : wsub k w p = none := by simp [wsub, h]
theorem wsub_root {k : Nat} {p : Addr} (h : w p = some [k]) : wsub k w p = some [k] := by simp [wsub, h]
theorem wsub_sub {k i : Nat} {p : Addr} {m : Lab} (h : w p = some (m ++ [i, k])) : wsub k w p = none := by
  have e : m ++ [i, k] = (m ++ [i]) ++ [k] := by simp
  have hne : m ++ [i, k] ≠ [k] := by
    intro q
    have := congrArg List.length q
    simp at this
  simp only [wsub, h]
  rw [if_pos]
  exact ⟨by rw [e, rootOf_app], hne⟩
theorem wsub_other {k j : Nat} {p : Addr} {m : Lab} (hn : j ≠ k) (h : w p = some (m ++ [j])) : wsub k w p = some (m ++ [j]) := by
  simp only [wsub, h, rootOf_app]
  rw [if_neg]
  rintro ⟨q, _⟩; cases q; exact hn rfl
theorem wsub_some {k : Nat} {p : Addr} {l : Lab} (h : wsub k w p = some l) : w p = some l := by
  unfold wsub at h
  cases hw : w p with
  | none => simp [hw] at h
  | some l' =>
    simp only [hw] at h
    split at h
    · cases h
    · cases h; rfl
theorem keep_wsub {k j : Nat} (hn : j ≠ k) : Keep H0 H H0 H w (wsub k w) [j] [j] where
  tup := fun _ _ e _ => e
  sh := fun p o e hw => ⟨e, wsub_none hw⟩
  own := fun p o m e hw => ⟨e, wsub_other hn hw⟩
  h0 := fun _ _ _ e => e
theorem keepT_wsub {k i : Nat} : KeepT Tag.dem H0 H H0 H w (wsub k w) [i, k] where
  any := rfl
  tup := fun _ _ e _ => e
  at_ := fun m p t u a g => by
    cases t with
    | own => exact ⟨a, fun l' => ⟨g.1, wsub_sub g.2⟩⟩
    | new => exact ⟨a, fun l' => ⟨g.1, wsub_none g.2⟩⟩
    | any => exact ⟨a, fun l' => wsub_none g⟩
theorem reps_wsub {k : Nat} : ∀ {i : Nat} {vs : List V} {ds : List D}, Reps H0 H w [k] i vs ds → Reps H0 H (wsub k w) [k] i vs (tgs Tag.dem ds)
  | _, _, _, .nil => .nil
  | _, _, _, .cons h t => .cons (h.trT keepT_wsub) (reps_wsub t)
theorem at_wsub {k : Nat} {p : Addr} {t : Tag} (g : TagOk H0 w [k] p t) : TagOk H0 (wsub k w) [k] p t := by
  cases t with
  | own => exact ⟨g.1, wsub_root g.2⟩
  | new => exact ⟨g.1, wsub_none g.2⟩
  | any => exact wsub_none g
theorem Rep.demIn {k : Nat} (r : Rep H0 H w [k] v d) : Rep H0 H (wsub k w) [k] v d.demIn := by
  cases r with
  | non => exact .non
  | bl => exact .bl
  | int => exact .int
  | str b => exact .str b
  | lst a g r b => exact .lst a (at_wsub g) (reps_wsub r) (by rw [tgs_length]; exact b)
  | lstK a r b => exact .lstK a (reps_wsub r) (by rw [tgs_length]; exact b)
  | tup a r => exact .tup a (reps_wsub r)
  | exc a => exact .exc a
  | dK a g e r => exact .dK a (at_wsub g) e (reps_wsub r)
  | dT a g e r => exact .dT a (at_wsub g) e (reps_wsub r)
/-- a slot's value is looked at: its top stays its own -/
theorem Sta.look (i : Nat) (s : Sta H0 H w sid tid σ ρ ts) (e : ρ[i]? = some (some d)) : ∃ w', Sta H0 H w' sid tid σ (ρ.set i (some d.demIn)) ts ∧ (∃ v k, σ[i]? = some (some v) ∧ Rep H0 H w' [k] v d.demIn) ∧ KeepS H0 H H0 H w w' ∧ ∃ k, w' = wsub k w := by
  obtain ⟨v, k, e1, e2, r⟩ := s.slot i d e
  refine ⟨wsub k w, ⟨s.same, fun p l h => s.dom p l (wsub_some h), s.nod, by rw [List.length_set]; exact s.slen, by rw [List.length_set]; exact s.len, fun j d' e' => ?_, s.tmp.imp fun k' hk' v d r => r.tr (keep_wsub (s.tidne e2 hk'))⟩, ⟨v, k, e1, r.demIn⟩, ⟨fun _ _ e _ => e, fun p o e hw => ⟨e, wsub_none hw⟩, fun _ _ _ e => e⟩, k, rfl⟩
  rcases set_get e' with ⟨rfl, e3⟩ | ⟨hij, e'⟩
  · cases e3
    exact ⟨v, k, e1, e2, r.demIn⟩
  · obtain ⟨v', k', q1, q2, r'⟩ := s.slot j d' e'
    exact ⟨v', k', q1, q2, r'.tr (keep_wsub (s.sidne e2 q2 hij))⟩
end

/-- operands: each stands at a root, nothing of its own below its top -/
inductive Oprs (H0 H : Hp) (w : Own) : List V → List D → Prop where
  | nil : Oprs H0 H w [] []
  | cons {v : V} {vs : List V} {d : D} {ds : List D} {k : Nat} (r : Rep H0 H w [k] v d) (n : d.inOk = true) (t : Oprs H0 H w vs ds) : Oprs H0 H w (v :: vs) (d :: ds)
section
variable {H0 H H' : Hp} {w w' : Own} {sid tid : List Nat} {σ : L2.St} {ρ : DEnv} {ts : List (V × D)} {v : V} {d : D}
theorem inOk_wsub {k j : Nat} (r : Rep H0 H w [j] v d) (n : d.inOk = true) : Rep H0 H (wsub k w) [j] v d := by
  have ks : KeepS H0 H H0 H w (wsub k w) := ⟨fun _ _ e _ => e, fun p o e hw => ⟨e, wsub_none hw⟩, fun _ _ _ e => e⟩
  have tg : ∀ {p : Addr} {t : Tag}, TagOk H0 w [j] p t → TagOk H0 (wsub k w) [j] p t := fun {p t} g => by
    cases t with
    | own =>
      refine ⟨g.1, ?_⟩
      by_cases e : j = k
      · subst e; exact wsub_root g.2
      · exact wsub_other (m := []) e g.2
    | new => exact ⟨g.1, wsub_none g.2⟩
    | any => exact wsub_none g
  cases r with
  | non => exact .non
  | bl => exact .bl
  | int => exact .int
  | str b => exact .str b
  | lst a g r b => exact .lst a (tg g) (r.trS ks n) b
  | lstK a r b => exact .lstK a (r.trS ks n) b
  | tup a r => exact .tup a (r.trS ks n)
  | exc a => exact .exc a
  | dK a g e r => exact .dK a (tg g) e (r.trS ks n)
  | dT a g e r => exact .dT a (tg g) e (r.trS ks n)
theorem Oprs.wsub {k : Nat} : ∀ {vs : List V} {ds : List D}, Oprs H0 H w vs ds → Oprs H0 H (wsub k w) vs ds
  | _, _, .nil => .nil
  | _, _, .cons r n t => .cons (inOk_wsub r n) n t.wsub
theorem Oprs.any : ∀ {vs : List V} {ds : List D}, Oprs H0 H w vs ds → ∀ j, Reps H H (fun _ => none) [] j vs (tgs (fun _ => .any) ds)
  | _, _, .nil, _ => .nil
  | _, _, .cons r n t, j => .cons r.any (t.any (j + 1))
theorem Oprs.its : ∀ {vs : List V} {ds : List D}, Oprs H0 H w vs ds → alls Tag.noOwn ds = true → ∀ l j, Reps H0 H w l j vs ds
  | _, _, .nil, _, _, _ => .nil
  | _, _, .cons r _ t, n, l, j => by
    simp only [alls, Bool.and_eq_true] at n
    exact .cons (r.trS KeepS.refl n.1) (t.its n.2 l (j + 1))
theorem Oprs.length : ∀ {vs : List V} {ds : List D}, Oprs H0 H w vs ds → vs.length = ds.length
  | _, _, .nil => rfl
  | _, _, .cons _ _ t => by simp [t.length]
end

/-! ### data -/
mutual
def D.py : D → PyData
  | .non => .none
  | .bl b => .bool b
  | .int i => .int i
  | .str s => .str ⟨s.toArray⟩
  | .lst _ xs => .list (pys xs)
  | .tup xs => .tuple (pys xs)
  | .dK _ _ _ => .dict []
  | .dT _ _ _ => .dict []
  | .exc _ => .dict []
def pys : List D → List PyData
  | [] => []
  | d :: ds => d.py :: pys ds
end
mutual
/-- data of at most that depth -/
def D.dat : Nat → D → Bool
  | _, .non => true
  | _, .bl _ => true
  | _, .int _ => true
  | _, .str _ => true
  | 0, .lst _ _ => false
  | n + 1, .lst _ xs => dats n xs
  | 0, .tup _ => false
  | n + 1, .tup xs => dats n xs
  | _, .dK _ _ _ => false
  | _, .dT _ _ _ => false
  | _, .exc _ => false
def dats : Nat → List D → Bool
  | _, [] => true
  | n, d :: ds => d.dat n && dats n ds
end
theorem pys_map : ∀ ds : List D, pys ds = ds.map D.py
  | [] => rfl
  | d :: ds => by simp [pys, pys_map ds]
theorem dats_all (n : Nat) : ∀ ds : List D, dats n ds = ds.all (D.dat n)
  | [] => by simp [dats]
  | d :: ds => by simp [dats, dats_all n ds]
mutual
theorem D.dat_ok : ∀ (n : Nat) (d : D), d.dat n = true → d.py.plain = true ∧ d.py.depth ≤ n
  | _, .non, _ => ⟨rfl, Nat.zero_le _⟩
  | _, .bl _, _ => ⟨rfl, Nat.zero_le _⟩
  | _, .int _, _ => ⟨rfl, Nat.zero_le _⟩
  | _, .str _, _ => ⟨rfl, Nat.zero_le _⟩
  | 0, .lst _ _, h => by simp [D.dat] at h
  | n + 1, .lst _ xs, h => by
    simp only [D.dat] at h
    obtain ⟨h1, h2⟩ := dats_ok n xs h
    exact ⟨by simpa [D.py, PyData.plain] using h1, by simpa [D.py, PyData.depth] using h2⟩
  | 0, .tup _, h => by simp [D.dat] at h
  | n + 1, .tup xs, h => by
    simp only [D.dat] at h
    obtain ⟨h1, h2⟩ := dats_ok n xs h
    exact ⟨by simpa [D.py, PyData.plain] using h1, by simpa [D.py, PyData.depth] using h2⟩
  | _, .dK _ _ _, h => by simp [D.dat] at h
  | _, .dT _ _ _, h => by simp [D.dat] at h
  | _, .exc _, h => by simp [D.dat] at h
theorem dats_ok : ∀ (n : Nat) (ds : List D), dats n ds = true → PyData.plainAll (pys ds) = true ∧ PyData.depthAll (pys ds) ≤ n
  | _, [], _ => ⟨rfl, Nat.zero_le _⟩
  | n, d :: ds, h => by
    simp only [dats, Bool.and_eq_true] at h
    obtain ⟨h1, h2⟩ := D.dat_ok n d h.1
    obtain ⟨h3, h4⟩ := dats_ok n ds h.2
    exact ⟨by simp [pys, PyData.plainAll, h1, h3], by simp only [pys, PyData.depthAll]; omega⟩
end
/-- both are data -/
def dat2 (d e : D) : Bool := d.dat 20 && e.dat 20
abbrev D.eqv (d e : D) : Bool := PyData.eqv d.py e.py
abbrev D.lt (d e : D) : Bool := PySem.W.dataLt d.py e.py
abbrev D.alike (d e : D) : Bool := PySem.W.alike d.py e.py
def D.isNon : D → Bool
  | .non => true
  | _ => false
def D.isTup1 : D → Bool
  | .tup (_ :: _) => true
  | _ => false
def D.isTup : D → Bool
  | .tup _ => true
  | _ => false
/-- what sorted asks of a list's items -/
def sortable (xs : List D) : Bool := dats 20 xs && xs.all (fun x => xs.all fun y => x.alike y) && (xs.all D.isTup1 || xs.all fun x => !x.isTup && !x.isNon)
def sortD (xs : List D) : List D := xs.mergeSort (PySem.W.dataLe false D.py)
def strs? : List D → Option (List (List Nat))
  | [] => some []
  | .str s :: ds => (strs? ds).map (s :: ·)
  | _ => none
def ints? : List D → Option (List Int)
  | [] => some []
  | .int i :: ds => (ints? ds).map (i :: ·)
  | _ => none
def bools? : List D → Option (List Bool)
  | [] => some []
  | .bl b :: ds => (bools? ds).map (b :: ·)
  | _ => none

/-! ### expressions -/
inductive Op where
  | add | sub | mul | fdiv | mod | neg | lt | le | gt | ge | eq | ne | isin | notin | isN | notN | idx | len
  | abs | max2 | min2 | all | any | sorted | list | int | str | split | join | sum | max1 | min1 | divmod
  | slc (l h : Bool) | dget | isinD | notinD | get2 | count | index | repl | pow | tuple
  deriving DecidableEq
def lim : Int := 18446744073709551616
/-- what is walked -/
inductive Wk where
  | lst | tup | str | rng1 | rng2
  deriving DecidableEq
/-- a target: a name, or names in a tuple -/
inductive Tg where
  | nm (i : Nat) | tp (is : List Nat)
  deriving DecidableEq
/-- what a method's receiver must be -/
inductive Kd where
  | str | lst | dic
  deriving DecidableEq
def Kd.ok : Kd → D → Bool
  | .str, .str _ => true
  | .lst, .lst _ _ => true
  | .dic, .dK _ _ _ => true
  | .dic, .dT _ _ _ => true
  | _, _ => false
/-- what isinstance asks -/
inductive Ty where
  | str | list | tuple | int | bool | dict | verr | exc (c : Nat)
  deriving DecidableEq
def Ty.is (isa : Nat → Nat → Bool) : Ty → D → Option Bool
  | .exc c, .exc k => some (isa k c)
  | .verr, .exc _ => some true
  | .exc _, _ => none
  | .verr, _ => none
  | _, .exc _ => none
  | .str, .str _ => some true
  | .list, .lst _ _ => some true
  | .tuple, .tup _ => some true
  | .int, .int _ => some true
  | .int, .bl _ => some true
  | .bool, .bl _ => some true
  | .dict, .dK _ _ _ => some true
  | _, .dT .any _ _ => none
  | .dict, .dT _ _ _ => some true
  | _, _ => some false
inductive E where
  | var (i : Nat) | int (n : Int) | bl (b : Bool) | non | str (s : List Nat) | glob (g : Nat)
  | op (o : Op) (as : E) | call (j : Nat) (as : E)
  | and (a b : E) | or (a b : E) | not (a : E) | ife (c a b : E)
  | tup (as : E) | lst (as : E) | newK | newT
  | me (k : Kd) (o : Op) (r : E) (as : E) | chn (p q : Bool) (ab : E) (c : E) | isi (t : Ty) (as : E) | sl2 (a lo hi : E)
  | lc (k : Wk) (src : E) (tg : Tg) (c : E) (e : E)
  | nil | cons (a as : E)
  deriving DecidableEq
def E.isNil : E → Bool
  | .nil => true
  | _ => false
structure Sem where
  call : Nat → List D → CR
  glob : Nat → D
  isa : Nat → Nat → Bool
def D.tru : D → Option Bool
  | .non => some false
  | .bl b => some b
  | .int i => some (i != 0)
  | .str s => some (!s.isEmpty)
  | .lst _ xs => some (!xs.isEmpty)
  | .tup xs => some (!xs.isEmpty)
  | _ => none
def opAdd : D → D → Option D
  | .int i, .int j => some (.int (i + j))
  | .str x, .str y => if x.length + y.length < big then some (.str (x ++ y)) else none
  | .lst t xs, .lst u ys => if xs.length + ys.length < big then some (.lst .own (xs ++ ys)) else none
  | _, _ => none
def opSub : D → D → Option D
  | .int i, .int j => some (.int (i - j))
  | _, _ => none
def opMul : D → D → Option D
  | .int i, .int j => if (-lim < i ∧ i < lim) ∨ (-lim < j ∧ j < lim) then some (.int (i * j)) else none
  | .str x, .int n => if -1000000 < n ∧ n < 1000000 ∧ x.length * n.toNat < big then some (.str (List.replicate n.toNat x).flatten) else none
  | .lst t xs, .int n => if t ≠ .any ∧ -1000000 < n ∧ n < 1000000 ∧ xs.length * n.toNat < big then some (.lst .own (List.replicate n.toNat xs).flatten) else none
  | _, _ => none
def opFdiv : D → D → Option D
  | .int i, .int j => if 0 < j ∧ j < 1073741824 then some (.int (i / j)) else none
  | _, _ => none
def opMod : D → D → Option D
  | .int i, .int j => if 0 < j then some (.int (i % j)) else none
  | _, _ => none
def opNeg : D → Option D
  | .int i => some (.int (-i))
  | _ => none
def opLt (d e : D) : Option D := if dat2 d e && d.alike e && !d.isNon then some (.bl (d.lt e)) else none
def opLe (d e : D) : Option D := if dat2 d e && d.alike e && !d.isNon then some (.bl (!e.lt d)) else none
def opGt (d e : D) : Option D := if dat2 d e && d.alike e && !d.isNon then some (.bl (e.lt d)) else none
def opGe (d e : D) : Option D := if dat2 d e && d.alike e && !d.isNon then some (.bl (!d.lt e)) else none
def opEq (d e : D) : Option D := if dat2 d e then some (.bl (d.eqv e)) else none
def opNe (d e : D) : Option D := if dat2 d e then some (.bl (!d.eqv e)) else none
def opIsin : D → D → Option D
  | .str [c], .str y => some (.bl (decide (c ∈ y)))
  | d, .lst _ ys => if d.dat 20 && dats 20 ys then some (.bl (ys.any fun y => y.eqv d)) else none
  | d, .tup ys => if d.dat 20 && dats 20 ys then some (.bl (ys.any fun y => y.eqv d)) else none
  | _, _ => none
def opNotin : D → D → Option D
  | .str [c], .str y => some (.bl (!decide (c ∈ y)))
  | d, .lst _ ys => if d.dat 20 && dats 20 ys then some (.bl (!ys.any fun y => y.eqv d)) else none
  | d, .tup ys => if d.dat 20 && dats 20 ys then some (.bl (!ys.any fun y => y.eqv d)) else none
  | _, _ => none
def opIsN (d : D) : Option D := some (.bl d.isNon)
def opNotN (d : D) : Option D := some (.bl (!d.isNon))
def opIdx : D → D → Option D
  | .lst _ xs, .int i => atI xs i
  | .tup xs, .int i => atI xs i
  | .str s, .int i => (atI s i).map fun c => .str [c]
  | _, _ => none
def opLen : D → Option D
  | .lst _ xs => some (.int xs.length)
  | .tup xs => some (.int xs.length)
  | .str s => some (.int s.length)
  | _ => none
def opAbs : D → Option D
  | .int i => some (.int (if i < 0 then -i else i))
  | _ => none
def opMax2 : D → D → Option D
  | .int i, .int j => some (.int (if j > i then j else i))
  | _, _ => none
def opMin2 : D → D → Option D
  | .int i, .int j => some (.int (if j < i then j else i))
  | _, _ => none
def opAll : D → Option D
  | .lst _ xs => (bools? xs).map fun bs => .bl (bs.all id)
  | _ => none
def opAny : D → Option D
  | .lst _ xs => (bools? xs).map fun bs => .bl (bs.any id)
  | _ => none
def opSorted : D → Option D
  | .lst _ xs => if sortable xs then some (.lst .own (sortD xs)) else none
  | _ => none
def opList : D → Option D
  | .lst _ xs => some (.lst .own xs)
  | _ => none
def opInt : D → Option D
  | .int i => some (.int i)
  | .bl b => some (.int (if b then 1 else 0))
  | .str s => if s.length ≤ 640 then (PySem.intText? ⟨s.toArray⟩).map .int else none
  | _ => none
def opStr : D → Option D
  | .int i => if 0 ≤ i ∧ i < 1000000000000 then some (.str (TL.numL i.toNat)) else none
  | _ => none
def opSplit : D → D → Option D
  | .str s, .str [c] => if c < 128 ∧ s.length + 1 < big then some (.lst .own ((TL.spl [c] 0 [] s).map .str)) else none
  | _, _ => none
def opJoin : D → D → Option D
  | .str s, .lst _ xs => (strs? xs).bind fun ys => if (ys.map (·.length)).sum + ys.length * s.length < big then some (.str (TL.joinL s ys)) else none
  | _, _ => none
def opSum : D → Option D
  | .lst _ xs => (ints? xs).map fun ns => .int ns.sum
  | _ => none
def opMax1 : D → Option D
  | .lst _ xs => (ints? xs).bind fun ns => ns.max?.map .int
  | _ => none
def opMin1 : D → Option D
  | .lst _ xs => (ints? xs).bind fun ns => ns.min?.map .int
  | _ => none
def opDivmod : D → D → Option D
  | .int i, .int j => if 0 < j ∧ j < 1073741824 then some (.tup [.int (i / j), .int (i % j)]) else none
  | _, _ => none
/-- keys of dicts -/
def D.key : D → Option Key
  | .int i => some (.inl i)
  | .str s => some (.inr ⟨s.toArray⟩)
  | _ => none
def keys? : List D → Option (List Key)
  | [] => some []
  | d :: ds => d.key.bind fun k => (keys? ds).map (k :: ·)
def D.tkey : D → Option (List Key)
  | .tup ds => keys? ds
  | _ => none
def dlook {κ : Type} [DecidableEq κ] : List κ → List D → κ → Option D
  | k :: ks, v :: vs, q => if k = q then some v else dlook ks vs q
  | _, _, _ => none
def dputV {κ : Type} [DecidableEq κ] : List κ → List D → κ → D → List D
  | k :: ks, v :: vs, q, x => (if k = q then x else v) :: dputV ks vs q x
  | _, _, _, _ => []
/-- a dict's value at a key -/
def dval (d k : D) : Option (Option D) := match d with
  | .dK _ ks vs => k.key.map fun q => dlook ks vs q
  | .dT _ ks vs => k.tkey.map fun q => dlook ks vs q
  | _ => none
def opDget (d k : D) : Option D := (dval d k).join
def opIsinD (k d : D) : Option D := (dval d k).map fun o => .bl o.isSome
def opNotinD (k d : D) : Option D := (dval d k).map fun o => .bl !o.isSome
def opGet2 (ds : List D) : Option D := match ds with
  | [d, k, z] => (dval d k).map fun o => o.getD z
  | _ => none
def sliceN {α : Type} (xs : List α) (lo hi : Option Int) : List α := (xs.drop (HT.sIx xs.length 0 lo)).take (HT.sIx xs.length xs.length hi - HT.sIx xs.length 0 lo)
def sliceD (d : D) (lo hi : Option Int) : Option D := match d with
  | .lst _ xs => some (.lst .own (sliceN xs lo hi))
  | .str s => some (.str (sliceN s lo hi))
  | _ => none
def opSlc (l h : Bool) (ds : List D) : Option D := match l, h, ds with
  | false, false, [d] => sliceD d none none
  | true, false, [d, .int i] => sliceD d (some i) none
  | false, true, [d, .int j] => sliceD d none (some j)
  | _, _, _ => none
def opCount : D → D → Option D
  | .lst _ xs, d => if d.dat 20 && dats 20 xs then some (.int (xs.countP fun y => y.eqv d)) else none
  | _, _ => none
def opIndex : D → D → Option D
  | .lst _ xs, d => if d.dat 20 && dats 20 xs then (xs.findIdx? fun y => y.eqv d).map fun j => .int (j : Int) else none
  | _, _ => none
def opPow : D → D → Option D
  | .int i, .int j => if 0 ≤ j ∧ j ≤ 1000 ∧ -lim < i ∧ i < lim then some (.int (i ^ j.toNat)) else none
  | _, _ => none
def opTuple : D → Option D
  | .lst t xs => if t ≠ .any then some (.tup xs) else none
  | .tup xs => some (.tup xs)
  | _ => none
def b1 (f : D → Option D) : List D → Option D
  | [d] => f d
  | _ => none
def b2 (f : D → D → Option D) : List D → Option D
  | [d, e] => f d e
  | _ => none
theorem b1_some {f : D → Option D} {ds : List D} {d : D} (h : b1 f ds = some d) : ∃ x, ds = [x] ∧ f x = some d := by
  match ds, h with
  | [x], h => exact ⟨x, rfl, h⟩
theorem b2_some {f : D → D → Option D} {ds : List D} {d : D} (h : b2 f ds = some d) : ∃ x y, ds = [x, y] ∧ f x y = some d := by
  match ds, h with
  | [x, y], h => exact ⟨x, y, rfl, h⟩
def replS (x y z : Str) : Str := if ((Builtin.Str.occurrences x y 0 x.length 1).isEmpty || (y.length == 0 && z.length == 0)) = true then x else Builtin.Str.glued z (Builtin.Str.partsBetween x (Builtin.Str.occurrences x y 0 x.length 1) y.length)
/-- the first y in x put out by z -/
def replL (x y z : List Nat) : List Nat := (replS ⟨x.toArray⟩ ⟨y.toArray⟩ ⟨z.toArray⟩).cps.toList
def opRepl : List D → Option D
  | [.str x, .str y, .str z, .int n] => if n = 1 ∧ x.length + (x.length + 1) * z.length < big ∧ y ≠ z then some (.str (replL x y z)) else none
  | _ => none
def evOp (o : Op) (ds : List D) : Option D := match o with
  | .add => b2 opAdd ds
  | .sub => b2 opSub ds
  | .mul => b2 opMul ds
  | .fdiv => b2 opFdiv ds
  | .mod => b2 opMod ds
  | .neg => b1 opNeg ds
  | .lt => b2 opLt ds
  | .le => b2 opLe ds
  | .gt => b2 opGt ds
  | .ge => b2 opGe ds
  | .eq => b2 opEq ds
  | .ne => b2 opNe ds
  | .isin => b2 opIsin ds
  | .notin => b2 opNotin ds
  | .isN => b1 opIsN ds
  | .notN => b1 opNotN ds
  | .idx => b2 opIdx ds
  | .len => b1 opLen ds
  | .abs => b1 opAbs ds
  | .max2 => b2 opMax2 ds
  | .min2 => b2 opMin2 ds
  | .all => b1 opAll ds
  | .any => b1 opAny ds
  | .sorted => b1 opSorted ds
  | .list => b1 opList ds
  | .int => b1 opInt ds
  | .str => b1 opStr ds
  | .split => b2 opSplit ds
  | .join => b2 opJoin ds
  | .sum => b1 opSum ds
  | .max1 => b1 opMax1 ds
  | .min1 => b1 opMin1 ds
  | .divmod => b2 opDivmod ds
  | .slc l h => opSlc l h ds
  | .dget => b2 opDget ds
  | .isinD => b2 opIsinD ds
  | .notinD => b2 opNotinD ds
  | .get2 => opGet2 ds
  | .count => b2 opCount ds
  | .index => b2 opIndex ds
  | .repl => opRepl ds
  | .pow => b2 opPow ds
  | .tuple => b1 opTuple ds
def evWk (k : Wk) (ds : List D) : Option (List D) := match k, ds with
  | .lst, [.lst _ xs] => some xs
  | .tup, [.tup xs] => if xs.length < big then some xs else none
  | .str, [.str s] => some (s.map fun c => .str [c])
  | .rng1, [.int n] => if -(big : Int) < n ∧ n < (big : Int) then some ((List.range n.toNat).map fun (i : Nat) => D.int (i : Int)) else none
  | .rng2, [.int m, .int n] => if -(big : Int) < m ∧ m < (big : Int) ∧ -(big : Int) < n ∧ n < (big : Int) ∧ n - m < (big : Int) then some ((List.range (n - m).toNat).map fun (i : Nat) => D.int (m + (i : Int))) else none
  | _, _ => none
def Tg.slots : Tg → List Nat
  | .nm i => [i]
  | .tp is => is
def setAll : List Nat → List D → DEnv → Option DEnv
  | [], [], ρ => some ρ
  | i :: is, d :: ds, ρ => setAll is ds (ρ.set i (some d))
  | _, _, _ => none
def Tg.set (tg : Tg) (d : D) (ρ : DEnv) : Option DEnv := match tg with
  | .nm i => some (ρ.set i (some d))
  | .tp is => match d with
    | .tup ds => setAll is ds ρ
    | _ => none
def wipeE (ρ : DEnv) : List Nat → DEnv
  | [] => ρ
  | i :: is => (wipeE ρ is).set i none
/-- what may not raise -/
def R.calm {α : Type} : R α → R α
  | .ok a ρ => .ok a ρ
  | _ => .stuck
/-- a comprehension's turns -/
def evTurns (tg : Tg) (body : DEnv → R (Option D)) : List D → DEnv → List D → R (List D)
  | [], ρ, acc => .ok acc ρ
  | x :: xs, ρ, acc => match tg.set x ρ with
    | none => .stuck
    | some ρ1 => (body ρ1).bind fun o ρ2 => evTurns tg body xs (wipeE ρ2 tg.slots) (match o with | some d => acc ++ [d] | none => acc)
def evQ (nil : Bool) (c : DEnv → R D) (ρ : DEnv) : R Bool :=
  if nil then R.ok true ρ else (c ρ).bind fun d ρ3 => match d.tru with
    | some b => .ok b ρ3
    | none => .stuck
def evIf (nil : Bool) (c : DEnv → R D) (e : DEnv → R D) (ρ : DEnv) : R (Option D) :=
  (evQ nil c ρ).bind fun b ρ3 => if b = true then (e ρ3).bind fun d ρ4 => .ok (some d.dem) ρ4 else .ok none ρ3
mutual
def evE (M : Sem) : E → DEnv → R D
  | .var i, ρ => match ρ[i]? with
    | some (some d) => .ok d.dem (ρ.set i (some d.dem))
    | _ => .stuck
  | .int n, ρ => .ok (.int n) ρ
  | .bl b, ρ => .ok (.bl b) ρ
  | .non, ρ => .ok .non ρ
  | .str s, ρ => .ok (.str s) ρ
  | .glob g, ρ => .ok (M.glob g) ρ
  | .op o as, ρ => (evA M as ρ).bind fun ds ρ' => match evOp o ds with
    | some d => .ok d ρ'
    | none => .stuck
  | .call j as, ρ => (evA M as ρ).bind fun ds ρ' => match M.call j (tgs (fun _ => .any) ds) with
    | .ok d => .ok d ρ'
    | .err c => .err c ρ'
    | .stuck => .stuck
  | .and a b, ρ => (evE M a ρ).bind fun d ρ' => match d with
    | .bl true => evE M b ρ'
    | .bl false => .ok (.bl false) ρ'
    | _ => .stuck
  | .or a b, ρ => (evE M a ρ).bind fun d ρ' => match d with
    | .bl true => .ok (.bl true) ρ'
    | .bl false => evE M b ρ'
    | _ => .stuck
  | .not a, ρ => (evE M a ρ).bind fun d ρ' => match d with
    | .bl b => .ok (.bl !b) ρ'
    | _ => .stuck
  | .ife c a b, ρ => (evE M c ρ).bind fun d ρ' => match d.tru with
    | some true => evE M a ρ'
    | some false => evE M b ρ'
    | none => .stuck
  | .tup as, ρ => (evV M as ρ).bind fun ds ρ' => .ok (.tup ds) ρ'
  | .lst as, ρ => (evV M as ρ).bind fun ds ρ' => .ok (.lst .own ds) ρ'
  | .newK, ρ => .ok (.dK .own [] []) ρ
  | .newT, ρ => .ok (.dT .own [] []) ρ
  | .me k o (.var i) as, ρ => match ρ[i]? with
    | some (some d0) => if k.ok d0 = true then (evA M as ρ).bind fun ds ρ' => match ρ'[i]? with
      | some (some d) => (match evOp o (d.demIn :: ds) with
        | some z => .ok z (ρ'.set i (some d.demIn))
        | none => .stuck)
      | _ => .stuck else .stuck
    | _ => .stuck
  | .me k o r as, ρ => (evE M r ρ).bind fun d ρ1 => if k.ok d = true then (evA M as ρ1).bind fun ds ρ2 => match evOp o (d.dem :: ds) with
    | some z => .ok z ρ2
    | none => .stuck else .stuck
  | .chn p q ab c, ρ => (evA M ab ρ).bind fun ds ρ' => match ds with
    | [.int x, .int y] => if (if p then decide (x ≤ y) else decide (x < y)) = true then (evE M c ρ').bind fun d ρ2 => (match d with
      | .int z => .ok (.bl (if q then decide (y ≤ z) else decide (y < z))) ρ2
      | _ => .stuck) else .ok (.bl false) ρ'
    | _ => .stuck
  | .sl2 a lo hi, ρ => (evE M a ρ).bind fun d ρ1 => (evE M lo ρ1).bind fun x ρ2 => match x with
    | .int i => (evE M hi ρ2).bind fun y ρ3 => (match y with
      | .int j => (match sliceD d.dem (some i) (some j) with
        | some z => .ok z ρ3
        | none => .stuck)
      | _ => .stuck)
    | _ => .stuck
  | .isi t as, ρ => (evA M as ρ).bind fun ds ρ' => match ds with
    | [d] => (match t.is M.isa d with
      | some b => .ok (.bl b) ρ'
      | none => .stuck)
    | _ => .stuck
  | .lc k src tg c e, ρ => (evV M src ρ).bind fun ds ρ1 => match evWk k ds with
    | none => .stuck
    | some xs => (evTurns tg (evIf c.isNil (fun ρ => evE M c ρ) (fun ρ => evE M e ρ)) xs (wipeE ρ1 tg.slots) []).calm.bind fun acc ρ5 => .ok (.lst .own acc) ρ5
  | .nil, _ => .stuck
  | .cons _ _, _ => .stuck
/-- operands: names are looked at when all others have been reckoned -/
def evA (M : Sem) : E → DEnv → R (List D)
  | .nil, ρ => .ok [] ρ
  | .cons (.var i) as, ρ => match ρ[i]? with
    | some (some _) => (evA M as ρ).bind fun ds ρ' => match ρ'[i]? with
      | some (some d) => .ok (d.demIn :: ds) (ρ'.set i (some d.demIn))
      | _ => .stuck
    | _ => .stuck
  | .cons a as, ρ => (evE M a ρ).bind fun d ρ' => (evA M as ρ').bind fun ds ρ'' => .ok (d.dem :: ds) ρ''
  | _, _ => .stuck
/-- values that are kept -/
def evV (M : Sem) : E → DEnv → R (List D)
  | .nil, ρ => .ok [] ρ
  | .cons a as, ρ => (evE M a ρ).bind fun d ρ' => (evV M as ρ').bind fun ds ρ'' => .ok (d.dem :: ds) ρ''
  | _, _ => .stuck
end
end Sd

namespace Sd
open PySem PySem.Spec PyProof.Rows L2
variable [KLs]

/-- a list of the written part -/
def KLst (K : PySem.W.Frag) (a : Addr) (xs : List V) : Prop := ∃ (o : Obj) (its : Array Value) (n : Nat), K.lookup a = some o ∧ o.cls = .type "list" ∧ o.dict = none ∧ o.data = .seq its n ∧ its.size ≤ sizeLine ∧ Vals xs its.toList
/-- what stands around a piece of code, known ahead of the run -/
structure SG where
  P : Program
  w : World
  K : PySem.W.Frag
  mg : Str → Option Value
  base : Heap
  N : List Str
  sc : Scope
  sto : Str → Bool
  lv : Nat
  W : L2.WX
  calm : Bool
  top : Bool
  M : Sem
  kl : ∀ p vs, KLs.kl p vs → KLst K p vs
structure CtxOk (G : SG) (X : Cx) : Prop where
  prog : X.prog = G.P
  w : X.w = G.w
  K : X.K = G.K
  mg : X.mg = G.mg
  base : X.base = G.base
  N : X.N = G.N
  sc : X.env.scope = G.sc
  nod : G.N.Nodup
  calm : X.calm = G.calm
  room : G.calm = true → Room G.lv X.A
  u64 : X.A.units + 64 < cLine
  top : G.top = true → X.stack = X.env :: X.outer ∧ X.env.frame = some X.env.locals ∧ X.ex = []
  takes : Takes X G.W
  own : PassesOwn (model X.prog X.w) X.A X.env X.xe
  sto : ∀ x, G.sto x = true → Loc X.env.scope x ∧ (X.fn x = true ∨ X.env.scope.names.lookup x = some .local)
abbrev SG.cv (G : SG) : Nat → Value := KLs.cv
/-- what is left to be shown of an end -/
def Thn {α : Type} (G : SG) (H0 : Hp) (σ : L2.St) (ts : List (V × D)) (r : R α) (k : α → DEnv → Prop) : Prop := match r with
  | .ok a ρ => k a ρ
  | .err c ρ => ∀ H', SS H0 H' σ ρ ts → G.W (G.cv c) none σ H'
  | .stuck => False
section
variable {G : SG} {H0 : Hp} {σ : L2.St} {ts : List (V × D)}
theorem Thn.up {α : Type} {r : R α} {k : α → DEnv → Prop} (h : Thn G H0 σ ts r k) (nt : List (V × D)) : Thn G H0 σ (nt ++ ts) r k := by
  cases r with
  | ok a ρ => exact h
  | err c ρ => exact fun H' s => h H' s.drops
  | stuck => exact h
theorem Thn.bind {α β : Type} {r : R α} {f : α → DEnv → R β} {k : β → DEnv → Prop} (h : Thn G H0 σ ts (r.bind f) k) : Thn G H0 σ ts r fun a ρ => Thn G H0 σ ts (f a ρ) k := by
  cases r with
  | ok a ρ => exact h
  | err c ρ => exact h
  | stuck => exact h
theorem Thn.imp {α : Type} {r : R α} {k k' : α → DEnv → Prop} (h : Thn G H0 σ ts r k) (f : ∀ a ρ, k a ρ → k' a ρ) : Thn G H0 σ ts r k' := by
  cases r with
  | ok a ρ => exact f _ _ h
  | err c ρ => exact h
  | stuck => exact h
end

/-! ### judgements -/
def Mean (G : SG) (t : TE) (f : DEnv → R D) : Prop := ∀ (H0 H : Hp) (σ : L2.St) (ρ : DEnv) (ts : List (V × D)) (Q : VK), SS H0 H σ ρ ts → Thn G H0 σ ts (f ρ) (fun d ρ' => ∀ v H', SS H0 H' σ ρ' ((v, d) :: ts) → Q v H') → t σ H Q
def DE (G : SG) (e : Expr) (f : DEnv → R D) : Prop := ∃ t, (∀ X, CtxOk G X → PE X e t) ∧ Mean G t f
def MeanT (G : SG) (t : TT) (f : DEnv → R D) : Prop := ∀ (H0 H : Hp) (σ : L2.St) (ρ : DEnv) (ts : List (V × D)) (Q : Bool → Hp → Prop), SS H0 H σ ρ ts → Thn G H0 σ ts (f ρ) (fun d ρ' => ∃ b, d.tru = some b ∧ ∀ H', SS H0 H' σ ρ' ts → Q b H') → t σ H Q
def DT (G : SG) (e : Expr) (f : DEnv → R D) : Prop := ∃ t, (∀ X, CtxOk G X → PT X e t) ∧ MeanT G t f
def notStar : Expr → Bool
  | .Starred _ _ => false
  | _ => true
theorem starEach_cons {e : Expr} {es : List Expr} {env : PySem.Env} (h : notStar e = true) : starEach (e :: es) env = (false, eval e env) :: starEach es env := by
  cases e <;> first | rfl | cases h
def tAll : List TE → TA
  | [] => tNil
  | t :: ts => tCons t (tAll ts)
/-- the parts of an argument list -/
inductive DAs (G : SG) : List Expr → List TE → Prop where
  | nil : DAs G [] []
  | cons {e : Expr} {es : List Expr} {t : TE} {ts : List TE} (h : ∀ X, CtxOk G X → PE X e t) (n : notStar e = true) (r : DAs G es ts) : DAs G (e :: es) (t :: ts)
theorem DAs.pa {G : SG} {X : Cx} (k : CtxOk G X) : ∀ {es : List Expr} {ts : List TE}, DAs G es ts → PA X es (tAll ts)
  | _, _, .nil => pa_nil
  | _, _, .cons h n r => pa_cons (h X k) (r.pa k) (starEach_cons n)
def MeanA (G : SG) (t : TA) (f : DEnv → R (List D)) : Prop := ∀ (H0 H : Hp) (σ : L2.St) (ρ : DEnv) (ts : List (V × D)) (Q : List V → Hp → Prop), SS H0 H σ ρ ts →
  Thn G H0 σ ts (f ρ) (fun ds ρ' => ∀ vs H' nt w sid tid, Sta H0 H' w sid tid σ ρ' (nt ++ ts) → Oprs H0 H' w vs ds → Q vs H') → t σ H Q
def DA (G : SG) (es : List Expr) (f : DEnv → R (List D)) : Prop := ∃ tes, DAs G es tes ∧ MeanA G (tAll tes) f
/-- values that are kept: none has places of its own -/
def MeanV (G : SG) (t : TA) (f : DEnv → R (List D)) : Prop := ∀ (H0 H : Hp) (σ : L2.St) (ρ : DEnv) (ts : List (V × D)) (Q : List V → Hp → Prop), SS H0 H σ ρ ts →
  Thn G H0 σ ts (f ρ) (fun ds ρ' => ∀ vs H' nt w sid tid, Sta H0 H' w sid tid σ ρ' (nt ++ ts) → Oprs H0 H' w vs ds → alls Tag.noOwn ds = true → Q vs H') → t σ H Q
def DV (G : SG) (es : List Expr) (f : DEnv → R (List D)) : Prop := ∃ tes, DAs G es tes ∧ MeanV G (tAll tes) f

section
variable {G : SG} {M : Sem}
theorem SS.topd {H0 H : Hp} {σ : L2.St} {ρ : DEnv} {ts nt : List (V × D)} {v : V} {d : D} {w : Own} {sid tid : List Nat} (s : Sta H0 H w sid tid σ ρ (nt ++ (v, d) :: ts)) : ∃ k, Rep H0 H w [k] v d := by
  have : ∀ (nt : List (V × D)) (tid : List Nat), TReps H0 H w tid (nt ++ (v, d) :: ts) → ∃ k, Rep H0 H w [k] v d := by
    intro nt
    induction nt with
    | nil =>
      intro tid h
      cases tid with
      | nil => exact h.elim
      | cons k ks => exact ⟨k, h.1⟩
    | cons x nt ih =>
      intro tid h
      obtain ⟨vx, dx⟩ := x
      cases tid with
      | nil => exact h.elim
      | cons k ks => exact ih ks h.2
  exact this nt tid s.tmp
theorem da_nil : DA G [] (evA M .nil) := by
  refine ⟨[], .nil, fun H0 H σ ρ ts Q s h => ?_⟩
  simp only [evA, Thn] at h
  obtain ⟨w, sid, tid, s⟩ := s
  exact h [] H [] w sid tid s .nil
theorem dv_nil : DV G [] (evV M .nil) := by
  refine ⟨[], .nil, fun H0 H σ ρ ts Q s h => ?_⟩
  simp only [evV, Thn] at h
  obtain ⟨w, sid, tid, s⟩ := s
  exact h [] H [] w sid tid s .nil rfl
theorem da_cons {e : Expr} {es : List Expr} {c cs : E} (hc : ∀ i, c ≠ .var i) (h : DE G e (evE M c)) (n : notStar e = true) (r : DA G es (evA M cs)) : DA G (e :: es) (evA M (.cons c cs)) := by
  obtain ⟨t, p, m⟩ := h
  obtain ⟨tes, ps, mr⟩ := r
  refine ⟨t :: tes, .cons p n ps, fun H0 H σ ρ ts Q s h => ?_⟩
  rw [show evA M (.cons c cs) ρ = (evE M c ρ).bind fun d ρ' => (evA M cs ρ').bind fun ds ρ'' => .ok (d.dem :: ds) ρ'' from by
    cases c <;> first | rfl | exact absurd rfl (hc _)] at h
  refine m H0 H σ ρ ts _ s (h.bind.imp fun d ρ' h => ?_)
  intro v H1 s1
  refine mr H0 H1 σ ρ' _ _ s1.demTop ((h.bind.up [_]).imp fun ds ρ'' h => ?_)
  intro vs H2 nt w sid tid s2 o
  obtain ⟨k, rp⟩ := SS.topd s2
  exact h (v :: vs) H2 (nt ++ [(v, d.dem)]) w sid tid (by simpa using s2) (.cons rp (D.inOk_of d.dem_noOwn) o)
theorem dv_cons {e : Expr} {es : List Expr} {c cs : E} (h : DE G e (evE M c)) (n : notStar e = true) (r : DV G es (evV M cs)) : DV G (e :: es) (evV M (.cons c cs)) := by
  obtain ⟨t, p, m⟩ := h
  obtain ⟨tes, ps, mr⟩ := r
  refine ⟨t :: tes, .cons p n ps, fun H0 H σ ρ ts Q s h => ?_⟩
  simp only [evV] at h
  refine m H0 H σ ρ ts _ s (h.bind.imp fun d ρ' h => ?_)
  intro v H1 s1
  refine mr H0 H1 σ ρ' _ _ s1.demTop ((h.bind.up [_]).imp fun ds ρ'' h => ?_)
  intro vs H2 nt w sid tid s2 o n2
  obtain ⟨k, rp⟩ := SS.topd s2
  exact h (v :: vs) H2 (nt ++ [(v, d.dem)]) w sid tid (by simpa using s2) (.cons rp (D.inOk_of d.dem_noOwn) o) (by simp only [alls, n2, Bool.and_true]; exact d.dem_noOwn)
theorem SS.slotV {H0 H : Hp} {σ : L2.St} {ρ : DEnv} {ts : List (V × D)} {i : Nat} {d : D} (s : SS H0 H σ ρ ts) (e : ρ[i]? = some (some d)) : ∃ v, σ[i]? = some (some v) := by
  obtain ⟨w, sid, tid, s⟩ := s
  obtain ⟨v, k, e1, _⟩ := s.slot i d e
  exact ⟨v, e1⟩
/-- the name in slot i may be read -/
def visN (G : SG) (i : Nat) (x : Str) : Prop := G.N[i]? = some x ∧ (G.sc.names.lookup x = some .local ∨ G.sc.names.lookup x = some .cell ∨ G.sc.names.lookup x = some .free) ∧ (x == ("__debug__" : Str)) = false ∧ (x == ("__classdict__" : Str)) = false
theorem visN.pe {i : Nat} {x : Str} {pos : Pos} (h : visN G i x) : ∀ X, CtxOk G X → PE X (.Name x pos) (tVar i) := fun X k =>
  pe_var (by rw [k.N]; exact h.1) (by
    show X.env.scope.names.lookup x = _ ∨ X.env.scope.names.lookup x = _ ∨ X.env.scope.names.lookup x = _
    rw [k.sc]; exact h.2.1) h.2.2.1 h.2.2.2
theorem da_var {es : List Expr} {cs : E} {i : Nat} {x : Str} {pos : Pos} (hv : visN G i x) (r : DA G es (evA M cs)) : DA G (.Name x pos :: es) (evA M (.cons (.var i) cs)) := by
  obtain ⟨tes, ps, mr⟩ := r
  refine ⟨tVar i :: tes, .cons hv.pe rfl ps, fun H0 H σ ρ ts Q s h => ?_⟩
  simp only [evA] at h
  split at h
  case h_2 => exact h.elim
  case h_1 d0 e0 =>
  obtain ⟨v, ev⟩ := s.slotV e0
  refine ⟨v, ev, ?_⟩
  refine mr H0 H σ ρ ts _ s (h.bind.imp fun ds ρ' h => ?_)
  intro vs H1 nt w sid tid s1 o
  split at h
  case h_2 => exact h.elim
  case h_1 d e =>
  obtain ⟨w', s2, ⟨v2, k, e2, rp⟩, _, k', rfl⟩ := s1.look i e
  rw [ev] at e2
  cases e2
  exact h (v :: vs) H1 nt _ sid tid s2 (.cons rp d.demIn_ok o.wsub)
theorem de_var {i : Nat} {x : Str} {pos : Pos} (hv : visN G i x) : DE G (.Name x pos) (evE M (.var i)) := by
  refine ⟨_, hv.pe, fun H0 H σ ρ ts Q s h => ?_⟩
  simp only [evE] at h
  split at h
  case h_2 => exact h.elim
  case h_1 d e =>
  obtain ⟨v, e1, s'⟩ := s.give i e
  exact ⟨v, e1, h v H s'⟩
theorem de_int {n : Int} {j : Nat} {pos : Pos} : DE G (.Constant (.int n) j pos) (evE M (.int n)) :=
  ⟨_, fun _ _ => pe_int, fun H0 H σ ρ ts Q s h => (by simp only [evE] at h; exact h _ H (s.int n) : tC (.int n) σ H Q)⟩
theorem de_bl {n : Bool} {j : Nat} {pos : Pos} : DE G (.Constant (.bool n) j pos) (evE M (.bl n)) :=
  ⟨_, fun _ _ => pe_bl, fun H0 H σ ρ ts Q s h => (by simp only [evE] at h; exact h _ H (s.bl n) : tC (.bl n) σ H Q)⟩
theorem de_non {j : Nat} {pos : Pos} : DE G (.Constant .none j pos) (evE M .non) :=
  ⟨_, fun _ _ => pe_non, fun H0 H σ ρ ts Q s h => (by simp only [evE] at h; exact h _ H s.non : tC .non σ H Q)⟩
theorem de_str {x : Str} {n : List Nat} {j : Nat} {pos : Pos} (e : x.cps.toList = n) (b : n.length < big) : DE G (.Constant (.str x) j pos) (evE M (.str n)) :=
  ⟨_, fun _ _ => pe_str, fun H0 H σ ρ ts Q s h => (by
    simp only [evE] at h
    have ex : x = ⟨n.toArray⟩ := by cases x; simp only at e; subst e; simp
    show Q (.str x) H
    rw [ex]
    exact h _ H (s.str b))⟩
/-- a module's constant -/
structure globN (G : SG) (g : Nat) (x : Str) : Prop where
  hg : G.sc.names.lookup x = some .globalImplicit
  val : ∃ v u, G.mg x = some u ∧ RelV v u ∧ (∀ H0 H w l, Rep H0 H w l v (G.M.glob g)) ∧ (G.M.glob g).noOwn = true
  hd : (x == ("__debug__" : Str)) = false
theorem de_glob {g : Nat} {x : Str} {pos : Pos} (h : globN G g x) : DE G (.Name x pos) (evE G.M (.glob g)) := by
  obtain ⟨hg, ⟨v, u, hm, r, rp, n⟩, hd⟩ := h
  refine ⟨tC v, fun X k => pe_glob (u := u) (by show X.env.scope.names.lookup x = _; rw [k.sc]; exact hg) (by rw [k.mg]; exact hm) r hd, fun H0 H σ ρ ts Q s h => ?_⟩
  simp only [evE] at h
  exact h v H (s.imm (fun w => rp H0 H w []) n)

/-! ### operators -/
/-- how an operator's rule over values and its meaning go together -/
def VOk (r : List V → Hp → VK → Prop) (o : Op) : Prop := ∀ (H0 H : Hp) (w : Own) (sid tid : List Nat) (σ : L2.St) (ρ : DEnv) (ts : List (V × D)) (vs : List V) (ds : List D) (d : D) (Q : VK),
  Sta H0 H w sid tid σ ρ ts → Oprs H0 H w vs ds → evOp o ds = some d → (∀ v H', SS H0 H' σ ρ ((v, d) :: ts) → Q v H') → r vs H Q
theorem mean_op {r : List V → Hp → VK → Prop} {o : Op} {t : TA} {cs : E} (hv : VOk r o) (m : MeanA G t (evA M cs)) : Mean G (fun σ H Q => t σ H fun vs H1 => r vs H1 Q) (evE M (.op o cs)) := by
  intro H0 H σ ρ ts Q s h
  simp only [evE] at h
  refine m H0 H σ ρ ts _ s (h.bind.imp fun ds ρ' h => ?_)
  intro vs H1 nt w sid tid s1 o1
  split at h
  case h_2 => exact h.elim
  case h_1 d e =>
  exact hv H0 H1 w sid tid σ ρ' _ vs ds d Q s1 o1 e fun v H' s' => h v H' (SS.drops2 s')
def r1 (r : V → Hp → VK → Prop) : List V → Hp → VK → Prop := fun vs H Q => match vs with
  | [x] => r x H Q
  | _ => False
def r2 (r : R2) : List V → Hp → VK → Prop := fun vs H Q => match vs with
  | [x, y] => r x y H Q
  | _ => False
theorem de_bin {a b : Expr} {op : Operator} {pos : Pos} {r : R2} {o : Op} {cs : E} (ho : ∀ X, CtxOk G X → OpR X (binaryOp op) r) (hv : VOk (r2 r) o) (h : DA G [a, b] (evA M cs)) : DE G (.BinOp a op b pos) (evE M (.op o cs)) := by
  obtain ⟨tes, ps, m⟩ := h
  cases ps with
  | @cons _ _ ta _ ha _ r1 =>
  cases r1 with
  | @cons _ _ tb _ hb _ r1 =>
  cases r1
  exact ⟨tOp r ta tb, fun X k => pe_op (ho X k) (ha X k) (hb X k), mean_op hv m⟩
theorem de_un {a : Expr} {op : UnaryOp} {pos : Pos} {r : V → Hp → VK → Prop} {o : Op} {cs : E} (ho : ∀ X, CtxOk G X → UnR X (unaryOp op) r) (hv : VOk (r1 r) o) (h : DA G [a] (evA M cs)) : DE G (.UnaryOp op a pos) (evE M (.op o cs)) := by
  obtain ⟨tes, ps, m⟩ := h
  cases ps with
  | @cons _ _ ta _ ha _ r1 =>
  cases r1
  exact ⟨tUn r ta, fun X k => pe_un (ho X k) (ha X k), mean_op hv m⟩
theorem de_cmp {a b : Expr} {op : CmpOp} {pos : Pos} {r : R2} {o : Op} {cs : E} (hm : behindInMarks op b = false) (ho : ∀ X, CtxOk G X → OpR X (compareOp op) r) (hv : VOk (r2 r) o) (h : DA G [a, b] (evA M cs)) : DE G (.Compare a [op] [b] pos) (evE M (.op o cs)) := by
  obtain ⟨tes, ps, m⟩ := h
  cases ps with
  | @cons _ _ ta _ ha _ r1 =>
  cases r1 with
  | @cons _ _ tb _ hb _ r1 =>
  cases r1
  exact ⟨tOp r ta tb, fun X k => pe_cmpR (ho X k) (ha X k) (hb X k) hm, mean_op hv m⟩

/-! ### truth -/
theorem tru_rep {H0 H : Hp} {w : Own} {l : Lab} {v : V} {d : D} {b : Bool} (r : Rep H0 H w l v d) (e : d.tru = some b) : TruV G.K v H b := by
  cases r with
  | non => simp only [D.tru, Option.some.injEq] at e; exact e.symm
  | bl => simp only [D.tru, Option.some.injEq] at e; exact e.symm
  | int => simp only [D.tru, Option.some.injEq] at e; exact e.symm
  | @str _ s hb =>
    simp only [D.tru, Option.some.injEq] at e
    refine ⟨?_, ?_⟩
    · show s.toArray.size ≤ sizeLine
      simp only [List.size_toArray]
      exact Nat.le_of_lt (Nat.lt_trans hb big_line)
    · subst e
      show (!s.isEmpty) = ((s.toArray.size : Int) != 0)
      cases s <;> simp
      omega
  | @lst _ p t vs ds a g r hb =>
    simp only [D.tru, Option.some.injEq] at e
    refine .inl ⟨vs, .inl a.rd, ?_⟩
    subst e
    cases r <;> rfl
  | @lstK _ p vs ds a r hb =>
    simp only [D.tru, Option.some.injEq] at e
    refine .inl ⟨vs, .inr (G.kl p vs a), ?_⟩
    subst e
    cases r <;> rfl
  | @tup _ p vs ds a r =>
    simp only [D.tru, Option.some.injEq] at e
    refine .inr (.inl ⟨vs, .inl (.inl a), ?_⟩)
    subst e
    cases r <;> rfl
  | exc a => cases e
  | dK a g q r => cases e
  | dT a g q r => cases e
def plainT : Expr → Bool
  | .UnaryOp .Not _ _ => false
  | .BoolOp _ _ _ => false
  | .IfExp _ _ _ _ => false
  | .Compare _ _ _ _ => false
  | _ => true
theorem isTrue_of {e : Expr} {env : PySem.Env} (h : plainT e = true) : ∀ whole, isTrue e env whole = (do let v ← whole; standAt e.pos; holding [v] (truthy v)) := by
  intro whole
  cases e <;> first
    | rfl
    | (cases h; done)
    | (rename_i op x p; cases op <;> first | rfl | cases h)
theorem dt_truth {e : Expr} {f : DEnv → R D} (hp : plainT e = true) (h : DE G e f) : DT G e f := by
  obtain ⟨t, p, m⟩ := h
  refine ⟨fun σ H Q => t σ H fun x H' => ∃ k, TruV G.K x H' k ∧ Q k H', fun X k => ?_, fun H0 H σ ρ ts Q s h => ?_⟩
  · rw [← k.K]
    exact pt_truth (p X k) (isTrue_of hp)
  refine m H0 H σ ρ ts _ s (h.imp fun d ρ' ⟨b, e, h⟩ => fun v H' s' => ?_)
  obtain ⟨w, sid, tid, s2⟩ := id s'
  obtain ⟨k, ks, _, r, _⟩ := s2.top
  exact ⟨b, tru_rep (G := G) r e, h H' s'.drop⟩
/-- a comparison as a test -/
theorem dt_cmp {a b : Expr} {op : CmpOp} {pos : Pos} {r : R2} {o : Op} {cs : E} (hm : behindInMarks op b = false) (ho : ∀ X, CtxOk G X → OpR X (compareOp op) r) (hv : VOk (r2 r) o) (hb : ∀ ds d, evOp o ds = some d → ∃ k, d = .bl k) (h : DA G [a, b] (evA M cs)) : DT G (.Compare a [op] [b] pos) (evE M (.op o cs)) := by
  obtain ⟨tes, ps, m⟩ := h
  cases ps with
  | @cons _ _ ta _ ha _ r1 =>
  cases r1 with
  | @cons _ _ tb _ hb' _ r1 =>
  cases r1
  refine ⟨tTest (tOp r ta tb), fun X k => pt_cmpR (ho X k) (ha X k) (hb' X k) hm, fun H0 H σ ρ ts Q s h => ?_⟩
  refine mean_op (G := G) hv m H0 H σ ρ ts (fun x H' => ∃ k, x = .bl k ∧ Q k H') s ?_
  have key : ∀ d ρ', evE M (.op o cs) ρ = .ok d ρ' → ∃ k, d = .bl k := by
    intro d ρ' e
    simp only [evE] at e
    cases q : evA M cs ρ with
    | ok ds ρ1 =>
      simp only [q, R.bind_ok] at e
      cases q2 : evOp o ds with
      | none => simp [q2] at e
      | some d2 =>
        simp only [q2, R.ok.injEq] at e
        obtain ⟨k, hk⟩ := hb ds d2 q2
        exact ⟨k, by rw [← e.1, hk]⟩
    | err c ρ1 => simp [q] at e
    | stuck => simp [q] at e
  cases q : evE M (.op o cs) ρ with
  | ok d ρ' =>
    rw [q] at h
    obtain ⟨b, eb, h⟩ := h
    obtain ⟨k, rfl⟩ := key d ρ' q
    intro v H' s'
    obtain ⟨w, sid, tid, s2⟩ := id s'
    obtain ⟨k', ks, _, r', _⟩ := s2.top
    cases r'
    simp only [D.tru, Option.some.injEq] at eb
    subst eb
    exact ⟨k, rfl, h H' s'.drop⟩
  | err c ρ' => rw [q] at h; exact h
  | stuck => rw [q] at h; exact h
theorem dt_not {a : Expr} {pos : Pos} {c : E} (h : DT G a (evE M c)) : DT G (.UnaryOp .Not a pos) (evE M (.not c)) := by
  obtain ⟨t, p, m⟩ := h
  refine ⟨tNot t, fun X k => pt_not (p X k), fun H0 H σ ρ ts Q s h => ?_⟩
  simp only [evE] at h
  refine m H0 H σ ρ ts _ s (h.bind.imp fun d ρ' h => ?_)
  cases d with
  | bl b =>
    obtain ⟨b', e, h⟩ := h
    simp only [D.tru, Option.some.injEq] at e
    subst e
    exact ⟨b, rfl, h⟩
  | _ => exact h.elim
/-- and, or: their parts from the left -/
def DW (G : SG) (op : BoolOp) (es : List Expr) (pos : Pos) (f : DEnv → R D) : Prop := ∃ t, (∀ X, CtxOk G X → PW X (.BoolOp op es pos) t) ∧ MeanT G t f
theorem dw_and1 {a : Expr} {pos : Pos} {f : DEnv → R D} (h : DT G a f) : DW G .And [a] pos f := by
  obtain ⟨t, p, m⟩ := h
  exact ⟨t, fun X k => pw_and1 (p X k), m⟩
theorem dw_or1 {a : Expr} {pos : Pos} {f : DEnv → R D} (h : DT G a f) : DW G .Or [a] pos f := by
  obtain ⟨t, p, m⟩ := h
  exact ⟨t, fun X k => pw_or1 (p X k), m⟩
theorem dw_and {a b : Expr} {rest : List Expr} {pos : Pos} {c d : E} (h : DT G a (evE M c)) (r : DW G .And (b :: rest) pos (evE M d)) : DW G .And (a :: b :: rest) pos (evE M (.and c d)) := by
  obtain ⟨t, p, m⟩ := h
  obtain ⟨u, q, n⟩ := r
  refine ⟨tAnd t u, fun X k => pw_and (p X k) (q X k), fun H0 H σ ρ ts Q s h => ?_⟩
  simp only [evE] at h
  refine m H0 H σ ρ ts _ s (h.bind.imp fun d ρ' h => ?_)
  cases d with
  | bl b =>
    refine ⟨b, rfl, fun H' s' => ?_⟩
    cases b with
    | true => exact n H0 H' σ ρ' ts Q s' h
    | false =>
      obtain ⟨b', e, h⟩ := h
      simp only [D.tru, Option.some.injEq] at e
      subst e
      exact h H' s'
  | _ => exact h.elim
theorem dw_or {a b : Expr} {rest : List Expr} {pos : Pos} {c d : E} (h : DT G a (evE M c)) (r : DW G .Or (b :: rest) pos (evE M d)) : DW G .Or (a :: b :: rest) pos (evE M (.or c d)) := by
  obtain ⟨t, p, m⟩ := h
  obtain ⟨u, q, n⟩ := r
  refine ⟨tOr t u, fun X k => pw_or (p X k) (q X k), fun H0 H σ ρ ts Q s h => ?_⟩
  simp only [evE] at h
  refine m H0 H σ ρ ts _ s (h.bind.imp fun d ρ' h => ?_)
  cases d with
  | bl b =>
    refine ⟨b, rfl, fun H' s' => ?_⟩
    cases b with
    | false => exact n H0 H' σ ρ' ts Q s' h
    | true =>
      obtain ⟨b', e, h⟩ := h
      simp only [D.tru, Option.some.injEq] at e
      subst e
      exact h H' s'
  | _ => exact h.elim
theorem dt_bool {op : BoolOp} {es : List Expr} {pos : Pos} {f : DEnv → R D} (h : DW G op es pos f) : DT G (.BoolOp op es pos) f := by
  obtain ⟨t, p, m⟩ := h
  exact ⟨t, fun X k => (p X k).pt, m⟩
/-- .. as values -/
theorem de_bool1 {op : BoolOp} {a : Expr} {pos : Pos} {f : DEnv → R D} (h : DE G a f) : DE G (.BoolOp op [a] pos) f := by
  obtain ⟨t, p, m⟩ := h
  exact ⟨t, fun X k => pe_one (p X k), m⟩
theorem de_and {a b : Expr} {rest : List Expr} {pos : Pos} {c d : E} (h : DE G a (evE M c)) (r : DE G (.BoolOp .And (b :: rest) pos) (evE M d)) : DE G (.BoolOp .And (a :: b :: rest) pos) (evE M (.and c d)) := by
  obtain ⟨t, p, m⟩ := h
  obtain ⟨u, q, n⟩ := r
  refine ⟨tAndV t u, fun X k => pe_and (p X k) (q X k), fun H0 H σ ρ ts Q s h => ?_⟩
  simp only [evE] at h
  refine m H0 H σ ρ ts _ s (h.bind.imp fun d ρ' h => ?_)
  intro v H' s'
  obtain ⟨w, sid, tid, s2⟩ := id s'
  obtain ⟨k', ks, _, r', _⟩ := s2.top
  cases d with
  | bl b =>
    cases r'
    refine ⟨b, rfl, ?_⟩
    cases b with
    | true => exact n H0 H' σ ρ' ts Q s'.drop h
    | false => exact h _ H' s'
  | _ => exact h.elim
theorem de_or {a b : Expr} {rest : List Expr} {pos : Pos} {c d : E} (h : DE G a (evE M c)) (r : DE G (.BoolOp .Or (b :: rest) pos) (evE M d)) : DE G (.BoolOp .Or (a :: b :: rest) pos) (evE M (.or c d)) := by
  obtain ⟨t, p, m⟩ := h
  obtain ⟨u, q, n⟩ := r
  refine ⟨tOrV t u, fun X k => pe_or (p X k) (q X k), fun H0 H σ ρ ts Q s h => ?_⟩
  simp only [evE] at h
  refine m H0 H σ ρ ts _ s (h.bind.imp fun d ρ' h => ?_)
  intro v H' s'
  obtain ⟨w, sid, tid, s2⟩ := id s'
  obtain ⟨k', ks, _, r', _⟩ := s2.top
  cases d with
  | bl b =>
    cases r'
    refine ⟨b, rfl, ?_⟩
    cases b with
    | false => exact n H0 H' σ ρ' ts Q s'.drop h
    | true => exact h _ H' s'
  | _ => exact h.elim
theorem de_not {a : Expr} {pos : Pos} {c : E} (h : DE G a (evE M c)) : DE G (.UnaryOp .Not a pos) (evE M (.not c)) := by
  obtain ⟨t, p, m⟩ := h
  refine ⟨tNotV t, fun X k => pe_not (p X k), fun H0 H σ ρ ts Q s h => ?_⟩
  simp only [evE] at h
  refine m H0 H σ ρ ts _ s (h.bind.imp fun d ρ' h => ?_)
  intro v H' s'
  obtain ⟨w, sid, tid, s2⟩ := id s'
  obtain ⟨k', ks, _, r', _⟩ := s2.top
  cases d with
  | bl b =>
    cases r'
    exact ⟨b, rfl, h _ H' (s'.drop.bl _)⟩
  | _ => exact h.elim
theorem de_ife {q a b : Expr} {pos : Pos} {c x y : E} (hc : DT G q (evE M c)) (ha : DE G a (evE M x)) (hb : DE G b (evE M y)) : DE G (.IfExp q a b pos) (evE M (.ife c x y)) := by
  obtain ⟨t, p, m⟩ := hc
  obtain ⟨ta, pa, ma⟩ := ha
  obtain ⟨tb, pb, mb⟩ := hb
  refine ⟨tIf t ta tb, fun X k => pe_ifExp (p X k) (pa X k) (pb X k), fun H0 H σ ρ ts Q s h => ?_⟩
  simp only [evE] at h
  refine m H0 H σ ρ ts _ s (h.bind.imp fun d ρ' h => ?_)
  split at h
  · rename_i e
    refine ⟨true, e, fun H' s' => ?_⟩
    show if true = true then ta σ H' Q else tb σ H' Q
    rw [if_pos rfl]
    exact ma H0 H' σ ρ' ts Q s' h
  · rename_i e
    refine ⟨false, e, fun H' s' => ?_⟩
    show if false = true then ta σ H' Q else tb σ H' Q
    rw [if_neg Bool.false_ne_true]
    exact mb H0 H' σ ρ' ts Q s' h
  · exact h.elim

/-! ### displays -/
def E.many : E → Nat
  | .cons _ cs => cs.many + 1
  | _ => 0
theorem evV_many : ∀ (c : E) (ρ : DEnv) (ds : List D) (ρ' : DEnv), evV M c ρ = .ok ds ρ' → ds.length = c.many := by
  intro c
  induction c with
  | nil => intro ρ ds ρ' h; simp only [evV, R.ok.injEq] at h; rw [← h.1]; rfl
  | cons a as _ ih =>
    intro ρ ds ρ' h
    simp only [evV] at h
    cases q : evE M a ρ with
    | ok d ρ1 =>
      simp only [q, R.bind_ok] at h
      cases q2 : evV M as ρ1 with
      | ok es ρ2 =>
        simp only [q2, R.bind_ok, R.ok.injEq] at h
        rw [← h.1]
        simp only [List.length_cons, E.many, ih _ _ _ q2]
      | err c ρ1 => simp [q2] at h
      | stuck => simp [q2] at h
    | err c ρ1 => simp [q] at h
    | stuck => simp [q] at h
  | _ => intro ρ ds ρ' h; simp only [evV] at h; cases h
theorem Thn.val {α : Type} {H0 : Hp} {σ : L2.St} {ts : List (V × D)} {r : R α} {k k' : α → DEnv → Prop} (h : Thn G H0 σ ts r k) (f : ∀ a ρ, r = .ok a ρ → k a ρ → k' a ρ) : Thn G H0 σ ts r k' := by
  cases r with
  | ok a ρ => exact f _ _ rfl h
  | err c ρ => exact h
  | stuck => exact h
theorem de_tup {es : List Expr} {x1 : Nat} {pos : Pos} {c : E} (hn : c.many ≤ 1000) (h : DV G es (evV M c)) : DE G (.Tuple es x1 pos) (evE M (.tup c)) := by
  obtain ⟨tes, ps, m⟩ := h
  refine ⟨_, fun X k => pe_tup (ps.pa k), fun H0 H σ ρ ts Q s h => ?_⟩
  simp only [evE] at h
  refine m H0 H σ ρ ts _ s (h.bind.val fun ds ρ' e h => ?_)
  intro vs H1 nt w sid tid s1 o n
  have hl : vs.length ≤ 1000 := by rw [o.length, evV_many c ρ ds ρ' e]; exact hn
  refine ⟨Nat.le_trans hl (by decide), fun p hp => ?_⟩
  exact h _ _ (SS.drops2 (s1.newT hp ⟨[], 0, o.its n [] 0, n⟩))
theorem de_lst {es : List Expr} {pos : Pos} {c : E} (hn : c.many ≤ 1000) (h : DV G es (evV M c)) : DE G (.List es pos) (evE M (.lst c)) := by
  obtain ⟨tes, ps, m⟩ := h
  refine ⟨_, fun X k => pe_lst (ps.pa k), fun H0 H σ ρ ts Q s h => ?_⟩
  simp only [evE] at h
  refine m H0 H σ ρ ts _ s (h.bind.val fun ds ρ' e h => ?_)
  intro vs H1 nt w sid tid s1 o n
  have hd : ds.length ≤ 1000 := by rw [evV_many c ρ ds ρ' e]; exact hn
  have hl : vs.length ≤ 1000 := by rw [o.length]; exact hd
  refine ⟨Nat.le_trans hl (by decide), fun p hp => ?_⟩
  exact h _ _ (SS.drops2 (s1.newL hp ⟨[], 0, o.its n [] 0, n⟩ (Nat.lt_of_le_of_lt hd (by decide))))

/-! ### calls -/
/-- what a def's meaning promises: arguments whatever they are, the result new -/
def spOf (cv : Nat → Value) (ar : Nat) (φ : List D → CR) : Sp := fun vs H Q E => ∃ ds, Reps H H (fun _ => none) [] 0 vs ds ∧ ds.length = ar ∧ match φ ds with
  | .ok d => ∀ v H', ResOk H v H' d → Q v H'
  | .err c => ∀ H', Same H H' → E (cv c) none H'
  | .stuck => False
/-- a def that may be called: its place, its promise -/
structure CallN (G : SG) (j : Nat) (x : Str) (ar : Nat) : Prop where
  hg : G.sc.names.lookup x = some .globalImplicit
  hd : (x == ("__debug__" : Str)) = false
  ok : ∃ (f : Addr) (fd : FuncData) (ps : List Str) (k : Nat), k ≤ G.lv ∧ G.mg x = some (.ref f) ∧ PySem.W.keepIn G.K (.ref f) = true ∧ Binds G.K fd ps [] ∧ FnOk G.P G.w G.K G.mg G.base (L2.CX G.P G.w) k f fd ps (spOf G.cv ar (G.M.call j))
theorem starEach_all {es : List Expr} {tes : List TE} {env : PySem.Env} (h : DAs G es tes) : ∀ p ∈ starEach es env, p.1 = false := by
  induction h with
  | nil => intro p hp; cases hp
  | cons h n r ih =>
    intro p hp
    rw [starEach_cons n] at hp
    rcases List.mem_cons.mp hp with rfl | hp
    · rfl
    · exact ih p hp
theorem plainA {es : List Expr} {tes : List TE} {env : PySem.Env} {pos : Pos} (h : DAs G es tes) : (backTo pos (starEach es env)).any (·.1) = false := by
  unfold backTo
  rw [List.any_eq_false]
  intro x hx
  obtain ⟨p, hp, rfl⟩ := List.mem_map.mp hx
  have := starEach_all h p hp
  obtain ⟨a, b⟩ := p
  simp only at this
  simp [this]
theorem SS.grow {H0 H H' : Hp} {σ : L2.St} {ρ : DEnv} {ts : List (V × D)} (s : SS H0 H σ ρ ts) (h : Same H H') : SS H0 H' σ ρ ts := by
  obtain ⟨w, sid, tid, s⟩ := s
  refine ⟨w, sid, tid, s.map (s.same.trans h) (fun p l e => ?_) fun k _ v d r => r.tr ⟨fun p o e _ => h p o e, fun p o e hw => ⟨h p o e, hw⟩, fun p o m e hw => ⟨h p o e, hw⟩, fun _ _ _ e => e⟩⟩
  obtain ⟨h1, h2⟩ := s.dom p l e
  refine ⟨?_, h2⟩
  cases q : H p with
  | none => exact absurd q h1
  | some o => rw [h p o q]; simp
theorem SS.clear {H0 H : Hp} {σ : L2.St} {ρ : DEnv} {ts : List (V × D)} (s : SS H0 H σ ρ ts) : SS H0 H σ ρ [] := SS.drops (nt := ts) (ts := []) (by simpa using s)
theorem de_call (cm : G.calm = true) {j ar : Nat} {x : Str} {e : Expr} {es : List Expr} {p pos : Pos} {cs : E} (hn : CallN G j x ar) (hl : ∀ ρ ds ρ', evA G.M cs ρ = .ok ds ρ' → ds.length = ar) (h : DA G (e :: es) (evA G.M cs)) : DE G (.Call (.Name x p) (e :: es) [] pos) (evE G.M (.call j cs)) := by
  obtain ⟨hg, hd, f, fd, ps, k, hk, hm, kp, hb, F⟩ := hn
  obtain ⟨tes, ps', m⟩ := h
  refine ⟨tCallS (spOf G.cv ar (G.M.call j)) (fun σ => WE G.W σ) (tAll tes), fun X c => ?_, fun H0 H σ ρ ts Q s h => ?_⟩
  · have F' : FnOk X.prog X.w X.K X.mg X.base (L2.CX X.prog X.w) k f fd ps (spOf G.cv ar (G.M.call j)) := by rw [c.prog, c.w, c.K, c.mg, c.base]; exact F
    refine pe_callS F' ((c.room cm).mono hk) (by show X.env.scope.names.lookup x = _; rw [c.sc]; exact hg) (by rw [c.mg]; exact hm) (by rw [c.K]; exact kp) (by rw [c.K]; exact hb) (fun σ => passAt c.takes σ) (ps'.pa c) hd ?_ ?_
    · cases ps' with
      | cons h n r => exact starEach_cons n
    · cases ps' with
      | cons h n r => exact plainA r
  · simp only [evE] at h
    refine m H0 H σ ρ ts _ s (h.bind.val fun ds ρ' e h => ?_)
    intro vs H1 nt w sid tid s1 o
    refine ⟨_, o.any 0, by rw [tgs_length]; exact hl ρ ds ρ' e, ?_⟩
    cases q : G.M.call j (tgs (fun _ => .any) ds) with
    | ok d =>
      rw [q] at h
      intro v H' r
      exact h v H' (SS.drops2 (SS.res ⟨w, sid, tid, s1⟩ r))
    | err c =>
      rw [q] at h
      intro H' sm
      exact h H' (SS.drops (SS.grow ⟨w, sid, tid, s1⟩ sm))
    | stuck => rw [q] at h; exact h.elim
theorem evA_many : ∀ (c : E) (ρ : DEnv) (ds : List D) (ρ' : DEnv), evA M c ρ = .ok ds ρ' → ds.length = c.many := by
  intro c
  induction c with
  | nil => intro ρ ds ρ' h; simp only [evA, R.ok.injEq] at h; rw [← h.1]; rfl
  | cons a as _ ih =>
    intro ρ ds ρ' h
    by_cases hv : ∃ i, a = .var i
    · obtain ⟨i, rfl⟩ := hv
      simp only [evA] at h
      split at h
      case h_2 => cases h
      cases q : evA M as ρ with
      | ok es ρ1 =>
        simp only [q, R.bind_ok] at h
        split at h
        case h_2 => cases h
        cases h
        simp only [List.length_cons, E.many, ih _ _ _ q]
      | err c ρ1 => simp [q] at h
      | stuck => simp [q] at h
    · have e : evA M (.cons a as) ρ = (evE M a ρ).bind fun d ρ' => (evA M as ρ').bind fun ds ρ'' => .ok (d.dem :: ds) ρ'' := by
        cases a <;> first | rfl | exact absurd ⟨_, rfl⟩ hv
      rw [e] at h
      cases q : evE M a ρ with
      | ok d ρ1 =>
        simp only [q, R.bind_ok] at h
        cases q2 : evA M as ρ1 with
        | ok es ρ2 =>
          simp only [q2, R.bind_ok, R.ok.injEq] at h
          rw [← h.1]
          simp only [List.length_cons, E.many, ih _ _ _ q2]
        | err c ρ1 => simp [q2] at h
        | stuck => simp [q2] at h
      | err c ρ1 => simp [q] at h
      | stuck => simp [q] at h
  | _ => intro ρ ds ρ' h; simp only [evA] at h; cases h

/-! ### builtins and methods -/
def rB (r : List V → Hp → VK → Prop) : List V → Hp → VK → Prop := r
/-- a built-in's name -/
structure BltN (G : SG) (x : Str) (u : Value) : Prop where
  hg : G.sc.names.lookup x = some .globalImplicit
  hm : G.mg x = none
  hv : bootBuiltins x = some u
  hn : x ≠ "__name__"
  hd : (x == ("__debug__" : Str)) = false
theorem de_blt {x : Str} {id : String} {e : Expr} {es : List Expr} {p pos : Pos} {r : List V → Hp → VK → Prop} {o : Op} {cs : E} (hb : BltN G x (.builtin id)) (ho : ∀ X, CtxOk G X → CallR X (.builtin id) r) (hv : VOk r o) (h : DA G (e :: es) (evA M cs)) : DE G (.Call (.Name x p) (e :: es) [] pos) (evE M (.op o cs)) := by
  obtain ⟨tes, ps, m⟩ := h
  refine ⟨tCB r (tAll tes), fun X k => ?_, mean_op hv m⟩
  have q := ps
  cases q with
  | cons h n r => exact pe_callB (ho X k) (by show X.env.scope.names.lookup x = _; rw [k.sc]; exact hb.hg) (by rw [k.mg]; exact hb.hm) hb.hv (ps.pa k) hb.hn hb.hd (starEach_cons n) (plainA r)
theorem de_bty {x : Str} {id : String} {e : Expr} {es : List Expr} {p pos : Pos} {r : List V → Hp → VK → Prop} {o : Op} {cs : E} (hb : BltN G x (.type id)) (ho : ∀ X, CtxOk G X → CallR X (.type id) r) (hv : VOk r o) (h : DA G (e :: es) (evA M cs)) : DE G (.Call (.Name x p) (e :: es) [] pos) (evE M (.op o cs)) := by
  obtain ⟨tes, ps, m⟩ := h
  refine ⟨tCB r (tAll tes), fun X k => ?_, mean_op hv m⟩
  have q := ps
  cases q with
  | cons h n r => exact pe_callTy (ho X k) (by show X.env.scope.names.lookup x = _; rw [k.sc]; exact hb.hg) (by rw [k.mg]; exact hb.hm) hb.hv (ps.pa k) hb.hn hb.hd (starEach_cons n) (plainA r)
/-- a subscript -/
theorem de_idx {a b : Expr} {pos : Pos} {r : R2} {o : Op} {cs : E} (hp : PlainIx b) (ho : ∀ X, CtxOk G X → IxR X r) (hv : VOk (r2 r) o) (h : DA G [a, b] (evA M cs)) : DE G (.Subscript a b pos) (evE M (.op o cs)) := by
  obtain ⟨tes, ps, m⟩ := h
  cases ps with
  | @cons _ _ ta _ ha _ r1 =>
  cases r1 with
  | @cons _ _ tb _ hb _ r1 =>
  cases r1
  exact ⟨tOp r ta tb, fun X k => pe_ix (ho X k) (ha X k) (hb X k) hp, mean_op hv m⟩
end
end Sd

namespace Sd
open PySem PySem.Spec PyProof.Rows L2
variable [KLs]

/-! ### walks -/
/-- the walk J over ds, whose source lies in nt -/
structure WalkOk (H0 : Hp) (J : It) (nt : List (V × D)) (ds : List D) : Prop where
  small : ds.length < big
  shr : alls Tag.noOwn ds = true
  stop : ∀ H σ ρ ts, SS H0 H σ ρ (nt ++ ts) → ∀ i, ds.length ≤ i → J.stop i H
  go : ∀ H σ ρ ts, SS H0 H σ ρ (nt ++ ts) → ∀ (i : Nat) (d : D), ds[i]? = some d → J.go i H
  yld : ∀ H σ ρ ts, SS H0 H σ ρ (nt ++ ts) → ∀ (i : Nat) (d : D), ds[i]? = some d → ∀ x H', J.yld i H x H' → SS H0 H' σ ρ ((x, d) :: (nt ++ ts))
def evI (M : Sem) (k : Wk) (src : E) (ρ : DEnv) : R (List D) := (evV M src ρ).bind fun ds ρ1 => match evWk k ds with
  | none => .stuck
  | some xs => .ok xs ρ1
def MeanI (G : SG) (wi : TI) (f : DEnv → R (List D)) : Prop := ∀ (H0 H : Hp) (σ : L2.St) (ρ : DEnv) (ts : List (V × D)) (Q : It → Hp → Prop), SS H0 H σ ρ ts →
  Thn G H0 σ ts (f ρ) (fun ds ρ' => ∀ J H' nt, SS H0 H' σ ρ' (nt ++ ts) → WalkOk H0 J nt ds → Q J H') → wi σ H Q
def DI (G : SG) (tg iter : Expr) (f : DEnv → R (List D)) : Prop := ∃ wi, (∀ X, CtxOk G X → PI X tg iter wi) ∧ MeanI G wi f
section
variable {G : SG} {M : Sem}
theorem SS.topr {H0 H : Hp} {σ : L2.St} {ρ : DEnv} {ts nt : List (V × D)} {v : V} {d : D} (s : SS H0 H σ ρ ((v, d) :: nt ++ ts)) : ∃ w sid tid k, Sta H0 H w sid tid σ ρ ((v, d) :: nt ++ ts) ∧ Rep H0 H w [k] v d := by
  obtain ⟨w, sid, tid, s⟩ := s
  obtain ⟨k, ks, e, r, _⟩ := s.top
  exact ⟨w, sid, tid, k, s, r⟩
theorem walk_list {H0 : Hp} {a : Addr} {t : Tag} {ds : List D} (n : t.noOwn = true ∧ alls Tag.noOwn ds = true) (hb : ds.length < big) : WalkOk H0 (Itl G.K a) [(.ref a, .lst t ds)] ds := by
  refine ⟨hb, n.2, fun H σ ρ ts s i hi => ?_, fun H σ ρ ts s i d e => ?_, fun H σ ρ ts s i d e x H' y => ?_⟩
  · obtain ⟨w, sid, tid, k, s, r⟩ := s.topr
    cases r with
    | @lst _ _ _ vs _ at_ g r _ => exact ⟨vs, .inl at_.rd, by rw [r.length]; exact hi⟩
    | @lstK _ _ vs _ at_ r _ => exact ⟨vs, .inr (G.kl _ _ at_), by rw [r.length]; exact hi⟩
  · obtain ⟨w, sid, tid, k, s, r⟩ := s.topr
    cases r with
    | @lst _ _ _ vs _ at_ g r _ =>
      obtain ⟨v, ev, _⟩ := r.get e
      exact ⟨vs, v, .inl at_.rd, ev⟩
    | @lstK _ _ vs _ at_ r _ =>
      obtain ⟨v, ev, _⟩ := r.get e
      exact ⟨vs, v, .inr (G.kl _ _ at_), ev⟩
  · obtain ⟨rfl, hx⟩ := y
    obtain ⟨w, sid, tid, k, s, r⟩ := s.topr
    cases r with
    | @lst _ _ _ vs _ at_ g r _ =>
      obtain ⟨v, ev, rv⟩ := r.get e
      have := hx vs (.inl at_.rd)
      rw [ev] at this
      cases this
      obtain ⟨k', s'⟩ := s.dup rv (by
        have h2 := n.2
        rw [alls_all, List.all_eq_true] at h2
        exact h2 d (List.mem_of_getElem? e))
      exact ⟨_, _, _, s'⟩
    | @lstK _ _ vs _ at_ r _ =>
      obtain ⟨v, ev, rv⟩ := r.get e
      have := hx vs (.inr (G.kl _ _ at_))
      rw [ev] at this
      cases this
      obtain ⟨k', s'⟩ := s.dup rv (by
        have h2 := n.2
        rw [alls_all, List.all_eq_true] at h2
        exact h2 d (List.mem_of_getElem? e))
      exact ⟨_, _, _, s'⟩
theorem walk_tup {H0 : Hp} {K : PySem.W.Frag} {a : Addr} {ds : List D} (n : alls Tag.noOwn ds = true) (hb : ds.length < big) : WalkOk H0 (Itt K a) [(.ref a, .tup ds)] ds := by
  refine ⟨hb, n, fun H σ ρ ts s i hi => ?_, fun H σ ρ ts s i d e => ?_, fun H σ ρ ts s i d e x H' y => ?_⟩
  · obtain ⟨w, sid, tid, k, s, r⟩ := s.topr
    cases r with
    | @tup _ _ vs _ at_ r => exact ⟨vs, .inl (.inl at_), by rw [r.length]; exact hi⟩
  · obtain ⟨w, sid, tid, k, s, r⟩ := s.topr
    cases r with
    | @tup _ _ vs _ at_ r =>
      obtain ⟨v, ev, _⟩ := r.get e
      exact ⟨vs, v, .inl (.inl at_), ev⟩
  · obtain ⟨rfl, hx⟩ := y
    obtain ⟨w, sid, tid, k, s, r⟩ := s.topr
    cases r with
    | @tup _ _ vs _ at_ r =>
      obtain ⟨v, ev, rv⟩ := r.get e
      have := hx vs (.inl (.inl at_))
      rw [ev] at this
      cases this
      obtain ⟨k', s'⟩ := s.dup rv (by
        rw [alls_all, List.all_eq_true] at n
        exact n d (List.mem_of_getElem? e))
      exact ⟨_, _, _, s'⟩
theorem walk_rng {H0 : Hp} {lo : Int} {n : Nat} (hb : n < big) : WalkOk H0 (Itr lo n) [] ((List.range n).map fun (i : Nat) => D.int (lo + (i : Int))) := by
  refine ⟨by simpa using hb, by rw [alls_all, List.all_eq_true]; intro x hx; obtain ⟨i, _, rfl⟩ := List.mem_map.mp hx; rfl, fun H σ ρ ts s i hi => ?_, fun H σ ρ ts s i d e => ?_, fun H σ ρ ts s i d e x H' y => ?_⟩
  · exact (by simpa using hi : n ≤ i)
  · have := (List.getElem?_eq_some_iff.mp e).1
    exact (by simpa using this : i < n)
  · obtain ⟨rfl, rfl⟩ := y
    have hi := (List.getElem?_eq_some_iff.mp e).1
    simp only [List.length_map, List.length_range] at hi
    rw [List.getElem?_map, List.getElem?_range hi] at e
    cases e
    exact s.int _
/-- one source -/
theorem DV.one {e : Expr} {c : E} (h : DE G e (evE M c)) : ∃ t, (∀ X, CtxOk G X → PE X e t) ∧ ∀ (H0 H : Hp) (σ : L2.St) (ρ : DEnv) (ts : List (V × D)) (Q : VK), SS H0 H σ ρ ts →
    Thn G H0 σ ts (evV M (.cons c .nil) ρ) (fun ds ρ' => ∀ v d H', ds = [d] → d.noOwn = true → SS H0 H' σ ρ' ((v, d) :: ts) → Q v H') → t σ H Q := by
  obtain ⟨t, p, m⟩ := h
  refine ⟨t, p, fun H0 H σ ρ ts Q s h => ?_⟩
  simp only [evV, R.bind_ok] at h
  refine m H0 H σ ρ ts _ s (h.bind.imp fun d ρ' h => fun v H' s' => ?_)
  exact h v _ H' rfl d.dem_noOwn s'.demTop
theorem di_list {tg iter : Expr} {c : E} (h : DE G iter (evE M c)) : DI G tg iter (evI M .lst (.cons c .nil)) := by
  obtain ⟨t, p, m⟩ := DV.one h
  refine ⟨iList G.K t, fun X k => by rw [← k.K]; exact pi_list (p X k), fun H0 H σ ρ ts Q s h => ?_⟩
  unfold evI at h
  refine m H0 H σ ρ ts _ s (h.bind.imp fun ds ρ' h => fun v d H' e n s' => ?_)
  subst e
  cases d with
  | lst t xs =>
    have n' := n
    simp only [D.noOwn, D.all, Bool.and_eq_true] at n'
    obtain ⟨w, sid, tid, k, s2, r⟩ := SS.topr (nt := []) s'
    cases r with
    | @lst _ p _ vs _ at_ g r hb => exact ⟨p, rfl, ⟨vs, .inl at_.rd⟩, h (Itl G.K p) H' _ s' (walk_list (G := G) n' hb)⟩
    | @lstK _ p vs _ at_ r hb => exact ⟨p, rfl, ⟨vs, .inr (G.kl _ _ at_)⟩, h (Itl G.K p) H' _ s' (walk_list (G := G) n' hb)⟩
  | _ => exact h.elim
theorem di_tup {tg iter : Expr} {c : E} (h : DE G iter (evE M c)) : DI G tg iter (evI M .tup (.cons c .nil)) := by
  obtain ⟨t, p, m⟩ := DV.one h
  refine ⟨iTup G.K t, fun X k => by rw [← k.K]; exact pi_tup (p X k), fun H0 H σ ρ ts Q s h => ?_⟩
  unfold evI at h
  refine m H0 H σ ρ ts _ s (h.bind.imp fun ds ρ' h => fun v d H' e n s' => ?_)
  subst e
  cases d with
  | tup xs =>
    have n' := n
    simp only [D.noOwn, D.all] at n'
    simp only [evWk] at h
    split at h
    · exact h.elim
    rename_i e2
    split at e2
    case isFalse => cases e2
    case isTrue hz =>
    cases e2
    obtain ⟨w, sid, tid, k, s2, r⟩ := SS.topr (nt := []) s'
    cases r with
    | @tup _ p vs _ at_ r => exact ⟨p, rfl, ⟨vs, .inl (.inl at_)⟩, h (Itt G.K p) H' _ s' (walk_tup n' hz)⟩
  | _ => exact h.elim
theorem rngBlt (hg : G.sc.names.lookup ("range" : Str) = some .globalImplicit) {X : Cx} (k : CtxOk G X) : Gl X "range" := by
  show X.env.scope.names.lookup _ = _
  rw [k.sc]; exact hg
theorem di_rng1 {tg a : Expr} {pp pos : Pos} {c : E} (hb : BltN G "range" (.type "range")) (n : notStar a = true) (h : DE G a (evE M c)) : DI G tg (.Call (.Name "range" pp) [a] [] pos) (evI M .rng1 (.cons c .nil)) := by
  obtain ⟨t, p, m⟩ := DV.one h
  have hp : ∀ X, CtxOk G X → PI X tg (.Call (.Name "range" pp) [a] [] pos) (iRng1 (tCons t tNil)) := fun X k =>
    pi_range1 (rngBlt hb.hg k) (by rw [k.mg]; exact hb.hm) (pa_cons (p X k) pa_nil (starEach_cons n)) (by rw [starEach_cons n]; rfl)
  refine ⟨_, hp, fun H0 H σ ρ ts Q s h => ?_⟩
  unfold evI at h
  refine m H0 H σ ρ ts _ s (h.bind.imp fun ds ρ' h => fun v d H' e nn s' => ?_)
  subst e
  cases d with
  | int z =>
    obtain ⟨w, sid, tid, k, s2, r⟩ := SS.topr (nt := []) s'
    cases r
    simp only [evWk] at h
    split at h
    · exact h.elim
    rename_i e2
    split at e2
    case isFalse => cases e2
    case isTrue hz =>
    cases e2
    have hB : (big : Int) = 1000000 := rfl
    refine ⟨z, rfl, ?_, ?_, ?_⟩
    · have : (2 : Int) ^ 62 = 4611686018427387904 := by decide
      omega
    · have : (2 : Int) ^ 62 = 4611686018427387904 := by decide
      omega
    · have := walk_rng (H0 := H0) (lo := 0) (n := z.toNat) (by show z.toNat < 1000000; omega)
      simp only [Int.zero_add] at this
      exact h _ H' [] s'.drop this
  | _ => exact h.elim
theorem DV.two {e f : Expr} {c d : E} (h : DE G e (evE M c)) (h' : DE G f (evE M d)) : ∃ t u, (∀ X, CtxOk G X → PE X e t) ∧ (∀ X, CtxOk G X → PE X f u) ∧ ∀ (H0 H : Hp) (σ : L2.St) (ρ : DEnv) (ts : List (V × D)) (Q : V → V → Hp → Prop), SS H0 H σ ρ ts →
    Thn G H0 σ ts (evV M (.cons c (.cons d .nil)) ρ) (fun ds ρ' => ∀ v u d1 d2 H', ds = [d1, d2] → d1.noOwn = true → d2.noOwn = true → SS H0 H' σ ρ' ((u, d2) :: (v, d1) :: ts) → Q v u H') → t σ H (fun v H1 => u σ H1 (fun u H2 => Q v u H2)) := by
  obtain ⟨t, p, m⟩ := h
  obtain ⟨u, q, n⟩ := h'
  refine ⟨t, u, p, q, fun H0 H σ ρ ts Q s h => ?_⟩
  simp only [evV, R.bind_ok] at h
  refine m H0 H σ ρ ts _ s (h.bind.imp fun d ρ' h => fun v H' s' => ?_)
  refine n H0 H' σ ρ' _ _ s'.demTop ((h.bind.bind.up [_]).imp fun d2 ρ2 h => fun u2 H2 s2 => ?_)
  exact h v u2 _ _ H2 rfl d.dem_noOwn d2.dem_noOwn s2.demTop
theorem di_rng2 {tg a b : Expr} {pp pos : Pos} {c d : E} (hb : BltN G "range" (.type "range")) (n : notStar a = true) (n2 : notStar b = true) (h : DE G a (evE M c)) (h' : DE G b (evE M d)) : DI G tg (.Call (.Name "range" pp) [a, b] [] pos) (evI M .rng2 (.cons c (.cons d .nil))) := by
  obtain ⟨t, u, p, q, m⟩ := DV.two h h'
  have hp : ∀ X, CtxOk G X → PI X tg (.Call (.Name "range" pp) [a, b] [] pos) (iRng2 (tCons t (tCons u tNil))) := fun X k =>
    pi_range2 (rngBlt hb.hg k) (by rw [k.mg]; exact hb.hm) (pa_cons (p X k) (pa_cons (q X k) pa_nil (starEach_cons n2)) (starEach_cons n)) (by rw [starEach_cons n, starEach_cons n2]; rfl) (by rw [starEach_cons n2]; rfl)
  refine ⟨_, hp, fun H0 H σ ρ ts Q s h => ?_⟩
  unfold evI at h
  refine m H0 H σ ρ ts _ s (h.bind.imp fun ds ρ' h => fun v v2 d1 d2 H' e nn nn2 s' => ?_)
  subst e
  obtain ⟨w, sid, tid, k, s2, r⟩ := SS.topr (nt := []) s'
  obtain ⟨k0, ks, rfl, _, tr⟩ := s2.top
  cases ks with
  | nil => exact tr.elim
  | cons k2 ks =>
  have r1 := tr.1
  cases d1 with
  | int z =>
    cases d2 with
    | int y =>
      cases r
      cases r1
      simp only [evWk] at h
      split at h
      · exact h.elim
      rename_i e2
      split at e2
      case isFalse => cases e2
      case isTrue hz =>
      cases e2
      have hB : (big : Int) = 1000000 := rfl
      have : (2 : Int) ^ 62 = 4611686018427387904 := by decide
      refine ⟨z, y, rfl, ⟨by omega, by omega, by omega, by omega⟩, ?_⟩
      exact h _ H' [] s'.drop.drop (walk_rng (by show (y - z).toNat < 1000000; omega))
    | _ => exact h.elim
  | _ =>
    cases d2 <;> exact h.elim

/-! ### targets -/
/-- storing the value on top, by a target; the slots it may change -/
def MeanG (G : SG) (g : TG) (tg : Tg) : Prop := ∀ (H0 H : Hp) (σ : L2.St) (ρ ρ' : DEnv) (ts : List (V × D)) (v : V) (d : D) (Q : L2.St → Hp → Prop), d.noOwn = true → SS H0 H σ ρ ((v, d) :: ts) → tg.set d ρ = some ρ' →
  (∀ σ', SS H0 H σ' ρ' ts → (∀ j, j ∉ tg.slots → σ'[j]? = σ[j]?) → σ'.length = σ.length → Q σ' H) → g v σ H Q
def DG (G : SG) (t : Expr) (tg : Tg) : Prop := ∃ g, (∀ X, CtxOk G X → PG X t g) ∧ MeanG G g tg
/-- the name in slot i may be stored -/
def stoN (G : SG) (i : Nat) (x : Str) : Prop := G.N[i]? = some x ∧ G.sto x = true
theorem stoN.pg {i : Nat} {x : Str} {pos : Pos} (h : stoN G i x) : ∀ X, CtxOk G X → PG X (.Name x pos) (gName i) := fun X k => by
  have := k.sto x h.2
  exact pg_name (by rw [k.N]; exact k.nod) (by rw [k.N]; exact h.1) this.1 this.2
theorem dg_name {i : Nat} {x : Str} {pos : Pos} (h : stoN G i x) : DG G (.Name x pos) (.nm i) := by
  refine ⟨_, h.pg, fun H0 H σ ρ ρ' ts v d Q n s e q => ?_⟩
  simp only [Tg.set, Option.some.injEq] at e
  subst e
  refine q _ (s.store i) (fun j hj => ?_) List.length_set
  rw [List.getElem?_set_ne]
  intro z
  exact hj (by simp [Tg.slots, z])
inductive DGs (G : SG) : List Expr → List Nat → Prop where
  | nil : DGs G [] []
  | cons {i : Nat} {x : Str} {pos : Pos} {es : List Expr} {is : List Nat} (h : stoN G i x) (r : DGs G es is) : DGs G (.Name x pos :: es) (i :: is)
theorem dgs_run : ∀ {es : List Expr} {is : List Nat}, DGs G es is → ∃ g : TGs, (∀ X, CtxOk G X → PGs X es g) ∧
    ∀ (H0 H : Hp) (σ : L2.St) (ρ ρ' : DEnv) (ts : List (V × D)) (a : V) (da : D) (vs : List V) (ds : List D) (Q : L2.St → Hp → Prop), SS H0 H σ ρ ((a, da) :: ts) →
      (∀ σ ρ, SS H0 H σ ρ ((a, da) :: ts) → ∃ w sid tid, Sta H0 H w sid tid σ ρ ((a, da) :: ts) ∧ Its H0 H w vs ds) → setAll is ds ρ = some ρ' →
      (∀ σ', SS H0 H σ' ρ' ((a, da) :: ts) → (∀ j, j ∉ is → σ'[j]? = σ[j]?) → σ'.length = σ.length → Q σ' H) → g vs σ H Q
  | _, _, .nil => by
    refine ⟨gNil, fun X k => pgs_nil, fun H0 H σ ρ ρ' ts a da vs ds Q s it e q => ?_⟩
    obtain ⟨w, sid, tid, s1, l, j, r, n⟩ := it σ ρ s
    cases ds with
    | nil =>
      cases r
      simp only [setAll, Option.some.injEq] at e
      subst e
      exact ⟨rfl, q σ s (fun _ _ => rfl) rfl⟩
    | cons d ds => simp [setAll] at e
  | _, _, .cons (i := i) h r => by
    obtain ⟨g, p, m⟩ := dgs_run r
    refine ⟨gCons (gName i) g, fun X k => pgs_cons (h.pg X k) (p X k), fun H0 H σ ρ ρ' ts a da vs ds Q s it e q => ?_⟩
    obtain ⟨w, sid, tid, s1, l, j, r, n⟩ := it σ ρ s
    cases ds with
    | nil => simp [setAll] at e
    | cons d ds =>
      cases r with
      | @cons _ _ v vs _ _ h1 t1 =>
      simp only [setAll] at e
      simp only [alls, Bool.and_eq_true] at n
      refine ⟨v, vs, rfl, ?_⟩
      obtain ⟨k, s2⟩ := s1.dup h1 n.1
      have s3 : SS H0 H (σ.set i (some v)) (ρ.set i (some d)) ((a, da) :: ts) := SS.store i ⟨_, _, _, s2⟩
      refine m H0 H _ _ ρ' ts a da vs ds Q s3 (fun σ2 ρ2 s4 => ?_) e (fun σ' s5 h5 h6 => q σ' s5 (fun j hj => ?_) ?_)
      · obtain ⟨w', sid', tid', s5, l', j', r', n'⟩ := it σ2 ρ2 s4
        cases r' with
        | cons h2 t2 =>
        simp only [alls, Bool.and_eq_true] at n'
        exact ⟨w', sid', tid', s5, _, _, t2, n'.2⟩
      · rw [h5 j (fun z => hj (List.mem_cons_of_mem _ z)), List.getElem?_set_ne]
        intro z
        exact hj (by simp [z])
      · rw [h6, List.length_set]
theorem assignEach_len {env : PySem.Env} : ∀ {es : List Expr} {is : List Nat}, DGs G es is → (assignEach es env).length = is.length
  | _, _, .nil => rfl
  | _, _, .cons h r => by
    show (assignEach _ env).length + 1 = _
    rw [assignEach_len r]; rfl
theorem assignEach_none {env : PySem.Env} : ∀ {es : List Expr} {is : List Nat}, DGs G es is → ∀ p ∈ assignEach es env, p.1 = false
  | _, _, .nil => fun p hp => nomatch hp
  | _, _, .cons h r => fun p hp => by
    rcases List.mem_cons.mp hp with rfl | hp
    · rfl
    · exact assignEach_none r p hp
theorem dg_tup (cm : G.calm = true) {es : List Expr} {k : Nat} {pos : Pos} {is : List Nat} (h : DGs G es is) : DG G (.Tuple es k pos) (.tp is) := by
  obtain ⟨g, p, m⟩ := dgs_run h
  refine ⟨gTup G.K is.length g, fun X c => by
    rw [← c.K]
    exact pg_tup (c.calm.trans cm) (p X c) (assignEach_len h) (by
      rw [List.findIdx?_eq_none_iff]
      intro x hx
      rw [assignEach_none h x hx]), fun H0 H σ ρ ρ' ts v d Q n s e q => ?_⟩
  obtain ⟨w, sid, tid, k, s2, r⟩ := SS.topr (nt := []) s
  cases d with
  | tup ds =>
    cases r with
    | @tup _ a vs _ at_ r =>
    simp only [Tg.set] at e
    have n' : alls Tag.noOwn ds = true := n
    have hlen : ∀ (is : List Nat) (ds : List D) (ρ ρ' : DEnv), setAll is ds ρ = some ρ' → ds.length = is.length := by
      intro is
      induction is with
      | nil => intro ds ρ ρ' h; cases ds with
        | nil => rfl
        | cons _ _ => simp [setAll] at h
      | cons i is ih => intro ds ρ ρ' h; cases ds with
        | nil => simp [setAll] at h
        | cons d ds => simp only [setAll] at h; simp [ih ds _ _ h]
    refine ⟨a, vs, rfl, .inl (.inl at_), by rw [r.length, hlen is ds ρ ρ' e], ?_⟩
    refine m H0 H σ ρ ρ' ts (.ref a) (.tup ds) vs ds Q s (fun σ2 ρ2 s4 => ?_) e (fun σ' s5 h5 h6 => q σ' s5.drop h5 h6)
    obtain ⟨w', sid', tid', k', s5, r'⟩ := SS.topr (nt := []) s4
    cases r' with
    | @tup _ _ vs' _ at' r' =>
    have : vs' = vs := by
      rw [at_] at at'
      cases at'
      rfl
    subst this
    exact ⟨w', sid', tid', s5, _, _, r', n'⟩
  | _ => simp [Tg.set] at e

/-! ### comprehensions -/
theorem wipeE_length (ρ : DEnv) : ∀ is : List Nat, (wipeE ρ is).length = ρ.length
  | [] => rfl
  | i :: is => by simp [wipeE, wipeE_length ρ is]
theorem wipeE_some {ρ : DEnv} {j : Nat} {d : D} : ∀ {is : List Nat}, (wipeE ρ is)[j]? = some (some d) → ρ[j]? = some (some d) ∧ j ∉ is
  | [], h => ⟨h, by simp⟩
  | i :: is, h => by
    simp only [wipeE] at h
    rcases set_get h with ⟨_, e⟩ | ⟨hn, e⟩
    · cases e
    · obtain ⟨h1, h2⟩ := wipeE_some e
      exact ⟨h1, by simp only [List.mem_cons, not_or]; exact ⟨fun z => hn z.symm, h2⟩⟩
theorem wipe_get {σ : L2.St} {j : Nat} : ∀ {is : List Nat}, j ∉ is → (wipe σ is)[j]? = σ[j]?
  | [], _ => rfl
  | i :: is, h => by
    simp only [List.mem_cons, not_or] at h
    unfold wipe
    rw [List.getElem?_set_ne (fun z => h.1 z.symm)]
    exact wipe_get h.2
theorem wipe_ext {σ σ' : L2.St} {is : List Nat} (hl : σ'.length = σ.length) (h : ∀ j, j ∉ is → σ'[j]? = σ[j]?) : wipe σ' is = wipe σ is := by
  apply List.ext_getElem?
  intro j
  by_cases hj : j ∈ is
  · have key : ∀ (σ : L2.St) (is : List Nat), j ∈ is → (wipe σ is)[j]? = if j < σ.length then some none else none := by
      intro σ is
      induction is with
      | nil => intro h; exact nomatch h
      | cons i is ih =>
        intro h
        unfold wipe
        by_cases e : i = j
        · subst e
          by_cases hl : i < σ.length
          · rw [if_pos hl, List.getElem?_set_self (by rw [wipe_length]; exact hl)]
          · rw [if_neg hl, List.getElem?_eq_none (by rw [List.length_set, wipe_length]; omega)]
        · rw [List.getElem?_set_ne e]
          rcases List.mem_cons.mp h with z | z
          · exact absurd z.symm e
          · exact ih z
    rw [key σ' is hj, key σ is hj, hl]
  · rw [wipe_get hj, wipe_get hj, h j hj]
/-- the block's own context -/
def SG.blk (G : SG) (scope : Scope) : SG := { G with sc := relS scope G.sc, sto := fun x => scope.names.lookup x == some .local || scope.names.lookup x == some .cell, top := false, W := fun _ _ _ _ => False }
theorem lookup_map {f : Str × NameKind → NameKind} : ∀ (l : List (Str × NameKind)) (x : Str), (l.map fun p => (p.1, f p)).lookup x = (l.find? fun p => x == p.1).map f
  | [], _ => rfl
  | (n, k) :: l, x => by
    rw [List.map_cons, List.lookup_cons, List.find?_cons]
    cases h : x == n with
    | true => rfl
    | false => exact lookup_map l x
theorem relS_keep {scope sc : Scope} {x : Str} {k : NameKind} (hk : k ≠ .free) (h : scope.names.lookup x = some k) : (relS scope sc).names.lookup x = some k := lookup_relS_keep hk h
theorem blk_ok {X : Cx} (c : CtxOk G X) (scope : Scope) (s : Shared) (H : Hp) (C : Addr) (cl : List (Str × Addr)) (fp : List Addr) : CtxOk (G.blk scope) (X.blk s H scope (compEnvC scope cl C X.env) fp) where
  prog := c.prog
  w := c.w
  K := c.K
  mg := c.mg
  base := c.base
  N := c.N
  sc := by
    show relS scope X.env.scope = relS scope G.sc
    rw [c.sc]
  nod := c.nod
  calm := c.calm
  room := c.room
  u64 := c.u64
  top := fun h => absurd (show false = true from h) Bool.false_ne_true
  takes := takes0
  own := PassesOwn.never
  sto := fun x h => by
    have h' : (scope.names.lookup x == some .local || scope.names.lookup x == some .cell) = true := h
    simp only [Bool.or_eq_true, beq_iff_eq] at h'
    rcases h' with h' | h'
    · exact ⟨.inl (relS_keep (by decide) h'), .inr (relS_keep (by decide) h')⟩
    · exact ⟨.inr (relS_keep (by decide) h'), .inl (by show (scope.names.lookup x == some .cell) = true; rw [h']; rfl)⟩
theorem Thn.blk {α : Type} {H0 : Hp} {σ : L2.St} {ts : List (V × D)} {scope : Scope} {r : R α} {k : α → DEnv → Prop} (h : Thn G H0 σ ts r k) (hn : ∀ c ρ, r ≠ .err c ρ) : Thn (G.blk scope) H0 σ ts r k := by
  cases r with
  | ok a ρ => exact h
  | err c ρ => exact absurd rfl (hn c ρ)
  | stuck => exact h
theorem treps_under {H0 H : Hp} {w : Own} {x : V × D} {ts : List (V × D)} : ∀ {nt : List (V × D)} {tid : List Nat}, TReps H0 H w tid (x :: (nt ++ ts)) → ∃ tid', tid'.Perm tid ∧ TReps H0 H w tid' (nt ++ x :: ts)
  | [], tid, h => ⟨tid, .refl _, h⟩
  | y :: nt, tid, h => by
    cases tid with
    | nil => exact h.elim
    | cons k1 tid =>
      cases tid with
      | nil => exact h.2.elim
      | cons k2 ks =>
        obtain ⟨tid', pm, h'⟩ := treps_under (nt := nt) (tid := k1 :: ks) (x := x) (ts := ts) ⟨h.1, h.2.2⟩
        exact ⟨k2 :: tid', (pm.cons k2).trans (.swap _ _ _), ⟨h.2.1, h'⟩⟩
theorem treps_over {H0 H : Hp} {w : Own} {x : V × D} {ts : List (V × D)} : ∀ {nt : List (V × D)} {tid : List Nat}, TReps H0 H w tid (nt ++ x :: ts) → ∃ tid', tid'.Perm tid ∧ TReps H0 H w tid' (x :: (nt ++ ts))
  | [], tid, h => ⟨tid, .refl _, h⟩
  | y :: nt, tid, h => by
    cases tid with
    | nil => exact h.elim
    | cons k2 tid =>
      obtain ⟨tid', pm, h'⟩ := treps_over (nt := nt) (tid := tid) (x := x) (ts := ts) h.2
      cases tid' with
      | nil => exact h'.elim
      | cons k1 ks => exact ⟨k1 :: k2 :: ks, (List.Perm.swap _ _ _).trans (pm.cons k2), ⟨h'.1, h.1, h'.2⟩⟩
theorem Sta.perm {H0 H : Hp} {w : Own} {sid tid tid' : List Nat} {σ : L2.St} {ρ : DEnv} {ts ts' : List (V × D)} (s : Sta H0 H w sid tid σ ρ ts) (pm : tid'.Perm tid) (h : TReps H0 H w tid' ts') : Sta H0 H w sid tid' σ ρ ts' where
  same := s.same
  dom := fun p l e => by
    obtain ⟨h1, h0, k, h2, h3⟩ := s.dom p l e
    refine ⟨h1, h0, k, h2, ?_⟩
    simp only [List.mem_append] at h3 ⊢
    exact h3.imp id fun z => pm.mem_iff.mpr z
  nod := ((pm.append_left sid).nodup_iff).mpr s.nod
  slen := s.slen
  len := s.len
  slot := s.slot
  tmp := h
theorem SS.under {H0 H : Hp} {σ : L2.St} {ρ : DEnv} {ts nt : List (V × D)} {x : V × D} (s : SS H0 H σ ρ (x :: (nt ++ ts))) : SS H0 H σ ρ (nt ++ x :: ts) := by
  obtain ⟨w, sid, tid, s⟩ := s
  obtain ⟨tid', pm, h⟩ := treps_under s.tmp
  exact ⟨w, sid, tid', s.perm pm h⟩
theorem SS.over {H0 H : Hp} {σ : L2.St} {ρ : DEnv} {ts nt : List (V × D)} {x : V × D} (s : SS H0 H σ ρ (nt ++ x :: ts)) : SS H0 H σ ρ (x :: (nt ++ ts)) := by
  obtain ⟨w, sid, tid, s⟩ := s
  obtain ⟨tid', pm, h⟩ := treps_over s.tmp
  exact ⟨w, sid, tid', s.perm pm h⟩
/-- a new item behind the list on top -/
theorem SS.appTop {H0 H : Hp} {σ : L2.St} {ρ : DEnv} {ts : List (V × D)} {p : Addr} {ds : List D} {y : V} {d : D} (s : SS H0 H σ ρ ((.ref p, .lst .own ds) :: (y, d) :: ts)) (n : d.noOwn = true) (hb : ds.length + 1 < big) :
    ∃ vs, H p = some (.lst vs) ∧ vs.length = ds.length ∧ SS H0 (upd H p (.lst (vs ++ [y]))) σ ρ ((.ref p, .lst .own (ds ++ [d])) :: (y, d) :: ts) := by
  obtain ⟨w, sid, tid, s⟩ := s
  obtain ⟨k, ks, rfl, r, tr⟩ := s.top
  cases r with
  | @lst _ _ _ vs _ a g r b =>
  have hp : H p = some (.lst vs) := a
  refine ⟨vs, hp, r.length, w, sid, k :: ks, ?_⟩
  obtain ⟨n1, n2, n3⟩ := nodup_parts s.nod
  have oth : ∀ k', k' ≠ k → Keep H0 H H0 (upd H p (.lst (vs ++ [y]))) w w [k'] [k'] := fun k' hn => keep_mut hp notTup_lst g.2 fun m' e => hn (by
    have := congrArg rootOf e
    rw [rootOf_app, rootOf_one] at this
    exact Option.some.inj this)
  cases ks with
  | nil => exact tr.elim
  | cons k2 ks =>
  have ry : Rep H0 H w (vs.length :: [k]) y d := tr.1.trS KeepS.refl n
  have rr : Reps H0 H w [k] 0 (vs ++ [y]) (ds ++ [d]) := r.append (.cons (by simpa using ry) .nil)
  refine ⟨fun b u e => ?_, fun q l e => ?_, s.nod, s.slen, s.len, fun j d2 e => ?_, .lst upd_same ⟨g.1, g.2⟩ (rr.tr2 (keep_sub hp notTup_lst g.2)) (by simpa using hb), tr.imp fun k' hk' v d r => r.tr (oth k' fun z => n3 (z ▸ hk'))⟩
  · have : b ≠ p := fun z => by subst z; rw [(s.dom b _ g.2).2.1] at e; cases e
    rw [upd_ne this]; exact s.same b u e
  · obtain ⟨h1, h2⟩ := s.dom q l e
    refine ⟨?_, h2⟩
    by_cases hq : q = p
    · subst hq; rw [upd_same]; simp
    · rw [upd_ne hq]; exact h1
  · obtain ⟨v', k', q1, q2, r'⟩ := s.slot j d2 e
    exact ⟨v', k', q1, q2, r'.tr (oth k' fun z => n2 (z ▸ List.mem_of_getElem? q2))⟩
/-- the tests of a comprehension -/
def DTs (G : SG) (ifs : List Expr) (c : E) (M : Sem) : Prop := (ifs = [] ∧ c.isNil = true) ∨ ∃ q, ifs = [q] ∧ c.isNil = false ∧ DT G q (evE M c)
def plainIter : Expr → Bool
  | .Set _ _ _ => false
  | .List _ _ => true
  | _ => true
theorem SS.wiped {H0 H : Hp} {σ : L2.St} {ρ : DEnv} {ts : List (V × D)} (s : SS H0 H σ ρ ts) (is : List Nat) : SS H0 H (wipe σ is) (wipeE ρ is) ts :=
  s.sig (wipeE_length ρ is) (wipe_length σ is) fun j d e => by
    obtain ⟨h1, h2⟩ := wipeE_some e
    exact ⟨h1, wipe_get h2⟩
end
end Sd

namespace Sd
open PySem PySem.Spec PyProof.Rows L2
variable [KLs]
section
variable {G : SG} {M : Sem}
theorem evTurns_len {tg : Tg} {body : DEnv → R (Option D)} : ∀ {xs : List D} {ρ : DEnv} {acc accF : List D} {ρF : DEnv}, evTurns tg body xs ρ acc = .ok accF ρF → acc.length ≤ accF.length
  | [], ρ, acc, accF, ρF, h => by simp only [evTurns, R.ok.injEq] at h; rw [h.1]; exact Nat.le_refl _
  | x :: xs, ρ, acc, accF, ρF, h => by
    simp only [evTurns] at h
    split at h
    · cases h
    · rename_i ρ1 _
      cases q : body ρ1 with
      | ok o ρ2 =>
        rw [q, R.bind_ok] at h
        have := evTurns_len h
        cases o with
        | none => exact this
        | some d => simp only [List.length_append, List.length_singleton] at this; omega
      | err c ρ2 => rw [q] at h; cases h
      | stuck => rw [q] at h; cases h
/-- how the block's parts stand for its meaning -/
structure BlkD (G : SG) (scope : Scope) (tg elt : Expr) (ifs : List Expr) (tgt : Tg) (c e : E) (own : List (Str × Nat)) : Prop where
  ok : BlkOk G.N G.sc scope own
  sl : own.map (·.2) = tgt.slots
  tg : DG (G.blk scope) tg tgt
  ifs : DTs (G.blk scope) ifs c G.M
  elt : DE (G.blk scope) elt (evE G.M e)
theorem noErr {α : Type} {r : R α} {β : Type} {f : α → DEnv → R β} {b : β} {ρ : DEnv} (h : r.bind f = .ok b ρ) : ∃ a ρ1, r = .ok a ρ1 ∧ f a ρ1 = .ok b ρ := by
  cases r with
  | ok a ρ1 => exact ⟨a, ρ1, rfl, h⟩
  | err c ρ1 => cases h
  | stuck => cases h
theorem bind_val {α β : Type} {r : R α} {f : α → DEnv → R β} {x : β} {ρ : DEnv} (h : r.bind f = .ok x ρ) : ∃ a ρ1, r = .ok a ρ1 ∧ f a ρ1 = .ok x ρ := noErr h
/-- the reading's core: from a walk to the new list -/
theorem lc_run {scope : Scope} {tg elt : Expr} {ifs : List Expr} {tgt : Tg} {c e : E} {own : List (Str × Nat)} (B : BlkD G scope tg elt ifs tgt c e own) :
    ∃ (g : TG) (tt : TT) (te : TE), (∀ X, CtxOk (G.blk scope) X → PG X tg g) ∧ (∀ X, CtxOk (G.blk scope) X → PTs X ifs tt) ∧ (∀ X, CtxOk (G.blk scope) X → PE X elt te) ∧
      ∀ (H0 H : Hp) (σ : L2.St) (ρ ρF : DEnv) (ts nt : List (V × D)) (J : It) (xs accF : List D) (Q : V → Hp → Prop), SS H0 H σ ρ (nt ++ ts) → WalkOk H0 J nt xs →
        evTurns tgt (evIf c.isNil (fun ρ => evE G.M c ρ) (fun ρ => evE G.M e ρ)) xs (wipeE ρ tgt.slots) [] = .ok accF ρF → (∀ v H', SS H0 H' σ ρF ((v, .lst .own accF) :: ts) → Q v H') →
        ∀ D, H D = none → ∃ W : Nat → Nat → Hp → Prop, (∃ m, W 0 m (upd H D (.lst []))) ∧ ∀ i m H, W i m H →
          (J.stop i H ∧ Q (.ref D) H) ∨ (J.go i H ∧ ∃ Nx : Hp → Prop, (∀ H', Nx H' → ∃ m', m' < m ∧ W (i + 1) m' H') ∧ ∀ x H', J.yld i H x H' → g x (wipe σ (own.map (·.2))) H' fun σ2 H2 => wipe σ2 (own.map (·.2)) = wipe σ (own.map (·.2)) ∧ tt σ2 H2 fun b H3 =>
            if b = true then te σ2 H3 fun y H4 => ∃ acc, H4 D = some (.lst acc) ∧ acc.length < sizeLine ∧ Nx (upd H4 D (.lst (acc ++ [y]))) else Nx H3) := by
  obtain ⟨g, pg, mg⟩ := B.tg
  obtain ⟨te, pe, me⟩ := B.elt
  have hif : ∃ tt : TT, (∀ X, CtxOk (G.blk scope) X → PTs X ifs tt) ∧ ∀ (H0 H : Hp) (σ : L2.St) (ρ : DEnv) (ts : List (V × D)) (Q : Bool → Hp → Prop), SS H0 H σ ρ ts →
      Thn (G.blk scope) H0 σ ts (evQ c.isNil (fun ρ => evE G.M c ρ) ρ) (fun b ρ' => ∀ H', SS H0 H' σ ρ' ts → Q b H') → tt σ H Q := by
    rcases B.ifs with ⟨rfl, hc⟩ | ⟨q, rfl, hc, t, p, m⟩
    · refine ⟨tYes, fun X _ => pts_nil, fun H0 H σ ρ ts Q s h => ?_⟩
      rw [hc] at h
      exact h H s
    · refine ⟨t, fun X k => pts_one (p X k), fun H0 H σ ρ ts Q s h => ?_⟩
      rw [hc] at h
      have h : Thn (G.blk scope) H0 σ ts ((evE G.M c ρ).bind fun d ρ3 => match d.tru with
        | some b => .ok b ρ3
        | none => .stuck) (fun b ρ' => ∀ H', SS H0 H' σ ρ' ts → Q b H') := h
      refine m H0 H σ ρ ts Q s (h.bind.imp fun d ρ' h => ?_)
      cases e : d.tru with
      | none => rw [e] at h; exact h.elim
      | some b => rw [e] at h; exact ⟨b, rfl, h⟩
  obtain ⟨tt, pt, mt⟩ := hif
  refine ⟨g, tt, te, pg, pt, pe, fun H0 H σ ρ ρF ts nt J xs accF Q s w ev hQ D hD => ?_⟩
  rw [B.sl]
  refine ⟨fun i m H => m = xs.length - i ∧ i ≤ xs.length ∧ ∃ acc ρi, acc.length ≤ i ∧ SS H0 H (wipe σ tgt.slots) ρi (nt ++ ((.ref D, .lst .own acc) :: ts)) ∧ evTurns tgt (evIf c.isNil (fun ρ => evE G.M c ρ) (fun ρ => evE G.M e ρ)) (xs.drop i) ρi acc = .ok accF ρF ∧ (∀ j d, ρi[j]? = some (some d) → j ∉ tgt.slots), ⟨xs.length, by simp, Nat.zero_le _, [], _, Nat.zero_le _, ?_, by simpa using ev, fun j d h => (wipeE_some h).2⟩, ?_⟩
  · obtain ⟨w1, sid, tid, s1⟩ := s
    have s2 := s1.newL (vs := []) (ds := []) hD ⟨[], 0, .nil, rfl⟩ (by decide)
    exact SS.under (s2.wiped tgt.slots)
  rintro i m H2 ⟨rfl, hi, acc, ρi, hacc, si, evi, fg⟩
  by_cases hlt : i < xs.length
  · have hx : xs[i]? = some xs[i] := by simp [hlt]
    rw [List.drop_eq_getElem_cons hlt] at evi
    simp only [evTurns] at evi
    cases eset : tgt.set xs[i] ρi with
    | none => rw [eset] at evi; cases evi
    | some ρ1 =>
    rw [eset] at evi
    obtain ⟨o, ρ2, eb, evn⟩ := bind_val evi
    refine .inr ⟨w.go H2 _ _ _ si i _ hx, fun H' => ∃ acc ρi, acc.length ≤ i + 1 ∧ SS H0 H' (wipe σ tgt.slots) ρi (nt ++ ((.ref D, .lst .own acc) :: ts)) ∧ evTurns tgt (evIf c.isNil (fun ρ => evE G.M c ρ) (fun ρ => evE G.M e ρ)) (xs.drop (i + 1)) ρi acc = .ok accF ρF ∧ (∀ j d, ρi[j]? = some (some d) → j ∉ tgt.slots), fun H' n => ⟨xs.length - (i + 1), by omega, rfl, hlt, n⟩, fun x H' y => ?_⟩
    have sx := w.yld H2 _ _ _ si i _ hx x H' y
    have hno : xs[i].noOwn = true := by
      have := w.shr
      rw [alls_all, List.all_eq_true] at this
      exact this _ (List.getElem_mem hlt)
    refine mg H0 H' _ ρi ρ1 _ x xs[i] _ hno sx eset fun σ2 s2 h2 hl2 => ⟨?_, ?_⟩
    · refine wipe_ext (by rw [hl2, wipe_length]) fun j hj => ?_
      rw [h2 j hj, wipe_get hj]
    have hw2 : ∀ {H4 : Hp} {ρ4 : DEnv} {tt : List (V × Sd.D)}, SS H0 H4 σ2 ρ4 tt → SS H0 H4 (wipe σ tgt.slots) (wipeE ρ4 tgt.slots) tt := fun {H4 ρ4 tt} s => s.sig (wipeE_length _ _) (by rw [wipe_length, hl2, wipe_length]) fun j d e => by
      obtain ⟨e1, e2⟩ := wipeE_some e
      exact ⟨e1, (h2 j e2).symm⟩
    obtain ⟨b, ρ3, e3, e4⟩ := bind_val eb
    refine mt H0 H' σ2 ρ1 _ _ s2 ?_
    rw [e3]
    intro H3 s3
    cases b with
    | false =>
      simp only [Bool.false_eq_true, if_false, R.ok.injEq] at e4
      obtain ⟨rfl, rfl⟩ := e4
      rw [if_neg Bool.false_ne_true]
      exact ⟨acc, wipeE ρ3 tgt.slots, Nat.le_succ_of_le hacc, hw2 s3, evn, fun j d h => (wipeE_some h).2⟩
    | true =>
      simp only [if_true] at e4
      obtain ⟨d, ρ4, e5, e6⟩ := bind_val e4
      simp only [R.ok.injEq] at e6
      obtain ⟨rfl, rfl⟩ := e6
      rw [if_pos rfl]
      refine me H0 H3 σ2 ρ3 _ _ s3 ?_
      rw [e5]
      intro y H4 s4
      have s5 : SS H0 H4 σ2 ρ4 ((V.ref D, .lst .own acc) :: (y, d.dem) :: (nt ++ ts)) := SS.over (nt := (y, d.dem) :: nt) s4.demTop
      have hb : acc.length + 1 < big := by have := w.small; omega
      obtain ⟨vs, hv, hvl, s6⟩ := s5.appTop d.dem_noOwn hb
      refine ⟨vs, hv, ?_, acc ++ [d.dem], wipeE ρ4 tgt.slots, by simpa using hacc, ?_, evn, fun j d h => (wipeE_some h).2⟩
      · have := big_line; omega
      · exact hw2 (SS.under (SS.drop2 s6))
  · have e : i = xs.length := by omega
    subst e
    rw [List.drop_length] at evi
    simp only [evTurns, R.ok.injEq] at evi
    obtain ⟨rfl, rfl⟩ := evi
    refine .inl ⟨w.stop H2 _ _ _ si _ (Nat.le_refl _), hQ _ _ ?_⟩
    exact (SS.drops si).sig rfl (by rw [wipe_length]) fun j d h => ⟨h, (wipe_get (fg j d h)).symm⟩
theorem plainIter_of {e : Expr} {env : PySem.Env} (h : plainIter e = true) : ∀ x, foldedSetIterable e env x = pure x := by
  intro x
  cases e <;> first | rfl | cases h
theorem mean_lc {scope : Scope} {tg elt iter : Expr} {ifs : List Expr} {pos : Pos} {tgt : Tg} {c e : E} {own : List (Str × Nat)} {k : Wk} {src : E} (B : BlkD G scope tg elt ifs tgt c e own) (h : DI G tg iter (evI G.M k src)) (hp : plainIter iter = true) :
    ∃ (wi : TI) (g : TG) (tt : TT) (te : TE), (∀ X, CtxOk G X → PI X tg iter wi) ∧ (∀ X, CtxOk (G.blk scope) X → PG X tg g) ∧ (∀ X, CtxOk (G.blk scope) X → PTs X ifs tt) ∧ (∀ X, CtxOk (G.blk scope) X → PE X elt te) ∧ Mean G (tLc wi g tt te (own.map (·.2))) (evE G.M (.lc k src tgt c e)) := by
  obtain ⟨wi, pi, mi⟩ := h
  obtain ⟨g, tt, te, pg, pt, pe, run⟩ := lc_run B
  refine ⟨wi, g, tt, te, pi, pg, pt, pe, fun H0 H σ ρ ts Q s h => ?_⟩
  simp only [evE] at h
  have h' : Thn G H0 σ ts ((evI G.M k src ρ).bind fun xs ρ1 => (evTurns tgt (evIf c.isNil (fun ρ => evE G.M c ρ) (fun ρ => evE G.M e ρ)) xs (wipeE ρ1 tgt.slots) []).calm.bind fun acc ρ5 => .ok (.lst .own acc) ρ5) (fun d ρ' => ∀ v H', SS H0 H' σ ρ' ((v, d) :: ts) → Q v H') := by
    unfold evI
    cases q : evV G.M src ρ with
    | ok ds ρ1 =>
      rw [q, R.bind_ok] at h
      rw [R.bind_ok]
      cases q2 : evWk k ds with
      | none => rw [q2] at h; exact h
      | some xs => rw [q2] at h; exact h
    | err c ρ1 => rw [q] at h; exact h
    | stuck => rw [q] at h; exact h
  refine mi H0 H σ ρ ts _ s (h'.bind.imp fun xs ρ1 h => fun J H1 nt s1 w => ?_)
  cases q : evTurns tgt (evIf c.isNil (fun ρ => evE G.M c ρ) (fun ρ => evE G.M e ρ)) xs (wipeE ρ1 tgt.slots) [] with
  | ok accF ρF =>
    rw [q] at h
    exact run H0 H1 σ ρ1 ρF ts nt J xs accF _ s1 w q h
  | err c ρ => rw [q] at h; exact h.elim
  | stuck => rw [q] at h; exact h.elim
theorem de_lc (cm : G.calm = true) {scope : Scope} {tg elt iter : Expr} {ifs : List Expr} {pos : Pos} {tgt : Tg} {c e : E} {own : List (Str × Nat)} {k : Wk} {src : E} (B : BlkD G scope tg elt ifs tgt c e own) (h : DI G tg iter (evI G.M k src)) (hp : plainIter iter = true) :
    DE G (.ListComp elt [⟨tg, iter, ifs, 0⟩] scope pos) (evE G.M (.lc k src tgt c e)) := by
  obtain ⟨wi, g, tt, te, pi, pg, pt, pe, m⟩ := mean_lc (pos := pos) B h hp
  refine ⟨_, fun X k => ?_, m⟩
  exact pe_lc (k.calm.trans cm) (by rw [k.N]; exact k.nod) (pi X k) (by rw [k.N, k.sc]; exact B.ok) (fun s H C cl fp => pg _ (blk_ok k scope s H C cl fp)) (fun s H C cl fp => pt _ (blk_ok k scope s H C cl fp)) (fun s H C cl fp => pe _ (blk_ok k scope s H C cl fp)) (plainIter_of hp)
end
end Sd

namespace Sd
open PySem PySem.Spec PyProof.Rows L2
variable [KLs]

inductive S where
  | set (i : Nat) (e : E) | setT (tg : Tg) (e : E) | aug (neg : Bool) (i : Nat) (e : E) | app (i : Nat) (e : E)
  | ret (e : E) | retN | pass | brk | cnt | expr (e : E)
  | ife (c : E) (a b : S) | seq (a b : S) | nil
  | forS (k : Wk) (src : E) (tg : Tg) (body : S) | whl (n : Nat) (c : E) (body : S)
  | rai (c : Nat) | tryS (c i : Nat) (a b : S)
  deriving DecidableEq
inductive FR where
  | nx (ρ : DEnv) | bk (ρ : DEnv) | ct (ρ : DEnv) | rt (d : D) | err (c : Nat) (ρ : DEnv) | stuck
def R.toFR {α : Type} (r : R α) (f : α → DEnv → FR) : FR := match r with
  | .ok a ρ => f a ρ
  | .err c ρ => .err c ρ
  | .stuck => .stuck
@[simp] theorem R.toFR_ok {α : Type} (a : α) (ρ : DEnv) (f : α → DEnv → FR) : (R.ok a ρ).toFR f = f a ρ := rfl
@[simp] theorem R.toFR_err {α : Type} (c : Nat) (ρ : DEnv) (f : α → DEnv → FR) : (R.err c ρ : R α).toFR f = .err c ρ := rfl
@[simp] theorem R.toFR_stuck {α : Type} (f : α → DEnv → FR) : (R.stuck : R α).toFR f = .stuck := rfl
def evFor (tg : Tg) (body : DEnv → FR) : List D → DEnv → FR
  | [], ρ => .nx (wipeE ρ tg.slots)
  | x :: xs, ρ => match tg.set x ρ with
    | none => .stuck
    | some ρ1 => match body ρ1 with
      | .nx ρ2 => evFor tg body xs ρ2
      | .ct ρ2 => evFor tg body xs ρ2
      | .bk ρ2 => .nx (wipeE ρ2 tg.slots)
      | r => r
def evWhl (c : DEnv → R D) (body : DEnv → FR) : Nat → DEnv → FR
  | 0, _ => .stuck
  | n + 1, ρ => (evQ false c ρ).toFR fun b ρ1 => if b = true then (match body ρ1 with
      | .nx ρ2 => evWhl c body n ρ2
      | .ct ρ2 => evWhl c body n ρ2
      | .bk ρ2 => .nx ρ2
      | r => r) else .nx ρ1
def evRet (M : Sem) (e : E) (ρ : DEnv) : FR := match e with
  | .var i => match ρ[i]? with
    | some (some d) => if d.noAny = true then .rt d else .stuck
    | _ => .stuck
  | e => (evE M e ρ).toFR fun d _ => if d.noAny = true then .rt d else .stuck
def FR.bind (r : FR) (f : DEnv → FR) : FR := match r with
  | .nx ρ => f ρ
  | r => r
/-- behind a suite the error's name is gone, and none is raised in it -/
def FR.lose (i : Nat) : FR → FR
  | .nx ρ => .nx (ρ.set i none)
  | .bk ρ => .bk (ρ.set i none)
  | .ct ρ => .ct (ρ.set i none)
  | .rt d => .rt d
  | _ => .stuck
def evS (M : Sem) : S → DEnv → FR
  | .set i e, ρ => (evE M e ρ).toFR fun d ρ' => .nx (ρ'.set i (some d))
  | .setT tg e, ρ => (evE M e ρ).toFR fun d ρ' => match tg.set d.dem ρ' with
    | some ρ2 => .nx ρ2
    | none => .stuck
  | .aug neg i e, ρ => match ρ[i]? with
    | some (some (.int m)) => (evE M e ρ).toFR fun d ρ' => match d with
      | .int n => .nx (ρ'.set i (some (.int (if neg then m - n else m + n))))
      | _ => .stuck
    | _ => .stuck
  | .app i e, ρ => match ρ[i]? with
    | some (some (.lst .own _)) => (evE M e ρ).toFR fun d ρ' => match ρ'[i]? with
      | some (some (.lst .own xs)) => if xs.length + 1 < big then .nx (ρ'.set i (some (.lst .own (xs ++ [d.dem])))) else .stuck
      | _ => .stuck
    | _ => .stuck
  | .ret e, ρ => evRet M e ρ
  | .retN, _ => .rt .non
  | .pass, ρ => .nx ρ
  | .brk, ρ => .bk ρ
  | .cnt, ρ => .ct ρ
  | .expr e, ρ => (evE M e ρ).toFR fun _ ρ' => .nx ρ'
  | .ife c a b, ρ => (evQ false (evE M c) ρ).toFR fun k ρ' => if k = true then evS M a ρ' else evS M b ρ'
  | .seq a b, ρ => (evS M a ρ).bind (evS M b)
  | .nil, ρ => .nx ρ
  | .forS k src tg body, ρ => (evI M k src ρ).toFR fun xs ρ1 => evFor tg (evS M body) xs ρ1
  | .whl n c body, ρ => evWhl (evE M c) (evS M body) n ρ
  | .rai c, ρ => .err c ρ
  | .tryS c i a b, ρ => match evS M a ρ with
    | .err k ρ' => if M.isa k c = true then (evS M b (ρ'.set i (some (.exc k)))).lose i else .err k ρ'
    | r => r

def ThnS (G : SG) (H0 : Hp) (ts : List (V × D)) (r : FR) (E : Ends) : Prop := match r with
  | .nx ρ => ∀ σ H, SS H0 H σ ρ ts → E.nx σ H
  | .bk ρ => ∀ σ H, SS H0 H σ ρ ts → E.bk σ H
  | .ct ρ => ∀ σ H, SS H0 H σ ρ ts → E.ct σ H
  | .rt d => ∀ v H, ResOk H0 v H d → E.rt v H
  | .err c ρ => ∀ σ H, SS H0 H σ ρ ts → G.W (G.cv c) none σ H
  | .stuck => False
def MeanS (G : SG) (t : TS) (f : DEnv → FR) : Prop := ∀ (H0 H : Hp) (σ : L2.St) (ρ : DEnv) (ts : List (V × D)) (E : Ends), SS H0 H σ ρ ts → ThnS G H0 ts (f ρ) E → t E σ H
def DS (G : SG) (st : Stmt) (f : DEnv → FR) : Prop := ∃ t, (∀ X, CtxOk G X → PS X st t) ∧ MeanS G t f
def DSs (G : SG) (st : List Stmt) (f : DEnv → FR) : Prop := ∃ t, (∀ X, CtxOk G X → PSs X st t) ∧ MeanS G t f
section
variable {G : SG} {M : Sem}
theorem ThnS.toFR {α : Type} {H0 : Hp} {σ : L2.St} {ts : List (V × D)} {E : Ends} {r : R α} {f : α → DEnv → FR} (h : ThnS G H0 ts (r.toFR f) E) : Thn G H0 σ ts r fun a ρ => ThnS G H0 ts (f a ρ) E := by
  cases r with
  | ok a ρ => exact h
  | err c ρ => exact fun H' s => h σ H' s
  | stuck => exact h
theorem dss_nil : DSs G [] (evS M .nil) := ⟨tNext, fun X _ => pss_nil, fun H0 H σ ρ ts E s h => h σ H s⟩
theorem ds_pass {pos : Pos} : DS G (.Pass pos) (evS M .pass) := ⟨tNext, fun X _ => ps_pass, fun H0 H σ ρ ts E s h => h σ H s⟩
theorem ds_brk {pos : Pos} : DS G (.Break pos) (evS M .brk) := ⟨tBreak, fun X _ => ps_break, fun H0 H σ ρ ts E s h => h σ H s⟩
theorem ds_cnt {pos : Pos} : DS G (.Continue pos) (evS M .cnt) := ⟨tCont, fun X _ => ps_continue, fun H0 H σ ρ ts E s h => h σ H s⟩
theorem dss_cons {st : Stmt} {rest : List Stmt} {a b : S} (h : DS G st (evS M a)) (r : DSs G rest (evS M b)) : DSs G (st :: rest) (evS M (.seq a b)) := by
  obtain ⟨t, p, m⟩ := h
  obtain ⟨u, q, n⟩ := r
  refine ⟨tSeq t u, fun X k => pss_cons (p X k) (q X k), fun H0 H σ ρ ts E s h => ?_⟩
  simp only [evS] at h
  refine m H0 H σ ρ ts _ s ?_
  cases e : evS M a ρ with
  | nx ρ' => rw [e] at h; exact fun σ' H' s' => n H0 H' σ' ρ' ts E s' h
  | bk ρ' => rw [e] at h; exact h
  | ct ρ' => rw [e] at h; exact h
  | rt d => rw [e] at h; exact h
  | err c ρ' => rw [e] at h; exact h
  | stuck => rw [e] at h; exact h
theorem dss_one {st : Stmt} {a : S} (h : DS G st (evS M a)) : DSs G [st] (evS M a) := by
  obtain ⟨t, p, m⟩ := h
  exact ⟨t, fun X k => pss_one (p X k), m⟩
theorem ds_set {i : Nat} {x : Str} {e : Expr} {pos pos' : Pos} {c : E} (hx : stoN G i x) (h : DE G e (evE M c)) (hs : ∀ X, CtxOk G X → swapsWith e (some (.Name x pos')) pos.line X.env = pure false) : DS G (.Assign [.Name x pos'] e pos) (evS M (.set i c)) := by
  obtain ⟨t, p, m⟩ := h
  refine ⟨tAsg t (gName i), fun X k => ?_, fun H0 H σ ρ ts E s h => ?_⟩
  · have q := k.sto x hx.2
    exact ps_set (by rw [k.N]; exact k.nod) (by rw [k.N]; exact hx.1) q.1 (p X k) (hs X k) q.2
  · simp only [evS] at h
    exact m H0 H σ ρ ts _ s (h.toFR.imp fun d ρ' h v H' s' => h _ H' (s'.store i))
theorem ds_setT {tg e : Expr} {pos : Pos} {g : Tg} {c : E} (hg : DG G tg g) (h : DE G e (evE M c)) (hs : ∀ X, CtxOk G X → swapsWithSole [tg] e pos.line X.env = pure false) (hw : ∀ X, CtxOk G X → swappedStores [tg] e X.env = pure none) (h1 : ∀ env, (assignEach [tg] env).map (·.2) = [assign tg env]) : DS G (.Assign [tg] e pos) (evS M (.setT g c)) := by
  obtain ⟨t, p, m⟩ := h
  obtain ⟨g', q, n⟩ := hg
  refine ⟨tAsg t g', fun X k => ps_asg (p X k) (q X k) (hs X k) (hw X k) (h1 _), fun H0 H σ ρ ts E s h => ?_⟩
  simp only [evS] at h
  refine m H0 H σ ρ ts _ s (h.toFR.imp fun d ρ' h v H' s' => ?_)
  cases e : g.set d.dem ρ' with
  | none => rw [e] at h; exact h.elim
  | some ρ2 =>
    rw [e] at h
    exact n H0 H' σ ρ' ρ2 ts v d.dem _ d.dem_noOwn s'.demTop e fun σ' s2 _ _ => h σ' H' s2
theorem ds_expr {e : Expr} {pos : Pos} {c : E} (h : DE G e (evE M c)) (hs : ∀ X, CtxOk G X → swapsWith e none pos.line X.env = pure false) : DS G (.Expr e pos) (evS M (.expr c)) := by
  obtain ⟨t, p, m⟩ := h
  refine ⟨tDrop t, fun X k => ps_expr (p X k) (hs X k), fun H0 H σ ρ ts E s h => ?_⟩
  simp only [evS] at h
  exact m H0 H σ ρ ts _ s (h.toFR.imp fun d ρ' h v H' s' => h _ H' s'.drop)
/-- the slot's value leaves it -/
theorem SS.take {H0 H : Hp} {σ : L2.St} {ρ : DEnv} {ts : List (V × D)} (i : Nat) {d : D} (s : SS H0 H σ ρ ts) (e : ρ[i]? = some (some d)) : ∃ v, σ[i]? = some (some v) ∧ SS H0 H σ (ρ.set i none) ((v, d) :: ts) := by
  obtain ⟨w, sid, tid, s⟩ := s
  obtain ⟨v, k, e1, e2, r⟩ := s.slot i d e
  obtain ⟨j, hj⟩ := fresh_id (sid ++ tid)
  have his : i < sid.length := (List.getElem?_eq_some_iff.mp e2).1
  have ks : k ∈ sid := List.mem_of_getElem? e2
  simp only [List.mem_append, not_or] at hj
  have nd := s.nod
  rw [List.nodup_append] at nd
  obtain ⟨n1, n2, n3⟩ := nd
  have kt : k ∉ tid := fun h => n3 k ks k h rfl
  refine ⟨v, e1, w, sid.set i j, k :: tid, s.same, fun p l h => ?_, ?_, by simp [s.slen], by simp [s.len], fun a d' h => ?_, r, s.tmp⟩
  · obtain ⟨h1, h0, k2, h2, h3⟩ := s.dom p l h
    refine ⟨h1, h0, k2, h2, ?_⟩
    simp only [List.mem_append, List.mem_cons] at h3 ⊢
    rcases h3 with h3 | h3
    · obtain ⟨a, ha⟩ := List.getElem?_of_mem h3
      by_cases hia : i = a
      · subst hia
        rw [e2] at ha; cases ha
        exact .inr (.inl rfl)
      · exact .inl (List.mem_of_getElem? (i := a) (by rw [List.getElem?_set_ne hia]; exact ha))
    · exact .inr (.inr h3)
  · rw [List.nodup_append]
    refine ⟨nodup_of_ix fun a b hab hb he => ?_, List.nodup_cons.mpr ⟨kt, n2⟩, fun a ha b hb q => ?_⟩
    · rw [List.length_set] at hb
      by_cases h1 : i = a
      · subst h1
        rw [List.getElem?_set_self his, List.getElem?_set_ne (by omega)] at he
        exact hj.1 (List.mem_of_getElem? he.symm)
      · by_cases h2 : i = b
        · subst h2
          rw [List.getElem?_set_self his, List.getElem?_set_ne (by omega)] at he
          exact hj.1 (List.mem_of_getElem? he)
        · rw [List.getElem?_set_ne h1, List.getElem?_set_ne h2] at he
          have := (List.getElem?_inj (by omega) n1).mp he
          omega
    · subst q
      obtain ⟨c, hc⟩ := List.getElem?_of_mem ha
      rcases set_get hc with ⟨_, rfl⟩ | ⟨hic, hc⟩
      · rcases List.mem_cons.mp hb with rfl | hb
        · exact hj.1 ks
        · exact hj.2 hb
      · rcases List.mem_cons.mp hb with rfl | hb
        · exact hic ((List.getElem?_inj his n1).mp (by rw [e2, hc]))
        · exact n3 a (List.mem_of_getElem? hc) a hb rfl
  · rcases set_get h with ⟨_, h⟩ | ⟨hia, h⟩
    · cases h
    · obtain ⟨v', k', q1, q2, r'⟩ := s.slot a d' h
      exact ⟨v', k', q1, by rw [List.getElem?_set_ne hia]; exact q2, r'⟩
theorem ds_ret {e : Expr} {pos : Pos} {c : E} (h : DE G e (evE M c)) (hv : ∀ i, c = .var i → ∃ x p, e = .Name x p ∧ visN G i x) : DS G (.Return (some e) pos) (evS M (.ret c)) := by
  by_cases hc : ∃ i, c = .var i
  · obtain ⟨i, rfl⟩ := hc
    obtain ⟨x, p, rfl, vx⟩ := hv i rfl
    refine ⟨tRet (tVar i), fun X k => ps_ret (vx.pe X k), fun H0 H σ ρ ts E s h => ?_⟩
    simp only [evS, evRet] at h
    split at h
    case h_2 => exact h.elim
    case h_1 d e =>
    obtain ⟨v, e1, s'⟩ := s.take i e
    split at h
    case isFalse => exact h.elim
    case isTrue n => exact ⟨v, e1, h v H (s'.ret n)⟩
  · obtain ⟨t, p, m⟩ := h
    refine ⟨tRet t, fun X k => ps_ret (p X k), fun H0 H σ ρ ts E s h => ?_⟩
    have e : evS M (.ret c) ρ = (evE M c ρ).toFR fun d _ => if d.noAny = true then .rt d else .stuck := by
      simp only [evS]
      unfold evRet
      cases c <;> first | rfl | exact absurd ⟨_, rfl⟩ hc
    rw [e] at h
    refine m H0 H σ ρ ts _ s (h.toFR.imp fun d ρ' h v H' s' => ?_)
    split at h
    case isFalse => exact h.elim
    case isTrue n => exact h v H' (s'.ret n)
theorem resNon {H H' : Hp} (s : Same H H') : ResOk H .non H' .non := ⟨s, rfl, ⟨fun _ => none, ⟨fun _ _ h => (by cases h), Rep.non⟩⟩⟩
theorem SS.same {H0 H : Hp} {σ : L2.St} {ρ : DEnv} {ts : List (V × D)} (s : SS H0 H σ ρ ts) : Same H0 H := by
  obtain ⟨_, _, _, s⟩ := s
  exact s.same
theorem ds_retN {pos : Pos} : DS G (.Return none pos) (evS M .retN) := ⟨tRetN, fun X _ => ps_retN, fun H0 H σ ρ ts E s h => h _ H (resNon s.same)⟩
theorem thn_q {H0 H : Hp} {σ : L2.St} {ρ : DEnv} {t : TT} {f : DEnv → R D} {ts : List (V × D)} {Q : Bool → Hp → Prop} (m : MeanT G t f) (s : SS H0 H σ ρ ts) (h : Thn G H0 σ ts (evQ false f ρ) fun b ρ' => ∀ H', SS H0 H' σ ρ' ts → Q b H') : t σ H Q := by
  have h : Thn G H0 σ ts ((f ρ).bind fun d ρ3 => match d.tru with
    | some b => .ok b ρ3
    | none => .stuck) fun b ρ' => ∀ H', SS H0 H' σ ρ' ts → Q b H' := h
  refine m H0 H σ ρ ts Q s (h.bind.imp fun d ρ' h => ?_)
  cases e : d.tru with
  | none => rw [e] at h; exact h.elim
  | some b => rw [e] at h; exact ⟨b, rfl, h⟩
theorem ds_if {c : Expr} {a b : List Stmt} {pos : Pos} {q : E} {x y : S} (hc : DT G c (evE M q)) (ha : DSs G a (evS M x)) (hb : DSs G b (evS M y)) : DS G (.If c a b pos) (evS M (.ife q x y)) := by
  obtain ⟨t, p, m⟩ := hc
  obtain ⟨ta, pa, ma⟩ := ha
  obtain ⟨tb, pb, mb⟩ := hb
  refine ⟨tIfS t ta tb, fun X k => ps_if (p X k) (pa X k) (pb X k), fun H0 H σ ρ ts E s h => ?_⟩
  simp only [evS] at h
  refine thn_q m s (h.toFR.imp fun k ρ' h H' s' => ?_)
  cases k with
  | true =>
    rw [if_pos rfl] at h ⊢
    exact ma H0 H' σ ρ' ts E s' h
  | false =>
    rw [if_neg Bool.false_ne_true] at h ⊢
    exact mb H0 H' σ ρ' ts E s' h
theorem setAll_len : ∀ (is : List Nat) (ds : List D) (ρ ρ' : DEnv), setAll is ds ρ = some ρ' → ρ'.length = ρ.length
  | [], [], ρ, ρ', h => by simp only [setAll, Option.some.injEq] at h; rw [h]
  | i :: is, d :: ds, ρ, ρ', h => by simp only [setAll] at h; rw [setAll_len is ds _ _ h, List.length_set]
  | [], _ :: _, ρ, ρ', h => by simp [setAll] at h
  | _ :: _, [], ρ, ρ', h => by simp [setAll] at h
theorem SS.forgetE {H0 H : Hp} {σ : L2.St} {ρ : DEnv} {ts : List (V × D)} (s : SS H0 H σ ρ ts) (is : List Nat) : SS H0 H σ (wipeE ρ is) ts :=
  s.sig (wipeE_length ρ is) rfl fun j d e => ⟨(wipeE_some e).1, rfl⟩
theorem ds_for (cm : G.calm = true) {tg iter : Expr} {body : List Stmt} {pos : Pos} {k : Wk} {src : E} {g : Tg} {b : S} (hi : DI G tg iter (evI M k src)) (hg : DG G tg g) (hb : DSs G body (evS M b)) (hp : plainIter iter = true) : DS G (.For tg iter body [] pos) (evS M (.forS k src g b)) := by
  obtain ⟨wi, pi, mi⟩ := hi
  obtain ⟨g', pg, mg⟩ := hg
  obtain ⟨tb, pb, mb⟩ := hb
  refine ⟨tFor wi g' tb, fun X k => ps_for k.own (k.calm.trans cm) (pi X k) (pg X k) (pb X k) (plainIter_of hp), fun H0 H σ ρ ts E s h => ?_⟩
  simp only [evS] at h
  refine mi H0 H σ ρ ts _ s (h.toFR.imp fun xs ρ1 h J H1 nt s1 w => ?_)
  refine ⟨fun i m σ H => m = xs.length - i ∧ i ≤ xs.length ∧ ∃ ρi, SS H0 H σ ρi (nt ++ ts) ∧ evFor g (evS M b) (xs.drop i) ρi = evFor g (evS M b) xs ρ1, ⟨xs.length, by simp, Nat.zero_le _, ρ1, s1, by rw [List.drop_zero]⟩, ?_⟩
  rintro i m σi Hi ⟨rfl, hi, ρi, si, ei⟩
  by_cases hlt : i < xs.length
  · have hx : xs[i]? = some xs[i] := by simp [hlt]
    rw [List.drop_eq_getElem_cons hlt] at ei
    refine .inr ⟨w.go Hi _ _ _ si i _ hx, fun σ' H' => ∃ ρi, SS H0 H' σ' ρi (nt ++ ts) ∧ evFor g (evS M b) (xs.drop (i + 1)) ρi = evFor g (evS M b) xs ρ1, fun σ' H' n => ⟨xs.length - (i + 1), by omega, rfl, hlt, n⟩, fun x H' y => ?_⟩
    have sx := w.yld Hi _ _ _ si i _ hx x H' y
    rw [← ei] at h
    simp only [evFor] at h ei
    cases eset : g.set xs[i] ρi with
    | none => rw [eset] at h; exact h.elim
    | some ρ2 =>
    have hno : xs[i].noOwn = true := by
      have := w.shr
      rw [alls_all, List.all_eq_true] at this
      exact this _ (List.getElem_mem hlt)
    refine mg H0 H' _ ρi ρ2 _ x xs[i] _ hno sx eset fun σ2 s2 _ _ => ?_
    rw [eset] at h ei
    simp only [] at h ei
    refine mb H0 H' σ2 ρ2 _ _ s2 ?_
    cases er : evS M b ρ2 with
    | nx ρ3 => rw [er] at ei; exact fun σ3 H3 s3 => ⟨ρ3, s3, ei⟩
    | ct ρ3 => rw [er] at ei; exact fun σ3 H3 s3 => ⟨ρ3, s3, ei⟩
    | bk ρ3 => rw [er] at h; exact fun σ3 H3 s3 => h σ3 H3 ((SS.drops s3).forgetE _)
    | rt d => rw [er] at h; exact h
    | err c ρ3 => rw [er] at h; exact fun σ3 H3 s3 => h σ3 H3 (SS.drops s3)
    | stuck => rw [er] at h; exact h
  · have e : i = xs.length := by omega
    subst e
    rw [List.drop_length] at ei
    rw [← ei] at h
    exact .inl ⟨w.stop Hi _ _ _ si _ (Nat.le_refl _), h _ _ ((SS.drops si).forgetE _)⟩
theorem ds_while {c : Expr} {body : List Stmt} {pos : Pos} {n : Nat} {q : E} {b : S} (hc : DT G c (evE M q)) (hb : DSs G body (evS M b)) : DS G (.While c body [] pos) (evS M (.whl n q b)) := by
  obtain ⟨t, p, m⟩ := hc
  obtain ⟨tb, pb, mb⟩ := hb
  refine ⟨tWhile t tb, fun X k => ps_while k.own (p X k) (pb X k), fun H0 H σ ρ ts E s h => ?_⟩
  simp only [evS] at h
  refine ⟨fun k σ H => ∃ ρi, SS H0 H σ ρi ts ∧ evWhl (evE M q) (evS M b) k ρi = evWhl (evE M q) (evS M b) n ρ, ⟨n, ρ, s, rfl⟩, ?_⟩
  rintro k σi Hi ⟨ρi, si, ei⟩
  rw [← ei] at h
  cases k with
  | zero => exact h.elim
  | succ k =>
    simp only [evWhl] at h ei
    have h' : Thn G H0 σi ts (evQ false (evE M q) ρi) _ := h.toFR
    refine thn_q m si (h'.val fun bb ρ1 e1 h H1 s1 => ?_)
    rw [e1, R.toFR_ok] at ei
    cases bb with
    | false =>
      rw [if_neg Bool.false_ne_true] at h ⊢
      exact h σi H1 s1
    | true =>
      rw [if_pos rfl] at h ei ⊢
      refine ⟨fun σ' H' => ∃ ρi, SS H0 H' σ' ρi ts ∧ evWhl (evE M q) (evS M b) k ρi = evWhl (evE M q) (evS M b) n ρ, fun σ' H' x => ⟨k, Nat.lt_succ_self k, x⟩, ?_⟩
      refine mb H0 H1 σi ρ1 ts _ s1 ?_
      cases er : evS M b ρ1 with
      | nx ρ3 => rw [er] at ei; exact fun σ3 H3 s3 => ⟨ρ3, s3, ei⟩
      | ct ρ3 => rw [er] at ei; exact fun σ3 H3 s3 => ⟨ρ3, s3, ei⟩
      | bk ρ3 => rw [er] at h; exact h
      | rt d => rw [er] at h; exact h
      | err c ρ3 => rw [er] at h; exact h
      | stuck => rw [er] at h; exact h
theorem ds_aug {i : Nat} {x : Str} {e : Expr} {pos pos' : Pos} {c : E} {neg : Bool} {op : Operator} (ho : op = if neg then .Sub else .Add) (hx : stoN G i x) (h : DE G e (evE M c)) : DS G (.AugAssign (.Name x pos') op e pos) (evS M (.aug neg i c)) := by
  obtain ⟨t, p, m⟩ := h
  refine ⟨tAug i t (ipI fun a b => if neg then a - b else a + b), fun X k => ?_, fun H0 H σ ρ ts E s h => ?_⟩
  · have q := k.sto x hx.2
    refine ps_aug (by rw [k.N]; exact k.nod) (by rw [k.N]; exact hx.1) q.1 (p X k) ?_ q.2
    subst ho
    cases neg with
    | true => exact ip_sub
    | false => exact ip_add
  · simp only [evS] at h
    split at h
    case h_2 => exact h.elim
    case h_1 n0 e0 =>
    have hv : σ[i]? = some (some (.int n0)) := by
      obtain ⟨w, sid, tid, s1⟩ := s
      obtain ⟨v, k, e1, _, r⟩ := s1.slot i _ e0
      cases r
      exact e1
    refine ⟨.int n0, hv, m H0 H σ ρ ts _ s (h.toFR.imp fun d ρ' h v H' s' => ?_)⟩
    split at h
    case h_2 => exact h.elim
    case h_1 n1 =>
    obtain ⟨w, sid, tid, k, s2, r⟩ := SS.topr (nt := []) s'
    cases r
    exact ⟨n0, n1, rfl, rfl, h _ _ ((s'.drop.int _).store i)⟩
def bareBase : Expr → Bool
  | .Call _ _ _ _ => false
  | _ => true
/-- x.append(e), x a name -/
theorem ds_app {i : Nat} {x : Str} {e : Expr} {p1 apos cpos pos : Pos} {c : E} (vx : visN G i x) (h : DE G e (evE M c)) (n : notStar e = true) (hl : (apos.endLine == cpos.line) = true) : DS G (.Expr (.Call (.Attribute (.Name x p1) "append" apos) [e] [] cpos) pos) (evS M (.app i c)) := by
  obtain ⟨t, p, m⟩ := h
  refine ⟨tDrop (tBM G.K "list" rAppend (tVar i) (tCons t tNil)), fun X k => ?_, fun H0 H σ ρ ts E s h => ?_⟩
  · refine ps_expr ?_
    rw [← k.K]
    refine pe_bm PySem.F.plainAttrs_list PySem.F.slot_list_append PySem.F.type_list_append mt_append (vx.pe X k) (pa_cons (p X k) pa_nil (starEach_cons n)) rfl ?_ hl (starEach_cons n) rfl
    rw [starEach_cons n]
    rfl
  · simp only [evS] at h
    split at h
    case h_2 => exact h.elim
    case h_1 xs0 e0 =>
    obtain ⟨w, sid, tid, s1⟩ := id s
    obtain ⟨v, k, e1, e2, r⟩ := s1.slot i _ e0
    cases r with
    | @lst _ a _ vs0 _ at_ g r b =>
    refine ⟨.ref a, e1, .inl ⟨rfl, vs0, .inl at_.rd⟩, ?_⟩
    refine m H0 H σ ρ ts _ s (h.toFR.imp fun d ρ' h y H' s' => ?_)
    split at h
    case h_2 => exact h.elim
    case h_1 xs e3 =>
    split at h
    case isFalse => exact h.elim
    case isTrue hb =>
    have sd := s'.demTop
    obtain ⟨a', vs, q1, q2, q3, q4, q5⟩ := sd.ownL e3
    rw [e1] at q1
    cases q1
    refine ⟨a, vs, y, rfl, rfl, q2, by have := big_line; omega, ?_⟩
    refine h σ _ (SS.drop (q5 (vs ++ [y]) (xs ++ [d.dem]) (by simpa using hb) fun w k rr ⟨sid, tid, s2⟩ => ?_))
    obtain ⟨k2, ks, _, ry, _⟩ := s2.top
    exact rr.append (.cons (ry.trS KeepS.refl d.dem_noOwn) .nil)
/-- a class of errors -/
structure RaiN (G : SG) (c : Nat) (x : Str) : Prop where
  hg : G.sc.names.lookup x = some .globalImplicit
  hd : (x == ("__debug__" : Str)) = false
  ok : ∃ C : Addr, G.cv c = .ref C ∧ G.mg x = some (.ref C) ∧ PySem.W.keepIn G.K (.ref C) = true ∧ PySem.W.excIn G.K C [.type "ValueError", .type "Exception", .type "BaseException", .type "object"] "ValueError.__new__" = true ∧
    PySem.W.subIn G.K (.ref C) (.type "BaseException") = some true ∧ PySem.W.typeIn G.K (.ref C) = some (.type "type")
theorem ds_rai (cm : G.calm = true) {c : Nat} {x m : Str} {j : Nat} {p p2 p3 pos : Pos} (h : RaiN G c x) : DS G (.Raise (some (.Call (.Name x p) [.Constant (.str m) j p2] [] p3)) none pos) (evS M (.rai c)) := by
  obtain ⟨hg, hd, C, h1, h2, h3, h4, h5, h6⟩ := h
  refine ⟨fun _ σ H => G.W (.ref C) none σ H, fun X k => ?_, fun H0 H σ ρ ts E s h => ?_⟩
  · exact ps_raise (k.calm.trans cm) k.takes (pmk_own PySem.F.excBase_ValueError (by rw [k.K]; exact h4) (by rw [k.mg]; exact h2) (by rw [k.K]; exact h3) (raises_own (by rw [k.K]; exact h5) (by rw [k.K]; exact h6)) (by show X.env.scope.names.lookup x = _; rw [k.sc]; exact hg) hd)
  · have h : ∀ σ H, SS H0 H σ ρ ts → G.W (G.cv c) none σ H := h
    rw [h1] at h
    exact h σ H s

/-! ### defs -/
/-- a def's ground: what is known of all code of the program -/
structure SP0 where
  P : Program
  w : World
  K : PySem.W.Frag
  mg : Str → Option Value
  base : Heap
  M : Sem
  kl : ∀ p vs, KLs.kl p vs → KLst K p vs
def SP0.sg (g : SP0) (N : List Str) (sc : Scope) (lv : Nat) (W : L2.WX) : SG := ⟨g.P, g.w, g.K, g.mg, g.base, N, sc, fun x => sc.names.lookup x == some .local || sc.names.lookup x == some .cell, lv, W, true, true, g.M, g.kl⟩
def initE (N : List Str) (ds : List D) : DEnv := ds.map some ++ List.replicate (N.length - ds.length) none
/-- how a body's end answers a call -/
def FR.cr : FR → CR
  | .rt d => .ok d
  | .nx _ => .ok .non
  | .err c _ => .err c
  | _ => .stuck
theorem sta_start {H : Hp} {N : List Str} {vs : List V} {ds : List D} (r : Reps H H (fun _ => none) [] 0 vs ds) (n : alls Tag.noOwn ds = true) (hN : vs.length ≤ N.length) : SS H H (start N vs) (initE N ds) [] := by
  have hl := r.length
  refine ⟨fun _ => none, List.range N.length, [], ⟨Same.refl H, fun p l e => (by cases e), by rw [List.append_nil]; exact List.nodup_range, ?_, ?_, fun i d e => ?_, trivial⟩⟩
  · simp only [initE, List.length_range, List.length_append, List.length_map, List.length_replicate]; omega
  · simp only [initE, L2.start, List.length_append, List.length_map, List.length_replicate]; omega
  · unfold initE at e
    by_cases hi : i < ds.length
    · rw [List.getElem?_append_left (by simpa using hi), List.getElem?_map] at e
      cases q : ds[i]? with
      | none => rw [q] at e; cases e
      | some d' =>
        rw [q] at e
        cases e
        obtain ⟨v, ev, rv⟩ := r.get q
        refine ⟨v, i, ?_, by rw [List.getElem?_range (by omega)], rv.trS KeepS.refl ?_⟩
        · unfold L2.start
          rw [List.getElem?_append_left (by simp; omega), List.getElem?_map, ev]
          rfl
        · rw [alls_all, List.all_eq_true] at n
          exact n d (List.mem_of_getElem? q)
    · rw [List.getElem?_append_right (by simpa using Nat.le_of_not_lt hi)] at e
      have := List.mem_of_getElem? e
      rw [List.mem_replicate] at this
      cases this.2
def Tag.isAny : Tag → Bool
  | .any => true
  | _ => false
theorem at_any {H : Hp} {l : Lab} {p : Addr} {t : Tag} {u : HO} (a : AtT t H p u) (g : TagOk H (fun _ => none) l p t) : t.isAny = true := by
  cases t with
  | own => cases g.2
  | new =>
    obtain ⟨o, ho, _⟩ := rd_some a.rd
    rw [g.1] at ho; cases ho
  | any => rfl
mutual
theorem Rep.isAny {H : Hp} : ∀ {l : Lab} {v : V} {d : D}, Rep H H (fun _ => none) l v d → d.all Tag.isAny = true
  | _, _, _, .non => rfl
  | _, _, _, .bl => rfl
  | _, _, _, .int => rfl
  | _, _, _, .str _ => rfl
  | _, _, _, .lst a g r _ => by simp only [D.all, at_any a g, r.isAny, Bool.and_self]
  | _, _, _, .lstK a r _ => by simp only [D.all, r.isAny, Tag.isAny, Bool.and_self]
  | _, _, _, .tup a r => by simp only [D.all, r.isAny]
  | _, _, _, .exc _ => rfl
  | _, _, _, .dK a g _ r => by simp only [D.all, at_any a g, r.isAny, Bool.and_self]
  | _, _, _, .dT a g _ r => by simp only [D.all, at_any a g, r.isAny, Bool.and_self]
theorem Reps.isAny {H : Hp} : ∀ {l : Lab} {i : Nat} {vs : List V} {ds : List D}, Reps H H (fun _ => none) l i vs ds → alls Tag.isAny ds = true
  | _, _, _, _, .nil => rfl
  | _, _, _, _, .cons h t => by simp only [alls, h.isAny, t.isAny, Bool.and_self]
end
mutual
theorem D.all_imp {p q : Tag → Bool} (h : ∀ t, p t = true → q t = true) : ∀ d : D, d.all p = true → d.all q = true
  | .non, _ => rfl
  | .bl _, _ => rfl
  | .int _, _ => rfl
  | .str _, _ => rfl
  | .exc _, _ => rfl
  | .lst t xs, e => by simp only [D.all, Bool.and_eq_true] at e ⊢; exact ⟨h t e.1, alls_imp h xs e.2⟩
  | .tup xs, e => by simp only [D.all] at e ⊢; exact alls_imp h xs e
  | .dK t ks vs, e => by simp only [D.all, Bool.and_eq_true] at e ⊢; exact ⟨h t e.1, alls_imp h vs e.2⟩
  | .dT t ks vs, e => by simp only [D.all, Bool.and_eq_true] at e ⊢; exact ⟨h t e.1, alls_imp h vs e.2⟩
theorem alls_imp {p q : Tag → Bool} (h : ∀ t, p t = true → q t = true) : ∀ ds : List D, alls p ds = true → alls q ds = true
  | [], _ => rfl
  | d :: ds, e => by simp only [alls, Bool.and_eq_true] at e ⊢; exact ⟨D.all_imp h d e.1, alls_imp h ds e.2⟩
end
theorem any_noOwn {ds : List D} (h : alls Tag.isAny ds = true) : alls Tag.noOwn ds = true := alls_imp (by intro t; cases t <;> first | (intro _; rfl) | (intro h; cases h)) ds h
/-- a def's context -/
theorem ctx_def {g : SP0} {N : List Str} {qual : Str} {sc : Scope} {f : Addr} {cd : Value} {A : Around} {outer : List PySem.Env} {s : Shared} {H : Hp} {E : XK} {k : Nat} (nd : N.Nodup) (hr : Room k (A.deeper (envOfC qual sc s.heap.objs.size f cd))) :
    CtxOk (g.sg N sc k fun cls d _ H => E cls d H) (cxOf (L2.CX g.P g.w) g.P g.w g.K g.mg g.base N qual sc f cd A outer s H E) where
  prog := rfl
  w := rfl
  K := rfl
  mg := rfl
  base := rfl
  N := rfl
  sc := rfl
  nod := nd
  calm := rfl
  room := fun _ => hr
  u64 := hr.units
  top := fun _ => ⟨rfl, rfl, rfl⟩
  takes := takes_of rfl rfl rfl rfl
  own := passes_of rfl
  sto := fun x h => by
    have h' : (sc.names.lookup x == some .local || sc.names.lookup x == some .cell) = true := h
    simp only [Bool.or_eq_true, beq_iff_eq] at h'
    exact ⟨h', .inl rfl⟩
/-- THE RULE for a def: its meaning φ is what its body comes to -/
theorem fn_ok {g : SP0} {x qual : Str} {st : Stmt} {f : Addr} {fd : FuncData} {N ps : List Str} {k : Nat} {φ : List D → CR} {b : S} (F : Fun g.K x qual st f fd) (S : FnScope N ps (defScope st))
    (hb : ∀ W, DSs (g.sg N (defScope st) k W) (defBody st) (evS g.M b)) (hp : ps.length ≤ N.length)
    (hφ : ∀ ds, ds.length = ps.length → alls Tag.isAny ds = true → φ ds = .stuck ∨ φ ds = (evS g.M b (initE N ds)).cr) :
    FnOk g.P g.w g.K g.mg g.base (L2.CX g.P g.w) (k + 1) f fd ps (spOf KLs.cv ps.length φ) := by
  refine F.okX S (fun vs H Q E h => ?_) (fun cdv A outer s H vs Q E hr h => ?_)
  · obtain ⟨ds, r, hl, _⟩ := h
    rw [r.length, hl]
  · obtain ⟨ds, r, hl, h⟩ := h
    obtain ⟨t, p, m⟩ := hb fun cls d _ H => E cls d H
    refine ⟨t, p _ (ctx_def S.nd hr), ?_⟩
    have s0 := sta_start (N := N) r (any_noOwn r.isAny) (by rw [r.length, hl]; exact hp)
    refine m H H _ _ [] _ s0 ?_
    rcases hφ ds hl r.isAny with e | e
    · rw [e] at h; exact h.elim
    · rw [e] at h
      cases q : evS g.M b (initE N ds) with
      | nx ρ => rw [q] at h; exact fun σ' H' s' => h _ H' (resNon s'.same)
      | bk ρ => rw [q] at h; exact h.elim
      | ct ρ => rw [q] at h; exact h.elim
      | rt d => rw [q] at h; exact h
      | err c ρ => rw [q] at h; exact fun σ' H' s' => h H' s'.same
      | stuck => rw [q] at h; exact h
end
end Sd

namespace Sd
open PySem PySem.Spec PyProof.Rows L2
variable [KLs]

/-! ### values as data -/
section
variable {G : SG}
mutual
theorem Rep.dp {H0 H : Hp} {w : Own} : ∀ {l : Lab} {v : V} {d : D} {n : Nat}, Rep H0 H w l v d → d.dat n = true → Dp G.K H v d.py
  | _, _, _, _, .non, _ => .non
  | _, _, _, _, .bl, _ => .bl _
  | _, _, _, _, .int, _ => .int _
  | _, _, _, _, .str _, _ => .str _
  | _, _, _, 0, .lst _ _ _ _, h => by simp [D.dat] at h
  | _, _, _, n + 1, .lst a g r _, h => by
    simp only [D.dat] at h
    exact .lst (.inl a.rd) (r.dpa h)
  | _, _, _, 0, .lstK _ _ _, h => by simp [D.dat] at h
  | _, _, _, n + 1, .lstK a r _, h => by
    simp only [D.dat] at h
    exact .lst (.inr (G.kl _ _ a)) (r.dpa h)
  | _, _, _, 0, .tup _ _, h => by simp [D.dat] at h
  | _, _, _, n + 1, .tup a r, h => by
    simp only [D.dat] at h
    exact .tup (.inl (.inl a)) (r.dpa h)
  | _, _, _, _, .exc _, h => by simp [D.dat] at h
  | _, _, _, _, .dK _ _ _ _, h => by simp [D.dat] at h
  | _, _, _, _, .dT _ _ _ _, h => by simp [D.dat] at h
theorem Reps.dpa {H0 H : Hp} {w : Own} : ∀ {l : Lab} {i : Nat} {vs : List V} {ds : List D} {n : Nat}, Reps H0 H w l i vs ds → dats n ds = true → DpAll G.K H vs (pys ds)
  | _, _, _, _, _, .nil, _ => .nil
  | _, _, _, _, n, .cons h t, e => by
    simp only [dats, Bool.and_eq_true] at e
    exact .cons (h.dp e.1) (t.dpa e.2)
end
theorem Rep.sql {H0 H : Hp} {w : Own} {l : Lab} {v : V} {t : Tag} {xs : List D} (r : Rep H0 H w l v (.lst t xs)) : ∃ p vs, v = .ref p ∧ SqL G.K H p vs ∧ Reps H0 H w l 0 vs xs ∧ xs.length < big := by
  cases r with
  | lst a g r b => exact ⟨_, _, rfl, .inl a.rd, r, b⟩
  | lstK a r b => exact ⟨_, _, rfl, .inr (G.kl _ _ a), r, b⟩
theorem Rep.sqt {H0 H : Hp} {w : Own} {l : Lab} {v : V} {xs : List D} (r : Rep H0 H w l v (.tup xs)) : ∃ p vs, v = .ref p ∧ SqT G.K H p vs ∧ Reps H0 H w l 0 vs xs := by
  cases r with
  | tup a r => exact ⟨_, _, rfl, .inl (.inl a), r⟩
theorem Oprs.one {H0 H : Hp} {w : Own} {vs : List V} {d : D} (o : Oprs H0 H w vs [d]) : ∃ v k, vs = [v] ∧ Rep H0 H w [k] v d ∧ d.inOk = true := by
  cases o with
  | cons r n t => cases t; exact ⟨_, _, rfl, r, n⟩
theorem Oprs.two {H0 H : Hp} {w : Own} {vs : List V} {d e : D} (o : Oprs H0 H w vs [d, e]) : ∃ v u k j, vs = [v, u] ∧ Rep H0 H w [k] v d ∧ d.inOk = true ∧ Rep H0 H w [j] u e ∧ e.inOk = true := by
  cases o with
  | cons r n t =>
    cases t with
    | cons r' n' t' => cases t'; exact ⟨_, _, _, _, rfl, r, n, r', n'⟩
theorem VOk.of1 {r : V → Hp → VK → Prop} {o : Op} {f : D → Option D} (h0 : ∀ ds, evOp o ds = b1 f ds)
    (h : ∀ (H0 H : Hp) (w : Own) (sid tid : List Nat) (σ : L2.St) (ρ : DEnv) (ts : List (V × D)) (v : V) (k : Nat) (x d : D) (Q : VK), Sta H0 H w sid tid σ ρ ts → Rep H0 H w [k] v x → x.inOk = true → f x = some d → (∀ v H', SS H0 H' σ ρ ((v, d) :: ts) → Q v H') → r v H Q) : VOk (r1 r) o := by
  intro H0 H w sid tid σ ρ ts vs ds d Q s op e q
  rw [h0] at e
  obtain ⟨x, rfl, e⟩ := b1_some e
  obtain ⟨v, k, rfl, r, n⟩ := op.one
  exact h H0 H w sid tid σ ρ ts v k x d Q s r n e q
theorem VOk.of2 {r : R2} {o : Op} {f : D → D → Option D} (h0 : ∀ ds, evOp o ds = b2 f ds)
    (h : ∀ (H0 H : Hp) (w : Own) (sid tid : List Nat) (σ : L2.St) (ρ : DEnv) (ts : List (V × D)) (v u : V) (k j : Nat) (x y d : D) (Q : VK), Sta H0 H w sid tid σ ρ ts → Rep H0 H w [k] v x → x.inOk = true → Rep H0 H w [j] u y → y.inOk = true → f x y = some d → (∀ v H', SS H0 H' σ ρ ((v, d) :: ts) → Q v H') → r v u H Q) : VOk (r2 r) o := by
  intro H0 H w sid tid σ ρ ts vs ds d Q s op e q
  rw [h0] at e
  obtain ⟨x, y, rfl, e⟩ := b2_some e
  obtain ⟨v, u, k, j, rfl, r, n, r', n'⟩ := op.two
  exact h H0 H w sid tid σ ρ ts v u k j x y d Q s r n r' n' e q
theorem Sta.ss {H0 H : Hp} {w : Own} {sid tid : List Nat} {σ : L2.St} {ρ : DEnv} {ts : List (V × D)} (s : Sta H0 H w sid tid σ ρ ts) : SS H0 H σ ρ ts := ⟨_, _, _, s⟩

/-! ### comparisons of data -/
def rDat (C : PyData → PyData → Prop) (g : PyData → PyData → Bool) (K : PySem.W.Frag) : R2 := fun x y H Q => ∃ d e, Dp K H x d ∧ Dp K H y e ∧ C d e ∧ Q (.bl (g d e)) H
def cPl (d e : PyData) : Prop := d.plain = true ∧ e.plain = true ∧ d.depth ≤ 20
def cAl (d e : PyData) : Prop := PySem.W.alike d e = true ∧ d ≠ .none ∧ d.depth ≤ 20
theorem op_dat {X : Cx} {op : CmpOp} {C : PyData → PyData → Prop} {g : PyData → PyData → Bool}
    (rule : ∀ {s : Shared} {a b : Value} {da db : PyData} {as bs : List Addr} {Q : Value → Shared → Prop}, Reads s.heap a da as → Reads s.heap b db bs → C da db → Q (.bool (g da db)) s → wpAny (model X.prog X.w) X.A (compareOp op a b) Q X.xe s) : OpR X (compareOp op) (rDat C g X.K) := by
  intro pins s σ H x y v u Q I rx ry h
  obtain ⟨d, e, hd, he, hc, q⟩ := h
  obtain ⟨as, q1⟩ := Dp.reads I d x v hd rx
  obtain ⟨bs, q2⟩ := Dp.reads I e y u he ry
  exact rule q1 q2 hc ⟨.bl _, H, I, rfl, q⟩
theorem op_eqP {X : Cx} (hu : X.A.units + 64 < cLine) : OpR X (compareOp .Eq) (rDat cPl PyData.eqv X.K) :=
  op_dat fun ra rb c q => PySem.SeqAt.eq_plain ra rb c.1 c.2.1 (by have := c.2.2; omega) q
theorem op_neP {X : Cx} (hu : X.A.units + 64 < cLine) : OpR X (compareOp .NotEq) (rDat cPl (fun d e => !PyData.eqv d e) X.K) :=
  op_dat fun ra rb c q => PySem.SeqAt.ne_plain ra rb c.1 c.2.1 (by have := c.2.2; omega) q
theorem op_ltP {X : Cx} (hu : X.A.units + 64 < cLine) : OpR X (compareOp .Lt) (rDat cAl PySem.W.dataLt X.K) :=
  op_dat fun ra rb c q => PySem.W.lt_data ra rb c.1 c.2.1 (by have := c.2.2; omega) q
theorem op_gtP {X : Cx} (hu : X.A.units + 64 < cLine) : OpR X (compareOp .Gt) (rDat cAl (fun d e => PySem.W.dataLt e d) X.K) :=
  op_dat fun ra rb c q => PySem.W.gt_data ra rb c.1 c.2.1 (by have := c.2.2; omega) q
theorem op_leP {X : Cx} (hu : X.A.units + 64 < cLine) : OpR X (compareOp .LtE) (rDat cAl (fun d e => !PySem.W.dataLt e d) X.K) :=
  op_dat fun ra rb c q => PySem.W.le_data ra rb c.1 c.2.1 (by have := c.2.2; omega) q
theorem op_geP {X : Cx} (hu : X.A.units + 64 < cLine) : OpR X (compareOp .GtE) (rDat cAl (fun d e => !PySem.W.dataLt d e) X.K) :=
  op_dat fun ra rb c q => PySem.W.ge_data ra rb c.1 c.2.1 (by have := c.2.2; omega) q
theorem isNon_py {d : D} (h : d.isNon = false) : d.py ≠ .none := by
  cases d <;> first | (cases h; done) | (intro h; cases h)
theorem vok_eq : VOk (r2 (rDat cPl PyData.eqv G.K)) .eq := VOk.of2 (fun _ => rfl) fun H0 H w sid tid σ ρ ts v u k j x y d Q s r n r' n' e q => by
  simp only [opEq, opNe] at e
  split at e
  case isFalse => cases e
  case isTrue c =>
  cases e
  simp only [dat2, Bool.and_eq_true] at c
  exact ⟨_, _, r.dp c.1, r'.dp c.2, ⟨(D.dat_ok _ _ c.1).1, (D.dat_ok _ _ c.2).1, (D.dat_ok _ _ c.1).2⟩, q _ H (s.ss.bl _)⟩
theorem vok_ne : VOk (r2 (rDat cPl (fun d e => !PyData.eqv d e) G.K)) .ne := VOk.of2 (fun _ => rfl) fun H0 H w sid tid σ ρ ts v u k j x y d Q s r n r' n' e q => by
  simp only [opEq, opNe] at e
  split at e
  case isFalse => cases e
  case isTrue c =>
  cases e
  simp only [dat2, Bool.and_eq_true] at c
  exact ⟨_, _, r.dp c.1, r'.dp c.2, ⟨(D.dat_ok _ _ c.1).1, (D.dat_ok _ _ c.2).1, (D.dat_ok _ _ c.1).2⟩, q _ H (s.ss.bl _)⟩
theorem vok_ord {o : Op} {f : D → D → Option D} {g : PyData → PyData → Bool} (he : ∀ x y, f x y = if dat2 x y && x.alike y && !x.isNon then some (.bl (g x.py y.py)) else none) (h0 : ∀ ds, evOp o ds = b2 f ds) : VOk (r2 (rDat cAl g G.K)) o := VOk.of2 h0 fun H0 H w sid tid σ ρ ts v u k j x y d Q s r n r' n' e q => by
  rw [he] at e
  split at e
  case isFalse => cases e
  case isTrue c =>
  cases e
  simp only [dat2, Bool.and_eq_true, Bool.not_eq_true'] at c
  exact ⟨_, _, r.dp c.1.1.1, r'.dp c.1.1.2, ⟨c.1.2, isNon_py c.2, (D.dat_ok _ _ c.1.1.1).2⟩, q _ H (s.ss.bl _)⟩
theorem vok_lt : VOk (r2 (rDat cAl PySem.W.dataLt G.K)) .lt := vok_ord (fun _ _ => rfl) (fun _ => rfl)
theorem vok_gt : VOk (r2 (rDat cAl (fun d e => PySem.W.dataLt e d) G.K)) .gt := vok_ord (fun _ _ => rfl) (fun _ => rfl)
theorem vok_le : VOk (r2 (rDat cAl (fun d e => !PySem.W.dataLt e d) G.K)) .le := vok_ord (fun _ _ => rfl) (fun _ => rfl)
theorem vok_ge : VOk (r2 (rDat cAl (fun d e => !PySem.W.dataLt d e) G.K)) .ge := vok_ord (fun _ _ => rfl) (fun _ => rfl)
theorem Rep.exact {H0 H : Hp} {w : Own} {l : Lab} {v : V} {t : Tag} {xs : List D} (r : Rep H0 H w l v (.lst t xs)) (ht : t ≠ .any) : ∃ p vs, v = .ref p ∧ H p = some (.lst vs) ∧ Reps H0 H w l 0 vs xs ∧ xs.length < big := by
  cases r with
  | lst a g r b =>
    refine ⟨_, _, rfl, ?_, r, b⟩
    cases t with
    | own => exact a
    | new => exact a
    | any => exact absurd rfl ht
  | lstK a r b => exact absurd rfl ht
theorem big_le {n : Nat} (h : n < big) : n ≤ sizeLine := Nat.le_of_lt (Nat.lt_trans h big_line)
theorem Reps.sh {H0 H : Hp} {w : Own} {l : Lab} {i : Nat} {vs : List V} {ds : List D} (r : Reps H0 H w l i vs ds) (n : alls Tag.noOwn ds = true) (l' : Lab) (j : Nat) : Reps H0 H w l' j vs ds := r.trS KeepS.refl n
theorem alls_append (p : Tag → Bool) (xs ys : List D) : alls p (xs ++ ys) = (alls p xs && alls p ys) := by
  simp only [alls_all, List.all_append]
def rAddS : R2 := fun x y H Q => ∃ i j, x = .str i ∧ y = .str j ∧ i.length + j.length ≤ sizeLine ∧ Q (.str (i ++ j)) H
/-- a list and a list, wherever they stand -/
def rCatL (K : PySem.W.Frag) : R2 := fun x y H Q => ∃ l b xs zs, x = .ref l ∧ y = .ref b ∧ SqL K H l xs ∧ SqL K H b zs ∧ xs.length + zs.length ≤ sizeLine ∧ ∀ p, H p = none → Q (.ref p) (upd H p (.lst (xs ++ zs)))
theorem op_catL {X : Cx} : OpR X (binaryOp .Add) (rCatL X.K) := by
  intro pins s σ H x y v u Q I rx ry h
  obtain ⟨l, b, xs, zs, e1, e2, hx, hz, hs, q⟩ := h
  subst e1 e2
  cases rx
  cases ry
  obtain ⟨us, ru, ⟨o, n, ho, hc, hd, hdt⟩, _⟩ := I.list hx
  obtain ⟨ws, rw', ⟨o', n', ho', hc', hd', hdt'⟩, _⟩ := I.list hz
  obtain ⟨oc, od, oda, sl⟩ := o
  obtain ⟨oc', od', oda', sl'⟩ := o'
  dsimp only at hc hd hdt hc' hd' hdt'
  subst hc hd hdt hc' hd' hdt'
  have lu := ru.length
  have lw := rw'.length
  refine concat_meets ⟨_, ho, rfl⟩ ⟨_, ho', rfl⟩ noFill_list_add seq_list_add PySem.F.slot_list_add PySem.F.entry_list_add (PySem.F.args_list_add_2 _ _) (list_addW l b us.toArray ws.toArray n n' none none sl sl' (by rw [List.size_toArray, List.size_toArray]; omega)) ⟨ho, ho', ?_⟩
  have ea : us.toArray ++ ws.toArray = (us ++ ws).toArray := by simp
  rw [ea]
  exact ⟨.ref _, _, I.lnew (t' := s.toks) (ru.append rw') (by rw [List.length_append]; exact hs), rfl, q _ I.fresh⟩
def rAddA (K : PySem.W.Frag) : R2 := fun x y H Q => rI0 (fun i j => .int (i + j)) x y H Q ∨ rAddS x y H Q ∨ rCatL K x y H Q
theorem op_addA {X : Cx} : OpR X (binaryOp .Add) (rAddA X.K) := op_add.or (op_add_str.or op_catL)
theorem str_app (x y : List Nat) : (⟨x.toArray⟩ : Str) ++ (⟨y.toArray⟩ : Str) = ⟨(x ++ y).toArray⟩ := by
  show (⟨x.toArray ++ y.toArray⟩ : Str) = _
  simp
theorem str_len (x : List Nat) : (⟨x.toArray⟩ : Str).length = x.length := by
  show x.toArray.size = _
  simp
theorem vok_add : VOk (r2 (rAddA G.K)) .add := VOk.of2 (fun _ => rfl) fun H0 H w sid tid σ ρ ts v u k j x y d Q s r n r' n' e q => by
  unfold opAdd at e
  split at e
  · cases e; cases r; cases r'
    exact .inl ⟨_, _, rfl, rfl, q _ H (s.ss.int _)⟩
  · split at e
    case isFalse => cases e
    case isTrue c =>
    cases e
    cases r with
    | str b =>
    cases r' with
    | str b' =>
    refine .inr (.inl ⟨_, _, rfl, rfl, by rw [str_len, str_len]; exact big_le c, ?_⟩)
    rw [str_app]
    exact q _ H (s.ss.str (by simpa using c))
  · split at e
    case isFalse => cases e
    case isTrue c =>
    cases e
    obtain ⟨p, vs, rfl, hp, rr, _⟩ := r.sql (G := G)
    obtain ⟨p', vs', rfl, hp', rr', _⟩ := r'.sql (G := G)
    refine .inr (.inr ⟨p, p', vs, vs', rfl, rfl, hp, hp', by rw [rr.length, rr'.length]; exact big_le c, fun a ha => ?_⟩)
    exact q _ _ (s.newL ha ⟨[], 0, (rr.sh n [] 0).append (rr'.sh n' [] _), by rw [alls_append]; exact Bool.and_eq_true_iff.mpr ⟨n, n'⟩⟩ (by simpa using c))
  · cases e
theorem vok_sub : VOk (r2 (rI0 fun i j => .int (i - j))) .sub := VOk.of2 (fun _ => rfl) fun H0 H w sid tid σ ρ ts v u k j x y d Q s r n r' n' e q => by
  unfold opSub at e
  split at e
  · cases e; cases r; cases r'
    exact ⟨_, _, rfl, rfl, q _ H (s.ss.int _)⟩
  · cases e
theorem lim_eq : lim = 2 ^ 64 := by decide
def rMulS : R2 := fun x y H Q => ∃ (a : List Nat) (n : Int), x = .str ⟨a.toArray⟩ ∧ y = .int n ∧ -1000000 < n ∧ n < 1000000 ∧ a.length * n.toNat < big ∧ Q (.str ⟨(List.replicate n.toNat a).flatten.toArray⟩) H
theorem foldl_rep' (a : List Nat) : ∀ (m : Nat) (acc : List Nat), List.foldl (fun x1 x2 => x1 ++ x2) acc.toArray (List.replicate m a.toArray) = (acc ++ (List.replicate m a).flatten).toArray
  | 0, acc => by simp
  | m + 1, acc => by
    rw [List.replicate_succ, List.foldl_cons]
    have : acc.toArray ++ a.toArray = (acc ++ a).toArray := by simp
    rw [this, foldl_rep' a m]
    simp [List.replicate_succ]
theorem op_mulS {X : Cx} : OpR X (binaryOp .Mult) rMulS := by
  intro pins s σ H x y v u Q I rx ry h
  obtain ⟨a, n, rfl, rfl, h1, h2, h3, q⟩ := h
  obtain ⟨t, rfl⟩ := rx
  obtain ⟨t', rfl⟩ := ry
  have hB : big = 1000000 := rfl
  have hp : (2 : Int) ^ 63 = 9223372036854775808 := by decide
  have hlen : (⟨a.toArray⟩ : Str).length = a.length := str_len a
  refine PySem.P.mul_str ?_ (fun h0 hc => ?_) (fun h0 hc => ?_) ?_
  · rw [decide_eq_false (by omega), decide_eq_false (by omega)]; rfl
  · rw [hlen]
    have hn : 1 ≤ n := by omega
    have ha : a.length < big := Nat.lt_of_le_of_lt (Nat.le_mul_of_pos_right _ (by omega)) h3
    have hq : (1000000 : Int) ≤ (2 ^ 63 - 1) / n := by
      rw [Int.le_ediv_iff_mul_le (by omega), hp]
      omega
    omega
  · rw [hlen]
    unfold Builtin.Str.tooLong
    have : ¬ (a.length * n.toNat > sizeLine) := by have := big_line; omega
    simp [this]
    first | omega | (have := big_line; omega) | skip
  · have e := foldl_rep' a n.toNat []
    simp only [List.nil_append] at e
    have e' : (⟨List.foldl (fun x1 x2 => x1 ++ x2) #[] (List.replicate n.toNat (⟨a.toArray⟩ : Str).cps)⟩ : Str) = ⟨(List.replicate n.toNat a).flatten.toArray⟩ := congrArg Str.mk e
    rw [e']
    split
    · rename_i hn
      have : n.toNat = 0 := by omega
      rw [this] at q
      exact ⟨by decide, V.str ⟨[].toArray⟩, H, I.tok _, ⟨_, rfl⟩, q⟩
    · rename_i hn
      split
      · rename_i hc
        have e : (List.replicate n.toNat a).flatten = a := by
          simp only [Bool.or_eq_true, beq_iff_eq] at hc
          rcases hc with hc | hc
          · subst hc; simp
          · rw [hlen] at hc
            have : a = [] := List.eq_nil_of_length_eq_zero hc
            subst this
            simp
        rw [e] at q
        exact ⟨V.str ⟨a.toArray⟩, H, I, ⟨_, rfl⟩, q⟩
      · refine ⟨?_, V.str ⟨(List.replicate n.toNat a).flatten.toArray⟩, H, I.tok _, ⟨_, rfl⟩, q⟩
        rw [str_len]
        have : (List.replicate n.toNat a).flatten.length = n.toNat * a.length := by simp
        rw [this, Nat.mul_comm]
        exact big_le h3
def rMulA : R2 := fun x y H Q => rI CMul (fun i j => .int (i * j)) x y H Q ∨ rMulS x y H Q ∨ rRep x y H Q
theorem op_mulA {X : Cx} : OpR X (binaryOp .Mult) rMulA := op_mul.or (op_mulS.or op_rep)
theorem flat_alls {ds : List D} {p : Tag → Bool} (h : alls p ds = true) : ∀ m : Nat, alls p (List.replicate m ds).flatten = true
  | 0 => by simp [alls]
  | m + 1 => by rw [List.replicate_succ, List.flatten_cons, alls_append, h, flat_alls h m]; rfl
theorem flat_reps {H0 H : Hp} {w : Own} {vs : List V} {ds : List D} (r : Reps H0 H w [] 0 vs ds) (n : alls Tag.noOwn ds = true) : ∀ (m : Nat) (l : Lab) (j : Nat), Reps H0 H w l j (List.replicate m vs).flatten (List.replicate m ds).flatten
  | 0, l, j => by simp; exact .nil
  | m + 1, l, j => by
    rw [List.replicate_succ, List.flatten_cons, List.replicate_succ, List.flatten_cons]
    exact (r.sh n l j).append (flat_reps r n m l _)
theorem len_flat {α : Type} (m : Nat) (xs : List α) : (List.replicate m xs).flatten.length = xs.length * m := by
  rw [List.length_flatten]; simp [Nat.mul_comm]
theorem vok_mul : VOk (r2 rMulA) .mul := VOk.of2 (fun _ => rfl) fun H0 H w sid tid σ ρ ts v u k j x y d Q s r n r' n' e q => by
  unfold opMul at e
  split at e
  · split at e
    case isFalse => cases e
    case isTrue c =>
    cases e; cases r; cases r'
    rw [lim_eq] at c
    exact .inl ⟨_, _, rfl, rfl, c, q _ H (s.ss.int _)⟩
  · split at e
    case isFalse => cases e
    case isTrue c =>
    cases e
    cases r with
    | str b =>
    cases r'
    exact .inr (.inl ⟨_, _, rfl, rfl, c.1, c.2.1, c.2.2, q _ H (s.ss.str (by rw [len_flat]; exact c.2.2))⟩)
  · split at e
    case isFalse => cases e
    case isTrue c =>
    cases e
    obtain ⟨p, vs, rfl, hp, rr, _⟩ := r.exact c.1
    cases r'
    have h63 : (2 : Int) ^ 63 = 9223372036854775808 := by decide
    refine .inr (.inr ⟨p, _, vs, rfl, rfl, hp, by omega, by omega, by rw [rr.length]; exact big_le c.2.2.2, fun a ha => ?_⟩)
    exact q _ _ (s.newL ha ⟨[], 0, flat_reps (rr.sh n [] 0) n _ _ _, flat_alls n _⟩ (by rw [len_flat]; exact c.2.2.2))
  · cases e
theorem vok_fdiv : VOk (r2 (rI CDiv fun i j => .int (i / j))) .fdiv := VOk.of2 (fun _ => rfl) fun H0 H w sid tid σ ρ ts v u k j x y d Q s r n r' n' e q => by
  unfold opFdiv at e
  split at e
  · split at e
    case isFalse => cases e
    case isTrue c =>
    cases e; cases r; cases r'
    exact ⟨_, _, rfl, rfl, c, q _ H (s.ss.int _)⟩
  · cases e
theorem vok_mod : VOk (r2 (rI (fun _ j => 0 < j) fun i j => .int (i % j))) .mod := VOk.of2 (fun _ => rfl) fun H0 H w sid tid σ ρ ts v u k j x y d Q s r n r' n' e q => by
  unfold opMod at e
  split at e
  · split at e
    case isFalse => cases e
    case isTrue c =>
    cases e; cases r; cases r'
    exact ⟨_, _, rfl, rfl, c, q _ H (s.ss.int _)⟩
  · cases e
theorem vok_neg : VOk (r1 (rU fun i => .int (-i))) .neg := VOk.of1 (fun _ => rfl) fun H0 H w sid tid σ ρ ts v k x d Q s r n e q => by
  unfold opNeg at e
  split at e
  · cases e; cases r
    exact ⟨_, rfl, q _ H (s.ss.int _)⟩
  · cases e
/-! ### in -/
def rInA (neg : Bool) (K : PySem.W.Frag) : R2 := fun x y H Q => (∃ (c : Nat) (z : Str), x = .str ⟨#[c]⟩ ∧ y = .str z ∧ Q (.bl (if neg then !decide (c ∈ z.cps.toList) else decide (c ∈ z.cps.toList))) H) ∨
  ∃ d es e, Dp K H x d ∧ Dp K H y e ∧ (e = .list es ∨ e = .tuple es) ∧ d.plain = true ∧ PyData.plainAll es = true ∧ d.depth ≤ 20 ∧ Q (.bl (if neg then !es.any fun z => PyData.eqv z d else es.any fun z => PyData.eqv z d)) H
theorem op_inA {X : Cx} (hu : X.A.units + 64 < cLine) : OpR X (compareOp .In) (rInA false X.K) := by
  intro pins s σ H x y v u Q I rx ry h
  rcases h with ⟨c, z, e1, e2, q⟩ | ⟨d, es, e, hd, he, hk, p1, p2, p3, q⟩
  · exact op_in_sign pins s σ H x y v u Q I rx ry ⟨c, z, e1, e2, q⟩
  · obtain ⟨as, q1⟩ := Dp.reads I d x v hd rx
    obtain ⟨bs, q2⟩ := Dp.reads I e y u he ry
    rcases hk with rfl | rfl
    · exact PySem.SeqAt.in_list_data q2 q1 p2 p1 (by omega) ⟨.bl _, H, I, rfl, q⟩
    · exact PySem.SeqAt.in_tuple_data q2 q1 p2 p1 (by omega) ⟨.bl _, H, I, rfl, q⟩
theorem op_notInA {X : Cx} (hu : X.A.units + 64 < cLine) : OpR X (compareOp .NotIn) (rInA true X.K) := by
  intro pins s σ H x y v u Q I rx ry h
  rcases h with ⟨c, z, e1, e2, q⟩ | ⟨d, es, e, hd, he, hk, p1, p2, p3, q⟩
  · exact op_notIn_sign pins s σ H x y v u Q I rx ry ⟨c, z, e1, e2, q⟩
  · obtain ⟨as, q1⟩ := Dp.reads I d x v hd rx
    obtain ⟨bs, q2⟩ := Dp.reads I e y u he ry
    rcases hk with rfl | rfl
    · exact PySem.SeqAt.notIn_list_data q2 q1 p2 p1 (by omega) ⟨.bl _, H, I, rfl, q⟩
    · exact PySem.SeqAt.notIn_tuple_data q2 q1 p2 p1 (by omega) ⟨.bl _, H, I, rfl, q⟩
theorem any_pys (ys : List D) (d : D) : (pys ys).any (fun z => PyData.eqv z d.py) = ys.any fun y => y.eqv d := by
  rw [pys_map, List.any_map]; rfl
theorem vok_in : VOk (r2 (rInA false G.K)) .isin := VOk.of2 (fun _ => rfl) fun H0 H w sid tid σ ρ ts v u k j x y d Q s r n r' n' e q => by
  unfold opIsin at e
  split at e
  · cases e
    cases r with
    | str b =>
    cases r' with
    | str b' =>
    exact .inl ⟨_, _, rfl, rfl, q _ H (s.ss.bl _)⟩
  all_goals first
    | (cases e; done)
    | (split at e
       case isFalse => cases e
       case isTrue c =>
       cases e
       simp only [Bool.and_eq_true] at c
       have hd := D.dat_ok _ _ c.1
       have hy := dats_ok _ _ c.2
       refine .inr ⟨_, _, _, r.dp c.1, r'.dp (n := 21) (by simp only [D.dat]; exact c.2), by first | exact .inl rfl | exact .inr rfl, hd.1, hy.1, hd.2, ?_⟩
       rw [any_pys]
       exact q _ H (s.ss.bl _))
theorem vok_notin : VOk (r2 (rInA true G.K)) .notin := VOk.of2 (fun _ => rfl) fun H0 H w sid tid σ ρ ts v u k j x y d Q s r n r' n' e q => by
  unfold opNotin at e
  split at e
  · cases e
    cases r with
    | str b =>
    cases r' with
    | str b' =>
    exact .inl ⟨_, _, rfl, rfl, q _ H (s.ss.bl _)⟩
  all_goals first
    | (cases e; done)
    | (split at e
       case isFalse => cases e
       case isTrue c =>
       cases e
       simp only [Bool.and_eq_true] at c
       have hd := D.dat_ok _ _ c.1
       have hy := dats_ok _ _ c.2
       refine .inr ⟨_, _, _, r.dp c.1, r'.dp (n := 21) (by simp only [D.dat]; exact c.2), by first | exact .inl rfl | exact .inr rfl, hd.1, hy.1, hd.2, ?_⟩
       rw [any_pys]
       exact q _ H (s.ss.bl _))
/-! ### is None -/
theorem non_rep {H0 H : Hp} {w : Own} {l : Lab} {v : V} {d : D} (r : Rep H0 H w l v d) : decide (v = .non) = d.isNon := by
  cases r <;> first | rfl | exact decide_eq_false (fun h => nomatch h)
theorem MeanA.one {M : Sem} {t : TE} {cs : E} (m : MeanA G (tAll [t]) (evA M cs)) {o : Op} {r : V → Hp → VK → Prop} (hv : VOk (r1 r) o) : Mean G (fun σ H Q => t σ H fun x H1 => r x H1 Q) (evE M (.op o cs)) := mean_op hv m
theorem vok_isN : VOk (r1 fun x H Q => Q (.bl (decide (x = .non))) H) .isN := VOk.of1 (fun _ => rfl) fun H0 H w sid tid σ ρ ts v k x d Q s r n e q => by
  unfold opIsN at e
  cases e
  show Q (.bl (decide (v = .non))) H
  rw [non_rep r]
  exact q _ H (s.ss.bl _)
theorem vok_notN : VOk (r1 fun x H Q => Q (.bl (!decide (x = .non))) H) .notN := VOk.of1 (fun _ => rfl) fun H0 H w sid tid σ ρ ts v k x d Q s r n e q => by
  unfold opNotN at e
  cases e
  show Q (.bl (!decide (v = .non))) H
  rw [non_rep r]
  exact q _ H (s.ss.bl _)
theorem de_isN {M : Sem} {a : Expr} {j : Nat} {pos pos' : Pos} {neg : Bool} {op : CmpOp} {cs : E} (ho : op = if neg then .IsNot else .Is) (h : DA G [a] (evA M cs)) : DE G (.Compare a [op] [.Constant .none j pos'] pos) (evE M (.op (if neg then .notN else .isN) cs)) ∧ DT G (.Compare a [op] [.Constant .none j pos'] pos) (evE M (.op (if neg then .notN else .isN) cs)) := by
  obtain ⟨tes, ps, m⟩ := h
  cases ps with
  | @cons _ _ ta _ ha _ r1 =>
  cases r1
  subst ho
  have boo : ∀ ρ d ρ', evE M (.op (if neg then .notN else .isN) cs) ρ = .ok d ρ' → ∃ k, d = .bl k := by
    intro ρ d ρ' e
    simp only [evE] at e
    obtain ⟨ds, ρ1, e1, e2⟩ := bind_val e
    cases q : evOp (if neg = true then Op.notN else Op.isN) ds with
    | none => rw [q] at e2; cases e2
    | some d2 =>
      rw [q] at e2
      cases e2
      cases neg with
      | true =>
        obtain ⟨x, _, hx⟩ := b1_some (show b1 opNotN ds = some d from q)
        unfold opNotN at hx
        cases hx
        exact ⟨_, rfl⟩
      | false =>
        obtain ⟨x, _, hx⟩ := b1_some (show b1 opIsN ds = some d from q)
        unfold opIsN at hx
        cases hx
        exact ⟨_, rfl⟩
  have toT : ∀ (tt : TE), Mean G tt (evE M (.op (if neg then .notN else .isN) cs)) → MeanT G (tB tt) (evE M (.op (if neg then .notN else .isN) cs)) := fun tt mm H0 H σ ρ ts Q s h => by
    refine mm H0 H σ ρ ts _ s (h.val fun d ρ' e ⟨b, eb, h⟩ v H' s' => ?_)
    obtain ⟨k, rfl⟩ := boo ρ d ρ' e
    obtain ⟨w, sid, tid, k', s2, r⟩ := SS.topr (nt := []) s'
    cases r
    simp only [D.tru, Option.some.injEq] at eb
    subst eb
    exact ⟨k, rfl, h H' s'.drop⟩
  cases neg with
  | true =>
    have mm := MeanA.one m vok_notN
    exact ⟨⟨tNotN ta, fun X k => pe_cmp (pc_notN (ha X k)), mm⟩, ⟨_, fun X k => pt_cmp (pc_notN (ha X k)), toT _ mm⟩⟩
  | false =>
    have mm := MeanA.one m vok_isN
    exact ⟨⟨tIsN ta, fun X k => pe_cmp (pc_isN (ha X k)), mm⟩, ⟨_, fun X k => pt_cmp (pc_isN (ha X k)), toT _ mm⟩⟩

/-! ### subscripts, len and its like -/
def rIxA (K : PySem.W.Frag) : R2 := fun x y H Q => rIxL K x y H Q ∨ rIxT K x y H Q ∨ rIxS x y H Q
theorem ix_all {X : Cx} : IxR X (rIxA X.K) := ix_list.or (ix_tup.or ix_str)
theorem atI_len {α β : Type} {xs : List α} {ys : List β} (h : xs.length = ys.length) {i : Int} {y : β} (e : atI ys i = some y) : ∃ (j : Nat) (x : α), atI xs i = some x ∧ xs[j]? = some x ∧ ys[j]? = some y := by
  unfold atI at e ⊢
  rw [h]
  cases q : ixN ys.length i with
  | none => rw [q] at e; cases e
  | some j =>
    rw [q] at e
    have e' : ys[j]? = some y := e
    have hj : j < xs.length := by rw [h]; exact (List.getElem?_eq_some_iff.mp e').1
    exact ⟨j, xs[j], by rw [Option.bind_some]; exact List.getElem?_eq_getElem hj, List.getElem?_eq_getElem hj, e'⟩
theorem Sta.item {H0 H : Hp} {w : Own} {sid tid : List Nat} {σ : L2.St} {ρ : DEnv} {ts : List (V × D)} {l : Lab} {vs : List V} {ds : List D} {j : Nat} {v : V} {d : D} (s : Sta H0 H w sid tid σ ρ ts) (r : Reps H0 H w l 0 vs ds) (n : alls Tag.noOwn ds = true) (hv : vs[j]? = some v) (hd : ds[j]? = some d) : SS H0 H σ ρ ((v, d) :: ts) := by
  obtain ⟨v', e, rv⟩ := r.get hd
  rw [hv] at e
  cases e
  rw [alls_all, List.all_eq_true] at n
  obtain ⟨k, s'⟩ := s.dup rv (n d (List.mem_of_getElem? hd))
  exact ⟨_, _, _, s'⟩
theorem vok_idx : VOk (r2 (rIxA G.K)) .idx := VOk.of2 (fun _ => rfl) fun H0 H w sid tid σ ρ ts v u k j x y d Q s r n r' n' e q => by
  unfold opIdx at e
  split at e
  · cases r'
    obtain ⟨p, vs, rfl, hp, rr, _⟩ := r.sql (G := G)
    obtain ⟨a, z, e1, e2, e3⟩ := atI_len rr.length e
    exact .inl ⟨p, vs, _, z, rfl, rfl, hp, e1, q _ H (s.item rr n e2 e3)⟩
  · cases r'
    obtain ⟨p, vs, rfl, hp, rr⟩ := r.sqt (G := G)
    obtain ⟨a, z, e1, e2, e3⟩ := atI_len rr.length e
    exact .inr (.inl ⟨p, vs, _, z, rfl, rfl, hp, e1, q _ H (s.item rr n e2 e3)⟩)
  · cases r'
    cases r with
    | str b =>
    obtain ⟨c, hz, e2⟩ := Option.map_eq_some_iff.mp e
    cases e2
    refine .inr (.inr ⟨_, _, c, rfl, rfl, by rw [str_len]; exact big_le b, hz, ?_⟩)
    exact q _ H (s.ss.str (x := [c]) (by show 1 < big; decide))
  · cases e
def rLen (K : PySem.W.Frag) : List V → Hp → VK → Prop := fun xs H Q => ∃ x n, xs = [x] ∧ LenV K x H n ∧ Q (.int n) H
def rOne (r : V → Hp → VK → Prop) : List V → Hp → VK → Prop := r1 r
theorem VOk.ofL {r : List V → Hp → VK → Prop} {o : Op} {f : D → Option D} (h0 : ∀ ds, evOp o ds = b1 f ds)
    (h : ∀ (H0 H : Hp) (w : Own) (sid tid : List Nat) (σ : L2.St) (ρ : DEnv) (ts : List (V × D)) (v : V) (k : Nat) (x d : D) (Q : VK), Sta H0 H w sid tid σ ρ ts → Rep H0 H w [k] v x → x.inOk = true → f x = some d → (∀ v H', SS H0 H' σ ρ ((v, d) :: ts) → Q v H') → r [v] H Q) : VOk r o := by
  intro H0 H w sid tid σ ρ ts vs ds d Q s op e q
  rw [h0] at e
  obtain ⟨x, rfl, e⟩ := b1_some e
  obtain ⟨v, k, rfl, r, n⟩ := op.one
  exact h H0 H w sid tid σ ρ ts v k x d Q s r n e q
theorem VOk.ofL2 {r : List V → Hp → VK → Prop} {o : Op} {f : D → D → Option D} (h0 : ∀ ds, evOp o ds = b2 f ds)
    (h : ∀ (H0 H : Hp) (w : Own) (sid tid : List Nat) (σ : L2.St) (ρ : DEnv) (ts : List (V × D)) (v u : V) (k j : Nat) (x y d : D) (Q : VK), Sta H0 H w sid tid σ ρ ts → Rep H0 H w [k] v x → x.inOk = true → Rep H0 H w [j] u y → y.inOk = true → f x y = some d → (∀ v H', SS H0 H' σ ρ ((v, d) :: ts) → Q v H') → r [v, u] H Q) : VOk r o := by
  intro H0 H w sid tid σ ρ ts vs ds d Q s op e q
  rw [h0] at e
  obtain ⟨x, y, rfl, e⟩ := b2_some e
  obtain ⟨v, u, k, j, rfl, r, n, r', n'⟩ := op.two
  exact h H0 H w sid tid σ ρ ts v u k j x y d Q s r n r' n' e q
def rLenA (K : PySem.W.Frag) : List V → Hp → VK → Prop := fun xs H Q => rLen K xs H Q ∨ ∃ a kvs, xs = [.ref a] ∧ H a = some (.dK kvs) ∧ Q (.int kvs.length) H
theorem CallR.or {X : Cx} {f : Value} {r r' : List V → Hp → VK → Prop} (h : CallR X f r) (h' : CallR X f r') : CallR X f (fun xs H Q => r xs H Q ∨ r' xs H Q) := by
  intro pins s σ H xs us Q I rs q
  rcases q with q | q
  · exact h pins s σ H xs us Q I rs q
  · exact h' pins s σ H xs us Q I rs q
theorem vok_len : VOk (rLen G.K) .len := VOk.ofL (fun _ => rfl) fun H0 H w sid tid σ ρ ts v k x d Q s r n e q => by
  unfold opLen at e
  split at e
  · cases e
    obtain ⟨p, vs, rfl, hp, rr, _⟩ := r.sql (G := G)
    exact ⟨_, _, rfl, .inl ⟨vs, hp, rr.length.symm⟩, q _ H (s.ss.int _)⟩
  · cases e
    obtain ⟨p, vs, rfl, hp, rr⟩ := r.sqt (G := G)
    exact ⟨_, _, rfl, .inr ⟨vs, hp, rr.length.symm⟩, q _ H (s.ss.int _)⟩
  · cases e
    cases r with
    | str b => exact ⟨_, _, rfl, ⟨by rw [str_len]; exact big_le b, (str_len _).symm⟩, q _ H (s.ss.int _)⟩
  · cases e
theorem vok_abs : VOk (fun xs H Q => ∃ i, xs = [.int i] ∧ Q (.int (if i < 0 then -i else i)) H) .abs := VOk.ofL (fun _ => rfl) fun H0 H w sid tid σ ρ ts v k x d Q s r n e q => by
  unfold opAbs at e
  split at e
  · cases e; cases r
    exact ⟨_, rfl, q _ H (s.ss.int _)⟩
  · cases e
theorem vok_max2 : VOk (fun xs H Q => ∃ i j, xs = [.int i, .int j] ∧ Q (.int (if j > i then j else i)) H) .max2 := VOk.ofL2 (fun _ => rfl) fun H0 H w sid tid σ ρ ts v u k j x y d Q s r n r' n' e q => by
  unfold opMax2 at e
  split at e
  · cases e; cases r; cases r'
    exact ⟨_, _, rfl, q _ H (s.ss.int _)⟩
  · cases e
theorem vok_min2 : VOk (fun xs H Q => ∃ i j, xs = [.int i, .int j] ∧ Q (.int (if j < i then j else i)) H) .min2 := VOk.ofL2 (fun _ => rfl) fun H0 H w sid tid σ ρ ts v u k j x y d Q s r n r' n' e q => by
  unfold opMin2 at e
  split at e
  · cases e; cases r; cases r'
    exact ⟨_, _, rfl, q _ H (s.ss.int _)⟩
  · cases e
theorem bools_reps {H0 H : Hp} {w : Own} : ∀ {l : Lab} {i : Nat} {vs : List V} {ds : List D} {bs : List Bool}, Reps H0 H w l i vs ds → bools? ds = some bs → vs = bs.map V.bl
  | _, _, _, _, bs, .nil, e => by simp only [bools?, Option.some.injEq] at e; subst e; rfl
  | _, _, _, _, bs, .cons (d := d) h t, e => by
    cases d <;> simp only [bools?] at e <;> first | (cases e; done) | skip
    rename_i b
    obtain ⟨cs, e1, e2⟩ := Option.map_eq_some_iff.mp e
    cases h
    rw [← e2, List.map_cons, bools_reps t e1]
theorem ints_reps {H0 H : Hp} {w : Own} : ∀ {l : Lab} {i : Nat} {vs : List V} {ds : List D} {bs : List Int}, Reps H0 H w l i vs ds → ints? ds = some bs → vs = bs.map V.int
  | _, _, _, _, bs, .nil, e => by simp only [ints?, Option.some.injEq] at e; subst e; rfl
  | _, _, _, _, bs, .cons (d := d) h t, e => by
    cases d <;> simp only [ints?] at e <;> first | (cases e; done) | skip
    rename_i b
    obtain ⟨cs, e1, e2⟩ := Option.map_eq_some_iff.mp e
    cases h
    rw [← e2, List.map_cons, ints_reps t e1]
theorem strs_reps {H0 H : Hp} {w : Own} : ∀ {l : Lab} {i : Nat} {vs : List V} {ds : List D} {bs : List (List Nat)}, Reps H0 H w l i vs ds → strs? ds = some bs → vs = (bs.map fun z => (⟨z.toArray⟩ : Str)).map V.str
  | _, _, _, _, bs, .nil, e => by simp only [strs?, Option.some.injEq] at e; subst e; rfl
  | _, _, _, _, bs, .cons (d := d) h t, e => by
    cases d <;> simp only [strs?] at e <;> first | (cases e; done) | skip
    rename_i b
    obtain ⟨cs, e1, e2⟩ := Option.map_eq_some_iff.mp e
    cases h
    rw [← e2, List.map_cons, List.map_cons, strs_reps t e1]
theorem vok_all : VOk (rAll G.K) .all := VOk.ofL (fun _ => rfl) fun H0 H w sid tid σ ρ ts v k x d Q s r n e q => by
  unfold opAll at e
  split at e
  · obtain ⟨bs, e1, e2⟩ := Option.map_eq_some_iff.mp e
    obtain ⟨p, vs, rfl, hp, rr, _⟩ := r.sql (G := G)
    cases e2
    rw [bools_reps rr e1] at hp
    exact ⟨p, bs, rfl, hp, q _ H (s.ss.bl _)⟩
  · cases e
theorem vok_any : VOk (rAny G.K) .any := VOk.ofL (fun _ => rfl) fun H0 H w sid tid σ ρ ts v k x d Q s r n e q => by
  unfold opAny at e
  split at e
  · obtain ⟨bs, e1, e2⟩ := Option.map_eq_some_iff.mp e
    obtain ⟨p, vs, rfl, hp, rr, _⟩ := r.sql (G := G)
    cases e2
    rw [bools_reps rr e1] at hp
    exact ⟨p, bs, rfl, hp, q _ H (s.ss.bl _)⟩
  · cases e
theorem vok_sum : VOk (rSum G.K) .sum := VOk.ofL (fun _ => rfl) fun H0 H w sid tid σ ρ ts v k x d Q s r n e q => by
  unfold opSum at e
  split at e
  · obtain ⟨bs, e1, e2⟩ := Option.map_eq_some_iff.mp e
    obtain ⟨p, vs, rfl, hp, rr, _⟩ := r.sql (G := G)
    cases e2
    rw [ints_reps rr e1] at hp
    exact ⟨p, bs, rfl, hp, q _ H (s.ss.int _)⟩
  · cases e
theorem vok_max1 : VOk (rMax G.K) .max1 := VOk.ofL (fun _ => rfl) fun H0 H w sid tid σ ρ ts v k x d Q s r n e q => by
  unfold opMax1 at e
  split at e
  · obtain ⟨bs, e1, e2⟩ := Option.bind_eq_some_iff.mp e
    obtain ⟨m, e3, e4⟩ := Option.map_eq_some_iff.mp e2
    obtain ⟨p, vs, rfl, hp, rr, _⟩ := r.sql (G := G)
    cases e4
    rw [ints_reps rr e1] at hp
    obtain ⟨mm, ml⟩ := List.max?_eq_some_iff.mp e3
    refine ⟨p, bs, rfl, hp, List.length_pos_of_mem mm, fun m' h1 h2 => ?_⟩
    have : m' = m := Int.le_antisymm (ml _ h1) (h2 _ mm)
    rw [this]
    exact q _ H (s.ss.int _)
  · cases e
theorem vok_min1 : VOk (rMin G.K) .min1 := VOk.ofL (fun _ => rfl) fun H0 H w sid tid σ ρ ts v k x d Q s r n e q => by
  unfold opMin1 at e
  split at e
  · obtain ⟨bs, e1, e2⟩ := Option.bind_eq_some_iff.mp e
    obtain ⟨m, e3, e4⟩ := Option.map_eq_some_iff.mp e2
    obtain ⟨p, vs, rfl, hp, rr, _⟩ := r.sql (G := G)
    cases e4
    rw [ints_reps rr e1] at hp
    obtain ⟨mm, ml⟩ := List.min?_eq_some_iff.mp e3
    refine ⟨p, bs, rfl, hp, List.length_pos_of_mem mm, fun m' h1 h2 => ?_⟩
    have : m' = m := Int.le_antisymm (h2 _ mm) (ml _ h1)
    rw [this]
    exact q _ H (s.ss.int _)
  · cases e
def rList (K : PySem.W.Frag) : List V → Hp → VK → Prop := fun xs H Q => ∃ p ys, xs = [.ref p] ∧ (SqL K H p ys ∨ SqT K H p ys) ∧ ∀ l, H l = none → Q (.ref l) (upd H l (.lst ys))
theorem vok_list : VOk (rList G.K) .list := VOk.ofL (fun _ => rfl) fun H0 H w sid tid σ ρ ts v k x d Q s r n e q => by
  unfold opList at e
  split at e
  · cases e
    obtain ⟨p, vs, rfl, hp, rr, b⟩ := r.sql (G := G)
    exact ⟨p, vs, rfl, .inl hp, fun l hl => q _ _ (s.newL hl ⟨_, _, rr, n⟩ b)⟩
  · cases e
theorem vok_divmod : VOk (fun xs H Q => ∃ i j, xs = [.int i, .int j] ∧ CDiv i j ∧ ∀ p, H p = none → Q (.ref p) (upd H p (.tup [.int (i / j), .int (i % j)]))) .divmod := VOk.ofL2 (fun _ => rfl) fun H0 H w sid tid σ ρ ts v u k j x y d Q s r n r' n' e q => by
  unfold opDivmod at e
  split at e
  · split at e
    case isFalse => cases e
    case isTrue c =>
    cases e; cases r; cases r'
    exact ⟨_, _, rfl, c, fun p hp => q _ _ (s.newT hp ⟨[], 0, .cons .int (.cons .int .nil), rfl⟩)⟩
  · cases e
/-! ### sorted -/
def rSortD (K : PySem.W.Frag) : List V → Hp → VK → Prop := fun xs H Q => ∃ (p : Addr) (vs : List V) (ps : List (V × D)), xs = [.ref p] ∧ SqL K H p vs ∧ ps.map (·.1) = vs ∧ (∀ x ∈ ps, Dp K H x.1 x.2.py) ∧ PySem.W.AllAlike (ps.map fun x => x.2.py) ∧ PySem.W.Sortable (ps.map fun x => x.2.py) ∧ ps.length < big ∧ (∀ x ∈ ps, x.2.py.depth ≤ 20) ∧
  ∀ a, H a = none → Q (.ref a) (upd H a (.lst ((ps.mergeSort (PySem.W.dataLe false fun x => x.2.py)).map (·.1))))
theorem each_vals {h : Heap} : ∀ {ps : List (V × D)} {out : List Value}, PySem.W.EachIs (fun (u : Value) (x : V × D) => RelV x.1 u) out ps → Vals (ps.map (·.1)) out
  | _, _, .nil => .nil
  | _, _, .cons r t => .cons r (each_vals (h := h) t)
theorem call_sortD {X : Cx} (hu : X.A.units + 64 < cLine) : CallR X (.builtin "sorted") (rSortD X.K) := by
  intro pins s σ H xs us Q I rs h
  obtain ⟨p, vs, ps, rfl, hp, hv, hd, hal, hso, hb, hdep, q⟩ := h
  obtain ⟨u, rfl, ru⟩ := vals1 rs
  cases ru
  obtain ⟨its, rv, pl, hz⟩ := I.list hp
  have hl := rv.length
  have each : ∀ (ps : List (V × D)) (its : List Value), Vals (ps.map (·.1)) its → (∀ x ∈ ps, Dp X.K H x.1 x.2.py) → PySem.W.EachIs (fun (u : Value) (x : V × D) => RelV x.1 u) its ps ∧ PySem.W.EachIs (fun (u : Value) (x : V × D) => ∃ as, Reads s.heap u x.2.py as) its ps := by
    intro ps
    induction ps with
    | nil => intro its r _; cases r; exact ⟨.nil, .nil⟩
    | cons x ps ih =>
      intro its r h
      cases r with
      | cons r1 rs =>
        obtain ⟨a, b⟩ := ih _ rs fun y hy => h y (List.mem_cons_of_mem _ hy)
        exact ⟨.cons r1 a, .cons (Dp.reads I x.2.py x.1 _ (h x List.mem_cons_self) r1) b⟩
  rw [← hv] at rv
  obtain ⟨e1, e2⟩ := each ps its rv hd
  refine PySem.W.sorted_data (enc := fun x : V × D => x.2.py) pl.isList e1 e2 hal hso (big_le hb) (fun b hb' => by have := hdep b hb'; show X.A.units + 2 + b.2.py.depth < cLine; omega) fun out hol ho => ?_
  obtain ⟨ep, he'⟩ := PyProof.Rows.sortedAll_at s.heap its out.toArray
  have hlen : ((ps.mergeSort (PySem.W.dataLe false fun x => x.2.py)).map (·.1)).length ≤ sizeLine := by rw [List.length_map, List.length_mergeSort]; exact big_le hb
  exact ⟨.ref _, upd H (s.heap.objs.size + 1) (.lst ((ps.mergeSort (PySem.W.dataLe false fun x => x.2.py)).map (·.1))), I.laid (t' := s.toks) (fun _ _ => PyProof.Rows.sortedAll_old) (Nat.le_succ _) ⟨hlen, out, ep, each_vals (h := s.heap) ho, he'⟩, rfl, q _ (I.hok.fresh (Nat.le_succ _))⟩
theorem Reps.zip {H0 H : Hp} {w : Own} : ∀ {l : Lab} {i : Nat} {vs : List V} {ds : List D}, Reps H0 H w l i vs ds → ∃ ps : List (V × D), ps.map (·.1) = vs ∧ ps.map (·.2) = ds ∧ ∀ x ∈ ps, ∃ l', Rep H0 H w l' x.1 x.2
  | _, _, _, _, .nil => ⟨[], rfl, rfl, fun _ h => nomatch h⟩
  | _, _, _, _, .cons (v := v) (d := d) h t => by
    obtain ⟨ps, e1, e2, e3⟩ := t.zip
    refine ⟨(v, d) :: ps, by simp [e1], by simp [e2], fun x hx => ?_⟩
    rcases List.mem_cons.mp hx with rfl | hx
    · exact ⟨_, h⟩
    · exact e3 x hx
theorem Reps.ofMem {H0 H : Hp} {w : Own} : ∀ {ps : List (V × D)} {l : Lab} {i : Nat}, (∀ x ∈ ps, (∃ l', Rep H0 H w l' x.1 x.2) ∧ x.2.noOwn = true) → Reps H0 H w l i (ps.map (·.1)) (ps.map (·.2))
  | [], _, _, _ => .nil
  | x :: ps, l, i, h => by
    obtain ⟨⟨l', r⟩, n⟩ := h x List.mem_cons_self
    exact .cons (r.trS KeepS.refl n) (Reps.ofMem fun y hy => h y (List.mem_cons_of_mem _ hy))
theorem tup1_py {d : D} (h : d.isTup1 = true) : ∃ x r, d.py = .tuple (x :: r) := by
  cases d <;> first | (cases h; done) | skip
  rename_i xs
  cases xs with
  | nil => cases h
  | cons x xs => exact ⟨x.py, pys xs, rfl⟩
theorem noTup_py {d : D} (h : d.isTup = false) : ∀ xs, d.py ≠ .tuple xs := by
  cases d <;> first | (cases h; done) | (intro xs h; cases h)
theorem sortD_perm (ds : List D) : (sortD ds).Perm ds := List.mergeSort_perm _ _
theorem vok_sorted : VOk (rSortD G.K) .sorted := VOk.ofL (fun _ => rfl) fun H0 H w sid tid σ ρ ts v k x d Q s r n e q => by
  unfold opSorted at e
  split at e
  · split at e
    case isFalse => cases e
    case isTrue c =>
    cases e
    rename_i t xs
    obtain ⟨p, vs, rfl, hp, rr, b⟩ := r.sql (G := G)
    obtain ⟨ps, e1, e2, e3⟩ := rr.zip
    simp only [sortable, Bool.and_eq_true, Bool.or_eq_true] at c
    obtain ⟨⟨c1, c2⟩, c3⟩ := c
    have hm : ∀ y ∈ ps, y.2 ∈ xs := fun y hy => by rw [← e2]; exact List.mem_map_of_mem hy
    have hdat : ∀ y ∈ ps, y.2.dat 20 = true := fun y hy => by
      rw [dats_all, List.all_eq_true] at c1
      exact c1 _ (hm y hy)
    have hall : ps.map (fun x => x.2.py) = xs.map D.py := by rw [← e2, List.map_map]; rfl
    refine ⟨p, vs, ps, rfl, hp, e1, fun y hy => ?_, ?_, ?_, ?_, fun y hy => (D.dat_ok _ _ (hdat y hy)).2, fun a ha => ?_⟩
    · obtain ⟨l', ry⟩ := e3 y hy
      exact ry.dp (hdat y hy)
    · rw [hall]
      intro y hy z hz
      obtain ⟨y', hy', rfl⟩ := List.mem_map.mp hy
      obtain ⟨z', hz', rfl⟩ := List.mem_map.mp hz
      rw [List.all_eq_true] at c2
      have := c2 y' hy'
      rw [List.all_eq_true] at this
      exact this z' hz'
    · rw [hall]
      rcases c3 with c3 | c3
      · refine .inl fun y hy => ?_
        obtain ⟨y', hy', rfl⟩ := List.mem_map.mp hy
        rw [List.all_eq_true] at c3
        exact tup1_py (c3 y' hy')
      · refine .inr fun y hy => ?_
        obtain ⟨y', hy', rfl⟩ := List.mem_map.mp hy
        rw [List.all_eq_true] at c3
        have := c3 y' hy'
        simp only [Bool.and_eq_true, Bool.not_eq_true'] at this
        exact ⟨isNon_py this.2, noTup_py this.1⟩
    · have := congrArg List.length e2
      rw [List.length_map] at this
      rw [this]; exact b
    · have hsort : ((ps.mergeSort (PySem.W.dataLe false fun x => x.2.py)).map (·.2)) = sortD xs := by
        unfold sortD
        rw [← e2]
        exact List.map_mergeSort fun _ _ _ _ => rfl
      refine q _ _ (s.newL ha ⟨[], 0, ?_, ?_⟩ ?_)
      · rw [← hsort]
        refine Reps.ofMem fun y hy => ?_
        have hy' : y ∈ ps := (List.mergeSort_perm _ _).mem_iff.mp hy
        refine ⟨e3 y hy', ?_⟩
        have n2 : alls Tag.noOwn xs = true := n
        rw [alls_all, List.all_eq_true] at n2
        exact n2 _ (hm y hy')
      · have n2 : alls Tag.noOwn xs = true := n
        rw [alls_all, List.all_eq_true] at n2 ⊢
        intro y hy
        exact n2 y ((sortD_perm xs).mem_iff.mp hy)
      · rw [(sortD_perm xs).length_eq]; exact b
  · cases e
/-! ### numbers and texts -/
def rIntA : List V → Hp → VK → Prop := fun xs H Q => ((∃ i, xs = [.int i] ∧ Q (.int i) H) ∨ ∃ k, xs = [.bl k] ∧ Q (.int (if k then 1 else 0)) H) ∨ ∃ a n, xs = [.str a] ∧ PySem.intText? a = some n ∧ a.length ≤ 640 ∧ Q (.int n) H
theorem call_intA {X : Cx} : CallR X (.type "int") rIntA := call_int1.or call_int_str
theorem vok_int : VOk rIntA .int := VOk.ofL (fun _ => rfl) fun H0 H w sid tid σ ρ ts v k x d Q s r n e q => by
  unfold opInt at e
  split at e
  · cases e; cases r
    exact .inl (.inl ⟨_, rfl, q _ H (s.ss.int _)⟩)
  · cases e; cases r
    exact .inl (.inr ⟨_, rfl, q _ H (s.ss.int _)⟩)
  · split at e
    case isFalse => cases e
    case isTrue c =>
    obtain ⟨m, e1, e2⟩ := Option.map_eq_some_iff.mp e
    cases e2
    cases r with
    | str b => exact .inr ⟨_, m, rfl, e1, by rw [str_len]; exact c, q _ H (s.ss.int _)⟩
  · cases e
theorem vok_str : VOk (fun xs H Q => ∃ i, xs = [.int i] ∧ i.natAbs.log2 < 1920 ∧ Q (.str (toString i)) H) .str := VOk.ofL (fun _ => rfl) fun H0 H w sid tid σ ρ ts v k x d Q s r n e q => by
  unfold opStr at e
  split at e
  · split at e
    case isFalse => cases e
    case isTrue c =>
    cases e; cases r
    rename_i i
    refine ⟨i, rfl, ?_, ?_⟩
    · by_cases h0 : i.natAbs = 0
      · rw [h0]; decide
      · exact Nat.lt_of_lt_of_le ((Nat.log2_lt h0).mpr (show i.natAbs < 2 ^ 40 from Nat.lt_of_lt_of_le (by omega : i.natAbs < 1000000000000) (by decide))) (by decide)
    · obtain ⟨m, rfl⟩ := Int.eq_ofNat_of_zero_le c.1
      have e : (Str.ofString (toString ((m : Nat) : Int))) = ⟨(TL.numL m).toArray⟩ := by
        have := TL.tl_num m
        cases hz : Str.ofString (toString ((m : Nat) : Int)) with
        | mk a =>
          rw [hz] at this
          have this : a.toList = TL.numL m := this
          rw [← this]
      show Q (.str (Str.ofString (toString ((m : Nat) : Int)))) H
      rw [e]
      refine q _ H (s.ss.str ?_)
      exact Nat.lt_of_le_of_lt (TL.numL_len (k := 12) (by decide) (by omega)) (by decide)
  · cases e
end
end Sd

namespace Sd
open PySem PySem.Spec PyProof.Rows L2

/-! ### an error that was caught is tracked -/
section
variable {X : Cx} {pins : List (Addr × Obj)} {σ : L2.St} {H : Hp} {s : Shared}
/-- the context of a suite, nothing pinned but what was -/
abbrev suiteX (X : Cx) (a : Addr) (pn : List (Addr × Obj)) : Cx := { X with A := X.A.mark (some (.ref a)), calm := false, pn := pn, xe := fun _ _ => False }
theorem inv_track {a : Addr} {oe : Obj} {vs : Array Value} {cls : Value} (I : Inv X pins σ H s) (hx : X.ex = []) (ha : s.heap.get? a = some oe) (hc : oe.cls = cls) (hd : oe.dict = none) (hf : oe.data = .fields vs) (na : H a = none) (n0 : X.s_0.heap.get? a = none) (nL : a ≠ X.env.locals) (np : ∀ p ∈ X.pn ++ pins, p.1 ≠ a) :
    Inv (suiteX X a (X.pn ++ pins)) [] σ (upd H a (excHO a cls)) s := by
  have other : ∀ b, b ≠ a → upd H a (excHO a cls) b = H b := fun b h => upd_ne h
  have ncell : ∀ c v, s.heap.IsCell c v → c ≠ a := fun c v ⟨o, e, d⟩ z => by
    rw [z, ha] at e
    cases e
    rw [hf] at d
    cases d
  refine ⟨⟨I.ok.mod, I.ok.kind, I.ok.glob, I.ok.blt, I.ok.above, I.ok.inj, I.ok.has, I.ok.cab, (fun z => absurd (show false = true from z) Bool.false_ne_true), I.ok.frames, I.ok.stk, I.ok.exf, I.ok.bs, I.ok.bsz, I.ok.noex, I.ok.exfs, I.ok.funs, I.ok.frf⟩, I.os, I.bare, ?_, I.loc, I.cell, ?_, ?_, ?_, ?_, I.len⟩
  · obtain ⟨u1, u2, u3, u4, u5, u6, u7⟩ := I.base
    refine ⟨u1, u2, fun b o e n hb => ?_, u4, fun b xs e => ?_, fun b o u e => ?_, fun b ps e => ?_⟩
    · rw [other b fun z => by rw [z, n0] at e; cases e]
      exact u3 b o e n hb
    · have q := u5 b xs e
      rw [other b (ne_of_none q na)]; exact q
    · have q := u6 b o u e
      rw [other b (ne_of_none q na)]; exact q
    · obtain ⟨m, q⟩ := u7 b ps e
      exact ⟨m, by rw [other b (ne_of_none q na)]; exact q⟩
  · rw [other _ nL.symm]; exact I.free
  · intro x c e
    obtain ⟨v, hv⟩ := I.cell x c e
    rw [other c (ncell c v hv)]; exact I.freeC x c e
  · intro p hp
    have hp' : p ∈ X.pn ++ pins := by simpa using hp
    obtain ⟨e1, e2, e3⟩ := I.pin p hp'
    exact ⟨e1, by rw [other _ (np p hp')]; exact e2, e3⟩
  · intro b u e
    by_cases hb : b = a
    · subst hb
      rw [upd_same] at e
      cases e
      exact ⟨⟨oe, vs, ha, hc, hd, hf⟩, ⟨oe, ha⟩, fun h1 h2 ⟨o1, v1, g1, g2, g3, g4⟩ k => ⟨o1, v1, k o1 g1, g2, g3, g4⟩⟩
    · rw [other b hb] at e
      refine (I.hok b u e).stay (fun c v _ q => q) (fun c q => ?_) fun c xs q => ?_
      · rw [other c (ne_of_none q na)]; exact q
      · rw [other c (ne_of_none q na)]; exact q
theorem inv_untrack {a : Addr} {pn' : List (Addr × Obj)} (I : Inv (suiteX X a (X.pn ++ pins)) pn' σ H s) (ok : X.Ok) : Inv X pins σ H s :=
  ⟨ok, I.os, I.bare, I.base, I.loc, I.cell, I.free, I.freeC, fun p hp => I.pin p (List.mem_append_left _ hp), I.hok, I.len⟩
end
/-- what 'except x as n' wishes: the suite begins with the error tracked -/
def wTrk (K : PySem.W.Frag) (c : Value) (i : Nat) (ts : Addr → Value → TS) (Wout : WX) (D : Ends) : WX := fun cls d σ H =>
  d = none ∧ ∃ b, PySem.W.exmOne K cls c = some b ∧ (b = true → ∀ a, H a = none → ts a cls { nx := fun σ' H' => D.nx (σ'.set i none) H', rt := D.rt, bk := fun σ' H' => D.bk (σ'.set i none) H', ct := fun σ' H' => D.ct (σ'.set i none) H' } (σ.set i (some (.ref a))) (upd H a (excHO a cls))) ∧
    (b = false → Wout cls d σ H)
section
variable {X : Cx} {x n : Str} {c : Value} {i : Nat} {body suite : List Stmt} {b0 : Stmt} {np pos pos' : Pos} {tb : WX → TS} {ts : Addr → Value → TS} {Wout : WX}
theorem ps_try_trk (hs : X.stack = X.env :: X.outer) (hf : X.env.frame = some X.env.locals) (hex : X.ex = []) (hN : X.N.Nodup) (hi : X.N[i]? = some n) (hln : X.env.kindOf n = some .local) (hc : Names X x c) (tk : Takes X Wout)
    (hb : ∀ (W : WX) (pn : List (Addr × Obj)) (xe : Value → Shared → Prop), Takes (X.tr pn xe) W → PassesOwn (model X.prog X.w) X.A X.env xe → PSs (X.tr pn xe) body (tb W))
    (hsu : ∀ (a : Addr) (cls : Value) (pn : List (Addr × Obj)), PSs (suiteX X a pn) (b0 :: suite) (ts a cls)) :
    PS X (.Try body [.ExceptHandler (some (.Name x np)) (some n) (b0 :: suite) pos'] [] [] pos) (fun D σ H => tb (wTrk X.K c i ts Wout D) D σ H) := by
  refine ⟨fun pins s σ H D I h => ?_⟩
  have ok := I.ok
  have frOf : X.A.frames = some (X.env :: X.outer) := by rw [ok.frames, hs]
  have locN : Loc X.env.scope n := .inl hln
  refine wpAny_Try_except (wpAny_mono ((hb (wTrk X.K c i ts Wout D) (X.pn ++ pins) (fun e s1 => wpAny (model X.prog X.w) X.A (noteFrame e X.env) (fun _ s2 => wpAny (model X.prog X.w) X.A (setFlight e none) (fun _ s3 =>
    wpAny (model X.prog X.w) X.A (handleBy e X.env [.ExceptHandler (some (.Name x np)) (some n) (b0 :: suite) pos']) (SP X pins D) X.xe s3) X.xe s2) X.xe s1) (fun u s' xx => ?_) PassesOwn.looking).run [] s σ H D (I.toTry _) h) (fun f s1 hsp => ?_) (fun e s1 he => he))
  · obtain ⟨a, B, sI, pins', σ', H', cls, d, rfl, J', nb, up, sky, na, os, ag, rfl, b, hb1, hyes, hno⟩ := xx
    have J : Inv X pins σ' H' sI := J'.ofTry ok
    rw [hs] at sky
    show wpAny (model X.prog X.w) X.A (noteFrame (.ref a) X.env) _ _ _
    refine Sky.land Zc.steady frOf hf sky fun h3 fl3 up3 => ?_
    have J3 : Inv X pins σ' H' { s' with heap := h3 } := J.landed nb fl3.1 (up.trans up3) os ag
    obtain ⟨oe3, vs3, he3, hz3, hd3⟩ := fl3.there
    have offFr : a ∉ frs (X.env :: X.outer) := fun hm => by
      obtain ⟨_, o', e', hnf⟩ := fl3.2.2.1.mem hm
      rw [he3] at e'; cases e'
      exact hnf _ hd3
    have nL : a ≠ X.env.locals := fun z => offFr (List.mem_filterMap.mpr ⟨X.env, List.mem_cons_self, by rw [hf, z]⟩)
    have nF : a ∉ X.fs := fun hm => by
      obtain ⟨e, he, q⟩ := List.mem_filterMap.mp hm
      exact offFr (List.mem_filterMap.mpr ⟨e, List.mem_cons_of_mem _ he, q⟩)
    have gone : sI.heap.get? a = none := by
      cases q : sI.heap.get? a with
      | none => rfl
      | some o =>
        have := nb a o q (by rw [hs]; exact offFr)
        rw [fl3.2.1] at this; cases this
    have gone0 : X.s_0.heap.get? a = none := by
      cases q : X.s_0.heap.get? a with
      | none => rfl
      | some o =>
        obtain ⟨o', e⟩ := J.base.there a o q (by rw [hex]; simp)
        rw [gone] at e; cases e
    have offPin : ∀ p ∈ X.pn ++ pins, p.1 ≠ a := fun p hp z => by
      have := (J.pin p hp).1
      rw [z, gone] at this; cases this
    have S3 := J3.suite he3 hd3 na nL nF
    refine wpAny_handleBy_cons (codeAny_handlers_test ?_) (by intro q; cases q)
    have kindIs : PySem.W.Looks (model X.prog X.w) h3 (typeOf (.ref a)) cls := fun A Q E s k q => wpAny_typeOf_ref (k _ _ he3) (by rw [hz3.1]; exact q)
    have meets := PySem.W.exm_one (M := model X.prog X.w) (J3.kIn) kindIs hb1
    have named : ∀ {Q : Value → Shared → Prop} {E : Value → Shared → Prop}, Q c { s' with heap := h3 } → wpAny (model X.prog X.w) (X.A.mark (some (.ref a))) (eval (.Name x np) X.env) Q E { s' with heap := h3 } := fun {Q E} q => by
      obtain ⟨hg, hdbg, hm | ⟨hm, hv, hnn⟩⟩ := hc
      · exact ld_glob (X := X.suite a ((a, oe3) :: (X.pn ++ pins))) S3 hg hm q hdbg
      · exact ld_blt (X := X.suite a ((a, oe3) :: (X.pn ++ pins))) S3 hg hm hv q hnn hdbg
    refine named (meets.here ?_)
    cases b with
    | true =>
      refine codeAny_handlers_suite_as (HandSPX.lands_againZ fl3 fun h4 fl4 up4 => ?_)
      have J4 : Inv X pins σ' H' { s' with heap := h4 } := J.landed nb fl4.1 ((up.trans up3).trans up4) os ag
      obtain ⟨oe4, vs4, he4, hz4, hd4⟩ := fl4.there
      have T4 := inv_track J4 hex he4 hz4.1 hz4.2 hd4 na gone0 nL offPin
      refine store_ok (X := suiteX X a (X.pn ++ pins)) (v := .ref a) T4 hN hi locN rfl (fun s5 T5 => ?_) (.inr hln)
      refine wpAny_mono ((hsu a cls (X.pn ++ pins)).run [] s5 _ _ _ T5 (hyes rfl a na)) (fun f s6 hsp => ?_) (fun _ _ z => False.elim z)
      have closing : ∀ {σ6 : L2.St} {H6 : Hp} {Q : Shared → Prop}, Inv (suiteX X a (X.pn ++ pins)) [] σ6 H6 s6 → (∀ s7, Inv X pins (σ6.set i none) H6 s7 → Q s7) →
          wpAny (model X.prog X.w) X.A (do bindName X.env n .none; unbindBehindTheSuite X.env n pos') (fun _ s7 => Q s7) X.xe s6 := fun {σ6 H6 Q} S6 hq => gone_ok (inv_untrack S6 ok) hN hi hln hq
      cases f with
      | next =>
        obtain ⟨σ6, H6, S6, q6⟩ := hsp
        exact closing S6 fun s7 J7 => ⟨_, _, J7, q6⟩
      | brk =>
        obtain ⟨σ6, H6, S6, q6⟩ := hsp
        exact closing S6 fun s7 J7 => ⟨_, _, J7, q6⟩
      | cont =>
        obtain ⟨σ6, H6, S6, q6⟩ := hsp
        exact closing S6 fun s7 J7 => ⟨_, _, J7, q6⟩
      | ret u =>
        obtain ⟨v6, σ6, H6, S6, r6, q6⟩ := hsp
        exact closing S6 fun s7 J7 => ⟨_, _, _, J7, r6, q6⟩
    | false =>
      show wpAny _ X.A (handleBy (.ref a) X.env []) _ _ _
      refine wpAny_handleBy_nil ?_
      obtain ⟨k1, k2, k3, oe, vs, T, oT, ts', he, hz, hd, h1, hr⟩ := id fl3
      unfold PySem.passOn
      refine wpAny_bind (wpAny_field he hd h1 ?_)
      rw [if_neg (show ¬ ((Value.ref T == Value.none) = true) from by simp)]
      have onward : wpAny (model X.prog X.w) X.A (setFlight (.ref a) X.env.frame) (fun _ s4 => wpAny (model X.prog X.w) X.A (throw (.ref a) : PySem.Sem Flow) (SP X pins D) X.xe s4) X.xe { s' with heap := h3 } := by
        rw [hf]
        refine HandSPX.setFlight_upZ fl3 fun h4 hh4 up4 => wpAny_throw (tk _ _ ?_)
        exact ⟨a, B, sI, pins, σ', H', cls, none, rfl, J, nb, (up.trans up3).trans up4, .inr (.inr (by rw [hs]; exact hh4)), na, os, ag, hno rfl⟩
      first
        | exact wpAny_bind (wpAny_pure (wpAny_bind onward))
        | exact wpAny_bind onward
  · cases f with
    | next =>
      obtain ⟨σ', H', J', q⟩ := hsp
      exact wpAny_execs_nil ⟨σ', H', J'.ofTry ok, q⟩
    | brk =>
      obtain ⟨σ', H', J', q⟩ := hsp
      exact ⟨σ', H', J'.ofTry ok, q⟩
    | cont =>
      obtain ⟨σ', H', J', q⟩ := hsp
      exact ⟨σ', H', J'.ofTry ok, q⟩
    | ret u =>
      obtain ⟨v, σ', H', J', r, q⟩ := hsp
      exact ⟨v, σ', H', J'.ofTry ok, r, q⟩
end
variable [KLs]
section
variable {G : SG}
/-- the context within a try -/
def SG.wish (G : SG) (W : L2.WX) : SG := { G with W := W }
/-- the context of a suite -/
def SG.suite (G : SG) : SG := { G with calm := false, top := false, W := fun _ _ _ _ => False }
theorem ctx_tr {X : Cx} (k : CtxOk G X) {W : L2.WX} {pn : List (Addr × Obj)} {xe : Value → Shared → Prop} (tk : Takes (X.tr pn xe) W) (hp : PassesOwn (model X.prog X.w) X.A X.env xe) : CtxOk (G.wish W) (X.tr pn xe) :=
  ⟨k.prog, k.w, k.K, k.mg, k.base, k.N, k.sc, k.nod, k.calm, k.room, k.u64, k.top, tk, hp, k.sto⟩
theorem ctx_suite {X : Cx} (k : CtxOk G X) (a : Addr) (pn : List (Addr × Obj)) : CtxOk G.suite (suiteX X a pn) :=
  ⟨k.prog, k.w, k.K, k.mg, k.base, k.N, k.sc, k.nod, rfl, fun h => absurd (show false = true from h) Bool.false_ne_true, k.u64, fun h => absurd (show false = true from h) Bool.false_ne_true, takes0, PassesOwn.never, k.sto⟩
theorem evS_try {M : Sem} {c i : Nat} {a b : S} {ρ : DEnv} : evS M (.tryS c i a b) ρ = match evS M a ρ with
  | .err k ρ' => if M.isa k c = true then (evS M b (ρ'.set i (some (.exc k)))).lose i else .err k ρ'
  | r => r := rfl
theorem SS.sameS {H0 H : Hp} {σ : L2.St} {ρ : DEnv} {ts : List (V × D)} (s : SS H0 H σ ρ ts) {a : Addr} {o : HO} (na : H a = none) : SS H0 (upd H a o) σ ρ ts := s.grow (same_upd (Same.refl H) na)
theorem SS.caught {H0 H : Hp} {σ : L2.St} {ρ : DEnv} {ts : List (V × D)} {a : Addr} {k : Nat} (i : Nat) (s : SS H0 H σ ρ ts) (ha : H a = none) : SS H0 (upd H a (excHO a (KLs.cv k))) (σ.set i (some (.ref a))) (ρ.set i (some (.exc k))) ts := by
  have s1 := s.sameS (o := excHO a (KLs.cv k)) ha
  exact (s1.imm (v := .ref a) (d := .exc k) (fun w => .exc upd_same) rfl).store i
/-- a caught class: its name, its number -/
structure ExN (G : SG) (c : Nat) (x : Str) : Prop where
  hg : G.sc.names.lookup x = some .globalImplicit
  hd : (x == ("__debug__" : Str)) = false
  mg : G.mg x = some (KLs.cv c)
  isa : ∀ k, PySem.W.exmOne G.K (KLs.cv k) (KLs.cv c) = some (G.M.isa k c)
theorem ds_try (ht : G.top = true) {x n : Str} {c i : Nat} {body suite : List Stmt} {b0 : Stmt} {np pos pos' : Pos} {a b : S} (hn : G.N[i]? = some n) (hl : G.sc.names.lookup n = some .local) (hx : ExN G c x)
    (hb : ∀ W, DSs (G.wish W) body (evS G.M a)) (hs : DSs G.suite (b0 :: suite) (evS G.M b)) : DS G (.Try body [.ExceptHandler (some (.Name x np)) (some n) (b0 :: suite) pos'] [] [] pos) (evS G.M (.tryS c i a b)) := by
  obtain ⟨tsu, psu, msu⟩ := hs
  refine ⟨fun D σ H => (hb (wTrk G.K (KLs.cv c) i (fun _ _ => tsu) G.W D)).choose D σ H, fun X k => ?_, fun H0 H σ ρ ts E s h => ?_⟩
  · obtain ⟨t1, t2, t3⟩ := k.top ht
    have := ps_try_trk (X := X) (x := x) (n := n) (c := KLs.cv c) (i := i) (body := body) (suite := suite) (b0 := b0) (np := np) (pos := pos) (pos' := pos') (tb := fun W => (hb W).choose) (ts := fun _ _ => tsu) (Wout := G.W)
      t1 t2 t3 (by rw [k.N]; exact k.nod) (by rw [k.N]; exact hn) (by show X.env.scope.names.lookup n = _; rw [k.sc]; exact hl)
      ⟨by show X.env.scope.names.lookup x = _; rw [k.sc]; exact hx.hg, hx.hd, .inl (by rw [k.mg]; exact hx.mg)⟩ k.takes
      (fun W pn xe tk hp => (hb W).choose_spec.1 _ (ctx_tr k tk hp)) (fun a cls pn => psu _ (ctx_suite k a pn))
    rw [k.K] at this
    exact this
  · refine (hb (wTrk G.K (KLs.cv c) i (fun _ _ => tsu) G.W E)).choose_spec.2 H0 H σ ρ ts E s ?_
    rw [evS_try] at h
    cases er : evS G.M a ρ with
    | nx ρ' => rw [er] at h; exact h
    | bk ρ' => rw [er] at h; exact h
    | ct ρ' => rw [er] at h; exact h
    | rt d => rw [er] at h; exact h
    | stuck => rw [er] at h; exact h
    | err k ρ' =>
      rw [er] at h
      replace h : ThnS G H0 ts (if G.M.isa k c = true then (evS G.M b (ρ'.set i (some (.exc k)))).lose i else .err k ρ') E := h
      intro σ' H' s'
      refine ⟨rfl, G.M.isa k c, hx.isa k, fun e ad ha => ?_, fun e => ?_⟩
      · rw [e] at h
        simp only [if_true] at h
        refine msu H0 _ _ _ ts _ (s'.caught i ha) ?_
        cases es : evS G.M b (ρ'.set i (some (.exc k))) with
        | nx ρ2 => rw [es] at h; exact fun σ2 H2 s2 => h _ H2 (s2.sig List.length_set List.length_set fun j d ej => by
            rcases set_get ej with ⟨_, z⟩ | ⟨hij, z⟩
            · cases z
            · exact ⟨z, List.getElem?_set_ne hij⟩)
        | bk ρ2 => rw [es] at h; exact fun σ2 H2 s2 => h _ H2 (s2.sig List.length_set List.length_set fun j d ej => by
            rcases set_get ej with ⟨_, z⟩ | ⟨hij, z⟩
            · cases z
            · exact ⟨z, List.getElem?_set_ne hij⟩)
        | ct ρ2 => rw [es] at h; exact fun σ2 H2 s2 => h _ H2 (s2.sig List.length_set List.length_set fun j d ej => by
            rcases set_get ej with ⟨_, z⟩ | ⟨hij, z⟩
            · cases z
            · exact ⟨z, List.getElem?_set_ne hij⟩)
        | rt d => rw [es] at h; exact h
        | err k2 ρ2 => rw [es] at h; exact h.elim
        | stuck => rw [es] at h; exact h.elim
      · rw [e] at h
        simp only [Bool.false_eq_true, if_false] at h
        exact h σ' H' s'
end
end Sd

namespace Sd
open PySem PySem.Spec PyProof.Rows L2
variable [KLs]
section
variable {G : SG} {M : Sem}
/-! ### slices -/
theorem sliceN_len {α : Type} (xs : List α) (lo hi : Option Int) : (sliceN xs lo hi).length ≤ xs.length := by
  unfold sliceN
  rw [List.length_take, List.length_drop]; omega
theorem Reps.drop {H0 H : Hp} {w : Own} {l : Lab} {i : Nat} {vs : List V} {ds : List D} (r : Reps H0 H w l i vs ds) (n : alls Tag.noOwn ds = true) : ∀ k, Reps H0 H w l 0 (vs.drop k) (ds.drop k)
  | 0 => by simpa using r.sh n l 0
  | k + 1 => by
    cases r with
    | nil => simp; exact .nil
    | cons h t =>
      simp only [alls, Bool.and_eq_true] at n
      simpa using Reps.drop t n.2 k
theorem Reps.take {H0 H : Hp} {w : Own} : ∀ {l : Lab} {i : Nat} {vs : List V} {ds : List D}, Reps H0 H w l i vs ds → ∀ k, Reps H0 H w l i (vs.take k) (ds.take k)
  | _, _, _, _, _, 0 => by simp; exact .nil
  | _, _, _, _, .nil, k + 1 => by simp; exact .nil
  | _, _, _, _, .cons h t, k + 1 => by simpa using Reps.cons h (t.take k)
theorem alls_sub {p : Tag → Bool} {xs ys : List D} (h : alls p ys = true) (s : ∀ x ∈ xs, x ∈ ys) : alls p xs = true := by
  rw [alls_all, List.all_eq_true] at h ⊢
  exact fun x hx => h x (s x hx)
theorem sliceN_mem {α : Type} {xs : List α} {lo hi : Option Int} : ∀ x ∈ sliceN xs lo hi, x ∈ xs := fun x h => List.mem_of_mem_drop (List.mem_of_mem_take h)
def rSl (K : PySem.W.Frag) : V → Option Int → Option Int → Hp → VK → Prop := fun x lo hi H Q => rSlL K x lo hi H Q ∨ rSlS x lo hi H Q
theorem sl_all {X : Cx} : SlR X (rSl X.K) := sl_list.or sl_str
theorem slice_ok {H0 H : Hp} {w : Own} {sid tid : List Nat} {σ : L2.St} {ρ : DEnv} {ts : List (V × D)} {v : V} {k : Nat} {x d : D} {lo hi : Option Int} {Q : VK} (s : Sta H0 H w sid tid σ ρ ts) (r : Rep H0 H w [k] v x) (n : x.inOk = true) (e : sliceD x lo hi = some d)
    (q : ∀ v H', SS H0 H' σ ρ ((v, d) :: ts) → Q v H') : rSl G.K v lo hi H Q := by
  cases x with
  | lst t xs =>
    cases e
    obtain ⟨p, vs, rfl, hp, rr, b⟩ := r.sql (G := G)
    refine .inl ⟨p, vs, rfl, hp, fun a ha => q _ _ (s.newL ha ⟨[k], 0, ?_, alls_sub n sliceN_mem⟩ (Nat.lt_of_le_of_lt (sliceN_len _ _ _) b))⟩
    unfold cutV sliceN
    rw [rr.length]
    exact (rr.drop n _).take _
  | str z =>
    cases e
    cases r with
    | str b =>
      refine .inr ⟨_, rfl, by rw [str_len]; exact big_le b, ?_⟩
      have : cutS ⟨z.toArray⟩ lo hi = ⟨(sliceN z lo hi).toArray⟩ := by
        unfold cutS sliceN
        rw [str_len]
      rw [this]
      exact q _ H (s.ss.str (Nat.lt_of_le_of_lt (sliceN_len _ _ _) b))
  | _ => cases e
theorem opSlc_ff {ds : List D} {d : D} (h : opSlc false false ds = some d) : ∃ x, ds = [x] ∧ sliceD x none none = some d := by
  unfold opSlc at h
  split at h <;> first | (cases h; done) | skip
  all_goals first | exact ⟨_, rfl, h⟩ | contradiction
theorem opSlc_tf {ds : List D} {d : D} (h : opSlc true false ds = some d) : ∃ x i, ds = [x, .int i] ∧ sliceD x (some i) none = some d := by
  unfold opSlc at h
  split at h <;> first | (cases h; done) | skip
  all_goals first | exact ⟨_, _, rfl, h⟩ | contradiction
theorem opSlc_ft {ds : List D} {d : D} (h : opSlc false true ds = some d) : ∃ x i, ds = [x, .int i] ∧ sliceD x none (some i) = some d := by
  unfold opSlc at h
  split at h <;> first | (cases h; done) | skip
  all_goals first | exact ⟨_, _, rfl, h⟩ | contradiction
theorem de_slc {e : Expr} {lo hi : Option Expr} {p2 pos : Pos} {cs : E} (hx : ∀ a b, (lo, hi) ≠ (some a, some b)) (h : DA G (e :: (lo.toList ++ hi.toList)) (evA M cs)) : DE G (.Subscript e (.Slice lo hi none p2) pos) (evE M (.op (.slc lo.isSome hi.isSome) cs)) := by
  obtain ⟨tes, ps, m⟩ := h
  cases lo with
  | none =>
    cases hi with
    | none =>
      cases ps with
      | @cons _ _ te _ he _ r1 =>
      cases r1
      refine ⟨tSl (rSl G.K) te tNoPart tNoPart, fun X k => by rw [← k.K]; exact pe_slice sl_all (he X k) po_none po_none, ?_⟩
      refine mean_op (r := fun vs H Q => match vs with | [x] => rSl G.K x none none H Q | _ => False) ?_ m
      intro H0 H w sid tid σ ρ ts vs ds d Q s op e q
      obtain ⟨x, rfl, e⟩ := opSlc_ff e
      obtain ⟨v, k, rfl, r, n⟩ := op.one
      exact slice_ok (G := G) s r n e q
    | some b =>
      cases ps with
      | @cons _ _ te _ he _ r1 =>
      cases r1 with
      | @cons _ _ tb _ hb _ r2 =>
      cases r2
      refine ⟨tSl (rSl G.K) te tNoPart (tPart tb), fun X k => by rw [← k.K]; exact pe_slice sl_all (he X k) po_none (po_some (hb X k)), ?_⟩
      refine mean_op (r := fun vs H Q => match vs with | [x, y] => ∃ i, y = .int i ∧ rSl G.K x none (some i) H Q | _ => False) ?_ m
      intro H0 H w sid tid σ ρ ts vs ds d Q s op e q
      obtain ⟨x, i, rfl, e⟩ := opSlc_ft e
      obtain ⟨v, u, k, j, rfl, r, n, r', n'⟩ := op.two
      cases r'
      exact ⟨_, rfl, slice_ok (G := G) s r n e q⟩
  | some a =>
    cases hi with
    | none =>
      cases ps with
      | @cons _ _ te _ he _ r1 =>
      cases r1 with
      | @cons _ _ tb _ hb _ r2 =>
      cases r2
      refine ⟨tSl (rSl G.K) te (tPart tb) tNoPart, fun X k => by rw [← k.K]; exact pe_slice sl_all (he X k) (po_some (hb X k)) po_none, ?_⟩
      refine mean_op (r := fun vs H Q => match vs with | [x, y] => ∃ i, y = .int i ∧ rSl G.K x (some i) none H Q | _ => False) ?_ m
      intro H0 H w sid tid σ ρ ts vs ds d Q s op e q
      obtain ⟨x, i, rfl, e⟩ := opSlc_tf e
      obtain ⟨v, u, k, j, rfl, r, n, r', n'⟩ := op.two
      cases r'
      exact ⟨_, rfl, slice_ok (G := G) s r n e q⟩
    | some b => exact absurd rfl (hx a b)
theorem de_sl2 {e a b : Expr} {p2 pos : Pos} {c lo hi : E} (he : DE G e (evE M c)) (ha : DE G a (evE M lo)) (hb : DE G b (evE M hi)) : DE G (.Subscript e (.Slice (some a) (some b) none p2) pos) (evE M (.sl2 c lo hi)) := by
  obtain ⟨te, pe, me⟩ := he
  obtain ⟨ta, pa, ma⟩ := ha
  obtain ⟨tb, pb, mb⟩ := hb
  refine ⟨tSl (rSl G.K) te (tPart ta) (tPart tb), fun X k => by rw [← k.K]; exact pe_slice sl_all (pe X k) (po_some (pa X k)) (po_some (pb X k)), fun H0 H σ ρ ts Q s h => ?_⟩
  simp only [evE] at h
  refine me H0 H σ ρ ts _ s (h.bind.imp fun d ρ1 h v H1 s1 => ?_)
  refine ma H0 H1 σ ρ1 _ _ s1.demTop ((h.bind.up [_]).imp fun x ρ2 h u H2 s2 => ?_)
  split at h
  case h_2 => exact h.elim
  case h_1 i =>
  obtain ⟨w, sid, tid, k, s3, r⟩ := SS.topr (nt := []) s2
  cases r
  refine ⟨i, rfl, ?_⟩
  refine mb H0 H2 σ ρ2 _ _ s2.drop ((h.bind.up [_]).imp fun y ρ3 h u H3 s4 => ?_)
  split at h
  case h_2 => exact h.elim
  case h_1 j =>
  obtain ⟨w, sid, tid, k, s5, r⟩ := SS.topr (nt := []) s4
  cases r
  refine ⟨j, rfl, ?_⟩
  obtain ⟨w, sid, tid, k, s6, r⟩ := SS.topr (nt := []) s4.drop
  cases e : sliceD d.dem (some i) (some j) with
  | none => rw [e] at h; exact h.elim
  | some z =>
    rw [e] at h
    exact slice_ok (G := G) s6 r (D.inOk_of d.dem_noOwn) e fun v H' s' => h v H' s'.drop2
/-! ### chains of ints -/
theorem op_lq {X : Cx} (p : Bool) : OpR X (compareOp (if p then .LtE else .Lt)) (rI0 fun i j => .bl (if p then decide (i ≤ j) else decide (i < j))) := by
  cases p with
  | true => exact op_le
  | false => exact op_lt
theorem de_chn {a b c : Expr} {pos : Pos} {p q : Bool} {ab e : E} (h : DA G [a, b] (evA M ab)) (hc : DE G c (evE M e)) : DE G (.Compare a [if p then .LtE else .Lt, if q then .LtE else .Lt] [b, c] pos) (evE M (.chn p q ab e)) ∧ DT G (.Compare a [if p then .LtE else .Lt, if q then .LtE else .Lt] [b, c] pos) (evE M (.chn p q ab e)) := by
  obtain ⟨tes, ps, m⟩ := h
  obtain ⟨tc, pc, mc⟩ := hc
  cases ps with
  | @cons _ _ ta _ ha _ r1 =>
  cases r1 with
  | @cons _ _ tb _ hb _ r2 =>
  cases r2
  have mm : Mean G (tChain (rI0 fun i j => .bl (if p then decide (i ≤ j) else decide (i < j))) (rI0 fun i j => .bl (if q then decide (i ≤ j) else decide (i < j))) ta tb tc) (evE M (.chn p q ab e)) := by
    intro H0 H σ ρ ts Q s h
    simp only [evE] at h
    refine m H0 H σ ρ ts (fun vs H2 => match vs with | [x, y] => (rI0 fun i j => .bl (if p then decide (i ≤ j) else decide (i < j))) x y H2 (fun z H3 => ∃ k, z = .bl k ∧ (if k = true then tc σ H3 (fun z H4 => (rI0 fun i j => .bl (if q then decide (i ≤ j) else decide (i < j))) y z H4 Q) else Q (.bl false) H3)) | _ => False) s (h.bind.imp fun ds ρ' h => ?_)
    intro vs H1 nt w sid tid s1 o
    split at h
    case h_2 => exact h.elim
    case h_1 x y =>
    obtain ⟨v, u, k, j, rfl, r, _, r', _⟩ := o.two
    cases r
    cases r'
    refine ⟨x, y, rfl, rfl, _, rfl, ?_⟩
    have s2 : SS H0 H1 σ ρ' ts := SS.drops s1.ss
    by_cases hk : (if p = true then decide (x ≤ y) else decide (x < y)) = true
    case pos =>
      rw [if_pos hk] at h ⊢
      refine mc H0 H1 σ ρ' ts _ s2 (h.bind.imp fun d ρ2 h z H4 s4 => ?_)
      split at h
      case h_2 => exact h.elim
      case h_1 zz =>
      obtain ⟨w, sid, tid, k, s5, r⟩ := SS.topr (nt := []) s4
      cases r
      exact ⟨y, zz, rfl, rfl, h _ H4 (s4.drop.bl _)⟩
    case neg =>
      rw [if_neg hk] at h ⊢
      exact h _ H1 (s2.bl _)
  have hm : lastMarks [if p then CmpOp.LtE else .Lt, if q then CmpOp.LtE else .Lt] [b, c] = false := nomark c (by cases q <;> decide) (by cases q <;> decide)
  refine ⟨⟨_, fun X k => pe_chain (op_lq p) (op_lq q) (ha X k) (hb X k) (pc X k) hm, mm⟩, ⟨_, fun X k => pt_chain (op_lq p) (op_lq q) (ha X k) (hb X k) (pc X k) hm, fun H0 H σ ρ ts Q s h => ?_⟩⟩
  refine mm H0 H σ ρ ts _ s (h.val fun d ρ' e ⟨bb, eb, h⟩ v H' s' => ?_)
  have key : ∃ k, d = .bl k := by
    simp only [evE] at e
    obtain ⟨ds, ρ1, e1, e2⟩ := bind_val e
    split at e2
    case h_2 => cases e2
    case h_1 x y =>
    by_cases hk : (if p = true then decide (x ≤ y) else decide (x < y)) = true
    · rw [if_pos hk] at e2
      obtain ⟨d2, ρ2, e3, e4⟩ := bind_val e2
      split at e4
      · cases e4; exact ⟨_, rfl⟩
      · cases e4
    · rw [if_neg hk] at e2
      cases e2; exact ⟨_, rfl⟩
  obtain ⟨k, rfl⟩ := key
  obtain ⟨w, sid, tid, k', s2, r⟩ := SS.topr (nt := []) s'
  cases r
  simp only [D.tru, Option.some.injEq] at eb
  subst eb
  exact ⟨k, rfl, h H' s'.drop⟩
/-! ### methods of built-in types -/
/-- receiver and arguments, by values -/
def rM (R : V → List V → Hp → VK → Prop) : List V → Hp → VK → Prop := fun vs H Q => match vs with
  | x :: xs => R x xs H Q
  | [] => False
theorem mean_me {k : Kd} {o : Op} {C : V → Hp → Prop} {R : V → List V → Hp → VK → Prop} {e : Expr} {c cs : E} (hC : ∀ H0 H w l v d, Rep H0 H w l v d → k.ok d = true → C v H) (hv : VOk (rM R) o)
    (hr : (∃ i x p, c = .var i ∧ e = .Name x p ∧ visN G i x) ∨ ((∀ i, c ≠ .var i) ∧ DE G e (evE M c))) {ta : TA} (ma : MeanA G ta (evA M cs)) :
    ∃ te, (∀ X, CtxOk G X → PE X e te) ∧ Mean G (fun σ H Q => te σ H fun x H1 => C x H1 ∧ ta σ H1 fun xs H2 => R x xs H2 Q) (evE M (.me k o c cs)) := by
  rcases hr with ⟨i, x, p, rfl, rfl, hx⟩ | ⟨hn, te, pe, me⟩
  · refine ⟨tVar i, hx.pe, fun H0 H σ ρ ts Q s h => ?_⟩
    simp only [evE] at h
    split at h
    case h_2 => exact h.elim
    case h_1 d0 e0 =>
    split at h
    case isFalse => exact h.elim
    case isTrue hk =>
    obtain ⟨w, sid, tid, s1⟩ := id s
    obtain ⟨v, kk, e1, e2, r⟩ := s1.slot i d0 e0
    refine ⟨v, e1, hC _ _ _ _ _ _ r hk, ?_⟩
    refine ma H0 H σ ρ ts _ s (h.bind.imp fun ds ρ' h => ?_)
    intro vs H1 nt w sid tid s2 o2
    split at h
    case h_2 => exact h.elim
    case h_1 d e3 =>
    obtain ⟨w', s3, ⟨v2, k2, e4, rp⟩, _, k', rfl⟩ := s2.look i e3
    rw [e1] at e4
    cases e4
    cases ez : evOp o (d.demIn :: ds) with
    | none => rw [ez] at h; exact h.elim
    | some z =>
      rw [ez] at h
      exact hv H0 H1 _ sid tid σ _ _ (v :: vs) (d.demIn :: ds) z Q s3 (.cons rp d.demIn_ok o2.wsub) ez fun v H' s' => h v H' (SS.drops2 s')
  · refine ⟨te, pe, fun H0 H σ ρ ts Q s h => ?_⟩
    have h' : Thn G H0 σ ts ((evE M c ρ).bind fun d ρ1 => if k.ok d = true then (evA M cs ρ1).bind fun ds ρ2 => match evOp o (d.dem :: ds) with
      | some z => .ok z ρ2
      | none => .stuck else .stuck) (fun d ρ' => ∀ v H', SS H0 H' σ ρ' ((v, d) :: ts) → Q v H') := by
      cases c <;> first | exact h | exact absurd rfl (hn _)
    refine me H0 H σ ρ ts _ s (h'.bind.imp fun d ρ1 h v H1 s1 => ?_)
    split at h
    case isFalse => exact h.elim
    case isTrue hk =>
    obtain ⟨w, sid, tid, kk, s2, r⟩ := SS.topr (nt := []) s1
    refine ⟨hC _ _ _ _ _ _ r hk, ?_⟩
    refine ma H0 H1 σ ρ1 _ _ s1.demTop ((h.bind.up [_]).imp fun ds ρ2 h => ?_)
    intro vs H2 nt w sid tid s3 o2
    obtain ⟨k3, rp⟩ := SS.topd s3
    cases ez : evOp o (d.dem :: ds) with
    | none => rw [ez] at h; exact h.elim
    | some z =>
      rw [ez] at h
      exact hv H0 H2 w sid tid σ _ _ (v :: vs) (d.dem :: ds) z Q s3 (.cons rp (D.inOk_of d.dem_noOwn) o2) ez fun v H' s' => h v H' (SS.drop2 (SS.drops2 (nt := nt) s'))
/-- the receiver may not be a bare call -/
def bareB : Expr → Bool
  | .Call (.Name _ _) [] [] _ => false
  | _ => true
theorem base_of {o : Expr} {name : Str} {env : PySem.Env} (h : bareB o = true) : attributeBase o name env (eval o env) = eval o env := by
  unfold attributeBase
  cases o with
  | Call f as ks p =>
    cases f with
    | Name x p2 =>
      cases as with
      | nil => cases ks with
        | nil => cases h
        | cons _ _ => rfl
      | cons _ _ => cases ks <;> rfl
    | _ => rfl
  | _ => rfl
theorem few_of {es : List Expr} {tes : List TE} {env : PySem.Env} {pos : Pos} (h : DAs G es tes) (hl : es.length < 30) :
    ((backTo pos (starEach es env)).all (fun x => !x.1) && (backToKw pos (keywordEach [] env)).all (fun x => x.1.isSome) && decide (es.length + ([] : List Keyword).length + (if ([] : List Keyword).isEmpty then 0 else 1) < 30)) = true := by
  have h1 : (backTo pos (starEach es env)).all (fun x => !x.1) = true := by
    have := plainA (env := env) (pos := pos) h
    rw [List.any_eq_false] at this
    rw [List.all_eq_true]
    intro x hx
    have := this x hx
    simpa using this
  rw [h1]
  have : es.length + ([] : List Keyword).length + (if ([] : List Keyword).isEmpty then 0 else 1) < 30 := by simpa using hl
  rw [decide_eq_true this]
  rfl
/-- a method with arguments -/
theorem de_me {k : Kd} {o : Op} {T id : String} {R : V → List V → Hp → VK → Prop} {e a : Expr} {es : List Expr} {name : Str} {apos cpos : Pos} {c cs : E} (pa : PlainAttrs T) (slot : Slot T name id) (hty : typeOf (.builtin id) = pure (.type "method_descriptor"))
    (hm : ∀ X, CtxOk G X → MtR X id R) (hT : ∀ H0 H w l v d, Rep H0 H w l v d → k.ok d = true → tyV G.K T v H) (hv : VOk (rM R) o)
    (hr : (∃ i x p, c = .var i ∧ e = .Name x p ∧ visN G i x) ∨ ((∀ i, c ≠ .var i) ∧ DE G e (evE M c))) (ha : DA G (a :: es) (evA M cs)) (hb : bareB e = true) (hl : (apos.endLine == cpos.line) = true) (hn : (a :: es).length < 30) :
    DE G (.Call (.Attribute e name apos) (a :: es) [] cpos) (evE M (.me k o c cs)) := by
  obtain ⟨tes, ps, m⟩ := ha
  obtain ⟨te, pe, mm⟩ := mean_me (G := G) (M := M) hT hv hr m
  refine ⟨tBM G.K T R te (tAll tes), fun X k => ?_, mm⟩
  rw [← k.K]
  have q := ps
  cases q with
  | cons h n r => exact pe_bm pa slot hty (hm X k) (pe X k) (ps.pa k) (base_of hb) (few_of (G := G) ps hn) hl (starEach_cons n) (plainA r)
theorem ty_str {H0 H : Hp} {w : Own} {l : Lab} {v : V} {d : D} (r : Rep H0 H w l v d) (h : Kd.ok .str d = true) : tyV G.K "str" v H := by
  cases d <;> first | (cases h; done) | (cases r; rfl)
theorem ty_lst {H0 H : Hp} {w : Own} {l : Lab} {v : V} {d : D} (r : Rep H0 H w l v d) (h : Kd.ok .lst d = true) : tyV G.K "list" v H := by
  cases d <;> first | (cases h; done) | skip
  obtain ⟨p, vs, rfl, hp, _⟩ := r.sql (G := G)
  exact .inl ⟨rfl, vs, hp⟩
theorem spl_len (c : Nat) : ∀ (s acc : List Nat), ((TL.spl [c] 0 acc s).map List.length).sum + (TL.spl [c] 0 acc s).length = acc.length + s.length + 1
  | [], acc => by rw [TL.spl_nil]; simp
  | x :: s, acc => by
    cases h : TL.pre [c] (x :: s) with
    | true =>
      rw [TL.spl_hit h]
      have := spl_len c s []
      simp only [List.length_singleton, Nat.sub_self, List.map_cons, List.sum_cons, List.length_cons, List.length_nil] at this ⊢
      omega
    | false =>
      rw [TL.spl_miss h]
      have := spl_len c s (acc ++ [x])
      simp only [List.length_append, List.length_singleton, List.length_cons, List.length_nil] at this ⊢
      omega
theorem reps_strs {H0 H : Hp} {w : Own} : ∀ {l : Lab} {i : Nat} (ys : List (List Nat)), (∀ y ∈ ys, y.length < big) → Reps H0 H w l i ((ys.map fun z => (⟨z.toArray⟩ : Str)).map V.str) (ys.map D.str)
  | _, _, [], _ => .nil
  | _, _, y :: ys, h => .cons (.str (h y List.mem_cons_self)) (reps_strs ys fun z hz => h z (List.mem_cons_of_mem _ hz))
theorem alls_strs (ys : List (List Nat)) : alls Tag.noOwn (ys.map D.str) = true := by
  rw [alls_all, List.all_eq_true]
  intro x hx
  obtain ⟨y, _, rfl⟩ := List.mem_map.mp hx
  rfl
theorem sum_ge : ∀ (l : List Nat) (x : Nat), x ∈ l → x ≤ l.sum
  | a :: l, x, h => by
    rw [List.sum_cons]
    rcases List.mem_cons.mp h with rfl | h
    · omega
    · have := sum_ge l x h; omega
def rSplit : V → List V → Hp → VK → Prop := fun x xs H Q => ∃ a b, x = .str a ∧ xs = [.str b] ∧ (b.length == 0) = false ∧ a.length + 2 ≤ sizeLine ∧ rNewStrs (PySem.Txt.split a b) H Q
theorem vok_split : VOk (rM rSplit) .split := by
  intro H0 H w sid tid σ ρ ts vs ds d Q s op e q
  obtain ⟨x, y, rfl, e2⟩ := b2_some (show b2 opSplit ds = some d from e)
  clear e
  obtain ⟨v, u, k, j, rfl, r, n, r', n'⟩ := op.two
  unfold opSplit at e2
  split at e2
  case h_2 => cases e2
  case h_1 z c =>
  split at e2
  case isFalse => cases e2
  case isTrue hc =>
  cases e2
  cases r with
  | str b =>
  cases r' with
  | str b' =>
  have hB : big = 1000000 := rfl
  have hL := big_line
  have tlz : TL.tl (⟨z.toArray⟩ : Str) = z := by show z.toArray.toList = z; simp
  have tlc : TL.tl (⟨([c] : List Nat).toArray⟩ : Str) = [c] := rfl
  have hsp : PySem.Txt.split ⟨z.toArray⟩ ⟨[c].toArray⟩ = (TL.spl [c] 0 [] z).map fun w => (⟨w.toArray⟩ : Str) := by
    have h1 := TL.split_spl ⟨z.toArray⟩ ⟨[c].toArray⟩ (by rw [tlc]; simp) (by
      unfold Builtin.Str.strKind
      rw [if_pos (show (Str.mk [c].toArray).cps.all (· < 256) = true by
        show [c].toArray.all (· < 256) = true
        rw [List.all_toArray]
        simp; omega)]
      split <;> (try split) <;> omega)
    rw [tlz, tlc] at h1
    rw [← h1, List.map_map]
    have : (fun w : List Nat => (⟨w.toArray⟩ : Str)) ∘ TL.tl = id := by
      funext w
      cases w
      show Str.mk (Array.toList _).toArray = _
      simp
    rw [this, List.map_id]
  have hlen := spl_len c z []
  refine ⟨_, _, rfl, rfl, rfl, by rw [str_len]; omega, fun p hp => ?_⟩
  rw [hsp]
  simp only [List.length_nil] at hlen
  refine q _ _ (s.newL hp ⟨[], 0, reps_strs _ (fun y hy => ?_), alls_strs _⟩ (by rw [List.length_map]; omega))
  have := sum_ge _ _ (List.mem_map_of_mem (f := List.length) hy)
  omega
end
end Sd

namespace Sd
open PySem PySem.Spec PyProof.Rows L2
variable [KLs]
section
variable {G : SG} {M : Sem}
/-! ### join, pow -/
theorem joinL_len (s : List Nat) : ∀ ys : List (List Nat), (TL.joinL s ys).length ≤ (ys.map List.length).sum + ys.length * s.length
  | [] => by simp [TL.joinL]
  | [y] => by simp [TL.joinL]
  | y :: z :: r => by
    have := joinL_len s (z :: r)
    show (y ++ (s ++ TL.joinL s (z :: r))).length ≤ _
    simp only [List.length_append, List.map_cons, List.sum_cons, List.length_cons, Nat.add_mul] at this ⊢
    omega
def rJoin (K : PySem.W.Frag) : V → List V → Hp → VK → Prop := fun x xs H Q => ∃ a p, ∃ ys : List Str, x = .str a ∧ xs = [.ref p] ∧ (SqL K H p (ys.map V.str) ∨ SqT K H p (ys.map V.str)) ∧
    (ys.map (·.length)).sum + ys.length * a.length ≤ 16777216 ∧ Q (.str (Txt.join a ys)) H
theorem vok_join : VOk (rM (rJoin G.K)) .join := by
  intro H0 H w sid tid σ ρ ts vs ds d Q s op e q
  obtain ⟨x, y, rfl, e2⟩ := b2_some (show b2 opJoin ds = some d from e)
  clear e
  obtain ⟨v, u, k, j, rfl, r, n, r', n'⟩ := op.two
  unfold opJoin at e2
  split at e2
  case h_2 => cases e2
  case h_1 z t xs =>
  obtain ⟨ys, e3, e4⟩ := Option.bind_eq_some_iff.mp e2
  split at e4
  case isFalse => cases e4
  case isTrue hb =>
  have hb : (ys.map List.length).sum + ys.length * z.length < big := hb
  cases e4
  obtain ⟨p, us, rfl, hp, rr, _⟩ := r'.sql (G := G)
  cases r with
  | str b =>
  rw [strs_reps rr e3] at hp
  have hB : big = 1000000 := rfl
  refine ⟨_, p, ys.map fun z => (⟨z.toArray⟩ : Str), rfl, rfl, .inl hp, ?_, ?_⟩
  · rw [List.map_map, List.length_map]
    have e5 : (fun x : Str => x.length) ∘ (fun z : List Nat => (⟨z.toArray⟩ : Str)) = List.length := by
      funext z; exact str_len z
    show ((ys.map ((fun x : Str => x.length) ∘ fun z => (⟨z.toArray⟩ : Str))).sum + ys.length * (⟨z.toArray⟩ : Str).length) ≤ 16777216
    rw [e5, str_len]
    omega
  · rw [show Txt.join ⟨z.toArray⟩ (ys.map fun z => (⟨z.toArray⟩ : Str)) = ⟨(TL.joinL z ys).toArray⟩ from SX.join_S z ys]
    exact q _ H (s.ss.str (by have := joinL_len z ys; omega))
theorem vok_pow : VOk (r2 (rI CPow fun i j => .int (i ^ j.toNat))) .pow := VOk.of2 (fun _ => rfl) fun H0 H w sid tid σ ρ ts v u k j x y d Q s r n r' n' e q => by
  unfold opPow at e
  split at e
  · split at e
    case isFalse => cases e
    case isTrue h =>
    cases e; cases r; cases r'
    have hL : lim = 18446744073709551616 := rfl
    exact ⟨_, _, rfl, rfl, ⟨h.1, by omega, by omega⟩, q _ H (s.ss.int _)⟩
  · cases e
/-! ### isinstance -/
def Ty.nm : Ty → Option String
  | .str => some "str"
  | .list => some "list"
  | .tuple => some "tuple"
  | .int => some "int"
  | .bool => some "bool"
  | .dict => some "dict"
  | _ => none
theorem rep_ty {H0 H : Hp} {w : Own} {l : Lab} {v : V} {d : D} {t : Ty} {n : String} {b : Bool} (r : Rep H0 H w l v d) (ht : t.nm = some n) (e : t.is M.isa d = some b) : ∃ m, TyX G.K H v (.type m) ∧ kitB m n = some b := by
  have rd : ∀ {t : Tag} {p : Addr} {vs : List V}, AtT t H p (.lst vs) → TyX G.K H (.ref p) (.type "list") := fun a => by
    rcases a.rd with h | ⟨o, h⟩
    · exact .base (.lst h)
    · exact .base (.frz h)
  cases r with
  | non => exact ⟨_, .base .non, by cases t <;> cases ht <;> (cases e; decide +kernel)⟩
  | bl => exact ⟨_, .base (.bl _), by cases t <;> cases ht <;> (cases e; decide +kernel)⟩
  | int => exact ⟨_, .base (.int _), by cases t <;> cases ht <;> (cases e; decide +kernel)⟩
  | str _ => exact ⟨_, .base (.str _), by cases t <;> cases ht <;> (cases e; decide +kernel)⟩
  | lst a g r _ => exact ⟨_, rd a, by cases t <;> cases ht <;> (cases e; decide +kernel)⟩
  | lstK a r _ =>
    obtain ⟨o, its, n, h1, h2, _⟩ := G.kl _ _ a
    exact ⟨_, .kList h1 h2, by cases t <;> cases ht <;> (cases e; decide +kernel)⟩
  | tup a r => exact ⟨_, .base (.tup a), by cases t <;> cases ht <;> (cases e; decide +kernel)⟩
  | exc a => cases t <;> first | (cases ht; done) | (cases e; done)
  | dK a g _ r =>
    rcases a.rd with h | ⟨o, h⟩
    · exact ⟨_, .base (.dK h), by cases t <;> cases ht <;> (cases e; decide +kernel)⟩
    · exact ⟨_, .fDict h, by cases t <;> cases ht <;> (cases e; decide +kernel)⟩
  | @dT _ p tg kvs ks ds a g _ r =>
    cases tg with
    | own => exact ⟨_, .base (.dT a), by cases t <;> cases ht <;> (cases e; decide +kernel)⟩
    | new => exact ⟨_, .base (.dT a), by cases t <;> cases ht <;> (cases e; decide +kernel)⟩
    | any => cases t <;> first | (cases ht; done) | (cases e; done)
theorem mean_isi {t : Ty} {c : V} {r : List V → Hp → VK → Prop} {ta : TE} {cs : E} (m : MeanA G (tAll [ta]) (evA M cs))
    (h : ∀ H0 H w sid tid σ ρ ts v k d b Q, Sta H0 H w sid tid σ ρ ts → Rep H0 H w [k] v d → t.is M.isa d = some b → Q (.bl b) H → r [v, c] H Q) : Mean G (tCB r (tAll [ta, tC c])) (evE M (.isi t cs)) := by
  intro H0 H σ ρ ts Q s e
  simp only [evE] at e
  have := m H0 H σ ρ ts (fun vs H1 => r (vs ++ [c]) H1 Q) s (e.bind.imp fun ds ρ' e => ?_)
  · exact this
  · intro vs H1 nt w sid tid s1 o
    split at e
    case h_2 => exact e.elim
    case h_1 d =>
    obtain ⟨v, k, rfl, r1, n⟩ := o.one
    cases q : t.is M.isa d with
    | none => rw [q] at e; exact e.elim
    | some b =>
      rw [q] at e
      exact h _ _ _ _ _ _ _ _ _ _ _ _ _ s1 r1 q (e _ H1 ((SS.drops s1.ss).bl b))
theorem de_isi {t : Ty} {n : String} {x : Str} {a : Expr} {p p2 pos : Pos} {cs : E} (ht : t.nm = some n) (hb : BltN G "isinstance" (.builtin "isinstance")) (hx : BltN G x (.type n)) (h : DA G [a] (evA M cs)) : DE G (.Call (.Name "isinstance" p) [a, .Name x p2] [] pos) (evE M (.isi t cs)) := by
  obtain ⟨tes, ps, m⟩ := h
  cases ps with
  | @cons _ _ ta _ ha na r1 =>
  cases r1
  refine ⟨tCB (rIsi G.K) (tAll [ta, tC (.ty n)]), fun X k => ?_, mean_isi m fun H0 H w sid tid σ ρ ts v k d b Q s r e q => ?_⟩
  · have e2 : PE X (.Name x p2) (tC (.ty n)) := pe_bltn (by show X.env.scope.names.lookup x = _; rw [k.sc]; exact hx.hg) (by rw [k.mg]; exact hx.hm) hx.hv rfl hx.hn hx.hd
    rw [← k.K]
    exact pe_callB call_isi (by show X.env.scope.names.lookup _ = _; rw [k.sc]; exact hb.hg) (by rw [k.mg]; exact hb.hm) hb.hv (pa_cons (ha X k) (pa_cons e2 pa_nil rfl) (starEach_cons na)) hb.hn hb.hd (starEach_cons na) rfl
  · obtain ⟨m, ty, e3⟩ := rep_ty (G := G) r ht e
    exact ⟨v, .ty n, _, _, b, rfl, .ty n, ty, kit_ty e3, q⟩
/-- isinstance(e, C) of a caught error -/
def rIsX (K : PySem.W.Frag) : List V → Hp → VK → Prop := fun xs H Q => ∃ (p D : Addr) (c : V) (cv : Value) (b : Bool), xs = [.ref p, c] ∧ H p = some (excHO p (.ref D)) ∧ ExcC K D ∧ (∀ u, RelV c u → u = cv) ∧ PySem.W.kitOne K (.ref D) cv = some b ∧ Q (.bl b) H
theorem call_isX {X : Cx} : CallR X (.builtin "isinstance") (rIsX X.K) := by
  intro pins s σ H xs us Q I r h
  obtain ⟨p, D, c, cv, b, rfl, hp, C, hcv, e, q⟩ := h
  cases r with
  | cons rx rr =>
    cases rr with
    | cons rt rr =>
      cases rr
      cases rx
      have ec := hcv _ rt
      subst ec
      obtain ⟨⟨oe, vs, hget, h1, h2, hv⟩, _, _⟩ := I.hok p _ hp
      have J : PySem.W.InstAt s.heap p oe D none := by
        obtain ⟨oc, od, oda, osl⟩ := oe
        dsimp only at h1 h2 hv
        subst h1 h2 hv
        exact ⟨hget, rfl, rfl, trivial⟩
      exact PySem.W.kia_one (PySem.W.handS_kitx_exc C.hg C.hk C.hs C.hd C.ha C.hn C.ht C.hm) I.kIn J e (fun z => nomatch z) fun tk => ⟨.bl b, H, I.tok tk, rfl, q⟩
/-- what the classes of errors say of a class -/
def IsaN (G : SG) (M : Sem) (t : Ty) (cv : Value) : Prop := ∀ c, ∃ D b, KLs.cv c = .ref D ∧ ExcC G.K D ∧ t.is M.isa (.exc c) = some b ∧ PySem.W.kitOne G.K (.ref D) cv = some b
theorem isi_exc {t : Ty} {c : V} {cv : Value} (hc : ∀ u, RelV c u → u = cv) (hI : IsaN G M t cv) (ht : ∀ d b, t.is M.isa d = some b → ∃ c, d = .exc c) {H0 H : Hp} {w : Own} {v : V} {k : Nat} {d : D} {b : Bool} {Q : VK} (r : Rep H0 H w [k] v d) (e : t.is M.isa d = some b) (q : Q (.bl b) H) : rIsX G.K [v, c] H Q := by
  obtain ⟨n, rfl⟩ := ht _ _ e
  obtain ⟨D, b', h1, h2, h3, h4⟩ := hI n
  rw [h3] at e
  cases e
  cases r with
  | exc a =>
    rw [h1] at a
    exact ⟨_, D, c, cv, b, rfl, a, h2, hc, h4, q⟩
theorem isa_exc {t : Ty} (h : t = .verr ∨ ∃ c, t = .exc c) : ∀ d b, t.is M.isa d = some b → ∃ c, d = .exc c := by
  intro d b e
  rcases h with rfl | ⟨c, rfl⟩ <;> cases d <;> first | exact ⟨_, rfl⟩ | (cases e; done)
theorem de_isX {c : Nat} {x : Str} {C : Addr} {a : Expr} {p p2 pos : Pos} {cs : E} (hb : BltN G "isinstance" (.builtin "isinstance")) (hx : G.sc.names.lookup x = some .globalImplicit ∧ G.mg x = some (.ref C) ∧ (x == ("__debug__" : Str)) = false) (hI : IsaN G M (.exc c) (.ref C)) (h : DA G [a] (evA M cs)) : DE G (.Call (.Name "isinstance" p) [a, .Name x p2] [] pos) (evE M (.isi (.exc c) cs)) := by
  obtain ⟨tes, ps, m⟩ := h
  cases ps with
  | @cons _ _ ta _ ha na r1 =>
  cases r1
  refine ⟨tCB (rIsX G.K) (tAll [ta, tC (.ref C)]), fun X k => ?_, mean_isi m fun H0 H w sid tid σ ρ ts v k d b Q s r e q => isi_exc (c := .ref C) (cv := .ref C) (fun u r => r) hI (isa_exc (.inr ⟨_, rfl⟩)) r e q⟩
  have e2 : PE X (.Name x p2) (tC (.ref C)) := pe_glob (by show X.env.scope.names.lookup x = _; rw [k.sc]; exact hx.1) (by rw [k.mg]; exact hx.2.1) rfl hx.2.2
  rw [← k.K]
  exact pe_callB call_isX (by show X.env.scope.names.lookup _ = _; rw [k.sc]; exact hb.hg) (by rw [k.mg]; exact hb.hm) hb.hv (pa_cons (ha X k) (pa_cons e2 pa_nil rfl) (starEach_cons na)) hb.hn hb.hd (starEach_cons na) rfl
theorem de_isV {a : Expr} {p p2 pos : Pos} {cs : E} (hb : BltN G "isinstance" (.builtin "isinstance")) (hx : BltN G "ValueError" (.type "ValueError")) (hI : IsaN G M .verr (.type "ValueError")) (h : DA G [a] (evA M cs)) : DE G (.Call (.Name "isinstance" p) [a, .Name "ValueError" p2] [] pos) (evE M (.isi .verr cs)) := by
  obtain ⟨tes, ps, m⟩ := h
  cases ps with
  | @cons _ _ ta _ ha na r1 =>
  cases r1
  refine ⟨tCB (rIsX G.K) (tAll [ta, tC (.ty "ValueError")]), fun X k => ?_, mean_isi m fun H0 H w sid tid σ ρ ts v k d b Q s r e q => isi_exc (c := .ty "ValueError") (cv := .type "ValueError") (fun u r => r) hI (isa_exc (.inl rfl)) r e q⟩
  have e2 : PE X (.Name "ValueError" p2) (tC (.ty "ValueError")) := pe_bltn (by show X.env.scope.names.lookup _ = _; rw [k.sc]; exact hx.hg) (by rw [k.mg]; exact hx.hm) hx.hv rfl hx.hn hx.hd
  rw [← k.K]
  exact pe_callB call_isX (by show X.env.scope.names.lookup _ = _; rw [k.sc]; exact hb.hg) (by rw [k.mg]; exact hb.hm) hb.hv (pa_cons (ha X k) (pa_cons e2 pa_nil rfl) (starEach_cons na)) hb.hn hb.hd (starEach_cons na) rfl
end
end Sd

namespace Sd
open PySem PySem.Spec PyProof.Rows L2
variable [KLs]
section
variable {G : SG} {M : Sem}
/-! ### names, checked -/
def visB (N : List Str) (sc : Scope) (i : Nat) (x : Str) : Bool := decide (N[i]? = some x) && ((decide (sc.names.lookup x = some .local) || (decide (sc.names.lookup x = some .cell) || decide (sc.names.lookup x = some .free))) && (!(x == ("__debug__" : Str)) && !(x == ("__classdict__" : Str))))
theorem vis {i : Nat} {x : Str} (h : visB G.N G.sc i x = true) : visN G i x := by
  simp only [visB, Bool.and_eq_true, Bool.or_eq_true, decide_eq_true_eq, Bool.not_eq_true'] at h
  exact ⟨h.1, h.2.1, h.2.2.1, h.2.2.2⟩
theorem sto {i : Nat} {x : Str} (h : (decide (G.N[i]? = some x) && G.sto x) = true) : stoN G i x := by
  simp only [Bool.and_eq_true, decide_eq_true_eq] at h
  exact h
def gloB (sc : Scope) (x : Str) : Bool := decide (sc.names.lookup x = some .globalImplicit) && (!(x == ("__debug__" : Str)) && decide (x ≠ "__name__"))
theorem glo1 {sc : Scope} {x : Str} (h : gloB sc x = true) : sc.names.lookup x = some .globalImplicit ∧ (x == ("__debug__" : Str)) = false ∧ x ≠ "__name__" := by
  simp only [gloB, Bool.and_eq_true, decide_eq_true_eq, Bool.not_eq_true'] at h
  exact ⟨h.1, h.2.1, h.2.2⟩
theorem blt {x : Str} {u : Value} (hm : G.mg x = none) (hv : bootBuiltins x = some u) (h : gloB G.sc x = true) : BltN G x u := ⟨(glo1 h).1, hm, hv, (glo1 h).2.2, (glo1 h).2.1⟩
/-! ### rules by operator -/
section
variable {a b : Expr} {pos : Pos} {cs : E}
theorem E_add (h : DA G [a, b] (evA M cs)) : DE G (.BinOp a .Add b pos) (evE M (.op .add cs)) := de_bin (fun X k => by rw [← k.K]; exact op_addA) vok_add h
theorem E_sub (h : DA G [a, b] (evA M cs)) : DE G (.BinOp a .Sub b pos) (evE M (.op .sub cs)) := de_bin (fun _ _ => op_sub) vok_sub h
theorem E_mul (h : DA G [a, b] (evA M cs)) : DE G (.BinOp a .Mult b pos) (evE M (.op .mul cs)) := de_bin (fun _ _ => op_mulA) vok_mul h
theorem E_fdiv (h : DA G [a, b] (evA M cs)) : DE G (.BinOp a .FloorDiv b pos) (evE M (.op .fdiv cs)) := de_bin (fun _ _ => op_fdiv) vok_fdiv h
theorem E_mod (h : DA G [a, b] (evA M cs)) : DE G (.BinOp a .Mod b pos) (evE M (.op .mod cs)) := de_bin (fun _ _ => op_mod) vok_mod h
theorem E_pow (h : DA G [a, b] (evA M cs)) : DE G (.BinOp a .Pow b pos) (evE M (.op .pow cs)) := de_bin (fun _ _ => op_pow) vok_pow h
theorem E_neg (h : DA G [a] (evA M cs)) : DE G (.UnaryOp .USub a pos) (evE M (.op .neg cs)) := de_un (fun _ _ => un_neg) vok_neg h
theorem bl_of {o : Op} {f : D → D → Option D} (h0 : ∀ ds, evOp o ds = b2 f ds) (h : ∀ x y d, f x y = some d → ∃ k, d = .bl k) : ∀ ds d, evOp o ds = some d → ∃ k, d = .bl k := fun ds d e => by
  rw [h0] at e
  obtain ⟨x, y, _, h1⟩ := b2_some e
  exact h x y d h1
theorem bl_eq : ∀ ds d, evOp .eq ds = some d → ∃ k, d = .bl k := bl_of (fun _ => rfl) fun x y d h => by unfold opEq at h; repeat' split at h <;> first | (cases h; done) | (cases h; exact ⟨_, rfl⟩)
theorem bl_ne : ∀ ds d, evOp .ne ds = some d → ∃ k, d = .bl k := bl_of (fun _ => rfl) fun x y d h => by unfold opNe at h; repeat' split at h <;> first | (cases h; done) | (cases h; exact ⟨_, rfl⟩)
theorem bl_lt : ∀ ds d, evOp .lt ds = some d → ∃ k, d = .bl k := bl_of (fun _ => rfl) fun x y d h => by unfold opLt at h; repeat' split at h <;> first | (cases h; done) | (cases h; exact ⟨_, rfl⟩)
theorem bl_le : ∀ ds d, evOp .le ds = some d → ∃ k, d = .bl k := bl_of (fun _ => rfl) fun x y d h => by unfold opLe at h; repeat' split at h <;> first | (cases h; done) | (cases h; exact ⟨_, rfl⟩)
theorem bl_gt : ∀ ds d, evOp .gt ds = some d → ∃ k, d = .bl k := bl_of (fun _ => rfl) fun x y d h => by unfold opGt at h; repeat' split at h <;> first | (cases h; done) | (cases h; exact ⟨_, rfl⟩)
theorem bl_ge : ∀ ds d, evOp .ge ds = some d → ∃ k, d = .bl k := bl_of (fun _ => rfl) fun x y d h => by unfold opGe at h; repeat' split at h <;> first | (cases h; done) | (cases h; exact ⟨_, rfl⟩)
theorem bl_in : ∀ ds d, evOp .isin ds = some d → ∃ k, d = .bl k := bl_of (fun _ => rfl) fun x y d h => by unfold opIsin at h; split at h <;> (try split at h) <;> first | (cases h; done) | (cases h; exact ⟨_, rfl⟩)
theorem bl_notin : ∀ ds d, evOp .notin ds = some d → ∃ k, d = .bl k := bl_of (fun _ => rfl) fun x y d h => by unfold opNotin at h; split at h <;> (try split at h) <;> first | (cases h; done) | (cases h; exact ⟨_, rfl⟩)
theorem E_eq (hm : behindInMarks .Eq b = false) (h : DA G [a, b] (evA M cs)) : DE G (.Compare a [.Eq] [b] pos) (evE M (.op .eq cs)) := de_cmp hm (fun X k => by rw [← k.K]; exact op_eqP k.u64) vok_eq h
theorem E_ne (hm : behindInMarks .NotEq b = false) (h : DA G [a, b] (evA M cs)) : DE G (.Compare a [.NotEq] [b] pos) (evE M (.op .ne cs)) := de_cmp hm (fun X k => by rw [← k.K]; exact op_neP k.u64) vok_ne h
theorem E_lt (hm : behindInMarks .Lt b = false) (h : DA G [a, b] (evA M cs)) : DE G (.Compare a [.Lt] [b] pos) (evE M (.op .lt cs)) := de_cmp hm (fun X k => by rw [← k.K]; exact op_ltP k.u64) vok_lt h
theorem E_le (hm : behindInMarks .LtE b = false) (h : DA G [a, b] (evA M cs)) : DE G (.Compare a [.LtE] [b] pos) (evE M (.op .le cs)) := de_cmp hm (fun X k => by rw [← k.K]; exact op_leP k.u64) vok_le h
theorem E_gt (hm : behindInMarks .Gt b = false) (h : DA G [a, b] (evA M cs)) : DE G (.Compare a [.Gt] [b] pos) (evE M (.op .gt cs)) := de_cmp hm (fun X k => by rw [← k.K]; exact op_gtP k.u64) vok_gt h
theorem E_ge (hm : behindInMarks .GtE b = false) (h : DA G [a, b] (evA M cs)) : DE G (.Compare a [.GtE] [b] pos) (evE M (.op .ge cs)) := de_cmp hm (fun X k => by rw [← k.K]; exact op_geP k.u64) vok_ge h
theorem E_in (hm : behindInMarks .In b = false) (h : DA G [a, b] (evA M cs)) : DE G (.Compare a [.In] [b] pos) (evE M (.op .isin cs)) := de_cmp hm (fun X k => by rw [← k.K]; exact op_inA k.u64) vok_in h
theorem E_notin (hm : behindInMarks .NotIn b = false) (h : DA G [a, b] (evA M cs)) : DE G (.Compare a [.NotIn] [b] pos) (evE M (.op .notin cs)) := de_cmp hm (fun X k => by rw [← k.K]; exact op_notInA k.u64) vok_notin h
theorem T_eq (hm : behindInMarks .Eq b = false) (h : DA G [a, b] (evA M cs)) : DT G (.Compare a [.Eq] [b] pos) (evE M (.op .eq cs)) := dt_cmp hm (fun X k => by rw [← k.K]; exact op_eqP k.u64) vok_eq bl_eq h
theorem T_ne (hm : behindInMarks .NotEq b = false) (h : DA G [a, b] (evA M cs)) : DT G (.Compare a [.NotEq] [b] pos) (evE M (.op .ne cs)) := dt_cmp hm (fun X k => by rw [← k.K]; exact op_neP k.u64) vok_ne bl_ne h
theorem T_lt (hm : behindInMarks .Lt b = false) (h : DA G [a, b] (evA M cs)) : DT G (.Compare a [.Lt] [b] pos) (evE M (.op .lt cs)) := dt_cmp hm (fun X k => by rw [← k.K]; exact op_ltP k.u64) vok_lt bl_lt h
theorem T_le (hm : behindInMarks .LtE b = false) (h : DA G [a, b] (evA M cs)) : DT G (.Compare a [.LtE] [b] pos) (evE M (.op .le cs)) := dt_cmp hm (fun X k => by rw [← k.K]; exact op_leP k.u64) vok_le bl_le h
theorem T_gt (hm : behindInMarks .Gt b = false) (h : DA G [a, b] (evA M cs)) : DT G (.Compare a [.Gt] [b] pos) (evE M (.op .gt cs)) := dt_cmp hm (fun X k => by rw [← k.K]; exact op_gtP k.u64) vok_gt bl_gt h
theorem T_ge (hm : behindInMarks .GtE b = false) (h : DA G [a, b] (evA M cs)) : DT G (.Compare a [.GtE] [b] pos) (evE M (.op .ge cs)) := dt_cmp hm (fun X k => by rw [← k.K]; exact op_geP k.u64) vok_ge bl_ge h
theorem T_in (hm : behindInMarks .In b = false) (h : DA G [a, b] (evA M cs)) : DT G (.Compare a [.In] [b] pos) (evE M (.op .isin cs)) := dt_cmp hm (fun X k => by rw [← k.K]; exact op_inA k.u64) vok_in bl_in h
theorem T_notin (hm : behindInMarks .NotIn b = false) (h : DA G [a, b] (evA M cs)) : DT G (.Compare a [.NotIn] [b] pos) (evE M (.op .notin cs)) := dt_cmp hm (fun X k => by rw [← k.K]; exact op_notInA k.u64) vok_notin bl_notin h
theorem E_isN {j : Nat} {pos' : Pos} (h : DA G [a] (evA M cs)) : DE G (.Compare a [.Is] [.Constant .none j pos'] pos) (evE M (.op .isN cs)) := (de_isN (neg := false) rfl h).1
theorem E_notN {j : Nat} {pos' : Pos} (h : DA G [a] (evA M cs)) : DE G (.Compare a [.IsNot] [.Constant .none j pos'] pos) (evE M (.op .notN cs)) := (de_isN (neg := true) rfl h).1
theorem T_isN {j : Nat} {pos' : Pos} (h : DA G [a] (evA M cs)) : DT G (.Compare a [.Is] [.Constant .none j pos'] pos) (evE M (.op .isN cs)) := (de_isN (neg := false) rfl h).2
theorem T_notN {j : Nat} {pos' : Pos} (h : DA G [a] (evA M cs)) : DT G (.Compare a [.IsNot] [.Constant .none j pos'] pos) (evE M (.op .notN cs)) := (de_isN (neg := true) rfl h).2
theorem E_chn {c : Expr} {p q : Bool} {ab e : E} (h : DA G [a, b] (evA M ab)) (hc : DE G c (evE M e)) : DE G (.Compare a [if p then .LtE else .Lt, if q then .LtE else .Lt] [b, c] pos) (evE M (.chn p q ab e)) := (de_chn h hc).1
theorem T_chn {c : Expr} {p q : Bool} {ab e : E} (h : DA G [a, b] (evA M ab)) (hc : DE G c (evE M e)) : DT G (.Compare a [if p then .LtE else .Lt, if q then .LtE else .Lt] [b, c] pos) (evE M (.chn p q ab e)) := (de_chn h hc).2
theorem E_idx (hp : PlainIx b) (h : DA G [a, b] (evA M cs)) : DE G (.Subscript a b pos) (evE M (.op .idx cs)) := de_idx hp (fun X k => by rw [← k.K]; exact ix_all) vok_idx h
end
/-! ### built-in functions -/
section
variable {e : Expr} {es : List Expr} {p pos : Pos} {cs : E}
theorem E_len (hm : G.mg "len" = none) (g : gloB G.sc "len" = true) (h : DA G (e :: es) (evA M cs)) : DE G (.Call (.Name "len" p) (e :: es) [] pos) (evE M (.op .len cs)) := de_blt (blt hm boot_len g) (fun X k => by rw [← k.K]; exact call_len) vok_len h
theorem E_abs (hm : G.mg "abs" = none) (g : gloB G.sc "abs" = true) (h : DA G (e :: es) (evA M cs)) : DE G (.Call (.Name "abs" p) (e :: es) [] pos) (evE M (.op .abs cs)) := de_blt (id := "abs") (blt hm (by first | rfl | kernel_rfl) g) (fun X k => call_abs) vok_abs h
theorem E_all (cm : G.calm = true) (hm : G.mg "all" = none) (g : gloB G.sc "all" = true) (h : DA G (e :: es) (evA M cs)) : DE G (.Call (.Name "all" p) (e :: es) [] pos) (evE M (.op .all cs)) := de_blt (id := "all") (blt hm (by first | rfl | kernel_rfl) g) (fun X k => by rw [← k.K]; exact cr_all (k.calm.trans cm)) vok_all h
theorem E_any (cm : G.calm = true) (hm : G.mg "any" = none) (g : gloB G.sc "any" = true) (h : DA G (e :: es) (evA M cs)) : DE G (.Call (.Name "any" p) (e :: es) [] pos) (evE M (.op .any cs)) := de_blt (id := "any") (blt hm (by first | rfl | kernel_rfl) g) (fun X k => by rw [← k.K]; exact cr_any (k.calm.trans cm)) vok_any h
theorem E_sorted (hm : G.mg "sorted" = none) (g : gloB G.sc "sorted" = true) (h : DA G (e :: es) (evA M cs)) : DE G (.Call (.Name "sorted" p) (e :: es) [] pos) (evE M (.op .sorted cs)) := de_blt (id := "sorted") (blt hm (by first | rfl | kernel_rfl) g) (fun X k => by rw [← k.K]; exact call_sortD k.u64) vok_sorted h
theorem E_list (hm : G.mg "list" = none) (g : gloB G.sc "list" = true) (h : DA G (e :: es) (evA M cs)) : DE G (.Call (.Name "list" p) (e :: es) [] pos) (evE M (.op .list cs)) := de_bty (id := "list") (blt hm (by first | rfl | kernel_rfl) g) (fun X k => by rw [← k.K]; exact call_list_of) vok_list h
theorem E_int (hm : G.mg "int" = none) (g : gloB G.sc "int" = true) (h : DA G (e :: es) (evA M cs)) : DE G (.Call (.Name "int" p) (e :: es) [] pos) (evE M (.op .int cs)) := de_bty (id := "int") (blt hm (by first | rfl | kernel_rfl) g) (fun X k => call_intA) vok_int h
theorem E_str (hm : G.mg "str" = none) (g : gloB G.sc "str" = true) (h : DA G (e :: es) (evA M cs)) : DE G (.Call (.Name "str" p) (e :: es) [] pos) (evE M (.op .str cs)) := de_bty (id := "str") (blt hm (by first | rfl | kernel_rfl) g) (fun X k => call_str_int) vok_str h
end
/-! ### methods of texts -/
section
variable {a : Expr} {apos cpos pos : Pos} {cs : E}
theorem E_split_v {i : Nat} {x : Str} {p : Pos} (hx : visN G i x) (hl : (apos.endLine == cpos.line) = true) (ha : DA G [a] (evA M cs)) : DE G (.Call (.Attribute (.Name x p) "split" apos) [a] [] cpos) (evE M (.me .str .split (.var i) cs)) :=
  de_me (T := "str") F.plainAttrs_str F.slot_str_split F.type_str_split (fun X k => mt_split) (fun _ _ _ _ _ _ r h => ty_str r h) vok_split (.inl ⟨i, x, p, rfl, rfl, hx⟩) ha rfl hl (Nat.lt_of_lt_of_le (Nat.lt_succ_self 1) (by decide))
theorem E_join_e {e : Expr} {c : E} (hc : ∀ i, c ≠ .var i) (h : DE G e (evE M c)) (hb : bareB e = true) (hl : (apos.endLine == cpos.line) = true) (ha : DA G [a] (evA M cs)) : DE G (.Call (.Attribute e "join" apos) [a] [] cpos) (evE M (.me .str .join c cs)) :=
  de_me (T := "str") F.plainAttrs_str F.slot_str_join F.type_str_join (fun X k => by rw [← k.K]; exact mt_join) (fun _ _ _ _ _ _ r h => ty_str r h) vok_join (.inr ⟨hc, h⟩) ha hb hl (Nat.lt_of_lt_of_le (Nat.lt_succ_self 1) (by decide))
end
/-! ### stores -/
theorem ds_setP {i : Nat} {x : Str} {e : Expr} {pos pos' : Pos} {c : E} (hx : stoN G i x) (h : DE G e (evE M c)) (hs : ∀ env, swapsWith e (some (.Name x pos')) pos.line env = pure false) : DS G (.Assign [.Name x pos'] e pos) (evS M (.set i c)) := ds_set hx h fun X _ => hs X.env
/-- name = [..], whatever the lines -/
theorem ds_setLc (cm : G.calm = true) (hk : G.sc.kind = .function) {i : Nat} {y : Str} {scope : Scope} {tg elt iter : Expr} {ifs : List Expr} {pos py spos : Pos} {tgt : Tg} {c e : E} {own : List (Str × Nat)} {k : Wk} {src : E} (hy : stoN G i y)
    (B : BlkD G scope tg elt ifs tgt c e own) (h : DI G tg iter (evI G.M k src)) (hp : plainIter iter = true) : DS G (.Assign [.Name y py] (.ListComp elt [⟨tg, iter, ifs, 0⟩] scope pos) spos) (evS G.M (.set i (.lc k src tgt c e))) := by
  by_cases hsw : G.sc.names.lookup y = some .local ∧ (py.line == pos.line) = true ∧ (scope.names.any fun (n, k) => n == y && (k == .local || k == .cell)) = false
  · obtain ⟨h1, h2, h3⟩ := hsw
    obtain ⟨wi, g, tt, te, pi, pg, pt, pe, m⟩ := mean_lc (pos := pos) B h hp
    refine ⟨tAsg (tLc wi g tt te (own.map (·.2))) (gName i), fun X k => ?_, fun H0 H σ ρ ts E s h => ?_⟩
    · exact ps_setLc (k.calm.trans cm) (by rw [k.N]; exact k.nod) (by rw [k.N]; exact hy.1) (by rw [k.sc]; exact h1) (sw_true (by rw [k.sc]; exact hk) (by rw [k.sc]; exact h1) h2 h3) (pi X k) (by rw [k.N, k.sc]; exact B.ok) (fun s H C cl fp => pg _ (blk_ok k scope s H C cl fp)) (fun s H C cl fp => pt _ (blk_ok k scope s H C cl fp)) (fun s H C cl fp => pe _ (blk_ok k scope s H C cl fp)) (plainIter_of hp)
    · simp only [evS] at h
      exact m H0 H σ ρ ts _ s (h.toFR.imp fun d ρ' h v H' s' => h _ H' (s'.store i))
  · refine ds_set hy (de_lc cm B h hp) fun X k => ?_
    unfold swapsWith
    show (pure (X.env.blockKind == .function && X.env.kindOf y == some .local && py.line == pos.line && !(scope.names.any fun (n, k) => n == y && (k == .local || k == .cell))) : PySem.Sem Bool) = pure false
    congr 1
    rw [Bool.eq_false_iff]
    intro hh
    simp only [Bool.and_eq_true, Bool.not_eq_true', beq_iff_eq] at hh
    refine hsw ⟨?_, ?_, ?_⟩
    · have := hh.1.1.2
      unfold Env.kindOf at this
      rw [← k.sc]
      simpa using this
    · simpa using hh.1.2
    · exact hh.2
/-! ### calls -/
/-- a def of the program: where it stands, what it promises -/
def Callee (g : SP0) (j : Nat) (x : Str) (ar lv : Nat) : Prop := ∃ (f : Addr) (fd : FuncData) (ps : List Str), g.mg x = some (.ref f) ∧ PySem.W.keepIn g.K (.ref f) = true ∧ Binds g.K fd ps [] ∧ FnOk g.P g.w g.K g.mg g.base (L2.CX g.P g.w) lv f fd ps (spOf KLs.cv ar (g.M.call j))
end
end Sd

namespace Sd
open PySem PySem.Spec PyProof.Rows L2
variable [KLs]
section
variable {G : SG} {M : Sem}
/-! ### a walk over a text -/
theorem walk_str {H0 : Hp} {z : List Nat} (hb : z.length < big) : WalkOk H0 (L2.Its ⟨z.toArray⟩) [] (z.map fun c => D.str [c]) := by
  refine ⟨by simpa using hb, by rw [alls_all, List.all_eq_true]; intro x hx; obtain ⟨i, _, rfl⟩ := List.mem_map.mp hx; rfl, fun H σ ρ ts s i hi => ?_, fun H σ ρ ts s i d e => ?_, fun H σ ρ ts s i d e x H' y => ?_⟩
  · show z.toArray.size ≤ i
    simpa using hi
  · have := (List.getElem?_eq_some_iff.mp e).1
    show i < z.toArray.size
    simpa using this
  · obtain ⟨rfl, c, hc, rfl⟩ := y
    rw [List.getElem?_map] at e
    obtain ⟨c', e1, e2⟩ := Option.map_eq_some_iff.mp e
    have hc' : z[i]? = some c := by simpa using hc
    rw [hc'] at e1
    cases e1
    cases e2
    exact SS.str (x := [c]) s (Nat.lt_of_lt_of_le (Nat.lt_succ_self 1) (by decide))
theorem di_str {tg iter : Expr} {c : E} (h : DE G iter (evE M c)) : DI G tg iter (evI M .str (.cons c .nil)) := by
  obtain ⟨t, p, m⟩ := DV.one h
  refine ⟨iStr t, fun X k => pi_str (p X k), fun H0 H σ ρ ts Q s h => ?_⟩
  unfold evI at h
  refine m H0 H σ ρ ts _ s (h.bind.imp fun ds ρ' h => fun v d H' e n s' => ?_)
  subst e
  cases d with
  | str z =>
    obtain ⟨w, sid, tid, k, s2, r⟩ := SS.topr (nt := []) s'
    cases r with
    | str b => exact ⟨_, rfl, h _ H' [] s'.drop (walk_str b)⟩
  | _ => exact h.elim
/-! ### constants of a module -/
theorem gstr {g : Nat} {x z : Str} {n : List Nat} (hm : ∃ t, G.mg x = some (.str z t)) (hg : G.M.glob g = .str n) (hz : z.cps.toList = n) (hb : n.length < big) (h : gloB G.sc x = true) : globN G g x := by
  obtain ⟨t, hm⟩ := hm
  refine ⟨(glo1 h).1, ⟨.str ⟨n.toArray⟩, _, hm, ⟨t, ?_⟩, fun H0 H w l => ?_, ?_⟩, (glo1 h).2.1⟩
  · rw [← hz]
  · rw [hg]; exact .str hb
  · rw [hg]; rfl
theorem gint {g : Nat} {x : Str} {i : Int} (hm : ∃ t, G.mg x = some (.int i t)) (hg : G.M.glob g = .int i) (h : gloB G.sc x = true) : globN G g x := by
  obtain ⟨t, hm⟩ := hm
  refine ⟨(glo1 h).1, ⟨.int i, _, hm, ⟨t, rfl⟩, fun H0 H w l => ?_, ?_⟩, (glo1 h).2.1⟩
  · rw [hg]; exact .int
  · rw [hg]; rfl
/-! ### classes of errors -/
structure ExF (g : SP0) (c : Nat) (x : Str) : Prop where
  ok : ∃ C : Addr, KLs.cv c = .ref C ∧ g.mg x = some (.ref C) ∧ PySem.W.keepIn g.K (.ref C) = true ∧ PySem.W.excIn g.K C [.type "ValueError", .type "Exception", .type "BaseException", .type "object"] "ValueError.__new__" = true ∧
    PySem.W.subIn g.K (.ref C) (.type "BaseException") = some true ∧ PySem.W.typeIn g.K (.ref C) = some (.type "type")
  exm : ∀ k, PySem.W.exmOne g.K (KLs.cv k) (KLs.cv c) = some (g.M.isa k c)
  is : ∀ k, ∃ D b, KLs.cv k = .ref D ∧ ExcC g.K D ∧ Ty.is g.M.isa (.exc c) (.exc k) = some b ∧ PySem.W.kitOne g.K (.ref D) (KLs.cv c) = some b
def VeF (g : SP0) : Prop := ∀ k, ∃ D b, KLs.cv k = .ref D ∧ ExcC g.K D ∧ Ty.is g.M.isa .verr (.exc k) = some b ∧ PySem.W.kitOne g.K (.ref D) (.type "ValueError") = some b
variable {g : SP0}
theorem raiN {N : List Str} {sc : Scope} {st : Str → Bool} {lv : Nat} {W : L2.WX} {cm tp : Bool} {c : Nat} {x : Str} (F : ExF g c x) (h : gloB sc x = true) : RaiN ⟨g.P, g.w, g.K, g.mg, g.base, N, sc, st, lv, W, cm, tp, g.M, g.kl⟩ c x := ⟨(glo1 h).1, (glo1 h).2.1, F.ok⟩
theorem exN {N : List Str} {sc : Scope} {st : Str → Bool} {lv : Nat} {W : L2.WX} {cm tp : Bool} {c : Nat} {x : Str} (F : ExF g c x) (h : gloB sc x = true) : ExN ⟨g.P, g.w, g.K, g.mg, g.base, N, sc, st, lv, W, cm, tp, g.M, g.kl⟩ c x := by
  refine ⟨(glo1 h).1, (glo1 h).2.1, ?_, F.exm⟩
  obtain ⟨C, h1, h2, _⟩ := F.ok
  rw [h1]
  exact h2
theorem E_isX {N : List Str} {sc : Scope} {st : Str → Bool} {lv : Nat} {W : L2.WX} {cm tp : Bool} {c : Nat} {x : Str} {a : Expr} {p p2 pos : Pos} {cs : E} (F : ExF g c x) (hm : g.mg "isinstance" = none) (h1 : gloB sc "isinstance" = true) (h2 : gloB sc x = true)
    (h : DA ⟨g.P, g.w, g.K, g.mg, g.base, N, sc, st, lv, W, cm, tp, g.M, g.kl⟩ [a] (evA g.M cs)) : DE ⟨g.P, g.w, g.K, g.mg, g.base, N, sc, st, lv, W, cm, tp, g.M, g.kl⟩ (.Call (.Name "isinstance" p) [a, .Name x p2] [] pos) (evE g.M (.isi (.exc c) cs)) := by
  obtain ⟨C, e1, e2, _⟩ := F.ok
  refine de_isX (C := C) (blt hm (by first | rfl | kernel_rfl) h1) ⟨(glo1 h2).1, e2, (glo1 h2).2.1⟩ ?_ h
  intro k
  have := F.is k
  rw [e1] at this
  exact this
theorem E_isV {N : List Str} {sc : Scope} {st : Str → Bool} {lv : Nat} {W : L2.WX} {cm tp : Bool} {a : Expr} {p p2 pos : Pos} {cs : E} (F : VeF g) (hm : g.mg "isinstance" = none) (hv : g.mg "ValueError" = none) (h1 : gloB sc "isinstance" = true) (h2 : gloB sc "ValueError" = true)
    (h : DA ⟨g.P, g.w, g.K, g.mg, g.base, N, sc, st, lv, W, cm, tp, g.M, g.kl⟩ [a] (evA g.M cs)) : DE ⟨g.P, g.w, g.K, g.mg, g.base, N, sc, st, lv, W, cm, tp, g.M, g.kl⟩ (.Call (.Name "isinstance" p) [a, .Name "ValueError" p2] [] pos) (evE g.M (.isi .verr cs)) :=
  de_isV (blt hm (by first | rfl | kernel_rfl) h1) (blt hv (by first | rfl | kernel_rfl) h2) F h
theorem E_isT {t : Ty} {n : String} {x : Str} {a : Expr} {p p2 pos : Pos} {cs : E} (ht : t.nm = some n) (hx : bootBuiltins x = some (.type n)) (hm : G.mg "isinstance" = none) (hv : G.mg x = none) (h1 : gloB G.sc "isinstance" = true) (h2 : gloB G.sc x = true)
    (h : DA G [a] (evA M cs)) : DE G (.Call (.Name "isinstance" p) [a, .Name x p2] [] pos) (evE M (.isi t cs)) :=
  de_isi ht (blt hm (by first | rfl | kernel_rfl) h1) (blt hv hx h2) h
/-! ### calls, returns -/
theorem callN {N : List Str} {sc : Scope} {st : Str → Bool} {lv l : Nat} {W : L2.WX} {cm tp : Bool} {j ar : Nat} {x : Str} (C : Callee g j x ar l) (hl : l ≤ lv) (h : gloB sc x = true) : CallN ⟨g.P, g.w, g.K, g.mg, g.base, N, sc, st, lv, W, cm, tp, g.M, g.kl⟩ j x ar := by
  obtain ⟨f, fd, ps, h1, h2, h3, h4⟩ := C
  exact ⟨(glo1 h).1, (glo1 h).2.1, f, fd, ps, l, hl, h1, h2, h3, h4⟩
theorem E_call {N : List Str} {sc : Scope} {st : Str → Bool} {lv l : Nat} {W : L2.WX} {tp : Bool} {j ar : Nat} {x : Str} {e : Expr} {es : List Expr} {p pos : Pos} {cs : E} (C : Callee g j x ar l) (hl : l ≤ lv) (h : gloB sc x = true) (hn : cs.many = ar)
    (ha : DA ⟨g.P, g.w, g.K, g.mg, g.base, N, sc, st, lv, W, true, tp, g.M, g.kl⟩ (e :: es) (evA g.M cs)) : DE ⟨g.P, g.w, g.K, g.mg, g.base, N, sc, st, lv, W, true, tp, g.M, g.kl⟩ (.Call (.Name x p) (e :: es) [] pos) (evE g.M (.call j cs)) :=
  de_call rfl (callN C hl h) (fun _ _ _ e => (evA_many _ _ _ _ e).trans hn) ha
theorem ds_retV {i : Nat} {x : Str} {p pos : Pos} (hx : visN G i x) : DS G (.Return (some (.Name x p)) pos) (evS M (.ret (.var i))) := ds_ret (de_var hx) fun j e => by cases e; exact ⟨x, p, rfl, hx⟩
theorem ds_retE {e : Expr} {pos : Pos} {c : E} (hc : ∀ i, c ≠ .var i) (h : DE G e (evE M c)) : DS G (.Return (some e) pos) (evS M (.ret c)) := ds_ret h fun j e => absurd e (hc j)
theorem E_lc (cm : G.calm = true) {scope : Scope} {tg elt iter : Expr} {ifs : List Expr} {pos : Pos} {tgt : Tg} {c e : E} {own : List (Str × Nat)} {k : Wk} {src : E} (B : BlkD G scope tg elt ifs tgt c e own) (h : DI G tg iter (evI G.M k src)) (hp : plainIter iter = true) :
    DE G (.ListComp elt [⟨tg, iter, ifs, 0⟩] scope pos) (evE G.M (.lc k src tgt c e)) := de_lc cm B h hp
def blkB (N : List Str) (sc scope : Scope) (own : List (Str × Nat)) : Bool :=
  decide (scope.kind = .function) && (scope.names.all fun y => decide (scope.names.lookup y.1 = some y.2)) && (own.all fun p => decide (N[p.2]? = some p.1)) &&
    (scope.names.all fun y => !decide (y.2 = .free) || (decide (sc.names.lookup y.1 = some .cell) || decide (sc.names.lookup y.1 = some .free))) &&
    (scope.names.all fun y => !(decide (y.2 = .local) || decide (y.2 = .cell)) || (decide (y.1 ∈ own.map (·.1)) || decide (y.1 ∉ N)))
theorem blk {N : List Str} {sc scope : Scope} {own : List (Str × Nat)} (h : blkB N sc scope own = true) : BlkOk N sc scope own := by
  simp only [blkB, Bool.and_eq_true, List.all_eq_true, decide_eq_true_eq, Bool.or_eq_true, Bool.not_eq_true', decide_eq_false_iff_not] at h
  obtain ⟨⟨⟨⟨h1, h2⟩, h3⟩, h4⟩, h5⟩ := h
  refine ⟨h1, h2, h3, fun y hy e => ?_, fun y hy e => ?_⟩
  · rcases h4 y hy with h | h
    · exact absurd e h
    · exact h
  · rcases h5 y hy with h | h
    · rcases e with e | e <;> rw [e] at h <;> exact absurd h (by decide)
    · exact h
/-! ### the rule for a def, by its datum -/
theorem fn_okD {x qual : Str} {st : Stmt} {f : Addr} {fd : FuncData} {N ps : List Str} {k : Nat} {φ : List D → CR} {b : S} (F : FunD g.K x qual (defArgs st) (defBody st) (defScope st) [] [] f fd) (S : FnScope N ps (defScope st))
    (hb : ∀ W, DSs (g.sg N (defScope st) k W) (defBody st) (evS g.M b)) (hp : ps.length ≤ N.length)
    (hφ : ∀ ds, ds.length = ps.length → alls Tag.isAny ds = true → φ ds = .stuck ∨ φ ds = (evS g.M b (initE N ds)).cr) :
    FnOk g.P g.w g.K g.mg g.base (L2.CX g.P g.w) (k + 1) f fd ps (spOf KLs.cv ps.length φ) := by
  obtain ⟨oc, od, dV, kV, doc, pm, an, cdv, ct, osl, e, lk, hcd, _, _⟩ := F.ex
  subst e
  refine fn_of lk hcd S (fun vs H Q E h => ?_) (fun A outer s H vs Q E hr h => ?_)
  · obtain ⟨ds, r, hl, _⟩ := h
    rw [r.length, hl]
  · obtain ⟨ds, r, hl, h⟩ := h
    obtain ⟨t, p, m⟩ := hb fun cls d _ H => E cls d H
    refine ⟨t, p _ (ctx_def S.nd hr), ?_⟩
    have s0 := sta_start (N := N) r (any_noOwn r.isAny) (by rw [r.length, hl]; exact hp)
    refine m H H _ _ [] _ s0 ?_
    rcases hφ ds hl r.isAny with e | e
    · rw [e] at h; exact h.elim
    · rw [e] at h
      cases q : evS g.M b (initE N ds) with
      | nx ρ => rw [q] at h; exact fun σ' H' s' => h _ H' (resNon s'.same)
      | bk ρ => rw [q] at h; exact h.elim
      | ct ρ => rw [q] at h; exact h.elim
      | rt d => rw [q] at h; exact h
      | err c ρ => rw [q] at h; exact fun σ' H' s' => h H' s'.same
      | stuck => rw [q] at h; exact h
theorem calleeD {x : Str} {params : Arguments} {body : List Stmt} {scope : Scope} {f : Addr} {fd : FuncData} {ps : List Str} {j k ar : Nat} (F : FunD g.K x x params body scope [] [] f fd) (hm : g.mg x = some (.ref f)) (ha : ps.length = ar)
    (hb : ∀ (kV doc pm : Value) (an : Option Addr) (cdv ct : Value) (us : List Value), us.length = ps.length → bindArgs (PySem.W.fnOf x x params body scope .none kV doc pm an cdv ct) ⟨us, []⟩ = pure (ps.zip us))
    (h : FnOk g.P g.w g.K g.mg g.base (L2.CX g.P g.w) k f fd ps (spOf KLs.cv ps.length (g.M.call j))) : Callee g j x ar k := by
  subst ha
  exact ⟨f, fd, ps, hm, F.kp, F.bindsN hb, h⟩
end
end Sd

namespace Sd
open PySem PySem.Spec PyProof.Rows L2
/-! ### the classes of errors, by the head's facts -/
def nrm (n c : Nat) : Nat := if c < n then c else 0
def isaN (n c k : Nat) : Bool := (nrm n c == k) || k == 0
def clsAt (K : PySem.W.Frag) (names : List Str) (c : Nat) : Addr := He.ga K (names.getD (nrm names.length c) "StoneError")
@[reducible] def kls (K : PySem.W.Frag) (names : List Str) : KLs := ⟨KLst K, fun c => .ref (clsAt K names c)⟩
def excCB (K : PySem.W.Frag) (D : Addr) : Bool :=
  decide (PySem.W.findIn K (.ref D) "__getattribute__" = some (some (.builtin "BaseException.__getattribute__"))) && decide (PySem.W.findIn K (.ref D) "__getattr__" = some none) &&
  decide (PySem.W.subIn K (.ref D) (.type "BaseException") = some true) && PySem.W.hasDictIn K D && decide (PySem.W.findIn K (.ref D) "__class__" = some (some (.builtin "object.__class__"))) &&
  decide (PySem.W.specialIn K (.builtin "object.__class__") "__get__" = some (some (.builtin "getset_descriptor.__get__"))) && decide (PySem.W.takesIn K (.builtin "object.__class__") = some true) && decide (PySem.W.mroIn K D (.type "object") = some true)
theorem excCB_ok {K : PySem.W.Frag} {D : Addr} (h : excCB K D = true) : ExcC K D := by
  simp only [excCB, Bool.and_eq_true, decide_eq_true_eq] at h
  obtain ⟨⟨⟨⟨⟨⟨⟨h1, h2⟩, h3⟩, h4⟩, h5⟩, h6⟩, h7⟩, h8⟩ := h
  exact ⟨h1, h2, h3, h4, h5, h6, h7, h8⟩
def excB (names : List Str) (K : PySem.W.Frag) : Bool := (List.range names.length).all fun c =>
  (He.Fa.exc (names.getD c "StoneError")).ok K && excCB K (clsAt K names c) && decide (PySem.W.kitOne K (.ref (clsAt K names c)) (.type "ValueError") = some true) &&
  (List.range names.length).all fun k => decide (PySem.W.kitOne K (.ref (clsAt K names c)) (.ref (clsAt K names k)) = some (isaN names.length c k)) && decide (PySem.W.exmOne K (.ref (clsAt K names c)) (.ref (clsAt K names k)) = some (isaN names.length c k))
theorem nrm_lt {n c : Nat} (h : 0 < n) : nrm n c < n := by unfold nrm; split <;> omega
theorem nrm_of {n c : Nat} (h : c < n) : nrm n c = c := if_pos h
theorem clsAt_nrm {K : PySem.W.Frag} {names : List Str} {c : Nat} (h : 0 < names.length) : clsAt K names c = clsAt K names (nrm names.length c) := by
  unfold clsAt; rw [nrm_of (nrm_lt h)]
theorem isaN_nrm {n c k : Nat} (h : 0 < n) : isaN n c k = isaN n (nrm n c) k := by
  unfold isaN; rw [nrm_of (nrm_lt h)]
structure ExcB (names : List Str) (K : PySem.W.Frag) (c : Nat) : Prop where
  exc : (He.Fa.exc (names.getD (nrm names.length c) "StoneError")).ok K = true
  C : ExcC K (clsAt K names c)
  ve : PySem.W.kitOne K (.ref (clsAt K names c)) (.type "ValueError") = some true
  kit : ∀ k, k < names.length → PySem.W.kitOne K (.ref (clsAt K names c)) (.ref (clsAt K names k)) = some (isaN names.length c k)
  exm : ∀ k, k < names.length → PySem.W.exmOne K (.ref (clsAt K names c)) (.ref (clsAt K names k)) = some (isaN names.length c k)
theorem excB_ok {names : List Str} {K : PySem.W.Frag} (hn : 0 < names.length) (h : excB names K = true) (c : Nat) : ExcB names K c := by
  have := List.all_eq_true.mp h (nrm names.length c) (List.mem_range.mpr (nrm_lt hn))
  simp only [Bool.and_eq_true, decide_eq_true_eq] at this
  obtain ⟨⟨⟨h1, h2⟩, h3⟩, h4⟩ := this
  rw [← clsAt_nrm hn] at h2 h3
  have h5 : ∀ k, k < names.length → _ := fun k hk => List.all_eq_true.mp h4 k (List.mem_range.mpr hk)
  refine ⟨h1, excCB_ok h2, h3, fun k hk => ?_, fun k hk => ?_⟩
  · have := h5 k hk
    simp only [Bool.and_eq_true, decide_eq_true_eq] at this
    rw [← clsAt_nrm hn, ← isaN_nrm hn] at this
    exact this.1
  · have := h5 k hk
    simp only [Bool.and_eq_true, decide_eq_true_eq] at this
    rw [← clsAt_nrm hn, ← isaN_nrm hn] at this
    exact this.2
/-- the program's own part: what the law's calls and constants mean -/
@[reducible] def semOf (n : Nat) (calls : Nat → List D → CR) (globs : Nat → D) : Sem := ⟨calls, globs, isaN n⟩
section
variable {names : List Str} {P : Program} {w : World} {K : PySem.W.Frag} {mg : Str → Option Value} {base : Heap} {calls : Nat → List D → CR} {globs : Nat → D}
@[reducible] def spF (P : Program) (w : World) (K : PySem.W.Frag) (mg : Str → Option Value) (base : Heap) (names : List Str) (calls : Nat → List D → CR) (globs : Nat → D) : @SP0 (kls K names) :=
  letI := kls K names
  { P := P, w := w, K := K, mg := mg, base := base, M := semOf names.length calls globs, kl := fun _ _ h => h }
theorem exF_of (hn : 0 < names.length) (h : excB names K = true) {c : Nat} {x : Str} (hc : names[c]? = some x) (hm : mg x = some (.ref (He.ga K x))) : @ExF (kls K names) (spF P w K mg base names calls globs) c x := by
  letI := kls K names
  have hl : c < names.length := (List.getElem?_eq_some_iff.mp hc).1
  have ec : clsAt K names c = He.ga K x := by
    unfold clsAt
    rw [nrm_of hl, List.getD_eq_getElem?_getD, hc]
    rfl
  have B := excB_ok hn h c
  have B1 := B.exc
  rw [nrm_of hl, List.getD_eq_getElem?_getD, hc] at B1
  obtain ⟨h1, h2, h3, h4⟩ := He.exc_ok B1
  refine ⟨⟨He.ga K x, congrArg Value.ref ec, hm, h2, h1, h3, h4⟩, fun k => (excB_ok hn h k).exm c hl, fun k => ⟨clsAt K names k, _, rfl, (excB_ok hn h k).C, rfl, (excB_ok hn h k).kit c hl⟩⟩
theorem veF_of (hn : 0 < names.length) (h : excB names K = true) : @VeF (kls K names) (spF P w K mg base names calls globs) := by
  letI := kls K names
  exact fun k => ⟨clsAt K names k, _, rfl, (excB_ok hn h k).C, rfl, (excB_ok hn h k).ve⟩
end
/-! ### the script, the law -/
theorem script_rep [KLs] {K : PySem.W.Frag} {H : Hp} {a : Addr} {ns : List Int} (hk : ∀ p vs, KLst K p vs → KLs.kl p vs) (h : SqL K H a (ns.map V.int)) (hb : ns.length < big) : Rep H H (fun _ => none) [0] (.ref a) (.lst .any (ns.map D.int)) := by
  have r : ∀ (l : Lab) (i : Nat) (ns : List Int), Reps H H (fun _ => none) l i (ns.map V.int) (ns.map D.int) := by
    intro l i ns
    induction ns generalizing i with
    | nil => exact .nil
    | cons n ns ih => exact .cons .int (ih _)
  rcases h with h | h
  · exact .lst h rfl (r _ _ _) (by simpa using hb)
  · exact .lstK (hk _ _ h) (r _ _ _) (by simpa using hb)
theorem law_sp [KLs] {K : PySem.W.Frag} {φ : List D → CR} (hk : ∀ p vs, KLst K p vs → KLs.kl p vs) (n : Nat) (hn : n < big) (h : ∀ ns : List Int, ns.length ≤ n → φ [.lst .any (ns.map D.int)] = .ok (.bl true)) (H : Hp) (a : Addr) (ns : List Int) (hl : ns.length ≤ n) (hS : SqL K H a (ns.map V.int)) :
    spOf KLs.cv 1 φ [.ref a] H (fun v _ => v = .bl true) fun _ _ _ => False := by
  refine ⟨[.lst .any (ns.map D.int)], .cons (script_rep hk hS (Nat.lt_of_le_of_lt hl hn)) .nil, rfl, ?_⟩
  rw [h ns hl]
  intro v H' r
  obtain ⟨w', _, rp⟩ := r.rep
  cases rp
  rfl
theorem walk_ofW {l : PySem.W.OpenLaw} {n k : Nat} {q : Program} {loose : List Str} {XP : (Str → Option Value) → Heap → Prop} {YP : World → Heap → Prop} {d : DefRec} {CX : World → CXT} {x : Str}
    (hn : l.most = some n) (hn2 : n ≤ sizeLine) (hdf : d.params.defaults = []) (hr : Room k callerA)
    (F : ∀ (w : World) (mg : Str → Option Value) (fa : Addr) (h : Heap), YP w h → h.Ns mainGlobals mg → mg d.name = some (.ref fa) →
      ∃ (K : PySem.W.Frag) (fd : FuncData) (sp : Sp), K.In h ∧ (∀ (s : Shared) (u : Value), BindsTo s fd ⟨[u], []⟩ [(x, u)]) ∧
        (∀ (H : Hp) (a : Addr) (ns : List Int), ns.length ≤ n → SqL K H a (ns.map V.int) → sp [.ref a] H (fun v _ => v = .bl true) fun _ _ _ => False) ∧
        ∀ base : Heap, K.In base → base.Ns mainGlobals mg → FnOk l.prog w K mg base (CX w) k fa fd [x] sp)
    (hCX : ∀ (w : World) (H : Hp) (s : Shared) (e : Value) (s' : Shared), CX w [] H s (fun _ _ _ => False) e s' → False) : PySem.W.WalkO q loose XP YP l.row.toRowW d [] (fun f vs => PySem.call f vs) := by
  refine Att.attach_call hn hdf fun w s₀ s₁ mg mb fa o pm cd doc a vs ns G Y ho hd hcd hmg hobj hints hlen hg => ?_
  obtain ⟨K, fd, sp, KX, hb, hsp, hF⟩ := F w mg fa _ Y G.T.g hmg
  exact law_call KX G.T.g G.T.b G.T.builtins G.T.nolimit hg hobj hints (Nat.le_trans hlen hn2) hr hF hb (fun H _ hS => hsp H a ns hlen hS) fun H e s' => hCX w H s₁ e s'
theorem cx_none {P : Program} {w : World} {H : Hp} {s : Shared} {e : Value} {s' : Shared} (h : L2.CX P w [] H s (fun _ _ _ => False) e s') : False := by
  obtain ⟨_, _, _, _, _, _, _, _, _, _, _, _, _, _, _, _, z⟩ := h
end Sd

namespace Sd
/-! ### what a meaning hangs on -/
def E.calls : E → List Nat
  | .op _ as => as.calls
  | .call j as => j :: as.calls
  | .and a b => a.calls ++ b.calls
  | .or a b => a.calls ++ b.calls
  | .not a => a.calls
  | .ife c a b => c.calls ++ (a.calls ++ b.calls)
  | .tup as => as.calls
  | .lst as => as.calls
  | .me _ _ r as => r.calls ++ as.calls
  | .chn _ _ ab c => ab.calls ++ c.calls
  | .isi _ as => as.calls
  | .sl2 a lo hi => a.calls ++ (lo.calls ++ hi.calls)
  | .lc _ src _ c e => src.calls ++ (c.calls ++ e.calls)
  | .cons a as => a.calls ++ as.calls
  | _ => []
def S.calls : S → List Nat
  | .set _ e => e.calls
  | .setT _ e => e.calls
  | .aug _ _ e => e.calls
  | .app _ e => e.calls
  | .ret e => e.calls
  | .expr e => e.calls
  | .ife c a b => c.calls ++ (a.calls ++ b.calls)
  | .seq a b => a.calls ++ b.calls
  | .forS _ src _ b => src.calls ++ b.calls
  | .whl _ c b => c.calls ++ b.calls
  | .tryS _ _ a b => a.calls ++ b.calls
  | _ => []
variable {M M' : Sem}
structure Agree (M M' : Sem) (js : List Nat) : Prop where
  call : ∀ j ∈ js, M.call j = M'.call j
  glob : M.glob = M'.glob
  isa : M.isa = M'.isa
theorem Agree.l {js ks : List Nat} (h : Agree M M' (js ++ ks)) : Agree M M' js := ⟨fun j hj => h.call j (List.mem_append_left _ hj), h.glob, h.isa⟩
theorem Agree.r {js ks : List Nat} (h : Agree M M' (js ++ ks)) : Agree M M' ks := ⟨fun j hj => h.call j (List.mem_append_right _ hj), h.glob, h.isa⟩
theorem Agree.t {j : Nat} {ks : List Nat} (h : Agree M M' (j :: ks)) : Agree M M' ks := ⟨fun i hi => h.call i (List.mem_cons_of_mem _ hi), h.glob, h.isa⟩
theorem ev_congr : ∀ c : E, Agree M M' c.calls → (∀ ρ, evE M c ρ = evE M' c ρ) ∧ (∀ ρ, evA M c ρ = evA M' c ρ) ∧ (∀ ρ, evV M c ρ = evV M' c ρ) := by
  intro c
  induction c with
  | op o as ih => intro h; have i := ih h; exact ⟨fun ρ => by simp only [evE, i.2.1], fun ρ => by simp only [evA], fun ρ => by simp only [evV]⟩
  | call j as ih =>
    intro h
    have i := ih h.t
    have e := h.call j List.mem_cons_self
    exact ⟨fun ρ => by simp only [evE, i.2.1, e], fun ρ => by simp only [evA], fun ρ => by simp only [evV]⟩
  | and a b iha ihb => intro h; have i := iha h.l; have j := ihb h.r; exact ⟨fun ρ => by simp only [evE, i.1, j.1], fun ρ => by simp only [evA], fun ρ => by simp only [evV]⟩
  | or a b iha ihb => intro h; have i := iha h.l; have j := ihb h.r; exact ⟨fun ρ => by simp only [evE, i.1, j.1], fun ρ => by simp only [evA], fun ρ => by simp only [evV]⟩
  | not a ih => intro h; have i := ih h; exact ⟨fun ρ => by simp only [evE, i.1], fun ρ => by simp only [evA], fun ρ => by simp only [evV]⟩
  | ife c a b ihc iha ihb => intro h; have i := ihc h.l; have j := iha h.r.l; have k := ihb h.r.r; exact ⟨fun ρ => by simp only [evE, i.1, j.1, k.1], fun ρ => by simp only [evA], fun ρ => by simp only [evV]⟩
  | tup as ih => intro h; have i := ih h; exact ⟨fun ρ => by simp only [evE, i.2.2], fun ρ => by simp only [evA], fun ρ => by simp only [evV]⟩
  | lst as ih => intro h; have i := ih h; exact ⟨fun ρ => by simp only [evE, i.2.2], fun ρ => by simp only [evA], fun ρ => by simp only [evV]⟩
  | me k o r as ihr iha =>
    intro h
    have i := ihr h.l
    have j := iha h.r
    refine ⟨fun ρ => ?_, fun ρ => by simp only [evA], fun ρ => by simp only [evV]⟩
    by_cases hv : ∃ n, r = .var n
    · obtain ⟨n, rfl⟩ := hv
      simp only [evE, j.2.1]
    · have e : ∀ M : Sem, evE M (.me k o r as) ρ = (evE M r ρ).bind fun d ρ1 => if k.ok d = true then (evA M as ρ1).bind fun ds ρ2 => match evOp o (d.dem :: ds) with
          | some z => .ok z ρ2
          | none => .stuck else .stuck := fun M => by
        cases r <;> first | rfl | exact absurd ⟨_, rfl⟩ hv
      rw [e, e]
      simp only [i.1, j.2.1]
  | chn p q ab c iha ihc => intro h; have i := iha h.l; have j := ihc h.r; exact ⟨fun ρ => by simp only [evE, i.2.1, j.1], fun ρ => by simp only [evA], fun ρ => by simp only [evV]⟩
  | isi t as ih => intro h; have i := ih h; exact ⟨fun ρ => by simp only [evE, i.2.1, h.isa], fun ρ => by simp only [evA], fun ρ => by simp only [evV]⟩
  | sl2 a lo hi ia il ih => intro h; have i := ia h.l; have j := il h.r.l; have k := ih h.r.r; exact ⟨fun ρ => by simp only [evE, i.1, j.1, k.1], fun ρ => by simp only [evA], fun ρ => by simp only [evV]⟩
  | lc k src tg c e is ic ie =>
    intro h
    have i := is h.l
    have j := ic h.r.l
    have l := ie h.r.r
    exact ⟨fun ρ => by simp only [evE, i.2.2, j.1, l.1], fun ρ => by simp only [evA], fun ρ => by simp only [evV]⟩
  | cons a as iha ihs =>
    intro h
    have i := iha h.l
    have j := ihs h.r
    refine ⟨fun ρ => by simp only [evE], fun ρ => ?_, fun ρ => by simp only [evV, i.1, j.2.2]⟩
    by_cases hv : ∃ n, a = .var n
    · obtain ⟨n, rfl⟩ := hv
      simp only [evA, j.2.1]
    · have e : ∀ M : Sem, evA M (.cons a as) ρ = (evE M a ρ).bind fun d ρ' => (evA M as ρ').bind fun ds ρ'' => .ok (d.dem :: ds) ρ'' := fun M => by
        cases a <;> first | rfl | exact absurd ⟨_, rfl⟩ hv
      rw [e, e]
      simp only [i.1, j.2.1]
  | glob g => intro h; exact ⟨fun ρ => by simp only [evE, h.glob], fun ρ => by simp only [evA], fun ρ => by simp only [evV]⟩
  | _ => intro h; exact ⟨fun ρ => by simp only [evE], fun ρ => by simp only [evA], fun ρ => by simp only [evV]⟩
theorem evE_congr {c : E} (h : Agree M M' c.calls) : evE M c = evE M' c := funext (ev_congr c h).1
theorem evV_congr {c : E} (h : Agree M M' c.calls) : evV M c = evV M' c := funext (ev_congr c h).2.2
theorem evS_congr : ∀ b : S, Agree M M' b.calls → evS M b = evS M' b := by
  intro b
  induction b with
  | set i e => intro h; funext ρ; simp only [evS, evE_congr (c := e) h]
  | setT i e => intro h; funext ρ; simp only [evS, evE_congr (c := e) h]
  | aug n i e => intro h; funext ρ; simp only [evS, evE_congr (c := e) h]
  | app i e => intro h; funext ρ; simp only [evS, evE_congr (c := e) h]
  | ret e =>
    intro h
    funext ρ
    simp only [evS]
    have i := evE_congr (c := e) h
    cases e <;> simp only [evRet] <;> rw [i]
  | expr e => intro h; funext ρ; simp only [evS, evE_congr (c := e) h]
  | ife c a b ia ib => intro h; funext ρ; simp only [evS, evE_congr (c := c) h.l, ia h.r.l, ib h.r.r]
  | seq a b ia ib => intro h; funext ρ; simp only [evS, ia h.l, ib h.r]
  | forS k src tg b ib => intro h; funext ρ; simp only [evS, evI, evV_congr (c := src) h.l, ib h.r]
  | whl n c b ib => intro h; funext ρ; simp only [evS, evE_congr (c := c) h.l, ib h.r]
  | tryS c i a b ia ib => intro h; funext ρ; simp only [evS, ia h.l, ib h.r, h.isa]
  | _ => intro h; funext ρ; simp only [evS]
/-- a def's meaning over a table of calls -/
@[reducible] def phiOf (n : Nat) (calls : Nat → List D → CR) (globs : Nat → D) (b : S) (N : List PySem.Str) (ds : List D) : CR := (evS (semOf n calls globs) b (initE N ds)).cr
theorem phi_in {n : Nat} {calls calls' : Nat → List D → CR} {globs : Nat → D} {b : S} {N : List PySem.Str} {ds : List D} (h : ∀ j ∈ b.calls, calls j = calls' j) : phiOf n calls globs b N ds = (evS (semOf n calls' globs) b (initE N ds)).cr := by
  unfold phiOf
  rw [evS_congr b (M := semOf n calls globs) (M' := semOf n calls' globs) ⟨h, rfl, rfl⟩]
end Sd

namespace Sd
open PySem PySem.Spec PyProof.Rows L2 PySem.Builtin PySem.Builtin.Str
/-! ### replace, the first one alone -/
theorem gives_repl1 (x y z : Str) (t u v w : Tok) (h0 : (u == 0 || v == 0) = false) (huv : (u == v) = false) (hyz : (y == z) = false) (hl : tooLong (x.length + (occurrences x y 0 x.length 1).length * z.length) = false) :
    Gives («str.replace» ⟨[.str x t, .str y u, .str z v, .int 1 w], []⟩) (if ((occurrences x y 0 x.length 1).isEmpty || (y.length == 0 && z.length == 0)) = true then .val (.str x t) else .str (glued z (partsBetween x (occurrences x y 0 x.length 1) y.length))) := by
  show Gives (if ((occurrences x y 0 x.length 1).isEmpty || (y.length == 0 && z.length == 0)) = true then (do rule "str.replace.nothing"; ret (.str x t)) else
          (do let same ← isSame (.str y u) (.str z v)
              if same = true then (do rule "str.replace.old-is-new"; ret (.str x t)) else
              if tooLong (x.length + (occurrences x y 0 x.length 1).length * z.length) = true then unsupported "str.replace:memory" else
              retStr (glued z (partsBetween x (occurrences x y 0 x.length 1) y.length)))) _
  cases hc : ((occurrences x y 0 x.length 1).isEmpty || (y.length == 0 && z.length == 0))
  · rw [isSame_str_other y z u v h0 huv hyz, hl]
    exact .of_eq rfl
  · exact .rule (.of_eq rfl)
theorem replS_len (x y z : Str) : (replS x y z).length ≤ x.length + (x.length + 1) * z.length := by
  unfold replS
  have h1 := StrLaws.occ_length_le x y 0 x.length 1
  split
  · exact Nat.le_add_right _ _
  · have hy : (glued y (partsBetween x (occurrences x y 0 x.length 1) y.length)).length = x.length := by rw [StrLaws.glued_between_self]
    rw [size_glued, length_partsBetween, Nat.add_sub_cancel] at hy ⊢
    have h2 : (occurrences x y 0 x.length 1).length * z.length ≤ (x.length + 1) * z.length := Nat.mul_le_mul_right _ (by omega)
    omega
def tRepl1 (to : TE) (y z : Str) : TE := fun σ H Q => to σ H fun v H1 => ∃ x, v = .str x ∧ x.length + (x.length + 1) * z.length ≤ 16777216 ∧ Q (.str (replS x y z)) H1
theorem few3 {a b c : Expr} {env : PySem.Env} {pos : Pos} (h : starEach [a, b, c] env = [(false, eval a env), (false, eval b env), (false, eval c env)]) :
    ((backTo pos (starEach [a, b, c] env)).all (fun x => !x.1) && (backToKw pos (keywordEach [] env)).all (fun x => x.1.isSome) && decide ([a, b, c].length + ([] : List Keyword).length + (if ([] : List Keyword).isEmpty then 0 else 1) < 30)) = true := by
  rw [h]
  rfl
theorem pet_repl1 {X : Cx} {o : Expr} {to : TE} {y z : Str} {j k l : Nat} {c0 c1 c2 apos pos : Pos} (ho : PE X o to) (hyz : (y == z) = false)
    (hst : starEach [.Constant (.str y) j c0, .Constant (.str z) k c1, .Constant (.int 1) l c2] X.env = [(false, eval (.Constant (.str y) j c0) X.env), (false, eval (.Constant (.str z) k c1) X.env), (false, eval (.Constant (.int 1) l c2) X.env)])
    (hbase : attributeBase o "replace" X.env (eval o X.env) = eval o X.env) (hline : (apos.endLine == pos.line) = true) :
    PET X (.Call (.Attribute o "replace" apos) [.Constant (.str y) j c0, .Constant (.str z) k c1, .Constant (.int 1) l c2] [] pos) (tRepl1 to y z) := by
  intro pins s σ H Q h0 I h
  refine wpAny_Call_method_lateS hbase (few3 hst) hline ?_
  rw [hst]
  refine wpAny_mono (PySem.wpAny_toks (ho.run pins s σ H _ I h)) (fun v s1 q => ?_) fun _ _ z => z.2
  obtain ⟨hk, v', H1, I1, r1, x, e1, hb, q⟩ := q
  subst e1
  obtain ⟨tx, e2⟩ := r1
  subst e2
  refine ⟨"str", _, PySem.F.plainAttrs_str, PySem.F.slot_str_replace, PySem.F.type_str_replace, typeIs_str _ _ _, (fun _ e => nomatch e), Calls.callWith_builtin rfl (Calls.evalArgs_plain (Calls.spliced_cons ?_))⟩
  refine Calls.Constant_str (k := j) (pos := c0) ?_
  refine Calls.spliced_cons ?_
  refine Calls.Constant_str (k := k) (pos := c1) ?_
  refine Calls.spliced_cons ?_
  refine @wpAny_Constant_int _ _ _ _ _ 1 l c2 _ ?_
  refine Calls.spliced_nil ?_
  have h1 := StrLaws.occ_length_le x y 0 x.length 1
  have h2 : (occurrences x y 0 x.length 1).length * z.length ≤ (x.length + 1) * z.length := Nat.mul_le_mul_right _ (by omega)
  have e : (2 : Nat) ^ 24 = 16777216 := by decide
  refine call_gives F.slot_str_replace (typeIs_str _ _ _) F.entry_str_replace (F.args_str_replace_4 _ _ _ _) (gives_repl1 x y z _ _ _ _ ?_ ?_ hyz ?_) ?_
  · have t1 : s1.toks ≠ 0 := by omega
    have t2 : s1.toks + 1 ≠ 0 := by omega
    show (s1.toks == 0 || s1.toks + 1 == 0) = false
    rw [beq_eq_false_iff_ne.mpr t1, beq_eq_false_iff_ne.mpr t2]
    rfl
  · exact beq_eq_false_iff_ne.mpr (by show s1.toks ≠ s1.toks + 1; omega)
  · unfold tooLong sizeLine
    refine decide_eq_false ?_
    simp only [Nat.not_lt, Nat.not_le, gt_iff_lt, e]
    exact Nat.le_trans (Nat.add_le_add_left h2 _) hb
  · have fin : ∀ (t' : Nat) (k : Nat), EP X pins σ Q (.str (replS x y z) t') { s1 with toks := k } := fun t' k => ⟨.str (replS x y z), H1, I1.tok k, ⟨t', rfl⟩, q⟩
    have hle := replS_len x y z
    cases hc : ((occurrences x y 0 x.length 1).isEmpty || (y.length == 0 && z.length == 0))
    · have er : replS x y z = glued z (partsBetween x (occurrences x y 0 x.length 1) y.length) := by unfold replS; rw [hc]; rfl
      rw [if_neg Bool.false_ne_true]
      refine ⟨?_, ?_⟩
      · rw [← er]; unfold sizeLine; omega
      · rw [← er]; exact fin _ _
    · have er : replS x y z = x := by unfold replS; rw [hc]; rfl
      rw [if_pos rfl]
      rw [er] at fin
      exact fin _ _
/-! ### judgements of code behind which a token is out -/
variable [KLs]
section
variable {G : SG} {M : Sem}
def DET (G : SG) (e : Expr) (f : DEnv → R D) : Prop := ∃ t, (∀ X, CtxOk G X → PET X e t) ∧ Mean G t f
def DST (G : SG) (st : Stmt) (f : DEnv → FR) : Prop := ∃ t, (∀ X, CtxOk G X → PST X st t) ∧ MeanS G t f
def DSsT (G : SG) (st : List Stmt) (f : DEnv → FR) : Prop := ∃ t, (∀ X, CtxOk G X → PSsT X st t) ∧ MeanS G t f
theorem dsst_of {st : List Stmt} {f : DEnv → FR} (h : DSs G st f) : DSsT G st f := let ⟨t, p, m⟩ := h; ⟨t, fun X k => PSsT.of (p X k), m⟩
theorem dst_of {st : Stmt} {f : DEnv → FR} (h : DS G st f) : DST G st f := let ⟨t, p, m⟩ := h; ⟨t, fun X k => PST.of (p X k), m⟩
theorem dsst_cons {st : Stmt} {rest : List Stmt} {a b : S} (h : DST G st (evS M a)) (r : DSsT G rest (evS M b)) : DSsT G (st :: rest) (evS M (.seq a b)) := by
  obtain ⟨t, p, m⟩ := h
  obtain ⟨u, q, n⟩ := r
  refine ⟨tSeq t u, fun X k => psst_cons (p X k) (q X k), fun H0 H σ ρ ts E s h => ?_⟩
  simp only [evS] at h
  refine m H0 H σ ρ ts _ s ?_
  cases e : evS M a ρ with
  | nx ρ' => rw [e] at h; exact fun σ' H' s' => n H0 H' σ' ρ' ts E s' h
  | bk ρ' => rw [e] at h; exact h
  | ct ρ' => rw [e] at h; exact h
  | rt d => rw [e] at h; exact h
  | err c ρ' => rw [e] at h; exact h
  | stuck => rw [e] at h; exact h
theorem dst_if {c : Expr} {a b : List Stmt} {pos : Pos} {q : E} {x y : S} (hc : DT G c (evE M q)) (ha : DSsT G a (evS M x)) (hb : DSsT G b (evS M y)) : DST G (.If c a b pos) (evS M (.ife q x y)) := by
  obtain ⟨t, p, m⟩ := hc
  obtain ⟨ta, pa, ma⟩ := ha
  obtain ⟨tb, pb, mb⟩ := hb
  refine ⟨tIfS t ta tb, fun X k => CwR.pst_if (p X k) (pa X k) (pb X k), fun H0 H σ ρ ts E s h => ?_⟩
  simp only [evS] at h
  refine thn_q m s (h.toFR.imp fun b ρ' h H' s' => ?_)
  cases b with
  | true => exact ma H0 H' σ ρ' ts E s' h
  | false => exact mb H0 H' σ ρ' ts E s' h
theorem dst_retE {e : Expr} {pos : Pos} {c : E} (hc : ∀ i, c ≠ .var i) (h : DET G e (evE M c)) : DST G (.Return (some e) pos) (evS M (.ret c)) := by
  obtain ⟨t, p, m⟩ := h
  refine ⟨tRet t, fun X k => CwR.pst_ret (p X k), fun H0 H σ ρ ts E s h => ?_⟩
  have h : ThnS G H0 ts ((evE M c ρ).toFR fun d _ => if d.noAny = true then .rt d else .stuck) E := by
    simp only [evS] at h
    cases c <;> first | exact h | exact absurd rfl (hc _)
  refine m H0 H σ ρ ts _ s (h.toFR.imp fun d ρ' h v H' s' => ?_)
  by_cases hn : d.noAny = true
  · rw [if_pos hn] at h
    exact h v H' (s'.ret hn)
  · rw [if_neg hn] at h
    exact h.elim
theorem det_repl1 {i : Nat} {x y z : Str} {yl zl : List Nat} {j k l : Nat} {p c0 c1 c2 apos pos : Pos} (hx : visN G i x) (hyz : (y == z) = false) (hy : y.cps.toList = yl) (hz : z.cps.toList = zl) (hline : (apos.endLine == pos.line) = true) :
    DET G (.Call (.Attribute (.Name x p) "replace" apos) [.Constant (.str y) j c0, .Constant (.str z) k c1, .Constant (.int 1) l c2] [] pos) (evE M (.me .str .repl (.var i) (.cons (.str yl) (.cons (.str zl) (.cons (.int 1) .nil))))) := by
  refine ⟨tRepl1 (tVar i) y z, fun X c => pet_repl1 (hx.pe X c) hyz rfl rfl hline, fun H0 H σ ρ ts Q s h => ?_⟩
  simp only [evE, evA, R.bind_ok] at h
  cases e0 : ρ[i]? with
  | none => rw [e0] at h; exact h.elim
  | some o =>
    cases o with
    | none => rw [e0] at h; exact h.elim
    | some d =>
      rw [e0] at h
      obtain ⟨w, sid, tid, s1⟩ := id s
      obtain ⟨v, kk, e1, e2, r⟩ := s1.slot i d e0
      cases d with
      | str u =>
        cases r with
        | str b =>
        have h : Thn G H0 σ ts (match opRepl [.str u, .str yl, .str zl, .int 1] with | some z => R.ok z (ρ.set i (some (.str u))) | none => .stuck) (fun d ρ' => ∀ v H', SS H0 H' σ ρ' ((v, d) :: ts) → Q v H') := by
          first | exact h | (rw [if_pos rfl] at h; exact h)
        rw [show opRepl [.str u, .str yl, .str zl, .int 1] = if (1 : Int) = 1 ∧ u.length + (u.length + 1) * zl.length < big ∧ yl ≠ zl then some (.str (replL u yl zl)) else none from rfl] at h
        by_cases hc : (1 : Int) = 1 ∧ u.length + (u.length + 1) * zl.length < big ∧ yl ≠ zl
        · rw [if_pos hc] at h
          have ez : (⟨zl.toArray⟩ : Str) = z := by rw [← hz]
          have ey : (⟨yl.toArray⟩ : Str) = y := by rw [← hy]
          have lz : z.length = zl.length := by rw [← ez, str_len]
          have hB : big = 1000000 := rfl
          have hr : replS ⟨u.toArray⟩ y z = ⟨(replL u yl zl).toArray⟩ := by unfold replL; rw [ey, ez]
          have hle := replS_len ⟨u.toArray⟩ y z
          refine ⟨_, e1, _, rfl, by rw [lz, str_len]; omega, ?_⟩
          rw [hr]
          have es : ρ.set i (some (.str u)) = ρ := by
            refine List.ext_getElem? fun n => ?_
            rw [List.getElem?_set]
            by_cases e : i = n
            · subst e
              rw [if_pos rfl, e0]
              have := (List.getElem?_eq_some_iff.mp e0).1
              rw [if_pos this]
            · rw [if_neg e]
          refine h _ H ?_
          rw [es]
          refine s.str ?_
          rw [hr, str_len, lz, str_len] at hle
          omega
        · rw [if_neg hc] at h
          exact h.elim
      | _ =>
        first
        | exact h.elim
        | (rw [if_neg Bool.false_ne_true] at h; exact h.elim)
end
theorem fn_okT {g : SP0} {x qual : Str} {st : Stmt} {f : Addr} {fd : FuncData} {N ps : List Str} {k : Nat} {φ : List D → CR} {b : S} (F : FunD g.K x qual (defArgs st) (defBody st) (defScope st) [] [] f fd) (S : FnScope N ps (defScope st))
    (hnc : ∀ y ∈ (defScope st).names, y.2 ≠ .cell) (hps : 1 ≤ ps.length) (hb : ∀ W, DSsT (g.sg N (defScope st) k W) (defBody st) (evS g.M b)) (hp : ps.length ≤ N.length)
    (hφ : ∀ ds, ds.length = ps.length → alls Tag.isAny ds = true → φ ds = .stuck ∨ φ ds = (evS g.M b (initE N ds)).cr) :
    FnOk g.P g.w g.K g.mg g.base (L2.CX g.P g.w) (k + 1) f fd ps (spOf KLs.cv ps.length φ) := by
  obtain ⟨oc, od, dV, kV, doc, pm, an, cdv, ct, osl, e, lk, hcd, _, _⟩ := F.ex
  subst e
  refine fn_ofT lk hcd S hnc hps (fun vs H Q E h => ?_) (fun A outer s H vs Q E hr h => ?_)
  · obtain ⟨ds, r, hl, _⟩ := h
    rw [r.length, hl]
  · obtain ⟨ds, r, hl, h⟩ := h
    obtain ⟨t, p, m⟩ := hb fun cls d _ H => E cls d H
    refine ⟨t, p _ (ctx_def S.nd hr), ?_⟩
    have s0 := sta_start (N := N) r (any_noOwn r.isAny) (by rw [r.length, hl]; exact hp)
    refine m H H _ _ [] _ s0 ?_
    rcases hφ ds hl r.isAny with e | e
    · rw [e] at h; exact h.elim
    · rw [e] at h
      cases q : evS g.M b (initE N ds) with
      | nx ρ => rw [q] at h; exact fun σ' H' s' => h _ H' (resNon s'.same)
      | bk ρ => rw [q] at h; exact h.elim
      | ct ρ => rw [q] at h; exact h.elim
      | rt d => rw [q] at h; exact h
      | err c ρ => rw [q] at h; exact fun σ' H' s' => h H' s'.same
      | stuck => rw [q] at h; exact h
end Sd

namespace Sd
/-! ### reckoning meanings: rows for simp -/
section
variable {M : Sem} {ρ : DEnv}
@[simp] theorem R.bind_dem {α β : Type} (a : α) (ρ : DEnv) (f : α → DEnv → R β) : (R.ok a ρ).bind f = f a ρ := rfl
@[simp] theorem dem_int (i : Int) : (D.int i).tg Tag.dem = .int i := rfl
@[simp] theorem dem_bl (i : Bool) : (D.bl i).tg Tag.dem = .bl i := rfl
@[simp] theorem dem_non : D.non.tg Tag.dem = .non := rfl
@[simp] theorem dem_str (s : List Nat) : (D.str s).tg Tag.dem = .str s := rfl
@[simp] theorem dem_exc (s : Nat) : (D.exc s).tg Tag.dem = .exc s := rfl
@[simp] theorem dem_lst (t : Tag) (xs : List D) : (D.lst t xs).tg Tag.dem = .lst t.dem (tgs Tag.dem xs) := rfl
@[simp] theorem dem_tup (xs : List D) : (D.tup xs).tg Tag.dem = .tup (tgs Tag.dem xs) := rfl
@[simp] theorem any_int (i : Int) : (D.int i).tg (fun _ => Tag.any) = .int i := rfl
@[simp] theorem any_bl (i : Bool) : (D.bl i).tg (fun _ => Tag.any) = .bl i := rfl
@[simp] theorem any_non : D.non.tg (fun _ => Tag.any) = .non := rfl
@[simp] theorem any_str (s : List Nat) : (D.str s).tg (fun _ => Tag.any) = .str s := rfl
@[simp] theorem any_exc (s : Nat) : (D.exc s).tg (fun _ => Tag.any) = .exc s := rfl
@[simp] theorem any_lst (t : Tag) (xs : List D) : (D.lst t xs).tg (fun _ => Tag.any) = .lst .any (tgs (fun _ => Tag.any) xs) := rfl
@[simp] theorem any_tup (xs : List D) : (D.tup xs).tg (fun _ => Tag.any) = .tup (tgs (fun _ => Tag.any) xs) := rfl
@[simp] theorem in_int (i : Int) : (D.int i).demIn = .int i := rfl
@[simp] theorem in_bl (i : Bool) : (D.bl i).demIn = .bl i := rfl
@[simp] theorem in_non : D.non.demIn = .non := rfl
@[simp] theorem in_str (s : List Nat) : (D.str s).demIn = .str s := rfl
@[simp] theorem in_exc (s : Nat) : (D.exc s).demIn = .exc s := rfl
@[simp] theorem in_lst (t : Tag) (xs : List D) : (D.lst t xs).demIn = .lst t (tgs Tag.dem xs) := rfl
@[simp] theorem in_tup (xs : List D) : (D.tup xs).demIn = .tup (tgs Tag.dem xs) := rfl
@[simp] theorem td_own : Tag.own.dem = .new := rfl
@[simp] theorem td_new : Tag.new.dem = .new := rfl
@[simp] theorem td_any : Tag.any.dem = .any := rfl
@[simp] theorem tgs_nil (f : Tag → Tag) : tgs f [] = [] := rfl
@[simp] theorem tgs_cons (f : Tag → Tag) (d : D) (ds : List D) : tgs f (d :: ds) = d.tg f :: tgs f ds := rfl
@[simp] theorem tgs_app (f : Tag → Tag) (a b : List D) : tgs f (a ++ b) = tgs f a ++ tgs f b := by simp [tgs_map]
@[simp] theorem tgs_ints (f : Tag → Tag) (ns : List Int) : tgs f (ns.map D.int) = ns.map D.int := by rw [tgs_map, List.map_map]; rfl
@[simp] theorem tgs_strs (f : Tag → Tag) (ns : List (List Nat)) : tgs f (ns.map D.str) = ns.map D.str := by rw [tgs_map, List.map_map]; rfl
@[simp] theorem tgs_bls (f : Tag → Tag) (ns : List Bool) : tgs f (ns.map D.bl) = ns.map D.bl := by rw [tgs_map, List.map_map]; rfl
@[simp] theorem na_int (i : Int) (p : Tag → Bool) : (D.int i).all p = true := rfl
@[simp] theorem na_bl (i : Bool) (p : Tag → Bool) : (D.bl i).all p = true := rfl
@[simp] theorem na_non (p : Tag → Bool) : D.non.all p = true := rfl
@[simp] theorem na_str (s : List Nat) (p : Tag → Bool) : (D.str s).all p = true := rfl
@[simp] theorem na_exc (s : Nat) (p : Tag → Bool) : (D.exc s).all p = true := rfl
@[simp] theorem na_lst (t : Tag) (xs : List D) (p : Tag → Bool) : (D.lst t xs).all p = (p t && alls p xs) := rfl
@[simp] theorem na_tup (xs : List D) (p : Tag → Bool) : (D.tup xs).all p = alls p xs := rfl
@[simp] theorem nas_nil (p : Tag → Bool) : alls p [] = true := rfl
@[simp] theorem nas_cons (p : Tag → Bool) (d : D) (ds : List D) : alls p (d :: ds) = (d.all p && alls p ds) := rfl
@[simp] theorem nas_ints (p : Tag → Bool) (ns : List Int) : alls p (ns.map D.int) = true := by rw [alls_all]; simp
@[simp] theorem nas_strs (p : Tag → Bool) (ns : List (List Nat)) : alls p (ns.map D.str) = true := by rw [alls_all]; simp
@[simp] theorem noA_own : Tag.noAny .own = true := rfl
@[simp] theorem noA_new : Tag.noAny .new = true := rfl
@[simp] theorem noA_any : Tag.noAny .any = false := rfl
def lkR {α : Type} (o : Option (Option D)) (f : D → R α) : R α := match o with
  | some (some d) => f d
  | _ => .stuck
def lkF (o : Option (Option D)) (f : D → FR) : FR := match o with
  | some (some d) => f d
  | _ => .stuck
@[simp] theorem lkR_some {α : Type} (d : D) (f : D → R α) : lkR (some (some d)) f = f d := rfl
@[simp] theorem lkF_some (d : D) (f : D → FR) : lkF (some (some d)) f = f d := rfl
@[simp] theorem ev_var (i : Nat) : evE M (.var i) ρ = lkR ρ[i]? fun d => .ok d.dem (ρ.set i (some d.dem)) := by simp only [evE]; rfl
@[simp] theorem ev_int (n : Int) : evE M (.int n) ρ = .ok (.int n) ρ := by simp only [evE]
@[simp] theorem ev_bl (n : Bool) : evE M (.bl n) ρ = .ok (.bl n) ρ := by simp only [evE]
@[simp] theorem ev_non : evE M .non ρ = .ok .non ρ := by simp only [evE]
@[simp] theorem ev_str (n : List Nat) : evE M (.str n) ρ = .ok (.str n) ρ := by simp only [evE]
@[simp] theorem ev_glob (n : Nat) : evE M (.glob n) ρ = .ok (M.glob n) ρ := by simp only [evE]
def opR (o : Option D) (ρ : DEnv) : R D := match o with
  | some d => .ok d ρ
  | none => .stuck
@[simp] theorem opR_some (d : D) : opR (some d) ρ = .ok d ρ := rfl
def crR (c : CR) (ρ : DEnv) : R D := match c with
  | .ok d => .ok d ρ
  | .err c => .err c ρ
  | .stuck => .stuck
@[simp] theorem crR_ok (d : D) : crR (.ok d) ρ = .ok d ρ := rfl
@[simp] theorem crR_err (d : Nat) : crR (.err d) ρ = .err d ρ := rfl
@[simp] theorem ev_op (o : Op) (as : E) : evE M (.op o as) ρ = (evA M as ρ).bind fun ds ρ' => opR (evOp o ds) ρ' := by
  simp only [evE]; rfl
@[simp] theorem ev_call (j : Nat) (as : E) : evE M (.call j as) ρ = (evA M as ρ).bind fun ds ρ' => crR (M.call j (tgs (fun _ => .any) ds)) ρ' := by
  simp only [evE]; rfl
def boR (b : Bool) (x y : R D) : R D := if b = true then x else y
def blR (d : D) (f : Bool → R D) : R D := match d with
  | .bl b => f b
  | _ => .stuck
@[simp] theorem blR_bl (b : Bool) (f : Bool → R D) : blR (.bl b) f = f b := rfl
@[simp] theorem ev_and (a b : E) : evE M (.and a b) ρ = (evE M a ρ).bind fun d ρ' => blR d fun k => if k = true then evE M b ρ' else .ok (.bl false) ρ' := by
  simp only [evE]
  congr 1
  funext d ρ'
  cases d <;> try rfl
  rename_i k
  cases k <;> rfl
@[simp] theorem ev_or (a b : E) : evE M (.or a b) ρ = (evE M a ρ).bind fun d ρ' => blR d fun k => if k = true then .ok (.bl true) ρ' else evE M b ρ' := by
  simp only [evE]
  congr 1
  funext d ρ'
  cases d <;> try rfl
  rename_i k
  cases k <;> rfl
@[simp] theorem ev_not (a : E) : evE M (.not a) ρ = (evE M a ρ).bind fun d ρ' => blR d fun k => .ok (.bl !k) ρ' := by
  simp only [evE]
  congr 1
@[simp] theorem ev_tup (as : E) : evE M (.tup as) ρ = (evV M as ρ).bind fun ds ρ' => .ok (.tup ds) ρ' := by simp only [evE]
@[simp] theorem ev_lst (as : E) : evE M (.lst as) ρ = (evV M as ρ).bind fun ds ρ' => .ok (.lst .own ds) ρ' := by simp only [evE]
theorem eq_def' (c : DEnv → R D) : evQ false c ρ = (c ρ).bind fun d ρ3 => match d.tru with
    | some b => .ok b ρ3
    | none => .stuck := rfl
@[simp] theorem ev_ife (c a b : E) : evE M (.ife c a b) ρ = (evQ false (evE M c) ρ).bind fun k ρ' => if k = true then evE M a ρ' else evE M b ρ' := by
  simp only [evE, eq_def']
  cases evE M c ρ with
  | ok d ρ' =>
    simp only [R.bind_ok]
    cases d.tru with
    | none => rfl
    | some b => cases b <;> rfl
  | _ => rfl
@[simp] theorem ea_nil : evA M .nil ρ = .ok [] ρ := by simp only [evA]
@[simp] theorem ea_var (i : Nat) (as : E) : evA M (.cons (.var i) as) ρ = lkR ρ[i]? fun _ => (evA M as ρ).bind fun ds ρ' => lkR ρ'[i]? fun d => .ok (d.demIn :: ds) (ρ'.set i (some d.demIn)) := by simp only [evA]; rfl
theorem ea_cons {a : E} {as : E} (h : ∀ i, a ≠ .var i) : evA M (.cons a as) ρ = (evE M a ρ).bind fun d ρ' => (evA M as ρ').bind fun ds ρ'' => .ok (d.dem :: ds) ρ'' := by
  cases a <;> first | rfl | exact absurd rfl (h _)
@[simp] theorem ea_int (n : Int) (as : E) : evA M (.cons (.int n) as) ρ = (evA M as ρ).bind fun ds ρ' => .ok (.int n :: ds) ρ' := by rw [ea_cons (by intro _ h; cases h)]; simp
@[simp] theorem ea_bl (n : Bool) (as : E) : evA M (.cons (.bl n) as) ρ = (evA M as ρ).bind fun ds ρ' => .ok (.bl n :: ds) ρ' := by rw [ea_cons (by intro _ h; cases h)]; simp
@[simp] theorem ea_non (as : E) : evA M (.cons .non as) ρ = (evA M as ρ).bind fun ds ρ' => .ok (.non :: ds) ρ' := by rw [ea_cons (by intro _ h; cases h)]; simp
@[simp] theorem ea_str (n : List Nat) (as : E) : evA M (.cons (.str n) as) ρ = (evA M as ρ).bind fun ds ρ' => .ok (.str n :: ds) ρ' := by rw [ea_cons (by intro _ h; cases h)]; simp
@[simp] theorem ea_glob (n : Nat) (as : E) : evA M (.cons (.glob n) as) ρ = (evA M as ρ).bind fun ds ρ' => .ok ((M.glob n).dem :: ds) ρ' := by rw [ea_cons (by intro _ h; cases h)]; simp
@[simp] theorem ea_op (o : Op) (x as : E) : evA M (.cons (.op o x) as) ρ = (evE M (.op o x) ρ).bind fun d ρ' => (evA M as ρ').bind fun ds ρ'' => .ok (d.dem :: ds) ρ'' := ea_cons (fun _ h => nomatch h)
@[simp] theorem ea_call (o : Nat) (x as : E) : evA M (.cons (.call o x) as) ρ = (evE M (.call o x) ρ).bind fun d ρ' => (evA M as ρ').bind fun ds ρ'' => .ok (d.dem :: ds) ρ'' := ea_cons (fun _ h => nomatch h)
@[simp] theorem ea_and (o x as : E) : evA M (.cons (.and o x) as) ρ = (evE M (.and o x) ρ).bind fun d ρ' => (evA M as ρ').bind fun ds ρ'' => .ok (d.dem :: ds) ρ'' := ea_cons (fun _ h => nomatch h)
@[simp] theorem ea_or (o x as : E) : evA M (.cons (.or o x) as) ρ = (evE M (.or o x) ρ).bind fun d ρ' => (evA M as ρ').bind fun ds ρ'' => .ok (d.dem :: ds) ρ'' := ea_cons (fun _ h => nomatch h)
@[simp] theorem ea_not (x as : E) : evA M (.cons (.not x) as) ρ = (evE M (.not x) ρ).bind fun d ρ' => (evA M as ρ').bind fun ds ρ'' => .ok (d.dem :: ds) ρ'' := ea_cons (fun _ h => nomatch h)
@[simp] theorem ea_tup (x as : E) : evA M (.cons (.tup x) as) ρ = (evE M (.tup x) ρ).bind fun d ρ' => (evA M as ρ').bind fun ds ρ'' => .ok (d.dem :: ds) ρ'' := ea_cons (fun _ h => nomatch h)
@[simp] theorem ea_lst (x as : E) : evA M (.cons (.lst x) as) ρ = (evE M (.lst x) ρ).bind fun d ρ' => (evA M as ρ').bind fun ds ρ'' => .ok (d.dem :: ds) ρ'' := ea_cons (fun _ h => nomatch h)
@[simp] theorem ea_me (k : Kd) (o : Op) (r x as : E) : evA M (.cons (.me k o r x) as) ρ = (evE M (.me k o r x) ρ).bind fun d ρ' => (evA M as ρ').bind fun ds ρ'' => .ok (d.dem :: ds) ρ'' := ea_cons (fun _ h => nomatch h)
@[simp] theorem ea_chn (p q : Bool) (r x as : E) : evA M (.cons (.chn p q r x) as) ρ = (evE M (.chn p q r x) ρ).bind fun d ρ' => (evA M as ρ').bind fun ds ρ'' => .ok (d.dem :: ds) ρ'' := ea_cons (fun _ h => nomatch h)
@[simp] theorem ea_isi (t : Ty) (x as : E) : evA M (.cons (.isi t x) as) ρ = (evE M (.isi t x) ρ).bind fun d ρ' => (evA M as ρ').bind fun ds ρ'' => .ok (d.dem :: ds) ρ'' := ea_cons (fun _ h => nomatch h)
@[simp] theorem ea_sl2 (t u x as : E) : evA M (.cons (.sl2 t u x) as) ρ = (evE M (.sl2 t u x) ρ).bind fun d ρ' => (evA M as ρ').bind fun ds ρ'' => .ok (d.dem :: ds) ρ'' := ea_cons (fun _ h => nomatch h)
@[simp] theorem ea_lc (k : Wk) (s : E) (tg : Tg) (c e as : E) : evA M (.cons (.lc k s tg c e) as) ρ = (evE M (.lc k s tg c e) ρ).bind fun d ρ' => (evA M as ρ').bind fun ds ρ'' => .ok (d.dem :: ds) ρ'' := ea_cons (fun _ h => nomatch h)
@[simp] theorem ea_ife (t u x as : E) : evA M (.cons (.ife t u x) as) ρ = (evE M (.ife t u x) ρ).bind fun d ρ' => (evA M as ρ').bind fun ds ρ'' => .ok (d.dem :: ds) ρ'' := ea_cons (fun _ h => nomatch h)
@[simp] theorem evv_nil : evV M .nil ρ = .ok [] ρ := by simp only [evV]
@[simp] theorem evv_cons (a as : E) : evV M (.cons a as) ρ = (evE M a ρ).bind fun d ρ' => (evV M as ρ').bind fun ds ρ'' => .ok (d.dem :: ds) ρ'' := by simp only [evV]
@[simp] theorem es_set (i : Nat) (e : E) : evS M (.set i e) ρ = (evE M e ρ).toFR fun d ρ' => .nx (ρ'.set i (some d)) := by simp only [evS]
@[simp] theorem es_seq (a b : S) : evS M (.seq a b) ρ = (evS M a ρ).bind (evS M b) := by simp only [evS]
@[simp] theorem es_nil : evS M .nil ρ = .nx ρ := by simp only [evS]
@[simp] theorem es_ife (c : E) (a b : S) : evS M (.ife c a b) ρ = (evQ false (evE M c) ρ).toFR fun k ρ' => if k = true then evS M a ρ' else evS M b ρ' := by simp only [evS]
@[simp] theorem es_rai (c : Nat) : evS M (.rai c) ρ = .err c ρ := by simp only [evS]
@[simp] theorem es_retN : evS M .retN ρ = .rt .non := by simp only [evS]
@[simp] theorem es_cnt : evS M .cnt ρ = .ct ρ := by simp only [evS]
@[simp] theorem es_brk : evS M .brk ρ = .bk ρ := by simp only [evS]
@[simp] theorem es_pass : evS M .pass ρ = .nx ρ := by simp only [evS]
@[simp] theorem es_expr (e : E) : evS M (.expr e) ρ = (evE M e ρ).toFR fun _ ρ' => .nx ρ' := by simp only [evS]
theorem es_for (k : Wk) (src : E) (tg : Tg) (b : S) : evS M (.forS k src tg b) ρ = (evI M k src ρ).toFR fun xs ρ1 => evFor tg (evS M b) xs ρ1 := by simp only [evS]
@[simp] theorem es_retv (i : Nat) : evS M (.ret (.var i)) ρ = lkF ρ[i]? fun d => if d.noAny = true then .rt d else .stuck := by simp only [evS, evRet]; rfl
theorem es_ret {e : E} (h : ∀ i, e ≠ .var i) : evS M (.ret e) ρ = (evE M e ρ).toFR fun d _ => if d.noAny = true then .rt d else .stuck := by
  simp only [evS]
  cases e <;> first | rfl | exact absurd rfl (h _)
@[simp] theorem es_ret_op (o : Op) (x : E) : evS M (.ret (.op o x)) ρ = (evE M (.op o x) ρ).toFR fun d _ => if d.noAny = true then .rt d else .stuck := es_ret fun _ h => nomatch h
@[simp] theorem es_ret_int (x : Int) : evS M (.ret (.int x)) ρ = .rt (.int x) := by rw [es_ret (by intro _ h; cases h)]; simp
@[simp] theorem es_ret_bl (x : Bool) : evS M (.ret (.bl x)) ρ = .rt (.bl x) := by rw [es_ret (by intro _ h; cases h)]; simp
@[simp] theorem es_ret_str (x : List Nat) : evS M (.ret (.str x)) ρ = .rt (.str x) := by rw [es_ret (by intro _ h; cases h)]; simp
@[simp] theorem es_ret_call (o : Nat) (x : E) : evS M (.ret (.call o x)) ρ = (evE M (.call o x) ρ).toFR fun d _ => if d.noAny = true then .rt d else .stuck := es_ret fun _ h => nomatch h
@[simp] theorem es_ret_and (o x : E) : evS M (.ret (.and o x)) ρ = (evE M (.and o x) ρ).toFR fun d _ => if d.noAny = true then .rt d else .stuck := es_ret fun _ h => nomatch h
@[simp] theorem es_ret_or (o x : E) : evS M (.ret (.or o x)) ρ = (evE M (.or o x) ρ).toFR fun d _ => if d.noAny = true then .rt d else .stuck := es_ret fun _ h => nomatch h
@[simp] theorem es_ret_not (x : E) : evS M (.ret (.not x)) ρ = (evE M (.not x) ρ).toFR fun d _ => if d.noAny = true then .rt d else .stuck := es_ret fun _ h => nomatch h
@[simp] theorem es_ret_tup (x : E) : evS M (.ret (.tup x)) ρ = (evE M (.tup x) ρ).toFR fun d _ => if d.noAny = true then .rt d else .stuck := es_ret fun _ h => nomatch h
@[simp] theorem es_ret_lst (x : E) : evS M (.ret (.lst x)) ρ = (evE M (.lst x) ρ).toFR fun d _ => if d.noAny = true then .rt d else .stuck := es_ret fun _ h => nomatch h
@[simp] theorem es_ret_me (k : Kd) (o : Op) (r x : E) : evS M (.ret (.me k o r x)) ρ = (evE M (.me k o r x) ρ).toFR fun d _ => if d.noAny = true then .rt d else .stuck := es_ret fun _ h => nomatch h
@[simp] theorem es_ret_lc (k : Wk) (s : E) (tg : Tg) (c e : E) : evS M (.ret (.lc k s tg c e)) ρ = (evE M (.lc k s tg c e) ρ).toFR fun d _ => if d.noAny = true then .rt d else .stuck := es_ret fun _ h => nomatch h
@[simp] theorem FR.bind_nx (f : DEnv → FR) : (FR.nx ρ).bind f = f ρ := rfl
@[simp] theorem FR.bind_rt (d : D) (f : DEnv → FR) : (FR.rt d).bind f = .rt d := rfl
@[simp] theorem FR.bind_err (c : Nat) (f : DEnv → FR) : (FR.err c ρ).bind f = .err c ρ := rfl
@[simp] theorem FR.bind_ct (f : DEnv → FR) : (FR.ct ρ).bind f = .ct ρ := rfl
@[simp] theorem FR.bind_bk (f : DEnv → FR) : (FR.bk ρ).bind f = .bk ρ := rfl
@[simp] theorem FR.cr_rt (d : D) : (FR.rt d).cr = .ok d := rfl
@[simp] theorem FR.cr_nx : (FR.nx ρ).cr = .ok .non := rfl
@[simp] theorem FR.cr_err (c : Nat) : (FR.err c ρ).cr = .err c := rfl
def trR (o : Option Bool) (ρ : DEnv) : R Bool := match o with
  | some b => .ok b ρ
  | none => .stuck
@[simp] theorem trR_some (b : Bool) : trR (some b) ρ = .ok b ρ := rfl
@[simp] theorem eq_ev (c : DEnv → R D) : evQ false c ρ = (c ρ).bind fun d ρ3 => trR d.tru ρ3 := rfl
@[simp] theorem eq_tt (c : DEnv → R D) : evQ true c ρ = .ok true ρ := rfl
def chA (ds : List D) (f : Int → Int → R D) : R D := match ds with
  | [.int x, .int y] => f x y
  | _ => .stuck
@[simp] theorem chA_int (x y : Int) (f : Int → Int → R D) : chA [.int x, .int y] f = f x y := rfl
def inR (d : D) (f : Int → R D) : R D := match d with
  | .int x => f x
  | _ => .stuck
@[simp] theorem inR_int (x : Int) (f : Int → R D) : inR (.int x) f = f x := rfl
@[simp] theorem ev_chn (p q : Bool) (ab c : E) : evE M (.chn p q ab c) ρ = (evA M ab ρ).bind fun ds ρ' => chA ds fun x y => if (if p then decide (x ≤ y) else decide (x < y)) = true then (evE M c ρ').bind fun d ρ2 => inR d fun z => .ok (.bl (if q then decide (y ≤ z) else decide (y < z))) ρ2 else .ok (.bl false) ρ' := by
  simp only [evE]
  congr 1
def tyR (o : Option Bool) (ρ : DEnv) : R D := match o with
  | some b => .ok (.bl b) ρ
  | none => .stuck
@[simp] theorem tyR_some (b : Bool) : tyR (some b) ρ = .ok (.bl b) ρ := rfl
def on1 (ds : List D) (f : D → R D) : R D := match ds with
  | [d] => f d
  | _ => .stuck
@[simp] theorem on1_one (d : D) (f : D → R D) : on1 [d] f = f d := rfl
@[simp] theorem ev_isi (t : Ty) (as : E) : evE M (.isi t as) ρ = (evA M as ρ).bind fun ds ρ' => on1 ds fun d => tyR (t.is M.isa d) ρ' := by
  simp only [evE]
  congr 1
@[simp] theorem ev_mev (k : Kd) (o : Op) (i : Nat) (as : E) : evE M (.me k o (.var i) as) ρ = lkR ρ[i]? fun d0 => if k.ok d0 = true then (evA M as ρ).bind fun ds ρ' => lkR ρ'[i]? fun d => opR (evOp o (d.demIn :: ds)) (ρ'.set i (some d.demIn)) else .stuck := by
  simp only [evE]
  rfl
theorem ev_me {k : Kd} {o : Op} {r as : E} (h : ∀ i, r ≠ .var i) : evE M (.me k o r as) ρ = (evE M r ρ).bind fun d ρ1 => if k.ok d = true then (evA M as ρ1).bind fun ds ρ2 => opR (evOp o (d.dem :: ds)) ρ2 else .stuck := by
  cases r <;> first | rfl | exact absurd rfl (h _)
@[simp] theorem ev_me_str (k : Kd) (o : Op) (z : List Nat) (as : E) : evE M (.me k o (.str z) as) ρ = if k.ok (.str z) = true then (evA M as ρ).bind fun ds ρ2 => opR (evOp o (.str z :: ds)) ρ2 else .stuck := by
  rw [ev_me (by intro _ h; cases h)]; simp
@[simp] theorem ev_sl2 (a lo hi : E) : evE M (.sl2 a lo hi) ρ = (evE M a ρ).bind fun d ρ1 => (evE M lo ρ1).bind fun x ρ2 => inR x fun i => (evE M hi ρ2).bind fun y ρ3 => inR y fun j => opR (sliceD d.dem (some i) (some j)) ρ3 := by
  simp only [evE]
  congr 1
@[simp] theorem kd_str (z : List Nat) : Kd.str.ok (.str z) = true := rfl
@[simp] theorem kd_lst (t : Tag) (z : List D) : Kd.lst.ok (.lst t z) = true := rfl
def wkR (o : Option (List D)) (f : List D → R D) : R D := match o with
  | some xs => f xs
  | none => .stuck
@[simp] theorem wkR_some (xs : List D) (f : List D → R D) : wkR (some xs) f = f xs := rfl
theorem ev_lc (k : Wk) (src : E) (tg : Tg) (c e : E) : evE M (.lc k src tg c e) ρ = (evV M src ρ).bind fun ds ρ1 => wkR (evWk k ds) fun xs => (evTurns tg (evIf c.isNil (fun ρ => evE M c ρ) (fun ρ => evE M e ρ)) xs (wipeE ρ1 tg.slots) []).calm.bind fun acc ρ5 => .ok (.lst .own acc) ρ5 := by
  simp only [evE]
  congr 1
  funext ds ρ1
  cases evWk k ds <;> rfl
@[simp] theorem calm_ok {α : Type} (a : α) : (R.ok a ρ).calm = .ok a ρ := rfl
@[simp] theorem slots_nm (i : Nat) : (Tg.nm i).slots = [i] := rfl
@[simp] theorem slots_tp (i : List Nat) : (Tg.tp i).slots = i := rfl
@[simp] theorem wipe_nil : wipeE ρ [] = ρ := rfl
@[simp] theorem wipe_cons (i : Nat) (is : List Nat) : wipeE ρ (i :: is) = (wipeE ρ is).set i none := rfl
@[simp] theorem eif (b : Bool) (c e : DEnv → R D) : evIf b c e ρ = (evQ b c ρ).bind fun k ρ3 => if k = true then (e ρ3).bind fun d ρ4 => .ok (some d.dem) ρ4 else .ok none ρ3 := rfl
@[simp] theorem isNil_nil : E.nil.isNil = true := rfl
@[simp] theorem eq_ok {c : DEnv → R D} {d : D} {ρ' : DEnv} {b : Bool} (h : c ρ = .ok d ρ') (t : d.tru = some b) : evQ false c ρ = .ok b ρ' := by
  unfold evQ
  simp [h, t]
theorem eq_def (c : DEnv → R D) : evQ false c ρ = (c ρ).bind fun d ρ3 => match d.tru with
    | some b => .ok b ρ3
    | none => .stuck := rfl
@[simp] theorem tru_bl (b : Bool) : (D.bl b).tru = some b := rfl
@[simp] theorem tru_int (i : Int) : (D.int i).tru = some (i != 0) := rfl
@[simp] theorem gt0 (a : Option D) (l : DEnv) : (a :: l)[0]? = some a := rfl
@[simp] theorem gt1 (a b : Option D) (l : DEnv) : (a :: b :: l)[1]? = some b := rfl
@[simp] theorem gt2 (a b c : Option D) (l : DEnv) : (a :: b :: c :: l)[2]? = some c := rfl
@[simp] theorem gt3 (a b c d : Option D) (l : DEnv) : (a :: b :: c :: d :: l)[3]? = some d := rfl
@[simp] theorem gt4 (a b c d e : Option D) (l : DEnv) : (a :: b :: c :: d :: e :: l)[4]? = some e := rfl
@[simp] theorem gt5 (a b c d e f : Option D) (l : DEnv) : (a :: b :: c :: d :: e :: f :: l)[5]? = some f := rfl
@[simp] theorem gt6 (a b c d e f g : Option D) (l : DEnv) : (a :: b :: c :: d :: e :: f :: g :: l)[6]? = some g := rfl
@[simp] theorem gt7 (a b c d e f g h : Option D) (l : DEnv) : (a :: b :: c :: d :: e :: f :: g :: h :: l)[7]? = some h := rfl
@[simp] theorem gt8 (a b c d e f g h i : Option D) (l : DEnv) : (a :: b :: c :: d :: e :: f :: g :: h :: i :: l)[8]? = some i := rfl
@[simp] theorem gt9 (a b c d e f g h i j : Option D) (l : DEnv) : (a :: b :: c :: d :: e :: f :: g :: h :: i :: j :: l)[9]? = some j := rfl
@[simp] theorem gt10 (a b c d e f g h i j k : Option D) (l : DEnv) : (a :: b :: c :: d :: e :: f :: g :: h :: i :: j :: k :: l)[10]? = some k := rfl
/-! ### operators -/
@[simp] theorem o_add_int (i j : Int) : evOp .add [.int i, .int j] = some (.int (i + j)) := rfl
@[simp] theorem o_sub_int (i j : Int) : evOp .sub [.int i, .int j] = some (.int (i - j)) := rfl
theorem o_mul_int {i j : Int} (h : (-18446744073709551616 < i ∧ i < 18446744073709551616) ∨ (-18446744073709551616 < j ∧ j < 18446744073709551616)) : evOp .mul [.int i, .int j] = some (.int (i * j)) := if_pos h
theorem o_mod_int {i j : Int} (h : 0 < j) : evOp .mod [.int i, .int j] = some (.int (i % j)) := if_pos h
theorem o_fdiv_int {i j : Int} (h : 0 < j ∧ j < 1073741824) : evOp .fdiv [.int i, .int j] = some (.int (i / j)) := if_pos h
theorem o_add_str {x y : List Nat} (h : x.length + y.length < 1000000) : evOp .add [.str x, .str y] = some (.str (x ++ y)) := if_pos h
end
end Sd

namespace Sd
open PySem PySem.Spec L2
/-! ### comparing -/
theorem lt_int (i j : Int) : PySem.W.dataLt (.int i) (.int j) = decide (i < j) := by
  unfold PySem.W.dataLt
  simp [PySem.W.keyToks, PyProof.Rows.lexLt, PyProof.Rows.itemLt]
theorem eqv_int (i j : Int) : PyData.eqv (.int i) (.int j) = decide (i = j) := by
  unfold PyData.eqv
  rfl
theorem str_inj {x y : List Nat} : ((⟨x.toArray⟩ : Str) = ⟨y.toArray⟩) ↔ x = y := ⟨fun h => congrArg (fun z : Str => z.cps.toList) h, fun h => by rw [h]⟩
theorem eqv_str (x y : List Nat) : PyData.eqv (.str ⟨x.toArray⟩) (.str ⟨y.toArray⟩) = decide (x = y) := by
  have e : PyData.eqv (.str ⟨x.toArray⟩) (.str ⟨y.toArray⟩) = decide ((⟨x.toArray⟩ : Str) = ⟨y.toArray⟩) := by
    unfold PyData.eqv
    first | rfl | (rw [Bool.eq_iff_iff]; simp)
  rw [e]
  exact decide_eq_decide.mpr str_inj
@[simp] theorem o_lt_int (i j : Int) : evOp .lt [.int i, .int j] = some (.bl (decide (i < j))) := by
  show opLt (.int i) (.int j) = _
  unfold opLt D.lt
  rw [show dat2 (.int i) (.int j) && D.alike (.int i) (.int j) && !D.isNon (.int i) from rfl]
  simp only [if_true, D.py, lt_int]
@[simp] theorem o_gt_int (i j : Int) : evOp .gt [.int i, .int j] = some (.bl (decide (j < i))) := by
  show opGt (.int i) (.int j) = _
  unfold opGt D.lt
  rw [show dat2 (.int i) (.int j) && D.alike (.int i) (.int j) && !D.isNon (.int i) from rfl]
  simp only [if_true, D.py, lt_int]
@[simp] theorem o_le_int (i j : Int) : evOp .le [.int i, .int j] = some (.bl (decide (i ≤ j))) := by
  show opLe (.int i) (.int j) = _
  unfold opLe D.lt
  rw [show dat2 (.int i) (.int j) && D.alike (.int i) (.int j) && !D.isNon (.int i) from rfl]
  simp only [if_true, D.py, lt_int, Option.some.injEq, D.bl.injEq]
  rw [← decide_not]; exact decide_eq_decide.mpr Int.not_lt
@[simp] theorem o_ge_int (i j : Int) : evOp .ge [.int i, .int j] = some (.bl (decide (j ≤ i))) := by
  show opGe (.int i) (.int j) = _
  unfold opGe D.lt
  rw [show dat2 (.int i) (.int j) && D.alike (.int i) (.int j) && !D.isNon (.int i) from rfl]
  simp only [if_true, D.py, lt_int, Option.some.injEq, D.bl.injEq]
  rw [← decide_not]; exact decide_eq_decide.mpr Int.not_lt
@[simp] theorem o_eq_int (i j : Int) : evOp .eq [.int i, .int j] = some (.bl (decide (i = j))) := by
  show (if dat2 (.int i) (.int j) then some (D.bl (PyData.eqv (.int i) (.int j))) else none) = _
  rw [eqv_int]; rfl
@[simp] theorem o_ne_int (i j : Int) : evOp .ne [.int i, .int j] = some (.bl (!decide (i = j))) := by
  show (if dat2 (.int i) (.int j) then some (D.bl (!PyData.eqv (.int i) (.int j))) else none) = _
  rw [eqv_int]; rfl
@[simp] theorem o_eq_str (i j : List Nat) : evOp .eq [.str i, .str j] = some (.bl (decide (i = j))) := by
  show (if dat2 (.str i) (.str j) then some (D.bl (PyData.eqv (.str ⟨i.toArray⟩) (.str ⟨j.toArray⟩))) else none) = _
  rw [eqv_str]; rfl
@[simp] theorem o_ne_str (i j : List Nat) : evOp .ne [.str i, .str j] = some (.bl (!decide (i = j))) := by
  show (if dat2 (.str i) (.str j) then some (D.bl (!PyData.eqv (.str ⟨i.toArray⟩) (.str ⟨j.toArray⟩))) else none) = _
  rw [eqv_str]; rfl
@[simp] theorem o_in_chr (c : Nat) (y : List Nat) : evOp .isin [.str [c], .str y] = some (.bl (decide (c ∈ y))) := rfl
@[simp] theorem o_notin_chr (c : Nat) (y : List Nat) : evOp .notin [.str [c], .str y] = some (.bl (!decide (c ∈ y))) := rfl
@[simp] theorem o_len_lst (t : Tag) (xs : List D) : evOp .len [.lst t xs] = some (.int xs.length) := rfl
@[simp] theorem o_len_tup (xs : List D) : evOp .len [.tup xs] = some (.int xs.length) := rfl
@[simp] theorem o_len_str (xs : List Nat) : evOp .len [.str xs] = some (.int xs.length) := rfl
@[simp] theorem o_isN (d : D) : evOp .isN [d] = some (.bl d.isNon) := rfl
@[simp] theorem o_notN (d : D) : evOp .notN [d] = some (.bl (!d.isNon)) := rfl
@[simp] theorem isNon_non : D.non.isNon = true := rfl
@[simp] theorem isNon_int (i : Int) : (D.int i).isNon = false := rfl
@[simp] theorem isNon_lst (t : Tag) (xs : List D) : (D.lst t xs).isNon = false := rfl
@[simp] theorem isNon_tup (xs : List D) : (D.tup xs).isNon = false := rfl
@[simp] theorem o_list (t : Tag) (xs : List D) : evOp .list [.lst t xs] = some (.lst .own xs) := rfl
@[simp] theorem o_int_int (i : Int) : evOp .int [.int i] = some (.int i) := rfl
@[simp] theorem o_int_bl (i : Bool) : evOp .int [.bl i] = some (.int (if i then 1 else 0)) := rfl
@[simp] theorem o_neg_int (i : Int) : evOp .neg [.int i] = some (.int (-i)) := rfl
theorem o_idx_lst {t : Tag} {xs : List D} {i : Int} {d : D} (h : atI xs i = some d) : evOp .idx [.lst t xs, .int i] = some d := h
theorem o_idx_tup {xs : List D} {i : Int} {d : D} (h : atI xs i = some d) : evOp .idx [.tup xs, .int i] = some d := h
theorem o_idx_str {xs : List Nat} {i : Int} {c : Nat} (h : atI xs i = some c) : evOp .idx [.str xs, .int i] = some (.str [c]) := by
  show (atI xs i).map _ = _
  rw [h]; rfl
theorem bools_map (bs : List Bool) : bools? (bs.map D.bl) = some bs := by
  induction bs with
  | nil => rfl
  | cons b bs ih => simp only [List.map_cons, bools?, ih, Option.map_some]
theorem ints_map (bs : List Int) : ints? (bs.map D.int) = some bs := by
  induction bs with
  | nil => rfl
  | cons b bs ih => simp only [List.map_cons, ints?, ih, Option.map_some]
theorem strs_map (bs : List (List Nat)) : strs? (bs.map D.str) = some bs := by
  induction bs with
  | nil => rfl
  | cons b bs ih => simp only [List.map_cons, strs?, ih, Option.map_some]
@[simp] theorem o_all (t : Tag) (bs : List Bool) : evOp .all [.lst t (bs.map D.bl)] = some (.bl (bs.all id)) := by
  show (bools? (bs.map D.bl)).map _ = _
  rw [bools_map]; rfl
@[simp] theorem o_any (t : Tag) (bs : List Bool) : evOp .any [.lst t (bs.map D.bl)] = some (.bl (bs.any id)) := by
  show (bools? (bs.map D.bl)).map _ = _
  rw [bools_map]; rfl
/-! ### loops -/
variable {M : Sem}
def tryF (isa : Nat → Nat → Bool) (c i : Nat) (r : FR) (f : DEnv → FR) : FR := match r with
  | .err k ρ' => if isa k c = true then (f (ρ'.set i (some (.exc k)))).lose i else .err k ρ'
  | r => r
@[simp] theorem tryF_nx (isa : Nat → Nat → Bool) (c i : Nat) (ρ : DEnv) (f : DEnv → FR) : tryF isa c i (.nx ρ) f = .nx ρ := rfl
@[simp] theorem tryF_rt (isa : Nat → Nat → Bool) (c i : Nat) (d : D) (f : DEnv → FR) : tryF isa c i (.rt d) f = .rt d := rfl
@[simp] theorem tryF_err (isa : Nat → Nat → Bool) (c i k : Nat) (ρ : DEnv) (f : DEnv → FR) : tryF isa c i (.err k ρ) f = if isa k c = true then (f (ρ.set i (some (.exc k)))).lose i else .err k ρ := rfl
@[simp] theorem lose_nx (i : Nat) (ρ : DEnv) : (FR.nx ρ).lose i = .nx (ρ.set i none) := rfl
@[simp] theorem es_try (c i : Nat) (a b : S) (ρ : DEnv) : evS M (.tryS c i a b) ρ = tryF M.isa c i (evS M a ρ) (evS M b) := by
  simp only [evS]
  cases evS M a ρ <;> rfl
def tgF (o : Option DEnv) (f : DEnv → FR) : FR := match o with
  | some ρ => f ρ
  | none => .stuck
@[simp] theorem tgF_some (ρ : DEnv) (f : DEnv → FR) : tgF (some ρ) f = f ρ := rfl
@[simp] theorem es_setT (tg : Tg) (e : E) (ρ : DEnv) : evS M (.setT tg e) ρ = (evE M e ρ).toFR fun d ρ' => tgF (tg.set d.dem ρ') .nx := by
  simp only [evS]
  congr 1
@[simp] theorem tset_nm (i : Nat) (d : D) (ρ : DEnv) : (Tg.nm i).set d ρ = some (ρ.set i (some d)) := rfl
@[simp] theorem tset_tp (is : List Nat) (ds : List D) (ρ : DEnv) : (Tg.tp is).set (.tup ds) ρ = setAll is ds ρ := rfl
@[simp] theorem setAll_nil (ρ : DEnv) : setAll [] [] ρ = some ρ := rfl
@[simp] theorem setAll_cons (i : Nat) (is : List Nat) (d : D) (ds : List D) (ρ : DEnv) : setAll (i :: is) (d :: ds) ρ = setAll is ds (ρ.set i (some d)) := rfl
@[simp] theorem evI_lst {M : Sem} {k : Wk} {src : E} {ρ : DEnv} : evI M k src ρ = (evV M src ρ).bind fun ds ρ1 => match evWk k ds with
  | none => .stuck
  | some xs => .ok xs ρ1 := rfl
@[simp] theorem wk_lst (t : Tag) (xs : List D) : evWk .lst [.lst t xs] = some xs := rfl
@[simp] theorem wk_str (s : List Nat) : evWk .str [.str s] = some (s.map fun c => .str [c]) := rfl
theorem wk_rng1 {n : Int} (h0 : 0 ≤ n) (h : n < 1000000) : evWk .rng1 [.int n] = some ((List.range n.toNat).map fun (i : Nat) => D.int (i : Int)) := by
  show (if -(big : Int) < n ∧ n < (big : Int) then some _ else none) = _
  rw [if_pos ⟨by show (-(1000000 : Int)) < n; omega, h⟩]
/-- a loop over one name, whose turns go on, or end it by r -/
theorem for_fold {α σ : Type} (enc : α → D) (i : Nat) (body : DEnv → FR) (st : σ → Option D → DEnv) (f : σ → α → Except FR σ) (hset : ∀ s o x, (st s o).set i x = st s x) (hr : ∀ s a r, f s a = .error r → (∀ ρ, r ≠ .nx ρ) ∧ (∀ ρ, r ≠ .ct ρ) ∧ (∀ ρ, r ≠ .bk ρ)) :
    ∀ (as : List α), (∀ a ∈ as, ∀ s, body (st s (some (enc a))) = match f s a with | .ok s' => .nx (st s' (some (enc a))) | .error r => r) → ∀ s o, evFor (.nm i) body (as.map enc) (st s o) = match as.foldlM f s with | .ok s' => .nx (st s' none) | .error r => r
  | [], _, s, o => by
    show FR.nx (((st s o)).set i none) = FR.nx (st s none)
    rw [hset]
  | a :: as, h, s, o => by
    rw [List.map_cons]
    simp only [evFor, Tg.set, hset]
    rw [h a List.mem_cons_self s, List.foldlM_cons]
    cases e : f s a with
    | ok s' => exact for_fold enc i body st f hset hr as (fun b hb => h b (List.mem_cons_of_mem _ hb)) s' _
    | error r =>
      obtain ⟨h1, h2, h3⟩ := hr s a r e
      cases r with
      | nx ρ => exact absurd rfl (h1 ρ)
      | ct ρ => exact absurd rfl (h2 ρ)
      | bk ρ => exact absurd rfl (h3 ρ)
      | _ => rfl
/-- .. whose turns all go on -/
theorem for_pure {α σ : Type} (enc : α → D) (i : Nat) (body : DEnv → FR) (st : σ → Option D → DEnv) (f : σ → α → σ) (hset : ∀ s o x, (st s o).set i x = st s x) :
    ∀ (as : List α), (∀ a ∈ as, ∀ s, body (st s (some (enc a))) = .nx (st (f s a) (some (enc a)))) → ∀ s o, evFor (.nm i) body (as.map enc) (st s o) = .nx (st (as.foldl f s) none)
  | [], _, s, o => by
    show FR.nx (((st s o)).set i none) = FR.nx (st s none)
    rw [hset]
  | a :: as, h, s, o => by
    rw [List.map_cons]
    simp only [evFor, Tg.set, hset]
    rw [h a List.mem_cons_self s]
    exact for_pure enc i body st f hset as (fun b hb => h b (List.mem_cons_of_mem _ hb)) _ _
/-- a comprehension over one name -/
theorem turns_map {α : Type} (enc : α → D) (i : Nat) (body : DEnv → R (Option D)) (g : α → Option D) (ρ : DEnv) (hi : (ρ.set i none) = ρ) : ∀ (as : List α), (∀ a ∈ as, body (ρ.set i (some (enc a))) = .ok (g a) (ρ.set i (some (enc a)))) → ∀ acc,
    evTurns (.nm i) body (as.map enc) ρ acc = .ok (acc ++ as.filterMap g) ρ
  | [], _, acc => by simp [evTurns]
  | a :: as, h, acc => by
    rw [List.map_cons]
    simp only [evTurns, Tg.set]
    rw [h a List.mem_cons_self, R.bind_dem]
    have e : wipeE (ρ.set i (some (enc a))) (Tg.nm i).slots = ρ := by
      show (ρ.set i (some (enc a))).set i none = ρ
      rw [List.set_set, hi]
    rw [e, turns_map enc i body g ρ hi as fun b hb => h b (List.mem_cons_of_mem _ hb)]
    rw [List.filterMap_cons]
    cases g a <;> simp
end Sd

namespace K81
open PySem PySem.Spec PyProof.Rows L2 Sd
/-! codes of the defs, written by tr.py -/
abbrev top (i : Nat) : Stmt := PySem.Challenge.pw_stonelay_k81_texts_refused.main.body.getD i (.Pass ⟨0, 0, 0, 0⟩)
def exNames : List Str := ["StoneError", "NoBoard", "NoCount", "TooGreat", "NoLaying", "NoCell", "NoText", "NoRow", "NoNumber", "NoTable"]
def bltNames : List Str := ["ValueError", "all", "int", "isinstance", "len", "list", "range", "str"]
def globF : Nat → D
  | 0 => .int 8
  | 1 => .int 64
  | 2 => .str [48, 49, 50, 51, 52, 53, 54, 55, 56]
  | 3 => .str [48, 49, 50, 51, 52, 53, 54, 55, 56, 57]
  | 4 => .int 4
  | _ => .non
-- 0 check_rows (level 1)
abbrev st0 : Stmt := top 15
def N0 : List Str := ["rows", "signs", "row", "sign"]
def S0 : S := (.seq (.ife (.not (.chn true true (.cons (.int 1) (.cons (.op .len (.cons (.var 0) .nil)) .nil)) (.glob 0))) (.seq (.rai 1) .nil) .nil) (.seq (.forS .lst (.cons (.var 0) .nil) (.nm 2) (.seq (.ife (.or (.not (.chn true true (.cons (.int 1) (.cons (.op .len (.cons (.var 2) .nil)) .nil)) (.glob 0))) (.op .ne (.cons (.op .len (.cons (.var 2) .nil)) (.cons (.op .len (.cons (.op .idx (.cons (.var 0) (.cons (.int 0) .nil))) .nil)) .nil)))) (.seq (.rai 1) .nil) .nil) .nil)) (.seq (.forS .lst (.cons (.var 0) .nil) (.nm 2) (.seq (.ife (.not (.op .all (.cons (.lc .str (.cons (.var 2) .nil) (.nm 3) .nil (.op .isin (.cons (.var 3) (.cons (.var 1) .nil)))) .nil))) (.seq (.rai 1) .nil) .nil) .nil)) .nil)))
-- 1 board_of (level 2)
abbrev st1 : Stmt := top 16
def N1 : List Str := ["rows", "stones"]
def S1 : S := (.seq (.expr (.call 0 (.cons (.var 0) (.cons (.op .add (.cons (.glob 2) (.cons (.str [63, 35]) .nil))) .nil)))) (.seq (.ife (.not (.chn true true (.cons (.int 0) (.cons (.var 1) .nil)) (.glob 1))) (.seq (.rai 2) .nil) .nil) (.seq (.ret (.tup (.cons (.op .list (.cons (.var 0) .nil)) (.cons (.var 1) .nil)))) .nil)))
-- 2 is_number (level 1)
abbrev st2 : Stmt := top 20
def N2 : List Str := ["word", "sign"]
def S2 : S := (.seq (.ife (.or (.not (.chn true true (.cons (.int 1) (.cons (.op .len (.cons (.var 0) .nil)) .nil)) (.glob 4))) (.not (.op .all (.cons (.lc .str (.cons (.var 0) .nil) (.nm 1) .nil (.op .isin (.cons (.var 1) (.cons (.glob 3) .nil)))) .nil)))) (.seq (.ret (.bl false)) .nil) .nil) (.seq (.ret (.or (.op .ne (.cons (.op .idx (.cons (.var 0) (.cons (.int 0) .nil))) (.cons (.str [48]) .nil))) (.op .eq (.cons (.var 0) (.cons (.str [48]) .nil))))) .nil))
-- 3 read (level 3)
abbrev st3 : Stmt := top 21
def N3 : List Str := ["text", "pieces"]
def S3 : S := (.seq (.ife (.not (.isi .str (.cons (.var 0) .nil))) (.seq (.rai 6) .nil) .nil) (.seq (.set 1 (.me .str .split (.var 0) (.cons (.str [47]) .nil))) (.seq (.ife (.or (.op .lt (.cons (.op .len (.cons (.var 1) .nil)) (.cons (.int 2) .nil))) (.not (.call 2 (.cons (.op .idx (.cons (.var 1) (.cons (.int 0) .nil))) .nil)))) (.seq (.rai 6) .nil) .nil) (.seq (.ret (.call 1 (.cons (.op (.slc true false) (.cons (.var 1) (.cons (.int 1) .nil))) (.cons (.op .int (.cons (.op .idx (.cons (.var 1) (.cons (.int 0) .nil))) .nil)) .nil)))) .nil))))
-- 4 _law_cell_at (level 1)
abbrev st4 : Stmt := top 23
def N4 : List Str := ["_law_script", "_law_k"]
def S4 : S := (.seq (.ife (.op .lt (.cons (.var 1) (.cons (.op .len (.cons (.var 0) .nil)) .nil))) (.seq (.ret (.op .idx (.cons (.var 0) (.cons (.var 1) .nil)))) .nil) .nil) (.seq (.ret (.int 0)) .nil))
-- 5 _law_mixed (level 1)
abbrev st5 : Stmt := top 24
def N5 : List Str := ["_law_cell", "_law_k", "_law_drawn"]
def S5 : S := (.seq (.set 2 (.op .mod (.cons (.op .add (.cons (.op .add (.cons (.op .mod (.cons (.var 0) (.cons (.int 2147483629) .nil))) (.cons (.op .mul (.cons (.int 7919) (.cons (.var 1) .nil))) .nil))) (.cons (.int 11) .nil))) (.cons (.int 2147483647) .nil)))) (.seq (.set 2 (.op .mod (.cons (.op .mul (.cons (.op .mod (.cons (.op .mul (.cons (.var 2) (.cons (.var 2) .nil))) (.cons (.int 2147483647) .nil))) (.cons (.int 48271) .nil))) (.cons (.int 2147483587) .nil)))) (.seq (.ret (.op .fdiv (.cons (.op .mod (.cons (.op .mul (.cons (.var 2) (.cons (.op .add (.cons (.var 2) (.cons (.int 69621) .nil))) .nil))) (.cons (.int 2147483563) .nil))) (.cons (.int 8) .nil)))) .nil)))
-- 6 _law_rows (level 2)
abbrev st6 : Stmt := top 25
def N6 : List Str := ["_law_script", "_law_signs", "_law_high", "_law_wide", "_law_rows_here", "_law_row", "_law_own", "_law_text", "_law_column", "_law_place", "_law_drawn"]
def S6 : S := (.seq (.set 2 (.op .add (.cons (.int 1) (.cons (.op .mod (.cons (.call 4 (.cons (.var 0) (.cons (.int 0) .nil))) (.cons (.int 8) .nil))) .nil)))) (.seq (.set 3 (.op .add (.cons (.int 1) (.cons (.op .mod (.cons (.call 4 (.cons (.var 0) (.cons (.int 1) .nil))) (.cons (.int 8) .nil))) .nil)))) (.seq (.set 4 (.lst .nil)) (.seq (.forS .rng1 (.cons (.var 2) .nil) (.nm 5) (.seq (.set 6 (.call 4 (.cons (.var 0) (.cons (.op .add (.cons (.int 2) (.cons (.var 5) .nil))) .nil)))) (.seq (.set 7 (.str [])) (.seq (.forS .rng1 (.cons (.var 3) .nil) (.nm 8) (.seq (.set 9 (.op .add (.cons (.op .mul (.cons (.int 8) (.cons (.var 5) .nil))) (.cons (.var 8) .nil)))) (.seq (.set 10 (.call 5 (.cons (.call 4 (.cons (.var 0) (.cons (.op .add (.cons (.int 2) (.cons (.op .mod (.cons (.var 9) (.cons (.int 60) .nil))) .nil))) .nil))) (.cons (.var 9) .nil)))) (.seq (.ife (.op .eq (.cons (.op .mod (.cons (.op .fdiv (.cons (.call 4 (.cons (.var 0) (.cons (.int 0) .nil))) (.cons (.int 8) .nil))) (.cons (.int 2) .nil))) (.cons (.int 0) .nil))) (.seq (.set 10 (.var 6)) (.seq (.set 6 (.op .fdiv (.cons (.var 6) (.cons (.op .len (.cons (.var 1) .nil)) .nil)))) .nil)) .nil) (.seq (.set 7 (.op .add (.cons (.var 7) (.cons (.op .idx (.cons (.var 1) (.cons (.op .mod (.cons (.var 10) (.cons (.op .len (.cons (.var 1) .nil)) .nil))) .nil))) .nil)))) .nil))))) (.seq (.app 4 (.var 7)) .nil))))) (.seq (.ret (.var 4)) .nil)))))
-- 7 _law_spoiled (level 1)
abbrev st7 : Stmt := top 26
def N7 : List Str := ["_law_head", "_law_rows_here", "_law_bits", "_law_cell", "_law_text", "_law_at"]
def S7 : S := (.seq (.ife (.op .eq (.cons (.op .mod (.cons (.var 2) (.cons (.int 3) .nil))) (.cons (.int 1) .nil))) (.seq (.set 0 (.op .idx (.cons (.lst (.cons (.op .add (.cons (.str [48]) (.cons (.var 0) .nil))) (.cons (.op .add (.cons (.str [45]) (.cons (.var 0) .nil))) (.cons (.op .add (.cons (.str [43]) (.cons (.var 0) .nil))) (.cons (.op .add (.cons (.str [32]) (.cons (.var 0) .nil))) (.cons (.op .add (.cons (.var 0) (.cons (.str [32]) .nil))) (.cons (.str []) (.cons (.str [49, 48, 48, 48, 48]) (.cons (.op .add (.cons (.var 0) (.cons (.str [95, 48]) .nil))) .nil))))))))) (.cons (.op .mod (.cons (.var 3) (.cons (.int 8) .nil))) .nil)))) .nil) .nil) (.seq (.ife (.op .eq (.cons (.op .mod (.cons (.var 2) (.cons (.int 3) .nil))) (.cons (.int 2) .nil))) (.seq (.set 0 (.op .str (.cons (.op .add (.cons (.int 65) (.cons (.op .mod (.cons (.var 3) (.cons (.int 9935) .nil))) .nil))) .nil))) .nil) .nil) (.seq (.set 4 (.me .str .join (.str [47]) (.cons (.op .add (.cons (.lst (.cons (.var 0) .nil)) (.cons (.var 1) .nil))) .nil))) (.seq (.ife (.op .eq (.cons (.op .mod (.cons (.op .fdiv (.cons (.var 2) (.cons (.int 3) .nil))) (.cons (.int 6) .nil))) (.cons (.int 1) .nil))) (.seq (.ret (.op .add (.cons (.var 0) (.cons (.me .str .join (.str []) (.cons (.var 1) .nil)) .nil)))) .nil) .nil) (.seq (.ife (.op .eq (.cons (.op .mod (.cons (.op .fdiv (.cons (.var 2) (.cons (.int 3) .nil))) (.cons (.int 6) .nil))) (.cons (.int 2) .nil))) (.seq (.ret (.op .add (.cons (.var 4) (.cons (.str [47]) .nil)))) .nil) .nil) (.seq (.ife (.op .eq (.cons (.op .mod (.cons (.op .fdiv (.cons (.var 2) (.cons (.int 3) .nil))) (.cons (.int 6) .nil))) (.cons (.int 3) .nil))) (.seq (.ret (.me .str .repl (.var 4) (.cons (.str [47]) (.cons (.str [47, 47]) (.cons (.int 1) .nil))))) .nil) .nil) (.seq (.ife (.op .eq (.cons (.op .mod (.cons (.op .fdiv (.cons (.var 2) (.cons (.int 3) .nil))) (.cons (.int 6) .nil))) (.cons (.int 4) .nil))) (.seq (.set 5 (.op .mod (.cons (.op .fdiv (.cons (.var 3) (.cons (.int 8) .nil))) (.cons (.op .len (.cons (.var 4) .nil)) .nil)))) (.seq (.ret (.op .add (.cons (.op .add (.cons (.op (.slc false true) (.cons (.var 4) (.cons (.var 5) .nil))) (.cons (.op .idx (.cons (.lst (.cons (.str [57]) (.cons (.str [111]) (.cons (.str [32]) (.cons (.str [10]) (.cons (.str [46]) .nil)))))) (.cons (.op .mod (.cons (.op .fdiv (.cons (.var 3) (.cons (.int 640) .nil))) (.cons (.int 5) .nil))) .nil))) .nil))) (.cons (.op (.slc true false) (.cons (.var 4) (.cons (.op .add (.cons (.var 5) (.cons (.int 1) .nil))) .nil))) .nil)))) .nil)) .nil) (.seq (.ret (.var 4)) .nil))))))))
-- 8 _law_any (level 1)
abbrev st8 : Stmt := top 27
def N8 : List Str := ["_law_own", "_law_text", "_law_k"]
def S8 : S := (.seq (.set 1 (.str [])) (.seq (.forS .rng1 (.cons (.op .mod (.cons (.var 0) (.cons (.int 54) .nil))) .nil) (.nm 2) (.seq (.set 0 (.op .add (.cons (.op .mul (.cons (.op .fdiv (.cons (.var 0) (.cons (.int 54) .nil))) (.cons (.op .int (.cons (.op .eq (.cons (.var 2) (.cons (.int 0) .nil))) .nil)) .nil))) (.cons (.op .mul (.cons (.op .fdiv (.cons (.var 0) (.cons (.int 16) .nil))) (.cons (.op .int (.cons (.op .gt (.cons (.var 2) (.cons (.int 0) .nil))) .nil)) .nil))) .nil)))) (.seq (.set 1 (.op .add (.cons (.var 1) (.cons (.op .idx (.cons (.str [48, 49, 50, 51, 63, 35, 63, 47, 35, 52, 63, 53, 47, 56, 45, 57]) (.cons (.op .mod (.cons (.var 0) (.cons (.int 16) .nil))) .nil))) .nil)))) .nil))) (.seq (.ret (.var 1)) .nil)))
-- 9 _law_number (level 1)
abbrev st9 : Stmt := top 28
def N9 : List Str := ["_law_word", "_law_sign"]
def S9 : S := (.seq (.ife (.or (.op .lt (.cons (.op .len (.cons (.var 0) .nil)) (.cons (.int 1) .nil))) (.or (.op .gt (.cons (.op .len (.cons (.var 0) .nil)) (.cons (.int 4) .nil))) (.op .ne (.cons (.lc .str (.cons (.var 0) .nil) (.nm 1) (.op .notin (.cons (.var 1) (.cons (.str [48, 49, 50, 51, 52, 53, 54, 55, 56, 57]) .nil))) (.var 1)) (.cons (.lst .nil) .nil))))) (.seq (.ret (.bl false)) .nil) .nil) (.seq (.ret (.or (.op .eq (.cons (.var 0) (.cons (.str [48]) .nil))) (.op .ne (.cons (.op .idx (.cons (.var 0) (.cons (.int 0) .nil))) (.cons (.str [48]) .nil))))) .nil))
-- 10 _law_due (level 2)
abbrev st10 : Stmt := top 29
def N10 : List Str := ["_law_text", "_law_pieces", "_law_rows_here", "_law_row", "_law_sign"]
def S10 : S := (.seq (.set 1 (.me .str .split (.var 0) (.cons (.str [47]) .nil))) (.seq (.ife (.or (.op .lt (.cons (.op .len (.cons (.var 1) .nil)) (.cons (.int 2) .nil))) (.not (.call 9 (.cons (.op .idx (.cons (.var 1) (.cons (.int 0) .nil))) .nil)))) (.seq (.ret (.int 0)) .nil) .nil) (.seq (.set 2 (.op (.slc true false) (.cons (.var 1) (.cons (.int 1) .nil)))) (.seq (.ife (.op .gt (.cons (.op .len (.cons (.var 2) .nil)) (.cons (.int 8) .nil))) (.seq (.ret (.int 1)) .nil) .nil) (.seq (.forS .lst (.cons (.var 2) .nil) (.nm 3) (.seq (.ife (.or (.op .lt (.cons (.op .len (.cons (.var 3) .nil)) (.cons (.int 1) .nil))) (.or (.op .gt (.cons (.op .len (.cons (.var 3) .nil)) (.cons (.int 8) .nil))) (.op .ne (.cons (.op .len (.cons (.var 3) .nil)) (.cons (.op .len (.cons (.op .idx (.cons (.var 2) (.cons (.int 0) .nil))) .nil)) .nil))))) (.seq (.ret (.int 1)) .nil) .nil) (.seq (.ife (.op .ne (.cons (.lc .str (.cons (.var 3) .nil) (.nm 4) (.op .notin (.cons (.var 4) (.cons (.str [48, 49, 50, 51, 52, 53, 54, 55, 56, 63, 35]) .nil))) (.var 4)) (.cons (.lst .nil) .nil))) (.seq (.ret (.int 1)) .nil) .nil) .nil))) (.seq (.ife (.op .gt (.cons (.op .int (.cons (.op .idx (.cons (.var 1) (.cons (.int 0) .nil))) .nil)) (.cons (.int 64) .nil))) (.seq (.ret (.int 2)) .nil) .nil) (.seq (.ret (.op .neg (.cons (.int 1) .nil))) .nil)))))))
-- 11 _law_told (level 4)
abbrev st11 : Stmt := top 30
def N11 : List Str := ["_law_text", "_law_some", "_law_found", "e", "_law_k"]
def S11 : S := (.seq (.set 1 (.lst .nil)) (.seq (.set 2 .non) (.seq (.tryS 0 3 (.seq (.set 2 (.call 3 (.cons (.var 0) .nil))) .nil) (.seq (.set 1 (.lst (.cons (.isi (.exc 6) (.cons (.var 3) .nil)) (.cons (.isi (.exc 1) (.cons (.var 3) .nil)) (.cons (.isi (.exc 2) (.cons (.var 3) .nil)) (.cons (.isi (.exc 3) (.cons (.var 3) .nil)) .nil)))))) (.seq (.set 1 (.op .add (.cons (.var 1) (.cons (.lst (.cons (.isi (.exc 4) (.cons (.var 3) .nil)) (.cons (.isi (.exc 5) (.cons (.var 3) .nil)) (.cons (.isi (.exc 7) (.cons (.var 3) .nil)) (.cons (.isi (.exc 8) (.cons (.var 3) .nil)) .nil))))) .nil)))) (.seq (.set 1 (.op .add (.cons (.var 1) (.cons (.lst (.cons (.isi (.exc 9) (.cons (.var 3) .nil)) (.cons (.isi .verr (.cons (.var 3) .nil)) .nil))) .nil)))) .nil)))) (.seq (.ret (.tup (.cons (.var 2) (.cons (.lc .rng1 (.cons (.op .len (.cons (.var 1) .nil)) .nil) (.nm 4) (.op .idx (.cons (.var 1) (.cons (.var 4) .nil))) (.var 4)) .nil)))) .nil))))
-- 12 law (level 5)
abbrev st12 : Stmt := top 31
def N12 : List Str := ["_law_script", "_law_rows_here", "_law_bits", "_law_cell", "_law_text", "_law_due_here", "_law_turn", "_law_thing", "_law_found", "_law_some"]
def S12 : S := (.seq (.set 1 (.call 6 (.cons (.var 0) (.cons (.str [48, 49, 50, 51, 52, 53, 54, 55, 56, 63, 63, 35]) .nil)))) (.seq (.set 2 (.call 5 (.cons (.call 4 (.cons (.var 0) (.cons (.int 61) .nil))) (.cons (.int 7) .nil)))) (.seq (.set 3 (.op .mod (.cons (.call 4 (.cons (.var 0) (.cons (.int 62) .nil))) (.cons (.op .pow (.cons (.int 10) (.cons (.int 9) .nil))) .nil)))) (.seq (.set 4 (.call 7 (.cons (.op .str (.cons (.op .mod (.cons (.var 3) (.cons (.int 65) .nil))) .nil)) (.cons (.var 1) (.cons (.var 2) (.cons (.var 3) .nil)))))) (.seq (.ife (.op .eq (.cons (.op .mod (.cons (.op .fdiv (.cons (.var 2) (.cons (.int 18) .nil))) (.cons (.int 2) .nil))) (.cons (.int 1) .nil))) (.seq (.set 4 (.call 8 (.cons (.call 4 (.cons (.var 0) (.cons (.int 60) .nil))) .nil))) .nil) .nil) (.seq (.set 5 (.call 10 (.cons (.var 4) .nil))) (.seq (.forS .rng1 (.cons (.int 2) .nil) (.nm 6) (.seq (.setT (.tp [8, 9]) (.call 11 (.cons (.var 4) .nil))) (.seq (.ife (.and (.op .ge (.cons (.var 5) (.cons (.int 0) .nil))) (.or (.op .ne (.cons (.var 9) (.cons (.lst (.cons (.var 5) (.cons (.int 9) .nil))) .nil))) (.op .notN (.cons (.var 8) .nil)))) (.seq (.ret (.bl false)) .nil) .nil) (.seq (.ife (.and (.op .lt (.cons (.var 5) (.cons (.int 0) .nil))) (.or (.op .ne (.cons (.var 9) (.cons (.lst .nil) .nil))) (.op .ne (.cons (.var 8) (.cons (.tup (.cons (.op (.slc true false) (.cons (.me .str .split (.var 4) (.cons (.str [47]) .nil)) (.cons (.int 1) .nil))) (.cons (.op .int (.cons (.op .idx (.cons (.me .str .split (.var 4) (.cons (.str [47]) .nil)) (.cons (.int 0) .nil))) .nil)) .nil))) .nil))))) (.seq (.ret (.bl false)) .nil) .nil) .nil)))) (.seq (.forS .lst (.cons (.lst (.cons .non (.cons (.int 3) (.cons (.lst (.cons (.str [48]) (.cons (.str [63]) .nil))) (.cons (.tup (.cons (.str [48, 47, 63]) .nil)) (.cons (.bl true) .nil)))))) .nil) (.nm 7) (.seq (.ife (.op .ne (.cons (.call 11 (.cons (.var 7) .nil)) (.cons (.tup (.cons .non (.cons (.lst (.cons (.int 0) (.cons (.int 9) .nil))) .nil))) .nil))) (.seq (.ret (.bl false)) .nil) .nil) .nil)) (.seq (.ret (.bl true)) .nil)))))))))
def tab0 : Nat → List D → CR := fun _ _ => .stuck
def phi0 : List D → CR := phiOf exNames.length tab0 globF S0 N0
def tab2 : Nat → List D → CR := fun _ _ => .stuck
def phi2 : List D → CR := phiOf exNames.length tab2 globF S2 N2
def tab4 : Nat → List D → CR := fun _ _ => .stuck
def phi4 : List D → CR := phiOf exNames.length tab4 globF S4 N4
def tab5 : Nat → List D → CR := fun _ _ => .stuck
def phi5 : List D → CR := phiOf exNames.length tab5 globF S5 N5
def tab7 : Nat → List D → CR := fun _ _ => .stuck
def phi7 : List D → CR := phiOf exNames.length tab7 globF S7 N7
def tab8 : Nat → List D → CR := fun _ _ => .stuck
def phi8 : List D → CR := phiOf exNames.length tab8 globF S8 N8
def tab9 : Nat → List D → CR := fun _ _ => .stuck
def phi9 : List D → CR := phiOf exNames.length tab9 globF S9 N9
def tab1 : Nat → List D → CR
  | 0 => phi0
  | _ => fun _ => .stuck
def phi1 : List D → CR := phiOf exNames.length tab1 globF S1 N1
def tab6 : Nat → List D → CR
  | 4 => phi4
  | 5 => phi5
  | _ => fun _ => .stuck
def phi6 : List D → CR := phiOf exNames.length tab6 globF S6 N6
def tab10 : Nat → List D → CR
  | 9 => phi9
  | _ => fun _ => .stuck
def phi10 : List D → CR := phiOf exNames.length tab10 globF S10 N10
def tab3 : Nat → List D → CR
  | 1 => phi1
  | 2 => phi2
  | _ => fun _ => .stuck
def phi3 : List D → CR := phiOf exNames.length tab3 globF S3 N3
def tab11 : Nat → List D → CR
  | 3 => phi3
  | _ => fun _ => .stuck
def phi11 : List D → CR := phiOf exNames.length tab11 globF S11 N11
def tab12 : Nat → List D → CR
  | 4 => phi4
  | 5 => phi5
  | 6 => phi6
  | 7 => phi7
  | 8 => phi8
  | 10 => phi10
  | 11 => phi11
  | _ => fun _ => .stuck
def phi12 : List D → CR := phiOf exNames.length tab12 globF S12 N12
def phis : Nat → List D → CR
  | 0 => phi0
  | 1 => phi1
  | 2 => phi2
  | 3 => phi3
  | 4 => phi4
  | 5 => phi5
  | 6 => phi6
  | 7 => phi7
  | 8 => phi8
  | 9 => phi9
  | 10 => phi10
  | 11 => phi11
  | 12 => phi12
  | _ => fun _ => .stuck
theorem hphi0 (ds : List D) : phi0 ds = .stuck ∨ phi0 ds = (evS (semOf exNames.length phis globF) S0 (initE N0 ds)).cr := by
  have h : S0.calls = [] := by decide
  exact .inr (phi_in fun j hj => by rw [h] at hj; cases hj)
theorem hphi1 (ds : List D) : phi1 ds = .stuck ∨ phi1 ds = (evS (semOf exNames.length phis globF) S1 (initE N1 ds)).cr := by
  have h : ∀ j ∈ S1.calls, j ∈ ([0] : List Nat) := by decide
  refine .inr (phi_in fun j hj => ?_)
  have h2 := h j hj
  simp only [List.mem_cons, List.not_mem_nil, or_false] at h2
  rcases h2 with rfl <;> rfl
theorem hphi2 (ds : List D) : phi2 ds = .stuck ∨ phi2 ds = (evS (semOf exNames.length phis globF) S2 (initE N2 ds)).cr := by
  have h : S2.calls = [] := by decide
  exact .inr (phi_in fun j hj => by rw [h] at hj; cases hj)
theorem hphi3 (ds : List D) : phi3 ds = .stuck ∨ phi3 ds = (evS (semOf exNames.length phis globF) S3 (initE N3 ds)).cr := by
  have h : ∀ j ∈ S3.calls, j ∈ ([1, 2] : List Nat) := by decide
  refine .inr (phi_in fun j hj => ?_)
  have h2 := h j hj
  simp only [List.mem_cons, List.not_mem_nil, or_false] at h2
  rcases h2 with rfl | rfl <;> rfl
theorem hphi4 (ds : List D) : phi4 ds = .stuck ∨ phi4 ds = (evS (semOf exNames.length phis globF) S4 (initE N4 ds)).cr := by
  have h : S4.calls = [] := by decide
  exact .inr (phi_in fun j hj => by rw [h] at hj; cases hj)
theorem hphi5 (ds : List D) : phi5 ds = .stuck ∨ phi5 ds = (evS (semOf exNames.length phis globF) S5 (initE N5 ds)).cr := by
  have h : S5.calls = [] := by decide
  exact .inr (phi_in fun j hj => by rw [h] at hj; cases hj)
theorem hphi6 (ds : List D) : phi6 ds = .stuck ∨ phi6 ds = (evS (semOf exNames.length phis globF) S6 (initE N6 ds)).cr := by
  have h : ∀ j ∈ S6.calls, j ∈ ([4, 5] : List Nat) := by decide
  refine .inr (phi_in fun j hj => ?_)
  have h2 := h j hj
  simp only [List.mem_cons, List.not_mem_nil, or_false] at h2
  rcases h2 with rfl | rfl <;> rfl
theorem hphi7 (ds : List D) : phi7 ds = .stuck ∨ phi7 ds = (evS (semOf exNames.length phis globF) S7 (initE N7 ds)).cr := by
  have h : S7.calls = [] := by decide
  exact .inr (phi_in fun j hj => by rw [h] at hj; cases hj)
theorem hphi8 (ds : List D) : phi8 ds = .stuck ∨ phi8 ds = (evS (semOf exNames.length phis globF) S8 (initE N8 ds)).cr := by
  have h : S8.calls = [] := by decide
  exact .inr (phi_in fun j hj => by rw [h] at hj; cases hj)
theorem hphi9 (ds : List D) : phi9 ds = .stuck ∨ phi9 ds = (evS (semOf exNames.length phis globF) S9 (initE N9 ds)).cr := by
  have h : S9.calls = [] := by decide
  exact .inr (phi_in fun j hj => by rw [h] at hj; cases hj)
theorem hphi10 (ds : List D) : phi10 ds = .stuck ∨ phi10 ds = (evS (semOf exNames.length phis globF) S10 (initE N10 ds)).cr := by
  have h : ∀ j ∈ S10.calls, j ∈ ([9] : List Nat) := by decide
  refine .inr (phi_in fun j hj => ?_)
  have h2 := h j hj
  simp only [List.mem_cons, List.not_mem_nil, or_false] at h2
  rcases h2 with rfl <;> rfl
theorem hphi11 (ds : List D) : phi11 ds = .stuck ∨ phi11 ds = (evS (semOf exNames.length phis globF) S11 (initE N11 ds)).cr := by
  have h : ∀ j ∈ S11.calls, j ∈ ([3] : List Nat) := by decide
  refine .inr (phi_in fun j hj => ?_)
  have h2 := h j hj
  simp only [List.mem_cons, List.not_mem_nil, or_false] at h2
  rcases h2 with rfl <;> rfl
theorem hphi12 (ds : List D) : phi12 ds = .stuck ∨ phi12 ds = (evS (semOf exNames.length phis globF) S12 (initE N12 ds)).cr := by
  have h : ∀ j ∈ S12.calls, j ∈ ([4, 5, 6, 7, 8, 10, 11] : List Nat) := by decide
  refine .inr (phi_in fun j hj => ?_)
  have h2 := h j hj
  simp only [List.mem_cons, List.not_mem_nil, or_false] at h2
  rcases h2 with rfl | rfl | rfl | rfl | rfl | rfl | rfl <;> rfl
structure Ft [KLs] (g : SP0) : Prop where
  blt : ∀ x ∈ bltNames, g.mg x = none
  glob : ∀ i, g.M.glob i = globF i
  g0 : ∃ t, g.mg "MOST_ROWS" = some (.int 8 t)
  g1 : ∃ t, g.mg "MOST_STONES" = some (.int 64 t)
  g2 : ∃ t, g.mg "FIGURES_boards" = some (.str "012345678" t)
  g3 : ∃ t, g.mg "FIGURES_texts" = some (.str "0123456789" t)
  g4 : ∃ t, g.mg "MOST_FIGURES" = some (.int 4 t)
  e0 : ExF g 0 "StoneError"
  e1 : ExF g 1 "NoBoard"
  e2 : ExF g 2 "NoCount"
  e3 : ExF g 3 "TooGreat"
  e4 : ExF g 4 "NoLaying"
  e5 : ExF g 5 "NoCell"
  e6 : ExF g 6 "NoText"
  e7 : ExF g 7 "NoRow"
  e8 : ExF g 8 "NoNumber"
  e9 : ExF g 9 "NoTable"
  ve : VeF g
section
variable [KLs] {g : SP0} {W : L2.WX} {k : Nat}
theorem sc0 : FnScope N0 ["rows", "signs"] (defScope st0) := ⟨rfl, rfl, rfl, by decide +kernel, rfl, by decide +kernel, by decide +kernel⟩
theorem js0 (F : Ft g)  (hk : 0 ≤ k) : DSs (g.sg N0 (defScope st0) k W) (defBody st0) (evS g.M S0) :=
  (dss_cons (ds_if (dt_not (T_chn (p := true) (q := true) (da_cons (fun _ h => nomatch h) de_int rfl (da_cons (fun _ h => nomatch h) (E_len (F.blt _ (by decide +kernel)) (by kernel_rfl) (da_var (vis (by kernel_rfl)) da_nil)) rfl da_nil)) (de_glob (gint F.g0 (F.glob 0) (by kernel_rfl))))) (dss_cons (ds_rai rfl (raiN F.e1 (by kernel_rfl))) dss_nil) dss_nil) (dss_cons (ds_for rfl (di_list (de_var (vis (by kernel_rfl)))) (dg_name (sto (by kernel_rfl))) (dss_cons (ds_if (dt_bool (dw_or (dt_not (T_chn (p := true) (q := true) (da_cons (fun _ h => nomatch h) de_int rfl (da_cons (fun _ h => nomatch h) (E_len (F.blt _ (by decide +kernel)) (by kernel_rfl) (da_var (vis (by kernel_rfl)) da_nil)) rfl da_nil)) (de_glob (gint F.g0 (F.glob 0) (by kernel_rfl))))) (dw_or1 (T_ne rfl (da_cons (fun _ h => nomatch h) (E_len (F.blt _ (by decide +kernel)) (by kernel_rfl) (da_var (vis (by kernel_rfl)) da_nil)) rfl (da_cons (fun _ h => nomatch h) (E_len (F.blt _ (by decide +kernel)) (by kernel_rfl) (da_cons (fun _ h => nomatch h) (E_idx (fun _ _ => rfl) (da_var (vis (by kernel_rfl)) (da_cons (fun _ h => nomatch h) de_int rfl da_nil))) rfl da_nil)) rfl da_nil)))))) (dss_cons (ds_rai rfl (raiN F.e1 (by kernel_rfl))) dss_nil) dss_nil) dss_nil) rfl) (dss_cons (ds_for rfl (di_list (de_var (vis (by kernel_rfl)))) (dg_name (sto (by kernel_rfl))) (dss_cons (ds_if (dt_not (dt_truth rfl (E_all rfl (F.blt _ (by decide +kernel)) (by kernel_rfl) (da_cons (fun _ h => nomatch h) (E_lc rfl (BlkD.mk (own := [("sign", 3)]) (blk (by kernel_rfl)) rfl (dg_name (sto (by kernel_rfl))) (.inl ⟨rfl, rfl⟩) (E_in rfl (da_var (vis (by kernel_rfl)) (da_var (vis (by kernel_rfl)) da_nil)))) (di_str (de_var (vis (by kernel_rfl)))) rfl) rfl da_nil)))) (dss_cons (ds_rai rfl (raiN F.e1 (by kernel_rfl))) dss_nil) dss_nil) dss_nil) rfl) dss_nil)))
theorem sc1 : FnScope N1 ["rows", "stones"] (defScope st1) := ⟨rfl, rfl, rfl, by decide +kernel, rfl, by decide +kernel, by decide +kernel⟩
theorem js1 (F : Ft g) (c0 : Callee g 0 "check_rows" 2 1) (hk : 1 ≤ k) : DSs (g.sg N1 (defScope st1) k W) (defBody st1) (evS g.M S1) :=
  (dss_cons (ds_expr (E_call c0 (Nat.le_trans (by decide) hk) (by kernel_rfl) rfl (da_var (vis (by kernel_rfl)) (da_cons (fun _ h => nomatch h) (E_add (da_cons (fun _ h => nomatch h) (de_glob (gstr F.g2 (F.glob 2) (by kernel_rfl) (by decide +kernel) (by kernel_rfl))) rfl (da_cons (fun _ h => nomatch h) (de_str (by kernel_rfl) (by decide +kernel)) rfl da_nil))) rfl da_nil))) (fun _ _ => rfl)) (dss_cons (ds_if (dt_not (T_chn (p := true) (q := true) (da_cons (fun _ h => nomatch h) de_int rfl (da_var (vis (by kernel_rfl)) da_nil)) (de_glob (gint F.g1 (F.glob 1) (by kernel_rfl))))) (dss_cons (ds_rai rfl (raiN F.e2 (by kernel_rfl))) dss_nil) dss_nil) (dss_cons (ds_retE (fun _ h => nomatch h) (de_tup (by decide) (dv_cons (E_list (F.blt _ (by decide +kernel)) (by kernel_rfl) (da_var (vis (by kernel_rfl)) da_nil)) rfl (dv_cons (de_var (vis (by kernel_rfl))) rfl dv_nil)))) dss_nil)))
theorem sc2 : FnScope N2 ["word"] (defScope st2) := ⟨rfl, rfl, rfl, by decide +kernel, rfl, by decide +kernel, by decide +kernel⟩
theorem js2 (F : Ft g)  (hk : 0 ≤ k) : DSs (g.sg N2 (defScope st2) k W) (defBody st2) (evS g.M S2) :=
  (dss_cons (ds_if (dt_bool (dw_or (dt_not (T_chn (p := true) (q := true) (da_cons (fun _ h => nomatch h) de_int rfl (da_cons (fun _ h => nomatch h) (E_len (F.blt _ (by decide +kernel)) (by kernel_rfl) (da_var (vis (by kernel_rfl)) da_nil)) rfl da_nil)) (de_glob (gint F.g4 (F.glob 4) (by kernel_rfl))))) (dw_or1 (dt_not (dt_truth rfl (E_all rfl (F.blt _ (by decide +kernel)) (by kernel_rfl) (da_cons (fun _ h => nomatch h) (E_lc rfl (BlkD.mk (own := [("sign", 1)]) (blk (by kernel_rfl)) rfl (dg_name (sto (by kernel_rfl))) (.inl ⟨rfl, rfl⟩) (E_in rfl (da_var (vis (by kernel_rfl)) (da_cons (fun _ h => nomatch h) (de_glob (gstr F.g3 (F.glob 3) (by kernel_rfl) (by decide +kernel) (by kernel_rfl))) rfl da_nil)))) (di_str (de_var (vis (by kernel_rfl)))) rfl) rfl da_nil))))))) (dss_cons (ds_retE (fun _ h => nomatch h) de_bl) dss_nil) dss_nil) (dss_cons (ds_retE (fun _ h => nomatch h) (de_or (E_ne rfl (da_cons (fun _ h => nomatch h) (E_idx (fun _ _ => rfl) (da_var (vis (by kernel_rfl)) (da_cons (fun _ h => nomatch h) de_int rfl da_nil))) rfl (da_cons (fun _ h => nomatch h) (de_str (by kernel_rfl) (by decide +kernel)) rfl da_nil))) (de_bool1 (E_eq rfl (da_var (vis (by kernel_rfl)) (da_cons (fun _ h => nomatch h) (de_str (by kernel_rfl) (by decide +kernel)) rfl da_nil)))))) dss_nil))
theorem sc3 : FnScope N3 ["text"] (defScope st3) := ⟨rfl, rfl, rfl, by decide +kernel, rfl, by decide +kernel, by decide +kernel⟩
theorem js3 (F : Ft g) (c1 : Callee g 1 "board_of" 2 2) (c2 : Callee g 2 "is_number" 1 1) (hk : 2 ≤ k) : DSs (g.sg N3 (defScope st3) k W) (defBody st3) (evS g.M S3) :=
  (dss_cons (ds_if (dt_not (dt_truth rfl (E_isT (n := "str") rfl (by kernel_rfl) (F.blt _ (by decide +kernel)) (F.blt _ (by decide +kernel)) (by kernel_rfl) (by kernel_rfl) (da_var (vis (by kernel_rfl)) da_nil)))) (dss_cons (ds_rai rfl (raiN F.e6 (by kernel_rfl))) dss_nil) dss_nil) (dss_cons (ds_setP (sto (by kernel_rfl)) (E_split_v (vis (by kernel_rfl)) rfl (da_cons (fun _ h => nomatch h) (de_str (by kernel_rfl) (by decide +kernel)) rfl da_nil)) (fun _ => rfl)) (dss_cons (ds_if (dt_bool (dw_or (T_lt rfl (da_cons (fun _ h => nomatch h) (E_len (F.blt _ (by decide +kernel)) (by kernel_rfl) (da_var (vis (by kernel_rfl)) da_nil)) rfl (da_cons (fun _ h => nomatch h) de_int rfl da_nil))) (dw_or1 (dt_not (dt_truth rfl (E_call c2 (Nat.le_trans (by decide) hk) (by kernel_rfl) rfl (da_cons (fun _ h => nomatch h) (E_idx (fun _ _ => rfl) (da_var (vis (by kernel_rfl)) (da_cons (fun _ h => nomatch h) de_int rfl da_nil))) rfl da_nil))))))) (dss_cons (ds_rai rfl (raiN F.e6 (by kernel_rfl))) dss_nil) dss_nil) (dss_cons (ds_retE (fun _ h => nomatch h) (E_call c1 (Nat.le_trans (by decide) hk) (by kernel_rfl) rfl (da_cons (fun _ h => nomatch h) (de_slc (by intro _ _ h; cases h) (da_var (vis (by kernel_rfl)) (da_cons (fun _ h => nomatch h) de_int rfl da_nil))) rfl (da_cons (fun _ h => nomatch h) (E_int (F.blt _ (by decide +kernel)) (by kernel_rfl) (da_cons (fun _ h => nomatch h) (E_idx (fun _ _ => rfl) (da_var (vis (by kernel_rfl)) (da_cons (fun _ h => nomatch h) de_int rfl da_nil))) rfl da_nil)) rfl da_nil)))) dss_nil))))
theorem sc4 : FnScope N4 ["_law_script", "_law_k"] (defScope st4) := ⟨rfl, rfl, rfl, by decide +kernel, rfl, by decide +kernel, by decide +kernel⟩
theorem js4 (F : Ft g)  (hk : 0 ≤ k) : DSs (g.sg N4 (defScope st4) k W) (defBody st4) (evS g.M S4) :=
  (dss_cons (ds_if (T_lt rfl (da_var (vis (by kernel_rfl)) (da_cons (fun _ h => nomatch h) (E_len (F.blt _ (by decide +kernel)) (by kernel_rfl) (da_var (vis (by kernel_rfl)) da_nil)) rfl da_nil))) (dss_cons (ds_retE (fun _ h => nomatch h) (E_idx (fun _ _ => rfl) (da_var (vis (by kernel_rfl)) (da_var (vis (by kernel_rfl)) da_nil)))) dss_nil) dss_nil) (dss_cons (ds_retE (fun _ h => nomatch h) de_int) dss_nil))
theorem sc5 : FnScope N5 ["_law_cell", "_law_k"] (defScope st5) := ⟨rfl, rfl, rfl, by decide +kernel, rfl, by decide +kernel, by decide +kernel⟩
theorem js5 (F : Ft g)  (hk : 0 ≤ k) : DSs (g.sg N5 (defScope st5) k W) (defBody st5) (evS g.M S5) :=
  (dss_cons (ds_setP (sto (by kernel_rfl)) (E_mod (da_cons (fun _ h => nomatch h) (E_add (da_cons (fun _ h => nomatch h) (E_add (da_cons (fun _ h => nomatch h) (E_mod (da_var (vis (by kernel_rfl)) (da_cons (fun _ h => nomatch h) de_int rfl da_nil))) rfl (da_cons (fun _ h => nomatch h) (E_mul (da_cons (fun _ h => nomatch h) de_int rfl (da_var (vis (by kernel_rfl)) da_nil))) rfl da_nil))) rfl (da_cons (fun _ h => nomatch h) de_int rfl da_nil))) rfl (da_cons (fun _ h => nomatch h) de_int rfl da_nil))) (fun _ => rfl)) (dss_cons (ds_setP (sto (by kernel_rfl)) (E_mod (da_cons (fun _ h => nomatch h) (E_mul (da_cons (fun _ h => nomatch h) (E_mod (da_cons (fun _ h => nomatch h) (E_mul (da_var (vis (by kernel_rfl)) (da_var (vis (by kernel_rfl)) da_nil))) rfl (da_cons (fun _ h => nomatch h) de_int rfl da_nil))) rfl (da_cons (fun _ h => nomatch h) de_int rfl da_nil))) rfl (da_cons (fun _ h => nomatch h) de_int rfl da_nil))) (fun _ => rfl)) (dss_cons (ds_retE (fun _ h => nomatch h) (E_fdiv (da_cons (fun _ h => nomatch h) (E_mod (da_cons (fun _ h => nomatch h) (E_mul (da_var (vis (by kernel_rfl)) (da_cons (fun _ h => nomatch h) (E_add (da_var (vis (by kernel_rfl)) (da_cons (fun _ h => nomatch h) de_int rfl da_nil))) rfl da_nil))) rfl (da_cons (fun _ h => nomatch h) de_int rfl da_nil))) rfl (da_cons (fun _ h => nomatch h) de_int rfl da_nil)))) dss_nil)))
theorem sc6 : FnScope N6 ["_law_script", "_law_signs"] (defScope st6) := ⟨rfl, rfl, rfl, by decide +kernel, rfl, by decide +kernel, by decide +kernel⟩
theorem js6 (F : Ft g) (c4 : Callee g 4 "_law_cell_at" 2 1) (c5 : Callee g 5 "_law_mixed" 2 1) (hk : 1 ≤ k) : DSs (g.sg N6 (defScope st6) k W) (defBody st6) (evS g.M S6) :=
  (dss_cons (ds_setP (sto (by kernel_rfl)) (E_add (da_cons (fun _ h => nomatch h) de_int rfl (da_cons (fun _ h => nomatch h) (E_mod (da_cons (fun _ h => nomatch h) (E_call c4 (Nat.le_trans (by decide) hk) (by kernel_rfl) rfl (da_var (vis (by kernel_rfl)) (da_cons (fun _ h => nomatch h) de_int rfl da_nil))) rfl (da_cons (fun _ h => nomatch h) de_int rfl da_nil))) rfl da_nil))) (fun _ => rfl)) (dss_cons (ds_setP (sto (by kernel_rfl)) (E_add (da_cons (fun _ h => nomatch h) de_int rfl (da_cons (fun _ h => nomatch h) (E_mod (da_cons (fun _ h => nomatch h) (E_call c4 (Nat.le_trans (by decide) hk) (by kernel_rfl) rfl (da_var (vis (by kernel_rfl)) (da_cons (fun _ h => nomatch h) de_int rfl da_nil))) rfl (da_cons (fun _ h => nomatch h) de_int rfl da_nil))) rfl da_nil))) (fun _ => rfl)) (dss_cons (ds_setP (sto (by kernel_rfl)) (de_lst (by decide) dv_nil) (fun _ => rfl)) (dss_cons (ds_for rfl (di_rng1 (blt (F.blt _ (by decide +kernel)) boot_range (by kernel_rfl)) rfl (de_var (vis (by kernel_rfl)))) (dg_name (sto (by kernel_rfl))) (dss_cons (ds_setP (sto (by kernel_rfl)) (E_call c4 (Nat.le_trans (by decide) hk) (by kernel_rfl) rfl (da_var (vis (by kernel_rfl)) (da_cons (fun _ h => nomatch h) (E_add (da_cons (fun _ h => nomatch h) de_int rfl (da_var (vis (by kernel_rfl)) da_nil))) rfl da_nil))) (fun _ => rfl)) (dss_cons (ds_setP (sto (by kernel_rfl)) (de_str (by kernel_rfl) (by decide +kernel)) (fun _ => rfl)) (dss_cons (ds_for rfl (di_rng1 (blt (F.blt _ (by decide +kernel)) boot_range (by kernel_rfl)) rfl (de_var (vis (by kernel_rfl)))) (dg_name (sto (by kernel_rfl))) (dss_cons (ds_setP (sto (by kernel_rfl)) (E_add (da_cons (fun _ h => nomatch h) (E_mul (da_cons (fun _ h => nomatch h) de_int rfl (da_var (vis (by kernel_rfl)) da_nil))) rfl (da_var (vis (by kernel_rfl)) da_nil))) (fun _ => rfl)) (dss_cons (ds_setP (sto (by kernel_rfl)) (E_call c5 (Nat.le_trans (by decide) hk) (by kernel_rfl) rfl (da_cons (fun _ h => nomatch h) (E_call c4 (Nat.le_trans (by decide) hk) (by kernel_rfl) rfl (da_var (vis (by kernel_rfl)) (da_cons (fun _ h => nomatch h) (E_add (da_cons (fun _ h => nomatch h) de_int rfl (da_cons (fun _ h => nomatch h) (E_mod (da_var (vis (by kernel_rfl)) (da_cons (fun _ h => nomatch h) de_int rfl da_nil))) rfl da_nil))) rfl da_nil))) rfl (da_var (vis (by kernel_rfl)) da_nil))) (fun _ => rfl)) (dss_cons (ds_if (T_eq rfl (da_cons (fun _ h => nomatch h) (E_mod (da_cons (fun _ h => nomatch h) (E_fdiv (da_cons (fun _ h => nomatch h) (E_call c4 (Nat.le_trans (by decide) hk) (by kernel_rfl) rfl (da_var (vis (by kernel_rfl)) (da_cons (fun _ h => nomatch h) de_int rfl da_nil))) rfl (da_cons (fun _ h => nomatch h) de_int rfl da_nil))) rfl (da_cons (fun _ h => nomatch h) de_int rfl da_nil))) rfl (da_cons (fun _ h => nomatch h) de_int rfl da_nil))) (dss_cons (ds_setP (sto (by kernel_rfl)) (de_var (vis (by kernel_rfl))) (fun _ => rfl)) (dss_cons (ds_setP (sto (by kernel_rfl)) (E_fdiv (da_var (vis (by kernel_rfl)) (da_cons (fun _ h => nomatch h) (E_len (F.blt _ (by decide +kernel)) (by kernel_rfl) (da_var (vis (by kernel_rfl)) da_nil)) rfl da_nil))) (fun _ => rfl)) dss_nil)) dss_nil) (dss_cons (ds_setP (sto (by kernel_rfl)) (E_add (da_var (vis (by kernel_rfl)) (da_cons (fun _ h => nomatch h) (E_idx (fun _ _ => rfl) (da_var (vis (by kernel_rfl)) (da_cons (fun _ h => nomatch h) (E_mod (da_var (vis (by kernel_rfl)) (da_cons (fun _ h => nomatch h) (E_len (F.blt _ (by decide +kernel)) (by kernel_rfl) (da_var (vis (by kernel_rfl)) da_nil)) rfl da_nil))) rfl da_nil))) rfl da_nil))) (fun _ => rfl)) dss_nil)))) rfl) (dss_cons (ds_app (vis (by kernel_rfl)) (de_var (vis (by kernel_rfl))) rfl rfl) dss_nil)))) rfl) (dss_cons (ds_retV (vis (by kernel_rfl))) dss_nil)))))
theorem sc7 : FnScope N7 ["_law_head", "_law_rows_here", "_law_bits", "_law_cell"] (defScope st7) := ⟨rfl, rfl, rfl, by decide +kernel, rfl, by decide +kernel, by decide +kernel⟩
theorem js7 (F : Ft g)  (hk : 0 ≤ k) : DSsT (g.sg N7 (defScope st7) k W) (defBody st7) (evS g.M S7) :=
  (dsst_cons (dst_of (ds_if (T_eq rfl (da_cons (fun _ h => nomatch h) (E_mod (da_var (vis (by kernel_rfl)) (da_cons (fun _ h => nomatch h) de_int rfl da_nil))) rfl (da_cons (fun _ h => nomatch h) de_int rfl da_nil))) (dss_cons (ds_setP (sto (by kernel_rfl)) (E_idx (fun _ _ => rfl) (da_cons (fun _ h => nomatch h) (de_lst (by decide) (dv_cons (E_add (da_cons (fun _ h => nomatch h) (de_str (by kernel_rfl) (by decide +kernel)) rfl (da_var (vis (by kernel_rfl)) da_nil))) rfl (dv_cons (E_add (da_cons (fun _ h => nomatch h) (de_str (by kernel_rfl) (by decide +kernel)) rfl (da_var (vis (by kernel_rfl)) da_nil))) rfl (dv_cons (E_add (da_cons (fun _ h => nomatch h) (de_str (by kernel_rfl) (by decide +kernel)) rfl (da_var (vis (by kernel_rfl)) da_nil))) rfl (dv_cons (E_add (da_cons (fun _ h => nomatch h) (de_str (by kernel_rfl) (by decide +kernel)) rfl (da_var (vis (by kernel_rfl)) da_nil))) rfl (dv_cons (E_add (da_var (vis (by kernel_rfl)) (da_cons (fun _ h => nomatch h) (de_str (by kernel_rfl) (by decide +kernel)) rfl da_nil))) rfl (dv_cons (de_str (by kernel_rfl) (by decide +kernel)) rfl (dv_cons (de_str (by kernel_rfl) (by decide +kernel)) rfl (dv_cons (E_add (da_var (vis (by kernel_rfl)) (da_cons (fun _ h => nomatch h) (de_str (by kernel_rfl) (by decide +kernel)) rfl da_nil))) rfl dv_nil))))))))) rfl (da_cons (fun _ h => nomatch h) (E_mod (da_var (vis (by kernel_rfl)) (da_cons (fun _ h => nomatch h) de_int rfl da_nil))) rfl da_nil))) (fun _ => rfl)) dss_nil) dss_nil)) (dsst_cons (dst_of (ds_if (T_eq rfl (da_cons (fun _ h => nomatch h) (E_mod (da_var (vis (by kernel_rfl)) (da_cons (fun _ h => nomatch h) de_int rfl da_nil))) rfl (da_cons (fun _ h => nomatch h) de_int rfl da_nil))) (dss_cons (ds_setP (sto (by kernel_rfl)) (E_str (F.blt _ (by decide +kernel)) (by kernel_rfl) (da_cons (fun _ h => nomatch h) (E_add (da_cons (fun _ h => nomatch h) de_int rfl (da_cons (fun _ h => nomatch h) (E_mod (da_var (vis (by kernel_rfl)) (da_cons (fun _ h => nomatch h) de_int rfl da_nil))) rfl da_nil))) rfl da_nil)) (fun _ => rfl)) dss_nil) dss_nil)) (dsst_cons (dst_of (ds_setP (sto (by kernel_rfl)) (E_join_e (fun _ h => nomatch h) (de_str (by kernel_rfl) (by decide +kernel)) rfl rfl (da_cons (fun _ h => nomatch h) (E_add (da_cons (fun _ h => nomatch h) (de_lst (by decide) (dv_cons (de_var (vis (by kernel_rfl))) rfl dv_nil)) rfl (da_var (vis (by kernel_rfl)) da_nil))) rfl da_nil)) (fun _ => rfl))) (dsst_cons (dst_of (ds_if (T_eq rfl (da_cons (fun _ h => nomatch h) (E_mod (da_cons (fun _ h => nomatch h) (E_fdiv (da_var (vis (by kernel_rfl)) (da_cons (fun _ h => nomatch h) de_int rfl da_nil))) rfl (da_cons (fun _ h => nomatch h) de_int rfl da_nil))) rfl (da_cons (fun _ h => nomatch h) de_int rfl da_nil))) (dss_cons (ds_retE (fun _ h => nomatch h) (E_add (da_var (vis (by kernel_rfl)) (da_cons (fun _ h => nomatch h) (E_join_e (fun _ h => nomatch h) (de_str (by kernel_rfl) (by decide +kernel)) rfl rfl (da_var (vis (by kernel_rfl)) da_nil)) rfl da_nil)))) dss_nil) dss_nil)) (dsst_cons (dst_of (ds_if (T_eq rfl (da_cons (fun _ h => nomatch h) (E_mod (da_cons (fun _ h => nomatch h) (E_fdiv (da_var (vis (by kernel_rfl)) (da_cons (fun _ h => nomatch h) de_int rfl da_nil))) rfl (da_cons (fun _ h => nomatch h) de_int rfl da_nil))) rfl (da_cons (fun _ h => nomatch h) de_int rfl da_nil))) (dss_cons (ds_retE (fun _ h => nomatch h) (E_add (da_var (vis (by kernel_rfl)) (da_cons (fun _ h => nomatch h) (de_str (by kernel_rfl) (by decide +kernel)) rfl da_nil)))) dss_nil) dss_nil)) (dsst_cons (dst_if (T_eq rfl (da_cons (fun _ h => nomatch h) (E_mod (da_cons (fun _ h => nomatch h) (E_fdiv (da_var (vis (by kernel_rfl)) (da_cons (fun _ h => nomatch h) de_int rfl da_nil))) rfl (da_cons (fun _ h => nomatch h) de_int rfl da_nil))) rfl (da_cons (fun _ h => nomatch h) de_int rfl da_nil))) (dsst_cons (dst_retE (fun _ h => nomatch h) (det_repl1 (vis (by kernel_rfl)) (by kernel_rfl) (by kernel_rfl) (by kernel_rfl) rfl)) (dsst_of dss_nil)) (dsst_of dss_nil)) (dsst_cons (dst_of (ds_if (T_eq rfl (da_cons (fun _ h => nomatch h) (E_mod (da_cons (fun _ h => nomatch h) (E_fdiv (da_var (vis (by kernel_rfl)) (da_cons (fun _ h => nomatch h) de_int rfl da_nil))) rfl (da_cons (fun _ h => nomatch h) de_int rfl da_nil))) rfl (da_cons (fun _ h => nomatch h) de_int rfl da_nil))) (dss_cons (ds_setP (sto (by kernel_rfl)) (E_mod (da_cons (fun _ h => nomatch h) (E_fdiv (da_var (vis (by kernel_rfl)) (da_cons (fun _ h => nomatch h) de_int rfl da_nil))) rfl (da_cons (fun _ h => nomatch h) (E_len (F.blt _ (by decide +kernel)) (by kernel_rfl) (da_var (vis (by kernel_rfl)) da_nil)) rfl da_nil))) (fun _ => rfl)) (dss_cons (ds_retE (fun _ h => nomatch h) (E_add (da_cons (fun _ h => nomatch h) (E_add (da_cons (fun _ h => nomatch h) (de_slc (by intro _ _ h; cases h) (da_var (vis (by kernel_rfl)) (da_var (vis (by kernel_rfl)) da_nil))) rfl (da_cons (fun _ h => nomatch h) (E_idx (fun _ _ => rfl) (da_cons (fun _ h => nomatch h) (de_lst (by decide) (dv_cons (de_str (by kernel_rfl) (by decide +kernel)) rfl (dv_cons (de_str (by kernel_rfl) (by decide +kernel)) rfl (dv_cons (de_str (by kernel_rfl) (by decide +kernel)) rfl (dv_cons (de_str (by kernel_rfl) (by decide +kernel)) rfl (dv_cons (de_str (by kernel_rfl) (by decide +kernel)) rfl dv_nil)))))) rfl (da_cons (fun _ h => nomatch h) (E_mod (da_cons (fun _ h => nomatch h) (E_fdiv (da_var (vis (by kernel_rfl)) (da_cons (fun _ h => nomatch h) de_int rfl da_nil))) rfl (da_cons (fun _ h => nomatch h) de_int rfl da_nil))) rfl da_nil))) rfl da_nil))) rfl (da_cons (fun _ h => nomatch h) (de_slc (by intro _ _ h; cases h) (da_var (vis (by kernel_rfl)) (da_cons (fun _ h => nomatch h) (E_add (da_var (vis (by kernel_rfl)) (da_cons (fun _ h => nomatch h) de_int rfl da_nil))) rfl da_nil))) rfl da_nil)))) dss_nil)) dss_nil)) (dsst_cons (dst_of (ds_retV (vis (by kernel_rfl)))) (dsst_of dss_nil)))))))))
theorem sc8 : FnScope N8 ["_law_own"] (defScope st8) := ⟨rfl, rfl, rfl, by decide +kernel, rfl, by decide +kernel, by decide +kernel⟩
theorem js8 (F : Ft g)  (hk : 0 ≤ k) : DSs (g.sg N8 (defScope st8) k W) (defBody st8) (evS g.M S8) :=
  (dss_cons (ds_setP (sto (by kernel_rfl)) (de_str (by kernel_rfl) (by decide +kernel)) (fun _ => rfl)) (dss_cons (ds_for rfl (di_rng1 (blt (F.blt _ (by decide +kernel)) boot_range (by kernel_rfl)) rfl (E_mod (da_var (vis (by kernel_rfl)) (da_cons (fun _ h => nomatch h) de_int rfl da_nil)))) (dg_name (sto (by kernel_rfl))) (dss_cons (ds_setP (sto (by kernel_rfl)) (E_add (da_cons (fun _ h => nomatch h) (E_mul (da_cons (fun _ h => nomatch h) (E_fdiv (da_var (vis (by kernel_rfl)) (da_cons (fun _ h => nomatch h) de_int rfl da_nil))) rfl (da_cons (fun _ h => nomatch h) (E_int (F.blt _ (by decide +kernel)) (by kernel_rfl) (da_cons (fun _ h => nomatch h) (E_eq rfl (da_var (vis (by kernel_rfl)) (da_cons (fun _ h => nomatch h) de_int rfl da_nil))) rfl da_nil)) rfl da_nil))) rfl (da_cons (fun _ h => nomatch h) (E_mul (da_cons (fun _ h => nomatch h) (E_fdiv (da_var (vis (by kernel_rfl)) (da_cons (fun _ h => nomatch h) de_int rfl da_nil))) rfl (da_cons (fun _ h => nomatch h) (E_int (F.blt _ (by decide +kernel)) (by kernel_rfl) (da_cons (fun _ h => nomatch h) (E_gt rfl (da_var (vis (by kernel_rfl)) (da_cons (fun _ h => nomatch h) de_int rfl da_nil))) rfl da_nil)) rfl da_nil))) rfl da_nil))) (fun _ => rfl)) (dss_cons (ds_setP (sto (by kernel_rfl)) (E_add (da_var (vis (by kernel_rfl)) (da_cons (fun _ h => nomatch h) (E_idx (fun _ _ => rfl) (da_cons (fun _ h => nomatch h) (de_str (by kernel_rfl) (by decide +kernel)) rfl (da_cons (fun _ h => nomatch h) (E_mod (da_var (vis (by kernel_rfl)) (da_cons (fun _ h => nomatch h) de_int rfl da_nil))) rfl da_nil))) rfl da_nil))) (fun _ => rfl)) dss_nil)) rfl) (dss_cons (ds_retV (vis (by kernel_rfl))) dss_nil)))
theorem sc9 : FnScope N9 ["_law_word"] (defScope st9) := ⟨rfl, rfl, rfl, by decide +kernel, rfl, by decide +kernel, by decide +kernel⟩
theorem js9 (F : Ft g)  (hk : 0 ≤ k) : DSs (g.sg N9 (defScope st9) k W) (defBody st9) (evS g.M S9) :=
  (dss_cons (ds_if (dt_bool (dw_or (T_lt rfl (da_cons (fun _ h => nomatch h) (E_len (F.blt _ (by decide +kernel)) (by kernel_rfl) (da_var (vis (by kernel_rfl)) da_nil)) rfl (da_cons (fun _ h => nomatch h) de_int rfl da_nil))) (dw_or (T_gt rfl (da_cons (fun _ h => nomatch h) (E_len (F.blt _ (by decide +kernel)) (by kernel_rfl) (da_var (vis (by kernel_rfl)) da_nil)) rfl (da_cons (fun _ h => nomatch h) de_int rfl da_nil))) (dw_or1 (T_ne rfl (da_cons (fun _ h => nomatch h) (E_lc rfl (BlkD.mk (own := [("_law_sign", 1)]) (blk (by kernel_rfl)) rfl (dg_name (sto (by kernel_rfl))) (.inr ⟨_, rfl, rfl, (T_notin rfl (da_var (vis (by kernel_rfl)) (da_cons (fun _ h => nomatch h) (de_str (by kernel_rfl) (by decide +kernel)) rfl da_nil)))⟩) (de_var (vis (by kernel_rfl)))) (di_str (de_var (vis (by kernel_rfl)))) rfl) rfl (da_cons (fun _ h => nomatch h) (de_lst (by decide) dv_nil) rfl da_nil))))))) (dss_cons (ds_retE (fun _ h => nomatch h) de_bl) dss_nil) dss_nil) (dss_cons (ds_retE (fun _ h => nomatch h) (de_or (E_eq rfl (da_var (vis (by kernel_rfl)) (da_cons (fun _ h => nomatch h) (de_str (by kernel_rfl) (by decide +kernel)) rfl da_nil))) (de_bool1 (E_ne rfl (da_cons (fun _ h => nomatch h) (E_idx (fun _ _ => rfl) (da_var (vis (by kernel_rfl)) (da_cons (fun _ h => nomatch h) de_int rfl da_nil))) rfl (da_cons (fun _ h => nomatch h) (de_str (by kernel_rfl) (by decide +kernel)) rfl da_nil)))))) dss_nil))
theorem sc10 : FnScope N10 ["_law_text"] (defScope st10) := ⟨rfl, rfl, rfl, by decide +kernel, rfl, by decide +kernel, by decide +kernel⟩
theorem js10 (F : Ft g) (c9 : Callee g 9 "_law_number" 1 1) (hk : 1 ≤ k) : DSs (g.sg N10 (defScope st10) k W) (defBody st10) (evS g.M S10) :=
  (dss_cons (ds_setP (sto (by kernel_rfl)) (E_split_v (vis (by kernel_rfl)) rfl (da_cons (fun _ h => nomatch h) (de_str (by kernel_rfl) (by decide +kernel)) rfl da_nil)) (fun _ => rfl)) (dss_cons (ds_if (dt_bool (dw_or (T_lt rfl (da_cons (fun _ h => nomatch h) (E_len (F.blt _ (by decide +kernel)) (by kernel_rfl) (da_var (vis (by kernel_rfl)) da_nil)) rfl (da_cons (fun _ h => nomatch h) de_int rfl da_nil))) (dw_or1 (dt_not (dt_truth rfl (E_call c9 (Nat.le_trans (by decide) hk) (by kernel_rfl) rfl (da_cons (fun _ h => nomatch h) (E_idx (fun _ _ => rfl) (da_var (vis (by kernel_rfl)) (da_cons (fun _ h => nomatch h) de_int rfl da_nil))) rfl da_nil))))))) (dss_cons (ds_retE (fun _ h => nomatch h) de_int) dss_nil) dss_nil) (dss_cons (ds_setP (sto (by kernel_rfl)) (de_slc (by intro _ _ h; cases h) (da_var (vis (by kernel_rfl)) (da_cons (fun _ h => nomatch h) de_int rfl da_nil))) (fun _ => rfl)) (dss_cons (ds_if (T_gt rfl (da_cons (fun _ h => nomatch h) (E_len (F.blt _ (by decide +kernel)) (by kernel_rfl) (da_var (vis (by kernel_rfl)) da_nil)) rfl (da_cons (fun _ h => nomatch h) de_int rfl da_nil))) (dss_cons (ds_retE (fun _ h => nomatch h) de_int) dss_nil) dss_nil) (dss_cons (ds_for rfl (di_list (de_var (vis (by kernel_rfl)))) (dg_name (sto (by kernel_rfl))) (dss_cons (ds_if (dt_bool (dw_or (T_lt rfl (da_cons (fun _ h => nomatch h) (E_len (F.blt _ (by decide +kernel)) (by kernel_rfl) (da_var (vis (by kernel_rfl)) da_nil)) rfl (da_cons (fun _ h => nomatch h) de_int rfl da_nil))) (dw_or (T_gt rfl (da_cons (fun _ h => nomatch h) (E_len (F.blt _ (by decide +kernel)) (by kernel_rfl) (da_var (vis (by kernel_rfl)) da_nil)) rfl (da_cons (fun _ h => nomatch h) de_int rfl da_nil))) (dw_or1 (T_ne rfl (da_cons (fun _ h => nomatch h) (E_len (F.blt _ (by decide +kernel)) (by kernel_rfl) (da_var (vis (by kernel_rfl)) da_nil)) rfl (da_cons (fun _ h => nomatch h) (E_len (F.blt _ (by decide +kernel)) (by kernel_rfl) (da_cons (fun _ h => nomatch h) (E_idx (fun _ _ => rfl) (da_var (vis (by kernel_rfl)) (da_cons (fun _ h => nomatch h) de_int rfl da_nil))) rfl da_nil)) rfl da_nil))))))) (dss_cons (ds_retE (fun _ h => nomatch h) de_int) dss_nil) dss_nil) (dss_cons (ds_if (T_ne rfl (da_cons (fun _ h => nomatch h) (E_lc rfl (BlkD.mk (own := [("_law_sign", 4)]) (blk (by kernel_rfl)) rfl (dg_name (sto (by kernel_rfl))) (.inr ⟨_, rfl, rfl, (T_notin rfl (da_var (vis (by kernel_rfl)) (da_cons (fun _ h => nomatch h) (de_str (by kernel_rfl) (by decide +kernel)) rfl da_nil)))⟩) (de_var (vis (by kernel_rfl)))) (di_str (de_var (vis (by kernel_rfl)))) rfl) rfl (da_cons (fun _ h => nomatch h) (de_lst (by decide) dv_nil) rfl da_nil))) (dss_cons (ds_retE (fun _ h => nomatch h) de_int) dss_nil) dss_nil) dss_nil)) rfl) (dss_cons (ds_if (T_gt rfl (da_cons (fun _ h => nomatch h) (E_int (F.blt _ (by decide +kernel)) (by kernel_rfl) (da_cons (fun _ h => nomatch h) (E_idx (fun _ _ => rfl) (da_var (vis (by kernel_rfl)) (da_cons (fun _ h => nomatch h) de_int rfl da_nil))) rfl da_nil)) rfl (da_cons (fun _ h => nomatch h) de_int rfl da_nil))) (dss_cons (ds_retE (fun _ h => nomatch h) de_int) dss_nil) dss_nil) (dss_cons (ds_retE (fun _ h => nomatch h) (E_neg (da_cons (fun _ h => nomatch h) de_int rfl da_nil))) dss_nil)))))))
theorem sc11 : FnScope N11 ["_law_text"] (defScope st11) := ⟨rfl, rfl, rfl, by decide +kernel, rfl, by decide +kernel, by decide +kernel⟩
theorem js11 (F : Ft g) (c3 : Callee g 3 "read" 1 3) (hk : 3 ≤ k) : DSs (g.sg N11 (defScope st11) k W) (defBody st11) (evS g.M S11) :=
  (dss_cons (ds_setP (sto (by kernel_rfl)) (de_lst (by decide) dv_nil) (fun _ => rfl)) (dss_cons (ds_setP (sto (by kernel_rfl)) de_non (fun _ => rfl)) (dss_cons (ds_try rfl rfl (by kernel_rfl) (exN F.e0 (by kernel_rfl)) (fun _ => (dss_cons (ds_setP (sto (by kernel_rfl)) (E_call c3 (Nat.le_trans (by decide) hk) (by kernel_rfl) rfl (da_var (vis (by kernel_rfl)) da_nil)) (fun _ => rfl)) dss_nil)) (dss_cons (ds_setP (sto (by kernel_rfl)) (de_lst (by decide) (dv_cons (E_isX F.e6 (F.blt _ (by decide +kernel)) (by kernel_rfl) (by kernel_rfl) (da_var (vis (by kernel_rfl)) da_nil)) rfl (dv_cons (E_isX F.e1 (F.blt _ (by decide +kernel)) (by kernel_rfl) (by kernel_rfl) (da_var (vis (by kernel_rfl)) da_nil)) rfl (dv_cons (E_isX F.e2 (F.blt _ (by decide +kernel)) (by kernel_rfl) (by kernel_rfl) (da_var (vis (by kernel_rfl)) da_nil)) rfl (dv_cons (E_isX F.e3 (F.blt _ (by decide +kernel)) (by kernel_rfl) (by kernel_rfl) (da_var (vis (by kernel_rfl)) da_nil)) rfl dv_nil))))) (fun _ => rfl)) (dss_cons (ds_setP (sto (by kernel_rfl)) (E_add (da_var (vis (by kernel_rfl)) (da_cons (fun _ h => nomatch h) (de_lst (by decide) (dv_cons (E_isX F.e4 (F.blt _ (by decide +kernel)) (by kernel_rfl) (by kernel_rfl) (da_var (vis (by kernel_rfl)) da_nil)) rfl (dv_cons (E_isX F.e5 (F.blt _ (by decide +kernel)) (by kernel_rfl) (by kernel_rfl) (da_var (vis (by kernel_rfl)) da_nil)) rfl (dv_cons (E_isX F.e7 (F.blt _ (by decide +kernel)) (by kernel_rfl) (by kernel_rfl) (da_var (vis (by kernel_rfl)) da_nil)) rfl (dv_cons (E_isX F.e8 (F.blt _ (by decide +kernel)) (by kernel_rfl) (by kernel_rfl) (da_var (vis (by kernel_rfl)) da_nil)) rfl dv_nil))))) rfl da_nil))) (fun _ => rfl)) (dss_cons (ds_setP (sto (by kernel_rfl)) (E_add (da_var (vis (by kernel_rfl)) (da_cons (fun _ h => nomatch h) (de_lst (by decide) (dv_cons (E_isX F.e9 (F.blt _ (by decide +kernel)) (by kernel_rfl) (by kernel_rfl) (da_var (vis (by kernel_rfl)) da_nil)) rfl (dv_cons (E_isV F.ve (F.blt _ (by decide +kernel)) (F.blt _ (by decide +kernel)) (by kernel_rfl) (by kernel_rfl) (da_var (vis (by kernel_rfl)) da_nil)) rfl dv_nil))) rfl da_nil))) (fun _ => rfl)) dss_nil)))) (dss_cons (ds_retE (fun _ h => nomatch h) (de_tup (by decide) (dv_cons (de_var (vis (by kernel_rfl))) rfl (dv_cons (E_lc rfl (BlkD.mk (own := [("_law_k", 4)]) (blk (by kernel_rfl)) rfl (dg_name (sto (by kernel_rfl))) (.inr ⟨_, rfl, rfl, (dt_truth rfl (E_idx (fun _ _ => rfl) (da_var (vis (by kernel_rfl)) (da_var (vis (by kernel_rfl)) da_nil))))⟩) (de_var (vis (by kernel_rfl)))) (di_rng1 (blt (F.blt _ (by decide +kernel)) boot_range (by kernel_rfl)) rfl (E_len (F.blt _ (by decide +kernel)) (by kernel_rfl) (da_var (vis (by kernel_rfl)) da_nil))) rfl) rfl dv_nil)))) dss_nil))))
theorem sc12 : FnScope N12 ["_law_script"] (defScope st12) := ⟨rfl, rfl, rfl, by decide +kernel, rfl, by decide +kernel, by decide +kernel⟩
theorem js12 (F : Ft g) (c4 : Callee g 4 "_law_cell_at" 2 1) (c5 : Callee g 5 "_law_mixed" 2 1) (c6 : Callee g 6 "_law_rows" 2 2) (c7 : Callee g 7 "_law_spoiled" 4 1) (c8 : Callee g 8 "_law_any" 1 1) (c10 : Callee g 10 "_law_due" 1 2) (c11 : Callee g 11 "_law_told" 1 4) (hk : 4 ≤ k) : DSs (g.sg N12 (defScope st12) k W) (defBody st12) (evS g.M S12) :=
  (dss_cons (ds_setP (sto (by kernel_rfl)) (E_call c6 (Nat.le_trans (by decide) hk) (by kernel_rfl) rfl (da_var (vis (by kernel_rfl)) (da_cons (fun _ h => nomatch h) (de_str (by kernel_rfl) (by decide +kernel)) rfl da_nil))) (fun _ => rfl)) (dss_cons (ds_setP (sto (by kernel_rfl)) (E_call c5 (Nat.le_trans (by decide) hk) (by kernel_rfl) rfl (da_cons (fun _ h => nomatch h) (E_call c4 (Nat.le_trans (by decide) hk) (by kernel_rfl) rfl (da_var (vis (by kernel_rfl)) (da_cons (fun _ h => nomatch h) de_int rfl da_nil))) rfl (da_cons (fun _ h => nomatch h) de_int rfl da_nil))) (fun _ => rfl)) (dss_cons (ds_setP (sto (by kernel_rfl)) (E_mod (da_cons (fun _ h => nomatch h) (E_call c4 (Nat.le_trans (by decide) hk) (by kernel_rfl) rfl (da_var (vis (by kernel_rfl)) (da_cons (fun _ h => nomatch h) de_int rfl da_nil))) rfl (da_cons (fun _ h => nomatch h) (E_pow (da_cons (fun _ h => nomatch h) de_int rfl (da_cons (fun _ h => nomatch h) de_int rfl da_nil))) rfl da_nil))) (fun _ => rfl)) (dss_cons (ds_setP (sto (by kernel_rfl)) (E_call c7 (Nat.le_trans (by decide) hk) (by kernel_rfl) rfl (da_cons (fun _ h => nomatch h) (E_str (F.blt _ (by decide +kernel)) (by kernel_rfl) (da_cons (fun _ h => nomatch h) (E_mod (da_var (vis (by kernel_rfl)) (da_cons (fun _ h => nomatch h) de_int rfl da_nil))) rfl da_nil)) rfl (da_var (vis (by kernel_rfl)) (da_var (vis (by kernel_rfl)) (da_var (vis (by kernel_rfl)) da_nil))))) (fun _ => rfl)) (dss_cons (ds_if (T_eq rfl (da_cons (fun _ h => nomatch h) (E_mod (da_cons (fun _ h => nomatch h) (E_fdiv (da_var (vis (by kernel_rfl)) (da_cons (fun _ h => nomatch h) de_int rfl da_nil))) rfl (da_cons (fun _ h => nomatch h) de_int rfl da_nil))) rfl (da_cons (fun _ h => nomatch h) de_int rfl da_nil))) (dss_cons (ds_setP (sto (by kernel_rfl)) (E_call c8 (Nat.le_trans (by decide) hk) (by kernel_rfl) rfl (da_cons (fun _ h => nomatch h) (E_call c4 (Nat.le_trans (by decide) hk) (by kernel_rfl) rfl (da_var (vis (by kernel_rfl)) (da_cons (fun _ h => nomatch h) de_int rfl da_nil))) rfl da_nil)) (fun _ => rfl)) dss_nil) dss_nil) (dss_cons (ds_setP (sto (by kernel_rfl)) (E_call c10 (Nat.le_trans (by decide) hk) (by kernel_rfl) rfl (da_var (vis (by kernel_rfl)) da_nil)) (fun _ => rfl)) (dss_cons (ds_for rfl (di_rng1 (blt (F.blt _ (by decide +kernel)) boot_range (by kernel_rfl)) rfl de_int) (dg_name (sto (by kernel_rfl))) (dss_cons (ds_setT (dg_tup rfl (.cons (sto (by kernel_rfl)) (.cons (sto (by kernel_rfl)) .nil))) (E_call c11 (Nat.le_trans (by decide) hk) (by kernel_rfl) rfl (da_var (vis (by kernel_rfl)) da_nil)) (fun _ _ => rfl) (fun _ _ => rfl) (fun _ => rfl)) (dss_cons (ds_if (dt_bool (dw_and (T_ge rfl (da_var (vis (by kernel_rfl)) (da_cons (fun _ h => nomatch h) de_int rfl da_nil))) (dw_and1 (dt_bool (dw_or (T_ne rfl (da_var (vis (by kernel_rfl)) (da_cons (fun _ h => nomatch h) (de_lst (by decide) (dv_cons (de_var (vis (by kernel_rfl))) rfl (dv_cons de_int rfl dv_nil))) rfl da_nil))) (dw_or1 (T_notN (da_var (vis (by kernel_rfl)) da_nil)))))))) (dss_cons (ds_retE (fun _ h => nomatch h) de_bl) dss_nil) dss_nil) (dss_cons (ds_if (dt_bool (dw_and (T_lt rfl (da_var (vis (by kernel_rfl)) (da_cons (fun _ h => nomatch h) de_int rfl da_nil))) (dw_and1 (dt_bool (dw_or (T_ne rfl (da_var (vis (by kernel_rfl)) (da_cons (fun _ h => nomatch h) (de_lst (by decide) dv_nil) rfl da_nil))) (dw_or1 (T_ne rfl (da_var (vis (by kernel_rfl)) (da_cons (fun _ h => nomatch h) (de_tup (by decide) (dv_cons (de_slc (by intro _ _ h; cases h) (da_cons (fun _ h => nomatch h) (E_split_v (vis (by kernel_rfl)) rfl (da_cons (fun _ h => nomatch h) (de_str (by kernel_rfl) (by decide +kernel)) rfl da_nil)) rfl (da_cons (fun _ h => nomatch h) de_int rfl da_nil))) rfl (dv_cons (E_int (F.blt _ (by decide +kernel)) (by kernel_rfl) (da_cons (fun _ h => nomatch h) (E_idx (fun _ _ => rfl) (da_cons (fun _ h => nomatch h) (E_split_v (vis (by kernel_rfl)) rfl (da_cons (fun _ h => nomatch h) (de_str (by kernel_rfl) (by decide +kernel)) rfl da_nil)) rfl (da_cons (fun _ h => nomatch h) de_int rfl da_nil))) rfl da_nil)) rfl dv_nil))) rfl da_nil))))))))) (dss_cons (ds_retE (fun _ h => nomatch h) de_bl) dss_nil) dss_nil) dss_nil))) rfl) (dss_cons (ds_for rfl (di_list (de_lst (by decide) (dv_cons de_non rfl (dv_cons de_int rfl (dv_cons (de_lst (by decide) (dv_cons (de_str (by kernel_rfl) (by decide +kernel)) rfl (dv_cons (de_str (by kernel_rfl) (by decide +kernel)) rfl dv_nil))) rfl (dv_cons (de_tup (by decide) (dv_cons (de_str (by kernel_rfl) (by decide +kernel)) rfl dv_nil)) rfl (dv_cons de_bl rfl dv_nil))))))) (dg_name (sto (by kernel_rfl))) (dss_cons (ds_if (T_ne rfl (da_cons (fun _ h => nomatch h) (E_call c11 (Nat.le_trans (by decide) hk) (by kernel_rfl) rfl (da_var (vis (by kernel_rfl)) da_nil)) rfl (da_cons (fun _ h => nomatch h) (de_tup (by decide) (dv_cons de_non rfl (dv_cons (de_lst (by decide) (dv_cons de_int rfl (dv_cons de_int rfl dv_nil))) rfl dv_nil))) rfl da_nil))) (dss_cons (ds_retE (fun _ h => nomatch h) de_bl) dss_nil) dss_nil) dss_nil) rfl) (dss_cons (ds_retE (fun _ h => nomatch h) de_bl) dss_nil)))))))))
end
end K81

namespace K81
open PySem PySem.Spec PyProof.Rows L2 Sd
def cellAt (ns : List Int) (k : Int) : Int := ns.getD k.toNat 0
def mixed (c k : Int) : Int := ((c % 2147483629 + 7919 * k + 11) % 2147483647 * ((c % 2147483629 + 7919 * k + 11) % 2147483647) % 2147483647 * 48271 % 2147483587 * ((c % 2147483629 + 7919 * k + 11) % 2147483647 * ((c % 2147483629 + 7919 * k + 11) % 2147483647) % 2147483647 * 48271 % 2147483587 + 69621)) % 2147483563 / 8
theorem p5 (c k : Int) : phi5 [.int c, .int k] = .ok (.int (mixed c k)) := by
  simp only [phi5, phiOf, S5, N5, initE, List.length, List.map, List.replicate, List.cons_append, List.nil_append]
  simp (disch := omega) [o_mod_int, o_fdiv_int, o_mul_int, mixed]
theorem p4 (ns : List Int) (k : Int) (h : 0 ≤ k) : phi4 [.lst .any (ns.map .int), .int k] = .ok (.int (cellAt ns k)) := by
  simp only [phi4, phiOf, S4, N4, initE, List.length, List.map, List.replicate, List.cons_append, List.nil_append]
  by_cases hk : k < (ns.length : Int)
  · obtain ⟨j, rfl⟩ : ∃ j : Nat, k = (j : Int) := ⟨k.toNat, by omega⟩
    have hj : j < ns.length := by omega
    have e : atI (ns.map D.int) (j : Int) = some (D.int (ns[j])) := atI_nat (by simp [hj])
    simp [hk, o_idx_lst e, cellAt, hj]
  · have hj : ¬ k.toNat < ns.length := by omega
    simp [hk, cellAt, hj]
def digs : List Nat := [48, 49, 50, 51, 52, 53, 54, 55, 56, 57]
def allIn (s w : List Nat) : Bool := w.all fun c => decide (c ∈ s)
def isNum (w : List Nat) : Bool := decide (1 ≤ w.length) && (decide (w.length ≤ 4) && (allIn digs w && (!decide (w.head? = some 48) || decide (w = [48]))))
def bitsIn (s w : List Nat) : List Bool := w.map fun c => decide (c ∈ s)
theorem all_turns (s w : List Nat) : (w.filterMap fun c => some (D.bl (decide (c ∈ s)))) = (bitsIn s w).map D.bl := by
  unfold bitsIn
  rw [List.map_map, ← List.filterMap_eq_map]; rfl
theorem bits_all (s w : List Nat) : ((bitsIn s w).all id) = allIn s w := by
  unfold bitsIn
  rw [List.all_map]; rfl
/-- [sign in G for sign in x] -/
theorem q_all {M : Sem} {i j : Nat} {c : E} {ρ : DEnv} {s w : List Nat} (h1 : ρ[i]? = some (some (.str w))) (h2 : ρ.set i (some (.str w)) = ρ) (h3 : ρ.set j none = ρ)
    (hc : ∀ a, evE M c (ρ.set j (some (.str [a]))) = .ok (.bl (decide (a ∈ s))) (ρ.set j (some (.str [a])))) :
    evE M (.lc .str (.cons (.var i) .nil) (.nm j) .nil c) ρ = .ok (.lst .own ((bitsIn s w).map D.bl)) ρ := by
  have ht := turns_map (fun c => D.str [c]) j (evIf true (fun ρ => evE M .nil ρ) (fun ρ => evE M c ρ)) (fun c => some (D.bl (decide (c ∈ s)))) ρ h3 w (by intro a _; simp [hc]) []
  rw [ev_lc, evv_cons, ev_var, h1, lkR_some, R.bind_dem, evv_nil, R.bind_dem, R.bind_dem]
  simp only [dem_str, wk_str, wkR_some, h2]
  rw [show wipeE ρ (Tg.nm j).slots = ρ from h3]
  erw [ht]
  rw [all_turns]
  rfl
theorem head_of {α : Type} {w : List α} (h : (1 : Int) ≤ w.length) : ∃ a, w.head? = some a ∧ atI w 0 = some a := by
  cases w with
  | nil => simp at h
  | cons a w => exact ⟨a, rfl, atI_nat (j := 0) rfl⟩
theorem p2 (w : List Nat) : phi2 [.str w] = .ok (.bl (isNum w)) := by
  have h2 := q_all (M := semOf exNames.length tab2 globF) (i := 0) (j := 1) (c := .op .isin (.cons (.var 1) (.cons (.glob 3) .nil))) (ρ := [some (.str w), none]) (s := digs) (w := w) rfl rfl rfl (by intro a; simp [globF, digs])
  simp only [phi2, phiOf, S2, N2, initE, List.length, List.map, List.replicate, List.cons_append, List.nil_append]
  by_cases h1 : (1 : Int) ≤ w.length
  · have h1' : 1 ≤ w.length := by omega
    obtain ⟨a, ha, e⟩ := head_of h1
    by_cases h4 : (w.length : Int) ≤ 4
    · have h4' : w.length ≤ 4 := by omega
      simp [h2, globF, h1, h4, bits_all, o_idx_str e, isNum, h1', h4', ha]
      cases allIn digs w <;> by_cases ha : a = 48 <;> simp [ha, o_idx_str e]
    · have h4' : ¬ w.length ≤ 4 := by omega
      simp [globF, h1, h4, isNum, h4']
  · have h1' : ¬ 1 ≤ w.length := by omega
    simp [h1, isNum, h1']
/-- [sign for sign in x if sign not in G] -/
def notIn (s w : List Nat) : List Nat := w.filter fun c => !decide (c ∈ s)
theorem not_turns (s w : List Nat) : (w.filterMap fun c => if !decide (c ∈ s) then some (D.str [c]) else none) = (notIn s w).map fun c => D.str [c] := by
  unfold notIn
  induction w with
  | nil => rfl
  | cons a w ih => by_cases h : a ∈ s <;> simp [h] at ih ⊢ <;> exact ih
theorem q_not {M : Sem} {i j : Nat} {c : E} {ρ : DEnv} {s w : List Nat} (hn : c.isNil = false) (h1 : ρ[i]? = some (some (.str w))) (h2 : ρ.set i (some (.str w)) = ρ) (h3 : ρ.set j none = ρ) (hj : ∀ a, (ρ.set j (some (.str [a])))[j]? = some (some (.str [a])))
    (hc : ∀ a, evE M c (ρ.set j (some (.str [a]))) = .ok (.bl (!decide (a ∈ s))) (ρ.set j (some (.str [a])))) :
    evE M (.lc .str (.cons (.var i) .nil) (.nm j) c (.var j)) ρ = .ok (.lst .own ((notIn s w).map fun c => D.str [c])) ρ := by
  have ht := turns_map (fun c => D.str [c]) j (evIf c.isNil (fun ρ => evE M c ρ) (fun ρ => evE M (.var j) ρ)) (fun c => if !decide (c ∈ s) then some (D.str [c]) else none) ρ h3 w (by
    intro a _
    rw [hn]
    by_cases h : a ∈ s <;> simp [hc, hj, h]) []
  rw [ev_lc, evv_cons, ev_var, h1, lkR_some, R.bind_dem, evv_nil, R.bind_dem, R.bind_dem]
  simp only [dem_str, wk_str, wkR_some, h2]
  rw [show wipeE ρ (Tg.nm j).slots = ρ from h3]
  erw [ht]
  rw [not_turns]
  rfl
theorem notIn_nil (s w : List Nat) : decide (notIn s w = []) = allIn s w := by
  unfold notIn allIn
  rw [Bool.eq_iff_iff]
  simp
theorem dats_chrs (n : Nat) (w : List Nat) : dats n (w.map fun c => D.str [c]) = true := by
  induction w with
  | nil => cases n <;> rfl
  | cons a w ih => simp only [List.map_cons, dats, ih, Bool.and_true]; cases n <;> rfl
theorem ne_nil_chrs (t u : Tag) (w : List Nat) : evOp .ne [.lst t (w.map fun c => D.str [c]), .lst u []] = some (.bl (!decide (w = []))) := by
  show (if dat2 _ _ then some (D.bl (!D.eqv _ _)) else none) = _
  rw [if_pos (by simp [dat2, D.dat, dats_chrs, dats])]
  cases w <;> simp [D.eqv, D.py, pys, PyData.eqv, PyData.eqvAll]
@[simp] theorem tgs_chrs (f : Tag → Tag) (w : List Nat) : tgs f (w.map fun c => D.str [c]) = w.map fun c => D.str [c] := by
  rw [tgs_map, List.map_map]; rfl
theorem p9 (w : List Nat) : phi9 [.str w] = .ok (.bl (isNum w)) := by
  have h2 := q_not (M := semOf exNames.length tab9 globF) (i := 0) (j := 1) (c := .op .notin (.cons (.var 1) (.cons (.str [48, 49, 50, 51, 52, 53, 54, 55, 56, 57]) .nil))) (ρ := [some (.str w), none]) (s := digs) (w := w) rfl rfl rfl rfl (fun _ => rfl) (by intro a; simp [digs])
  simp only [phi9, phiOf, S9, N9, initE, List.length, List.map, List.replicate, List.cons_append, List.nil_append]
  by_cases h1 : (1 : Int) ≤ w.length
  · have h1' : 1 ≤ w.length := by omega
    have h1'' : ¬ (w.length : Int) < 1 := by omega
    obtain ⟨a, ha, e⟩ := head_of h1
    by_cases h4 : (w.length : Int) ≤ 4
    · have h4' : w.length ≤ 4 := by omega
      have h4'' : ¬ (4 : Int) < w.length := by omega
      simp [h2, h1'', h4'', ne_nil_chrs, notIn_nil, o_idx_str e, isNum, h1', h4', ha]
      cases allIn digs w <;> by_cases ha : a = 48 <;> simp [ha, o_idx_str e]
      by_cases hw : w = [48] <;> simp [hw]
    · have h4' : ¬ w.length ≤ 4 := by omega
      have h4'' : (4 : Int) < w.length := by omega
      simp [h1'', h4'', isNum, h4']
  · have h1' : ¬ 1 ≤ w.length := by omega
    have h1'' : (w.length : Int) < 1 := by omega
    simp [h1'', isNum, h1']
/-- a loop that ends at the first bad one -/
theorem for_check {α : Type} (enc : α → D) (i : Nat) (body : DEnv → FR) (st : Option D → DEnv) (bad : α → Bool) (e : α → FR) (hset : ∀ o x, (st o).set i x = st x) (he : ∀ a, (∀ ρ, e a ≠ .nx ρ) ∧ (∀ ρ, e a ≠ .ct ρ) ∧ (∀ ρ, e a ≠ .bk ρ)) :
    ∀ (as : List α), (∀ a ∈ as, body (st (some (enc a))) = if bad a = true then e a else .nx (st (some (enc a)))) → ∀ o, evFor (.nm i) body (as.map enc) (st o) = match as.find? bad with | some a => e a | none => .nx (st none)
  | [], _, o => by
    show FR.nx ((st o).set i none) = FR.nx (st none)
    rw [hset]
  | a :: as, h, o => by
    rw [List.map_cons]
    simp only [evFor, Tg.set, hset]
    rw [h a List.mem_cons_self, List.find?_cons]
    cases q : bad a with
    | false => simpa using for_check enc i body st bad e hset he as (fun b hb => h b (List.mem_cons_of_mem _ hb)) _
    | true =>
      obtain ⟨h1, h2, h3⟩ := he a
      cases r : e a with
      | nx ρ => exact absurd r (h1 ρ)
      | ct ρ => exact absurd r (h2 ρ)
      | bk ρ => exact absurd r (h3 ρ)
      | _ => simp [r]
def badLen (n : Nat) (r : List Nat) : Bool := !(decide (1 ≤ r.length) && decide (r.length ≤ 8)) || !decide (r.length = n)
def len0 (rows : List (List Nat)) : Nat := (rows.headD []).length
def rowsOk (signs : List Nat) (rows : List (List Nat)) : Bool := (decide (1 ≤ rows.length) && decide (rows.length ≤ 8)) && (rows.all (fun r => !badLen (len0 rows) r) && rows.all (allIn signs))
theorem find_none {α : Type} (p : α → Bool) (as : List α) : (as.find? p).isNone = as.all fun a => !p a := by
  induction as with
  | nil => rfl
  | cons a as ih => rw [List.find?_cons, List.all_cons]; cases p a <;> simp [← ih]
theorem p0 (signs : List Nat) (rows : List (List Nat)) : phi0 [.lst .any (rows.map .str), .str signs] = if rowsOk signs rows = true then .ok .non else .err 1 := by
  simp only [phi0, phiOf, S0, N0, initE, List.length, List.map, List.replicate, List.cons_append, List.nil_append]
  by_cases h1 : (1 : Int) ≤ rows.length
  · by_cases h8 : (rows.length : Int) ≤ 8
    · have h1' : 1 ≤ rows.length := by omega
      have h8' : rows.length ≤ 8 := by omega
      obtain ⟨r0, hr0, er0⟩ : ∃ r0, len0 rows = r0.length ∧ atI (rows.map D.str) 0 = some (.str r0) := by
        cases rows with
        | nil => simp at h1
        | cons a w => exact ⟨a, rfl, atI_nat (j := 0) rfl⟩
      have l1 := for_check (fun r => D.str r) 2 (evS (semOf exNames.length tab0 globF) (.seq (.ife (.or (.not (.chn true true (.cons (.int 1) (.cons (.op .len (.cons (.var 2) .nil)) .nil)) (.glob 0))) (.op .ne (.cons (.op .len (.cons (.var 2) .nil)) (.cons (.op .len (.cons (.op .idx (.cons (.var 0) (.cons (.int 0) .nil))) .nil)) .nil)))) (.seq (.rai 1) .nil) .nil) .nil))
        (fun o => [some (.lst .any (rows.map .str)), some (.str signs), o, none]) (badLen (len0 rows)) (fun r => .err 1 [some (.lst .any (rows.map .str)), some (.str signs), some (.str r), none]) (fun _ _ => rfl) (fun a => ⟨nofun, nofun, nofun⟩) rows (by
          intro r _
          by_cases g1 : (1 : Int) ≤ r.length
          · by_cases g8 : (r.length : Int) ≤ 8
            · have g1' : 1 ≤ r.length := by omega
              have g8' : r.length ≤ 8 := by omega
              by_cases g0 : (r.length : Int) = r0.length
              · have g0' : r.length = r0.length := by omega
                have k1 : (1 : Int) ≤ r0.length := by omega
                have k8 : (r0.length : Int) ≤ 8 := by omega
                have k1' : 1 ≤ r0.length := by omega
                have k8' : r0.length ≤ 8 := by omega
                simp [-List.length_pos_iff, globF, g1, g8, o_idx_lst er0, badLen, hr0, k1, k8, k1', k8', g0']
              · have g0' : ¬ r.length = r0.length := by omega
                simp [globF, g1, g8, o_idx_lst er0, badLen, hr0, g1', g8', g0, g0']
            · have g8' : ¬ r.length ≤ 8 := by omega
              simp [globF, g1, g8, badLen, g8']
          · have g1' : ¬ 1 ≤ r.length := by omega
            simp [globF, g1, badLen, g1'])
      have l2 := for_check (fun r => D.str r) 2 (evS (semOf exNames.length tab0 globF) (.seq (.ife (.not (.op .all (.cons (.lc .str (.cons (.var 2) .nil) (.nm 3) .nil (.op .isin (.cons (.var 3) (.cons (.var 1) .nil)))) .nil))) (.seq (.rai 1) .nil) .nil) .nil))
        (fun o => [some (.lst .any (rows.map .str)), some (.str signs), o, none]) (fun r => !allIn signs r) (fun r => .err 1 [some (.lst .any (rows.map .str)), some (.str signs), some (.str r), none]) (fun _ _ => rfl) (fun a => ⟨nofun, nofun, nofun⟩) rows (by
          intro r _
          have h2 := q_all (M := semOf exNames.length tab0 globF) (i := 2) (j := 3) (c := .op .isin (.cons (.var 3) (.cons (.var 1) .nil))) (ρ := [some (.lst .any (rows.map .str)), some (.str signs), some (.str r), none]) (s := signs) (w := r) rfl rfl rfl (by intro a; simp)
          simp [h2, bits_all]
          cases allIn signs r <;> simp)
      have hok : rowsOk signs rows = ((rows.find? (badLen (len0 rows))).isNone && (rows.find? fun r => !allIn signs r).isNone) := by
        simp [rowsOk, h1', h8', find_none]
      simp [globF, h1, h8, es_for, l1]
      cases q1 : rows.find? (badLen (len0 rows)) with
      | some r =>
        rw [q1] at hok
        simp [hok]
      | none =>
        simp only [FR.bind_nx, es_seq, es_for, evI_lst, evv_cons, ev_var, gt0, lkR_some, R.bind_dem, evv_nil, dem_lst, td_any, tgs_strs, wk_lst, R.toFR_ok, List.set_cons_zero, l2]
        cases q2 : rows.find? fun r => !allIn signs r with
        | some r =>
          rw [q1, q2] at hok
          simp [hok]
        | none =>
          rw [q1, q2] at hok
          simp [hok]
    · have h8' : ¬ rows.length ≤ 8 := by omega
      simp [globF, h1, h8, rowsOk, h8']
  · have h1' : ¬ 1 ≤ rows.length := by omega
    simp [globF, h1, rowsOk, h1']
end K81

namespace K81
open PySem PySem.Spec PyProof.Rows L2 Sd
def figs : List Nat := [48, 49, 50, 51, 52, 53, 54, 55, 56, 63, 35]
@[simp] theorem tab1_0 : tab1 0 = phi0 := rfl
theorem p1 (rows : List (List Nat)) (n : Int) : phi1 [.lst .any (rows.map .str), .int n] = if rowsOk figs rows = true then (if 0 ≤ n ∧ n ≤ 64 then .ok (.tup [.lst .new (rows.map .str), .int n]) else .err 2) else .err 1 := by
  simp only [phi1, phiOf, S1, N1, initE, List.length, List.map, List.replicate, List.cons_append, List.nil_append]
  have ha : evOp .add [.str [48, 49, 50, 51, 52, 53, 54, 55, 56], .str [63, 35]] = some (.str figs) := rfl
  simp [globF, ha, p0]
  cases q : rowsOk figs rows with
  | false => simp
  | true =>
    by_cases h0 : 0 ≤ n
    · by_cases h6 : n ≤ 64 <;> simp [h0, h6, globF]
    · simp [h0]
def pieces (t : List Nat) : List (List Nat) := TL.spl [47] 0 [] t
theorem o_split {t : List Nat} (h : t.length + 1 < 1000000) : evOp .split [.str t, .str [47]] = some (.lst .own ((pieces t).map .str)) := if_pos ⟨by decide, h⟩
theorem pieces_len (t : List Nat) : 1 ≤ (pieces t).length ∧ (pieces t).length ≤ t.length + 1 := by
  have := @spl_len ⟨fun _ _ => False, fun _ => .none⟩ 47 t []
  simp only [List.length_nil] at this
  refine ⟨?_, ?_⟩
  · have h : ∀ (k : Nat) (acc t : List Nat), 1 ≤ (TL.spl [47] k acc t).length := by
      intro k acc t
      induction t generalizing k acc with
      | nil => rw [TL.spl_nil]; simp
      | cons c t ih =>
        cases k with
        | zero =>
          cases h : TL.pre [47] (c :: t) with
          | true => rw [TL.spl_hit h]; simp
          | false => rw [TL.spl_miss h]; exact ih _ _
        | succ k => exact ih k acc
    exact h 0 [] t
  · have : (pieces t).length = (TL.spl [47] 0 [] t).length := rfl
    omega
def numV (w : List Nat) : Int := ((NumText.digitsVal w : Nat) : Int)
theorem digs_rng {c : Nat} (h : c ∈ digs) : 48 ≤ c ∧ c ≤ 57 := by
  unfold digs at h
  simp only [List.mem_cons, List.not_mem_nil, or_false] at h
  omega
theorem o_int_num {w : List Nat} (h : isNum w = true) : evOp .int [.str w] = some (.int (numV w)) := by
  simp only [isNum, Bool.and_eq_true, decide_eq_true_eq] at h
  obtain ⟨h1, h4, hd, _⟩ := h
  have hi : intText? ⟨w.toArray⟩ = some (numV w) := by
    refine SX.int_S (a := w) ?_ (by intro e; rw [e] at h1; simp at h1) (by omega)
    rw [List.all_eq_true]
    intro c hc
    have := digs_rng (of_decide_eq_true (List.all_eq_true.mp hd c hc))
    simp [this.1, this.2]
  show (if w.length ≤ 640 then (intText? ⟨w.toArray⟩).map D.int else none) = _
  rw [if_pos (by omega), hi]
  rfl
theorem slc1 {t : Tag} {xs : List D} (h : 1 ≤ xs.length) : evOp (.slc true false) [.lst t xs, .int 1] = some (.lst .own xs.tail) := by
  show some (D.lst .own (sliceN xs (some 1) none)) = _
  have : sliceN xs (some 1) none = xs.tail := by
    unfold sliceN
    cases xs with
    | nil => simp at h
    | cons a xs => simp [HT.sIx]
  rw [this]
def p0w (t : List Nat) : List Nat := (pieces t).headD []
def rowsOf (t : List Nat) : List (List Nat) := (pieces t).tail
def readS (t : List Nat) : CR := if (pieces t).length < 2 ∨ isNum (p0w t) = false then .err 6 else if rowsOk figs (rowsOf t) = true then (if numV (p0w t) ≤ 64 then   .ok (.tup [.lst .new ((rowsOf t).map .str), .int (numV (p0w t))]) else .err 2) else .err 1
@[simp] theorem tab3_1 : tab3 1 = phi1 := rfl
@[simp] theorem tab3_2 : tab3 2 = phi2 := rfl
theorem atI0 (t : List Nat) : atI ((pieces t).map D.str) 0 = some (.str (p0w t)) := by
  have := (pieces_len t).1
  unfold p0w
  cases h : pieces t with
  | nil => rw [h] at this; simp at this
  | cons a r => exact atI_nat (j := 0) rfl
theorem p3 (t : List Nat) (ht : t.length + 1 < 1000000) : phi3 [.str t] = readS t := by
  simp only [phi3, phiOf, S3, N3, initE, List.length, List.map, List.replicate, List.cons_append, List.nil_append]
  have hl := pieces_len t
  have e0 := atI0 t
  have es : evOp (.slc true false) [.lst .own ((pieces t).map .str), .int 1] = some (.lst .own ((rowsOf t).map .str)) := by
    rw [slc1 (by simpa using hl.1)]; unfold rowsOf; simp
  simp [Ty.is, o_split ht]
  by_cases h2 : ((pieces t).length : Int) < 2
  · have h2' : (pieces t).length < 2 := by omega
    simp [h2, readS, h2']
  · have h2' : ¬ (pieces t).length < 2 := by omega
    simp [h2, o_idx_lst e0, p2]
    cases hn : isNum (p0w t) with
    | false => simp [readS, hn]
    | true =>
      have h0 : 0 ≤ numV (p0w t) := by unfold numV; omega
      simp [es, o_idx_lst e0, o_int_num hn, p1, readS, hn, h2', h0]
      cases rowsOk figs (rowsOf t) with
      | false => simp
      | true => by_cases h6 : numV (p0w t) ≤ 64 <;> simp [h6]
/-! ### what is due -/
def dueS (t : List Nat) : Int := if (pieces t).length < 2 ∨ isNum (p0w t) = false then 0 else if rowsOk figs (rowsOf t) = true then (if numV (p0w t) ≤ 64 then -1 else 2) else 1
@[simp] theorem tab10_9 : tab10 9 = phi9 := rfl
theorem rows_len (t : List Nat) : (rowsOf t).length = (pieces t).length - 1 := by unfold rowsOf; simp
theorem p10 (t : List Nat) (ht : t.length + 1 < 1000000) : phi10 [.str t] = .ok (.int (dueS t)) := by
  simp only [phi10, phiOf, S10, N10, initE, List.length, List.map, List.replicate, List.cons_append, List.nil_append]
  have hl := pieces_len t
  have e0 := atI0 t
  have es : evOp (.slc true false) [.lst .own ((pieces t).map .str), .int 1] = some (.lst .own ((rowsOf t).map .str)) := by
    rw [slc1 (by simpa using hl.1)]; unfold rowsOf; simp
  simp [o_split ht]
  by_cases h2 : ((pieces t).length : Int) < 2
  · have h2' : (pieces t).length < 2 := by omega
    simp [h2, dueS, h2']
  · have h2' : ¬ (pieces t).length < 2 := by omega
    simp [h2, o_idx_lst e0, p9]
    cases hn : isNum (p0w t) with
    | false => simp [dueS, hn]
    | true =>
      have hr := rows_len t
      simp [es]
      by_cases h8 : (8 : Int) < (rowsOf t).length
      · have h8' : rowsOk figs (rowsOf t) = false := by
          have : ¬ (rowsOf t).length ≤ 8 := by omega
          simp [rowsOk, this]
        simp [h8, dueS, h2', hn, h8']
      · have r1 : 1 ≤ (rowsOf t).length := by omega
        have r8 : (rowsOf t).length ≤ 8 := by omega
        obtain ⟨r0, hr0, er0⟩ : ∃ r0, len0 (rowsOf t) = r0.length ∧ atI ((rowsOf t).map D.str) 0 = some (.str r0) := by
          cases h : rowsOf t with
          | nil => rw [h] at r1; simp at r1
          | cons a w => exact ⟨a, rfl, atI_nat (j := 0) rfl⟩
        have lp := for_check (fun r => D.str r) 3 (evS (semOf exNames.length tab10 globF) (.seq (.ife (.or (.op .lt (.cons (.op .len (.cons (.var 3) .nil)) (.cons (.int 1) .nil))) (.or (.op .gt (.cons (.op .len (.cons (.var 3) .nil)) (.cons (.int 8) .nil))) (.op .ne (.cons (.op .len (.cons (.var 3) .nil)) (.cons (.op .len (.cons (.op .idx (.cons (.var 2) (.cons (.int 0) .nil))) .nil)) .nil))))) (.seq (.ret (.int 1)) .nil) .nil) (.seq (.ife (.op .ne (.cons (.lc .str (.cons (.var 3) .nil) (.nm 4) (.op .notin (.cons (.var 4) (.cons (.str [48, 49, 50, 51, 52, 53, 54, 55, 56, 63, 35]) .nil))) (.var 4)) (.cons (.lst .nil) .nil))) (.seq (.ret (.int 1)) .nil) .nil) .nil)))
          (fun o => [some (.str t), some (.lst .own ((pieces t).map .str)), some (.lst .new ((rowsOf t).map .str)), o, none]) (fun r => badLen (len0 (rowsOf t)) r || !allIn figs r) (fun r => .rt (.int 1)) (fun _ _ => rfl) (fun a => ⟨nofun, nofun, nofun⟩) (rowsOf t) (by
            intro r _
            have hq := q_not (M := semOf exNames.length tab10 globF) (i := 3) (j := 4) (c := .op .notin (.cons (.var 4) (.cons (.str [48, 49, 50, 51, 52, 53, 54, 55, 56, 63, 35]) .nil))) (ρ := [some (.str t), some (.lst .own ((pieces t).map .str)), some (.lst .new ((rowsOf t).map .str)), some (.str r), none]) (s := figs) (w := r) rfl rfl rfl rfl (fun _ => rfl) (by intro a; simp [figs])
            by_cases g1 : (r.length : Int) < 1
            · have g1' : ¬ 1 ≤ r.length := by omega
              simp [g1, badLen, g1']
            · have g1' : 1 ≤ r.length := by omega
              by_cases g8 : (8 : Int) < r.length
              · have g8' : ¬ r.length ≤ 8 := by omega
                simp [g1, g8, badLen, g8']
              · have g8' : r.length ≤ 8 := by omega
                by_cases g0 : r.length = r0.length
                · have k1 : ¬ (r0.length : Int) < 1 := by omega
                  have k8 : ¬ (8 : Int) < r0.length := by omega
                  have k1' : 1 ≤ r0.length := by omega
                  have k8' : r0.length ≤ 8 := by omega
                  simp [k1, k8, o_idx_lst er0, badLen, hr0, k1', k8', g0, hq, ne_nil_chrs, notIn_nil]
                  cases allIn figs r <;> simp
                · have g0' : ¬ (r.length : Int) = r0.length := by omega
                  simp [g1, g8, o_idx_lst er0, badLen, hr0, g1', g8', g0, g0'])
        have hok : rowsOk figs (rowsOf t) = ((rowsOf t).find? fun r => badLen (len0 (rowsOf t)) r || !allIn figs r).isNone := by
          rw [find_none]
          simp only [rowsOk, r1, r8, decide_true, Bool.true_and]
          rw [Bool.eq_iff_iff]
          simp only [Bool.and_eq_true, List.all_eq_true, Bool.not_eq_true', Bool.or_eq_false_iff, Bool.not_eq_false']
          exact ⟨fun h r hr => ⟨h.1 r hr, h.2 r hr⟩, fun h => ⟨fun r hr => (h r hr).1, fun r hr => (h r hr).2⟩⟩
        simp [h8]
        rw [es_for]
        simp [lp]
        cases q : (rowsOf t).find? fun r => badLen (len0 (rowsOf t)) r || !allIn figs r with
        | some r =>
          rw [q] at hok
          simp [dueS, h2', hn, hok]
        | none =>
          rw [q] at hok
          by_cases h6 : (64 : Int) < numV (p0w t)
          · have h6' : ¬ numV (p0w t) ≤ 64 := by omega
            simp [o_idx_lst e0, o_int_num hn, h6, dueS, h2', hn, hok, h6']
          · have h6' : numV (p0w t) ≤ 64 := by omega
            simp [o_idx_lst e0, o_int_num hn, h6, dueS, h2', hn, hok, h6']
/-! ### what is told -/
theorem fm_filter {α β : Type} (p : α → Bool) (f : α → β) (l : List α) : l.filterMap (fun k => if p k = true then some (f k) else none) = (l.filter p).map f := by
  induction l with
  | nil => rfl
  | cons a l ih =>
    rw [List.filterMap_cons, List.filter_cons]
    cases h : p a with
    | true => simp only [if_true]; rw [ih]; rfl
    | false => simp only [Bool.false_eq_true, if_false]; exact ih
/-- the places of the true ones -/
def idxs (bs : List Bool) : List Nat := (List.range bs.length).filter fun k => bs.getD k false
theorem q_idx {M : Sem} {ρ : DEnv} {i j : Nat} {bs : List Bool} {t : Tag} (hs : bs.length < 1000) (h1 : ρ[i]? = some (some (.lst t (bs.map .bl)))) (h2 : ρ.set i (some (.lst t (bs.map .bl))) = ρ) (h3 : ρ.set j none = ρ) (hij : i ≠ j) (hj : ∀ d, (ρ.set j (some d))[j]? = some (some d)) :
    evE M (.lc .rng1 (.cons (.op .len (.cons (.var i) .nil)) .nil) (.nm j) (.op .idx (.cons (.var i) (.cons (.var j) .nil))) (.var j)) ρ = .ok (.lst .own ((idxs bs).map fun k : Nat => D.int (k : Int))) ρ := by
  have hi : ∀ d, (ρ.set j (some d))[i]? = some (some (.lst t (bs.map .bl))) := fun d => by rw [List.getElem?_set_ne (Ne.symm hij), h1]
  have hs2 : ∀ d, (ρ.set j (some d)).set i (some (.lst t (bs.map .bl))) = ρ.set j (some d) := fun d => by rw [List.set_comm _ _ (Ne.symm hij), h2]
  have ht := turns_map (fun k : Nat => D.int (k : Int)) j (evIf false (fun ρ => evE M (.op .idx (.cons (.var i) (.cons (.var j) .nil))) ρ) (fun ρ => evE M (.var j) ρ)) (fun k => if bs.getD k false = true then some (D.int (k : Int)) else none) ρ h3 (List.range bs.length) (by
    intro k hk
    have hk' : k < bs.length := List.mem_range.mp hk
    have e : atI (bs.map D.bl) (k : Int) = some (D.bl bs[k]) := atI_nat (by simp [hk'])
    have eg : bs.getD k false = bs[k] := by simp [hk']
    rw [eg]
    simp [hi, hj, hs2, o_idx_lst e]
    cases bs[k] <;> simp [hj]) []
  have hsrc : evV M (.cons (.op .len (.cons (.var i) .nil)) .nil) ρ = .ok [.int (bs.length : Int)] ρ := by
    simp only [evv_cons, ev_op, ea_var, h1, lkR_some, ea_nil, R.bind_dem, in_lst, tgs_bls, h2, o_len_lst, opR_some, dem_int, evv_nil, List.length_map]
  rw [ev_lc, hsrc, R.bind_dem, wk_rng1 (by omega) (by omega), wkR_some, show wipeE ρ (Tg.nm j).slots = ρ from h3]
  simp only [Int.toNat_natCast]
  rw [show (E.op Op.idx (.cons (.var i) (.cons (.var j) .nil))).isNil = false from rfl, ht, fm_filter]
  simp only [calm_ok, R.bind_dem, List.nil_append]
  rfl
@[simp] theorem tab11_3 : tab11 3 = phi3 := rfl
theorem p11_ok {x d : D} (hx : x.demIn = x) (hx2 : x.tg (fun _ => Tag.any) = x) (h : phi3 [x] = .ok d) (hn : d.tg Tag.dem = d) (ha : d.all Tag.noAny = true) : phi11 [x] = .ok (.tup [d, .lst .new []]) := by
  simp only [phi11, phiOf, S11, N11, initE, List.length, List.map, List.replicate, List.cons_append, List.nil_append]
  have hq := q_idx (M := semOf exNames.length tab11 globF) (ρ := [some x, some (.lst .own []), some d, none, none]) (i := 1) (j := 4) (bs := []) (t := .own) (by decide) rfl rfl rfl (by decide) (fun _ => rfl)
  simp [hx, hx2, h, hn]
  rw [hq]
  simp [idxs, hn, ha]
def errAt (c : Nat) : Int := if c = 6 then 0 else if c = 1 then 1 else 2
theorem is1 (k : Nat) : isaN exNames.length 1 k = ((1 == k) || k == 0) := rfl
theorem is2 (k : Nat) : isaN exNames.length 2 k = ((2 == k) || k == 0) := rfl
theorem is6 (k : Nat) : isaN exNames.length 6 k = ((6 == k) || k == 0) := rfl
abbrev lcT : E := .lc .rng1 (.cons (.op .len (.cons (.var 1) .nil)) .nil) (.nm 4) (.op .idx (.cons (.var 1) (.cons (.var 4) .nil))) (.var 4)
theorem q_lcT {x : D} {bs : List Bool} (hs : bs.length < 1000) : evE (semOf exNames.length tab11 globF) lcT [some x, some (.lst .own (bs.map .bl)), some .non, none, none] = .ok (.lst .own ((idxs bs).map fun k : Nat => D.int (k : Int))) [some x, some (.lst .own (bs.map .bl)), some .non, none, none] :=
  q_idx (M := semOf exNames.length tab11 globF) (i := 1) (j := 4) hs rfl rfl rfl (by decide) (fun _ => rfl)
theorem p11_err {x : D} {c : Nat} (hc : c = 1 ∨ c = 2 ∨ c = 6) (hx : x.demIn = x) (hx2 : x.tg (fun _ => Tag.any) = x) (h : phi3 [x] = .err c) : phi11 [x] = .ok (.tup [.non, .lst .new [.int (errAt c), .int 9]]) := by
  simp only [phi11, phiOf, S11, N11, initE, List.length, List.map, List.replicate, List.cons_append, List.nil_append]
  have ha : ∀ (xs ys : List D), xs.length + ys.length < 100 → evOp .add [.lst .own xs, .lst .own ys] = some (.lst .own (xs ++ ys)) := fun xs ys h => if_pos (by show _ < 1000000; omega)
  have hb : ∀ (xs ys : List D), xs.length + ys.length < 100 → evOp .add [.lst .own xs, .lst .new ys] = some (.lst .own (xs ++ ys)) := fun xs ys h => if_pos (by show _ < 1000000; omega)
  rcases hc with rfl | rfl | rfl
  · have hq := q_lcT (x := x) (bs := [false, true, false, false, false, false, false, false, false, true]) (by decide)
    rw [show idxs [false, true, false, false, false, false, false, false, false, true] = [1, 9] from by decide] at hq
    simp only [lcT, List.map_cons, List.map_nil] at hq
    simp [hx, hx2, h, is1, is2, is6, Ty.is, ha, hb]
    rw [hq]
    simp [errAt]
  · have hq := q_lcT (x := x) (bs := [false, false, true, false, false, false, false, false, false, true]) (by decide)
    rw [show idxs [false, false, true, false, false, false, false, false, false, true] = [2, 9] from by decide] at hq
    simp only [lcT, List.map_cons, List.map_nil] at hq
    simp [hx, hx2, h, is1, is2, is6, Ty.is, ha, hb]
    rw [hq]
    simp [errAt]
  · have hq := q_lcT (x := x) (bs := [true, false, false, false, false, false, false, false, false, true]) (by decide)
    rw [show idxs [true, false, false, false, false, false, false, false, false, true] = [0, 9] from by decide] at hq
    simp only [lcT, List.map_cons, List.map_nil] at hq
    simp [hx, hx2, h, is1, is2, is6, Ty.is, ha, hb]
    rw [hq]
    simp [errAt]
end K81

namespace K81
open PySem PySem.Spec PyProof.Rows L2 Sd
theorem for_inv {α : Type} (enc : α → D) (i : Nat) (body : DEnv → FR) (I : Nat → DEnv → Prop) : ∀ (as : List α) (k : Nat) (ρ : DEnv), (∀ j a ρ, as[j]? = some a → I (k + j) ρ → ∃ ρ2, body (ρ.set i (some (enc a))) = .nx ρ2 ∧ I (k + j + 1) ρ2) → I k ρ →
    ∃ ρ2, evFor (.nm i) body (as.map enc) ρ = .nx (ρ2.set i none) ∧ I (k + as.length) ρ2
  | [], k, ρ, _, h0 => ⟨ρ, rfl, h0⟩
  | a :: as, k, ρ, h, h0 => by
    obtain ⟨ρ1, e1, i1⟩ := h 0 a ρ rfl h0
    obtain ⟨ρ2, e2, i2⟩ := for_inv enc i body I as (k + 1) ρ1 (fun j b ρ hj hi => by
      have := h (j + 1) b ρ (by simpa using hj)
      rw [show k + (j + 1) = k + 1 + j by omega] at this
      exact this hi) i1
    refine ⟨ρ2, ?_, by rw [List.length_cons, Nat.add_comm as.length 1, ← Nat.add_assoc]; exact i2⟩
    rw [List.map_cons]
    simp only [evFor, Tg.set]
    rw [e1]
    exact e2
theorem atI_ex {α : Type} (xs : List α) (i : Int) (h0 : 0 ≤ i) (h : i < xs.length) : ∃ c, atI xs i = some c ∧ c ∈ xs := by
  obtain ⟨j, rfl⟩ : ∃ j : Nat, i = (j : Int) := ⟨i.toNat, by omega⟩
  have hj : j < xs.length := by omega
  exact ⟨xs[j], atI_nat (by simp [hj]), List.getElem_mem hj⟩
theorem p8 (n : Int) : ∃ t, phi8 [.int n] = .ok (.str t) ∧ t.length ≤ 54 := by
  simp only [phi8, phiOf, S8, N8, initE, List.length, List.map, List.replicate, List.cons_append, List.nil_append]
  have hr : evWk .rng1 [.int (n % 54)] = some ((List.range (n % 54).toNat).map fun (i : Nat) => D.int (i : Int)) := wk_rng1 (by omega) (by omega)
  obtain ⟨ρ2, e, own, t, o, rfl, ht⟩ := for_inv (fun k : Nat => D.int (k : Int)) 2 (evS (semOf exNames.length tab8 globF) (.seq (.set 0 (.op .add (.cons (.op .mul (.cons (.op .fdiv (.cons (.var 0) (.cons (.int 54) .nil))) (.cons (.op .int (.cons (.op .eq (.cons (.var 2) (.cons (.int 0) .nil))) .nil)) .nil))) (.cons (.op .mul (.cons (.op .fdiv (.cons (.var 0) (.cons (.int 16) .nil))) (.cons (.op .int (.cons (.op .gt (.cons (.var 2) (.cons (.int 0) .nil))) .nil)) .nil))) .nil)))) (.seq (.set 1 (.op .add (.cons (.var 1) (.cons (.op .idx (.cons (.str [48, 49, 50, 51, 63, 35, 63, 47, 35, 52, 63, 53, 47, 56, 45, 57]) (.cons (.op .mod (.cons (.var 0) (.cons (.int 16) .nil))) .nil))) .nil)))) .nil)))
    (fun k ρ => ∃ own t o, ρ = [some (.int own), some (.str t), o] ∧ t.length = k ∧ k ≤ 54) (List.range (n % 54).toNat) 0 [some (.int n), some (.str []), none] (by
      rintro j a ρ hj ⟨own, t, o, rfl, ht, hk⟩
      simp only [Nat.zero_add] at ht hk ⊢
      have hj2 := (List.getElem?_eq_some_iff.mp hj).1
      simp only [List.length_range] at hj2
      have key : ∀ x : Int, ∃ c, atI [48, 49, 50, 51, 63, 35, 63, 47, 35, 52, 63, 53, 47, 56, 45, 57] (x % 16) = some c := fun x => let ⟨c, h, _⟩ := atI_ex [48, 49, 50, 51, 63, 35, 63, 47, 35, 52, 63, 53, 47, 56, 45, 57] (x % 16) (by omega) (by show x % 16 < 16; omega); ⟨c, h⟩
      by_cases ha : a = 0
      · subst ha
        obtain ⟨c, hc⟩ := key (own / 54 * 1 + own / 16 * 0)
        have := o_add_str (x := t) (y := [c]) (by simp; omega)
        have hc' : atI [48, 49, 50, 51, 63, 35, 63, 47, 35, 52, 63, 53, 47, 56, 45, 57] (own / 54 % 16) = some c := by rw [← hc]; congr 1; omega
        exact ⟨[some (.int (own / 54)), some (.str (t ++ [c])), some (.int 0)], by simp (disch := omega) [o_fdiv_int, o_mul_int, o_mod_int, o_idx_str hc', this], own / 54, t ++ [c], _, rfl, by rw [List.length_append, ht]; rfl, by omega⟩
      · have ha' : (0 : Int) < a := by omega
        have ha'' : ¬ (a : Int) = 0 := by omega
        obtain ⟨c, hc⟩ := key (own / 16)
        have := o_add_str (x := t) (y := [c]) (by simp; omega)
        have hap : 0 < a := by omega
        exact ⟨[some (.int (own / 16)), some (.str (t ++ [c])), some (.int a)], by simp (disch := omega) [o_fdiv_int, o_mul_int, o_mod_int, ha, ha', ha'', hap, o_idx_str hc, this], own / 16, t ++ [c], _, rfl, by rw [List.length_append, ht]; rfl, by omega⟩) ⟨n, [], none, rfl, rfl, by omega⟩
  refine ⟨t, ?_, by omega⟩
  simp (disch := omega) [o_mod_int]
  rw [es_for]
  simp (disch := omega) [o_mod_int, hr]
  simp at e
  rw [e]
  simp
end K81

namespace K81
open PySem PySem.Spec PyProof.Rows L2 Sd
theorem sum_le (rows : List (List Nat)) (h : ∀ r ∈ rows, r.length ≤ 8) : (rows.map List.length).sum ≤ 8 * rows.length := by
  induction rows with
  | nil => simp
  | cons a l ih =>
    have := ih fun r hr => h r (List.mem_cons_of_mem _ hr)
    have h1 := h a List.mem_cons_self
    simp only [List.map_cons, List.sum_cons, List.length_cons]
    omega
theorem o_join {s : List Nat} {t : Tag} {rows : List (List Nat)} (h : (rows.map List.length).sum + rows.length * s.length < 1000) : evOp .join [.str s, .lst t (rows.map .str)] = some (.str (TL.joinL s rows)) := by
  show (strs? (rows.map D.str)).bind _ = _
  rw [Sd.strs_map]
  exact if_pos (Nat.lt_trans h (by decide))
theorem o_str_int {i : Int} (h : 0 ≤ i) (h2 : i < 1000000000000) : evOp .str [.int i] = some (.str (TL.numL i.toNat)) := if_pos ⟨h, h2⟩
theorem numL_len (n : Nat) (h : n < 100000) : (TL.numL n).length ≤ 5 := TL.numL_len (by decide) h
abbrev M7 : Sem := semOf exNames.length tab7 globF
theorem s7a (head : List Nat) (R : D) (bits cell : Int) (hh : head.length ≤ 5) : ∃ h', h'.length ≤ 7 ∧ evS M7 (.ife (.op .eq (.cons (.op .mod (.cons (.var 2) (.cons (.int 3) .nil))) (.cons (.int 1) .nil))) (.seq (.set 0 (.op .idx (.cons (.lst (.cons (.op .add (.cons (.str [48]) (.cons (.var 0) .nil))) (.cons (.op .add (.cons (.str [45]) (.cons (.var 0) .nil))) (.cons (.op .add (.cons (.str [43]) (.cons (.var 0) .nil))) (.cons (.op .add (.cons (.str [32]) (.cons (.var 0) .nil))) (.cons (.op .add (.cons (.var 0) (.cons (.str [32]) .nil))) (.cons (.str []) (.cons (.str [49, 48, 48, 48, 48]) (.cons (.op .add (.cons (.var 0) (.cons (.str [95, 48]) .nil))) .nil))))))))) (.cons (.op .mod (.cons (.var 3) (.cons (.int 8) .nil))) .nil)))) .nil) .nil) [some (.str head), some R, some (.int bits), some (.int cell), none, none] = .nx [some (.str h'), some R, some (.int bits), some (.int cell), none, none] := by
  have a1 : ∀ x y : List Nat, x.length + y.length < 1000 → evOp .add [.str x, .str y] = some (.str (x ++ y)) := fun x y h => o_add_str (by omega)
  by_cases hb : bits % 3 = 1
  · obtain ⟨d, hd, hm⟩ := atI_ex [D.str (48 :: head), D.str (45 :: head), D.str (43 :: head), D.str (32 :: head), D.str (head ++ [32]), D.str [], D.str [49, 48, 48, 48, 48], D.str (head ++ [95, 48])] (cell % 8) (by omega) (by show cell % 8 < 8; omega)
    have : ∃ h', d = .str h' ∧ h'.length ≤ 7 := by
      simp only [List.mem_cons, List.not_mem_nil, or_false] at hm
      rcases hm with rfl | rfl | rfl | rfl | rfl | rfl | rfl | rfl <;> exact ⟨_, rfl, by simp; try omega⟩
    obtain ⟨h', rfl, hl⟩ := this
    refine ⟨h', hl, ?_⟩
    have b1 := a1 [48] head (by simp; omega)
    have b2 := a1 [45] head (by simp; omega)
    have b3 := a1 [43] head (by simp; omega)
    have b4 := a1 [32] head (by simp; omega)
    have b5 := a1 head [32] (by simp; omega)
    have b6 := a1 head [95, 48] (by simp; omega)
    simp (disch := omega) [o_mod_int, hb, b1, b2, b3, b4, b5, b6, o_idx_lst hd]
  · refine ⟨head, by omega, ?_⟩
    simp (disch := omega) [o_mod_int, hb]
theorem s7b (head : List Nat) (R : D) (bits cell : Int) (hh : head.length ≤ 7) : ∃ h', h'.length ≤ 7 ∧ evS M7 (.ife (.op .eq (.cons (.op .mod (.cons (.var 2) (.cons (.int 3) .nil))) (.cons (.int 2) .nil))) (.seq (.set 0 (.op .str (.cons (.op .add (.cons (.int 65) (.cons (.op .mod (.cons (.var 3) (.cons (.int 9935) .nil))) .nil))) .nil))) .nil) .nil) [some (.str head), some R, some (.int bits), some (.int cell), none, none] = .nx [some (.str h'), some R, some (.int bits), some (.int cell), none, none] := by
  by_cases hb : bits % 3 = 2
  · refine ⟨TL.numL (65 + cell % 9935).toNat, Nat.le_trans (numL_len _ (by omega)) (by omega), ?_⟩
    simp (disch := omega) [o_mod_int, hb, o_str_int]
  · refine ⟨head, by omega, ?_⟩
    simp (disch := omega) [o_mod_int, hb]
theorem joinL_len0 (s : List Nat) (ys : List (List Nat)) : (TL.joinL s ys).length ≤ (ys.map List.length).sum + ys.length * s.length := @joinL_len ⟨fun _ _ => False, fun _ => .none⟩ s ys
theorem o_app (t u : Tag) (xs ys : List D) (h : xs.length + ys.length < 1000) : evOp .add [.lst t xs, .lst u ys] = some (.lst .own (xs ++ ys)) := if_pos (Nat.lt_trans h (by decide))
theorem p7 (head : List Nat) (rows : List (List Nat)) (bits cell : Int) (hh : head.length ≤ 5) (hr1 : 1 ≤ rows.length) (hr : rows.length ≤ 8) (hrs : ∀ r ∈ rows, r.length ≤ 8) : ∃ t, phi7 [.str head, .lst .any (rows.map .str), .int bits, .int cell] = .ok (.str t) ∧ t.length < 1000 := by
  simp only [phi7, phiOf, S7, N7, initE, List.length, List.map, List.replicate, List.cons_append, List.nil_append]
  obtain ⟨h1, l1, e1⟩ := s7a head (.lst .any (rows.map .str)) bits cell hh
  obtain ⟨h2, l2, e2⟩ := s7b h1 (.lst .any (rows.map .str)) bits cell l1
  have hs := sum_le rows hrs
  simp only [M7] at e1 e2
  rw [es_seq]
  erw [e1]
  rw [FR.bind_nx, es_seq, e2, FR.bind_nx]
  have hj : evOp .join [.str [47], .lst .new (D.str h2 :: rows.map D.str)] = some (.str (TL.joinL [47] (h2 :: rows))) := o_join (rows := h2 :: rows) (by simp; omega)
  have hj0 : evOp .join [.str [], .lst .any (rows.map .str)] = some (.str (TL.joinL [] rows)) := o_join (by simp; omega)
  have lj := joinL_len0 [47] (h2 :: rows)
  have lj0 := joinL_len0 [] rows
  have lj1 : 1 ≤ (TL.joinL [47] (h2 :: rows)).length := by
    cases rows with
    | nil => simp at hr1
    | cons r rest =>
      show 1 ≤ (h2 ++ ([47] ++ TL.joinL [47] (r :: rest))).length
      simp only [List.length_append, List.length_singleton]
      omega
  simp only [List.map_cons, List.sum_cons, List.length_cons, List.length_nil] at lj
  simp only [List.length_nil, Nat.mul_zero] at lj0
  generalize hT : TL.joinL [47] (h2 :: rows) = T at hj lj lj1
  generalize hT0 : TL.joinL [] rows = T0 at hj0 lj0
  have lT : T.length ≤ 100 := by omega
  have lT0 : T0.length ≤ 100 := by omega
  have ea : evOp .add [.lst .new [.str h2], .lst .any (rows.map .str)] = some (.lst .own (D.str h2 :: rows.map .str)) := o_app _ _ _ _ (by simp; omega)
  have a1 : ∀ x y : List Nat, x.length + y.length < 1000 → evOp .add [.str x, .str y] = some (.str (x ++ y)) := fun x y h => o_add_str (by omega)
  have b1 := a1 h2 T0 (by omega)
  have b2 := a1 T [47] (by simp; omega)
  by_cases c1 : bits / 3 % 6 = 1
  · refine ⟨h2 ++ T0, ?_, by simp; omega⟩
    simp (disch := omega) [o_mod_int, o_fdiv_int, ea, hj, hj0, c1, b1]
  · by_cases c2 : bits / 3 % 6 = 2
    · refine ⟨T ++ [47], ?_, by simp; omega⟩
      simp (disch := omega) [o_mod_int, o_fdiv_int, ea, hj, c2, b2]
    · by_cases c3 : bits / 3 % 6 = 3
      · have hrp : evOp .repl [.str T, .str [47], .str [47, 47], .int 1] = some (.str (replL T [47] [47, 47])) := if_pos ⟨rfl, by show T.length + (T.length + 1) * 2 < 1000000; omega, by decide⟩
        have hl : (replL T [47] [47, 47]).length ≤ T.length + (T.length + 1) * 2 := by
          have h := replS_len ⟨T.toArray⟩ ⟨[47].toArray⟩ ⟨[47, 47].toArray⟩
          have e1 : (⟨T.toArray⟩ : Str).length = T.length := by show T.toArray.size = _; simp
          have e2 : (replL T [47] [47, 47]).length = (replS ⟨T.toArray⟩ ⟨[47].toArray⟩ ⟨[47, 47].toArray⟩).length := Array.length_toList
          rw [e2]
          rw [e1] at h
          exact h
        refine ⟨replL T [47] [47, 47], ?_, by omega⟩
        simp (disch := omega) [o_mod_int, o_fdiv_int, ea, hj, c3, hrp]
      · by_cases c4 : bits / 3 % 6 = 4
        · have lp : (0 : Int) < T.length := by omega
          obtain ⟨d, hd, hm⟩ := atI_ex [D.str [57], D.str [111], D.str [32], D.str [10], D.str [46]] (cell / 640 % 5) (by omega) (by show cell / 640 % 5 < 5; omega)
          have : ∃ c, d = .str [c] := by
            simp only [List.mem_cons, List.not_mem_nil, or_false] at hm
            rcases hm with rfl | rfl | rfl | rfl | rfl <;> exact ⟨_, rfl⟩
          obtain ⟨c, rfl⟩ := this
          have s1 : ∀ i, evOp (.slc false true) [.str T, .int i] = some (.str (sliceN T none (some i))) := fun _ => rfl
          have s2 : ∀ i, evOp (.slc true false) [.str T, .int i] = some (.str (sliceN T (some i) none)) := fun _ => rfl
          have k1 := fun i => @sliceN_len ⟨fun _ _ => False, fun _ => .none⟩ _ T none (some i)
          have k2 := fun i => @sliceN_len ⟨fun _ _ => False, fun _ => .none⟩ _ T (some i) none
          have j1 := k1 (cell / 8 % T.length)
          have j2 := k2 (cell / 8 % T.length + 1)
          have b3 := a1 (sliceN T none (some (cell / 8 % T.length))) [c] (by simp; omega)
          have b4 := a1 (sliceN T none (some (cell / 8 % T.length)) ++ [c]) (sliceN T (some (cell / 8 % T.length + 1)) none) (by simp; omega)
          refine ⟨sliceN T none (some (cell / 8 % T.length)) ++ [c] ++ sliceN T (some (cell / 8 % T.length + 1)) none, ?_, by simp; omega⟩
          simp only [List.append_assoc, List.cons_append, List.nil_append] at b4 ⊢
          simp (disch := omega) [o_mod_int, o_fdiv_int, ea, hj, c4, s1, s2, o_idx_lst hd, b3, b4]
        · refine ⟨T, ?_, by omega⟩
          simp (disch := omega) [o_mod_int, o_fdiv_int, ea, hj, c1, c2, c3, c4]
end K81

namespace K81
open PySem PySem.Spec PyProof.Rows L2 Sd
abbrev M6 : Sem := semOf exNames.length tab6 globF
@[simp] theorem tab6_4 : tab6 4 = phi4 := rfl
@[simp] theorem tab6_5 : tab6 5 = phi5 := rfl
abbrev sg : List Nat := [48, 49, 50, 51, 52, 53, 54, 55, 56, 63, 63, 35]
abbrev inner6 : S := (.seq (.set 9 (.op .add (.cons (.op .mul (.cons (.int 8) (.cons (.var 5) .nil))) (.cons (.var 8) .nil)))) (.seq (.set 10 (.call 5 (.cons (.call 4 (.cons (.var 0) (.cons (.op .add (.cons (.int 2) (.cons (.op .mod (.cons (.var 9) (.cons (.int 60) .nil))) .nil))) .nil))) (.cons (.var 9) .nil)))) (.seq (.ife (.op .eq (.cons (.op .mod (.cons (.op .fdiv (.cons (.call 4 (.cons (.var 0) (.cons (.int 0) .nil))) (.cons (.int 8) .nil))) (.cons (.int 2) .nil))) (.cons (.int 0) .nil))) (.seq (.set 10 (.var 6)) (.seq (.set 6 (.op .fdiv (.cons (.var 6) (.cons (.op .len (.cons (.var 1) .nil)) .nil)))) .nil)) .nil) (.seq (.set 7 (.op .add (.cons (.var 7) (.cons (.op .idx (.cons (.var 1) (.cons (.op .mod (.cons (.var 10) (.cons (.op .len (.cons (.var 1) .nil)) .nil))) .nil))) .nil)))) .nil))))
theorem key12 (x : Int) : ∃ c, atI sg (x % 12) = some c := let ⟨c, h, _⟩ := atI_ex sg (x % 12) (by omega) (by show x % 12 < 12; omega); ⟨c, h⟩
theorem t6in (ns : List Int) (hi wi : Int) (rows : List D) (r : Nat) (o6 o7 o9 o10 : Option D) (own : Int) (w : Nat) (hw : w ≤ 8) (hr : r ≤ 100) (o8 : Option D) :
    ∃ own' t' x9 x10, evFor (.nm 8) (evS M6 inner6) ((List.range w).map fun i : Nat => D.int (i : Int)) [some (.lst .any (ns.map .int)), some (.str sg), some (.int hi), some (.int wi), some (.lst .own rows), some (.int r), some (.int own), some (.str []), o8, o9, o10]
      = .nx [some (.lst .any (ns.map .int)), some (.str sg), some (.int hi), some (.int wi), some (.lst .own rows), some (.int r), some (.int own'), some (.str t'), none, x9, x10] ∧ t'.length = w := by
  obtain ⟨ρ2, e, own', t', x8, x9, x10, rfl, ht, _⟩ := for_inv (fun k : Nat => D.int (k : Int)) 8 (evS M6 inner6)
    (fun k ρ => ∃ own t x8 x9 x10, ρ = [some (.lst .any (ns.map .int)), some (.str sg), some (.int hi), some (.int wi), some (.lst .own rows), some (.int r), some (.int own), some (.str t), x8, x9, x10] ∧ t.length = k ∧ k ≤ 8) (List.range w) 0 _ (by
      rintro j a ρ hj ⟨own, t, x8, x9, x10, rfl, ht, hk⟩
      simp only [Nat.zero_add] at ht hk ⊢
      have hj2 := (List.getElem?_eq_some_iff.mp hj).1
      have hj3 : a = j := by simpa using (List.getElem?_eq_some_iff.mp hj).2.symm
      simp only [List.length_range] at hj2
      subst hj3
      have q1 := p4 ns (2 + (8 * (r : Int) + a) % 60) (by omega)
      have q2 := p4 ns 0 (by omega)
      have q3 := p5 (cellAt ns (2 + (8 * (r : Int) + a) % 60)) (8 * (r : Int) + a)
      by_cases hb : cellAt ns 0 / 8 % 2 = 0
      · obtain ⟨c, hc⟩ := key12 own
        have b1 := o_add_str (x := t) (y := [c]) (by simp; omega)
        refine ⟨[some (.lst .any (ns.map .int)), some (.str sg), some (.int hi), some (.int wi), some (.lst .own rows), some (.int r), some (.int (own / 12)), some (.str (t ++ [c])), some (.int a), some (.int (8 * (r : Int) + a)), some (.int own)], ?_, own / 12, t ++ [c], _, _, _, rfl, by rw [List.length_append, ht]; rfl, by omega⟩
        simp (disch := omega) [o_mul_int, o_mod_int, o_fdiv_int, q1, q2, q3, hb, o_idx_str hc, b1]
      · obtain ⟨c, hc⟩ := key12 (mixed (cellAt ns (2 + (8 * (r : Int) + a) % 60)) (8 * (r : Int) + a))
        have b1 := o_add_str (x := t) (y := [c]) (by simp; omega)
        refine ⟨[some (.lst .any (ns.map .int)), some (.str sg), some (.int hi), some (.int wi), some (.lst .own rows), some (.int r), some (.int own), some (.str (t ++ [c])), some (.int a), some (.int (8 * (r : Int) + a)), some (.int (mixed (cellAt ns (2 + (8 * (r : Int) + a) % 60)) (8 * (r : Int) + a)))], ?_, own, t ++ [c], _, _, _, rfl, by rw [List.length_append, ht]; rfl, by omega⟩
        simp (disch := omega) [o_mul_int, o_mod_int, o_fdiv_int, q1, q2, q3, hb, o_idx_str hc, b1]) ⟨own, [], o8, o9, o10, rfl, rfl, by omega⟩
  refine ⟨own', t', x9, x10, ?_, by simpa using ht⟩
  rw [e]
  rfl
theorem es_app {M : Sem} {i : Nat} {e : E} {ρ ρ' : DEnv} {xs ys : List D} {d : D} (h : ρ[i]? = some (some (.lst .own ys))) (he : evE M e ρ = .ok d ρ') (h2 : ρ'[i]? = some (some (.lst .own xs))) (hl : xs.length + 1 < 1000000) : evS M (.app i e) ρ = .nx (ρ'.set i (some (.lst .own (xs ++ [d.dem])))) := by
  simp only [evS, h, he, R.toFR_ok, h2]
  exact if_pos hl
abbrev outer6 : S := (.seq (.set 6 (.call 4 (.cons (.var 0) (.cons (.op .add (.cons (.int 2) (.cons (.var 5) .nil))) .nil)))) (.seq (.set 7 (.str [])) (.seq (.forS .rng1 (.cons (.var 3) .nil) (.nm 8) inner6) (.seq (.app 4 (.var 7)) .nil))))
theorem e6app (x0 x1 x2 x3 x5 x6 : Option D) (rows : List (List Nat)) (t' : List Nat) (z9 z10 : Option D) (h : rows.length < 1000) : evS M6 (.app 4 (.var 7)) [x0, x1, x2, x3, some (.lst .own (rows.map D.str)), x5, x6, some (.str t'), none, z9, z10] = .nx [x0, x1, x2, x3, some (.lst .own ((rows ++ [t']).map D.str)), x5, x6, some (.str t'), none, z9, z10] := by
  rw [es_app (d := .str t') (ρ' := [x0, x1, x2, x3, some (.lst .own (rows.map D.str)), x5, x6, some (.str t'), none, z9, z10]) (ys := rows.map D.str) (xs := rows.map D.str) rfl (by simp) rfl (by rw [List.length_map]; omega)]
  rw [List.map_append]
  rfl
theorem hwk6 (w : Nat) (hw : w ≤ 8) : evWk .rng1 [.int (w : Int)] = some ((List.range w).map fun i : Nat => D.int (i : Int)) := by rw [wk_rng1 (by omega) (by omega), Int.toNat_natCast]
theorem ev_rng {M : Sem} {ρ : DEnv} {i w : Nat} (h : ρ[i]? = some (some (.int (w : Int)))) (h2 : ρ.set i (some (.int (w : Int))) = ρ) (hw : w ≤ 8) : evI M .rng1 (.cons (.var i) .nil) ρ = .ok ((List.range w).map fun i : Nat => D.int (i : Int)) ρ := by
  have e : evV M (.cons (.var i) .nil) ρ = .ok [.int (w : Int)] ρ := by
    rw [evv_cons, ev_var, h, lkR_some, R.bind_dem, evv_nil, R.bind_dem]
    show R.ok [D.int (w : Int)] (ρ.set i (some (D.int (w : Int)))) = _
    rw [h2]
  rw [evI_lst, e, R.bind_dem, hwk6 w hw]
theorem toFR_dem {α : Type} (a : α) (ρ : DEnv) (f : α → DEnv → FR) : (R.ok a ρ).toFR f = f a ρ := rfl
theorem st_set {M : Sem} {i : Nat} {e : E} {ρ ρ1 ρ2 : DEnv} {d : D} (he : evE M e ρ = .ok d ρ1) (hs : ρ1.set i (some d) = ρ2) : evS M (.set i e) ρ = .nx ρ2 := by
  rw [es_set, he, toFR_dem, hs]
theorem e6for (ns : List Int) (hi : Int) (w : Nat) (hw : w ≤ 8) (rows : List (List Nat)) (a : Nat) (ha : a ≤ 100) (c : Int) (y8 y9 y10 : Option D) : ∃ own' t' z9 z10, evS M6 (.forS .rng1 (.cons (.var 3) .nil) (.nm 8) inner6) [some (.lst .any (ns.map .int)), some (.str sg), some (.int hi), some (.int w), some (.lst .own (rows.map D.str)), some (.int a), some (.int c), some (.str []), y8, y9, y10] = .nx [some (.lst .any (ns.map .int)), some (.str sg), some (.int hi), some (.int w), some (.lst .own (rows.map D.str)), some (.int a), some (.int own'), some (.str t'), none, z9, z10] ∧ t'.length = w := by
  obtain ⟨own', t', z9, z10, e1, l1⟩ := t6in ns hi w (rows.map D.str) a none none y9 y10 c w hw ha y8
  refine ⟨own', t', z9, z10, ?_, l1⟩
  rw [es_for, ev_rng (w := w) rfl rfl hw, toFR_dem]
  exact e1
theorem e6c {ns : List Int} {a : Nat} {x1 x2 x3 x4 y6 y7 y8 y9 y10 : Option D} : evE M6 (.call 4 (.cons (.var 0) (.cons (.op .add (.cons (.int 2) (.cons (.var 5) .nil))) .nil))) [some (.lst .any (ns.map .int)), x1, x2, x3, x4, some (.int (a : Int)), y6, y7, y8, y9, y10] = .ok (.int (cellAt ns (2 + (a : Int)))) [some (.lst .any (ns.map .int)), x1, x2, x3, x4, some (.int (a : Int)), y6, y7, y8, y9, y10] := by
  have q1 := p4 ns (2 + (a : Int)) (by omega)
  simp [q1]
theorem e6body (ns : List Int) (hi : Int) (w : Nat) (hw : w ≤ 8) (rows : List (List Nat)) (a : Nat) (ha : rows.length = a) (ha8 : a ≤ 8) (y6 y7 y8 y9 y10 : Option D) : ∃ own' t' z9 z10, evS M6 outer6 [some (.lst .any (ns.map .int)), some (.str sg), some (.int hi), some (.int w), some (.lst .own (rows.map D.str)), some (.int a), y6, y7, y8, y9, y10] = .nx [some (.lst .any (ns.map .int)), some (.str sg), some (.int hi), some (.int w), some (.lst .own ((rows ++ [t']).map D.str)), some (.int a), some (.int own'), some (.str t'), none, z9, z10] ∧ t'.length = w := by
  obtain ⟨own', t', z9, z10, e2, l1⟩ := e6for ns hi w hw rows a (by omega) (cellAt ns (2 + (a : Int))) y8 y9 y10
  have e3 := e6app (some (.lst .any (ns.map .int))) (some (.str sg)) (some (.int hi)) (some (.int w)) (some (.int a)) (some (.int own')) rows t' z9 z10 (by omega)
  refine ⟨own', t', z9, z10, ?_, l1⟩
  rw [es_seq, st_set e6c rfl, FR.bind_nx, es_seq, st_set (ev_str _) rfl, FR.bind_nx, es_seq]
  erw [e2]
  rw [FR.bind_nx, es_seq]
  erw [e3]
  rfl
/-- the names' state of the outer loop -/
def I6 (ns : List Int) (hi : Int) (w : Nat) (k : Nat) (ρ : DEnv) : Prop := ∃ (rows : List (List Nat)) (y5 y6 y7 y8 y9 y10 : Option D), ρ = [some (.lst .any (ns.map .int)), some (.str sg), some (.int hi), some (.int w), some (.lst .own (rows.map D.str)), y5, y6, y7, y8, y9, y10] ∧ rows.length = k ∧ k ≤ 8 ∧ ∀ r ∈ rows, r.length ≤ 8
theorem e6step (ns : List Int) (hi : Int) (w : Nat) (hw : w ≤ 8) (j : Nat) (hj : j < 8) (ρ : DEnv) (h : I6 ns hi w j ρ) : ∃ ρ2, evS M6 outer6 (ρ.set 5 (some (.int (j : Int)))) = .nx ρ2 ∧ I6 ns hi w (j + 1) ρ2 := by
  obtain ⟨rows, y5, y6, y7, y8, y9, y10, rfl, ht, hk, hr⟩ := h
  obtain ⟨own', t', z9, z10, e, l⟩ := e6body ns hi w hw rows j ht hk y6 y7 y8 y9 y10
  refine ⟨_, e, rows ++ [t'], _, _, _, _, _, _, rfl, by rw [List.length_append, ht]; rfl, by omega, fun r hx => ?_⟩
  rcases List.mem_append.mp hx with hx | hx
  · exact hr r hx
  · rw [List.mem_singleton.mp hx, l]; exact hw
theorem t6out (ns : List Int) (hi : Int) (w h : Nat) (hw : w ≤ 8) (hh : h ≤ 8) (x5 x6 x7 x8 x9 x10 : Option D) :
    ∃ (rows : List (List Nat)) (y6 y7 y8 y9 y10 : Option D), evFor (.nm 5) (evS M6 outer6) ((List.range h).map fun i : Nat => D.int (i : Int)) [some (.lst .any (ns.map .int)), some (.str sg), some (.int hi), some (.int w), some (.lst .own []), x5, x6, x7, x8, x9, x10]
      = .nx [some (.lst .any (ns.map .int)), some (.str sg), some (.int hi), some (.int w), some (.lst .own (rows.map D.str)), none, y6, y7, y8, y9, y10] ∧ rows.length = h ∧ ∀ r ∈ rows, r.length ≤ 8 := by
  have h0 : I6 ns hi w 0 [some (.lst .any (ns.map .int)), some (.str sg), some (.int hi), some (.int w), some (.lst .own []), x5, x6, x7, x8, x9, x10] := ⟨[], x5, x6, x7, x8, x9, x10, rfl, rfl, by omega, fun r h => by cases h⟩
  obtain ⟨ρ2, e, i2⟩ := for_inv (fun k : Nat => D.int (k : Int)) 5 (evS M6 outer6) (I6 ns hi w) (List.range h) 0 _ (fun j a ρ hj hi' => by
    have hj2 := (List.getElem?_eq_some_iff.mp hj).1
    have hj3 : a = j := by simpa using (List.getElem?_eq_some_iff.mp hj).2.symm
    simp only [List.length_range] at hj2
    subst hj3
    rw [Nat.zero_add] at hi' ⊢
    exact e6step ns hi w hw a (by omega) ρ hi') h0
  rw [List.length_range, Nat.zero_add] at i2
  obtain ⟨rows, y5, y6, y7, y8, y9, y10, rfl, ht, _, hr⟩ := i2
  exact ⟨rows, y6, y7, y8, y9, y10, e, ht, hr⟩
theorem p6 (ns : List Int) : ∃ rows : List (List Nat), phi6 [.lst .any (ns.map .int), .str sg] = .ok (.lst .own (rows.map .str)) ∧ 1 ≤ rows.length ∧ rows.length ≤ 8 ∧ ∀ r ∈ rows, r.length ≤ 8 := by
  have q0 := p4 ns 0 (by omega)
  have q1 := p4 ns 1 (by omega)
  have hh : (1 + cellAt ns 0 % 8).toNat ≤ 8 := by omega
  have hw : (1 + cellAt ns 1 % 8).toNat ≤ 8 := by omega
  obtain ⟨rows, y6, y7, y8, y9, y10, e, hl, hr⟩ := t6out ns (1 + cellAt ns 0 % 8) (1 + cellAt ns 1 % 8).toNat (1 + cellAt ns 0 % 8).toNat hw hh none none none none none none
  rw [Int.toNat_of_nonneg (by omega)] at e
  refine ⟨rows, ?_, by omega, by omega, hr⟩
  simp only [phi6, phiOf, S6, N6, initE, List.length, List.map, List.replicate, List.cons_append, List.nil_append]
  have hwk : evWk .rng1 [.int (1 + cellAt ns 0 % 8)] = some ((List.range (1 + cellAt ns 0 % 8).toNat).map fun i : Nat => D.int (i : Int)) := wk_rng1 (by omega) (by omega)
  have e2 : evS M6 (.forS .rng1 (.cons (.var 2) .nil) (.nm 5) outer6) [some (.lst .any (ns.map .int)), some (.str sg), some (.int (1 + cellAt ns 0 % 8)), some (.int (1 + cellAt ns 1 % 8)), some (.lst .own []), none, none, none, none, none, none] = .nx [some (.lst .any (ns.map .int)), some (.str sg), some (.int (1 + cellAt ns 0 % 8)), some (.int (1 + cellAt ns 1 % 8)), some (.lst .own (rows.map D.str)), none, y6, y7, y8, y9, y10] := by
    rw [es_for]
    simp only [evI_lst, evv_cons, ev_var, gt2, lkR_some, R.bind_dem, evv_nil, dem_int, hwk, R.toFR_ok]
    exact e
  simp only [M6, outer6, inner6, sg] at e2 q0 q1
  simp (disch := omega) [o_mod_int, q0, q1, e2]
end K81

namespace K81
open PySem PySem.Spec PyProof.Rows L2 Sd
abbrev M12 : Sem := semOf exNames.length tab12 globF
@[simp] theorem tab12_4 : tab12 4 = phi4 := rfl
@[simp] theorem tab12_5 : tab12 5 = phi5 := rfl
@[simp] theorem tab12_6 : tab12 6 = phi6 := rfl
@[simp] theorem tab12_7 : tab12 7 = phi7 := rfl
@[simp] theorem tab12_8 : tab12 8 = phi8 := rfl
@[simp] theorem tab12_10 : tab12 10 = phi10 := rfl
@[simp] theorem tab12_11 : tab12 11 = phi11 := rfl
theorem ne_refl {d e : D} (h : dat2 d e = true) (h2 : D.eqv d e = true) : evOp .ne [d, e] = some (.bl false) := by
  show (if dat2 d e then some (D.bl (!D.eqv d e)) else none) = _
  rw [if_pos h, h2]; rfl
theorem eqv_strs (t u : Tag) (rows : List (List Nat)) : PyData.eqvAll (pys (rows.map D.str)) (pys (rows.map D.str)) = true := by
  induction rows with
  | nil => rfl
  | cons a l ih =>
    simp only [List.map_cons, pys, PyData.eqvAll, D.py, Bool.and_eq_true]
    exact ⟨by rw [eqv_str]; simp, ih⟩
theorem dats_strs (n : Nat) (rows : List (List Nat)) : dats n (rows.map D.str) = true := by
  induction rows with
  | nil => cases n <;> rfl
  | cons a l ih => simp only [List.map_cons, dats, ih, Bool.and_true]; cases n <;> rfl
theorem ne_ints (t u : Tag) (a b : Int) : evOp .ne [.lst t [.int a, .int b], .lst u [.int a, .int b]] = some (.bl false) := by
  refine ne_refl rfl ?_
  show PyData.eqv (.list [.int a, .int b]) (.list [.int a, .int b]) = true
  simp [PyData.eqv, PyData.eqvAll]
theorem ne_told (t u : Tag) (rows : List (List Nat)) (n : Int) : evOp .ne [.tup [.lst t (rows.map .str), .int n], .tup [.lst u (rows.map .str), .int n]] = some (.bl false) := by
  refine ne_refl (by simp [dat2, D.dat, dats, dats_strs]) ?_
  show PyData.eqv (.tuple [.list (pys (rows.map D.str)), .int n]) (.tuple [.list (pys (rows.map D.str)), .int n]) = true
  simp [PyData.eqv, PyData.eqvAll, eqv_strs t u]
abbrev body1 : S := (.seq (.setT (.tp [8, 9]) (.call 11 (.cons (.var 4) .nil))) (.seq (.ife (.and (.op .ge (.cons (.var 5) (.cons (.int 0) .nil))) (.or (.op .ne (.cons (.var 9) (.cons (.lst (.cons (.var 5) (.cons (.int 9) .nil))) .nil))) (.op .notN (.cons (.var 8) .nil)))) (.seq (.ret (.bl false)) .nil) .nil) (.seq (.ife (.and (.op .lt (.cons (.var 5) (.cons (.int 0) .nil))) (.or (.op .ne (.cons (.var 9) (.cons (.lst .nil) .nil))) (.op .ne (.cons (.var 8) (.cons (.tup (.cons (.op (.slc true false) (.cons (.me .str .split (.var 4) (.cons (.str [47]) .nil)) (.cons (.int 1) .nil))) (.cons (.op .int (.cons (.op .idx (.cons (.me .str .split (.var 4) (.cons (.str [47]) .nil)) (.cons (.int 0) .nil))) .nil)) .nil))) .nil))))) (.seq (.ret (.bl false)) .nil) .nil) .nil)))
theorem p11_str (t : List Nat) (ht : t.length < 1000) : (∃ d e, phi11 [.str t] = .ok (.tup [d, e]) ∧ d.tg Tag.dem = d ∧ e.tg Tag.dem = e ∧ ((0 ≤ dueS t ∧ d = .non ∧ e = .lst .new [.int (dueS t), .int 9]) ∨ (dueS t = -1 ∧ 2 ≤ (pieces t).length ∧ isNum (p0w t) = true ∧ d = .tup [.lst .new ((rowsOf t).map .str), .int (numV (p0w t))] ∧ e = .lst .new []))) := by
  have h3 := p3 t (by omega)
  by_cases h : (pieces t).length < 2 ∨ isNum (p0w t) = false
  · have h3' : phi3 [.str t] = .err 6 := by rw [h3]; unfold readS; rw [if_pos h]
    have hd : dueS t = 0 := by unfold dueS; rw [if_pos h]
    exact ⟨_, _, p11_err (.inr (.inr rfl)) rfl rfl h3', rfl, rfl, .inl ⟨by omega, rfl, by rw [hd]; rfl⟩⟩
  · cases hr : rowsOk figs (rowsOf t) with
    | false =>
      have h3' : phi3 [.str t] = .err 1 := by rw [h3]; unfold readS; rw [if_neg h, hr]; rfl
      have hd : dueS t = 1 := by unfold dueS; rw [if_neg h, hr]; rfl
      exact ⟨_, _, p11_err (.inl rfl) rfl rfl h3', rfl, rfl, .inl ⟨by omega, rfl, by rw [hd]; rfl⟩⟩
    | true =>
      by_cases h6 : numV (p0w t) ≤ 64
      · have h3' : phi3 [.str t] = .ok (.tup [.lst .new ((rowsOf t).map .str), .int (numV (p0w t))]) := by rw [h3]; unfold readS; rw [if_neg h, hr, if_pos rfl, if_pos h6]
        have hd : dueS t = -1 := by unfold dueS; rw [if_neg h, hr, if_pos rfl, if_pos h6]
        have h1 : ¬ (pieces t).length < 2 := fun q => h (.inl q)
        have h2 : isNum (p0w t) = true := by
          cases q : isNum (p0w t) with
          | true => rfl
          | false => exact absurd (.inr q) h
        exact ⟨_, _, p11_ok rfl rfl h3' (by simp) (by simp), by simp, rfl, .inr ⟨hd, by omega, h2, rfl, rfl⟩⟩
      · have h3' : phi3 [.str t] = .err 2 := by rw [h3]; unfold readS; rw [if_neg h, hr, if_pos rfl, if_neg h6]
        have hd : dueS t = 2 := by unfold dueS; rw [if_neg h, hr, if_pos rfl, if_neg h6]
        exact ⟨_, _, p11_err (.inr (.inl rfl)) rfl rfl h3', rfl, rfl, .inl ⟨by omega, rfl, by rw [hd]; rfl⟩⟩
theorem t12a (x0 x1 x2 x3 x6 x7 x8 x9 : Option D) (t : List Nat) (ht : t.length < 1000) : ∃ d e, evS M12 body1 [x0, x1, x2, x3, some (.str t), some (.int (dueS t)), x6, x7, x8, x9] = .nx [x0, x1, x2, x3, some (.str t), some (.int (dueS t)), x6, x7, some d, some e] := by
  obtain ⟨d, e, h11, hd, he, h⟩ := p11_str t ht
  rcases h with ⟨h0, rfl, rfl⟩ | ⟨hm, h2, hn, rfl, rfl⟩
  · refine ⟨.non, .lst .new [.int (dueS t), .int 9], ?_⟩
    have h1 : ¬ dueS t < 0 := by omega
    have hq := ne_ints .new .new (dueS t) 9
    simp [h11, h0, h1, hq]
  · refine ⟨.tup [.lst .new ((rowsOf t).map .str), .int (numV (p0w t))], .lst .new [], ?_⟩
    have hq0 : evOp .ne [.lst .new [], .lst .new []] = some (.bl false) := rfl
    have hq1 := ne_told .new .new (rowsOf t) (numV (p0w t))
    have es : evOp (.slc true false) [.lst .new ((pieces t).map .str), .int 1] = some (.lst .own ((rowsOf t).map .str)) := by
      rw [slc1 (by simp; omega)]; unfold rowsOf; simp
    have es2 := o_split (t := t) (by omega)
    have e0 := atI0 t
    have ei := o_int_num hn
    simp [h11, hm, hq0, hq1, es, es2, o_idx_lst e0, ei]
abbrev body2 : S := (.seq (.ife (.op .ne (.cons (.call 11 (.cons (.var 7) .nil)) (.cons (.tup (.cons .non (.cons (.lst (.cons (.int 0) (.cons (.int 9) .nil))) .nil))) .nil))) (.seq (.ret (.bl false)) .nil) .nil) .nil)
theorem p3_not {d : D} (h : Ty.is (isaN exNames.length) .str d = some false) (hd : d.demIn = d) : phi3 [d] = .err 6 := by
  simp only [phi3, phiOf, S3, N3, initE, List.length, List.map, List.replicate, List.cons_append, List.nil_append]
  simp [hd, h]
theorem ne_non09 (t u : Tag) : evOp .ne [.tup [.non, .lst t [.int 0, .int 9]], .tup [.non, .lst u [.int 0, .int 9]]] = some (.bl false) := rfl
theorem t12b (x0 x1 x2 x3 x4 x5 x6 x8 x9 : Option D) (d : D) (h : Ty.is (isaN exNames.length) .str (d.tg fun _ => .any) = some false) (hd : d.demIn = d) (hx : (d.tg fun _ => .any).demIn = d.tg fun _ => .any) (hx2 : (d.tg fun _ => .any).tg (fun _ => .any) = d.tg fun _ => .any) : evS M12 body2 [x0, x1, x2, x3, x4, x5, x6, some d, x8, x9] = .nx [x0, x1, x2, x3, x4, x5, x6, some d, x8, x9] := by
  have h3 := p3_not h hx
  have h11 := p11_err (.inr (.inr rfl)) hx hx2 h3
  have hq := ne_non09 .new .new
  simp [hd, h11, errAt, hq]
end K81

namespace K81
open PySem PySem.Spec PyProof.Rows L2 Sd
abbrev things : List D := [.non, .int 3, .lst .new [.str [48], .str [63]], .tup [.str [48, 47, 63]], .bl true]
theorem law_ok (ns : List Int) (hn : ns.length ≤ 63) : phi12 [.lst .any (ns.map D.int)] = .ok (.bl true) := by
  obtain ⟨rows, h6, hr1, hr8, hrs⟩ := p6 ns
  have q61 := p4 ns 61 (by omega)
  have q62 := p4 ns 62 (by omega)
  have q60 := p4 ns 60 (by omega)
  have q5 := p5 (cellAt ns 61) 7
  generalize hb : mixed (cellAt ns 61) 7 = bits at q5
  generalize hc : cellAt ns 62 % 1000000000 = cell
  have hc0 : 0 ≤ cell := by omega
  obtain ⟨t1, h7, l7⟩ := p7 (TL.numL (cell % 65).toNat) rows bits cell (numL_len _ (by omega)) hr1 hr8 hrs
  obtain ⟨t2, h8, l8⟩ := p8 (cellAt ns 60)
  have e1 : evE M12 (.call 6 (.cons (.var 0) (.cons (.str sg) .nil))) [some (.lst .any (ns.map .int)), none, none, none, none, none, none, none, none, none] = .ok (.lst .own (rows.map .str)) [some (.lst .any (ns.map .int)), none, none, none, none, none, none, none, none, none] := by
    simp [h6]
  have e2 : evE M12 (.call 5 (.cons (.call 4 (.cons (.var 0) (.cons (.int 61) .nil))) (.cons (.int 7) .nil))) [some (.lst .any (ns.map .int)), some (.lst .own (rows.map .str)), none, none, none, none, none, none, none, none] = .ok (.int bits) [some (.lst .any (ns.map .int)), some (.lst .own (rows.map .str)), none, none, none, none, none, none, none, none] := by
    simp [q61, q5]
  have hp : evOp .pow [.int 10, .int 9] = some (.int 1000000000) := rfl
  have e3 : evE M12 (.op .mod (.cons (.call 4 (.cons (.var 0) (.cons (.int 62) .nil))) (.cons (.op .pow (.cons (.int 10) (.cons (.int 9) .nil))) .nil))) [some (.lst .any (ns.map .int)), some (.lst .own (rows.map .str)), some (.int bits), none, none, none, none, none, none, none] = .ok (.int cell) [some (.lst .any (ns.map .int)), some (.lst .own (rows.map .str)), some (.int bits), none, none, none, none, none, none, none] := by
    simp [q62, hp, o_mod_int, hc]
  have e4 : evE M12 (.call 7 (.cons (.op .str (.cons (.op .mod (.cons (.var 3) (.cons (.int 65) .nil))) .nil)) (.cons (.var 1) (.cons (.var 2) (.cons (.var 3) .nil))))) [some (.lst .any (ns.map .int)), some (.lst .own (rows.map .str)), some (.int bits), some (.int cell), none, none, none, none, none, none] = .ok (.str t1) [some (.lst .any (ns.map .int)), some (.lst .own (rows.map .str)), some (.int bits), some (.int cell), none, none, none, none, none, none] := by
    have hs := o_str_int (i := cell % 65) (by omega) (by omega)
    simp [o_mod_int, hs, h7]
  obtain ⟨t, lt, e5⟩ : ∃ t : List Nat, t.length < 1000 ∧ evS M12 (.ife (.op .eq (.cons (.op .mod (.cons (.op .fdiv (.cons (.var 2) (.cons (.int 18) .nil))) (.cons (.int 2) .nil))) (.cons (.int 1) .nil))) (.seq (.set 4 (.call 8 (.cons (.call 4 (.cons (.var 0) (.cons (.int 60) .nil))) .nil))) .nil) .nil) [some (.lst .any (ns.map .int)), some (.lst .own (rows.map .str)), some (.int bits), some (.int cell), some (.str t1), none, none, none, none, none] = .nx [some (.lst .any (ns.map .int)), some (.lst .own (rows.map .str)), some (.int bits), some (.int cell), some (.str t), none, none, none, none, none] := by
    by_cases c : bits / 18 % 2 = 1
    · refine ⟨t2, by omega, ?_⟩
      simp [o_mod_int, o_fdiv_int, c, q60, h8]
    · refine ⟨t1, l7, ?_⟩
      simp [o_mod_int, o_fdiv_int, c]
  have h10 := p10 t (by omega)
  have e6 : evE M12 (.call 10 (.cons (.var 4) .nil)) [some (.lst .any (ns.map .int)), some (.lst .own (rows.map .str)), some (.int bits), some (.int cell), some (.str t), none, none, none, none, none] = .ok (.int (dueS t)) [some (.lst .any (ns.map .int)), some (.lst .own (rows.map .str)), some (.int bits), some (.int cell), some (.str t), none, none, none, none, none] := by
    simp [h10]
  obtain ⟨ρ7, e7, x6, x8, x9, rfl⟩ := for_inv (fun k : Nat => D.int (k : Int)) 6 (evS M12 body1) (fun _ ρ => ∃ x6 x8 x9, ρ = [some (.lst .any (ns.map .int)), some (.lst .own (rows.map .str)), some (.int bits), some (.int cell), some (.str t), some (.int (dueS t)), x6, none, x8, x9]) (List.range 2) 0 [some (.lst .any (ns.map .int)), some (.lst .own (rows.map .str)), some (.int bits), some (.int cell), some (.str t), some (.int (dueS t)), none, none, none, none] (by
    rintro j a ρ hj ⟨x6, x8, x9, rfl⟩
    obtain ⟨d, e, he⟩ := t12a (some (.lst .any (ns.map .int))) (some (.lst .own (rows.map .str))) (some (.int bits)) (some (.int cell)) (some (.int (a : Int))) none x8 x9 t lt
    exact ⟨_, he, _, _, _, rfl⟩) ⟨_, _, _, rfl⟩
  obtain ⟨ρ8, e8, y7, rfl⟩ := for_inv (fun d : D => d) 7 (evS M12 body2) (fun _ ρ => ∃ y7, ρ = [some (.lst .any (ns.map .int)), some (.lst .own (rows.map .str)), some (.int bits), some (.int cell), some (.str t), some (.int (dueS t)), none, y7, x8, x9]) things 0 [some (.lst .any (ns.map .int)), some (.lst .own (rows.map .str)), some (.int bits), some (.int cell), some (.str t), some (.int (dueS t)), none, none, x8, x9] (by
    rintro j d ρ hj ⟨y7, rfl⟩
    have hm := List.mem_of_getElem? hj
    have := t12b (some (.lst .any (ns.map .int))) (some (.lst .own (rows.map .str))) (some (.int bits)) (some (.int cell)) (some (.str t)) (some (.int (dueS t))) none x8 x9 d
    simp only [things, List.mem_cons, List.not_mem_nil, or_false] at hm
    rcases hm with rfl | rfl | rfl | rfl | rfl <;> exact ⟨_, this rfl rfl rfl rfl, _, rfl⟩) ⟨_, rfl⟩
  have i7 : evS M12 (.forS .rng1 (.cons (.int 2) .nil) (.nm 6) body1) [some (.lst .any (ns.map .int)), some (.lst .own (rows.map .str)), some (.int bits), some (.int cell), some (.str t), some (.int (dueS t)), none, none, none, none] = .nx [some (.lst .any (ns.map .int)), some (.lst .own (rows.map .str)), some (.int bits), some (.int cell), some (.str t), some (.int (dueS t)), none, none, x8, x9] := by
    rw [es_for]
    exact e7
  have i8 : evS M12 (.forS .lst (.cons (.lst (.cons .non (.cons (.int 3) (.cons (.lst (.cons (.str [48]) (.cons (.str [63]) .nil))) (.cons (.tup (.cons (.str [48, 47, 63]) .nil)) (.cons (.bl true) .nil)))))) .nil) (.nm 7) body2) [some (.lst .any (ns.map .int)), some (.lst .own (rows.map .str)), some (.int bits), some (.int cell), some (.str t), some (.int (dueS t)), none, none, x8, x9] = .nx [some (.lst .any (ns.map .int)), some (.lst .own (rows.map .str)), some (.int bits), some (.int cell), some (.str t), some (.int (dueS t)), none, none, x8, x9] := by
    rw [es_for]
    exact e8
  show (evS M12 S12 [some (.lst .any (ns.map .int)), none, none, none, none, none, none, none, none, none]).cr = _
  unfold S12
  rw [es_seq, st_set e1 rfl, FR.bind_nx, es_seq]
  erw [st_set e2 rfl]
  rw [FR.bind_nx, es_seq]
  erw [st_set e3 rfl]
  rw [FR.bind_nx, es_seq]
  erw [st_set e4 rfl]
  rw [FR.bind_nx, es_seq]
  erw [e5]
  rw [FR.bind_nx, es_seq]
  erw [st_set e6 rfl]
  rw [FR.bind_nx, es_seq]
  erw [i7]
  rw [FR.bind_nx, es_seq]
  erw [i8]
  rw [FR.bind_nx, es_seq, es_ret_bl]
  rfl
end K81

namespace K81
open PySem PySem.Spec PyProof.Rows L2 Sd
/-! the head, written by head.py -/
def dD (x : Str) (st : Stmt) : He.DefD := ⟨(x, none), x, x, defArgs st, defBody st, defScope st, [], []⟩
def fn : List He.DefD := [dD "check_rows" st0, dD "board_of" st1, dD "is_number" st2, dD "read" st3, dD "_law_cell_at" st4, dD "_law_mixed" st5, dD "_law_rows" st6, dD "_law_spoiled" st7, dD "_law_any" st8, dD "_law_number" st9, dD "_law_due" st10, dD "_law_told" st11, dD "law" st12]
def fa : List He.Fa := [.int "MOST_ROWS" 8, .int "MOST_STONES" 64, .str "FIGURES_boards" "012345678", .str "FIGURES_texts" "0123456789", .int "MOST_FIGURES" 4, .glo "check_rows", .glo "board_of", .glo "is_number", .glo "read", .glo "_law_cell_at", .glo "_law_mixed", .glo "_law_rows", .glo "_law_spoiled", .glo "_law_any", .glo "_law_number", .glo "_law_due", .glo "_law_told", .glo "law", .glo "StoneError", .glo "NoBoard", .glo "NoCount", .glo "TooGreat", .glo "NoLaying", .glo "NoCell", .glo "NoText", .glo "NoRow", .glo "NoNumber", .glo "NoTable"] ++ bltNames.map He.Fa.free
abbrev R : PySem.W.OpenRow := PySem.W.OpenLaw.row PySem.Challenge.rw_stonelay_k81_texts_refused
abbrev hk : PySem.W.Hook := He.hookX 5 fa fn [] [] (excB exNames)
def ob (s : PySem.W.SharedT) : He.AlX := He.obsX 5 fa fn [] [] (excB exNames) (HandSHeadRun.getT s)
theorem ob_eq (s : PySem.W.SharedT) : ob s = hk.obs s.abs := He.obsX_eq (HandSHeadRun.getT_eq s)
def loose : List Str := (["MOST_ROWS", "MOST_STONES", "FIGURES_boards", "FIGURES_texts", "MOST_FIGURES", "StoneError", "NoBoard", "NoCount", "TooGreat", "NoLaying", "NoCell", "NoText", "NoRow", "NoNumber", "NoTable", "check_rows", "board_of", "is_number", "read", "_law_cell_at", "_law_mixed", "_law_rows", "_law_spoiled", "_law_any", "_law_number", "_law_due", "_law_told"] : List Str)
theorem run (w : World) : HandSHeadRun.RunEq R (PySem.W.view R.prog [31]) hk ob 3000 loose w := by
  intro os
  kernel_rfl
variable {P : Program} {w : World} {K : PySem.W.Frag} {h : Heap} {mg : Str → Option Value} {f : Addr}
abbrev gP (P : Program) (w : World) (K : PySem.W.Frag) (mg : Str → Option Value) (base : Heap) : @SP0 (kls K exNames) := spF P w K mg base exNames phis globF
theorem ft (X : K.In h) (G : h.Ns mainGlobals mg) (c : He.SaysX fa fn [] [] (excB exNames) w h K) (base : Heap) : @Ft (kls K exNames) (gP P w K mg base) := by
  letI := kls K exNames
  refine ⟨fun x hx => He.free_ok X G (c.t.d.facts (f := .free x) (List.mem_append_right _ (List.mem_map_of_mem hx))), fun i => rfl, He.int_ok X G (c.t.d.fact 0 rfl), He.int_ok X G (c.t.d.fact 1 rfl), He.str_ok X G (c.t.d.fact 2 rfl), He.str_ok X G (c.t.d.fact 3 rfl), He.int_ok X G (c.t.d.fact 4 rfl), exF_of (by decide) c.more rfl (He.glo_ok X G (c.t.d.fact 18 (f := .glo "StoneError") rfl)), exF_of (by decide) c.more rfl (He.glo_ok X G (c.t.d.fact 19 (f := .glo "NoBoard") rfl)), exF_of (by decide) c.more rfl (He.glo_ok X G (c.t.d.fact 20 (f := .glo "NoCount") rfl)), exF_of (by decide) c.more rfl (He.glo_ok X G (c.t.d.fact 21 (f := .glo "TooGreat") rfl)), exF_of (by decide) c.more rfl (He.glo_ok X G (c.t.d.fact 22 (f := .glo "NoLaying") rfl)), exF_of (by decide) c.more rfl (He.glo_ok X G (c.t.d.fact 23 (f := .glo "NoCell") rfl)), exF_of (by decide) c.more rfl (He.glo_ok X G (c.t.d.fact 24 (f := .glo "NoText") rfl)), exF_of (by decide) c.more rfl (He.glo_ok X G (c.t.d.fact 25 (f := .glo "NoRow") rfl)), exF_of (by decide) c.more rfl (He.glo_ok X G (c.t.d.fact 26 (f := .glo "NoNumber") rfl)), exF_of (by decide) c.more rfl (He.glo_ok X G (c.t.d.fact 27 (f := .glo "NoTable") rfl)), veF_of (by decide) c.more⟩
theorem facts (X : K.In h) (G : h.Ns mainGlobals mg) (hfa : mg ("law" : Str) = some (.ref f)) (c : He.SaysX fa fn [] [] (excB exNames) w h K) :
    ∃ fd : FuncData, (∀ (s : Shared) (v : Value), BindsTo s fd ⟨[v], []⟩ [("_law_script", v)]) ∧ ∀ base : Heap, K.In base → base.Ns mainGlobals mg → FnOk P w K mg base (L2.CX P w) 5 f fd ["_law_script"] (@spOf (kls K exNames) (@KLs.cv (kls K exNames)) 1 phi12) := by
  letI := kls K exNames
  obtain ⟨fd0, F0⟩ := c.t.d.def_ 0 (d := dD "check_rows" st0) rfl
  have m0 := He.glo_ok X G (c.t.d.fact 5 (f := .glo "check_rows") rfl)
  obtain ⟨fd1, F1⟩ := c.t.d.def_ 1 (d := dD "board_of" st1) rfl
  have m1 := He.glo_ok X G (c.t.d.fact 6 (f := .glo "board_of") rfl)
  obtain ⟨fd2, F2⟩ := c.t.d.def_ 2 (d := dD "is_number" st2) rfl
  have m2 := He.glo_ok X G (c.t.d.fact 7 (f := .glo "is_number") rfl)
  obtain ⟨fd3, F3⟩ := c.t.d.def_ 3 (d := dD "read" st3) rfl
  have m3 := He.glo_ok X G (c.t.d.fact 8 (f := .glo "read") rfl)
  obtain ⟨fd4, F4⟩ := c.t.d.def_ 4 (d := dD "_law_cell_at" st4) rfl
  have m4 := He.glo_ok X G (c.t.d.fact 9 (f := .glo "_law_cell_at") rfl)
  obtain ⟨fd5, F5⟩ := c.t.d.def_ 5 (d := dD "_law_mixed" st5) rfl
  have m5 := He.glo_ok X G (c.t.d.fact 10 (f := .glo "_law_mixed") rfl)
  obtain ⟨fd6, F6⟩ := c.t.d.def_ 6 (d := dD "_law_rows" st6) rfl
  have m6 := He.glo_ok X G (c.t.d.fact 11 (f := .glo "_law_rows") rfl)
  obtain ⟨fd7, F7⟩ := c.t.d.def_ 7 (d := dD "_law_spoiled" st7) rfl
  have m7 := He.glo_ok X G (c.t.d.fact 12 (f := .glo "_law_spoiled") rfl)
  obtain ⟨fd8, F8⟩ := c.t.d.def_ 8 (d := dD "_law_any" st8) rfl
  have m8 := He.glo_ok X G (c.t.d.fact 13 (f := .glo "_law_any") rfl)
  obtain ⟨fd9, F9⟩ := c.t.d.def_ 9 (d := dD "_law_number" st9) rfl
  have m9 := He.glo_ok X G (c.t.d.fact 14 (f := .glo "_law_number") rfl)
  obtain ⟨fd10, F10⟩ := c.t.d.def_ 10 (d := dD "_law_due" st10) rfl
  have m10 := He.glo_ok X G (c.t.d.fact 15 (f := .glo "_law_due") rfl)
  obtain ⟨fd11, F11⟩ := c.t.d.def_ 11 (d := dD "_law_told" st11) rfl
  have m11 := He.glo_ok X G (c.t.d.fact 16 (f := .glo "_law_told") rfl)
  obtain ⟨fd12, F12⟩ := c.t.d.def_ 12 (d := dD "law" st12) rfl
  have m12 := He.glo_ok X G (c.t.d.fact 17 (f := .glo "law") rfl)
  have e := hfa.symm.trans m12
  cases e
  have b := FunD.bindsA (ps := ["_law_script"]) F12 fun _ _ _ _ _ _ us hl => match us, hl with | [_], _ => rfl
  refine ⟨fd12, fun s v => b s [v] rfl, fun base _ _ => ?_⟩
  have F := ft (P := P) X G c base
  have o0 := fn_okD (g := gP P w K mg base) (k := 0) (φ := phi0) F0 sc0 (fun _ => js0 F  (Nat.le_refl _)) (by decide) (fun ds _ _ => hphi0 ds)
  have c0 : Callee (gP P w K mg base) 0 "check_rows" 2 1 := calleeD (ps := ["rows", "signs"]) (j := 0) F0 m0 rfl (fun _ _ _ _ _ _ us hl => match us, hl with | [_, _], _ => rfl) o0
  have o2 := fn_okD (g := gP P w K mg base) (k := 0) (φ := phi2) F2 sc2 (fun _ => js2 F  (Nat.le_refl _)) (by decide) (fun ds _ _ => hphi2 ds)
  have c2 : Callee (gP P w K mg base) 2 "is_number" 1 1 := calleeD (ps := ["word"]) (j := 2) F2 m2 rfl (fun _ _ _ _ _ _ us hl => match us, hl with | [_], _ => rfl) o2
  have o4 := fn_okD (g := gP P w K mg base) (k := 0) (φ := phi4) F4 sc4 (fun _ => js4 F  (Nat.le_refl _)) (by decide) (fun ds _ _ => hphi4 ds)
  have c4 : Callee (gP P w K mg base) 4 "_law_cell_at" 2 1 := calleeD (ps := ["_law_script", "_law_k"]) (j := 4) F4 m4 rfl (fun _ _ _ _ _ _ us hl => match us, hl with | [_, _], _ => rfl) o4
  have o5 := fn_okD (g := gP P w K mg base) (k := 0) (φ := phi5) F5 sc5 (fun _ => js5 F  (Nat.le_refl _)) (by decide) (fun ds _ _ => hphi5 ds)
  have c5 : Callee (gP P w K mg base) 5 "_law_mixed" 2 1 := calleeD (ps := ["_law_cell", "_law_k"]) (j := 5) F5 m5 rfl (fun _ _ _ _ _ _ us hl => match us, hl with | [_, _], _ => rfl) o5
  have o7 := fn_okT (g := gP P w K mg base) (k := 0) (φ := phi7) F7 sc7 (by decide +kernel) (by decide) (fun _ => js7 F  (Nat.le_refl _)) (by decide) (fun ds _ _ => hphi7 ds)
  have c7 : Callee (gP P w K mg base) 7 "_law_spoiled" 4 1 := calleeD (ps := ["_law_head", "_law_rows_here", "_law_bits", "_law_cell"]) (j := 7) F7 m7 rfl (fun _ _ _ _ _ _ us hl => match us, hl with | [_, _, _, _], _ => rfl) o7
  have o8 := fn_okD (g := gP P w K mg base) (k := 0) (φ := phi8) F8 sc8 (fun _ => js8 F  (Nat.le_refl _)) (by decide) (fun ds _ _ => hphi8 ds)
  have c8 : Callee (gP P w K mg base) 8 "_law_any" 1 1 := calleeD (ps := ["_law_own"]) (j := 8) F8 m8 rfl (fun _ _ _ _ _ _ us hl => match us, hl with | [_], _ => rfl) o8
  have o9 := fn_okD (g := gP P w K mg base) (k := 0) (φ := phi9) F9 sc9 (fun _ => js9 F  (Nat.le_refl _)) (by decide) (fun ds _ _ => hphi9 ds)
  have c9 : Callee (gP P w K mg base) 9 "_law_number" 1 1 := calleeD (ps := ["_law_word"]) (j := 9) F9 m9 rfl (fun _ _ _ _ _ _ us hl => match us, hl with | [_], _ => rfl) o9
  have o1 := fn_okD (g := gP P w K mg base) (k := 1) (φ := phi1) F1 sc1 (fun _ => js1 F c0 (Nat.le_refl _)) (by decide) (fun ds _ _ => hphi1 ds)
  have c1 : Callee (gP P w K mg base) 1 "board_of" 2 2 := calleeD (ps := ["rows", "stones"]) (j := 1) F1 m1 rfl (fun _ _ _ _ _ _ us hl => match us, hl with | [_, _], _ => rfl) o1
  have o6 := fn_okD (g := gP P w K mg base) (k := 1) (φ := phi6) F6 sc6 (fun _ => js6 F c4 c5 (Nat.le_refl _)) (by decide) (fun ds _ _ => hphi6 ds)
  have c6 : Callee (gP P w K mg base) 6 "_law_rows" 2 2 := calleeD (ps := ["_law_script", "_law_signs"]) (j := 6) F6 m6 rfl (fun _ _ _ _ _ _ us hl => match us, hl with | [_, _], _ => rfl) o6
  have o10 := fn_okD (g := gP P w K mg base) (k := 1) (φ := phi10) F10 sc10 (fun _ => js10 F c9 (Nat.le_refl _)) (by decide) (fun ds _ _ => hphi10 ds)
  have c10 : Callee (gP P w K mg base) 10 "_law_due" 1 2 := calleeD (ps := ["_law_text"]) (j := 10) F10 m10 rfl (fun _ _ _ _ _ _ us hl => match us, hl with | [_], _ => rfl) o10
  have o3 := fn_okD (g := gP P w K mg base) (k := 2) (φ := phi3) F3 sc3 (fun _ => js3 F c1 c2 (Nat.le_refl _)) (by decide) (fun ds _ _ => hphi3 ds)
  have c3 : Callee (gP P w K mg base) 3 "read" 1 3 := calleeD (ps := ["text"]) (j := 3) F3 m3 rfl (fun _ _ _ _ _ _ us hl => match us, hl with | [_], _ => rfl) o3
  have o11 := fn_okD (g := gP P w K mg base) (k := 3) (φ := phi11) F11 sc11 (fun _ => js11 F c3 (Nat.le_refl _)) (by decide) (fun ds _ _ => hphi11 ds)
  have c11 : Callee (gP P w K mg base) 11 "_law_told" 1 4 := calleeD (ps := ["_law_text"]) (j := 11) F11 m11 rfl (fun _ _ _ _ _ _ us hl => match us, hl with | [_], _ => rfl) o11
  have o12 := fn_okD (g := gP P w K mg base) (k := 4) (φ := phi12) F12 sc12 (fun _ => js12 F c4 c5 c6 c7 c8 c10 c11 (Nat.le_refl _)) (by decide) (fun ds _ _ => hphi12 ds)
  exact o12

end K81
open PySem PySem.W PySem.Calls PyProof.Rows
theorem PySem.Challenge.cw_stonelay_k81_texts_refused_holds : PySem.Challenge.rw_stonelay_k81_texts_refused.Holds := by
  w_on; o_law
  refine HandSHeadRun.head_any (r := OpenLaw.row PySem.Challenge.rw_stonelay_k81_texts_refused) (q := view (OpenLaw.row PySem.Challenge.rw_stonelay_k81_texts_refused).prog [31]) (H := K81.hk) (ob := K81.ob) (M := 3000) (loose := K81.loose) (d := HandSHeadRun.topDef (OpenLaw.row PySem.Challenge.rw_stonelay_k81_texts_refused).prog 31) (kwd := []) K81.ob_eq
    (by kernel_rfl) (fun s => by kernel_rfl) K81.run (by kernel_rfl) (by kernel_rfl) (by kernel_rfl) (by rfl) (by first | assumption | decide +kernel) (by decide +kernel) ⟨rfl, rfl, rfl, rfl, rfl, by decide +kernel⟩ ?hw ?hc
  case hw => w_witness2
  case hc =>
    refine Sd.walk_ofW (l := PySem.Challenge.rw_stonelay_k81_texts_refused) (n := 63) (k := 5) (x := "_law_script") (CX := fun w => L2.CX (PySem.Challenge.rw_stonelay_k81_texts_refused).prog w) rfl (by decide) (by kernel_rfl) ⟨rfl, by decide, by decide⟩ ?F fun w H s e s2 z => Sd.cx_none z
    intro w mg fa h Y G hmg0
    obtain ⟨K, KX, c⟩ := Y
    have hmg : mg ("law" : PySem.Str) = some (.ref fa) := by
      have e : (HandSHeadRun.topDef (OpenLaw.row PySem.Challenge.rw_stonelay_k81_texts_refused).prog 31).name = ("law" : PySem.Str) := by kernel_rfl
      rw [← e]
      exact hmg0
    obtain ⟨fd, hb, hF⟩ := K81.facts (P := (PySem.Challenge.rw_stonelay_k81_texts_refused).prog) (w := w) KX G hmg c
    exact ⟨K, fd, _, KX, hb, fun H a ns hl hS => @Sd.law_sp (Sd.kls K K81.exNames) K K81.phi12 (fun _ _ h => h) 63 (by decide) K81.law_ok H a ns hl hS, hF⟩

