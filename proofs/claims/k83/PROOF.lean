import PyProof.Rows.All
import Wide.All
import OpenK.AllK
import Wide.FinOn
import HandS.ForMost
import HandS.Walk
import HandS.EndTab
import HandS.TupAny
import HandS.ReCall
import HandS.Codes
import HandS.Style
import PyProof.NeKinds
import HandS.IsInst
import HandS.Deep
import HandS.DictComp
import HandS.Zip
import HandS.More
import KE.KUnpackStar
import HandS.NoneIn
import HandS.ListItems
import HandS.Zip0
import KE.GoesZip
import KE.KDictZip
import PyProof.ReprRoads
import HandS.Lambda
import HandS.SortKw
import KE.SortData
import KE.SortKeyHeap
import HandS.MakeKwOnly
import PyProof.Rows.RegFStrParts
import HandS.Defaults
import PySem.Challenge.RW_weighdoors_k83_what_a_book_tells
set_option Elab.async false
set_option maxRecDepth 100000
set_option maxHeartbeats 4000000
set_option linter.all false
set_option pp.deepTerms false
set_option pp.maxSteps 1500
section
open PySem PySem.W PyProof.Rows
set_option maxRecDepth 100000 in
set_option maxHeartbeats 0 in
open_top W85.headT for PySem.Challenge.rw_weighdoors_k83_what_a_book_tells
end
namespace DL
open PySem L2

/-! ### data -/
inductive D where
  | non | bl (b : Bool) | int (i : Int) | str (s : Str)
  | tup (l : List D) | lst (l : List D) | dct (l : List (Key × D)) | ins (C : Addr) (l : List (Str × D))
  | adr (a : Addr) | scr (ns : List Int) | pen (n : Nat) | tupW (l : List D) | tbl (q : Str)
abbrev Store := List (Addr × D)
abbrev Sl := List (Option D)
abbrev adrs (S : Store) : List Addr := S.map (·.1)

/-- the heap without some addresses -/
def hid (W : List Addr) (H : Hp) : Hp := fun b => if b ∈ W then none else H b
theorem hid_ne {W : List Addr} {H : Hp} {b : Addr} (h : b ∉ W) : hid W H b = H b := if_neg h
theorem hid_in {W : List Addr} {H : Hp} {b : Addr} (h : b ∈ W) : hid W H b = none := if_pos h
theorem hid_some {W : List Addr} {H : Hp} {b : Addr} {o : HO} (h : hid W H b = some o) : b ∉ W ∧ H b = some o := by
  unfold hid at h
  by_cases hb : b ∈ W
  · rw [if_pos hb] at h; cases h
  · rw [if_neg hb] at h; exact ⟨hb, h⟩

/-- dicts may be locked, all else stands -/
structure Kq (G G' : Hp) : Prop where
  l : ∀ b xs, G b = some (.lst xs) → G' b = some (.lst xs)
  r : ∀ b xs, Rd G b (.lst xs) → Rd G' b (.lst xs)
  t : ∀ b xs, Rd G b (.tup xs) → Rd G' b (.tup xs)
  d : ∀ b kvs, Rd G b (.dK kvs) → Rd G' b (.dK kvs)
  i : ∀ b C dx fs, G b = some (.ins C dx fs) → G' b = some (.ins C dx fs)
  n : ∀ b o xs, G b = some (.frz o (.tup xs)) → G' b = some (.frz o (.tup xs))
  x : ∀ b φ, G b = some (.ext φ) → G' b = some (.ext φ)
theorem Kq.refl (G : Hp) : Kq G G := ⟨fun _ _ h => h, fun _ _ h => h, fun _ _ h => h, fun _ _ h => h, fun _ _ _ _ h => h, fun _ _ _ h => h, fun _ _ h => h⟩
theorem Kq.trans {G G1 G2 : Hp} (a : Kq G G1) (b : Kq G1 G2) : Kq G G2 :=
  ⟨fun _ _ h => b.l _ _ (a.l _ _ h), fun _ _ h => b.r _ _ (a.r _ _ h), fun _ _ h => b.t _ _ (a.t _ _ h), fun _ _ h => b.d _ _ (a.d _ _ h), fun _ _ _ _ h => b.i _ _ _ _ (a.i _ _ _ _ h), fun _ _ _ h => b.n _ _ _ (a.n _ _ _ h), fun _ _ h => b.x _ _ (a.x _ _ h)⟩
theorem Kq.of {G G' : Hp} (e : ∀ b o, G b = some o → G' b = some o) : Kq G G' := by
  have r : ∀ b u, Rd G b u → Rd G' b u := fun b u h => by
    rcases h with h | ⟨o, h⟩
    · exact .inl (e _ _ h)
    · exact .inr ⟨o, e _ _ h⟩
  exact ⟨fun _ _ h => e _ _ h, fun _ _ h => r _ _ h, fun _ _ h => r _ _ h, fun _ _ h => r _ _ h, fun _ _ _ _ h => e _ _ h, fun _ _ _ h => e _ _ h, fun _ _ h => e _ _ h⟩
/-- a dict is locked -/
theorem Kq.lock {G : Hp} {d : Addr} {kvs : List (Key × V)} {od : Obj} (h : G d = some (.dK kvs)) : Kq G (upd G d (.frz od (.dK kvs))) := by
  have ne : ∀ b u, G b = some u → u ≠ .dK kvs → b ≠ d := fun b u e hu z => by subst z; rw [h] at e; exact hu (Option.some.inj e).symm
  have rr : ∀ b u, Rd G b u → u ≠ .dK kvs → Rd (upd G d (.frz od (.dK kvs))) b u := fun b u q hu => by
    rcases q with q | ⟨o, q⟩
    · exact .inl (by rw [upd_ne (ne _ _ q hu)]; exact q)
    · exact .inr ⟨o, by rw [upd_ne (ne _ _ q (by intro z; cases z))]; exact q⟩
  refine ⟨fun b xs e => ?_, fun b xs e => rr _ _ e (by intro z; cases z), fun b xs e => rr _ _ e (by intro z; cases z), fun b ks e => ?_, fun b C dx fs e => ?_, fun b o xs e => ?_, fun b φ e => ?_⟩
  · rw [upd_ne (ne _ _ e (by intro z; cases z))]; exact e
  · by_cases hb : b = d
    · subst hb
      rcases e with e | ⟨o, e⟩
      · rw [h] at e; cases e; exact .inr ⟨od, upd_same⟩
      · rw [h] at e; cases e
    · rcases e with e | ⟨o, e⟩
      · exact .inl (by rw [upd_ne hb]; exact e)
      · exact .inr ⟨o, by rw [upd_ne hb]; exact e⟩
  · rw [upd_ne (ne _ _ e (by intro z; cases z))]; exact e
  · rw [upd_ne (ne _ _ e (by intro z; cases z))]; exact e
  · rw [upd_ne (ne _ _ e (by intro z; cases z))]; exact e
theorem Kq.unlock {G : Hp} {d : Addr} {kvs : List (Key × V)} {od : Obj} (h : G d = some (.frz od (.dK kvs))) : Kq G (upd G d (.dK kvs)) := by
  have ne : ∀ b u, G b = some u → u ≠ .frz od (.dK kvs) → b ≠ d := fun b u e hu z => by subst z; rw [h] at e; exact hu (Option.some.inj e).symm
  have rr : ∀ b u, Rd G b u → u ≠ .dK kvs → (∀ o w, u ≠ .frz o w) → Rd (upd G d (.dK kvs)) b u := fun b u q hu hf => by
    by_cases hb : b = d
    · subst hb
      rcases q with q | ⟨o, q⟩
      · rw [h] at q; cases q; exact absurd rfl (hf _ _)
      · rw [h] at q; cases q; exact absurd rfl hu
    · rcases q with q | ⟨o, q⟩
      · exact .inl (by rw [upd_ne hb]; exact q)
      · exact .inr ⟨o, by rw [upd_ne hb]; exact q⟩
  refine ⟨fun b xs e => ?_, fun b xs e => rr _ _ e (by intro z; cases z) (by intro _ _ z; cases z), fun b xs e => rr _ _ e (by intro z; cases z) (by intro _ _ z; cases z), fun b ks e => ?_, fun b C dx fs e => ?_, fun b o xs e => ?_, fun b φ e => ?_⟩
  · rw [upd_ne (ne _ _ e (by intro z; cases z))]; exact e
  · by_cases hb : b = d
    · subst hb
      rcases e with e | ⟨o, e⟩
      · rw [h] at e; cases e
      · rw [h] at e; cases e; exact .inl upd_same
    · rcases e with e | ⟨o, e⟩
      · exact .inl (by rw [upd_ne hb]; exact e)
      · exact .inr ⟨o, by rw [upd_ne hb]; exact e⟩
  · rw [upd_ne (ne _ _ e (by intro z; cases z))]; exact e
  · rw [upd_ne (ne _ _ e (by intro z; cases z))]; exact e
  · rw [upd_ne (ne _ _ e (by intro z; cases z))]; exact e

/-- .. and what is locked stays so -/
structure Kp (G G' : Hp) : Prop extends Kq G G' where
  z : ∀ b o u, G b = some (.frz o u) → G' b = some (.frz o u)
theorem Kp.refl (G : Hp) : Kp G G := ⟨Kq.refl G, fun _ _ _ h => h⟩
theorem Kp.trans {G G1 G2 : Hp} (a : Kp G G1) (b : Kp G1 G2) : Kp G G2 := ⟨a.toKq.trans b.toKq, fun _ _ _ h => b.z _ _ _ (a.z _ _ _ h)⟩
theorem Kp.of {G G' : Hp} (e : ∀ b o, G b = some o → G' b = some o) : Kp G G' := ⟨Kq.of e, fun _ _ _ h => e _ _ h⟩
/-- locked, gone on, unlocked -/
theorem Kp.around {G G' : Hp} {d : Addr} {kvs : List (Key × V)} {od : Obj} (h : G d = some (.dK kvs)) (k : Kp (upd G d (.frz od (.dK kvs))) G') : Kp G (upd G' d (.dK kvs)) := by
  have hd : G' d = some (.frz od (.dK kvs)) := k.z _ _ _ upd_same
  have q : Kq G (upd G' d (.dK kvs)) := ((Kq.lock h).trans k.toKq).trans (Kq.unlock hd)
  refine ⟨q, fun b o u e => ?_⟩
  have hb : b ≠ d := fun z => by subst z; rw [h] at e; cases e
  rw [upd_ne hb]
  exact k.z _ _ _ (by rw [upd_ne hb]; exact e)

/-! ### what stands for what -/
/-- a tuple on which no dict hangs -/
def NTup (K : PySem.W.Frag) (G : Hp) (a : Addr) (xs : List V) : Prop := (∃ o, G a = some (.frz o (.tup xs)) ∧ o.dict = none) ∨ ((∃ o, K.lookup a = some o ∧ o.dict = none) ∧ SqT K (fun _ => none) a xs)
theorem sqT_ofK {K : PySem.W.Frag} {G : Hp} {a : Addr} {xs : List V} (h : SqT K (fun _ => none) a xs) : SqT K G a xs := by
  rcases h with h | h
  · rcases h with h | ⟨o, h⟩
    · cases h
    · cases h
  · exact .inr h
theorem NTup.sq {K : PySem.W.Frag} {G : Hp} {a : Addr} {xs : List V} (h : NTup K G a xs) : SqT K G a xs := by
  rcases h with ⟨o, h, _⟩ | ⟨_, h⟩
  · exact .inl (.inr ⟨o, h⟩)
  · exact sqT_ofK h
theorem NTup.kq {K : PySem.W.Frag} {G G' : Hp} {a : Addr} {xs : List V} (k : Kq G G') (h : NTup K G a xs) : NTup K G' a xs := by
  rcases h with ⟨o, h, d⟩ | h
  · exact .inl ⟨o, k.n _ _ _ h, d⟩
  · exact .inr h
mutual
def Rep (K : PySem.W.Frag) (G : Hp) : D → V → Prop
  | .non, v => v = .non
  | .bl b, v => v = .bl b
  | .int i, v => v = .int i
  | .str s, v => v = .str s
  | .tup l, v => ∃ a xs, v = .ref a ∧ NTup K G a xs ∧ RepL K G l xs
  | .tupW l, v => ∃ a xs, v = .ref a ∧ SqT K G a xs ∧ RepL K G l xs
  | .tbl _, _ => False
  | .lst l, v => ∃ a xs, v = .ref a ∧ G a = some (.lst xs) ∧ RepL K G l xs
  | .dct l, v => ∃ a kvs, v = .ref a ∧ Rd G a (.dK kvs) ∧ RepP K G l kvs
  | .ins C l, v => ∃ a dx fs, v = .ref a ∧ G a = some (.ins C dx fs) ∧ RepF K G l fs
  | .adr a, v => v = .ref a
  | .scr ns, v => ∃ a, v = .ref a ∧ SqL K G a (ns.map V.int)
  | .pen _, _ => False
def RepL (K : PySem.W.Frag) (G : Hp) : List D → List V → Prop
  | [], xs => xs = []
  | d :: l, xs => ∃ x r, xs = x :: r ∧ Rep K G d x ∧ RepL K G l r
def RepP (K : PySem.W.Frag) (G : Hp) : List (Key × D) → List (Key × V) → Prop
  | [], xs => xs = []
  | (k, d) :: l, xs => ∃ x r, xs = (k, x) :: r ∧ Rep K G d x ∧ RepP K G l r
def RepF (K : PySem.W.Frag) (G : Hp) : List (Str × D) → List (Str × V) → Prop
  | [], xs => xs = []
  | (k, d) :: l, xs => ∃ x r, xs = (k, x) :: r ∧ Rep K G d x ∧ RepF K G l r
end

section
variable {K : PySem.W.Frag} {G G' : Hp}
theorem sqT_kq {a : Addr} {xs : List V} (k : Kq G G') (h : SqT K G a xs) : SqT K G' a xs := by
  rcases h with h | h
  · exact .inl (k.t _ _ h)
  · exact .inr h
theorem sqL_kq {a : Addr} {xs : List V} (k : Kq G G') (h : SqL K G a xs) : SqL K G' a xs := by
  rcases h with h | h
  · exact .inl (k.r _ _ h)
  · exact .inr h
mutual
theorem Rep.kq (k : Kq G G') : ∀ (d : D) (v : V), Rep K G d v → Rep K G' d v
  | .non, v, h => h
  | .bl _, v, h => h
  | .int _, v, h => h
  | .str _, v, h => h
  | .tup l, v, ⟨a, xs, e, h1, h2⟩ => ⟨a, xs, e, h1.kq k, RepL.kq k l xs h2⟩
  | .tupW l, v, ⟨a, xs, e, h1, h2⟩ => ⟨a, xs, e, sqT_kq k h1, RepL.kq k l xs h2⟩
  | .tbl _, v, h => h
  | .lst l, v, ⟨a, xs, e, h1, h2⟩ => ⟨a, xs, e, k.l _ _ h1, RepL.kq k l xs h2⟩
  | .dct l, v, ⟨a, kvs, e, h1, h2⟩ => ⟨a, kvs, e, k.d _ _ h1, RepP.kq k l kvs h2⟩
  | .ins C l, v, ⟨a, dx, fs, e, h1, h2⟩ => ⟨a, dx, fs, e, k.i _ _ _ _ h1, RepF.kq k l fs h2⟩
  | .adr _, v, h => h
  | .scr ns, v, ⟨a, e, h1⟩ => ⟨a, e, sqL_kq k h1⟩
  | .pen _, v, h => h
theorem RepL.kq (k : Kq G G') : ∀ (l : List D) (xs : List V), RepL K G l xs → RepL K G' l xs
  | [], xs, h => h
  | d :: l, xs, ⟨x, r, e, h1, h2⟩ => ⟨x, r, e, Rep.kq k d x h1, RepL.kq k l r h2⟩
theorem RepP.kq (k : Kq G G') : ∀ (l : List (Key × D)) (xs : List (Key × V)), RepP K G l xs → RepP K G' l xs
  | [], xs, h => h
  | (_, d) :: l, xs, ⟨x, r, e, h1, h2⟩ => ⟨x, r, e, Rep.kq k d x h1, RepP.kq k l r h2⟩
theorem RepF.kq (k : Kq G G') : ∀ (l : List (Str × D)) (xs : List (Str × V)), RepF K G l xs → RepF K G' l xs
  | [], xs, h => h
  | (_, d) :: l, xs, ⟨x, r, e, h1, h2⟩ => ⟨x, r, e, Rep.kq k d x h1, RepF.kq k l r h2⟩
end
theorem sqT_kp {a : Addr} {xs : List V} (k : Kp G G') (h : SqT K G a xs) : SqT K G' a xs := sqT_kq k.toKq h
theorem sqL_kp {a : Addr} {xs : List V} (k : Kp G G') (h : SqL K G a xs) : SqL K G' a xs := sqL_kq k.toKq h
theorem Rep.kp (k : Kp G G') (d : D) (v : V) (h : Rep K G d v) : Rep K G' d v := Rep.kq k.toKq d v h
theorem RepL.kp (k : Kp G G') (l : List D) (xs : List V) (h : RepL K G l xs) : RepL K G' l xs := RepL.kq k.toKq l xs h
theorem RepP.kp (k : Kp G G') (l : List (Key × D)) (xs : List (Key × V)) (h : RepP K G l xs) : RepP K G' l xs := RepP.kq k.toKq l xs h
theorem RepF.kp (k : Kp G G') (l : List (Str × D)) (xs : List (Str × V)) (h : RepF K G l xs) : RepF K G' l xs := RepF.kq k.toKq l xs h
theorem RepL.len : ∀ {l : List D} {xs : List V}, RepL K G l xs → xs.length = l.length
  | [], xs, h => by rw [show xs = [] from h]; rfl
  | d :: l, xs, ⟨x, r, e, h1, h2⟩ => by rw [e, List.length_cons, List.length_cons, RepL.len h2]
theorem RepL.get : ∀ {l : List D} {xs : List V} {i : Nat} {d : D}, RepL K G l xs → l[i]? = some d → ∃ x, xs[i]? = some x ∧ Rep K G d x
  | [], xs, i, d, h, e => by simp at e
  | d :: l, xs, 0, d', ⟨x, r, e, h1, h2⟩, h => by
    have : d = d' := Option.some.inj h
    subst this; subst e
    exact ⟨x, rfl, h1⟩
  | d :: l, xs, i + 1, d', ⟨x, r, e, h1, h2⟩, h => by
    subst e
    obtain ⟨y, q1, q2⟩ := RepL.get (i := i) (d := d') h2 h
    exact ⟨y, q1, q2⟩
theorem RepL.app : ∀ {l m : List D} {xs ys : List V}, RepL K G l xs → RepL K G m ys → RepL K G (l ++ m) (xs ++ ys)
  | [], m, xs, ys, h, h' => by rw [show xs = [] from h]; exact h'
  | d :: l, m, xs, ys, ⟨x, r, e, h1, h2⟩, h' => ⟨x, r ++ ys, by rw [e]; rfl, h1, RepL.app h2 h'⟩
theorem RepL.one {d : D} {x : V} (h : Rep K G d x) : RepL K G [d] [x] := ⟨x, [], rfl, h, rfl⟩
theorem RepL.set : ∀ {l : List D} {xs : List V} (i : Nat) {d : D} {x : V}, RepL K G l xs → Rep K G d x → RepL K G (l.set i d) (xs.set i x)
  | [], xs, i, d, x, h, h' => by rw [show xs = [] from h]; exact rfl
  | d :: l, xs, 0, d', x', ⟨x, r, e, h1, h2⟩, h' => by rw [e]; exact ⟨x', r, rfl, h', h2⟩
  | d :: l, xs, i + 1, d', x', ⟨x, r, e, h1, h2⟩, h' => by rw [e]; exact ⟨x, r.set i x', rfl, h1, RepL.set i h2 h'⟩
theorem RepL.take : ∀ (n : Nat) {l : List D} {xs : List V}, RepL K G l xs → RepL K G (l.take n) (xs.take n)
  | 0, l, xs, h => rfl
  | n + 1, [], xs, h => by rw [show xs = [] from h]; exact rfl
  | n + 1, d :: l, xs, ⟨x, r, e, h1, h2⟩ => by rw [e]; exact ⟨x, r.take n, rfl, h1, RepL.take n h2⟩
theorem RepL.drop : ∀ (n : Nat) {l : List D} {xs : List V}, RepL K G l xs → RepL K G (l.drop n) (xs.drop n)
  | 0, l, xs, h => h
  | n + 1, [], xs, h => by rw [show xs = [] from h]; exact rfl
  | n + 1, d :: l, xs, ⟨x, r, e, h1, h2⟩ => by rw [e]; exact RepL.drop n h2
theorem RepL.nil_iff {xs : List V} : RepL K G [] xs ↔ xs = [] := Iff.rfl
theorem RepL.ints {ns : List Int} : ∀ {xs : List V}, RepL K G (ns.map D.int) xs → xs = ns.map V.int := by
  induction ns with
  | nil => intro xs h; exact h
  | cons n r ih =>
    rintro xs ⟨x, q, e, h1, h2⟩
    rw [e, ih h2, show x = V.int n from h1]; rfl
theorem RepL.strs {zs : List Str} : ∀ {xs : List V}, RepL K G (zs.map D.str) xs → xs = zs.map V.str := by
  induction zs with
  | nil => intro xs h; exact h
  | cons n r ih =>
    rintro xs ⟨x, q, e, h1, h2⟩
    rw [e, ih h2, show x = V.str n from h1]; rfl
theorem RepL.bools {bs : List Bool} : ∀ {xs : List V}, RepL K G (bs.map D.bl) xs → xs = bs.map V.bl := by
  induction bs with
  | nil => intro xs h; exact h
  | cons n r ih =>
    rintro xs ⟨x, q, e, h1, h2⟩
    rw [e, ih h2, show x = V.bl n from h1]; rfl
theorem RepL.ofInts : ∀ (ns : List Int), RepL K G (ns.map D.int) (ns.map V.int)
  | [] => rfl
  | n :: r => ⟨.int n, r.map V.int, rfl, rfl, RepL.ofInts r⟩
theorem RepL.ofStrs : ∀ (zs : List Str), RepL K G (zs.map D.str) (zs.map V.str)
  | [] => rfl
  | n :: r => ⟨.str n, r.map V.str, rfl, rfl, RepL.ofStrs r⟩

/-! pairs -/
section
variable {κ : Type} [DecidableEq κ] {α : Type}
def valP (l : List (κ × α)) (k : κ) : Option α := (l.find? fun kv => decide (kv.1 = k)).map (·.2)
def putP (l : List (κ × α)) (k : κ) (v : α) : List (κ × α) :=
  if (l.any fun kv => decide (kv.1 = k)) = true then l.map (fun kv => if kv.1 = k then (kv.1, v) else kv) else l ++ [(k, v)]
theorem valP_nil {k : κ} : valP ([] : List (κ × α)) k = none := rfl
theorem valP_cons {k k' : κ} {v : α} {l : List (κ × α)} : valP ((k', v) :: l) k = if k' = k then some v else valP l k := by
  unfold valP
  rw [List.find?_cons]
  by_cases h : k' = k
  · simp [h]
  · simp [h]
end
theorem RepP.val : ∀ {l : List (Key × D)} {xs : List (Key × V)} (k : Key), RepP K G l xs → (valP l k = none → valV xs k = none) ∧ ∀ d, valP l k = some d → ∃ x, valV xs k = some x ∧ Rep K G d x
  | [], xs, k, h => by rw [show xs = [] from h]; exact ⟨fun _ => rfl, fun d e => by cases e⟩
  | (k', d') :: l, xs, k, ⟨x, r, e, h1, h2⟩ => by
    obtain ⟨i1, i2⟩ := RepP.val k h2
    have ev : valV ((k', x) :: r) k = if k' = k then some x else valV r k := by
      unfold valV
      rw [List.find?_cons]
      by_cases h : k' = k
      · simp [h]
      · simp [h]
    rw [e, ev, valP_cons]
    by_cases h : k' = k
    · rw [if_pos h, if_pos h]
      refine ⟨fun z => (by cases z), fun d z => ?_⟩
      cases z
      exact ⟨x, rfl, h1⟩
    · rw [if_neg h, if_neg h]
      exact ⟨i1, i2⟩
theorem RepP.keys : ∀ {l : List (Key × D)} {xs : List (Key × V)}, RepP K G l xs → xs.map (·.1) = l.map (·.1)
  | [], xs, h => by rw [show xs = [] from h]; rfl
  | (k', d') :: l, xs, ⟨x, r, e, h1, h2⟩ => by rw [e, List.map_cons, List.map_cons, RepP.keys h2]
theorem RepP.len {l : List (Key × D)} {xs : List (Key × V)} (h : RepP K G l xs) : xs.length = l.length := by
  have := congrArg List.length h.keys
  rwa [List.length_map, List.length_map] at this
theorem RepP.get : ∀ {l : List (Key × D)} {xs : List (Key × V)} {i : Nat} {k : Key} {d : D}, RepP K G l xs → l[i]? = some (k, d) → ∃ x, xs[i]? = some (k, x) ∧ Rep K G d x
  | [], xs, i, k, d, h, e => by simp at e
  | (k', d') :: l, xs, 0, k, d, ⟨x, r, e, h1, h2⟩, h => by
    have z : (k', d') = (k, d) := Option.some.inj h
    cases z
    exact ⟨x, by rw [e]; rfl, h1⟩
  | (k', d') :: l, xs, i + 1, k, d, ⟨x, r, e, h1, h2⟩, h => by
    obtain ⟨y, q1, q2⟩ := RepP.get (i := i) (k := k) (d := d) h2 h
    exact ⟨y, by rw [e]; exact q1, q2⟩
theorem RepP.app : ∀ {l m : List (Key × D)} {xs ys : List (Key × V)}, RepP K G l xs → RepP K G m ys → RepP K G (l ++ m) (xs ++ ys)
  | [], m, xs, ys, h, h' => by rw [show xs = [] from h]; exact h'
  | (k, d) :: l, m, xs, ys, ⟨x, r, e, h1, h2⟩, h' => ⟨x, r ++ ys, by rw [e]; rfl, h1, RepP.app h2 h'⟩
theorem RepP.mapPut {k : Key} {d : D} {v : V} (hv : Rep K G d v) : ∀ {l : List (Key × D)} {xs : List (Key × V)}, RepP K G l xs →
    RepP K G (l.map fun kv => if kv.1 = k then (kv.1, d) else kv) (xs.map fun kv => if kv.1 = k then (kv.1, v) else kv)
  | [], xs, h => by rw [show xs = [] from h]; exact rfl
  | (k', d') :: l, xs, ⟨x, r, e, h1, h2⟩ => by
    rw [e, List.map_cons, List.map_cons]
    by_cases h : k' = k
    · rw [if_pos h, if_pos h]
      exact ⟨v, _, rfl, hv, RepP.mapPut hv h2⟩
    · rw [if_neg h, if_neg h]
      exact ⟨x, _, rfl, h1, RepP.mapPut hv h2⟩
theorem RepP.put {k : Key} {d : D} {v : V} {l : List (Key × D)} {xs : List (Key × V)} (h : RepP K G l xs) (hv : Rep K G d v) : RepP K G (putP l k d) (putK xs k v) := by
  have ea : (xs.any fun kv => decide (kv.1 = k)) = (l.any fun kv => decide (kv.1 = k)) := by
    have h1 : (xs.any fun kv => decide (kv.1 = k)) = (xs.map (·.1)).any fun z => decide (z = k) := by rw [List.any_map]; rfl
    have h2 : (l.any fun kv => decide (kv.1 = k)) = (l.map (·.1)).any fun z => decide (z = k) := by rw [List.any_map]; rfl
    rw [h1, h2, h.keys]
  unfold putP putK
  rw [ea]
  split
  · exact RepP.mapPut hv h
  · exact h.app ⟨v, [], rfl, hv, rfl⟩
/-- attributes -/
theorem RepF.val : ∀ {l : List (Str × D)} {xs : List (Str × V)} (k : Str), RepF K G l xs → (l.lookup k = none → xs.lookup k = none) ∧ ∀ d, l.lookup k = some d → ∃ x, xs.lookup k = some x ∧ Rep K G d x
  | [], xs, k, h => by rw [show xs = [] from h]; exact ⟨fun _ => rfl, fun d e => by cases e⟩
  | (k', d') :: l, xs, k, ⟨x, r, e, h1, h2⟩ => by
    obtain ⟨i1, i2⟩ := RepF.val k h2
    rw [e, List.lookup_cons, List.lookup_cons]
    cases h : (k == k') with
    | true =>
      refine ⟨fun z => (by cases z), fun d z => ?_⟩
      cases z
      exact ⟨x, rfl, h1⟩
    | false => exact ⟨i1, i2⟩
/-- an attribute stored -/
def putA (f : Str) (v : D) : List (Str × D) → List (Str × D)
  | [] => [(f, v)]
  | (g, w) :: r => if g = f then (g, v) :: r else (g, w) :: putA f v r
theorem RepF.len : ∀ {l : List (Str × D)} {xs : List (Str × V)}, RepF K G l xs → xs.length = l.length
  | [], xs, h => by rw [show xs = [] from h]; rfl
  | (k', d') :: l, xs, ⟨x, r, e, h1, h2⟩ => by rw [e, List.length_cons, List.length_cons, RepF.len h2]
end
end DL
namespace DL
open PySem L2
section
variable {K : PySem.W.Frag} {G : Hp}
theorem RepF.put {f : Str} {d : D} {v : V} (hv : Rep K G d v) : ∀ {l : List (Str × D)} {xs : List (Str × V)}, RepF K G l xs → RepF K G (putA f d l) (putF f v xs)
  | [], xs, h => by rw [show xs = [] from h]; exact ⟨v, [], rfl, hv, rfl⟩
  | (k', d') :: l, xs, ⟨x, r, e, h1, h2⟩ => by
    rw [e]
    show RepF K G (if k' = f then (k', d) :: l else (k', d') :: putA f d l) (if k' = f then (k', v) :: r else (k', x) :: putF f v r)
    by_cases h : k' = f
    · rw [if_pos h, if_pos h]; exact ⟨v, r, rfl, hv, h2⟩
    · rw [if_neg h, if_neg h]; exact ⟨x, _, rfl, h1, RepF.put hv h2⟩
end
end DL

namespace DL
open PySem L2

/-! ### the states -/
/-- what may be told to change no more -/
def frzB : D → Bool
  | .pen _ => false
  | .tbl _ => false
  | _ => true
def MOk (K : PySem.W.Frag) (G H : Hp) (a : Addr) : D → Prop
  | .lst l => ∃ xs, H a = some (.lst xs) ∧ RepL K G l xs
  | .dct l => ∃ kvs, H a = some (.dK kvs) ∧ RepP K G l kvs
  | .ins C l => ∃ dx fs, H a = some (.ins C dx fs) ∧ RepF K G l fs
  | .tbl q => ∃ ps : Array Value, H a = some (.tbl ps) ∧ TriplesOk ps.toList ∧ ∀ (pos : Pos) (cv : Value), codeAmong pos ps.toList = some cv → ∃ c, cv = .ref c ∧ G c = some (LamX.CodeO c q)
  | .pen n => ∃ (c : Addr) (ns : List Int) (t r : Int), H a = some (.dK [(.inr "cells", .ref c), (.inr "turn", .int t), (.inr "rest", .int r)]) ∧ G c = some (.lst (ns.map V.int)) ∧ ns.length ≤ 63 ∧ 0 ≤ t ∧ t ≤ n
  | _ => False
theorem MOk.there {K : PySem.W.Frag} {G H : Hp} {a : Addr} {d : D} (h : MOk K G H a d) : ∃ o, H a = some o := by
  cases d with
  | lst l => obtain ⟨xs, e, _⟩ := h; exact ⟨_, e⟩
  | dct l => obtain ⟨xs, e, _⟩ := h; exact ⟨_, e⟩
  | ins C l => obtain ⟨dx, fs, e, _⟩ := h; exact ⟨_, e⟩
  | pen n => obtain ⟨c, ns, t, r, e, _⟩ := h; exact ⟨_, e⟩
  | non => exact h.elim
  | bl _ => exact h.elim
  | int _ => exact h.elim
  | str _ => exact h.elim
  | tup _ => exact h.elim
  | tupW _ => exact h.elim
  | tbl q => obtain ⟨ps, e, _⟩ := h; exact ⟨_, e⟩
  | adr _ => exact h.elim
  | scr _ => exact h.elim
theorem MOk.kq {K : PySem.W.Frag} {G G' H H' : Hp} {a : Addr} (k : Kq G G') (e : H' a = H a) : ∀ {d : D}, MOk K G H a d → MOk K G' H' a d
  | .lst l, ⟨xs, h1, h2⟩ => ⟨xs, e.trans h1, RepL.kq k _ _ h2⟩
  | .dct l, ⟨xs, h1, h2⟩ => ⟨xs, e.trans h1, RepP.kq k _ _ h2⟩
  | .ins C l, ⟨dx, fs, h1, h2⟩ => ⟨dx, fs, e.trans h1, RepF.kq k _ _ h2⟩
  | .pen n, ⟨c, ns, t, r, h1, h2, h3⟩ => ⟨c, ns, t, r, e.trans h1, k.l _ _ h2, h3⟩
  | .tbl q, ⟨ps, h1, h2, h3⟩ => ⟨ps, e.trans h1, h2, fun pos cv hc => let ⟨c, e1, e2⟩ := h3 pos cv hc; ⟨c, e1, k.x _ _ e2⟩⟩
theorem MOk.kp {K : PySem.W.Frag} {G G' H H' : Hp} {a : Addr} (k : Kp G G') (e : H' a = H a) {d : D} (h : MOk K G H a d) : MOk K G' H' a d := MOk.kq k.toKq e h
structure SOk (K : PySem.W.Frag) (S : Store) (H : Hp) : Prop where
  nd : (adrs S).Nodup
  ok : ∀ p ∈ S, MOk K (hid (adrs S) H) H p.1 p.2
def RepS (K : PySem.W.Frag) (G : Hp) : Sl → St → Prop
  | [], σ => σ = []
  | some d :: ρ, σ => ∃ v r, σ = some v :: r ∧ Rep K G d v ∧ RepS K G ρ r
  | none :: ρ, σ => ∃ o r, σ = o :: r ∧ RepS K G ρ r
structure Sat (K : PySem.W.Frag) (ρ : Sl) (S : Store) (σ : St) (H : Hp) : Prop where
  sl : RepS K (hid (adrs S) H) ρ σ
  ok : SOk K S H
abbrev KpS (S : Store) (H : Hp) (S' : Store) (H' : Hp) : Prop := Kp (hid (adrs S) H) (hid (adrs S') H')
abbrev RepS1 (K : PySem.W.Frag) (S : Store) (H : Hp) (d : D) (v : V) : Prop := Rep K (hid (adrs S) H) d v

section
variable {K : PySem.W.Frag} {G G' H H' : Hp} {S S' : Store} {ρ : Sl} {σ : St}
theorem RepS.kq (k : Kq G G') : ∀ {ρ : Sl} {σ : St}, RepS K G ρ σ → RepS K G' ρ σ
  | [], σ, h => h
  | some d :: ρ, σ, ⟨v, r, e, h1, h2⟩ => ⟨v, r, e, Rep.kq k d v h1, RepS.kq k h2⟩
  | none :: ρ, σ, ⟨o, r, e, h2⟩ => ⟨o, r, e, RepS.kq k h2⟩
theorem RepS.kp (k : Kp G G') {ρ : Sl} {σ : St} (h : RepS K G ρ σ) : RepS K G' ρ σ := RepS.kq k.toKq h
theorem RepS.get : ∀ {ρ : Sl} {σ : St} {i : Nat} {d : D}, RepS K G ρ σ → ρ[i]? = some (some d) → ∃ v, σ[i]? = some (some v) ∧ Rep K G d v
  | [], σ, i, d, h, e => by simp at e
  | some d :: ρ, σ, 0, d', ⟨v, r, e, h1, h2⟩, h => by
    have z : some d = some d' := Option.some.inj h
    cases z
    exact ⟨v, by rw [e]; rfl, h1⟩
  | none :: ρ, σ, 0, d', h, e => by simp at e
  | some d :: ρ, σ, i + 1, d', ⟨v, r, e, h1, h2⟩, h => by
    obtain ⟨y, q1, q2⟩ := RepS.get (i := i) (d := d') h2 h
    exact ⟨y, by rw [e]; exact q1, q2⟩
  | none :: ρ, σ, i + 1, d', ⟨o, r, e, h2⟩, h => by
    obtain ⟨y, q1, q2⟩ := RepS.get (i := i) (d := d') h2 h
    exact ⟨y, by rw [e]; exact q1, q2⟩
theorem RepS.set {d : D} {v : V} (hv : Rep K G d v) : ∀ {ρ : Sl} {σ : St} (i : Nat), RepS K G ρ σ → RepS K G (ρ.set i (some d)) (σ.set i (some v))
  | [], σ, i, h => by rw [show σ = [] from h]; exact rfl
  | some d :: ρ, σ, 0, ⟨w, r, e, h1, h2⟩ => by rw [e]; exact ⟨v, r, rfl, hv, h2⟩
  | none :: ρ, σ, 0, ⟨o, r, e, h2⟩ => by rw [e]; exact ⟨v, r, rfl, hv, h2⟩
  | some d :: ρ, σ, i + 1, ⟨w, r, e, h1, h2⟩ => by rw [e]; exact ⟨w, _, rfl, h1, RepS.set hv i h2⟩
  | none :: ρ, σ, i + 1, ⟨o, r, e, h2⟩ => by rw [e]; exact ⟨o, _, rfl, RepS.set hv i h2⟩
/-- a slot forgotten -/
theorem RepS.forget : ∀ {ρ : Sl} {σ : St} (i : Nat), RepS K G ρ σ → RepS K G (ρ.set i none) σ
  | [], σ, i, h => h
  | some d :: ρ, σ, 0, ⟨w, r, e, h1, h2⟩ => ⟨some w, r, e, h2⟩
  | none :: ρ, σ, 0, ⟨o, r, e, h2⟩ => ⟨o, r, e, h2⟩
  | some d :: ρ, σ, i + 1, ⟨w, r, e, h1, h2⟩ => ⟨w, r, e, h1, RepS.forget i h2⟩
  | none :: ρ, σ, i + 1, ⟨o, r, e, h2⟩ => ⟨o, r, e, RepS.forget i h2⟩
theorem RepS.wipe1 (o : Option V) : ∀ {ρ : Sl} {σ : St} (i : Nat), RepS K G ρ σ → RepS K G (ρ.set i none) (σ.set i o)
  | [], σ, i, h => by rw [show σ = [] from h]; exact rfl
  | some d :: ρ, σ, 0, ⟨w, r, e, h1, h2⟩ => by rw [e]; exact ⟨o, r, rfl, h2⟩
  | none :: ρ, σ, 0, ⟨o', r, e, h2⟩ => by rw [e]; exact ⟨o, r, rfl, h2⟩
  | some d :: ρ, σ, i + 1, ⟨w, r, e, h1, h2⟩ => by rw [e]; exact ⟨w, _, rfl, h1, RepS.wipe1 o i h2⟩
  | none :: ρ, σ, i + 1, ⟨o', r, e, h2⟩ => by rw [e]; exact ⟨o', _, rfl, RepS.wipe1 o i h2⟩
/-- the slots of own names forgotten -/
def wipeD (ρ : Sl) : List Nat → Sl
  | [] => ρ
  | v :: vs => (wipeD ρ vs).set v none
theorem RepS.wipe (h : RepS K G ρ σ) : ∀ vs : List Nat, RepS K G (wipeD ρ vs) (wipe σ vs)
  | [] => h
  | v :: vs => RepS.wipe1 none v (RepS.wipe h vs)
theorem Sat.next (s : Sat K ρ S σ H) (k : KpS S H S' H') (o : SOk K S' H') : Sat K ρ S' σ H' := ⟨s.sl.kp k, o⟩

/-! #### the heap grows -/
theorem SOk.out (s : SOk K S H) {p : Addr} (hp : H p = none) : p ∉ adrs S := fun m => by
  obtain ⟨q, hq, e⟩ := List.mem_map.mp m
  obtain ⟨o, ho⟩ := (s.ok q hq).there
  rw [e, hp] at ho
  cases ho
theorem hid_upd_out {W : List Addr} {p : Addr} {o : HO} (h : p ∉ W) : hid W (upd H p o) = upd (hid W H) p o := by
  funext b
  unfold hid upd
  by_cases hb : b = p
  · subst hb; rw [if_neg h, if_pos rfl, if_pos rfl]
  · rw [if_neg hb, if_neg hb]
theorem hid_upd_in {W : List Addr} {p : Addr} {o : HO} (h : p ∈ W) : hid W (upd H p o) = hid W H := by
  funext b
  unfold hid upd
  by_cases hb : b = p
  · subst hb; rw [if_pos h, if_pos h]
  · rw [if_neg hb]
theorem hid_new {W : List Addr} {p : Addr} {o : HO} (h : H p = none) : hid (p :: W) (upd H p o) = hid W H := by
  funext b
  unfold hid upd
  by_cases hb : b = p
  · subst hb
    rw [if_pos List.mem_cons_self]
    split
    · rfl
    · exact h.symm
  · rw [if_neg hb]
    have : (b ∈ p :: W) ↔ b ∈ W := by rw [List.mem_cons]; exact ⟨fun q => q.resolve_left hb, .inr⟩
    simp only [this]
theorem kp_new {p : Addr} {o : HO} (h : G p = none) : Kp G (upd G p o) := Kp.of fun b u e => by rw [upd_ne (ne_of_none e h)]; exact e
theorem hid_none {W : List Addr} {p : Addr} (h : H p = none) : hid W H p = none := by unfold hid; split <;> first | rfl | exact h
theorem SOk.grow (s : SOk K S H) {p : Addr} {o : HO} (hp : H p = none) : SOk K S (upd H p o) ∧ KpS S H S (upd H p o) := by
  have k : KpS S H S (upd H p o) := by rw [KpS, hid_upd_out (s.out hp)]; exact kp_new (hid_none hp)
  exact ⟨⟨s.nd, fun q hq => (s.ok q hq).kp k (upd_ne fun z => s.out hp (by rw [← z]; exact List.mem_map.mpr ⟨q, hq, rfl⟩))⟩, k⟩
/-- a new object that may change -/
theorem SOk.birth (s : SOk K S H) {p : Addr} {o : HO} {d : D} (hp : H p = none) (hm : MOk K (hid (adrs S) H) (upd H p o) p d) : SOk K ((p, d) :: S) (upd H p o) ∧ KpS S H ((p, d) :: S) (upd H p o) := by
  have e : hid (adrs ((p, d) :: S)) (upd H p o) = hid (adrs S) H := hid_new hp
  refine ⟨⟨List.nodup_cons.mpr ⟨s.out hp, s.nd⟩, fun q hq => ?_⟩, by rw [KpS, e]; exact Kp.refl _⟩
  rw [e]
  rcases List.mem_cons.mp hq with z | z
  · subst z; exact hm
  · exact (s.ok q z).kp (Kp.refl _) (upd_ne fun w => s.out hp (by rw [← w]; exact List.mem_map.mpr ⟨q, z, rfl⟩))
/-- an object that may change is changed -/
theorem SOk.write (s : SOk K S H) {i : Nat} {p : Addr} {d d' : D} {o : HO} (hi : S[i]? = some (p, d)) (hm : MOk K (hid (adrs S) H) (upd H p o) p d') : SOk K (S.set i (p, d')) (upd H p o) ∧ KpS S H (S.set i (p, d')) (upd H p o) := by
  have hp : p ∈ adrs S := List.mem_map.mpr ⟨_, List.mem_of_getElem? hi, rfl⟩
  have ea : adrs (S.set i (p, d')) = adrs S := by
    show (S.set i (p, d')).map (·.1) = S.map (·.1)
    rw [List.map_set]
    apply List.ext_getElem?
    intro j
    rw [List.getElem?_set]
    split
    · rename_i hj
      subst hj
      obtain ⟨hl, e⟩ := List.getElem?_eq_some_iff.mp hi
      rw [if_pos (by rw [List.length_map]; exact hl), List.getElem?_map, hi]; rfl
    · rfl
  have e : hid (adrs (S.set i (p, d'))) (upd H p o) = hid (adrs S) H := by rw [ea]; exact hid_upd_in hp
  refine ⟨⟨by rw [ea]; exact s.nd, fun q hq => ?_⟩, by rw [KpS, e]; exact Kp.refl _⟩
  rw [e]
  obtain ⟨j, hj⟩ := List.getElem?_of_mem hq
  rw [List.getElem?_set] at hj
  split at hj
  · rename_i hij
    split at hj
    · have z := Option.some.inj hj
      subst z; exact hm
    · cases hj
  · rename_i hij
    refine (s.ok q (List.mem_of_getElem? hj)).kp (Kp.refl _) (upd_ne fun w => hij ?_)
    have h1 : (adrs S)[i]? = some p := by show (S.map (·.1))[i]? = _; rw [List.getElem?_map, hi]; rfl
    have h2 : (adrs S)[j]? = some p := by show (S.map (·.1))[j]? = _; rw [List.getElem?_map, hj]; exact congrArg some w
    exact nd_ix s.nd h1 h2
theorem erase_map : ∀ (S : Store) (i : Nat), (S.eraseIdx i).map (·.1) = (S.map (·.1)).eraseIdx i
  | [], _ => rfl
  | _ :: _, 0 => rfl
  | p :: S, i + 1 => by
    show p.1 :: (S.eraseIdx i).map (·.1) = p.1 :: (S.map (·.1)).eraseIdx i
    rw [erase_map S i]
/-- an object changes no more -/
theorem hid_erase {i : Nat} : KpS S H (S.eraseIdx i) H := Kp.of fun b o e => by
  obtain ⟨h1, h2⟩ := hid_some e
  rw [hid_ne fun m => h1 ?_]
  · exact h2
  · obtain ⟨q, hq, e⟩ := List.mem_map.mp m
    exact List.mem_map.mpr ⟨q, List.mem_of_mem_eraseIdx hq, e⟩
theorem SOk.freeze (s : SOk K S H) {i : Nat} : SOk K (S.eraseIdx i) H :=
  ⟨by show ((S.eraseIdx i).map (·.1)).Nodup
      rw [erase_map]
      exact List.Sublist.nodup (List.eraseIdx_sublist _ _) s.nd, fun q hq => (s.ok q (List.mem_of_mem_eraseIdx hq)).kp hid_erase rfl⟩
theorem SOk.frozen (s : SOk K S H) {i : Nat} {p : Addr} {d : D} (hi : S[i]? = some (p, d)) (hd : frzB d = true) : RepS1 K (S.eraseIdx i) H d (.ref p) := by
  have hm : MOk K (hid (adrs (S.eraseIdx i)) H) H p d := (s.ok _ (List.mem_of_getElem? hi)).kp (H' := H) (hid_erase (i := i)) rfl
  have hout : p ∉ adrs (S.eraseIdx i) := fun m => by
    have hn := s.nd
    have e : (S.eraseIdx i).map (·.1) = (adrs S).eraseIdx i := erase_map S i
    rw [show adrs (S.eraseIdx i) = _ from e] at m
    obtain ⟨j, hji, hj⟩ := List.mem_eraseIdx_iff_getElem?.mp m
    have h1 : (adrs S)[i]? = some p := by show (S.map (·.1))[i]? = _; rw [List.getElem?_map, hi]; rfl
    exact hji (nd_ix hn hj h1)
  cases d with
  | lst l => obtain ⟨xs, e, h2⟩ := hm; exact ⟨p, xs, rfl, by rw [hid_ne hout]; exact e, h2⟩
  | dct l => obtain ⟨xs, e, h2⟩ := hm; exact ⟨p, xs, rfl, .inl (by rw [hid_ne hout]; exact e), h2⟩
  | ins C l => obtain ⟨dx, fs, e, h2⟩ := hm; exact ⟨p, dx, fs, rfl, by rw [hid_ne hout]; exact e, h2⟩
  | pen n => cases hd
  | non => exact hm.elim
  | bl _ => exact hm.elim
  | int _ => exact hm.elim
  | str _ => exact hm.elim
  | tup _ => exact hm.elim
  | tupW _ => exact hm.elim
  | tbl q => cases hd
  | adr _ => exact hm.elim
  | scr _ => exact hm.elim
/-- what is seen stands in the heap -/
theorem hid_sub {W : List Addr} : ∀ b o, hid W H b = some o → H b = some o := fun b o e => (hid_some e).2
theorem kp_hid {W : List Addr} : Kp (hid W H) H := Kp.of hid_sub
end
end DL

/-! Tuples on which no dict hangs: the new object is known to the state. -/
namespace DL
open PySem PySem.Spec PyProof.Rows L2
section
variable {X : Cx} {pins : List (Addr × Obj)} {σ : L2.St} {H : Hp} {s : Shared} {es : List Expr} {t : TA} {pos : Pos}
theorem new_tup {xs : List V} {us : List Value} {h' : Heap} {a : Addr} (I : Inv X pins σ H s) (z : xs.length ≤ sizeLine) (r : Vals xs us) (kp : ∀ b o, s.heap.get? b = some o → h'.get? b = some o) (ha : s.heap.objs.size ≤ a)
    (e : h'.get? a = some { cls := .type "tuple", data := .seq us.toArray }) : Inv X pins σ (upd H a (.frz { cls := .type "tuple", data := .seq us.toArray } (.tup xs))) { s with heap := h' } :=
  I.laid (t' := s.toks) kp ha ⟨e, z, us, r, ⟨_, e, rfl, _, rfl⟩⟩
def tTupN (t : TA) : TE := fun σ H Q => t σ H fun xs H1 => xs.length ≤ sizeLine ∧ ∀ p o, H1 p = none → o.dict = none → Q (.ref p) (upd H1 p (.frz o (.tup xs)))
theorem pe_tupN {x1} (h : PA X es t) : PE X (.Tuple es x1 pos) (tTupN t) := by
  refine ⟨fun pins s σ H Q I hq => ?_⟩
  refine wpAny_Tuple_spliced (thn (h.run pos pins s σ H _ I hq) fun us s1 ⟨xs, H1, I1, r, z, q⟩ => ⟨r.length ▸ z, ?_⟩)
  exact ⟨.ref s1.heap.objs.size, _, new_tup I1 z r (fun b u e => Heap.get?_push_of_some _ e) (Nat.le_refl _) (Heap.get?_push_size _ rfl), rfl, q _ _ (I1.hok.fresh (Nat.le_refl _)) rfl⟩
/-- t + u -/
def rCatN (K : PySem.W.Frag) : R2 := fun x y H Q => ∃ a b xs ys, x = .ref a ∧ y = .ref b ∧ SqT K H a xs ∧ SqT K H b ys ∧ xs.length + ys.length ≤ sizeLine ∧
  (xs = [] → Q (.ref b) H) ∧ (xs ≠ [] → ys = [] → Q (.ref a) H) ∧ (xs ≠ [] → ys ≠ [] → ∀ p o, H p = none → o.dict = none → Q (.ref p) (upd H p (.frz o (.tup (xs ++ ys)))))
theorem op_catN : OpR X (binaryOp .Add) (rCatN X.K) := by
  intro pins s σ H x y v u Q I rx ry h
  obtain ⟨a, b, xs, ys, rfl, rfl, ha, hb, hz, q0, q1, q2⟩ := h
  cases rx; cases ry
  obtain ⟨us, ra, pa, _⟩ := I.tuple ha
  obtain ⟨ws, rb, pb, _⟩ := I.tuple hb
  by_cases hx : xs = []
  · have e : us = [] := ra.nil_iff.mpr hx
    subst e
    exact cat_tup0 pa pb ⟨.ref b, H, I, rfl, q0 hx⟩
  · refine HT.cat_tup pa pb (fun z => hx (ra.nil_iff.mp z)) (fun z => ⟨.ref a, H, I, rfl, q1 hx (rb.nil_iff.mp z)⟩) (fun z => ?_) (by rw [← ra.length, ← rb.length]; exact hz)
    exact ⟨.ref s.heap.objs.size, _, new_tup I (by rw [List.length_append]; exact hz) (ra.append rb) (fun c ob w => Heap.get?_push_of_some _ w) (Nat.le_refl _) (Heap.get?_push_size _ rfl), rfl, q2 hx (fun w => z (rb.nil_iff.mpr w)) _ _ (I.hok.fresh (Nat.le_refl _)) rfl⟩
/-- t[lo:hi] -/
def rSlN (K : PySem.W.Frag) : V → Option Int → Option Int → Hp → VK → Prop := fun x lo hi H Q => ∃ a xs, x = .ref a ∧ SqT K H a xs ∧
  (HT.sIx xs.length 0 lo = 0 ∧ HT.sIx xs.length xs.length hi = xs.length → Q (.ref a) H) ∧ (∀ p o, H p = none → o.dict = none → Q (.ref p) (upd H p (.frz o (.tup (cutV xs lo hi)))))
theorem sl_tupN : SlR X (rSlN X.K) := by
  intro pins s σ H x v vl vu lo hi sl Q I rx hs pl pu h
  obtain ⟨a, xs, rfl, hx, q1, q2⟩ := h
  cases rx
  obtain ⟨us, r, ht, hz⟩ := I.tuple hx
  have el : us.toArray.size = xs.length := by rw [List.size_toArray, r.length]
  refine ⟨"tuple", _, PyProof.Rows.slot_tuple_getitem.lookup, ht.typeIs, ?_⟩
  by_cases hw : HT.sIx xs.length 0 lo = 0 ∧ HT.sIx xs.length xs.length hi = xs.length
  · exact getItem_tuple_whole ht hs pl pu (el.symm ▸ hw) ⟨.ref a, H, I, rfl, q1 hw⟩
  · refine HT.getItem_tuple_cut ht hs pl pu (el.symm ▸ hw) ?_ (el.symm ▸ hz)
    rw [el]
    exact ⟨.ref s.heap.objs.size, _, new_tup (xs := cutV xs lo hi) I (Nat.le_trans (cutV_length xs lo hi) hz) ((r.drop _).take _) (fun c ob w => Heap.get?_push_of_some _ w) (Nat.le_refl _) (Heap.get?_push_size _ rfl), rfl, q2 _ _ (I.hok.fresh (Nat.le_refl _)) rfl⟩
/-- tuple(x) -/
def rTupN (K : PySem.W.Frag) : List V → Hp → VK → Prop := fun vs H Q => ∃ p ys, vs = [.ref p] ∧ ((SqL K H p ys ∧ ∀ l o, H l = none → o.dict = none → Q (.ref l) (upd H l (.frz o (.tup ys)))) ∨ (SqT K H p ys ∧ Q (.ref p) H))
theorem call_tupleN : CallR X (.type "tuple") (rTupN X.K) := by
  intro pins s σ H vs us Q I r h
  obtain ⟨p, ys, rfl, h⟩ := h
  obtain ⟨u, rfl, rx⟩ := vals1 r
  cases rx
  rcases h with ⟨hq, q⟩ | ⟨hq, q⟩
  · obtain ⟨its, ri, pl, hz⟩ := I.list hq
    refine call_tuple_list pl.isList (fun h' kp => ?_) (by rw [List.size_toArray, ← ri.length]; exact hz)
    have J : Inv X pins σ H { s with heap := h' } := I.kept (t' := s.toks) kp
    have J2 := new_tup (a := h'.objs.size) (h' := h'.push { cls := .type "tuple", data := .seq its.toArray }) J hz ri (fun c ob w => Heap.get?_push_of_some _ w) (Nat.le_refl _) (Heap.get?_push_size _ rfl)
    exact ⟨.ref h'.objs.size, _, J2, rfl, q _ _ (J.hok.fresh (Nat.le_refl _)) rfl⟩
  · obtain ⟨its, ri, pl, hz⟩ := I.tuple hq
    exact call_tuple_same pl ⟨.ref p, H, I, rfl, q⟩
/-- a tuple's methods -/
def tyTup (K : PySem.W.Frag) (x : V) (H : Hp) : Prop := ∃ a xs, x = .ref a ∧ NTup K H a xs
theorem ty_tup : TyOk X "tuple" (tyTup X.K) := by
  intro pins σ H s x v I r ty
  obtain ⟨a, xs, rfl, h⟩ := ty
  cases r
  obtain ⟨its, _, pl, _⟩ := I.tuple h.sq
  refine ⟨pl.typeIs, fun b e => ?_⟩
  cases e
  rcases h with ⟨o, h, d⟩ | ⟨⟨o, h, d⟩, _⟩
  · obtain ⟨e, _⟩ := I.hok _ _ h
    exact ⟨o, e, d⟩
  · exact ⟨o, I.kIn _ _ h, d⟩
end
end DL

namespace DL
open PySem L2

/-! ### the weakest of a piece of syntax -/
def wE (X : Cx) (e : Expr) : TE := fun σ H Q => ∀ pins s, Inv X pins σ H s → wpAny (model X.prog X.w) X.A (eval e X.env) (EP X pins σ Q) X.xe s
theorem pe_w {X : Cx} {e : Expr} : PE X e (wE X e) := ⟨fun pins s _ _ _ I h => h pins s I⟩
theorem w_pe {X : Cx} {e : Expr} {t : TE} {σ : St} {H : Hp} {Q : VK} (p : PE X e t) (h : t σ H Q) : wE X e σ H Q := fun pins s I => p.run pins s σ H Q I h
def wT (X : Cx) (e : Expr) : TT := fun σ H Q => ∀ pins s, Inv X pins σ H s → wpAny (model X.prog X.w) X.A (isTrue e X.env (eval e X.env)) (TP X pins σ Q) X.xe s
theorem pt_w {X : Cx} {e : Expr} : PT X e (wT X e) := ⟨fun pins s _ _ _ I h => h pins s I⟩
theorem w_pt {X : Cx} {e : Expr} {t : TT} {σ : St} {H : Hp} {Q : Bool → Hp → Prop} (p : PT X e t) (h : t σ H Q) : wT X e σ H Q := fun pins s I => p.run pins s σ H Q I h
def wW (X : Cx) (e : Expr) : TT := fun σ H Q => ∀ (whole : Sem Value) pins s, Inv X pins σ H s → wpAny (model X.prog X.w) X.A (isTrue e X.env whole) (TP X pins σ Q) X.xe s
theorem pw_w {X : Cx} {e : Expr} : PW X e (wW X e) := ⟨fun whole pins s _ _ _ I h => h whole pins s I⟩
theorem w_pw {X : Cx} {e : Expr} {t : TT} {σ : St} {H : Hp} {Q : Bool → Hp → Prop} (p : PW X e t) (h : t σ H Q) : wW X e σ H Q := fun whole pins s I => p.run whole pins s σ H Q I h
def wA (X : Cx) (es : List Expr) : TA := fun σ H Q => ∀ (pos : Pos) pins s, Inv X pins σ H s → wpAny (model X.prog X.w) X.A (spliced (backTo pos (starEach es X.env))) (AP X pins σ Q) X.xe s
theorem pa_w {X : Cx} {es : List Expr} : PA X es (wA X es) := ⟨fun pos pins s _ _ _ I h => h pos pins s I⟩
theorem w_pa {X : Cx} {es : List Expr} {t : TA} {σ : St} {H : Hp} {Q : List V → Hp → Prop} (p : PA X es t) (h : t σ H Q) : wA X es σ H Q := fun pos pins s I => p.run pos pins s σ H Q I h

/-! ### over slots and store -/
def aE (X : Cx) (e : Expr) (ρ : Sl) (S : Store) (Q : D → Store → Prop) : Prop :=
  ∀ σ H (R : VK), Sat X.K ρ S σ H → (∀ v H' d S', Q d S' → KpS S H S' H' → SOk X.K S' H' → RepS1 X.K S' H' d v → R v H') → wE X e σ H R
def aT (X : Cx) (e : Expr) (ρ : Sl) (S : Store) (Q : Bool → Store → Prop) : Prop :=
  ∀ σ H (R : Bool → Hp → Prop), Sat X.K ρ S σ H → (∀ b H' S', Q b S' → KpS S H S' H' → SOk X.K S' H' → R b H') → wT X e σ H R
def aW (X : Cx) (e : Expr) (ρ : Sl) (S : Store) (Q : Bool → Store → Prop) : Prop :=
  ∀ σ H (R : Bool → Hp → Prop), Sat X.K ρ S σ H → (∀ b H' S', Q b S' → KpS S H S' H' → SOk X.K S' H' → R b H') → wW X e σ H R
def aA (X : Cx) (es : List Expr) (ρ : Sl) (S : Store) (Q : List D → Store → Prop) : Prop :=
  ∀ σ H (R : List V → Hp → Prop), Sat X.K ρ S σ H → (∀ vs H' ds S', Q ds S' → KpS S H S' H' → SOk X.K S' H' → RepL X.K (hid (adrs S') H') ds vs → R vs H') → wA X es σ H R

section
variable {X : Cx} {ρ : Sl} {S : Store} {Q : D → Store → Prop} {pos : Pos} {a b e : Expr}
theorem aE.mono {Q' : D → Store → Prop} (h : aE X e ρ S Q') (m : ∀ d S', Q' d S' → Q d S') : aE X e ρ S Q := fun σ H R s k => h σ H R s fun v H' d S' q => k v H' d S' (m _ _ q)
/-! #### names, constants -/
theorem aE_var {x : Str} (i : Nat) {d : D} (q : Q d S) (hr : ρ[i]? = some (some d) := by rfl) (hN : X.N[i]? = some x := by rfl) (hv : Vis X.env.scope x := by first | exact Or.inl rfl | exact Or.inr (Or.inl rfl) | exact Or.inr (Or.inr rfl)) (hd : (x == ("__debug__" : Str)) = false := by decide)
    (hcd : (x == ("__classdict__" : Str)) = false := by decide) : aE X (.Name x pos) ρ S Q := fun σ H R s k => by
  obtain ⟨v, e, r⟩ := s.sl.get hr
  exact w_pe (pe_var hN hv hd hcd) ⟨v, e, k v H d S q (Kp.refl _) s.ok r⟩
theorem aE_int {i : Int} {j : Nat} (q : Q (.int i) S) : aE X (.Constant (.int i) j pos) ρ S Q := fun σ H R s k => w_pe pe_int (k _ H _ S q (Kp.refl _) s.ok rfl)
theorem aE_bl {c : Bool} {j : Nat} (q : Q (.bl c) S) : aE X (.Constant (.bool c) j pos) ρ S Q := fun σ H R s k => w_pe pe_bl (k _ H _ S q (Kp.refl _) s.ok rfl)
theorem aE_non {j : Nat} (q : Q .non S) : aE X (.Constant .none j pos) ρ S Q := fun σ H R s k => w_pe pe_non (k _ H _ S q (Kp.refl _) s.ok rfl)
theorem aE_str {z : Str} {j : Nat} (q : Q (.str z) S) : aE X (.Constant (.str z) j pos) ρ S Q := fun σ H R s k => w_pe pe_str (k _ H _ S q (Kp.refl _) s.ok rfl)
theorem aE_glob {x : Str} {u : Value} {v : V} {d : D} (hm : X.mg x = some u) (r : RelV v u) (hd : ∀ G, Rep X.K G d v) (q : Q d S) (hg : Gl X x := by rfl) (hd' : (x == ("__debug__" : Str)) = false := by decide) : aE X (.Name x pos) ρ S Q := fun σ H R s k => w_pe (pe_glob hg hm r hd') (k v H d S q (Kp.refl _) s.ok (hd _))

/-! #### arguments -/
theorem aA_nil {Q : List D → Store → Prop} (q : Q [] S) : aA X [] ρ S Q := fun σ H R s k => w_pa pa_nil (k _ H _ S q (Kp.refl _) s.ok rfl)
theorem aA_cons {es : List Expr} {Q : List D → Store → Prop} (h : aE X e ρ S fun d S1 => aA X es ρ S1 fun ds S2 => Q (d :: ds) S2) (hs : starEach (e :: es) X.env = (false, eval e X.env) :: starEach es X.env := by rfl) : aA X (e :: es) ρ S Q := fun σ H R s k => by
  refine w_pa (pa_cons pe_w pa_w hs) ?_
  refine h σ H _ s fun v H1 d S1 q1 k1 o1 r1 => ?_
  refine q1 σ H1 _ (s.next k1 o1) fun vs H2 ds S2 q2 k2 o2 r2 => ?_
  exact k _ _ _ _ q2 (k1.trans k2) o2 ⟨v, vs, rfl, r1.kp k2, r2⟩

/-! #### tuples, lists -/
theorem sz_of {n : Nat} (h : n ≤ 100000) : n ≤ sizeLine := Nat.le_trans h (by decide)
theorem sz_lt {n : Nat} (h : n < 100000) : n < sizeLine := Nat.lt_of_lt_of_le h (by decide)
theorem aE_tup {es : List Expr} {x1} (h : aA X es ρ S fun ds S1 => ds.length ≤ 100000 ∧ Q (.tup ds) S1) : aE X (.Tuple es x1 pos) ρ S Q := fun σ H R s k => by
  refine w_pe (pe_tupN pa_w) ?_
  refine h σ H _ s fun vs H1 ds S1 ⟨hl, q⟩ k1 o1 r1 => ?_
  refine ⟨by rw [r1.len]; exact sz_of hl, fun p o hp ho => ?_⟩
  obtain ⟨o2, k2⟩ := o1.grow (o := .frz o (.tup vs)) hp
  exact k _ _ _ _ q (k1.trans k2) o2 ⟨p, vs, rfl, .inl ⟨o, by rw [hid_ne (o1.out hp)]; exact upd_same, ho⟩, r1.kp k2⟩
/-- a new list: it changes no more, or it may change -/
def NewL (l : List D) (S : Store) (Q : D → Store → Prop) : Prop := Q (.lst l) S ∨ ∀ p, Q (.adr p) ((p, .lst l) :: S)
theorem NewL.use {K : PySem.W.Frag} {l : List D} {H H0 : Hp} {S0 : Store} {xs : List V} {R : VK} (n : NewL l S Q) (o1 : SOk K S H) (r1 : RepL K (hid (adrs S) H) l xs) (k1 : KpS S0 H0 S H) {p : Addr} (hp : H p = none)
    (k : ∀ v H' d S', Q d S' → KpS S0 H0 S' H' → SOk K S' H' → RepS1 K S' H' d v → R v H') : R (.ref p) (upd H p (.lst xs)) := by
  rcases n with q | q
  · obtain ⟨o2, k2⟩ := o1.grow (o := .lst xs) hp
    exact k _ _ _ _ q (k1.trans k2) o2 ⟨p, xs, rfl, by rw [hid_ne (o1.out hp)]; exact upd_same, r1.kp k2⟩
  · obtain ⟨o2, k2⟩ := o1.birth (o := .lst xs) (d := .lst l) hp ⟨xs, upd_same, r1⟩
    exact k _ _ _ _ (q p) (k1.trans k2) o2 rfl
theorem aE_lst {es : List Expr} (h : aA X es ρ S fun ds S1 => ds.length ≤ 100000 ∧ NewL ds S1 Q) : aE X (.List es pos) ρ S Q := fun σ H R s k => by
  refine w_pe (pe_lst pa_w) ?_
  refine h σ H _ s fun vs H1 ds S1 ⟨hl, q⟩ k1 o1 r1 => ?_
  exact ⟨by rw [r1.len]; exact sz_of hl, fun p hp => q.use o1 r1 k1 hp k⟩

/-! #### what a value is -/
def ResL (S : Store) (d : D) (l : List D) : Prop := d = .lst l ∨ ∃ (i : Nat) (a : Addr), d = .adr a ∧ S[i]? = some (a, .lst l)
theorem ResL.use {K : PySem.W.Frag} {H : Hp} {d : D} {l : List D} {v : V} (h : ResL S d l) (o : SOk K S H) (r : RepS1 K S H d v) : ∃ a xs, v = .ref a ∧ H a = some (.lst xs) ∧ RepL K (hid (adrs S) H) l xs := by
  rcases h with h | ⟨i, a, h, hi⟩
  · subst h
    obtain ⟨a, xs, e, h1, h2⟩ := r
    exact ⟨a, xs, e, hid_sub _ _ h1, h2⟩
  · subst h
    obtain ⟨xs, h1, h2⟩ := o.ok _ (List.mem_of_getElem? hi)
    exact ⟨a, xs, r, h1, h2⟩
def ResD (S : Store) (d : D) (l : List (Key × D)) : Prop := d = .dct l ∨ ∃ (i : Nat) (a : Addr), d = .adr a ∧ S[i]? = some (a, .dct l)
theorem ResD.use {K : PySem.W.Frag} {H : Hp} {d : D} {l : List (Key × D)} {v : V} (h : ResD S d l) (o : SOk K S H) (r : RepS1 K S H d v) : ∃ a xs, v = .ref a ∧ Rd H a (.dK xs) ∧ RepP K (hid (adrs S) H) l xs := by
  rcases h with h | ⟨i, a, h, hi⟩
  · subst h
    obtain ⟨a, xs, e, h1, h2⟩ := r
    exact ⟨a, xs, e, kp_hid.d _ _ h1, h2⟩
  · subst h
    obtain ⟨xs, h1, h2⟩ := o.ok _ (List.mem_of_getElem? hi)
    exact ⟨a, xs, r, .inl h1, h2⟩
def ResI (S : Store) (d : D) (C : Addr) (l : List (Str × D)) : Prop := d = .ins C l ∨ ∃ (i : Nat) (a : Addr), d = .adr a ∧ S[i]? = some (a, .ins C l)
theorem ResI.use {K : PySem.W.Frag} {H : Hp} {d : D} {C : Addr} {l : List (Str × D)} {v : V} (h : ResI S d C l) (o : SOk K S H) (r : RepS1 K S H d v) : ∃ a dx fs, v = .ref a ∧ H a = some (.ins C dx fs) ∧ RepF K (hid (adrs S) H) l fs := by
  rcases h with h | ⟨i, a, h, hi⟩
  · subst h
    obtain ⟨a, dx, xs, e, h1, h2⟩ := r
    exact ⟨a, dx, xs, e, hid_sub _ _ h1, h2⟩
  · subst h
    obtain ⟨dx, xs, h1, h2⟩ := o.ok _ (List.mem_of_getElem? hi)
    exact ⟨a, dx, xs, r, h1, h2⟩
/-- a list or a tuple -/
def ResQ (S : Store) (d : D) (l : List D) : Prop := ResL S d l ∨ d = .tup l ∨ ∃ ns : List Int, d = .scr ns ∧ l = ns.map D.int
theorem tupT {K : PySem.W.Frag} {G : Hp} {l : List D} {v : V} (r : Rep K G (.tup l) v) : ∃ a xs, v = .ref a ∧ SqT K G a xs ∧ RepL K G l xs := let ⟨a, xs, e, h, p⟩ := r; ⟨a, xs, e, h.sq, p⟩

/-! #### operators -/
/-- from values to data -/
def AOp (K : PySem.W.Frag) (r : R2) (rA : D → D → Store → (D → Store → Prop) → Prop) : Prop :=
  ∀ d1 d2 S Q x y H S0 H0 (R : VK), rA d1 d2 S Q → SOk K S H → RepS1 K S H d1 x → RepS1 K S H d2 y → KpS S0 H0 S H → (∀ v H' d S', Q d S' → KpS S0 H0 S' H' → SOk K S' H' → RepS1 K S' H' d v → R v H') → r x y H R
theorem AOp.or {K : PySem.W.Frag} {r r' : R2} {rA rA' : D → D → Store → (D → Store → Prop) → Prop} (h : AOp K r rA) (h' : AOp K r' rA') :
    AOp K (fun x y H Q => r x y H Q ∨ r' x y H Q) (fun d e S Q => rA d e S Q ∨ rA' d e S Q) := fun d1 d2 S Q x y H S0 H0 R q o r1 r2 k0 k => by
  rcases q with q | q
  · exact .inl (h d1 d2 S Q x y H S0 H0 R q o r1 r2 k0 k)
  · exact .inr (h' d1 d2 S Q x y H S0 H0 R q o r1 r2 k0 k)
theorem aE_op {op : Operator} {r : R2} {rA : D → D → Store → (D → Store → Prop) → Prop} (ho : OpR X (binaryOp op) r) (hA : AOp X.K r rA) (h : aE X a ρ S fun d1 S1 => aE X b ρ S1 fun d2 S2 => rA d1 d2 S2 Q) : aE X (.BinOp a op b pos) ρ S Q := fun σ H R s k => by
  refine w_pe (pe_op ho pe_w pe_w) ?_
  refine h σ H _ s fun x H1 d1 S1 q1 k1 o1 r1 => ?_
  refine q1 σ H1 _ (s.next k1 o1) fun y H2 d2 S2 q2 k2 o2 r2 => ?_
  exact hA d1 d2 S2 Q x y H2 S H R q2 o2 (r1.kp k2) r2 (k1.trans k2) k
theorem aE_cmp {op : CmpOp} {r : R2} {rA : D → D → Store → (D → Store → Prop) → Prop} (ho : OpR X (compareOp op) r) (hA : AOp X.K r rA) (h : aE X a ρ S fun d1 S1 => aE X b ρ S1 fun d2 S2 => rA d1 d2 S2 Q) (hm : behindInMarks op b = false := by first | exact nomark _ | rfl) : aE X (.Compare a [op] [b] pos) ρ S Q := fun σ H R s k => by
  refine w_pe (pe_cmpR ho pe_w pe_w hm) ?_
  refine h σ H _ s fun x H1 d1 S1 q1 k1 o1 r1 => ?_
  refine q1 σ H1 _ (s.next k1 o1) fun y H2 d2 S2 q2 k2 o2 r2 => ?_
  exact hA d1 d2 S2 Q x y H2 S H R q2 o2 (r1.kp k2) r2 (k1.trans k2) k
theorem aE_ix {r : R2} {rA : D → D → Store → (D → Store → Prop) → Prop} (ho : IxR X r) (hA : AOp X.K r rA) (h : aE X a ρ S fun d1 S1 => aE X b ρ S1 fun d2 S2 => rA d1 d2 S2 Q) (hs : PlainIx b := by exact fun _ _ => rfl) : aE X (.Subscript a b pos) ρ S Q := fun σ H R s k => by
  refine w_pe (pe_ix ho pe_w pe_w hs) ?_
  refine h σ H _ s fun x H1 d1 S1 q1 k1 o1 r1 => ?_
  refine q1 σ H1 _ (s.next k1 o1) fun y H2 d2 S2 q2 k2 o2 r2 => ?_
  exact hA d1 d2 S2 Q x y H2 S H R q2 o2 (r1.kp k2) r2 (k1.trans k2) k

variable {K : PySem.W.Frag}
def aI0 (g : Int → Int → D) : D → D → Store → (D → Store → Prop) → Prop := fun d e S Q => ∃ i j, d = .int i ∧ e = .int j ∧ Q (g i j) S
def aI (C : Int → Int → Prop) (g : Int → Int → D) : D → D → Store → (D → Store → Prop) → Prop := fun d e S Q => ∃ i j, d = .int i ∧ e = .int j ∧ C i j ∧ Q (g i j) S
theorem aop_I0 {gV : Int → Int → V} {g : Int → Int → D} (hg : ∀ G i j, Rep K G (g i j) (gV i j)) : AOp K (rI0 gV) (aI0 g) := fun d1 d2 S Q x y H S0 H0 R q o r1 r2 k0 k => by
  obtain ⟨i, j, rfl, rfl, q⟩ := q
  exact ⟨i, j, r1, r2, k _ _ _ _ q k0 o (hg _ i j)⟩
theorem aop_I {C : Int → Int → Prop} {gV : Int → Int → V} {g : Int → Int → D} (hg : ∀ G i j, Rep K G (g i j) (gV i j)) : AOp K (rI C gV) (aI C g) := fun d1 d2 S Q x y H S0 H0 R q o r1 r2 k0 k => by
  obtain ⟨i, j, rfl, rfl, hc, q⟩ := q
  exact ⟨i, j, r1, r2, hc, k _ _ _ _ q k0 o (hg _ i j)⟩
theorem aop_II {g : Int → Int → Int} : AOp K (rI0 fun i j => .int (g i j)) (aI0 fun i j => .int (g i j)) := aop_I0 fun _ _ _ => rfl
theorem aop_IC {C : Int → Int → Prop} {g : Int → Int → Int} : AOp K (rI C fun i j => .int (g i j)) (aI C fun i j => .int (g i j)) := aop_I fun _ _ _ => rfl
theorem aop_IB {g : Int → Int → Bool} : AOp K (rI0 fun i j => .bl (g i j)) (aI0 fun i j => .bl (g i j)) := aop_I0 fun _ _ _ => rfl
def aAddS : D → D → Store → (D → Store → Prop) → Prop := fun d e S Q => ∃ a b, d = .str a ∧ e = .str b ∧ a.length + b.length ≤ 100000 ∧ Q (.str (a ++ b)) S
theorem aop_addS : AOp K (fun x y H Q => ∃ i j, x = .str i ∧ y = .str j ∧ i.length + j.length ≤ sizeLine ∧ Q (.str (i ++ j)) H) aAddS := fun d1 d2 S Q x y H S0 H0 R q o r1 r2 k0 k => by
  obtain ⟨i, j, rfl, rfl, hc, q⟩ := q
  exact ⟨i, j, r1, r2, sz_of hc, k _ _ _ _ q k0 o rfl⟩
def aCat : D → D → Store → (D → Store → Prop) → Prop := fun d e S Q => ∃ l m, ResL S d l ∧ ResL S e m ∧ l.length + m.length ≤ 100000 ∧ NewL (l ++ m) S Q
theorem aop_cat : AOp K rCat aCat := fun d1 d2 S Q x y H S0 H0 R q o r1 r2 k0 k => by
  obtain ⟨l, m, h1, h2, hc, q⟩ := q
  obtain ⟨a, xs, e1, g1, p1⟩ := h1.use o r1
  obtain ⟨b, ys, e2, g2, p2⟩ := h2.use o r2
  exact ⟨a, b, xs, ys, e1, e2, g1, g2, sz_of (by rw [p1.len, p2.len]; exact hc), fun p hp => q.use o (p1.app p2) k0 hp k⟩
def aCatT : D → D → Store → (D → Store → Prop) → Prop := fun d e S Q => ∃ l m, d = .tup l ∧ e = .tup m ∧ l.length + m.length ≤ 100000 ∧ Q (.tup (l ++ m)) S
theorem aop_catT : AOp K (rCatN K) aCatT := fun d1 d2 S Q x y H S0 H0 R q o r1 r2 k0 k => by
  obtain ⟨l, m, rfl, rfl, hc, q⟩ := q
  obtain ⟨a, xs, e1, g1, p1⟩ := r1
  obtain ⟨b, ys, e2, g2, p2⟩ := r2
  refine ⟨a, b, xs, ys, e1, e2, sqT_kp kp_hid g1.sq, sqT_kp kp_hid g2.sq, sz_of (by rw [p1.len, p2.len]; exact hc), fun z => ?_, fun _ z => ?_, fun _ _ p ob hp hob => ?_⟩
  · have zl : l = [] := List.length_eq_zero_iff.mp (by rw [← p1.len, z]; rfl)
    refine k _ _ _ _ q k0 o ?_
    rw [zl]
    exact ⟨b, ys, rfl, g2, p2⟩
  · have zl : m = [] := List.length_eq_zero_iff.mp (by rw [← p2.len, z]; rfl)
    refine k _ _ _ _ q k0 o ?_
    rw [zl, List.append_nil]
    exact ⟨a, xs, rfl, g1, p1⟩
  · obtain ⟨o2, k2⟩ := o.grow (o := .frz ob (.tup (xs ++ ys))) hp
    exact k _ _ _ _ q (k0.trans k2) o2 ⟨p, _, rfl, .inl ⟨ob, by rw [hid_ne (o.out hp)]; exact upd_same, hob⟩, (p1.app p2).kp k2⟩
/-- a + b -/
theorem op_addAll : OpR X (binaryOp .Add) (fun x y H Q => rI0 (fun i j => .int (i + j)) x y H Q ∨ (∃ i j, x = .str i ∧ y = .str j ∧ i.length + j.length ≤ sizeLine ∧ Q (.str (i ++ j)) H) ∨ rCat x y H Q ∨ rCatN X.K x y H Q) :=
  OpR.or op_add (OpR.or op_add_str (OpR.or op_cat op_catN))
def aAdd : D → D → Store → (D → Store → Prop) → Prop := fun d e S Q => aI0 (fun i j => .int (i + j)) d e S Q ∨ aAddS d e S Q ∨ aCat d e S Q ∨ aCatT d e S Q
theorem aE_add (h : aE X a ρ S fun d1 S1 => aE X b ρ S1 fun d2 S2 => aAdd d1 d2 S2 Q) : aE X (.BinOp a .Add b pos) ρ S Q :=
  aE_op op_addAll (AOp.or aop_II (AOp.or aop_addS (AOp.or aop_cat aop_catT))) h
def aSub : D → D → Store → (D → Store → Prop) → Prop := aI0 fun i j => .int (i - j)
theorem aE_sub (h : aE X a ρ S fun d1 S1 => aE X b ρ S1 fun d2 S2 => aSub d1 d2 S2 Q) : aE X (.BinOp a .Sub b pos) ρ S Q := aE_op op_sub aop_II h
def aRep : D → D → Store → (D → Store → Prop) → Prop := fun d e S Q => ∃ l k, ResL S d l ∧ e = .int k ∧ 0 ≤ k ∧ k ≤ 1000 ∧ l.length * k.toNat ≤ 100000 ∧ NewL (List.replicate k.toNat l).flatten S Q
theorem repL_flat {G : Hp} {l : List D} {xs : List V} (h : RepL K G l xs) : ∀ n : Nat, RepL K G (List.replicate n l).flatten (List.replicate n xs).flatten
  | 0 => rfl
  | n + 1 => by rw [List.replicate_succ, List.replicate_succ, List.flatten_cons, List.flatten_cons]; exact h.app (repL_flat h n)
theorem aop_rep : AOp K rRep aRep := fun d1 d2 S Q x y H S0 H0 R q o r1 r2 k0 k => by
  obtain ⟨l, n, h1, rfl, n0, n1, hc, q⟩ := q
  obtain ⟨a, xs, e1, g1, p1⟩ := h1.use o r1
  exact ⟨a, n, xs, e1, r2, g1, by omega, by omega, sz_of (by rw [p1.len]; exact hc), fun p hp => q.use o (repL_flat p1 _) k0 hp k⟩
def aMul : D → D → Store → (D → Store → Prop) → Prop := fun d e S Q => aI CMul (fun i j => .int (i * j)) d e S Q ∨ aRep d e S Q
theorem aE_mul (h : aE X a ρ S fun d1 S1 => aE X b ρ S1 fun d2 S2 => aMul d1 d2 S2 Q) : aE X (.BinOp a .Mult b pos) ρ S Q := aE_op (OpR.or op_mul op_rep) (AOp.or aop_IC aop_rep) h
def aMod : D → D → Store → (D → Store → Prop) → Prop := aI (fun _ j => 0 < j) fun i j => .int (i % j)
theorem aE_mod (h : aE X a ρ S fun d1 S1 => aE X b ρ S1 fun d2 S2 => aMod d1 d2 S2 Q) : aE X (.BinOp a .Mod b pos) ρ S Q := aE_op op_mod aop_IC h
def aFdiv : D → D → Store → (D → Store → Prop) → Prop := aI CDiv fun i j => .int (i / j)
theorem aE_fdiv (h : aE X a ρ S fun d1 S1 => aE X b ρ S1 fun d2 S2 => aFdiv d1 d2 S2 Q) : aE X (.BinOp a .FloorDiv b pos) ρ S Q := aE_op op_fdiv aop_IC h
def aPow : D → D → Store → (D → Store → Prop) → Prop := aI CPow fun i j => .int (i ^ j.toNat)
theorem aE_pow (h : aE X a ρ S fun d1 S1 => aE X b ρ S1 fun d2 S2 => aPow d1 d2 S2 Q) : aE X (.BinOp a .Pow b pos) ρ S Q := aE_op op_pow aop_IC h
end
end DL

namespace DL
open PySem L2

/-! ### plain data -/
mutual
def py : D → Option PyData
  | .non => some .none
  | .bl b => some (.bool b)
  | .int i => some (.int i)
  | .str s => some (.str s)
  | .tup l => (pyL l).map .tuple
  | .lst l => (pyL l).map .list
  | .tupW l => (pyL l).map .tuple
  | _ => none
def pyL : List D → Option (List PyData)
  | [] => some []
  | d :: l => (py d).bind fun p => (pyL l).map (p :: ·)
end
section
variable {K : PySem.W.Frag} {G H : Hp}
theorem pyL_cons {d : D} {l : List D} {ps : List PyData} (h : pyL (d :: l) = some ps) : ∃ p r, py d = some p ∧ pyL l = some r ∧ ps = p :: r := by
  have h : (py d).bind (fun p => (pyL l).map (p :: ·)) = some ps := h
  obtain ⟨p, h1, h2⟩ := Option.bind_eq_some_iff.mp h
  obtain ⟨r, h3, h4⟩ := Option.map_eq_some_iff.mp h2
  exact ⟨p, r, h1, h3, h4.symm⟩
mutual
theorem Rep.dp : ∀ (d : D) {v : V} {p : PyData}, Rep K G d v → py d = some p → Dp K G v p
  | .non, v, p, h, e => by cases e; cases (show v = .non from h); exact .non
  | .bl b, v, p, h, e => by cases e; cases (show v = .bl b from h); exact .bl b
  | .int i, v, p, h, e => by cases e; cases (show v = .int i from h); exact .int i
  | .str s, v, p, h, e => by cases e; cases (show v = .str s from h); exact .str s
  | .tup l, v, p, ⟨a, xs, e1, h1, h2⟩, e => by
    obtain ⟨ps, h3, h4⟩ := Option.map_eq_some_iff.mp (show (pyL l).map PyData.tuple = some p from e)
    subst h4; subst e1
    exact .tup h1.sq (RepL.dp l h2 h3)
  | .lst l, v, p, ⟨a, xs, e1, h1, h2⟩, e => by
    obtain ⟨ps, h3, h4⟩ := Option.map_eq_some_iff.mp (show (pyL l).map PyData.list = some p from e)
    subst h4; subst e1
    exact .lst (.inl (.inl h1)) (RepL.dp l h2 h3)
  | .dct _, v, p, h, e => by cases e
  | .ins _ _, v, p, h, e => by cases e
  | .adr _, v, p, h, e => by cases e
  | .scr _, v, p, h, e => by cases e
  | .pen _, v, p, h, e => by cases e
  | .tupW l, v, p, ⟨a, xs, e1, h1, h2⟩, e => by
    obtain ⟨ps, h3, h4⟩ := Option.map_eq_some_iff.mp (show (pyL l).map PyData.tuple = some p from e)
    subst h4; subst e1
    exact .tup h1 (RepL.dp l h2 h3)
  | .tbl _, v, p, h, e => by cases e
theorem RepL.dp : ∀ (l : List D) {xs : List V} {ps : List PyData}, RepL K G l xs → pyL l = some ps → DpAll K G xs ps
  | [], xs, ps, h, e => by
    cases e
    rw [show xs = [] from h]
    exact .nil
  | d :: l, xs, ps, ⟨x, r, e1, h1, h2⟩, e => by
    obtain ⟨p, q, e2, e3, e4⟩ := pyL_cons e
    subst e4; subst e1
    exact .cons (Rep.dp d h1 e2) (RepL.dp l h2 e3)
end
mutual
theorem Dp.sub {G' : Hp} (k : Kp G G') : ∀ (p : PyData) {v : V}, Dp K G v p → Dp K G' v p
  | .none, _, h => by cases h; exact .non
  | .bool b, _, h => by cases h; exact .bl b
  | .int i, _, h => by cases h; exact .int i
  | .str s, _, h => by cases h; exact .str s
  | .list ps, _, h => by
    cases h with
    | lst h1 h2 => exact .lst (sqL_kp k h1) (DpAll.sub k ps h2)
  | .tuple ps, _, h => by
    cases h with
    | tup h1 h2 => exact .tup (sqT_kp k h1) (DpAll.sub k ps h2)
  | .dict _, _, h => by cases h
theorem DpAll.sub {G' : Hp} (k : Kp G G') : ∀ (ps : List PyData) {xs : List V}, DpAll K G xs ps → DpAll K G' xs ps
  | [], _, h => by cases h; exact .nil
  | p :: ps, _, h => by
    cases h with
    | cons h1 h2 => exact .cons (Dp.sub k p h1) (DpAll.sub k ps h2)
end
/-- the data of a value; a list that may change, too -/
def PyOf (S : Store) (d : D) (p : PyData) : Prop := py d = some p ∨ ∃ l ps, ResL S d l ∧ pyL l = some ps ∧ p = .list ps
theorem PyOf.use {S : Store} {d : D} {p : PyData} {v : V} (h : PyOf S d p) (o : SOk K S H) (r : RepS1 K S H d v) : Dp K H v p := by
  rcases h with h | ⟨l, ps, h1, h2, h3⟩
  · exact Dp.sub kp_hid p (Rep.dp d r h)
  · obtain ⟨a, xs, e, g, q⟩ := h1.use o r
    subst h3; subst e
    exact .lst (.inl (.inl g)) (DpAll.sub kp_hid ps (RepL.dp l q h2))
end

/-! ### == and != -/
section
variable {X : Cx} {ρ : Sl} {S : Store} {Q : D → Store → Prop} {pos : Pos} {a b e : Expr} {K : PySem.W.Frag}
/-- a list against a list of another length, or both empty -/
def rEqN (neg : Bool) : R2 := fun x y H Q => ∃ a b xs ys, x = .ref a ∧ y = .ref b ∧ H a = some (.lst xs) ∧ H b = some (.lst ys) ∧ (ys = [] ∨ xs.length ≠ ys.length) ∧ Q (.bl (if neg then !decide (xs.length = ys.length) else decide (xs.length = ys.length))) H
theorem op_eqN (hu : X.A.units + 64 < cLine) : OpR X (compareOp .Eq) (rEqN false) := by
  intro pins s σ H x y v u Q I rx ry h
  obtain ⟨a, b, xs, ys, rfl, rfl, ha, hb, hl, q⟩ := h
  cases rx; cases ry
  obtain ⟨its, r1, p1, _⟩ := I.list (.inl (.inl ha))
  obtain ⟨its2, r2, p2, _⟩ := I.list (.inl (.inl hb))
  have l1 := r1.length
  have l2 := r2.length
  replace q : Q (.bl (decide (xs.length = ys.length))) H := q
  by_cases e : xs.length = ys.length
  · rw [decide_eq_true e] at q
    have hy : ys = [] := hl.resolve_right fun z => z e
    subst hy
    have z1 : its = [] := List.length_eq_zero_iff.mp (by rw [← l1, e]; rfl)
    have z2 : its2 = [] := List.length_eq_zero_iff.mp (by rw [← l2]; rfl)
    subst z1; subst z2
    exact SeqAt.eq_listAt (e := fun _ => true) p1.isList p2.isList rfl (by omega) (fun j h1 => absurd h1 (by simp)) ⟨.bl true, H, I, rfl, q⟩
  · rw [decide_eq_false e] at q
    exact SeqAt.eq_list_lengthsAt p1.isList p2.isList (by simp; omega) (by omega) ⟨.bl false, H, I, rfl, q⟩
theorem op_neN (hu : X.A.units + 64 < cLine) : OpR X (compareOp .NotEq) (rEqN true) := by
  intro pins s σ H x y v u Q I rx ry h
  obtain ⟨a, b, xs, ys, rfl, rfl, ha, hb, hl, q⟩ := h
  cases rx; cases ry
  obtain ⟨its, r1, p1, _⟩ := I.list (.inl (.inl ha))
  obtain ⟨its2, r2, p2, _⟩ := I.list (.inl (.inl hb))
  have l1 := r1.length
  have l2 := r2.length
  replace q : Q (.bl (!decide (xs.length = ys.length))) H := q
  by_cases e : xs.length = ys.length
  · rw [decide_eq_true e] at q
    have hy : ys = [] := hl.resolve_right fun z => z e
    subst hy
    have z1 : its = [] := List.length_eq_zero_iff.mp (by rw [← l1, e]; rfl)
    have z2 : its2 = [] := List.length_eq_zero_iff.mp (by rw [← l2]; rfl)
    subst z1; subst z2
    exact SeqAt.RcNeAt.lists (e := fun _ => true) p1.isList p2.isList rfl (by omega) (fun j h1 => absurd h1 (by simp)) X.prog X.w _ _ ⟨.bl false, H, I, rfl, q⟩
  · rw [decide_eq_false e] at q
    exact SeqAt.RcNeAt.lists_lengths p1.isList p2.isList (by simp; omega) (by omega) X.prog X.w _ _ ⟨.bl true, H, I, rfl, q⟩
def sc : D → Option V
  | .non => some .non
  | .bl b => some (.bl b)
  | .int i => some (.int i)
  | .str s => some (.str s)
  | _ => none
theorem sc_rep {G : Hp} : ∀ {d : D} {v x : V}, Rep K G d v → sc d = some x → v = x
  | .non, _, _, h, e => by cases e; exact h
  | .bl _, _, _, h, e => by cases e; exact h
  | .int _, _, _, h, e => by cases e; exact h
  | .str _, _, _, h, e => by cases e; exact h
  | .tup _, _, _, _, e => by cases e
  | .lst _, _, _, _, e => by cases e
  | .dct _, _, _, _, e => by cases e
  | .ins _ _, _, _, _, e => by cases e
  | .adr _, _, _, _, e => by cases e
  | .scr _, _, _, _, e => by cases e
  | .pen _, _, _, _, e => by cases e
  | .tupW _, _, _, _, e => by cases e
  | .tbl _, _, _, _, e => by cases e
def aEqS (neg : Bool) : D → D → Store → (D → Store → Prop) → Prop := fun d e S Q => ∃ x y, sc d = some x ∧ sc e = some y ∧ scal x y = true ∧ Q (.bl (if neg then !decide (x = y) else decide (x = y))) S
theorem aop_eqS : AOp K rEq (aEqS false) := fun d1 d2 S Q x y H S0 H0 R q o r1 r2 k0 k => by
  obtain ⟨u, v, e1, e2, h, q⟩ := q
  rw [sc_rep r1 e1, sc_rep r2 e2]
  exact ⟨h, k _ _ _ _ q k0 o rfl⟩
theorem aop_neS : AOp K rNe (aEqS true) := fun d1 d2 S Q x y H S0 H0 R q o r1 r2 k0 k => by
  obtain ⟨u, v, e1, e2, h, q⟩ := q
  rw [sc_rep r1 e1, sc_rep r2 e2]
  exact ⟨h, k _ _ _ _ q k0 o rfl⟩
def aEqN (neg : Bool) : D → D → Store → (D → Store → Prop) → Prop := fun d e S Q => ∃ l m, ResL S d l ∧ ResL S e m ∧ (m = [] ∨ l.length ≠ m.length) ∧ Q (.bl (if neg then !decide (l.length = m.length) else decide (l.length = m.length))) S
theorem aop_eqN {neg : Bool} : AOp K (rEqN neg) (aEqN neg) := fun d1 d2 S Q x y H S0 H0 R q o r1 r2 k0 k => by
  obtain ⟨l, m, h1, h2, hc, q⟩ := q
  obtain ⟨a, xs, e1, g1, p1⟩ := h1.use o r1
  obtain ⟨b, ys, e2, g2, p2⟩ := h2.use o r2
  refine ⟨a, b, xs, ys, e1, e2, g1, g2, ?_, ?_⟩
  · rw [p1.len, p2.len]
    rcases hc with z | z
    · exact .inl (by rw [z] at p2; exact p2)
    · exact .inr z
  · rw [p1.len, p2.len]
    exact k _ _ _ _ q k0 o rfl
def aEqD (neg : Bool) : D → D → Store → (D → Store → Prop) → Prop := fun d e S Q => ∃ p q, PyOf S d p ∧ PyOf S e q ∧ SeqAt.shaped p = true ∧ SeqAt.shaped q = true ∧ Q (.bl (if neg then !PyData.eqv p q else PyData.eqv p q)) S
theorem aop_eqD : AOp K (rEqD K) (aEqD false) := fun d1 d2 S Q x y H S0 H0 R q o r1 r2 k0 k => by
  obtain ⟨u, v, e1, e2, h1, h2, q⟩ := q
  exact ⟨u, v, e1.use o r1, e2.use o r2, h1, h2, k _ _ _ _ q k0 o rfl⟩
theorem aop_neD : AOp K (rNeD K) (aEqD true) := fun d1 d2 S Q x y H S0 H0 R q o r1 r2 k0 k => by
  obtain ⟨u, v, e1, e2, h1, h2, q⟩ := q
  exact ⟨u, v, e1.use o r1, e2.use o r2, h1, h2, k _ _ _ _ q k0 o rfl⟩
def aEq (neg : Bool) : D → D → Store → (D → Store → Prop) → Prop := fun d e S Q => aEqS neg d e S Q ∨ aEqN neg d e S Q ∨ aEqD neg d e S Q
theorem aE_eq (hu : X.A.units + 64 < cLine) (h : aE X a ρ S fun d1 S1 => aE X b ρ S1 fun d2 S2 => aEq false d1 d2 S2 Q) : aE X (.Compare a [.Eq] [b] pos) ρ S Q :=
  aE_cmp (OpR.or op_eq (OpR.or (op_eqN hu) (op_eqD hu))) (AOp.or aop_eqS (AOp.or aop_eqN aop_eqD)) h (nomark _)
theorem aE_ne (hu : X.A.units + 64 < cLine) (h : aE X a ρ S fun d1 S1 => aE X b ρ S1 fun d2 S2 => aEq true d1 d2 S2 Q) : aE X (.Compare a [.NotEq] [b] pos) ρ S Q :=
  aE_cmp (OpR.or op_ne (OpR.or (op_neN hu) (op_neD hu))) (AOp.or aop_neS (AOp.or aop_eqN aop_neD)) h (nomark _)
/-! ### <, <=, >, >= -/
def aLtS : D → D → Store → (D → Store → Prop) → Prop := fun d e S Q => ∃ i j, d = .str i ∧ e = .str j ∧ Q (.bl (decide (i.cps.toList < j.cps.toList))) S
theorem aop_ltS : AOp K (fun x y H Q => ∃ i j, x = .str i ∧ y = .str j ∧ Q (.bl (decide (i.cps.toList < j.cps.toList))) H) aLtS := fun d1 d2 S Q x y H S0 H0 R q o r1 r2 k0 k => by
  obtain ⟨i, j, rfl, rfl, q⟩ := q
  exact ⟨i, j, r1, r2, k _ _ _ _ q k0 o rfl⟩
def aLt : D → D → Store → (D → Store → Prop) → Prop := fun d e S Q => aI0 (fun i j => .bl (decide (i < j))) d e S Q ∨ aLtS d e S Q
theorem aE_lt (h : aE X a ρ S fun d1 S1 => aE X b ρ S1 fun d2 S2 => aLt d1 d2 S2 Q) : aE X (.Compare a [.Lt] [b] pos) ρ S Q := aE_cmp (OpR.or op_lt op_lt_str) (AOp.or aop_IB aop_ltS) h (nomark _)
def aLe : D → D → Store → (D → Store → Prop) → Prop := aI0 fun i j => .bl (decide (i ≤ j))
theorem aE_le (h : aE X a ρ S fun d1 S1 => aE X b ρ S1 fun d2 S2 => aLe d1 d2 S2 Q) : aE X (.Compare a [.LtE] [b] pos) ρ S Q := aE_cmp op_le aop_IB h (nomark _)
def aGt : D → D → Store → (D → Store → Prop) → Prop := aI0 fun i j => .bl (decide (j < i))
theorem aE_gt (h : aE X a ρ S fun d1 S1 => aE X b ρ S1 fun d2 S2 => aGt d1 d2 S2 Q) : aE X (.Compare a [.Gt] [b] pos) ρ S Q := aE_cmp op_gt aop_IB h (nomark _)
def aGe : D → D → Store → (D → Store → Prop) → Prop := aI0 fun i j => .bl (decide (j ≤ i))
theorem aE_ge (h : aE X a ρ S fun d1 S1 => aE X b ρ S1 fun d2 S2 => aGe d1 d2 S2 Q) : aE X (.Compare a [.GtE] [b] pos) ρ S Q := aE_cmp op_ge aop_IB h (nomark _)
/-! ### is None -/
def isNonD : D → Bool
  | .non => true
  | _ => false
theorem isNon_rep {G : Hp} : ∀ {d : D} {v : V}, Rep K G d v → decide (v = .non) = isNonD d
  | .non, _, h => by rw [show _ = V.non from h]; rfl
  | .bl _, _, h => by rw [show _ = V.bl _ from h]; rfl
  | .int _, _, h => by rw [show _ = V.int _ from h]; rfl
  | .str _, _, h => by rw [show _ = V.str _ from h]; rfl
  | .tup _, _, ⟨a, _, e, _⟩ => by rw [e]; rfl
  | .lst _, _, ⟨a, _, e, _⟩ => by rw [e]; rfl
  | .dct _, _, ⟨a, _, e, _⟩ => by rw [e]; rfl
  | .ins _ _, _, ⟨a, _, _, e, _⟩ => by rw [e]; rfl
  | .adr _, _, h => by rw [show _ = V.ref _ from h]; rfl
  | .scr _, _, ⟨a, e, _⟩ => by rw [e]; rfl
  | .pen _, _, h => h.elim
  | .tupW _, _, ⟨a, _, e, _⟩ => by rw [e]; rfl
  | .tbl _, _, h => h.elim
theorem aE_isN {j : Nat} {p2 : Pos} (h : aE X a ρ S fun d S1 => Q (.bl (isNonD d)) S1) : aE X (.Compare a [.Is] [.Constant .none j p2] pos) ρ S Q := fun σ H R s k => by
  refine w_pe (pe_cmp (pc_isN pe_w) rfl) ?_
  refine h σ H _ s fun x H1 d1 S1 q1 k1 o1 r1 => ?_
  rw [isNon_rep r1]
  exact k _ _ _ _ q1 k1 o1 rfl
theorem aE_notN {j : Nat} {p2 : Pos} (h : aE X a ρ S fun d S1 => Q (.bl (!isNonD d)) S1) : aE X (.Compare a [.IsNot] [.Constant .none j p2] pos) ρ S Q := fun σ H R s k => by
  refine w_pe (pe_cmp (pc_notN pe_w) rfl) ?_
  refine h σ H _ s fun x H1 d1 S1 q1 k1 o1 r1 => ?_
  rw [isNon_rep r1]
  exact k _ _ _ _ q1 k1 o1 rfl
end
end DL

namespace DL
open PySem L2

section
variable {X : Cx} {ρ : Sl} {S : Store} {Q : D → Store → Prop} {P : Bool → Store → Prop} {pos : Pos} {a b c e : Expr} {K : PySem.W.Frag}
/-! ### tests -/
abbrev isB (P : Bool → Store → Prop) : D → Store → Prop := fun d S => ∃ k, d = .bl k ∧ P k S
theorem aT_cmp {op : CmpOp} {r : R2} {rA : D → D → Store → (D → Store → Prop) → Prop} (ho : OpR X (compareOp op) r) (hA : AOp X.K r rA) (h : aE X a ρ S fun d1 S1 => aE X b ρ S1 fun d2 S2 => rA d1 d2 S2 (isB P)) (hm : behindInMarks op b = false) : aT X (.Compare a [op] [b] pos) ρ S P := fun σ H R s k => by
  refine w_pt (pt_cmpR ho pe_w pe_w hm) ?_
  refine h σ H _ s fun x H1 d1 S1 q1 k1 o1 r1 => ?_
  refine q1 σ H1 _ (s.next k1 o1) fun y H2 d2 S2 q2 k2 o2 r2 => ?_
  refine hA d1 d2 S2 _ x y H2 S H _ q2 o2 (r1.kp k2) r2 (k1.trans k2) fun v H3 d S3 q3 k3 o3 r3 => ?_
  obtain ⟨z, rfl, q3⟩ := q3
  exact ⟨z, r3, k _ _ _ q3 k3 o3⟩
theorem aT_val (h : aE X e ρ S (isB P)) (he : ∀ whole, isTrue e X.env whole = (do let v ← whole; standAt e.pos; holding [v] (truthy v)) := by intro _; rfl) : aT X e ρ S P := fun σ H R s k => by
  refine w_pt (pt_val pe_w he) ?_
  refine h σ H _ s fun x H1 d1 S1 ⟨z, e1, q1⟩ k1 o1 r1 => ?_
  subst e1
  exact ⟨z, r1, k _ _ _ q1 k1 o1⟩
theorem aT_isN {j : Nat} {p2 : Pos} (h : aE X a ρ S fun d S1 => P (isNonD d) S1) : aT X (.Compare a [.Is] [.Constant .none j p2] pos) ρ S P := fun σ H R s k => by
  refine w_pt (pt_cmp (pc_isN pe_w)) ?_
  refine h σ H _ s fun x H1 d1 S1 q1 k1 o1 r1 => ?_
  exact ⟨_, by rw [isNon_rep r1], k _ _ _ q1 k1 o1⟩
theorem aT_notN {j : Nat} {p2 : Pos} (h : aE X a ρ S fun d S1 => P (!isNonD d) S1) : aT X (.Compare a [.IsNot] [.Constant .none j p2] pos) ρ S P := fun σ H R s k => by
  refine w_pt (pt_cmp (pc_notN pe_w)) ?_
  refine h σ H _ s fun x H1 d1 S1 q1 k1 o1 r1 => ?_
  exact ⟨_, by rw [isNon_rep r1], k _ _ _ q1 k1 o1⟩
theorem aT_not (h : aT X a ρ S fun b S1 => P (!b) S1) : aT X (.UnaryOp .Not a pos) ρ S P := fun σ H R s k => by
  refine w_pt (pt_not pt_w) ?_
  exact h σ H _ s fun b H1 S1 q1 k1 o1 => k _ _ _ q1 k1 o1
theorem aW_and {rest : List Expr} (h : aT X a ρ S fun x S1 => if x = true then aW X (.BoolOp .And (b :: rest) pos) ρ S1 P else P false S1) : aW X (.BoolOp .And (a :: b :: rest) pos) ρ S P := fun σ H R s k => by
  refine w_pw (pw_and pt_w pw_w) ?_
  refine h σ H _ s fun x H1 S1 q1 k1 o1 => ?_
  cases x with
  | true => exact q1 σ H1 _ (s.next k1 o1) fun b H2 S2 q2 k2 o2 => k _ _ _ q2 (k1.trans k2) o2
  | false => exact k _ _ _ q1 k1 o1
theorem aW_or {rest : List Expr} (h : aT X a ρ S fun x S1 => if x = true then P true S1 else aW X (.BoolOp .Or (b :: rest) pos) ρ S1 P) : aW X (.BoolOp .Or (a :: b :: rest) pos) ρ S P := fun σ H R s k => by
  refine w_pw (pw_or pt_w pw_w) ?_
  refine h σ H _ s fun x H1 S1 q1 k1 o1 => ?_
  cases x with
  | true => exact k _ _ _ q1 k1 o1
  | false => exact q1 σ H1 _ (s.next k1 o1) fun b H2 S2 q2 k2 o2 => k _ _ _ q2 (k1.trans k2) o2
theorem aW_and1 (h : aT X a ρ S P) : aW X (.BoolOp .And [a] pos) ρ S P := fun σ H R s k => by
  refine w_pw (pw_and1 pt_w) ?_
  exact h σ H _ s k
theorem aW_or1 (h : aT X a ρ S P) : aW X (.BoolOp .Or [a] pos) ρ S P := fun σ H R s k => by
  refine w_pw (pw_or1 pt_w) ?_
  exact h σ H _ s k
theorem aT_W (h : aW X e ρ S P) : aT X e ρ S P := fun σ H R s k => by
  refine w_pt (pw_w).pt ?_
  exact h σ H _ s k
/-! ### and, or, not, if as values -/
theorem aE_one {op} (h : aE X a ρ S Q) : aE X (.BoolOp op [a] pos) ρ S Q := fun σ H R s k => w_pe (pe_one pe_w) (h σ H R s k)
theorem aE_and {rest : List Expr} (h : aE X a ρ S fun d S1 => ∃ x, d = .bl x ∧ if x = true then aE X (.BoolOp .And (b :: rest) pos) ρ S1 Q else Q (.bl false) S1) : aE X (.BoolOp .And (a :: b :: rest) pos) ρ S Q := fun σ H R s k => by
  refine w_pe (pe_and pe_w pe_w) ?_
  refine h σ H _ s fun x H1 d S1 ⟨z, e1, q1⟩ k1 o1 r1 => ?_
  subst e1
  refine ⟨z, r1, ?_⟩
  cases z with
  | true => exact q1 σ H1 _ (s.next k1 o1) fun v H2 d2 S2 q2 k2 o2 r2 => k _ _ _ _ q2 (k1.trans k2) o2 r2
  | false => exact k _ _ _ _ q1 k1 o1 rfl
theorem aE_or {rest : List Expr} (h : aE X a ρ S fun d S1 => ∃ x, d = .bl x ∧ if x = true then Q (.bl true) S1 else aE X (.BoolOp .Or (b :: rest) pos) ρ S1 Q) : aE X (.BoolOp .Or (a :: b :: rest) pos) ρ S Q := fun σ H R s k => by
  refine w_pe (pe_or pe_w pe_w) ?_
  refine h σ H _ s fun x H1 d S1 ⟨z, e1, q1⟩ k1 o1 r1 => ?_
  subst e1
  refine ⟨z, r1, ?_⟩
  cases z with
  | true => exact k _ _ _ _ q1 k1 o1 rfl
  | false => exact q1 σ H1 _ (s.next k1 o1) fun v H2 d2 S2 q2 k2 o2 r2 => k _ _ _ _ q2 (k1.trans k2) o2 r2
theorem aE_not (h : aE X a ρ S fun d S1 => ∃ x, d = .bl x ∧ Q (.bl (!x)) S1) : aE X (.UnaryOp .Not a pos) ρ S Q := fun σ H R s k => by
  refine w_pe (pe_not pe_w) ?_
  refine h σ H _ s fun x H1 d S1 ⟨z, e1, q1⟩ k1 o1 r1 => ?_
  subst e1
  exact ⟨z, r1, k _ _ _ _ q1 k1 o1 rfl⟩
theorem aE_neg (h : aE X a ρ S fun d S1 => ∃ i, d = .int i ∧ Q (.int (-i)) S1) : aE X (.UnaryOp .USub a pos) ρ S Q := fun σ H R s k => by
  refine w_pe (pe_un un_neg pe_w) ?_
  refine h σ H _ s fun x H1 d S1 ⟨z, e1, q1⟩ k1 o1 r1 => ?_
  subst e1
  exact ⟨z, r1, k _ _ _ _ q1 k1 o1 rfl⟩
theorem aE_if (h : aT X c ρ S fun x S1 => if x = true then aE X a ρ S1 Q else aE X b ρ S1 Q) : aE X (.IfExp c a b pos) ρ S Q := fun σ H R s k => by
  refine w_pe (pe_ifExp pt_w pe_w pe_w) ?_
  refine h σ H _ s fun x H1 S1 q1 k1 o1 => ?_
  cases x with
  | true => exact q1 σ H1 _ (s.next k1 o1) fun v H2 d2 S2 q2 k2 o2 r2 => k _ _ _ _ q2 (k1.trans k2) o2 r2
  | false => exact q1 σ H1 _ (s.next k1 o1) fun v H2 d2 S2 q2 k2 o2 r2 => k _ _ _ _ q2 (k1.trans k2) o2 r2
/-- a < b < c of whole numbers -/
theorem aE_chainLt (h : aE X a ρ S fun d1 S1 => aE X b ρ S1 fun d2 S2 => ∃ i j, d1 = .int i ∧ d2 = .int j ∧ if decide (i < j) = true then aE X c ρ S2 (fun d3 S3 => ∃ l, d3 = .int l ∧ Q (.bl (decide (j < l))) S3) else Q (.bl false) S2)
    (hm : lastMarks [.Lt, .Lt] [b, c] = false := by with_unfolding_all rfl) : aE X (.Compare a [.Lt, .Lt] [b, c] pos) ρ S Q := fun σ H R s k => by
  refine w_pe (pe_chain op_lt op_lt pe_w pe_w pe_w hm) ?_
  refine h σ H _ s fun x H1 d1 S1 q1 k1 o1 r1 => ?_
  refine q1 σ H1 _ (s.next k1 o1) fun y H2 d2 S2 ⟨i, j, e1, e2, q2⟩ k2 o2 r2 => ?_
  subst e1; subst e2
  refine ⟨i, j, r1, r2, decide (i < j), rfl, ?_⟩
  by_cases hij : i < j
  · rw [decide_eq_true hij] at q2 ⊢
    refine (show aE X c ρ S2 _ from q2) σ H2 _ (s.next (k1.trans k2) o2) fun z H3 d3 S3 ⟨l, e3, q3⟩ k3 o3 r3 => ?_
    subst e3
    exact ⟨j, l, r2, r3, k _ _ _ _ q3 ((k1.trans k2).trans k3) o3 rfl⟩
  · rw [decide_eq_false hij] at q2 ⊢
    exact k _ _ _ _ q2 (k1.trans k2) o2 rfl
/-! #### tests by comparisons -/
theorem aT_eq (hu : X.A.units + 64 < cLine) (h : aE X a ρ S fun d1 S1 => aE X b ρ S1 fun d2 S2 => aEq false d1 d2 S2 (isB P)) : aT X (.Compare a [.Eq] [b] pos) ρ S P :=
  aT_cmp (OpR.or op_eq (OpR.or (op_eqN hu) (op_eqD hu))) (AOp.or aop_eqS (AOp.or aop_eqN aop_eqD)) h (nomark _)
theorem aT_ne (hu : X.A.units + 64 < cLine) (h : aE X a ρ S fun d1 S1 => aE X b ρ S1 fun d2 S2 => aEq true d1 d2 S2 (isB P)) : aT X (.Compare a [.NotEq] [b] pos) ρ S P :=
  aT_cmp (OpR.or op_ne (OpR.or (op_neN hu) (op_neD hu))) (AOp.or aop_neS (AOp.or aop_eqN aop_neD)) h (nomark _)
theorem aT_lt (h : aE X a ρ S fun d1 S1 => aE X b ρ S1 fun d2 S2 => aLt d1 d2 S2 (isB P)) : aT X (.Compare a [.Lt] [b] pos) ρ S P := aT_cmp (OpR.or op_lt op_lt_str) (AOp.or aop_IB aop_ltS) h (nomark _)
theorem aT_le (h : aE X a ρ S fun d1 S1 => aE X b ρ S1 fun d2 S2 => aLe d1 d2 S2 (isB P)) : aT X (.Compare a [.LtE] [b] pos) ρ S P := aT_cmp op_le aop_IB h (nomark _)
theorem aT_gt (h : aE X a ρ S fun d1 S1 => aE X b ρ S1 fun d2 S2 => aGt d1 d2 S2 (isB P)) : aT X (.Compare a [.Gt] [b] pos) ρ S P := aT_cmp op_gt aop_IB h (nomark _)
theorem aT_ge (h : aE X a ρ S fun d1 S1 => aE X b ρ S1 fun d2 S2 => aGe d1 d2 S2 (isB P)) : aT X (.Compare a [.GtE] [b] pos) ρ S P := aT_cmp op_ge aop_IB h (nomark _)

/-! ### in -/
def kD : Key → D
  | .inl i => .int i
  | .inr z => .str z
theorem kD_rep {G : Hp} : ∀ {k : Key} {v : V}, Rep K G (kD k) v → v = kV k
  | .inl _, _, h => h
  | .inr _, _, h => h
/-- strings in a list or tuple of strings -/
def strsOf (l : List D) (zs : List Str) : Prop := l = zs.map D.str
theorem eqV_str (x y : Str) : eqV (.str x) (.str y) = (x == y) := rfl
theorem inV_strs (z : Str) (zs : List Str) : inV (.str z) (zs.map V.str) = decide (z ∈ zs) := by
  unfold inV
  rw [List.any_map]
  induction zs with
  | nil => rfl
  | cons y r ih =>
    rw [List.any_cons, ih]
    show ((y == z) || _) = _
    by_cases h : y = z
    · subst h; simp
    · have : (y == z) = false := by simpa using h
      rw [this, Bool.false_or]
      have e : (z ∈ y :: r) ↔ z ∈ r := by rw [List.mem_cons]; exact ⟨fun q => q.resolve_left fun w => h w.symm, .inr⟩
      exact (decide_eq_decide.mpr e).symm
theorem flat_strs (zs : List Str) : (zs.map V.str).all flatV = true := by
  rw [List.all_map]
  exact List.all_eq_true.mpr fun _ _ => rfl
theorem ResQ.use {H : Hp} {d : D} {l : List D} {v : V} (h : ResQ S d l) (o : SOk K S H) (r : RepS1 K S H d v) : ∃ a xs, v = .ref a ∧ (SqL K H a xs ∨ SqT K H a xs) ∧ RepL K (hid (adrs S) H) l xs := by
  rcases h with h | h | ⟨ns, h, hl⟩
  · obtain ⟨a, xs, e, g, p⟩ := h.use o r
    exact ⟨a, xs, e, .inl (.inl (.inl g)), p⟩
  · subst h
    obtain ⟨a, xs, e, g, p⟩ := r
    exact ⟨a, xs, e, .inr (sqT_kp kp_hid g.sq), p⟩
  · subst h; subst hl
    obtain ⟨a, e, g⟩ := r
    exact ⟨a, _, e, .inl (sqL_kp kp_hid g), RepL.ofInts ns⟩
def aInS (neg : Bool) : D → D → Store → (D → Store → Prop) → Prop := fun d e S Q => ∃ (z : Str) (zs : List Str), d = .str z ∧ ResQ S e (zs.map D.str) ∧ Q (.bl (if neg then !decide (z ∈ zs) else decide (z ∈ zs))) S
theorem aop_inS {neg : Bool} : AOp K (rIn K neg) (aInS neg) := fun d1 d2 S Q x y H S0 H0 R q o r1 r2 k0 k => by
  obtain ⟨z, zs, rfl, h, q⟩ := q
  obtain ⟨a, xs, e, g, p⟩ := h.use o r2
  have ex : x = .str z := r1
  have exs := RepL.strs p
  subst ex; subst exs
  refine ⟨a, _, e, g, rfl, flat_strs zs, ?_⟩
  rw [inV_strs]
  exact k _ _ _ _ q k0 o rfl
def rDIn (neg : Bool) : R2 := fun y x H Q => ∃ a o, x = .ref a ∧ DGet H a y o ∧ Q (.bl (if neg then !o.isSome else o.isSome)) H
theorem op_inDk (hu : X.A.units + 64 < cLine) : OpR X (compareOp .In) (rDIn false) := by
  intro pins s σ H x y v u Q I rx ry h
  obtain ⟨a, o, rfl, g, q⟩ := h
  cases ry
  exact d_in (by omega) I g rx fun s' I' => ⟨.bl o.isSome, H, I', rfl, q⟩
theorem op_notInDk (hu : X.A.units + 64 < cLine) : OpR X (compareOp .NotIn) (rDIn true) := by
  intro pins s σ H x y v u Q I rx ry h
  obtain ⟨a, o, rfl, g, q⟩ := h
  cases ry
  exact d_notIn (by omega) I g rx fun s' I' => ⟨.bl (!o.isSome), H, I', rfl, q⟩
theorem dget_of {H : Hp} {l : List (Key × D)} {kvs : List (Key × V)} {aa : Addr} {G : Hp} (g : Rd H aa (.dK kvs)) (p : RepP K G l kvs) (k : Key) : ∃ o, DGet H aa (kV k) o ∧ (o.isSome = (valP l k).isSome) ∧ ∀ d, valP l k = some d → ∃ x, o = some x ∧ Rep K G d x := by
  obtain ⟨h1, h2⟩ := p.val k
  refine ⟨valV kvs k, .inl ⟨kvs, k, g, rfl, rfl⟩, ?_, h2⟩
  cases e : valP l k with
  | none => rw [h1 e]; rfl
  | some d => obtain ⟨x, ex, _⟩ := h2 d e; rw [ex]; rfl
def aInD (neg : Bool) : D → D → Store → (D → Store → Prop) → Prop := fun d e S Q => ∃ (k : Key) (l : List (Key × D)), d = kD k ∧ ResD S e l ∧ Q (.bl (if neg then !(valP l k).isSome else (valP l k).isSome)) S
theorem aop_inD {neg : Bool} : AOp K (rDIn neg) (aInD neg) := fun d1 d2 S Q x y H S0 H0 R q o r1 r2 k0 k => by
  obtain ⟨ky, l, rfl, h, q⟩ := q
  obtain ⟨a, xs, e, g, p⟩ := h.use o r2
  obtain ⟨ov, g1, g2, _⟩ := dget_of g p ky
  rw [kD_rep r1]
  exact ⟨a, ov, e, g1, by rw [g2]; exact k _ _ _ _ q k0 o rfl⟩
/-- one sign in a text -/
def aInC (neg : Bool) : D → D → Store → (D → Store → Prop) → Prop := fun d e S Q => ∃ (c : Nat) (z : Str), d = .str ⟨#[c]⟩ ∧ e = .str z ∧ Q (.bl (if neg then !decide (c ∈ z.cps.toList) else decide (c ∈ z.cps.toList))) S
def rInC (neg : Bool) : R2 := fun x y H Q => ∃ (c : Nat) (z : Str), x = .str ⟨#[c]⟩ ∧ y = .str z ∧ Q (.bl (if neg then !decide (c ∈ z.cps.toList) else decide (c ∈ z.cps.toList))) H
theorem op_inC : OpR X (compareOp .In) (rInC false) := op_in_sign
theorem op_notInC : OpR X (compareOp .NotIn) (rInC true) := op_notIn_sign
theorem aop_inC {neg : Bool} : AOp K (rInC neg) (aInC neg) := fun d1 d2 S Q x y H S0 H0 R q o r1 r2 k0 k => by
  obtain ⟨c, z, rfl, rfl, q⟩ := q
  exact ⟨c, z, r1, r2, k _ _ _ _ q k0 o rfl⟩
def aIn (neg : Bool) : D → D → Store → (D → Store → Prop) → Prop := fun d e S Q => aInS neg d e S Q ∨ aInD neg d e S Q ∨ aInC neg d e S Q
theorem aE_in (hu : X.A.units + 64 < cLine) (h : aE X a ρ S fun d1 S1 => aE X b ρ S1 fun d2 S2 => aIn false d1 d2 S2 Q) (hm : behindInMarks .In b = false := by rfl) : aE X (.Compare a [.In] [b] pos) ρ S Q :=
  aE_cmp (OpR.or op_in_seq (OpR.or (op_inDk hu) op_inC)) (AOp.or aop_inS (AOp.or aop_inD aop_inC)) h hm
theorem aE_notIn (hu : X.A.units + 64 < cLine) (h : aE X a ρ S fun d1 S1 => aE X b ρ S1 fun d2 S2 => aIn true d1 d2 S2 Q) (hm : behindInMarks .NotIn b = false := by rfl) : aE X (.Compare a [.NotIn] [b] pos) ρ S Q :=
  aE_cmp (OpR.or op_notIn_seq (OpR.or (op_notInDk hu) op_notInC)) (AOp.or aop_inS (AOp.or aop_inD aop_inC)) h hm
theorem aT_in (hu : X.A.units + 64 < cLine) (h : aE X a ρ S fun d1 S1 => aE X b ρ S1 fun d2 S2 => aIn false d1 d2 S2 (isB P)) (hm : behindInMarks .In b = false := by rfl) : aT X (.Compare a [.In] [b] pos) ρ S P :=
  aT_cmp (OpR.or op_in_seq (OpR.or (op_inDk hu) op_inC)) (AOp.or aop_inS (AOp.or aop_inD aop_inC)) h hm
theorem aT_notIn (hu : X.A.units + 64 < cLine) (h : aE X a ρ S fun d1 S1 => aE X b ρ S1 fun d2 S2 => aIn true d1 d2 S2 (isB P)) (hm : behindInMarks .NotIn b = false := by rfl) : aT X (.Compare a [.NotIn] [b] pos) ρ S P :=
  aT_cmp (OpR.or op_notIn_seq (OpR.or (op_notInDk hu) op_notInC)) (AOp.or aop_inS (AOp.or aop_inD aop_inC)) h hm

/-! ### a[i], a[i:j] -/
theorem atI_rep {G : Hp} {l : List D} {xs : List V} {i : Int} {d : D} (p : RepL K G l xs) (h : atI l i = some d) : ∃ x, atI xs i = some x ∧ Rep K G d x := by
  obtain ⟨j, h1, h2⟩ := Option.bind_eq_some_iff.mp h
  obtain ⟨x, h3, h4⟩ := p.get h2
  exact ⟨x, by show (ixN xs.length i).bind _ = _; rw [p.len, h1]; exact h3, h4⟩
def aIxL : D → D → Store → (D → Store → Prop) → Prop := fun d e S Q => ∃ l i z, ResL S d l ∧ e = .int i ∧ atI l i = some z ∧ Q z S
theorem aop_ixL : AOp K (rIxL K) aIxL := fun d1 d2 S Q x y H S0 H0 R q o r1 r2 k0 k => by
  obtain ⟨l, i, z, h, rfl, hz, q⟩ := q
  obtain ⟨a, xs, e, g, p⟩ := h.use o r1
  obtain ⟨v, h1, h2⟩ := atI_rep p hz
  exact ⟨a, xs, i, v, e, r2, .inl (.inl g), h1, k _ _ _ _ q k0 o h2⟩
def aIxT : D → D → Store → (D → Store → Prop) → Prop := fun d e S Q => ∃ l i z, d = .tup l ∧ e = .int i ∧ atI l i = some z ∧ Q z S
theorem aop_ixT : AOp K (rIxT K) aIxT := fun d1 d2 S Q x y H S0 H0 R q o r1 r2 k0 k => by
  obtain ⟨l, i, z, rfl, rfl, hz, q⟩ := q
  obtain ⟨a, xs, e, g, p⟩ := r1
  obtain ⟨v, h1, h2⟩ := atI_rep p hz
  exact ⟨a, xs, i, v, e, r2, sqT_kp kp_hid g.sq, h1, k _ _ _ _ q k0 o h2⟩
def aIxS : D → D → Store → (D → Store → Prop) → Prop := fun d e S Q => ∃ (z : Str) (i : Int) (c : Nat), d = .str z ∧ e = .int i ∧ z.length ≤ 100000 ∧ atI z.cps.toList i = some c ∧ Q (.str ⟨#[c]⟩) S
theorem aop_ixS : AOp K rIxS aIxS := fun d1 d2 S Q x y H S0 H0 R q o r1 r2 k0 k => by
  obtain ⟨z, i, c, rfl, rfl, hz, hc, q⟩ := q
  exact ⟨z, i, c, r1, r2, sz_of hz, hc, k _ _ _ _ q k0 o rfl⟩
def rIxK : R2 := fun x y H Q => ∃ a v, x = .ref a ∧ DGet H a y (some v) ∧ Q v H
open PySem.Spec PyProof.Rows in
theorem ix_dk (hu : X.A.units + 64 < cLine) : IxR X rIxK := by
  intro value slice pins s σ H x y v u Q I rx ry h hs
  obtain ⟨a, z, rfl, g, q⟩ := h
  cases rx
  have hT := dict_typeIs I g
  unfold subscriptTail
  refine wpAny_bind ?_
  rw [getitemInPython_of_ne hT.not_modules]
  refine wpAny_bind (wpAny_specialOf hT PySem.F.slot_dict_getitem.lookup ?_)
  have fin : wpAny (model X.prog X.w) X.A (subscripted slice false (.ref a) u) (fun r s₃ => wpAny (model X.prog X.w) X.A (letTemporaryGo value (.ref a) r >>= fun _ => pure r) (EP X pins σ Q) X.xe s₃) X.xe s := by
    rw [hs]
    exact wpAny_operating (d_getItem (by omega) I g ry fun w' s3 I3 rw' => wpAny_bind (wpAny_letTemporaryGo (wpAny_pure ⟨z, H, I3, rw', q⟩)))
  first
    | exact wpAny_pure (wpAny_bind fin)
    | exact wpAny_bind (wpAny_pure (wpAny_bind fin))
    | exact wpAny_bind fin
def aIxD : D → D → Store → (D → Store → Prop) → Prop := fun d e S Q => ∃ (l : List (Key × D)) (k : Key) (z : D), ResD S d l ∧ e = kD k ∧ valP l k = some z ∧ Q z S
theorem aop_ixD : AOp K rIxK aIxD := fun d1 d2 S Q x y H S0 H0 R q o r1 r2 k0 k => by
  obtain ⟨l, ky, z, h, rfl, hz, q⟩ := q
  obtain ⟨a, xs, e, g, p⟩ := h.use o r1
  obtain ⟨ov, g1, _, g3⟩ := dget_of g p ky
  obtain ⟨v, ev, rv⟩ := g3 z hz
  subst ev
  rw [kD_rep r2]
  exact ⟨a, v, e, g1, k _ _ _ _ q k0 o rv⟩
def aIx : D → D → Store → (D → Store → Prop) → Prop := fun d e S Q => aIxT d e S Q ∨ aIxL d e S Q ∨ aIxS d e S Q ∨ aIxD d e S Q
theorem aE_sub_ (hu : X.A.units + 64 < cLine) (h : aE X a ρ S fun d1 S1 => aE X b ρ S1 fun d2 S2 => aIx d1 d2 S2 Q) (hs : PlainIx b := by exact fun _ _ => rfl) : aE X (.Subscript a b pos) ρ S Q :=
  aE_ix (IxR.or ix_tup (IxR.or ix_list (IxR.or ix_str (ix_dk hu)))) (AOp.or aop_ixT (AOp.or aop_ixL (AOp.or aop_ixS aop_ixD))) h hs

def aO (X : Cx) (e : Option Expr) (ρ : Sl) (S : Store) (Q : Option Int → Store → Prop) : Prop := match e with
  | none => Q none S
  | some e => aE X e ρ S fun d S1 => ∃ i, d = .int i ∧ Q (some i) S1
def wO (X : Cx) (e : Option Expr) : TO := match e with
  | none => tNoPart
  | some e => tPart (wE X e)
theorem po_w {e : Option Expr} : PO X e (wO X e) := match e with
  | none => po_none
  | some e => po_some pe_w
theorem aO_use {o : Option Expr} {Q : Option Int → Store → Prop} (h : aO X o ρ S Q) {σ : St} {H : Hp} {R : Option Int → Hp → Prop} (s : Sat X.K ρ S σ H) (k : ∀ i H' S', Q i S' → KpS S H S' H' → SOk X.K S' H' → R i H') : wO X o σ H R := by
  cases o with
  | none => exact k none H S h (Kp.refl _) s.ok
  | some e =>
    refine (show aE X e ρ S _ from h) σ H _ s fun x H1 d S1 ⟨i, e1, q⟩ k1 o1 r1 => ?_
    subst e1
    exact ⟨i, r1, k _ _ _ q k1 o1⟩
def cutD {α : Type} (xs : List α) (lo hi : Option Int) : List α := (xs.drop (HT.sIx xs.length 0 lo)).take (HT.sIx xs.length xs.length hi - HT.sIx xs.length 0 lo)
theorem RepL.cut {G : Hp} {l : List D} {xs : List V} (p : RepL K G l xs) (lo hi : Option Int) : RepL K G (cutD l lo hi) (cutV xs lo hi) := by
  unfold cutD cutV
  rw [p.len]
  exact (p.drop _).take _
def aSl : D → Option Int → Option Int → Store → (D → Store → Prop) → Prop := fun d lo hi S Q => (∃ l, d = .tup l ∧ Q (.tup (cutD l lo hi)) S) ∨ (∃ l, ResL S d l ∧ NewL (cutD l lo hi) S Q) ∨ (∃ ns : List Int, d = .scr ns ∧ NewL ((cutD ns lo hi).map D.int) S Q) ∨ ∃ z : Str, d = .str z ∧ z.length ≤ 100000 ∧ Q (.str (cutS z lo hi)) S
theorem cut_map {α β : Type} (f : α → β) (xs : List α) (lo hi : Option Int) : cutD (xs.map f) lo hi = (cutD xs lo hi).map f := by
  unfold cutD
  rw [List.length_map, List.map_take, List.map_drop]
theorem cutV_eq (xs : List V) (lo hi : Option Int) : cutV xs lo hi = cutD xs lo hi := rfl
theorem aE_slice {lo hi : Option Expr} {p2 : Pos} (h : aE X e ρ S fun d S1 => aO X lo ρ S1 fun i S2 => aO X hi ρ S2 fun j S3 => aSl d i j S3 Q) : aE X (.Subscript e (.Slice lo hi none p2) pos) ρ S Q := fun σ H R s k => by
  refine w_pe (pe_slice (SlR.or sl_tupN (SlR.or sl_list sl_str)) pe_w po_w po_w) ?_
  refine h σ H _ s fun x H1 d S1 q1 k1 o1 r1 => ?_
  refine aO_use q1 (s.next k1 o1) fun i H2 S2 q2 k2 o2 => ?_
  refine aO_use q2 (s.next (k1.trans k2) o2) fun j H3 S3 q3 k3 o3 => ?_
  have r3 := (r1.kp k2).kp k3
  have k13 := (k1.trans k2).trans k3
  rcases q3 with ⟨l, rfl, q⟩ | ⟨l, hl, q⟩ | ⟨ns, rfl, q⟩ | ⟨z, rfl, hz, q⟩
  · obtain ⟨a, xs, e1, g, p⟩ := r3
    refine .inl ⟨a, xs, e1, sqT_kp kp_hid g.sq, fun hh => ?_, fun p1 ob hp hob => ?_⟩
    · refine k _ _ _ _ q k13 o3 ⟨a, cutV xs i j, rfl, ?_, p.cut i j⟩
      have : cutV xs i j = xs := by
        unfold cutV
        rw [hh.1, hh.2, List.drop_zero, Nat.sub_zero, List.take_length]
      rw [this]
      exact g
    · obtain ⟨o4, k4⟩ := o3.grow (o := .frz ob (.tup (cutV xs i j))) hp
      exact k _ _ _ _ q (k13.trans k4) o4 ⟨p1, _, rfl, .inl ⟨ob, by rw [hid_ne (o3.out hp)]; exact upd_same, hob⟩, (p.cut i j).kp k4⟩
  · obtain ⟨a, xs, e1, g, p⟩ := hl.use o3 r3
    exact .inr (.inl ⟨a, xs, e1, .inl (.inl g), fun p1 hp => q.use o3 (p.cut i j) k13 hp k⟩)
  · obtain ⟨a, e1, g⟩ := r3
    refine .inr (.inl ⟨a, _, e1, sqL_kp kp_hid g, fun p1 hp => ?_⟩)
    rw [cutV_eq, cut_map]
    exact q.use o3 (RepL.ofInts _) k13 hp k
  · exact .inr (.inr ⟨z, r3, sz_of hz, k _ _ _ _ q k13 o3 rfl⟩)

/-! ### o.f -/
theorem aE_fld {o : Expr} {f : Str} {C : Addr} (cl : Cls X.K C) (n : NoAttr X.K C f) (h : aE X o ρ S fun d S1 => ∃ l v, ResI S1 d C l ∧ l.lookup f = some v ∧ Q v S1) (hb : attributeBase o f X.env (eval o X.env) = eval o X.env := by rfl) : aE X (.Attribute o f pos) ρ S Q := fun σ H R s k => by
  refine w_pe (pe_fld pe_w hb) ?_
  refine h σ H _ s fun x H1 d S1 ⟨l, v, hI, hl, q⟩ k1 o1 r1 => ?_
  obtain ⟨a, dx, fs, e1, g, p⟩ := hI.use o1 r1
  obtain ⟨y, h1, h2⟩ := (p.val f).2 v hl
  exact ⟨a, C, dx, fs, y, e1, g, cl, n, h1, k _ _ _ _ q k1 o1 h2⟩
end
end DL

namespace DL
open PySem L2

/-! ### statements -/
def wS (X : Cx) (st : Stmt) : TS := fun D σ H => ∀ pins s, Inv X pins σ H s → wpAny (model X.prog X.w) X.A (exec st X.env) (SP X pins D) X.xe s
theorem ps_w {X : Cx} {st : Stmt} : PS X st (wS X st) := ⟨fun pins s _ _ _ I h => h pins s I⟩
theorem w_ps {X : Cx} {st : Stmt} {t : TS} {σ : St} {H : Hp} {E : Ends} (p : PS X st t) (h : t E σ H) : wS X st E σ H := fun pins s I => p.run pins s σ H E I h
def wSs (X : Cx) (st : List Stmt) : TS := fun D σ H => ∀ pins s, Inv X pins σ H s → wpAny (model X.prog X.w) X.A (execs st X.env) (SP X pins D) X.xe s
theorem pss_w {X : Cx} {st : List Stmt} : PSs X st (wSs X st) := ⟨fun pins s _ _ _ I h => h pins s I⟩
theorem w_pss {X : Cx} {st : List Stmt} {t : TS} {σ : St} {H : Hp} {E : Ends} (p : PSs X st t) (h : t E σ H) : wSs X st E σ H := fun pins s I => p.run pins s σ H E I h

structure AEnds where
  nx : Sl → Store → Prop
  rt : D → Store → Prop
  bk : Sl → Store → Prop := fun _ _ => False
  ct : Sl → Store → Prop := fun _ _ => False
structure Mts (K : PySem.W.Frag) (S : Store) (H : Hp) (E : AEnds) (F : Ends) : Prop where
  nx : ∀ σ' H' ρ' S', E.nx ρ' S' → KpS S H S' H' → Sat K ρ' S' σ' H' → F.nx σ' H'
  rt : ∀ v H' d S', E.rt d S' → KpS S H S' H' → SOk K S' H' → RepS1 K S' H' d v → F.rt v H'
  bk : ∀ σ' H' ρ' S', E.bk ρ' S' → KpS S H S' H' → Sat K ρ' S' σ' H' → F.bk σ' H'
  ct : ∀ σ' H' ρ' S', E.ct ρ' S' → KpS S H S' H' → Sat K ρ' S' σ' H' → F.ct σ' H'
theorem Mts.on {K : PySem.W.Frag} {S S1 : Store} {H H1 : Hp} {E : AEnds} {F : Ends} (m : Mts K S H E F) (k : KpS S H S1 H1) : Mts K S1 H1 E F :=
  ⟨fun _ _ _ _ q k2 s => m.nx _ _ _ _ q (k.trans k2) s, fun _ _ _ _ q k2 o r => m.rt _ _ _ _ q (k.trans k2) o r, fun _ _ _ _ q k2 s => m.bk _ _ _ _ q (k.trans k2) s, fun _ _ _ _ q k2 s => m.ct _ _ _ _ q (k.trans k2) s⟩
def aS (X : Cx) (st : Stmt) (ρ : Sl) (S : Store) (E : AEnds) : Prop := ∀ σ H F, Sat X.K ρ S σ H → Mts X.K S H E F → wS X st F σ H
def aSs (X : Cx) (st : List Stmt) (ρ : Sl) (S : Store) (E : AEnds) : Prop := ∀ σ H F, Sat X.K ρ S σ H → Mts X.K S H E F → wSs X st F σ H

section
variable {X : Cx} {ρ : Sl} {S : Store} {E : AEnds} {pos : Pos} {a b c e : Expr} {st : Stmt} {rest body orelse : List Stmt} {K : PySem.W.Frag}
theorem aSs_nil (q : E.nx ρ S) : aSs X [] ρ S E := fun σ H F s m => w_pss pss_nil (m.nx _ _ _ _ q (Kp.refl _) s)
theorem aSs_cons (h : aS X st ρ S { E with nx := fun ρ1 S1 => aSs X rest ρ1 S1 E }) : aSs X (st :: rest) ρ S E := fun σ H F s m => by
  refine w_pss (pss_cons ps_w pss_w) ?_
  refine h σ H _ s ⟨fun σ' H' ρ' S' q k s' => ?_, m.rt, m.bk, m.ct⟩
  exact q σ' H' F s' (m.on k)
/-- the last statement of a block -/
theorem aSs_one (h : aS X st ρ S E) : aSs X [st] ρ S E := fun σ H F s m => w_pss (pss_one ps_w) (h σ H F s m)
theorem aSs.imp {ρ' : Sl} {S' : Store} (h : aSs X rest ρ' S' E) (i : ∀ σ H, Sat X.K ρ S σ H → Sat X.K ρ' S' σ H ∧ KpS S H S' H) : aSs X rest ρ S E := fun σ H F s m => by
  obtain ⟨s', k⟩ := i σ H s
  exact h σ H F s' (m.on k)
theorem aS.imp {ρ' : Sl} {S' : Store} (h : aS X st ρ' S' E) (i : ∀ σ H, Sat X.K ρ S σ H → Sat X.K ρ' S' σ H ∧ KpS S H S' H) : aS X st ρ S E := fun σ H F s m => by
  obtain ⟨s', k⟩ := i σ H s
  exact h σ H F s' (m.on k)
theorem aE.imp {Q : D → Store → Prop} {ρ' : Sl} {S' : Store} (h : aE X e ρ' S' Q) (i : ∀ σ H, Sat X.K ρ S σ H → Sat X.K ρ' S' σ H ∧ KpS S H S' H) : aE X e ρ S Q := fun σ H R s k => by
  obtain ⟨s', k1⟩ := i σ H s
  exact h σ H R s' fun v H' d S'' q k2 o r => k v H' d S'' q (k1.trans k2) o r
/-- an object changes no more; its slot holds it from now on -/
theorem frz_slot {i j : Nat} {p : Addr} {d : D} (hi : S[i]? = some (p, d)) (hd : frzB d = true) (hj : ρ[j]? = some (some (.adr p))) : ∀ σ H, Sat K ρ S σ H → Sat K (ρ.set j (some d)) (S.eraseIdx i) σ H ∧ KpS S H (S.eraseIdx i) H := fun σ H s => by
  refine ⟨⟨?_, s.ok.freeze⟩, hid_erase⟩
  have s1 := s.sl.kp (hid_erase (i := i))
  obtain ⟨v, e1, e2⟩ := s1.get hj
  have ev : v = .ref p := e2
  subst ev
  have r := s.ok.frozen hi hd
  have q := RepS.set r j s1
  have es : σ.set j (some (V.ref p)) = σ := by
    apply List.ext_getElem?
    intro m
    rw [List.getElem?_set]
    split
    · rename_i hm
      subst hm
      have hl : j < σ.length := (List.getElem?_eq_some_iff.mp e1).1
      rw [if_pos hl, e1]
    · rfl
  rw [es] at q
  exact q
/-- an object is let go -/
theorem drop_obj (i : Nat) : ∀ σ H, Sat K ρ S σ H → Sat K ρ (S.eraseIdx i) σ H ∧ KpS S H (S.eraseIdx i) H := fun σ H s => ⟨⟨s.sl.kp hid_erase, s.ok.freeze⟩, hid_erase⟩
theorem drop_slot (i : Nat) : ∀ σ H, Sat K ρ S σ H → Sat K (ρ.set i none) S σ H ∧ KpS S H S H := fun σ H s => ⟨⟨RepS.forget i s.sl, s.ok⟩, Kp.refl _⟩
/-- a value that is an object that changes no more -/
theorem aE_frz {Q : D → Store → Prop} (h : aE X e ρ S fun d S1 => ∃ i p z, d = .adr p ∧ S1[i]? = some (p, z) ∧ frzB z = true ∧ Q z (S1.eraseIdx i)) : aE X e ρ S Q := fun σ H R s k => by
  refine h σ H R s fun v H' d S' ⟨i, p, z, e1, hi, hz, q⟩ k1 o1 r1 => ?_
  subst e1
  have ev : v = .ref p := r1
  subst ev
  exact k _ _ _ _ q (k1.trans hid_erase) o1.freeze (o1.frozen hi hz)

theorem aS_expr (h : aE X e ρ S fun _ S1 => E.nx ρ S1) (hs : swapsWith e none pos.line X.env = pure false := by rfl) : aS X (.Expr e pos) ρ S E := fun σ H F s m => by
  refine w_ps (ps_expr pe_w hs) ?_
  exact h σ H _ s fun v H' d S' q k o r => m.nx _ _ _ _ q k (s.next k o)
theorem aS_ret (h : aE X e ρ S E.rt) : aS X (.Return (some e) pos) ρ S E := fun σ H F s m => by
  refine w_ps (ps_ret pe_w) ?_
  exact h σ H _ s m.rt
theorem aS_retN (h : E.rt .non S) : aS X (.Return none pos) ρ S E := fun σ H F s m => w_ps ps_retN (m.rt _ _ _ _ h (Kp.refl _) s.ok rfl)
theorem aS_pass (h : E.nx ρ S) : aS X (.Pass pos) ρ S E := fun σ H F s m => w_ps ps_pass (m.nx _ _ _ _ h (Kp.refl _) s)
theorem aS_break (h : E.bk ρ S) : aS X (.Break pos) ρ S E := fun σ H F s m => w_ps ps_break (m.bk _ _ _ _ h (Kp.refl _) s)
theorem aS_continue (h : E.ct ρ S) : aS X (.Continue pos) ρ S E := fun σ H F s m => w_ps ps_continue (m.ct _ _ _ _ h (Kp.refl _) s)
theorem aS_never (h : False) : aS X st ρ S E := h.elim
theorem aS_if (h : aT X c ρ S fun x S1 => if x = true then aSs X body ρ S1 E else aSs X orelse ρ S1 E) : aS X (.If c body orelse pos) ρ S E := fun σ H F s m => by
  refine w_ps (ps_if pt_w pss_w pss_w) ?_
  refine h σ H _ s fun x H1 S1 q k o => ?_
  cases x with
  | true => exact (show aSs X body ρ S1 E from q) σ H1 F (s.next k o) (m.on k)
  | false => exact (show aSs X orelse ρ S1 E from q) σ H1 F (s.next k o) (m.on k)
/-- name = e -/
theorem aS_set {x : Str} {p1 : Pos} (i : Nat) (h : aE X e ρ S fun d S1 => E.nx (ρ.set i (some d)) S1) (hN : X.N.Nodup) (hi : X.N[i]? = some x := by rfl) (hx : Loc X.env.scope x := by first | exact Or.inl rfl | exact Or.inr rfl) (hs : swapsWith e (some (.Name x p1)) pos.line X.env = pure false := by rfl)
    (hf : X.fn x = true ∨ X.env.scope.names.lookup x = some .local := by first | exact .inl rfl | exact .inr rfl) : aS X (.Assign [.Name x p1] e pos) ρ S E := fun σ H F s m => by
  refine w_ps (ps_set hN hi hx pe_w hs hf) ?_
  exact h σ H _ s fun v H' d S' q k o r => m.nx _ _ _ _ q k ⟨RepS.set r i (s.next k o).sl, o⟩
/-- a, b = x, y -/
theorem aS_par {x y : Str} {p1 p2 p3 p4 : Pos} {k1 k2} (i j : Nat) (h : aA X [a, b] ρ S fun ds S1 => ∃ d d', ds = [d, d'] ∧ E.nx ((ρ.set i (some d)).set j (some d')) S1) (hc : X.calm = true) (hN : X.N.Nodup) (hij : i ≠ j := by decide) (hi : X.N[i]? = some x := by rfl) (hj : X.N[j]? = some y := by rfl)
    (hx : X.env.scope.names.lookup x = some .local := by rfl) (hy : X.env.scope.names.lookup y = some .local := by rfl)
    (hp : ∀ {ta : TA}, PA X [a, b] ta → PS X (.Assign [.Tuple [.Name x p1, .Name y p2] k1 p3] (.Tuple [a, b] k2 p4) pos) (tPar i j ta)) : aS X (.Assign [.Tuple [.Name x p1, .Name y p2] k1 p3] (.Tuple [a, b] k2 p4) pos) ρ S E := fun σ H F s m => by
  refine w_ps (hp pa_w) ?_
  refine h σ H _ s fun vs H1 ds S1 ⟨d, d', e1, q⟩ k o r => ?_
  subst e1
  obtain ⟨v, r1, e1, g1, v2, r2, e2, g2, e3⟩ := r
  have e3 : r2 = [] := e3
  subst e3; subst e2; subst e1
  exact ⟨v, v2, rfl, m.nx _ _ _ _ q k ⟨RepS.set g2 j (RepS.set g1 i (s.next k o).sl), o⟩⟩
/-! ### targets -/
inductive Tgt where
  | nm (i : Nat) | tp (is : List Nat)
def gNames : List Nat → TGs
  | [] => gNil
  | i :: r => gCons (gName i) (gNames r)
def Tgt.g (K : PySem.W.Frag) : Tgt → TG
  | .nm i => gName i
  | .tp is => gTup K is.length (gNames is)
def setMany : Sl → List Nat → List D → Sl
  | ρ, i :: r, d :: ds => setMany (ρ.set i (some d)) r ds
  | ρ, _, _ => ρ
/-- the target's value fits, and what the slots are behind it -/
def Tgt.fits : Tgt → D → Sl → (Sl → Prop) → Prop
  | .nm i, d, ρ, P => P (ρ.set i (some d))
  | .tp is, d, ρ, P => ∃ ds, (d = .tup ds ∨ d = .tupW ds) ∧ ds.length = is.length ∧ P (setMany ρ is ds)
def TgOk (X : Cx) (tg : Expr) (T : Tgt) : Prop := PG X tg (T.g X.K)
theorem tg_nm {x : Str} (i : Nat) (hN : X.N.Nodup) (hi : X.N[i]? = some x := by rfl) (hx : Loc X.env.scope x := by first | exact Or.inl rfl | exact Or.inr rfl) (hf : X.fn x = true ∨ X.env.scope.names.lookup x = some .local := by first | exact .inl rfl | exact .inr rfl) : TgOk X (.Name x pos) (.nm i) := pg_name hN hi hx hf
theorem gNames_do {Q : St → Hp → Prop} {G : Hp} {H : Hp} : ∀ (is : List Nat) {ρ : Sl} {σ : St} {ds : List D} {vs : List V}, RepS K G ρ σ → RepL K G ds vs → ds.length = is.length → (∀ σ', RepS K G (setMany ρ is ds) σ' → Q σ' H) → gNames is vs σ H Q
  | [], ρ, σ, ds, vs, h, r, hl, k => by
    have e : ds = [] := List.length_eq_zero_iff.mp hl
    subst e
    have ev : vs = [] := r
    subst ev
    exact ⟨rfl, k _ h⟩
  | i :: is, ρ, σ, [], vs, h, r, hl, k => by cases hl
  | i :: is, ρ, σ, d :: ds, vs, h, ⟨v, vr, e, r1, r2⟩, hl, k => by
    subst e
    exact ⟨v, vr, rfl, gNames_do is (RepS.set r1 i h) r2 (Nat.succ.inj hl) k⟩
theorem tgt_do {Q : St → Hp → Prop} {G H : Hp} {σ : St} {d : D} {v : V} {P : Sl → Prop} (hs : Kp G H) : ∀ {T : Tgt}, RepS K G ρ σ → Rep K G d v → T.fits d ρ P → (∀ σ' ρ', P ρ' → RepS K G ρ' σ' → Q σ' H) → T.g K v σ H Q
  | .nm i, h, r, f, k => k _ _ f (RepS.set r i h)
  | .tp is, h, r, ⟨ds, e, hl, f⟩, k => by
    obtain ⟨a, xs, e1, g, p⟩ : ∃ a xs, v = .ref a ∧ SqT K G a xs ∧ RepL K G ds xs := by
      rcases e with e | e
      · subst e; exact tupT r
      · subst e; exact r
    refine ⟨a, xs, e1, sqT_kp hs g, by rw [p.len]; exact hl, ?_⟩
    exact gNames_do is h p hl fun σ' h' => k σ' _ f h'
/-- target = e -/
theorem aS_asg {tg : Expr} (T : Tgt) (h : aE X e ρ S fun d S1 => T.fits d ρ fun ρ' => E.nx ρ' S1) (ht : TgOk X tg T) (hs : swapsWithSole [tg] e pos.line X.env = pure false := by rfl) (hw : swappedStores [tg] e X.env = pure none := by rfl)
    (h1 : (assignEach [tg] X.env).map (·.2) = [assign tg X.env] := by rfl) : aS X (.Assign [tg] e pos) ρ S E := fun σ H F s m => by
  refine w_ps (ps_asg pe_w ht hs hw h1) ?_
  refine h σ H _ s fun v H' d S' q k o r => ?_
  exact tgt_do kp_hid (s.next k o).sl r q fun σ' ρ' q' g => m.nx _ _ _ _ q' k ⟨g, o⟩
/-! ### stores -/
/-- self.f = e -/
theorem aS_fld {o : Expr} {f : Str} {C : Addr} {p1 : Pos} (cl : Cls X.K C) (n : NoAttr X.K C f) (h : aE X e ρ S fun d S1 => aE X o ρ S1 fun t S2 => ∃ i p l, t = .adr p ∧ S2[i]? = some (p, .ins C l) ∧ l.length < 1000 ∧ E.nx ρ (S2.set i (p, .ins C (putA f d l))))
    (hs : swapsWith e (some (.Attribute o f p1)) pos.line X.env = pure false := by rfl) : aS X (.Assign [.Attribute o f p1] e pos) ρ S E := fun σ H F s m => by
  refine w_ps (ps_fld pe_w pe_w hs) ?_
  refine h σ H _ s fun y H1 d S1 q1 k1 o1 r1 => ?_
  refine q1 σ H1 _ (s.next k1 o1) fun x H2 t S2 ⟨i, p, l, e1, hi, hl, q⟩ k2 o2 r2 => ?_
  subst e1
  have ev : x = .ref p := r2
  subst ev
  obtain ⟨dx, fs, g, pf⟩ := o2.ok _ (List.mem_of_getElem? hi)
  have rd := r1.kp k2
  obtain ⟨o3, k3⟩ := o2.write (o := .ins C dx (putF f y fs)) (d' := .ins C (putA f d l)) hi ⟨dx, _, upd_same, RepF.put rd pf⟩
  have k13 := (k1.trans k2).trans k3
  exact ⟨p, C, dx, fs, rfl, g, cl, n, by rw [pf.len]; exact hl, m.nx _ _ _ _ q k13 (s.next k13 o3)⟩
/-- d[k] = e, xs[i] = e -/
def aPut (d k x : D) (S : Store) (Q : Store → Prop) : Prop := (∃ i p l ky, d = .adr p ∧ S[i]? = some (p, .dct l) ∧ k = kD ky ∧ l.length < 100000 ∧ Q (S.set i (p, .dct (putP l ky x)))) ∨
  ∃ i p l j n, d = .adr p ∧ S[i]? = some (p, .lst l) ∧ k = .int n ∧ ixN l.length n = some j ∧ Q (S.set i (p, .lst (l.set j x)))
def rPutD : TSet := fun o i v H Q => ∃ a H', o = .ref a ∧ DPut H a i v H' ∧ Q H'
theorem pset_dk (hu : X.A.units + 64 < cLine) : PSet X rPutD := by
  intro pins s σ H o i v ov iv u Q I ro ri rv h
  obtain ⟨a, H', rfl, g, q⟩ := h
  cases ro
  exact d_setItem (by omega) I g ri rv fun s' I' => ⟨H', I', q⟩
theorem PSet.or {r r' : TSet} (h : PSet X r) (h' : PSet X r') : PSet X (fun o i v H Q => r o i v H Q ∨ r' o i v H Q) := by
  intro pins s σ H o i v ov iv u Q I ro ri rv q
  rcases q with q | q
  · exact h pins s σ H o i v ov iv u Q I ro ri rv q
  · exact h' pins s σ H o i v ov iv u Q I ro ri rv q
theorem aS_put {o k : Expr} {p1 : Pos} (hu : X.A.units + 64 < cLine) (h : aE X e ρ S fun x S1 => aE X o ρ S1 fun d S2 => aE X k ρ S2 fun ky S3 => aPut d ky x S3 fun S4 => E.nx ρ S4)
    (hs : swapsWithSole [.Subscript o k p1] e pos.line X.env = pure false := by rfl) (hw : swappedStores [.Subscript o k p1] e X.env = pure none := by rfl)
    (h1 : (assignEach [.Subscript o k p1] X.env).map (·.2) = [assign (.Subscript o k p1) X.env] := by rfl)
    (ha : ∀ v, assign (.Subscript o k p1) X.env v = (do
      let ov ← holding [v] (eval o X.env)
      let iv ← holding [v, ov] (eval k X.env)
      standAt p1
      holding [v, ov, iv] (setItem ov iv v)
      release [v, ov, iv] []) := by intro _; rfl) : aS X (.Assign [.Subscript o k p1] e pos) ρ S E := fun σ H F s m => by
  refine w_ps (ps_asg pe_w (pg_sub pe_w pe_w (PSet.or (pset_dk hu) set_list) ha) hs hw h1) ?_
  refine h σ H _ s fun v H1 x S1 q1 k1 o1 r1 => ?_
  refine q1 σ H1 _ (s.next k1 o1) fun w H2 d S2 q2 k2 o2 r2 => ?_
  refine q2 σ H2 _ (s.next (k1.trans k2) o2) fun y H3 ky S3 q3 k3 o3 r3 => ?_
  have k13 := (k1.trans k2).trans k3
  have rx := (r1.kp k2).kp k3
  rcases q3 with ⟨i, p, l, kk, e1, hi, e2, hl, q⟩ | ⟨i, p, l, j, n, e1, hi, e2, hj, q⟩
  · subst e1; subst e2
    have ev : w = .ref p := r2
    subst ev
    obtain ⟨kvs, g, pp⟩ := o3.ok _ (List.mem_of_getElem? hi)
    obtain ⟨o4, k4⟩ := o3.write (o := .dK (putK kvs kk v)) (d' := .dct (putP l kk x)) hi ⟨_, upd_same, pp.put rx⟩
    rw [kD_rep r3]
    exact .inl ⟨p, _, rfl, DPut.k g (by rw [pp.len]; exact sz_lt hl), m.nx _ _ _ _ q (k13.trans k4) (s.next (k13.trans k4) o4)⟩
  · subst e1; subst e2
    have ev : w = .ref p := r2
    subst ev
    obtain ⟨xs, g, pp⟩ := o3.ok _ (List.mem_of_getElem? hi)
    obtain ⟨o4, k4⟩ := o3.write (o := .lst (xs.set j v)) (d' := .lst (l.set j x)) hi ⟨_, upd_same, pp.set j rx⟩
    exact .inr ⟨p, xs, n, j, rfl, r3, g, by rw [pp.len]; exact hj, m.nx _ _ _ _ q (k13.trans k4) (s.next (k13.trans k4) o4)⟩
/-- d[k] += e, whole numbers -/
theorem aS_daug {o k : Expr} {p1 : Pos} (hu : X.A.units + 64 < cLine) (h : aE X o ρ S fun d S1 => aE X k ρ S1 fun ky S2 => ∃ (p : Addr) (kk : Key), d = .adr p ∧ ky = kD kk ∧ (∃ (i2 : Nat) (l2 : List (Key × D)) (n2 : Int), S2[i2]? = some (p, .dct l2) ∧ valP l2 kk = some (.int n2) ∧
      aE X e ρ S2 fun x S3 => ∃ (y : Int) (i : Nat) (l : List (Key × D)), x = .int y ∧ S3[i]? = some (p, .dct l) ∧ l.length < 100000 ∧ E.nx ρ (S3.set i (p, .dct (putP l kk (.int (n2 + y)))))))
    (ha : ∀ ov iv new, augStore k ov iv new = (do holding [new, ov, iv] (setItem ov iv new); release [new, ov, iv] []; pure .next) := by intro _ _ _; rfl) : aS X (.AugAssign (.Subscript o k p1) .Add e pos) ρ S E := fun σ H F s m => by
  refine w_ps (ps_daug (by omega) pe_w pe_w pe_w in_add ha) ?_
  refine h σ H _ s fun w H1 d S1 q1 k1 o1 r1 => ?_
  refine q1 σ H1 _ (s.next k1 o1) fun y H2 ky S2 ⟨p, kk, e1, e2, i2, l2, n2, hi2, hv2, q2⟩ k2 o2 r2 => ?_
  subst e1; subst e2
  have ev : w = .ref p := r1
  subst ev
  obtain ⟨kvs, g, pp⟩ := o2.ok _ (List.mem_of_getElem? hi2)
  obtain ⟨z, hz, rz⟩ := (pp.val kk).2 _ hv2
  have ez : z = .int n2 := rz
  subst ez
  rw [kD_rep r2]
  refine ⟨p, .int n2, rfl, by rw [← hz]; exact DGet.k g, ?_⟩
  refine q2 σ H2 _ (s.next (k1.trans k2) o2) fun y2 H3 x S3 ⟨yy, i, l, e3, hi, hl, q⟩ k3 o3 r3 => ?_
  subst e3
  have k13 := (k1.trans k2).trans k3
  obtain ⟨kvs3, g3, pp3⟩ := o3.ok _ (List.mem_of_getElem? hi)
  obtain ⟨o4, k4⟩ := o3.write (o := .dK (putK kvs3 kk (.int (n2 + yy)))) (d' := .dct (putP l kk (.int (n2 + yy)))) hi ⟨_, upd_same, pp3.put rfl⟩
  exact ⟨n2, yy, rfl, r3, _, DPut.k g3 (by rw [pp3.len]; exact sz_lt hl), m.nx _ _ _ _ q (k13.trans k4) (s.next (k13.trans k4) o4)⟩
/-- x += e, whole numbers -/
theorem aS_aug {x : Str} {p1 : Pos} (i : Nat) {n : Int} (hr : ρ[i]? = some (some (.int n))) (h : aE X e ρ S fun d S1 => ∃ y, d = .int y ∧ E.nx (ρ.set i (some (.int (n + y)))) S1) (hN : X.N.Nodup) (hi : X.N[i]? = some x := by rfl) (hx : Loc X.env.scope x := by first | exact Or.inl rfl | exact Or.inr rfl)
    (hf : X.fn x = true ∨ X.env.scope.names.lookup x = some .local := by first | exact .inl rfl | exact .inr rfl) : aS X (.AugAssign (.Name x p1) .Add e pos) ρ S E := fun σ H F s m => by
  refine w_ps (ps_aug hN hi hx pe_w ip_add hf) ?_
  obtain ⟨v, e1, r⟩ := s.sl.get hr
  have ev : v = .int n := r
  subst ev
  refine ⟨_, e1, ?_⟩
  refine h σ H _ s fun w H1 d S1 ⟨y, e2, q⟩ k1 o1 r1 => ?_
  subst e2
  exact ⟨n, y, rfl, r1, m.nx _ _ _ _ q k1 ⟨RepS.set (d := .int (n + y)) (v := .int (n + y)) rfl i (s.next k1 o1).sl, o1⟩⟩
/-! ### while -/
theorem aS_while (W : Nat → Sl → Store → Prop) (n : Nat) (w0 : W n ρ S) (hs : ∀ n ρ S, W n ρ S → aT X c ρ S fun x S1 => if x = true then aSs X body ρ S1 { E with nx := fun ρ' S' => ∃ m, m < n ∧ W m ρ' S', ct := fun ρ' S' => ∃ m, m < n ∧ W m ρ' S', bk := E.nx } else E.nx ρ S1)
    (hp : PassesOwn (model X.prog X.w) X.A X.env X.xe) : aS X (.While c body [] pos) ρ S E := fun σ H F s m => by
  refine w_ps (ps_while hp pt_w pss_w) ?_
  refine ⟨fun n σ' H' => ∃ ρ' S', W n ρ' S' ∧ KpS S H S' H' ∧ Sat X.K ρ' S' σ' H', ⟨n, ρ, S, w0, Kp.refl _, s⟩, ?_⟩
  rintro n1 σ1 H1 ⟨ρ1, S1, w1, k1, s1⟩
  refine hs n1 ρ1 S1 w1 σ1 H1 _ s1 fun x H2 S2 q2 k2 o2 => ?_
  have s2 := s1.next k2 o2
  have k12 := k1.trans k2
  cases x with
  | true =>
    rw [if_pos rfl] at q2 ⊢
    refine ⟨fun σ' H' => ∃ m', m' < n1 ∧ ∃ ρ' S', W m' ρ' S' ∧ KpS S H S' H' ∧ Sat X.K ρ' S' σ' H', fun σ' H' ⟨m', hm, q⟩ => ⟨m', hm, q⟩, ?_⟩
    refine q2 σ1 H2 _ s2 ⟨fun σ' H' ρ' S' ⟨m', hm, w'⟩ k' s' => ⟨m', hm, ρ', S', w', k12.trans k', s'⟩, fun v H' d S' q k' o r => m.rt _ _ _ _ q (k12.trans k') o r, fun σ' H' ρ' S' q k' s' => m.nx _ _ _ _ q (k12.trans k') s', fun σ' H' ρ' S' ⟨m', hm, w'⟩ k' s' => ⟨m', hm, ρ', S', w', k12.trans k', s'⟩⟩
  | false =>
    rw [if_neg Bool.false_ne_true] at q2 ⊢
    exact m.nx _ _ _ _ q2 k12 s2
end
end DL

namespace DL
open PySem L2

/-! ### what is walked -/
def IWalk (K : PySem.W.Frag) (G0 : Hp) (J : It) (ds : List D) : Prop := ∀ S H, Kp G0 (hid (adrs S) H) → SOk K S H →
  J.stop ds.length H ∧ ∀ i d, ds[i]? = some d → J.go i H ∧ ∀ x H', J.yld i H x H' → RepS1 K S H' d x ∧ KpS S H S H' ∧ SOk K S H'
def wI (X : Cx) (tg iter : Expr) : TI := fun σ H R => ∀ pins s, Inv X pins σ H s → wpAny (model X.prog X.w) X.A (eval iter X.env) (fun v s1 => wpAny (model X.prog X.w) X.A (pyIter v) (PIE X pins σ tg R) X.xe s1) X.xe s
theorem pi_w {X : Cx} {tg iter : Expr} : PI X tg iter (wI X tg iter) := ⟨fun pins s _ _ _ I h => h pins s I⟩
theorem w_pi {X : Cx} {tg iter : Expr} {wi : TI} {σ : St} {H : Hp} {R : It → Hp → Prop} (p : PI X tg iter wi) (h : wi σ H R) : wI X tg iter σ H R := fun pins s I => p.run pins s σ H R I h
def aItr (X : Cx) (tg iter : Expr) (ρ : Sl) (S : Store) (Q : List D → Store → Prop) : Prop :=
  ∀ σ H (R : It → Hp → Prop), Sat X.K ρ S σ H → (∀ J H' S' ds, Q ds S' → KpS S H S' H' → SOk X.K S' H' → IWalk X.K (hid (adrs S') H') J ds → R J H') → wI X tg iter σ H R
section
variable {X : Cx} {ρ : Sl} {S : Store} {Q : List D → Store → Prop} {pos : Pos} {tg e a b : Expr} {K : PySem.W.Frag}
theorem aI_list (h : aE X e ρ S fun d S1 => ∃ l, d = .lst l ∧ Q l S1) : aItr X tg e ρ S Q := fun σ H R s k => by
  refine w_pi (pi_list pe_w) ?_
  refine h σ H _ s fun v H1 d S1 ⟨l, e1, q⟩ k1 o1 r1 => ?_
  subst e1
  obtain ⟨p, xs, e2, g, r⟩ := r1
  refine ⟨p, e2, ⟨xs, .inl (.inl (hid_sub _ _ g))⟩, k _ _ _ _ q k1 o1 fun S2 H2 k2 o2 => ?_⟩
  have g2 : SqL X.K H2 p xs := .inl (.inl (hid_sub _ _ (k2.l _ _ g)))
  refine ⟨⟨xs, g2, by rw [r.len]; exact Nat.le_refl _⟩, fun i d hi => ?_⟩
  obtain ⟨x, hx, rx⟩ := r.get hi
  refine ⟨⟨xs, x, g2, hx⟩, fun y H3 ⟨eH, hy⟩ => ?_⟩
  subst eH
  have ey : some x = some y := hx.symm.trans (hy xs g2)
  cases ey
  exact ⟨rx.kp k2, Kp.refl _, o2⟩
theorem aI_scr (h : aE X e ρ S fun d S1 => ∃ ns, d = .scr ns ∧ Q (ns.map D.int) S1) : aItr X tg e ρ S Q := fun σ H R s k => by
  refine w_pi (pi_list pe_w) ?_
  refine h σ H _ s fun v H1 d S1 ⟨ns, e1, q⟩ k1 o1 r1 => ?_
  subst e1
  obtain ⟨p, e2, g⟩ := r1
  refine ⟨p, e2, ⟨_, sqL_kp kp_hid g⟩, k _ _ _ _ q k1 o1 fun S2 H2 k2 o2 => ?_⟩
  have g2 : SqL X.K H2 p (ns.map V.int) := sqL_kp kp_hid (sqL_kp k2 g)
  have r := RepL.ofInts (K := X.K) (G := hid (adrs S2) H2) ns
  refine ⟨⟨_, g2, by rw [r.len]; exact Nat.le_refl _⟩, fun i d hi => ?_⟩
  obtain ⟨x, hx, rx⟩ := r.get hi
  refine ⟨⟨_, x, g2, hx⟩, fun y H3 ⟨eH, hy⟩ => ?_⟩
  subst eH
  have ey : some x = some y := hx.symm.trans (hy _ g2)
  cases ey
  exact ⟨rx, Kp.refl _, o2⟩
theorem aI_tup (h : aE X e ρ S fun d S1 => ∃ l, d = .tup l ∧ Q l S1) : aItr X tg e ρ S Q := fun σ H R s k => by
  refine w_pi (pi_tup pe_w) ?_
  refine h σ H _ s fun v H1 d S1 ⟨l, e1, q⟩ k1 o1 r1 => ?_
  subst e1
  obtain ⟨p, xs, e2, g, r⟩ := r1
  replace g := g.sq
  refine ⟨p, e2, ⟨xs, sqT_kp kp_hid g⟩, k _ _ _ _ q k1 o1 fun S2 H2 k2 o2 => ?_⟩
  have g2 : SqT X.K H2 p xs := sqT_kp kp_hid (sqT_kp k2 g)
  refine ⟨⟨xs, g2, by rw [r.len]; exact Nat.le_refl _⟩, fun i d hi => ?_⟩
  obtain ⟨x, hx, rx⟩ := r.get hi
  refine ⟨⟨xs, x, g2, hx⟩, fun y H3 ⟨eH, hy⟩ => ?_⟩
  subst eH
  have ey : some x = some y := hx.symm.trans (hy xs g2)
  cases ey
  exact ⟨rx.kp k2, Kp.refl _, o2⟩
/-- lo, lo + 1, .. -/
def nums (lo : Int) (n : Nat) : List D := (List.range n).map fun (i : Nat) => D.int (lo + (i : Int))
theorem nums_len {lo : Int} {n : Nat} : (nums lo n).length = n := by unfold nums; rw [List.length_map, List.length_range]
theorem nums_get {lo : Int} {n i : Nat} {d : D} (h : (nums lo n)[i]? = some d) : i < n ∧ d = .int (lo + (i : Int)) := by
  unfold nums at h
  rw [List.getElem?_map] at h
  obtain ⟨j, h1, h2⟩ := Option.map_eq_some_iff.mp h
  obtain ⟨h3, h4⟩ := List.getElem?_eq_some_iff.mp h1
  rw [List.length_range] at h3
  rw [List.getElem_range] at h4
  subst h4
  exact ⟨h3, h2.symm⟩
theorem walk_nums {G : Hp} {lo : Int} {n : Nat} : IWalk K G (Itr lo n) (nums lo n) := fun S2 H2 k2 o2 => by
  refine ⟨by rw [nums_len]; exact Nat.le_refl _, fun i d hi => ?_⟩
  obtain ⟨hi2, rfl⟩ := nums_get hi
  refine ⟨hi2, fun y H3 ⟨eH, hy⟩ => ?_⟩
  subst eH; subst hy
  exact ⟨rfl, Kp.refl _, o2⟩
theorem aI_range1 {p : Pos} (hm : X.mg "range" = none) (h : aA X [a] ρ S fun ds S1 => ∃ n, ds = [.int n] ∧ -(2 ^ 62) ≤ n ∧ n < 2 ^ 62 ∧ Q (nums 0 n.toNat) S1) (hg : Gl X "range" := by rfl) (hs : starEach [a] X.env = [(false, eval a X.env)] := by rfl) : aItr X tg (.Call (.Name "range" p) [a] [] pos) ρ S Q := fun σ H R s k => by
  refine w_pi (pi_range1 hg hm pa_w hs) ?_
  refine h σ H _ s fun vs H1 ds S1 ⟨n, e1, h1, h2, q⟩ k1 o1 r1 => ?_
  subst e1
  have ev := RepL.ints (ns := [n]) r1
  subst ev
  exact ⟨n, rfl, h1, h2, k _ _ _ _ q k1 o1 walk_nums⟩
theorem aI_range2 {p : Pos} (hm : X.mg "range" = none) (h : aA X [a, b] ρ S fun ds S1 => ∃ m n, ds = [.int m, .int n] ∧ -(2 ^ 62) ≤ m ∧ m < 2 ^ 62 ∧ -(2 ^ 62) ≤ n ∧ n < 2 ^ 62 ∧ Q (nums m (n - m).toNat) S1) (hg : Gl X "range" := by rfl) (hs : starEach [a, b] X.env = [(false, eval a X.env), (false, eval b X.env)] := by rfl) (hs2 : starEach [b] X.env = [(false, eval b X.env)] := by rfl) : aItr X tg (.Call (.Name "range" p) [a, b] [] pos) ρ S Q := fun σ H R s k => by
  refine w_pi (pi_range2 hg hm pa_w hs hs2) ?_
  refine h σ H _ s fun vs H1 ds S1 ⟨m, n, e1, h1, h2, h3, h4, q⟩ k1 o1 r1 => ?_
  subst e1
  have ev := RepL.ints (ns := [m, n]) r1
  subst ev
  exact ⟨m, n, rfl, ⟨h1, h2, h3, h4⟩, k _ _ _ _ q k1 o1 walk_nums⟩
def signs (z : Str) : List D := z.cps.toList.map fun c => D.str ⟨#[c]⟩
theorem aI_str (h : aE X e ρ S fun d S1 => ∃ z, d = .str z ∧ Q (signs z) S1) : aItr X tg e ρ S Q := fun σ H R s k => by
  refine w_pi (pi_str pe_w) ?_
  refine h σ H _ s fun v H1 d S1 ⟨z, e1, q⟩ k1 o1 r1 => ?_
  subst e1
  refine ⟨z, r1, k _ _ _ _ q k1 o1 fun S2 H2 k2 o2 => ?_⟩
  refine ⟨by unfold signs; rw [List.length_map, Array.length_toList]; exact Nat.le_refl _, fun i d hi => ?_⟩
  unfold signs at hi
  rw [List.getElem?_map] at hi
  obtain ⟨c, h1, h2⟩ := Option.map_eq_some_iff.mp hi
  have hc : z.cps[i]? = some c := by rw [← Array.getElem?_toList]; exact h1
  have hlt : i < z.cps.size := (Array.getElem?_eq_some_iff.mp hc).1
  refine ⟨hlt, fun y H3 ⟨eH, c', hc', hy⟩ => ?_⟩
  subst eH; subst hy; subst h2
  rw [hc] at hc'
  cases hc'
  exact ⟨rfl, Kp.refl _, o2⟩
/-- a new pair at each turn -/
theorem walk_pair {G0 : Hp} {J : It} {ds : List D} (hs : ∀ S H, Kp G0 (hid (adrs S) H) → J.stop ds.length H)
    (hg : ∀ i d, ds[i]? = some d → ∃ d1 d2, d = .tupW [d1, d2] ∧ ∀ S H, Kp G0 (hid (adrs S) H) → J.go i H ∧ ∀ v H', J.yld i H v H' → ∃ T x y, v = .ref T ∧ H T = none ∧ H' = upd H T (.tup [x, y]) ∧ Rep K G0 d1 x ∧ Rep K G0 d2 y) : IWalk K G0 J ds := fun S2 H2 k2 o2 => by
  refine ⟨hs S2 H2 k2, fun i d hi => ?_⟩
  obtain ⟨d1, d2, e1, hh⟩ := hg i d hi
  subst e1
  obtain ⟨h1, h2⟩ := hh S2 H2 k2
  refine ⟨h1, fun v H3 yy => ?_⟩
  obtain ⟨T, x, y, ev, hT, eH, r1, r2⟩ := h2 v H3 yy
  subst ev; subst eH
  obtain ⟨o3, k3⟩ := o2.grow (o := .tup [x, y]) hT
  exact ⟨⟨T, [x, y], rfl, .inl (.inl (by rw [hid_ne (o2.out hT)]; exact upd_same)), x, [y], rfl, (r1.kp k2).kp k3, y, [], rfl, (r2.kp k2).kp k3, rfl⟩, k3, o3⟩
/-- pairs of two lists -/
def pairs : List D → List D → List D
  | x :: xs, y :: ys => .tupW [x, y] :: pairs xs ys
  | _, _ => []
theorem pairs_len : ∀ {l m : List D}, (pairs l m).length = min l.length m.length
  | [], m => by cases m <;> simp [pairs]
  | _ :: _, [] => by simp [pairs]
  | x :: l, y :: m => by
    show (pairs l m).length + 1 = _
    rw [pairs_len, List.length_cons, List.length_cons]
    omega
theorem pairs_get : ∀ {l m : List D} {i : Nat} {d : D}, (pairs l m)[i]? = some d → ∃ x y, d = .tupW [x, y] ∧ l[i]? = some x ∧ m[i]? = some y
  | [], m, i, d, h => by cases m <;> simp [pairs] at h
  | _ :: _, [], i, d, h => by simp [pairs] at h
  | x :: l, y :: m, 0, d, h => by
    have e : D.tupW [x, y] = d := Option.some.inj h
    exact ⟨x, y, e.symm, rfl, rfl⟩
  | x :: l, y :: m, i + 1, d, h => pairs_get (l := l) (m := m) (i := i) h
theorem aI_zipLL {elts : List Expr} {kk : Nat} {p tpos : Pos} (hm : X.mg "zip" = none) (h : aA X [a, b] ρ S fun ds S1 => ∃ l m, ds = [.lst l, .lst m] ∧ Q (pairs l m) S1) (hg : Gl X "zip" := by rfl)
    (hs : starEach [a, b] X.env = (false, eval a X.env) :: starEach [b] X.env := by rfl) (hpl : (backTo pos (starEach [b] X.env)).any (·.1) = false := by rfl) : aItr X (.Tuple elts kk tpos) (.Call (.Name "zip" p) [a, b] [] pos) ρ S Q := fun σ H R s k => by
  refine w_pi (RZ.pi_zipA hg hm pa_w hs hpl) ?_
  refine h σ H _ s fun vs H1 ds S1 ⟨l, m, e1, q⟩ k1 o1 r1 => ?_
  subst e1
  obtain ⟨x, r, e2, ⟨p1, xs, e3, g1, q1⟩, y, r', e4, ⟨p2, ys, e5, g2, q2⟩, e6⟩ := r1
  have e6 : r' = [] := e6
  subst e6; subst e4; subst e2; subst e3; subst e5
  refine ⟨p1, p2, xs, ys, rfl, .inl ⟨.inl (.inl (hid_sub _ _ g1)), .inl (.inl (hid_sub _ _ g2)), k _ _ _ _ q k1 o1 (walk_pair (fun S2 H2 k2 => ?_) fun i d hi => ?_)⟩⟩
  · exact ⟨xs, ys, .inl (.inl (hid_sub _ _ (k2.l _ _ g1))), .inl (.inl (hid_sub _ _ (k2.l _ _ g2))), by rw [pairs_len, q1.len, q2.len]; omega⟩
  · obtain ⟨d1, d2, e, h1, h2⟩ := pairs_get hi
    obtain ⟨x, hx, rx⟩ := q1.get h1
    obtain ⟨y, hy, ry⟩ := q2.get h2
    refine ⟨d1, d2, e, fun S2 H2 k2 => ?_⟩
    have w1 : SqL X.K H2 p1 xs := .inl (.inl (hid_sub _ _ (k2.l _ _ g1)))
    have w2 : SqL X.K H2 p2 ys := .inl (.inl (hid_sub _ _ (k2.l _ _ g2)))
    refine ⟨⟨xs, ys, x, y, w1, w2, hx, hy⟩, fun v H' ⟨T, x', y', ev, hT, eH, f1, f2⟩ => ?_⟩
    have e1 := hx.symm.trans (f1 xs w1)
    have e2 := hy.symm.trans (f2 ys w2)
    cases e1; cases e2
    exact ⟨T, x, y, ev, hT, eH, rx, ry⟩
theorem aI_enum {elts : List Expr} {kk : Nat} {p tpos : Pos} (hm : X.mg "enumerate" = none) (h : aA X [a] ρ S fun ds S1 => ∃ l, ds = [.lst l] ∧ Q (pairs (nums 0 l.length) l) S1) (hg : Gl X "enumerate" := by rfl)
    (hs : starEach [a] X.env = [(false, eval a X.env)] := by rfl) : aItr X (.Tuple elts kk tpos) (.Call (.Name "enumerate" p) [a] [] pos) ρ S Q := fun σ H R s k => by
  refine w_pi (pi_enum hg hm pa_w hs) ?_
  refine h σ H _ s fun vs H1 ds S1 ⟨l, e1, q⟩ k1 o1 r1 => ?_
  subst e1
  obtain ⟨x, r, e2, ⟨p1, xs, e3, g1, q1⟩, e6⟩ := r1
  have e6 : r = [] := e6
  subst e6; subst e2; subst e3
  refine ⟨p1, xs, rfl, .inl (.inl (hid_sub _ _ g1)), k _ _ _ _ q k1 o1 (walk_pair (fun S2 H2 k2 => ?_) fun i d hi => ?_)⟩
  · exact ⟨xs, .inl (.inl (hid_sub _ _ (k2.l _ _ g1))), by rw [pairs_len, nums_len, q1.len]; omega⟩
  · obtain ⟨d1, d2, e, h1, h2⟩ := pairs_get hi
    obtain ⟨hi1, hd1⟩ := nums_get h1
    obtain ⟨y, hy, ry⟩ := q1.get h2
    refine ⟨d1, d2, e, fun S2 H2 k2 => ?_⟩
    have w1 : SqL X.K H2 p1 xs := .inl (.inl (hid_sub _ _ (k2.l _ _ g1)))
    refine ⟨⟨xs, y, w1, hy⟩, fun v H' ⟨T, y', ev, hT, eH, f1⟩ => ?_⟩
    have e1 := hy.symm.trans (f1 xs w1)
    cases e1
    refine ⟨T, .int (i : Nat), y, ev, hT, eH, ?_, ry⟩
    subst hd1
    rw [Int.zero_add]
    rfl
end

/-! ### for -/
section
variable {X : Cx} {ρ : Sl} {S : Store} {E : AEnds} {pos : Pos} {tg e : Expr} {body : List Stmt}
theorem for_core {ρ1 : Sl} {S1 : Store} {σ1 : St} {H1 : Hp} {F : Ends} {J : It} {ds : List D} (T : Tgt) (w : IWalk X.K (hid (adrs S1) H1) J ds) (Pv : Nat → Sl → Store → Prop) (p0 : Pv 0 ρ1 S1)
    (hs : ∀ i d ρ' S', ds[i]? = some d → Pv i ρ' S' → T.fits d ρ' fun ρ'' => aSs X body ρ'' S' { E with nx := Pv (i + 1), ct := Pv (i + 1), bk := E.nx }) (hd : ∀ ρ' S', Pv ds.length ρ' S' → E.nx ρ' S') (s1 : Sat X.K ρ1 S1 σ1 H1) (m : Mts X.K S1 H1 E F) :
    ∃ W : Nat → Nat → St → Hp → Prop, (∃ m, W 0 m σ1 H1) ∧ ∀ i m σ H, W i m σ H →
      (J.stop i H ∧ F.nx σ H) ∨ (J.go i H ∧ ∃ N : St → Hp → Prop, (∀ σ' H', N σ' H' → ∃ m', m' < m ∧ W (i + 1) m' σ' H') ∧ ∀ x H', J.yld i H x H' → T.g X.K x σ H' fun σ2 H2 => wSs X body { F with nx := N, ct := N, bk := F.nx } σ2 H2) := by
  refine ⟨fun i m σ H => m = ds.length - i ∧ i ≤ ds.length ∧ ∃ ρ' S', Pv i ρ' S' ∧ KpS S1 H1 S' H ∧ Sat X.K ρ' S' σ H, ⟨_, rfl, Nat.zero_le _, ρ1, S1, p0, Kp.refl _, s1⟩, ?_⟩
  rintro i n σ H ⟨rfl, hi, ρ', S', pv, k1, s'⟩
  obtain ⟨w1, w2⟩ := w S' H k1 s'.ok
  by_cases hlt : i < ds.length
  · obtain ⟨g1, g2⟩ := w2 i ds[i] (List.getElem?_eq_getElem hlt)
    refine .inr ⟨g1, fun σ' H' => ∃ ρ2 S2, Pv (i + 1) ρ2 S2 ∧ KpS S1 H1 S2 H' ∧ Sat X.K ρ2 S2 σ' H', fun σ' H' q => ⟨ds.length - (i + 1), by omega, rfl, hlt, q⟩, fun x H' y => ?_⟩
    obtain ⟨r, k2, o2⟩ := g2 x H' y
    refine tgt_do kp_hid (s'.next k2 o2).sl r (hs i _ ρ' S' (List.getElem?_eq_getElem hlt) pv) fun σ2 ρ2 q g => ?_
    have k12 := k1.trans k2
    exact q σ2 H' _ ⟨g, o2⟩ ⟨fun σ3 H3 ρ3 S3 p3 k3 s3 => ⟨ρ3, S3, p3, k12.trans k3, s3⟩, fun v H3 d S3 q3 k3 o3 r3 => m.rt _ _ _ _ q3 (k12.trans k3) o3 r3, fun σ3 H3 ρ3 S3 q3 k3 s3 => m.nx _ _ _ _ q3 (k12.trans k3) s3, fun σ3 H3 ρ3 S3 p3 k3 s3 => ⟨ρ3, S3, p3, k12.trans k3, s3⟩⟩
  · have e : i = ds.length := by omega
    subst e
    exact .inl ⟨w1, m.nx _ _ _ _ (hd _ _ pv) k1 s'⟩
theorem aS_for (T : Tgt) (h : aItr X tg e ρ S fun ds S1 => ∃ Pv : Nat → Sl → Store → Prop, Pv 0 ρ S1 ∧
      (∀ i d ρ' S', ds[i]? = some d → Pv i ρ' S' → T.fits d ρ' fun ρ'' => aSs X body ρ'' S' { E with nx := Pv (i + 1), ct := Pv (i + 1), bk := E.nx }) ∧ ∀ ρ' S', Pv ds.length ρ' S' → E.nx ρ' S')
    (ht : TgOk X tg T) (hp : PassesOwn (model X.prog X.w) X.A X.env X.xe) (hc : X.calm = true) (hs : ∀ x, foldedSetIterable e X.env x = pure x := by intro _; rfl) : aS X (.For tg e body [] pos) ρ S E := fun σ H F s m => by
  refine w_ps (ps_for hp hc pi_w ht pss_w hs) ?_
  refine h σ H _ s fun J H1 S1 ds ⟨Pv, p0, hs', hd⟩ k1 o1 w => ?_
  exact for_core T w Pv p0 hs' hd (s.next k1 o1) (m.on k1)

/-! ### dicts walked: locked for that time -/
/-- e is a dict's place -/
def EvD (X : Cx) (e : Expr) (ρ : Sl) (S : Store) (l : List (Key × D)) : Prop := ∀ σ H, Sat X.K ρ S σ H → ∃ a kvs, Rd (hid (adrs S) H) a (.dK kvs) ∧ RepP X.K (hid (adrs S) H) l kvs ∧ ∀ H', Kq (hid (adrs S) H) H' → ∀ R : VK, R (.ref a) H' → wE X e σ H' R
theorem evD_var {x : Str} (i : Nat) {l : List (Key × D)} (hr : ρ[i]? = some (some (.dct l)) := by rfl) (hN : X.N[i]? = some x := by rfl) (hv : Vis X.env.scope x := by first | exact Or.inl rfl | exact Or.inr (Or.inl rfl) | exact Or.inr (Or.inr rfl)) (hd : (x == ("__debug__" : Str)) = false := by decide)
    (hcd : (x == ("__classdict__" : Str)) = false := by decide) : EvD X (.Name x pos) ρ S l := fun σ H s => by
  obtain ⟨v, e, a, kvs, ev, g, p⟩ := s.sl.get hr
  subst ev
  exact ⟨a, kvs, g, p, fun H' _ R r => w_pe (pe_var hN hv hd hcd) ⟨_, e, r⟩⟩
/-- o['k'], o a name -/
theorem evD_sub {x : Str} {p1 p2 : Pos} {j : Nat} {z : Str} (i : Nat) {l : List (Key × D)} {L : List (Key × D)} (hu : X.A.units + 64 < cLine) (hr : ρ[i]? = some (some (.dct L))) (hz : valP L (.inr z) = some (.dct l)) (hN : X.N[i]? = some x := by rfl) (hv : Vis X.env.scope x := by first | exact Or.inl rfl | exact Or.inr (Or.inl rfl) | exact Or.inr (Or.inr rfl)) (hd : (x == ("__debug__" : Str)) = false := by decide)
    (hcd : (x == ("__classdict__" : Str)) = false := by decide) (hs : PlainIx (.Constant (.str z) j p2) := by exact fun _ _ => rfl) : EvD X (.Subscript (.Name x p1) (.Constant (.str z) j p2) pos) ρ S l := fun σ H s => by
  obtain ⟨v, e, a, kvs, ev, g, p⟩ := s.sl.get hr
  subst ev
  obtain ⟨y, hy, a2, kvs2, ey, g2, p2'⟩ := (p.val (.inr z)).2 _ hz
  subst ey
  refine ⟨a2, kvs2, g2, p2', fun H' k R r => w_pe (pe_ix (ix_dk hu) (pe_var hN hv hd hcd) pe_str hs) ⟨_, e, a, _, rfl, ?_, r⟩⟩
  rw [← hy]
  exact .inl ⟨kvs, .inr z, k.d _ _ g, rfl, rfl⟩
/-- under a lock -/
theorem hid_upd_vis {H : Hp} {a : Addr} {o u : HO} (h : hid (adrs S) H a = some u) : hid (adrs S) (upd H a o) = upd (hid (adrs S) H) a o := hid_upd_out (hid_some h).1
theorem Sat.lock {K : PySem.W.Frag} {σ : St} {H : Hp} {a : Addr} {kvs : List (Key × V)} (s : Sat K ρ S σ H) (h : hid (adrs S) H a = some (.dK kvs)) (od : Obj) : Sat K ρ S σ (upd H a (.frz od (.dK kvs))) := by
  have k : Kq (hid (adrs S) H) (hid (adrs S) (upd H a (.frz od (.dK kvs)))) := by rw [hid_upd_vis h]; exact Kq.lock h
  exact ⟨RepS.kq k s.sl, s.ok.nd, fun p hp => (s.ok.ok p hp).kq k (upd_ne fun z => (hid_some h).1 (by rw [← z]; exact List.mem_map.mpr ⟨p, hp, rfl⟩))⟩
theorem SOk.unlock {K : PySem.W.Frag} {H' : Hp} {S' : Store} {a : Addr} {kvs : List (Key × V)} {od : Obj} (o : SOk K S' H') (h : hid (adrs S') H' a = some (.frz od (.dK kvs))) : SOk K S' (upd H' a (.dK kvs)) := by
  have k : Kq (hid (adrs S') H') (hid (adrs S') (upd H' a (.dK kvs))) := by rw [hid_upd_vis h]; exact Kq.unlock h
  exact ⟨o.nd, fun p hp => (o.ok p hp).kq k (upd_ne fun z => (hid_some h).1 (by rw [← z]; exact List.mem_map.mpr ⟨p, hp, rfl⟩))⟩
theorem around {H H' : Hp} {S' : Store} {a : Addr} {kvs : List (Key × V)} {od : Obj} (h : hid (adrs S) H a = some (.dK kvs)) (k : KpS S (upd H a (.frz od (.dK kvs))) S' H') :
    hid (adrs S') H' a = some (.frz od (.dK kvs)) ∧ KpS S H S' (upd H' a (.dK kvs)) := by
  have k' : Kp (upd (hid (adrs S) H) a (.frz od (.dK kvs))) (hid (adrs S') H') := by rw [← hid_upd_vis h]; exact k
  have h1 : hid (adrs S') H' a = some (.frz od (.dK kvs)) := k'.z _ _ _ upd_same
  refine ⟨h1, ?_⟩
  rw [KpS, hid_upd_vis h1]
  exact Kp.around h k'
theorem wS_lock {st : Stmt} {σ : St} {H : Hp} {F : Ends} {a : Addr} {kvs : List (Key × V)} (s : Sat X.K ρ S σ H) (m : Mts X.K S H E F) (hd : hid (adrs S) H a = some (.dK kvs))
    (h : ∀ od F', Sat X.K ρ S σ (upd H a (.frz od (.dK kvs))) → Mts X.K S (upd H a (.frz od (.dK kvs))) E F' → wS X st F' σ (upd H a (.frz od (.dK kvs)))) : wS X st F σ H := by
  refine w_ps (ps_lock ps_w) ⟨a, .dK kvs, hid_sub _ _ hd, True.intro, fun od => ?_⟩
  refine h od _ (s.lock hd od) ⟨fun σ' H' ρ' S' q k s' => ?_, fun v H' d S' q k o r => ?_, fun σ' H' ρ' S' q k s' => ?_, fun σ' H' ρ' S' q k s' => ?_⟩
  · obtain ⟨h1, k1⟩ := around hd k
    refine ⟨hid_sub _ _ h1, m.nx _ _ _ _ q k1 ⟨RepS.kq ?_ s'.sl, s'.ok.unlock h1⟩⟩
    rw [hid_upd_vis h1]; exact Kq.unlock h1
  · obtain ⟨h1, k1⟩ := around hd k
    refine ⟨hid_sub _ _ h1, m.rt _ _ _ _ q k1 (o.unlock h1) (Rep.kq ?_ _ _ r)⟩
    rw [hid_upd_vis h1]; exact Kq.unlock h1
  · obtain ⟨h1, k1⟩ := around hd k
    refine ⟨hid_sub _ _ h1, m.bk _ _ _ _ q k1 ⟨RepS.kq ?_ s'.sl, s'.ok.unlock h1⟩⟩
    rw [hid_upd_vis h1]; exact Kq.unlock h1
  · obtain ⟨h1, k1⟩ := around hd k
    refine ⟨hid_sub _ _ h1, m.ct _ _ _ _ q k1 ⟨RepS.kq ?_ s'.sl, s'.ok.unlock h1⟩⟩
    rw [hid_upd_vis h1]; exact Kq.unlock h1
theorem wE_lock {σ : St} {H : Hp} {R : VK} {Q : D → Store → Prop} {a : Addr} {kvs : List (Key × V)} (s : Sat X.K ρ S σ H) (m : ∀ v H' d S', Q d S' → KpS S H S' H' → SOk X.K S' H' → RepS1 X.K S' H' d v → R v H') (hd : hid (adrs S) H a = some (.dK kvs))
    (h : ∀ od (R' : VK), Sat X.K ρ S σ (upd H a (.frz od (.dK kvs))) → (∀ v H' d S', Q d S' → KpS S (upd H a (.frz od (.dK kvs))) S' H' → SOk X.K S' H' → RepS1 X.K S' H' d v → R' v H') → wE X e σ (upd H a (.frz od (.dK kvs))) R') : wE X e σ H R := by
  refine w_pe (pe_lock pe_w) ⟨a, .dK kvs, hid_sub _ _ hd, True.intro, fun od => ?_⟩
  refine h od _ (s.lock hd od) fun v H' d S' q k o r => ?_
  obtain ⟨h1, k1⟩ := around hd k
  refine ⟨hid_sub _ _ h1, m _ _ _ _ q k1 (o.unlock h1) (Rep.kq ?_ _ _ r)⟩
  rw [hid_upd_vis h1]; exact Kq.unlock h1
/-- keys, values, pairs of a locked dict -/
def keysD (l : List (Key × D)) : List D := l.map fun kv => kD kv.1
def valsD (l : List (Key × D)) : List D := l.map (·.2)
def itemsD (l : List (Key × D)) : List D := l.map fun kv => D.tupW [kD kv.1, kv.2]
theorem kD_kV {K : PySem.W.Frag} {G : Hp} : ∀ k : Key, Rep K G (kD k) (kV k)
  | .inl _ => rfl
  | .inr _ => rfl
theorem walk_keysD {K : PySem.W.Frag} {G0 : Hp} {a : Addr} {od : Obj} {kvs : List (Key × V)} {l : List (Key × D)} (h : G0 a = some (.frz od (.dK kvs))) (p : RepP K G0 l kvs) : IWalk K G0 (Itk a od kvs) (keysD l) := fun S2 H2 k2 o2 => by
  have h2 := hid_sub _ _ (k2.z _ _ _ h)
  refine ⟨⟨h2, by unfold keysD; rw [List.length_map, p.len]; exact Nat.le_refl _⟩, fun i d hi => ?_⟩
  unfold keysD at hi
  rw [List.getElem?_map] at hi
  obtain ⟨⟨k, z⟩, g1, g2⟩ := Option.map_eq_some_iff.mp hi
  obtain ⟨x, hx, _⟩ := p.get g1
  subst g2
  refine ⟨⟨h2, (List.getElem?_eq_some_iff.mp hx).1⟩, fun y H3 ⟨eH, k', v', hk, ey⟩ => ?_⟩
  subst eH; subst ey
  have e := hx.symm.trans hk
  cases e
  exact ⟨kD_kV k, Kp.refl _, o2⟩
theorem walk_valsD {K : PySem.W.Frag} {G0 : Hp} {a : Addr} {od : Obj} {kvs : List (Key × V)} {l : List (Key × D)} (h : G0 a = some (.frz od (.dK kvs))) (p : RepP K G0 l kvs) : IWalk K G0 (Itd a od kvs) (valsD l) := fun S2 H2 k2 o2 => by
  have h2 := hid_sub _ _ (k2.z _ _ _ h)
  refine ⟨⟨h2, by unfold valsD; rw [List.length_map, p.len]; exact Nat.le_refl _⟩, fun i d hi => ?_⟩
  unfold valsD at hi
  rw [List.getElem?_map] at hi
  obtain ⟨⟨k, z⟩, g1, g2⟩ := Option.map_eq_some_iff.mp hi
  obtain ⟨x, hx, rx⟩ := p.get g1
  subst g2
  refine ⟨⟨h2, (List.getElem?_eq_some_iff.mp hx).1⟩, fun y H3 ⟨eH, k', hk⟩ => ?_⟩
  subst eH
  have e := hx.symm.trans hk
  cases e
  exact ⟨rx.kp k2, Kp.refl _, o2⟩
theorem walk_itemsD {K : PySem.W.Frag} {G0 : Hp} {a : Addr} {od : Obj} {kvs : List (Key × V)} {l : List (Key × D)} (h : G0 a = some (.frz od (.dK kvs))) (p : RepP K G0 l kvs) : IWalk K G0 (Iti a od kvs) (itemsD l) := by
  refine walk_pair (fun S2 H2 k2 => ⟨hid_sub _ _ (k2.z _ _ _ h), by unfold itemsD; rw [List.length_map, p.len]; exact Nat.le_refl _⟩) fun i d hi => ?_
  unfold itemsD at hi
  rw [List.getElem?_map] at hi
  obtain ⟨⟨k, z⟩, g1, g2⟩ := Option.map_eq_some_iff.mp hi
  obtain ⟨x, hx, rx⟩ := p.get g1
  refine ⟨kD k, z, g2.symm, fun S2 H2 k2 => ⟨⟨hid_sub _ _ (k2.z _ _ _ h), (List.getElem?_eq_some_iff.mp hx).1⟩, fun v H' ⟨T, k', v', hk, ev, hT, eH⟩ => ?_⟩⟩
  have e := hx.symm.trans hk
  cases e
  exact ⟨T, kV k, x, ev, hT, eH, kD_kV k, rx⟩
/-- how a dict is walked: by which of its lists -/
def DWalk (X : Cx) (tg iter e : Expr) (ds : List (Key × D) → List D) : Prop := ∀ {te : TE} {l : List (Key × D)} {kvs : List (Key × V)} {σ : St} {H : Hp} {R : It → Hp → Prop} {a : Addr} {od : Obj} {S : Store}, PE X e te → te σ H (fun v H' => v = .ref a ∧ H' = H) → (∀ Q Q' : VK, te σ H Q → (∀ v H', Q v H' → Q' v H') → te σ H Q') →
  hid (adrs S) H a = some (.frz od (.dK kvs)) → RepP X.K (hid (adrs S) H) l kvs → (∀ J, IWalk X.K (hid (adrs S) H) J (ds l) → R J H) → wI X tg iter σ H R
theorem wE_mono {σ : St} {H : Hp} : ∀ Q Q' : VK, wE X e σ H Q → (∀ v H', Q v H' → Q' v H') → wE X e σ H Q' := fun Q Q' h m pins s I => thn (h pins s I) fun v s1 ⟨x, H1, I1, r, q⟩ => ⟨x, H1, I1, r, m _ _ q⟩
theorem dw_keys : DWalk X tg e e keysD := fun {te l kvs σ H R a od S} p h mo hd rp k => by
  refine w_pi (pi_keys p) (mo _ _ h fun v H' ⟨e1, e2⟩ => ?_)
  subst e1; subst e2
  exact ⟨a, od, rfl, .inl ⟨kvs, hid_sub _ _ hd, k _ (walk_keysD hd rp)⟩⟩
theorem dw_items {elts : List Expr} {kk : Nat} {tpos apos cpos : Pos} (hbase : attributeBase e "items" X.env (eval e X.env) = eval e X.env := by rfl) (hline : (apos.endLine == cpos.line) = true := by rfl) :
    DWalk X (.Tuple elts kk tpos) (.Call (.Attribute e "items" apos) [] [] cpos) e itemsD := fun {te l kvs σ H R a od S} p h mo hd rp k => by
  refine w_pi (pi_items p hbase hline) (mo _ _ h fun v H' ⟨e1, e2⟩ => ?_)
  subst e1; subst e2
  exact ⟨a, od, kvs, rfl, hid_sub _ _ hd, k _ (walk_itemsD hd rp)⟩
theorem dw_vals {apos cpos : Pos} (hbase : attributeBase e "values" X.env (eval e X.env) = eval e X.env := by rfl) (hline : (apos.endLine == cpos.line) = true := by rfl) :
    DWalk X tg (.Call (.Attribute e "values" apos) [] [] cpos) e valsD := fun {te l kvs σ H R a od S} p h mo hd rp k => by
  refine w_pi (pi_values p hbase hline) (mo _ _ h fun v H' ⟨e1, e2⟩ => ?_)
  subst e1; subst e2
  exact ⟨a, od, kvs, rfl, hid_sub _ _ hd, k _ (walk_valsD hd rp)⟩
theorem aS_forD {iter : Expr} (T : Tgt) {l : List (Key × D)} {dl : List (Key × D) → List D} (dw : DWalk X tg iter e dl) (hv : EvD X e ρ S l) (Pv : Nat → Sl → Store → Prop) (p0 : Pv 0 ρ S)
    (hs' : ∀ i d ρ' S', (dl l)[i]? = some d → Pv i ρ' S' → T.fits d ρ' fun ρ'' => aSs X body ρ'' S' { E with nx := Pv (i + 1), ct := Pv (i + 1), bk := E.nx }) (hd : ∀ ρ' S', Pv (dl l).length ρ' S' → E.nx ρ' S')
    (ht : TgOk X tg T) (hp : PassesOwn (model X.prog X.w) X.A X.env X.xe) (hc : X.calm = true) (hs : ∀ x, foldedSetIterable iter X.env x = pure x := by intro _; rfl) : aS X (.For tg iter body [] pos) ρ S E := fun σ H F s m => by
  obtain ⟨a, kvs, g, p, ev⟩ := hv σ H s
  have main : ∀ (H1 : Hp) (F1 : Ends) (od : Obj), Kq (hid (adrs S) H) (hid (adrs S) H1) → hid (adrs S) H1 a = some (.frz od (.dK kvs)) → Sat X.K ρ S σ H1 → Mts X.K S H1 E F1 → wS X (.For tg iter body [] pos) F1 σ H1 := fun H1 F1 od k1 h1 s1 m1 => by
    refine w_ps (ps_for hp hc pi_w ht pss_w hs) ?_
    refine dw (te := wE X e) pe_w (ev H1 (k1.trans kp_hid.toKq) _ ⟨rfl, rfl⟩) wE_mono h1 (RepP.kq k1 _ _ p) fun J w => ?_
    exact for_core T w Pv p0 hs' hd s1 m1
  rcases g with g | ⟨od, g⟩
  · refine wS_lock s m g fun od F' s' m' => main _ _ od ?_ ?_ s' m'
    · rw [hid_upd_vis g]; exact Kq.lock g
    · rw [hid_upd_vis g]; exact upd_same
  · exact main H F od (Kq.refl _) g s m
end
end DL

namespace DL
open PySem L2

/-! ### comprehensions -/
def TEs (K : PySem.W.Frag) (te : TE) (ρ : Sl) (S : Store) (Q : D → Store → Prop) : Prop := ∀ σ H (R : VK), Sat K ρ S σ H → (∀ v H' d S', Q d S' → KpS S H S' H' → SOk K S' H' → RepS1 K S' H' d v → R v H') → te σ H R
def TTs (K : PySem.W.Frag) (tt : TT) (ρ : Sl) (S : Store) (Q : Bool → Store → Prop) : Prop := ∀ σ H (R : Bool → Hp → Prop), Sat K ρ S σ H → (∀ b H' S', Q b S' → KpS S H S' H' → SOk K S' H' → R b H') → tt σ H R
def Tgt.ids : Tgt → List Nat
  | .nm i => [i]
  | .tp is => is
theorem wipe_set {v : Option V} : ∀ {vs : List Nat} {i : Nat} {σ : St}, i ∈ vs → wipe (σ.set i v) vs = wipe σ vs
  | [], i, σ, h => by simp at h
  | j :: vs, i, σ, h => by
    show (wipe (σ.set i v) vs).set j none = (wipe σ vs).set j none
    by_cases hm : i ∈ vs
    · rw [wipe_set hm]
    · have e : i = j := (List.mem_cons.mp h).resolve_right hm
      subst e
      have q : ∀ {ws : List Nat} {τ : St}, i ∉ ws → wipe (τ.set i v) ws = (wipe τ ws).set i v := by
        intro ws
        induction ws with
        | nil => intro τ _; rfl
        | cons w ws ih =>
          intro τ hn
          show (wipe (τ.set i v) ws).set w none = ((wipe τ ws).set w none).set i v
          rw [ih fun z => hn (List.mem_cons_of_mem _ z), List.set_comm]
          exact fun z => hn (by rw [z]; exact List.mem_cons_self)
      rw [q hm, List.set_set]
theorem wipe_idem {σ : St} : ∀ vs : List Nat, wipe (wipe σ vs) vs = wipe σ vs := by
  have gen : ∀ (ws vs : List Nat) (τ : St), (∀ w ∈ ws, w ∈ vs) → wipe (wipe τ ws) vs = wipe τ vs := by
    intro ws
    induction ws with
    | nil => intro vs τ _; rfl
    | cons w ws ih =>
      intro vs τ h
      show wipe ((wipe τ ws).set w none) vs = wipe τ vs
      rw [wipe_set (h w List.mem_cons_self)]
      exact ih vs τ fun x hx => h x (List.mem_cons_of_mem _ hx)
  exact fun vs => gen vs vs σ fun _ h => h
theorem gNames_wipe {vs0 : List Nat} {Q : St → Hp → Prop} {G : Hp} {H : Hp} : ∀ (is : List Nat) {ρ : Sl} {σ : St} {ds : List D} {vs : List V} {K : PySem.W.Frag}, (∀ i ∈ is, i ∈ vs0) → RepS K G ρ σ → RepL K G ds vs → ds.length = is.length → (∀ σ', wipe σ' vs0 = wipe σ vs0 → RepS K G (setMany ρ is ds) σ' → Q σ' H) → gNames is vs σ H Q
  | [], ρ, σ, ds, vs, K, hm, h, r, hl, k => by
    have e : ds = [] := List.length_eq_zero_iff.mp hl
    subst e
    have ev : vs = [] := r
    subst ev
    exact ⟨rfl, k _ rfl h⟩
  | i :: is, ρ, σ, [], vs, K, hm, h, r, hl, k => by cases hl
  | i :: is, ρ, σ, d :: ds, vs, K, hm, h, ⟨v, vr, e, r1, r2⟩, hl, k => by
    subst e
    exact ⟨v, vr, rfl, gNames_wipe is (fun j hj => hm j (List.mem_cons_of_mem _ hj)) (RepS.set r1 i h) r2 (Nat.succ.inj hl) fun σ' hw h' => k σ' (by rw [hw, wipe_set (hm i List.mem_cons_self)]) h'⟩
theorem tgt_wipe {K : PySem.W.Frag} {vs0 : List Nat} {ρ : Sl} {Q : St → Hp → Prop} {G H : Hp} {σ : St} {d : D} {v : V} {P : Sl → Prop} (hs : Kp G H) : ∀ {T : Tgt}, (∀ i ∈ T.ids, i ∈ vs0) → RepS K G ρ σ → Rep K G d v → T.fits d ρ P → (∀ σ' ρ', wipe σ' vs0 = wipe σ vs0 → P ρ' → RepS K G ρ' σ' → Q σ' H) → T.g K v σ H Q
  | .nm i, hm, h, r, f, k => k _ _ (wipe_set (hm i List.mem_cons_self)) f (RepS.set r i h)
  | .tp is, hm, h, r, ⟨ds, e, hl, f⟩, k => by
    obtain ⟨a, xs, e1, g, p⟩ : ∃ a xs, v = .ref a ∧ SqT K G a xs ∧ RepL K G ds xs := by
      rcases e with e | e
      · subst e; exact tupT r
      · subst e; exact r
    refine ⟨a, xs, e1, sqT_kp hs g, by rw [p.len]; exact hl, ?_⟩
    exact gNames_wipe is hm h p hl fun σ' hw h' => k σ' _ hw f h'
theorem lc_main {K : PySem.W.Frag} {ρ : Sl} {S1 S0 : Store} {σ : St} {H1 H0 : Hp} {J : It} {ds : List D} {tt : TT} {te : TE} {vs : List Nat} {Q : D → Store → Prop} {R : VK} (T : Tgt) (hT : ∀ i ∈ T.ids, i ∈ vs) (w : IWalk K (hid (adrs S1) H1) J ds) (Pv : Nat → List D → Store → Prop) (p0 : Pv 0 [] S1)
    (hs : ∀ A i d acc S', ds[i]? = some d → Pv i acc S' → T.fits d (wipeD ρ vs) fun ρ' => TTs K tt ρ' ((A, .lst acc) :: S') fun b S2 => ∃ S3, S2 = (A, .lst acc) :: S3 ∧
      if b = true then TEs K te ρ' ((A, .lst acc) :: S3) (fun z S4 => ∃ S5, S4 = (A, .lst acc) :: S5 ∧ acc.length < 100000 ∧ Pv (i + 1) (acc ++ [z]) S5) else Pv (i + 1) acc S3)
    (hd : ∀ acc S', Pv ds.length acc S' → NewL acc S' Q) (s1 : Sat K ρ S1 σ H1) (k01 : KpS S0 H0 S1 H1) (k : ∀ v H' d S', Q d S' → KpS S0 H0 S' H' → SOk K S' H' → RepS1 K S' H' d v → R v H') {A : Addr} (hA : H1 A = none) :
    ∃ W : Nat → Nat → Hp → Prop, (∃ m, W 0 m (upd H1 A (.lst []))) ∧ ∀ i m H, W i m H →
      (J.stop i H ∧ R (.ref A) H) ∨ (J.go i H ∧ ∃ Nx : Hp → Prop, (∀ H', Nx H' → ∃ m', m' < m ∧ W (i + 1) m' H') ∧ ∀ x H', J.yld i H x H' → T.g K x (wipe σ vs) H' fun σ2 H2 => wipe σ2 vs = wipe σ vs ∧ tt σ2 H2 fun b H3 =>
        if b = true then te σ2 H3 fun y H4 => ∃ acc, H4 A = some (.lst acc) ∧ acc.length < sizeLine ∧ Nx (upd H4 A (.lst (acc ++ [y]))) else Nx H3) := by
  obtain ⟨o1, k1⟩ := s1.ok.birth (o := .lst []) (d := .lst []) hA ⟨[], upd_same, rfl⟩
  refine ⟨fun i m H => m = ds.length - i ∧ i ≤ ds.length ∧ ∃ acc S', Pv i acc S' ∧ KpS S1 H1 ((A, .lst acc) :: S') H ∧ SOk K ((A, .lst acc) :: S') H, ⟨_, rfl, Nat.zero_le _, [], S1, p0, k1, o1⟩, ?_⟩
  rintro i n H ⟨rfl, hi, acc, S', pv, k2, o2⟩
  obtain ⟨w1, w2⟩ := w _ H k2 o2
  by_cases hlt : i < ds.length
  · obtain ⟨g1, g2⟩ := w2 i ds[i] (List.getElem?_eq_getElem hlt)
    refine .inr ⟨g1, fun H' => ∃ acc2 S2, Pv (i + 1) acc2 S2 ∧ KpS S1 H1 ((A, .lst acc2) :: S2) H' ∧ SOk K ((A, .lst acc2) :: S2) H', fun H' q => ⟨ds.length - (i + 1), by omega, rfl, hlt, q⟩, fun x H' y => ?_⟩
    obtain ⟨r, k3, o3⟩ := g2 x H' y
    have k13 := k2.trans k3
    have sw : RepS K (hid (adrs ((A, .lst acc) :: S')) H') (wipeD ρ vs) (wipe σ vs) := RepS.wipe (s1.sl.kp k13) vs
    refine tgt_wipe kp_hid hT sw r (hs A i _ acc S' (List.getElem?_eq_getElem hlt) pv) fun σ2 ρ2 hw q g => ⟨by rw [hw, wipe_idem], ?_⟩
    refine q σ2 H' _ ⟨g, o3⟩ fun b H3 S3 ⟨S4, e3, q3⟩ k4 o4 => ?_
    subst e3
    have k14 := k13.trans k4
    cases b with
    | false => exact ⟨acc, S4, q3, k14, o4⟩
    | true =>
      refine (show TEs K te ρ2 _ _ from q3) σ2 H3 _ ⟨g.kp k4, o4⟩ fun y H5 z S5 ⟨S6, e5, hl, p5⟩ k5 o5 r5 => ?_
      subst e5
      have k15 := k14.trans k5
      have hi0 : ((A, D.lst acc) :: S6)[0]? = some (A, D.lst acc) := rfl
      obtain ⟨xs, hx, rx⟩ := o5.ok _ (List.mem_of_getElem? hi0)
      obtain ⟨o6, k6⟩ := o5.write (o := .lst (xs ++ [y])) (d' := .lst (acc ++ [z])) hi0 ⟨_, upd_same, rx.app (RepL.one r5)⟩
      exact ⟨xs, hx, by rw [rx.len]; exact sz_lt hl, acc ++ [z], S6, p5, k15.trans k6, o6⟩
  · have e : i = ds.length := by omega
    subst e
    refine .inl ⟨w1, ?_⟩
    have k02 := k01.trans k2
    rcases hd acc S' pv with q | q
    · have hi0 : ((A, D.lst acc) :: S')[0]? = some (A, D.lst acc) := rfl
      exact k _ _ _ _ q (k02.trans (hid_erase (i := 0))) (o2.freeze (i := 0)) (o2.frozen hi0 rfl)
    · exact k _ _ _ _ (q A) k02 o2 rfl
section
variable {X : Cx} {ρ : Sl} {S : Store} {Q : D → Store → Prop} {pos : Pos} {elt tg iter c e kx vx : Expr} {scope : Scope} {own : List (Str × Nat)}
/-- in a comprehension's block, whatever block it is -/
def aEb (X : Cx) (scope : Scope) (e : Expr) (ρ : Sl) (S : Store) (Q : D → Store → Prop) : Prop := ∀ (s : Shared) (H : Hp) (C : Addr) (cl : List (Str × Addr)) (fp : List Addr), aE (X.blk s H scope (compEnvC scope cl C X.env) fp) e ρ S Q
def aTb (X : Cx) (scope : Scope) (e : Expr) (ρ : Sl) (S : Store) (Q : Bool → Store → Prop) : Prop := ∀ (s : Shared) (H : Hp) (C : Addr) (cl : List (Str × Addr)) (fp : List Addr), aT (X.blk s H scope (compEnvC scope cl C X.env) fp) e ρ S Q
def wEb (X : Cx) (scope : Scope) (e : Expr) : TE := fun σ H Q => ∀ (s : Shared) (H0 : Hp) (C : Addr) (cl : List (Str × Addr)) (fp : List Addr), wE (X.blk s H0 scope (compEnvC scope cl C X.env) fp) e σ H Q
def wTb (X : Cx) (scope : Scope) (e : Expr) : TT := fun σ H Q => ∀ (s : Shared) (H0 : Hp) (C : Addr) (cl : List (Str × Addr)) (fp : List Addr), wT (X.blk s H0 scope (compEnvC scope cl C X.env) fp) e σ H Q
theorem aEb.tes (h : aEb X scope e ρ S Q) : TEs X.K (wEb X scope e) ρ S Q := fun σ H R s k s0 H0 C cl fp => h s0 H0 C cl fp σ H R s k
theorem aTb.tts {P : Bool → Store → Prop} (h : aTb X scope e ρ S P) : TTs X.K (wTb X scope e) ρ S P := fun σ H R s k s0 H0 C cl fp => h s0 H0 C cl fp σ H R s k
theorem tts_yes {K : PySem.W.Frag} {P : Bool → Store → Prop} (h : P true S) : TTs K tYes ρ S P := fun σ H R s k => k _ H S h (Kp.refl _) s.ok
def TgB (X : Cx) (scope : Scope) (tg : Expr) (T : Tgt) : Prop := ∀ (s : Shared) (H : Hp) (C : Addr) (cl : List (Str × Addr)) (fp : List Addr), PG (X.blk s H scope (compEnvC scope cl C X.env) fp) tg (T.g X.K)
/-- what a comprehension's turns do: without a test | with one -/
def LcTurns (X : Cx) (scope : Scope) (elt : Expr) (T : Tgt) (vs : List Nat) (ρ : Sl) (Pv : Nat → List D → Store → Prop) (ds : List D) : Prop :=
  ∀ A i d acc S', ds[i]? = some d → Pv i acc S' → T.fits d (wipeD ρ vs) fun ρ' => aEb X scope elt ρ' ((A, .lst acc) :: S') fun z S4 => ∃ S5, S4 = (A, .lst acc) :: S5 ∧ acc.length < 100000 ∧ Pv (i + 1) (acc ++ [z]) S5
def LcTurnsIf (X : Cx) (scope : Scope) (elt c : Expr) (T : Tgt) (vs : List Nat) (ρ : Sl) (Pv : Nat → List D → Store → Prop) (ds : List D) : Prop :=
  ∀ A i d acc S', ds[i]? = some d → Pv i acc S' → T.fits d (wipeD ρ vs) fun ρ' => aTb X scope c ρ' ((A, .lst acc) :: S') fun b S2 => ∃ S3, S2 = (A, .lst acc) :: S3 ∧
    if b = true then aEb X scope elt ρ' ((A, .lst acc) :: S3) (fun z S4 => ∃ S5, S4 = (A, .lst acc) :: S5 ∧ acc.length < 100000 ∧ Pv (i + 1) (acc ++ [z]) S5) else Pv (i + 1) acc S3
theorem Tgt.fits.imp {T : Tgt} {d : D} {ρ : Sl} {P P' : Sl → Prop} (h : T.fits d ρ P) (m : ∀ r, P r → P' r) : T.fits d ρ P' := by
  cases T with
  | nm i => exact m _ h
  | tp is => obtain ⟨ds, e, hl, q⟩ := h; exact ⟨ds, e, hl, m _ q⟩
/-- the comprehension's reading from its source's -/
theorem lc_all {tt : TT} {te : TE} {wi : TI} {vs : List Nat} {σ : St} {H : Hp} {R : VK} {K : PySem.W.Frag} (T : Tgt) (hT : ∀ i ∈ T.ids, i ∈ vs) (s : Sat K ρ S σ H) (k : ∀ v H' d S', Q d S' → KpS S H S' H' → SOk K S' H' → RepS1 K S' H' d v → R v H')
    (hi : ∀ R' : It → Hp → Prop, (∀ J H1 S1 ds, (∃ Pv : Nat → List D → Store → Prop, Pv 0 [] S1 ∧ (∀ A i d acc S', ds[i]? = some d → Pv i acc S' → T.fits d (wipeD ρ vs) fun ρ' => TTs K tt ρ' ((A, .lst acc) :: S') fun b S2 => ∃ S3, S2 = (A, .lst acc) :: S3 ∧
      if b = true then TEs K te ρ' ((A, .lst acc) :: S3) (fun z S4 => ∃ S5, S4 = (A, .lst acc) :: S5 ∧ acc.length < 100000 ∧ Pv (i + 1) (acc ++ [z]) S5) else Pv (i + 1) acc S3) ∧ ∀ acc S', Pv ds.length acc S' → NewL acc S' Q) →
      KpS S H S1 H1 → SOk K S1 H1 → IWalk K (hid (adrs S1) H1) J ds → R' J H1) → wi σ H R') : tLc wi (T.g K) tt te vs σ H R := by
  refine hi _ fun J H1 S1 ds ⟨Pv, p0, hs, hd⟩ k1 o1 w A hA => ?_
  exact lc_main T hT w Pv p0 hs hd (s.next k1 o1) k1 k hA
theorem aE_lc (T : Tgt) (own : List (Str × Nat)) (h : aItr X tg iter ρ S fun ds S1 => ∃ Pv : Nat → List D → Store → Prop, Pv 0 [] S1 ∧ LcTurns X scope elt T (own.map (·.2)) ρ Pv ds ∧ ∀ acc S', Pv ds.length acc S' → NewL acc S' Q) (hT : ∀ i ∈ T.ids, i ∈ own.map (·.2))
    (hc : X.calm = true) (hN : X.N.Nodup) (ok : BlkOk X.N X.env.scope scope own) (ht : TgB X scope tg T) (hs : ∀ x, foldedSetIterable iter X.env x = pure x := by intro _; rfl) : aE X (.ListComp elt [⟨tg, iter, [], 0⟩] scope pos) ρ S Q := fun σ H R s k => by
  refine w_pe (pe_lc (tt := tYes) (te := wEb X scope elt) hc hN pi_w ok ht (fun _ _ _ _ _ => pts_nil) (fun s0 H0 C cl fp => ⟨fun pins s1 σ1 H1 Q1 I1 h1 => h1 s0 H0 C cl fp pins s1 I1⟩) hs) ?_
  refine lc_all T hT s k fun R' hR => ?_
  refine h σ H R' s fun J H1 S1 ds ⟨Pv, p0, hs', hd⟩ k1 o1 w => hR J H1 S1 ds ⟨Pv, p0, fun A i d acc S' hi pv => (hs' A i d acc S' hi pv).imp fun ρ' q => tts_yes ⟨S', rfl, ?_⟩, hd⟩ k1 o1 w
  rw [if_pos rfl]
  exact q.tes
theorem aE_lcIf (T : Tgt) (own : List (Str × Nat)) (h : aItr X tg iter ρ S fun ds S1 => ∃ Pv : Nat → List D → Store → Prop, Pv 0 [] S1 ∧ LcTurnsIf X scope elt c T (own.map (·.2)) ρ Pv ds ∧ ∀ acc S', Pv ds.length acc S' → NewL acc S' Q) (hT : ∀ i ∈ T.ids, i ∈ own.map (·.2))
    (hc : X.calm = true) (hN : X.N.Nodup) (ok : BlkOk X.N X.env.scope scope own) (ht : TgB X scope tg T) (hs : ∀ x, foldedSetIterable iter X.env x = pure x := by intro _; rfl) : aE X (.ListComp elt [⟨tg, iter, [c], 0⟩] scope pos) ρ S Q := fun σ H R s k => by
  refine w_pe (pe_lc (tt := wTb X scope c) (te := wEb X scope elt) hc hN pi_w ok ht (fun s0 H0 C cl fp => pts_one ⟨fun pins s1 σ1 H1 Q1 I1 h1 => h1 s0 H0 C cl fp pins s1 I1⟩) (fun s0 H0 C cl fp => ⟨fun pins s1 σ1 H1 Q1 I1 h1 => h1 s0 H0 C cl fp pins s1 I1⟩) hs) ?_
  refine lc_all T hT s k fun R' hR => ?_
  refine h σ H R' s fun J H1 S1 ds ⟨Pv, p0, hs', hd⟩ k1 o1 w => hR J H1 S1 ds ⟨Pv, p0, fun A i d acc S' hi pv => (hs' A i d acc S' hi pv).imp fun ρ' q => ?_, hd⟩ k1 o1 w
  intro σ1 H1 R1 s1 k1
  refine q.tts σ1 H1 R1 s1 fun b H' S2 ⟨S3, e, q2⟩ k2 o2 => k1 b H' S2 ⟨S3, e, ?_⟩ k2 o2
  cases b with
  | true => rw [if_pos rfl] at q2 ⊢; exact q2.tes
  | false => exact q2
/-- over a dict -/
theorem aE_lcD {de : Expr} {dl : List (Key × D) → List D} {l : List (Key × D)} (T : Tgt) (own : List (Str × Nat)) (dw : DWalk X tg iter de dl) (hv : EvD X de ρ S l) (Pv : Nat → List D → Store → Prop) (p0 : Pv 0 [] S) (hs' : LcTurns X scope elt T (own.map (·.2)) ρ Pv (dl l)) (hd : ∀ acc S', Pv (dl l).length acc S' → NewL acc S' Q) (hT : ∀ i ∈ T.ids, i ∈ own.map (·.2))
    (hc : X.calm = true) (hN : X.N.Nodup) (ok : BlkOk X.N X.env.scope scope own) (ht : TgB X scope tg T) (hs : ∀ x, foldedSetIterable iter X.env x = pure x := by intro _; rfl) : aE X (.ListComp elt [⟨tg, iter, [], 0⟩] scope pos) ρ S Q := fun σ H R s k => by
  obtain ⟨a, kvs, g, p, ev⟩ := hv σ H s
  have main : ∀ (H1 : Hp) (R1 : VK) (od : Obj), Kq (hid (adrs S) H) (hid (adrs S) H1) → hid (adrs S) H1 a = some (.frz od (.dK kvs)) → Sat X.K ρ S σ H1 → (∀ v H' d S', Q d S' → KpS S H1 S' H' → SOk X.K S' H' → RepS1 X.K S' H' d v → R1 v H') → wE X (.ListComp elt [⟨tg, iter, [], 0⟩] scope pos) σ H1 R1 := fun H1 R1 od k1 h1 s1 m1 => by
    refine w_pe (pe_lc (tt := tYes) (te := wEb X scope elt) hc hN pi_w ok ht (fun _ _ _ _ _ => pts_nil) (fun s0 H0 C cl fp => ⟨fun pins s1 σ1 H1 Q1 I1 h1 => h1 s0 H0 C cl fp pins s1 I1⟩) hs) ?_
    refine lc_all T hT s1 m1 fun R' hR => ?_
    refine dw (te := wE X de) pe_w (ev H1 (k1.trans kp_hid.toKq) _ ⟨rfl, rfl⟩) wE_mono h1 (RepP.kq k1 _ _ p) fun J w => ?_
    refine hR J H1 S (dl l) ⟨Pv, p0, fun A i d acc S' hi pv => (hs' A i d acc S' hi pv).imp fun ρ' q => tts_yes ⟨S', rfl, ?_⟩, hd⟩ (Kp.refl _) s1.ok w
    rw [if_pos rfl]
    exact q.tes
  rcases g with g | ⟨od, g⟩
  · refine wE_lock s k g fun od R' s' m' => main _ _ od ?_ ?_ s' m'
    · rw [hid_upd_vis g]; exact Kq.lock g
    · rw [hid_upd_vis g]; exact upd_same
  · exact main H R od (Kq.refl _) g s k
theorem aE_lcDIf {de : Expr} {dl : List (Key × D) → List D} {l : List (Key × D)} (T : Tgt) (own : List (Str × Nat)) (dw : DWalk X tg iter de dl) (hv : EvD X de ρ S l) (Pv : Nat → List D → Store → Prop) (p0 : Pv 0 [] S) (hs' : LcTurnsIf X scope elt c T (own.map (·.2)) ρ Pv (dl l)) (hd : ∀ acc S', Pv (dl l).length acc S' → NewL acc S' Q) (hT : ∀ i ∈ T.ids, i ∈ own.map (·.2))
    (hc : X.calm = true) (hN : X.N.Nodup) (ok : BlkOk X.N X.env.scope scope own) (ht : TgB X scope tg T) (hs : ∀ x, foldedSetIterable iter X.env x = pure x := by intro _; rfl) : aE X (.ListComp elt [⟨tg, iter, [c], 0⟩] scope pos) ρ S Q := fun σ H R s k => by
  obtain ⟨a, kvs, g, p, ev⟩ := hv σ H s
  have main : ∀ (H1 : Hp) (R1 : VK) (od : Obj), Kq (hid (adrs S) H) (hid (adrs S) H1) → hid (adrs S) H1 a = some (.frz od (.dK kvs)) → Sat X.K ρ S σ H1 → (∀ v H' d S', Q d S' → KpS S H1 S' H' → SOk X.K S' H' → RepS1 X.K S' H' d v → R1 v H') → wE X (.ListComp elt [⟨tg, iter, [c], 0⟩] scope pos) σ H1 R1 := fun H1 R1 od k1 h1 s1 m1 => by
    refine w_pe (pe_lc (tt := wTb X scope c) (te := wEb X scope elt) hc hN pi_w ok ht (fun s0 H0 C cl fp => pts_one ⟨fun pins s1 σ1 H1 Q1 I1 h1 => h1 s0 H0 C cl fp pins s1 I1⟩) (fun s0 H0 C cl fp => ⟨fun pins s1 σ1 H1 Q1 I1 h1 => h1 s0 H0 C cl fp pins s1 I1⟩) hs) ?_
    refine lc_all T hT s1 m1 fun R' hR => ?_
    refine dw (te := wE X de) pe_w (ev H1 (k1.trans kp_hid.toKq) _ ⟨rfl, rfl⟩) wE_mono h1 (RepP.kq k1 _ _ p) fun J w => ?_
    refine hR J H1 S (dl l) ⟨Pv, p0, fun A i d acc S' hi pv => (hs' A i d acc S' hi pv).imp fun ρ' q => ?_, hd⟩ (Kp.refl _) s1.ok w
    intro σ1 H1 R1 s1 k1
    refine q.tts σ1 H1 R1 s1 fun b H' S2 ⟨S3, e, q2⟩ k2 o2 => k1 b H' S2 ⟨S3, e, ?_⟩ k2 o2
    cases b with
    | true => rw [if_pos rfl] at q2 ⊢; exact q2.tes
    | false => exact q2
  rcases g with g | ⟨od, g⟩
  · refine wE_lock s k g fun od R' s' m' => main _ _ od ?_ ?_ s' m'
    · rw [hid_upd_vis g]; exact Kq.lock g
    · rw [hid_upd_vis g]; exact upd_same
  · exact main H R od (Kq.refl _) g s k
end
end DL

namespace L2
open PySem PySem.Spec PyProof.Rows
section
variable {X : Cx}
/-- name = {..} on one line, the name a local -/
theorem ps_setDc {i : Nat} {y : Str} {py : Pos} {kx vx tg iter : Expr} {ifs : List Expr} {scope : Scope} {own : List (Str × Nat)} {pos spos : Pos} {wi : TI} {g : TG} {tt : TT} {tk tv : TE} (hc : X.calm = true) (hN : X.N.Nodup) (hy : X.N[i]? = some y) (hyl : X.env.scope.names.lookup y = some .local)
    (hsw : swapsWith (.DictComp kx vx [⟨tg, iter, ifs, 0⟩] scope pos) (some (.Name y py)) spos.line X.env = pure true) (hi : PI X tg iter wi) (ok : BlkOk X.N X.env.scope scope own)
    (hg : ∀ (s : Shared) (H : Hp) (C : Addr) (cl : List (Str × Addr)) (fp : List Addr), PG (X.blk s H scope (compEnvC scope cl C X.env) fp) tg g) (ht : ∀ (s : Shared) (H : Hp) (C : Addr) (cl : List (Str × Addr)) (fp : List Addr), PTs (X.blk s H scope (compEnvC scope cl C X.env) fp) ifs tt)
    (hk : ∀ (s : Shared) (H : Hp) (C : Addr) (cl : List (Str × Addr)) (fp : List Addr), PE (X.blk s H scope (compEnvC scope cl C X.env) fp) kx tk)
    (he : ∀ (s : Shared) (H : Hp) (C : Addr) (cl : List (Str × Addr)) (fp : List Addr), PE (X.blk s H scope (compEnvC scope cl C X.env) fp) vx tv) (hs : ∀ x, foldedSetIterable iter X.env x = pure x := by intro _; rfl) :
    PS X (.Assign [.Name y py] (.DictComp kx vx [⟨tg, iter, ifs, 0⟩] scope pos) spos) (tAsg (tDc wi g tt tk tv (own.map (·.2))) (gName i)) := by
  refine ⟨fun pins s σ H D I h => ?_⟩
  rw [exec_Assign_Name_used _ _ _ _ hsw]
  refine wpAny_bind (wpAny_standAt (wpAny_bind ?_))
  show wpAny _ X.A (do let _ ← comprehension (.DictComp kx vx [⟨tg, iter, ifs, 0⟩] scope pos) scope X.env (firstIterPos [⟨tg, iter, ifs, 0⟩] pos) newDict false (eval iter X.env) (some (assign (.Name y py) X.env))) _ _ s
  have h : tDc wi g tt tk tv (own.map (·.2)) σ H (fun x H1 => gName i x σ H1 D.nx) := h
  refine wpAny_bind (thn (dc_core (Qf := fun _ s' => SP X pins D .next s') hc hN I hi ok hg ht hk he hs h fun L C s' m H' I' q hn f => ?_) fun _ s' hq => wpAny_pure (wpAny_pure hq))
  show wpAny _ _ (assign (.Name y py) X.env (.ref L)) _ _ _
  refine wpAny_assign_Name (store_ok2 (v := V.ref L) I' hN hy (.inl hyl) rfl (fun s2 I2 ⟨a, sb, ha⟩ => ?_) (.inr hyl))
  obtain ⟨f0, f1, f2, f3, f4, f5⟩ := f
  have haC : C ≠ a := by
    rcases ha with z | z
    · rw [z]; exact f1
    · exact fun e => f4 y a z e.symm
  refine ⟨m, hn.sameBut sb haC, fun h3 sb3 => ?_⟩
  exact ⟨_, H', I2.turned (t' := s2.toks) (fun b o hb e => (sb3.2 b hb).trans e) f0 f1 f3 f4 f5, q⟩
theorem sw_trueD {kx vx : Expr} {gs : List Comprehension} {scope : Scope} {pos py : Pos} {y : Str} {l : Nat} {env : Env} (hk : env.scope.kind = .function) (hy : env.scope.names.lookup y = some .local) (hl : (py.line == pos.line) = true)
    (ha : (scope.names.any fun (n, k) => n == y && (k == .local || k == .cell)) = false) : swapsWith (.DictComp kx vx gs scope pos) (some (.Name y py)) l env = pure true := by
  have ky : env.kindOf y = some .local := hy
  have hb : env.blockKind = .function := by unfold Env.blockKind; rw [hk]; rfl
  unfold swapsWith
  simp only [hb, ky, ha, Expr.pos, hl]
  rfl
end
end L2
namespace DL
open PySem L2

def NewD (l : List (Key × D)) (S : Store) (Q : D → Store → Prop) : Prop := Q (.dct l) S ∨ ∀ p, Q (.adr p) ((p, .dct l) :: S)
/-! ### a comprehension and who takes its list -/
section
variable {X : Cx} {ρ : Sl} {S : Store} {Q : D → Store → Prop} {E : AEnds} {pos spos : Pos} {elt tg iter c e kx vx de : Expr} {scope : Scope} {own : List (Str × Nat)}
/-- the turns of a comprehension without or with one test -/
def ifsT (X : Cx) (scope : Scope) : List Expr → TT
  | [c] => wTb X scope c
  | _ => tYes
theorem iteT {P R : Prop} (h : P) : if true = true then P else R := by rw [if_pos rfl]; exact h
theorem ifs_pts {ifs : List Expr} (h : ifs.length ≤ 1) (s0 : Shared) (H0 : Hp) (C : Addr) (cl : List (Str × Addr)) (fp : List Addr) : PTs (X.blk s0 H0 scope (compEnvC scope cl C X.env) fp) ifs (ifsT X scope ifs) := by
  match ifs, h with
  | [], _ => exact pts_nil
  | [c], _ => exact pts_one ⟨fun pins s1 σ1 H1 Q1 I1 h1 => h1 s0 H0 C cl fp pins s1 I1⟩
theorem elt_pe (s0 : Shared) (H0 : Hp) (C : Addr) (cl : List (Str × Addr)) (fp : List Addr) : PE (X.blk s0 H0 scope (compEnvC scope cl C X.env) fp) e (wEb X scope e) := ⟨fun pins s1 σ1 H1 Q1 I1 h1 => h1 s0 H0 C cl fp pins s1 I1⟩
def aTb1 (X : Cx) (scope : Scope) (ifs : List Expr) (ρ : Sl) (S : Store) (P : Bool → Store → Prop) : Prop := match ifs with
  | [] => P true S
  | [c] => aTb X scope c ρ S P
  | _ => False
theorem aTb1.tts {ifs : List Expr} {P P' : Bool → Store → Prop} (h : aTb1 X scope ifs ρ S P) (m : ∀ b S', P b S' → P' b S') : TTs X.K (ifsT X scope ifs) ρ S P' := by
  match ifs, h with
  | [], h => exact tts_yes (m _ _ h)
  | [c], h => exact fun σ H R s k => (show aTb X scope c ρ S P from h).tts σ H R s fun b H' S' q => k b H' S' (m _ _ q)
/-- list comprehensions: one turn -/
def LTurn (X : Cx) (scope : Scope) (elt : Expr) (ifs : List Expr) (T : Tgt) (vs : List Nat) (ρ : Sl) (Pv : Nat → List D → Store → Prop) (ds : List D) : Prop :=
  ∀ A i d acc S', ds[i]? = some d → Pv i acc S' → T.fits d (wipeD ρ vs) fun ρ' => aTb1 X scope ifs ρ' ((A, .lst acc) :: S') fun b S2 => ∃ S3, S2 = (A, .lst acc) :: S3 ∧
    if b = true then aEb X scope elt ρ' ((A, .lst acc) :: S3) (fun z S4 => ∃ S5, S4 = (A, .lst acc) :: S5 ∧ acc.length < 100000 ∧ Pv (i + 1) (acc ++ [z]) S5) else Pv (i + 1) acc S3
theorem lc_rd {W : St → Hp → VK → Prop} {ifs : List Expr} {vs : List Nat} (T : Tgt) (hT : ∀ i ∈ T.ids, i ∈ vs)
    {σ : St} {H : Hp} {R : VK} (s : Sat X.K ρ S σ H) (k : ∀ v H' d S', Q d S' → KpS S H S' H' → SOk X.K S' H' → RepS1 X.K S' H' d v → R v H') {wi : TI}
    (hi : ∀ R' : It → Hp → Prop, (∀ J H1 S1 ds, (∃ Pv : Nat → List D → Store → Prop, Pv 0 [] S1 ∧ LTurn X scope elt ifs T vs ρ Pv ds ∧ ∀ acc S', Pv ds.length acc S' → NewL acc S' Q) → KpS S H S1 H1 → SOk X.K S1 H1 → IWalk X.K (hid (adrs S1) H1) J ds → R' J H1) → wi σ H R') :
    tLc wi (T.g X.K) (ifsT X scope ifs) (wEb X scope elt) vs σ H R := by
  refine lc_all T hT s k fun R' hR => hi R' fun J H1 S1 ds ⟨Pv, p0, hs', hd⟩ k1 o1 w => hR J H1 S1 ds ⟨Pv, p0, fun A i d acc S' hi pv => (hs' A i d acc S' hi pv).imp fun ρ' q => ?_, hd⟩ k1 o1 w
  refine aTb1.tts q fun b S2 ⟨S3, e, q2⟩ => ⟨S3, e, ?_⟩
  cases b with
  | true => rw [if_pos rfl] at q2 ⊢; exact q2.tes
  | false => exact q2
/-- name = [..], a walk -/
theorem aS_setLc {y : Str} {py : Pos} {ifs : List Expr} (i : Nat) (T : Tgt) (own : List (Str × Nat)) (h : aItr X tg iter ρ S fun ds S1 => ∃ Pv : Nat → List D → Store → Prop, Pv 0 [] S1 ∧ LTurn X scope elt ifs T (own.map (·.2)) ρ Pv ds ∧ ∀ acc S', Pv ds.length acc S' → NewL acc S' fun d S2 => E.nx (ρ.set i (some d)) S2) (hT : ∀ i ∈ T.ids, i ∈ own.map (·.2))
    (hl : ifs.length ≤ 1) (hc : X.calm = true) (hN : X.N.Nodup) (hy : X.N[i]? = some y) (hyl : X.env.scope.names.lookup y = some .local) (hsw : swapsWith (.ListComp elt [⟨tg, iter, ifs, 0⟩] scope pos) (some (.Name y py)) spos.line X.env = pure true)
    (ok : BlkOk X.N X.env.scope scope own) (ht : TgB X scope tg T) (hs : ∀ x, foldedSetIterable iter X.env x = pure x := by intro _; rfl) : aS X (.Assign [.Name y py] (.ListComp elt [⟨tg, iter, ifs, 0⟩] scope pos) spos) ρ S E := fun σ H F s m => by
  refine w_ps (ps_setLc hc hN hy hyl hsw pi_w ok ht (ifs_pts hl) elt_pe hs) ?_
  refine lc_rd (W := fun _ _ _ => True) (Q := fun d S2 => E.nx (ρ.set i (some d)) S2) T hT s (fun v H' d S' q k o r => m.nx _ _ _ _ q k ⟨RepS.set r i (s.next k o).sl, o⟩) fun R' hR => ?_
  exact h σ H R' s hR
/-- name = [..], over a dict -/
theorem aS_setLcD {y : Str} {py : Pos} {ifs : List Expr} {dl : List (Key × D) → List D} {l : List (Key × D)} (i : Nat) (T : Tgt) (own : List (Str × Nat)) (dw : DWalk X tg iter de dl) (hv : EvD X de ρ S l) (Pv : Nat → List D → Store → Prop) (p0 : Pv 0 [] S) (hs' : LTurn X scope elt ifs T (own.map (·.2)) ρ Pv (dl l)) (hd : ∀ acc S', Pv (dl l).length acc S' → NewL acc S' fun d S2 => E.nx (ρ.set i (some d)) S2) (hT : ∀ i ∈ T.ids, i ∈ own.map (·.2))
    (hl : ifs.length ≤ 1) (hc : X.calm = true) (hN : X.N.Nodup) (hy : X.N[i]? = some y) (hyl : X.env.scope.names.lookup y = some .local) (hsw : swapsWith (.ListComp elt [⟨tg, iter, ifs, 0⟩] scope pos) (some (.Name y py)) spos.line X.env = pure true)
    (ok : BlkOk X.N X.env.scope scope own) (ht : TgB X scope tg T) (hs : ∀ x, foldedSetIterable iter X.env x = pure x := by intro _; rfl) : aS X (.Assign [.Name y py] (.ListComp elt [⟨tg, iter, ifs, 0⟩] scope pos) spos) ρ S E := fun σ H F s m => by
  obtain ⟨a, kvs, g, p, ev⟩ := hv σ H s
  have main : ∀ (H1 : Hp) (F1 : Ends) (od : Obj), Kq (hid (adrs S) H) (hid (adrs S) H1) → hid (adrs S) H1 a = some (.frz od (.dK kvs)) → Sat X.K ρ S σ H1 → Mts X.K S H1 E F1 → wS X (.Assign [.Name y py] (.ListComp elt [⟨tg, iter, ifs, 0⟩] scope pos) spos) F1 σ H1 := fun H1 F1 od k1 h1 s1 m1 => by
    refine w_ps (ps_setLc hc hN hy hyl hsw pi_w ok ht (ifs_pts hl) elt_pe hs) ?_
    refine lc_rd (W := fun _ _ _ => True) (Q := fun d S2 => E.nx (ρ.set i (some d)) S2) T hT s1 (fun v H' d S' q k o r => m1.nx _ _ _ _ q k ⟨RepS.set r i (s1.next k o).sl, o⟩) fun R' hR => ?_
    refine dw (te := wE X de) pe_w (ev H1 (k1.trans kp_hid.toKq) _ ⟨rfl, rfl⟩) wE_mono h1 (RepP.kq k1 _ _ p) fun J w => ?_
    exact hR J H1 S (dl l) ⟨Pv, p0, hs', hd⟩ (Kp.refl _) s1.ok w
  rcases g with g | ⟨od, g⟩
  · refine wS_lock s m g fun od F' s' m' => main _ _ od ?_ ?_ s' m'
    · rw [hid_upd_vis g]; exact Kq.lock g
    · rw [hid_upd_vis g]; exact upd_same
  · exact main H F od (Kq.refl _) g s m
/-- [..] -/
theorem aE_lcG {ifs : List Expr} (T : Tgt) (own : List (Str × Nat)) (h : aItr X tg iter ρ S fun ds S1 => ∃ Pv : Nat → List D → Store → Prop, Pv 0 [] S1 ∧ LTurn X scope elt ifs T (own.map (·.2)) ρ Pv ds ∧ ∀ acc S', Pv ds.length acc S' → NewL acc S' Q) (hT : ∀ i ∈ T.ids, i ∈ own.map (·.2))
    (hl : ifs.length ≤ 1) (hc : X.calm = true) (hN : X.N.Nodup) (ok : BlkOk X.N X.env.scope scope own) (ht : TgB X scope tg T) (hs : ∀ x, foldedSetIterable iter X.env x = pure x := by intro _; rfl) : aE X (.ListComp elt [⟨tg, iter, ifs, 0⟩] scope pos) ρ S Q := fun σ H R s k => by
  refine w_pe (pe_lc hc hN pi_w ok ht (ifs_pts hl) elt_pe hs) ?_
  refine lc_rd (W := fun _ _ _ => True) T hT s k fun R' hR => ?_
  exact h σ H R' s hR
theorem aE_lcGD {ifs : List Expr} {dl : List (Key × D) → List D} {l : List (Key × D)} (T : Tgt) (own : List (Str × Nat)) (dw : DWalk X tg iter de dl) (hv : EvD X de ρ S l) (Pv : Nat → List D → Store → Prop) (p0 : Pv 0 [] S) (hs' : LTurn X scope elt ifs T (own.map (·.2)) ρ Pv (dl l)) (hd : ∀ acc S', Pv (dl l).length acc S' → NewL acc S' Q) (hT : ∀ i ∈ T.ids, i ∈ own.map (·.2))
    (hl : ifs.length ≤ 1) (hc : X.calm = true) (hN : X.N.Nodup) (ok : BlkOk X.N X.env.scope scope own) (ht : TgB X scope tg T) (hs : ∀ x, foldedSetIterable iter X.env x = pure x := by intro _; rfl) : aE X (.ListComp elt [⟨tg, iter, ifs, 0⟩] scope pos) ρ S Q := fun σ H R s k => by
  obtain ⟨a, kvs, g, p, ev⟩ := hv σ H s
  have main : ∀ (H1 : Hp) (R1 : VK) (od : Obj), Kq (hid (adrs S) H) (hid (adrs S) H1) → hid (adrs S) H1 a = some (.frz od (.dK kvs)) → Sat X.K ρ S σ H1 → (∀ v H' d S', Q d S' → KpS S H1 S' H' → SOk X.K S' H' → RepS1 X.K S' H' d v → R1 v H') → wE X (.ListComp elt [⟨tg, iter, ifs, 0⟩] scope pos) σ H1 R1 := fun H1 R1 od k1 h1 s1 m1 => by
    refine w_pe (pe_lc hc hN pi_w ok ht (ifs_pts hl) elt_pe hs) ?_
    refine lc_rd (W := fun _ _ _ => True) T hT s1 m1 fun R' hR => ?_
    refine dw (te := wE X de) pe_w (ev H1 (k1.trans kp_hid.toKq) _ ⟨rfl, rfl⟩) wE_mono h1 (RepP.kq k1 _ _ p) fun J w => ?_
    exact hR J H1 S (dl l) ⟨Pv, p0, hs', hd⟩ (Kp.refl _) s1.ok w
  rcases g with g | ⟨od, g⟩
  · refine wE_lock s k g fun od R' s' m' => main _ _ od ?_ ?_ s' m'
    · rw [hid_upd_vis g]; exact Kq.lock g
    · rw [hid_upd_vis g]; exact upd_same
  · exact main H R od (Kq.refl _) g s k

/-! #### dict comprehensions -/
def DTurn (X : Cx) (scope : Scope) (kx vx : Expr) (T : Tgt) (vs : List Nat) (ρ : Sl) (Pv : Nat → List (Key × D) → Store → Prop) (ds : List D) : Prop :=
  ∀ A i d acc S', ds[i]? = some d → Pv i acc S' → T.fits d (wipeD ρ vs) fun ρ' => aEb X scope kx ρ' ((A, .dct acc) :: S') fun ky S2 => ∃ kk S3, ky = kD kk ∧ S2 = (A, .dct acc) :: S3 ∧
    aEb X scope vx ρ' ((A, .dct acc) :: S3) fun z S4 => ∃ S5, S4 = (A, .dct acc) :: S5 ∧ acc.length < 100000 ∧ Pv (i + 1) (putP acc kk z) S5
theorem dc_rd {vs : List Nat} (T : Tgt) (hT : ∀ i ∈ T.ids, i ∈ vs)
    {σ : St} {H : Hp} {R : VK} (s : Sat X.K ρ S σ H) (k : ∀ v H' d S', Q d S' → KpS S H S' H' → SOk X.K S' H' → RepS1 X.K S' H' d v → R v H') {wi : TI}
    (hi : ∀ R' : It → Hp → Prop, (∀ J H1 S1 ds, (∃ Pv : Nat → List (Key × D) → Store → Prop, Pv 0 [] S1 ∧ DTurn X scope kx vx T vs ρ Pv ds ∧ ∀ acc S', Pv ds.length acc S' → NewD acc S' Q) → KpS S H S1 H1 → SOk X.K S1 H1 → IWalk X.K (hid (adrs S1) H1) J ds → R' J H1) → wi σ H R') :
    tDc wi (T.g X.K) tYes (wEb X scope kx) (wEb X scope vx) vs σ H R := by
  refine hi _ fun J H1 S1 ds ⟨Pv, p0, hs, hd⟩ k01 o1 w A hA => ?_
  have s1 := s.next k01 o1
  obtain ⟨o2, k1⟩ := o1.birth (o := .dK []) (d := .dct []) hA ⟨[], upd_same, rfl⟩
  refine ⟨fun i m H => m = ds.length - i ∧ i ≤ ds.length ∧ ∃ acc S', Pv i acc S' ∧ KpS S1 H1 ((A, .dct acc) :: S') H ∧ SOk X.K ((A, .dct acc) :: S') H, ⟨_, rfl, Nat.zero_le _, [], S1, p0, k1, o2⟩, ?_⟩
  rintro i n H2 ⟨rfl, hi, acc, S', pv, k2, o2⟩
  obtain ⟨w1, w2⟩ := w _ H2 k2 o2
  by_cases hlt : i < ds.length
  · obtain ⟨g1, g2⟩ := w2 i ds[i] (List.getElem?_eq_getElem hlt)
    refine .inr ⟨g1, fun H' => ∃ acc2 S2, Pv (i + 1) acc2 S2 ∧ KpS S1 H1 ((A, .dct acc2) :: S2) H' ∧ SOk X.K ((A, .dct acc2) :: S2) H', fun H' q => ⟨ds.length - (i + 1), by omega, rfl, hlt, q⟩, fun x H' y => ?_⟩
    obtain ⟨r, k3, o3⟩ := g2 x H' y
    have k13 := k2.trans k3
    have sw : RepS X.K (hid (adrs ((A, .dct acc) :: S')) H') (wipeD ρ vs) (wipe σ vs) := RepS.wipe (s1.sl.kp k13) vs
    refine tgt_wipe kp_hid hT sw r (hs A i _ acc S' (List.getElem?_eq_getElem hlt) pv) fun σ2 ρ2 hw q g => ⟨by rw [hw, wipe_idem], ?_⟩
    unfold tYes
    refine iteT ?_
    refine q.tes σ2 H' _ ⟨g, o3⟩ fun yk H4 ky S2 ⟨kk, S3, e3, e4, q2⟩ k4 o4 r4 => ?_
    subst e3; subst e4
    have k14 := k13.trans k4
    refine (show aEb X scope vx ρ2 _ _ from q2).tes σ2 H4 _ ⟨g.kp k4, o4⟩ fun yv H5 z S4 ⟨S5, e5, hl, p5⟩ k5 o5 r5 => ?_
    subst e5
    have k15 := k14.trans k5
    have hi0 : ((A, D.dct acc) :: S5)[0]? = some (A, D.dct acc) := rfl
    obtain ⟨xs, hx, rx⟩ := o5.ok _ (List.mem_of_getElem? hi0)
    obtain ⟨o6, k6⟩ := o5.write (o := .dK (putK xs kk yv)) (d' := .dct (putP acc kk z)) hi0 ⟨_, upd_same, rx.put r5⟩
    exact ⟨xs, kk, kD_rep r4, hx, by rw [rx.len]; exact sz_lt hl, _, S5, p5, k15.trans k6, o6⟩
  · have e : i = ds.length := by omega
    subst e
    refine .inl ⟨w1, ?_⟩
    have k02 := k01.trans k2
    rcases hd acc S' pv with q | q
    · have hi0 : ((A, D.dct acc) :: S')[0]? = some (A, D.dct acc) := rfl
      exact k _ _ _ _ q (k02.trans (hid_erase (i := 0))) (o2.freeze (i := 0)) (o2.frozen hi0 rfl)
    · exact k _ _ _ _ (q A) k02 o2 rfl
theorem aE_dc (T : Tgt) (own : List (Str × Nat)) (h : aItr X tg iter ρ S fun ds S1 => ∃ Pv : Nat → List (Key × D) → Store → Prop, Pv 0 [] S1 ∧ DTurn X scope kx vx T (own.map (·.2)) ρ Pv ds ∧ ∀ acc S', Pv ds.length acc S' → NewD acc S' Q) (hT : ∀ i ∈ T.ids, i ∈ own.map (·.2))
    (hc : X.calm = true) (hN : X.N.Nodup) (ok : BlkOk X.N X.env.scope scope own) (ht : TgB X scope tg T) (hs : ∀ x, foldedSetIterable iter X.env x = pure x := by intro _; rfl) : aE X (.DictComp kx vx [⟨tg, iter, [], 0⟩] scope pos) ρ S Q := fun σ H R s k => by
  refine w_pe (pe_dc hc hN pi_w ok ht (fun _ _ _ _ _ => pts_nil) elt_pe elt_pe hs) ?_
  refine dc_rd T hT s k fun R' hR => ?_
  exact h σ H R' s hR
theorem aS_setDc {y : Str} {py : Pos} (i : Nat) (T : Tgt) (own : List (Str × Nat)) (h : aItr X tg iter ρ S fun ds S1 => ∃ Pv : Nat → List (Key × D) → Store → Prop, Pv 0 [] S1 ∧ DTurn X scope kx vx T (own.map (·.2)) ρ Pv ds ∧ ∀ acc S', Pv ds.length acc S' → NewD acc S' fun d S2 => E.nx (ρ.set i (some d)) S2) (hT : ∀ i ∈ T.ids, i ∈ own.map (·.2))
    (hc : X.calm = true) (hN : X.N.Nodup) (hy : X.N[i]? = some y) (hyl : X.env.scope.names.lookup y = some .local) (hsw : swapsWith (.DictComp kx vx [⟨tg, iter, [], 0⟩] scope pos) (some (.Name y py)) spos.line X.env = pure true)
    (ok : BlkOk X.N X.env.scope scope own) (ht : TgB X scope tg T) (hs : ∀ x, foldedSetIterable iter X.env x = pure x := by intro _; rfl) : aS X (.Assign [.Name y py] (.DictComp kx vx [⟨tg, iter, [], 0⟩] scope pos) spos) ρ S E := fun σ H F s m => by
  refine w_ps (ps_setDc hc hN hy hyl hsw pi_w ok ht (fun _ _ _ _ _ => pts_nil) elt_pe elt_pe hs) ?_
  refine dc_rd (Q := fun d S2 => E.nx (ρ.set i (some d)) S2) T hT s (fun v H' d S' q k o r => m.nx _ _ _ _ q k ⟨RepS.set r i (s.next k o).sl, o⟩) fun R' hR => ?_
  exact h σ H R' s hR
end
end DL

namespace DL
open PySem L2

/-! ### promises -/
abbrev ASp := List D → Store → (D → Store → Prop) → Prop
def spA (K : PySem.W.Frag) (f : ASp) : Sp := fun vs H Q _ => ∃ ds S R, RepL K (hid (adrs S) H) ds vs ∧ SOk K S H ∧ f ds S R ∧ ∀ v H' d S', R d S' → KpS S H S' H' → SOk K S' H' → RepS1 K S' H' d v → Q v H'
def startD (N : List Str) (ds : List D) : Sl := ds.map some ++ List.replicate (N.length - ds.length) none
theorem repS_app {K : PySem.W.Frag} {G : Hp} : ∀ {ds : List D} {vs : List V} {m : Nat}, RepL K G ds vs → RepS K G (ds.map some ++ List.replicate m none) (vs.map some ++ List.replicate m none)
  | [], vs, 0, h => by rw [show vs = [] from h]; exact rfl
  | [], vs, m + 1, h => by
    rw [show vs = [] from h]
    exact ⟨none, List.replicate m none, rfl, repS_app (ds := []) (vs := []) rfl⟩
  | d :: ds, vs, m, ⟨v, r, e, h1, h2⟩ => by
    subst e
    exact ⟨v, _, rfl, h1, repS_app h2⟩
theorem start_rep {K : PySem.W.Frag} {G : Hp} {N : List Str} {ds : List D} {vs : List V} (h : RepL K G ds vs) : RepS K G (startD N ds) (L2.start N vs) := by
  unfold startD L2.start
  rw [h.len]
  exact repS_app h
/-- the body of a def, as seen from a call -/
abbrev cxB (P : Program) (w : World) (K : PySem.W.Frag) (mg : Str → Option Value) (base : Heap) (N : List Str) (qual : Str) (st : Stmt) (f : Addr) (cdv : Value) (A : Around) (outer : List Env) (s : Shared) (H : Hp) (E : XK) : Cx := (cxOf CX0 P w K mg base N qual (defScope st) f cdv A outer s H E).nox
section
variable {P : Program} {w : World} {K : PySem.W.Frag} {mg : Str → Option Value} {base : Heap}
def BodyA (P : Program) (w : World) (K : PySem.W.Frag) (mg : Str → Option Value) (base : Heap) (N : List Str) (qual : Str) (st : Stmt) (k : Nat) (sp : ASp) : Prop :=
  ∀ f cdv A outer s H E, Room k (cxB P w K mg base N qual st f cdv A outer s H E).A → ∀ ds S R, sp ds S R →
    aSs (cxB P w K mg base N qual st f cdv A outer s H E) (defBody st) (startD N ds) S { nx := fun _ S' => R .non S', rt := R }
theorem spA_len {sp : ASp} {ps : List Str} (h : ∀ ds S R, sp ds S R → ds.length = ps.length) : ∀ vs H Q E, spA K sp vs H Q E → vs.length = ps.length := fun vs H Q E ⟨ds, S, R, r, _, q, _⟩ => by rw [r.len]; exact h _ _ _ q
theorem okA {x qual : Str} {st : Stmt} {f : Addr} {fd : FuncData} {N ps : List Str} {k : Nat} {sp : ASp} (b : BodyA P w K mg base N qual st k sp) (F : Fun K x qual st f fd) (S : FnScope N ps (defScope st)) (len : ∀ ds S R, sp ds S R → ds.length = ps.length) :
    FnOk P w K mg base CX0 (k + 1) f fd ps (spA K sp) := by
  refine F.ok S (spA_len len) fun cdv A outer s H vs Q E hr ⟨ds, S0, R, r, o, q, kk⟩ => ⟨_, pss_w, ?_⟩
  refine b f cdv A outer s H E hr ds S0 R q (L2.start N vs) H _ ⟨start_rep r, o⟩ ⟨fun σ' H' ρ' S' q' k' s' => kk .non H' .non S' q' k' s'.ok rfl, kk, fun _ _ _ _ q' => q'.elim, fun _ _ _ _ q' => q'.elim⟩
theorem okA8 {x qual : Str} {st : Stmt} {f : Addr} {fd : FuncData} {N ps : List Str} {k : Nat} {sp : ASp} (b : BodyA P w K mg base N qual st k sp) (F : C8.Fun K x qual st f fd) (S : FnScope N ps (defScope st)) (len : ∀ ds S R, sp ds S R → ds.length = ps.length)
    (e1 : C8.fnBody st = defBody st := by rfl) (e2 : C8.fnScope st = defScope st := by rfl) : FnOk P w K mg base CX0 (k + 1) f fd ps (spA K sp) := by
  refine C8.fn0 F (e2 ▸ S) (spA_len len) fun cdv A outer s H vs Q E hr ⟨ds, S0, R, r, o, q, kk⟩ => ⟨_, pss_w, ?_⟩
  rw [e1]
  rw [e2] at hr ⊢
  refine b f cdv A outer s H E hr ds S0 R q (L2.start N vs) H _ ⟨start_rep r, o⟩ ⟨fun σ' H' ρ' S' q' k' s' => kk .non H' .non S' q' k' s'.ok rfl, kk, fun _ _ _ _ q' => q'.elim, fun _ _ _ _ q' => q'.elim⟩
end
/-! ### what may be called -/
structure CalA (P : Program) (w : World) (K : PySem.W.Frag) (mg : Str → Option Value) (base : Heap) (k : Nat) (x : Str) (sp : ASp) (dvs : List D) : Prop where
  ex : ∃ (dv : List V), C8.Cal P w K mg base k x (spA K sp) dv ∧ ∀ G, RepL K G dvs dv
structure MetA (P : Program) (w : World) (K : PySem.W.Frag) (mg : Str → Option Value) (base : Heap) (k : Nat) (C : Addr) (m : Str) (sp : ASp) : Prop where
  ex : C8.Met P w K mg base k C m (spA K sp) []
structure MakA (P : Program) (w : World) (K : PySem.W.Frag) (mg : Str → Option Value) (base : Heap) (k : Nat) (x : Str) (C : Addr) (sp : ASp) : Prop where
  ex : C8.Mak P w K mg base k x C (spA K sp) []
section
variable {P : Program} {w : World} {K : PySem.W.Frag} {mg : Str → Option Value} {base : Heap}
theorem calA {x : Str} {st : Stmt} {f : Addr} {fd : FuncData} {N ps : List Str} {k : Nat} {sp : ASp} (b : BodyA P w K mg base N x st k sp) (F : Fun K x x st f fd) (hm : mg x = some (.ref f)) (bi : Binds K fd ps []) (S : FnScope N ps (defScope st)) (len : ∀ ds S R, sp ds S R → ds.length = ps.length) :
    CalA P w K mg base (k + 1) x sp [] := ⟨[], ⟨f, fd, ps, [], okA b F S len, hm, F.kp, bi, .nil⟩, fun _ => rfl⟩
theorem metA {m qual : Str} {C : Addr} {st : Stmt} {f : Addr} {fd : FuncData} {N ps : List Str} {k : Nat} {sp : ASp} (b : BodyA P w K mg base N qual st k sp) (F : Fun K m qual st f fd) (c : Cls K C) (me : Meth K C m f) (bi : Binds K fd ps []) (S : FnScope N ps (defScope st)) (len : ∀ ds S R, sp ds S R → ds.length = ps.length) :
    MetA P w K mg base (k + 1) C m sp := ⟨f, fd, ps, [], c, me, okA b F S len, bi, .nil⟩
theorem makA {x qual : Str} {C : Addr} {st : Stmt} {f : Addr} {fd : FuncData} {N ps : List Str} {k : Nat} {sp : ASp} (b : BodyA P w K mg base N qual st k sp) (F : Fun K "__init__" qual st f fd) (M : Mk K C f) (hm : mg x = some (.ref C)) (bi : Binds K fd ps []) (S : FnScope N ps (defScope st)) (len : ∀ ds S R, sp ds S R → ds.length = ps.length) :
    MakA P w K mg base (k + 1) x C sp := ⟨f, fd, ps, [], M, okA b F S len, hm, bi, .nil⟩
end
section
variable {X : Cx} {ρ : Sl} {S : Store} {Q : D → Store → Prop} {pos apos p : Pos} {e o : Expr} {es : List Expr} {k j : Nat} {x m : Str} {C : Addr} {sp : ASp} {dvs : List D}
theorem aE_call (c : CalA X.prog X.w X.K X.mg X.base k x sp dvs) (hr : Room j X.A) (h : aA X (e :: es) ρ S fun ds S1 => sp (ds ++ dvs) S1 Q) (hk : k ≤ j := by decide) (hg : Gl X x := by rfl)
    (hdb : (x == ("__debug__" : Str)) = false := by decide) (he : starEach (e :: es) X.env = (false, eval e X.env) :: starEach es X.env := by rfl) (hpl : (backTo pos (starEach es X.env)).any (·.1) = false := by rfl) :
    aE X (.Call (.Name x p) (e :: es) [] pos) ρ S Q := fun σ H R s kk => by
  obtain ⟨dv, cal, rd⟩ := c.ex
  refine w_pe (C8.pe_c cal hr hk hg pa_w hdb he hpl) ?_
  refine h σ H _ s fun vs H1 ds S1 q1 k1 o1 r1 => ?_
  exact ⟨ds ++ dvs, S1, Q, r1.app (rd _), o1, q1, fun v H' d S' q k2 o2 r2 => kk v H' d S' q (k1.trans k2) o2 r2⟩
theorem aE_meth {pl : Sem Bool} (c : MetA X.prog X.w X.K X.mg X.base k C m sp) (hr : Room j X.A) (h : aE X o ρ S fun t S1 => ∃ l, ResI S1 t C l ∧ l.lookup m = none ∧ aA X (e :: es) ρ S1 fun ds S2 => sp (t :: ds) S2 Q) (hk : k ≤ j := by decide)
    (hst : starEach (e :: es) X.env = (false, eval e X.env) :: starEach es X.env := by rfl) (hpl : (backTo pos (starEach es X.env)).any (·.1) = false := by rfl)
    (ht : eval (.Call (.Attribute o m apos) (e :: es) [] pos) X.env = (do
      let ov ← eval o X.env
      standAt apos.atName
      let (f, first) ← holding [ov] (getMethod ov m pl)
      callWith pos f first (backTo pos (starEach (e :: es) X.env)) (backToKw pos (keywordEach [] X.env))) := by rfl) :
    aE X (.Call (.Attribute o m apos) (e :: es) [] pos) ρ S Q := fun σ H R s kk => by
  refine w_pe (C8.pe_mt (pl := pl) c.ex hr hk pe_w pa_w hst hpl ht) ?_
  refine h σ H _ s fun v H1 t S1 ⟨l, ri, ln, q1⟩ k1 o1 r1 => ?_
  obtain ⟨a, dx, fs, ev, g, pf⟩ := ri.use o1 r1
  refine ⟨a, dx, fs, ev, g, (pf.val m).1 ln, ?_⟩
  refine q1 σ H1 _ (s.next k1 o1) fun vs H2 ds S2 q2 k2 o2 r2 => ?_
  refine ⟨t :: ds, S2, Q, ⟨v, vs, by rw [List.append_nil], r1.kp k2, r2⟩, o2, q2, fun v H' d S' q k3 o3 r3 => kk v H' d S' q ((k1.trans k2).trans k3) o3 r3⟩
theorem aE_meth0 {pl : Sem Bool} (c : MetA X.prog X.w X.K X.mg X.base k C m sp) (hr : Room j X.A) (h : aE X o ρ S fun t S1 => ∃ l, ResI S1 t C l ∧ l.lookup m = none ∧ sp [t] S1 Q) (hk : k ≤ j := by decide)
    (ht : eval (.Call (.Attribute o m apos) [] [] pos) X.env = (do
      let ov ← eval o X.env
      standAt apos.atName
      let (f, first) ← holding [ov] (getMethod ov m pl)
      callWith pos f first (backTo pos (starEach [] X.env)) (backToKw pos (keywordEach [] X.env))) := by rfl) :
    aE X (.Call (.Attribute o m apos) [] [] pos) ρ S Q := fun σ H R s kk => by
  refine w_pe (C8.pe_mt0 (pl := pl) c.ex hr hk pe_w ht) ?_
  refine h σ H _ s fun v H1 t S1 ⟨l, ri, ln, q1⟩ k1 o1 r1 => ?_
  obtain ⟨a, dx, fs, ev, g, pf⟩ := ri.use o1 r1
  refine ⟨a, dx, fs, ev, g, (pf.val m).1 ln, ?_⟩
  exact ⟨[t], S1, Q, RepL.one r1, o1, q1, fun v H' d S' q k3 o3 r3 => kk v H' d S' q (k1.trans k3) o3 r3⟩
theorem aE_make (c : MakA X.prog X.w X.K X.mg X.base k x C sp) (hr : Room j X.A) (h : aA X (e :: es) ρ S fun ds S1 => ∀ a, sp (.adr a :: ds) ((a, .ins C []) :: S1) fun d S2 => d = .non ∧ Q (.adr a) S2) (hk : k + 1 ≤ j := by decide) (hg : Gl X x := by rfl)
    (hdb : (x == ("__debug__" : Str)) = false := by decide) (he : starEach (e :: es) X.env = (false, eval e X.env) :: starEach es X.env := by rfl) (hpl : (backTo pos (starEach es X.env)).any (·.1) = false := by rfl) :
    aE X (.Call (.Name x p) (e :: es) [] pos) ρ S Q := fun σ H R s kk => by
  refine w_pe (C8.pe_mk c.ex hr hk hg pa_w hdb he hpl) ?_
  refine h σ H _ s fun vs H1 ds S1 q1 k1 o1 r1 a dx ha hdx hne => ?_
  obtain ⟨o2, k2⟩ := o1.grow (o := .own a) hdx
  obtain ⟨o3, k3⟩ := o2.birth (p := a) (o := .ins C dx []) (d := .ins C []) (by rw [upd_ne (Ne.symm hne)]; exact ha) ⟨dx, [], upd_same, rfl⟩
  have k13 := k2.trans k3
  refine ⟨.adr a :: ds, _, _, ⟨.ref a, vs, by rw [List.append_nil], rfl, r1.kp k13⟩, o3, q1 a, fun v H' d S' ⟨ed, q⟩ k4 o4 r4 => ?_⟩
  subst ed
  exact ⟨r4, kk _ _ _ _ q (k1.trans (k13.trans k4)) o4 rfl⟩
end
end DL

namespace DL
open PySem L2

/-! ### built-in functions -/
abbrev ARel := List D → Store → (D → Store → Prop) → Prop
def ACall (K : PySem.W.Frag) (r : List V → Hp → VK → Prop) (rA : ARel) : Prop :=
  ∀ ds S Q vs H S0 H0 (R : VK), rA ds S Q → SOk K S H → RepL K (hid (adrs S) H) ds vs → KpS S0 H0 S H → (∀ v H' d S', Q d S' → KpS S0 H0 S' H' → SOk K S' H' → RepS1 K S' H' d v → R v H') → r vs H R
section
variable {X : Cx} {ρ : Sl} {S : Store} {Q : D → Store → Prop} {pos p apos cpos : Pos} {a b e o : Expr} {es : List Expr} {K : PySem.W.Frag} {x : Str} {id T : String} {r r' : List V → Hp → VK → Prop} {rA rA' : ARel}
theorem ACall.or (h : ACall K r rA) (h' : ACall K r' rA') : ACall K (fun xs H Q => r xs H Q ∨ r' xs H Q) (fun ds S Q => rA ds S Q ∨ rA' ds S Q) := fun ds S Q vs H S0 H0 R q o rr k0 k => by
  rcases q with q | q
  · exact .inl (h ds S Q vs H S0 H0 R q o rr k0 k)
  · exact .inr (h' ds S Q vs H S0 H0 R q o rr k0 k)
theorem aE_fnB (hc : CallR X (.builtin id) r) (hA : ACall X.K r rA) (hm : X.mg x = none) (hv : bootBuiltins x = some (.builtin id)) (h : aA X (e :: es) ρ S fun ds S1 => rA ds S1 Q) (hg : Gl X x := by rfl) (hn : x ≠ "__name__" := by decide) (hdb : (x == ("__debug__" : Str)) = false := by decide)
    (he : starEach (e :: es) X.env = (false, eval e X.env) :: starEach es X.env := by rfl) (hpl : (backTo pos (starEach es X.env)).any (·.1) = false := by rfl) : aE X (.Call (.Name x p) (e :: es) [] pos) ρ S Q := fun σ H R s k => by
  refine w_pe (pe_callB hc hg hm hv pa_w hn hdb he hpl) ?_
  refine h σ H _ s fun vs H1 ds S1 q1 k1 o1 r1 => ?_
  exact hA ds S1 Q vs H1 S H R q1 o1 r1 k1 k
theorem aE_fnT (hc : CallR X (.type T) r) (hA : ACall X.K r rA) (hm : X.mg x = none) (hv : bootBuiltins x = some (.type T)) (h : aA X (e :: es) ρ S fun ds S1 => rA ds S1 Q) (hg : Gl X x := by rfl) (hn : x ≠ "__name__" := by decide) (hdb : (x == ("__debug__" : Str)) = false := by decide)
    (he : starEach (e :: es) X.env = (false, eval e X.env) :: starEach es X.env := by rfl) (hpl : (backTo pos (starEach es X.env)).any (·.1) = false := by rfl) : aE X (.Call (.Name x p) (e :: es) [] pos) ρ S Q := fun σ H R s k => by
  refine w_pe (pe_callTy hc hg hm hv pa_w hn hdb he hpl) ?_
  refine h σ H _ s fun vs H1 ds S1 q1 k1 o1 r1 => ?_
  exact hA ds S1 Q vs H1 S H R q1 o1 r1 k1 k
theorem aA1 {Qs : List D → Store → Prop} (h : aE X e ρ S fun d S1 => Qs [d] S1) (hs : starEach [e] X.env = (false, eval e X.env) :: starEach [] X.env := by rfl) : aA X [e] ρ S Qs := aA_cons (h.mono fun d S' q => aA_nil q) hs
theorem aA2 {Qs : List D → Store → Prop} (h : aE X a ρ S fun d S1 => aE X b ρ S1 fun d2 S2 => Qs [d, d2] S2) (hs : starEach [a, b] X.env = (false, eval a X.env) :: starEach [b] X.env := by rfl) (hs2 : starEach [b] X.env = (false, eval b X.env) :: starEach [] X.env := by rfl) : aA X [a, b] ρ S Qs :=
  aA_cons (h.mono fun d S' q => aA1 q hs2) hs
theorem rep1 {G : Hp} {d : D} {vs : List V} (h : RepL K G [d] vs) : ∃ v, vs = [v] ∧ Rep K G d v := by
  obtain ⟨v, r, e, h1, h2⟩ := h
  exact ⟨v, by rw [e, show r = [] from h2], h1⟩
theorem rep2 {G : Hp} {d d2 : D} {vs : List V} (h : RepL K G [d, d2] vs) : ∃ v v2, vs = [v, v2] ∧ Rep K G d v ∧ Rep K G d2 v2 := by
  obtain ⟨v, r, e, h1, h2⟩ := h
  obtain ⟨v2, e2, h3⟩ := rep1 h2
  exact ⟨v, v2, by rw [e, e2], h1, h3⟩
/-! #### len -/
def aLen : ARel := fun ds S Q => ∃ d n, ds = [d] ∧ ((∃ z : Str, d = .str z ∧ z.length ≤ 100000 ∧ n = z.length) ∨ (∃ l, ResQ S d l ∧ n = l.length) ∨ ∃ l, ResD S d l ∧ n = l.length) ∧ Q (.int n) S
def rLenD : List V → Hp → VK → Prop := fun xs H Q => ∃ a kvs, xs = [V.ref a] ∧ Rd H a (.dK kvs) ∧ Q (.int kvs.length) H
theorem call_lenRd : CallR X (.builtin "len") rLenD := by
  intro pins s σ H xs us Q I rr q
  obtain ⟨a, kvs, ex, hd, q⟩ := q
  subst ex
  obtain ⟨u, eu, rx⟩ := vals1 rr
  subst eu
  cases rx
  exact d_len I hd fun t s' J => ⟨.int kvs.length, H, J, ⟨t, rfl⟩, q⟩
theorem acall_len : ACall K (fun xs H Q => (∃ p ys, xs = [V.ref p] ∧ (SqL K H p ys ∨ SqT K H p ys) ∧ Q (.int ys.length) H) ∨ (∃ z : Str, xs = [.str z] ∧ z.length ≤ sizeLine ∧ Q (.int z.length) H) ∨ rLenD xs H Q) aLen := fun ds S Q vs H S0 H0 R q o rr k0 k => by
  obtain ⟨d, n, ed, hh, q⟩ := q
  subst ed
  obtain ⟨v, ev, r⟩ := rep1 rr
  subst ev
  rcases hh with ⟨z, e, hz, hn⟩ | ⟨l, hl, hn⟩ | ⟨l, hl, hn⟩
  · subst e; subst hn
    rw [show v = V.str z from r]
    exact .inr (.inl ⟨z, rfl, sz_of hz, k _ _ _ _ q k0 o rfl⟩)
  · subst hn
    obtain ⟨a, xs, e, g, p⟩ := hl.use o r
    subst e
    exact .inl ⟨a, xs, rfl, g, by rw [p.len]; exact k _ _ _ _ q k0 o rfl⟩
  · subst hn
    obtain ⟨a, xs, e, g, p⟩ := hl.use o r
    subst e
    exact .inr (.inr ⟨a, xs, rfl, g, by rw [p.len]; exact k _ _ _ _ q k0 o rfl⟩)
theorem aE_len (hm : X.mg "len" = none) (h : aE X e ρ S fun d S1 => ∃ n, ((∃ z : Str, d = .str z ∧ z.length ≤ 100000 ∧ n = z.length) ∨ (∃ l, ResQ S1 d l ∧ n = l.length) ∨ ∃ l, ResD S1 d l ∧ n = l.length) ∧ Q (.int n) S1) (hg : Gl X "len" := by rfl) (hs : starEach [e] X.env = (false, eval e X.env) :: starEach [] X.env := by rfl) :
    aE X (.Call (.Name "len" p) [e] [] pos) ρ S Q :=
  aE_fnB (CallR.or call_len_seq (CallR.or call_len_str call_lenRd)) acall_len hm PySem.boot_len (aA1 (h.mono fun d S' ⟨n, c, q⟩ => ⟨d, n, rfl, c, q⟩) hs) hg (he := hs)
/-! #### sorted -/
def leS (a b : Str) : Bool := !PySem.Spec.ltCps b.cps.toList a.cps.toList
/-- the texts in their order -/
def srt (l : List Str) : List Str := l.mergeSort leS
theorem leS_iff {a b : Str} : leS a b = true ↔ a.cps.toList ≤ b.cps.toList := by
  unfold leS
  rw [PyProof.Rows.ltCps_eq, Bool.not_eq_true', decide_eq_false_iff_not, List.not_lt]
theorem leS_trans (a b c : Str) (h : leS a b = true) (h' : leS b c = true) : leS a c = true := leS_iff.mpr (List.le_trans (leS_iff.mp h) (leS_iff.mp h'))
theorem leS_total (a b : Str) : (leS a b || leS b a) = true := by
  rw [Bool.or_eq_true, leS_iff, leS_iff]
  exact List.le_total _ _
theorem str_ext {a b : Str} (h : a.cps.toList = b.cps.toList) : a = b := by
  cases a with | mk x => cases b with | mk y => exact congrArg _ (Array.ext' h)
theorem leS_anti {a b : Str} (h : leS a b = true) (h' : leS b a = true) : a = b := str_ext (List.le_antisymm (leS_iff.mp h) (leS_iff.mp h'))
theorem leS_refl (a : Str) : leS a a = true := leS_iff.mpr (List.le_refl _)
theorem rising_pw : ∀ {l : List Str} {x : Str}, PyProof.Rows.risingS x l = true → (x :: l).Pairwise fun a b => leS a b = true
  | [], x, _ => List.pairwise_singleton _ _
  | y :: r, x, h => by
    have h : (leS x y && PyProof.Rows.risingS y r) = true := h
    rw [Bool.and_eq_true] at h
    have ih := rising_pw h.2
    refine List.pairwise_cons.mpr ⟨fun z hz => ?_, ih⟩
    rcases List.mem_cons.mp hz with e | e
    · rw [e]; exact h.1
    · exact leS_trans _ _ _ h.1 (List.rel_of_pairwise_cons ih e)
theorem sortedS_pw {l : List Str} (h : PyProof.Rows.sortedS l = true) : l.Pairwise fun a b => leS a b = true := by
  cases l with
  | nil => exact .nil
  | cons x r => exact rising_pw h
theorem srt_pw (l : List Str) : (srt l).Pairwise fun a b => leS a b = true := List.pairwise_mergeSort leS_trans leS_total l
theorem srt_perm (l : List Str) : (srt l).Perm l := List.mergeSort_perm l leS
theorem srt_uniq {l m : List Str} (h : l.Pairwise fun a b => leS a b = true) (p : l.Perm m) : l = srt m :=
  List.Perm.eq_of_pairwise (fun a b _ _ x y => leS_anti x y) h (srt_pw m) (p.trans (srt_perm m).symm)
theorem srt_of {ys xs : List Str} (p : ys.Perm xs) (h : PyProof.Rows.sortedS ys = true) : ys = srt xs := srt_uniq (sortedS_pw h) p
theorem srt_self {l : List Str} (h : l.Pairwise fun a b => leS a b = true) : srt l = l := (srt_uniq h (List.Perm.refl l)).symm
theorem srt_len (l : List Str) : (srt l).length = l.length := (srt_perm l).length_eq
theorem srt_mem {l : List Str} {x : Str} : x ∈ srt l ↔ x ∈ l := (srt_perm l).mem_iff
theorem srt_nodup {l : List Str} : (srt l).Nodup ↔ l.Nodup := (srt_perm l).nodup_iff
theorem srt_congr {l m : List Str} (p : l.Perm m) : srt l = srt m := srt_uniq (srt_pw l) ((srt_perm l).trans p)
def aSorted : ARel := fun ds S Q => ∃ d zs, ds = [d] ∧ (ResL S d (zs.map D.str) ∨ ∃ l, ResD S d l ∧ l.map (·.1) = zs.map Sum.inr) ∧ zs.length < 64 ∧ NewL ((srt zs).map D.str) S Q
def rSortedSD (K : PySem.W.Frag) : List V → Hp → VK → Prop := fun xs H Q => rSortedS K xs H Q ∨ ∃ (a : Addr) (kvs : List (Key × V)) (ks : List Str), xs = [V.ref a] ∧ Rd H a (.dK kvs) ∧ kvs.map (·.1) = ks.map Sum.inr ∧ ks.length < 64 ∧
    ∀ ys p, ys.Perm ks → PyProof.Rows.sortedS ys = true → H p = none → Q (.ref p) (upd H p (.lst (ys.map V.str)))
theorem acall_sorted : ACall K (rSortedSD K) aSorted := fun ds S Q vs H S0 H0 R q o rr k0 k => by
  obtain ⟨d, zs, ed, hh, hl, q⟩ := q
  subst ed
  obtain ⟨v, ev, r⟩ := rep1 rr
  subst ev
  have fin : ∀ (ys : List Str) (p : Addr), ys.Perm zs → PyProof.Rows.sortedS ys = true → H p = none → R (.ref p) (upd H p (.lst (ys.map V.str))) := fun ys p hp hs hn => by
    rw [srt_of hp hs]
    exact q.use o (RepL.ofStrs _) k0 hn k
  rcases hh with h | ⟨l, h, hk⟩
  · obtain ⟨a, xs, e, g, p⟩ := h.use o r
    subst e
    rw [p.strs] at g
    exact .inl ⟨a, zs, rfl, .inl (.inl g), hl, fin⟩
  · obtain ⟨a, xs, e, g, p⟩ := h.use o r
    subst e
    exact .inr ⟨a, xs, zs, rfl, g, by rw [p.keys]; exact hk, hl, fin⟩
theorem aE_sorted (hc : X.calm = true) (hm : X.mg "sorted" = none) (h : aE X e ρ S fun d S1 => ∃ zs, (ResL S1 d (zs.map D.str) ∨ ∃ l, ResD S1 d l ∧ l.map (·.1) = zs.map Sum.inr) ∧ zs.length < 64 ∧ NewL ((srt zs).map D.str) S1 Q) (hg : Gl X "sorted" := by rfl) (hs : starEach [e] X.env = (false, eval e X.env) :: starEach [] X.env := by rfl) :
    aE X (.Call (.Name "sorted" p) [e] [] pos) ρ S Q :=
  aE_fnB (CallR.or cr_sortedS (call_sortedD hc)) acall_sorted hm PyProof.Rows.boot_sorted (aA1 (h.mono fun d S' ⟨zs, c, q⟩ => ⟨d, zs, rfl, c, q⟩) hs) hg (he := hs)
/-! #### list, tuple, dict -/
theorem rep_kD {G : Hp} : ∀ k : Key, Rep K G (kD k) (kV k)
  | .inl _ => rfl
  | .inr _ => rfl
theorem repL_keys {G : Hp} : ∀ {l : List (Key × D)} {xs : List (Key × V)}, RepP K G l xs → RepL K G (l.map fun kv => kD kv.1) (xs.map fun kv => kV kv.1)
  | [], xs, h => by rw [show xs = [] from h]; exact rfl
  | (k, d) :: l, xs, ⟨x, r, e, h1, h2⟩ => by rw [e]; exact ⟨kV k, _, rfl, rep_kD k, repL_keys h2⟩
def aList : ARel := fun ds S Q => ∃ d l, ds = [d] ∧ (ResQ S d l ∨ ∃ m, ResD S d m ∧ l = m.map fun kv => kD kv.1) ∧ NewL l S Q
theorem acall_list : ACall K (fun xs H Q => (∃ p ys, xs = [V.ref p] ∧ (SqL K H p ys ∨ SqT K H p ys) ∧ ∀ l, H l = none → Q (.ref l) (upd H l (.lst ys))) ∨
    (∃ (a : Addr) (kvs : List (Key × V)), xs = [V.ref a] ∧ Rd H a (.dK kvs) ∧ ∀ p, H p = none → Q (.ref p) (upd H p (.lst (kvs.map fun kv => kV kv.1))))) aList := fun ds S Q vs H S0 H0 R q o rr k0 k => by
  obtain ⟨d, l, ed, hh, q⟩ := q
  subst ed
  obtain ⟨v, ev, r⟩ := rep1 rr
  subst ev
  rcases hh with h | ⟨m, h, e⟩
  · obtain ⟨a, xs, e, g, p⟩ := h.use o r
    subst e
    exact .inl ⟨a, xs, rfl, g, fun c hc => q.use o p k0 hc k⟩
  · subst e
    obtain ⟨a, xs, e, g, p⟩ := h.use o r
    subst e
    exact .inr ⟨a, xs, rfl, g, fun c hc => q.use o (repL_keys p) k0 hc k⟩
theorem aE_list (hc : X.calm = true) (hm : X.mg "list" = none) (h : aE X e ρ S fun d S1 => ∃ l, (ResQ S1 d l ∨ ∃ m, ResD S1 d m ∧ l = m.map fun kv => kD kv.1) ∧ NewL l S1 Q) (hg : Gl X "list" := by rfl) (hs : starEach [e] X.env = (false, eval e X.env) :: starEach [] X.env := by rfl) :
    aE X (.Call (.Name "list" p) [e] [] pos) ρ S Q :=
  aE_fnT (CallR.or call_list_of (call_listD hc)) acall_list hm PyProof.Rows.boot_list (aA1 (h.mono fun d S' ⟨l, c, q⟩ => ⟨d, l, rfl, c, q⟩) hs) hg (he := hs)
def aTuple : ARel := fun ds S Q => ∃ d l, ds = [d] ∧ (ResL S d l ∨ d = .tup l ∨ ∃ ns : List Int, d = .scr ns ∧ l = ns.map D.int) ∧ Q (.tup l) S
theorem acall_tuple : ACall K (rTupN K) aTuple := fun ds S Q vs H S0 H0 R q o rr k0 k => by
  obtain ⟨d, l, ed, hh, q⟩ := q
  subst ed
  obtain ⟨v, ev, r⟩ := rep1 rr
  subst ev
  have fin : ∀ (xs : List V), RepL K (hid (adrs S) H) l xs → ∀ (p : Addr) (ob : Obj), H p = none → ob.dict = none → R (.ref p) (upd H p (.frz ob (.tup xs))) := fun xs px p ob hp hob => by
    obtain ⟨o2, k2⟩ := o.grow (o := .frz ob (.tup xs)) hp
    exact k _ _ _ _ q (k0.trans k2) o2 ⟨p, xs, rfl, .inl ⟨ob, by rw [hid_ne (o.out hp)]; exact upd_same, hob⟩, px.kp k2⟩
  rcases hh with h | h | ⟨ns, h, e⟩
  · obtain ⟨a, xs, e, g, p⟩ := h.use o r
    subst e
    exact ⟨a, xs, rfl, .inl ⟨.inl (.inl g), fin xs p⟩⟩
  · subst h
    obtain ⟨a, xs, e, g, p⟩ := _root_.id r
    subst e
    exact ⟨a, xs, rfl, .inr ⟨sqT_kp kp_hid g.sq, k _ _ _ _ q k0 o r⟩⟩
  · subst h; subst e
    obtain ⟨a, e, g⟩ := r
    subst e
    exact ⟨a, _, rfl, .inl ⟨sqL_kp kp_hid g, fin _ (RepL.ofInts ns)⟩⟩
theorem aE_tuple (hm : X.mg "tuple" = none) (h : aE X e ρ S fun d S1 => ∃ l, (ResL S1 d l ∨ d = .tup l ∨ ∃ ns : List Int, d = .scr ns ∧ l = ns.map D.int) ∧ Q (.tup l) S1) (hg : Gl X "tuple" := by rfl) (hs : starEach [e] X.env = (false, eval e X.env) :: starEach [] X.env := by rfl) :
    aE X (.Call (.Name "tuple" p) [e] [] pos) ρ S Q :=
  aE_fnT call_tupleN acall_tuple hm PyProof.Rows.boot_tuple (aA1 (h.mono fun d S' ⟨l, c, q⟩ => ⟨d, l, rfl, c, q⟩) hs) hg (he := hs)
theorem NewD.use {l : List (Key × D)} {H H0 : Hp} {S0 : Store} {xs : List (Key × V)} {R : VK} (n : NewD l S Q) (o1 : SOk K S H) (r1 : RepP K (hid (adrs S) H) l xs) (k1 : KpS S0 H0 S H) {p : Addr} (hp : H p = none)
    (k : ∀ v H' d S', Q d S' → KpS S0 H0 S' H' → SOk K S' H' → RepS1 K S' H' d v → R v H') : R (.ref p) (upd H p (.dK xs)) := by
  rcases n with q | q
  · obtain ⟨o2, k2⟩ := o1.grow (o := .dK xs) hp
    exact k _ _ _ _ q (k1.trans k2) o2 ⟨p, xs, rfl, .inl (by rw [hid_ne (o1.out hp)]; exact upd_same), r1.kp k2⟩
  · obtain ⟨o2, k2⟩ := o1.birth (o := .dK xs) (d := .dct l) hp ⟨xs, upd_same, r1⟩
    exact k _ _ _ _ (q p) (k1.trans k2) o2 rfl
def mergeP (l more : List (Key × D)) : List (Key × D) := more.foldl (fun acc kv => putP acc kv.1 kv.2) l
theorem RepP.merge {G : Hp} : ∀ {more : List (Key × D)} {ys : List (Key × V)} {l : List (Key × D)} {xs : List (Key × V)}, RepP K G l xs → RepP K G more ys → RepP K G (mergeP l more) (mergeK xs ys)
  | [], ys, l, xs, h, h' => by rw [show ys = [] from h']; exact h
  | (k, d) :: more, ys, l, xs, h, ⟨y, r, e, h1, h2⟩ => by
    rw [e]
    show RepP K G (mergeP (putP l k d) more) (mergeK (putK xs k y) r)
    exact RepP.merge (h.put h1) h2
/-- pairs of keys and values, as tuples -/
def pairT (l : List (Key × D)) : List D := l.map fun kv => D.tup [kD kv.1, kv.2]
theorem repL_pairs {G : Hp} : ∀ {l : List (Key × D)} {xs : List V}, RepL K G (pairT l) xs → ∃ (ps : List Addr) (kvs : List (Key × V)), xs = ps.map V.ref ∧ PySem.Paired (fun p kv => SqT K G p [kV kv.1, kv.2]) ps kvs ∧ RepP K G l kvs
  | [], xs, h => ⟨[], [], h, .nil, rfl⟩
  | (k, d) :: l, xs, ⟨x, r, e, ⟨a, ys, e1, g, p⟩, h2⟩ => by
    obtain ⟨ps, kvs, e2, h3, h4⟩ := repL_pairs h2
    obtain ⟨v, v2, e3, r1, r2⟩ := rep2 p
    have e4 : v = kV k := kD_rep r1
    subst e4; subst e3; subst e1; subst e2; subst e
    exact ⟨a :: ps, (k, v2) :: kvs, rfl, .cons g.sq h3, v2, kvs, rfl, r2, h4⟩
def aDict : ARel := fun ds S Q => ∃ d l, ds = [d] ∧ ((ResD S d l ∧ NewD l S Q) ∨ (ResL S d (pairT l) ∧ NewD (mergeP [] l) S Q))
theorem acall_dict : ACall K (fun xs H Q => (∃ (a : Addr) (kvs : List (Key × V)), xs = [V.ref a] ∧ Rd H a (.dK kvs) ∧ ∀ p, H p = none → Q (.ref p) (upd H p (.dK kvs))) ∨
    (∃ (a : Addr) (ps : List Addr) (kvs : List (Key × V)), xs = [V.ref a] ∧ SqL K H a (ps.map V.ref) ∧ PySem.Paired (fun p kv => SqT K H p [kV kv.1, kv.2]) ps kvs ∧ ∀ p, H p = none → Q (.ref p) (upd H p (.dK (mergeK [] kvs))))) aDict := fun ds S Q vs H S0 H0 R q o rr k0 k => by
  obtain ⟨d, l, ed, hh⟩ := q
  subst ed
  obtain ⟨v, ev, r⟩ := rep1 rr
  subst ev
  rcases hh with ⟨h, q⟩ | ⟨h, q⟩
  · obtain ⟨a, xs, e, g, p⟩ := h.use o r
    subst e
    exact .inl ⟨a, xs, rfl, g, fun c hc => q.use o p k0 hc k⟩
  · obtain ⟨a, xs, e, g, p⟩ := h.use o r
    subst e
    obtain ⟨ps, kvs, e2, h3, h4⟩ := repL_pairs p
    subst e2
    exact .inr ⟨a, ps, kvs, rfl, .inl (.inl g), Paired.mapP h3 fun _ _ z => sqT_kp kp_hid z, fun c hc => q.use o (RepP.merge (l := []) (xs := []) rfl h4) k0 hc k⟩
theorem aE_dict (hc : X.calm = true) (hm : X.mg "dict" = none) (h : aE X e ρ S fun d S1 => ∃ l, ((ResD S1 d l ∧ NewD l S1 Q) ∨ (ResL S1 d (pairT l) ∧ NewD (mergeP [] l) S1 Q))) (hg : Gl X "dict" := by rfl) (hs : starEach [e] X.env = (false, eval e X.env) :: starEach [] X.env := by rfl) :
    aE X (.Call (.Name "dict" p) [e] [] pos) ρ S Q :=
  aE_fnT (CallR.or call_dictD (call_dictP hc)) acall_dict hm PyProof.Rows.boot_dict (aA1 (h.mono fun d S' ⟨l, c⟩ => ⟨d, l, rfl, c⟩) hs) hg (he := hs)
/-! #### numbers -/
theorem acall_abs : ACall K (fun xs H Q => ∃ i, xs = [V.int i] ∧ Q (.int (if i < 0 then -i else i)) H) (fun ds S Q => ∃ i, ds = [.int i] ∧ Q (.int (if i < 0 then -i else i)) S) := fun ds S Q vs H S0 H0 R q o rr k0 k => by
  obtain ⟨i, ed, q⟩ := q
  subst ed
  obtain ⟨v, ev, r⟩ := rep1 rr
  subst ev
  exact ⟨i, by rw [show v = V.int i from r], k _ _ _ _ q k0 o rfl⟩
theorem aE_abs (hm : X.mg "abs" = none) (h : aE X e ρ S fun d S1 => ∃ i, d = .int i ∧ Q (.int (if i < 0 then -i else i)) S1) (hg : Gl X "abs" := by rfl) (hs : starEach [e] X.env = (false, eval e X.env) :: starEach [] X.env := by rfl) : aE X (.Call (.Name "abs" p) [e] [] pos) ρ S Q :=
  aE_fnB call_abs acall_abs hm PyProof.Rows.boot_abs (aA1 (h.mono fun d S' ⟨i, c, q⟩ => ⟨i, by rw [c], q⟩) hs) hg (he := hs)
theorem acall_2i {g : Int → Int → Int} : ACall K (fun xs H Q => ∃ i j, xs = [V.int i, .int j] ∧ Q (.int (g i j)) H) (fun ds S Q => ∃ i j, ds = [.int i, .int j] ∧ Q (.int (g i j)) S) := fun ds S Q vs H S0 H0 R q o rr k0 k => by
  obtain ⟨i, j, ed, q⟩ := q
  subst ed
  obtain ⟨v, v2, ev, r, r2⟩ := rep2 rr
  subst ev
  exact ⟨i, j, by rw [show v = V.int i from r, show v2 = V.int j from r2], k _ _ _ _ q k0 o rfl⟩
theorem aE_min2 (hc : X.calm = true) (hm : X.mg "min" = none) (h : aE X a ρ S fun d S1 => aE X b ρ S1 fun d2 S2 => ∃ i j, d = .int i ∧ d2 = .int j ∧ Q (.int (if j < i then j else i)) S2) (hg : Gl X "min" := by rfl)
    (hs : starEach [a, b] X.env = (false, eval a X.env) :: starEach [b] X.env := by rfl) (hs2 : starEach [b] X.env = (false, eval b X.env) :: starEach [] X.env := by rfl) (hpl : (backTo pos (starEach [b] X.env)).any (·.1) = false := by rfl) : aE X (.Call (.Name "min" p) [a, b] [] pos) ρ S Q :=
  aE_fnB (call_min2 hc) (acall_2i (g := fun i j => if j < i then j else i)) hm (by decide +kernel) (aA2 (h.mono fun d S' q => q.mono fun d2 S2 ⟨i, j, c, c2, q⟩ => ⟨i, j, by rw [c, c2], q⟩) hs hs2) hg (he := hs) (hpl := hpl)
theorem aE_max2 (hc : X.calm = true) (hm : X.mg "max" = none) (h : aE X a ρ S fun d S1 => aE X b ρ S1 fun d2 S2 => ∃ i j, d = .int i ∧ d2 = .int j ∧ Q (.int (if j > i then j else i)) S2) (hg : Gl X "max" := by rfl)
    (hs : starEach [a, b] X.env = (false, eval a X.env) :: starEach [b] X.env := by rfl) (hs2 : starEach [b] X.env = (false, eval b X.env) :: starEach [] X.env := by rfl) (hpl : (backTo pos (starEach [b] X.env)).any (·.1) = false := by rfl) : aE X (.Call (.Name "max" p) [a, b] [] pos) ρ S Q :=
  aE_fnB (call_max2 hc) (acall_2i (g := fun i j => if j > i then j else i)) hm (by decide +kernel) (aA2 (h.mono fun d S' q => q.mono fun d2 S2 ⟨i, j, c, c2, q⟩ => ⟨i, j, by rw [c, c2], q⟩) hs hs2) hg (he := hs) (hpl := hpl)
theorem acall_int : ACall K (fun xs H Q => (∃ i, xs = [V.int i] ∧ Q (.int i) H) ∨ ∃ k, xs = [V.bl k] ∧ Q (.int (if k then 1 else 0)) H) (fun ds S Q => (∃ i, ds = [.int i] ∧ Q (.int i) S) ∨ ∃ k, ds = [.bl k] ∧ Q (.int (if k then 1 else 0)) S) := fun ds S Q vs H S0 H0 R q o rr k0 k => by
  rcases q with ⟨i, ed, q⟩ | ⟨i, ed, q⟩
  · subst ed
    obtain ⟨v, ev, r⟩ := rep1 rr
    subst ev
    exact .inl ⟨i, by rw [show v = V.int i from r], k _ _ _ _ q k0 o rfl⟩
  · subst ed
    obtain ⟨v, ev, r⟩ := rep1 rr
    subst ev
    exact .inr ⟨i, by rw [show v = V.bl i from r], k _ _ _ _ q k0 o rfl⟩
theorem aE_intb (hm : X.mg "int" = none) (h : aE X e ρ S fun d S1 => ∃ c, d = .bl c ∧ Q (.int (if c then 1 else 0)) S1) (hg : Gl X "int" := by rfl) (hs : starEach [e] X.env = (false, eval e X.env) :: starEach [] X.env := by rfl) : aE X (.Call (.Name "int" p) [e] [] pos) ρ S Q :=
  aE_fnT call_int1 acall_int hm PyProof.Rows.boot_int (aA1 (h.mono fun d S' ⟨i, c, q⟩ => .inr ⟨i, by rw [c], q⟩) hs) hg (he := hs)
/-- sum of a list or a tuple of whole numbers -/
def rSumT (K : PySem.W.Frag) : List V → Hp → VK → Prop := fun vs H Q => ∃ (a : Addr) (ns : List Int), vs = [V.ref a] ∧ SqT K H a (ns.map V.int) ∧ Q (.int ns.sum) H
theorem ints_at {ns : List Int} {its : List Value} (r : Vals (ns.map V.int) its) {i : Nat} {v : Value} (h : its.toArray[i]? = some v) : ∃ t, v = .int (ns.getD i 0) t := by
  have h' : its[i]? = some v := by simpa using h
  have hl := r.length
  have hi : i < ns.length := by
    have := (List.getElem?_eq_some_iff.mp h').1
    rw [List.length_map] at hl
    omega
  obtain ⟨u, e1, t, e2⟩ := r.get (i := i) (x := .int ns[i]) (by rw [List.getElem?_map, List.getElem?_eq_getElem hi]; rfl)
  rw [h'] at e1
  cases e1
  exact ⟨t, by rw [List.getD_eq_getElem?_getD, List.getElem?_eq_getElem hi]; exact e2⟩
theorem cr_sumT (hc : X.calm = true) : CallR X (.builtin "sum") (rSumT X.K) := by
  intro pins s σ H vs us Q I r h
  obtain ⟨a, ns, rfl, hs, q⟩ := h
  obtain ⟨u, rfl, rx⟩ := vals1 r
  cases rx
  obtain ⟨its, rv, ht, hz⟩ := I.tuple hs
  have hl := rv.length
  have hlt : a < s.heap.objs.size := by obtain ⟨_, e, _⟩ := ht; exact Heap.lt_size e
  refine PySem.call_sum_walkG (PySem.wpAny_pyIter_tuple ht ⟨s.heap.objs.size, _, _, _, _, _, fun i => ns.getD i 0, rfl, Walks.tuple (A := X.A.in1) (I.ok.hd hc) _ a (Nat.ne_of_lt hlt) its.toArray, ⟨⟨_, Heap.get?_push_size _ rfl, rfl, rfl⟩, ht.push _⟩, fun b hb => ?_, fun i v hv => ints_at rv hv, fun h' tk t' hk => ?_⟩)
  · show b < (s.heap.push _).objs.size
    rw [Heap.size_push]
    rcases List.mem_cons.mp hb with z | z
    · rw [z]; exact Nat.lt_succ_self _
    · rcases List.mem_cons.mp z with z | z
      · rw [z]; exact Nat.lt_succ_of_lt hlt
      · cases z
  · have e : preSum (fun i => ns.getD i 0) its.toArray.size = ns.sum := by
      rw [PyProof.Rows.preSum_getD, List.size_toArray, ← hl, List.length_map, List.take_length]
    rw [e]
    refine ⟨.int ns.sum, H, I.kept (t' := tk) fun b o w => ?_, ⟨t', rfl⟩, q⟩
    refine hk b o (fun z => ?_) (Heap.get?_push_of_some _ w)
    rcases List.mem_cons.mp z with z | z
    · rw [z] at w; exact Nat.lt_irrefl _ (Heap.lt_size w)
    · cases z
def aSum : ARel := fun ds S Q => ∃ (d : D) (ns : List Int), ds = [d] ∧ ResQ S d (ns.map D.int) ∧ Q (.int (List.sum ns)) S
theorem acall_sum : ACall K (fun xs H Q => rSum K xs H Q ∨ rSumT K xs H Q) aSum := fun ds S Q vs H S0 H0 R q o rr k0 k => by
  obtain ⟨d, ns, ed, h, q⟩ := q
  subst ed
  obtain ⟨v, ev, r⟩ := rep1 rr
  subst ev
  obtain ⟨a, xs, e, g, p⟩ := h.use o r
  subst e
  rw [p.ints] at g
  rcases g with g | g
  · exact .inl ⟨a, ns, rfl, g, k _ _ _ _ q k0 o rfl⟩
  · exact .inr ⟨a, ns, rfl, g, k _ _ _ _ q k0 o rfl⟩
theorem aE_sum (hc : X.calm = true) (hm : X.mg "sum" = none) (h : aE X e ρ S fun d S1 => ∃ ns : List Int, ResQ S1 d (ns.map D.int) ∧ Q (.int (List.sum ns)) S1) (hg : Gl X "sum" := by rfl) (hs : starEach [e] X.env = (false, eval e X.env) :: starEach [] X.env := by rfl) : aE X (.Call (.Name "sum" p) [e] [] pos) ρ S Q :=
  aE_fnB (CallR.or (cr_sum hc) (cr_sumT hc)) acall_sum hm (by decide +kernel) (aA1 (h.mono fun d S' ⟨ns, c, q⟩ => ⟨d, ns, rfl, c, q⟩) hs) hg (he := hs)
/-- all of a list of bools -/
def aAll : ARel := fun ds S Q => ∃ (d : D) (bs : List Bool), ds = [d] ∧ ResL S d (bs.map D.bl) ∧ Q (.bl (bs.all _root_.id)) S
theorem acall_all : ACall K (rAll K) aAll := fun ds S Q vs H S0 H0 R q o rr k0 k => by
  obtain ⟨d, bs, ed, h, q⟩ := q
  subst ed
  obtain ⟨v, ev, r⟩ := rep1 rr
  subst ev
  obtain ⟨a, xs, e, g, p⟩ := h.use o r
  subst e
  rw [p.bools] at g
  exact ⟨a, bs, rfl, .inl (.inl g), k _ _ _ _ q k0 o rfl⟩
theorem aE_all (hc : X.calm = true) (hm : X.mg "all" = none) (h : aE X e ρ S fun d S1 => ∃ bs : List Bool, ResL S1 d (bs.map D.bl) ∧ Q (.bl (bs.all _root_.id)) S1) (hg : Gl X "all" := by rfl) (hs : starEach [e] X.env = (false, eval e X.env) :: starEach [] X.env := by rfl) : aE X (.Call (.Name "all" p) [e] [] pos) ρ S Q :=
  aE_fnB (cr_all hc) acall_all hm (by decide +kernel) (aA1 (h.mono fun d S' ⟨ns, c, q⟩ => ⟨d, ns, rfl, c, q⟩) hs) hg (he := hs)
end
end DL

namespace DL
open PySem L2

/-! ### methods of built-in types -/
abbrev AMRel := D → ARel
def AMt (K : PySem.W.Frag) (r : V → List V → Hp → VK → Prop) (rA : AMRel) : Prop :=
  ∀ t ds S Q x vs H S0 H0 (R : VK), rA t ds S Q → SOk K S H → RepS1 K S H t x → RepL K (hid (adrs S) H) ds vs → KpS S0 H0 S H → (∀ v H' d S', Q d S' → KpS S0 H0 S' H' → SOk K S' H' → RepS1 K S' H' d v → R v H') → r x vs H R
section
variable {X : Cx} {ρ : Sl} {S : Store} {Q : D → Store → Prop} {pos p apos cpos : Pos} {a b e f o : Expr} {es : List Expr} {K : PySem.W.Frag} {name : Str} {id T : String} {r : V → List V → Hp → VK → Prop} {rA : AMRel} {ty : V → Hp → Prop} {tyA : D → Store → Prop}
/-- the receiver's type, by data -/
def ATy (K : PySem.W.Frag) (ty : V → Hp → Prop) (tyA : D → Store → Prop) : Prop := ∀ t S x H, tyA t S → SOk K S H → RepS1 K S H t x → ty x H
theorem aE_mG (ht : TyOk X T ty) (hT : ATy X.K ty tyA) (pa : PySem.PlainAttrs T) (slot : PySem.Slot T name id) (hty : typeOf (.builtin id) = pure (.type "method_descriptor")) (hm : MtR X id r) (hA : AMt X.K r rA)
    (h : aE X o ρ S fun t S1 => tyA t S1 ∧ aA X (e :: es) ρ S1 fun ds S2 => rA t ds S2 Q) (hbase : attributeBase o name X.env (eval o X.env) = eval o X.env := by rfl)
    (hfew : ((backTo cpos (starEach (e :: es) X.env)).all (fun x => !x.1) && (backToKw cpos (keywordEach [] X.env)).all (fun x => x.1.isSome)
      && decide ((e :: es).length + ([] : List Keyword).length + (if ([] : List Keyword).isEmpty then 0 else 1) < 30)) = true := by rfl)
    (hline : (apos.endLine == cpos.line) = true := by rfl) (hs : starEach (e :: es) X.env = (false, eval e X.env) :: starEach es X.env := by rfl) (hplain : (backTo cpos (starEach es X.env)).any (·.1) = false := by rfl) :
    aE X (.Call (.Attribute o name apos) (e :: es) [] cpos) ρ S Q := fun σ H R s k => by
  refine w_pe (pe_mG ht pa slot hty hm pe_w pa_w hbase hfew hline hs hplain) ?_
  refine h σ H _ s fun x H1 t S1 ⟨q0, q1⟩ k1 o1 r1 => ⟨hT t S1 x H1 q0 o1 r1, ?_⟩
  refine q1 σ H1 _ (s.next k1 o1) fun vs H2 ds S2 q2 k2 o2 r2 => ?_
  exact hA t ds S2 Q x vs H2 S H R q2 o2 (r1.kp k2) r2 (k1.trans k2) k
theorem aE_mG0 (ht : TyOk X T ty) (hT : ATy X.K ty tyA) (pa : PySem.PlainAttrs T) (slot : PySem.Slot T name id) (hty : typeOf (.builtin id) = pure (.type "method_descriptor")) (hm : MtR X id r) (hA : AMt X.K r rA)
    (h : aE X o ρ S fun t S1 => tyA t S1 ∧ rA t [] S1 Q) (hbase : attributeBase o name X.env (eval o X.env) = eval o X.env := by rfl) (hline : (apos.endLine == cpos.line) = true := by rfl) :
    aE X (.Call (.Attribute o name apos) [] [] cpos) ρ S Q := fun σ H R s k => by
  refine w_pe (pe_mG0 ht pa slot hty hm pe_w hbase hline) ?_
  refine h σ H _ s fun x H1 t S1 ⟨q0, q1⟩ k1 o1 r1 => ⟨hT t S1 x H1 q0 o1 r1, ?_⟩
  exact hA t [] S1 Q x [] H1 S H R q1 o1 r1 rfl k1 k
/-! #### lists -/
def tyLst (K : PySem.W.Frag) (x : V) (H : Hp) : Prop := tyV K "list" x H
theorem ty_lst : TyOk X "list" (tyLst X.K) := fun pins σ H s x v I r ty => tyV_is I r ty
def isL (t : D) (S : Store) : Prop := ∃ l, ResL S t l
theorem aty_lst : ATy K (tyLst K) isL := fun t S x H ⟨l, h⟩ o r => by
  obtain ⟨a, xs, e, g, p⟩ := h.use o r
  subst e
  exact .inl ⟨rfl, xs, .inl (.inl g)⟩
/-- the list at S's i-th place -/
def AtL (t : D) (S : Store) (i : Nat) (q : Addr) (l : List D) : Prop := t = .adr q ∧ S[i]? = some (q, .lst l)
theorem AtL.isL {t : D} {i : Nat} {q : Addr} {l : List D} (h : AtL t S i q l) : DL.isL t S := ⟨l, .inr ⟨i, q, h⟩⟩
def aApp : AMRel := fun t ds S Q => ∃ i q l d, AtL t S i q l ∧ ds = [d] ∧ l.length < 100000 ∧ Q .non (S.set i (q, .lst (l ++ [d])))
theorem amt_app : AMt K rAppend aApp := fun t ds S Q x vs H S0 H0 R hq o r rr k0 k => by
  obtain ⟨i, q, l, d, ⟨e, hi⟩, ed, hl, hq⟩ := hq
  subst e; subst ed
  obtain ⟨v, ev, rv⟩ := rep1 rr
  subst ev
  have ex : x = .ref q := r
  subst ex
  obtain ⟨xs, g, pp⟩ := o.ok _ (List.mem_of_getElem? hi)
  obtain ⟨o4, k4⟩ := o.write (o := .lst (xs ++ [v])) (d' := .lst (l ++ [d])) hi ⟨_, upd_same, pp.app (RepL.one rv)⟩
  exact ⟨q, xs, v, rfl, rfl, g, by rw [pp.len]; exact sz_lt hl, k _ _ _ _ hq (k0.trans k4) o4 rfl⟩
theorem aE_append (h : aE X o ρ S fun t S1 => isL t S1 ∧ aE X e ρ S1 fun d S2 => ∃ i q l, AtL t S2 i q l ∧ l.length < 100000 ∧ Q .non (S2.set i (q, .lst (l ++ [d])))) (hbase : attributeBase o "append" X.env (eval o X.env) = eval o X.env := by rfl)
    (hfew : ((backTo cpos (starEach [e] X.env)).all (fun x => !x.1) && (backToKw cpos (keywordEach [] X.env)).all (fun x => x.1.isSome)
      && decide (([e] : List Expr).length + ([] : List Keyword).length + (if ([] : List Keyword).isEmpty then 0 else 1) < 30)) = true := by rfl)
    (hline : (apos.endLine == cpos.line) = true := by rfl) (hs : starEach [e] X.env = (false, eval e X.env) :: starEach [] X.env := by rfl) :
    aE X (.Call (.Attribute o "append" apos) [e] [] cpos) ρ S Q :=
  aE_mG ty_lst aty_lst PySem.F.plainAttrs_list PySem.F.slot_list_append PySem.F.type_list_append mt_append amt_app (h.mono fun t S1 ⟨q1, q2⟩ => ⟨q1, aA1 (q2.mono fun d S2 ⟨i, q, l, c, hl, z⟩ => ⟨i, q, l, d, c, rfl, hl, z⟩) hs⟩) hbase hfew hline hs
def aPop : AMRel := fun t ds S Q => ∃ i q l d, AtL t S i q (l ++ [d]) ∧ ds = [] ∧ Q d (S.set i (q, .lst l))
theorem RepL.snoc {G : Hp} {l : List D} {d : D} {xs : List V} (h : RepL K G (l ++ [d]) xs) : ∃ ys v, xs = ys ++ [v] ∧ RepL K G l ys ∧ Rep K G d v := by
  induction l generalizing xs with
  | nil =>
    obtain ⟨v, e, r⟩ := rep1 (show RepL K G [d] xs from h)
    exact ⟨[], v, e, rfl, r⟩
  | cons c l ih =>
    obtain ⟨x, r, e, h1, h2⟩ := (show RepL K G (c :: (l ++ [d])) xs from h)
    obtain ⟨ys, v, e2, h3, h4⟩ := ih h2
    exact ⟨x :: ys, v, by rw [e, e2]; rfl, ⟨x, ys, rfl, h1, h3⟩, h4⟩
theorem amt_pop : AMt K rPop aPop := fun t ds S Q x vs H S0 H0 R hq o r rr k0 k => by
  obtain ⟨i, q, l, d, ⟨e, hi⟩, ed, hq⟩ := hq
  subst e; subst ed
  have ev : vs = [] := rr
  subst ev
  have ex : x = .ref q := r
  subst ex
  obtain ⟨xs, g, pp⟩ := o.ok _ (List.mem_of_getElem? hi)
  obtain ⟨ys, v, e2, h3, h4⟩ := pp.snoc
  subst e2
  obtain ⟨o4, k4⟩ := o.write (o := .lst ys) (d' := .lst l) hi ⟨_, upd_same, h3⟩
  refine ⟨q, _, v, rfl, rfl, g, by simp, ?_⟩
  rw [List.dropLast_concat]
  exact k _ _ _ _ hq (k0.trans k4) o4 (h4.kp k4)
theorem aE_pop (h : aE X o ρ S fun t S1 => ∃ i q l d, AtL t S1 i q (l ++ [d]) ∧ Q d (S1.set i (q, .lst l))) (hbase : attributeBase o "pop" X.env (eval o X.env) = eval o X.env := by rfl) (hline : (apos.endLine == cpos.line) = true := by rfl) :
    aE X (.Call (.Attribute o "pop" apos) [] [] cpos) ρ S Q :=
  aE_mG0 ty_lst aty_lst PySem.F.plainAttrs_list PySem.F.slot_list_pop PySem.F.type_list_pop mt_pop amt_pop (h.mono fun t S1 ⟨i, q, l, d, c, z⟩ => ⟨c.isL, i, q, l, d, c, rfl, z⟩) hbase hline
def aPopAt : AMRel := fun t ds S Q => ∃ i q l n j d, AtL t S i q l ∧ ds = [.int n] ∧ l.length ≤ 100000 ∧ ixN l.length n = some j ∧ l[j]? = some d ∧ Q d (S.set i (q, .lst (l.eraseIdx j)))
theorem RepL.erase {G : Hp} : ∀ {l : List D} {xs : List V} (j : Nat), RepL K G l xs → RepL K G (l.eraseIdx j) (xs.eraseIdx j)
  | [], xs, j, h => by rw [show xs = [] from h]; exact rfl
  | c :: l, xs, 0, ⟨x, r, e, h1, h2⟩ => by rw [e]; exact h2
  | c :: l, xs, j + 1, ⟨x, r, e, h1, h2⟩ => by rw [e]; exact ⟨x, _, rfl, h1, RepL.erase j h2⟩
theorem amt_popAt : AMt K rPopAt aPopAt := fun t ds S Q x vs H S0 H0 R hq o r rr k0 k => by
  obtain ⟨i, q, l, n, j, d, ⟨e, hi⟩, ed, hl, hj, hd, hq⟩ := hq
  subst e; subst ed
  obtain ⟨v, ev, rv⟩ := rep1 rr
  subst ev
  have ex : x = .ref q := r
  subst ex
  have ey : v = .int n := rv
  subst ey
  obtain ⟨xs, g, pp⟩ := o.ok _ (List.mem_of_getElem? hi)
  obtain ⟨h1, h2, h3, h4⟩ := ixN_seq hj
  obtain ⟨y, hy, ry⟩ := pp.get hd
  obtain ⟨o4, k4⟩ := o.write (o := .lst (xs.eraseIdx j)) (d' := .lst (l.eraseIdx j)) hi ⟨_, upd_same, pp.erase j⟩
  exact ⟨q, xs, n, j, y, rfl, rfl, g, by omega, by omega, by rw [pp.len]; exact h1, hy, k _ _ _ _ hq (k0.trans k4) o4 (ry.kp k4)⟩
theorem aE_popAt (h : aE X o ρ S fun t S1 => isL t S1 ∧ aE X e ρ S1 fun d2 S2 => ∃ i q l n j d, AtL t S2 i q l ∧ d2 = .int n ∧ l.length ≤ 100000 ∧ ixN l.length n = some j ∧ l[j]? = some d ∧ Q d (S2.set i (q, .lst (l.eraseIdx j)))) (hbase : attributeBase o "pop" X.env (eval o X.env) = eval o X.env := by rfl)
    (hfew : ((backTo cpos (starEach [e] X.env)).all (fun x => !x.1) && (backToKw cpos (keywordEach [] X.env)).all (fun x => x.1.isSome)
      && decide (([e] : List Expr).length + ([] : List Keyword).length + (if ([] : List Keyword).isEmpty then 0 else 1) < 30)) = true := by rfl)
    (hline : (apos.endLine == cpos.line) = true := by rfl) (hs : starEach [e] X.env = (false, eval e X.env) :: starEach [] X.env := by rfl) :
    aE X (.Call (.Attribute o "pop" apos) [e] [] cpos) ρ S Q :=
  aE_mG ty_lst aty_lst PySem.F.plainAttrs_list PySem.F.slot_list_pop PySem.F.type_list_pop mt_popAt amt_popAt (h.mono fun t S1 ⟨q1, q2⟩ => ⟨q1, aA1 (q2.mono fun d2 S2 ⟨i, q, l, n, j, d, c, e2, z⟩ => ⟨i, q, l, n, j, d, c, by rw [e2], z⟩) hs⟩) hbase hfew hline hs
def aClear : AMRel := fun t ds S Q => ∃ i q l, AtL t S i q l ∧ ds = [] ∧ Q .non (S.set i (q, .lst []))
theorem amt_clear : AMt K rClear aClear := fun t ds S Q x vs H S0 H0 R hq o r rr k0 k => by
  obtain ⟨i, q, l, ⟨e, hi⟩, ed, hq⟩ := hq
  subst e; subst ed
  have ev : vs = [] := rr
  subst ev
  have ex : x = .ref q := r
  subst ex
  obtain ⟨xs, g, pp⟩ := o.ok _ (List.mem_of_getElem? hi)
  obtain ⟨o4, k4⟩ := o.write (o := .lst []) (d' := .lst []) hi ⟨_, upd_same, rfl⟩
  exact ⟨q, _, rfl, rfl, g, k _ _ _ _ hq (k0.trans k4) o4 rfl⟩
theorem aE_clear (h : aE X o ρ S fun t S1 => ∃ i q l, AtL t S1 i q l ∧ Q .non (S1.set i (q, .lst []))) (hbase : attributeBase o "clear" X.env (eval o X.env) = eval o X.env := by rfl) (hline : (apos.endLine == cpos.line) = true := by rfl) :
    aE X (.Call (.Attribute o "clear" apos) [] [] cpos) ρ S Q :=
  aE_mG0 ty_lst aty_lst PySem.F.plainAttrs_list PySem.F.slot_list_clear PySem.F.type_list_clear mt_clear amt_clear (h.mono fun t S1 ⟨i, q, l, c, z⟩ => ⟨c.isL, i, q, l, c, rfl, z⟩) hbase hline
/-- the place of a text -/
def aIndex : AMRel := fun t ds S Q => ∃ (z : Str) (zs : List Str), ResL S t (zs.map D.str) ∧ ds = [.str z] ∧ z ∈ zs ∧ Q (.int (zs.idxOf z : Nat)) S
theorem amt_index : AMt K (rIndex K) aIndex := fun t ds S Q x vs H S0 H0 R hq o r rr k0 k => by
  obtain ⟨z, zs, h, ed, hz, hq⟩ := hq
  subst ed
  obtain ⟨v, ev, rv⟩ := rep1 rr
  subst ev
  have ex : v = .str z := rv
  subst ex
  obtain ⟨a, xs, e, g, p⟩ := h.use o r
  subst e
  rw [p.strs] at g
  have hlt : zs.idxOf z < zs.length := List.idxOf_lt_length_iff.mpr hz
  refine ⟨a, _, .str z, zs.idxOf z, .str z, rfl, rfl, .inl (.inl g), rfl, flat_strs zs, ?_, by show (z == z) = true; exact beq_self_eq_true z, fun m z' hm hz' => ?_, k _ _ _ _ hq k0 o rfl⟩
  · rw [List.getElem?_map, List.getElem?_eq_getElem hlt, List.getElem_idxOf hlt]; rfl
  · rw [List.getElem?_map] at hz'
    obtain ⟨y, hy, ey⟩ := Option.map_eq_some_iff.mp hz'
    subst ey
    have hml := (List.getElem?_eq_some_iff.mp hy)
    obtain ⟨h1, h2⟩ := hml
    have := List.not_of_lt_findIdx (p := (· == z)) (xs := zs) (i := m) hm
    show (y == z) = false
    rw [← h2]
    simpa using this
theorem aE_index (h : aE X o ρ S fun t S1 => isL t S1 ∧ aE X e ρ S1 fun d S2 => ∃ (z : Str) (zs : List Str), ResL S2 t (zs.map D.str) ∧ d = .str z ∧ z ∈ zs ∧ Q (.int (zs.idxOf z : Nat)) S2) (hbase : attributeBase o "index" X.env (eval o X.env) = eval o X.env := by rfl)
    (hfew : ((backTo cpos (starEach [e] X.env)).all (fun x => !x.1) && (backToKw cpos (keywordEach [] X.env)).all (fun x => x.1.isSome)
      && decide (([e] : List Expr).length + ([] : List Keyword).length + (if ([] : List Keyword).isEmpty then 0 else 1) < 30)) = true := by rfl)
    (hline : (apos.endLine == cpos.line) = true := by rfl) (hs : starEach [e] X.env = (false, eval e X.env) :: starEach [] X.env := by rfl) :
    aE X (.Call (.Attribute o "index" apos) [e] [] cpos) ρ S Q :=
  aE_mG ty_lst aty_lst PySem.F.plainAttrs_list PySem.F.slot_list_index PySem.F.type_list_index mt_index amt_index (h.mono fun t S1 ⟨q1, q2⟩ => ⟨q1, aA1 (q2.mono fun d S2 ⟨z, zs, c, e2, y⟩ => ⟨z, zs, c, by rw [e2], y⟩) hs⟩) hbase hfew hline hs
/-- how often a text stands there -/
theorem count_eqU {z : Str} : ∀ {zs : List Str} {us : List Value}, Vals (zs.map V.str) us → us.countP (eqU (.str z)) = zs.count z
  | [], us, r => by cases r; rfl
  | y :: zs, us, r => by
    rw [List.map_cons] at r
    cases r with
    | cons r1 r2 =>
      rw [List.countP_cons, List.count_cons, count_eqU r2, eqU_of r1 rfl]
      rfl
def rCntS (B : Addr → List V → Hp → Prop) : V → List V → Hp → VK → Prop := fun x xs H Q => ∃ (p : Addr) (zs : List Str) (z : Str), x = .ref p ∧ xs = [.str z] ∧ B p (zs.map V.str) H ∧ Q (.int (zs.count z : Nat)) H
theorem mt_countS : MtR X "list.count" (rCntS fun p xs H => SqL X.K H p xs) := by
  intro pins s σ H x xs v us Q I rx rxs h
  obtain ⟨p, zs, z, rfl, rfl, hs, q⟩ := h
  cases rx
  obtain ⟨u, rfl, ru⟩ := rxs.one
  obtain ⟨its, rv, ⟨⟨cls, dd, data, sl⟩, n, ho, hc, hdn, hd⟩, hlen⟩ := I.list hs
  simp only at hc hd
  subst hc hd
  refine PySem.call_meets PySem.F.slot_list_count ⟨_, ho, rfl⟩ PySem.F.entry_list_count (PySem.F.args_list_count_2 _ _) (SeqAt.list_countAt p its.toArray n dd sl u (eqU (.str z))) ⟨ho, fun y hy => mem_eqAt ru rfl rv (flat_strs zs) y (by simpa using hy), ?_⟩
  exact ⟨.int (zs.count z : Nat), H, I.tok _, ⟨s.toks, by rw [show its.toArray.toList = its from rfl, count_eqU rv]⟩, q⟩
theorem mt_countT : MtR X "tuple.count" (rCntS fun p xs H => SqT X.K H p xs) := by
  intro pins s σ H x xs v us Q I rx rxs h
  obtain ⟨p, zs, z, rfl, rfl, hs, q⟩ := h
  cases rx
  obtain ⟨u, rfl, ru⟩ := rxs.one
  obtain ⟨its, rv, ⟨⟨cls, dd, data, sl⟩, ho, hc, n, hd⟩, hlen⟩ := I.tuple hs
  simp only at hc hd
  subst hc hd
  refine PySem.call_meets PySem.F.slot_tuple_count ⟨_, ho, rfl⟩ PySem.F.entry_tuple_count (PySem.F.args_tuple_count_2 _ _) (SeqAt.tuple_countAt p its.toArray n dd sl u (eqU (.str z))) ⟨ho, fun y hy => mem_eqAt ru rfl rv (flat_strs zs) y (by simpa using hy), ?_⟩
  exact ⟨.int (zs.count z : Nat), H, I.tok _, ⟨s.toks, by rw [show its.toArray.toList = its from rfl, count_eqU rv]⟩, q⟩
def aCount : AMRel := fun t ds S Q => ∃ (z : Str) (zs : List Str), ResL S t (zs.map D.str) ∧ ds = [.str z] ∧ Q (.int (zs.count z : Nat)) S
theorem amt_count : AMt K (rCntS fun p xs H => SqL K H p xs) aCount := fun t ds S Q x vs H S0 H0 R hq o r rr k0 k => by
  obtain ⟨z, zs, h, ed, hq⟩ := hq
  subst ed
  obtain ⟨v, ev, rv⟩ := rep1 rr
  subst ev
  have ex : v = .str z := rv
  subst ex
  obtain ⟨a, xs, e, g, p⟩ := h.use o r
  subst e
  rw [p.strs] at g
  exact ⟨a, zs, z, rfl, rfl, .inl (.inl g), k _ _ _ _ hq k0 o rfl⟩
def aCountT : AMRel := fun t ds S Q => ∃ (z : Str) (zs : List Str), t = .tup (zs.map D.str) ∧ ds = [.str z] ∧ Q (.int (zs.count z : Nat)) S
theorem amt_countT : AMt K (rCntS fun p xs H => SqT K H p xs) aCountT := fun t ds S Q x vs H S0 H0 R hq o r rr k0 k => by
  obtain ⟨z, zs, h, ed, hq⟩ := hq
  subst ed; subst h
  obtain ⟨v, ev, rv⟩ := rep1 rr
  subst ev
  have ex : v = .str z := rv
  subst ex
  obtain ⟨a, xs, e, g, p⟩ := r
  subst e
  replace g := g.sq
  rw [p.strs] at g
  exact ⟨a, zs, z, rfl, rfl, sqT_kp kp_hid g, k _ _ _ _ hq k0 o rfl⟩
def isT (t : D) (_ : Store) : Prop := ∃ l, t = .tup l
theorem aty_tup : ATy K (tyTup K) isT := fun t S x H ⟨l, h⟩ o r => by
  subst h
  obtain ⟨a, xs, e, g, p⟩ := r
  exact ⟨a, xs, e, g.kq kp_hid.toKq⟩
theorem aE_count (h : aE X o ρ S fun t S1 => isL t S1 ∧ aE X e ρ S1 fun d S2 => ∃ (z : Str) (zs : List Str), ResL S2 t (zs.map D.str) ∧ d = .str z ∧ Q (.int (zs.count z : Nat)) S2) (hbase : attributeBase o "count" X.env (eval o X.env) = eval o X.env := by rfl)
    (hfew : ((backTo cpos (starEach [e] X.env)).all (fun x => !x.1) && (backToKw cpos (keywordEach [] X.env)).all (fun x => x.1.isSome)
      && decide (([e] : List Expr).length + ([] : List Keyword).length + (if ([] : List Keyword).isEmpty then 0 else 1) < 30)) = true := by rfl)
    (hline : (apos.endLine == cpos.line) = true := by rfl) (hs : starEach [e] X.env = (false, eval e X.env) :: starEach [] X.env := by rfl) :
    aE X (.Call (.Attribute o "count" apos) [e] [] cpos) ρ S Q :=
  aE_mG ty_lst aty_lst PySem.F.plainAttrs_list PySem.F.slot_list_count PySem.F.type_list_count mt_countS amt_count (h.mono fun t S1 ⟨q1, q2⟩ => ⟨q1, aA1 (q2.mono fun d S2 ⟨z, zs, c, e2, y⟩ => ⟨z, zs, c, by rw [e2], y⟩) hs⟩) hbase hfew hline hs
theorem aE_countT (h : aE X o ρ S fun t S1 => isT t S1 ∧ aE X e ρ S1 fun d S2 => ∃ (z : Str) (zs : List Str), t = .tup (zs.map D.str) ∧ d = .str z ∧ Q (.int (zs.count z : Nat)) S2) (hbase : attributeBase o "count" X.env (eval o X.env) = eval o X.env := by rfl)
    (hfew : ((backTo cpos (starEach [e] X.env)).all (fun x => !x.1) && (backToKw cpos (keywordEach [] X.env)).all (fun x => x.1.isSome)
      && decide (([e] : List Expr).length + ([] : List Keyword).length + (if ([] : List Keyword).isEmpty then 0 else 1) < 30)) = true := by rfl)
    (hline : (apos.endLine == cpos.line) = true := by rfl) (hs : starEach [e] X.env = (false, eval e X.env) :: starEach [] X.env := by rfl) :
    aE X (.Call (.Attribute o "count" apos) [e] [] cpos) ρ S Q :=
  aE_mG ty_tup aty_tup PySem.F.plainAttrs_tuple PySem.F.slot_tuple_count PySem.F.type_tuple_count mt_countT amt_countT (h.mono fun t S1 ⟨q1, q2⟩ => ⟨q1, aA1 (q2.mono fun d S2 ⟨z, zs, c, e2, y⟩ => ⟨z, zs, c, by rw [e2], y⟩) hs⟩) hbase hfew hline hs
/-! #### d.get(k, x) -/
theorem aE_get2 (hu : X.A.units + 64 < cLine) (h : aE X o ρ S fun t S1 => (∃ l, ResD S1 t l) ∧ aE X e ρ S1 fun d S2 => aE X f ρ S2 fun d2 S3 => ∃ (k : Key) (l : List (Key × D)), d = kD k ∧ ResD S3 t l ∧ Q ((valP l k).getD d2) S3)
    (m : M2 X o "get" apos e f cpos := by exact ⟨rfl, rfl, rfl, rfl⟩) : aE X (.Call (.Attribute o "get" apos) [e, f] [] cpos) ρ S Q := fun σ H R s k => by
  refine w_pe (pe_dget2 (by omega) pe_w pe_w pe_w m) ?_
  refine h σ H _ s fun x H1 t S1 ⟨⟨l0, q0⟩, q1⟩ k1 o1 r1 => ?_
  obtain ⟨a0, xs0, e0, g0, p0⟩ := q0.use o1 r1
  refine ⟨a0, e0, .inl ⟨xs0, g0⟩, ?_⟩
  refine q1 σ H1 _ (s.next k1 o1) fun y H2 d S2 q2 k2 o2 r2 => ?_
  refine q2 σ H2 _ (s.next (k1.trans k2) o2) fun z H3 d2 S3 ⟨ky, l, ed, hl, q3⟩ k3 o3 r3 => ?_
  subst ed
  obtain ⟨a, xs, e1, g, p⟩ := hl.use o3 ((r1.kp k2).kp k3)
  have ea : a0 = a := by rw [e0] at e1; cases e1; rfl
  subst ea
  obtain ⟨oo, dg, e2, e3⟩ := dget_of g p ky
  rw [kD_rep r2]
  refine ⟨oo, dg, ?_⟩
  refine k _ _ _ _ q3 ((k1.trans k2).trans k3) o3 ?_
  cases hv : valP l ky with
  | none =>
    rw [hv] at e2
    have : oo = none := by cases oo with | none => rfl | some _ => cases e2
    rw [this]
    exact r3
  | some d' =>
    obtain ⟨v, ev, rv⟩ := e3 d' hv
    rw [ev]
    exact rv
/-! #### sep.join(xs) -/
theorem aE_join (h : aE X o ρ S fun t S1 => (∃ a, t = .str a) ∧ aE X e ρ S1 fun d S2 => ∃ (a : Str) (ys : List Str), t = .str a ∧ ResQ S2 d (ys.map D.str) ∧ (ys.map (·.length)).sum + ys.length * a.length ≤ 16777216 ∧ Q (.str (Txt.join a ys)) S2)
    (hs : starEach [e] X.env = [(false, eval e X.env)] := by rfl) (hbase : attributeBase o "join" X.env (eval o X.env) = eval o X.env := by rfl) (hline : (apos.endLine == pos.line) = true := by rfl) : aE X (.Call (.Attribute o "join" apos) [e] [] pos) ρ S Q := fun σ H R s k => by
  refine w_pe (pe_join pe_w pe_w hs hbase hline) ?_
  refine h σ H _ s fun x H1 t S1 ⟨⟨a, ea⟩, q1⟩ k1 o1 r1 => ?_
  subst ea
  have ex : x = .str a := r1
  subst ex
  refine ⟨⟨a, rfl⟩, ?_⟩
  refine q1 σ H1 _ (s.next k1 o1) fun y H2 d S2 ⟨a', ys, e1, hl, hz, q2⟩ k2 o2 r2 => ?_
  cases e1
  obtain ⟨p, xs, e2, g, pp⟩ := hl.use o2 r2
  subst e2
  rw [pp.strs] at g
  exact ⟨a, p, ys, rfl, rfl, g, hz, k _ _ _ _ q2 (k1.trans k2) o2 rfl⟩
end
end DL

namespace DL
open PySem PySem.Spec PyProof.Rows L2

/-! ### targets: word, *names = a tuple; a, b = a list; three at once -/
theorem items_star {prog : Program} {w : World} {A : Around} {E : Value → Shared → Prop} {s : Shared} {t : Addr} {x : Value} {its : List Value} {Q : List Value → Shared → Prop} (hh : A.handled = none) (ht : s.heap.IsTuple t (x :: its).toArray) (hz : (x :: its).length ≤ sizeLine)
    (hQ : ∀ (h' : Heap) (tk : Nat), (∀ b o, s.heap.get? b = some o → h'.get? b = some o) → Q [x, .ref h'.objs.size] { s with heap := h'.push { cls := .type "list", data := .seq its.toArray }, toks := tk }) :
    wpAny (model prog w) A (unpackItems (.ref t) 2 (some 1)) Q E s := by
  have hlt : t < s.heap.objs.size := let ⟨_, e, _⟩ := ht; Heap.lt_size e
  have hne : t ≠ s.heap.objs.size := Nat.ne_of_lt hlt
  unfold unpackItems notIterableAtAll
  refine wpAny_bind (wpAny_bind (wpAny_specialOf ht.typeIs PySem.F.slot_tuple_iter.lookup (wpAny_pure ?_)))
  simp only [Bool.false_eq_true, if_false, Option.isNone_some]
  refine wpAny_bind (wpAny_holding (PySem.wpAny_pyIter_tuple ht ?_))
  refine wpAny_bind (wpAny_holding (PySem.wpAny_draw_tuple hne 1 0 _ _ ⟨_, Heap.get?_push_size _ rfl, rfl, rfl⟩ (ht.push _) (by simp) fun h1 hit sb => ?_))
  have ht1 : h1.IsTuple t (x :: its).toArray := (ht.push _).extBut sb.extBut hne
  have a1 : s.heap.objs.size < h1.objs.size := let ⟨_, e, _⟩ := hit; Heap.lt_size e
  have a2 : t < h1.objs.size := let ⟨_, e, _⟩ := ht1; Heap.lt_size e
  show wpAny _ _ (if [x].length < 1 then _ else _) _ _ _
  rw [if_neg (show ¬ [x].length < 1 by simp)]
  refine wpAny_bind (wpAny_holding (PySem.W.kun_collect (s := { s with heap := h1 }) (T := "tuple_iterator") (.inr (.inr (.inr rfl))) (Walks.tuple (A := A.in1) hh s.heap.objs.size t hne (x :: its).toArray) (fun j u st => st.1.typeIs) (k := 1) (by simp) ⟨hit, ht1⟩ a1 a2 (fun h2 tk hk => ?_) (by simpa using hz)))
  have el : (x :: its).toArray.toList.drop 1 = its := rfl
  rw [el]
  show wpAny _ _ (if its.length < 2 - 1 - 1 then _ else _) _ _ _
  rw [if_neg (by omega)]
  show wpAny _ _ (newList (its.take (its.length - (2 - 1 - 1))) >>= fun d => pure ([x] ++ [d] ++ its.drop (its.length - (2 - 1 - 1)))) _ _ _
  have e0 : its.length - (2 - 1 - 1) = its.length := by omega
  rw [e0, List.take_length, List.drop_length]
  have kp : ∀ b o, s.heap.get? b = some o → h2.get? b = some o := fun b o q => by
    have hb : b ≠ s.heap.objs.size := Nat.ne_of_lt (Heap.lt_size q)
    exact hk b o hb (sb.extBut b o hb (Heap.get?_push_of_some _ q))
  refine wpAny_bind (wpAny_newList (wpAny_pure ?_) (by simp only [List.length_cons] at hz; omega))
  exact hQ h2 tk kp
/-- word, *names = a tuple that is not empty -/
def gStar (K : PySem.W.Frag) (i j : Nat) : TG := fun v σ H Q => ∃ a x xs, v = .ref a ∧ SqT K H a (x :: xs) ∧ ∀ p, H p = none → Q ((σ.set i (some x)).set j (some (.ref p))) (upd H p (.lst xs))
section
variable {X : Cx} {ρ : Sl} {S : Store} {E : AEnds} {pos p1 p2 p3 p4 : Pos} {a b c e : Expr} {K : PySem.W.Frag} {x y z : Str} {k : Nat}
theorem pg_star (i j : Nat) (hc : X.calm = true) (hN : X.N.Nodup) (hi : X.N[i]? = some x) (hj : X.N[j]? = some y) (hx : X.env.scope.names.lookup x = some .local) (hy : X.env.scope.names.lookup y = some .local)
    (he : (assignEach [.Name x p1, .Starred (.Name y p2) p3] X.env) = [(false, assign (.Name x p1) X.env), (true, assign (.Name y p2) X.env)] := by rfl)
    (he2 : (assignEach [.Name x p1, .Name y p2] X.env).map (·.2) = [assign (.Name x p1) X.env, assign (.Name y p2) X.env] := by rfl) :
    PG X (.Tuple [.Name x p1, .Starred (.Name y p2) p3] k pos) (gStar X.K i j) := by
  have hp := pgs_cons (pg_name (pos := p1) hN hi (.inl hx) (.inr hx)) (pgs_cons (pg_name (pos := p2) hN hj (.inl hy) (.inr hy)) pgs_nil)
  refine ⟨fun pins s σ H v u Q I r hw => ?_⟩
  obtain ⟨a, w, xs, e1, hq, hw⟩ := hw
  subst e1
  cases r
  obtain ⟨its, rv, ht, hz⟩ := I.tuple hq
  cases rv with
  | @cons _ u0 _ us r0 rs =>
  rw [PyProof.Rows.assign_Tuple]
  refine wpAny_bind (wpAny_standAt ?_)
  unfold unpack
  rw [he]
  show wpAny _ _ (holding [.ref a] (unpackItems (.ref a) 2 (some 1)) >>= fun vs => assignInOrder [assign (.Name x p1) X.env, assign (.Name y p2) X.env] vs) _ _ s
  refine wpAny_bind (wpAny_holding (items_star (I.ok.hd hc) ht (by rw [← (Vals.length (.cons r0 rs) : (w :: xs).length = (u0 :: us).length)]; exact hz) fun h' tk kp => ?_))
  have J : Inv X pins σ H { s with heap := h', toks := tk } := I.kept kp
  have J2 := J.laid (a := h'.objs.size) (o := .lst xs) (h' := h'.push { cls := .type "list", data := .seq us.toArray }) (t' := tk) (fun b o q => Heap.get?_push_of_some _ q) (Nat.le_refl _) ⟨by rw [List.length_cons] at hz; omega, us, 0, rs, Heap.get?_push_size _ rfl⟩
  have fin := hp.run pins _ σ _ [w, .ref h'.objs.size] [u0, .ref h'.objs.size] Q J2 (.cons r0 (.cons rfl .nil)) ⟨w, _, rfl, .ref h'.objs.size, _, rfl, rfl, hw _ (J.hok.fresh (Nat.le_refl _))⟩
  rw [he2] at fin
  exact fin
theorem aS_star (i j : Nat) (h : aE X e ρ S fun d S1 => ∃ d0 l, d = .tup (d0 :: l) ∧ E.nx ((ρ.set i (some d0)).set j (some (.lst l))) S1) (hc : X.calm = true) (hN : X.N.Nodup) (hi : X.N[i]? = some x := by rfl) (hj : X.N[j]? = some y := by rfl)
    (hx : X.env.scope.names.lookup x = some .local := by rfl) (hy : X.env.scope.names.lookup y = some .local := by rfl)
    (he : (assignEach [.Name x p1, .Starred (.Name y p2) p3] X.env) = [(false, assign (.Name x p1) X.env), (true, assign (.Name y p2) X.env)] := by rfl)
    (he2 : (assignEach [.Name x p1, .Name y p2] X.env).map (·.2) = [assign (.Name x p1) X.env, assign (.Name y p2) X.env] := by rfl)
    (hs : swapsWithSole [.Tuple [.Name x p1, .Starred (.Name y p2) p3] k p4] e pos.line X.env = pure false := by rfl) (hw : swappedStores [.Tuple [.Name x p1, .Starred (.Name y p2) p3] k p4] e X.env = pure none := by rfl)
    (h1 : (assignEach [.Tuple [.Name x p1, .Starred (.Name y p2) p3] k p4] X.env).map (·.2) = [assign (.Tuple [.Name x p1, .Starred (.Name y p2) p3] k p4) X.env] := by rfl) :
    aS X (.Assign [.Tuple [.Name x p1, .Starred (.Name y p2) p3] k p4] e pos) ρ S E := fun σ H F s m => by
  refine w_ps (ps_asg pe_w (pg_star i j hc hN hi hj hx hy he he2) hs hw h1) ?_
  refine h σ H _ s fun v H' d S' ⟨d0, l, e1, q⟩ kk o r => ?_
  subst e1
  obtain ⟨a, xs, e2, g, p⟩ := r
  obtain ⟨w, ws, e3, r0, rs⟩ := p
  subst e3; subst e2
  refine ⟨a, w, ws, rfl, sqT_kp kp_hid g.sq, fun na hq => ?_⟩
  obtain ⟨o2, k2⟩ := o.grow (o := .lst ws) hq
  refine m.nx _ _ _ _ q (kk.trans k2) ⟨?_, o2⟩
  have s0 := s.sl.kp (kk.trans k2)
  refine RepS.set (d := .lst l) ⟨na, ws, rfl, by rw [hid_ne (o.out hq)]; exact upd_same, rs.kp k2⟩ j (RepS.set (r0.kp k2) i s0)
/-- a, b = a list of two -/
def TgOkL (X : Cx) (tg : Expr) (is : List Nat) : Prop := PG X tg (gUnl X.K is.length (gNames is))
theorem aS_unl {tg : Expr} (is : List Nat) (h : aE X e ρ S fun d S1 => ∃ l, ResL S1 d l ∧ l.length = is.length ∧ E.nx (setMany ρ is l) S1) (ht : TgOkL X tg is) (hs : swapsWithSole [tg] e pos.line X.env = pure false := by rfl) (hw : swappedStores [tg] e X.env = pure none := by rfl)
    (h1 : (assignEach [tg] X.env).map (·.2) = [assign tg X.env] := by rfl) : aS X (.Assign [tg] e pos) ρ S E := fun σ H F s m => by
  refine w_ps (ps_asg pe_w ht hs hw h1) ?_
  refine h σ H _ s fun v H' d S' ⟨l, hl, hn, q⟩ k o r => ?_
  obtain ⟨a, xs, e, g, p⟩ := hl.use o r
  subst e
  exact ⟨a, xs, rfl, .inl (.inl g), by rw [p.len]; exact hn, gNames_do is (s.next k o).sl p hn fun σ' g' => m.nx _ _ _ _ q k ⟨g', o⟩⟩
/-- a, b, c = x, y, z -/
theorem aS_par3 {p5 p6 : Pos} {k1 k2} (i j l : Nat) (h : aA X [a, b, c] ρ S fun ds S1 => ∃ d d' d'', ds = [d, d', d''] ∧ E.nx (((ρ.set i (some d)).set j (some d')).set l (some d'')) S1) (hc : X.calm = true) (hN : X.N.Nodup) (hij : i ≠ j := by decide) (hil : i ≠ l := by decide) (hjl : j ≠ l := by decide) (hi : X.N[i]? = some x := by rfl) (hj : X.N[j]? = some y := by rfl) (hl : X.N[l]? = some z := by rfl)
    (hx : X.env.scope.names.lookup x = some .local := by rfl) (hy : X.env.scope.names.lookup y = some .local := by rfl) (hz : X.env.scope.names.lookup z = some .local := by rfl)
    (hw : swappedStores [.Tuple [.Name x p1, .Name y p2, .Name z p3] k1 p4] (.Tuple [a, b, c] k2 p5) X.env = pure (some [x, y, z]) := by rfl)
    (hs : swapsWithSole [.Tuple [.Name x p1, .Name y p2, .Name z p3] k1 p4] (.Tuple [a, b, c] k2 p5) pos.line X.env = pure false := by rfl) :
    aS X (.Assign [.Tuple [.Name x p1, .Name y p2, .Name z p3] k1 p4] (.Tuple [a, b, c] k2 p5) pos) ρ S E := fun σ H F s m => by
  refine w_ps (ps_par3 hc hN hi hj hl hij hil hjl hx hy hz pa_w hw hs) ?_
  refine h σ H _ s fun vs H1 ds S1 ⟨d, d', d'', e1, q⟩ k o r => ?_
  subst e1
  obtain ⟨v, r1, e1, g1, v2, r2, e2, g2, v3, r3, e3, g3, e4⟩ := r
  have e4 : r3 = [] := e4
  subst e4; subst e3; subst e2; subst e1
  exact ⟨v, v2, v3, rfl, m.nx _ _ _ _ q k ⟨RepS.set g3 l (RepS.set g2 j (RepS.set g1 i (s.next k o).sl)), o⟩⟩
end
end DL

namespace DL
open PySem PySem.Spec PyProof.Rows L2
section
variable {X : Cx} {ρ : Sl} {S : Store} {Q : D → Store → Prop} {pos p apos cpos : Pos} {a b e : Expr} {K : PySem.W.Frag} {x : Str} {H H' : Hp}
/-! ### the heap has more -/
theorem SOk.more (s : SOk K S H) (e : ∀ b o, H b = some o → H' b = some o) : SOk K S H' ∧ KpS S H S H' := by
  have k : KpS S H S H' := Kp.of fun b o h => by
    obtain ⟨h1, h2⟩ := hid_some h
    rw [hid_ne h1]
    exact e _ _ h2
  exact ⟨⟨s.nd, fun q hq => (s.ok q hq).kp k (by obtain ⟨o, ho⟩ := (s.ok q hq).there; rw [ho]; exact e _ _ ho)⟩, k⟩
/-! ### isinstance(x, T) -/
/-- the built-in type of a datum -/
def tyD (S : Store) (d : D) (T : String) : Prop := match d with
  | .non => T = "NoneType"
  | .bl _ => T = "bool"
  | .int _ => T = "int"
  | .str _ => T = "str"
  | .tup _ => T = "tuple"
  | .lst _ => T = "list"
  | .dct _ => T = "dict"
  | _ => False
theorem tyD_use {d : D} {T : String} {v : V} (h : tyD S d T) (o : SOk K S H) (r : RepS1 K S H d v) : TyX K H v (.type T) := by
  cases d with
  | non => cases h; cases (show v = V.non from r); exact .base .non
  | bl c => cases h; cases (show v = V.bl c from r); exact .base (.bl c)
  | int c => cases h; cases (show v = V.int c from r); exact .base (.int c)
  | str c => cases h; cases (show v = V.str c from r); exact .base (.str c)
  | tup l =>
    cases h
    obtain ⟨c, xs, e, g, p⟩ := r
    subst e
    rcases g with ⟨ob, g, _⟩ | ⟨_, g⟩
    · exact .fTuple (hid_sub _ _ g)
    · rcases g with g | ⟨ob, its, n, g, hc, _⟩
      · rcases g with g | ⟨_, g⟩ <;> cases g
      · exact .kTuple g hc
  | lst l =>
    cases h
    obtain ⟨c, xs, e, g, p⟩ := r
    subst e
    exact .base (.lst (hid_sub _ _ g))
  | dct l =>
    cases h
    obtain ⟨c, xs, e, g, p⟩ := r
    subst e
    rcases g with g | ⟨ob, g⟩
    · exact .base (.dK (hid_sub _ _ g))
    · exact .fDict (hid_sub _ _ g)
  | ins _ _ => exact h.elim
  | adr _ => exact h.elim
  | scr _ => exact h.elim
  | pen _ => exact h.elim
  | tupW _ => exact h.elim
  | tbl _ => exact h.elim
theorem kitOne_same {K : PySem.W.Frag} {t : Value} (h : (t == t) = true) : PySem.W.kitOne K t t = some true := by unfold PySem.W.kitOne; rw [h]; rfl
theorem aE_isi {T : String} {p2 : Pos} (hm : X.mg "isinstance" = none) (hmT : X.mg x = none) (hv : bootBuiltins x = some (.type T)) (h : aE X e ρ S fun d S1 => ∃ t k, tyD S1 d t ∧ PySem.W.kitOne X.K (.type t) (.type T) = some k ∧ Q (.bl k) S1) (hg : Gl X "isinstance" := by rfl) (hgT : Gl X x := by rfl) (hn : x ≠ "__name__" := by decide) (hdb : (x == ("__debug__" : Str)) = false := by decide)
    (he : starEach [e, .Name x p2] X.env = (false, eval e X.env) :: starEach [.Name x p2] X.env := by rfl) (he2 : starEach [.Name x p2] X.env = (false, eval (.Name x p2) X.env) :: starEach [] X.env := by rfl) (hpl : (backTo pos (starEach [.Name x p2] X.env)).any (·.1) = false := by rfl) :
    aE X (.Call (.Name "isinstance" p) [e, .Name x p2] [] pos) ρ S Q := fun σ H R s kk => by
  refine w_pe (pe_callB call_isi hg hm PyProof.Rows.boot_isinstance (pa_cons pe_w (pa_cons (pe_bltn (v := .ty T) hgT hmT hv rfl hn hdb) pa_nil he2) he) (he := he) (hpl := hpl)) ?_
  refine h σ H _ s fun v H1 d S1 ⟨t, k, ty, hk, q⟩ k1 o1 r1 => ?_
  exact ⟨v, .ty T, .type t, .type T, k, rfl, .ty T, tyD_use ty o1 r1, hk, kk _ _ _ _ q k1 o1 rfl⟩
/-! ### list(d.items()), list(d.values()) -/
def tItemsRd (te : TE) : TE := fun σ H Q => te σ H fun x H1 => ∃ (d : Addr) (kvs : List (Key × V)), x = .ref d ∧ Rd H1 d (.dK kvs) ∧
  ∀ (H' : Hp) (L : Addr) (ts : List Addr), (∀ b o, H1 b = some o → H' b = some o) → H' L = some (.lst (ts.map V.ref)) → H1 L = none → Paired (fun (t : Addr) (q : Key × V) => H' t = some (.tup [kV q.1, q.2]) ∧ H1 t = none) ts kvs → Q (.ref L) H'
theorem paired_and {α β : Type} {F G : α → β → Prop} : ∀ {xs : List α} {ys : List β}, Paired F xs ys → (∀ x ∈ xs, ∀ y, F x y → G x y) → Paired G xs ys
  | _, _, .nil, _ => .nil
  | _, _, .cons h t, g => .cons (g _ List.mem_cons_self _ h) (paired_and t fun x hx => g x (List.mem_cons_of_mem _ hx))
theorem pe_itemsRd {te : TE} (hc : X.calm = true) (he : PE X e te) (hg : Gl X "list") (hm : X.mg "list" = none) (hbase : attributeBase e "items" X.env (eval e X.env) = eval e X.env) (hline : (apos.endLine == cpos.line) = true)
    (hs : starEach [.Call (.Attribute e "items" apos) [] [] cpos] X.env = (false, eval (.Call (.Attribute e "items" apos) [] [] cpos) X.env) :: starEach [] X.env) :
    PE X (.Call (.Name "list" p) [.Call (.Attribute e "items" apos) [] [] cpos] [] pos) (tItemsRd te) := by
  refine ⟨fun pins s σ H Q I hq => wpAny_Call_Name_kw (ld_blt I hg hm PyProof.Rows.boot_list (PyProof.Rows.callWith_type1 ?_ hs rfl) (by decide) (by decide))⟩
  rw [hs]
  refine Calls.spliced_cons (wpAny_Call_method (T := "dict") (id := "dict.items") hbase rfl hline F.plainAttrs_dict F.slot_dict_items F.type_dict_items (thn (he.run pins s σ H _ I hq) fun u s1 ⟨x, H1, J, rx, d, kvs, ex, hd, q⟩ => ?_))
  subst ex
  cases rx
  obtain ⟨z, lo, vs, rel, dd⟩ := dk_rd J.hok hd
  obtain ⟨ep, hat⟩ := dd.dictAt
  have J2 : Inv X pins σ H1 { s1 with heap := s1.heap.push { cls := .type "dict_items", data := .fields #[.ref d] } } := J.kept (t' := s1.toks) fun b ob w => Heap.get?_push_of_some _ w
  have hl : kvs.length = vs.length := Paired.length rel
  refine ⟨dd.typeIs, dd.mapOf.noDict, method_meetsIn F.slot_dict_items F.entry_dict_items rfl (PySem.evalArgs_none ⟨rfl, dd.typeIs, F.args_dict_items_1 _, _, meets_dict_items (mixKind X.prog X.w) d lo, ⟨vs, dd⟩, Calls.spliced_nil ?_⟩)⟩
  refine PySem.W.kdx_call (J.ok.hd hc) ⟨_, Heap.get?_push_size _ rfl, rfl, rfl⟩ (hat.push _) (hl ▸ z) fun h' tk acc c ts hk hS hn hG hacc => ?_
  obtain ⟨H', k1, k2, k3, k4, k5, k6, J3⟩ := LiI.items_laid (tk := tk) J2 z rel hk hS hn hG hacc
  exact ⟨.ref _, H', J3, rfl, q H' _ ts k1 k5 k2 (paired_and k6 fun t ht y w => ⟨w, k3 t ht⟩)⟩
def tValsRd (te : TE) : TE := fun σ H Q => te σ H fun x H1 => ∃ (d : Addr) (kvs : List (Key × V)), x = .ref d ∧ Rd H1 d (.dK kvs) ∧ ∀ p, H1 p = none → Q (.ref p) (upd H1 p (.lst (kvs.map (·.2))))
theorem vals_of_kv : ∀ {kvs : List (Key × V)} {vs : List (Key × Value)}, KV kvs vs → Vals (kvs.map (·.2)) (vs.map (·.2))
  | _, _, .nil => .nil
  | _, _, .cons h t => .cons h.2 (vals_of_kv t)
theorem pe_valsRd {te : TE} (hc : X.calm = true) (he : PE X e te) (hg : Gl X "list") (hm : X.mg "list" = none) (hbase : attributeBase e "values" X.env (eval e X.env) = eval e X.env) (hline : (apos.endLine == cpos.line) = true)
    (hs : starEach [.Call (.Attribute e "values" apos) [] [] cpos] X.env = (false, eval (.Call (.Attribute e "values" apos) [] [] cpos) X.env) :: starEach [] X.env) :
    PE X (.Call (.Name "list" p) [.Call (.Attribute e "values" apos) [] [] cpos] [] pos) (tValsRd te) := by
  refine ⟨fun pins s σ H Q I hq => wpAny_Call_Name_kw (ld_blt I hg hm PyProof.Rows.boot_list (PyProof.Rows.callWith_type1 ?_ hs rfl) (by decide) (by decide))⟩
  rw [hs]
  refine Calls.spliced_cons (wpAny_Call_method (T := "dict") (id := "dict.values") hbase rfl hline F.plainAttrs_dict F.slot_dict_values F.type_dict_values (thn (he.run pins s σ H _ I hq) fun u s1 ⟨x, H1, J, rx, d, kvs, ex, hd, q⟩ => ?_))
  subst ex
  cases rx
  obtain ⟨z, lo, vs, rel, dd⟩ := dk_rd J.hok hd
  obtain ⟨ep, hat⟩ := dd.dictAt
  have J2 : Inv X pins σ H1 { s1 with heap := s1.heap.push { cls := .type "dict_values", data := .fields #[.ref d] } } := J.kept (t' := s1.toks) fun b ob w => Heap.get?_push_of_some _ w
  have hl : kvs.length = vs.length := Paired.length rel
  refine ⟨dd.typeIs, dd.mapOf.noDict, method_meetsIn F.slot_dict_values F.entry_dict_values rfl (PySem.evalArgs_none ⟨rfl, dd.typeIs, F.args_dict_values_1 _, _, meets_dict_values (mixKind X.prog X.w) d lo, ⟨vs, dd⟩, Calls.spliced_nil ?_⟩)⟩
  refine PySem.W.kdl_call (PySem.W.kdl_values (knd := mixKind X.prog X.w) (d := d) (r := s1.heap.objs.size) (kvs := vs) (ep := ep)) (J.ok.hd hc) ⟨⟨_, Heap.get?_push_size _ rfl, rfl, rfl⟩, hat.push _⟩ (hl ▸ z) fun h' tk acc c hk hS hacc => ?_
  have hv : acc.toList = vs.map (·.2) := by
    apply List.ext_getElem?
    intro j
    rw [Array.getElem?_toList, List.getElem?_map]
    cases ea : acc[j]? with
    | some v =>
      obtain ⟨ky, ek⟩ := hacc.2 j v ea
      rw [ek]; rfl
    | none =>
      have h1 : vs[j]? = none := by
        rw [List.getElem?_eq_none_iff]
        have := Array.getElem?_eq_none_iff.mp ea
        have h2 := hacc.1
        omega
      rw [h1]; rfl
  exact ⟨.ref _, _, J2.laid (t' := tk) (o := .lst (kvs.map (·.2))) hk (Nat.le_refl _) ⟨by rw [List.length_map]; exact z, acc.toList, c, by rw [hv]; exact vals_of_kv rel, by rw [Array.toArray_toList]; exact hS⟩, rfl, q _ (J2.hok.fresh (Nat.le_refl _))⟩
theorem repL_vals {G : Hp} : ∀ {l : List (Key × D)} {xs : List (Key × V)}, RepP K G l xs → RepL K G (l.map (·.2)) (xs.map (·.2))
  | [], xs, h => by rw [show xs = [] from h]; exact rfl
  | (k, d) :: l, xs, ⟨y, r, e, h1, h2⟩ => by rw [e]; exact ⟨y, _, rfl, h1, repL_vals h2⟩
theorem repL_items {G : Hp} : ∀ {l : List (Key × D)} {xs : List (Key × V)} {ts : List Addr}, RepP K G l xs → Paired (fun (t : Addr) (q : Key × V) => G t = some (.tup [kV q.1, q.2])) ts xs → RepL K G (itemsD l) (ts.map V.ref)
  | [], xs, ts, h, w => by
    have e : xs = [] := h
    subst e
    cases w
    exact rfl
  | (k, d) :: l, xs, ts, ⟨y, r, e, h1, h2⟩, w => by
    subst e
    cases w with
    | cons w1 w2 => exact ⟨_, _, rfl, ⟨_, _, rfl, .inl (.inl w1), kV k, _, rfl, rep_kD k, y, [], rfl, h1, rfl⟩, repL_items h2 w2⟩
theorem aE_listItems (hc : X.calm = true) (hm : X.mg "list" = none) (h : aE X e ρ S fun d S1 => ∃ l, ResD S1 d l ∧ Q (.lst (itemsD l)) S1) (hg : Gl X "list" := by rfl) (hbase : attributeBase e "items" X.env (eval e X.env) = eval e X.env := by rfl) (hline : (apos.endLine == cpos.line) = true := by rfl)
    (hs : starEach [.Call (.Attribute e "items" apos) [] [] cpos] X.env = (false, eval (.Call (.Attribute e "items" apos) [] [] cpos) X.env) :: starEach [] X.env := by rfl) :
    aE X (.Call (.Name "list" p) [.Call (.Attribute e "items" apos) [] [] cpos] [] pos) ρ S Q := fun σ H R s k => by
  refine w_pe (pe_itemsRd hc pe_w hg hm hbase hline hs) ?_
  refine h σ H _ s fun v H1 d S1 ⟨l, hl, q⟩ k1 o1 r1 => ?_
  obtain ⟨c, xs, e, g, p⟩ := hl.use o1 r1
  subst e
  refine ⟨c, xs, rfl, g, fun H' L ts hext hL nL hts => ?_⟩
  obtain ⟨o2, k2⟩ := o1.more hext
  have out : ∀ t, H1 t = none → ∀ o, H' t = some o → hid (adrs S1) H' t = some o := fun t ht o ho => by
    rw [hid_ne (o1.out ht)]; exact ho
  refine k _ _ _ _ q (k1.trans k2) o2 ⟨L, _, rfl, out _ nL _ hL, repL_items (p.kp k2) (Paired.mapP hts fun t y w => out _ w.2 _ w.1)⟩
theorem aE_listVals (hc : X.calm = true) (hm : X.mg "list" = none) (h : aE X e ρ S fun d S1 => ∃ l, ResD S1 d l ∧ NewL (l.map (·.2)) S1 Q) (hg : Gl X "list" := by rfl) (hbase : attributeBase e "values" X.env (eval e X.env) = eval e X.env := by rfl) (hline : (apos.endLine == cpos.line) = true := by rfl)
    (hs : starEach [.Call (.Attribute e "values" apos) [] [] cpos] X.env = (false, eval (.Call (.Attribute e "values" apos) [] [] cpos) X.env) :: starEach [] X.env := by rfl) :
    aE X (.Call (.Name "list" p) [.Call (.Attribute e "values" apos) [] [] cpos] [] pos) ρ S Q := fun σ H R s k => by
  refine w_pe (pe_valsRd hc pe_w hg hm hbase hline hs) ?_
  refine h σ H _ s fun v H1 d S1 ⟨l, hl, q⟩ k1 o1 r1 => ?_
  obtain ⟨c, xs, e, g, p⟩ := hl.use o1 r1
  subst e
  exact ⟨c, xs, rfl, g, fun pp hp => q.use o1 (repL_vals p) k1 hp k⟩
end
end DL

/-! zip of a list and a tuple: in a loop, in a comprehension, handed to dict. -/
namespace DL
open PySem PySem.Spec PyProof.Rows L2
theorem drawsT {prog : Program} {w : World} {A : Around} (hh : A.handled = none) (it l : Addr) (hne : l ≠ it) (items : Array Value) :
    Draws prog w A it [it, l] items.size (fun i v => items[i]? = some v) (fun i h => h.IsTupleIter it l i ∧ h.IsTuple l items) where
  live := fun _ _ st => let ⟨o, ho, _⟩ := st.1; ⟨o, ho⟩
  frame := fun _ _ _ st hk => ⟨st.1.at fun o e => hk it List.mem_cons_self o e, st.2.at fun o e => hk l (List.mem_cons_of_mem _ List.mem_cons_self) o e⟩
  item := fun i s Q E hi st hQ => RZ.nextOf_tuple_item st.1 st.2 (x := items[i]) (Array.getElem?_eq_getElem hi) fun h' hit' hs' => hQ _ h' s.toks (Array.getElem?_eq_getElem hi) ⟨hit', st.2.extBut hs'.extBut hne⟩ hs'
  done := fun s Q E st hE => RZ.nextOf_tuple_end hh st.1 st.2 (Array.getElem?_eq_none (Nat.le_refl _)) hE
theorem sep_of {z TI TO i1 i2 l1 l2 : Addr} (D : ZipApart z TI TO i1 i2 l1 l2) : ZipSep2 z TI TO i1 i2 [i1, l1] [i2, l2] := by
  obtain ⟨a1, a2, a3, a4, a5, a6, a7, a8, a9, a10, a11, a12, a13, a14, a15, a16, a17, a18⟩ := D
  have two : ∀ {a b c : Addr}, a ≠ b → a ≠ c → a ∉ [b, c] := fun h h' m => by
    rcases List.mem_cons.mp m with e | m
    · exact h e
    · rcases List.mem_cons.mp m with e | m
      · exact h' e
      · cases m
  exact ⟨a1, a2, a5, a6, List.mem_cons_self, two a3.symm a11.symm, two a8 a12.symm, a7, List.mem_cons_self, two a4.symm a15.symm, two a9 a16.symm, two a10 a17.symm, two a10.symm a14.symm⟩
section
variable {prog : Program} {w : World} {A : Around} {E : Value → Shared → Prop} {s : Shared} {z TI TO T i1 i2 : Addr} {fp1 fp2 : List Addr} {n1 n2 i : Nat} {P1 P2 : Nat → Value → Prop} {St1 St2 : Nat → Heap → Prop} {f : Bool} {oT : Obj}
/-- the tuple that was given out is still held: a new one is made -/
theorem held_item {Q : Value → Shared → Prop} (S : ZipSep2 z TI TO i1 i2 fp1 fp2) (D1 : Draws prog w A i1 fp1 n1 P1 St1) (D2 : Draws prog w A i2 fp2 n2 P2 St2) (hz : IsZipHeld s.heap z TI TO T f) (hT : s.heap.get? T = some oT) (hTI : IsPair s.heap TI (.ref i1) (.ref i2))
    (st1 : St1 i s.heap) (st2 : St2 i s.heap) (hlt1 : i < n1) (hlt2 : i < n2)
    (hQ : ∀ x y h' tk, P1 i x → P2 i y → IsZipHeld h' z TI TO T true → St1 (i + 1) h' → St2 (i + 1) h' → IsPair h' s.heap.objs.size x y → (∀ c o, c ≠ z → c ≠ i1 → c ≠ i2 → s.heap.get? c = some o → h'.get? c = some o) → Q (.ref s.heap.objs.size) { s with heap := h', toks := tk }) :
    wpAny (model prog w) A (Builtin.«zip.__next__» ⟨[.ref z], []⟩) (fun fin s' => ∃ v, fin = .done (.ret v) ∧ Q v s') E s := by
  obtain ⟨hp, g, d, tk0, os⟩ := s
  show wpAny _ _ (field (.ref z) 2 >>= _) _ _ ⟨hp, g, d, tk0, os⟩
  refine wpAny_bind (wpAny_field (x := .bool false) hz rfl rfl ?_)
  show wpAny _ _ (field (.ref z) 3 >>= _) _ _ ⟨hp, g, d, tk0, os⟩
  refine wpAny_bind (wpAny_field (x := .ref TI) hz rfl rfl (wpAny_bind (wpAny_seqItems hTI rfl ?_)))
  show wpAny _ _ (Builtin.SmallTypes.ownedTupleIsFree (.ref z) >>= _) _ _ ⟨hp, g, d, tk0, os⟩
  refine wpAny_bind (wpAny_tupleHeld_zip hz hT fun g0 hz0 hs0 => ?_)
  replace hs0 : Heap.SameBut z hp g0 := hs0
  simp only [Bool.false_eq_true, if_false]
  refine wpAny_bind ?_
  rw [← Array.forIn_toList]
  simp only [List.forIn_cons, List.forIn_nil]
  refine wpAny_bind (wpAny_bind (wpAny_holding (show wpAny _ _ (Builtin.SmallTypes.nextOf (.ref i1) >>= _) _ _ ⟨g0, g, d, tk0, os⟩ from wpAny_bind (D1.item i _ _ _ hlt1 (D1.over st1 hs0 S.zf1) fun x p1 tk1 hx sn1 hp1 => wpAny_pure (wpAny_pure ?_)))))
  replace hp1 : Heap.SameBut i1 g0 p1 := hp1
  refine wpAny_bind (wpAny_bind (wpAny_holding (show wpAny _ _ (Builtin.SmallTypes.nextOf (.ref i2) >>= _) _ _ ⟨p1, g, d, tk1, os⟩ from wpAny_bind (D2.item i _ _ _ hlt2 (D2.over (D2.over st2 hs0 S.zf2) hp1 S.sep1_2) fun y p2 tk2 hy sn2 hp2 => wpAny_pure (wpAny_pure (wpAny_pure ?_))))))
  replace hp2 : Heap.SameBut i2 p1 p2 := hp2
  show wpAny _ _ (newTuple [x, y] >>= fun v => pure (Fin.done (.ret v))) _ _ ⟨p2, g, d, tk2, os⟩
  refine wpAny_bind (wpAny_newTuple (wpAny_pure ⟨_, rfl, ?_⟩))
  have hsz : p2.objs.size = hp.objs.size := by rw [hp2.1, hp1.1, hs0.1]
  have up : ∀ c o, p2.get? c = some o → (p2.push { cls := .type "tuple", data := .seq #[x, y] }).get? c = some o := fun c o e => Heap.get?_push_of_some _ e
  have hk : ∀ c o, c ≠ z → c ≠ i1 → c ≠ i2 → hp.get? c = some o → p2.get? c = some o := fun c o c1 c2 c3 e => hp2.extBut _ _ c3 (hp1.extBut _ _ c2 (hs0.extBut _ _ c1 e))
  have hzz : IsZipHeld p2 z TI TO T true := hp2.extBut _ _ S.zi2 (hp1.extBut _ _ S.zi1 hz0)
  have hpr : IsPair (p2.push { cls := .type "tuple", data := .seq #[x, y] }) p2.objs.size x y := Heap.get?_push_size _ rfl
  show Q (.ref p2.objs.size) ⟨p2.push { cls := .type "tuple", data := .seq #[x, y] }, g, d, tk2, os⟩
  rw [hsz] at hpr ⊢
  exact hQ x y _ tk2 hx hy (up _ _ hzz) (D1.frame _ _ _ (D1.over sn1 hp2 S.sep2_1) fun b _ o e => up b o e) (D2.frame _ _ _ sn2 fun b _ o e => up b o e) hpr fun c o c1 c2 c3 e => up c o (hk c o c1 c2 c3 e)
theorem held_end {Q : Fin → Shared → Prop} (S : ZipSep2 z TI TO i1 i2 fp1 fp2) (D1 : Draws prog w A i1 fp1 n1 P1 St1) (D2 : Draws prog w A i2 fp2 n2 P2 St2) (hz : IsZipHeld s.heap z TI TO T f) (hT : s.heap.get? T = some oT) (hTI : IsPair s.heap TI (.ref i1) (.ref i2))
    (st1 : St1 i s.heap) (st2 : St2 i s.heap) (hle1 : i ≤ n1) (hle2 : i ≤ n2) (hend : i = n1 ∨ i = n2)
    (hE : ∀ h' tk e, (∀ c o, c ≠ z → c ≠ i1 → c ≠ i2 → s.heap.get? c = some o → h'.get? c = some o) → (∃ o, h'.get? e = some o ∧ o.cls = .type "StopIteration") → E (.ref e) { s with heap := h', toks := tk }) :
    wpAny (model prog w) A (Builtin.«zip.__next__» ⟨[.ref z], []⟩) Q E s := by
  obtain ⟨hp, g, d, tk0, os⟩ := s
  show wpAny _ _ (field (.ref z) 2 >>= _) _ _ ⟨hp, g, d, tk0, os⟩
  refine wpAny_bind (wpAny_field (x := .bool false) hz rfl rfl ?_)
  show wpAny _ _ (field (.ref z) 3 >>= _) _ _ ⟨hp, g, d, tk0, os⟩
  refine wpAny_bind (wpAny_field (x := .ref TI) hz rfl rfl (wpAny_bind (wpAny_seqItems hTI rfl ?_)))
  show wpAny _ _ (Builtin.SmallTypes.ownedTupleIsFree (.ref z) >>= _) _ _ ⟨hp, g, d, tk0, os⟩
  refine wpAny_bind (wpAny_tupleHeld_zip hz hT fun g0 hz0 hs0 => ?_)
  replace hs0 : Heap.SameBut z hp g0 := hs0
  simp only [Bool.false_eq_true, if_false]
  refine wpAny_bind ?_
  rw [← Array.forIn_toList]
  simp only [List.forIn_cons, List.forIn_nil]
  by_cases hlt1 : i < n1
  · have hi2 : i = n2 := by omega
    refine wpAny_bind (wpAny_bind (wpAny_holding (show wpAny _ _ (Builtin.SmallTypes.nextOf (.ref i1) >>= _) _ _ ⟨g0, g, d, tk0, os⟩ from wpAny_bind (D1.item i _ _ _ hlt1 (D1.over st1 hs0 S.zf1) fun x p1 tk1 hx sn1 hp1 => wpAny_pure (wpAny_pure ?_)))))
    replace hp1 : Heap.SameBut i1 g0 p1 := hp1
    refine wpAny_bind (wpAny_bind (wpAny_holding (show wpAny _ _ (Builtin.SmallTypes.nextOf (.ref i2) >>= _) _ _ ⟨p1, g, d, tk1, os⟩ from wpAny_bind (D2.done _ _ _ (hi2 ▸ (D2.over (D2.over st2 hs0 S.zf2) hp1 S.sep1_2)) fun p2 e hp2 he => ?_))))
    exact hE p2 tk1 e (fun c o c1 c2 c3 x => hp2 _ _ c3 (hp1.extBut _ _ c2 (hs0.extBut _ _ c1 x))) he
  · have hi1 : i = n1 := by omega
    refine wpAny_bind (wpAny_bind (wpAny_holding (show wpAny _ _ (Builtin.SmallTypes.nextOf (.ref i1) >>= _) _ _ ⟨g0, g, d, tk0, os⟩ from wpAny_bind (D1.done _ _ _ (hi1 ▸ (D1.over st1 hs0 S.zf1)) fun p1 e hp1 he => ?_))))
    exact hE p1 tk0 e (fun c o c1 c2 c3 x => hp1 _ _ c2 (hs0.extBut _ _ c1 x)) he
theorem next_held {Q : Option Value → Shared → Prop} (S : ZipSep2 z TI TO i1 i2 fp1 fp2) (D1 : Draws prog w A.in1 i1 fp1 n1 P1 St1) (D2 : Draws prog w A.in1 i2 fp2 n2 P2 St2) (hz : IsZipHeld s.heap z TI TO T f) (hT : s.heap.get? T = some oT) (hTI : IsPair s.heap TI (.ref i1) (.ref i2))
    (st1 : St1 i s.heap) (st2 : St2 i s.heap) (hlt1 : i < n1) (hlt2 : i < n2)
    (hQ : ∀ x y h' tk, P1 i x → P2 i y → IsZipHeld h' z TI TO T true → St1 (i + 1) h' → St2 (i + 1) h' → IsPair h' s.heap.objs.size x y → (∀ c o, c ≠ z → c ≠ i1 → c ≠ i2 → s.heap.get? c = some o → h'.get? c = some o) → Q (some (.ref s.heap.objs.size)) { s with heap := h', toks := tk }) :
    wpAny (model prog w) A (pyNext (.ref z)) Q E s := by
  have hTy : s.TypeIs (.ref z) "zip" := ⟨_, hz, rfl⟩
  unfold pyNext
  exact wpAny_bind (wpAny_attempt (wpAny_callSpecial?_slot (name := Str.ofString "__next__") hTy PySem.F.slot_zip_next (wpAny_call_entry PySem.F.slot_zip_next hTy PySem.F.entry_zip_next
    (held_item S D1 D2 hz hT hTI st1 st2 hlt1 hlt2 fun x y h' tk a1 a2 a3 a4 a5 a6 a7 => wpAny_pure (hQ x y h' tk a1 a2 a3 a4 a5 a6 a7)) (PySem.F.args_zip_next_1 _))))
theorem next_held_end {Q : Option Value → Shared → Prop} (S : ZipSep2 z TI TO i1 i2 fp1 fp2) (D1 : Draws prog w A.in1 i1 fp1 n1 P1 St1) (D2 : Draws prog w A.in1 i2 fp2 n2 P2 St2) (hz : IsZipHeld s.heap z TI TO T f) (hT : s.heap.get? T = some oT) (hTI : IsPair s.heap TI (.ref i1) (.ref i2))
    (st1 : St1 i s.heap) (st2 : St2 i s.heap) (hle1 : i ≤ n1) (hle2 : i ≤ n2) (hend : i = n1 ∨ i = n2) (hQ : ∀ h' tk, (∀ c o, c ≠ z → c ≠ i1 → c ≠ i2 → s.heap.get? c = some o → h'.get? c = some o) → Q none { s with heap := h', toks := tk }) :
    wpAny (model prog w) A (pyNext (.ref z)) Q E s := by
  have hTy : s.TypeIs (.ref z) "zip" := ⟨_, hz, rfl⟩
  unfold pyNext
  refine wpAny_bind (wpAny_attempt (wpAny_callSpecial?_slot (name := Str.ofString "__next__") hTy PySem.F.slot_zip_next (wpAny_call_entry PySem.F.slot_zip_next hTy PySem.F.entry_zip_next
    (held_end S D1 D2 hz hT hTI st1 st2 hle1 hle2 hend fun h' tk e hk ⟨o, ho, hc⟩ => wpAny_bind (wpAny_isInstance (T := "StopIteration") (b := true) ⟨o, ho, hc⟩ isSubtype_stop (wpAny_pure (hQ _ _ hk)))) (PySem.F.args_zip_next_1 _))))
end
end DL

namespace DL
open PySem PySem.Spec PyProof.Rows L2
/-- the list at a and the tuple at b as they stand at each turn, the items in new pairs -/
def ItzM (K : PySem.W.Frag) (a b : Addr) : It :=
  ⟨fun i H => ∃ (xs ys : List V) (x y : V), SqL K H a xs ∧ SqT K H b ys ∧ xs[i]? = some x ∧ ys[i]? = some y,
    fun i H v H' => ∃ T x y, v = .ref T ∧ H T = none ∧ H' = upd H T (.tup [x, y]) ∧ (∀ xs, SqL K H a xs → xs[i]? = some x) ∧ ∀ ys, SqT K H b ys → ys[i]? = some y,
    fun i H => ∃ xs ys : List V, SqL K H a xs ∧ SqT K H b ys ∧ i ≤ xs.length ∧ i ≤ ys.length ∧ (xs.length = i ∨ ys.length = i)⟩
theorem mem5 {a b c d e x : Addr} (h : x ∈ [a, b, c, d, e]) : x = a ∨ x = b ∨ x = c ∨ x = d ∨ x = e := by simpa using h
theorem turn_zipM {P : Program} {w : World} {K : PySem.W.Frag} {elts : List Expr} {kk : Nat} {tpos : Pos} {a b z TI TO i1 i2 : Addr} (D : ZipApart z TI TO i1 i2 a b) :
    Turn P w K (.Tuple elts kk tpos) (ItzM K a b) [z, TI, TO, i1, i2] z (fun i h => IsZip h z TI TO .none ∧ IsPair h TI (.ref i1) (.ref i2) ∧ (∃ x y, IsPair h TO x y) ∧ h.IsListIter i1 a i ∧ h.IsTupleIter i2 b i) where
  mem := List.mem_cons_self
  obj := fun i h ⟨hz, hTI, ⟨x, y, hTO⟩, ⟨o1, e1, _, d1⟩, ⟨o2, e2, _, d2⟩⟩ c hc => by
    rcases mem5 hc with q | q | q | q | q <;> rw [q]
    · exact ⟨_, hz, fun v q => nomatch q⟩
    · exact ⟨_, hTI, fun v q => nomatch q⟩
    · exact ⟨_, hTO, fun v q => nomatch q⟩
    · exact ⟨o1, e1, fun v z => by rw [d1] at z; cases z⟩
    · exact ⟨o2, e2, fun v z => by rw [d2] at z; cases z⟩
  keep := fun i h h' ⟨hz, hTI, ⟨x, y, hTO⟩, h1, h2⟩ k => ⟨k z (by simp) _ hz, k TI (by simp) _ hTI, ⟨x, y, k TO (by simp) _ hTO⟩, h1.at (k i1 (by simp)), h2.at (k i2 (by simp))⟩
  item := by
    intro X hP hw hK hc i pins s σ H E I hf ⟨hz, hTI, ⟨x0, y0, hTO⟩, h1, h2⟩ ⟨xs, ys, x, y, hqx, hqy, hx, hy⟩
    subst hP hw hK
    obtain ⟨its, rv, p, _⟩ := I.list hqx
    obtain ⟨its2, rv2, p2, _⟩ := I.tuple hqy
    obtain ⟨u, hu, ru⟩ := rv.get hx
    obtain ⟨u2, hu2, ru2⟩ := rv2.get hy
    have l1 : i < its.toArray.size := by simpa using (List.getElem?_eq_some_iff.mp hu).1
    have l2 : i < its2.toArray.size := by simpa using (List.getElem?_eq_some_iff.mp hu2).1
    have hh := I.ok.hd hc
    have hzl : z < s.heap.objs.size := Heap.lt_size hz
    refine wpAny_pyNext_zipD2_item (sep_of D) (Draws.list (A := X.A.in1) hh i1 a D.l1i1 its.toArray) (drawsT (A := X.A.in1) hh i2 b D.l2i2 its2.toArray) hz hTI hTO ⟨h1, p.isList⟩ ⟨h2, p2⟩ l1 l2 fun w1 w2 h' tk e1 e2 z' TO' n1 n2 hT _ hk => ⟨_, rfl, ?_⟩
    have ew1 : u = w1 := Option.some.inj (hu.symm.trans (by simpa using e1))
    have ew2 : u2 = w2 := Option.some.inj (hu2.symm.trans (by simpa using e2))
    subst ew1; subst ew2
    refine wpAny_letOwnedTupleGo_zip (s := { s with heap := h', toks := tk }) z' fun h'' z'' sb => ?_
    have hT2 : h''.get? s.heap.objs.size = some { cls := .type "tuple", data := .seq #[u, u2] } := (sb.2 _ (Nat.ne_of_gt hzl)).trans hT
    have J : Inv X pins σ (upd H s.heap.objs.size (.tup [x, y])) { s with heap := h'', toks := tk } :=
      I.turnedNew (ch := [z, TI, TO, i1, i2]) (fun c o hb q => (sb.2 c (fun q' => hb (by simp [q']))).trans (hk c o (fun q' => hb (by simp [q'])) (fun q' => hb (by simp [q'])) (fun q' => hb (by simp [q'])) (fun q' => hb (by simp [q'])) q)) hf (Nat.le_refl _)
        ⟨by show 2 ≤ sizeLine; decide, [u, u2], .cons ru (.cons ru2 .nil), ⟨_, hT2, rfl, _, rfl⟩⟩
    refine ⟨.ref s.heap.objs.size, _, J, rfl, ⟨_, x, y, rfl, I.hok.fresh (Nat.le_refl _), rfl, fun l hl => I.list_inj hl hqx ▸ hx, fun l hl => I.tuple_inj hl hqy ▸ hy⟩, ⟨z'', (sb.2 _ D.TIz).trans (hk _ _ D.TIz D.TITO D.TIi1 D.TIi2 hTI), ⟨u, u2, (sb.2 _ D.TOz).trans TO'⟩, n1.1.at fun o q => (sb.2 _ D.i1z).trans q, n2.1.at fun o q => (sb.2 _ D.i2z).trans q⟩, fun c hcm => ?_⟩
    have hlt : c < s.heap.objs.size := by
      rcases mem5 hcm with q | q | q | q | q <;> rw [q]
      · exact hzl
      · exact Heap.lt_size hTI
      · exact Heap.lt_size hTO
      · obtain ⟨_, e, _⟩ := h1; exact Heap.lt_size e
      · obtain ⟨_, e, _⟩ := h2; exact Heap.lt_size e
    rw [upd_ne (Nat.ne_of_lt hlt)]
    exact (hf c hcm).1
  done := by
    intro X hP hw hK hc i pins s σ H E I hf ⟨hz, hTI, ⟨x0, y0, hTO⟩, h1, h2⟩ ⟨xs, ys, hqx, hqy, hl1, hl2, hend⟩
    subst hP hw hK
    obtain ⟨its, rv, p, _⟩ := I.list hqx
    obtain ⟨its2, rv2, p2, _⟩ := I.tuple hqy
    have e1 := rv.length
    have e2 := rv2.length
    have hh := I.ok.hd hc
    exact wpAny_pyNext_zipD2_end (sep_of D) (Draws.list (A := X.A.in1) hh i1 a D.l1i1 its.toArray) (drawsT (A := X.A.in1) hh i2 b D.l2i2 its2.toArray) hz hTI hTO ⟨h1, p.isList⟩ ⟨h2, p2⟩ (by simp; omega) (by simp; omega) (by simp; omega) fun h' tk hk =>
      ⟨rfl, I.turnedL (ch := [z, TI, TO, i1, i2]) (fun c o hb q => hk c o (fun q' => hb (by simp [q'])) (fun q' => hb (by simp [q'])) (fun q' => hb (by simp [q'])) (fun q' => hb (by simp [q'])) q) hf⟩
  self := fun A i s Q E st h => wpAny_pyIter_zip st.1 h

/-! ### the call zip(l, t) -/
abbrev zh1 (h : Heap) (l1 : Addr) : Heap := h.push { cls := .type "list_iterator", data := .fields #[.ref l1, .int 0 0] }
abbrev zh2 (h : Heap) (l1 l2 : Addr) : Heap := (zh1 h l1).push { cls := .type "tuple_iterator", data := .fields #[.ref l2, .int 0 0] }
abbrev zh3 (h : Heap) (l1 l2 : Addr) : Heap := (zh2 h l1 l2).push { cls := .type "tuple", data := .seq #[.ref h.objs.size, .ref (zh1 h l1).objs.size] }
abbrev zh4 (h : Heap) (l1 l2 : Addr) : Heap := (zh3 h l1 l2).push { cls := .type "tuple", data := .seq #[.none, .none] }
abbrev zh5 (h : Heap) (l1 l2 : Addr) : Heap := (zh4 h l1 l2).push { cls := .type "zip", data := .fields #[.none, .bool false, .bool false, .ref (zh2 h l1 l2).objs.size, .ref (zh3 h l1 l2).objs.size] }
theorem zipM_new (l1 l2 : Addr) (xs ys : Array Value) : Meets (Builtin.«zip.__new__» ⟨[.type "zip", .ref l1, .ref l2], []⟩) (fun _ R s => s.heap.IsList l1 xs ∧ s.heap.IsTuple l2 ys ∧ R (.ok (.ret (.ref (zh4 s.heap l1 l2).objs.size))) { s with heap := zh5 s.heap l1 l2 }) :=
  .of_wp fun prog w A R s ⟨g1, g2, h⟩ => by
    obtain ⟨hp, g, d, tk, os⟩ := s
    have hsub := sub_zip
    have hA : Heap.IsList (Shared.heap ⟨hp, g, d, tk, os⟩) l1 xs := g1
    have hB : Heap.IsTuple (Shared.heap ⟨zh1 hp l1, g, d, tk, os⟩) l2 ys := Heap.IsTuple.push g2 _
    wp_walk using wpAny_pyIter_list hA, wpAny_pyIter_tuple hB
    exact ⟨_, rfl, h⟩
theorem call_zipM {prog : Program} {w : World} {A : Around} {E : Value → Shared → Prop} {s : Shared} {l1 l2 : Addr} {xs ys : Array Value} {Q : Value → Shared → Prop} (hl1 : s.heap.IsList l1 xs) (hl2 : s.heap.IsTuple l2 ys)
    (h : ∀ h', IsZip h' (s.heap.objs.size + 4) (s.heap.objs.size + 2) (s.heap.objs.size + 3) .none → IsPair h' (s.heap.objs.size + 2) (.ref s.heap.objs.size) (.ref (s.heap.objs.size + 1)) → IsPair h' (s.heap.objs.size + 3) .none .none →
      h'.IsListIter s.heap.objs.size l1 0 → h'.IsTupleIter (s.heap.objs.size + 1) l2 0 → (∀ c o, s.heap.get? c = some o → h'.get? c = some o) → Q (.ref (s.heap.objs.size + 4)) { s with heap := h' }) :
    wpAny (model prog w) A (call (.type "zip") [.ref l1, .ref l2]) Q E s := by
  refine callType_new PySem.F.called_zip (by decide) (PySem.F.typeCall_zip_2 _ _) (PySem.F.newCall_zip_2 _ _) (fun obj => PySem.F.args_object_init_3 obj _ _) PySem.F.entry_zip_new (zipM_new l1 l2 xs ys) ⟨hl1, hl2, ?_⟩
  have up : ∀ {h : Heap} {o : Obj} {c : Addr} {u : Obj}, h.get? c = some u → (h.push o).get? c = some u := fun e => Heap.get?_push_of_some _ e
  have s1 : (zh1 s.heap l1).objs.size = s.heap.objs.size + 1 := Heap.size_push ..
  have s2 : (zh2 s.heap l1 l2).objs.size = s.heap.objs.size + 2 := by rw [Heap.size_push, s1]
  have s3 : (zh3 s.heap l1 l2).objs.size = s.heap.objs.size + 3 := by rw [Heap.size_push, s2]
  have s4 : (zh4 s.heap l1 l2).objs.size = s.heap.objs.size + 4 := by rw [Heap.size_push, s3]
  have e1 : (zh5 s.heap l1 l2).get? s.heap.objs.size = some _ := up (up (up (up (Heap.get?_push_size _ rfl))))
  have e2 : (zh5 s.heap l1 l2).get? (zh1 s.heap l1).objs.size = some _ := up (up (up (Heap.get?_push_size _ rfl)))
  have e3 : (zh5 s.heap l1 l2).get? (zh2 s.heap l1 l2).objs.size = some _ := up (up (Heap.get?_push_size _ rfl))
  have e4 : (zh5 s.heap l1 l2).get? (zh3 s.heap l1 l2).objs.size = some _ := up (Heap.get?_push_size _ rfl)
  have e5 : (zh5 s.heap l1 l2).get? (zh4 s.heap l1 l2).objs.size = some _ := Heap.get?_push_size _ rfl
  rw [s1] at e2
  rw [s1, s2] at e3
  rw [s3] at e4
  rw [s2, s3, s4] at e5
  show _ ∧ _
  rw [s4]
  exact ⟨⟨_, e5, rfl⟩, h _ e5 e3 e4 ⟨_, e1, rfl, rfl⟩ ⟨_, e2, rfl, rfl⟩ fun c o x => up (up (up (up (up x))))⟩
def iZipM (K : PySem.W.Frag) (ta : TA) : TI := fun σ H R => ta σ H fun vs H1 => ∃ a b xs ys, vs = [.ref a, .ref b] ∧ SqL K H1 a xs ∧ SqT K H1 b ys ∧ R (ItzM K a b) H1
theorem pi_zipM {X : Cx} {e e2 : Expr} {ta : TA} {p pos tpos : Pos} {elts : List Expr} {kk : Nat} (hg : Gl X "zip") (hm : X.mg "zip" = none) (ha : PA X [e, e2] ta)
    (hs : starEach [e, e2] X.env = (false, eval e X.env) :: starEach [e2] X.env) (hpl : (backTo pos (starEach [e2] X.env)).any (·.1) = false) :
    PI X (.Tuple elts kk tpos) (.Call (.Name "zip" p) [e, e2] [] pos) (iZipM X.K ta) := by
  refine ⟨fun pins s σ H R I h => Call_ (ld_blt I hg hm PyProof.Rows.boot_zip (PyProof.Rows.callWith_type1 (thn (ha.run pos pins s σ H _ I h) fun us s1 ⟨vs, H1, I1, r1, a, b, xs, ys, ex, hqx, hqy, q⟩ => ?_) hs hpl) (by decide) (by decide))⟩
  subst ex
  obtain ⟨u, u2, rfl, r, r'⟩ := vals2 r1
  cases r
  cases r'
  obtain ⟨its, rv, p1, _⟩ := I1.list hqx
  obtain ⟨its2, rv2, p2, _⟩ := I1.tuple hqy
  have hb : b < s1.heap.objs.size := let ⟨_, e, _⟩ := p2; Heap.lt_size e
  refine call_zipM p1.isList p2 fun h' hz hTI hTO h1 h2 hk => wpAny_pyIter_zip hz ?_
  refine ⟨s1.heap.objs.size + 4, [s1.heap.objs.size + 4, s1.heap.objs.size + 2, s1.heap.objs.size + 3, s1.heap.objs.size, s1.heap.objs.size + 1], _, _, H1, rfl, I1.kept (t' := s1.toks) hk, turn_zipM (PySem.W.ktu_apart s1.heap.objs.size a b p1.lt hb), ⟨hz, hTI, ⟨_, _, hTO⟩, h1, h2⟩, fun c hcm => ?_, q⟩
  have hle : s1.heap.objs.size ≤ c := by rcases mem5 hcm with q | q | q | q | q <;> rw [q] <;> omega
  exact I1.fpOk hle (I1.hok.fresh hle)
section
variable {X : Cx} {ρ : Sl} {S : Store} {Q : D → Store → Prop} {Qs : List D → Store → Prop} {pos p tpos : Pos} {a b : Expr} {K : PySem.W.Frag}
theorem aI_zipM {elts : List Expr} {kk : Nat} (hm : X.mg "zip" = none) (h : aA X [a, b] ρ S fun ds S1 => ∃ l m, ds = [.lst l, .tup m] ∧ l.length = m.length ∧ Qs (pairs l m) S1) (hg : Gl X "zip" := by rfl)
    (hs : starEach [a, b] X.env = (false, eval a X.env) :: starEach [b] X.env := by rfl) (hpl : (backTo pos (starEach [b] X.env)).any (·.1) = false := by rfl) : aItr X (.Tuple elts kk tpos) (.Call (.Name "zip" p) [a, b] [] pos) ρ S Qs := fun σ H R s k => by
  refine w_pi (pi_zipM hg hm pa_w hs hpl) ?_
  refine h σ H _ s fun vs H1 ds S1 ⟨l, m, e1, hlm, q⟩ k1 o1 r1 => ?_
  subst e1
  obtain ⟨x, y, e2, ⟨p1, xs, e3, g1, q1⟩, ⟨p2, ys, e5, g2, q2⟩⟩ := rep2 r1
  subst e2; subst e3; subst e5
  replace g2 := g2.sq
  refine ⟨p1, p2, xs, ys, rfl, .inl (.inl (hid_sub _ _ g1)), sqT_kp kp_hid g2, k _ _ _ _ q k1 o1 (walk_pair (fun S2 H2 k2 => ?_) fun i d hi => ?_)⟩
  · exact ⟨xs, ys, .inl (.inl (hid_sub _ _ (k2.l _ _ g1))), sqT_kp kp_hid (sqT_kp k2 g2), by rw [pairs_len, q1.len]; omega, by rw [pairs_len, q2.len]; omega, by rw [pairs_len, q1.len, q2.len]; omega⟩
  · obtain ⟨d1, d2, e, h1, h2⟩ := pairs_get hi
    obtain ⟨x, hx, rx⟩ := q1.get h1
    obtain ⟨y, hy, ry⟩ := q2.get h2
    refine ⟨d1, d2, e, fun S2 H2 k2 => ?_⟩
    have w1 : SqL X.K H2 p1 xs := .inl (.inl (hid_sub _ _ (k2.l _ _ g1)))
    have w2 : SqT X.K H2 p2 ys := sqT_kp kp_hid (sqT_kp k2 g2)
    refine ⟨⟨xs, ys, x, y, w1, w2, hx, hy⟩, fun v H' ⟨T, x', y', ev, hT, eH, f1, f2⟩ => ?_⟩
    have e1 := hx.symm.trans (f1 xs w1)
    have e2 := hy.symm.trans (f2 ys w2)
    cases e1; cases e2
    exact ⟨T, x, y, ev, hT, eH, rx, ry⟩
end
end DL

namespace DL
open PySem PySem.Spec PyProof.Rows L2
theorem argZipM {prog : Program} {w : World} (z TI TO i1 i2 l1 l2 : Addr) (D : ZipApart z TI TO i1 i2 l1 l2) (xs ys : Array Value) :
    PairArg prog w "zip" z [z, TI, TO, i1, i2, l1, l2] [z, TO, i1, i2] (min xs.size ys.size) (fun i k v => xs[i]? = some k ∧ ys[i]? = some v)
      (fun h => IsZip h z TI TO .none ∧ IsPair h TI (.ref i1) (.ref i2) ∧ (∃ a b, IsPair h TO a b) ∧ h.IsListIter i1 l1 0 ∧ h.IsTupleIter i2 l2 0 ∧ h.IsList l1 xs ∧ h.IsTuple l2 ys) where
  type := fun s ok => ⟨_, ok.1, rfl⟩
  notDict := by decide
  keep := fun h h' ⟨hz, hTI, ⟨a, b, hTO⟩, h1, h2, hl1, hl2⟩ hk => ⟨hk _ _ hz, hk _ _ hTI, ⟨a, b, hk _ _ hTO⟩, h1.at (hk _), h2.at (hk _), hl1.at (hk _), hl2.at (hk _)⟩
  there := fun h ⟨hz, hTI, ⟨a, c, hTO⟩, ⟨o1, h1, _⟩, ⟨o2, h2, _⟩, ⟨o3, hl1, _⟩, ⟨o4, hl2, _⟩⟩ b hb => by
    have e : b = z ∨ b = TI ∨ b = TO ∨ b = i1 ∨ b = i2 ∨ b = l1 ∨ b = l2 := by simpa using hb
    rcases e with q | q | q | q | q | q | q <;> rw [q]
    · exact ⟨_, hz⟩
    · exact ⟨_, hTI⟩
    · exact ⟨_, hTO⟩
    · exact ⟨_, h1⟩
    · exact ⟨_, h2⟩
    · exact ⟨_, hl1⟩
    · exact ⟨_, hl2⟩
  sub := fun b hb => by
    have e : b = z ∨ b = TO ∨ b = i1 ∨ b = i2 := by simpa using hb
    rcases e with q | q | q | q <;> rw [q] <;> simp
  noKeys := fun A s Q E hA ok h => getAttrOr_miss_zip ok.1 rfl rfl rfl zip_no_keys (by decide +kernel) hA h
  iter := fun A s d Q E hA ⟨hz, hTI, ⟨a, b, hTO⟩, h1, h2, hl1, hl2⟩ hd hdf h => by
    obtain ⟨dz, dTI, dTO, di1, di2, dl1, dl2⟩ : d ≠ z ∧ d ≠ TI ∧ d ≠ TO ∧ d ≠ i1 ∧ d ≠ i2 ∧ d ≠ l1 ∧ d ≠ l2 := by simpa using hdf
    have S := sep_of D
    have D1 := Draws.list (prog := prog) (w := w) (A := A.in1) hA i1 l1 D.l1i1 xs
    have D2 := drawsT (prog := prog) (w := w) (A := A.in1) hA i2 l2 D.l2i2 ys
    refine wpAny_pyIter_zip hz (h z [z, TO, i1, i2] (fun i h => IsPair h TI (.ref i1) (.ref i2) ∧ (h.IsListIter i1 l1 i ∧ h.IsList l1 xs) ∧ (h.IsTupleIter i2 l2 i ∧ h.IsTuple l2 ys) ∧
      ((IsZip h z TI TO .none ∧ ∃ a b, IsPair h TO a b) ∨ ∃ T f oT, IsZipHeld h z TI TO T f ∧ h.get? T = some oT ∧ T ≠ z ∧ T ≠ i1 ∧ T ≠ i2 ∧ T ≠ d)) s.heap s.toks ?_ ⟨hTI, ⟨h1, hl1⟩, ⟨h2, hl2⟩, .inl ⟨hz, a, b, hTO⟩⟩ (fun _ _ e => e) fun b hb => .inl hb)
    refine ⟨fun hm => ?_, fun i g g' ⟨hTI, h1, h2, hz⟩ hk => ⟨hk _ _ dTI.symm hTI, ⟨h1.1.at fun o => hk _ o di1.symm, h1.2.at fun o => hk _ o dl1.symm⟩, ⟨h2.1.at fun o => hk _ o di2.symm, h2.2.at fun o => hk _ o dl2.symm⟩, ?_⟩, fun i s1 Q1 E1 hi ⟨hTI, h1, h2, hz⟩ hds hQ => ?_, fun s1 Q1 E1 ⟨hTI, h1, h2, hz⟩ hQ => ?_⟩
    · have e : d = z ∨ d = TO ∨ d = i1 ∨ d = i2 := by simpa using hm
      rcases e with q | q | q | q
      · exact dz q
      · exact dTO q
      · exact di1 q
      · exact di2 q
    · rcases hz with ⟨hz, a, b, hTO⟩ | ⟨T, f, oT, hz, hT, r1, r2, r3, r4⟩
      · exact .inl ⟨hk _ _ dz.symm hz, a, b, hk _ _ dTO.symm hTO⟩
      · exact .inr ⟨T, f, oT, hk _ _ dz.symm hz, hk _ _ r4 hT, r1, r2, r3, r4⟩
    · have lx : i < xs.size := Nat.lt_of_lt_of_le hi (Nat.min_le_left ..)
      have ly : i < ys.size := Nat.lt_of_lt_of_le hi (Nat.min_le_right ..)
      have lt : ∀ {c o}, s1.heap.get? c = some o → s1.heap.objs.size ≠ c := fun e => Nat.ne_of_gt (Heap.lt_size e)
      have m1 : s1.heap.objs.size ≠ i1 := let ⟨_, e, _⟩ := h1.1; lt e
      have m2 : s1.heap.objs.size ≠ i2 := let ⟨_, e, _⟩ := h2.1; lt e
      rcases hz with ⟨hz, a, b, hTO⟩ | ⟨T, f, oT, hz, hT, r1, r2, r3, r4⟩
      · exact wpAny_pyNext_zipD2_item S D1 D2 hz hTI hTO h1 h2 lx ly fun u v h' tk e1 e2 a1 _ a3 a4 a5 _ hk => hQ s1.heap.objs.size _ _ h' tk ⟨e1, e2⟩ (.inl ⟨_, a5, rfl, _, rfl⟩)
          ⟨hk _ _ D.TIz D.TITO D.TIi1 D.TIi2 hTI, a3, a4, .inr ⟨s1.heap.objs.size, false, _, a1, a5, lt hz, m1, m2, Nat.ne_of_gt hds⟩⟩ fun c o hc e => hk c o (fun x => hc (by simp [x])) (fun x => hc (by simp [x])) (fun x => hc (by simp [x])) (fun x => hc (by simp [x])) e
      · exact next_held S D1 D2 hz hT hTI h1 h2 lx ly fun u v h' tk e1 e2 a1 a3 a4 a5 hk => hQ s1.heap.objs.size _ _ h' tk ⟨e1, e2⟩ (.inl ⟨_, a5, rfl, _, rfl⟩)
          ⟨hk _ _ D.TIz D.TIi1 D.TIi2 hTI, a3, a4, .inr ⟨T, true, oT, a1, hk _ _ r1 r2 r3 hT, r1, r2, r3, r4⟩⟩ fun c o hc e => hk c o (fun x => hc (by simp [x])) (fun x => hc (by simp [x])) (fun x => hc (by simp [x])) e
    · have le1 : min xs.size ys.size ≤ xs.size := Nat.min_le_left ..
      have le2 : min xs.size ys.size ≤ ys.size := Nat.min_le_right ..
      have hend : min xs.size ys.size = xs.size ∨ min xs.size ys.size = ys.size := by omega
      rcases hz with ⟨hz, a, b, hTO⟩ | ⟨T, f, oT, hz, hT, r1, r2, r3, r4⟩
      · exact wpAny_pyNext_zipD2_end S D1 D2 hz hTI hTO h1 h2 le1 le2 hend fun h' tk hk => hQ h' tk fun c o hc e => hk c o (fun x => hc (by simp [x])) (fun x => hc (by simp [x])) (fun x => hc (by simp [x])) (fun x => hc (by simp [x])) e
      · exact next_held_end S D1 D2 hz hT hTI h1 h2 le1 le2 hend fun h' tk hk => hQ h' tk fun c o hc e => hk c o (fun x => hc (by simp [x])) (fun x => hc (by simp [x])) (fun x => hc (by simp [x])) e
/-- keys and values by places -/
def zipP {α : Type} : List Key → List α → List (Key × α)
  | k :: ks, v :: vs => (k, v) :: zipP ks vs
  | _, _ => []
theorem zip_have {P : Program} {w : World} : ∀ {ks : List Key} {xs : List V} {us vs : List Value}, Vals (ks.map kV) us → Vals xs vs → ks.length = xs.length →
    ∃ prs : List (Key × Value), KV (zipP ks xs) prs ∧ PairsHave (mixKind P w) (min us.toArray.size vs.toArray.size) (fun i k v => us.toArray[i]? = some k ∧ vs.toArray[i]? = some v) prs
  | [], [], us, vs, r1, r2, hl => by
    cases r1; cases r2
    exact ⟨[], .nil, rfl, fun i k v ⟨h, _⟩ => by simp at h⟩
  | [], _ :: _, us, vs, r1, r2, hl => by cases hl
  | _ :: _, [], us, vs, r1, r2, hl => by cases hl
  | k :: ks, x :: xs, us, vs, r1, r2, hl => by
    rw [List.map_cons] at r1
    cases r1 with
    | @cons _ u _ us' a1 a2 =>
      cases r2 with
      | @cons _ v _ vs' b1 b2 =>
        obtain ⟨prs, h1, h2, h3⟩ := zip_have (P := P) (w := w) a2 b2 (Nat.succ.inj hl)
        refine ⟨(k, v) :: prs, .cons ⟨rfl, b1⟩ h1, ?_, fun i key val ⟨g1, g2⟩ => ?_⟩
        · rw [List.length_cons, h2]
          simp only [List.size_toArray, List.length_cons]
          omega
        · cases i with
          | zero =>
            have e1 : u = key := by simpa using g1
            have e2 : v = val := by simpa using g2
            subst e1; subst e2
            exact ⟨k, rfl, kV_is (P := P) (w := w) a1⟩
          | succ i =>
            obtain ⟨k', e, ke⟩ := h3 i key val ⟨by simpa using g1, by simpa using g2⟩
            exact ⟨k', by simpa using e, ke⟩
def tDictZip (K : PySem.W.Frag) (ta : TA) : TE := fun σ H Q => ta σ H fun vs H1 => ∃ a b ks xs, vs = [.ref a, .ref b] ∧ SqL K H1 a (ks.map kV) ∧ SqT K H1 b xs ∧ ks.length = xs.length ∧ ∀ p, H1 p = none → Q (.ref p) (upd H1 p (.dK (mergeK [] (zipP ks xs))))
theorem zipP_len {α : Type} : ∀ {ks : List Key} {xs : List α}, (zipP ks xs).length ≤ ks.length
  | [], _ => Nat.le_refl _
  | _ :: _, [] => Nat.zero_le _
  | _ :: ks, _ :: xs => Nat.succ_le_succ (zipP_len (ks := ks) (xs := xs))
theorem pe_dictZip {X : Cx} {e e2 : Expr} {ta : TA} {p pos p3 pos2 : Pos} (hc : X.calm = true) (hg : Gl X "dict") (hm : X.mg "dict" = none) (hg2 : Gl X "zip") (hm2 : X.mg "zip" = none) (ha : PA X [e, e2] ta)
    (hs : starEach [e, e2] X.env = (false, eval e X.env) :: starEach [e2] X.env) (hpl : (backTo pos2 (starEach [e2] X.env)).any (·.1) = false)
    (hs0 : starEach [.Call (.Name "zip" p3) [e, e2] [] pos2] X.env = (false, eval (.Call (.Name "zip" p3) [e, e2] [] pos2) X.env) :: starEach [] X.env) :
    PE X (.Call (.Name "dict" p) [.Call (.Name "zip" p3) [e, e2] [] pos2] [] pos) (tDictZip X.K ta) := by
  refine ⟨fun pins s σ H Q I h => wpAny_Call_Name_kw (ld_blt I hg hm PyProof.Rows.boot_dict (PyProof.Rows.callWith_type1 ?_ hs0 rfl) (by decide) (by decide))⟩
  rw [hs0]
  refine Calls.spliced_cons (wpAny_Call_Name_kw (ld_blt I hg2 hm2 PyProof.Rows.boot_zip (PyProof.Rows.callWith_type1 (thn (ha.run pos2 pins s σ H _ I h) fun us s1 ⟨vs, H1, I1, r1, a, b, ks, xs, ex, hqx, hqy, hl, q⟩ => ?_) hs hpl) (by decide) (by decide)))
  subst ex
  obtain ⟨u, u2, rfl, r, r'⟩ := vals2 r1
  cases r; cases r'
  obtain ⟨its, rv, p1, z1⟩ := I1.list hqx
  obtain ⟨its2, rv2, p2, z2⟩ := I1.tuple hqy
  have hb : b < s1.heap.objs.size := let ⟨_, e, _⟩ := p2; Heap.lt_size e
  refine call_zipM p1.isList p2 fun h' hz hTI hTO h1 h2 hk => Calls.spliced_nil ?_
  obtain ⟨prs, kv, hv⟩ := zip_have (P := X.prog) (w := X.w) rv rv2 hl
  have hn : min its.toArray.size its2.toArray.size ≤ sizeLine := by
    have e2 := rv2.length
    refine Nat.le_trans (Nat.min_le_right ..) ?_
    rw [List.size_toArray, ← e2]
    exact z2
  refine PySem.call_dict_pairs (s := { s1 with heap := h' }) (argZipM _ _ _ _ _ a b (PySem.W.ktu_apart s1.heap.objs.size a b p1.lt hb) its.toArray its2.toArray) (I1.ok.hd hc) ⟨hz, hTI, ⟨_, _, hTO⟩, h1, h2, p1.isList.at (hk _), (show s1.heap.IsTuple b its2.toArray from p2).at (hk _)⟩ hv hn fun h2 tk hd' k2 => ?_
  have hsz : s1.heap.objs.size ≤ h'.objs.size := Nat.le_trans (Nat.le_add_right _ 4) (Nat.le_of_lt (Heap.lt_size hz))
  have kp : ∀ c o, s1.heap.get? c = some o → h2.get? c = some o := fun c o e => k2 c o (fun m => by
    have hlt := Heap.lt_size e
    have e : c = s1.heap.objs.size + 4 ∨ c = s1.heap.objs.size + 3 ∨ c = s1.heap.objs.size ∨ c = s1.heap.objs.size + 1 := by simpa using m
    have hle : s1.heap.objs.size ≤ c := by rcases e with q | q | q | q <;> rw [q] <;> first | exact Nat.le_refl _ | exact Nat.le_add_right _ _
    exact Nat.not_lt_of_le hle hlt) (hk c o e)
  have hbig := I1.big
  have hm0 : (h'.objs.size == sysModules) = false := beq_eq_false_iff_ne.mpr (Nat.ne_of_gt (Nat.lt_of_lt_of_le hbig hsz))
  have hlen : (mergeK [] (zipP ks xs)).length ≤ sizeLine := Nat.le_trans (length_mergeK _ []) (by
    have := zipP_len (ks := ks) (xs := xs)
    rw [List.length_map] at z1
    rw [List.length_nil, Nat.zero_add]
    omega)
  exact ⟨.ref h'.objs.size, _, I1.laid (t' := tk) kp hsz (show ObjOk X.prog X.w _ _ _ (.dK (mergeK [] (zipP ks xs))) from ⟨hlen, hm0, merged [] prs, KV.merge kv .nil, hd'⟩), rfl, q _ (I1.hok.fresh hsz)⟩
section
variable {X : Cx} {ρ : Sl} {S : Store} {Q : D → Store → Prop} {pos p p3 pos2 : Pos} {a b : Expr} {K : PySem.W.Frag}
theorem repL_kD {G : Hp} : ∀ {ks : List Key} {xs : List V}, RepL K G (ks.map kD) xs → xs = ks.map kV
  | [], xs, h => h
  | k :: ks, xs, ⟨x, r, e, h1, h2⟩ => by rw [e, repL_kD h2, kD_rep h1]; rfl
theorem repP_zip {G : Hp} : ∀ {ks : List Key} {m : List D} {ys : List V}, RepL K G m ys → RepP K G (zipP ks m) (zipP ks ys)
  | [], m, ys, h => rfl
  | k :: ks, [], ys, h => by rw [show ys = [] from h]; exact rfl
  | k :: ks, d :: m, ys, ⟨y, r, e, h1, h2⟩ => by rw [e]; exact ⟨y, _, rfl, h1, repP_zip h2⟩
theorem aE_dictZip (hc : X.calm = true) (hm : X.mg "dict" = none) (hm2 : X.mg "zip" = none) (h : aA X [a, b] ρ S fun ds S1 => ∃ (ks : List Key) (m : List D), ds = [.lst (ks.map kD), .tup m] ∧ ks.length = m.length ∧ NewD (mergeP [] (zipP ks m)) S1 Q) (hg : Gl X "dict" := by rfl) (hg2 : Gl X "zip" := by rfl)
    (hs : starEach [a, b] X.env = (false, eval a X.env) :: starEach [b] X.env := by rfl) (hpl : (backTo pos2 (starEach [b] X.env)).any (·.1) = false := by rfl)
    (hs0 : starEach [.Call (.Name "zip" p3) [a, b] [] pos2] X.env = (false, eval (.Call (.Name "zip" p3) [a, b] [] pos2) X.env) :: starEach [] X.env := by rfl) :
    aE X (.Call (.Name "dict" p) [.Call (.Name "zip" p3) [a, b] [] pos2] [] pos) ρ S Q := fun σ H R s k => by
  refine w_pe (pe_dictZip hc hg hm hg2 hm2 pa_w hs hpl hs0) ?_
  refine h σ H _ s fun vs H1 ds S1 ⟨ks, m, e1, hl, q⟩ k1 o1 r1 => ?_
  subst e1
  obtain ⟨x, y, e2, ⟨c1, xs, e3, g1, q1⟩, ⟨c2, ys, e5, g2, q2⟩⟩ := rep2 r1
  subst e2; subst e3; subst e5
  have ex := repL_kD q1
  subst ex
  exact ⟨c1, c2, ks, ys, rfl, .inl (.inl (hid_sub _ _ g1)), sqT_kp kp_hid g2.sq, by rw [q2.len]; exact hl, fun pp hp => q.use o1 (RepP.merge (l := []) (xs := []) rfl (repP_zip q2)) k1 hp k⟩
end
end DL

namespace DL
open PySem PySem.Spec PyProof.Rows L2
/-! ### repr: no repr runs yet -/
/-- the data of a value, lists in a tuple may change, too -/
inductive PyAll (S : Store) : List D → List PyData → Prop
  | nil : PyAll S [] []
  | cons {d : D} {p : PyData} {l : List D} {ps : List PyData} : PyOf S d p → PyAll S l ps → PyAll S (d :: l) (p :: ps)
def PyT (S : Store) (d : D) (p : PyData) : Prop := PyOf S d p ∨ ∃ l ps, d = .tup l ∧ p = .tuple ps ∧ PyAll S l ps
theorem PyAll.use {K : PySem.W.Frag} {S : Store} {H : Hp} (o : SOk K S H) : ∀ {l : List D} {ps : List PyData} {xs : List V}, PyAll S l ps → RepL K (hid (adrs S) H) l xs → DpAll K H xs ps
  | _, _, xs, .nil, r => by rw [show xs = [] from r]; exact .nil
  | _, _, xs, .cons h t, ⟨x, r, e, r1, r2⟩ => by rw [e]; exact .cons (h.use o r1) (t.use o r2)
theorem PyT.use {K : PySem.W.Frag} {S : Store} {H : Hp} {d : D} {p : PyData} {v : V} (h : PyT S d p) (o : SOk K S H) (r : RepS1 K S H d v) : Dp K H v p := by
  rcases h with h | ⟨l, ps, e, e2, h⟩
  · exact h.use o r
  · subst e; subst e2
    obtain ⟨a, xs, ev, g, q⟩ := r
    subst ev
    exact .tup (sqT_kp kp_hid g.sq) (h.use o q)
section
variable {X : Cx} {ρ : Sl} {S : Store} {Q : D → Store → Prop} {pos p : Pos} {e : Expr} {es : List Expr} {K : PySem.W.Frag}
def rRepr (K : PySem.W.Frag) : List V → Hp → VK → Prop := fun vs H Q => ∃ a d, vs = [V.ref a] ∧ Dp K H (.ref a) d ∧ d.showable = true ∧ d.hasDict = false ∧ d.depth ≤ 40 ∧ d.shown.length ≤ 16000000 ∧ Q (.str d.shown) H
theorem cr_repr (G : X.A.guards = some []) (hu : X.A.units + 64 < cLine) : CallR X (.builtin "repr") (rRepr X.K) := by
  intro pins s σ H vs us Q I r h
  obtain ⟨a, d, rfl, hd, h1, h2, h3, h4, q⟩ := h
  obtain ⟨u, rfl, rx⟩ := vals1 r
  obtain ⟨as, hr⟩ := Dp.reads I d _ u hd rx
  cases rx
  exact PySem.repr_of_reads' hr h1 (fun z => by rw [h2] at z; cases z) G (by omega) (fun b o w => w) (fun h' u tk kp => ⟨.str d.shown, H, I.kept kp, ⟨u, rfl⟩, q⟩) (Nat.le_trans h4 (by decide))
def aRepr : ARel := fun ds S Q => ∃ d p, ds = [d] ∧ (∃ l, d = .tup l ∨ d = .lst l ∨ ∃ a, d = .adr a) ∧ PyT S d p ∧ p.showable = true ∧ p.hasDict = false ∧ p.depth ≤ 40 ∧ p.shown.length ≤ 16000000 ∧ Q (.str p.shown) S
theorem acall_repr : ACall K (rRepr K) aRepr := fun ds S Q vs H S0 H0 R q o rr k0 k => by
  obtain ⟨d, pd, ed, hd, h, h1, h2, h3, h4, q⟩ := q
  subst ed
  obtain ⟨v, ev, r⟩ := rep1 rr
  subst ev
  have hv : ∃ a, v = .ref a := by
    obtain ⟨l, e | e | ⟨a, e⟩⟩ := hd
    · subst e; obtain ⟨a, _, e, _⟩ := r; exact ⟨a, e⟩
    · subst e; obtain ⟨a, _, e, _⟩ := r; exact ⟨a, e⟩
    · subst e; exact ⟨a, r⟩
  obtain ⟨a, ea⟩ := hv
  have hd' := h.use o r
  subst ea
  exact ⟨a, pd, rfl, hd', h1, h2, h3, h4, k _ _ _ _ q k0 o rfl⟩
theorem aE_repr (G : X.A.guards = some []) (hu : X.A.units + 64 < cLine) (hm : X.mg "repr" = none) (h : aE X e ρ S fun d S1 => (∃ l, d = .tup l ∨ d = .lst l ∨ ∃ a, d = .adr a) ∧ ∃ p, PyT S1 d p ∧ p.showable = true ∧ p.hasDict = false ∧ p.depth ≤ 40 ∧ p.shown.length ≤ 16000000 ∧ Q (.str p.shown) S1)
    (hg : Gl X "repr" := by rfl) (hs : starEach [e] X.env = (false, eval e X.env) :: starEach [] X.env := by rfl) : aE X (.Call (.Name "repr" p) [e] [] pos) ρ S Q :=
  aE_fnB (cr_repr G hu) acall_repr hm PyProof.Rows.boot_repr (aA1 (h.mono fun d S' ⟨hd, p, c⟩ => ⟨d, p, rfl, hd, c⟩) hs) hg (he := hs)
end
/-! ### defs that tell a repr -/
structure FnG (P : Program) (w : World) (K : PySem.W.Frag) (mg : Str → Option Value) (base : Heap) (k : Nat) (f : Addr) (fd : FuncData) (ps : List Str) (sp : Sp) : Prop where
  len : ∀ vs H Q E, sp vs H Q E → vs.length = ps.length
  run : ∀ (A : Around) (outer : List Env) (s : Shared) (H : Hp) (us : List Value) (vs : List V) (Q : VK) (E : XK), Room k A → A.guards = some [] → Env0 P w K mg base A outer s H → (∀ s us, K.In s.heap → us.length = ps.length → BindsTo s fd ⟨us, []⟩ (ps.zip us)) → Vals vs us → sp vs H Q E →
    codeAny (model P w) A (.call (.ref f) ⟨us, []⟩) (CR CX0 outer P w H s Q E) s
def BodyG (P : Program) (w : World) (K : PySem.W.Frag) (mg : Str → Option Value) (base : Heap) (N : List Str) (qual : Str) (st : Stmt) (k : Nat) (sp : ASp) : Prop :=
  ∀ f cdv A outer s H E, Room k (cxB P w K mg base N qual st f cdv A outer s H E).A → (cxB P w K mg base N qual st f cdv A outer s H E).A.guards = some [] → ∀ ds S R, sp ds S R →
    aSs (cxB P w K mg base N qual st f cdv A outer s H E) (defBody st) (startD N ds) S { nx := fun _ S' => R .non S', rt := R }
section
variable {P : Program} {w : World} {K : PySem.W.Frag} {mg : Str → Option Value} {base : Heap}
theorem okG {x qual : Str} {st : Stmt} {f : Addr} {fd : FuncData} {N ps : List Str} {k : Nat} {sp : ASp} (b : BodyG P w K mg base N qual st k sp) (F : Fun K x qual st f fd) (S : FnScope N ps (defScope st)) (len : ∀ ds S R, sp ds S R → ds.length = ps.length) :
    FnG P w K mg base (k + 1) f fd ps (spA K sp) := by
  obtain ⟨oc, od, kV, doc, pm, an, cdv, ct, osl, rfl, lk, hcd⟩ := F.ex
  refine ⟨spA_len len, fun A outer s H us vs Q E hr hG e0 hb rv hsp => ?_⟩
  have hl : vs.length = ps.length := spA_len len _ _ _ _ hsp
  have KX : K.In s.heap := e0.mod.kin.keeps fun b o e => (e0.bs b o e).1
  refine LamX.run_ofS lk hcd S hr e0 (hb s us KX (by rw [← rv.length]; exact hl)) rv hl fun hr' => ?_
  obtain ⟨ds, S0, R, r, o, q, kk⟩ := hsp
  have hb2 := b f cdv A outer s H E hr' hG ds S0 R q (L2.start N vs) H { nx := fun _ H' => Q .non H', rt := Q } ⟨start_rep r, o⟩ ⟨fun σ' H' ρ' S' q' k' s' => kk .non H' .non S' q' k' s'.ok rfl, kk, fun _ _ _ _ q' => q'.elim, fun _ _ _ _ q' => q'.elim⟩
  exact ⟨_, (pss_w (X := cxB P w K mg base N qual st f cdv A outer s H E)).nox, hb2⟩
structure CalG (P : Program) (w : World) (K : PySem.W.Frag) (mg : Str → Option Value) (base : Heap) (k : Nat) (x : Str) (sp : ASp) : Prop where
  ex : ∃ (f : Addr) (fd : FuncData) (ps : List Str), FnG P w K mg base k f fd ps (spA K sp) ∧ mg x = some (.ref f) ∧ PySem.W.keepIn K (.ref f) = true ∧ (∀ s us, K.In s.heap → us.length = ps.length → BindsTo s fd ⟨us, []⟩ (ps.zip us))
theorem binds_all {fd : FuncData} {ps : List Str} (b : Binds K fd ps []) : ∀ (s : Shared) (us : List Value), K.In s.heap → us.length = ps.length → BindsTo s fd ⟨us, []⟩ (ps.zip us) := fun s us hk hl => by
  have h := b s us hk (by rw [List.append_nil]; exact hl)
  rwa [List.append_nil] at h
theorem calG {x : Str} {st : Stmt} {f : Addr} {fd : FuncData} {N ps : List Str} {k : Nat} {sp : ASp} (b : BodyG P w K mg base N x st k sp) (F : Fun K x x st f fd) (hm : mg x = some (.ref f)) (bi : Binds K fd ps []) (S : FnScope N ps (defScope st)) (len : ∀ ds S R, sp ds S R → ds.length = ps.length) :
    CalG P w K mg base (k + 1) x sp := ⟨f, fd, ps, okG b F S len, hm, F.kp, binds_all bi⟩
end
section
variable {X : Cx} {ρ : Sl} {S : Store} {Q : D → Store → Prop} {pos p : Pos} {e : Expr} {es : List Expr} {k j : Nat} {x : Str} {sp : ASp}
theorem pe_cG (c : CalG X.prog X.w X.K X.mg X.base k x sp) (hr : Room k X.A) (G : X.A.guards = some []) (hg : Gl X x) {t : TA} (ha : PA X (e :: es) t) (hdb : (x == ("__debug__" : Str)) = false) (he : starEach (e :: es) X.env = (false, eval e X.env) :: starEach es X.env) (hpl : (backTo pos (starEach es X.env)).any (·.1) = false) :
    PE X (.Call (.Name x p) (e :: es) [] pos) (fun σ H Q => t σ H fun vs H1 => spA X.K sp vs H1 Q E0) := by
  obtain ⟨f, fd, ps, F, hm, hk, hb⟩ := c.ex
  refine ⟨fun pins s σ H Q I h => wpAny_Call_Name_kw (ld_glob I hg hm (PySem.W.callWith_K (h₀ := X.base) I.ok.mod.kin hk (thn (ha.run pos pins s σ H _ I h) fun us s1 ⟨vs, H1, I1, r, q⟩ => ⟨I1.kIn, ?_⟩) he hpl) hdb)⟩
  refine wpAny_call (codeAny_mono (F.run X.A X.stack s1 H1 us vs Q E0 hr G I1.env0 hb r q) fun r s' hq => ?_)
  cases r with
  | error e => exact (show False from hq).elim
  | ok fl =>
    cases fl with
    | ret u => exact I1.after hq
    | next => exact False.elim hq
    | brk => exact False.elim hq
    | cont => exact False.elim hq
theorem aE_callG (c : CalG X.prog X.w X.K X.mg X.base k x sp) (hr : Room j X.A) (G : X.A.guards = some []) (h : aA X (e :: es) ρ S fun ds S1 => sp ds S1 Q) (hk : k ≤ j := by decide) (hg : Gl X x := by rfl)
    (hdb : (x == ("__debug__" : Str)) = false := by decide) (he : starEach (e :: es) X.env = (false, eval e X.env) :: starEach es X.env := by rfl) (hpl : (backTo pos (starEach es X.env)).any (·.1) = false := by rfl) :
    aE X (.Call (.Name x p) (e :: es) [] pos) ρ S Q := fun σ H R s kk => by
  refine w_pe (pe_cG c (hr.mono hk) G hg pa_w hdb he hpl) ?_
  refine h σ H _ s fun vs H1 ds S1 q1 k1 o1 r1 => ?_
  exact ⟨ds, S1, Q, r1, o1, q1, fun v H' d S' q k2 o2 r2 => kk v H' d S' q (k1.trans k2) o2 r2⟩
end
end DL

/-! sorted(rows, key=lambda row: row[0]) -/
namespace DL
open PySem PySem.Spec PyProof.Rows L2
/-- a lambda of one name that tells the first item of a tuple -/
structure Lam0 (params : Arguments) (scope : Scope) (body : Expr) : Prop where
  ex : ∃ (y : Str) (j : Nat) (p1 p2 p3 : Pos), body = .Subscript (.Name y p1) (.Constant (.int 0) j p2) p3 ∧ scope.names = [(y, .local)] ∧ (y == ("__debug__" : Str)) = false ∧
    ∀ (q : Str) (cl : List (Str × Addr)) (pm cv ctv v : Value), bindArgs (PySem.W.kla_fn "<lambda>" q params body scope cl pm cv ctv) ⟨[v], []⟩ = pure [(y, v)]
  kind : scope.kind = .function
  co : scope.isCoroutine = false
  gen : scope.isGenerator = false
theorem lam0_call {prog : Program} {w : World} {A : Around} {E : Value → Shared → Prop} {s : Shared} {f t c' : Addr} {q : Str} {params : Arguments} {scope : Scope} {body : Expr} {cl : List (Str × Addr)} {pm ctv v : Value} {items : Array Value}
    (L : Lam0 params scope body) (hf : s.heap.get? f = some (PySem.W.kla_obj "<lambda>" q params body scope cl pm c' ctv)) (hc : ∃ (oc : Obj) (vs : Array Value) (t : Tok), s.heap.get? c' = some oc ∧ oc.data = .fields vs ∧ vs[1]? = some (.str q t))
    (lim : s.heap.NoLimit) (hdp : A.depth < recursionLimit) (ht : s.heap.IsTuple t items) (h0 : items[0]? = some v) :
    wpAny (model prog w) A (call (.ref f) [.ref t]) (fun r s' => r = v ∧ ∃ h' tk, s' = { s with heap := h', toks := tk } ∧ ∀ b o, s.heap.get? b = some o → h'.get? b = some o) E s := by
  obtain ⟨y, j, p1, p2, p3, eb, en, hd, hb⟩ := L.ex
  obtain ⟨oc, vs, tq, hoc, hdc, hvc⟩ := hc
  have hl : scope.names.lookup y = some .local := by rw [en]; simp
  refine wpAny_call (codeAny_mono (PySem.W.kla_callFunE (R := fun r s' => ∃ r', r = .ok (.ret r') ∧ r' = v ∧ ∃ h' tk, s' = { s with heap := h', toks := tk } ∧ ∀ b o, s.heap.get? b = some o → h'.get? b = some o) hdp hf rfl L.co L.gen rfl ⟨c', oc, vs, tq, rfl, hoc, hdc, hvc⟩ ?_) fun r s' ⟨r', e, z⟩ => by subst e; exact z)
  rw [hb]
  refine wpAny_pure (wpAny_newFunctionEnv (fun x hx => by rw [en] at hx; rw [List.mem_singleton.mp hx]; intro z; cases z) (fun x hx => by rw [List.mem_singleton.mp hx]; exact hl) (fun h1 hns sb => ⟨lim.fresh _ sb, PySem.W.kla_codeExpr ?_⟩) L.kind)
  have kp : ∀ b o, s.heap.get? b = some o → h1.get? b = some o := fun b o e => sb.extBut b o (Nat.ne_of_lt (Heap.lt_size e)) (Heap.get?_push_of_some _ e)
  have ht1 : h1.IsTuple t items := ht.at (kp t)
  have hlen : 0 < items.size := (Array.getElem?_eq_some_iff.mp h0).1
  rw [eb]
  refine wpAny_Subscript_Constant_late (wpAny_Name (wpAny_loadName_local L.kind hl hns (v := .ref t) (by simp) (wpAny_Constant_int ⟨"tuple", _, PyProof.Rows.slot_tuple_getitem.lookup, ⟨_, ht1.choose_spec.1, ht1.choose_spec.2.1⟩, ?_⟩)) hd)
  exact PyProof.Rows.getItem_tuple ht1 (by decide) (by decide) (seqIndex_of (Int.le_refl _) (by omega)) h0 ⟨_, rfl, rfl, _, _, rfl, kp⟩
/-- the rows by their first texts -/
def sortVK (xs : List V) (ks : List Str) : List V := ((xs.zip ks).mergeSort fun a b => leS a.2 b.2).map (·.1)
def tSortK (X : Cx) (P : Addr) (q0 : Str) (t : TA) : TE := fun σ H Q => t σ H fun vs H1 => ∃ a xs ks T, vs = [.ref a] ∧ SqL X.K H1 a xs ∧ LamX.Tabs T H1 ∧ (P, q0) ∈ T ∧ (∀ p ∈ T, p.1 = P → p.2 = q0) ∧ Paired (fun v (k : Str) => ∃ t r, v = V.ref t ∧ SqT X.K H1 t (V.str k :: r)) xs ks ∧
  ∀ H2, LamX.ExtN H1 H2 → LamX.Tabs T H2 → ∀ p, H2 p = none → Q (.ref p) (upd H2 p (.lst (sortVK xs ks)))
theorem leS_data (k : Value × V × Str → Str) : PySem.W.dataLe false (fun b => PyData.str (k b)) = fun a b => leS (k a) (k b) := by
  rw [PySem.W.dataLe_str]
  funext a b
  rw [Bool.eq_iff_iff, leS_iff, decide_eq_true_eq]
theorem each_zip {F : V → Str → Prop} : ∀ {us : List Value} {xs : List V} {ks : List Str}, Vals xs us → Paired F xs ks → PySem.W.EachIs (fun u (b : Value × V × Str) => u = b.1 ∧ RelV b.2.1 u ∧ F b.2.1 b.2.2) us (us.zip (xs.zip ks))
  | [], [], [], .nil, .nil => .nil
  | u :: us, x :: xs, k :: ks, .cons r t, .cons f g => .cons ⟨rfl, r, f⟩ (each_zip t g)
theorem vals_each {F : V → Str → Prop} : ∀ {out : List Value} {bs : List (Value × V × Str)}, PySem.W.EachIs (fun u (b : Value × V × Str) => u = b.1 ∧ RelV b.2.1 u ∧ F b.2.1 b.2.2) out bs → Vals (bs.map (·.2.1)) out
  | [], [], .nil => .nil
  | u :: out, b :: bs, .cons h t => .cons h.2.1 (vals_each t)
theorem zip_snd : ∀ {us : List Value} {bs : List (V × Str)}, us.length = bs.length → (us.zip bs).map (·.2) = bs
  | [], [], _ => rfl
  | [], _ :: _, h => by cases h
  | _ :: _, [], h => by cases h
  | u :: us, b :: bs, h => by rw [List.zip_cons_cons, List.map_cons, zip_snd (Nat.succ.inj h)]
theorem sqT_extN {K : PySem.W.Frag} {H H2 : Hp} {a : Addr} {xs : List V} (e : LamX.ExtN H H2) (h : SqT K H a xs) : SqT K H2 a xs := by
  rcases h with h | h
  · rcases h with h | ⟨o, h⟩
    · exact .inl (.inl (e _ _ h fun _ z => by cases z))
    · exact .inl (.inr ⟨o, e _ _ h fun _ z => by cases z⟩)
  · exact .inr h
theorem sqL_extN {K : PySem.W.Frag} {H H2 : Hp} {a : Addr} {xs : List V} (e : LamX.ExtN H H2) (h : SqL K H a xs) : SqL K H2 a xs := by
  rcases h with h | h
  · rcases h with h | ⟨o, h⟩
    · exact .inl (.inl (e _ _ h fun _ z => by cases z))
    · exact .inl (.inr ⟨o, e _ _ h fun _ z => by cases z⟩)
  · exact .inr h
theorem pe_sortK {X : Cx} {c P : Addr} {e : Expr} {t : TA} {p pos lpos kpos : Pos} {params : Arguments} {body : Expr} {scope : Scope} (hc : X.calm = true) (hu : X.A.units + 64 < cLine) (hdp : X.A.depth < recursionLimit) (hg : Gl X "sorted") (hm : X.mg "sorted" = none) (ha : PA X [e] t)
    (TB : LamX.TabB X.base X.mg c P) (hcode : X.env.code = .ref c) (L : Lam0 params scope body) (hdef : defaultsOf params X.env = ([], []))
    (hb : backTo pos (starEach [e] X.env) = (false, eval e X.env) :: backTo pos (starEach [] X.env)) (hpl : (backTo pos (starEach [e] X.env)).any (·.1) = false) (hall : (backToKw pos (keywordEach [⟨some "key", .Lambda params body scope lpos, kpos⟩] X.env)).all (·.1.isSome) = true)
    (hnone : (backToKw pos (keywordEach [⟨some "key", .Lambda params body scope lpos, kpos⟩] X.env)).any (·.1.isNone) = false) (hks : (backToKw pos (keywordEach [⟨some "key", .Lambda params body scope lpos, kpos⟩] X.env)).filterMap (·.1) = [Str.ofString "key"]) :
    PE X (.Call (.Name "sorted" p) [e] [⟨some "key", .Lambda params body scope lpos, kpos⟩] pos) (tSortK X P (X.env.qual ++ "<lambda>") t) := by
  refine ⟨fun pins s σ H Q I h => wpAny_Call_Name_kw (ld_blt I hg hm PyProof.Rows.boot_sorted (PyProof.Rows.callWith_kw (thn (ha.run pos pins s σ H _ I h) fun us s1 ⟨vs, H1, I1, r1, a, xs, ks, T, ex, hq, hT, hmT, huT, hF, q⟩ => ?_) hb hpl hall hnone) (by decide) (by decide))⟩
  subst ex
  obtain ⟨u, rfl, rx⟩ := vals1 r1
  cases rx
  obtain ⟨y, j, p1, p2, p3, eb, en, hd, hbd⟩ := L.ex
  refine PyProof.Rows.kwAll_cons (LamX.lam_make2 I1 TB hcode hmT huT hT hdef (fun z hz e => by rw [en] at hz; rw [List.mem_singleton.mp hz] at e; cases e) fun f c' pm ctv H2 s2 I2 eN T2 hf hfn hfr hco => PyProof.Rows.kwAll_nil ?_)
  rw [hks]
  have hq2 : SqL X.K H2 a xs := sqL_extN eN hq
  obtain ⟨its, rv, hl, hz⟩ := I2.list hq2
  have hF2 : Paired (fun v (k : Str) => ∃ t r, v = V.ref t ∧ SqT X.K H2 t (V.str k :: r)) xs ks := Paired.mapP hF fun v k ⟨t, r, e1, e2⟩ => ⟨t, r, e1, sqT_extN eN e2⟩
  have hez := each_zip rv hF2
  have hlen := hez.length
  obtain ⟨⟨oc, ws, tc, hoc, hdc, hvc⟩, _, _⟩ := I2.hok c' _ hco
  refine PySem.W.sorted_key_data (b := false) (f := .ref f) (fun b : Value × V × Str => PyData.str b.2.2) hl.isList hez (.of fun _ _ => by simp [PySem.W.alike]) (.others fun _ => ⟨by simp, fun _ => by simp⟩) (by rw [← hlen, ← rv.length]; exact hz) (fun b _ => by simp only [PyData.depth]; omega)
    (PyProof.Rows.ksk_s1 _ _) (fun x => PyProof.Rows.ksk_l1 _ _) (fun x => PyProof.Rows.ksk_t1 _ _) (fun v b ⟨e1, e2, t, r, e3, e4⟩ _ h tk kp => ?_) fun out cc h' tk kp hn hD hl2 heach => ?_
  · rw [e3] at e2
    have e2 : v = Value.ref t := e2
    subst e2
    obtain ⟨its2, rv2, ht2, _⟩ := I2.tuple e4
    cases rv2 with
    | @cons _ u0 _ us0 w1 w2 =>
      obtain ⟨tk0, ew⟩ := w1
      subst ew
      have ht3 : h.IsTuple t (Value.str b.2.2 tk0 :: us0).toArray := (show s2.heap.IsTuple t _ from ht2).at (kp t)
      refine wpAny_mono (lam0_call (E := fun _ _ => False) (s := { s2 with heap := h, toks := tk }) L (kp _ _ hf) ⟨oc, ws, tc, kp _ _ hoc, hdc, hvc⟩ (I2.nolimit.keeps kp) hdp ht3 rfl) (fun r s' ⟨er, h', tk', es, kk⟩ => ?_) fun _ _ z => z
      subst er; subst es
      exact ⟨h', tk', rfl, kk, .str _ _⟩
  · have hs' : (((its.zip (xs.zip ks)).mergeSort (PySem.W.dataLe false fun b => PyData.str b.2.2)).map (·.2.1)) = sortVK xs ks := by
      rw [leS_data fun b => b.2.2]
      unfold sortVK
      have h1 : ((its.zip (xs.zip ks)).mergeSort fun a b => leS a.2.2 b.2.2).map (·.2) = (xs.zip ks).mergeSort fun a b => leS a.2 b.2 := by
        rw [List.map_mergeSort (s := fun a b : V × Str => leS a.2 b.2) (f := fun b : Value × V × Str => b.2) (fun _ _ _ _ => rfl), zip_snd]
        have e1 := rv.length
        have e2 := Paired.length hF
        rw [List.length_zip]
        omega
      rw [← h1, List.map_map]
      rfl
    have hv := vals_each (F := fun v (k : Str) => ∃ t r, v = V.ref t ∧ SqT X.K H2 t (V.str k :: r)) heach
    rw [hs'] at hv
    refine ⟨.ref (s2.heap.objs.size + 1), _, I2.laid (t' := tk) (o := .lst (sortVK xs ks)) kp (Nat.le_succ _) ⟨?_, out, cc, hv, hD⟩, rfl, q H2 eN T2 _ (I2.hok.fresh (Nat.le_succ _))⟩
    rw [hv.length, hl2, ← hlen, ← rv.length]
    exact hz
/-! ### by data -/
def kOf : D → Str
  | .tup (.str x :: _) => x
  | _ => ⟨#[]⟩
def leK (a b : D) : Bool := leS (kOf a) (kOf b)
def tabsOf (S : Store) : List (Addr × Str) := S.filterMap fun p => match p.2 with
  | .tbl q => some (p.1, q)
  | _ => none
section
variable {X : Cx} {ρ : Sl} {S : Store} {Q : D → Store → Prop} {K : PySem.W.Frag} {H H2 : Hp}
theorem mem_tabs {p : Addr × Str} : p ∈ tabsOf S ↔ (p.1, D.tbl p.2) ∈ S := by
  unfold tabsOf
  rw [List.mem_filterMap]
  constructor
  · rintro ⟨⟨a, d⟩, hm, e⟩
    cases d <;> simp at e
    subst e
    exact hm
  · intro h
    exact ⟨_, h, rfl⟩
theorem tabs_tabS (o : SOk K S H) : LamX.Tabs (tabsOf S) H := fun p hp => by
  obtain ⟨ps, h1, h2, h3⟩ := o.ok _ (mem_tabs.mp hp)
  refine ⟨ps, h1, h2, fun pos cv hc => ?_⟩
  obtain ⟨c, e1, e2⟩ := h3 pos cv hc
  exact ⟨c, e1, hid_sub _ _ e2⟩
theorem tabs_one {P : Addr} {q : Str} (o : SOk K S H) (h : (P, D.tbl q) ∈ S) : ∀ p ∈ tabsOf S, p.1 = P → p.2 = q := fun p hp e => by
  have h1 := mem_tabs.mp hp
  obtain ⟨i, hi⟩ := List.getElem?_of_mem h1
  obtain ⟨j, hj⟩ := List.getElem?_of_mem h
  have e1 : (adrs S)[i]? = some P := by show (S.map (·.1))[i]? = _; rw [List.getElem?_map, hi]; exact congrArg some e
  have e2 : (adrs S)[j]? = some P := by show (S.map (·.1))[j]? = _; rw [List.getElem?_map, hj]; rfl
  have e3 := nd_ix o.nd e1 e2
  subst e3
  rw [hi] at hj
  injection hj with hj
  injection hj with _ hj
  injection hj
/-- the tables have grown -/
theorem SOk.tabs (o : SOk K S H) (e : LamX.ExtN H H2) (t : LamX.Tabs (tabsOf S) H2) : SOk K S H2 ∧ KpS S H S H2 := by
  have hv : ∀ b u, hid (adrs S) H b = some u → (∀ ps, u ≠ .tbl ps) → hid (adrs S) H2 b = some u := fun b u h n => by
    obtain ⟨h1, h2⟩ := hid_some h
    rw [hid_ne h1]
    exact e _ _ h2 n
  have hr : ∀ b u, Rd (hid (adrs S) H) b u → (∀ ps, u ≠ .tbl ps) → Rd (hid (adrs S) H2) b u := fun b u h n => by
    rcases h with h | ⟨ob, h⟩
    · exact .inl (hv _ _ h n)
    · exact .inr ⟨ob, hv _ _ h fun _ z => by cases z⟩
  have k : KpS S H S H2 := ⟨⟨fun b xs h => hv _ _ h fun _ z => (by cases z), fun b xs h => hr _ _ h fun _ z => (by cases z), fun b xs h => hr _ _ h fun _ z => (by cases z), fun b xs h => hr _ _ h fun _ z => (by cases z),
    fun b C dx fs h => hv _ _ h fun _ z => (by cases z), fun b ob xs h => hv _ _ h fun _ z => (by cases z), fun b φ h => hv _ _ h fun _ z => (by cases z)⟩, fun b ob u h => hv _ _ h fun _ z => (by cases z)⟩
  refine ⟨⟨o.nd, fun p hp => ?_⟩, k⟩
  have hm := o.ok p hp
  obtain ⟨a, d⟩ := p
  cases d with
  | tbl q =>
    obtain ⟨ps, h1, h2, h3⟩ := t (a, q) (mem_tabs.mpr hp)
    refine ⟨ps, h1, h2, fun pos cv hc => ?_⟩
    obtain ⟨c, e1, e2⟩ := h3 pos cv hc
    refine ⟨c, e1, ?_⟩
    rw [hid_ne fun m => ?_]
    · exact e2
    · obtain ⟨p2, hp2, ep⟩ := List.mem_map.mp m
      obtain ⟨a2, d2⟩ := p2
      have ep : a2 = c := ep
      subst ep
      have hm2 := o.ok _ hp2
      cases d2 with
      | lst l => obtain ⟨xs, g, _⟩ := hm2; have g2 := e _ _ g (fun _ z => by cases z); rw [show H2 a2 = _ from e2] at g2; unfold LamX.CodeO at g2; cases g2
      | dct l => obtain ⟨xs, g, _⟩ := hm2; have g2 := e _ _ g (fun _ z => by cases z); rw [show H2 a2 = _ from e2] at g2; unfold LamX.CodeO at g2; cases g2
      | ins C l => obtain ⟨dx, xs, g, _⟩ := hm2; have g2 := e _ _ g (fun _ z => by cases z); rw [show H2 a2 = _ from e2] at g2; unfold LamX.CodeO at g2; cases g2
      | pen n => obtain ⟨c, ns, t, r, g, _⟩ := hm2; have g2 := e _ _ g (fun _ z => by cases z); rw [show H2 a2 = _ from e2] at g2; unfold LamX.CodeO at g2; cases g2
      | tbl q2 => obtain ⟨ps2, g, _⟩ := t (a2, q2) (mem_tabs.mpr hp2); rw [show H2 a2 = _ from e2] at g; unfold LamX.CodeO at g; cases g
      | non => exact hm2.elim
      | bl _ => exact hm2.elim
      | int _ => exact hm2.elim
      | str _ => exact hm2.elim
      | tup _ => exact hm2.elim
      | tupW _ => exact hm2.elim
      | adr _ => exact hm2.elim
      | scr _ => exact hm2.elim
  | lst l => obtain ⟨xs, g, _⟩ := id hm; exact hm.kp k ((e _ _ g (fun _ z => by cases z)).trans g.symm)
  | dct l => obtain ⟨xs, g, _⟩ := id hm; exact hm.kp k ((e _ _ g (fun _ z => by cases z)).trans g.symm)
  | ins C l => obtain ⟨dx, xs, g, _⟩ := id hm; exact hm.kp k ((e _ _ g (fun _ z => by cases z)).trans g.symm)
  | pen n => obtain ⟨c, ns, t, r, g, _⟩ := id hm; exact hm.kp k ((e _ _ g (fun _ z => by cases z)).trans g.symm)
  | non => exact hm.elim
  | bl _ => exact hm.elim
  | int _ => exact hm.elim
  | str _ => exact hm.elim
  | tup _ => exact hm.elim
  | tupW _ => exact hm.elim
  | adr _ => exact hm.elim
  | scr _ => exact hm.elim
theorem repL_keyd {G : Hp} : ∀ {l : List D} {xs : List V}, RepL K G l xs → (∀ z ∈ l, ∃ x r, z = D.tup (.str x :: r)) → Paired (fun v (k : Str) => ∃ t r, v = V.ref t ∧ SqT K G t (V.str k :: r)) xs (l.map kOf)
  | [], xs, h, _ => by rw [show xs = [] from h]; exact .nil
  | d :: l, xs, ⟨x, r, e, h1, h2⟩, hz => by
    subst e
    obtain ⟨k, m, ed⟩ := hz d List.mem_cons_self
    subst ed
    obtain ⟨a, ys, e2, g, y, r2, e3, g1, g2⟩ := h1
    have ey : y = .str k := g1
    subst ey; subst e3
    exact .cons ⟨a, r2, e2, g.sq⟩ (repL_keyd h2 fun z hm => hz z (List.mem_cons_of_mem _ hm))
theorem repL_of_pairs {G : Hp} : ∀ {bs : List (D × V)}, (∀ b ∈ bs, Rep K G b.1 b.2) → RepL K G (bs.map (·.1)) (bs.map (·.2))
  | [], _ => rfl
  | b :: bs, h => ⟨b.2, _, rfl, h b List.mem_cons_self, repL_of_pairs fun c hc => h c (List.mem_cons_of_mem _ hc)⟩
theorem repL_zip {G : Hp} : ∀ {l : List D} {xs : List V}, RepL K G l xs → (∀ b ∈ l.zip xs, Rep K G b.1 b.2) ∧ (l.zip xs).map (·.1) = l ∧ (l.zip xs).map (·.2) = xs
  | [], xs, h => by rw [show xs = [] from h]; exact ⟨fun b hb => (by cases hb), rfl, rfl⟩
  | d :: l, xs, ⟨x, r, e, h1, h2⟩ => by
    subst e
    obtain ⟨i1, i2, i3⟩ := repL_zip h2
    refine ⟨fun b hb => ?_, by rw [List.zip_cons_cons, List.map_cons, i2], by rw [List.zip_cons_cons, List.map_cons, i3]⟩
    rcases List.mem_cons.mp hb with e | hb
    · rw [e]; exact h1
    · exact i1 b hb
theorem zipK : ∀ (l : List D) (xs : List V), xs.zip (l.map kOf) = (l.zip xs).map fun b => (b.2, kOf b.1)
  | [], xs => by simp
  | d :: l, [] => rfl
  | d :: l, x :: xs => by rw [List.map_cons, List.zip_cons_cons, List.zip_cons_cons, List.map_cons, zipK l xs]
theorem repL_sortK {G : Hp} {l : List D} {xs : List V} (h : RepL K G l xs) : RepL K G (l.mergeSort leK) (sortVK xs (l.map kOf)) := by
  obtain ⟨h1, h2, h3⟩ := repL_zip h
  have m := repL_of_pairs (K := K) (G := G) (bs := (l.zip xs).mergeSort fun a b => leK a.1 b.1) fun b hb => h1 b ((List.mergeSort_perm _ _).mem_iff.mp hb)
  rw [List.map_mergeSort (s := leK) (f := fun b : D × V => b.1) (fun _ _ _ _ => rfl), h2] at m
  have e : (((l.zip xs).mergeSort fun a b => leK a.1 b.1).map (·.2)) = sortVK xs (l.map kOf) := by
    unfold sortVK
    rw [zipK, ← List.map_mergeSort (r := fun a b : D × V => leK a.1 b.1) (s := fun a b : V × Str => leS a.2 b.2) (f := fun b : D × V => (b.2, kOf b.1)) (fun _ _ _ _ => rfl), List.map_map]
    rfl
  rwa [e] at m
theorem aE_sortK {e : Expr} {c P : Addr} {p pos lpos kpos : Pos} {params : Arguments} {body : Expr} {scope : Scope} (TB : LamX.TabB X.base X.mg c P) (hcode : X.env.code = .ref c) (hc : X.calm = true) (hu : X.A.units + 64 < cLine) (hdp : X.A.depth < recursionLimit) (hm : X.mg "sorted" = none)
    (h : aE X e ρ S fun d S1 => ∃ l, ResL S1 d l ∧ (∀ z ∈ l, ∃ x r, z = D.tup (.str x :: r)) ∧ (P, D.tbl (X.env.qual ++ "<lambda>")) ∈ S1 ∧ NewL (l.mergeSort leK) S1 Q) (L : Lam0 params scope body) (hg : Gl X "sorted" := by rfl) (hdef : defaultsOf params X.env = ([], []) := by rfl)
    (hs : starEach [e] X.env = (false, eval e X.env) :: starEach [] X.env := by rfl) (hb : backTo pos (starEach [e] X.env) = (false, eval e X.env) :: backTo pos (starEach [] X.env) := by rfl) (hpl : (backTo pos (starEach [e] X.env)).any (·.1) = false := by rfl)
    (hall : (backToKw pos (keywordEach [⟨some "key", .Lambda params body scope lpos, kpos⟩] X.env)).all (·.1.isSome) = true := by rfl) (hnone : (backToKw pos (keywordEach [⟨some "key", .Lambda params body scope lpos, kpos⟩] X.env)).any (·.1.isNone) = false := by rfl)
    (hks : (backToKw pos (keywordEach [⟨some "key", .Lambda params body scope lpos, kpos⟩] X.env)).filterMap (·.1) = [Str.ofString "key"] := by rfl) :
    aE X (.Call (.Name "sorted" p) [e] [⟨some "key", .Lambda params body scope lpos, kpos⟩] pos) ρ S Q := fun σ H R s k => by
  refine w_pe (pe_sortK hc hu hdp hg hm pa_w TB hcode L hdef hb hpl hall hnone hks) ?_
  refine (aA1 (Qs := fun ds S1 => ∃ d l, ds = [d] ∧ ResL S1 d l ∧ (∀ z ∈ l, ∃ x r, z = D.tup (.str x :: r)) ∧ (P, D.tbl (X.env.qual ++ "<lambda>")) ∈ S1 ∧ NewL (l.mergeSort leK) S1 Q) (h.mono fun d S1 ⟨l, q⟩ => ⟨d, l, rfl, q⟩) hs) σ H _ s fun vs H1 ds S1 ⟨d, l, ed, hl, hz, hP, q⟩ k1 o1 r1 => ?_
  subst ed
  obtain ⟨v, ev, r⟩ := rep1 r1
  subst ev
  obtain ⟨a, xs, e1, g, pp⟩ := hl.use o1 r
  subst e1
  refine ⟨a, xs, l.map kOf, tabsOf S1, rfl, .inl (.inl g), tabs_tabS o1, mem_tabs.mpr hP, tabs_one o1 hP, Paired.mapP (repL_keyd pp hz) fun v k ⟨t, r, e1, e2⟩ => ⟨t, r, e1, sqT_kp kp_hid e2⟩, fun H2 eN T2 pa hpa => ?_⟩
  obtain ⟨o2, k2⟩ := o1.tabs eN T2
  exact q.use o2 (repL_sortK (pp.kp k2)) (k1.trans k2) hpa k
end
end DL

/-! The end: the law is called where no repr runs. -/
namespace DL
open PySem PySem.Spec PyProof.Rows L2
/-- what is tracked when the law is called: the tables, and the script if it is no written one -/
def H00 (K : PySem.W.Frag) (Ts : List Addr) (a : Addr) (oa : Obj) (xs : List V) : Hp := fun b => if b ∈ Ts then some (.tbl #[]) else if (b == a && (K.lookup a).isNone) = true then some (.frz oa (.lst xs)) else none
theorem H00_cases (K : PySem.W.Frag) (Ts : List Addr) (a : Addr) (oa : Obj) (xs : List V) (b : Addr) : (b ∈ Ts ∧ H00 K Ts a oa xs b = some (.tbl #[])) ∨ (b ∉ Ts ∧ b = a ∧ K.lookup a = none ∧ H00 K Ts a oa xs b = some (.frz oa (.lst xs))) ∨ (b ∉ Ts ∧ H00 K Ts a oa xs b = none) := by
  unfold H00
  by_cases h1 : b ∈ Ts
  · exact .inl ⟨h1, if_pos h1⟩
  · rw [if_neg h1]
    by_cases h2 : (b == a && (K.lookup a).isNone) = true
    · rw [if_pos h2]
      rw [Bool.and_eq_true] at h2
      exact .inr (.inl ⟨h1, eq_of_beq h2.1, Option.isNone_iff_eq_none.mp h2.2, rfl⟩)
    · exact .inr (.inr ⟨h1, if_neg h2⟩)
theorem law_callG {P : Program} {w : World} {K : PySem.W.Frag} {mg mb : Str → Option Value} {k : Nat} {fa a : Addr} {cs : List (Addr × Addr)} {fd : FuncData} {x : Str} {sp : Sp} {s0 : Shared} {vs : List Value} {ns : List Int}
    (KX : K.In s0.heap) (hns : s0.heap.Ns mainGlobals mg) (hb : s0.heap.Ns builtinsNs mb) (hbb : ∀ x : Str, x ≠ "__name__" → mb x = bootBuiltins x) (hlim : s0.heap.NoLimit) (hg : s0.gens = #[])
    (hT : ∀ p ∈ cs, s0.heap.get? p.2 = some { cls := .none, data := .fields #[] }) (nT : ∀ p ∈ cs, K.lookup p.2 = none) (C : ∀ p ∈ cs, PySem.W.CodeHd s0.heap p.1 p.2)
    (hbm : ∃ (bm : Addr) (ob : Obj), mg "__builtins__" = some (.ref bm) ∧ bm ≠ builtinsNs ∧ s0.heap.get? bm = some ob ∧ ob.cls = .type "module" ∧ ob.dict = some builtinsNs ∧ ob.data = .plain)
    (ha : s0.heap.get? a = some { cls := .type "list", data := .seq vs.toArray }) (hi : IntsAre vs ns) (hl : ns.length ≤ sizeLine) (hr : Room k callerA)
    (F : ∀ base : Heap, K.In base → base.Ns mainGlobals mg → (∀ p ∈ cs, LamX.TabB base mg p.1 p.2) → FnG P w K mg base k fa fd [x] sp) (hbind : ∀ (s : Shared) (us : List Value), K.In s.heap → us.length = [x].length → BindsTo s fd ⟨us, []⟩ ([x].zip us))
    (hsp : ∀ H : Hp, (∀ p ∈ cs, H p.2 = some (.tbl #[])) → SqL K H a (ns.map V.int) → sp [.ref a] H (fun v _ => v = .bl true) fun _ _ _ => False) :
    codeAny (model P w) callerA (.call (.ref fa) ⟨[.ref a], []⟩) (fun r s' => r = .ok (.ret (.bool true)) ∧ OldK s0.heap s'.heap ∧ s'.os = s0.os ∧ AllBare s'.gens) s0 := by
  have rv : Vals (ns.map V.int) vs := vals_ints hi
  have hvl := rv.length
  have tT : ∀ b, b ∈ cs.map (·.2) → s0.heap.get? b = some { cls := .none, data := .fields #[] } ∧ K.lookup b = none := fun b m => by
    obtain ⟨p, hp, e⟩ := List.mem_map.mp m
    rw [← e]
    exact ⟨hT p hp, nT p hp⟩
  have mT : ∀ p ∈ cs, p.2 ∈ cs.map (·.2) := fun p hp => List.mem_map.mpr ⟨p, hp, rfl⟩
  have aT : a ∉ cs.map (·.2) := fun m => by
    have e := (tT a m).1
    rw [ha] at e
    cases (congrArg Obj.data (Option.some.inj e) : Data.seq vs.toArray _ = Data.fields #[])
  let H := H00 K (cs.map (·.2)) a { cls := .type "list", data := .seq vs.toArray } (ns.map V.int)
  have HC := H00_cases K (cs.map (·.2)) a { cls := .type "list", data := .seq vs.toArray } (ns.map V.int)
  have Ht : ∀ p ∈ cs, H p.2 = some (.tbl #[]) := fun p hp => by
    rcases HC p.2 with ⟨_, h⟩ | ⟨h, _⟩ | ⟨h, _⟩
    · exact h
    · exact absurd (mT p hp) h
    · exact absurd (mT p hp) h
  have HS : SqL K H a (ns.map V.int) := by
    rcases HC a with ⟨h, _⟩ | ⟨_, _, _, h⟩ | ⟨_, h⟩
    · exact absurd h aT
    · exact .inl (.inr ⟨_, h⟩)
    · cases e : K.lookup a with
      | none =>
        have h' : H00 K (cs.map (·.2)) a { cls := .type "list", data := .seq vs.toArray } (ns.map V.int) a = none := h
        unfold H00 at h'
        rw [if_neg aT, e, if_pos (by simp)] at h'
        cases h'
      | some o =>
        have e2 := KX a o e
        rw [ha] at e2
        cases e2
        exact .inr ⟨_, vs.toArray, _, e, rfl, rfl, rfl, by rw [List.size_toArray, ← hvl, List.length_map]; exact hl, by simpa using rv⟩
  have HO : HOk P w H s0.heap := fun b u e => by
    rcases HC b with ⟨m, h⟩ | ⟨_, eb, _, h⟩ | ⟨_, h⟩
    · cases (h.symm.trans e)
      exact (tT b m).1
    · cases (h.symm.trans e)
      rw [eb]
      exact ⟨ha, by rw [List.length_map]; exact hl, vs, _, rv, ha⟩
    · cases (h.symm.trans e)
  -- all that is neither a table nor a list stands in the heap without what is tracked
  have un : ∀ {b : Addr} {o : Obj}, s0.heap.get? b = some o → o.data ≠ .fields #[] → (∀ xs n, o.data ≠ .seq xs n) → (hidT s0.heap H).get? b = some o := fun {b o} e h1 h2 => hidT_get e (by
    rcases HC b with ⟨m, _⟩ | ⟨_, eb, _, _⟩ | ⟨_, h⟩
    · rw [(tT b m).1] at e
      cases e
      exact absurd rfl h1
    · rw [eb, ha] at e
      cases e
      exact absurd rfl (h2 _ _)
    · exact h)
  have nsU : ∀ {b : Addr} {m : Str → Option Value}, s0.heap.Ns b m → (hidT s0.heap H).Ns b m := fun {b m} ⟨o, es, ep, e, d, r⟩ => ⟨o, es, ep, un e (by rw [d]; intro z; cases z) (by intro _ _ z; rw [d] at z; cases z), d, r⟩
  have KU : K.In (hidT s0.heap H) := fun b o e => hidT_get (KX b o e) (by
    rcases HC b with ⟨m, _⟩ | ⟨_, eb, hn, _⟩ | ⟨_, h⟩
    · rw [(tT b m).2] at e; cases e
    · rw [eb, hn] at e; cases e
    · exact h)
  have TB : ∀ p ∈ cs, LamX.TabB (hidT s0.heap H) mg p.1 p.2 := fun p hp => by
    obtain ⟨o, us, file, tf, flags, tg, inF, text, tt, e1, r1, r2, r3, r4⟩ := C p hp
    obtain ⟨bm, ob, b1, b2, b3, b4, b5, b6⟩ := hbm
    obtain ⟨og, es, ep, eg, hd, _⟩ := id hns
    have pT := hT p hp
    refine ⟨⟨o, us, file, tf, flags, tg, inF, text, tt, un e1 (fun z => ?_) (fun _ _ z => ?_), r1, r2, r3, r4⟩, ⟨bm, ob, b1, b2, fun q => ?_, fun q => ?_, un b3 (by rw [b6]; intro z; cases z) (by intro _ _ z; rw [b6] at z; cases z), b4, b5, b6⟩, fun q => ?_⟩
    · rw [r2] at z
      cases z
      simp at r3
    · rw [r2] at z; cases z
    · rw [q, eg] at b3; cases b3; rw [hd] at b6; cases b6
    · rw [q, pT] at b3; cases b3; cases b6
    · rw [q, pT] at eg; cases eg; cases hd
  have e0 : Env0 P w K mg (hidT s0.heap H) callerA [] s0 H := ⟨rfl, ⟨KU, nsU hns, ⟨mb, nsU hb, hbb⟩, let ⟨mc, h1, h2⟩ := hlim; ⟨mc, nsU h1, h2⟩⟩, fun b o e => of_hidT e, Nat.le_of_eq (hidT_size _ _), trivial, fun b m => (List.not_mem_nil m).elim, HO, .of_eq hg⟩
  refine codeAny_mono ((F _ KU (nsU hns) TB).run callerA [] s0 H [.ref a] [.ref a] _ _ hr rfl e0 hbind (.cons rfl .nil) (hsp H Ht HS)) fun r s' h => ?_
  cases r with
  | error e => exact (show False from h).elim
  | ok fl =>
  cases fl with
  | next => exact False.elim h
  | brk => exact False.elim h
  | cont => exact False.elim h
  | ret u =>
    obtain ⟨v, H', os, bare, U, hok', ru, q⟩ := h
    have q : v = .bl true := q
    subst q
    obtain rfl : u = Value.bool true := ru
    have stay : ∀ b o, b ∉ cs.map (·.2) → s0.heap.get? b = some o → s'.heap.get? b = some o := fun b o nb e => by
      rcases HC b with ⟨m, _⟩ | ⟨_, _, _, h⟩ | ⟨_, h⟩
      · exact absurd m nb
      · obtain ⟨e1, _⟩ := HO b _ h
        obtain ⟨e2, _⟩ := hok' b _ (U.frzs b _ _ h)
        rw [e] at e1
        cases e1
        exact e2
      · exact U.keep b o e h (fun m => List.not_mem_nil m) fun m => List.not_mem_nil m
    have tab : ∀ b, b ∈ cs.map (·.2) → ∃ p ∈ cs, p.2 = b ∧ ∃ more : Array Value, s'.heap.get? b = some { cls := .none, data := .fields more } := fun b m => by
      obtain ⟨p, hp, e⟩ := List.mem_map.mp m
      obtain ⟨more, z⟩ := U.tbls p.2 #[] (Ht p hp)
      exact ⟨p, hp, e, _, e ▸ hok' p.2 _ z⟩
    refine ⟨rfl, ⟨fun b o e => ?_, fun b o e => ?_⟩, os, bare⟩
    · by_cases m : b ∈ cs.map (·.2)
      · obtain ⟨p, hp, ep, more, hm⟩ := tab b m
        rw [(tT b m).1] at e
        cases e
        refine .inr (.inl ⟨ep ▸ ((C p hp).tab (hT p hp)).isCodeTable, rfl, #[], more, rfl, by rw [Array.empty_append]; exact hm⟩)
      · exact .inl (stay b o m e)
    · by_cases m : b ∈ cs.map (·.2)
      · obtain ⟨_, _, _, _, hm⟩ := tab b m
        exact ⟨_, hm⟩
      · exact ⟨o, stay b o m e⟩
/-- what is known of the law at the head's heap h -/
def LawAtG (l : PySem.W.OpenLaw) (w : World) (K : PySem.W.Frag) (k : Nat) (x : Str) (mg : Str → Option Value) (fa : Addr) (h : Heap) : Prop :=
  ∃ (fd : FuncData) (cs : List (Addr × Addr)) (sp : ASp), (∀ p ∈ cs, h.get? p.2 = some { cls := .none, data := .fields #[] }) ∧ (∀ p ∈ cs, K.lookup p.2 = none) ∧ (∀ p ∈ cs, PySem.W.CodeHd h p.1 p.2) ∧ (∀ (s : Shared) (us : List Value), K.In s.heap → us.length = [x].length → BindsTo s fd ⟨us, []⟩ ([x].zip us)) ∧
    (∀ (ns : List Int) (H : Hp) (a : Addr), ns.length ≤ 63 → (∀ p ∈ cs, H p.2 = some (.tbl #[])) → SqL K H a (ns.map V.int) → spA K sp [.ref a] H (fun v _ => v = .bl true) fun _ _ _ => False) ∧
    ∀ base : Heap, K.In base → base.Ns mainGlobals mg → (∀ p ∈ cs, LamX.TabB base mg p.1 p.2) → FnG l.prog w K mg base k fa fd [x] (spA K sp)
theorem walk_G {l : PySem.W.OpenLaw} {k : Nat} {q : Program} {loose : List Str} {XP : (Str → Option Value) → Heap → Prop} {YP : World → Heap → Prop} {d : DefRec} {K : Params → PySem.W.Frag} {x : Str}
    (hn : l.most = some 63) (hdf : d.params.defaults = []) (hr : Room k callerA) (hY : ∀ (w : World) (h : Heap), YP w h → (K w.params).In h)
    (F : ∀ (w : World) (mg : Str → Option Value) (fa : Addr) (h : Heap), (∀ (y : Str) (e : DefRec) (c P : Addr), (recsOf q).find? (fun e => e.name == y) = some e → PySem.W.tabIn (K w.params) y = some (c, P) → PySem.W.CodeHd h c P ∧ h.get? P = some { cls := .none, data := .fields #[] }) →
      (K w.params).In h → h.Ns mainGlobals mg → mg d.name = some (.ref fa) → LawAtG l w (K w.params) k x mg fa h) :
    PySem.W.WalkO q loose XP YP l.row.toRowW d [] (fun f vs => PySem.call f vs) := by
  refine Att.attach_callB hn hdf fun w s₀ s₁ mg mb fa o pm cd doc a vs ns G Y ho hd hcd hmg hobj hints hlen hbits hg => ?_
  have KX := hY w _ Y
  obtain ⟨fd, cs, sp, hT, nT, C, hb, hsp, hF⟩ := F w mg fa s₁.heap (fun y e c P h1 h2 => PySem.W.tab_of G.T KX h1 h2) KX G.T.g hmg
  exact law_callG KX G.T.g G.T.b G.T.builtins G.T.nolimit hg hT nT C G.T.bmain hobj hints (Nat.le_trans hlen (by decide)) hr hF hb fun H hH hS => hsp ns H a hlen hH hS
/-- a def whose code object is known: it may make a lambda -/
theorem okC {P : Program} {w : World} {K : PySem.W.Frag} {mg : Str → Option Value} {base : Heap} {x qual : Str} {st : Stmt} {f : Addr} {N ps : List Str} {k : Nat} {sp : ASp} {oc : Value} {od an : Option Addr} {osl : Array (Option Value)} {dV kV doc pm cdv ct : Value}
    (lk : K.lookup f = some ⟨oc, od, .func (PySem.W.fnOf x qual (defArgs st) (defBody st) (defScope st) dV kV doc pm an cdv ct), osl⟩) (hcd : PySem.W.codeIn K cdv qual = true) (S : FnScope N ps (defScope st)) (len : ∀ ds S R, sp ds S R → ds.length = ps.length)
    (b : ∀ A outer s H E, Room k (cxB P w K mg base N qual st f cdv A outer s H E).A → ∀ ds S R, sp ds S R → aSs (cxB P w K mg base N qual st f cdv A outer s H E) (defBody st) (startD N ds) S { nx := fun _ S' => R .non S', rt := R }) :
    FnOk P w K mg base CX0 (k + 1) f (PySem.W.fnOf x qual (defArgs st) (defBody st) (defScope st) dV kV doc pm an cdv ct) ps (spA K sp) := by
  refine fn_of lk hcd S (spA_len len) fun A outer s H vs Q E hr ⟨ds, S0, R, r, o, q, kk⟩ => ⟨_, (pss_w (X := cxB P w K mg base N qual st f cdv A outer s H E)).nox, ?_⟩
  exact b A outer s H E hr ds S0 R q (L2.start N vs) H { nx := fun _ H' => Q .non H', rt := Q } ⟨start_rep r, o⟩ ⟨fun σ' H' ρ' S' q' k' s' => kk .non H' .non S' q' k' s'.ok rfl, kk, fun _ _ _ _ q' => q'.elim, fun _ _ _ _ q' => q'.elim⟩
end DL

namespace DL
open PySem L2
/-! ### an object that changes no more, wherever it is named -/
def FRel (p : Addr) (d x x' : D) : Prop := ∀ (K : PySem.W.Frag) (G : Hp) (v : V), Rep K G d (.ref p) → Rep K G x v → Rep K G x' v
theorem FRel.refl {p : Addr} {d x : D} : FRel p d x x := fun _ _ _ _ h => h
theorem FRel.adr {p : Addr} {d : D} : FRel p d (.adr p) d := fun _ _ _ h e => by rw [show _ = V.ref p from e]; exact h
def FL (p : Addr) (d : D) : List D → List D → Prop
  | [], [] => True
  | x :: l, x' :: l' => FRel p d x x' ∧ FL p d l l'
  | _, _ => False
def FP (p : Addr) (d : D) : List (Key × D) → List (Key × D) → Prop
  | [], [] => True
  | x :: l, x' :: l' => x.1 = x'.1 ∧ FRel p d x.2 x'.2 ∧ FP p d l l'
  | _, _ => False
def FF (p : Addr) (d : D) : List (Str × D) → List (Str × D) → Prop
  | [], [] => True
  | x :: l, x' :: l' => x.1 = x'.1 ∧ FRel p d x.2 x'.2 ∧ FF p d l l'
  | _, _ => False
theorem FL.use {p : Addr} {d : D} {K : PySem.W.Frag} {G : Hp} (hd : Rep K G d (.ref p)) : ∀ {l l' : List D} {xs : List V}, FL p d l l' → RepL K G l xs → RepL K G l' xs
  | [], [], xs, _, h => h
  | [], _ :: _, xs, f, h => f.elim
  | _ :: _, [], xs, f, h => f.elim
  | x :: l, x' :: l', xs, f, ⟨v, r, e, h1, h2⟩ => ⟨v, r, e, f.1 _ _ _ hd h1, f.2.use hd h2⟩
theorem FP.use {p : Addr} {d : D} {K : PySem.W.Frag} {G : Hp} (hd : Rep K G d (.ref p)) : ∀ {l l' : List (Key × D)} {xs : List (Key × V)}, FP p d l l' → RepP K G l xs → RepP K G l' xs
  | [], [], xs, _, h => h
  | [], _ :: _, xs, f, h => f.elim
  | _ :: _, [], xs, f, h => f.elim
  | (k, x) :: l, (k', x') :: l', xs, f, ⟨v, r, e, h1, h2⟩ => by
    have ek : k = k' := f.1
    subst ek
    exact ⟨v, r, e, f.2.1 _ _ _ hd h1, f.2.2.use hd h2⟩
theorem FF.use {p : Addr} {d : D} {K : PySem.W.Frag} {G : Hp} (hd : Rep K G d (.ref p)) : ∀ {l l' : List (Str × D)} {xs : List (Str × V)}, FF p d l l' → RepF K G l xs → RepF K G l' xs
  | [], [], xs, _, h => h
  | [], _ :: _, xs, f, h => f.elim
  | _ :: _, [], xs, f, h => f.elim
  | (k, x) :: l, (k', x') :: l', xs, f, ⟨v, r, e, h1, h2⟩ => by
    have ek : k = k' := f.1
    subst ek
    exact ⟨v, r, e, f.2.1 _ _ _ hd h1, f.2.2.use hd h2⟩
/-- what an object holds -/
def FC (p : Addr) (d : D) (x x' : D) : Prop := x = x' ∨ (∃ l l', x = .lst l ∧ x' = .lst l' ∧ FL p d l l') ∨ (∃ l l', x = .dct l ∧ x' = .dct l' ∧ FP p d l l') ∨ ∃ C l l', x = .ins C l ∧ x' = .ins C l' ∧ FF p d l l'
theorem FC.use {p : Addr} {d x x' : D} {K : PySem.W.Frag} {G H : Hp} {a : Addr} (f : FC p d x x') (hd : Rep K G d (.ref p)) (h : MOk K G H a x) : MOk K G H a x' := by
  rcases f with e | ⟨l, l', e, e', f⟩ | ⟨l, l', e, e', f⟩ | ⟨C, l, l', e, e', f⟩
  · exact e ▸ h
  · subst e; subst e'
    obtain ⟨xs, h1, h2⟩ := h
    exact ⟨xs, h1, f.use hd h2⟩
  · subst e; subst e'
    obtain ⟨xs, h1, h2⟩ := h
    exact ⟨xs, h1, f.use hd h2⟩
  · subst e; subst e'
    obtain ⟨dx, xs, h1, h2⟩ := h
    exact ⟨dx, xs, h1, f.use hd h2⟩
def FSl (p : Addr) (d : D) : Sl → Sl → Prop
  | [], [] => True
  | _ :: ρ, none :: ρ' => FSl p d ρ ρ'
  | some x :: ρ, some x' :: ρ' => FRel p d x x' ∧ FSl p d ρ ρ'
  | _, _ => False
def FSt (p : Addr) (d : D) : Store → Store → Prop
  | [], [] => True
  | x :: S, x' :: S' => x.1 = x'.1 ∧ FC p d x.2 x'.2 ∧ FSt p d S S'
  | _, _ => False
section
variable {K : PySem.W.Frag} {G H : Hp} {ρ ρ' : Sl} {S S' : Store} {σ : St} {p : Addr} {d : D} {X : Cx} {E : AEnds} {Q : D → Store → Prop} {e : Expr} {rest : List Stmt} {st : Stmt}
theorem FSl.use (hd : Rep K G d (.ref p)) : ∀ {ρ ρ' : Sl} {σ : St}, FSl p d ρ ρ' → RepS K G ρ σ → RepS K G ρ' σ
  | [], [], σ, _, h => h
  | [], some _ :: _, σ, f, h => f.elim
  | [], none :: _, σ, f, h => f.elim
  | some _ :: _, [], σ, f, h => f.elim
  | none :: _, [], σ, f, h => f.elim
  | some x :: ρ, none :: ρ', σ, f, ⟨v, r, e, h1, h2⟩ => ⟨some v, r, e, FSl.use hd (show FSl p d ρ ρ' from f) h2⟩
  | none :: ρ, none :: ρ', σ, f, ⟨v, r, e, h2⟩ => ⟨v, r, e, FSl.use hd (show FSl p d ρ ρ' from f) h2⟩
  | some x :: ρ, some x' :: ρ', σ, f, ⟨v, r, e, h1, h2⟩ => ⟨v, r, e, f.1 _ _ _ hd h1, FSl.use hd f.2 h2⟩
  | none :: ρ, some x' :: ρ', σ, f, h => f.elim
theorem FSt.adrs : ∀ {S S' : Store}, FSt p d S S' → adrs S' = adrs S
  | [], [], _ => rfl
  | [], _ :: _, f => f.elim
  | _ :: _, [], f => f.elim
  | x :: S, x' :: S', f => by
    show x'.1 :: S'.map (·.1) = x.1 :: S.map (·.1)
    rw [f.1, show S'.map (·.1) = S.map (·.1) from f.2.2.adrs]
theorem FSt.use (hd : Rep K G d (.ref p)) : ∀ {S S' : Store}, FSt p d S S' → (∀ q ∈ S, MOk K G H q.1 q.2) → ∀ q ∈ S', MOk K G H q.1 q.2
  | [], [], _, _, q, m => by cases m
  | [], _ :: _, f, _, q, m => f.elim
  | _ :: _, [], f, _, q, m => f.elim
  | x :: S, x' :: S', f, h, q, m => by
    rcases List.mem_cons.mp m with e | m
    · subst e
      rw [← f.1]
      exact f.2.1.use hd (h x List.mem_cons_self)
    · exact f.2.2.use hd (fun y hy => h y (List.mem_cons_of_mem _ hy)) q m
/-- the object at S's i-th place changes no more -/
theorem frzN (i : Nat) (ρ' : Sl) (S' : Store) (hi : S[i]? = some (p, d)) (hd : frzB d = true) (f1 : FSl p d ρ ρ') (f2 : FSt p d (S.eraseIdx i) S') : ∀ σ H, Sat K ρ S σ H → Sat K ρ' S' σ H ∧ KpS S H S' H := fun σ H s => by
  have r := s.ok.frozen hi hd
  have ea := f2.adrs
  have kk : KpS S H S' H := by
    show Kp (hid (DL.adrs S) H) (hid (DL.adrs S') H)
    rw [ea]
    exact hid_erase
  refine ⟨⟨?_, ⟨by rw [ea]; exact s.ok.freeze.nd, ?_⟩⟩, kk⟩
  · rw [ea]
    exact f1.use r (s.sl.kp hid_erase)
  · rw [ea]
    exact f2.use r s.ok.freeze.ok
/-- .. in what an expression tells -/
theorem aE_frzN (h : aE X e ρ S fun x S1 => ∃ i p d S2 x', S1[i]? = some (p, d) ∧ frzB d = true ∧ FRel p d x x' ∧ FSt p d (S1.eraseIdx i) S2 ∧ Q x' S2) : aE X e ρ S Q := fun σ H R s k => by
  refine h σ H R s fun v H' x S1 ⟨i, p, d, S2, x', hi, hd, f1, f2, q⟩ k1 o1 r1 => ?_
  have r := o1.frozen hi hd
  have ea := f2.adrs
  have kk : KpS S1 H' S2 H' := by
    show Kp (hid (DL.adrs S1) H') (hid (DL.adrs S2) H')
    rw [ea]
    exact hid_erase
  refine k _ _ _ _ q (k1.trans kk) ⟨by rw [ea]; exact o1.freeze.nd, by rw [ea]; exact f2.use r o1.freeze.ok⟩ ?_
  show Rep X.K (hid (DL.adrs S2) H') x' v
  rw [ea]
  exact f1 _ _ _ r (Rep.kp hid_erase _ _ r1)
/-! ### the pen -/
def penD (ns : List Int) (t r : Int) : D := .dct [(.inr "cells", .lst (ns.map D.int)), (.inr "turn", .int t), (.inr "rest", .int r)]
theorem pen_put {i : Nat} {d d' : D} (o : SOk K S H) (hi : S[i]? = some (p, d)) (h : MOk K (hid (DL.adrs S) H) H p d') : SOk K (S.set i (p, d')) H ∧ hid (DL.adrs (S.set i (p, d'))) H = hid (DL.adrs S) H := by
  have ea : DL.adrs (S.set i (p, d')) = DL.adrs S := by
    show (S.set i (p, d')).map (·.1) = S.map (·.1)
    rw [List.map_set]
    apply List.ext_getElem?
    intro j
    rw [List.getElem?_set]
    split
    · rename_i hj
      subst hj
      obtain ⟨hl, e⟩ := List.getElem?_eq_some_iff.mp hi
      rw [if_pos (by rw [List.length_map]; exact hl), List.getElem?_map, hi]; rfl
    · rfl
  have eh : hid (DL.adrs (S.set i (p, d'))) H = hid (DL.adrs S) H := by rw [ea]
  refine ⟨⟨by rw [ea]; exact o.nd, fun q hq => ?_⟩, eh⟩
  rw [eh]
  obtain ⟨j, hj⟩ := List.getElem?_of_mem hq
  rw [List.getElem?_set] at hj
  split at hj
  · split at hj
    · have z := Option.some.inj hj
      subst z
      exact h
    · cases hj
  · exact o.ok q (List.mem_of_getElem? hj)
theorem aSs_pen {i n : Nat} (hi : S[i]? = some (p, .pen n)) (h : ∀ ns t r, ns.length ≤ 63 → 0 ≤ t → t ≤ (n : Int) → aSs X rest ρ (S.set i (p, penD ns t r)) E) : aSs X rest ρ S E := fun σ H F s m => by
  obtain ⟨c, ns, t, r, g1, g2, g3, g4, g5⟩ := s.ok.ok _ (List.mem_of_getElem? hi)
  obtain ⟨o2, eh⟩ := pen_put (d' := penD ns t r) s.ok hi ⟨_, g1, .ref c, _, rfl, ⟨c, _, rfl, g2, RepL.ofInts ns⟩, .int t, _, rfl, rfl, .int r, _, rfl, rfl, rfl⟩
  refine h ns t r g3 g4 g5 σ H F ⟨?_, o2⟩ (m.on ?_)
  · rw [eh]; exact s.sl
  · show Kp _ _; rw [eh]; exact Kp.refl _
theorem pen_shut {K : PySem.W.Frag} {G H : Hp} {a : Addr} {ns : List Int} {t r : Int} {n : Nat} (h : MOk K G H a (penD ns t r)) (h1 : ns.length ≤ 63) (h2 : 0 ≤ t) (h3 : t ≤ (n : Int)) : MOk K G H a (.pen n) := by
  obtain ⟨kvs, g, v1, r1, e1, ⟨c, xs, ec, gc, pc⟩, v2, r2, e2, p2, v3, r3, e3, p3, e4⟩ := h
  have e4 : r3 = [] := e4
  have p2 : v2 = .int t := p2
  have p3 : v3 = .int r := p3
  subst e4; subst e3; subst e2; subst e1; subst p2; subst p3; subst ec
  rw [pc.ints] at gc
  exact ⟨c, ns, t, r, g, gc, h1, h2, h3⟩
/-- the pen put away, in what is told -/
theorem aE_pen (h : aE X e ρ S fun x S1 => ∃ (i : Nat) (p : Addr) (n : Nat), ((∃ ns t r, S1[i]? = some (p, penD ns t r) ∧ ns.length ≤ 63 ∧ 0 ≤ t ∧ t ≤ (n : Int)) ∨ ∃ m : Nat, S1[i]? = some (p, .pen m) ∧ m ≤ n) ∧ Q x (S1.set i (p, .pen n))) : aE X e ρ S Q := fun σ H R s k => by
  refine h σ H R s fun v H' x S1 ⟨i, p, n, hh, q⟩ k1 o1 r1 => ?_
  have fin : ∀ {d : D}, S1[i]? = some (p, d) → MOk X.K (hid (DL.adrs S1) H') H' p (.pen n) → R v H' := fun hi hm => by
    obtain ⟨o2, eh⟩ := pen_put (d' := .pen n) o1 hi hm
    refine k _ _ _ _ q (k1.trans ?_) o2 ?_
    · show Kp _ _; rw [eh]; exact Kp.refl _
    · show Rep X.K (hid (DL.adrs (S1.set i (p, .pen n))) H') x v
      rw [eh]; exact r1
  rcases hh with ⟨ns, t, r, hi, h1, h2, h3⟩ | ⟨m, hi, hm⟩
  · exact fin hi (pen_shut (o1.ok _ (List.mem_of_getElem? hi)) h1 h2 h3)
  · refine fin hi ?_
    obtain ⟨c, ns, t, r, g1, g2, g3, g4, g5⟩ := o1.ok _ (List.mem_of_getElem? hi)
    exact ⟨c, ns, t, r, g1, g2, g3, g4, Int.le_trans g5 (by omega)⟩
/-- a new pen -/
theorem aE_newPen (h : aE X e ρ S fun x S1 => ∃ (i : Nat) (p : Addr) (n : Nat), x = .adr p ∧ (∃ ns t r, S1[i]? = some (p, penD ns t r) ∧ ns.length ≤ 63 ∧ 0 ≤ t ∧ t ≤ (n : Int)) ∧ Q x (S1.set i (p, .pen n))) : aE X e ρ S Q :=
  aE_pen (h.mono fun x S1 ⟨i, p, n, _, h1, h2⟩ => ⟨i, p, n, .inl h1, h2⟩)
/-- the pen has drawn more often, as far as is said -/
theorem pen_imp {i n m : Nat} (hi : S[i]? = some (p, .pen n)) (hm : n ≤ m) : ∀ σ H, Sat K ρ S σ H → Sat K ρ (S.set i (p, .pen m)) σ H ∧ KpS S H (S.set i (p, .pen m)) H := fun σ H s => by
  obtain ⟨c, ns, t, r, g1, g2, g3, g4, g5⟩ := s.ok.ok _ (List.mem_of_getElem? hi)
  obtain ⟨o2, eh⟩ := pen_put (d' := .pen m) s.ok hi ⟨c, ns, t, r, g1, g2, g3, g4, Int.le_trans g5 (by omega)⟩
  refine ⟨⟨?_, o2⟩, ?_⟩
  · rw [eh]; exact s.sl
  · show Kp _ _; rw [eh]; exact Kp.refl _
end
end DL

/-! What a step asks of the data, by name. -/
namespace DL
open PySem L2
/-! names by their place, found without unfolding a text -/
inductive At (x : Str) : Nat → List Str → Prop
  | z {l : List Str} : At x 0 (x :: l)
  | s {i : Nat} {y : Str} {l : List Str} : At x i l → At x (i + 1) (y :: l)
theorem At.get {x : Str} : ∀ {i : Nat} {N : List Str}, At x i N → N[i]? = some x
  | _, _, .z => rfl
  | _, _, .s a => by rw [List.getElem?_cons_succ]; exact a.get
structure Un (n : Nat) : Prop where
  h : n + 64 < cLine
structure Names (N : List Str) : Prop where
  nd : N.Nodup
section
variable {X : Cx} {ρ : Sl} {S : Store} {Q : D → Store → Prop} {E : AEnds} {pos : Pos} {e : Expr}
theorem aE_v {x : Str} {i : Nat} {d : D} {N : List Str} (_ : Names N) (a : At x i N) (hN : X.N = N) (hr : ρ[i]? = some (some d)) (q : Q d S) (hv : Vis X.env.scope x := by first | exact Or.inl rfl | exact Or.inr (Or.inl rfl) | exact Or.inr (Or.inr rfl)) (hd : (x == ("__debug__" : Str)) = false := by decide) (hcd : (x == ("__classdict__" : Str)) = false := by decide) : aE X (.Name x pos) ρ S Q :=
  aE_var i q hr (by rw [hN]; exact a.get) hv hd hcd
theorem aS_s {x : Str} {p1 : Pos} {i : Nat} {N : List Str} (n : Names N) (a : At x i N) (hN : X.N = N) (h : aE X e ρ S fun d S1 => E.nx (ρ.set i (some d)) S1) (hx : Loc X.env.scope x := by first | exact Or.inl rfl | exact Or.inr rfl) (hs : swapsWith e (some (.Name x p1)) pos.line X.env = pure false := by rfl)
    (hf : X.fn x = true ∨ X.env.scope.names.lookup x = some .local := by first | exact .inl rfl | exact .inr rfl) : aS X (.Assign [.Name x p1] e pos) ρ S E :=
  aS_set i h (by rw [hN]; exact n.nd) (by rw [hN]; exact a.get) hx hs hf
theorem aS_p2 {x y : Str} {p1 p2 p3 p4 : Pos} {k1 k2} {a b : Expr} {i j : Nat} {N : List Str} (n : Names N) (ax : At x i N) (ay : At y j N) (hij : i ≠ j) (hN : X.N = N) (hc : X.calm = true)
    (h : aE X a ρ S fun d S1 => aE X b ρ S1 fun d' S2 => E.nx ((ρ.set i (some d)).set j (some d')) S2) (hx : X.env.scope.names.lookup x = some .local := by rfl) (hy : X.env.scope.names.lookup y = some .local := by rfl)
    (hw : swappedStores [.Tuple [.Name x p1, .Name y p2] k1 p3] (.Tuple [a, b] k2 p4) X.env = pure (some [x, y]) := by rfl) (hs : swapsWithSole [.Tuple [.Name x p1, .Name y p2] k1 p3] (.Tuple [a, b] k2 p4) pos.line X.env = pure false := by rfl)
    (s1 : starEach [a, b] X.env = (false, eval a X.env) :: starEach [b] X.env := by rfl) (s2 : starEach [b] X.env = (false, eval b X.env) :: starEach [] X.env := by rfl) :
    aS X (.Assign [.Tuple [.Name x p1, .Name y p2] k1 p3] (.Tuple [a, b] k2 p4) pos) ρ S E :=
  aS_par i j (aA_cons (h.mono fun d S1 q => aA_cons (q.mono fun d' S2 q => aA_nil ⟨d, d', rfl, q⟩) s2) s1) hc (by rw [hN]; exact n.nd) hij (by rw [hN]; exact ax.get) (by rw [hN]; exact ay.get) hx hy
    fun pa => ps_par hc (by rw [hN]; exact n.nd) (by rw [hN]; exact ax.get) (by rw [hN]; exact ay.get) hij hx hy pa hw hs
theorem aS_p3 {x y z : Str} {p1 p2 p3 p4 p5 : Pos} {k1 k2} {a b c : Expr} {i j l : Nat} {N : List Str} (n : Names N) (ax : At x i N) (ay : At y j N) (az : At z l N) (hij : i ≠ j) (hil : i ≠ l) (hjl : j ≠ l) (hN : X.N = N) (hc : X.calm = true)
    (h : aE X a ρ S fun d S1 => aE X b ρ S1 fun d' S2 => aE X c ρ S2 fun d'' S3 => E.nx (((ρ.set i (some d)).set j (some d')).set l (some d'')) S3) (hx : X.env.scope.names.lookup x = some .local := by rfl) (hy : X.env.scope.names.lookup y = some .local := by rfl) (hz : X.env.scope.names.lookup z = some .local := by rfl)
    (hw : swappedStores [.Tuple [.Name x p1, .Name y p2, .Name z p3] k1 p4] (.Tuple [a, b, c] k2 p5) X.env = pure (some [x, y, z]) := by rfl) (hs : swapsWithSole [.Tuple [.Name x p1, .Name y p2, .Name z p3] k1 p4] (.Tuple [a, b, c] k2 p5) pos.line X.env = pure false := by rfl)
    (s1 : starEach [a, b, c] X.env = (false, eval a X.env) :: starEach [b, c] X.env := by rfl) (s2 : starEach [b, c] X.env = (false, eval b X.env) :: starEach [c] X.env := by rfl) (s3 : starEach [c] X.env = (false, eval c X.env) :: starEach [] X.env := by rfl) :
    aS X (.Assign [.Tuple [.Name x p1, .Name y p2, .Name z p3] k1 p4] (.Tuple [a, b, c] k2 p5) pos) ρ S E :=
  aS_par3 (p6 := p5) i j l (aA_cons (h.mono fun d S1 q => aA_cons (q.mono fun d' S2 q => aA_cons (q.mono fun d'' S3 q => aA_nil ⟨d, d', d'', rfl, q⟩) s3) s2) s1) hc (by rw [hN]; exact n.nd) hij hil hjl (by rw [hN]; exact ax.get) (by rw [hN]; exact ay.get) (by rw [hN]; exact az.get) hx hy hz hw hs
end
section
variable {X : Cx} {ρ : Sl} {S : Store} {P : Bool → Store → Prop} {Q : D → Store → Prop} {i j : Int} {b : Bool} {l m : List D} {z : D} {s t : Str} {p : Addr} {n : Nat} {k : Key} {dl : List (Key × D)}
theorem oB (q : P b S) : isB P (.bl b) S := ⟨_, rfl, q⟩
theorem oGt (q : P (decide (j < i)) S) : aGt (.int i) (.int j) S (isB P) := ⟨_, _, rfl, rfl, _, rfl, q⟩
theorem oGe (q : P (decide (j ≤ i)) S) : aGe (.int i) (.int j) S (isB P) := ⟨_, _, rfl, rfl, _, rfl, q⟩
theorem oLe (q : P (decide (i ≤ j)) S) : aLe (.int i) (.int j) S (isB P) := ⟨_, _, rfl, rfl, _, rfl, q⟩
theorem oLt (q : P (decide (i < j)) S) : aLt (.int i) (.int j) S (isB P) := .inl ⟨_, _, rfl, rfl, _, rfl, q⟩
theorem oLtS (q : P (decide (s.cps.toList < t.cps.toList)) S) : aLt (.str s) (.str t) S (isB P) := .inr ⟨_, _, rfl, rfl, _, rfl, q⟩
theorem oGtQ (q : Q (.bl (decide (j < i))) S) : aGt (.int i) (.int j) S Q := ⟨_, _, rfl, rfl, q⟩
theorem oGeQ (q : Q (.bl (decide (j ≤ i))) S) : aGe (.int i) (.int j) S Q := ⟨_, _, rfl, rfl, q⟩
theorem oLeQ (q : Q (.bl (decide (i ≤ j))) S) : aLe (.int i) (.int j) S Q := ⟨_, _, rfl, rfl, q⟩
theorem oLtQ (q : Q (.bl (decide (i < j))) S) : aLt (.int i) (.int j) S Q := .inl ⟨_, _, rfl, rfl, q⟩
theorem oAdd (q : Q (.int (i + j)) S) : aAdd (.int i) (.int j) S Q := .inl ⟨_, _, rfl, rfl, q⟩
theorem oAddS (h : s.length + t.length ≤ 100000) (q : Q (.str (s ++ t)) S) : aAdd (.str s) (.str t) S Q := .inr (.inl ⟨_, _, rfl, rfl, h, q⟩)
theorem oCatT (h : l.length + m.length ≤ 100000) (q : Q (.tup (l ++ m)) S) : aAdd (.tup l) (.tup m) S Q := .inr (.inr (.inr ⟨_, _, rfl, rfl, h, q⟩))
theorem oCat {d e : D} (h1 : ResL S d l) (h2 : ResL S e m) (h : l.length + m.length ≤ 100000) (q : NewL (l ++ m) S Q) : aAdd d e S Q := .inr (.inr (.inl ⟨_, _, h1, h2, h, q⟩))
theorem oSub (q : Q (.int (i - j)) S) : aSub (.int i) (.int j) S Q := ⟨_, _, rfl, rfl, q⟩
theorem oMod (h : 0 < j) (q : Q (.int (i % j)) S) : aMod (.int i) (.int j) S Q := ⟨_, _, rfl, rfl, h, q⟩
theorem oFdiv (h : CDiv i j) (q : Q (.int (i / j)) S) : aFdiv (.int i) (.int j) S Q := ⟨_, _, rfl, rfl, h, q⟩
theorem oMul (h : CMul i j) (q : Q (.int (i * j)) S) : aMul (.int i) (.int j) S Q := .inl ⟨_, _, rfl, rfl, h, q⟩
theorem oPow (h : CPow i j) (q : Q (.int (i ^ j.toNat)) S) : aPow (.int i) (.int j) S Q := ⟨_, _, rfl, rfl, h, q⟩
theorem rL : ResL S (.lst l) l := .inl rfl
theorem rA {q : Nat} (h : S[q]? = some (p, .lst l)) : ResL S (.adr p) l := .inr ⟨q, p, rfl, h⟩
theorem qL : ResQ S (.lst l) l := .inl (.inl rfl)
theorem qT : ResQ S (.tup l) l := .inr (.inl rfl)
theorem qA {q : Nat} (h : S[q]? = some (p, .lst l)) : ResQ S (.adr p) l := .inl (.inr ⟨q, p, rfl, h⟩)
theorem rD : ResD S (.dct dl) dl := .inl rfl
theorem rDA {q : Nat} (h : S[q]? = some (p, .dct dl)) : ResD S (.adr p) dl := .inr ⟨q, p, rfl, h⟩
theorem oIxT (h : atI l i = some z) (q : Q z S) : aIx (.tup l) (.int i) S Q := .inl ⟨_, _, _, rfl, rfl, h, q⟩
theorem oIxL {d : D} (r : ResL S d l) (h : atI l i = some z) (q : Q z S) : aIx d (.int i) S Q := .inr (.inl ⟨_, _, _, r, rfl, h, q⟩)
theorem oIxD {d e : D} (r : ResD S d dl) (he : e = kD k) (h : valP dl k = some z) (q : Q z S) : aIx d e S Q := .inr (.inr (.inr ⟨_, _, _, r, he, h, q⟩))
/-- two scalars of one kind -/
theorem oEqI (q : P (decide (i = j)) S) : aEq false (.int i) (.int j) S (isB P) := .inl ⟨.int i, .int j, rfl, rfl, rfl, _, rfl, by
  show P (decide (V.int i = V.int j)) S
  rw [show decide (V.int i = V.int j) = decide (i = j) from decide_eq_decide.mpr ⟨fun e => V.int.inj e, fun e => by rw [e]⟩]
  exact q⟩
theorem oNeI (q : P (!decide (i = j)) S) : aEq true (.int i) (.int j) S (isB P) := .inl ⟨.int i, .int j, rfl, rfl, rfl, _, rfl, by
  show P (!decide (V.int i = V.int j)) S
  rw [show decide (V.int i = V.int j) = decide (i = j) from decide_eq_decide.mpr ⟨fun e => V.int.inj e, fun e => by rw [e]⟩]
  exact q⟩
theorem oEqS (q : P (decide (s = t)) S) : aEq false (.str s) (.str t) S (isB P) := .inl ⟨.str s, .str t, rfl, rfl, rfl, _, rfl, by
  show P (decide (V.str s = V.str t)) S
  rw [show decide (V.str s = V.str t) = decide (s = t) from decide_eq_decide.mpr ⟨fun e => V.str.inj e, fun e => by rw [e]⟩]
  exact q⟩
theorem oNeS (q : P (!decide (s = t)) S) : aEq true (.str s) (.str t) S (isB P) := .inl ⟨.str s, .str t, rfl, rfl, rfl, _, rfl, by
  show P (!decide (V.str s = V.str t)) S
  rw [show decide (V.str s = V.str t) = decide (s = t) from decide_eq_decide.mpr ⟨fun e => V.str.inj e, fun e => by rw [e]⟩]
  exact q⟩
/-- against none -/
theorem oNeSN (q : P true S) : aEq true (.str s) .non S (isB P) := .inl ⟨.str s, .non, rfl, rfl, rfl, _, rfl, q⟩
theorem oNe0 {d : D} (r : ResL S d l) (q : P (!decide (l.length = 0)) S) : aEq true d (.lst []) S (isB P) := .inr (.inl ⟨l, [], r, .inl rfl, .inl rfl, _, rfl, q⟩)
theorem oEq0 {d : D} (r : ResL S d l) (q : P (decide (l.length = 0)) S) : aEq false d (.lst []) S (isB P) := .inr (.inl ⟨l, [], r, .inl rfl, .inl rfl, _, rfl, q⟩)
theorem lQ {d : D} (r : ResQ S d l) (q : Q (.int l.length) S) : ∃ n, ((∃ z : Str, d = .str z ∧ z.length ≤ 100000 ∧ n = z.length) ∨ (∃ l, ResQ S d l ∧ n = l.length) ∨ ∃ l, ResD S d l ∧ n = l.length) ∧ Q (.int n) S := ⟨_, .inr (.inl ⟨_, r, rfl⟩), q⟩
theorem lS (h : s.length ≤ 100000) (q : Q (.int s.length) S) : ∃ n, ((∃ z : Str, (D.str s) = .str z ∧ z.length ≤ 100000 ∧ n = z.length) ∨ (∃ l, ResQ S (D.str s) l ∧ n = l.length) ∨ ∃ l, ResD S (D.str s) l ∧ n = l.length) ∧ Q (.int n) S := ⟨_, .inl ⟨_, rfl, h, rfl⟩, q⟩
theorem iteD {c : Prop} [Decidable c] {A B : Prop} (h1 : c → A) (h2 : ¬ c → B) : if decide c = true then A else B := by
  by_cases h : c
  · rw [if_pos (decide_eq_true h)]; exact h1 h
  · rw [if_neg (by rw [decide_eq_true_eq]; exact h)]; exact h2 h
theorem iteN {c : Prop} [Decidable c] {A B : Prop} (h1 : ¬ c → A) (h2 : c → B) : if (!decide c) = true then A else B := by
  by_cases h : c
  · rw [if_neg (by rw [decide_eq_true h]; decide)]; exact h2 h
  · rw [if_pos (by rw [decide_eq_false h]; rfl)]; exact h1 h
theorem iteB {c : Bool} {A B : Prop} (h1 : c = true → A) (h2 : c = false → B) : if c = true then A else B := by
  cases c
  · rw [if_neg Bool.false_ne_true]; exact h2 rfl
  · rw [if_pos rfl]; exact h1 rfl
theorem atI_get {l : List D} {i : Int} {n : Nat} (h : l[n]? = some z) (e : i = n) : atI l i = some z := by
  subst e
  have hl := (List.getElem?_eq_some_iff.mp h).1
  unfold atI ixN
  rw [if_pos (by omega), if_pos (by omega)]
  show l[((n : Int)).toNat]? = some z
  rw [Int.toNat_natCast, h]
end
end DL

/-! Loops and comprehensions, their names found by place. -/
namespace DL
open PySem L2
structure Scp (N : List Str) (sc : Scope) : Prop where
  nd : N.Nodup
section
variable {X : Cx} {ρ : Sl} {S : Store} {Q : D → Store → Prop} {E : AEnds} {pos spos : Pos} {tg e iter elt kx vx : Expr} {N : List Str} {scp scope : Scope} {body : List Stmt} {ifs : List Expr}
theorem aO_none {Q : Option Int → Store → Prop} (q : Q none S) : aO X none ρ S Q := q
theorem aO_some {Q : Option Int → Store → Prop} (h : aE X e ρ S fun d S1 => ∃ i, d = .int i ∧ Q (some i) S1) : aO X (some e) ρ S Q := h
theorem tgNm {x : Str} {i : Nat} (n : Names N) (a : At x i N) (hN : X.N = N) (hx : Loc X.env.scope x := by first | exact Or.inl rfl | exact Or.inr rfl) (hf : X.fn x = true ∨ X.env.scope.names.lookup x = some .local := by first | exact .inl rfl | exact .inr rfl) : TgOk X (.Name x pos) (.nm i) :=
  tg_nm i (by rw [hN]; exact n.nd) (by rw [hN]; exact a.get) hx hf
theorem pgsN {x : Str} {i : Nat} {is : List Nat} {es : List Expr} (n : Names N) (a : At x i N) (hN : X.N = N) (h : PGs X es (gNames is)) (hx : Loc X.env.scope x := by first | exact Or.inl rfl | exact Or.inr rfl) (hf : X.fn x = true ∨ X.env.scope.names.lookup x = some .local := by first | exact .inl rfl | exact .inr rfl)
    (hs : (assignEach (.Name x pos :: es) X.env).map (·.2) = assign (.Name x pos) X.env :: (assignEach es X.env).map (·.2) := by rfl) : PGs X (.Name x pos :: es) (gNames (i :: is)) :=
  pgs_cons (pg_name (by rw [hN]; exact n.nd) (by rw [hN]; exact a.get) hx hf) h hs
theorem pgsO : PGs X [] (gNames []) := pgs_nil
theorem tgTp {es : List Expr} {is : List Nat} {k : Nat} (hc : X.calm = true) (h : PGs X es (gNames is)) (hn : (assignEach es X.env).length = is.length := by rfl) (hst : (assignEach es X.env).findIdx? (·.1) = none := by rfl) : TgOk X (.Tuple es k pos) (.tp is) := pg_tup hc h hn hst
theorem lcE (T : Tgt) (own : List (Str × Nat)) (sc : Scp N scp) (h : aItr X tg iter ρ S fun ds S1 => ∃ Pv : Nat → List D → Store → Prop, Pv 0 [] S1 ∧ LTurn X scope elt ifs T (own.map (·.2)) ρ Pv ds ∧ ∀ acc S', Pv ds.length acc S' → NewL acc S' Q)
    (ok : BlkOk N scp scope own) (ht : TgB X scope tg T) (hN : X.N = N) (hsc : X.env.scope = scp) (hc : X.calm = true) (hT : ∀ i ∈ T.ids, i ∈ own.map (·.2)) (hl : ifs.length ≤ 1) (hs : ∀ x, foldedSetIterable iter X.env x = pure x := by intro _; rfl) : aE X (.ListComp elt [⟨tg, iter, ifs, 0⟩] scope pos) ρ S Q :=
  aE_lcG T own h hT hl hc (by rw [hN]; exact sc.nd) (by rw [hN, hsc]; exact ok) ht hs
theorem lcS {y : Str} {py : Pos} {i : Nat} (T : Tgt) (own : List (Str × Nat)) (sc : Scp N scp) (hy : At y i N) (h : aItr X tg iter ρ S fun ds S1 => ∃ Pv : Nat → List D → Store → Prop, Pv 0 [] S1 ∧ LTurn X scope elt ifs T (own.map (·.2)) ρ Pv ds ∧ ∀ acc S', Pv ds.length acc S' → NewL acc S' fun d S2 => E.nx (ρ.set i (some d)) S2)
    (ok : BlkOk N scp scope own) (ht : TgB X scope tg T) (hN : X.N = N) (hsc : X.env.scope = scp) (hc : X.calm = true) (hT : ∀ i ∈ T.ids, i ∈ own.map (·.2)) (hl : ifs.length ≤ 1) (hyl : X.env.scope.names.lookup y = some .local := by rfl) (hsw : swapsWith (.ListComp elt [⟨tg, iter, ifs, 0⟩] scope pos) (some (.Name y py)) spos.line X.env = pure true := by rfl) (hs : ∀ x, foldedSetIterable iter X.env x = pure x := by intro _; rfl) :
    aS X (.Assign [.Name y py] (.ListComp elt [⟨tg, iter, ifs, 0⟩] scope pos) spos) ρ S E :=
  aS_setLc i T own h hT hl hc (by rw [hN]; exact sc.nd) (by rw [hN]; exact hy.get) hyl hsw (by rw [hN, hsc]; exact ok) ht hs
theorem dcE (T : Tgt) (own : List (Str × Nat)) (sc : Scp N scp) (h : aItr X tg iter ρ S fun ds S1 => ∃ Pv : Nat → List (Key × D) → Store → Prop, Pv 0 [] S1 ∧ DTurn X scope kx vx T (own.map (·.2)) ρ Pv ds ∧ ∀ acc S', Pv ds.length acc S' → NewD acc S' Q)
    (ok : BlkOk N scp scope own) (ht : TgB X scope tg T) (hN : X.N = N) (hsc : X.env.scope = scp) (hc : X.calm = true) (hT : ∀ i ∈ T.ids, i ∈ own.map (·.2)) (hs : ∀ x, foldedSetIterable iter X.env x = pure x := by intro _; rfl) : aE X (.DictComp kx vx [⟨tg, iter, [], 0⟩] scope pos) ρ S Q :=
  aE_dc T own h hT hc (by rw [hN]; exact sc.nd) (by rw [hN, hsc]; exact ok) ht hs
theorem frS (T : Tgt) (h : aItr X tg e ρ S fun ds S1 => ∃ Pv : Nat → Sl → Store → Prop, Pv 0 ρ S1 ∧
      (∀ i d ρ' S', ds[i]? = some d → Pv i ρ' S' → T.fits d ρ' fun ρ'' => aSs X body ρ'' S' { E with nx := Pv (i + 1), ct := Pv (i + 1), bk := E.nx }) ∧ ∀ ρ' S', Pv ds.length ρ' S' → E.nx ρ' S')
    (ht : TgOk X tg T) (hp : PassesOwn (model X.prog X.w) X.A X.env X.xe) (hc : X.calm = true) (hs : ∀ x, foldedSetIterable e X.env x = pure x := by intro _; rfl) : aS X (.For tg e body [] pos) ρ S E := aS_for T h ht hp hc hs
end
theorem cut_lo {α : Type} {xs : List α} {k : Int} (h : 0 ≤ k) : cutD xs (some k) none = xs.drop k.toNat := by
  unfold cutD HT.sIx
  show (xs.drop (if k < 0 then _ else min k.toNat xs.length)).take (xs.length - (if k < 0 then _ else min k.toNat xs.length)) = _
  rw [if_neg (by omega), List.take_of_length_le (by rw [List.length_drop]; omega)]
  by_cases hk : k.toNat ≤ xs.length
  · rw [Nat.min_eq_left hk]
  · rw [Nat.min_eq_right (by omega), List.drop_length, List.drop_of_length_le (by omega)]
theorem cut_hi {α : Type} {xs : List α} {k : Int} (h : 0 ≤ k) : cutD xs none (some k) = xs.take k.toNat := by
  unfold cutD HT.sIx
  show (xs.drop 0).take ((if k < 0 then _ else min k.toNat xs.length) - 0) = _
  rw [if_neg (by omega), List.drop_zero, Nat.sub_zero]
  by_cases hk : k.toNat ≤ xs.length
  · rw [Nat.min_eq_left hk]
  · rw [Nat.min_eq_right (by omega), List.take_length, List.take_of_length_le (by omega)]
end DL

/-! Comprehensions and loops over typed lists; dicts of text keys. -/
namespace DL
open PySem L2
section
variable {X : Cx} {ρ : Sl} {S : Store} {Q : D → Store → Prop} {E : AEnds} {elt kx vx c : Expr} {scope : Scope} {T : Tgt} {vs : List Nat} {α β : Type}
/-- [elt for .. in l.map f] -/
theorem lcM {l : List α} {f : α → D} (h : α → D) (hl : l.length < 100000) (ht : ∀ x, x ∈ l → ∀ A : Addr × D, T.fits (f x) (wipeD ρ vs) fun ρ' => aEb X scope elt ρ' (A :: S) fun z S4 => S4 = A :: S ∧ z = h x) (hn : NewL (l.map h) S Q) :
    ∃ Pv : Nat → List D → Store → Prop, Pv 0 [] S ∧ LTurn X scope elt [] T vs ρ Pv (l.map f) ∧ ∀ acc S', Pv (l.map f).length acc S' → NewL acc S' Q := by
  refine ⟨fun i acc S' => acc = (l.take i).map h ∧ S' = S, ⟨by rw [List.take_zero]; rfl, rfl⟩, ?_, ?_⟩
  · rintro A i d acc S' hd ⟨e1, e2⟩
    subst e1; subst e2
    rw [List.getElem?_map] at hd
    cases hx : l[i]? with
    | none => rw [hx] at hd; cases hd
    | some x =>
      rw [hx] at hd
      cases hd
      have hi := (List.getElem?_eq_some_iff.mp hx).1
      refine (ht x (List.mem_of_getElem? hx) (A, .lst ((l.take i).map h))).imp fun ρ' q => ?_
      refine ⟨_, rfl, ?_⟩
      rw [if_pos rfl]
      intro s H C cl fp
      refine (q s H C cl fp).mono fun z S4 ⟨e1, e2⟩ => ⟨_, e1, ?_, ?_, rfl⟩
      · rw [List.length_map, List.length_take]; omega
      · subst e2
        rw [List.take_succ, hx, List.map_append]; rfl
  · rintro acc S' ⟨e1, e2⟩
    subst e1; subst e2
    rw [List.length_map, List.take_length]
    exact hn
/-- [elt for .. in l.map f if c] -/
theorem lcF {l : List α} {f : α → D} (p : α → Bool) (h : α → D) (hl : l.length < 100000) (ht : ∀ x, x ∈ l → ∀ A : Addr × D, T.fits (f x) (wipeD ρ vs) fun ρ' => aTb X scope c ρ' (A :: S) fun b S2 => S2 = A :: S ∧ b = p x ∧ (b = true → aEb X scope elt ρ' (A :: S) fun z S4 => S4 = A :: S ∧ z = h x)) (hn : NewL ((l.filter p).map h) S Q) :
    ∃ Pv : Nat → List D → Store → Prop, Pv 0 [] S ∧ LTurn X scope elt [c] T vs ρ Pv (l.map f) ∧ ∀ acc S', Pv (l.map f).length acc S' → NewL acc S' Q := by
  refine ⟨fun i acc S' => acc = ((l.take i).filter p).map h ∧ S' = S, ⟨by rw [List.take_zero]; rfl, rfl⟩, ?_, ?_⟩
  · rintro A i d acc S' hd ⟨e1, e2⟩
    subst e1; subst e2
    rw [List.getElem?_map] at hd
    cases hx : l[i]? with
    | none => rw [hx] at hd; cases hd
    | some x =>
      rw [hx] at hd
      cases hd
      have hi := (List.getElem?_eq_some_iff.mp hx).1
      refine (ht x (List.mem_of_getElem? hx) (A, .lst (((l.take i).filter p).map h))).imp fun ρ' q => ?_
      show aTb X scope c ρ' _ _
      intro s H C cl fp σ H' R st k
      refine q s H C cl fp σ H' R st fun b H2 S2 ⟨e1, e2, e3⟩ => k b H2 S2 ⟨_, e1, ?_⟩
      cases b with
      | true =>
        rw [if_pos rfl]
        intro s H C cl fp
        refine (e3 rfl s H C cl fp).mono fun z S4 ⟨e1, e4⟩ => ⟨_, e1, ?_, ?_, rfl⟩
        · have := List.length_filter_le p (l.take i)
          rw [List.length_map]; rw [List.length_take] at this; omega
        · subst e4
          rw [List.take_succ, hx, List.filter_append, List.map_append]
          congr 1
          show _ = (List.filter p [x]).map h
          rw [List.filter_cons, ← e2, if_pos rfl]; rfl
      | false =>
        refine ⟨?_, rfl⟩
        rw [List.take_succ, hx, List.filter_append]
        show _ = List.map h (_ ++ List.filter p [x])
        rw [List.filter_cons, ← e2, if_neg Bool.false_ne_true, List.filter_nil, List.append_nil]
  · rintro acc S' ⟨e1, e2⟩
    subst e1; subst e2
    rw [List.length_map, List.take_length]
    exact hn
theorem putP_new {κ : Type} [DecidableEq κ] {γ : Type} {l : List (κ × γ)} {k : κ} {v : γ} (h : k ∉ l.map (·.1)) : putP l k v = l ++ [(k, v)] := by
  unfold putP
  rw [if_neg]
  rw [List.any_eq_true]
  rintro ⟨x, hx, e⟩
  exact h (List.mem_map.mpr ⟨x, hx, of_decide_eq_true e⟩)
/-- {kx: vx for .. in l.map f}, unlike keys -/
theorem dcM {l : List α} {f : α → D} (ky : α → Key) (h : α → D) (hl : l.length < 100000) (nd : (l.map ky).Nodup) (ht : ∀ x, x ∈ l → ∀ A : Addr × D, T.fits (f x) (wipeD ρ vs) fun ρ' => aEb X scope kx ρ' (A :: S) fun z S3 => z = kD (ky x) ∧ S3 = A :: S ∧ aEb X scope vx ρ' (A :: S) fun z S4 => S4 = A :: S ∧ z = h x) (hn : NewD (l.map fun x => (ky x, h x)) S Q) :
    ∃ Pv : Nat → List (Key × D) → Store → Prop, Pv 0 [] S ∧ DTurn X scope kx vx T vs ρ Pv (l.map f) ∧ ∀ acc S', Pv (l.map f).length acc S' → NewD acc S' Q := by
  refine ⟨fun i acc S' => acc = (l.take i).map (fun x => (ky x, h x)) ∧ S' = S, ⟨by rw [List.take_zero]; rfl, rfl⟩, ?_, ?_⟩
  · rintro A i d acc S' hd ⟨e1, e2⟩
    subst e1; subst e2
    rw [List.getElem?_map] at hd
    cases hx : l[i]? with
    | none => rw [hx] at hd; cases hd
    | some x =>
      rw [hx] at hd
      cases hd
      have hi := (List.getElem?_eq_some_iff.mp hx).1
      refine (ht x (List.mem_of_getElem? hx) (A, .dct ((l.take i).map fun x => (ky x, h x)))).imp fun ρ' q => ?_
      intro s H C cl fp
      refine (q s H C cl fp).mono fun z S3 ⟨e1, e2, q2⟩ => ⟨ky x, _, e1, e2, ?_⟩
      intro s H C cl fp
      refine (q2 s H C cl fp).mono fun z S4 ⟨e1, e2⟩ => ⟨_, e1, ?_, ?_, rfl⟩
      · rw [List.length_map, List.length_take]; omega
      · subst e2
        rw [putP_new, List.take_succ, hx, List.map_append]
        · rfl
        · rw [List.map_map]
          show ky x ∉ (l.take i).map ky
          have e : l.map ky = (l.take i).map ky ++ (l.drop i).map ky := by rw [← List.map_append, List.take_append_drop]
          rw [e] at nd
          have d := (List.nodup_append.mp nd).2.2
          intro hm
          refine d _ hm (ky x) (List.mem_map.mpr ⟨x, ?_, rfl⟩) rfl
          rw [List.mem_iff_getElem?]
          exact ⟨0, by rw [List.getElem?_drop]; exact hx⟩
  · rintro acc S' ⟨e1, e2⟩
    subst e1; subst e2
    rw [List.length_map, List.take_length]
    exact hn
/-- for .. in l.map f, a fold -/
theorem frM {body : List Stmt} {l : List α} {f : α → D} (st : β → Sl → Store → Prop) (step : β → α → β) (b0 : β) (h0 : st b0 ρ S) (hs : ∀ b x ρ' S', x ∈ l → st b ρ' S' → T.fits (f x) ρ' fun ρ'' => aSs X body ρ'' S' { E with nx := st (step b x), ct := st (step b x), bk := E.nx })
    (hd : ∀ ρ' S', st (l.foldl step b0) ρ' S' → E.nx ρ' S') :
    ∃ Pv : Nat → Sl → Store → Prop, Pv 0 ρ S ∧ (∀ i d ρ' S', (l.map f)[i]? = some d → Pv i ρ' S' → T.fits d ρ' fun ρ'' => aSs X body ρ'' S' { E with nx := Pv (i + 1), ct := Pv (i + 1), bk := E.nx }) ∧ ∀ ρ' S', Pv (l.map f).length ρ' S' → E.nx ρ' S' := by
  refine ⟨fun i ρ' S' => st ((l.take i).foldl step b0) ρ' S', h0, ?_, ?_⟩
  · rintro i d ρ' S' hd pv
    rw [List.getElem?_map] at hd
    cases hx : l[i]? with
    | none => rw [hx] at hd; cases hd
    | some x =>
      rw [hx] at hd
      cases hd
      have := hs _ x ρ' S' (List.mem_of_getElem? hx) pv
      have e : (l.take (i + 1)).foldl step b0 = step ((l.take i).foldl step b0) x := by
        rw [List.take_succ, hx, List.foldl_append]; rfl
      show T.fits _ _ fun ρ'' => aSs X body ρ'' S' { E with nx := fun ρ' S' => st ((l.take (i + 1)).foldl step b0) ρ' S', ct := fun ρ' S' => st ((l.take (i + 1)).foldl step b0) ρ' S', bk := E.nx }
      rw [e]
      exact this
  · intro ρ' S' pv
    refine hd ρ' S' ?_
    show st _ _ _
    have pv : st ((l.take (l.map f).length).foldl step b0) ρ' S' := pv
    rw [List.length_map, List.take_length] at pv
    exact pv
end
theorem pairs_map {α β : Type} (f : α → D) (g : β → D) : ∀ (l : List α) (m : List β), pairs (l.map f) (m.map g) = (l.zip m).map fun x => D.tupW [f x.1, g x.2]
  | [], _ => by simp [pairs]
  | _ :: _, [] => by simp [pairs]
  | a :: l, b :: m => by
    show D.tupW [f a, g b] :: pairs (l.map f) (m.map g) = _
    rw [pairs_map f g l m]; rfl
/-! dicts of text keys -/
section
variable {α : Type}
def dctS (g : α → D) (l : List (Str × α)) : List (Key × D) := l.map fun x => (Sum.inr x.1, g x.2)
theorem valP_dctS {g : α → D} {k : Str} : ∀ {l : List (Str × α)}, valP (dctS g l) (.inr k) = (valP l k).map g
  | [] => rfl
  | (x, a) :: l => by
    show valP ((Sum.inr x, g a) :: dctS g l) _ = _
    rw [valP_cons, valP_cons]
    by_cases h : x = k
    · rw [if_pos h, if_pos (by rw [h])]; rfl
    · rw [if_neg h, if_neg (fun e => h (Sum.inr.inj e)), valP_dctS]
theorem putP_dctS {g : α → D} {l : List (Str × α)} {k : Str} {v : α} : putP (dctS g l) (.inr k) (g v) = dctS g (putP l k v) := by
  unfold putP dctS
  have e : ((l.map fun x => ((Sum.inr x.1 : Key), g x.2)).any fun kv => decide (kv.1 = Sum.inr k)) = l.any fun kv => decide (kv.1 = k) := by
    rw [List.any_map]
    congr 1
    funext x
    show decide ((Sum.inr x.1 : Key) = Sum.inr k) = decide (x.1 = k)
    exact decide_eq_decide.mpr ⟨fun e => Sum.inr.inj e, fun e => by rw [e]⟩
  rw [e]
  split
  · rw [List.map_map, List.map_map]
    refine List.map_congr_left fun x _ => ?_
    show (if (Sum.inr x.1 : Key) = Sum.inr k then _ else _) = _
    by_cases h : x.1 = k
    · rw [if_pos (by rw [h])]
      show _ = (fun x : Str × α => ((Sum.inr x.1 : Key), g x.2)) (if x.1 = k then _ else _)
      rw [if_pos h]
    · rw [if_neg (fun e => h (Sum.inr.inj e))]
      show _ = (fun x : Str × α => ((Sum.inr x.1 : Key), g x.2)) (if x.1 = k then _ else _)
      rw [if_neg h]
  · rw [List.map_append]; rfl
theorem dctS_keys {g : α → D} {l : List (Str × α)} : (dctS g l).map (fun kv => kD kv.1) = (l.map (·.1)).map D.str := by
  unfold dctS
  rw [List.map_map, List.map_map]; rfl
theorem dctS_keys' {g : α → D} {l : List (Str × α)} : (dctS g l).map (·.1) = (l.map (·.1)).map Sum.inr := by
  unfold dctS
  rw [List.map_map, List.map_map]; rfl
theorem dctS_len {g : α → D} {l : List (Str × α)} : (dctS g l).length = l.length := List.length_map ..
theorem valP_some_mem {l : List (Str × α)} {k : Str} {v : α} (h : valP l k = some v) : (k, v) ∈ l := by
  induction l with
  | nil => cases h
  | cons a l ih =>
    rw [valP_cons] at h
    split at h
    · rename_i e
      cases h
      rw [← e]
      exact List.mem_cons_self
    · exact List.mem_cons_of_mem _ (ih h)
theorem valP_mem {l : List (Str × α)} {k : Str} (h : k ∈ l.map (·.1)) : ∃ v, valP l k = some v := by
  induction l with
  | nil => cases h
  | cons a l ih =>
    rw [valP_cons]
    by_cases e : a.1 = k
    · exact ⟨_, if_pos e⟩
    · rw [if_neg e]
      rcases List.mem_cons.mp h with h | h
      · exact absurd h.symm e
      · exact ih h
theorem valP_none {l : List (Str × α)} {k : Str} (h : k ∉ l.map (·.1)) : valP l k = none := by
  cases e : valP l k with
  | none => rfl
  | some v => exact absurd (List.mem_map.mpr ⟨_, valP_some_mem e, rfl⟩) h
theorem valP_isSome {l : List (Str × α)} {k : Str} : (valP l k).isSome = decide (k ∈ l.map (·.1)) := by
  by_cases h : k ∈ l.map (·.1)
  · obtain ⟨v, e⟩ := valP_mem h
    rw [e, decide_eq_true h]; rfl
  · rw [valP_none h, decide_eq_false h]; rfl
theorem valP_nd {l : List (Str × α)} (nd : (l.map (·.1)).Nodup) {x : Str × α} (h : x ∈ l) : valP l x.1 = some x.2 := by
  induction l with
  | nil => cases h
  | cons a l ih =>
    rw [valP_cons]
    rcases List.mem_cons.mp h with e | h
    · rw [e, if_pos rfl]
    · have nd2 := List.nodup_cons.mp nd
      rw [if_neg (fun e => nd2.1 (List.mem_map.mpr ⟨x, h, e.symm⟩))]
      exact ih nd2.2 h
theorem putP_keys {l : List (Str × α)} {k : Str} {v : α} (h : k ∈ l.map (·.1)) : (putP l k v).map (·.1) = l.map (·.1) := by
  unfold putP
  split
  · rw [List.map_map]
    refine List.map_congr_left fun x _ => ?_
    show (if x.1 = k then (x.1, v) else x).1 = x.1
    split <;> rfl
  · rename_i hn
    exfalso; apply hn
    obtain ⟨x, hx, e⟩ := List.mem_map.mp h
    exact List.any_eq_true.mpr ⟨x, hx, decide_eq_true e⟩
theorem putP_map {l : List (Str × α)} {k : Str} {v : α} (h : k ∈ l.map (·.1)) : putP l k v = l.map fun x => if x.1 = k then (x.1, v) else x := by
  unfold putP
  rw [if_pos]
  obtain ⟨x, hx, e⟩ := List.mem_map.mp h
  exact List.any_eq_true.mpr ⟨x, hx, decide_eq_true e⟩
end
end DL

/-! More rules with names found by place; more of what a step asks. -/
namespace DL
open PySem L2
section
variable {X : Cx} {ρ : Sl} {S : Store} {Q : D → Store → Prop} {P : Bool → Store → Prop} {E : AEnds} {pos spos : Pos} {tg e iter elt kx vx : Expr} {N : List Str} {scp scope : Scope} {body : List Stmt} {ifs : List Expr}
theorem dcS {y : Str} {py : Pos} {i : Nat} (T : Tgt) (own : List (Str × Nat)) (sc : Scp N scp) (hy : At y i N) (h : aItr X tg iter ρ S fun ds S1 => ∃ Pv : Nat → List (Key × D) → Store → Prop, Pv 0 [] S1 ∧ DTurn X scope kx vx T (own.map (·.2)) ρ Pv ds ∧ ∀ acc S', Pv ds.length acc S' → NewD acc S' fun d S2 => E.nx (ρ.set i (some d)) S2)
    (ok : BlkOk N scp scope own) (ht : TgB X scope tg T) (hN : X.N = N) (hsc : X.env.scope = scp) (hc : X.calm = true) (hT : ∀ i ∈ T.ids, i ∈ own.map (·.2)) (hyl : X.env.scope.names.lookup y = some .local := by rfl) (hsw : swapsWith (.DictComp kx vx [⟨tg, iter, [], 0⟩] scope pos) (some (.Name y py)) spos.line X.env = pure true := by rfl) (hs : ∀ x, foldedSetIterable iter X.env x = pure x := by intro _; rfl) :
    aS X (.Assign [.Name y py] (.DictComp kx vx [⟨tg, iter, [], 0⟩] scope pos) spos) ρ S E :=
  aS_setDc i T own h hT hc (by rw [hN]; exact sc.nd) (by rw [hN]; exact hy.get) hyl hsw (by rw [hN, hsc]; exact ok) ht hs
/-- d[k] += e -/
theorem dAug {o k : Expr} {p1 : Pos} {p : Addr} {kk : Key} {i : Nat} {l : List (Key × D)} {n : Int} (hu : Un X.A.units) (ho : aE X o ρ S fun d S1 => d = .adr p ∧ S1 = S) (hk : aE X k ρ S fun d S1 => d = kD kk ∧ S1 = S) (hi : S[i]? = some (p, .dct l)) (hv : valP l kk = some (.int n)) (hl : l.length < 100000)
    (h : aE X e ρ S fun x S1 => ∃ y, x = .int y ∧ S1 = S ∧ E.nx ρ (S.set i (p, .dct (putP l kk (.int (n + y))))))
    (ha : ∀ ov iv new, augStore k ov iv new = (do holding [new, ov, iv] (setItem ov iv new); release [new, ov, iv] []; pure .next) := by intro _ _ _; rfl) : aS X (.AugAssign (.Subscript o k p1) .Add e pos) ρ S E := by
  refine aS_daug hu.h (ho.mono ?_) ha
  rintro d S1 ⟨e1, e2⟩
  subst e2
  refine hk.mono ?_
  rintro ky S2 ⟨e3, e4⟩
  subst e4
  refine ⟨p, kk, e1, e3, i, l, n, hi, hv, h.mono ?_⟩
  rintro x S3 ⟨y, e5, e6, q⟩
  subst e6
  exact ⟨y, i, l, e5, hi, hl, q⟩
theorem aA1c {Q : List D → Store → Prop} (h : aE X e ρ S fun d S1 => Q [d] S1) (hs : starEach [e] X.env = (false, eval e X.env) :: starEach [] X.env := by rfl) : aA X [e] ρ S Q := aA_cons (h.mono fun d S1 q => aA_nil q) hs
end
section
variable {S : Store} {P : Bool → Store → Prop} {Q : D → Store → Prop} {i j : Int} {b : Bool} {l m : List D} {z : D} {s t : Str} {p : Addr} {n : Nat} {k : Key} {dl : List (Key × D)}
theorem oEqSQ (q : Q (.bl (decide (s = t))) S) : aEq false (.str s) (.str t) S Q := .inl ⟨.str s, .str t, rfl, rfl, rfl, by
  show Q (.bl (decide (V.str s = V.str t))) S
  rw [show decide (V.str s = V.str t) = decide (s = t) from decide_eq_decide.mpr ⟨fun e => V.str.inj e, fun e => by rw [e]⟩]
  exact q⟩
theorem oEqIQ (q : Q (.bl (decide (i = j))) S) : aEq false (.int i) (.int j) S Q := .inl ⟨.int i, .int j, rfl, rfl, rfl, by
  show Q (.bl (decide (V.int i = V.int j))) S
  rw [show decide (V.int i = V.int j) = decide (i = j) from decide_eq_decide.mpr ⟨fun e => V.int.inj e, fun e => by rw [e]⟩]
  exact q⟩
/-- a text or none -/
abbrev oS : Option Str → D
  | none => .non
  | some s => .str s
/-- a number or none -/
abbrev oI : Option Int → D
  | none => .non
  | some s => .int s
theorem oNeO {a : Option Str} (q : P (decide (a ≠ some s)) S) : aEq true (.str s) (oS a) S (isB P) := by
  cases a with
  | none => exact oNeSN (by simpa using q)
  | some t =>
    refine oNeS ?_
    have e : (decide (some t ≠ some s)) = !decide (s = t) := by
      by_cases h : s = t
      · subst h; simp
      · have : some t ≠ some s := fun e => h (Option.some.inj e).symm
        rw [decide_eq_true this, decide_eq_false h]; rfl
    rw [← e]
    exact q
theorem nonO {a : Option Str} : isNonD (oS a) = a.isNone := by cases a <;> rfl
theorem nonI {a : Option Int} : isNonD (oI a) = a.isNone := by cases a <;> rfl
theorem oInL {zs : List Str} {d : D} (r : ResQ S d (zs.map D.str)) (q : P (decide (s ∈ zs)) S) : aIn false (.str s) d S (isB P) := .inl ⟨s, zs, rfl, r, _, rfl, q⟩
theorem oInLQ {zs : List Str} {d : D} (r : ResQ S d (zs.map D.str)) (q : Q (.bl (decide (s ∈ zs))) S) : aIn false (.str s) d S Q := .inl ⟨s, zs, rfl, r, q⟩
theorem oNinL {zs : List Str} {d : D} (r : ResQ S d (zs.map D.str)) (q : P (!decide (s ∈ zs)) S) : aIn true (.str s) d S (isB P) := .inl ⟨s, zs, rfl, r, _, rfl, q⟩
theorem oInD {d : D} (r : ResD S d dl) (q : P (valP dl (.inr s)).isSome S) : aIn false (.str s) d S (isB P) := .inr (.inl ⟨.inr s, dl, rfl, r, _, rfl, q⟩)
theorem oInDQ {d : D} (r : ResD S d dl) (q : Q (.bl (valP dl (.inr s)).isSome) S) : aIn false (.str s) d S Q := .inr (.inl ⟨.inr s, dl, rfl, r, q⟩)
theorem oNinD {d : D} (r : ResD S d dl) (q : P (!(valP dl (.inr s)).isSome) S) : aIn true (.str s) d S (isB P) := .inr (.inl ⟨.inr s, dl, rfl, r, _, rfl, q⟩)
theorem oIxS {α : Type} {g : α → D} {l : List (Str × α)} {v : α} {d : D} (r : ResD S d (dctS g l)) (h : valP l s = some v) (q : Q (g v) S) : aIx d (.str s) S Q := oIxD (k := .inr s) r rfl (by rw [valP_dctS, h]; rfl) q
theorem oPutD {q : Nat} {Q : Store → Prop} {x : D} (hi : S[q]? = some (p, .dct dl)) (hl : dl.length < 100000) (h : Q (S.set q (p, .dct (putP dl (.inr s) x)))) : aPut (.adr p) (.str s) x S Q := .inl ⟨q, p, dl, .inr s, rfl, hi, rfl, hl, h⟩
theorem iteT' {A B : Prop} (h : A) : if true = true then A else B := by rw [if_pos rfl]; exact h
theorem iteF' {A B : Prop} (h : B) : if false = true then A else B := by rw [if_neg Bool.false_ne_true]; exact h
theorem iteA {b c : Bool} {A B : Prop} (h : if b = c then A else B) : if b = c then A else B := h
theorem le5 {n : Nat} (h : Nat.ble n 100000 = true) : n ≤ 100000 := Nat.le_of_ble_eq_true h
theorem atI_map {α : Type} {f : α → D} {l : List α} {i : Int} {x : α} (h : atI l i = some x) : atI (l.map f) i = some (f x) := by
  unfold atI at *
  rw [List.length_map]
  cases hn : ixN l.length i with
  | none => rw [hn] at h; cases h
  | some j =>
    rw [hn] at h
    show (l.map f)[j]? = _
    have h : l[j]? = some x := h
    rw [List.getElem?_map, h]; rfl
end
end DL

/-! isinstance of texts and tuples; names in typed dicts. -/
namespace DL
open PySem L2
section
variable {X : Cx} {ρ : Sl} {S : Store} {Q : D → Store → Prop} {P : Bool → Store → Prop} {pos p1 p2 : Pos} {e : Expr}
theorem aE_isS (hm : X.mg "isinstance" = none) (hmT : X.mg "str" = none) (h : aE X e ρ S fun d S1 => ∃ z, d = .str z ∧ Q (.bl true) S1) (hg : Gl X "isinstance" := by rfl) (hgT : Gl X "str" := by rfl)
    (hs : starEach [e, .Name "str" p2] X.env = (false, eval e X.env) :: starEach [.Name "str" p2] X.env := by rfl) (hs2 : starEach [.Name "str" p2] X.env = (false, eval (.Name "str" p2) X.env) :: starEach [] X.env := by rfl) : aE X (.Call (.Name "isinstance" p1) [e, .Name "str" p2] [] pos) ρ S Q :=
  aE_isi (T := "str") hm hmT rfl (h.mono fun d S1 ⟨z, e1, q⟩ => ⟨"str", true, by subst e1; rfl, kitOne_same rfl, q⟩) hg hgT (by decide) (by decide) hs hs2
theorem aE_isT (hm : X.mg "isinstance" = none) (hmT : X.mg "tuple" = none) (h : aE X e ρ S fun d S1 => ∃ z, d = .tup z ∧ Q (.bl true) S1) (hg : Gl X "isinstance" := by rfl) (hgT : Gl X "tuple" := by rfl)
    (hs : starEach [e, .Name "tuple" p2] X.env = (false, eval e X.env) :: starEach [.Name "tuple" p2] X.env := by rfl) (hs2 : starEach [.Name "tuple" p2] X.env = (false, eval (.Name "tuple" p2) X.env) :: starEach [] X.env := by rfl) : aE X (.Call (.Name "isinstance" p1) [e, .Name "tuple" p2] [] pos) ρ S Q :=
  aE_isi (T := "tuple") hm hmT rfl (h.mono fun d S1 ⟨z, e1, q⟩ => ⟨"tuple", true, by subst e1; rfl, kitOne_same rfl, q⟩) hg hgT (by decide) (by decide) hs hs2
theorem aT_isS (hm : X.mg "isinstance" = none) (hmT : X.mg "str" = none) (h : aE X e ρ S fun d S1 => ∃ z, d = .str z ∧ P true S1) (hg : Gl X "isinstance" := by rfl) (hgT : Gl X "str" := by rfl)
    (hs : starEach [e, .Name "str" p2] X.env = (false, eval e X.env) :: starEach [.Name "str" p2] X.env := by rfl) (hs2 : starEach [.Name "str" p2] X.env = (false, eval (.Name "str" p2) X.env) :: starEach [] X.env := by rfl)
    (he : ∀ whole, isTrue (.Call (.Name "isinstance" p1) [e, .Name "str" p2] [] pos) X.env whole = (do let v ← whole; standAt (Expr.Call (.Name "isinstance" p1) [e, .Name "str" p2] [] pos).pos; holding [v] (truthy v)) := by intro _; rfl) : aT X (.Call (.Name "isinstance" p1) [e, .Name "str" p2] [] pos) ρ S P :=
  aT_val (aE_isS hm hmT (h.mono fun d S1 ⟨z, e1, q⟩ => ⟨z, e1, true, rfl, q⟩) hg hgT hs hs2) he
theorem aT_isT (hm : X.mg "isinstance" = none) (hmT : X.mg "tuple" = none) (h : aE X e ρ S fun d S1 => ∃ z, d = .tup z ∧ P true S1) (hg : Gl X "isinstance" := by rfl) (hgT : Gl X "tuple" := by rfl)
    (hs : starEach [e, .Name "tuple" p2] X.env = (false, eval e X.env) :: starEach [.Name "tuple" p2] X.env := by rfl) (hs2 : starEach [.Name "tuple" p2] X.env = (false, eval (.Name "tuple" p2) X.env) :: starEach [] X.env := by rfl)
    (he : ∀ whole, isTrue (.Call (.Name "isinstance" p1) [e, .Name "tuple" p2] [] pos) X.env whole = (do let v ← whole; standAt (Expr.Call (.Name "isinstance" p1) [e, .Name "tuple" p2] [] pos).pos; holding [v] (truthy v)) := by intro _; rfl) : aT X (.Call (.Name "isinstance" p1) [e, .Name "tuple" p2] [] pos) ρ S P :=
  aT_val (aE_isT hm hmT (h.mono fun d S1 ⟨z, e1, q⟩ => ⟨z, e1, true, rfl, q⟩) hg hgT hs hs2) he
end
section
variable {S : Store} {P : Bool → Store → Prop} {Q : D → Store → Prop} {s : Str} {α : Type} {g : α → D} {l : List (Str × α)} {v : α} {d : D}
theorem oInS (r : ResD S d (dctS g l)) (h : valP l s = some v) (q : P true S) : aIn false (.str s) d S (isB P) := oInD r (by rw [valP_dctS, h]; exact q)
theorem oInSn (r : ResD S d (dctS g l)) (h : valP l s = none) (q : P false S) : aIn false (.str s) d S (isB P) := oInD r (by rw [valP_dctS, h]; exact q)
theorem oNinS (r : ResD S d (dctS g l)) (h : valP l s = some v) (q : P false S) : aIn true (.str s) d S (isB P) := oNinD r (by rw [valP_dctS, h]; exact q)
theorem oNinSn (r : ResD S d (dctS g l)) (h : valP l s = none) (q : P true S) : aIn true (.str s) d S (isB P) := oNinD r (by rw [valP_dctS, h]; exact q)
end
end DL

/-! Dicts walked, names found by place. -/
namespace DL
open PySem L2
section
variable {X : Cx} {ρ : Sl} {S : Store} {Q : D → Store → Prop} {E : AEnds} {pos spos p1 p2 : Pos} {tg e iter elt kx vx : Expr} {N : List Str} {scp scope : Scope} {body : List Stmt} {ifs : List Expr} {l L : List (Key × D)} {dl : List (Key × D) → List D}
theorem evN {x : Str} {i : Nat} (_ : Names N) (a : At x i N) (hN : X.N = N) (hr : ρ[i]? = some (some (.dct l))) (hv : Vis X.env.scope x := by first | exact Or.inl rfl | exact Or.inr (Or.inl rfl) | exact Or.inr (Or.inr rfl)) (hd : (x == ("__debug__" : Str)) = false := by decide)
    (hcd : (x == ("__classdict__" : Str)) = false := by decide) : EvD X (.Name x pos) ρ S l := evD_var i hr (by rw [hN]; exact a.get) hv hd hcd
theorem evS {x z : Str} {i j : Nat} (_ : Names N) (a : At x i N) (hN : X.N = N) (hu : Un X.A.units) (hr : ρ[i]? = some (some (.dct L))) (hz : valP L (.inr z) = some (.dct l)) (hv : Vis X.env.scope x := by first | exact Or.inl rfl | exact Or.inr (Or.inl rfl) | exact Or.inr (Or.inr rfl)) (hd : (x == ("__debug__" : Str)) = false := by decide)
    (hcd : (x == ("__classdict__" : Str)) = false := by decide) : EvD X (.Subscript (.Name x p1) (.Constant (.str z) j p2) pos) ρ S l := evD_sub i hu.h hr hz (by rw [hN]; exact a.get) hv hd hcd
theorem frD (T : Tgt) (dw : DWalk X tg iter e dl) (hv : EvD X e ρ S l) (h : ∃ Pv : Nat → Sl → Store → Prop, Pv 0 ρ S ∧
      (∀ i d ρ' S', (dl l)[i]? = some d → Pv i ρ' S' → T.fits d ρ' fun ρ'' => aSs X body ρ'' S' { E with nx := Pv (i + 1), ct := Pv (i + 1), bk := E.nx }) ∧ ∀ ρ' S', Pv (dl l).length ρ' S' → E.nx ρ' S')
    (ht : TgOk X tg T) (hp : PassesOwn (model X.prog X.w) X.A X.env X.xe) (hc : X.calm = true) (hs : ∀ x, foldedSetIterable iter X.env x = pure x := by intro _; rfl) : aS X (.For tg iter body [] pos) ρ S E := by
  obtain ⟨Pv, p0, hs', hd⟩ := h
  exact aS_forD T dw hv Pv p0 hs' hd ht hp hc hs
theorem lcED (T : Tgt) (own : List (Str × Nat)) (sc : Scp N scp) (dw : DWalk X tg iter e dl) (hv : EvD X e ρ S l) (h : ∃ Pv : Nat → List D → Store → Prop, Pv 0 [] S ∧ LTurn X scope elt ifs T (own.map (·.2)) ρ Pv (dl l) ∧ ∀ acc S', Pv (dl l).length acc S' → NewL acc S' Q)
    (ok : BlkOk N scp scope own) (ht : TgB X scope tg T) (hN : X.N = N) (hsc : X.env.scope = scp) (hc : X.calm = true) (hT : ∀ i ∈ T.ids, i ∈ own.map (·.2)) (hl : ifs.length ≤ 1) (hs : ∀ x, foldedSetIterable iter X.env x = pure x := by intro _; rfl) : aE X (.ListComp elt [⟨tg, iter, ifs, 0⟩] scope pos) ρ S Q := by
  obtain ⟨Pv, p0, hs', hd⟩ := h
  exact aE_lcGD T own dw hv Pv p0 hs' hd hT hl hc (by rw [hN]; exact sc.nd) (by rw [hN, hsc]; exact ok) ht hs
theorem lcSD {y : Str} {py : Pos} {i : Nat} (T : Tgt) (own : List (Str × Nat)) (sc : Scp N scp) (hy : At y i N) (dw : DWalk X tg iter e dl) (hv : EvD X e ρ S l) (h : ∃ Pv : Nat → List D → Store → Prop, Pv 0 [] S ∧ LTurn X scope elt ifs T (own.map (·.2)) ρ Pv (dl l) ∧ ∀ acc S', Pv (dl l).length acc S' → NewL acc S' fun d S2 => E.nx (ρ.set i (some d)) S2)
    (ok : BlkOk N scp scope own) (ht : TgB X scope tg T) (hN : X.N = N) (hsc : X.env.scope = scp) (hc : X.calm = true) (hT : ∀ i ∈ T.ids, i ∈ own.map (·.2)) (hl : ifs.length ≤ 1) (hyl : X.env.scope.names.lookup y = some .local := by rfl) (hsw : swapsWith (.ListComp elt [⟨tg, iter, ifs, 0⟩] scope pos) (some (.Name y py)) spos.line X.env = pure true := by rfl) (hs : ∀ x, foldedSetIterable iter X.env x = pure x := by intro _; rfl) :
    aS X (.Assign [.Name y py] (.ListComp elt [⟨tg, iter, ifs, 0⟩] scope pos) spos) ρ S E := by
  obtain ⟨Pv, p0, hs', hd⟩ := h
  exact aS_setLcD i T own dw hv Pv p0 hs' hd hT hl hc (by rw [hN]; exact sc.nd) (by rw [hN]; exact hy.get) hyl hsw (by rw [hN, hsc]; exact ok) ht hs
end
theorem oIxDs {S : Store} {Q : D → Store → Prop} {dl : List (Key × D)} {d z : D} {s : Str} (r : ResD S d dl) (h : valP dl (.inr s) = some z) (q : Q z S) : aIx d (.str s) S Q := oIxD (k := .inr s) r rfl h q
end DL

/-! The module's own things; written data compared. -/
namespace DL
open PySem L2
theorem iteDT {c : Prop} [Decidable c] {A B : Prop} (h : c) (a : A) : if decide c = true then A else B := by rw [if_pos (decide_eq_true h)]; exact a
theorem iteDF {c : Prop} [Decidable c] {A B : Prop} (h : ¬ c) (b : B) : if decide c = true then A else B := by rw [if_neg (by rw [decide_eq_true_eq]; exact h)]; exact b
theorem iteNT {c : Prop} [Decidable c] {A B : Prop} (h : ¬ c) (a : A) : if (!decide c) = true then A else B := iteN (fun _ => a) fun h2 => absurd h2 h
theorem iteNF {c : Prop} [Decidable c] {A B : Prop} (h : c) (b : B) : if (!decide c) = true then A else B := iteN (fun h2 => absurd h h2) fun _ => b
/-- what stands at a name of the module -/
structure GlobD (mg : Str → Option Value) (K : PySem.W.Frag) (x : Str) (d : D) : Prop where
  ex : ∃ (u : Value) (v : V), mg x = some u ∧ RelV v u ∧ ∀ G, Rep K G d v
section
variable {X : Cx} {ρ : Sl} {S : Store} {Q : D → Store → Prop} {P : Bool → Store → Prop} {pos : Pos} {x : Str} {d e : D} {p q : PyData} {b : Bool}
theorem aE_gl (g : GlobD X.mg X.K x d) (h : Q d S) (hg : Gl X x := by rfl) (hd' : (x == ("__debug__" : Str)) = false := by decide) : aE X (.Name x pos) ρ S Q := by
  obtain ⟨u, v, hm, r, hd⟩ := g.ex
  exact aE_glob hm r hd h hg hd'
theorem oEqDT (hp : py d = some p) (hq : py e = some q) (sp : SeqAt.shaped p = true) (sq : SeqAt.shaped q = true) (h : PyData.eqv p q = b) (k : P b S) : aEq false d e S (isB P) := .inr (.inr ⟨p, q, .inl hp, .inl hq, sp, sq, _, rfl, by
  show P (PyData.eqv p q) S
  rw [h]; exact k⟩)
theorem oNeDT (hp : py d = some p) (hq : py e = some q) (sp : SeqAt.shaped p = true) (sq : SeqAt.shaped q = true) (h : PyData.eqv p q = b) (k : P (!b) S) : aEq true d e S (isB P) := .inr (.inr ⟨p, q, .inl hp, .inl hq, sp, sq, _, rfl, by
  show P (!PyData.eqv p q) S
  rw [h]; exact k⟩)
end
end DL

/-! The store in another order, without some. -/
namespace DL
open PySem L2
section
variable {K : PySem.W.Frag} {ρ : Sl} {S S' : Store}
theorem sub_imp (h : ∀ x ∈ S', x ∈ S) (n : (adrs S).Nodup → (adrs S').Nodup) : ∀ σ H, Sat K ρ S σ H → Sat K ρ S' σ H ∧ KpS S H S' H := fun σ H s => by
  have hk : KpS S H S' H := Kp.of fun b o e => by
    obtain ⟨h1, h2⟩ := hid_some e
    rw [hid_ne fun m => h1 ?_]
    · exact h2
    · obtain ⟨q, hq, e⟩ := List.mem_map.mp m
      exact List.mem_map.mpr ⟨q, h q hq, e⟩
  exact ⟨⟨s.sl.kp hk, ⟨n s.ok.nd, fun q hq => (s.ok.ok q (h q hq)).kp hk rfl⟩⟩, hk⟩
/-- a new object in an old one's place -/
theorem swap_new {u : Addr} {d : D} {i : Nat} : ∀ σ H, Sat K ρ ((u, d) :: S) σ H → Sat K ρ (S.set i (u, d)) σ H ∧ KpS ((u, d) :: S) H (S.set i (u, d)) H := by
  refine sub_imp (fun x hx => ?_) fun nd => ?_
  · rcases List.mem_or_eq_of_mem_set hx with h | h
    · exact List.mem_cons_of_mem _ h
    · rw [h]; exact List.mem_cons_self
  · have nd2 := List.nodup_cons.mp nd
    show ((S.set i (u, d)).map (·.1)).Nodup
    rw [List.map_set]
    have h1 : u ∉ S.map (·.1) := nd2.1
    have h2 : (S.map (·.1)).Nodup := nd2.2
    generalize S.map (·.1) = l at h1 h2
    clear nd nd2
    induction l generalizing i with
    | nil => exact List.nodup_nil
    | cons a l ih =>
      have h3 := List.nodup_cons.mp h2
      cases i with
      | zero => exact List.nodup_cons.mpr ⟨fun m => h1 (List.mem_cons_of_mem _ m), h3.2⟩
      | succ i =>
        refine List.nodup_cons.mpr ⟨fun m => ?_, ih (fun m => h1 (List.mem_cons_of_mem _ m)) h3.2⟩
        rcases List.mem_or_eq_of_mem_set m with h4 | h4
        · exact h3.1 h4
        · have h5 : a = u := h4
          exact h1 (by rw [h5]; exact List.mem_cons_self)
end
section
variable {X : Cx} {ρ : Sl} {S : Store} {E : AEnds} {pos p1 : Pos} {e : Expr} {x y : Str} {k : Nat}
theorem unl2 {N : List Str} {i j : Nat} {p2 p3 : Pos} (n : Names N) (ax : At x i N) (ay : At y j N) (hN : X.N = N) (h : aE X e ρ S fun d S1 => ∃ a b, ResL S1 d [a, b] ∧ E.nx ((ρ.set i (some a)).set j (some b)) S1) (hc : X.calm = true)
    (hx : Loc X.env.scope x := by first | exact Or.inl rfl | exact Or.inr rfl) (hy : Loc X.env.scope y := by first | exact Or.inl rfl | exact Or.inr rfl) (hf : X.fn x = true ∨ X.env.scope.names.lookup x = some .local := by first | exact .inl rfl | exact .inr rfl) (hf2 : X.fn y = true ∨ X.env.scope.names.lookup y = some .local := by first | exact .inl rfl | exact .inr rfl)
    (s1 : (assignEach (.Name x p1 :: [.Name y p2]) X.env).map (·.2) = assign (.Name x p1) X.env :: (assignEach [.Name y p2] X.env).map (·.2) := by rfl) (s2 : (assignEach (.Name y p2 :: []) X.env).map (·.2) = assign (.Name y p2) X.env :: (assignEach [] X.env).map (·.2) := by rfl)
    (hn : (assignEach [.Name x p1, .Name y p2] X.env).length = 2 := by rfl) (hst : (assignEach [.Name x p1, .Name y p2] X.env).findIdx? (·.1) = none := by rfl)
    (hs : swapsWithSole [.Tuple [.Name x p1, .Name y p2] k p3] e pos.line X.env = pure false := by rfl) (hw : swappedStores [.Tuple [.Name x p1, .Name y p2] k p3] e X.env = pure none := by rfl)
    (h1 : (assignEach [.Tuple [.Name x p1, .Name y p2] k p3] X.env).map (·.2) = [assign (.Tuple [.Name x p1, .Name y p2] k p3) X.env] := by rfl) : aS X (.Assign [.Tuple [.Name x p1, .Name y p2] k p3] e pos) ρ S E :=
  aS_unl [i, j] (h.mono fun d S1 ⟨a, b, r, q⟩ => ⟨[a, b], r, rfl, q⟩) (pg_unl hc (pgsN n ax hN (pgsN n ay hN pgsO hy hf2 s2) hx hf s1) hn hst) hs hw h1
end
end DL

/-! Displays of dicts; loops whose state is said by a relation; a pen drawn from. -/
namespace DL
open PySem L2
section
variable {X : Cx} {ρ : Sl} {S : Store} {Q : D → Store → Prop} {E : AEnds} {pos : Pos} {k v : Expr} {ks : List (Option Expr)} {vs : List Expr}
theorem aE_dnew (h : NewD [] S Q) : aE X (.Dict [] [] pos) ρ S Q := fun σ H R s kk => by
  refine w_pe pe_dnewK fun p hp => ?_
  exact h.use s.ok (show RepP X.K _ [] [] from rfl) (Kp.refl _) hp kk
/-- the pairs of a display -/
def aPrs (X : Cx) : List (Option Expr) → List Expr → Sl → Store → (List (Key × D) → Store → Prop) → Prop
  | [], [], _, S, Q => Q [] S
  | some k :: ks, v :: vs, ρ, S, Q => aE X k ρ S fun dk S1 => ∃ kk, dk = kD kk ∧ aE X v ρ S1 fun d S2 => aPrs X ks vs ρ S2 fun r S3 => Q ((kk, d) :: r) S3
  | _, _, _, _, _ => False
theorem aPrs_nil {Q : List (Key × D) → Store → Prop} (q : Q [] S) : aPrs X [] [] ρ S Q := q
theorem aPrs_cons {Q : List (Key × D) → Store → Prop} {z : Str} {j : Nat} {p1 : Pos} (h : aE X v ρ S fun d S2 => aPrs X ks vs ρ S2 fun r S3 => Q ((.inr z, d) :: r) S3) : aPrs X (some (.Constant (.str z) j p1) :: ks) (v :: vs) ρ S Q := aE_str ⟨.inr z, rfl, h⟩
def prs (X : Cx) : List (Option Expr) → List Expr → List (TE × TE)
  | some k :: ks, v :: vs => (wE X k, wE X v) :: prs X ks vs
  | _, _ => []
theorem prs_ok : ∀ {ks : List (Option Expr)} {vs : List Expr}, ks.all (·.isSome) = true → ks.length = vs.length → PPs X pos ks vs (prs X ks vs)
  | [], [], _, _ => pps_nil
  | some k :: ks, v :: vs, h, hl => pps_cons pe_w pe_w (prs_ok (by simpa using h) (Nat.succ.inj hl))
  | none :: _, _, h, _ => by simp at h
  | [], _ :: _, _, hl => by cases hl
  | some _ :: _, [], _, hl => by cases hl
theorem aPrs_use : ∀ {ks : List (Option Expr)} {vs : List Expr} {S : Store} {Q : List (Key × D) → Store → Prop} {σ : St} {H : Hp} {R : List (V × V) → Hp → Prop}, aPrs X ks vs ρ S Q → Sat X.K ρ S σ H →
    (∀ kvs xs H' S', Q kvs S' → KpS S H S' H' → SOk X.K S' H' → RepP X.K (hid (adrs S') H') kvs xs → R (xs.map fun kv => (kV kv.1, kv.2)) H') → tPairs (prs X ks vs) σ H R
  | [], [], S, Q, σ, H, R, h, s, k => k [] [] H S h (Kp.refl _) s.ok rfl
  | some e :: ks, v :: vs, S, Q, σ, H, R, h, s, k => by
    refine (show aE X e ρ S _ from h) σ H _ s fun x H1 dk S1 ⟨kk, ek, q1⟩ k1 o1 r1 => ?_
    subst ek
    refine q1 σ H1 _ (s.next k1 o1) fun y H2 d S2 q2 k2 o2 r2 => ?_
    refine aPrs_use q2 (s.next (k1.trans k2) o2) fun kvs xs H3 S3 q3 k3 o3 r3 => ?_
    rw [kD_rep r1]
    exact k ((kk, d) :: kvs) ((kk, y) :: xs) H3 S3 q3 ((k1.trans k2).trans k3) o3 ⟨y, xs, rfl, r2.kp k3, r3⟩
  | none :: _, _, S, Q, σ, H, R, h, s, k => h.elim
  | [], _ :: _, S, Q, σ, H, R, h, s, k => h.elim
  | some _ :: _, [], S, Q, σ, H, R, h, s, k => h.elim
theorem aE_disp (h : ∀ p, aPrs X ks vs ρ ((p, .dct []) :: S) fun kvs S3 => ∃ i, S3[i]? = some (p, .dct []) ∧ kvs.length ≤ 15 ∧ Q (.adr p) (S3.set i (p, .dct (mergeP [] kvs)))) (hall : ks.all (·.isSome) = true := by rfl) (hl : ks.length = vs.length := by rfl) (h0 : ks ≠ [] := by exact fun z => by cases z) (h15 : ks.length ≤ 15 := by decide) :
    aE X (.Dict ks vs pos) ρ S Q := fun σ H R s kk => by
  refine w_pe (pe_disp (prs_ok hall hl) hall hl h0 h15) fun p hp => ?_
  obtain ⟨o1, k1⟩ := s.ok.birth (o := .dK []) (d := .dct []) hp ⟨[], upd_same, rfl⟩
  refine aPrs_use (h p) (s.next k1 o1) fun kvs xs H3 S3 ⟨i, hi, hn, q⟩ k3 o3 r3 => ?_
  obtain ⟨ys, g, rp⟩ := o3.ok _ (List.mem_of_getElem? hi)
  have ey : ys = [] := rp
  subst ey
  refine ⟨g, xs, rfl, by rw [r3.len]; exact hn, ?_⟩
  obtain ⟨o4, k4⟩ := o3.write (o := .dK (mergeK [] xs)) (d' := .dct (mergeP [] kvs)) hi ⟨_, upd_same, RepP.merge (show RepP X.K _ [] [] from rfl) r3⟩
  exact kk _ _ _ _ q (k1.trans (k3.trans k4)) o4 rfl
/-- an object is forgotten behind an expression -/
theorem aE_drop {e : Expr} (i : Nat) (h : aE X e ρ S fun d S1 => Q d (S1.eraseIdx i)) : aE X e ρ S Q := fun σ H R s k =>
  h σ H R s fun v H' d S1 q k1 o1 r1 => k v H' d _ q (k1.trans hid_erase) o1.freeze (Rep.kp hid_erase _ _ r1)
/-- for .. in l.map f, by a relation -/
theorem frR {T : Tgt} {α : Type} {body : List Stmt} {l : List α} {f : α → D} (st : Nat → Sl → Store → Prop) (h0 : st 0 ρ S) (hs : ∀ i x ρ' S', l[i]? = some x → st i ρ' S' → T.fits (f x) ρ' fun ρ'' => aSs X body ρ'' S' { E with nx := st (i + 1), ct := st (i + 1), bk := E.nx })
    (hd : ∀ ρ' S', st l.length ρ' S' → E.nx ρ' S') :
    ∃ Pv : Nat → Sl → Store → Prop, Pv 0 ρ S ∧ (∀ i d ρ' S', (l.map f)[i]? = some d → Pv i ρ' S' → T.fits d ρ' fun ρ'' => aSs X body ρ'' S' { E with nx := Pv (i + 1), ct := Pv (i + 1), bk := E.nx }) ∧ ∀ ρ' S', Pv (l.map f).length ρ' S' → E.nx ρ' S' := by
  refine ⟨st, h0, ?_, ?_⟩
  · rintro i d ρ' S' hd pv
    rw [List.getElem?_map] at hd
    cases hx : l[i]? with
    | none => rw [hx] at hd; cases hd
    | some x =>
      rw [hx] at hd
      cases hd
      exact hs i x ρ' S' hx pv
  · intro ρ' S' pv
    rw [List.length_map] at pv
    exact hd ρ' S' pv
/-- [elt for .. in l.map f], by a relation -/
theorem lcR {T : Tgt} {elt : Expr} {scope : Scope} {ws : List Nat} {α : Type} {l : List α} {f : α → D} (st : Nat → List D → Store → Prop) (h0 : st 0 [] S) (hs : ∀ i x acc S' A, l[i]? = some x → st i acc S' → T.fits (f x) (wipeD ρ ws) fun ρ' => aEb X scope elt ρ' ((A, .lst acc) :: S') fun z S4 => ∃ S5, S4 = (A, .lst acc) :: S5 ∧ acc.length < 100000 ∧ st (i + 1) (acc ++ [z]) S5)
    (hd : ∀ acc S', st l.length acc S' → NewL acc S' Q) :
    ∃ Pv : Nat → List D → Store → Prop, Pv 0 [] S ∧ LTurn X scope elt [] T ws ρ Pv (l.map f) ∧ ∀ acc S', Pv (l.map f).length acc S' → NewL acc S' Q := by
  refine ⟨st, h0, ?_, ?_⟩
  · rintro A i d acc S' hd pv
    rw [List.getElem?_map] at hd
    cases hx : l[i]? with
    | none => rw [hx] at hd; cases hd
    | some x =>
      rw [hx] at hd
      cases hd
      refine (hs i x acc S' A hx pv).imp fun ρ' q => ?_
      refine ⟨_, rfl, ?_⟩
      rw [if_pos rfl]
      exact q
  · intro acc S' pv
    rw [List.length_map] at pv
    exact hd acc S' pv
end
end DL

/-! Methods with keyword-only parameters, methods with defaults; small data shown. -/
namespace DL
open PySem PySem.Spec PyProof.Rows L2
section
variable {P : Program} {w : World} {K : PySem.W.Frag} {mg : Str → Option Value} {base : Heap}
/-- a method whose keyword-only parameters are all handed in -/
structure MetK (P : Program) (w : World) (K : PySem.W.Frag) (mg : Str → Option Value) (base : Heap) (k : Nat) (C : Addr) (m : Str) (ks : List Str) (sp : ASp) : Prop where
  ex : ∃ (f : Addr) (fd : FuncData) (ps : List Str), Cls K C ∧ Meth K C m f ∧ FnOk P w K mg base CX0 k f fd ps (spA K sp) ∧ KBn K fd ps 1 ks (fun us ws => us ++ ws) (fun us ws => us ++ ws)
/-- a method with defaults -/
structure MetD (P : Program) (w : World) (K : PySem.W.Frag) (mg : Str → Option Value) (base : Heap) (k : Nat) (C : Addr) (m : Str) (sp : ASp) (dvs : List D) : Prop where
  ex : ∃ (dv : List V), C8.Met P w K mg base k C m (spA K sp) dv ∧ ∀ G, RepL K G dvs dv
theorem okD {x qual : Str} {st : Stmt} {f : Addr} {fd : FuncData} {N ps : List Str} {k : Nat} {sp : ASp} {dvs : List V} {kws : List (Str × V)} (b : BodyA P w K mg base N qual st k sp) (F : FunD K x qual (defArgs st) (defBody st) (defScope st) dvs kws f fd) (S : FnScope N ps (defScope st)) (len : ∀ ds S R, sp ds S R → ds.length = ps.length) :
    FnOk P w K mg base CX0 (k + 1) f fd ps (spA K sp) := by
  refine F.ok S (spA_len len) fun cdv A outer s H vs Q E hr ⟨ds, S0, R, r, o, q, kk⟩ => ⟨_, (pss_w (X := cxB P w K mg base N qual st f cdv A outer s H E)).nox, ?_⟩
  exact b f cdv A outer s H E hr ds S0 R q (L2.start N vs) H { nx := fun _ H' => Q .non H', rt := Q } ⟨start_rep r, o⟩ ⟨fun σ' H' ρ' S' q' k' s' => kk .non H' .non S' q' k' s'.ok rfl, kk, fun _ _ _ _ q' => q'.elim, fun _ _ _ _ q' => q'.elim⟩
/-- m(self, *, z = d): called with z = e | without -/
theorem metK1 {m qual z : Str} {C : Addr} {st : Stmt} {f : Addr} {fd : FuncData} {N ps : List Str} {k : Nat} {sp : ASp} {dv : V} (b : BodyA P w K mg base N qual st k sp) (F : FunD K m qual (defArgs st) (defBody st) (defScope st) [] [(z, dv)] f fd) (c : Cls K C) (me : Meth K C m f) (S : FnScope N ps (defScope st)) (len : ∀ ds S R, sp ds S R → ds.length = ps.length)
    (h : ∀ (body : List Stmt) (scope : Scope) (kV doc pm : Value) (an : Option Addr) (cdv ct u v : Value), bindArgs (PySem.W.fnOf m qual (defArgs st) body scope .none kV doc pm an cdv ct) ⟨[u], [(z, v)]⟩ = pure (ps.zip [u, v])) : MetK P w K mg base (k + 1) C m [z] sp := by
  refine ⟨f, fd, ps, c, me, okD b F S len, ⟨fun s us ws _ h1 h2 => ?_, fun r1 r2 => r1.append r2⟩⟩
  obtain ⟨oc, od, dV, kV, doc, pm, an, cdv, ct, osl, rfl, lk, hcd, hD, hK⟩ := F.ex
  rcases hD with ⟨_, rfl⟩ | ⟨e, _⟩
  · match us, h1, ws, h2 with
    | [u], _, [v], _ => exact .of_eq (h _ _ kV doc pm an cdv ct u v)
  · exact absurd rfl e
theorem metD1 {m qual z : Str} {C : Addr} {st : Stmt} {f : Addr} {fd : FuncData} {N ps : List Str} {k : Nat} {sp : ASp} {dv : V} {d : D} (b : BodyA P w K mg base N qual st k sp) (F : FunD K m qual (defArgs st) (defBody st) (defScope st) [] [(z, dv)] f fd) (c : Cls K C) (me : Meth K C m f) (S : FnScope N ps (defScope st)) (len : ∀ ds S R, sp ds S R → ds.length = ps.length) (hd : ∀ G, Rep K G d dv) (hl : ps.length = 2)
    (h : ∀ (body : List Stmt) (scope : Scope) (D : Addr) (doc pm : Value) (an : Option Addr) (cdv ct u v : Value), KwChain D [(z, v)] (bindArgs (PySem.W.fnOf m qual (defArgs st) body scope .none (.ref D) doc pm an cdv ct) ⟨[u], []⟩) (ps.zip [u, v])) : MetD P w K mg base (k + 1) C m sp [d] := by
  obtain ⟨ds, v, bi⟩ := F.binds0 (ps := ps) 1 (by simp) (by simp [hl]) fun D doc pm an cdv ct us ks h1 h2 => match us, h1, ks, h2 with | [u], _, [v], _ => h _ _ D doc pm an cdv ct u v
  exact ⟨_, ⟨f, fd, ps, ds, c, me, okD b F S len, bi, v⟩, fun G => ⟨dv, [], rfl, hd G, rfl⟩⟩
end
section
variable {X : Cx} {ρ : Sl} {S : Store} {Q : D → Store → Prop} {pos apos kpos : Pos} {e o ke : Expr} {es : List Expr} {k j : Nat} {m z : Str} {C : Addr} {sp : ASp} {dvs : List D} {nm : Option Str}
theorem pe_mtK {pl : Sem Bool} {ks : List Str} {kws : List Keyword} {ta : TE} {tk : TA} (c : MetK X.prog X.w X.K X.mg X.base k C m ks sp) (hr : Room k X.A) (he : PE X o ta) (hkw : PK X kws tk)
    (hall : (backToKw pos (keywordEach kws X.env)).all (·.1.isSome) = true) (hks : (backToKw pos (keywordEach kws X.env)).filterMap (·.1) = ks)
    (hpl : ((backTo pos (starEach [] X.env)).any (·.1) || (backToKw pos (keywordEach kws X.env)).any (·.1.isNone)) = false)
    (ht : eval (.Call (.Attribute o m apos) [] kws pos) X.env = (do
      let ov ← eval o X.env
      standAt apos.atName
      let (f, first) ← holding [ov] (getMethod ov m pl)
      callWith pos f first (backTo pos (starEach [] X.env)) (backToKw pos (keywordEach kws X.env)))) :
    PE X (.Call (.Attribute o m apos) [] kws pos) (fun σ H Q => ta σ H fun x H1 => ∃ a dx fs, x = .ref a ∧ H1 a = some (.ins C dx fs) ∧ fs.lookup m = none ∧ tk σ H1 fun zs H2 => zs.length = ks.length ∧ spA X.K sp (x :: zs) H2 Q E0) := by
  obtain ⟨f, fd, ps, hc, hm, F, b⟩ := c.ex
  refine ⟨fun pins s σ H Q I h => ?_⟩
  refine PySem.W.methodCall_KW (pl := pl) (thn (he.run pins s σ H _ I h) fun u s1 ⟨x, H1, I1, rx, a, dx, fs, ex, ea, l, q⟩ => ?_) ht
  subst ex
  obtain rfl : u = Value.ref a := rx
  refine getmeth_ok I1 ea hc hm l ?_
  refine PySem.W.callWith_KW0 (first := [.ref a]) (h₀ := X.base) I.ok.mod.kin hm.kp hall ?_ hpl
  refine thn (hkw.run pos pins s1 σ H1 _ I1 q) fun ws s2 ⟨zs, H2, I2, rz, l2, q2⟩ => ⟨I2.kIn, ?_⟩
  rw [hks]
  exact run_fnN (us := [.ref a]) (vs := [.ref a]) F hr b pass0 I2 (.cons rfl .nil) rz rfl l2 q2
/-- o.m(z = e) -/
theorem aE_methK {pl : Sem Bool} (c : MetK X.prog X.w X.K X.mg X.base k C m [z] sp) (hr : Room j X.A) (h : aE X o ρ S fun t S1 => ∃ l, ResI S1 t C l ∧ l.lookup m = none ∧ aE X ke ρ S1 fun d S2 => sp [t, d] S2 Q) (hk : k ≤ j := by decide)
    (hall : (backToKw pos (keywordEach [⟨nm, ke, kpos⟩] X.env)).all (·.1.isSome) = true := by rfl) (hks : (backToKw pos (keywordEach [⟨nm, ke, kpos⟩] X.env)).filterMap (·.1) = [z] := by rfl)
    (hpl : ((backTo pos (starEach [] X.env)).any (·.1) || (backToKw pos (keywordEach [⟨nm, ke, kpos⟩] X.env)).any (·.1.isNone)) = false := by rfl)
    (ht : eval (.Call (.Attribute o m apos) [] [⟨nm, ke, kpos⟩] pos) X.env = (do
      let ov ← eval o X.env
      standAt apos.atName
      let (f, first) ← holding [ov] (getMethod ov m pl)
      callWith pos f first (backTo pos (starEach [] X.env)) (backToKw pos (keywordEach [⟨nm, ke, kpos⟩] X.env))) := by rfl) :
    aE X (.Call (.Attribute o m apos) [] [⟨nm, ke, kpos⟩] pos) ρ S Q := fun σ H R s kk => by
  refine w_pe (pe_mtK (pl := pl) c (hr.mono hk) pe_w (pk_cons pe_w pk_nil) hall hks hpl ht) ?_
  refine h σ H _ s fun v H1 t S1 ⟨l, ri, ln, q1⟩ k1 o1 r1 => ?_
  obtain ⟨a, dx, fs, ev, g, pf⟩ := ri.use o1 r1
  refine ⟨a, dx, fs, ev, g, (pf.val m).1 ln, ?_⟩
  refine q1 σ H1 _ (s.next k1 o1) fun v2 H2 d S2 q2 k2 o2 r2 => ?_
  exact ⟨rfl, [t, d], S2, Q, ⟨v, [v2], rfl, r1.kp k2, RepL.one r2⟩, o2, q2, fun v H' d S' q k3 o3 r3 => kk v H' d S' q ((k1.trans k2).trans k3) o3 r3⟩
/-- o.m(), defaults fill up -/
theorem aE_methD0 {pl : Sem Bool} (c : MetD X.prog X.w X.K X.mg X.base k C m sp dvs) (hr : Room j X.A) (h : aE X o ρ S fun t S1 => ∃ l, ResI S1 t C l ∧ l.lookup m = none ∧ sp (t :: dvs) S1 Q) (hk : k ≤ j := by decide)
    (ht : eval (.Call (.Attribute o m apos) [] [] pos) X.env = (do
      let ov ← eval o X.env
      standAt apos.atName
      let (f, first) ← holding [ov] (getMethod ov m pl)
      callWith pos f first (backTo pos (starEach [] X.env)) (backToKw pos (keywordEach [] X.env))) := by rfl) :
    aE X (.Call (.Attribute o m apos) [] [] pos) ρ S Q := fun σ H R s kk => by
  obtain ⟨dv, cm, rd⟩ := c.ex
  refine w_pe (C8.pe_mt0 (pl := pl) cm hr hk pe_w ht) ?_
  refine h σ H _ s fun v H1 t S1 ⟨l, ri, ln, q1⟩ k1 o1 r1 => ?_
  obtain ⟨a, dx, fs, ev, g, pf⟩ := ri.use o1 r1
  refine ⟨a, dx, fs, ev, g, (pf.val m).1 ln, ?_⟩
  exact ⟨t :: dvs, S1, Q, ⟨v, dv, by rw [List.nil_append], r1, rd _⟩, o1, q1, fun v H' d S' q k3 o3 r3 => kk v H' d S' q (k1.trans k3) o3 r3⟩
end
section
variable {X : Cx} {ρ : Sl} {S : Store} {Q : D → Store → Prop} {pos : Pos} {a b c : Expr}
/-- a <= b <= c of whole numbers -/
theorem aE_chainLe (h : aE X a ρ S fun d1 S1 => aE X b ρ S1 fun d2 S2 => ∃ i j, d1 = .int i ∧ d2 = .int j ∧ if decide (i ≤ j) = true then aE X c ρ S2 (fun d3 S3 => ∃ l, d3 = .int l ∧ Q (.bl (decide (j ≤ l))) S3) else Q (.bl false) S2)
    (hm : lastMarks [.LtE, .LtE] [b, c] = false := by with_unfolding_all rfl) : aE X (.Compare a [.LtE, .LtE] [b, c] pos) ρ S Q := fun σ H R s k => by
  refine w_pe (pe_chain op_le op_le pe_w pe_w pe_w hm) ?_
  refine h σ H _ s fun x H1 d1 S1 q1 k1 o1 r1 => ?_
  refine q1 σ H1 _ (s.next k1 o1) fun y H2 d2 S2 ⟨i, j, e1, e2, q2⟩ k2 o2 r2 => ?_
  subst e1; subst e2
  refine ⟨i, j, r1, r2, decide (i ≤ j), rfl, ?_⟩
  by_cases hij : i ≤ j
  · rw [decide_eq_true hij] at q2 ⊢
    refine (show aE X c ρ S2 _ from q2) σ H2 _ (s.next (k1.trans k2) o2) fun z H3 d3 S3 ⟨l, e3, q3⟩ k3 o3 r3 => ?_
    subst e3
    exact ⟨j, l, r2, r3, k _ _ _ _ q3 ((k1.trans k2).trans k3) o3 rfl⟩
  · rw [decide_eq_false hij] at q2 ⊢
    exact k _ _ _ _ q2 (k1.trans k2) o2 rfl
end
end DL

namespace W85
open PySem L2 DL
/-- what of the module's names stands -/
structure Nm (mg : Str → Option Value) : Prop where
  len : mg "len" = none
  abs : mg "abs" = none
  list : mg "list" = none
  range : mg "range" = none
  sorted : mg "sorted" = none
  sum : mg "sum" = none
  min : mg "min" = none
  max : mg "max" = none
  int : mg "int" = none
  tuple : mg "tuple" = none
  dict : mg "dict" = none
  zip : mg "zip" = none
  repr : mg "repr" = none
  isinstance : mg "isinstance" = none
  str : mg "str" = none
  all : mg "all" = none
local macro_rules
  | `(tactic| walk_at "n") => `(tactic| repeat (first | with_reducible exact At.z | with_reducible apply At.s))
  | `(tactic| walk_at "x") => `(tactic| first
    | ((with_reducible show aSs _ (_ :: _) _ _ _); refine aSs_cons ?_)
    | ((with_reducible show aSs _ [] _ _ _); refine aSs_nil ?_)
    | ((with_reducible show aSs _ _ _ _ _); refine aSs_cons ?_)
    | ((with_reducible show aS _ (.If _ _ _ _) _ _ _); refine aS_if ?_)
    | ((with_reducible show aS _ (.Assign [.Name _ _] _ _) _ _ _); refine aS_s (by assumption) (by walk_at "n") (by rfl) ?_)
    | ((with_reducible show aS _ (.Assign [.Tuple [.Name _ _, .Name _ _] _ _] (.Tuple [_, _] _ _) _) _ _ _); refine aS_p2 (by assumption) (by walk_at "n") (by walk_at "n") (by decide) (by rfl) (by rfl) ?_)
    | ((with_reducible show aS _ (.Assign [.Tuple [.Name _ _, .Name _ _, .Name _ _] _ _] (.Tuple [_, _, _] _ _) _) _ _ _); refine aS_p3 (by assumption) (by walk_at "n") (by walk_at "n") (by walk_at "n") (by decide) (by decide) (by decide) (by rfl) (by rfl) ?_)
    | ((with_reducible show aS _ (.Assign [.Subscript _ _ _] _ _) _ _ _); refine aS_put (Un.h (by assumption)) ?_)
    | ((with_reducible show aS _ (.Return (some _) _) _ _ _); refine aS_ret ?_)
    | ((with_reducible show aS _ (.Expr _ _) _ _ _); refine aS_expr ?_)
    | ((with_reducible show aT _ (.Compare _ [.Gt] [_] _) _ _ _); refine aT_gt ?_)
    | ((with_reducible show aT _ (.Compare _ [.Lt] [_] _) _ _ _); refine aT_lt ?_)
    | ((with_reducible show aT _ (.Compare _ [.GtE] [_] _) _ _ _); refine aT_ge ?_)
    | ((with_reducible show aT _ (.Compare _ [.LtE] [_] _) _ _ _); refine aT_le ?_)
    | ((with_reducible show aT _ (.Compare _ [.Eq] [_] _) _ _ _); refine aT_eq (Un.h (by assumption)) ?_)
    | ((with_reducible show aT _ (.Compare _ [.NotEq] [_] _) _ _ _); refine aT_ne (Un.h (by assumption)) ?_)
    | ((with_reducible show aT _ (.Compare _ [.In] [_] _) _ _ _); refine aT_in (Un.h (by assumption)) ?_)
    | ((with_reducible show aT _ (.Compare _ [.NotIn] [_] _) _ _ _); refine aT_notIn (Un.h (by assumption)) ?_)
    | ((with_reducible show aT _ (.Compare _ [.Is] [_] _) _ _ _); refine aT_isN ?_)
    | ((with_reducible show aT _ (.Compare _ [.IsNot] [_] _) _ _ _); refine aT_notN ?_)
    | ((with_reducible show aT _ (.UnaryOp .Not _ _) _ _ _); refine aT_not ?_)
    | ((with_reducible show aT _ (.BoolOp _ _ _) _ _ _); refine aT_W ?_)
    | ((with_reducible show aW _ (.BoolOp .And (_ :: _ :: _) _) _ _ _); refine aW_and ?_)
    | ((with_reducible show aW _ (.BoolOp .Or (_ :: _ :: _) _) _ _ _); refine aW_or ?_)
    | ((with_reducible show aW _ (.BoolOp .And [_] _) _ _ _); refine aW_and1 ?_)
    | ((with_reducible show aW _ (.BoolOp .Or [_] _) _ _ _); refine aW_or1 ?_)
    | ((with_reducible show aA _ (_ :: _) _ _ _); refine aA_cons ?_)
    | ((with_reducible show aA _ [] _ _ _); refine aA_nil ?_)
    | ((with_reducible show aO _ none _ _ _); refine aO_none ?_)
    | ((with_reducible show aO _ (some _) _ _ _); refine aO_some ?_)
    | ((with_reducible show aE _ (.Name _ _) _ _ _); refine aE_v (by assumption) (by walk_at "n") (by rfl) (by rfl) ?_)
    | ((with_reducible show aE _ (.Constant (.str _) _ _) _ _ _); refine aE_str ?_)
    | ((with_reducible show aE _ (.Constant (.int _) _ _) _ _ _); refine aE_int ?_)
    | ((with_reducible show aE _ (.Constant (.bool _) _ _) _ _ _); refine aE_bl ?_)
    | ((with_reducible show aE _ (.Constant .none _ _) _ _ _); refine aE_non ?_)
    | ((with_reducible show aE _ (.BinOp _ .Add _ _) _ _ _); refine aE_add ?_)
    | ((with_reducible show aE _ (.BinOp _ .Sub _ _) _ _ _); refine aE_sub ?_)
    | ((with_reducible show aE _ (.BinOp _ .Mult _ _) _ _ _); refine aE_mul ?_)
    | ((with_reducible show aE _ (.BinOp _ .Mod _ _) _ _ _); refine aE_mod ?_)
    | ((with_reducible show aE _ (.BinOp _ .FloorDiv _ _) _ _ _); refine aE_fdiv ?_)
    | ((with_reducible show aE _ (.BinOp _ .Pow _ _) _ _ _); refine aE_pow ?_)
    | ((with_reducible show aE _ (.Subscript _ (.Slice _ _ none _) _) _ _ _); refine aE_slice ?_)
    | ((with_reducible show aE _ (.Subscript _ _ _) _ _ _); refine aE_sub_ (Un.h (by assumption)) ?_)
    | ((with_reducible show aE _ (.Tuple _ _ _) _ _ _); refine aE_tup ?_)
    | ((with_reducible show aE _ (.List _ _) _ _ _); refine aE_lst ?_)
    | ((with_reducible show aE _ (.IfExp _ _ _ _) _ _ _); refine aE_if ?_)
    | ((with_reducible show aE _ (.Compare _ [.Lt] [_] _) _ _ _); refine aE_lt ?_)
    | ((with_reducible show aE _ (.Compare _ [.LtE] [_] _) _ _ _); refine aE_le ?_)
    | ((with_reducible show aE _ (.Compare _ [.Gt] [_] _) _ _ _); refine aE_gt ?_)
    | ((with_reducible show aE _ (.BoolOp .And (_ :: _ :: _) _) _ _ _); refine aE_and ?_)
    | ((with_reducible show aE _ (.BoolOp .Or (_ :: _ :: _) _) _ _ _); refine aE_or ?_)
    | ((with_reducible show aE _ (.BoolOp _ [_] _) _ _ _); refine aE_one ?_)
    | ((with_reducible show aE _ (.Call (.Name (Str.ofString "len") _) [_] [] _) _ _ _); refine aE_len (Nm.len (by assumption)) ?_)
    | ((with_reducible show aE _ (.Call (.Name (Str.ofString "abs") _) [_] [] _) _ _ _); refine aE_abs (Nm.abs (by assumption)) ?_)
    | ((with_reducible show aE _ (.Call (.Name (Str.ofString "min") _) [_, _] [] _) _ _ _); refine aE_min2 (by rfl) (Nm.min (by assumption)) ?_)
    | ((with_reducible show aE _ (.Call (.Name (Str.ofString "max") _) [_, _] [] _) _ _ _); refine aE_max2 (by rfl) (Nm.max (by assumption)) ?_)
    | ((with_reducible show aE _ (.Call (.Name (Str.ofString "sorted") _) [_] [] _) _ _ _); refine aE_sorted (by rfl) (Nm.sorted (by assumption)) ?_)
    | ((with_reducible show aE _ (.Call (.Name (Str.ofString "list") _) [_] [] _) _ _ _); refine aE_list (by rfl) (Nm.list (by assumption)) ?_)
    | ((with_reducible show aE _ (.Call (.Name (Str.ofString "sum") _) [_] [] _) _ _ _); refine aE_sum (by rfl) (Nm.sum (by assumption)) ?_)
    | ((with_reducible show aE _ (.Call (.Name (Str.ofString "dict") _) [_] [] _) _ _ _); refine aE_dict (by rfl) (Nm.dict (by assumption)) ?_)
    | ((with_reducible show aE _ (.Call (.Name (Str.ofString "all") _) [_] [] _) _ _ _); refine aE_all (by rfl) (Nm.all (by assumption)) ?_)
    | ((with_reducible show aE _ (.Call (.Name (Str.ofString "int") _) [_] [] _) _ _ _); refine aE_intb (Nm.int (by assumption)) ?_)
    | ((with_reducible show aE _ (.Call (.Name (Str.ofString "tuple") _) [_] [] _) _ _ _); refine aE_tuple (Nm.tuple (by assumption)) ?_)
    | ((with_reducible show aE _ (.Call (.Attribute _ (Str.ofString "append") _) [_] [] _) _ _ _); refine aE_append ?_))
  | `(tactic| walk_at "w") => `(tactic| repeat walk_at "x")
def top (i : Nat) : Stmt := PySem.Challenge.pw_weighdoors_k83_what_a_book_tells.main.body.getD i (.Pass ⟨0, 0, 0, 0⟩)
abbrev sDraw : Stmt := top 48
abbrev nDraw : List Str := ["pen", "many", "digit", "turn", "cell", "primes", "prime", "drawn"]
theorem scDraw : FnScope nDraw ["pen", "many"] (defScope sDraw) := ⟨rfl, rfl, rfl, by decide +kernel, rfl, by decide +kernel, by decide +kernel⟩
/-! the pen's keys -/
theorem ne_str {a b : Str} (h : (a == b) = false) : a ≠ b := fun e => by subst e; rw [beq_self_eq_true] at h; cases h
theorem key_ne {a b : Str} (h : decide (a = b) = false) : ((Sum.inr a : Key) = .inr b) = False := by
  rw [decide_eq_false_iff_not] at h
  exact eq_false fun e => h (Sum.inr.inj e)
theorem valK {α : Type} {l : List (Key × α)} {a b : Str} {v : α} (h : decide (a = b) = false) : valP ((Sum.inr a, v) :: l) (.inr b) = valP l (.inr b) := by
  rw [valP_cons, if_neg (by rw [key_ne h]; exact id)]
theorem valH {α : Type} {l : List (Key × α)} {a : Str} {v : α} : valP ((Sum.inr a, v) :: l) (.inr a) = some v := by rw [valP_cons, if_pos rfl]
abbrev penL (ns : List Int) (t r : Int) : List (Key × D) := [(.inr "cells", .lst (ns.map D.int)), (.inr "turn", .int t), (.inr "rest", .int r)]
theorem pen_cells {ns : List Int} {t r : Int} : valP (penL ns t r) (.inr "cells") = some (.lst (ns.map D.int)) := valH
theorem pen_turn {ns : List Int} {t r : Int} : valP (penL ns t r) (.inr "turn") = some (.int t) := (valK (by decide +kernel)).trans valH
theorem pen_rest {ns : List Int} {t r : Int} : valP (penL ns t r) (.inr "rest") = some (.int r) := (valK (by decide +kernel)).trans ((valK (by decide +kernel)).trans valH)
theorem put_ne {l : List (Key × D)} {a b : Str} {v w : D} (h : decide (a = b) = false) : putP ((Sum.inr a, v) :: l) (.inr b) w = (Sum.inr a, v) :: putP l (.inr b) w := by
  unfold putP
  have e : ¬ (Sum.inr a : Key) = .inr b := by rw [key_ne h]; exact id
  rw [List.any_cons, decide_eq_false e, Bool.false_or]
  split
  · rw [List.map_cons, if_neg e]
  · rfl
theorem put_hd {l : List (Key × D)} {a : Str} {v w : D} (h : l.any (fun kv => decide (kv.1 = Sum.inr a)) = false) : putP ((Sum.inr a, v) :: l) (.inr a) w = (Sum.inr a, w) :: l := by
  unfold putP
  rw [List.any_cons, decide_eq_true rfl, Bool.true_or, if_pos rfl, List.map_cons, if_pos rfl]
  congr 1
  conv => rhs; rw [← List.map_id l]
  refine List.map_congr_left fun kv hk => ?_
  have := List.any_eq_false.mp h kv hk
  rw [if_neg (by simpa using this)]
  rfl
theorem pen_putT {ns : List Int} {t r t' : Int} : putP (penL ns t r) (.inr "turn") (.int t') = penL ns t' r := by
  rw [put_ne (by decide +kernel), put_hd (by simp only [List.any_cons, List.any_nil, key_ne (show decide (("rest" : Str) = "turn") = false by decide +kernel)]; rfl)]
theorem pen_putR {ns : List Int} {t r r' : Int} : putP (penL ns t r) (.inr "rest") (.int r') = penL ns t r' := by
  rw [put_ne (by decide +kernel), put_ne (by decide +kernel), put_hd rfl]
theorem set_get {S : Store} {i : Nat} {x y : Addr × D} (h : S[i]? = some x) : (S.set i y)[i]? = some y := by
  rw [List.getElem?_set_self (List.getElem?_eq_some_iff.mp h).1]
def spDraw : ASp := fun ds S R => ∃ (i : Nat) (p : Addr) (n : Nat) (m : Int), ds = [.adr p, .int m] ∧ S[i]? = some (p, .pen n) ∧ 0 < m ∧ m < 1000000 ∧ n < 2 ^ 60 ∧ ∀ k : Int, 0 ≤ k → k < m → R (.int k) (S.set i (p, .pen (n + 1)))
section
variable {P : Program} {w : World} {K : PySem.W.Frag} {mg : Str → Option Value} {base : Heap}
theorem bDraw (M : Nm mg) : BodyA P w K mg base nDraw "_law_draw" sDraw 1 spDraw := by
  intro f cdv A outer s H E hr ds S R ⟨i, p, n, m, eds, hi, hm0, hm1, hn, hR⟩
  subst eds
  have hu : Un _ := ⟨hr.units⟩
  refine aSs_pen hi fun ns t r hns ht0 ht1 => ?_
  have g : ∀ {t r : Int}, (S.set i (p, penD ns t r))[i]? = some (p, .dct (penL ns t r)) := set_get hi
  have hset : ∀ {x y : Addr × D}, (S.set i x).set i y = S.set i y := by intro x y; exact List.set_set ..
  have rest : ∀ {t r : Int} {Q : D → Store → Prop}, Q (.int r) (S.set i (p, penD ns t r)) → aIx (.adr p) (.str "rest") (S.set i (p, penD ns t r)) Q := fun q => .inr (.inr (.inr ⟨_, .inr "rest", _, .inr ⟨i, p, rfl, g⟩, rfl, pen_rest, q⟩))
  have turn : ∀ {t r : Int} {Q : D → Store → Prop}, Q (.int t) (S.set i (p, penD ns t r)) → aIx (.adr p) (.str "turn") (S.set i (p, penD ns t r)) Q := fun q => .inr (.inr (.inr ⟨_, .inr "turn", _, .inr ⟨i, p, rfl, g⟩, rfl, pen_turn, q⟩))
  have cells : ∀ {t r : Int} {Q : D → Store → Prop}, Q (.lst (ns.map D.int)) (S.set i (p, penD ns t r)) → aIx (.adr p) (.str "cells") (S.set i (p, penD ns t r)) Q := fun q => .inr (.inr (.inr ⟨_, .inr "cells", _, .inr ⟨i, p, rfl, g⟩, rfl, pen_cells, q⟩))
  have putR : ∀ {t r r' : Int} {Q : Store → Prop}, Q (S.set i (p, penD ns t r')) → aPut (.adr p) (.str "rest") (.int r') (S.set i (p, penD ns t r)) Q := fun q => .inl ⟨i, p, _, .inr "rest", rfl, g, rfl, by show 3 < 100000; decide, by rw [hset, pen_putR]; exact q⟩
  have putT : ∀ {t r t' : Int} {Q : Store → Prop}, Q (S.set i (p, penD ns t' r)) → aPut (.adr p) (.str "turn") (.int t') (S.set i (p, penD ns t r)) Q := fun q => .inl ⟨i, p, _, .inr "turn", rfl, g, rfl, by show 3 < 100000; decide, by rw [hset, pen_putT]; exact q⟩
  have fin : ∀ {t r k : Int}, 0 ≤ t → t ≤ (n : Int) + 1 → 0 ≤ k → k < m → ∃ (i' : Nat) (p' : Addr) (n' : Nat), ((∃ ns' t' r', (S.set i (p, penD ns t r))[i']? = some (p', penD ns' t' r') ∧ ns'.length ≤ 63 ∧ 0 ≤ t' ∧ t' ≤ (n' : Int)) ∨ ∃ m' : Nat, (S.set i (p, penD ns t r))[i']? = some (p', .pen m') ∧ m' ≤ n') ∧ R (.int k) ((S.set i (p, penD ns t r)).set i' (p', .pen n')) :=
    fun h1 h2 h3 h4 => ⟨i, p, n + 1, .inl ⟨ns, _, _, set_get hi, hns, h1, by push_cast; exact h2⟩, by rw [hset]; exact hR _ h3 h4⟩
  have nd : Names nDraw := ⟨scDraw.nd⟩
  have lenN := M.len
  have absN := M.abs
  walk_at "w"
  refine rest ?_
  walk_at "w"
  refine oGt (iteD (fun h => ?_) fun _ => ?_)
  · walk_at "w"
    refine rest ?_
    walk_at "w"
    refine oMod hm0 ?_
    walk_at "w"
    refine rest ?_
    walk_at "w"
    refine oFdiv ⟨hm0, by omega⟩ ?_
    walk_at "w"
    refine putR ?_
    refine aSs_one (aS_ret (aE_pen ?_))
    walk_at "w"
    exact fin ht0 (by omega) (Int.emod_nonneg _ (by omega)) (Int.emod_lt_of_pos _ hm0)
  walk_at "w"
  refine turn ?_
  walk_at "w"
  refine oAdd ?_
  walk_at "w"
  refine putT ?_
  walk_at "w"
  refine oMul (.inl ⟨by decide, by decide⟩) ?_
  walk_at "w"
  refine oAdd ?_
  have ht2 : (0 : Int) ≤ t + 1 := by omega
  have ht3 : t + 1 ≤ (n : Int) + 1 := by omega
  have ht4 : t < 2 ^ 64 := by omega
  have rest2 : ∀ (cell : Int), aSs (cxB P w K mg base nDraw "_law_draw" sDraw f cdv A outer s H E) ((defBody sDraw).drop 5) [some (.adr p), some (.int m), none, some (.int t), some (.int cell), none, none, none] (S.set i (p, penD ns (t + 1) r)) { nx := fun _ S' => R .non S', rt := R } := fun cell => by
    have tail : ∀ {r' : Int}, aSs (cxB P w K mg base nDraw "_law_draw" sDraw f cdv A outer s H E) ((defBody sDraw).drop 6) [some (.adr p), some (.int m), none, some (.int t), some (.int cell), none, none, none] (S.set i (p, penD ns (t + 1) r')) { nx := fun _ S' => R .non S', rt := R } := fun {r'} => by
      walk_at "w"
      refine ⟨by decide, .inl ?_⟩
      walk_at "w"
      refine oMod (by decide) ?_
      have h5 := Int.emod_nonneg t (show (5 : Int) ≠ 0 by decide)
      have h6 := Int.emod_lt_of_pos t (show (0 : Int) < 5 by decide)
      have pr : ∀ k : Int, 0 ≤ k → k < 5 → ∃ q : Int, atI [D.int 2147483647, .int 2147483629, .int 2147483587, .int 2147483579, .int 2147483563] k = some (.int q) ∧ 0 < q ∧ q < 2147483648 := fun k h1 h2 => by
        have : k = 0 ∨ k = 1 ∨ k = 2 ∨ k = 3 ∨ k = 4 := by omega
        rcases this with e | e | e | e | e <;> subst e <;> exact ⟨_, rfl, by decide, by decide⟩
      obtain ⟨q, e1, q0, q1⟩ := pr _ h5 h6
      refine oIxL rL e1 ?_
      walk_at "w"
      refine oMod q0 ?_
      have c0 := Int.emod_nonneg cell (show q ≠ 0 by omega)
      have c1 := Int.emod_lt_of_pos cell q0
      walk_at "w"
      refine oMul (.inl ⟨by omega, by omega⟩) ?_
      walk_at "w"
      refine oMul (.inl ⟨by decide, by decide⟩) ?_
      walk_at "w"
      refine oMul (.inr ⟨by omega, by omega⟩) ?_
      walk_at "w"
      refine oAdd ?_
      walk_at "w"
      refine oAdd ?_
      walk_at "w"
      refine oMod q0 ?_
      generalize hd : (cell % q * 69621 + 40692 * t * t + 11) % q = dr
      have d0 : 0 ≤ dr := by rw [← hd]; exact Int.emod_nonneg _ (by omega)
      have d1 : dr < q := by rw [← hd]; exact Int.emod_lt_of_pos _ q0
      walk_at "w"
      refine oAdd ?_
      refine oMul (.inl ⟨by omega, by omega⟩) ?_
      walk_at "w"
      refine oAdd ?_
      walk_at "w"
      refine oMod (by decide) ?_
      obtain ⟨q', e2, q2, q3⟩ := pr _ (Int.emod_nonneg (t + 3) (show (5 : Int) ≠ 0 by decide)) (Int.emod_lt_of_pos (t + 3) (show (0 : Int) < 5 by decide))
      refine oIxL rL e2 (oMod q2 ?_)
      generalize hd2 : dr * (dr + 48271) % q' = dr2
      have d2 : 0 ≤ dr2 := by rw [← hd2]; exact Int.emod_nonneg _ (by omega)
      have d3 : dr2 < q' := by rw [← hd2]; exact Int.emod_lt_of_pos _ q2
      refine aSs_one (aS_ret (aE_pen ?_))
      walk_at "w"
      refine oMul (.inl ⟨by omega, by omega⟩) ?_
      walk_at "w"
      refine oMod (by decide) ?_
      walk_at "w"
      have d4 := Int.emod_nonneg (dr2 * dr2) (show (2147483549 : Int) ≠ 0 by decide)
      have d5 := Int.emod_lt_of_pos (dr2 * dr2) (show (0 : Int) < 2147483549 by decide)
      refine oFdiv ⟨by decide, by omega⟩ ?_
      walk_at "w"
      refine oMod hm0 ?_
      exact fin ht2 ht3 (Int.emod_nonneg _ (by omega)) (Int.emod_lt_of_pos _ hm0)
    walk_at "w"
    refine cells ⟨_, .inr (.inl ⟨_, qL, rfl⟩), ?_⟩
    refine oLt (iteD (fun _ => ?_) fun _ => ?_)
    · walk_at "w"
      refine ⟨_, rfl, ?_⟩
      walk_at "w"
      refine oPow ⟨by decide, by decide, by decide⟩ (oGe (iteD (fun h => ?_) fun _ => ?_))
      · generalize hc : (if cell < 0 then -cell else cell) = ac at h
        walk_at "w"
        refine ⟨_, rfl, ?_⟩
        rw [hc]
        walk_at "w"
        refine oPow ⟨by decide, by decide, by decide⟩ (oSub ?_)
        walk_at "w"
        refine oFdiv ⟨hm0, by omega⟩ ?_
        walk_at "w"
        refine putR ?_
        refine aSs_one (aS_ret (aE_pen ?_))
        walk_at "w"
        refine ⟨_, rfl, ?_⟩
        rw [hc]
        walk_at "w"
        refine oPow ⟨by decide, by decide, by decide⟩ (oSub ?_)
        walk_at "w"
        refine oMod hm0 ?_
        exact fin ht2 ht3 (Int.emod_nonneg _ (by omega)) (Int.emod_lt_of_pos _ hm0)
      · refine aSs_nil ?_
        exact tail
    · refine aSs_nil ?_
      exact tail
  walk_at "w"
  refine cells ?_
  walk_at "w"
  refine ⟨by decide, .inl (oNe0 rL (iteN (fun h => ?_) fun _ => aSs_nil (rest2 _)))⟩
  walk_at "w"
  refine cells ?_
  rw [List.length_map] at h
  have hl : ns.length ≠ 0 := h
  have h1 := Int.emod_nonneg t (show (ns.length : Int) ≠ 0 by omega)
  have h2 := Int.emod_lt_of_pos t (show (0 : Int) < ns.length by omega)
  have hlt : (t % (ns.length : Int)).toNat < ns.length := by omega
  walk_at "w"
  refine cells ⟨_, .inr (.inl ⟨_, qL, rfl⟩), oMod (by rw [List.length_map]; omega) ?_⟩
  rw [List.length_map]
  refine oIxL (z := .int ns[(t % (ns.length : Int)).toNat]) rL (atI_get (n := (t % (ns.length : Int)).toNat) (by rw [List.getElem?_map, List.getElem?_eq_getElem hlt]; rfl) (by omega)) ?_
  exact aSs_nil (rest2 _)
end
end W85

namespace W85
open PySem L2 DL
local macro_rules
  | `(tactic| walk_at "n") => `(tactic| repeat (first | with_reducible exact At.z | with_reducible apply At.s))
  | `(tactic| walk_at "x") => `(tactic| first
    | ((with_reducible show aSs _ (_ :: _) _ _ _); refine aSs_cons ?_)
    | ((with_reducible show aSs _ [] _ _ _); refine aSs_nil ?_)
    | ((with_reducible show aSs _ _ _ _ _); refine aSs_cons ?_)
    | ((with_reducible show aS _ (.If _ _ _ _) _ _ _); refine aS_if ?_)
    | ((with_reducible show aS _ (.Assign [.Name _ _] _ _) _ _ _); refine aS_s (by assumption) (by walk_at "n") (by rfl) ?_)
    | ((with_reducible show aS _ (.Assign [.Tuple [.Name _ _, .Name _ _] _ _] (.Tuple [_, _] _ _) _) _ _ _); refine aS_p2 (by assumption) (by walk_at "n") (by walk_at "n") (by decide) (by rfl) (by rfl) ?_)
    | ((with_reducible show aS _ (.Assign [.Tuple [.Name _ _, .Name _ _, .Name _ _] _ _] (.Tuple [_, _, _] _ _) _) _ _ _); refine aS_p3 (by assumption) (by walk_at "n") (by walk_at "n") (by walk_at "n") (by decide) (by decide) (by decide) (by rfl) (by rfl) ?_)
    | ((with_reducible show aS _ (.Assign [.Subscript _ _ _] _ _) _ _ _); refine aS_put (Un.h (by assumption)) ?_)
    | ((with_reducible show aS _ (.Return (some _) _) _ _ _); refine aS_ret ?_)
    | ((with_reducible show aS _ (.Expr _ _) _ _ _); refine aS_expr ?_)
    | ((with_reducible show aT _ (.Compare _ [.Gt] [_] _) _ _ _); refine aT_gt ?_)
    | ((with_reducible show aT _ (.Compare _ [.Lt] [_] _) _ _ _); refine aT_lt ?_)
    | ((with_reducible show aT _ (.Compare _ [.GtE] [_] _) _ _ _); refine aT_ge ?_)
    | ((with_reducible show aT _ (.Compare _ [.LtE] [_] _) _ _ _); refine aT_le ?_)
    | ((with_reducible show aT _ (.Compare _ [.Eq] [_] _) _ _ _); refine aT_eq (Un.h (by assumption)) ?_)
    | ((with_reducible show aT _ (.Compare _ [.NotEq] [_] _) _ _ _); refine aT_ne (Un.h (by assumption)) ?_)
    | ((with_reducible show aT _ (.Compare _ [.In] [_] _) _ _ _); refine aT_in (Un.h (by assumption)) ?_)
    | ((with_reducible show aT _ (.Compare _ [.NotIn] [_] _) _ _ _); refine aT_notIn (Un.h (by assumption)) ?_)
    | ((with_reducible show aT _ (.Compare _ [.Is] [_] _) _ _ _); refine aT_isN ?_)
    | ((with_reducible show aT _ (.Compare _ [.IsNot] [_] _) _ _ _); refine aT_notN ?_)
    | ((with_reducible show aT _ (.UnaryOp .Not _ _) _ _ _); refine aT_not ?_)
    | ((with_reducible show aT _ (.BoolOp _ _ _) _ _ _); refine aT_W ?_)
    | ((with_reducible show aW _ (.BoolOp .And (_ :: _ :: _) _) _ _ _); refine aW_and ?_)
    | ((with_reducible show aW _ (.BoolOp .Or (_ :: _ :: _) _) _ _ _); refine aW_or ?_)
    | ((with_reducible show aW _ (.BoolOp .And [_] _) _ _ _); refine aW_and1 ?_)
    | ((with_reducible show aW _ (.BoolOp .Or [_] _) _ _ _); refine aW_or1 ?_)
    | ((with_reducible show aA _ (_ :: _) _ _ _); refine aA_cons ?_)
    | ((with_reducible show aA _ [] _ _ _); refine aA_nil ?_)
    | ((with_reducible show aO _ none _ _ _); refine aO_none ?_)
    | ((with_reducible show aO _ (some _) _ _ _); refine aO_some ?_)
    | ((with_reducible show aE _ (.Name _ _) _ _ _); refine aE_v (by assumption) (by walk_at "n") (by rfl) (by rfl) ?_)
    | ((with_reducible show aE _ (.Constant (.str _) _ _) _ _ _); refine aE_str ?_)
    | ((with_reducible show aE _ (.Constant (.int _) _ _) _ _ _); refine aE_int ?_)
    | ((with_reducible show aE _ (.Constant (.bool _) _ _) _ _ _); refine aE_bl ?_)
    | ((with_reducible show aE _ (.Constant .none _ _) _ _ _); refine aE_non ?_)
    | ((with_reducible show aE _ (.BinOp _ .Add _ _) _ _ _); refine aE_add ?_)
    | ((with_reducible show aE _ (.BinOp _ .Sub _ _) _ _ _); refine aE_sub ?_)
    | ((with_reducible show aE _ (.BinOp _ .Mult _ _) _ _ _); refine aE_mul ?_)
    | ((with_reducible show aE _ (.BinOp _ .Mod _ _) _ _ _); refine aE_mod ?_)
    | ((with_reducible show aE _ (.BinOp _ .FloorDiv _ _) _ _ _); refine aE_fdiv ?_)
    | ((with_reducible show aE _ (.BinOp _ .Pow _ _) _ _ _); refine aE_pow ?_)
    | ((with_reducible show aE _ (.Subscript _ (.Slice _ _ none _) _) _ _ _); refine aE_slice ?_)
    | ((with_reducible show aE _ (.Subscript _ _ _) _ _ _); refine aE_sub_ (Un.h (by assumption)) ?_)
    | ((with_reducible show aE _ (.Tuple _ _ _) _ _ _); refine aE_tup ?_)
    | ((with_reducible show aE _ (.List _ _) _ _ _); refine aE_lst ?_)
    | ((with_reducible show aE _ (.IfExp _ _ _ _) _ _ _); refine aE_if ?_)
    | ((with_reducible show aE _ (.Compare _ [.Lt] [_] _) _ _ _); refine aE_lt ?_)
    | ((with_reducible show aE _ (.Compare _ [.LtE] [_] _) _ _ _); refine aE_le ?_)
    | ((with_reducible show aE _ (.Compare _ [.Gt] [_] _) _ _ _); refine aE_gt ?_)
    | ((with_reducible show aE _ (.BoolOp .And (_ :: _ :: _) _) _ _ _); refine aE_and ?_)
    | ((with_reducible show aE _ (.BoolOp .Or (_ :: _ :: _) _) _ _ _); refine aE_or ?_)
    | ((with_reducible show aE _ (.BoolOp _ [_] _) _ _ _); refine aE_one ?_)
    | ((with_reducible show aE _ (.Call (.Name (Str.ofString "len") _) [_] [] _) _ _ _); refine aE_len (Nm.len (by assumption)) ?_)
    | ((with_reducible show aE _ (.Call (.Name (Str.ofString "abs") _) [_] [] _) _ _ _); refine aE_abs (Nm.abs (by assumption)) ?_)
    | ((with_reducible show aE _ (.Call (.Name (Str.ofString "min") _) [_, _] [] _) _ _ _); refine aE_min2 (by rfl) (Nm.min (by assumption)) ?_)
    | ((with_reducible show aE _ (.Call (.Name (Str.ofString "max") _) [_, _] [] _) _ _ _); refine aE_max2 (by rfl) (Nm.max (by assumption)) ?_)
    | ((with_reducible show aE _ (.Call (.Name (Str.ofString "sorted") _) [_] [] _) _ _ _); refine aE_sorted (by rfl) (Nm.sorted (by assumption)) ?_)
    | ((with_reducible show aE _ (.Call (.Name (Str.ofString "list") _) [_] [] _) _ _ _); refine aE_list (by rfl) (Nm.list (by assumption)) ?_)
    | ((with_reducible show aE _ (.Call (.Name (Str.ofString "sum") _) [_] [] _) _ _ _); refine aE_sum (by rfl) (Nm.sum (by assumption)) ?_)
    | ((with_reducible show aE _ (.Call (.Name (Str.ofString "dict") _) [_] [] _) _ _ _); refine aE_dict (by rfl) (Nm.dict (by assumption)) ?_)
    | ((with_reducible show aE _ (.Call (.Name (Str.ofString "all") _) [_] [] _) _ _ _); refine aE_all (by rfl) (Nm.all (by assumption)) ?_)
    | ((with_reducible show aE _ (.Call (.Name (Str.ofString "int") _) [_] [] _) _ _ _); refine aE_intb (Nm.int (by assumption)) ?_)
    | ((with_reducible show aE _ (.Call (.Name (Str.ofString "tuple") _) [_] [] _) _ _ _); refine aE_tuple (Nm.tuple (by assumption)) ?_)
    | ((with_reducible show aE _ (.Call (.Attribute _ (Str.ofString "append") _) [_] [] _) _ _ _); refine aE_append ?_))
  | `(tactic| walk_at "w") => `(tactic| repeat walk_at "x")
abbrev sPick : Stmt := top 49
abbrev nPick : List Str := ["pen", "some"]
theorem scPick : FnScope nPick ["pen", "some"] (defScope sPick) := ⟨rfl, rfl, rfl, by decide +kernel, rfl, by decide +kernel, by decide +kernel⟩
def spPick : ASp := fun ds S R => ∃ (i : Nat) (p : Addr) (n : Nat) (d : D), ds = [.adr p, d] ∧ S[i]? = some (p, .pen n) ∧ n < 2 ^ 60 ∧
  ((∃ l, d = .lst l ∧ l ≠ [] ∧ l.length < 100000 ∧ ∀ z ∈ l, R z (S.set i (p, .pen (n + 1)))) ∨ ∃ s : Str, d = .str s ∧ 0 < s.length ∧ s.length < 100000 ∧ ∀ c ∈ s.cps.toList, R (.str ⟨#[c]⟩) (S.set i (p, .pen (n + 1))))
theorem mem_atI {α : Type} {l : List α} {k : Int} (h0 : 0 ≤ k) (h1 : k < l.length) : ∃ z ∈ l, atI l k = some z := by
  have hlt : k.toNat < l.length := by omega
  refine ⟨l[k.toNat], List.getElem_mem hlt, ?_⟩
  unfold atI ixN
  rw [if_pos h0, if_pos h1]
  exact List.getElem?_eq_getElem hlt
section
variable {P : Program} {w : World} {K : PySem.W.Frag} {mg : Str → Option Value} {base : Heap}
theorem bPick (M : Nm mg) {kd : Nat} (cD : CalA P w K mg base 2 "_law_draw" spDraw []) : BodyA P w K mg base nPick "_law_pick" sPick 2 spPick := by
  intro f cdv A outer s H E hr ds S R ⟨i, p, n, d, eds, hi, hn, h⟩
  subst eds
  have hu : Un _ := ⟨hr.units⟩
  have nd : Names nPick := ⟨scPick.nd⟩
  have lenN := M.len
  rcases h with ⟨l, ed, hl, hl2, hR⟩ | ⟨z, ed, hz, hz2, hR⟩
  · subst ed
    have : 0 < l.length := List.length_pos_iff.mpr hl
    walk_at "w"
    refine aE_call cD hr ?_
    walk_at "w"
    refine ⟨_, .inr (.inl ⟨_, qL, rfl⟩), ?_⟩
    walk_at "w"
    refine ⟨i, p, n, _, rfl, hi, by omega, by omega, hn, fun k k0 k1 => ?_⟩
    obtain ⟨z, hz, e⟩ := mem_atI k0 k1
    exact oIxL rL e (hR z hz)
  · subst ed
    walk_at "w"
    refine aE_call cD hr ?_
    walk_at "w"
    refine ⟨_, .inl ⟨_, rfl, by omega, rfl⟩, ?_⟩
    walk_at "w"
    refine ⟨i, p, n, _, rfl, hi, by omega, by omega, hn, fun k k0 k1 => ?_⟩
    have k1 : k < (z.cps.toList.length : Nat) := by rw [Array.length_toList]; exact k1
    obtain ⟨c, hc, e⟩ := mem_atI k0 k1
    exact .inr (.inr (.inl ⟨z, k, c, rfl, rfl, by omega, e, hR c hc⟩))
theorem set_same {S : Store} {i : Nat} {x : Addr × D} (h : S[i]? = some x) : S.set i x = S := by
  apply List.ext_getElem?
  intro j
  rw [List.getElem?_set]
  split
  · rename_i e
    subst e
    rw [if_pos (List.getElem?_eq_some_iff.mp h).1, h]
  · rfl
/-! the shuffle -/
abbrev sShuf : Stmt := top 50
abbrev nShuf : List Str := ["pen", "some", "left", "found"]
theorem scShuf : FnScope nShuf ["pen", "some"] (defScope sShuf) := ⟨rfl, rfl, rfl, by decide +kernel, rfl, by decide +kernel, by decide +kernel⟩
def spShuf : ASp := fun ds S R => ∃ (i : Nat) (p : Addr) (n : Nat) (l : List D), ds = [.adr p, .tup l] ∧ S[i]? = some (p, .pen n) ∧ n + l.length ≤ 2 ^ 60 ∧ l.length < 1000 ∧ ∀ l', l'.Perm l → NewL l' (S.set i (p, .pen (n + l.length))) R
theorem erase_perm {α : Type} {l : List α} {j : Nat} {z : α} (h : l[j]? = some z) : (z :: l.eraseIdx j).Perm l := by
  induction l generalizing j with
  | nil => cases h
  | cons a l ih =>
    cases j with
    | zero => cases h; exact .refl _
    | succ j => exact (List.Perm.swap _ _ _).trans ((ih h).cons a)
theorem bShuf (M : Nm mg) (cD : CalA P w K mg base 2 "_law_draw" spDraw []) : BodyA P w K mg base nShuf "_law_shuffled" sShuf 2 spShuf := by
  intro f cdv A outer s H E hr ds S R ⟨i, p, n, l, eds, hi, hn, hl, hR⟩
  subst eds
  have hu : Un _ := ⟨hr.units⟩
  have nd : Names nShuf := ⟨scShuf.nd⟩
  have lenN := M.len
  walk_at "w"
  walk_at "w"
  refine ⟨l, .inl qT, .inr fun q1 => ?_⟩
  walk_at "w"
  refine ⟨by decide, .inr fun q2 => ?_⟩
  refine aSs_cons (aS_while (fun m ρ' S' => ∃ l1 l2, m = l1.length ∧ (l2 ++ l1).Perm l ∧ ρ' = [some (.adr p), some (.tup l), some (.adr q1), some (.adr q2)] ∧ S' = (q2, .lst l2) :: (q1, .lst l1) :: S.set i (p, .pen (n + l2.length))) l.length ⟨l, [], rfl, .refl _, rfl, by rw [List.length_nil, Nat.add_zero, set_same hi]⟩ ?_ .never)
  rintro m ρ' S' ⟨l1, l2, em, pm, e1, e2⟩
  subst e1; subst e2
  have hlen := pm.length_eq
  rw [List.length_append] at hlen
  have hi2 : ((q2, D.lst l2) :: (q1, D.lst l1) :: S.set i (p, .pen (n + l2.length)))[i + 2]? = some (p, .pen (n + l2.length)) := set_get hi
  walk_at "w"
  refine ⟨by decide, .inl (oNe0 (rA (q := 1) rfl) (iteN (fun h => ?_) fun h => ?_))⟩
  · walk_at "w"
    refine ⟨⟨_, rA (q := 0) rfl⟩, ?_⟩
    refine aE_popAt ?_
    walk_at "w"
    refine ⟨⟨_, rA (q := 1) rfl⟩, ?_⟩
    refine aE_call cD hr ?_
    walk_at "w"
    refine ⟨_, .inr (.inl ⟨_, qA (q := 1) rfl, rfl⟩), ?_⟩
    walk_at "w"
    refine ⟨i + 2, p, _, _, rfl, hi2, by omega, by omega, by omega, fun k k0 k1 => ?_⟩
    have hlt : k.toNat < l1.length := by omega
    have hz : l1[k.toNat]? = some l1[k.toNat] := List.getElem?_eq_getElem hlt
    refine ⟨1, q1, l1, k, k.toNat, l1[k.toNat], ⟨rfl, rfl⟩, rfl, by omega, ?_, hz, 0, q2, l2, ⟨rfl, rfl⟩, by omega, ?_⟩
    · unfold ixN
      rw [if_pos k0, if_pos k1]
    · walk_at "w"
      refine ⟨(l1.eraseIdx k.toNat).length, ?_, l1.eraseIdx k.toNat, l2 ++ [l1[k.toNat]], rfl, ?_, rfl, ?_⟩
      · rw [List.length_eraseIdx_of_lt hlt, em]
        omega
      · rw [List.append_assoc]
        exact ((erase_perm hz).append_left l2).trans pm
      · show (q2, D.lst (l2 ++ [l1[k.toNat]])) :: (q1, D.lst (l1.eraseIdx k.toNat)) :: (S.set i _).set i _ = _
        rw [List.set_set, List.length_append]
        rfl
  · have e0 : l1 = [] := List.length_eq_zero_iff.mp h
    subst e0
    rw [List.append_nil] at pm
    have hl2 := pm.length_eq
    refine aSs.imp (aSs_one (aS_ret ?_)) (drop_obj 1)
    rw [hl2]
    rcases hR l2 pm with q | q
    · refine aE_frz ?_
      walk_at "w"
      exact ⟨0, q2, _, rfl, rfl, rfl, q⟩
    · walk_at "w"
      exact q q2
end
end W85

/-! Drawn names: distinct, one to eight small letters each. -/
namespace W85
open PySem L2 DL
abbrev abc : Str := "abcdefghijklmnopqrstuvwxyz"
abbrev letL : List Nat := abc.cps.toList
def nameOk (x : Str) : Prop := 0 < x.length ∧ x.length < 9 ∧ ∀ c ∈ x.cps.toList, c ∈ letL
structure NamesOk (m : Nat) (l : List Str) : Prop where
  len : l.length = m
  nd : l.Nodup
  ok : ∀ x ∈ l, nameOk x
abbrev words : List Str := ["room", "door", "stone", "walker", "go", "lift", "lay", "wait", "both", "on", "turn", "at", "lies", "do", "heft", "rows", "wall", "open"]
instance (x : Str) : Decidable (nameOk x) := by unfold nameOk; infer_instance
theorem words_ok : ∀ x ∈ words, nameOk x := by decide +kernel
theorem words_nd : ∀ k < 18, (((words ++ words).drop k).take 18).Nodup := by decide +kernel
theorem words_win {k m : Nat} (hk : k < 18) (hm : m ≤ 18) : NamesOk m (((words ++ words).drop k).take m) := by
  have e : ((words ++ words).drop k).take m = (((words ++ words).drop k).take 18).take m := by rw [List.take_take, Nat.min_eq_left hm]
  refine ⟨?_, ?_, fun x hx => words_ok x ?_⟩
  · rw [List.length_take, List.length_drop, show (words ++ words).length = 36 from rfl]
    omega
  · rw [e]
    exact (words_nd k hk).sublist (List.take_sublist _ _)
  · have := List.mem_of_mem_drop (List.mem_of_mem_take hx)
    rcases List.mem_append.mp this with h | h <;> exact h
/-- the letters case: base, the place, the letter's number, what stands behind -/
def nmL (base : List Nat) (at_ : Nat) (c : Nat) (tail : List Nat) : Str := ⟨(base.take at_ ++ c :: tail).toArray⟩
theorem nmL_ok {base tail : List Nat} {a c : Nat} (hb : base.length ≤ 8) (ha : a < base.length) (hl : ∀ x ∈ base, x ∈ letL) (hc : c ∈ letL) (ht : tail.Sublist (base.drop (a + 1))) : nameOk (nmL base a c tail) := by
  have h1 := ht.length_le
  rw [List.length_drop] at h1
  have e : (nmL base a c tail).length = a + 1 + tail.length := by
    show (base.take a ++ c :: tail).toArray.size = _
    rw [List.size_toArray, List.length_append, List.length_take, List.length_cons]
    omega
  refine ⟨by omega, by omega, fun x hx => ?_⟩
  have hx : x ∈ base.take a ++ c :: tail := hx
  rcases List.mem_append.mp hx with h | h
  · exact hl _ (List.mem_of_mem_take h)
  · rcases List.mem_cons.mp h with h | h
    · rw [h]; exact hc
    · exact hl _ (List.mem_of_mem_drop (ht.subset h))
theorem nmL_at {base tail : List Nat} {a c : Nat} (ha : a < base.length) : (nmL base a c tail).cps.toList[a]? = some c := by
  show (base.take a ++ c :: tail)[a]? = some c
  rw [List.getElem?_append_right (by rw [List.length_take]; omega), List.length_take, Nat.min_eq_left (by omega), Nat.sub_self]
  rfl
/-- the first letters alone -/
def preL (base : List Nat) (a : Nat) : Str := ⟨(base.take a).toArray⟩
theorem preL_ok {base : List Nat} {a : Nat} (hb : base.length ≤ 8) (h0 : 0 < a) (ha : a < base.length) (hl : ∀ x ∈ base, x ∈ letL) : nameOk (preL base a) := by
  have e : (preL base a).length = a := by
    show (base.take a).toArray.size = _
    rw [List.size_toArray, List.length_take]
    omega
  refine ⟨by omega, by omega, fun x hx => hl _ (List.mem_of_mem_take hx)⟩
theorem preL_at {base : List Nat} {a : Nat} : (preL base a).cps.toList[a]? = none := by
  show (base.take a)[a]? = none
  rw [List.getElem?_take, if_neg (by omega)]
abbrev steps : List Int := [1, 3, 5, 7, 9, 11, 15, 17, 19, 21, 23, 25]
theorem steps_inj {s f : Int} (hs : s ∈ steps) {i j : Nat} (hi : i < 26) (hj : j < 26) (h : (f + s * i) % 26 = (f + s * j) % 26) : i = j := by
  simp only [List.mem_cons, List.not_mem_nil, or_false] at hs
  rcases hs with e | e | e | e | e | e | e | e | e | e | e | e <;> subst e <;> omega
/-- a list of names that differ at one place -/
structure AtOk (a : Nat) (f s : Int) (base : List Nat) (l : List Str) : Prop where
  ok : ∀ x ∈ l, nameOk x
  at_ : ∀ (k : Nat) (x : Str), l[k]? = some x → ∃ c, letL[((f + s * k) % 26).toNat]? = some c ∧ x.cps.toList[a]? = some c
theorem let_nd : letL.Nodup := by decide +kernel
theorem let_len : letL.length = 26 := by decide +kernel
theorem nd_inj {α : Type} {l : List α} (h : l.Nodup) {i j : Nat} {x : α} (hi : l[i]? = some x) (hj : l[j]? = some x) : i = j := by
  obtain ⟨a, ea⟩ := List.getElem?_eq_some_iff.mp hi
  obtain ⟨b, eb⟩ := List.getElem?_eq_some_iff.mp hj
  have p := List.pairwise_iff_getElem.mp h
  rcases Nat.lt_trichotomy i j with q | q | q
  · exact absurd (ea.trans eb.symm) (p i j a b q)
  · exact q
  · exact absurd (eb.trans ea.symm) (p j i b a q)
theorem AtOk.nd {a : Nat} {f s : Int} {base : List Nat} {l : List Str} (h : AtOk a f s base l) (hs : s ∈ steps) (hl : l.length ≤ 26) : l.Nodup := by
  refine List.pairwise_iff_getElem.mpr fun i j hi hj hij e => ?_
  obtain ⟨c, hc, xc⟩ := h.at_ i _ (List.getElem?_eq_getElem hi)
  obtain ⟨d, hd, xd⟩ := h.at_ j _ (List.getElem?_eq_getElem hj)
  rw [e, xd] at xc
  cases xc
  have b1 := Int.emod_nonneg (f + s * (i : Int)) (show (26 : Int) ≠ 0 by decide)
  have b2 := Int.emod_nonneg (f + s * (j : Int)) (show (26 : Int) ≠ 0 by decide)
  have b3 := Int.emod_lt_of_pos (f + s * (i : Int)) (show (0 : Int) < 26 by decide)
  have hlt : ((f + s * (i : Int)) % 26).toNat < letL.length := by rw [let_len]; omega
  have := nd_inj let_nd hc hd
  have := steps_inj hs (by omega) (by omega) (show (f + s * (i : Int)) % 26 = (f + s * (j : Int)) % 26 by omega)
  omega
theorem AtOk.snoc {a : Nat} {f s : Int} {base tail : List Nat} {l : List Str} {c : Nat} (h : AtOk a f s base l) (hb : base.length ≤ 8) (ha : a < base.length) (hbl : ∀ x ∈ base, x ∈ letL) (ht : tail.Sublist (base.drop (a + 1)))
    (hc : letL[((f + s * l.length) % 26).toNat]? = some c) : AtOk a f s base (l ++ [nmL base a c tail]) := by
  refine ⟨fun x hx => ?_, fun k x hx => ?_⟩
  · rcases List.mem_append.mp hx with q | q
    · exact h.ok x q
    · rw [List.mem_singleton.mp q]
      exact nmL_ok hb ha hbl (List.mem_of_getElem? hc) ht
  · rw [List.getElem?_append] at hx
    split at hx
    · exact h.at_ k x hx
    · rename_i hk
      have hk2 : k - l.length = 0 := by
        have := (List.getElem?_eq_some_iff.mp hx).1
        simp at this
        exact this
      rw [hk2] at hx
      cases hx
      have : k = l.length := by omega
      subst this
      exact ⟨c, hc, nmL_at ha⟩
theorem AtOk.fin {a : Nat} {f s : Int} {base : List Nat} {l : List Str} (h : AtOk a f s base l) (hs : s ∈ steps) (hl : l.length ≤ 18) : NamesOk l.length l := ⟨rfl, h.nd hs (by omega), h.ok⟩
theorem AtOk.fin2 {a : Nat} {f s : Int} {base : List Nat} {l : List Str} (h : AtOk a f s base l) (hs : s ∈ steps) (hl : l.length ≤ 18) (hb : base.length ≤ 8) (h0 : 0 < a) (ha : a < base.length) (hbl : ∀ x ∈ base, x ∈ letL) (j : Nat) : NamesOk l.length (l.set j (preL base a)) := by
  refine ⟨List.length_set, ?_, fun x hx => ?_⟩
  · have nd := h.nd hs (by omega)
    have hn : preL base a ∉ l := fun hm => by
      obtain ⟨k, hk⟩ := List.getElem?_of_mem hm
      obtain ⟨c, _, e⟩ := h.at_ k _ hk
      rw [preL_at] at e
      cases e
    refine List.pairwise_iff_getElem.mpr fun i k hi hk hik e => ?_
    rw [List.length_set] at hi hk
    rw [List.getElem_set, List.getElem_set] at e
    split at e <;> split at e
    · omega
    · exact hn (e ▸ List.getElem_mem hk)
    · exact hn (e ▸ List.getElem_mem hi)
    · exact List.pairwise_iff_getElem.mp nd i k hi hk hik e
  · rcases List.mem_or_eq_of_mem_set hx with q | q
    · exact h.ok x q
    · rw [q]
      exact preL_ok hb h0 ha hbl
end W85

namespace W85
open PySem L2 DL
local macro_rules
  | `(tactic| walk_at "n") => `(tactic| repeat (first | with_reducible exact At.z | with_reducible apply At.s))
  | `(tactic| walk_at "x") => `(tactic| first
    | ((with_reducible show aSs _ (_ :: _) _ _ _); refine aSs_cons ?_)
    | ((with_reducible show aSs _ [] _ _ _); refine aSs_nil ?_)
    | ((with_reducible show aSs _ _ _ _ _); refine aSs_cons ?_)
    | ((with_reducible show aS _ (.If _ _ _ _) _ _ _); refine aS_if ?_)
    | ((with_reducible show aS _ (.Assign [.Name _ _] _ _) _ _ _); refine @aS_s _ _ _ _ _ _ _ _ _ _ (by assumption) (by walk_at "n") (by rfl) ?_ (by first | exact Or.inl rfl | exact Or.inr rfl) (by rfl) (by first | exact Or.inl rfl | exact Or.inr rfl))
    | ((with_reducible show aS _ (.Assign [.Tuple [.Name _ _, .Name _ _] _ _] (.Tuple [_, _] _ _) _) _ _ _); refine aS_p2 (by assumption) (by walk_at "n") (by walk_at "n") (by decide) (by rfl) (by rfl) ?_)
    | ((with_reducible show aS _ (.Assign [.Tuple [.Name _ _, .Name _ _, .Name _ _] _ _] (.Tuple [_, _, _] _ _) _) _ _ _); refine aS_p3 (by assumption) (by walk_at "n") (by walk_at "n") (by walk_at "n") (by decide) (by decide) (by decide) (by rfl) (by rfl) ?_)
    | ((with_reducible show aS _ (.Assign [.Subscript _ _ _] _ _) _ _ _); refine aS_put (Un.h (by assumption)) ?_)
    | ((with_reducible show aS _ (.Return (some _) _) _ _ _); refine aS_ret ?_)
    | ((with_reducible show aS _ (.Expr _ _) _ _ _); refine aS_expr ?_)
    | ((with_reducible show aT _ (.Compare _ [.Gt] [_] _) _ _ _); refine aT_gt ?_)
    | ((with_reducible show aT _ (.Compare _ [.Lt] [_] _) _ _ _); refine aT_lt ?_)
    | ((with_reducible show aT _ (.Compare _ [.GtE] [_] _) _ _ _); refine aT_ge ?_)
    | ((with_reducible show aT _ (.Compare _ [.LtE] [_] _) _ _ _); refine aT_le ?_)
    | ((with_reducible show aT _ (.Compare _ [.Eq] [_] _) _ _ _); refine aT_eq (Un.h (by assumption)) ?_)
    | ((with_reducible show aT _ (.Compare _ [.NotEq] [_] _) _ _ _); refine aT_ne (Un.h (by assumption)) ?_)
    | ((with_reducible show aT _ (.Compare _ [.In] [_] _) _ _ _); refine aT_in (Un.h (by assumption)) ?_)
    | ((with_reducible show aT _ (.Compare _ [.NotIn] [_] _) _ _ _); refine aT_notIn (Un.h (by assumption)) ?_)
    | ((with_reducible show aT _ (.Compare _ [.Is] [_] _) _ _ _); refine aT_isN ?_)
    | ((with_reducible show aT _ (.Compare _ [.IsNot] [_] _) _ _ _); refine aT_notN ?_)
    | ((with_reducible show aT _ (.UnaryOp .Not _ _) _ _ _); refine aT_not ?_)
    | ((with_reducible show aT _ (.BoolOp _ _ _) _ _ _); refine aT_W ?_)
    | ((with_reducible show aW _ (.BoolOp .And (_ :: _ :: _) _) _ _ _); refine aW_and ?_)
    | ((with_reducible show aW _ (.BoolOp .Or (_ :: _ :: _) _) _ _ _); refine aW_or ?_)
    | ((with_reducible show aW _ (.BoolOp .And [_] _) _ _ _); refine aW_and1 ?_)
    | ((with_reducible show aW _ (.BoolOp .Or [_] _) _ _ _); refine aW_or1 ?_)
    | ((with_reducible show aA _ (_ :: _) _ _ _); refine aA_cons ?_)
    | ((with_reducible show aA _ [] _ _ _); refine aA_nil ?_)
    | ((with_reducible show aO _ none _ _ _); refine aO_none ?_)
    | ((with_reducible show aO _ (some _) _ _ _); refine aO_some ?_)
    | ((with_reducible show aE _ (.Name _ _) _ _ _); refine aE_v (by assumption) (by walk_at "n") (by rfl) (by rfl) ?_)
    | ((with_reducible show aE _ (.Constant (.str _) _ _) _ _ _); refine aE_str ?_)
    | ((with_reducible show aE _ (.Constant (.int _) _ _) _ _ _); refine aE_int ?_)
    | ((with_reducible show aE _ (.Constant (.bool _) _ _) _ _ _); refine aE_bl ?_)
    | ((with_reducible show aE _ (.Constant .none _ _) _ _ _); refine aE_non ?_)
    | ((with_reducible show aE _ (.BinOp _ .Add _ _) _ _ _); refine aE_add ?_)
    | ((with_reducible show aE _ (.BinOp _ .Sub _ _) _ _ _); refine aE_sub ?_)
    | ((with_reducible show aE _ (.BinOp _ .Mult _ _) _ _ _); refine aE_mul ?_)
    | ((with_reducible show aE _ (.BinOp _ .Mod _ _) _ _ _); refine aE_mod ?_)
    | ((with_reducible show aE _ (.BinOp _ .FloorDiv _ _) _ _ _); refine aE_fdiv ?_)
    | ((with_reducible show aE _ (.BinOp _ .Pow _ _) _ _ _); refine aE_pow ?_)
    | ((with_reducible show aE _ (.Subscript _ (.Slice _ _ none _) _) _ _ _); refine aE_slice ?_)
    | ((with_reducible show aE _ (.Subscript _ _ _) _ _ _); refine aE_sub_ (Un.h (by assumption)) ?_)
    | ((with_reducible show aE _ (.Tuple _ _ _) _ _ _); refine aE_tup ?_)
    | ((with_reducible show aE _ (.List _ _) _ _ _); refine aE_lst ?_)
    | ((with_reducible show aE _ (.IfExp _ _ _ _) _ _ _); refine aE_if ?_)
    | ((with_reducible show aE _ (.Compare _ [.Lt] [_] _) _ _ _); refine aE_lt ?_)
    | ((with_reducible show aE _ (.Compare _ [.LtE] [_] _) _ _ _); refine aE_le ?_)
    | ((with_reducible show aE _ (.Compare _ [.Gt] [_] _) _ _ _); refine aE_gt ?_)
    | ((with_reducible show aE _ (.BoolOp .And (_ :: _ :: _) _) _ _ _); refine aE_and ?_)
    | ((with_reducible show aE _ (.BoolOp .Or (_ :: _ :: _) _) _ _ _); refine aE_or ?_)
    | ((with_reducible show aE _ (.BoolOp _ [_] _) _ _ _); refine aE_one ?_)
    | ((with_reducible show aE _ (.Call (.Name (Str.ofString "len") _) [_] [] _) _ _ _); refine aE_len (Nm.len (by assumption)) ?_)
    | ((with_reducible show aE _ (.Call (.Name (Str.ofString "abs") _) [_] [] _) _ _ _); refine aE_abs (Nm.abs (by assumption)) ?_)
    | ((with_reducible show aE _ (.Call (.Name (Str.ofString "min") _) [_, _] [] _) _ _ _); refine aE_min2 (by rfl) (Nm.min (by assumption)) ?_)
    | ((with_reducible show aE _ (.Call (.Name (Str.ofString "max") _) [_, _] [] _) _ _ _); refine aE_max2 (by rfl) (Nm.max (by assumption)) ?_)
    | ((with_reducible show aE _ (.Call (.Name (Str.ofString "sorted") _) [_] [] _) _ _ _); refine aE_sorted (by rfl) (Nm.sorted (by assumption)) ?_)
    | ((with_reducible show aE _ (.Call (.Name (Str.ofString "list") _) [_] [] _) _ _ _); refine aE_list (by rfl) (Nm.list (by assumption)) ?_)
    | ((with_reducible show aE _ (.Call (.Name (Str.ofString "sum") _) [_] [] _) _ _ _); refine aE_sum (by rfl) (Nm.sum (by assumption)) ?_)
    | ((with_reducible show aE _ (.Call (.Name (Str.ofString "dict") _) [_] [] _) _ _ _); refine aE_dict (by rfl) (Nm.dict (by assumption)) ?_)
    | ((with_reducible show aE _ (.Call (.Name (Str.ofString "all") _) [_] [] _) _ _ _); refine aE_all (by rfl) (Nm.all (by assumption)) ?_)
    | ((with_reducible show aE _ (.Call (.Name (Str.ofString "int") _) [_] [] _) _ _ _); refine aE_intb (Nm.int (by assumption)) ?_)
    | ((with_reducible show aE _ (.Call (.Name (Str.ofString "tuple") _) [_] [] _) _ _ _); refine aE_tuple (Nm.tuple (by assumption)) ?_)
    | ((with_reducible show aE _ (.Call (.Attribute _ (Str.ofString "append") _) [_] [] _) _ _ _); refine aE_append ?_))
  | `(tactic| walk_at "w") => `(tactic| repeat walk_at "x")
/-! a draw, a pick: the pen behind some objects -/
theorem setPre {S : Store} {i : Nat} {y : Addr × D} : ∀ pre : Store, (pre ++ S).set (i + pre.length) y = pre ++ S.set i y
  | [] => rfl
  | a :: r => by
    show ((a :: (r ++ S)).set (i + (r.length + 1)) y) = a :: (r ++ S.set i y)
    rw [← Nat.add_assoc, List.set_cons_succ, setPre r]
theorem getPre {S : Store} {i : Nat} : ∀ pre : Store, (pre ++ S)[i + pre.length]? = S[i]?
  | [] => rfl
  | a :: r => by
    show (a :: (r ++ S))[i + (r.length + 1)]? = S[i]?
    rw [← Nat.add_assoc, List.getElem?_cons_succ, getPre r]
section
variable {S : Store} {R : D → Store → Prop} {i n : Nat} {p : Addr} {m : Int} {x : Addr × D} {l : List D} {s : Str}
theorem oDrawP (pre : Store) (hi : S[i]? = some x) (h0 : 0 < m) (h1 : m < 1000000) (hn : n < 2 ^ 60) (h : ∀ k : Int, 0 ≤ k → k < m → R (.int k) (pre ++ S.set i (p, .pen (n + 1)))) : spDraw [.adr p, .int m] (pre ++ S.set i (p, .pen n)) R :=
  ⟨i + pre.length, p, n, m, rfl, by rw [getPre]; exact set_get hi, h0, h1, hn, fun k k0 k1 => by rw [setPre, List.set_set]; exact h k k0 k1⟩
theorem oDraw (hi : S[i]? = some x) (h0 : 0 < m) (h1 : m < 1000000) (hn : n < 2 ^ 60) (h : ∀ k : Int, 0 ≤ k → k < m → R (.int k) (S.set i (p, .pen (n + 1)))) : spDraw [.adr p, .int m] (S.set i (p, .pen n)) R := oDrawP [] hi h0 h1 hn h
theorem oDraw1 {a : Addr × D} (hi : S[i]? = some x) (h0 : 0 < m) (h1 : m < 1000000) (hn : n < 2 ^ 60) (h : ∀ k : Int, 0 ≤ k → k < m → R (.int k) (a :: S.set i (p, .pen (n + 1)))) : spDraw [.adr p, .int m] (a :: S.set i (p, .pen n)) R := oDrawP [a] hi h0 h1 hn h
theorem oDraw2 {a b : Addr × D} (hi : S[i]? = some x) (h0 : 0 < m) (h1 : m < 1000000) (hn : n < 2 ^ 60) (h : ∀ k : Int, 0 ≤ k → k < m → R (.int k) (a :: b :: S.set i (p, .pen (n + 1)))) : spDraw [.adr p, .int m] (a :: b :: S.set i (p, .pen n)) R := oDrawP [a, b] hi h0 h1 hn h
theorem oPickP (pre : Store) (hi : S[i]? = some x) (hn : n < 2 ^ 60) (h0 : l ≠ []) (h1 : l.length < 100000) (h : ∀ z ∈ l, R z (pre ++ S.set i (p, .pen (n + 1)))) : spPick [.adr p, .lst l] (pre ++ S.set i (p, .pen n)) R :=
  ⟨i + pre.length, p, n, .lst l, rfl, by rw [getPre]; exact set_get hi, hn, .inl ⟨l, rfl, h0, h1, fun z hz => by rw [setPre, List.set_set]; exact h z hz⟩⟩
theorem oPick (hi : S[i]? = some x) (hn : n < 2 ^ 60) (h0 : l ≠ []) (h1 : l.length < 100000) (h : ∀ z ∈ l, R z (S.set i (p, .pen (n + 1)))) : spPick [.adr p, .lst l] (S.set i (p, .pen n)) R := oPickP [] hi hn h0 h1 h
theorem oPick1 {a : Addr × D} (hi : S[i]? = some x) (hn : n < 2 ^ 60) (h0 : l ≠ []) (h1 : l.length < 100000) (h : ∀ z ∈ l, R z (a :: S.set i (p, .pen (n + 1)))) : spPick [.adr p, .lst l] (a :: S.set i (p, .pen n)) R := oPickP [a] hi hn h0 h1 h
theorem oPick2 {a b : Addr × D} (hi : S[i]? = some x) (hn : n < 2 ^ 60) (h0 : l ≠ []) (h1 : l.length < 100000) (h : ∀ z ∈ l, R z (a :: b :: S.set i (p, .pen (n + 1)))) : spPick [.adr p, .lst l] (a :: b :: S.set i (p, .pen n)) R := oPickP [a, b] hi hn h0 h1 h
theorem oPickS1 {a : Addr × D} (hi : S[i]? = some x) (hn : n < 2 ^ 60) (h0 : 0 < s.length) (h1 : s.length < 100000) (h : ∀ c ∈ s.cps.toList, R (.str ⟨#[c]⟩) (a :: S.set i (p, .pen (n + 1)))) : spPick [.adr p, .str s] (a :: S.set i (p, .pen n)) R :=
  ⟨i + 1, p, n, .str s, rfl, set_get hi, hn, .inr ⟨s, rfl, h0, h1, fun c hc => by
    show R _ (a :: (S.set i _).set i _)
    rw [List.set_set]; exact h c hc⟩⟩
end
/-! the names -/
theorem joinOne {base : List Nat} : Txt.join "" (base.map fun c => (⟨#[c]⟩ : Str)) = ⟨base.toArray⟩ := by
  have e := SX.join_S [] (base.map fun c => [c])
  rw [List.map_map] at e
  refine Eq.trans ?_ (e.trans ?_)
  · rfl
  · have : TL.joinL [] (base.map fun c => [c]) = base := by
      induction base with
      | nil => rfl
      | cons a l ih =>
        cases l with
        | nil => rfl
        | cons c l => exact congrArg (a :: ·) (ih (by
            have e2 := SX.join_S [] ((c :: l).map fun c => [c])
            rw [List.map_map] at e2
            exact e2))
    rw [this]
theorem atI_any {α : Type} {l : List α} {i : Int} {n : Nat} {z : α} (h : l[n]? = some z) (e : i = n) : atI l i = some z := by
  subst e
  have hl := (List.getElem?_eq_some_iff.mp h).1
  unfold atI ixN
  rw [if_pos (by omega), if_pos (by omega)]
  show l[((n : Int)).toNat]? = some z
  rw [Int.toNat_natCast, h]
theorem strLen {l : List Nat} : (⟨l.toArray⟩ : Str).length = l.length := by
  show l.toArray.size = _
  rw [List.size_toArray]
theorem addLen {l : List Nat} {c : Nat} : ((⟨l.toArray⟩ : Str) ++ (⟨#[c]⟩ : Str)).length = l.length + 1 := by
  show (l.toArray ++ #[c]).size = _
  rw [Array.size_append, List.size_toArray]
  rfl
theorem addStr {a t : List Nat} {c : Nat} : (⟨a.toArray⟩ : Str) ++ (⟨#[c]⟩ : Str) ++ (⟨t.toArray⟩ : Str) = ⟨(a ++ c :: t).toArray⟩ := by
  show (⟨a.toArray ++ #[c] ++ t.toArray⟩ : Str) = _
  congr 1
  apply Array.ext'
  simp
theorem cutStr {l : List Nat} {lo hi : Option Int} : cutS (⟨l.toArray⟩ : Str) lo hi = ⟨(cutD l lo hi).toArray⟩ := by
  unfold cutS cutD
  rw [strLen]
abbrev sNames : Stmt := top 51
abbrev nNames : List Str := ["pen", "many", "words", "turn", "letters", "base", "at", "first", "cut", "step", "found", "k", "tail"]
theorem scNames : FnScope nNames ["pen", "many"] (defScope sNames) := ⟨rfl, rfl, rfl, by decide +kernel, rfl, by decide +kernel, by decide +kernel⟩
def spNames : ASp := fun ds S R => ∃ (i : Nat) (p : Addr) (n m : Nat), ds = [.adr p, .int m] ∧ S[i]? = some (p, .pen n) ∧ n + 20 ≤ 2 ^ 60 ∧ 0 < m ∧ m ≤ 18 ∧
  ∀ l n', n' ≤ n + 20 → NamesOk m l → R (.lst (l.map D.str)) (S.set i (p, .pen n'))
section
variable {P : Program} {w : World} {K : PySem.W.Frag} {mg : Str → Option Value} {bse : Heap}
theorem bNames (M : Nm mg) (cD : CalA P w K mg bse 2 "_law_draw" spDraw []) (cP : CalA P w K mg bse 3 "_law_pick" spPick []) : BodyA P w K mg bse nNames "_law_names" sNames 3 spNames := by
  intro f cdv A outer s H E hr ds S R ⟨i, p, n, m, eds, hi, hn, hm0, hm, hR⟩
  subst eds
  have hu : Un _ := ⟨hr.units⟩
  have nd : Names nNames := ⟨scNames.nd⟩
  have sc : Scp nNames (defScope sNames) := ⟨scNames.nd⟩
  have lenN := M.len
  rw [← set_same hi]
  walk_at "w"
  refine aE_call cD hr ?_
  walk_at "w"
  refine oDraw hi (by decide) (by decide) (by omega) fun k0 _ _ => ?_
  walk_at "w"
  refine oEqI (iteD (fun _ => ?_) fun _ => ?_)
  · walk_at "w"
    refine ⟨by decide, .inl ?_⟩
    walk_at "w"
    refine aE_call cD hr ?_
    walk_at "w"
    refine oDraw hi (by decide) (by decide) (by omega) fun k1 k10 k11 => ?_
    walk_at "w"
    refine ⟨by decide, .inl ?_⟩
    refine oCat rL rL (by decide) (.inl ?_)
    walk_at "w"
    refine .inr ⟨_, 2, rL, rfl, by decide, by decide, by decide, .inl ?_⟩
    walk_at "w"
    refine ⟨_, rfl, ?_⟩
    walk_at "w"
    refine .inr (.inl ⟨_, rL, .inl ?_⟩)
    walk_at "w"
    refine ⟨_, rfl, ?_⟩
    refine .inr (.inl ⟨_, rL, .inl ?_⟩)
    rw [cut_lo k10, cut_hi (by omega)]
    have hw := words_win (k := k1.toNat) (m := m) (by omega) hm
    have := hR _ (n + 2) (by omega) hw
    rw [List.map_take, List.map_drop] at this
    exact this
  walk_at "w"
  refine aE_join ?_
  walk_at "w"
  refine ⟨⟨_, rfl⟩, ?_⟩
  refine lcE (.nm 11) [("k", 11)] sc ?_ ⟨rfl, by decide +kernel, by decide +kernel, by decide +kernel, by decide +kernel⟩ (fun _ _ _ _ _ => tgNm nd (by walk_at "n") (by rfl)) rfl rfl rfl (by decide) (by decide)
  refine aI_range1 M.range ?_
  walk_at "w"
  refine aE_call cD hr ?_
  walk_at "w"
  refine oDraw hi (by decide) (by decide) (by omega) fun k1 k10 k11 => ?_
  refine oAdd ?_
  walk_at "w"
  refine ⟨_, rfl, by omega, by omega, ?_⟩
  have hnl : (nums 0 (1 + k1).toNat).length = (1 + k1).toNat := by unfold nums; rw [List.length_map, List.length_range]
  refine ⟨fun j acc S' => ∃ bs : List Nat, bs.length = j ∧ (∀ c ∈ bs, c ∈ letL) ∧ acc = bs.map (fun c => D.str ⟨#[c]⟩) ∧ S' = S.set i (p, .pen (n + 1 + 1 + j)), ⟨[], rfl, fun _ h => (List.not_mem_nil h).elim, rfl, rfl⟩, ?_, ?_⟩
  · rintro A' j d acc S' hd ⟨bs, hb1, hb2, e1, e2⟩
    subst e1; subst e2
    have hj : j < (1 + k1).toNat := by rw [← hnl]; exact (List.getElem?_eq_some_iff.mp hd).1
    refine ⟨_, rfl, ?_⟩
    rw [if_pos rfl]
    intro s' H' C cl fp
    refine aE_call cP hr ?_
    walk_at "w"
    refine oPickS1 hi (by omega) (by decide) (by decide) fun c hc => ?_
    refine ⟨_, rfl, by rw [List.length_map]; omega, bs ++ [c], by rw [List.length_append, hb1]; rfl, fun x hx => ?_, by rw [List.map_append]; rfl, by rw [Nat.add_assoc (n + 1 + 1)]⟩
    rcases List.mem_append.mp hx with h | h
    · exact hb2 x h
    · rw [List.mem_singleton.mp h]; exact hc
  rintro acc S' ⟨base, hb1, hb2, e1, e2⟩
  rw [hnl] at hb1
  subst e1; subst e2
  refine .inl ⟨"", base.map fun c => ⟨#[c]⟩, rfl, .inl (.inl (by rw [List.map_map]; rfl)), ?_, ?_⟩
  · rw [List.map_map]
    show ((base.map fun _ => 1).sum + (base.map _).length * 0 ≤ _)
    rw [List.map_const', List.sum_replicate_nat]
    omega
  rw [joinOne, hnl]
  have hbl : base.length ≤ 8 := by omega
  have hb0 : 0 < base.length := by omega
  generalize hN : n + 1 + 1 + (1 + k1).toNat = n1
  have hn1 : n1 ≤ n + 10 := by omega
  walk_at "w"
  refine aE_call cD hr ?_
  walk_at "w"
  refine ⟨_, .inl ⟨_, rfl, by show base.toArray.size ≤ _; rw [List.size_toArray]; omega, rfl⟩, ?_⟩
  rw [strLen]
  walk_at "w"
  refine oDraw hi (by omega) (by omega) (by omega) fun at_ at0 at1 => ?_
  refine aE_call cD hr ?_
  walk_at "w"
  refine oDraw hi (by decide) (by decide) (by omega) fun fi fi0 fi1 => ?_
  refine aE_call cD hr ?_
  walk_at "w"
  refine oDraw hi (by decide) (by decide) (by omega) fun cu cu0 cu1 => ?_
  walk_at "w"
  refine aE_call cP hr ?_
  walk_at "w"
  refine ⟨by decide, .inl ?_⟩
  walk_at "w"
  refine oPick hi (by omega) (by decide) (by decide) fun st hst => ?_
  obtain ⟨sp, hsp, est⟩ : ∃ sp : Int, sp ∈ steps ∧ st = .int sp := by
    simp only [List.mem_cons, List.not_mem_nil, or_false] at hst
    rcases hst with e | e | e | e | e | e | e | e | e | e | e | e <;> exact ⟨_, by decide, e⟩
  subst est
  have hsb : 1 ≤ sp ∧ sp ≤ 25 := by
    simp only [List.mem_cons, List.not_mem_nil, or_false] at hsp
    rcases hsp with e | e | e | e | e | e | e | e | e | e | e | e <;> subst e <;> decide
  walk_at "w"
  refine ⟨by decide, .inr fun q => ?_⟩
  refine aSs_cons (frS (.nm 11) ?_ (tgNm nd (by walk_at "n") (by rfl)) .never rfl)
  refine aI_range1 M.range ?_
  walk_at "w"
  refine ⟨_, rfl, by omega, by omega, ?_⟩
  have hnm : (nums 0 (m : Int).toNat).length = m := by unfold nums; rw [List.length_map, List.length_range]; omega
  have hat : at_.toNat < base.length := by omega
  refine ⟨fun j ρ' S' => ∃ (l : List Str) (o1 o2 : Option D), l.length = j ∧ AtOk at_.toNat fi sp base l ∧ ρ' = [some (.adr p), some (.int m), none, none, some (.str abc), some (.str ⟨base.toArray⟩), some (.int at_), some (.int fi), some (.int cu), some (.int sp), some (.adr q), o1, o2] ∧ S' = (q, .lst (l.map D.str)) :: S.set i (p, .pen (n1 + 1 + 1 + 1 + 1)), ⟨[], none, none, rfl, ⟨fun _ h => (List.not_mem_nil h).elim, fun k x h => by rw [List.getElem?_nil] at h; cases h⟩, rfl, rfl⟩, ?_, ?_⟩
  · rintro j d ρ' S' hd ⟨l, o1, o2, hl, ha, e1, e2⟩
    subst e1; subst e2
    have hj : j < m := by rw [← hnm]; exact (List.getElem?_eq_some_iff.mp hd).1
    have ed : d = .int j := by
      unfold nums at hd
      rw [List.getElem?_map, List.getElem?_range (by omega)] at hd
      cases hd
      exact congrArg D.int (Int.zero_add _)
    subst ed
    show aSs _ _ _ _ _
    walk_at "w"
    refine oAdd ⟨_, rfl, ?_⟩
    refine .inr (.inr (.inr ⟨_, rfl, by rw [strLen]; omega, ?_⟩))
    rw [cutStr, cut_lo (by omega)]
    walk_at "w"
    refine oMod (by decide) ?_
    walk_at "w"
    refine ⟨by show 2 ≤ 100000; decide, .inl ?_⟩
    walk_at "w"
    obtain ⟨v, hv0, ev⟩ : ∃ v : Int, 0 ≤ v ∧ atI [D.int 8, .int ((j : Int) % 3)] cu = some (.int v) := by
      have : cu = 0 ∨ cu = 1 := by omega
      rcases this with e | e <;> subst e
      · exact ⟨8, by decide, rfl⟩
      · exact ⟨_, Int.emod_nonneg _ (by decide), rfl⟩
    refine oIxL rL ev ⟨_, rfl, ?_⟩
    refine .inr (.inr (.inr ⟨_, rfl, by rw [strLen, List.length_drop]; omega, ?_⟩))
    rw [cutStr, cut_hi hv0]
    walk_at "w"
    refine ⟨⟨_, rA (q := 0) rfl⟩, ?_⟩
    walk_at "w"
    refine ⟨_, rfl, ?_⟩
    refine .inr (.inr (.inr ⟨_, rfl, by rw [strLen]; omega, ?_⟩))
    rw [cutStr, cut_hi at0]
    walk_at "w"
    have hln : ((fi + sp * (j : Int)) % 26).toNat < letL.length := by
      have b1 := Int.emod_nonneg (fi + sp * (j : Int)) (show (26 : Int) ≠ 0 by decide)
      have b2 := Int.emod_lt_of_pos (fi + sp * (j : Int)) (show (0 : Int) < 26 by decide)
      rw [let_len]; omega
    refine oMul (.inl ⟨by omega, by omega⟩) (oAdd ?_)
    walk_at "w"
    refine oMod (by decide) ?_
    have hc : letL[((fi + sp * (j : Int)) % 26).toNat]? = some letL[((fi + sp * (j : Int)) % 26).toNat] := List.getElem?_eq_getElem hln
    refine .inr (.inr (.inl ⟨abc, (fi + sp * (j : Int)) % 26, letL[((fi + sp * (j : Int)) % 26).toNat], rfl, rfl, by decide, atI_any (n := ((fi + sp * (j : Int)) % 26).toNat) hc (by have := Int.emod_nonneg (fi + sp * (j : Int)) (show (26 : Int) ≠ 0 by decide); omega), ?_⟩))
    have hta : (List.take at_.toNat base).length ≤ 8 := by rw [List.length_take]; omega
    refine oAddS (by rw [strLen]; show _ + 1 ≤ _; omega) ?_
    walk_at "w"
    refine oAddS (by rw [addLen, strLen, List.length_take, List.length_take, List.length_drop]; omega) ?_
    refine ⟨0, q, _, ⟨rfl, rfl⟩, by rw [List.length_map]; omega, ?_⟩
    walk_at "w"
    refine ⟨l ++ [nmL base at_.toNat letL[((fi + sp * (j : Int)) % 26).toNat] ((base.drop (at_ + 1).toNat).take v.toNat)], _, _, by rw [List.length_append, hl]; rfl, ha.snoc hbl hat hb2 ?_ (by rw [hl]; exact hc), rfl, ?_⟩
    · rw [show (at_ + 1).toNat = at_.toNat + 1 by omega]
      exact List.take_sublist _ _
    · rw [addStr, List.map_append]
      rfl
  rintro ρ' S' ⟨l, o1, o2, hl, ha, e1, e2⟩
  subst e1; subst e2
  rw [hnm] at hl
  have fin : ∀ (l' : List Str) (n' : Nat), n' ≤ n + 20 → NamesOk m l' → aSs (cxB P w K mg bse nNames "_law_names" sNames f cdv A outer s H E) ((defBody sNames).drop 7) [some (.adr p), some (.int m), none, none, some (.str abc), some (.str ⟨base.toArray⟩), some (.int at_), some (.int fi), some (.int cu), some (.int sp), some (.adr q), o1, o2] ((q, .lst (l'.map D.str)) :: S.set i (p, .pen n')) { nx := fun _ S' => R .non S', rt := R } := fun l' n' hn' ok => by
    refine aSs_one (aS_ret (aE_frz ?_))
    walk_at "w"
    exact ⟨0, q, _, rfl, rfl, rfl, hR l' n' hn' ok⟩
  walk_at "w"
  have hok := ha.fin hsp (by omega)
  rw [hl] at hok
  refine oGt (iteD (fun hg => ?_) fun _ => aSs_nil (fin l _ (by omega) hok))
  walk_at "w"
  refine aE_call cD hr ?_
  walk_at "w"
  refine oDraw1 hi (by decide) (by decide) (by omega) fun k2 _ _ => ?_
  walk_at "w"
  refine oEqI (iteD (fun _ => ?_) fun _ => aSs_nil (fin l _ (by omega) hok))
  walk_at "w"
  refine ⟨_, rfl, ?_⟩
  refine .inr (.inr (.inr ⟨_, rfl, by rw [strLen]; omega, ?_⟩))
  rw [cutStr, cut_hi at0]
  walk_at "w"
  refine aE_call cD hr ?_
  walk_at "w"
  refine oDraw1 hi (by omega) (by omega) (by omega) fun k3 k30 k31 => ?_
  refine .inr ⟨0, q, _, k3.toNat, k3, rfl, rfl, rfl, ?_, ?_⟩
  · unfold ixN
    rw [List.length_map, hl, if_pos k30, if_pos k31]
  · have h2 := ha.fin2 hsp (by omega) hbl (by omega) hat hb2 k3.toNat
    rw [hl] at h2
    have h3 := fin _ (n1 + 1 + 1 + 1 + 1 + 1 + 1) (by omega) h2
    rw [List.map_set] at h3
    exact aSs_nil h3
end
end W85

namespace W85
open PySem L2 DL
local macro_rules
  | `(tactic| walk_at "n") => `(tactic| repeat (first | with_reducible exact At.z | with_reducible apply At.s))
  | `(tactic| walk_at "x") => `(tactic| first
    | ((with_reducible show aSs _ (_ :: _) _ _ _); refine aSs_cons ?_)
    | ((with_reducible show aSs _ [] _ _ _); refine aSs_nil ?_)
    | ((with_reducible show aSs _ _ _ _ _); refine aSs_cons ?_)
    | ((with_reducible show aS _ (.If _ _ _ _) _ _ _); refine aS_if ?_)
    | ((with_reducible show aS _ (.Assign [.Name _ _] _ _) _ _ _); refine @aS_s _ _ _ _ _ _ _ _ _ _ (by assumption) (by walk_at "n") (by rfl) ?_ (by first | exact Or.inl rfl | exact Or.inr rfl) (by rfl) (by first | exact Or.inl rfl | exact Or.inr rfl))
    | ((with_reducible show aS _ (.Assign [.Tuple [.Name _ _, .Name _ _] _ _] (.Tuple [_, _] _ _) _) _ _ _); refine aS_p2 (by assumption) (by walk_at "n") (by walk_at "n") (by decide) (by rfl) (by rfl) ?_)
    | ((with_reducible show aS _ (.Assign [.Tuple [.Name _ _, .Name _ _, .Name _ _] _ _] (.Tuple [_, _, _] _ _) _) _ _ _); refine aS_p3 (by assumption) (by walk_at "n") (by walk_at "n") (by walk_at "n") (by decide) (by decide) (by decide) (by rfl) (by rfl) ?_)
    | ((with_reducible show aS _ (.Assign [.Subscript _ _ _] _ _) _ _ _); refine aS_put (Un.h (by assumption)) ?_)
    | ((with_reducible show aS _ (.Return (some _) _) _ _ _); refine aS_ret ?_)
    | ((with_reducible show aS _ (.Expr _ _) _ _ _); refine aS_expr ?_)
    | ((with_reducible show aT _ (.Compare _ [.Gt] [_] _) _ _ _); refine aT_gt ?_)
    | ((with_reducible show aT _ (.Compare _ [.Lt] [_] _) _ _ _); refine aT_lt ?_)
    | ((with_reducible show aT _ (.Compare _ [.GtE] [_] _) _ _ _); refine aT_ge ?_)
    | ((with_reducible show aT _ (.Compare _ [.LtE] [_] _) _ _ _); refine aT_le ?_)
    | ((with_reducible show aT _ (.Compare _ [.Eq] [_] _) _ _ _); refine aT_eq (Un.h (by assumption)) ?_)
    | ((with_reducible show aT _ (.Compare _ [.NotEq] [_] _) _ _ _); refine aT_ne (Un.h (by assumption)) ?_)
    | ((with_reducible show aT _ (.Compare _ [.In] [_] _) _ _ _); refine aT_in (Un.h (by assumption)) ?_)
    | ((with_reducible show aT _ (.Compare _ [.NotIn] [_] _) _ _ _); refine aT_notIn (Un.h (by assumption)) ?_)
    | ((with_reducible show aT _ (.Compare _ [.Is] [_] _) _ _ _); refine aT_isN ?_)
    | ((with_reducible show aT _ (.Compare _ [.IsNot] [_] _) _ _ _); refine aT_notN ?_)
    | ((with_reducible show aT _ (.UnaryOp .Not _ _) _ _ _); refine aT_not ?_)
    | ((with_reducible show aT _ (.BoolOp _ _ _) _ _ _); refine aT_W ?_)
    | ((with_reducible show aW _ (.BoolOp .And (_ :: _ :: _) _) _ _ _); refine aW_and ?_)
    | ((with_reducible show aW _ (.BoolOp .Or (_ :: _ :: _) _) _ _ _); refine aW_or ?_)
    | ((with_reducible show aW _ (.BoolOp .And [_] _) _ _ _); refine aW_and1 ?_)
    | ((with_reducible show aW _ (.BoolOp .Or [_] _) _ _ _); refine aW_or1 ?_)
    | ((with_reducible show aA _ (_ :: _) _ _ _); refine aA_cons ?_)
    | ((with_reducible show aA _ [] _ _ _); refine aA_nil ?_)
    | ((with_reducible show aO _ none _ _ _); refine aO_none ?_)
    | ((with_reducible show aO _ (some _) _ _ _); refine aO_some ?_)
    | ((with_reducible show aE _ (.Name _ _) _ _ _); refine aE_v (by assumption) (by walk_at "n") (by rfl) (by rfl) ?_)
    | ((with_reducible show aE _ (.Constant (.str _) _ _) _ _ _); refine aE_str ?_)
    | ((with_reducible show aE _ (.Constant (.int _) _ _) _ _ _); refine aE_int ?_)
    | ((with_reducible show aE _ (.Constant (.bool _) _ _) _ _ _); refine aE_bl ?_)
    | ((with_reducible show aE _ (.Constant .none _ _) _ _ _); refine aE_non ?_)
    | ((with_reducible show aE _ (.BinOp _ .Add _ _) _ _ _); refine aE_add ?_)
    | ((with_reducible show aE _ (.BinOp _ .Sub _ _) _ _ _); refine aE_sub ?_)
    | ((with_reducible show aE _ (.BinOp _ .Mult _ _) _ _ _); refine aE_mul ?_)
    | ((with_reducible show aE _ (.BinOp _ .Mod _ _) _ _ _); refine aE_mod ?_)
    | ((with_reducible show aE _ (.BinOp _ .FloorDiv _ _) _ _ _); refine aE_fdiv ?_)
    | ((with_reducible show aE _ (.BinOp _ .Pow _ _) _ _ _); refine aE_pow ?_)
    | ((with_reducible show aE _ (.Subscript _ (.Slice _ _ none _) _) _ _ _); refine aE_slice ?_)
    | ((with_reducible show aE _ (.Subscript _ _ _) _ _ _); refine aE_sub_ (Un.h (by assumption)) ?_)
    | ((with_reducible show aE _ (.Tuple _ _ _) _ _ _); refine aE_tup ?_)
    | ((with_reducible show aE _ (.List _ _) _ _ _); refine aE_lst ?_)
    | ((with_reducible show aE _ (.IfExp _ _ _ _) _ _ _); refine aE_if ?_)
    | ((with_reducible show aE _ (.Compare _ [.Lt] [_] _) _ _ _); refine aE_lt ?_)
    | ((with_reducible show aE _ (.Compare _ [.LtE] [_] _) _ _ _); refine aE_le ?_)
    | ((with_reducible show aE _ (.Compare _ [.Gt] [_] _) _ _ _); refine aE_gt ?_)
    | ((with_reducible show aE _ (.BoolOp .And (_ :: _ :: _) _) _ _ _); refine aE_and ?_)
    | ((with_reducible show aE _ (.BoolOp .Or (_ :: _ :: _) _) _ _ _); refine aE_or ?_)
    | ((with_reducible show aE _ (.BoolOp _ [_] _) _ _ _); refine aE_one ?_)
    | ((with_reducible show aE _ (.Call (.Name (Str.ofString "len") _) [_] [] _) _ _ _); refine aE_len (Nm.len (by assumption)) ?_)
    | ((with_reducible show aE _ (.Call (.Name (Str.ofString "abs") _) [_] [] _) _ _ _); refine aE_abs (Nm.abs (by assumption)) ?_)
    | ((with_reducible show aE _ (.Call (.Name (Str.ofString "min") _) [_, _] [] _) _ _ _); refine aE_min2 (by rfl) (Nm.min (by assumption)) ?_)
    | ((with_reducible show aE _ (.Call (.Name (Str.ofString "max") _) [_, _] [] _) _ _ _); refine aE_max2 (by rfl) (Nm.max (by assumption)) ?_)
    | ((with_reducible show aE _ (.Call (.Name (Str.ofString "sorted") _) [_] [] _) _ _ _); refine aE_sorted (by rfl) (Nm.sorted (by assumption)) ?_)
    | ((with_reducible show aE _ (.Call (.Name (Str.ofString "list") _) [_] [] _) _ _ _); refine aE_list (by rfl) (Nm.list (by assumption)) ?_)
    | ((with_reducible show aE _ (.Call (.Name (Str.ofString "sum") _) [_] [] _) _ _ _); refine aE_sum (by rfl) (Nm.sum (by assumption)) ?_)
    | ((with_reducible show aE _ (.Call (.Name (Str.ofString "dict") _) [_] [] _) _ _ _); refine aE_dict (by rfl) (Nm.dict (by assumption)) ?_)
    | ((with_reducible show aE _ (.Call (.Name (Str.ofString "all") _) [_] [] _) _ _ _); refine aE_all (by rfl) (Nm.all (by assumption)) ?_)
    | ((with_reducible show aE _ (.Call (.Name (Str.ofString "int") _) [_] [] _) _ _ _); refine aE_intb (Nm.int (by assumption)) ?_)
    | ((with_reducible show aE _ (.Call (.Name (Str.ofString "tuple") _) [_] [] _) _ _ _); refine aE_tuple (Nm.tuple (by assumption)) ?_)
    | ((with_reducible show aE _ (.Call (.Attribute _ (Str.ofString "append") _) [_] [] _) _ _ _); refine aE_append ?_))
  | `(tactic| walk_at "w") => `(tactic| repeat walk_at "x")
theorem oIxAny {S : Store} {Q : D → Store → Prop} {l : List D} {k : Int} (h0 : 0 ≤ k) (h1 : k < l.length) (h : ∀ z ∈ l, Q z S) : aIx (.lst l) (.int k) S Q := by
  obtain ⟨z, hz, e⟩ := mem_atI h0 h1
  exact oIxL rL e (h z hz)
/-! a weight -/
abbrev sHeft : Stmt := top 52
abbrev nHeft : List Str := ["pen"]
theorem scHeft : FnScope nHeft ["pen"] (defScope sHeft) := ⟨rfl, rfl, rfl, by decide +kernel, rfl, by decide +kernel, by decide +kernel⟩
def spHeft : ASp := fun ds S R => ∃ (i : Nat) (p : Addr) (n : Nat), ds = [.adr p] ∧ S[i]? = some (p, .pen n) ∧ n < 2 ^ 60 ∧ ∀ k : Int, 0 ≤ k → k ≤ 9999999 → R (.int k) (S.set i (p, .pen (n + 1)))
section
variable {P : Program} {w : World} {K : PySem.W.Frag} {mg : Str → Option Value} {bse : Heap}
theorem bHeft (M : Nm mg) (cD : CalA P w K mg bse 2 "_law_draw" spDraw []) : BodyA P w K mg bse nHeft "_law_heft" sHeft 2 spHeft := by
  intro f cdv A outer s H E hr ds S R ⟨i, p, n, eds, hi, hn, hR⟩
  subst eds
  have hu : Un _ := ⟨hr.units⟩
  have nd : Names nHeft := ⟨scHeft.nd⟩
  rw [← set_same hi]
  walk_at "w"
  refine ⟨by show 10 ≤ 100000; decide, Or.inl ?_⟩
  refine aE_call cD hr ?_
  walk_at "w"
  refine oDraw hi (by decide) (by decide) (by omega) fun k k0 k1 => ?_
  refine oIxAny k0 (by simpa using k1) fun z hz => ?_
  simp only [List.mem_cons, List.not_mem_nil, or_false] at hz
  rcases hz with e | e | e | e | e | e | e | e | e | e <;> subst e <;> exact hR _ (by decide) (by decide)
end
theorem oHeft {S : Store} {R : D → Store → Prop} {i n : Nat} {p : Addr} {x : Addr × D} (hi : S[i]? = some x) (hn : n < 2 ^ 60) (h : ∀ k : Int, 0 ≤ k → k ≤ 9999999 → R (.int k) (S.set i (p, .pen (n + 1)))) : spHeft [.adr p] (S.set i (p, .pen n)) R :=
  ⟨i, p, n, rfl, set_get hi, hn, fun k k0 k1 => by rw [List.set_set]; exact h k k0 k1⟩
end W85

/-! Typed data: halls, stands, deeds, acts. -/
namespace W85
open PySem L2 DL
structure Row where
  room : Str
  least : Int
  most : Option Int
structure Gate where
  a : Str
  b : Str
  both : Bool
  rows : List Row
structure Wk where
  name : Str
  heft : Int
  hands : Int
structure HallT where
  rooms : List Str
  doors : List (Str × Gate)
  stones : List (Str × Int)
  folk : List Wk
structure StandT where
  turn : Nat
  rooms : List Str
  places : List Str
abbrev rowD (r : Row) : D := .tup [.str r.room, .int r.least, oI r.most]
def wayS (b : Bool) : Str := if b then "both" else "on"
abbrev rowsD (l : List Row) : D := .tup (l.map rowD)
abbrev gateD (g : Gate) : D := .tup [.str g.a, .str g.b, .str (wayS g.both), rowsD g.rows]
abbrev wkD (w : Wk) : D := .tup [.str w.name, .int w.heft, .int w.hands]
abbrev strsD (l : List Str) : D := .tup (l.map D.str)
abbrev standD (s : StandT) : D := .tup [.int s.turn, strsD s.rooms, strsD s.places]
def dnames (h : HallT) : List Str := h.doors.map (·.1)
def snames (h : HallT) : List Str := h.stones.map (·.1)
def fnames (h : HallT) : List Str := h.folk.map (·.name)
/-- the program's hall -/
def hallF (h : HallT) : List (Str × D) := [("chambers", .lst (h.rooms.map D.str)), ("gates", .dct (dctS gateD h.doors)), ("weights", .dct (dctS D.int h.stones)), ("folk", .lst ((fnames h).map D.str)),
  ("bodies", .dct (dctS (fun w : Wk => .tup [.int w.heft, .int w.hands]) (h.folk.map fun w => (w.name, w))))]
abbrev hallI (C : Addr) (h : HallT) : D := .ins C (hallF h)
/-- the law's hall, its keys in any order -/
structure HallL (L : List (Key × D)) (h : HallT) : Prop where
  rooms : valP L (.inr "rooms") = some (.lst (h.rooms.map D.str))
  doors : valP L (.inr "doors") = some (.dct (dctS gateD h.doors))
  stones : valP L (.inr "stones") = some (.dct (dctS D.int h.stones))
  walkers : valP L (.inr "walkers") = some (.lst (h.folk.map wkD))
structure GateOk (rooms : List Str) (g : Gate) : Prop where
  a : g.a ∈ rooms
  b : g.b ∈ rooms
  ord : g.both = true → ¬ g.b.cps.toList < g.a.cps.toList
  rows : (g.rows.map (·.room)).Sublist rooms
structure HallOk (h : HallT) : Prop where
  r0 : h.rooms ≠ []
  r4 : h.rooms.length ≤ 4
  rs : srt h.rooms = h.rooms
  rn : h.rooms.Nodup
  d5 : h.doors.length ≤ 5
  ds : srt (dnames h) = dnames h
  dn : (dnames h).Nodup
  dk : ∀ x ∈ dnames h, nameOk x
  dg : ∀ d ∈ h.doors, GateOk h.rooms d.2
  s3 : h.stones.length ≤ 3
  ss : srt (snames h) = snames h
  sn : (snames h).Nodup
  sk : ∀ x ∈ snames h, nameOk x
  f0 : h.folk ≠ []
  f3 : h.folk.length ≤ 3
  fn : (fnames h).Nodup
  dj : ∀ x ∈ snames h, x ∉ fnames h
structure StandOk (h : HallT) (s : StandT) : Prop where
  t : s.turn < h.folk.length
  rl : s.rooms.length = h.folk.length
  r : ∀ x ∈ s.rooms, x ∈ h.rooms
  pl : s.places.length = h.stones.length
  p : ∀ x ∈ s.places, x ∈ h.rooms ∨ x ∈ fnames h
/-! small numbers, good names: for what is shown -/
abbrev I7 (k : Int) : Prop := 0 ≤ k ∧ k < 100000000
structure RowB (r : Row) : Prop where
  l : I7 r.least
  m : ∀ k, r.most = some k → I7 k
structure HallB (h : HallT) : Prop where
  rk : ∀ x ∈ h.rooms, nameOk x
  fk : ∀ x ∈ fnames h, nameOk x
  sb : ∀ x ∈ h.stones, I7 x.2
  fb : ∀ x ∈ h.folk, I7 x.heft ∧ I7 x.hands
  gb : ∀ d ∈ h.doors, ∀ r ∈ d.2.rows, RowB r
theorem snocB {α : Type} {P : α → Prop} {l : List α} {a : α} (h : ∀ x ∈ l, P x) (ha : P a) : ∀ x ∈ l ++ [a], P x := fun x hx => by
  rcases List.mem_append.mp hx with h1 | h1
  · exact h x h1
  · rw [List.mem_singleton.mp h1]; exact ha
theorem sum_nn : ∀ {l : List Int}, (∀ k ∈ l, 0 ≤ k) → 0 ≤ l.sum
  | [], _ => by simp
  | a :: l, h => by
    rw [List.sum_cons]
    have h1 := h a List.mem_cons_self
    have h2 := sum_nn (l := l) fun k hk => h k (List.mem_cons_of_mem _ hk)
    omega
theorem hefts_b {folk : List Wk} {stones : List (Str × Int)} (hf : ∀ x ∈ folk, I7 x.heft ∧ I7 x.hands) (hs : ∀ x ∈ stones, I7 x.2) : ∀ k ∈ folk.map (·.heft) ++ stones.map (·.2), I7 k := fun k hk => by
  rcases List.mem_append.mp hk with h | h
  · obtain ⟨x, hx, e⟩ := List.mem_map.mp h
    rw [← e]; exact (hf x hx).1
  · obtain ⟨x, hx, e⟩ := List.mem_map.mp h
    rw [← e]; exact hs x hx
/-! what rooms bear -/
abbrev Wts := List (Str × Int)
def wAt (w : Wts) (r : Str) : Int := (valP w r).getD 0
def wAdd (w : Wts) (r : Str) (k : Int) : Wts := putP w r (wAt w r + k)
def whereT (h : HallT) (s : StandT) : List (Str × Str) := (fnames h).zip s.rooms
def spotT (h : HallT) (s : StandT) (p : Str) : Str := (valP (whereT h s) p).getD p
def bFolk (aside : Option Str) (w : Wts) (x : Wk × Str) : Wts := if aside ≠ some x.1.name then wAdd w x.2 x.1.heft else w
def bStone (h : HallT) (s : StandT) (aside : Option Str) (w : Wts) (x : (Str × Int) × Str) : Wts := if aside ≠ some x.2 then wAdd w (spotT h s x.2) x.1.2 else w
def borne0 (h : HallT) : Wts := h.rooms.map fun r => (r, 0)
def borne1 (h : HallT) (s : StandT) (aside : Option Str) : Wts := (h.folk.zip s.rooms).foldl (bFolk aside) (borne0 h)
def borneT (h : HallT) (s : StandT) (aside : Option Str) : Wts := (h.stones.zip s.places).foldl (bStone h s aside) (borne1 h s aside)
def wtsD (w : Wts) : List (Key × D) := dctS D.int w
def metT (w : Wts) (r : Row) : Bool := decide (r.least ≤ wAt w r.room) && (match r.most with | none => true | some m => decide (wAt w r.room ≤ m))
def openW (w : Wts) (g : Gate) : Bool := g.rows.all (metT w)
def openT (h : HallT) (s : StandT) (aside : Option Str) : List Str := (h.doors.filter fun d => openW (borneT h s aside) d.2).map (·.1)
def farT (g : Gate) (room : Str) : Option Str := if room = g.a then some g.b else if room = g.b ∧ g.both = true then some g.a else none
theorem wAdd_keys {w : Wts} {r : Str} {k : Int} (h : r ∈ w.map (·.1)) : (wAdd w r k).map (·.1) = w.map (·.1) := putP_keys h
theorem wAt_some {w : Wts} {r : Str} (h : r ∈ w.map (·.1)) : valP w r = some (wAt w r) := by
  obtain ⟨v, e⟩ := valP_mem h
  unfold wAt
  rw [e]; rfl
theorem valP_zip_mem {a b : List Str} {k v : Str} (h : valP (a.zip b) k = some v) : v ∈ b := (List.of_mem_zip (valP_some_mem h)).2
theorem spot_ok {h : HallT} {s : StandT} (so : StandOk h s) {p : Str} (hp : p ∈ h.rooms ∨ p ∈ fnames h) : spotT h s p ∈ h.rooms := by
  unfold spotT
  cases e : valP (whereT h s) p with
  | some v => exact so.r v (valP_zip_mem e)
  | none =>
    rcases hp with hp | hp
    · exact hp
    · exfalso
      have : p ∈ (whereT h s).map (·.1) := by
        unfold whereT
        rw [List.map_fst_zip (by unfold fnames; rw [List.length_map, so.rl]; exact Nat.le_refl _)]
        exact hp
      obtain ⟨v, e2⟩ := valP_mem this
      rw [e] at e2; cases e2
theorem borne0_keys (h : HallT) : (borne0 h).map (·.1) = h.rooms := by unfold borne0; rw [List.map_map]; exact List.map_id _
theorem fold_keys {α : Type} {step : Wts → α → Wts} {rooms : List Str} : ∀ {l : List α} {w : Wts}, (∀ x ∈ l, ∀ w : Wts, w.map (·.1) = rooms → (step w x).map (·.1) = rooms) → w.map (·.1) = rooms → (l.foldl step w).map (·.1) = rooms
  | [], w, _, h => h
  | x :: l, w, hs, h => fold_keys (l := l) (w := step w x) (fun y hy => hs y (List.mem_cons_of_mem _ hy)) (hs x List.mem_cons_self w h)
theorem bFolk_keys {h : HallT} {s : StandT} (so : StandOk h s) {a : Option Str} {x : Wk × Str} (hx : x ∈ h.folk.zip s.rooms) {w : Wts} (hw : w.map (·.1) = h.rooms) : (bFolk a w x).map (·.1) = h.rooms := by
  unfold bFolk
  split
  · rw [wAdd_keys (by rw [hw]; exact so.r _ (List.of_mem_zip hx).2), hw]
  · exact hw
theorem bStone_keys {h : HallT} {s : StandT} (so : StandOk h s) {a : Option Str} {x : (Str × Int) × Str} (hx : x ∈ h.stones.zip s.places) {w : Wts} (hw : w.map (·.1) = h.rooms) : (bStone h s a w x).map (·.1) = h.rooms := by
  unfold bStone
  split
  · rw [wAdd_keys (by rw [hw]; exact spot_ok so (so.p _ (List.of_mem_zip hx).2)), hw]
  · exact hw
theorem borne1_keys {h : HallT} {s : StandT} (so : StandOk h s) (a : Option Str) : (borne1 h s a).map (·.1) = h.rooms := fold_keys (fun _ hx _ hw => bFolk_keys so hx hw) (borne0_keys h)
theorem borneT_keys {h : HallT} {s : StandT} (so : StandOk h s) (a : Option Str) : (borneT h s a).map (·.1) = h.rooms := fold_keys (fun _ hx _ hw => bStone_keys so hx hw) (borne1_keys so a)
end W85

namespace W85
open PySem L2 DL
structure HallC (K : PySem.W.Frag) (C : Addr) : Prop where
  c : Cls K C
  n_chambers : NoAttr K C "chambers"
  n_gates : NoAttr K C "gates"
  n_weights : NoAttr K C "weights"
  n_folk : NoAttr K C "folk"
  n_bodies : NoAttr K C "bodies"
structure MomC (K : PySem.W.Frag) (C : Addr) : Prop where
  c : Cls K C
  n_ground : NoAttr K C "ground"
  n_pose : NoAttr K C "pose"
  n_act : NoAttr K C "act"
  n_plan : NoAttr K C "plan"
structure BookC (K : PySem.W.Frag) (C : Addr) : Prop where
  c : Cls K C
  n_past : NoAttr K C "past"
  n_undone : NoAttr K C "undone"
structure PlanC (K : PySem.W.Frag) (C : Addr) : Prop where
  c : Cls K C
  n_aim : NoAttr K C "aim"
  n_tail : NoAttr K C "tail"
end W85

namespace W85
open PySem L2 DL
local macro_rules
  | `(tactic| walk_at "n") => `(tactic| repeat (first | with_reducible exact At.z | with_reducible apply At.s))
  | `(tactic| walk_at "x") => `(tactic| first
    | ((with_reducible show aSs _ (_ :: _) _ _ _); refine aSs_cons ?_)
    | ((with_reducible show aSs _ [] _ _ _); refine aSs_nil ?_)
    | ((with_reducible show aSs _ _ _ _ _); refine aSs_cons ?_)
    | ((with_reducible show aA _ (_ :: _) _ _ _); refine aA_cons ?_)
    | ((with_reducible show aA _ [] _ _ _); refine aA_nil ?_)
    | ((with_reducible show aO _ none _ _ _); refine aO_none ?_)
    | ((with_reducible show aO _ (some _) _ _ _); refine aO_some ?_)
    | ((with_reducible show aE _ _ _ _ _); first
      | ((with_reducible show aE _ (.Name (Str.ofString "WAIT") _) _ _ _); refine aE_gl (by assumption) ?_)
      | ((with_reducible show aE _ (.Name (Str.ofString "LETTERS") _) _ _ _); refine aE_gl (by assumption) ?_)
      | ((with_reducible show aE _ (.Name _ _) _ _ _); refine aE_v (by assumption) (by walk_at "n") (by rfl) (by rfl) ?_)
      | ((with_reducible show aE _ (.Constant (.str _) _ _) _ _ _); refine aE_str ?_)
      | ((with_reducible show aE _ (.Constant (.int _) _ _) _ _ _); refine aE_int ?_)
      | ((with_reducible show aE _ (.Constant (.bool _) _ _) _ _ _); refine aE_bl ?_)
      | ((with_reducible show aE _ (.Constant .none _ _) _ _ _); refine aE_non ?_)
      | ((with_reducible show aE _ (.BinOp _ .Add _ _) _ _ _); refine aE_add ?_)
      | ((with_reducible show aE _ (.BinOp _ .Sub _ _) _ _ _); refine aE_sub ?_)
      | ((with_reducible show aE _ (.BinOp _ .Mult _ _) _ _ _); refine aE_mul ?_)
      | ((with_reducible show aE _ (.BinOp _ .Mod _ _) _ _ _); refine aE_mod ?_)
      | ((with_reducible show aE _ (.BinOp _ .FloorDiv _ _) _ _ _); refine aE_fdiv ?_)
      | ((with_reducible show aE _ (.BinOp _ .Pow _ _) _ _ _); refine aE_pow ?_)
      | ((with_reducible show aE _ (.Subscript _ (.Slice _ _ none _) _) _ _ _); refine aE_slice ?_)
      | ((with_reducible show aE _ (.Subscript _ _ _) _ _ _); refine aE_sub_ (Un.h (by assumption)) ?_)
      | ((with_reducible show aE _ (.Tuple _ _ _) _ _ _); refine aE_tup ?_)
      | ((with_reducible show aE _ (.List _ _) _ _ _); refine aE_lst ?_)
      | ((with_reducible show aE _ (.IfExp _ _ _ _) _ _ _); refine aE_if ?_)
      | ((with_reducible show aE _ (.Compare _ [.Lt] [_] _) _ _ _); refine aE_lt ?_)
      | ((with_reducible show aE _ (.Compare _ [.LtE] [_] _) _ _ _); refine aE_le ?_)
      | ((with_reducible show aE _ (.Compare _ [.Gt] [_] _) _ _ _); refine aE_gt ?_)
      | ((with_reducible show aE _ (.BoolOp .And (_ :: _ :: _) _) _ _ _); refine aE_and ?_)
      | ((with_reducible show aE _ (.BoolOp .Or (_ :: _ :: _) _) _ _ _); refine aE_or ?_)
      | ((with_reducible show aE _ (.BoolOp _ [_] _) _ _ _); refine aE_one ?_)
      | ((with_reducible show aE _ (.Call (.Name (Str.ofString "len") _) [_] [] _) _ _ _); refine aE_len (Nm.len (by assumption)) ?_)
      | ((with_reducible show aE _ (.Call (.Name (Str.ofString "abs") _) [_] [] _) _ _ _); refine aE_abs (Nm.abs (by assumption)) ?_)
      | ((with_reducible show aE _ (.Call (.Name (Str.ofString "min") _) [_, _] [] _) _ _ _); refine aE_min2 (by rfl) (Nm.min (by assumption)) ?_)
      | ((with_reducible show aE _ (.Call (.Name (Str.ofString "max") _) [_, _] [] _) _ _ _); refine aE_max2 (by rfl) (Nm.max (by assumption)) ?_)
      | ((with_reducible show aE _ (.Call (.Name (Str.ofString "sorted") _) [_] [] _) _ _ _); refine aE_sorted (by rfl) (Nm.sorted (by assumption)) ?_)
      | ((with_reducible show aE _ (.Call (.Name (Str.ofString "list") _) [.Call (.Attribute _ (Str.ofString "values") _) [] [] _] [] _) _ _ _); refine aE_listVals rfl (Nm.list (by assumption)) ?_)
      | ((with_reducible show aE _ (.Call (.Name (Str.ofString "list") _) [.Call (.Attribute _ (Str.ofString "items") _) [] [] _] [] _) _ _ _); refine aE_listItems rfl (Nm.list (by assumption)) ?_)
      | ((with_reducible show aE _ (.Dict [] [] _) _ _ _); refine aE_dnew ?_)
      | ((with_reducible show aE _ (.Call (.Name (Str.ofString "list") _) [_] [] _) _ _ _); refine aE_list (by rfl) (Nm.list (by assumption)) ?_)
      | ((with_reducible show aE _ (.Call (.Name (Str.ofString "sum") _) [_] [] _) _ _ _); refine aE_sum (by rfl) (Nm.sum (by assumption)) ?_)
      | ((with_reducible show aE _ (.Call (.Name (Str.ofString "dict") _) [.Call (.Name (Str.ofString "zip") _) [_, _] [] _] [] _) _ _ _); refine aE_dictZip rfl (Nm.dict (by assumption)) (Nm.zip (by assumption)) ?_)
      | ((with_reducible show aE _ (.Call (.Name (Str.ofString "dict") _) [_] [] _) _ _ _); refine aE_dict (by rfl) (Nm.dict (by assumption)) ?_)
      | ((with_reducible show aE _ (.Call (.Name (Str.ofString "all") _) [_] [] _) _ _ _); refine aE_all (by rfl) (Nm.all (by assumption)) ?_)
      | ((with_reducible show aE _ (.Call (.Name (Str.ofString "int") _) [_] [] _) _ _ _); refine aE_intb (Nm.int (by assumption)) ?_)
      | ((with_reducible show aE _ (.Call (.Name (Str.ofString "tuple") _) [_] [] _) _ _ _); refine aE_tuple (Nm.tuple (by assumption)) ?_)
      | ((with_reducible show aE _ (.Call (.Attribute _ (Str.ofString "append") _) [_] [] _) _ _ _); refine aE_append ?_)
      | ((with_reducible show aE _ (.Compare _ [.Lt, .Lt] [_, _] _) _ _ _); refine aE_chainLt ?_)
      | ((with_reducible show aE _ (.Compare _ [.Eq] [_] _) _ _ _); refine aE_eq (Un.h (by assumption)) ?_)
      | ((with_reducible show aE _ (.Compare _ [.NotEq] [_] _) _ _ _); refine aE_ne (Un.h (by assumption)) ?_)
      | ((with_reducible show aE _ (.Compare _ [.In] [_] _) _ _ _); refine aE_in (Un.h (by assumption)) ?_)
      | ((with_reducible show aE _ (.Compare _ [.NotIn] [_] _) _ _ _); refine aE_notIn (Un.h (by assumption)) ?_)
      | ((with_reducible show aE _ (.Compare _ [.Is] [_] _) _ _ _); refine aE_isN ?_)
      | ((with_reducible show aE _ (.Compare _ [.IsNot] [_] _) _ _ _); refine aE_notN ?_)
      | ((with_reducible show aE _ (.UnaryOp .USub _ _) _ _ _); refine aE_neg ?_)
      | ((with_reducible show aE _ (.UnaryOp .Not _ _) _ _ _); refine aE_not ?_)
      | ((with_reducible show aE _ (.Call (.Attribute _ (Str.ofString "index") _) [_] [] _) _ _ _); refine aE_index ?_)
      | ((with_reducible show aE _ (.Call (.Attribute _ (Str.ofString "get") _) [_, _] [] _) _ _ _); refine aE_get2 (Un.h (by assumption)) ?_)
      | ((with_reducible show aE _ (.Call (.Attribute _ (Str.ofString "clear") _) [] [] _) _ _ _); refine aE_clear ?_)
      | ((with_reducible show aE _ (.Attribute _ (Str.ofString "chambers") _) _ _ _); refine aE_fld (HallC.c (by assumption)) (HallC.n_chambers (by assumption)) ?_)
      | ((with_reducible show aE _ (.Attribute _ (Str.ofString "gates") _) _ _ _); refine aE_fld (HallC.c (by assumption)) (HallC.n_gates (by assumption)) ?_)
      | ((with_reducible show aE _ (.Attribute _ (Str.ofString "weights") _) _ _ _); refine aE_fld (HallC.c (by assumption)) (HallC.n_weights (by assumption)) ?_)
      | ((with_reducible show aE _ (.Attribute _ (Str.ofString "folk") _) _ _ _); refine aE_fld (HallC.c (by assumption)) (HallC.n_folk (by assumption)) ?_)
      | ((with_reducible show aE _ (.Attribute _ (Str.ofString "bodies") _) _ _ _); refine aE_fld (HallC.c (by assumption)) (HallC.n_bodies (by assumption)) ?_)
      | ((with_reducible show aE _ (.Attribute _ (Str.ofString "ground") _) _ _ _); refine aE_fld (MomC.c (by assumption)) (MomC.n_ground (by assumption)) ?_)
      | ((with_reducible show aE _ (.Attribute _ (Str.ofString "pose") _) _ _ _); refine aE_fld (MomC.c (by assumption)) (MomC.n_pose (by assumption)) ?_)
      | ((with_reducible show aE _ (.Attribute _ (Str.ofString "act") _) _ _ _); refine aE_fld (MomC.c (by assumption)) (MomC.n_act (by assumption)) ?_)
      | ((with_reducible show aE _ (.Attribute _ (Str.ofString "plan") _) _ _ _); refine aE_fld (MomC.c (by assumption)) (MomC.n_plan (by assumption)) ?_)
      | ((with_reducible show aE _ (.Attribute _ (Str.ofString "past") _) _ _ _); refine aE_fld (BookC.c (by assumption)) (BookC.n_past (by assumption)) ?_)
      | ((with_reducible show aE _ (.Attribute _ (Str.ofString "undone") _) _ _ _); refine aE_fld (BookC.c (by assumption)) (BookC.n_undone (by assumption)) ?_)
      | ((with_reducible show aE _ (.Attribute _ (Str.ofString "aim") _) _ _ _); refine aE_fld (PlanC.c (by assumption)) (PlanC.n_aim (by assumption)) ?_)
      | ((with_reducible show aE _ (.Attribute _ (Str.ofString "tail") _) _ _ _); refine aE_fld (PlanC.c (by assumption)) (PlanC.n_tail (by assumption)) ?_)
      | ((with_reducible show aE _ (.Call (.Name (Str.ofString "isinstance") _) [_, .Name (Str.ofString "str") _] [] _) _ _ _); refine aE_isS (Nm.isinstance (by assumption)) (Nm.str (by assumption)) ?_)
      | ((with_reducible show aE _ (.Call (.Name (Str.ofString "isinstance") _) [_, .Name (Str.ofString "tuple") _] [] _) _ _ _); refine aE_isT (Nm.isinstance (by assumption)) (Nm.tuple (by assumption)) ?_)
      | ((with_reducible show aE _ (.Call (.Name _ _) (_ :: _) [] _) _ _ _); refine aE_call (by assumption) (by assumption) ?_)
      | ((with_reducible show aE _ (.Call (.Attribute _ _ _) [] [] _) _ _ _); refine aE_meth0 (by assumption) (by assumption) ?_)
      | ((with_reducible show aE _ (.Call (.Attribute _ _ _) (_ :: _) [] _) _ _ _); refine aE_meth (by assumption) (by assumption) ?_)
      )
    | ((with_reducible show aS _ _ _ _ _); first
      | ((with_reducible show aS _ (.Assign [.Attribute _ (Str.ofString "chambers") _] _ _) _ _ _); refine aS_fld (HallC.c (by assumption)) (HallC.n_chambers (by assumption)) ?_)
      | ((with_reducible show aS _ (.Assign [.Attribute _ (Str.ofString "gates") _] _ _) _ _ _); refine aS_fld (HallC.c (by assumption)) (HallC.n_gates (by assumption)) ?_)
      | ((with_reducible show aS _ (.Assign [.Attribute _ (Str.ofString "weights") _] _ _) _ _ _); refine aS_fld (HallC.c (by assumption)) (HallC.n_weights (by assumption)) ?_)
      | ((with_reducible show aS _ (.Assign [.Attribute _ (Str.ofString "folk") _] _ _) _ _ _); refine aS_fld (HallC.c (by assumption)) (HallC.n_folk (by assumption)) ?_)
      | ((with_reducible show aS _ (.Assign [.Attribute _ (Str.ofString "bodies") _] _ _) _ _ _); refine aS_fld (HallC.c (by assumption)) (HallC.n_bodies (by assumption)) ?_)
      | ((with_reducible show aS _ (.Assign [.Attribute _ (Str.ofString "ground") _] _ _) _ _ _); refine aS_fld (MomC.c (by assumption)) (MomC.n_ground (by assumption)) ?_)
      | ((with_reducible show aS _ (.Assign [.Attribute _ (Str.ofString "pose") _] _ _) _ _ _); refine aS_fld (MomC.c (by assumption)) (MomC.n_pose (by assumption)) ?_)
      | ((with_reducible show aS _ (.Assign [.Attribute _ (Str.ofString "act") _] _ _) _ _ _); refine aS_fld (MomC.c (by assumption)) (MomC.n_act (by assumption)) ?_)
      | ((with_reducible show aS _ (.Assign [.Attribute _ (Str.ofString "plan") _] _ _) _ _ _); refine aS_fld (MomC.c (by assumption)) (MomC.n_plan (by assumption)) ?_)
      | ((with_reducible show aS _ (.Assign [.Attribute _ (Str.ofString "past") _] _ _) _ _ _); refine aS_fld (BookC.c (by assumption)) (BookC.n_past (by assumption)) ?_)
      | ((with_reducible show aS _ (.Assign [.Attribute _ (Str.ofString "undone") _] _ _) _ _ _); refine aS_fld (BookC.c (by assumption)) (BookC.n_undone (by assumption)) ?_)
      | ((with_reducible show aS _ (.Assign [.Attribute _ (Str.ofString "aim") _] _ _) _ _ _); refine aS_fld (PlanC.c (by assumption)) (PlanC.n_aim (by assumption)) ?_)
      | ((with_reducible show aS _ (.Assign [.Attribute _ (Str.ofString "tail") _] _ _) _ _ _); refine aS_fld (PlanC.c (by assumption)) (PlanC.n_tail (by assumption)) ?_)
      | ((with_reducible show aS _ (.If _ _ _ _) _ _ _); refine aS_if ?_)
      | ((with_reducible show aS _ (.Assign [.Name _ _] _ _) _ _ _); refine @aS_s _ _ _ _ _ _ _ _ _ _ (by assumption) (by walk_at "n") (by rfl) ?_ (by first | exact Or.inl rfl | exact Or.inr rfl) (by rfl) (by first | exact Or.inl rfl | exact Or.inr rfl))
      | ((with_reducible show aS _ (.Assign [.Tuple [.Name _ _, .Name _ _] _ _] (.Tuple [_, _] _ _) _) _ _ _); refine aS_p2 (by assumption) (by walk_at "n") (by walk_at "n") (by decide) (by rfl) (by rfl) ?_)
      | ((with_reducible show aS _ (.Assign [.Tuple [.Name _ _, .Name _ _, .Name _ _] _ _] (.Tuple [_, _, _] _ _) _) _ _ _); refine aS_p3 (by assumption) (by walk_at "n") (by walk_at "n") (by walk_at "n") (by decide) (by decide) (by decide) (by rfl) (by rfl) ?_)
      | ((with_reducible show aS _ (.Assign [.Subscript _ _ _] _ _) _ _ _); refine aS_put (Un.h (by assumption)) ?_)
      | ((with_reducible show aS _ (.Return (some _) _) _ _ _); refine aS_ret ?_)
      | ((with_reducible show aS _ (.Expr _ _) _ _ _); refine aS_expr ?_)
      | ((with_reducible show aS _ (.Pass _) _ _ _); refine aS_pass ?_)
      )
    | ((with_reducible show aT _ _ _ _ _); first
      | ((with_reducible show aT _ (.Call (.Name (Str.ofString "isinstance") _) [_, .Name (Str.ofString "str") _] [] _) _ _ _); refine aT_isS (Nm.isinstance (by assumption)) (Nm.str (by assumption)) ?_)
      | ((with_reducible show aT _ (.Call (.Name (Str.ofString "isinstance") _) [_, .Name (Str.ofString "tuple") _] [] _) _ _ _); refine aT_isT (Nm.isinstance (by assumption)) (Nm.tuple (by assumption)) ?_)
      | ((with_reducible show aT _ (.Compare _ [.Gt] [_] _) _ _ _); refine aT_gt ?_)
      | ((with_reducible show aT _ (.Compare _ [.Lt] [_] _) _ _ _); refine aT_lt ?_)
      | ((with_reducible show aT _ (.Compare _ [.GtE] [_] _) _ _ _); refine aT_ge ?_)
      | ((with_reducible show aT _ (.Compare _ [.LtE] [_] _) _ _ _); refine aT_le ?_)
      | ((with_reducible show aT _ (.Compare _ [.Eq] [_] _) _ _ _); refine aT_eq (Un.h (by assumption)) ?_)
      | ((with_reducible show aT _ (.Compare _ [.NotEq] [_] _) _ _ _); refine aT_ne (Un.h (by assumption)) ?_)
      | ((with_reducible show aT _ (.Compare _ [.In] [_] _) _ _ _); refine aT_in (Un.h (by assumption)) ?_)
      | ((with_reducible show aT _ (.Compare _ [.NotIn] [_] _) _ _ _); refine aT_notIn (Un.h (by assumption)) ?_)
      | ((with_reducible show aT _ (.Compare _ [.Is] [_] _) _ _ _); refine aT_isN ?_)
      | ((with_reducible show aT _ (.Compare _ [.IsNot] [_] _) _ _ _); refine aT_notN ?_)
      | ((with_reducible show aT _ (.UnaryOp .Not _ _) _ _ _); refine aT_not ?_)
      | ((with_reducible show aT _ (.BoolOp _ _ _) _ _ _); refine aT_W ?_)
      | ((with_reducible show aT _ (.Call (.Name _ _) _ _ _) _ _ _); refine aT_val ?_)
      )
    | ((with_reducible show aW _ _ _ _ _); first
      | ((with_reducible show aW _ (.BoolOp .And (_ :: _ :: _) _) _ _ _); refine aW_and ?_)
      | ((with_reducible show aW _ (.BoolOp .Or (_ :: _ :: _) _) _ _ _); refine aW_or ?_)
      | ((with_reducible show aW _ (.BoolOp .And [_] _) _ _ _); refine aW_and1 ?_)
      | ((with_reducible show aW _ (.BoolOp .Or [_] _) _ _ _); refine aW_or1 ?_)
      )
    | ((with_reducible show Tgt.fits (.tp _) _ _ _); refine ⟨_, by first | exact Or.inl rfl | exact Or.inr rfl, rfl, ?_⟩)
    | ((with_reducible show Tgt.fits (.nm _) _ _ _); show aSs _ _ _ _ _)
    | ((with_reducible show ∃ l v, ResI _ (.adr _) _ l ∧ _ ∧ _); refine ⟨_, _, Or.inr ⟨_, _, rfl, by with_reducible assumption⟩, by rfl, ?_⟩)
    | ((with_reducible show ∃ l, ResI _ (.adr _) _ l ∧ _ ∧ _); refine ⟨_, Or.inr ⟨_, _, rfl, by with_reducible assumption⟩, by rfl, ?_⟩)
    | ((with_reducible show ∃ l v, ResI _ (.ins _ _) _ l ∧ _ ∧ _); refine ⟨_, _, Or.inl rfl, by rfl, ?_⟩)
    | ((with_reducible show ∃ l, ResI _ (.ins _ _) _ l ∧ _ ∧ _); refine ⟨_, Or.inl rfl, by rfl, ?_⟩)
    | ((with_reducible show aIx (.tup _) (.int _) _ _); refine oIxT (by rfl) ?_)
    | ((with_reducible show aIx (.dct _) (.str _) _ _); refine oIxDs rD (by with_reducible assumption) ?_)
    | ((with_reducible show aIx (.lst _) (.int _) _ _); refine oIxL rL (by rfl) ?_)
    | ((with_reducible show aEq false (.int _) (.int _) _ (isB _)); refine oEqI ?_)
    | ((with_reducible show aEq true (.int _) (.int _) _ (isB _)); refine oNeI ?_)
    | ((with_reducible show aEq false (.str _) (.str _) _ (isB _)); refine oEqS ?_)
    | ((with_reducible show aEq true (.str _) (.str _) _ (isB _)); refine oNeS ?_)
    | ((with_reducible show aEq true (.str _) (oS _) _ (isB _)); refine oNeO ?_)
    | ((with_reducible show aEq true (.str _) .non _ (isB _)); refine oNeSN ?_)
    | ((with_reducible show aGt (.int _) (.int _) _ (isB _)); refine oGt ?_)
    | ((with_reducible show aGe (.int _) (.int _) _ (isB _)); refine oGe ?_)
    | ((with_reducible show aLt (.int _) (.int _) _ (isB _)); refine oLt ?_)
    | ((with_reducible show aLe (.int _) (.int _) _ (isB _)); refine oLe ?_)
    | ((with_reducible show aLt (.str _) (.str _) _ (isB _)); refine oLtS ?_)
    | ((with_reducible show aGt (.int _) (.int _) _ _); refine oGtQ ?_)
    | ((with_reducible show aGe (.int _) (.int _) _ _); refine oGeQ ?_)
    | ((with_reducible show aLt (.int _) (.int _) _ _); refine oLtQ ?_)
    | ((with_reducible show aLe (.int _) (.int _) _ _); refine oLeQ ?_)
    | ((with_reducible show aAdd (.int _) (.int _) _ _); refine oAdd ?_)
    | ((with_reducible show aSub (.int _) (.int _) _ _); refine oSub ?_)
    | ((with_reducible show aMod (.int _) (.int _) _ _); refine oMod (by first | decide | omega) ?_)
    | ((with_reducible show isB _ (.bl _) _); refine oB ?_)
    | ((with_reducible show ∃ x, D.bl _ = .bl x ∧ _); refine ⟨_, rfl, ?_⟩)
    | ((with_reducible show ∃ x, D.int _ = .int x ∧ _); refine ⟨_, rfl, ?_⟩)
    | ((with_reducible show if (Option.isNone (some _)) = true then _ else _); refine iteF' ?_)
    | ((with_reducible show if (Option.isNone none) = true then _ else _); refine iteT' ?_)
    | ((with_reducible show if (isNonD _) = true then _ else _); first | refine iteT' ?_ | refine iteF' ?_)
    | ((with_reducible show if (!isNonD _) = true then _ else _); first | refine iteT' ?_ | refine iteF' ?_)
    | ((with_reducible show ∃ z, D.str _ = .str z ∧ _); refine ⟨_, rfl, ?_⟩)
    | ((with_reducible show ∃ z, D.tup _ = .tup z ∧ _); refine ⟨_, rfl, ?_⟩)
    | ((with_reducible show if (!true) = true then _ else _); refine iteF' ?_)
    | ((with_reducible show if (!false) = true then _ else _); refine iteT' ?_)
    | ((with_reducible show if decide _ = true then _ else _); first | refine iteDT (by decide +kernel) ?_ | refine iteDF (by decide +kernel) ?_)
    | ((with_reducible show if (!decide _) = true then _ else _); first | refine iteNT (by decide +kernel) ?_ | refine iteNF (by decide +kernel) ?_)
    | ((with_reducible show if true = true then _ else _); refine iteT' ?_)
    | ((with_reducible show if false = true then _ else _); refine iteF' ?_)
    | ((with_reducible show List.length _ ≤ 100000 ∧ _); refine ⟨le5 (by rfl), ?_⟩)
    )
  | `(tactic| walk_at "w") => `(tactic| repeat walk_at "x")
-- F1
section
open PySem L2 DL
section
variable {P : Program} {w : World} {K : PySem.W.Frag} {mg : Str → Option Value} {bse : Heap}
abbrev sRowMet : Stmt := top 29
abbrev nRowMet : List Str := ["row", "weights", "room", "least", "most"]
theorem scRowMet : FnScope nRowMet ["row", "weights"] (defScope sRowMet) := ⟨rfl, rfl, rfl, by decide +kernel, rfl, by decide +kernel, by decide +kernel⟩
def spRowMet : ASp := fun ds S R => ∃ (r : Row) (wt : Wts), ds = [rowD r, .dct (wtsD wt)] ∧ r.room ∈ wt.map (·.1) ∧ R (.bl (metT wt r)) S
theorem bRowMet : BodyA P w K mg bse nRowMet "is_row_met" sRowMet 1 spRowMet := by
  intro f cdv A outer s H E hr ds S R ⟨r, wt, eds, hk, hR⟩
  have hu : Un _ := ⟨hr.units⟩
  have nd : Names nRowMet := ⟨scRowMet.nd⟩
  have sc : Scp nRowMet (defScope sRowMet) := ⟨scRowMet.nd⟩
  subst eds
  have hv := wAt_some hk
  unfold metT at hR
  walk_at "w"
  refine aS_asg (.tp [2, 3, 4]) ?_ (tgTp rfl (pgsN nd (by walk_at "n") (by rfl) (pgsN nd (by walk_at "n") (by rfl) (pgsN nd (by walk_at "n") (by rfl) (pgsO)))))
  walk_at "w"
  refine oIxS rD hv ?_
  walk_at "w"
  refine iteD (fun h => ?_) fun h => ?_
  · rw [decide_eq_true h, Bool.true_and] at hR
    walk_at "w"
    rw [nonI]
    cases hm : r.most with
    | none =>
      rw [hm] at hR
      walk_at "w"
      exact hR
    | some m =>
      rw [hm] at hR
      walk_at "w"
      refine oIxS rD hv ?_
      walk_at "w"
      exact hR
  · rw [decide_eq_false h, Bool.false_and] at hR
    exact hR
/-! the law's own -/
abbrev sLMet : Stmt := top 59
abbrev nLMet : List Str := ["row", "weights"]
theorem scLMet : FnScope nLMet ["row", "weights"] (defScope sLMet) := ⟨rfl, rfl, rfl, by decide +kernel, rfl, by decide +kernel, by decide +kernel⟩
theorem bLMet : BodyA P w K mg bse nLMet "_law_is_met" sLMet 1 spRowMet := by
  intro f cdv A outer s H E hr ds S R ⟨r, wt, eds, hk, hR⟩
  have hu : Un _ := ⟨hr.units⟩
  have nd : Names nLMet := ⟨scLMet.nd⟩
  have sc : Scp nLMet (defScope sLMet) := ⟨scLMet.nd⟩
  subst eds
  have hv := wAt_some hk
  unfold metT at hR
  rcases r with ⟨room, least, _ | m⟩ <;>
  · walk_at "w"
    refine oIxS rD hv ?_
    walk_at "w"
    refine iteD (fun h => ?_) fun h => ?_
    · rw [decide_eq_true h, Bool.true_and] at hR
      walk_at "w"
      first | exact hR | (refine oIxS rD hv ?_; walk_at "w"; exact hR)
    · rw [decide_eq_false h, Bool.false_and] at hR
      exact hR
abbrev sFar : Stmt := top 61
abbrev nFar : List Str := ["hall", "door", "room", "one", "other", "way", "rows"]
theorem scFar : FnScope nFar ["hall", "door", "room"] (defScope sFar) := ⟨rfl, rfl, rfl, by decide +kernel, rfl, by decide +kernel, by decide +kernel⟩
def spFar : ASp := fun ds S R => ∃ (L : List (Key × D)) (h : HallT) (d room : Str) (g : Gate), ds = [.dct L, .str d, .str room] ∧ HallL L h ∧ valP h.doors d = some g ∧ R (oS (farT g room)) S
theorem bFar : BodyA P w K mg bse nFar "_law_far" sFar 1 spFar := by
  intro f cdv A outer s H E hr ds S R ⟨L, h, d, room, g, eds, hL, hg, hR⟩
  have hu : Un _ := ⟨hr.units⟩
  have nd : Names nFar := ⟨scFar.nd⟩
  have sc : Scp nFar (defScope sFar) := ⟨scFar.nd⟩
  subst eds
  have hd := hL.doors
  unfold farT at hR
  walk_at "w"
  refine aS_asg (.tp [3, 4, 5, 6]) ?_ (tgTp rfl (pgsN nd (by walk_at "n") (by rfl) (pgsN nd (by walk_at "n") (by rfl) (pgsN nd (by walk_at "n") (by rfl) (pgsN nd (by walk_at "n") (by rfl) (pgsO))))))
  walk_at "w"
  walk_at "w"
  refine oIxS rD hg ?_
  walk_at "w"
  refine iteD (fun e => ?_) fun e => ?_
  · rw [if_pos e] at hR
    walk_at "w"
    exact hR
  rw [if_neg e] at hR
  walk_at "w"
  refine iteD (fun e2 => ?_) fun e2 => ?_
  · walk_at "w"
    cases hb : g.both with
    | true =>
      rw [if_pos ⟨e2, hb⟩] at hR
      refine iteD (fun _ => ?_) fun e3 => absurd rfl e3
      walk_at "w"
      exact hR
    | false =>
      rw [if_neg (by rw [hb]; simp)] at hR
      refine iteD (fun e3 => ?_) fun e3 => ?_
      · exact absurd e3 (by decide +kernel)
      · walk_at "w"
        exact hR
  · rw [if_neg (fun e3 => e2 e3.1)] at hR
    walk_at "w"
    exact hR
end

end
-- F2
section
open PySem L2 DL
section
variable {P : Program} {w : World} {K : PySem.W.Frag} {mg : Str → Option Value} {bse : Heap} {C : Addr}
def spHL (C : Addr) (F : HallT → List Str) : ASp := fun ds S R => ∃ (h : HallT), ds = [hallI C h] ∧ R (.lst ((F h).map D.str)) S
abbrev sRooms : Stmt := inClass (top 11) 4
abbrev nRooms : List Str := ["self"]
theorem scRooms : FnScope nRooms ["self"] (defScope sRooms) := ⟨rfl, rfl, rfl, by decide +kernel, rfl, by decide +kernel, by decide +kernel⟩
theorem bRooms (hc : HallC K C) (M : Nm mg) : BodyA P w K mg bse nRooms "Hall.rooms" sRooms 1 (spHL C HallT.rooms) := by
  intro f cdv A outer s H E hr ds S R ⟨h, eds, hR⟩
  have hu : Un _ := ⟨hr.units⟩
  have nd : Names nRooms := ⟨scRooms.nd⟩
  have sc : Scp nRooms (defScope sRooms) := ⟨scRooms.nd⟩
  subst eds
  walk_at "w"
  exact ⟨_, .inl qL, .inl hR⟩
abbrev sDoors : Stmt := inClass (top 11) 5
abbrev nDoors : List Str := ["self"]
theorem scDoors : FnScope nDoors ["self"] (defScope sDoors) := ⟨rfl, rfl, rfl, by decide +kernel, rfl, by decide +kernel, by decide +kernel⟩
theorem bDoors (hc : HallC K C) (M : Nm mg) : BodyA P w K mg bse nDoors "Hall.doors" sDoors 1 (spHL C dnames) := by
  intro f cdv A outer s H E hr ds S R ⟨h, eds, hR⟩
  have hu : Un _ := ⟨hr.units⟩
  have nd : Names nDoors := ⟨scDoors.nd⟩
  have sc : Scp nDoors (defScope sDoors) := ⟨scDoors.nd⟩
  subst eds
  walk_at "w"
  refine ⟨_, .inr ⟨_, rD, rfl⟩, .inl ?_⟩
  rw [dctS_keys]; exact hR
abbrev sStones : Stmt := inClass (top 11) 6
abbrev nStones : List Str := ["self"]
theorem scStones : FnScope nStones ["self"] (defScope sStones) := ⟨rfl, rfl, rfl, by decide +kernel, rfl, by decide +kernel, by decide +kernel⟩
theorem bStones (hc : HallC K C) (M : Nm mg) : BodyA P w K mg bse nStones "Hall.stones" sStones 1 (spHL C snames) := by
  intro f cdv A outer s H E hr ds S R ⟨h, eds, hR⟩
  have hu : Un _ := ⟨hr.units⟩
  have nd : Names nStones := ⟨scStones.nd⟩
  have sc : Scp nStones (defScope sStones) := ⟨scStones.nd⟩
  subst eds
  walk_at "w"
  refine ⟨_, .inr ⟨_, rD, rfl⟩, .inl ?_⟩
  rw [dctS_keys]; exact hR
abbrev sWalkers : Stmt := inClass (top 11) 7
abbrev nWalkers : List Str := ["self"]
theorem scWalkers : FnScope nWalkers ["self"] (defScope sWalkers) := ⟨rfl, rfl, rfl, by decide +kernel, rfl, by decide +kernel, by decide +kernel⟩
theorem bWalkers (hc : HallC K C) (M : Nm mg) : BodyA P w K mg bse nWalkers "Hall.walkers" sWalkers 1 (spHL C fnames) := by
  intro f cdv A outer s H E hr ds S R ⟨h, eds, hR⟩
  have hu : Un _ := ⟨hr.units⟩
  have nd : Names nWalkers := ⟨scWalkers.nd⟩
  have sc : Scp nWalkers (defScope sWalkers) := ⟨scWalkers.nd⟩
  subst eds
  walk_at "w"
  exact ⟨_, .inl qL, .inl hR⟩
abbrev sDoor : Stmt := inClass (top 11) 8
abbrev nDoor : List Str := ["self", "name"]
theorem scDoor : FnScope nDoor ["self", "name"] (defScope sDoor) := ⟨rfl, rfl, rfl, by decide +kernel, rfl, by decide +kernel, by decide +kernel⟩
def spDoor (C : Addr) : ASp := fun ds S R => ∃ (h : HallT) (d : Str) (g : Gate), ds = [hallI C h, .str d] ∧ valP h.doors d = some g ∧ R (gateD g) S
theorem bDoor (hc : HallC K C) (M : Nm mg) : BodyA P w K mg bse nDoor "Hall.door" sDoor 1 (spDoor C) := by
  intro f cdv A outer s H E hr ds S R ⟨h, d, g, eds, hg, hR⟩
  have hu : Un _ := ⟨hr.units⟩
  have nd : Names nDoor := ⟨scDoor.nd⟩
  have sc : Scp nDoor (defScope sDoor) := ⟨scDoor.nd⟩
  subst eds
  walk_at "w"
  refine oNinS rD hg ?_
  walk_at "w"
  exact oIxS rD hg hR
abbrev sHeftM : Stmt := inClass (top 11) 9
abbrev nHeftM : List Str := ["self", "name"]
theorem scHeftM : FnScope nHeftM ["self", "name"] (defScope sHeftM) := ⟨rfl, rfl, rfl, by decide +kernel, rfl, by decide +kernel, by decide +kernel⟩
def heftT (h : HallT) (x : Str) : Option Int := match valP h.stones x with
  | some k => some k
  | none => (valP (h.folk.map fun w => (w.name, w)) x).map (·.heft)
def spHeftM (C : Addr) : ASp := fun ds S R => ∃ (h : HallT) (d : Str) (k : Int), ds = [hallI C h, .str d] ∧ heftT h d = some k ∧ R (.int k) S
theorem bHeftM (hc : HallC K C) (M : Nm mg) : BodyA P w K mg bse nHeftM "Hall.heft" sHeftM 1 (spHeftM C) := by
  intro f cdv A outer s H E hr ds S R ⟨h, d, k, eds, hk, hR⟩
  have hu : Un _ := ⟨hr.units⟩
  have nd : Names nHeftM := ⟨scHeftM.nd⟩
  have sc : Scp nHeftM (defScope sHeftM) := ⟨scHeftM.nd⟩
  subst eds
  unfold heftT at hk
  cases e : valP h.stones d with
  | some v =>
    rw [e] at hk
    cases hk
    walk_at "w"
    refine oInS rD e ?_
    walk_at "w"
    exact oIxS rD e hR
  | none =>
    rw [e] at hk
    cases e2 : valP (h.folk.map fun w => (w.name, w)) d with
    | none => rw [e2] at hk; cases hk
    | some v =>
      rw [e2] at hk
      cases hk
      walk_at "w"
      refine oInSn rD e ?_
      walk_at "w"
      refine oNinS rD e2 ?_
      walk_at "w"
      refine oIxS rD e2 ?_
      walk_at "w"
      exact hR
abbrev sHands : Stmt := inClass (top 11) 10
abbrev nHands : List Str := ["self", "walker"]
theorem scHands : FnScope nHands ["self", "walker"] (defScope sHands) := ⟨rfl, rfl, rfl, by decide +kernel, rfl, by decide +kernel, by decide +kernel⟩
def spHands (C : Addr) : ASp := fun ds S R => ∃ (h : HallT) (d : Str) (v : Wk), ds = [hallI C h, .str d] ∧ valP (h.folk.map fun w => (w.name, w)) d = some v ∧ R (.int v.hands) S
theorem bHands (hc : HallC K C) (M : Nm mg) : BodyA P w K mg bse nHands "Hall.hands" sHands 1 (spHands C) := by
  intro f cdv A outer s H E hr ds S R ⟨h, d, v, eds, e2, hR⟩
  have hu : Un _ := ⟨hr.units⟩
  have nd : Names nHands := ⟨scHands.nd⟩
  have sc : Scp nHands (defScope sHands) := ⟨scHands.nd⟩
  subst eds
  walk_at "w"
  refine oNinS rD e2 ?_
  walk_at "w"
  refine oIxS rD e2 ?_
  walk_at "w"
  exact hR
end

end
-- T3
/-! Rows in order. -/
section
open PySem L2 DL
theorem str_lt_irrefl (a : Str) : ¬ a.cps.toList < a.cps.toList := List.lt_irrefl _
theorem leS_lt {a b : Str} : leS a b = true ↔ ¬ b.cps.toList < a.cps.toList := by
  rw [leS_iff]
  exact List.not_lt.symm
theorem rows_sorted {rs gs : List Row} (p : rs.Perm gs) (hs : (gs.map (·.room)).Pairwise fun a b => leS a b = true) (nd : (gs.map (·.room)).Nodup) : (rs.map rowD).mergeSort leK = gs.map rowD := by
  have e : (rs.map rowD).mergeSort leK = (rs.mergeSort fun a b => leS a.room b.room).map rowD :=
    (List.map_mergeSort (r := fun a b : Row => leS a.room b.room) (s := leK) (f := rowD) (fun _ _ _ _ => rfl)).symm
  rw [e]
  congr 1
  have p2 : (rs.mergeSort fun a b => leS a.room b.room).Perm gs := (List.mergeSort_perm _ _).trans p
  have s1 : (rs.mergeSort fun a b => leS a.room b.room).Pairwise fun a b => leS a.room b.room = true :=
    List.pairwise_mergeSort (le := fun a b : Row => leS a.room b.room) (fun a b c => leS_trans a.room b.room c.room) (fun a b => leS_total a.room b.room) rs
  have s2 : gs.Pairwise fun a b => leS a.room b.room = true := List.pairwise_map.mp hs
  refine p2.eq_of_pairwise (le := fun a b : Row => leS a.room b.room = true) (fun a b ha hb h1 h2 => ?_) s1 s2
  have ha : a ∈ gs := p2.mem_iff.mp ha
  have er := leS_anti h1 h2
  obtain ⟨i, hi⟩ := List.mem_iff_getElem?.mp ha
  obtain ⟨j, hj⟩ := List.mem_iff_getElem?.mp hb
  have hi' : (gs.map (·.room))[i]? = some a.room := by rw [List.getElem?_map, hi]; rfl
  have hj' : (gs.map (·.room))[j]? = some a.room := by rw [List.getElem?_map, hj, er]; rfl
  have := nd_inj nd hi' hj'
  subst this
  rw [hi] at hj
  exact Option.some.inj hj
/-- a sublist of the rooms rises -/
theorem GateOk.pw {rooms : List Str} {g : Gate} (o : GateOk rooms g) (rs : srt rooms = rooms) : (g.rows.map (·.room)).Pairwise fun a b => leS a b = true := (rs ▸ srt_pw rooms).sublist o.rows
theorem GateOk.nd {rooms : List Str} {g : Gate} (o : GateOk rooms g) (rn : rooms.Nodup) : (g.rows.map (·.room)).Nodup := rn.sublist o.rows
/-- two texts in order, each once -/
theorem srt_two {a b : Str} (h : ¬ b.cps.toList < a.cps.toList) : srt [a, b] = [a, b] := srt_self (List.pairwise_cons.mpr ⟨fun x hx => by rw [List.mem_singleton.mp hx]; exact leS_lt.mpr h, List.pairwise_singleton _ _⟩)
theorem srt_two' {a b : Str} (h : b.cps.toList < a.cps.toList) : srt [a, b] = [b, a] := by
  rw [srt_congr (List.Perm.swap b a [])]
  exact srt_two fun h2 => List.lt_irrefl _ (List.lt_trans h h2)
end
-- F3
section
open PySem L2 DL
section
variable {P : Program} {w : World} {K : PySem.W.Frag} {mg : Str → Option Value} {bse : Heap} {C : Addr}
abbrev sKept : Stmt := top 10
abbrev nKept : List Str := ["one", "other", "way", "rows", "row"]
theorem scKept : FnScope nKept ["one", "other", "way", "rows"] (defScope sKept) := ⟨rfl, rfl, rfl, by decide +kernel, rfl, by decide +kernel, by decide +kernel⟩
abbrev qLam : Str := (("door_kept" : Str) ++ ".<locals>.") ++ "<lambda>"
def spKept (T0 : Addr) (q0 : Str) : ASp := fun ds S R => ∃ (g : Gate) (rs : List Row), ds = [.str g.a, .str g.b, .str (wayS g.both), rowsD rs] ∧ (g.both = true → ¬ g.b.cps.toList < g.a.cps.toList) ∧ rs.Perm g.rows ∧ rs.length < 1000 ∧
  (g.rows.map (·.room)).Pairwise (fun a b => leS a b = true) ∧ (g.rows.map (·.room)).Nodup ∧ (T0, D.tbl q0) ∈ S ∧ R (gateD g) S
theorem bKept {c T0 : Addr} (M : Nm mg) (TB : LamX.TabB bse mg c T0) : ∀ f A outer s H E, Room 1 (cxB P w K mg bse nKept "door_kept" sKept f (.ref c) A outer s H E).A → ∀ ds S R, spKept T0 qLam ds S R → aSs (cxB P w K mg bse nKept "door_kept" sKept f (.ref c) A outer s H E) (defBody sKept) (startD nKept ds) S { nx := fun _ S' => R .non S', rt := R } := by
  intro f A outer s H E hr ds S R ⟨g, rs, eds, ho, hp, hl, hpw, hnd, hT, hR⟩
  subst eds
  have hu : Un _ := ⟨hr.units⟩
  have nd : Names nKept := ⟨scKept.nd⟩
  have sc : Scp nKept (defScope sKept) := ⟨scKept.nd⟩
  walk_at "w"
  have fin : aSs (cxB P w K mg bse nKept "door_kept" sKept f (.ref c) A outer s H E) ((defBody sKept).drop 1) (startD nKept [D.str g.a, D.str g.b, D.str (wayS g.both), rowsD rs]) S { nx := fun _ S' => R .non S', rt := R } := by
    walk_at "w"
    refine aE_sortK TB rfl rfl hu.h (Nat.lt_of_le_of_lt (by omega) hr.dp) M.sorted ?_ ⟨⟨_, _, _, _, _, rfl, rfl, by decide, fun _ _ _ _ _ _ => rfl⟩, rfl, rfl, rfl⟩
    refine lcE (.nm 4) [("row", 4)] sc ?_ ⟨rfl, by decide +kernel, by decide +kernel, by decide +kernel, by decide +kernel⟩ (fun _ _ _ _ _ => tgNm nd (by walk_at "n") (by rfl)) rfl rfl rfl (by decide) (by decide)
    refine aI_tup ?_
    walk_at "w"
    refine lcM rowD (by omega) (fun r hr A => ?_) (.inl ?_)
    · intro s H C cl fp
      walk_at "w"
      exact ⟨_, .inr (.inl rfl), rfl, rfl⟩
    · refine ⟨_, rL, fun z hz => ?_, hT, .inl ?_⟩
      · obtain ⟨r, _, e⟩ := List.mem_map.mp hz
        exact ⟨_, _, e.symm⟩
      · walk_at "w"
        refine ⟨_, .inl rL, ?_⟩
        walk_at "w"
        rw [rows_sorted hp hpw hnd]
        exact hR
  refine iteD (fun e => ?_) fun e => aSs_nil fin
  have hb : g.both = true := by
    cases h : g.both with
    | true => rfl
    | false => rw [h] at e; exact absurd e (by decide +kernel)
  walk_at "w"
  exact iteD (fun h => absurd h (ho hb)) fun _ => aSs_nil fin
end

end
-- T4
/-! What a hall is made of. -/
section
open PySem L2 DL
theorem putA_hd {f : Str} {v w : D} {l : List (Str × D)} : putA f v ((f, w) :: l) = (f, v) :: l := if_pos rfl
theorem putA_tl {f g : Str} {v w : D} {l : List (Str × D)} (h : decide (g = f) = false) : putA f v ((g, w) :: l) = (g, w) :: putA f v l := if_neg (of_decide_eq_false h)
theorem put_hall {a b c d e : D} : putA "bodies" e (putA "folk" d (putA "weights" c (putA "gates" b (putA "chambers" a [])))) = ([("chambers", a), ("gates", b), ("weights", c), ("folk", d), ("bodies", e)] : List (Str × D)) := by
  show putA "bodies" e (putA "folk" d (putA "weights" c (putA "gates" b [("chambers", a)]))) = _
  rw [putA_tl (by decide +kernel)]
  show putA "bodies" e (putA "folk" d (putA "weights" c [("chambers", a), ("gates", b)])) = _
  rw [putA_tl (by decide +kernel), putA_tl (by decide +kernel)]
  show putA "bodies" e (putA "folk" d [("chambers", a), ("gates", b), ("weights", c)]) = _
  rw [putA_tl (by decide +kernel), putA_tl (by decide +kernel), putA_tl (by decide +kernel)]
  show putA "bodies" e [("chambers", a), ("gates", b), ("weights", c), ("folk", d)] = _
  rw [putA_tl (by decide +kernel), putA_tl (by decide +kernel), putA_tl (by decide +kernel), putA_tl (by decide +kernel)]
  all_goals rfl
/-- a dict's pairs in order of their keys -/
theorem sorted_pairs {α : Type} {l m : List (Str × α)} (p : l.Perm m) (hs : srt (m.map (·.1)) = m.map (·.1)) (nd : (m.map (·.1)).Nodup) (d : Str → α) (hd : ∀ x ∈ m, d x.1 = x.2) :
    (srt (l.map (·.1))).map (fun k => (k, d k)) = m := by
  rw [srt_congr (p.map (·.1)), hs, List.map_map]
  conv => rhs; rw [← List.map_id m]
  refine List.map_congr_left fun x hx => ?_
  show (x.1, d x.1) = x
  rw [hd x hx]
theorem valP_perm {α : Type} {l m : List (Str × α)} (p : l.Perm m) (nd : (m.map (·.1)).Nodup) {x : Str × α} (hx : x ∈ m) : valP l x.1 = some x.2 :=
  valP_nd ((p.map (·.1)).nodup_iff.mpr nd) (p.mem_iff.mpr hx)
theorem nd_inr {l : List Str} (h : l.Nodup) : (l.map (Sum.inr : Str → Key)).Nodup := List.Pairwise.map _ (fun a b e e2 => e (Sum.inr.inj e2)) h
theorem nd_key {α : Type} {l : List α} {f : α → Str} (h : (l.map f).Nodup) : (l.map fun x => (Sum.inr (f x) : Key)).Nodup := by
  have := nd_inr h
  rw [List.map_map] at this
  exact this
theorem dct_sorted {α : Type} {g : α → D} {l m : List (Str × α)} (p : l.Perm m) (hs : srt (m.map (·.1)) = m.map (·.1)) (nd : (m.map (·.1)).Nodup) (z : α) :
    (srt (l.map (·.1))).map (fun k => ((Sum.inr k : Key), g ((valP l k).getD z))) = dctS g m := by
  have e := sorted_pairs p hs nd (fun k => (valP l k).getD z) fun x hx => by
    show (valP l x.1).getD z = x.2
    rw [valP_perm p nd hx]; rfl
  unfold dctS
  rw [← e, List.map_map]
  rfl
theorem val_srt {α : Type} {l : List (Str × α)} {k : Str} (h : k ∈ srt (l.map (·.1))) (z : α) : valP l k = some ((valP l k).getD z) := by
  obtain ⟨v, e⟩ := valP_mem (srt_mem.mp h)
  rw [e]; rfl
/-- a stone as a pair, made by hand or by the dict -/
abbrev prD (tw : Bool) (x : Str × Int) : D := if tw then .tupW [.str x.1, .int x.2] else .tup [.str x.1, .int x.2]
/-- a door as it is told to a hall -/
abbrev dtD (x : Str × Gate × List Row) : D := .tup [.str x.1, .str x.2.1.a, .str x.2.1.b, .str (wayS x.2.1.both), rowsD x.2.2]
/-- what a hall may be made of -/
structure MakeOk (h : HallT) (rl : List Str) (dl : List (Str × Gate × List Row)) (sl : List (Str × Int)) : Prop where
  r : rl.Perm h.rooms
  d : (dl.map fun x => (x.1, x.2.1)).Perm h.doors
  dr : ∀ x ∈ dl, x.2.2.Perm x.2.1.rows
  s : sl.Perm h.stones
end
-- F4
section
open PySem L2 DL
section
variable {P : Program} {w : World} {K : PySem.W.Frag} {mg : Str → Option Value} {bse : Heap} {C : Addr}
abbrev sHInit : Stmt := inClass (top 11) 0
abbrev nHInit : List Str := ["self", "rooms", "doors", "stones", "walkers", "gates", "name", "one", "other", "way", "rows", "weights", "heft", "hands"]
theorem scHInit : FnScope nHInit ["self", "rooms", "doors", "stones", "walkers"] (defScope sHInit) := ⟨rfl, rfl, rfl, by decide +kernel, rfl, by decide +kernel, by decide +kernel⟩
def spHInit (C T0 : Addr) : ASp := fun ds S R => ∃ (h : HallT) (rl : List Str) (dl : List (Str × Gate × List Row)) (sl : List (Str × Int)) (tw : Bool) (a : Addr) (S0 : Store), ds = [.adr a, .lst (rl.map D.str), .lst (dl.map dtD), .lst (sl.map (prD tw)), .lst (h.folk.map wkD)] ∧
  S = (a, .ins C []) :: S0 ∧ HallOk h ∧ MakeOk h rl dl sl ∧ (T0, D.tbl qLam) ∈ S0 ∧ R .non ((a, hallI C h) :: S0)
theorem bHInit {T0 : Addr} (hc : HallC K C) (M : Nm mg) (cK : CalA P w K mg bse 2 "door_kept" (spKept T0 qLam) []) : BodyA P w K mg bse nHInit "Hall.__init__" sHInit 2 (spHInit C T0) := by
  intro f cdv A outer s H E hr ds S R ⟨h, rl, dl, sl, tw, a, S0, eds, eS, ho, mo, hT, hR⟩
  have hu : Un _ := ⟨hr.units⟩
  have nd : Names nHInit := ⟨scHInit.nd⟩
  have sc : Scp nHInit (defScope sHInit) := ⟨scHInit.nd⟩
  subst eds; subst eS
  have hr4 := mo.r.length_eq
  have r4 := ho.r4
  have hd5 := mo.d.length_eq
  have d5 := ho.d5
  rw [List.length_map] at hd5
  have hs3 := mo.s.length_eq
  have s3 := ho.s3
  have f3 := ho.f3
  have hdl : (dl.map (·.1)).Perm (dnames h) := by
    have := mo.d.map (·.1)
    rw [List.map_map] at this
    exact this
  have hsl : (sl.map (·.1)).Perm (snames h) := mo.s.map (·.1)
  have hdl5 := hdl.length_eq
  have hsl3 := hsl.length_eq
  simp only [dnames, snames, List.length_map] at hdl5 hsl3
  walk_at "w"
  refine ⟨rl, .inl rL, by omega, .inl ?_⟩
  rw [srt_congr mo.r, ho.rs]
  walk_at "w"
  refine ⟨0, a, _, rfl, rfl, by decide, ?_⟩
  walk_at "w"
  refine dcE (.tp [6, 7, 8, 9, 10]) [("name", 6), ("one", 7), ("other", 8), ("way", 9), ("rows", 10)] sc ?_ ⟨rfl, by decide +kernel, by decide +kernel, by decide +kernel, by decide +kernel⟩ (fun _ _ _ _ _ => tgTp rfl (pgsN nd (by walk_at "n") (by rfl) (pgsN nd (by walk_at "n") (by rfl) (pgsN nd (by walk_at "n") (by rfl) (pgsN nd (by walk_at "n") (by rfl) (pgsN nd (by walk_at "n") (by rfl) (pgsO))))))) rfl rfl rfl (by decide)
  refine aI_list ?_
  walk_at "w"
  refine ⟨_, rfl, ?_⟩
  refine dcM (fun x => .inr x.1) (fun x => gateD x.2.1) (by omega) ?_ (fun x hx A => ?_) (.inl ?_)
  · exact nd_key (f := fun x : Str × Gate × List Row => x.1) (hdl.nodup_iff.mpr ho.dn)
  · refine ⟨_, Or.inl rfl, rfl, ?_⟩
    intro s H C cl fp
    walk_at "w"
    refine ⟨rfl, rfl, ?_⟩
    intro s H C cl fp
    walk_at "w"
    have hx2 : (x.1, x.2.1) ∈ h.doors := mo.d.mem_iff.mp (List.mem_map.mpr ⟨x, hx, rfl⟩)
    have go := ho.dg _ hx2
    have hrl : x.2.2.length < 1000 := by
      have h1 := (mo.dr x hx).length_eq
      have h2 := go.rows.length_le
      rw [List.length_map] at h2
      show x.2.2.length < 1000
      have h3 : (x.1, x.2.1).2.rows.length = x.2.1.rows.length := rfl
      omega
    exact ⟨x.2.1, x.2.2, rfl, go.ord, mo.dr x hx, hrl, go.pw ho.rs, go.nd ho.rn, List.mem_cons_of_mem _ (List.mem_cons_of_mem _ hT), rfl, rfl⟩
  generalize hgd : (List.map (fun x : Str × Gate × List Row => ((Sum.inr x.1 : Key), gateD x.2.1)) dl) = gd
  have egd : gd = dctS gateD (dl.map fun x => (x.1, x.2.1)) := by
    rw [← hgd]; unfold dctS; rw [List.map_map]; rfl
  rw [egd]
  walk_at "w"
  refine dcE (.nm 6) [("name", 6)] sc ?_ ⟨rfl, by decide +kernel, by decide +kernel, by decide +kernel, by decide +kernel⟩ (fun _ _ _ _ _ => tgNm nd (by walk_at "n") (by rfl)) rfl rfl rfl (by decide)
  refine aI_list ?_
  walk_at "w"
  refine ⟨_, .inr ⟨_, rD, dctS_keys'⟩, by rw [List.length_map, List.length_map]; omega, .inl ?_⟩
  refine ⟨_, rfl, ?_⟩
  have hle : (srt (List.map (·.1) (List.map (fun x : Str × Gate × List Row => (x.1, x.2.1)) dl))).length < 100000 := by rw [srt_len, List.length_map, List.length_map]; omega
  refine dcM Sum.inr (fun k => gateD ((valP (List.map (fun x : Str × Gate × List Row => (x.1, x.2.1)) dl) k).getD ⟨"", "", false, []⟩)) hle ?_ (fun x hx A => ?_) (.inl ?_)
  · refine nd_inr (srt_nodup.mpr ?_)
    rw [List.map_map]
    exact hdl.nodup_iff.mpr ho.dn
  · intro s H C cl fp
    walk_at "w"
    refine ⟨rfl, rfl, ?_⟩
    intro s H C cl fp
    walk_at "w"
    exact oIxS rD (val_srt hx _) ⟨rfl, rfl⟩
  rw [dct_sorted mo.d ho.ds ho.dn]
  walk_at "w"
  refine ⟨0, a, _, rfl, rfl, by show 1 < 1000; decide, ?_⟩
  walk_at "w"
  refine dcE (.tp [6, 12]) [("name", 6), ("heft", 12)] sc ?_ ⟨rfl, by decide +kernel, by decide +kernel, by decide +kernel, by decide +kernel⟩ (fun _ _ _ _ _ => tgTp rfl (pgsN nd (by walk_at "n") (by rfl) (pgsN nd (by walk_at "n") (by rfl) (pgsO)))) rfl rfl rfl (by decide)
  refine aI_list ?_
  walk_at "w"
  refine ⟨_, rfl, ?_⟩
  refine dcM (fun x => .inr x.1) (fun x => .int x.2) (by omega) ?_ (fun x hx A => ?_) (.inl ?_)
  · exact nd_key (f := fun x : Str × Int => x.1) (hsl.nodup_iff.mpr ho.sn)
  · refine ⟨[.str x.1, .int x.2], by cases tw; exact Or.inl rfl; exact Or.inr rfl, rfl, ?_⟩
    intro s H C cl fp
    walk_at "w"
    refine ⟨rfl, rfl, ?_⟩
    intro s H C cl fp
    walk_at "w"
    exact ⟨rfl, rfl⟩
  rw [show List.map (fun x : Str × Int => ((Sum.inr x.1 : Key), D.int x.2)) sl = dctS D.int sl from rfl]
  walk_at "w"
  refine dcE (.nm 6) [("name", 6)] sc ?_ ⟨rfl, by decide +kernel, by decide +kernel, by decide +kernel, by decide +kernel⟩ (fun _ _ _ _ _ => tgNm nd (by walk_at "n") (by rfl)) rfl rfl rfl (by decide)
  refine aI_list ?_
  walk_at "w"
  refine ⟨_, .inr ⟨_, rD, dctS_keys'⟩, by rw [List.length_map]; omega, .inl ?_⟩
  refine ⟨_, rfl, ?_⟩
  refine dcM Sum.inr (fun k => .int ((valP sl k).getD 0)) (by rw [srt_len, List.length_map]; omega) ?_ (fun x hx A => ?_) (.inl ?_)
  · exact nd_inr (srt_nodup.mpr (hsl.nodup_iff.mpr ho.sn))
  · intro s H C cl fp
    walk_at "w"
    refine ⟨rfl, rfl, ?_⟩
    intro s H C cl fp
    walk_at "w"
    exact oIxS rD (val_srt hx _) ⟨rfl, rfl⟩
  rw [dct_sorted mo.s ho.ss ho.sn]
  walk_at "w"
  refine ⟨0, a, _, rfl, rfl, by show 2 < 1000; decide, ?_⟩
  walk_at "w"
  refine lcE (.tp [6, 12, 13]) [("name", 6), ("heft", 12), ("hands", 13)] sc ?_ ⟨rfl, by decide +kernel, by decide +kernel, by decide +kernel, by decide +kernel⟩ (fun _ _ _ _ _ => tgTp rfl (pgsN nd (by walk_at "n") (by rfl) (pgsN nd (by walk_at "n") (by rfl) (pgsN nd (by walk_at "n") (by rfl) (pgsO))))) rfl rfl rfl (by decide) (by decide)
  refine aI_list ?_
  walk_at "w"
  refine ⟨_, rfl, ?_⟩
  refine lcM (fun x => .str x.name) (by omega) (fun x hx A => ?_) (.inl ?_)
  · refine ⟨_, Or.inl rfl, rfl, ?_⟩
    intro s H C cl fp
    walk_at "w"
    exact ⟨rfl, rfl⟩
  walk_at "w"
  refine ⟨0, a, _, rfl, rfl, by show 3 < 1000; decide, ?_⟩
  walk_at "w"
  refine dcE (.tp [6, 12, 13]) [("name", 6), ("heft", 12), ("hands", 13)] sc ?_ ⟨rfl, by decide +kernel, by decide +kernel, by decide +kernel, by decide +kernel⟩ (fun _ _ _ _ _ => tgTp rfl (pgsN nd (by walk_at "n") (by rfl) (pgsN nd (by walk_at "n") (by rfl) (pgsN nd (by walk_at "n") (by rfl) (pgsO))))) rfl rfl rfl (by decide)
  refine aI_list ?_
  walk_at "w"
  refine ⟨_, rfl, ?_⟩
  refine dcM (fun x => .inr x.name) (fun x => .tup [.int x.heft, .int x.hands]) (by omega) ?_ (fun x hx A => ?_) (.inl ?_)
  · exact nd_key (f := fun x : Wk => x.name) ho.fn
  · refine ⟨_, Or.inl rfl, rfl, ?_⟩
    intro s H C cl fp
    walk_at "w"
    refine ⟨rfl, rfl, ?_⟩
    intro s H C cl fp
    walk_at "w"
    exact ⟨rfl, rfl⟩
  walk_at "w"
  refine ⟨0, a, _, rfl, rfl, by show 4 < 1000; decide, ?_⟩
  walk_at "w"
  have e1 : List.map (fun x : Wk => D.str x.name) h.folk = (fnames h).map D.str := by
    unfold fnames; rw [List.map_map]; rfl
  have e2 : List.map (fun x : Wk => ((Sum.inr x.name : Key), D.tup [.int x.heft, .int x.hands])) h.folk = dctS (fun w : Wk => .tup [.int w.heft, .int w.hands]) (h.folk.map fun w => (w.name, w)) := by
    unfold dctS; rw [List.map_map]; rfl
  rw [e1, e2]
  show R .non ((a, D.ins C (putA "bodies" _ (putA "folk" _ (putA "weights" _ (putA "gates" _ (putA "chambers" _ [])))))) :: S0)
  rw [put_hall]
  exact hR
end

end
-- T5
/-! Changed halls. -/
section
open PySem L2 DL
theorem dn_map {h : HallT} : (dnames h).map D.str = h.doors.map fun x => D.str x.1 := by unfold dnames; rw [List.map_map]; rfl
theorem sn_map {h : HallT} : (snames h).map D.str = h.stones.map fun x => D.str x.1 := by unfold snames; rw [List.map_map]; rfl
theorem fn_map {h : HallT} : (fnames h).map D.str = h.folk.map fun x => D.str x.name := by unfold fnames; rw [List.map_map]; rfl
theorem HallOk.fv {h : HallT} (o : HallOk h) {x : Wk} (hx : x ∈ h.folk) : valP (h.folk.map fun w => (w.name, w)) x.name = some x := by
  have := valP_nd (l := h.folk.map fun w => (w.name, w)) (by rw [List.map_map]; exact o.fn) (List.mem_map.mpr ⟨x, hx, rfl⟩)
  exact this
theorem HallOk.hs {h : HallT} (o : HallOk h) {x : Str × Int} (hx : x ∈ h.stones) : heftT h x.1 = some x.2 := by
  unfold heftT; rw [valP_nd o.sn hx]
theorem HallOk.hf {h : HallT} (o : HallOk h) {x : Wk} (hx : x ∈ h.folk) : heftT h x.name = some x.heft := by
  unfold heftT
  rw [valP_none fun m => o.dj _ m (List.mem_map.mpr ⟨x, hx, rfl⟩), o.fv hx]; rfl
def wallT (h : HallT) (d : Str) : HallT := { h with doors := h.doors.filter fun x : Str × Gate => decide (x.1 ≠ d) }
def rowG (d : Str) (gs : List Row) (x : Str × Gate) : Str × Gate := if x.1 = d then (x.1, { x.2 with rows := gs }) else x
def rowsT (h : HallT) (d : Str) (gs : List Row) : HallT := { h with doors := h.doors.map (rowG d gs) }
def heftS (n : Str) (k : Int) (x : Str × Int) : Str × Int := if x.1 = n then (x.1, k) else x
def heftW (n : Str) (k : Int) (x : Wk) : Wk := if x.name = n then { x with heft := k } else x
def heftedT (h : HallT) (n : Str) (k : Int) : HallT := { h with stones := h.stones.map (heftS n k), folk := h.folk.map (heftW n k) }
theorem srt_sub {l m : List Str} (h : srt m = m) (s : l.Sublist m) : srt l = l := srt_self ((h ▸ srt_pw m).sublist s)
theorem wall_ok {h : HallT} (o : HallOk h) (d : Str) : HallOk (wallT h d) := by
  have s : (h.doors.filter fun x : Str × Gate => decide (x.1 ≠ d)).Sublist h.doors := List.filter_sublist
  have s2 : (dnames (wallT h d)).Sublist (dnames h) := s.map _
  exact { o with
    d5 := Nat.le_trans s.length_le o.d5
    ds := srt_sub o.ds s2
    dn := o.dn.sublist s2
    dk := fun x hx => o.dk x (s2.subset hx)
    dg := fun x hx => o.dg x (s.subset hx) }
theorem rowG_name {d : Str} {gs : List Row} (x : Str × Gate) : (rowG d gs x).1 = x.1 := by unfold rowG; split <;> rfl
theorem rows_names {h : HallT} {d : Str} {gs : List Row} : dnames (rowsT h d gs) = dnames h := by
  show (h.doors.map (rowG d gs)).map (·.1) = _
  rw [List.map_map]
  exact List.map_congr_left fun x _ => rowG_name x
theorem rows_ok {h : HallT} (o : HallOk h) (d : Str) {gs : List Row} (hg : (gs.map (·.room)).Sublist h.rooms) : HallOk (rowsT h d gs) := by
  exact { o with
    d5 := by show (h.doors.map _).length ≤ 5; rw [List.length_map]; exact o.d5
    ds := by rw [rows_names]; exact o.ds
    dn := by rw [rows_names]; exact o.dn
    dk := by rw [rows_names]; exact o.dk
    dg := fun x hx => by
      obtain ⟨y, hy, e⟩ := List.mem_map.mp hx
      have go := o.dg y hy
      subst e
      unfold rowG
      split
      · exact ⟨go.a, go.b, go.ord, hg⟩
      · exact go }
theorem heftS_name {n : Str} {k : Int} (x : Str × Int) : (heftS n k x).1 = x.1 := by unfold heftS; split <;> rfl
theorem heftW_name {n : Str} {k : Int} (x : Wk) : (heftW n k x).name = x.name := by unfold heftW; split <;> rfl
theorem heft_s {h : HallT} {n : Str} {k : Int} : snames (heftedT h n k) = snames h := by
  show (h.stones.map (heftS n k)).map (·.1) = _
  rw [List.map_map]
  exact List.map_congr_left fun x _ => heftS_name x
theorem heft_f {h : HallT} {n : Str} {k : Int} : fnames (heftedT h n k) = fnames h := by
  show (h.folk.map (heftW n k)).map (·.name) = _
  rw [List.map_map]
  exact List.map_congr_left fun x _ => heftW_name x
theorem heft_ok {h : HallT} (o : HallOk h) (n : Str) (k : Int) : HallOk (heftedT h n k) := by
  exact { o with
    s3 := by show (h.stones.map _).length ≤ 3; rw [List.length_map]; exact o.s3
    ss := by rw [heft_s]; exact o.ss
    sn := by rw [heft_s]; exact o.sn
    sk := by rw [heft_s]; exact o.sk
    f0 := fun e => o.f0 (List.map_eq_nil_iff.mp e)
    f3 := by show (h.folk.map _).length ≤ 3; rw [List.length_map]; exact o.f3
    fn := by rw [heft_f]; exact o.fn
    dj := by rw [heft_s, heft_f]; exact o.dj }
/-- what the program hands in for a changed row -/
theorem rowed_perm {h : HallT} (o : HallOk h) {d : Str} {g : Gate} {gs : List Row} (hg : valP h.doors d = some g) : (h.doors.filter (fun x : Str × Gate => decide (x.1 ≠ d)) ++ [(d, { g with rows := gs })]).Perm (rowsT h d gs).doors := by
  have main : ∀ (l : List (Str × Gate)), (l.map (·.1)).Nodup → valP l d = some g → (l.filter (fun x : Str × Gate => decide (x.1 ≠ d)) ++ [(d, { g with rows := gs })]).Perm (l.map (rowG d gs)) := by
    intro l
    induction l with
    | nil => intro _ h; cases h
    | cons a l ih =>
      intro nd hv
      rw [valP_cons] at hv
      have nd2 := List.nodup_cons.mp nd
      by_cases e : a.1 = d
      · rw [if_pos e] at hv
        have ea : a.2 = g := Option.some.inj hv
        rw [List.filter_cons, if_neg (by simp [e]), List.map_cons]
        have e1 : rowG d gs a = (d, { g with rows := gs }) := by unfold rowG; rw [if_pos e, e, ea]
        have e2 : l.filter (fun x : Str × Gate => decide (x.1 ≠ d)) = l := List.filter_eq_self.mpr fun x hx => by
          rw [decide_eq_true_eq]; intro e3
          exact nd2.1 (List.mem_map.mpr ⟨x, hx, e3.trans e.symm⟩)
        have e3 : l.map (rowG d gs) = l := by
          conv => rhs; rw [← List.map_id l]
          refine List.map_congr_left fun x hx => ?_
          unfold rowG
          rw [if_neg fun e4 => nd2.1 (List.mem_map.mpr ⟨x, hx, e4.trans e.symm⟩)]; rfl
        rw [e1, e2, e3]
        exact List.perm_append_comm
      · rw [if_neg e] at hv
        rw [List.filter_cons, if_pos (by simp [e]), List.map_cons]
        have e1 : rowG d gs a = a := by unfold rowG; rw [if_neg e]
        rw [e1]
        exact (ih nd2.2 hv).cons a
  exact main h.doors o.dn hg
end
-- F5
section
open PySem L2 DL
theorem mkHall {X : Cx} {ρ : Sl} {S : Store} {Q : D → Store → Prop} {pos p : Pos} {e : Expr} {es : List Expr} {k j : Nat} {C T0 : Addr} (c : MakA X.prog X.w X.K X.mg X.base k "Hall" C (spHInit C T0)) (hr : Room j X.A)
    (h : aA X (e :: es) ρ S fun ds S1 => ∃ (h : HallT) (rl : List Str) (dl : List (Str × Gate × List Row)) (sl : List (Str × Int)) (tw : Bool), ds = [.lst (rl.map D.str), .lst (dl.map dtD), .lst (sl.map (prD tw)), .lst (h.folk.map wkD)] ∧ HallOk h ∧ MakeOk h rl dl sl ∧ (T0, D.tbl qLam) ∈ S1 ∧ Q (hallI C h) S1) (hk : k + 1 ≤ j := by decide) (hg : Gl X "Hall" := by rfl)
    (hdb : ((("Hall" : Str)) == ("__debug__" : Str)) = false := by decide) (he : starEach (e :: es) X.env = (false, eval e X.env) :: starEach es X.env := by rfl) (hpl : (backTo pos (starEach es X.env)).any (·.1) = false := by rfl) :
    aE X (.Call (.Name "Hall" p) (e :: es) [] pos) ρ S Q := by
  refine aE_frz (aE_make c hr (fun σ H R s kk => h σ H R s fun vs H' ds S1 q => kk vs H' ds S1 ?_) hk hg hdb he hpl)
  obtain ⟨h, rl, dl, sl, tw, ed, ho, mo, hT, hQ⟩ := q
  subst ed
  exact fun a => ⟨h, rl, dl, sl, tw, a, S1, rfl, rfl, ho, mo, hT, rfl, 0, a, _, rfl, rfl, rfl, hQ⟩
section
variable {P : Program} {w : World} {K : PySem.W.Frag} {mg : Str → Option Value} {bse : Heap} {C T0 : Addr}
structure HallM (P : Program) (w : World) (K : PySem.W.Frag) (mg : Str → Option Value) (bse : Heap) (C : Addr) : Prop where
  rooms : MetA P w K mg bse 2 C "rooms" (spHL C HallT.rooms)
  doors : MetA P w K mg bse 2 C "doors" (spHL C dnames)
  stones : MetA P w K mg bse 2 C "stones" (spHL C snames)
  walkers : MetA P w K mg bse 2 C "walkers" (spHL C fnames)
  door : MetA P w K mg bse 2 C "door" (spDoor C)
  heft : MetA P w K mg bse 2 C "heft" (spHeftM C)
  hands : MetA P w K mg bse 2 C "hands" (spHands C)
abbrev sDT : Stmt := top 12
abbrev nDT : List Str := ["hall", "name"]
theorem scDT : FnScope nDT ["hall"] (defScope sDT) := ⟨rfl, rfl, rfl, by decide +kernel, rfl, by decide +kernel, by decide +kernel⟩
def dT (h : HallT) : List (Str × Gate × List Row) := h.doors.map fun x => (x.1, x.2, x.2.rows)
def spDT (C : Addr) : ASp := fun ds S R => ∃ (h : HallT), ds = [hallI C h] ∧ HallOk h ∧ R (.lst ((dT h).map dtD)) S
theorem bDT (HM : HallM P w K mg bse C) : BodyA P w K mg bse nDT "doors_told" sDT 2 (spDT C) := by
  intro f cdv A outer s H E hr ds S R ⟨h, eds, ho, hR⟩
  have hu : Un _ := ⟨hr.units⟩
  have nd : Names nDT := ⟨scDT.nd⟩
  have sc : Scp nDT (defScope sDT) := ⟨scDT.nd⟩
  subst eds
  have m1 := HM.doors
  have m2 := HM.door
  have d5 := ho.d5
  walk_at "w"
  refine lcE (.nm 1) [("name", 1)] sc ?_ ⟨rfl, by decide +kernel, by decide +kernel, by decide +kernel, by decide +kernel⟩ (fun _ _ _ _ _ => tgNm nd (by walk_at "n") (by rfl)) rfl rfl rfl (by decide) (by decide)
  refine aI_list ?_
  walk_at "w"
  refine ⟨h, rfl, _, rfl, ?_⟩
  rw [dn_map]
  refine lcM (fun x => dtD (x.1, x.2, x.2.rows)) (by omega) (fun x hx A => ?_) (.inl ?_)
  · intro s H C cl fp
    walk_at "w"
    refine ⟨h, _, _, rfl, valP_nd ho.dn hx, ?_⟩
    refine oCatT (by show 5 ≤ 100000; decide) ⟨rfl, rfl⟩
  · unfold dT at hR
    rw [List.map_map] at hR
    exact hR
abbrev sST : Stmt := top 13
abbrev nST : List Str := ["hall", "name"]
theorem scST : FnScope nST ["hall"] (defScope sST) := ⟨rfl, rfl, rfl, by decide +kernel, rfl, by decide +kernel, by decide +kernel⟩
def spST (C : Addr) : ASp := fun ds S R => ∃ (h : HallT), ds = [hallI C h] ∧ HallOk h ∧ R (.lst (h.stones.map (prD false))) S
theorem bST (HM : HallM P w K mg bse C) : BodyA P w K mg bse nST "stones_told" sST 2 (spST C) := by
  intro f cdv A outer s H E hr ds S R ⟨h, eds, ho, hR⟩
  have hu : Un _ := ⟨hr.units⟩
  have nd : Names nST := ⟨scST.nd⟩
  have sc : Scp nST (defScope sST) := ⟨scST.nd⟩
  subst eds
  have m1 := HM.stones
  have m2 := HM.heft
  have s3 := ho.s3
  walk_at "w"
  refine lcE (.nm 1) [("name", 1)] sc ?_ ⟨rfl, by decide +kernel, by decide +kernel, by decide +kernel, by decide +kernel⟩ (fun _ _ _ _ _ => tgNm nd (by walk_at "n") (by rfl)) rfl rfl rfl (by decide) (by decide)
  refine aI_list ?_
  walk_at "w"
  refine ⟨h, rfl, _, rfl, ?_⟩
  rw [sn_map]
  refine lcM (prD false) (by omega) (fun x hx A => ?_) (.inl hR)
  intro s H C cl fp
  walk_at "w"
  refine ⟨h, _, _, rfl, ho.hs hx, ?_⟩
  walk_at "w"
  exact ⟨rfl, rfl⟩
abbrev sWT : Stmt := top 14
abbrev nWT : List Str := ["hall", "name"]
theorem scWT : FnScope nWT ["hall"] (defScope sWT) := ⟨rfl, rfl, rfl, by decide +kernel, rfl, by decide +kernel, by decide +kernel⟩
def spWT (C : Addr) : ASp := fun ds S R => ∃ (h : HallT), ds = [hallI C h] ∧ HallOk h ∧ R (.lst (h.folk.map wkD)) S
theorem bWT (HM : HallM P w K mg bse C) : BodyA P w K mg bse nWT "walkers_told" sWT 2 (spWT C) := by
  intro f cdv A outer s H E hr ds S R ⟨h, eds, ho, hR⟩
  have hu : Un _ := ⟨hr.units⟩
  have nd : Names nWT := ⟨scWT.nd⟩
  have sc : Scp nWT (defScope sWT) := ⟨scWT.nd⟩
  subst eds
  have m1 := HM.walkers
  have m2 := HM.heft
  have m3 := HM.hands
  have f3 := ho.f3
  walk_at "w"
  refine lcE (.nm 1) [("name", 1)] sc ?_ ⟨rfl, by decide +kernel, by decide +kernel, by decide +kernel, by decide +kernel⟩ (fun _ _ _ _ _ => tgNm nd (by walk_at "n") (by rfl)) rfl rfl rfl (by decide) (by decide)
  refine aI_list ?_
  walk_at "w"
  refine ⟨h, rfl, _, rfl, ?_⟩
  rw [fn_map]
  refine lcM wkD (by omega) (fun x hx A => ?_) (.inl hR)
  intro s H C cl fp
  walk_at "w"
  refine ⟨h, _, _, rfl, ho.hf hx, ?_⟩
  walk_at "w"
  refine ⟨h, _, _, rfl, ho.fv hx, ?_⟩
  walk_at "w"
  exact ⟨rfl, rfl⟩
abbrev sNA : Stmt := top 16
abbrev nNA : List Str := ["names", "name"]
theorem scNA : FnScope nNA ["names", "name"] (defScope sNA) := ⟨rfl, rfl, rfl, by decide +kernel, rfl, by decide +kernel, by decide +kernel⟩
def spNA : ASp := fun ds S R => ∃ (l : List Str) (x : Str), ds = [.lst (l.map D.str), .str x] ∧ x ∈ l ∧ R .non S
theorem bNA : BodyA P w K mg bse nNA "need_among" sNA 1 spNA := by
  intro f cdv A outer s H E hr ds S R ⟨l, x, eds, hx, hR⟩
  have hu : Un _ := ⟨hr.units⟩
  have nd : Names nNA := ⟨scNA.nd⟩
  have sc : Scp nNA (defScope sNA) := ⟨scNA.nd⟩
  subst eds
  walk_at "w"
  refine oNinL qL ?_
  rw [decide_eq_true hx]
  walk_at "w"
  exact hR
abbrev sWD : Stmt := top 17
abbrev nWD : List Str := ["hall", "doors"]
theorem scWD : FnScope nWD ["hall", "doors"] (defScope sWD) := ⟨rfl, rfl, rfl, by decide +kernel, rfl, by decide +kernel, by decide +kernel⟩
def spWD (C T0 : Addr) : ASp := fun ds S R => ∃ (h : HallT) (D' : List (Str × Gate)) (dl : List (Str × Gate × List Row)), ds = [hallI C h, .lst (dl.map dtD)] ∧ HallOk h ∧ HallOk { h with doors := D' } ∧ (dl.map fun x => (x.1, x.2.1)).Perm D' ∧ (∀ x ∈ dl, x.2.2.Perm x.2.1.rows) ∧ (T0, D.tbl qLam) ∈ S ∧ R (hallI C { h with doors := D' }) S
theorem bWD (HM : HallM P w K mg bse C) (c1 : CalA P w K mg bse 3 "stones_told" (spST C) []) (c2 : CalA P w K mg bse 3 "walkers_told" (spWT C) []) (cM : MakA P w K mg bse 3 "Hall" C (spHInit C T0)) : BodyA P w K mg bse nWD "with_doors" sWD 4 (spWD C T0) := by
  intro f cdv A outer s H E hr ds S R ⟨h, D', dl, eds, ho, ho', hp, hr', hT, hR⟩
  have hu : Un _ := ⟨hr.units⟩
  have nd : Names nWD := ⟨scWD.nd⟩
  have sc : Scp nWD (defScope sWD) := ⟨scWD.nd⟩
  subst eds
  have m1 := HM.rooms
  walk_at "w"
  refine mkHall cM hr ?_
  walk_at "w"
  refine ⟨h, rfl, ?_⟩
  walk_at "w"
  refine ⟨h, rfl, ho, ?_⟩
  walk_at "w"
  refine ⟨h, rfl, ho, ?_⟩
  walk_at "w"
  exact ⟨{ h with doors := D' }, h.rooms, dl, h.stones, false, rfl, ho', ⟨.refl _, hp, hr', .refl _⟩, hT, hR⟩
abbrev sWalled : Stmt := top 18
abbrev nWalled : List Str := ["hall", "door", "row"]
theorem scWalled : FnScope nWalled ["hall", "door"] (defScope sWalled) := ⟨rfl, rfl, rfl, by decide +kernel, rfl, by decide +kernel, by decide +kernel⟩
def spWalled (C T0 : Addr) : ASp := fun ds S R => ∃ (h : HallT) (d : Str), ds = [hallI C h, .str d] ∧ HallOk h ∧ d ∈ dnames h ∧ (T0, D.tbl qLam) ∈ S ∧ R (hallI C (wallT h d)) S
theorem bWalled (HM : HallM P w K mg bse C) (c1 : CalA P w K mg bse 2 "need_among" spNA []) (c2 : CalA P w K mg bse 3 "doors_told" (spDT C) []) (c3 : CalA P w K mg bse 5 "with_doors" (spWD C T0) []) : BodyA P w K mg bse nWalled "walled" sWalled 5 (spWalled C T0) := by
  intro f cdv A outer s H E hr ds S R ⟨h, d, eds, ho, hd, hT, hR⟩
  have hu : Un _ := ⟨hr.units⟩
  have nd : Names nWalled := ⟨scWalled.nd⟩
  have sc : Scp nWalled (defScope sWalled) := ⟨scWalled.nd⟩
  subst eds
  have m1 := HM.doors
  have d5 := ho.d5
  walk_at "w"
  refine ⟨h, rfl, ?_⟩
  walk_at "w"
  refine ⟨dnames h, d, rfl, hd, ?_⟩
  walk_at "w"
  refine lcE (.nm 2) [("row", 2)] sc ?_ ⟨rfl, by decide +kernel, by decide +kernel, by decide +kernel, by decide +kernel⟩ (fun _ _ _ _ _ => tgNm nd (by walk_at "n") (by rfl)) rfl rfl rfl (by decide) (by decide)
  refine aI_list ?_
  walk_at "w"
  refine ⟨h, rfl, ho, _, rfl, ?_⟩
  refine lcF (fun x => decide (x.1 ≠ d)) dtD (by unfold dT; rw [List.length_map]; omega) (fun x hx A => ?_) (.inl ?_)
  · intro s H C cl fp
    walk_at "w"
    refine ⟨rfl, ?_, fun _ => ?_⟩
    · by_cases e : x.1 = d
      · rw [decide_eq_true e, decide_eq_false (by simpa using e)]; rfl
      · rw [decide_eq_false e, decide_eq_true e]; rfl
    · intro s H C cl fp
      walk_at "w"
      exact ⟨rfl, rfl⟩
  walk_at "w"
  refine ⟨h, (wallT h d).doors, _, rfl, ho, wall_ok ho d, ?_, fun x hx => ?_, hT, hR⟩
  · unfold dT
    rw [List.filter_map, List.map_map]
    show List.Perm (List.map (fun x => x) _) _
    rw [List.map_id']
    exact .refl _
  · obtain ⟨y, hy, e⟩ := List.mem_map.mp (List.mem_filter.mp hx |>.1)
    subst e
    exact .refl _
abbrev sRowed : Stmt := top 19
abbrev nRowed : List Str := ["hall", "door", "rows", "one", "other", "way", "elder", "kept", "row"]
theorem scRowed : FnScope nRowed ["hall", "door", "rows"] (defScope sRowed) := ⟨rfl, rfl, rfl, by decide +kernel, rfl, by decide +kernel, by decide +kernel⟩
/-- rows handed in, a list or a tuple -/
def spRowed (C T0 : Addr) : ASp := fun ds S R => ∃ (h : HallT) (d : Str) (g : Gate) (rs gs : List Row) (rd : D), ds = [hallI C h, .str d, rd] ∧ (ResL S rd (rs.map rowD) ∨ rd = rowsD rs) ∧ HallOk h ∧ valP h.doors d = some g ∧ rs.Perm gs ∧ (gs.map (·.room)).Sublist h.rooms ∧ (T0, D.tbl qLam) ∈ S ∧ R (hallI C (rowsT h d gs)) S
theorem bRowed (HM : HallM P w K mg bse C) (M : Nm mg) (c1 : CalA P w K mg bse 2 "need_among" spNA []) (c2 : CalA P w K mg bse 3 "doors_told" (spDT C) []) (c3 : CalA P w K mg bse 5 "with_doors" (spWD C T0) []) : BodyA P w K mg bse nRowed "rowed" sRowed 5 (spRowed C T0) := by
  intro f cdv A outer s H E hr ds S R ⟨h, d, g, rs, gs, rd, eds, hrd, ho, hg, hp, hsub, hT, hR⟩
  have hu : Un _ := ⟨hr.units⟩
  have nd : Names nRowed := ⟨scRowed.nd⟩
  have sc : Scp nRowed (defScope sRowed) := ⟨scRowed.nd⟩
  subst eds
  have m1 := HM.doors
  have m2 := HM.door
  have d5 := ho.d5
  have hd : d ∈ dnames h := List.mem_map.mpr ⟨_, valP_some_mem hg, rfl⟩
  walk_at "w"
  refine ⟨h, rfl, ?_⟩
  walk_at "w"
  refine ⟨dnames h, d, rfl, hd, ?_⟩
  walk_at "w"
  refine aS_asg (.tp [3, 4, 5, 6]) ?_ (tgTp rfl (pgsN nd (by walk_at "n") (by rfl) (pgsN nd (by walk_at "n") (by rfl) (pgsN nd (by walk_at "n") (by rfl) (pgsN nd (by walk_at "n") (by rfl) (pgsO))))))
  walk_at "w"
  refine ⟨h, d, g, rfl, hg, ?_⟩
  walk_at "w"
  refine lcS (.nm 8) [("row", 8)] sc (by walk_at "n") ?_ ⟨rfl, by decide +kernel, by decide +kernel, by decide +kernel, by decide +kernel⟩ (fun _ _ _ _ _ => tgNm nd (by walk_at "n") (by rfl)) rfl rfl rfl (by decide) (by decide)
  refine aI_list ?_
  walk_at "w"
  refine ⟨h, rfl, ho, _, rfl, ?_⟩
  refine lcF (fun x => decide (x.1 ≠ d)) dtD (by unfold dT; rw [List.length_map]; omega) (fun x hx A => ?_) (.inl ?_)
  · intro s H C cl fp
    walk_at "w"
    refine ⟨rfl, ?_, fun _ => ?_⟩
    · by_cases e : x.1 = d
      · rw [decide_eq_true e, decide_eq_false (by simpa using e)]; rfl
      · rw [decide_eq_false e, decide_eq_true e]; rfl
    · intro s H C cl fp
      walk_at "w"
      exact ⟨rfl, rfl⟩
  walk_at "w"
  refine ⟨_, by rcases hrd with e | e; exact .inl e; exact .inr (.inl e), ?_⟩
  walk_at "w"
  refine .inl (oCat rL rL ?_ (.inl ?_))
  · have := List.length_filter_le (fun x : Str × Gate × List Row => decide (x.1 ≠ d)) (dT h)
    unfold dT at this ⊢
    rw [List.length_map] at this
    rw [List.length_map]
    show _ + 1 ≤ _
    omega
  walk_at "w"
  refine ⟨h, (rowsT h d gs).doors, (dT h).filter (fun x => decide (x.1 ≠ d)) ++ [(d, { g with rows := gs }, rs)], by rw [List.map_append]; rfl, ho, rows_ok ho d hsub, ?_, fun x hx => ?_, hT, hR⟩
  · refine .trans (.of_eq ?_) (rowed_perm ho hg)
    rw [List.map_append]
    unfold dT
    rw [List.filter_map, List.map_map]
    show List.map (fun x => x) _ ++ _ = _
    rw [List.map_id']
    rfl
  · rcases List.mem_append.mp hx with h1 | h1
    · obtain ⟨y, hy, e⟩ := List.mem_map.mp (List.mem_filter.mp h1 |>.1)
      subst e
      exact .refl _
    · rw [List.mem_singleton.mp h1]
      exact hp
abbrev sOpened : Stmt := top 20
abbrev nOpened : List Str := ["hall", "door"]
theorem scOpened : FnScope nOpened ["hall", "door"] (defScope sOpened) := ⟨rfl, rfl, rfl, by decide +kernel, rfl, by decide +kernel, by decide +kernel⟩
def spOpened (C T0 : Addr) : ASp := fun ds S R => ∃ (h : HallT) (d : Str) (g : Gate), ds = [hallI C h, .str d] ∧ HallOk h ∧ valP h.doors d = some g ∧ (T0, D.tbl qLam) ∈ S ∧ R (hallI C (rowsT h d [])) S
theorem bOpened (c1 : CalA P w K mg bse 6 "rowed" (spRowed C T0) []) : BodyA P w K mg bse nOpened "opened" sOpened 6 (spOpened C T0) := by
  intro f cdv A outer s H E hr ds S R ⟨h, d, g, eds, ho, hg, hT, hR⟩
  have hu : Un _ := ⟨hr.units⟩
  have nd : Names nOpened := ⟨scOpened.nd⟩
  have sc : Scp nOpened (defScope sOpened) := ⟨scOpened.nd⟩
  subst eds
  walk_at "w"
  exact ⟨h, d, g, [], [], _, rfl, .inr rfl, ho, hg, .refl _, List.nil_sublist _, hT, hR⟩
abbrev sHefted : Stmt := top 21
abbrev nHefted : List Str := ["hall", "name", "heft", "stones", "stone", "elder", "walkers", "one", "hands"]
theorem scHefted : FnScope nHefted ["hall", "name", "heft"] (defScope sHefted) := ⟨rfl, rfl, rfl, by decide +kernel, rfl, by decide +kernel, by decide +kernel⟩
def spHefted (C T0 : Addr) : ASp := fun ds S R => ∃ (h : HallT) (n : Str) (k : Int), ds = [hallI C h, .str n, .int k] ∧ HallOk h ∧ (n ∈ snames h ∨ n ∈ fnames h) ∧ (T0, D.tbl qLam) ∈ S ∧ R (hallI C (heftedT h n k)) S
theorem bHefted (HM : HallM P w K mg bse C) (c1 : CalA P w K mg bse 2 "need_among" spNA []) (c2 : CalA P w K mg bse 3 "doors_told" (spDT C) []) (c3 : CalA P w K mg bse 3 "stones_told" (spST C) []) (c4 : CalA P w K mg bse 3 "walkers_told" (spWT C) []) (cM : MakA P w K mg bse 3 "Hall" C (spHInit C T0)) : BodyA P w K mg bse nHefted "hefted" sHefted 4 (spHefted C T0) := by
  intro f cdv A outer s H E hr ds S R ⟨h, n, k, eds, ho, hn, hT, hR⟩
  have hu : Un _ := ⟨hr.units⟩
  have nd : Names nHefted := ⟨scHefted.nd⟩
  have sc : Scp nHefted (defScope sHefted) := ⟨scHefted.nd⟩
  subst eds
  have m1 := HM.rooms
  have m2 := HM.stones
  have m3 := HM.walkers
  have s3 := ho.s3
  have f3 := ho.f3
  walk_at "w"
  refine ⟨h, rfl, ?_⟩
  walk_at "w"
  refine ⟨h, rfl, ?_⟩
  refine oCat rL rL (by rw [List.length_map, List.length_map]; unfold snames fnames; rw [List.length_map, List.length_map]; omega) (.inl ?_)
  walk_at "w"
  refine ⟨snames h ++ fnames h, n, by rw [List.map_append]; rfl, List.mem_append.mpr hn, ?_⟩
  walk_at "w"
  refine lcS (.tp [4, 5]) [("stone", 4), ("elder", 5)] sc (by walk_at "n") ?_ ⟨rfl, by decide +kernel, by decide +kernel, by decide +kernel, by decide +kernel⟩ (fun _ _ _ _ _ => tgTp rfl (pgsN nd (by walk_at "n") (by rfl) (pgsN nd (by walk_at "n") (by rfl) (pgsO)))) rfl rfl rfl (by decide) (by decide)
  refine aI_list ?_
  walk_at "w"
  refine ⟨h, rfl, ho, _, rfl, ?_⟩
  refine lcM (fun x => prD false (heftS n k x)) (by omega) (fun x hx A => ?_) (.inl ?_)
  · refine ⟨_, Or.inl rfl, rfl, ?_⟩
    intro s H C cl fp
    walk_at "w"
    refine iteD (fun e => ?_) fun e => ?_
    · walk_at "w"
      refine ⟨rfl, ?_⟩
      unfold heftS
      rw [if_pos e]; rfl
    · walk_at "w"
      refine ⟨rfl, ?_⟩
      unfold heftS
      rw [if_neg e]; rfl
  walk_at "w"
  refine lcS (.tp [7, 5, 8]) [("one", 7), ("elder", 5), ("hands", 8)] sc (by walk_at "n") ?_ ⟨rfl, by decide +kernel, by decide +kernel, by decide +kernel, by decide +kernel⟩ (fun _ _ _ _ _ => tgTp rfl (pgsN nd (by walk_at "n") (by rfl) (pgsN nd (by walk_at "n") (by rfl) (pgsN nd (by walk_at "n") (by rfl) (pgsO))))) rfl rfl rfl (by decide) (by decide)
  refine aI_list ?_
  walk_at "w"
  refine ⟨h, rfl, ho, _, rfl, ?_⟩
  refine lcM (fun x => wkD (heftW n k x)) (by omega) (fun x hx A => ?_) (.inl ?_)
  · refine ⟨_, Or.inl rfl, rfl, ?_⟩
    intro s H C cl fp
    walk_at "w"
    refine iteD (fun e => ?_) fun e => ?_
    · walk_at "w"
      refine ⟨rfl, ?_⟩
      unfold heftW
      rw [if_pos e]
    · walk_at "w"
      refine ⟨rfl, ?_⟩
      unfold heftW
      rw [if_neg e]
  walk_at "w"
  refine mkHall cM hr ?_
  walk_at "w"
  refine ⟨h, rfl, ?_⟩
  walk_at "w"
  refine ⟨h, rfl, ho, ?_⟩
  walk_at "w"
  have ho' := heft_ok ho n k
  refine ⟨heftedT h n k, h.rooms, dT h, (heftedT h n k).stones, false, ?_, ho', ⟨.refl _, .of_eq ?_, fun x hx => ?_, .refl _⟩, hT, hR⟩
  · show _ = [_, _, D.lst ((h.stones.map (heftS n k)).map (prD false)), D.lst ((h.folk.map (heftW n k)).map wkD)]
    rw [List.map_map, List.map_map]
    rfl
  · unfold dT
    rw [List.map_map]
    show List.map (fun x => x) _ = _
    rw [List.map_id']; rfl
  · obtain ⟨y, hy, e⟩ := List.mem_map.mp hx
    subst e
    exact .refl _
end

end
-- T6
/-! Stands: who is where. -/
section
open PySem L2 DL
theorem where_zip {h : HallT} {s : StandT} : whereT h s = (h.folk.zip s.rooms).map fun x => (x.1.name, x.2) := by
  unfold whereT fnames
  rw [List.zip_map_left]
  exact List.map_congr_left fun x _ => rfl
theorem where_keys {h : HallT} {s : StandT} (so : StandOk h s) : (whereT h s).map (·.1) = fnames h := by
  unfold whereT
  rw [List.map_fst_zip (by unfold fnames; rw [List.length_map, so.rl]; exact Nat.le_refl _)]
theorem items_where {h : HallT} {s : StandT} : itemsD (dctS D.str (whereT h s)) = (h.folk.zip s.rooms).map fun x => .tupW [.str x.1.name, .str x.2] := by
  rw [where_zip]
  unfold itemsD dctS
  rw [List.map_map, List.map_map]
  rfl
theorem pairs_where {h : HallT} {s : StandT} : pairs ((fnames h).map D.str) (s.rooms.map D.str) = (h.folk.zip s.rooms).map fun x => .tupW [.str x.1.name, .str x.2] := by
  rw [fn_map, pairs_map]
theorem pairs_stones {h : HallT} {s : StandT} : pairs ((snames h).map D.str) (s.places.map D.str) = (h.stones.zip s.places).map fun x => .tupW [.str x.1.1, .str x.2] := by
  rw [sn_map, pairs_map]
theorem dct_where {h : HallT} {s : StandT} : ((h.folk.zip s.rooms).map fun x => ((Sum.inr x.1.name : Key), D.str x.2)) = dctS D.str (whereT h s) := by
  rw [where_zip]
  unfold dctS
  rw [List.map_map]
  rfl
theorem get_spot {h : HallT} {s : StandT} {p : Str} : (valP (dctS D.str (whereT h s)) (.inr p)).getD (.str p) = .str (spotT h s p) := by
  rw [valP_dctS]
  unfold spotT
  cases valP (whereT h s) p <;> rfl
theorem wts_put {w : Wts} {r : Str} {k : Int} : putP (wtsD w) (.inr r) (.int (wAt w r + k)) = wtsD (wAdd w r k) := putP_dctS (g := D.int)
theorem wts_len {w : Wts} {rooms : List Str} (hw : w.map (·.1) = rooms) : (wtsD w).length = rooms.length := by
  unfold wtsD
  rw [dctS_len, ← hw, List.length_map]
theorem mergeP_app : ∀ {more l : List (Key × D)}, ((l ++ more).map (·.1)).Nodup → mergeP l more = l ++ more
  | [], l, _ => (List.append_nil l).symm
  | x :: more, l, h => by
    show mergeP (putP l x.1 x.2) more = _
    have hx : x.1 ∉ l.map (·.1) := by
      rw [List.map_append, List.map_cons] at h
      intro hm
      exact (List.nodup_append.mp h).2.2 _ hm x.1 List.mem_cons_self rfl
    rw [putP_new hx, mergeP_app (by rw [List.append_assoc]; exact h), List.append_assoc]
    rfl
theorem mergeP_nd {more : List (Key × D)} (h : (more.map (·.1)).Nodup) : mergeP [] more = more := mergeP_app h
theorem zipP_eq {α : Type} : ∀ {ks : List Key} {xs : List α}, zipP ks xs = ks.zip xs
  | [], [] => rfl
  | [], _ :: _ => rfl
  | _ :: _, [] => rfl
  | k :: ks, x :: xs => by
    show (k, x) :: zipP ks xs = (k, x) :: ks.zip xs
    rw [zipP_eq]
theorem zip_where {h : HallT} {s : StandT} (ho : HallOk h) (so : StandOk h s) : mergeP [] (zipP ((fnames h).map Sum.inr) (s.rooms.map D.str)) = dctS D.str (whereT h s) := by
  have e : zipP ((fnames h).map (Sum.inr : Str → Key)) (s.rooms.map D.str) = dctS D.str (whereT h s) := by
    rw [zipP_eq, List.zip_map]
    rfl
  rw [e, mergeP_nd]
  rw [dctS_keys', where_keys so]
  exact nd_inr ho.fn
theorem where_val {h : HallT} {s : StandT} (ho : HallOk h) (so : StandOk h s) {x : Wk × Str} (hx : x ∈ h.folk.zip s.rooms) : valP (whereT h s) x.1.name = some x.2 :=
  valP_nd (l := whereT h s) (by rw [where_keys so]; exact ho.fn) (x := (x.1.name, x.2)) (by rw [where_zip]; exact List.mem_map.mpr ⟨x, hx, rfl⟩)
theorem folk_zip {h : HallT} {s : StandT} (so : StandOk h s) : h.folk.map wkD = (h.folk.zip s.rooms).map fun x => wkD x.1 := by
  conv => lhs; rw [← List.map_fst_zip (l₁ := h.folk) (l₂ := s.rooms) (by rw [so.rl]; exact Nat.le_refl _), List.map_map]
  rfl
theorem rooms_pairs {h : HallT} : h.rooms.map (fun x => D.tup [.str x, .int 0]) = pairT (wtsD (borne0 h)) := by
  unfold pairT wtsD dctS borne0
  rw [List.map_map, List.map_map]
  rfl
theorem rooms_merge {h : HallT} (ho : HallOk h) : mergeP [] (wtsD (borne0 h)) = wtsD (borne0 h) := by
  refine mergeP_nd ?_
  unfold wtsD
  rw [dctS_keys', borne0_keys]
  exact nd_inr ho.rn
end
-- F6
section
open PySem L2 DL
section
variable {P : Program} {w : World} {K : PySem.W.Frag} {mg : Str → Option Value} {bse : Heap} {C T0 : Addr}
abbrev sBorne : Stmt := top 28
abbrev nBorne : List Str := ["hall", "stand", "goer", "where", "walker", "room", "found", "stone", "place"]
theorem scBorne : FnScope nBorne ["hall", "stand", "goer"] (defScope sBorne) := ⟨rfl, rfl, rfl, by decide +kernel, rfl, by decide +kernel, by decide +kernel⟩
def spBorne (C : Addr) : ASp := fun ds S R => ∃ (h : HallT) (t : StandT) (a : Option Str), ds = [hallI C h, standD t, oS a] ∧ HallOk h ∧ StandOk h t ∧ R (.dct (wtsD (borneT h t a))) S
theorem bBorne (HM : HallM P w K mg bse C) (M : Nm mg) : BodyA P w K mg bse nBorne "borne" sBorne 2 (spBorne C) := by
  intro f cdv A outer s H E hr ds S R ⟨h, t, a, eds, ho, so, hR⟩
  have hu : Un _ := ⟨hr.units⟩
  have nd : Names nBorne := ⟨scBorne.nd⟩
  have sc : Scp nBorne (defScope sBorne) := ⟨scBorne.nd⟩
  subst eds
  have m1 := HM.rooms
  have m2 := HM.stones
  have m3 := HM.walkers
  have m4 := HM.heft
  have f3 := ho.f3
  have s3 := ho.s3
  have r4 := ho.r4
  walk_at "w"
  refine dcS (.tp [4, 5]) [("walker", 4), ("room", 5)] sc (by walk_at "n") ?_ ⟨rfl, by decide +kernel, by decide +kernel, by decide +kernel, by decide +kernel⟩ (fun _ _ _ _ _ => tgTp rfl (pgsN nd (by walk_at "n") (by rfl) (pgsN nd (by walk_at "n") (by rfl) (pgsO)))) rfl rfl rfl (by decide)
  refine aI_zipM M.zip ?_
  walk_at "w"
  refine ⟨h, rfl, ?_⟩
  walk_at "w"
  refine ⟨_, _, rfl, by rw [List.length_map, List.length_map, so.rl]; unfold fnames; rw [List.length_map], ?_⟩
  rw [pairs_where]
  refine dcM (fun x => .inr x.1.name) (fun x => .str x.2) (by rw [List.length_zip]; omega) ?_ (fun x hx A => ?_) (.inl ?_)
  · refine nd_key (f := fun x : Wk × Str => x.1.name) ?_
    have := ho.fn
    rw [← where_keys so, where_zip, List.map_map] at this
    exact this
  · refine ⟨_, Or.inr rfl, rfl, ?_⟩
    intro s H C cl fp
    walk_at "w"
    refine ⟨rfl, rfl, ?_⟩
    intro s H C cl fp
    walk_at "w"
    exact ⟨rfl, rfl⟩
  rw [dct_where]
  walk_at "w"
  refine dcS (.nm 5) [("room", 5)] sc (by walk_at "n") ?_ ⟨rfl, by decide +kernel, by decide +kernel, by decide +kernel, by decide +kernel⟩ (fun _ _ _ _ _ => tgNm nd (by walk_at "n") (by rfl)) rfl rfl rfl (by decide)
  refine aI_list ?_
  walk_at "w"
  refine ⟨h, rfl, _, rfl, ?_⟩
  refine dcM (fun x => .inr x) (fun x => .int 0) (by omega) (nd_inr ho.rn) (fun x hx A => ?_) (.inr fun q => ?_)
  · intro s H C cl fp
    walk_at "w"
    refine ⟨rfl, rfl, ?_⟩
    intro s H C cl fp
    walk_at "w"
    exact ⟨rfl, rfl⟩
  rw [show (h.rooms.map fun x => ((Sum.inr x : Key), D.int 0)) = wtsD (borne0 h) by unfold wtsD dctS borne0; rw [List.map_map]; rfl]
  refine aSs_cons ?_
  refine frD (.tp [4, 5]) dw_items (evN nd (by walk_at "n") (by rfl) (by rfl)) ?_ (tgTp rfl (pgsN nd (by walk_at "n") (by rfl) (pgsN nd (by walk_at "n") (by rfl) (pgsO)))) .never rfl
  rw [items_where]
  refine frM (fun (b : Wts) ρ' S' => b.map (·.1) = h.rooms ∧ (∃ o1 o2, ρ' = [some (hallI C h), some (standD t), some (oS a), some (.dct (dctS D.str (whereT h t))), o1, o2, some (.adr q), none, none]) ∧ S' = (q, .dct (wtsD b)) :: S) (bFolk a) (borne0 h) ⟨borne0_keys h, ⟨_, _, rfl⟩, rfl⟩ ?_ ?_
  · rintro b x ρ' S' hx ⟨hb, ⟨o1, o2, e1⟩, e2⟩
    subst e1; subst e2
    have hm := List.of_mem_zip hx
    have hr2 : x.2 ∈ b.map (·.1) := by rw [hb]; exact so.r _ hm.2
    refine ⟨_, Or.inr rfl, rfl, ?_⟩
    show aSs _ _ [some (hallI C h), some (standD t), some (oS a), some (.dct (dctS D.str (whereT h t))), some (.str x.1.name), some (.str x.2), some (.adr q), none, none] _ _
    walk_at "w"
    refine iteD (fun e => ?_) fun e => ?_
    · walk_at "w"
      refine dAug hu (p := q) (kk := .inr x.2) (i := 0) (l := wtsD b) (n := wAt b x.2) ?_ ?_ rfl ?_ ?_ ?_
      · walk_at "w"
        exact ⟨rfl, rfl⟩
      · walk_at "w"
        exact ⟨rfl, rfl⟩
      · unfold wtsD
        rw [valP_dctS, wAt_some hr2]; rfl
      · rw [wts_len hb]; omega
      · walk_at "w"
        refine ⟨h, _, _, rfl, ho.hf hm.1, ?_⟩
        refine ⟨_, rfl, rfl, ?_⟩
        walk_at "w"
        rw [wts_put]
        refine ⟨bFolk_keys so hx hb, ⟨_, _, rfl⟩, ?_⟩
        unfold bFolk
        rw [if_pos e]; rfl
    · walk_at "w"
      refine ⟨bFolk_keys so hx hb, ⟨_, _, rfl⟩, ?_⟩
      unfold bFolk
      rw [if_neg e]
  rintro ρ' S' ⟨hb, ⟨o1, o2, e1⟩, e2⟩
  subst e1; subst e2
  have hb : (borne1 h t a).map (·.1) = h.rooms := hb
  show aSs _ _ _ ((q, D.dct (wtsD (borne1 h t a))) :: S) _
  refine aSs_cons ?_
  refine frS (.tp [7, 8]) ?_ (tgTp rfl (pgsN nd (by walk_at "n") (by rfl) (pgsN nd (by walk_at "n") (by rfl) (pgsO)))) .never rfl
  refine aI_zipM M.zip ?_
  walk_at "w"
  refine ⟨h, rfl, ?_⟩
  walk_at "w"
  refine ⟨_, _, rfl, by rw [List.length_map, List.length_map, so.pl]; unfold snames; rw [List.length_map], ?_⟩
  rw [pairs_stones]
  refine frM (fun (b : Wts) ρ' S' => b.map (·.1) = h.rooms ∧ (∃ o1 o2 o3 o4, ρ' = [some (hallI C h), some (standD t), some (oS a), some (.dct (dctS D.str (whereT h t))), o1, o2, some (.adr q), o3, o4]) ∧ S' = (q, .dct (wtsD b)) :: S) (bStone h t a) (borne1 h t a) ⟨hb, ⟨_, _, _, _, rfl⟩, rfl⟩ ?_ ?_
  · rintro b x ρ' S' hx ⟨hb, ⟨o1, o2, o3, o4, e1⟩, e2⟩
    subst e1; subst e2
    have hm := List.of_mem_zip hx
    have hr2 : spotT h t x.2 ∈ b.map (·.1) := by rw [hb]; exact spot_ok so (so.p _ hm.2)
    refine ⟨_, Or.inr rfl, rfl, ?_⟩
    show aSs _ _ [some (hallI C h), some (standD t), some (oS a), some (.dct (dctS D.str (whereT h t))), o1, o2, some (.adr q), some (.str x.1.1), some (.str x.2)] _ _
    walk_at "w"
    refine iteD (fun e => ?_) fun e => ?_
    · walk_at "w"
      refine dAug hu (p := q) (kk := .inr (spotT h t x.2)) (i := 0) (l := wtsD b) (n := wAt b (spotT h t x.2)) ?_ ?_ rfl ?_ ?_ ?_
      · walk_at "w"
        exact ⟨rfl, rfl⟩
      · walk_at "w"
        refine ⟨⟨_, rD⟩, ?_⟩
        walk_at "w"
        refine ⟨.inr x.2, _, rfl, rD, ?_, rfl⟩
        rw [get_spot]; rfl
      · unfold wtsD
        rw [valP_dctS, wAt_some hr2]; rfl
      · rw [wts_len hb]; omega
      · walk_at "w"
        refine ⟨h, _, _, rfl, ho.hs hm.1, ?_⟩
        refine ⟨_, rfl, rfl, ?_⟩
        walk_at "w"
        rw [wts_put]
        refine ⟨bStone_keys so hx hb, ⟨_, _, _, _, rfl⟩, ?_⟩
        unfold bStone
        rw [if_pos e]; rfl
    · walk_at "w"
      refine ⟨bStone_keys so hx hb, ⟨_, _, _, _, rfl⟩, ?_⟩
      unfold bStone
      rw [if_neg e]
  rintro ρ' S' ⟨_, ⟨o1, o2, o3, o4, e1⟩, e2⟩
  subst e1; subst e2
  refine aSs_one (aS_ret (aE_frz ?_))
  walk_at "w"
  exact ⟨0, q, _, rfl, rfl, rfl, hR⟩
end

end
-- F7
section
open PySem L2 DL
section
variable {P : Program} {w : World} {K : PySem.W.Frag} {mg : Str → Option Value} {bse : Heap} {C T0 : Addr}
abbrev sIsOpen : Stmt := top 30
abbrev nIsOpen : List Str := ["hall", "door", "weights", "row"]
theorem scIsOpen : FnScope nIsOpen ["hall", "door", "weights"] (defScope sIsOpen) := ⟨rfl, rfl, rfl, by decide +kernel, rfl, by decide +kernel, by decide +kernel⟩
def RowsIn (w : Wts) (g : Gate) : Prop := ∀ r ∈ g.rows, r.room ∈ w.map (·.1)
def spIsOpen (C : Addr) : ASp := fun ds S R => ∃ (h : HallT) (d : Str) (wt : Wts) (g : Gate), ds = [hallI C h, .str d, .dct (wtsD wt)] ∧ valP h.doors d = some g ∧ g.rows.length < 1000 ∧ RowsIn wt g ∧ R (.bl (openW wt g)) S
theorem bIsOpen (HM : HallM P w K mg bse C) (M : Nm mg) (c1 : CalA P w K mg bse 2 "is_row_met" spRowMet []) : BodyA P w K mg bse nIsOpen "is_open" sIsOpen 2 (spIsOpen C) := by
  intro f cdv A outer s H E hr ds S R ⟨h, d, wt, g, eds, hg, hl, hw, hR⟩
  have hu : Un _ := ⟨hr.units⟩
  have nd : Names nIsOpen := ⟨scIsOpen.nd⟩
  have sc : Scp nIsOpen (defScope sIsOpen) := ⟨scIsOpen.nd⟩
  subst eds
  have m2 := HM.door
  walk_at "w"
  refine lcE (.nm 3) [("row", 3)] sc ?_ ⟨rfl, by decide +kernel, by decide +kernel, by decide +kernel, by decide +kernel⟩ (fun _ _ _ _ _ => tgNm nd (by walk_at "n") (by rfl)) rfl rfl rfl (by decide) (by decide)
  refine aI_tup ?_
  walk_at "w"
  refine ⟨h, d, g, rfl, hg, ?_⟩
  walk_at "w"
  refine lcM (fun r => .bl (metT wt r)) (by omega) (fun x hx A => ?_) (.inl ?_)
  · intro s H C cl fp
    walk_at "w"
    exact ⟨x, wt, rfl, hw x hx, rfl, rfl⟩
  refine ⟨g.rows.map (metT wt), .inl (by rw [List.map_map]; rfl), ?_⟩
  rw [List.all_map]
  exact hR
theorem rowsIn {h : HallT} (ho : HallOk h) {t : StandT} (so : StandOk h t) (a : Option Str) {x : Str × Gate} (hx : x ∈ h.doors) : RowsIn (borneT h t a) x.2 := fun r hr => by
  rw [borneT_keys so]
  exact (ho.dg x hx).rows.subset (List.mem_map.mpr ⟨r, hr, rfl⟩)
theorem rowsLen {h : HallT} (ho : HallOk h) {x : Str × Gate} (hx : x ∈ h.doors) : x.2.rows.length < 1000 := by
  have h1 := (ho.dg x hx).rows.length_le
  have h2 := ho.r4
  rw [List.length_map] at h1
  omega
abbrev sLBorne : Stmt := top 58
abbrev nLBorne : List Str := ["hall", "stand", "aside", "folk", "one", "where", "found", "room", "name", "heft", "hands", "stone", "place"]
theorem scLBorne : FnScope nLBorne ["hall", "stand", "aside"] (defScope sLBorne) := ⟨rfl, rfl, rfl, by decide +kernel, rfl, by decide +kernel, by decide +kernel⟩
def spLBorne : ASp := fun ds S R => ∃ (L : List (Key × D)) (h : HallT) (t : StandT) (a : Option Str), ds = [.dct L, standD t, oS a] ∧ HallL L h ∧ HallOk h ∧ StandOk h t ∧ R (.dct (wtsD (borneT h t a))) S
theorem bLBorne (M : Nm mg) : BodyA P w K mg bse nLBorne "_law_borne" sLBorne 1 spLBorne := by
  intro f cdv A outer s H E hr ds S R ⟨L, h, t, a, eds, hL, ho, so, hR⟩
  have hu : Un _ := ⟨hr.units⟩
  have nd : Names nLBorne := ⟨scLBorne.nd⟩
  have sc : Scp nLBorne (defScope sLBorne) := ⟨scLBorne.nd⟩
  subst eds
  have f3 := ho.f3
  have s3 := ho.s3
  have r4 := ho.r4
  have l1 := hL.rooms
  have l2 := hL.stones
  have l3 := hL.walkers
  walk_at "w"
  refine lcS (.nm 4) [("one", 4)] sc (by walk_at "n") ?_ ⟨rfl, by decide +kernel, by decide +kernel, by decide +kernel, by decide +kernel⟩ (fun _ _ _ _ _ => tgNm nd (by walk_at "n") (by rfl)) rfl rfl rfl (by decide) (by decide)
  refine aI_list ?_
  walk_at "w"
  refine ⟨_, rfl, ?_⟩
  refine lcM (fun x => .str x.name) (by omega) (fun x hx A => ?_) (.inl ?_)
  · intro s H C cl fp
    walk_at "w"
    exact ⟨rfl, rfl⟩
  rw [← fn_map]
  walk_at "w"
  refine ⟨(fnames h).map Sum.inr, _, by rw [List.map_map]; rfl, by rw [List.length_map, List.length_map, so.rl]; unfold fnames; rw [List.length_map], .inl ?_⟩
  rw [zip_where ho so]
  walk_at "w"
  refine lcE (.nm 7) [("room", 7)] sc ?_ ⟨rfl, by decide +kernel, by decide +kernel, by decide +kernel, by decide +kernel⟩ (fun _ _ _ _ _ => tgNm nd (by walk_at "n") (by rfl)) rfl rfl rfl (by decide) (by decide)
  refine aI_list ?_
  walk_at "w"
  refine ⟨_, rfl, ?_⟩
  refine lcM (fun x => .tup [.str x, .int 0]) (by omega) (fun x hx A => ?_) (.inl ?_)
  · intro s H C cl fp
    walk_at "w"
    exact ⟨rfl, rfl⟩
  rw [rooms_pairs]
  refine ⟨_, .inr ⟨rL, .inr fun q => ?_⟩⟩
  rw [rooms_merge ho]
  walk_at "w"
  refine frS (.tp [8, 9, 10]) ?_ (tgTp rfl (pgsN nd (by walk_at "n") (by rfl) (pgsN nd (by walk_at "n") (by rfl) (pgsN nd (by walk_at "n") (by rfl) (pgsO))))) .never rfl
  refine aI_list ?_
  walk_at "w"
  refine ⟨_, rfl, ?_⟩
  rw [folk_zip so]
  refine frM (fun (b : Wts) ρ' S' => b.map (·.1) = h.rooms ∧ (∃ o1 o2 o3, ρ' = [some (.dct L), some (standD t), some (oS a), some (.lst ((fnames h).map D.str)), none, some (.dct (dctS D.str (whereT h t))), some (.adr q), none, o1, o2, o3, none, none]) ∧ S' = (q, .dct (wtsD b)) :: S) (bFolk a) (borne0 h) ⟨borne0_keys h, ⟨_, _, _, rfl⟩, rfl⟩ ?_ ?_
  · rintro b x ρ' S' hx ⟨hb, ⟨o1, o2, o3, e1⟩, e2⟩
    subst e1; subst e2
    have hm := List.of_mem_zip hx
    have hr2 : x.2 ∈ b.map (·.1) := by rw [hb]; exact so.r _ hm.2
    have hv := where_val ho so hx
    refine ⟨_, Or.inl rfl, rfl, ?_⟩
    show aSs _ _ [some (.dct L), some (standD t), some (oS a), some (.lst ((fnames h).map D.str)), none, some (.dct (dctS D.str (whereT h t))), some (.adr q), none, some (.str x.1.name), some (.int x.1.heft), some (.int x.1.hands), none, none] _ _
    walk_at "w"
    refine iteD (fun e => ?_) fun e => ?_
    · walk_at "w"
      refine oIxS rD hv ?_
      refine oIxS (rDA (q := 0) rfl) (wAt_some hr2) ?_
      walk_at "w"
      refine oIxS rD hv ?_
      refine oPutD (q := 0) rfl (by rw [wts_len hb]; omega) ?_
      rw [wts_put]
      walk_at "w"
      refine ⟨bFolk_keys so hx hb, ⟨_, _, _, rfl⟩, ?_⟩
      unfold bFolk
      rw [if_pos e]; rfl
    · walk_at "w"
      refine ⟨bFolk_keys so hx hb, ⟨_, _, _, rfl⟩, ?_⟩
      unfold bFolk
      rw [if_neg e]
  rintro ρ' S' ⟨hb, ⟨o1, o2, o3, e1⟩, e2⟩
  subst e1; subst e2
  have hb : (borne1 h t a).map (·.1) = h.rooms := hb
  show aSs _ _ _ ((q, D.dct (wtsD (borne1 h t a))) :: S) _
  refine aSs_cons ?_
  refine frS (.tp [11, 12]) ?_ (tgTp rfl (pgsN nd (by walk_at "n") (by rfl) (pgsN nd (by walk_at "n") (by rfl) (pgsO)))) .never rfl
  refine aI_zipM M.zip ?_
  walk_at "w"
  refine ⟨snames h, .inr ⟨_, rD, dctS_keys'⟩, by unfold snames; rw [List.length_map]; omega, .inl ?_⟩
  rw [ho.ss]
  walk_at "w"
  refine ⟨_, _, rfl, by rw [List.length_map, List.length_map, so.pl]; unfold snames; rw [List.length_map], ?_⟩
  rw [pairs_stones]
  refine frM (fun (b : Wts) ρ' S' => b.map (·.1) = h.rooms ∧ (∃ o1 o2 o3 o4 o5 o6, ρ' = [some (.dct L), some (standD t), some (oS a), some (.lst ((fnames h).map D.str)), none, some (.dct (dctS D.str (whereT h t))), some (.adr q), o6, o1, o2, o3, o4, o5]) ∧ S' = (q, .dct (wtsD b)) :: S) (bStone h t a) (borne1 h t a) ⟨hb, ⟨_, _, _, _, _, _, rfl⟩, rfl⟩ ?_ ?_
  · rintro b x ρ' S' hx ⟨hb, ⟨o1, o2, o3, o4, o5, o6, e1⟩, e2⟩
    subst e1; subst e2
    have hm := List.of_mem_zip hx
    have hr2 : spotT h t x.2 ∈ b.map (·.1) := by rw [hb]; exact spot_ok so (so.p _ hm.2)
    refine ⟨_, Or.inr rfl, rfl, ?_⟩
    show aSs _ _ [some (.dct L), some (standD t), some (oS a), some (.lst ((fnames h).map D.str)), none, some (.dct (dctS D.str (whereT h t))), some (.adr q), o6, o1, o2, o3, some (.str x.1.1), some (.str x.2)] _ _
    walk_at "w"
    refine iteD (fun e => ?_) fun e => ?_
    · walk_at "w"
      refine ⟨⟨_, rD⟩, ?_⟩
      walk_at "w"
      refine ⟨.inr x.2, _, rfl, rD, ?_⟩
      rw [get_spot]
      walk_at "w"
      refine oIxS (rDA (q := 0) rfl) (wAt_some hr2) ?_
      walk_at "w"
      refine oIxS rD (valP_nd ho.sn hm.1) ?_
      walk_at "w"
      refine oPutD (q := 0) rfl (by rw [wts_len hb]; omega) ?_
      rw [wts_put]
      walk_at "w"
      refine ⟨bStone_keys so hx hb, ⟨_, _, _, _, _, _, rfl⟩, ?_⟩
      unfold bStone
      rw [if_pos e]; rfl
    · walk_at "w"
      refine ⟨bStone_keys so hx hb, ⟨_, _, _, _, _, _, rfl⟩, ?_⟩
      unfold bStone
      rw [if_neg e]
  rintro ρ' S' ⟨_, ⟨o1, o2, o3, o4, o5, o6, e1⟩, e2⟩
  subst e1; subst e2
  refine aSs_one (aS_ret (aE_frz ?_))
  walk_at "w"
  exact ⟨0, q, _, rfl, rfl, rfl, hR⟩
end

end
-- T8
/-! Deeds. -/
section
open PySem L2 DL
inductive Deed where
  | go (d : Str) | lift (s : Str) | lay (s : Str) | wait
abbrev deedD : Deed → D
  | .go d => .tup [.str "go", .str d]
  | .lift s => .tup [.str "lift", .str s]
  | .lay s => .tup [.str "lay", .str s]
  | .wait => .tup [.str "wait"]
def curW (h : HallT) (t : StandT) : Wk := h.folk.getD t.turn ⟨"", 0, 0⟩
def curR (t : StandT) : Str := t.rooms.getD t.turn ""
def placeIx (h : HallT) (s : Str) : Nat := (snames h).idxOf s
def placeT (h : HallT) (t : StandT) (s : Str) : Str := t.places.getD (placeIx h s) ""
section
variable {h : HallT} {t : StandT}
theorem curW_get (so : StandOk h t) : h.folk[t.turn]? = some (curW h t) := by
  unfold curW
  rw [List.getD_eq_getElem?_getD, List.getElem?_eq_getElem so.t]; rfl
theorem curW_mem (so : StandOk h t) : curW h t ∈ h.folk := List.mem_of_getElem? (curW_get so)
theorem curR_get (so : StandOk h t) : t.rooms[t.turn]? = some (curR t) := by
  unfold curR
  rw [List.getD_eq_getElem?_getD, List.getElem?_eq_getElem (by rw [so.rl]; exact so.t)]; rfl
theorem curN_get (so : StandOk h t) : (fnames h)[t.turn]? = some (curW h t).name := by
  unfold fnames
  rw [List.getElem?_map, curW_get so]; rfl
theorem ix_lt {s : Str} (hs : s ∈ snames h) : placeIx h s < h.stones.length := by
  have := List.idxOf_lt_length_iff.mpr hs
  unfold snames at this
  rw [List.length_map] at this
  exact this
theorem place_get (so : StandOk h t) {s : Str} (hs : s ∈ snames h) : t.places[placeIx h s]? = some (placeT h t s) := by
  unfold placeT
  rw [List.getD_eq_getElem?_getD, List.getElem?_eq_getElem (by rw [so.pl]; exact ix_lt hs)]; rfl
def CanDo (h : HallT) (t : StandT) : Deed → Prop
  | .go d => ∃ g r, valP h.doors d = some g ∧ farT g (curR t) = some r ∧ openW (borneT h t (some (curW h t).name)) g = true
  | .lift s => s ∈ snames h ∧ placeT h t s = curR t ∧ ((t.places.count (curW h t).name : Nat) : Int) < (curW h t).hands
  | .lay s => s ∈ snames h ∧ placeT h t s = (curW h t).name
  | .wait => True
def nextT (t : StandT) : Nat := (t.turn + 1) % t.rooms.length
def goneT (h : HallT) (t : StandT) (d : Str) : Str := ((valP h.doors d).bind fun g => farT g (curR t)).getD ""
def afterT (h : HallT) (t : StandT) : Deed → StandT
  | .go d => ⟨nextT t, t.rooms.set t.turn (goneT h t d), t.places⟩
  | .lift s => ⟨nextT t, t.rooms, t.places.set (placeIx h s) (curW h t).name⟩
  | .lay s => ⟨nextT t, t.rooms, t.places.set (placeIx h s) (curR t)⟩
  | .wait => ⟨nextT t, t.rooms, t.places⟩
theorem farT_mem {g : Gate} {rooms : List Str} (go : GateOk rooms g) {x r : Str} (e : farT g x = some r) : r ∈ rooms := by
  unfold farT at e
  split at e
  · cases e; exact go.b
  · split at e
    · cases e; exact go.a
    · cases e
theorem next_lt (so : StandOk h t) : nextT t < h.folk.length := by
  unfold nextT
  rw [so.rl]
  exact Nat.mod_lt _ (Nat.lt_of_le_of_lt (Nat.zero_le _) so.t)
theorem after_ok (ho : HallOk h) (so : StandOk h t) {e : Deed} (c : CanDo h t e) : StandOk h (afterT h t e) := by
  cases e with
  | go d =>
    obtain ⟨g, r, hg, hr, _⟩ := c
    refine ⟨next_lt so, by show (t.rooms.set _ _).length = _; rw [List.length_set, so.rl], fun x hx => ?_, so.pl, so.p⟩
    rcases List.mem_or_eq_of_mem_set hx with h1 | h1
    · exact so.r x h1
    · have e1 : goneT h t d = r := by unfold goneT; rw [hg]; show (farT g (curR t)).getD "" = r; rw [hr]; rfl
      rw [h1, e1]
      exact farT_mem (ho.dg _ (valP_some_mem hg)) hr
  | lift s =>
    refine ⟨next_lt so, so.rl, so.r, by show (t.places.set _ _).length = _; rw [List.length_set, so.pl], fun x hx => ?_⟩
    rcases List.mem_or_eq_of_mem_set hx with h1 | h1
    · exact so.p x h1
    · rw [h1]; exact .inr (List.mem_map.mpr ⟨_, curW_mem so, rfl⟩)
  | lay s =>
    refine ⟨next_lt so, so.rl, so.r, by show (t.places.set _ _).length = _; rw [List.length_set, so.pl], fun x hx => ?_⟩
    rcases List.mem_or_eq_of_mem_set hx with h1 | h1
    · exact so.p x h1
    · rw [h1]; exact .inl (so.r _ (List.mem_of_getElem? (curR_get so)))
  | wait => exact ⟨next_lt so, so.rl, so.r, so.pl, so.p⟩
theorem set_cut {α : Type} {l : List α} {i : Nat} {x : α} (h : i < l.length) : l.take i ++ [x] ++ l.drop (i + 1) = l.set i x := by
  rw [List.append_assoc, List.set_eq_take_append_cons_drop, if_pos h]; rfl
/-- xs[:i] + (x,) + xs[i + 1:] -/
theorem cut_set {l : List Str} {i : Nat} {x : Str} (h : i < l.length) : cutD (l.map D.str) none (some (i : Int)) ++ [D.str x] ++ cutD (l.map D.str) (some ((i : Int) + 1)) none = (l.set i x).map D.str := by
  rw [cut_hi (by omega), cut_lo (by omega), show ((i : Int) + 1).toNat = i + 1 by omega, show (i : Int).toNat = i by omega, ← set_cut h, List.map_append, List.map_append, List.map_take, List.map_drop]
  rfl
end
theorem strOkN {x : Str} (h : nameOk x) : PyData.strOk x = true := by
  unfold PyData.strOk
  rw [Array.all_eq_true']
  intro c hc
  have hc : c ∈ x.cps.toList := Array.mem_toList_iff.mpr hc
  have : ∀ c ∈ letL, (decide (c < 0x110000)) = true := by decide +kernel
  exact this c (h.2.2 c hc)
def okD : Deed → Prop
  | .go d => nameOk d
  | .lift s => nameOk s
  | .lay s => nameOk s
  | .wait => True
def deedP : Deed → PyData
  | .go d => .tuple [.str "go", .str d]
  | .lift s => .tuple [.str "lift", .str s]
  | .lay s => .tuple [.str "lay", .str s]
  | .wait => .tuple [.str "wait"]
theorem py_deed (e : Deed) : py (deedD e) = some (deedP e) := by cases e <;> rfl
theorem shaped_deed {e : Deed} (h : okD e) : SeqAt.shaped (deedP e) = true := by
  have w1 : PyData.strOk "go" = true := by decide +kernel
  have w2 : PyData.strOk "lift" = true := by decide +kernel
  have w3 : PyData.strOk "lay" = true := by decide +kernel
  have w4 : PyData.strOk "wait" = true := by decide +kernel
  cases e with
  | go d => simp [deedP, SeqAt.shaped, PyData.canLay0, PyData.canLayAll0, PyData.depth, PyData.depthAll, w1, strOkN (show nameOk d from h)]
  | lift d => simp [deedP, SeqAt.shaped, PyData.canLay0, PyData.canLayAll0, PyData.depth, PyData.depthAll, w2, strOkN (show nameOk d from h)]
  | lay d => simp [deedP, SeqAt.shaped, PyData.canLay0, PyData.canLayAll0, PyData.depth, PyData.depthAll, w3, strOkN (show nameOk d from h)]
  | wait => simp [deedP, SeqAt.shaped, PyData.canLay0, PyData.canLayAll0, PyData.depth, PyData.depthAll, w4]
theorem shaped_nil : SeqAt.shaped (.tuple []) = true := by simp [SeqAt.shaped, PyData.canLay0, PyData.canLayAll0, PyData.depth, PyData.depthAll]
theorem deed_nil (e : Deed) : PyData.eqv (deedP e) (.tuple []) = false := by cases e <;> simp [deedP, PyData.eqv, PyData.eqvAll]
theorem deed_wait (e : Deed) : PyData.eqv (deedP e) (deedP .wait) = (match e with | .wait => true | _ => false) := by
  have n1 : ((("go" : Str)) == "wait") = false := by decide +kernel
  have n2 : ((("lift" : Str)) == "wait") = false := by decide +kernel
  have n3 : ((("lay" : Str)) == "wait") = false := by decide +kernel
  cases e <;> simp [deedP, PyData.eqv, PyData.eqvAll, n1, n2, n3]
end
-- F8
section
open PySem L2 DL
section
variable {P : Program} {w : World} {K : PySem.W.Frag} {mg : Str → Option Value} {bse : Heap} {C T0 : Addr}
abbrev sIsName : Stmt := top 26
abbrev nIsName : List Str := ["thing", "letter"]
theorem scIsName : FnScope nIsName ["thing"] (defScope sIsName) := ⟨rfl, rfl, rfl, by decide +kernel, rfl, by decide +kernel, by decide +kernel⟩
def spIsName : ASp := fun ds S R => ∃ (x : Str), ds = [.str x] ∧ nameOk x ∧ R (.bl true) S
theorem bIsName (M : Nm mg) (gL : GlobD mg K "LETTERS" (.str abc)) : BodyA P w K mg bse nIsName "is_name" sIsName 1 spIsName := by
  intro f cdv A outer s H E hr ds S R ⟨x, eds, ⟨h0, h9, hl⟩, hR⟩
  have hu : Un _ := ⟨hr.units⟩
  have nd : Names nIsName := ⟨scIsName.nd⟩
  have sc : Scp nIsName (defScope sIsName) := ⟨scIsName.nd⟩
  subst eds
  walk_at "w"
  refine ⟨_, .inl ⟨_, rfl, by omega, rfl⟩, ?_⟩
  refine ⟨_, _, rfl, rfl, iteDT (by omega) ?_⟩
  walk_at "w"
  refine iteDT (by omega) ?_
  walk_at "w"
  refine lcE (.nm 1) [("letter", 1)] sc ?_ ⟨rfl, by decide +kernel, by decide +kernel, by decide +kernel, by decide +kernel⟩ (fun _ _ _ _ _ => tgNm nd (by walk_at "n") (by rfl)) rfl rfl rfl (by decide) (by decide)
  refine aI_str ?_
  walk_at "w"
  refine lcM (fun c => .bl true) (by show x.cps.toList.length < 100000; rw [Array.length_toList]; have : x.length = x.cps.size := rfl; omega) (fun c hc A => ?_) (.inl ?_)
  · intro s H C cl fp
    walk_at "w"
    refine .inr (.inr ⟨c, abc, rfl, rfl, rfl, ?_⟩)
    show D.bl (decide (c ∈ abc.cps.toList)) = _
    rw [decide_eq_true (hl c hc)]
  refine ⟨x.cps.toList.map fun _ => true, .inl (by rw [List.map_map]; rfl), ?_⟩
  have : (x.cps.toList.map fun _ => true).all _root_.id = true := by rw [List.all_map]; exact List.all_eq_true.mpr fun _ _ => rfl
  rw [this]
  exact hR
abbrev sIsDeed : Stmt := top 33
abbrev nIsDeed : List Str := ["thing"]
theorem scIsDeed : FnScope nIsDeed ["thing"] (defScope sIsDeed) := ⟨rfl, rfl, rfl, by decide +kernel, rfl, by decide +kernel, by decide +kernel⟩
def spIsDeed : ASp := fun ds S R => ∃ (e : Deed), ds = [deedD e] ∧ okD e ∧ R (.bl true) S
theorem bIsDeed (M : Nm mg) (c1 : CalA P w K mg bse 2 "is_name" spIsName []) : BodyA P w K mg bse nIsDeed "is_deed" sIsDeed 2 spIsDeed := by
  intro f cdv A outer s H E hr ds S R ⟨e, eds, he, hR⟩
  have hu : Un _ := ⟨hr.units⟩
  have nd : Names nIsDeed := ⟨scIsDeed.nd⟩
  have sc : Scp nIsDeed (defScope sIsDeed) := ⟨scIsDeed.nd⟩
  subst eds
  have h1 := py_deed e
  have h2 := shaped_deed he
  have h3 := deed_nil e
  cases e with
  | wait =>
    walk_at "w"
    refine oEqDT h1 rfl h2 shaped_nil h3 ?_
    walk_at "w"
    refine ⟨_, .inr (.inl ⟨_, qT, rfl⟩), ?_⟩
    walk_at "w"
    refine oEqIQ ?_
    exact hR
  | _ d =>
    walk_at "w"
    refine oEqDT h1 rfl h2 shaped_nil h3 ?_
    walk_at "w"
    refine oInLQ (zs := ["go", "lift", "lay"]) (.inr (.inl rfl)) ?_
    walk_at "w"
    refine ⟨_, .inr (.inl ⟨_, qT, rfl⟩), ?_⟩
    walk_at "w"
    refine iteDT rfl ?_
    walk_at "w"
    exact ⟨d, rfl, he, hR⟩
abbrev sWhose : Stmt := top 34
abbrev nWhose : List Str := ["hall", "stand"]
theorem scWhose : FnScope nWhose ["hall", "stand"] (defScope sWhose) := ⟨rfl, rfl, rfl, by decide +kernel, rfl, by decide +kernel, by decide +kernel⟩
def spWhose (C : Addr) : ASp := fun ds S R => ∃ (h : HallT) (t : StandT), ds = [hallI C h, standD t] ∧ StandOk h t ∧ R (.str (curW h t).name) S
theorem bWhose (HM : HallM P w K mg bse C) : BodyA P w K mg bse nWhose "whose" sWhose 2 (spWhose C) := by
  intro f cdv A outer s H E hr ds S R ⟨h, t, eds, so, hR⟩
  have hu : Un _ := ⟨hr.units⟩
  have nd : Names nWhose := ⟨scWhose.nd⟩
  have sc : Scp nWhose (defScope sWhose) := ⟨scWhose.nd⟩
  subst eds
  have m1 := HM.walkers
  walk_at "w"
  refine ⟨h, rfl, ?_⟩
  walk_at "w"
  refine oIxL rL (atI_map (atI_any (curN_get so) rfl)) hR
abbrev sRFrom : Stmt := top 35
abbrev nRFrom : List Str := ["hall", "door", "room", "one", "other", "way", "rows"]
theorem scRFrom : FnScope nRFrom ["hall", "door", "room"] (defScope sRFrom) := ⟨rfl, rfl, rfl, by decide +kernel, rfl, by decide +kernel, by decide +kernel⟩
def spRFrom (C : Addr) : ASp := fun ds S R => ∃ (h : HallT) (d room : Str) (g : Gate), ds = [hallI C h, .str d, .str room] ∧ valP h.doors d = some g ∧ R (.lst ((farT g room).toList.map D.str)) S
theorem bRFrom (HM : HallM P w K mg bse C) : BodyA P w K mg bse nRFrom "rooms_from" sRFrom 2 (spRFrom C) := by
  intro f cdv A outer s H E hr ds S R ⟨h, d, room, g, eds, hg, hR⟩
  have hu : Un _ := ⟨hr.units⟩
  have nd : Names nRFrom := ⟨scRFrom.nd⟩
  have sc : Scp nRFrom (defScope sRFrom) := ⟨scRFrom.nd⟩
  subst eds
  have m1 := HM.door
  unfold farT at hR
  walk_at "w"
  refine aS_asg (.tp [3, 4, 5, 6]) ?_ (tgTp rfl (pgsN nd (by walk_at "n") (by rfl) (pgsN nd (by walk_at "n") (by rfl) (pgsN nd (by walk_at "n") (by rfl) (pgsN nd (by walk_at "n") (by rfl) (pgsO))))))
  walk_at "w"
  refine ⟨h, d, g, rfl, hg, ?_⟩
  walk_at "w"
  refine iteD (fun e => ?_) fun e => ?_
  · rw [if_pos e] at hR
    walk_at "w"
    exact .inl hR
  rw [if_neg e] at hR
  walk_at "w"
  refine iteD (fun e2 => ?_) fun e2 => ?_
  · walk_at "w"
    cases hb : g.both with
    | true =>
      rw [if_pos ⟨e2, hb⟩] at hR
      walk_at "w"
      exact .inl hR
    | false =>
      rw [if_neg (by rw [hb]; simp)] at hR
      walk_at "w"
      exact .inl hR
  · rw [if_neg (fun e3 => e2 e3.1)] at hR
    walk_at "w"
    exact .inl hR
end

end
-- F9
section
open PySem L2 DL
section
variable {P : Program} {w : World} {K : PySem.W.Frag} {mg : Str → Option Value} {bse : Heap} {C T0 : Addr}
abbrev sWnGo : Stmt := top 36
abbrev nWnGo : List Str := ["hall", "stand", "door"]
theorem scWnGo : FnScope nWnGo ["hall", "stand", "door"] (defScope sWnGo) := ⟨rfl, rfl, rfl, by decide +kernel, rfl, by decide +kernel, by decide +kernel⟩
def spWn (C : Addr) (mk : Str → Deed) : ASp := fun ds S R => ∃ (h : HallT) (t : StandT) (x : Str), ds = [hallI C h, standD t, .str x] ∧ HallOk h ∧ StandOk h t ∧ CanDo h t (mk x) ∧ R .non S
theorem bWnGo (HM : HallM P w K mg bse C) (c1 : CalA P w K mg bse 3 "rooms_from" (spRFrom C) []) (c2 : CalA P w K mg bse 3 "is_open" (spIsOpen C) []) (c3 : CalA P w K mg bse 3 "borne" (spBorne C) []) (c4 : CalA P w K mg bse 3 "whose" (spWhose C) []) : BodyA P w K mg bse nWnGo "why_not_go" sWnGo 3 (spWn C .go) := by
  intro f cdv A outer s H E hr ds S R ⟨h, t, x, eds, ho, so, ⟨g, r, hg, hr2, hop⟩, hR⟩
  have hu : Un _ := ⟨hr.units⟩
  have nd : Names nWnGo := ⟨scWnGo.nd⟩
  have sc : Scp nWnGo (defScope sWnGo) := ⟨scWnGo.nd⟩
  subst eds
  have m1 := HM.doors
  have hm := valP_some_mem hg
  have hd : x ∈ dnames h := List.mem_map.mpr ⟨_, hm, rfl⟩
  walk_at "w"
  refine ⟨h, rfl, ?_⟩
  refine oNinL qL ?_
  rw [decide_eq_true hd]
  walk_at "w"
  refine oIxT (atI_map (atI_any (curR_get so) rfl)) ?_
  walk_at "w"
  refine ⟨h, x, curR t, g, rfl, hg, ?_⟩
  rw [hr2]
  walk_at "w"
  refine .inl (oEq0 rL (iteDF (by simp) ?_))
  walk_at "w"
  refine ⟨h, t, rfl, so, ?_⟩
  walk_at "w"
  refine ⟨h, t, some (curW h t).name, rfl, ho, so, ?_⟩
  walk_at "w"
  refine ⟨h, x, _, g, rfl, hg, rowsLen ho hm, rowsIn ho so _ hm, ?_⟩
  rw [hop]
  walk_at "w"
  exact hR
abbrev sWnLift : Stmt := top 37
abbrev nWnLift : List Str := ["hall", "stand", "stone", "walker"]
theorem scWnLift : FnScope nWnLift ["hall", "stand", "stone"] (defScope sWnLift) := ⟨rfl, rfl, rfl, by decide +kernel, rfl, by decide +kernel, by decide +kernel⟩
theorem bWnLift (HM : HallM P w K mg bse C) (c4 : CalA P w K mg bse 3 "whose" (spWhose C) []) : BodyA P w K mg bse nWnLift "why_not_lift" sWnLift 3 (spWn C .lift) := by
  intro f cdv A outer s H E hr ds S R ⟨h, t, x, eds, ho, so, ⟨hx, hp, hc⟩, hR⟩
  have hu : Un _ := ⟨hr.units⟩
  have nd : Names nWnLift := ⟨scWnLift.nd⟩
  have sc : Scp nWnLift (defScope sWnLift) := ⟨scWnLift.nd⟩
  subst eds
  have m1 := HM.stones
  have m2 := HM.hands
  walk_at "w"
  refine ⟨h, rfl, ?_⟩
  refine oNinL qL ?_
  rw [decide_eq_true hx]
  walk_at "w"
  refine ⟨h, rfl, ?_⟩
  refine ⟨⟨_, rL⟩, ?_⟩
  walk_at "w"
  refine ⟨x, _, rL, rfl, hx, ?_⟩
  refine oIxT (atI_map (atI_any (place_get so hx) rfl)) ?_
  walk_at "w"
  refine oIxT (atI_map (atI_any (curR_get so) rfl)) ?_
  walk_at "w"
  refine iteNF hp ?_
  walk_at "w"
  refine ⟨h, t, rfl, so, ?_⟩
  walk_at "w"
  refine aE_countT ?_
  walk_at "w"
  refine ⟨⟨_, rfl⟩, ?_⟩
  walk_at "w"
  refine ⟨_, t.places, rfl, rfl, ?_⟩
  walk_at "w"
  refine ⟨h, _, curW h t, rfl, ho.fv (curW_mem so), ?_⟩
  walk_at "w"
  refine iteDT hc ?_
  walk_at "w"
  exact hR
abbrev sWnLay : Stmt := top 38
abbrev nWnLay : List Str := ["hall", "stand", "stone"]
theorem scWnLay : FnScope nWnLay ["hall", "stand", "stone"] (defScope sWnLay) := ⟨rfl, rfl, rfl, by decide +kernel, rfl, by decide +kernel, by decide +kernel⟩
theorem bWnLay (HM : HallM P w K mg bse C) (c4 : CalA P w K mg bse 3 "whose" (spWhose C) []) : BodyA P w K mg bse nWnLay "why_not_lay" sWnLay 3 (spWn C .lay) := by
  intro f cdv A outer s H E hr ds S R ⟨h, t, x, eds, ho, so, ⟨hx, hp⟩, hR⟩
  have hu : Un _ := ⟨hr.units⟩
  have nd : Names nWnLay := ⟨scWnLay.nd⟩
  have sc : Scp nWnLay (defScope sWnLay) := ⟨scWnLay.nd⟩
  subst eds
  have m1 := HM.stones
  walk_at "w"
  refine ⟨h, rfl, ?_⟩
  refine oNinL qL ?_
  rw [decide_eq_true hx]
  walk_at "w"
  refine ⟨h, rfl, ?_⟩
  refine ⟨⟨_, rL⟩, ?_⟩
  walk_at "w"
  refine ⟨x, _, rL, rfl, hx, ?_⟩
  refine oIxT (atI_map (atI_any (place_get so hx) rfl)) ?_
  walk_at "w"
  refine ⟨h, t, rfl, so, ?_⟩
  walk_at "w"
  refine iteDT hp ?_
  walk_at "w"
  exact hR
abbrev sWhyNot : Stmt := top 39
abbrev nWhyNot : List Str := ["hall", "stand", "deed", "word", "name"]
theorem scWhyNot : FnScope nWhyNot ["hall", "stand", "deed"] (defScope sWhyNot) := ⟨rfl, rfl, rfl, by decide +kernel, rfl, by decide +kernel, by decide +kernel⟩
def spWhy (C : Addr) : ASp := fun ds S R => ∃ (h : HallT) (t : StandT) (e : Deed), ds = [hallI C h, standD t, deedD e] ∧ HallOk h ∧ StandOk h t ∧ CanDo h t e ∧ okD e ∧ R .non S
theorem bWhyNot (gW : GlobD mg K "WAIT" (deedD .wait)) (c1 : CalA P w K mg bse 3 "is_deed" spIsDeed []) (c2 : CalA P w K mg bse 4 "why_not_go" (spWn C .go) []) (c3 : CalA P w K mg bse 4 "why_not_lift" (spWn C .lift) []) (c4 : CalA P w K mg bse 4 "why_not_lay" (spWn C .lay) []) : BodyA P w K mg bse nWhyNot "why_not" sWhyNot 4 (spWhy C) := by
  intro f cdv A outer s H E hr ds S R ⟨h, t, e, eds, ho, so, hc, hk, hR⟩
  have hu : Un _ := ⟨hr.units⟩
  have nd : Names nWhyNot := ⟨scWhyNot.nd⟩
  have sc : Scp nWhyNot (defScope sWhyNot) := ⟨scWhyNot.nd⟩
  subst eds
  walk_at "w"
  refine ⟨e, rfl, hk, ?_⟩
  walk_at "w"
  refine oEqDT (py_deed e) (py_deed .wait) (shaped_deed hk) (shaped_deed (e := .wait) trivial) (deed_wait e) ?_
  cases e with
  | wait =>
    walk_at "w"
    exact hR
  | go d =>
    walk_at "w"
    refine aS_asg (.tp [3, 4]) ?_ (tgTp rfl (pgsN nd (by walk_at "n") (by rfl) (pgsN nd (by walk_at "n") (by rfl) (pgsO))))
    walk_at "w"
    exact ⟨h, t, d, rfl, ho, so, hc, hR⟩
  | lift d =>
    walk_at "w"
    refine aS_asg (.tp [3, 4]) ?_ (tgTp rfl (pgsN nd (by walk_at "n") (by rfl) (pgsN nd (by walk_at "n") (by rfl) (pgsO))))
    walk_at "w"
    exact ⟨h, t, d, rfl, ho, so, hc, hR⟩
  | lay d =>
    walk_at "w"
    refine aS_asg (.tp [3, 4]) ?_ (tgTp rfl (pgsN nd (by walk_at "n") (by rfl) (pgsN nd (by walk_at "n") (by rfl) (pgsO))))
    walk_at "w"
    exact ⟨h, t, d, rfl, ho, so, hc, hR⟩
abbrev sBehind : Stmt := top 40
abbrev nBehind : List Str := ["hall", "stand", "deed", "turn", "rooms", "places", "word", "names", "at", "place"]
theorem scBehind : FnScope nBehind ["hall", "stand", "deed"] (defScope sBehind) := ⟨rfl, rfl, rfl, by decide +kernel, rfl, by decide +kernel, by decide +kernel⟩
def spBehind (C : Addr) : ASp := fun ds S R => ∃ (h : HallT) (t : StandT) (e : Deed), ds = [hallI C h, standD t, deedD e] ∧ HallOk h ∧ StandOk h t ∧ CanDo h t e ∧ R (standD (afterT h t e)) S
theorem bBehind (HM : HallM P w K mg bse C) (M : Nm mg) (c1 : CalA P w K mg bse 3 "rooms_from" (spRFrom C) []) (c2 : CalA P w K mg bse 3 "whose" (spWhose C) []) : BodyA P w K mg bse nBehind "behind" sBehind 3 (spBehind C) := by
  intro f cdv A outer s H E hr ds S R ⟨h, t, e, eds, ho, so, hc, hR⟩
  have hu : Un _ := ⟨hr.units⟩
  have nd : Names nBehind := ⟨scBehind.nd⟩
  have sc : Scp nBehind (defScope sBehind) := ⟨scBehind.nd⟩
  subst eds
  have m1 := HM.stones
  have htl : t.turn < t.rooms.length := by rw [so.rl]; exact so.t
  have f3 := ho.f3
  have s3 := ho.s3
  have hrl := so.rl
  have hpl := so.pl
  have e1 : ((t.turn : Int) + 1) % (t.rooms.length : Int) = (nextT t : Int) := by
    unfold nextT; push_cast; rfl
  walk_at "w"
  refine aS_asg (.tp [3, 4, 5]) ?_ (tgTp rfl (pgsN nd (by walk_at "n") (by rfl) (pgsN nd (by walk_at "n") (by rfl) (pgsN nd (by walk_at "n") (by rfl) (pgsO)))))
  walk_at "w"
  cases e with
  | wait =>
    refine aS_star 6 7 ?_ rfl scBehind.nd
    walk_at "w"
    refine ⟨_, _, rfl, ?_⟩
    walk_at "w"
    refine oInL (zs := ["lift", "lay"]) (.inr (.inl rfl)) ?_
    walk_at "w"
    refine ⟨_, .inr (.inl ⟨_, qT, rfl⟩), ?_⟩
    rw [List.length_map]
    refine oMod (by omega) ?_
    walk_at "w"
    rw [e1]
    exact hR
  | go d =>
    obtain ⟨g, r, hg, hr2, _⟩ := hc
    have hgo : goneT h t d = r := by unfold goneT; rw [hg]; show (farT g (curR t)).getD "" = r; rw [hr2]; rfl
    refine aS_star 6 7 ?_ rfl scBehind.nd
    walk_at "w"
    refine ⟨_, _, rfl, ?_⟩
    walk_at "w"
    refine .inl ⟨_, rfl, ?_⟩
    walk_at "w"
    refine oIxT (atI_map (atI_any (curR_get so) rfl)) ?_
    walk_at "w"
    refine ⟨h, d, curR t, g, rfl, hg, ?_⟩
    rw [hr2]
    walk_at "w"
    refine oCatT ?_ ?_
    · rw [cut_hi (by omega), List.length_take, List.length_map]
      show _ + 1 ≤ _
      omega
    walk_at "w"
    refine .inl ⟨_, rfl, ?_⟩
    refine oCatT ?_ ?_
    · rw [cut_hi (by omega), cut_lo (by omega), List.length_append, List.length_take, List.length_drop, List.length_map]
      show _ + 1 + _ ≤ _
      omega
    rw [cut_set htl]
    walk_at "w"
    refine oInL (zs := ["lift", "lay"]) (.inr (.inl rfl)) ?_
    walk_at "w"
    refine ⟨_, .inr (.inl ⟨_, qT, rfl⟩), ?_⟩
    rw [List.length_map, List.length_set]
    refine oMod (by omega) ?_
    walk_at "w"
    rw [e1, ← hgo]
    exact hR
  | lift x =>
    obtain ⟨hx, hp, _⟩ := hc
    have hix := ix_lt hx
    refine aS_star 6 7 ?_ rfl scBehind.nd
    walk_at "w"
    refine ⟨_, _, rfl, ?_⟩
    walk_at "w"
    refine oInL (zs := ["lift", "lay"]) (.inr (.inl rfl)) ?_
    walk_at "w"
    refine ⟨h, rfl, ?_⟩
    refine ⟨⟨_, rL⟩, ?_⟩
    walk_at "w"
    refine ⟨x, _, rL, rfl, hx, ?_⟩
    walk_at "w"
    refine ⟨h, t, rfl, so, ?_⟩
    walk_at "w"
    refine .inl ⟨_, rfl, ?_⟩
    walk_at "w"
    refine oCatT ?_ ?_
    · rw [cut_hi (by omega), List.length_take, List.length_map]
      show _ + 1 ≤ _
      omega
    walk_at "w"
    refine .inl ⟨_, rfl, ?_⟩
    refine oCatT ?_ ?_
    · rw [cut_hi (by omega), cut_lo (by omega), List.length_append, List.length_take, List.length_drop, List.length_map]
      show _ + 1 + _ ≤ _
      omega
    rw [cut_set (by rw [hpl]; exact hix)]
    walk_at "w"
    refine ⟨_, .inr (.inl ⟨_, qT, rfl⟩), ?_⟩
    rw [List.length_map]
    refine oMod (by omega) ?_
    walk_at "w"
    rw [e1]
    exact hR
  | lay x =>
    obtain ⟨hx, hp⟩ := hc
    have hix := ix_lt hx
    refine aS_star 6 7 ?_ rfl scBehind.nd
    walk_at "w"
    refine ⟨_, _, rfl, ?_⟩
    walk_at "w"
    refine oInL (zs := ["lift", "lay"]) (.inr (.inl rfl)) ?_
    walk_at "w"
    refine ⟨h, rfl, ?_⟩
    refine ⟨⟨_, rL⟩, ?_⟩
    walk_at "w"
    refine ⟨x, _, rL, rfl, hx, ?_⟩
    walk_at "w"
    refine oIxT (atI_map (atI_any (curR_get so) rfl)) ?_
    walk_at "w"
    refine .inl ⟨_, rfl, ?_⟩
    walk_at "w"
    refine oCatT ?_ ?_
    · rw [cut_hi (by omega), List.length_take, List.length_map]
      show _ + 1 ≤ _
      omega
    walk_at "w"
    refine .inl ⟨_, rfl, ?_⟩
    refine oCatT ?_ ?_
    · rw [cut_hi (by omega), cut_lo (by omega), List.length_append, List.length_take, List.length_drop, List.length_map]
      show _ + 1 + _ ≤ _
      omega
    rw [cut_set (by rw [hpl]; exact hix)]
    walk_at "w"
    refine ⟨_, .inr (.inl ⟨_, qT, rfl⟩), ?_⟩
    rw [List.length_map]
    refine oMod (by omega) ?_
    walk_at "w"
    rw [e1]
    exact hR
abbrev sDone : Stmt := top 41
abbrev nDone : List Str := ["hall", "stand", "deed", "why"]
theorem scDone : FnScope nDone ["hall", "stand", "deed"] (defScope sDone) := ⟨rfl, rfl, rfl, by decide +kernel, rfl, by decide +kernel, by decide +kernel⟩
def spDone (C : Addr) : ASp := fun ds S R => ∃ (h : HallT) (t : StandT) (e : Deed), ds = [hallI C h, standD t, deedD e] ∧ HallOk h ∧ StandOk h t ∧ CanDo h t e ∧ okD e ∧ R (standD (afterT h t e)) S
theorem bDone (c1 : CalA P w K mg bse 5 "why_not" (spWhy C) []) (c2 : CalA P w K mg bse 4 "behind" (spBehind C) []) : BodyA P w K mg bse nDone "done" sDone 5 (spDone C) := by
  intro f cdv A outer s H E hr ds S R ⟨h, t, e, eds, ho, so, hc, hk, hR⟩
  have hu : Un _ := ⟨hr.units⟩
  have nd : Names nDone := ⟨scDone.nd⟩
  have sc : Scp nDone (defScope sDone) := ⟨scDone.nd⟩
  subst eds
  walk_at "w"
  refine ⟨h, t, e, rfl, ho, so, hc, hk, ?_⟩
  walk_at "w"
  exact ⟨h, t, e, rfl, ho, so, hc, hR⟩
theorem openT_len {h : HallT} (ho : HallOk h) (t : StandT) (a : Option Str) : (openT h t a).length < 100000 := by
  unfold openT
  rw [List.length_map]
  have := List.length_filter_le (fun d : Str × Gate => openW (borneT h t a) d.2) h.doors
  have := ho.d5
  omega
end

end
-- T10
/-! The law's deeds. -/
section
open PySem L2 DL
/-- for .. in l.map f, a fold with its turn -/
theorem frI {X : Cx} {ρ : Sl} {S : Store} {E : AEnds} {T : Tgt} {α β : Type} {body : List Stmt} {l : List α} {f : α → D} (st : Nat → β → Sl → Store → Prop) (step : β → α → β) (b0 : β) (h0 : st 0 b0 ρ S) (hs : ∀ i b x ρ' S', l[i]? = some x → st i b ρ' S' → T.fits (f x) ρ' fun ρ'' => aSs X body ρ'' S' { E with nx := st (i + 1) (step b x), ct := st (i + 1) (step b x), bk := E.nx })
    (hd : ∀ ρ' S', st l.length (l.foldl step b0) ρ' S' → E.nx ρ' S') :
    ∃ Pv : Nat → Sl → Store → Prop, Pv 0 ρ S ∧ (∀ i d ρ' S', (l.map f)[i]? = some d → Pv i ρ' S' → T.fits d ρ' fun ρ'' => aSs X body ρ'' S' { E with nx := Pv (i + 1), ct := Pv (i + 1), bk := E.nx }) ∧ ∀ ρ' S', Pv (l.map f).length ρ' S' → E.nx ρ' S' := by
  refine ⟨fun i ρ' S' => st i ((l.take i).foldl step b0) ρ' S', h0, ?_, ?_⟩
  · rintro i d ρ' S' hd pv
    rw [List.getElem?_map] at hd
    cases hx : l[i]? with
    | none => rw [hx] at hd; cases hd
    | some x =>
      rw [hx] at hd
      cases hd
      have := hs i _ x ρ' S' hx pv
      have e : (l.take (i + 1)).foldl step b0 = step ((l.take i).foldl step b0) x := by
        rw [List.take_succ, hx, List.foldl_append]; rfl
      show T.fits _ _ fun ρ'' => aSs X body ρ'' S' { E with nx := fun ρ' S' => st (i + 1) ((l.take (i + 1)).foldl step b0) ρ' S', ct := fun ρ' S' => st (i + 1) ((l.take (i + 1)).foldl step b0) ρ' S', bk := E.nx }
      rw [e]
      exact this
  · intro ρ' S' pv
    refine hd ρ' S' ?_
    have pv : st (l.map f).length ((l.take (l.map f).length).foldl step b0) ρ' S' := pv
    rw [List.length_map, List.take_length] at pv
    exact pv
theorem fold_filter {α β : Type} (p : α → Bool) (f : α → β) : ∀ (l : List α) (b : List β), l.foldl (fun b x => if p x = true then b ++ [f x] else b) b = b ++ (l.filter p).map f
  | [], b => by simp
  | x :: l, b => by
    rw [List.foldl_cons, fold_filter p f l, List.filter_cons]
    split
    · rw [List.map_cons, List.append_assoc]; rfl
    · rfl
def openStep (h : HallT) (t : StandT) (a : Option Str) (b : List Str) (x : Str × Gate) : List Str := if openW (borneT h t a) x.2 = true then b ++ [x.1] else b
theorem open_fold {h : HallT} {t : StandT} {a : Option Str} : h.doors.foldl (openStep h t a) [] = openT h t a := by
  have := fold_filter (fun x : Str × Gate => openW (borneT h t a) x.2) (fun x => x.1) h.doors []
  rw [List.nil_append] at this
  exact this
def farO (h : HallT) (t : StandT) (d : Str) : Option Str := (valP h.doors d).bind fun g => farT g (curR t)
def stoneAt (h : HallT) (k : Nat) : Str := (snames h).getD k ""
def placeAt (t : StandT) (k : Nat) : Str := t.places.getD k ""
def goL (h : HallT) (t : StandT) : List Deed := ((openT h t (some (curW h t).name)).filter fun d => (farO h t d).isSome).map Deed.go
def layL (h : HallT) (t : StandT) : List Deed := ((List.range h.stones.length).filter fun k => decide (placeAt t k = (curW h t).name)).map fun k => Deed.lay (stoneAt h k)
def liftL (h : HallT) (t : StandT) : List Deed := ((List.range h.stones.length).filter fun k => decide (placeAt t k = curR t)).map fun k => Deed.lift (stoneAt h k)
def deedsT (h : HallT) (t : StandT) : List Deed := (goL h t ++ layL h t ++ (if ((t.places.count (curW h t).name : Nat) : Int) < (curW h t).hands then liftL h t else [])) ++ [Deed.wait]
section
variable {h : HallT} {t : StandT}
theorem stoneAt_get {k : Nat} (hk : k < h.stones.length) : (snames h)[k]? = some (stoneAt h k) := by
  unfold stoneAt
  rw [List.getD_eq_getElem?_getD, List.getElem?_eq_getElem (by unfold snames; rw [List.length_map]; exact hk)]; rfl
theorem placeAt_get (so : StandOk h t) {k : Nat} (hk : k < h.stones.length) : t.places[k]? = some (placeAt t k) := by
  unfold placeAt
  rw [List.getD_eq_getElem?_getD, List.getElem?_eq_getElem (by rw [so.pl]; exact hk)]; rfl
theorem stoneAt_mem {k : Nat} (hk : k < h.stones.length) : stoneAt h k ∈ snames h := List.mem_of_getElem? (stoneAt_get hk)
theorem stoneAt_ix (ho : HallOk h) {k : Nat} (hk : k < h.stones.length) : placeIx h (stoneAt h k) = k := by
  have h1 := stoneAt_get hk
  have h2 : (snames h)[(snames h).idxOf (stoneAt h k)]? = some (stoneAt h k) := by
    have hlt := List.idxOf_lt_length_iff.mpr (stoneAt_mem hk)
    rw [List.getElem?_eq_getElem hlt, List.getElem_idxOf hlt]
  exact nd_inj ho.sn h2 h1
theorem placeT_at (ho : HallOk h) (so : StandOk h t) {k : Nat} (hk : k < h.stones.length) : placeT h t (stoneAt h k) = placeAt t k := by
  unfold placeT placeAt
  rw [stoneAt_ix ho hk]
theorem deeds_can (ho : HallOk h) (so : StandOk h t) {e : Deed} (he : e ∈ deedsT h t) : CanDo h t e ∧ okD e := by
  unfold deedsT at he
  rcases List.mem_append.mp he with he | he
  · rcases List.mem_append.mp he with he | he
    · rcases List.mem_append.mp he with he | he
      · obtain ⟨d, hd, e1⟩ := List.mem_map.mp he
        obtain ⟨hd1, hd2⟩ := List.mem_filter.mp hd
        subst e1
        unfold openT at hd1
        obtain ⟨x, hx, e2⟩ := List.mem_map.mp hd1
        obtain ⟨hx1, hx2⟩ := List.mem_filter.mp hx
        subst e2
        have hv := valP_nd ho.dn hx1
        unfold farO at hd2
        rw [hv] at hd2
        obtain ⟨r, hr⟩ := Option.isSome_iff_exists.mp hd2
        exact ⟨⟨x.2, r, hv, hr, hx2⟩, ho.dk _ (List.mem_map.mpr ⟨x, hx1, rfl⟩)⟩
      · obtain ⟨k, hk, e1⟩ := List.mem_map.mp he
        obtain ⟨hk1, hk2⟩ := List.mem_filter.mp hk
        subst e1
        have hk1 := List.mem_range.mp hk1
        exact ⟨⟨stoneAt_mem hk1, (placeT_at ho so hk1).trans (of_decide_eq_true hk2)⟩, ho.sk _ (stoneAt_mem hk1)⟩
    · split at he
      · rename_i hc
        obtain ⟨k, hk, e1⟩ := List.mem_map.mp he
        obtain ⟨hk1, hk2⟩ := List.mem_filter.mp hk
        subst e1
        have hk1 := List.mem_range.mp hk1
        exact ⟨⟨stoneAt_mem hk1, (placeT_at ho so hk1).trans (of_decide_eq_true hk2), hc⟩, ho.sk _ (stoneAt_mem hk1)⟩
      · cases he
  · rw [List.mem_singleton.mp he]; exact ⟨trivial, trivial⟩
theorem len_deeds (ho : HallOk h) : (goL h t).length ≤ 5 ∧ (layL h t).length ≤ 3 ∧ (liftL h t).length ≤ 3 := by
  have d5 := ho.d5
  have s3 := ho.s3
  refine ⟨?_, ?_, ?_⟩
  · unfold goL
    rw [List.length_map]
    have h1 := List.length_filter_le (fun d => (farO h t d).isSome) (openT h t (some (curW h t).name))
    have h2 : (openT h t (some (curW h t).name)).length ≤ h.doors.length := by
      unfold openT; rw [List.length_map]; exact List.length_filter_le _ _
    omega
  · unfold layL
    rw [List.length_map]
    have h1 := List.length_filter_le (fun k => decide (placeAt t k = (curW h t).name)) (List.range h.stones.length)
    rw [List.length_range] at h1
    omega
  · unfold liftL
    rw [List.length_map]
    have h1 := List.length_filter_le (fun k => decide (placeAt t k = curR t)) (List.range h.stones.length)
    rw [List.length_range] at h1
    omega
end
theorem openT_mem {h : HallT} {t : StandT} {a : Option Str} {d : Str} (hd : d ∈ openT h t a) : ∃ x ∈ h.doors, x.1 = d := by
  unfold openT at hd
  obtain ⟨x, hx, e⟩ := List.mem_map.mp hd
  exact ⟨x, (List.mem_filter.mp hx).1, e⟩
theorem farO_get {h : HallT} {t : StandT} (ho : HallOk h) {x : Str × Gate} (hx : x ∈ h.doors) : farO h t x.1 = farT x.2 (curR t) := by
  unfold farO
  rw [valP_nd ho.dn hx]; rfl
theorem nonS {a : Option Str} : (!isNonD (oS a)) = a.isSome := by cases a <;> rfl
theorem nums_range {n : Nat} : nums 0 ((n : Int)).toNat = (List.range n).map fun k : Nat => D.int (k : Int) := by
  unfold nums
  rw [Int.toNat_natCast]
  exact List.map_congr_left fun k _ => congrArg D.int (Int.zero_add _)
end
-- F10
section
open PySem L2 DL
section
variable {P : Program} {w : World} {K : PySem.W.Frag} {mg : Str → Option Value} {bse : Heap} {C T0 : Addr}
abbrev sLOpen : Stmt := top 60
abbrev nLOpen : List Str := ["hall", "stand", "aside", "weights", "found", "name", "row"]
theorem scLOpen : FnScope nLOpen ["hall", "stand", "aside"] (defScope sLOpen) := ⟨rfl, rfl, rfl, by decide +kernel, rfl, by decide +kernel, by decide +kernel⟩
def spLOpen : ASp := fun ds S R => ∃ (L : List (Key × D)) (h : HallT) (t : StandT) (a : Option Str), ds = [.dct L, standD t, oS a] ∧ HallL L h ∧ HallOk h ∧ StandOk h t ∧ R (.lst ((openT h t a).map D.str)) S
theorem bLOpen (M : Nm mg) (c1 : CalA P w K mg bse 2 "_law_borne" spLBorne []) (c2 : CalA P w K mg bse 2 "_law_is_met" spRowMet []) : BodyA P w K mg bse nLOpen "_law_open" sLOpen 2 spLOpen := by
  intro f cdv A outer s H E hr ds S R ⟨L, h, t, a, eds, hL, ho, so, hR⟩
  have hu : Un _ := ⟨hr.units⟩
  have nd : Names nLOpen := ⟨scLOpen.nd⟩
  have sc : Scp nLOpen (defScope sLOpen) := ⟨scLOpen.nd⟩
  subst eds
  have d5 := ho.d5
  have l1 := hL.doors
  walk_at "w"
  refine ⟨L, h, t, a, rfl, hL, ho, so, ?_⟩
  walk_at "w"
  refine .inr fun q => ?_
  walk_at "w"
  refine frS (.nm 5) ?_ (tgNm nd (by walk_at "n") (by rfl)) .never rfl
  refine aI_list ?_
  walk_at "w"
  refine ⟨dnames h, .inr ⟨_, rD, dctS_keys'⟩, by unfold dnames; rw [List.length_map]; omega, .inl ?_⟩
  rw [ho.ds, dn_map]
  refine ⟨_, rfl, ?_⟩
  refine frI (fun i (b : List Str) ρ' S' => b.length ≤ i ∧ (∃ o1 o2, ρ' = [some (.dct L), some (standD t), some (oS a), some (.dct (wtsD (borneT h t a))), some (.adr q), o1, o2]) ∧ S' = (q, .lst (b.map D.str)) :: S) (openStep h t a) [] ⟨Nat.zero_le _, ⟨_, _, rfl⟩, rfl⟩ ?_ ?_
  · rintro i b x ρ' S' hix ⟨hb, ⟨o1, o2, e1⟩, e2⟩
    subst e1; subst e2
    have hx := List.mem_of_getElem? hix
    have hi := (List.getElem?_eq_some_iff.mp hix).1
    have go := ho.dg x hx
    have hro := rowsIn ho so a hx
    show aSs _ _ [some (.dct L), some (standD t), some (oS a), some (.dct (wtsD (borneT h t a))), some (.adr q), some (.str x.1), o2] _ _
    walk_at "w"
    refine lcE (.nm 6) [("row", 6)] sc ?_ ⟨rfl, by decide +kernel, by decide +kernel, by decide +kernel, by decide +kernel⟩ (fun _ _ _ _ _ => tgNm nd (by walk_at "n") (by rfl)) rfl rfl rfl (by decide) (by decide)
    refine aI_tup ?_
    walk_at "w"
    refine oIxS rD (valP_nd ho.dn hx) ?_
    walk_at "w"
    refine lcF (fun r => !metT (borneT h t a) r) rowD (Nat.lt_trans (rowsLen ho hx) (by decide)) (fun r hr A => ?_) (.inl ?_)
    · intro s H C cl fp
      walk_at "w"
      refine ⟨r, _, rfl, hro r hr, _, rfl, ?_⟩
      refine ⟨rfl, rfl, fun _ => ?_⟩
      intro s H C cl fp
      walk_at "w"
      exact ⟨rfl, rfl⟩
    walk_at "w"
    refine .inl (oEq0 rL ?_)
    have key : ((List.map rowD (List.filter (fun r => !metT (borneT h t a) r) x.2.rows)).length = 0) ↔ openW (borneT h t a) x.2 = true := by
      rw [List.length_map, List.length_eq_zero_iff, List.filter_eq_nil_iff]
      unfold openW
      rw [List.all_eq_true]
      constructor
      · intro h1 r hr
        have := h1 r hr
        simpa using this
      · intro h1 r hr
        rw [h1 r hr]; simp
    refine iteD (fun e => ?_) fun e => ?_
    · walk_at "w"
      refine ⟨⟨_, rA (q := 0) rfl⟩, ?_⟩
      walk_at "w"
      refine ⟨0, q, _, ⟨rfl, rfl⟩, by rw [List.length_map]; omega, ?_⟩
      walk_at "w"
      unfold openStep
      rw [if_pos (key.mp e)]
      exact ⟨by rw [List.length_append]; show _ + 1 ≤ _; omega, ⟨_, _, rfl⟩, by rw [List.map_append]; rfl⟩
    · walk_at "w"
      unfold openStep
      rw [if_neg fun e2 => e (key.mpr e2)]
      exact ⟨by omega, ⟨_, _, rfl⟩, rfl⟩
  rintro ρ' S' ⟨_, ⟨o1, o2, e1⟩, e2⟩
  subst e1; subst e2
  rw [open_fold]
  refine aSs_one (aS_ret (aE_frz ?_))
  walk_at "w"
  exact ⟨0, q, _, rfl, rfl, rfl, hR⟩
abbrev sLDeeds : Stmt := top 62
abbrev nLDeeds : List Str := ["hall", "stand", "turn", "rooms", "places", "walker", "heft", "hands", "room", "stones", "found", "door", "k"]
theorem scLDeeds : FnScope nLDeeds ["hall", "stand"] (defScope sLDeeds) := ⟨rfl, rfl, rfl, by decide +kernel, rfl, by decide +kernel, by decide +kernel⟩
def spLDeeds : ASp := fun ds S R => ∃ (L : List (Key × D)) (h : HallT) (t : StandT), ds = [.dct L, standD t] ∧ HallL L h ∧ HallOk h ∧ StandOk h t ∧ R (.lst ((deedsT h t).map deedD)) S
theorem bLDeeds (M : Nm mg) (c1 : CalA P w K mg bse 3 "_law_open" spLOpen []) (c2 : CalA P w K mg bse 2 "_law_far" spFar []) : BodyA P w K mg bse nLDeeds "_law_deeds" sLDeeds 3 spLDeeds := by
  intro f cdv A outer s H E hr ds S R ⟨L, h, t, eds, hL, ho, so, hR⟩
  have hu : Un _ := ⟨hr.units⟩
  have nd : Names nLDeeds := ⟨scLDeeds.nd⟩
  have sc : Scp nLDeeds (defScope sLDeeds) := ⟨scLDeeds.nd⟩
  subst eds
  have d5 := ho.d5
  have s3 := ho.s3
  have l1 := hL.walkers
  have l2 := hL.stones
  obtain ⟨lg, ll, lf⟩ := len_deeds (t := t) ho
  walk_at "w"
  refine aS_asg (.tp [2, 3, 4]) ?_ (tgTp rfl (pgsN nd (by walk_at "n") (by rfl) (pgsN nd (by walk_at "n") (by rfl) (pgsN nd (by walk_at "n") (by rfl) (pgsO)))))
  walk_at "w"
  refine aS_asg (.tp [5, 6, 7]) ?_ (tgTp rfl (pgsN nd (by walk_at "n") (by rfl) (pgsN nd (by walk_at "n") (by rfl) (pgsN nd (by walk_at "n") (by rfl) (pgsO)))))
  walk_at "w"
  refine oIxL rL (atI_map (atI_any (curW_get so) rfl)) ?_
  walk_at "w"
  refine aS_asg (.tp [8, 9]) ?_ (tgTp rfl (pgsN nd (by walk_at "n") (by rfl) (pgsN nd (by walk_at "n") (by rfl) (pgsO))))
  walk_at "w"
  refine oIxT (atI_map (atI_any (curR_get so) rfl)) ?_
  walk_at "w"
  refine ⟨snames h, .inr ⟨_, rD, dctS_keys'⟩, by unfold snames; rw [List.length_map]; omega, .inl ?_⟩
  rw [ho.ss]
  walk_at "w"
  refine lcS (.nm 11) [("door", 11)] sc (by walk_at "n") ?_ ⟨rfl, by decide +kernel, by decide +kernel, by decide +kernel, by decide +kernel⟩ (fun _ _ _ _ _ => tgNm nd (by walk_at "n") (by rfl)) rfl rfl rfl (by decide) (by decide)
  refine aI_list ?_
  walk_at "w"
  refine ⟨L, h, t, some (curW h t).name, rfl, hL, ho, so, _, rfl, ?_⟩
  refine lcF (fun d => (farO h t d).isSome) (fun d => deedD (.go d)) (openT_len ho t _) (fun d hd A => ?_) (.inl ?_)
  · obtain ⟨x, hx, ex⟩ := openT_mem hd
    subst ex
    intro s H C cl fp
    walk_at "w"
    refine ⟨L, h, x.1, curR t, x.2, rfl, hL, valP_nd ho.dn hx, ?_⟩
    refine ⟨rfl, by rw [nonS, farO_get ho hx], fun _ => ?_⟩
    intro s H C cl fp
    walk_at "w"
    exact ⟨rfl, rfl⟩
  rw [show (List.filter (fun d => (farO h t d).isSome) (openT h t (some (curW h t).name))).map (fun d => deedD (.go d)) = (goL h t).map deedD by unfold goL; rw [List.map_map]; rfl]
  walk_at "w"
  refine lcE (.nm 12) [("k", 12)] sc ?_ ⟨rfl, by decide +kernel, by decide +kernel, by decide +kernel, by decide +kernel⟩ (fun _ _ _ _ _ => tgNm nd (by walk_at "n") (by rfl)) rfl rfl rfl (by decide) (by decide)
  refine aI_range1 M.range ?_
  walk_at "w"
  refine ⟨_, .inr (.inl ⟨_, qL, rfl⟩), ?_⟩
  walk_at "w"
  have hsl : (List.map D.str (snames h)).length = h.stones.length := by rw [List.length_map]; unfold snames; rw [List.length_map]
  rw [hsl]
  refine ⟨_, rfl, by omega, by omega, ?_⟩
  rw [nums_range]
  refine lcF (fun k => decide (placeAt t k = (curW h t).name)) (fun k => deedD (.lay (stoneAt h k))) (by rw [List.length_range]; omega) (fun k hk A => ?_) (.inl ?_)
  · have hk := List.mem_range.mp hk
    intro s H C cl fp
    walk_at "w"
    refine oIxT (atI_map (atI_any (placeAt_get so hk) rfl)) ?_
    walk_at "w"
    refine ⟨rfl, rfl, fun _ => ?_⟩
    intro s H C cl fp
    walk_at "w"
    refine oIxL rL (atI_map (atI_any (stoneAt_get hk) rfl)) ?_
    walk_at "w"
    exact ⟨rfl, rfl⟩
  rw [show (List.filter (fun k => decide (placeAt t k = (curW h t).name)) (List.range h.stones.length)).map (fun k => deedD (.lay (stoneAt h k))) = (layL h t).map deedD by unfold layL; rw [List.map_map]; rfl]
  refine oCat rL rL (by rw [List.length_map, List.length_map]; omega) (.inl ?_)
  rw [← List.map_append]
  walk_at "w"
  refine aE_countT ?_
  walk_at "w"
  refine ⟨⟨_, rfl⟩, ?_⟩
  walk_at "w"
  refine ⟨_, t.places, rfl, rfl, ?_⟩
  walk_at "w"
  unfold deedsT at hR
  refine iteD (fun hc => ?_) fun hc => ?_
  · rw [if_pos hc] at hR
    walk_at "w"
    refine lcE (.nm 12) [("k", 12)] sc ?_ ⟨rfl, by decide +kernel, by decide +kernel, by decide +kernel, by decide +kernel⟩ (fun _ _ _ _ _ => tgNm nd (by walk_at "n") (by rfl)) rfl rfl rfl (by decide) (by decide)
    refine aI_range1 M.range ?_
    walk_at "w"
    refine ⟨_, .inr (.inl ⟨_, qL, rfl⟩), ?_⟩
    walk_at "w"
    rw [hsl]
    refine ⟨_, rfl, by omega, by omega, ?_⟩
    rw [nums_range]
    refine lcF (fun k => decide (placeAt t k = curR t)) (fun k => deedD (.lift (stoneAt h k))) (by rw [List.length_range]; omega) (fun k hk A => ?_) (.inl ?_)
    · have hk := List.mem_range.mp hk
      intro s H C cl fp
      walk_at "w"
      refine oIxT (atI_map (atI_any (placeAt_get so hk) rfl)) ?_
      walk_at "w"
      refine ⟨rfl, rfl, fun _ => ?_⟩
      intro s H C cl fp
      walk_at "w"
      refine oIxL rL (atI_map (atI_any (stoneAt_get hk) rfl)) ?_
      walk_at "w"
      exact ⟨rfl, rfl⟩
    rw [show (List.filter (fun k => decide (placeAt t k = curR t)) (List.range h.stones.length)).map (fun k => deedD (.lift (stoneAt h k))) = (liftL h t).map deedD by unfold liftL; rw [List.map_map]; rfl]
    refine oCat rL rL (by rw [List.length_map, List.length_map, List.length_append]; omega) (.inl ?_)
    rw [← List.map_append]
    walk_at "w"
    refine .inl (oCat rL rL (by rw [List.length_map, List.length_append, List.length_append]; show _ + 1 ≤ _; omega) (.inl ?_))
    rw [List.map_append] at hR
    exact hR
  · rw [if_neg hc, List.append_nil] at hR
    walk_at "w"
    refine .inl (oCat rL rL (by rw [List.length_map, List.length_append]; show _ + 1 ≤ _; omega) (.inl ?_))
    rw [List.map_append] at hR
    exact hR
end

end
-- F11
section
open PySem L2 DL
section
variable {P : Program} {w : World} {K : PySem.W.Frag} {mg : Str → Option Value} {bse : Heap} {C T0 : Addr}
abbrev sLAfter : Stmt := top 63
abbrev nLAfter : List Str := ["hall", "stand", "deed", "turn", "rooms", "places", "at", "place"]
theorem scLAfter : FnScope nLAfter ["hall", "stand", "deed"] (defScope sLAfter) := ⟨rfl, rfl, rfl, by decide +kernel, rfl, by decide +kernel, by decide +kernel⟩
def spLAfter : ASp := fun ds S R => ∃ (L : List (Key × D)) (h : HallT) (t : StandT) (e : Deed), ds = [.dct L, standD t, deedD e] ∧ HallL L h ∧ HallOk h ∧ StandOk h t ∧ CanDo h t e ∧ R (standD (afterT h t e)) S
theorem bLAfter (M : Nm mg) (c2 : CalA P w K mg bse 2 "_law_far" spFar []) : BodyA P w K mg bse nLAfter "_law_after" sLAfter 2 spLAfter := by
  intro f cdv A outer s H E hr ds S R ⟨L, h, t, e, eds, hL, ho, so, hc, hR⟩
  have hu : Un _ := ⟨hr.units⟩
  have nd : Names nLAfter := ⟨scLAfter.nd⟩
  have sc : Scp nLAfter (defScope sLAfter) := ⟨scLAfter.nd⟩
  subst eds
  have htl : t.turn < t.rooms.length := by rw [so.rl]; exact so.t
  have f3 := ho.f3
  have s3 := ho.s3
  have hrl := so.rl
  have hpl := so.pl
  have l1 := hL.walkers
  have l2 := hL.stones
  have e1 : ((t.turn : Int) + 1) % (t.rooms.length : Int) = (nextT t : Int) := by
    unfold nextT; push_cast; rfl
  walk_at "w"
  refine aS_asg (.tp [3, 4, 5]) ?_ (tgTp rfl (pgsN nd (by walk_at "n") (by rfl) (pgsN nd (by walk_at "n") (by rfl) (pgsN nd (by walk_at "n") (by rfl) (pgsO)))))
  walk_at "w"
  cases e with
  | wait =>
    walk_at "w"
    refine oInL (zs := ["lift", "lay"]) (.inr (.inl rfl)) ?_
    walk_at "w"
    refine ⟨_, .inr (.inl ⟨_, qT, rfl⟩), ?_⟩
    rw [List.length_map]
    refine oMod (by omega) ?_
    walk_at "w"
    rw [e1]
    exact hR
  | go d =>
    obtain ⟨g, r, hg, hr2, _⟩ := hc
    have hgo : goneT h t d = r := by unfold goneT; rw [hg]; show (farT g (curR t)).getD "" = r; rw [hr2]; rfl
    walk_at "w"
    refine .inl ⟨_, rfl, ?_⟩
    walk_at "w"
    refine oIxT (atI_map (atI_any (curR_get so) rfl)) ?_
    walk_at "w"
    refine ⟨L, h, d, curR t, g, rfl, hL, hg, ?_⟩
    rw [hr2]
    walk_at "w"
    refine oCatT ?_ ?_
    · rw [cut_hi (by omega), List.length_take, List.length_map]
      show _ + 1 ≤ _
      omega
    walk_at "w"
    refine .inl ⟨_, rfl, ?_⟩
    refine oCatT ?_ ?_
    · rw [cut_hi (by omega), cut_lo (by omega), List.length_append, List.length_take, List.length_drop, List.length_map]
      show _ + 1 + _ ≤ _
      omega
    rw [show (List.map D.str t.rooms) = t.rooms.map D.str from rfl, show oS (some r) = D.str r from rfl, cut_set htl]
    walk_at "w"
    refine oInL (zs := ["lift", "lay"]) (.inr (.inl rfl)) ?_
    walk_at "w"
    refine ⟨_, .inr (.inl ⟨_, qT, rfl⟩), ?_⟩
    rw [List.length_map, List.length_set]
    refine oMod (by omega) ?_
    walk_at "w"
    rw [e1, ← hgo]
    exact hR
  | lift x =>
    obtain ⟨hx, hp, _⟩ := hc
    have hix := ix_lt hx
    walk_at "w"
    refine oInL (zs := ["lift", "lay"]) (.inr (.inl rfl)) ?_
    walk_at "w"
    refine ⟨snames h, .inr ⟨_, rD, dctS_keys'⟩, by unfold snames; rw [List.length_map]; omega, .inl ?_⟩
    rw [ho.ss]
    refine ⟨⟨_, rL⟩, ?_⟩
    walk_at "w"
    refine ⟨x, _, rL, rfl, hx, ?_⟩
    walk_at "w"
    refine oIxL rL (atI_map (atI_any (curW_get so) rfl)) ?_
    walk_at "w"
    refine .inl ⟨_, rfl, ?_⟩
    walk_at "w"
    refine oCatT ?_ ?_
    · rw [cut_hi (by omega), List.length_take, List.length_map]
      show _ + 1 ≤ _
      omega
    walk_at "w"
    refine .inl ⟨_, rfl, ?_⟩
    refine oCatT ?_ ?_
    · rw [cut_hi (by omega), cut_lo (by omega), List.length_append, List.length_take, List.length_drop, List.length_map]
      show _ + 1 + _ ≤ _
      omega
    rw [cut_set (by rw [hpl]; exact hix)]
    walk_at "w"
    refine ⟨_, .inr (.inl ⟨_, qT, rfl⟩), ?_⟩
    rw [List.length_map]
    refine oMod (by omega) ?_
    walk_at "w"
    rw [e1]
    exact hR
  | lay x =>
    obtain ⟨hx, hp⟩ := hc
    have hix := ix_lt hx
    walk_at "w"
    refine oInL (zs := ["lift", "lay"]) (.inr (.inl rfl)) ?_
    walk_at "w"
    refine ⟨snames h, .inr ⟨_, rD, dctS_keys'⟩, by unfold snames; rw [List.length_map]; omega, .inl ?_⟩
    rw [ho.ss]
    refine ⟨⟨_, rL⟩, ?_⟩
    walk_at "w"
    refine ⟨x, _, rL, rfl, hx, ?_⟩
    walk_at "w"
    refine oIxT (atI_map (atI_any (curR_get so) rfl)) ?_
    walk_at "w"
    refine .inl ⟨_, rfl, ?_⟩
    walk_at "w"
    refine oCatT ?_ ?_
    · rw [cut_hi (by omega), List.length_take, List.length_map]
      show _ + 1 ≤ _
      omega
    walk_at "w"
    refine .inl ⟨_, rfl, ?_⟩
    refine oCatT ?_ ?_
    · rw [cut_hi (by omega), cut_lo (by omega), List.length_append, List.length_take, List.length_drop, List.length_map]
      show _ + 1 + _ ≤ _
      omega
    rw [cut_set (by rw [hpl]; exact hix)]
    walk_at "w"
    refine ⟨_, .inr (.inl ⟨_, qT, rfl⟩), ?_⟩
    rw [List.length_map]
    refine oMod (by omega) ?_
    walk_at "w"
    rw [e1]
    exact hR
theorem atI_back {α : Type} {l : List α} {k : Nat} {x : α} (h : l[k]? = some x) : atI l.reverse (-((k : Int) + 1)) = some x := by
  have hl := (List.getElem?_eq_some_iff.mp h).1
  unfold atI ixN
  rw [List.length_reverse, if_neg (by omega), if_pos (by omega)]
  show l.reverse[(-((k : Int) + 1) + (l.length : Int)).toNat]? = some x
  rw [show (-((k : Int) + 1) + (l.length : Int)).toNat = l.length - 1 - k by omega, List.getElem?_reverse (by omega), show l.length - 1 - (l.length - 1 - k) = k by omega, h]
/-! what the law keeps: halls and stands -/
structure KeptE where
  L : List (Key × D)
  h : HallT
  t : StandT
abbrev keptD (e : KeptE) : D := .tup [.dct e.L, standD e.t]
structure KeptOk (e : KeptE) : Prop where
  L : HallL e.L e.h
  h : HallOk e.h
  t : StandOk e.h e.t
  b : HallB e.h
end

end
-- T12
/-! Books. -/
section
open PySem L2 DL
structure MomE where
  h : HallT
  t : StandT
  a : D
abbrev momD (CH CM : Addr) (m : MomE) : D := .ins CM [("ground", hallI CH m.h), ("pose", standD m.t), ("act", m.a), ("plan", .non)]
abbrev bookO (CB pl ul : Addr) : D := .ins CB [("past", .adr pl), ("undone", .adr ul)]
/-- moments, the last one first -/
abbrev momL (CH CM : Addr) (ms : List MomE) : List D := ms.reverse.map (momD CH CM)
structure MomOk (m : MomE) : Prop where
  h : HallOk m.h
  t : StandOk m.h m.t
theorem put_mom {a b c d : D} : putA "plan" d (putA "act" c (putA "pose" b (putA "ground" a []))) = ([("ground", a), ("pose", b), ("act", c), ("plan", d)] : List (Str × D)) := by
  show putA "plan" d (putA "act" c (putA "pose" b [("ground", a)])) = _
  rw [putA_tl (by decide +kernel)]
  show putA "plan" d (putA "act" c [("ground", a), ("pose", b)]) = _
  rw [putA_tl (by decide +kernel), putA_tl (by decide +kernel)]
  show putA "plan" d [("ground", a), ("pose", b), ("act", c)] = _
  rw [putA_tl (by decide +kernel), putA_tl (by decide +kernel), putA_tl (by decide +kernel)]
  all_goals rfl
theorem put_book {a b : D} : putA "undone" b (putA "past" a []) = ([("past", a), ("undone", b)] : List (Str × D)) := by
  show putA "undone" b [("past", a)] = _
  rw [putA_tl (by decide +kernel)]
  all_goals rfl
theorem put_undone {a b c : D} : putA "undone" c [("past", a), ("undone", b)] = ([("past", a), ("undone", c)] : List (Str × D)) := by
  rw [putA_tl (by decide +kernel), putA_hd]
/-- a book stands there -/
structure BookAt (CH CM CB : Addr) (S : Store) (ib ip iu : Nat) (b pl ul : Addr) (ms us : List MomE) : Prop where
  b : S[ib]? = some (b, bookO CB pl ul)
  p : S[ip]? = some (pl, .lst (momL CH CM ms))
  u : S[iu]? = some (ul, .lst (momL CH CM us))
  n : ip ≠ iu
theorem BookAt.bp {CH CM CB : Addr} {S : Store} {ib ip iu : Nat} {b pl ul : Addr} {ms us : List MomE} (h : BookAt CH CM CB S ib ip iu b pl ul ms us) : ib ≠ ip := fun e => by
  have h1 := h.b
  have h2 := h.p
  rw [e, h2] at h1
  cases h1
theorem BookAt.bu {CH CM CB : Addr} {S : Store} {ib ip iu : Nat} {b pl ul : Addr} {ms us : List MomE} (h : BookAt CH CM CB S ib ip iu b pl ul ms us) : ib ≠ iu := fun e => by
  have h1 := h.b
  have h2 := h.u
  rw [e, h2] at h1
  cases h1
/-- the store when an act is noted -/
def noted (CH CM CB : Addr) (S : Store) (ib ip iu : Nat) (b pl : Addr) (ms : List MomE) (u : Addr) : Store := ((S.set ip (pl, .lst (momL CH CM ms))).set ib (b, bookO CB pl u)).set iu (u, .lst [])
theorem momL_snoc {CH CM : Addr} {m : MomE} {ms : List MomE} : momL CH CM (m :: ms) = momL CH CM ms ++ [momD CH CM m] := by
  show (m :: ms).reverse.map _ = _
  rw [List.reverse_cons, List.map_append]; rfl
theorem momL_len {CH CM : Addr} {ms : List MomE} : (momL CH CM ms).length = ms.length := by
  show (ms.reverse.map _).length = _
  rw [List.length_map, List.length_reverse]
theorem momL_back {CH CM : Addr} {ms : List MomE} {k : Nat} {m : MomE} (h : ms[k]? = some m) : atI (momL CH CM ms) (-((k : Int) + 1)) = some (momD CH CM m) := atI_map (atI_back h)
theorem cut_back2 {α : Type} {l : List α} {a b : α} : cutD (l ++ [a, b]) (some (-2)) none = [a, b] := by
  unfold cutD HT.sIx
  have e : (-2 + ((l ++ [a, b]).length : Int)).toNat = l.length := by rw [List.length_append]; show (-2 + ((l.length + 2 : Nat) : Int)).toNat = _; omega
  show ((l ++ [a, b]).drop (if (-2 : Int) < 0 then (-2 + ((l ++ [a, b]).length : Int)).toNat else _)).take ((l ++ [a, b]).length - (if (-2 : Int) < 0 then (-2 + ((l ++ [a, b]).length : Int)).toNat else _)) = _
  rw [if_pos (by decide), e, List.drop_left, List.length_append, Nat.add_sub_cancel_left]
  rfl
theorem cut_mom {CH CM : Addr} {a b : MomE} {r : List MomE} : cutD (momL CH CM (b :: a :: r)) (some (-2)) none = [momD CH CM a, momD CH CM b] := by
  rw [momL_snoc, momL_snoc, List.append_assoc]
  exact cut_back2
end
-- F12
section
open PySem L2 DL
section
variable {P : Program} {w : World} {K : PySem.W.Frag} {mg : Str → Option Value} {bse : Heap} {C CH CM CB T0 : Addr}
abbrev sMInit : Stmt := inClass (top 44) 0
abbrev nMInit : List Str := ["self", "hall", "stand", "act", "plan"]
theorem scMInit : FnScope nMInit ["self", "hall", "stand", "act", "plan"] (defScope sMInit) := ⟨rfl, rfl, rfl, by decide +kernel, rfl, by decide +kernel, by decide +kernel⟩
def spMInit (CM : Addr) : ASp := fun ds S R => ∃ (a : Addr) (x y z u : D) (S0 : Store), ds = [.adr a, x, y, z, u] ∧ S = (a, .ins CM []) :: S0 ∧ R .non ((a, .ins CM [("ground", x), ("pose", y), ("act", z), ("plan", u)]) :: S0)
theorem bMInit (hc : MomC K CM) : BodyA P w K mg bse nMInit "Moment.__init__" sMInit 1 (spMInit CM) := by
  intro f cdv A outer s H E hr ds S R ⟨a, x, y, z, u, S0, eds, eS, hR⟩
  have hu : Un _ := ⟨hr.units⟩
  have nd : Names nMInit := ⟨scMInit.nd⟩
  have sc : Scp nMInit (defScope sMInit) := ⟨scMInit.nd⟩
  subst eds; subst eS
  walk_at "w"
  refine ⟨0, a, _, rfl, rfl, by decide, ?_⟩
  walk_at "w"
  refine ⟨0, a, _, rfl, rfl, by show 1 < 1000; decide, ?_⟩
  walk_at "w"
  refine ⟨0, a, _, rfl, rfl, by show 2 < 1000; decide, ?_⟩
  walk_at "w"
  refine ⟨0, a, _, rfl, rfl, by show 3 < 1000; decide, ?_⟩
  walk_at "w"
  show R .non ((a, D.ins CM (putA "plan" _ (putA "act" _ (putA "pose" _ (putA "ground" _ []))))) :: S0)
  rw [put_mom]
  exact hR
theorem mkMom {X : Cx} {ρ : Sl} {S : Store} {Q : D → Store → Prop} {pos p : Pos} {e : Expr} {es : List Expr} {k j : Nat} {CM : Addr} (c : MakA X.prog X.w X.K X.mg X.base k "Moment" CM (spMInit CM)) (hr : Room j X.A)
    (h : aA X (e :: es) ρ S fun ds S1 => ∃ x y z u, ds = [x, y, z, u] ∧ Q (.ins CM [("ground", x), ("pose", y), ("act", z), ("plan", u)]) S1) (hk : k + 1 ≤ j := by decide) (hg : Gl X "Moment" := by rfl)
    (hdb : ((("Moment" : Str)) == ("__debug__" : Str)) = false := by decide) (he : starEach (e :: es) X.env = (false, eval e X.env) :: starEach es X.env := by rfl) (hpl : (backTo pos (starEach es X.env)).any (·.1) = false := by rfl) :
    aE X (.Call (.Name "Moment" p) (e :: es) [] pos) ρ S Q := by
  refine aE_frz (aE_make c hr (fun σ H R s kk => h σ H R s fun vs H' ds S1 q => kk vs H' ds S1 ?_) hk hg hdb he hpl)
  obtain ⟨x, y, z, u, ed, hQ⟩ := q
  subst ed
  exact fun a => ⟨a, x, y, z, u, S1, rfl, rfl, rfl, 0, a, _, rfl, rfl, rfl, hQ⟩
abbrev sBInit : Stmt := inClass (top 45) 0
abbrev nBInit : List Str := ["self", "hall", "stand"]
theorem scBInit : FnScope nBInit ["self", "hall", "stand"] (defScope sBInit) := ⟨rfl, rfl, rfl, by decide +kernel, rfl, by decide +kernel, by decide +kernel⟩
def spBInit (CH CM CB : Addr) : ASp := fun ds S R => ∃ (a : Addr) (h : HallT) (t : StandT) (S0 : Store), ds = [.adr a, hallI CH h, standD t] ∧ S = (a, .ins CB []) :: S0 ∧ ∀ p u, R .non ((u, .lst []) :: (p, .lst (momL CH CM [⟨h, t, .non⟩])) :: (a, bookO CB p u) :: S0)
theorem bBInit (hc : BookC K CB) (cM : MakA P w K mg bse 2 "Moment" CM (spMInit CM)) : BodyA P w K mg bse nBInit "Book.__init__" sBInit 3 (spBInit CH CM CB) := by
  intro f cdv A outer s H E hr ds S R ⟨a, h, t, S0, eds, eS, hR⟩
  have hu : Un _ := ⟨hr.units⟩
  have nd : Names nBInit := ⟨scBInit.nd⟩
  have sc : Scp nBInit (defScope sBInit) := ⟨scBInit.nd⟩
  subst eds; subst eS
  walk_at "w"
  refine mkMom cM hr ?_
  walk_at "w"
  refine ⟨_, _, _, _, rfl, ?_⟩
  walk_at "w"
  refine .inr fun p => ?_
  walk_at "w"
  refine ⟨1, a, _, rfl, rfl, by decide, ?_⟩
  walk_at "w"
  refine .inr fun u => ?_
  walk_at "w"
  refine ⟨2, a, _, rfl, rfl, by show 1 < 1000; decide, ?_⟩
  walk_at "w"
  show R .non ((u, .lst []) :: (p, .lst [momD CH CM ⟨h, t, .non⟩]) :: (a, D.ins CB (putA "undone" _ (putA "past" _ []))) :: S0)
  rw [put_book]
  exact hR p u
abbrev sTOver : Stmt := inClass (top 45) 7
abbrev nTOver : List Str := ["self", "hall", "stand", "act", "plan"]
theorem scTOver : FnScope nTOver ["self", "hall", "stand", "act", "plan"] (defScope sTOver) := ⟨rfl, rfl, rfl, by decide +kernel, rfl, by decide +kernel, by decide +kernel⟩
def spTOver (CH CM CB : Addr) : ASp := fun ds S R => ∃ (ib ip iu : Nat) (b pl ul : Addr) (ms us : List MomE) (h : HallT) (t : StandT) (x : D), ds = [.adr b, hallI CH h, standD t, x, .non] ∧ BookAt CH CM CB S ib ip iu b pl ul ms us ∧ ms.length < 1000 ∧
  ∀ u, R .non (noted CH CM CB S ib ip iu b pl (⟨h, t, x⟩ :: ms) u)
theorem bTOver (hc : BookC K CB) (cM : MakA P w K mg bse 2 "Moment" CM (spMInit CM)) : BodyA P w K mg bse nTOver "Book.turn_over" sTOver 3 (spTOver CH CM CB) := by
  intro f cdv A outer s H E hr ds S R ⟨ib, ip, iu, b, pl, ul, ms, us, h, t, x, eds, hb, hl, hR⟩
  have hu : Un _ := ⟨hr.units⟩
  have nd : Names nTOver := ⟨scTOver.nd⟩
  have sc : Scp nTOver (defScope sTOver) := ⟨scTOver.nd⟩
  subst eds
  have h1 := hb.b
  have h2 := hb.p
  have hbp := hb.bp
  have hbu := hb.bu
  walk_at "w"
  refine ⟨⟨_, rA h2⟩, ?_⟩
  refine mkMom cM hr ?_
  walk_at "w"
  refine ⟨_, _, _, _, rfl, ?_⟩
  refine ⟨ip, pl, _, ⟨rfl, h2⟩, by rw [momL_len]; omega, ?_⟩
  have ea : momL CH CM ms ++ [D.ins CM [("ground", hallI CH h), ("pose", standD t), ("act", x), ("plan", .non)]] = momL CH CM (⟨h, t, x⟩ :: ms) := (momL_snoc (m := ⟨h, t, x⟩)).symm
  rw [ea]
  walk_at "w"
  refine .inr fun u => ?_
  walk_at "w"
  refine ⟨ib + 1, b, [("past", .adr pl), ("undone", .adr ul)], rfl, ?_, by show 2 < 1000; decide, ?_⟩
  · rw [List.getElem?_cons_succ, List.getElem?_set_ne hbp.symm]
    exact h1
  rw [put_undone]
  show aSs _ _ _ ((u, D.lst []) :: (S.set ip (pl, D.lst (momL CH CM (⟨h, t, x⟩ :: ms)))).set ib (b, bookO CB pl u)) _
  refine aSs.imp ?_ (swap_new (i := iu))
  walk_at "w"
  exact hR u
abbrev sChange : Stmt := inClass (top 45) 8
abbrev nChange : List Str := ["self", "hall", "act", "here"]
theorem scChange : FnScope nChange ["self", "hall", "act"] (defScope sChange) := ⟨rfl, rfl, rfl, by decide +kernel, rfl, by decide +kernel, by decide +kernel⟩
/-- an act noted, the present stand kept -/
def spChange (CH CM CB : Addr) : ASp := fun ds S R => ∃ (ib ip iu : Nat) (b pl ul : Addr) (m : MomE) (ms us : List MomE) (h : HallT) (x : D), ds = [.adr b, hallI CH h, x] ∧ BookAt CH CM CB S ib ip iu b pl ul (m :: ms) us ∧ ms.length + 1 < 1000 ∧
  ∀ u, R .non (noted CH CM CB S ib ip iu b pl (⟨h, m.t, x⟩ :: m :: ms) u)
theorem bChange (hc : BookC K CB) (hm : MomC K CM) (c1 : MetA P w K mg bse 4 CB "turn_over" (spTOver CH CM CB)) : BodyA P w K mg bse nChange "Book.change" sChange 4 (spChange CH CM CB) := by
  intro f cdv A outer s H E hr ds S R ⟨ib, ip, iu, b, pl, ul, m, ms, us, h, x, eds, hb, hl, hR⟩
  have hu : Un _ := ⟨hr.units⟩
  have nd : Names nChange := ⟨scChange.nd⟩
  have sc : Scp nChange (defScope sChange) := ⟨scChange.nd⟩
  subst eds
  have h1 := hb.b
  have h2 := hb.p
  have i1 : atI (momL CH CM (m :: ms)) (-1) = some (momD CH CM m) := momL_back (k := 0) rfl
  walk_at "w"
  refine oIxL (rA h2) i1 ?_
  walk_at "w"
  exact ⟨ib, ip, iu, b, pl, ul, m :: ms, us, h, m.t, x, rfl, hb, hl, fun u => aSs_nil (hR u)⟩
abbrev sBDo : Stmt := inClass (top 45) 9
abbrev nBDo : List Str := ["self", "deed", "here", "stand", "plan"]
theorem scBDo : FnScope nBDo ["self", "deed"] (defScope sBDo) := ⟨rfl, rfl, rfl, by decide +kernel, rfl, by decide +kernel, by decide +kernel⟩
def spDo (CH CM CB : Addr) : ASp := fun ds S R => ∃ (ib ip iu : Nat) (b pl ul : Addr) (m : MomE) (ms us : List MomE) (e : Deed), ds = [.adr b, deedD e] ∧ BookAt CH CM CB S ib ip iu b pl ul (m :: ms) us ∧ ms.length + 1 < 1000 ∧ MomOk m ∧ CanDo m.h m.t e ∧ okD e ∧
  ∀ u, R .non (noted CH CM CB S ib ip iu b pl (⟨m.h, afterT m.h m.t e, .tup [.str "do", deedD e]⟩ :: m :: ms) u)
theorem bBDo (hc : BookC K CB) (hm : MomC K CM) (c1 : MetA P w K mg bse 4 CB "turn_over" (spTOver CH CM CB)) (c2 : CalA P w K mg bse 6 "done" (spDone CH) []) : BodyA P w K mg bse nBDo "Book.do" sBDo 6 (spDo CH CM CB) := by
  intro f cdv A outer s H E hr ds S R ⟨ib, ip, iu, b, pl, ul, m, ms, us, e, eds, hb, hl, mo, hcd, hk, hR⟩
  have hu : Un _ := ⟨hr.units⟩
  have nd : Names nBDo := ⟨scBDo.nd⟩
  have sc : Scp nBDo (defScope sBDo) := ⟨scBDo.nd⟩
  subst eds
  have h1 := hb.b
  have h2 := hb.p
  have i1 : atI (momL CH CM (m :: ms)) (-1) = some (momD CH CM m) := momL_back (k := 0) rfl
  walk_at "w"
  refine oIxL (rA h2) i1 ?_
  walk_at "w"
  refine ⟨m.h, m.t, e, rfl, mo.h, mo.t, hcd, hk, ?_⟩
  walk_at "w"
  exact ⟨ib, ip, iu, b, pl, ul, m :: ms, us, m.h, _, _, rfl, hb, hl, fun u => aSs_nil (hR u)⟩
abbrev sSHeft : Stmt := inClass (top 45) 10
abbrev nSHeft : List Str := ["self", "name", "heft"]
theorem scSHeft : FnScope nSHeft ["self", "name", "heft"] (defScope sSHeft) := ⟨rfl, rfl, rfl, by decide +kernel, rfl, by decide +kernel, by decide +kernel⟩
def spSHeft (CH CM CB T0 : Addr) : ASp := fun ds S R => ∃ (ib ip iu : Nat) (b pl ul : Addr) (m : MomE) (ms us : List MomE) (n : Str) (k : Int), ds = [.adr b, .str n, .int k] ∧ BookAt CH CM CB S ib ip iu b pl ul (m :: ms) us ∧ ms.length + 1 < 1000 ∧ MomOk m ∧ (n ∈ snames m.h ∨ n ∈ fnames m.h) ∧ (T0, D.tbl qLam) ∈ S ∧
  ∀ u, R .non (noted CH CM CB S ib ip iu b pl (⟨heftedT m.h n k, m.t, .tup [.str "heft", .str n, .int k]⟩ :: m :: ms) u)
theorem bSHeft (hc : BookC K CB) (hm : MomC K CM) (c1 : MetA P w K mg bse 5 CB "change" (spChange CH CM CB)) (c2 : CalA P w K mg bse 5 "hefted" (spHefted CH T0) []) : BodyA P w K mg bse nSHeft "Book.set_heft" sSHeft 5 (spSHeft CH CM CB T0) := by
  intro f cdv A outer s H E hr ds S R ⟨ib, ip, iu, b, pl, ul, m, ms, us, n, k, eds, hb, hl, mo, hn, hT, hR⟩
  have hu : Un _ := ⟨hr.units⟩
  have nd : Names nSHeft := ⟨scSHeft.nd⟩
  have sc : Scp nSHeft (defScope sSHeft) := ⟨scSHeft.nd⟩
  subst eds
  have h1 := hb.b
  have h2 := hb.p
  have i1 : atI (momL CH CM (m :: ms)) (-1) = some (momD CH CM m) := momL_back (k := 0) rfl
  walk_at "w"
  refine oIxL (rA h2) i1 ?_
  walk_at "w"
  refine ⟨m.h, n, k, rfl, mo.h, hn, hT, ?_⟩
  walk_at "w"
  exact ⟨ib, ip, iu, b, pl, ul, m, ms, us, heftedT m.h n k, _, rfl, hb, hl, fun u => aSs_nil (hR u)⟩
abbrev sSRows : Stmt := inClass (top 45) 11
abbrev nSRows : List Str := ["self", "door", "rows", "hall"]
theorem scSRows : FnScope nSRows ["self", "door", "rows"] (defScope sSRows) := ⟨rfl, rfl, rfl, by decide +kernel, rfl, by decide +kernel, by decide +kernel⟩
def spSRows (CH CM CB T0 : Addr) : ASp := fun ds S R => ∃ (ib ip iu : Nat) (b pl ul : Addr) (m : MomE) (ms us : List MomE) (d : Str) (g : Gate) (rs gs : List Row) (rd : D), ds = [.adr b, .str d, rd] ∧ (ResL S rd (rs.map rowD) ∨ rd = rowsD rs) ∧ BookAt CH CM CB S ib ip iu b pl ul (m :: ms) us ∧ ms.length + 1 < 1000 ∧ MomOk m ∧ valP m.h.doors d = some g ∧ rs.Perm gs ∧ (gs.map (·.room)).Sublist m.h.rooms ∧ (T0, D.tbl qLam) ∈ S ∧
  ∀ u, R .non (noted CH CM CB S ib ip iu b pl (⟨rowsT m.h d gs, m.t, .tup [.str "rows", .str d, rowsD gs]⟩ :: m :: ms) u)
theorem rows_val {h : HallT} {d : Str} {g : Gate} {gs : List Row} (hg : valP h.doors d = some g) : valP (rowsT h d gs).doors d = some { g with rows := gs } := by
  show valP (h.doors.map (rowG d gs)) d = _
  generalize h.doors = l at hg
  induction l with
  | nil => cases hg
  | cons a l ih =>
    rw [valP_cons] at hg
    rw [List.map_cons]
    by_cases e : a.1 = d
    · rw [if_pos e] at hg
      have ea : a.2 = g := Option.some.inj hg
      have e1 : rowG d gs a = (d, { g with rows := gs }) := by unfold rowG; rw [if_pos e, e, ea]
      rw [e1, valP_cons, if_pos rfl]
    · rw [if_neg e] at hg
      have e1 : rowG d gs a = a := by unfold rowG; rw [if_neg e]
      rw [e1, valP_cons, if_neg e]
      exact ih hg
theorem bSRows (hc : BookC K CB) (hm : MomC K CM) (HM : HallM P w K mg bse CH) (c1 : MetA P w K mg bse 5 CB "change" (spChange CH CM CB)) (c2 : CalA P w K mg bse 6 "rowed" (spRowed CH T0) []) : BodyA P w K mg bse nSRows "Book.set_rows" sSRows 6 (spSRows CH CM CB T0) := by
  intro f cdv A outer s H E hr ds S R ⟨ib, ip, iu, b, pl, ul, m, ms, us, d, g, rs, gs, rd, eds, hrd, hb, hl, mo, hg, hp, hsub, hT, hR⟩
  have hu : Un _ := ⟨hr.units⟩
  have nd : Names nSRows := ⟨scSRows.nd⟩
  have sc : Scp nSRows (defScope sSRows) := ⟨scSRows.nd⟩
  subst eds
  have m1 := HM.door
  have h1 := hb.b
  have h2 := hb.p
  have i1 : atI (momL CH CM (m :: ms)) (-1) = some (momD CH CM m) := momL_back (k := 0) rfl
  walk_at "w"
  refine oIxL (rA h2) i1 ?_
  walk_at "w"
  refine ⟨m.h, d, g, rs, gs, rd, rfl, hrd, mo.h, hg, hp, hsub, hT, ?_⟩
  walk_at "w"
  refine ⟨rowsT m.h d gs, d, _, rfl, rows_val hg, ?_⟩
  walk_at "w"
  exact ⟨ib, ip, iu, b, pl, ul, m, ms, us, rowsT m.h d gs, _, rfl, hb, hl, fun u => aSs_nil (hR u)⟩
abbrev sBWall : Stmt := inClass (top 45) 12
abbrev nBWall : List Str := ["self", "door"]
theorem scBWall : FnScope nBWall ["self", "door"] (defScope sBWall) := ⟨rfl, rfl, rfl, by decide +kernel, rfl, by decide +kernel, by decide +kernel⟩
def spBWall (CH CM CB T0 : Addr) : ASp := fun ds S R => ∃ (ib ip iu : Nat) (b pl ul : Addr) (m : MomE) (ms us : List MomE) (d : Str), ds = [.adr b, .str d] ∧ BookAt CH CM CB S ib ip iu b pl ul (m :: ms) us ∧ ms.length + 1 < 1000 ∧ MomOk m ∧ d ∈ dnames m.h ∧ (T0, D.tbl qLam) ∈ S ∧
  ∀ u, R .non (noted CH CM CB S ib ip iu b pl (⟨wallT m.h d, m.t, .tup [.str "wall", .str d]⟩ :: m :: ms) u)
theorem bBWall (hc : BookC K CB) (hm : MomC K CM) (c1 : MetA P w K mg bse 5 CB "change" (spChange CH CM CB)) (c2 : CalA P w K mg bse 6 "walled" (spWalled CH T0) []) : BodyA P w K mg bse nBWall "Book.wall" sBWall 6 (spBWall CH CM CB T0) := by
  intro f cdv A outer s H E hr ds S R ⟨ib, ip, iu, b, pl, ul, m, ms, us, d, eds, hb, hl, mo, hd, hT, hR⟩
  have hu : Un _ := ⟨hr.units⟩
  have nd : Names nBWall := ⟨scBWall.nd⟩
  have sc : Scp nBWall (defScope sBWall) := ⟨scBWall.nd⟩
  subst eds
  have h1 := hb.b
  have h2 := hb.p
  have i1 : atI (momL CH CM (m :: ms)) (-1) = some (momD CH CM m) := momL_back (k := 0) rfl
  walk_at "w"
  refine oIxL (rA h2) i1 ?_
  walk_at "w"
  refine ⟨m.h, d, rfl, mo.h, hd, hT, ?_⟩
  walk_at "w"
  exact ⟨ib, ip, iu, b, pl, ul, m, ms, us, wallT m.h d, _, rfl, hb, hl, fun u => aSs_nil (hR u)⟩
abbrev sOpenUp : Stmt := inClass (top 45) 13
abbrev nOpenUp : List Str := ["self", "door"]
theorem scOpenUp : FnScope nOpenUp ["self", "door"] (defScope sOpenUp) := ⟨rfl, rfl, rfl, by decide +kernel, rfl, by decide +kernel, by decide +kernel⟩
def spOpenUp (CH CM CB T0 : Addr) : ASp := fun ds S R => ∃ (ib ip iu : Nat) (b pl ul : Addr) (m : MomE) (ms us : List MomE) (d : Str) (g : Gate), ds = [.adr b, .str d] ∧ BookAt CH CM CB S ib ip iu b pl ul (m :: ms) us ∧ ms.length + 1 < 1000 ∧ MomOk m ∧ valP m.h.doors d = some g ∧ (T0, D.tbl qLam) ∈ S ∧
  ∀ u, R .non (noted CH CM CB S ib ip iu b pl (⟨rowsT m.h d [], m.t, .tup [.str "open", .str d]⟩ :: m :: ms) u)
theorem bOpenUp (hc : BookC K CB) (hm : MomC K CM) (c1 : MetA P w K mg bse 5 CB "change" (spChange CH CM CB)) (c2 : CalA P w K mg bse 7 "opened" (spOpened CH T0) []) : BodyA P w K mg bse nOpenUp "Book.open_up" sOpenUp 7 (spOpenUp CH CM CB T0) := by
  intro f cdv A outer s H E hr ds S R ⟨ib, ip, iu, b, pl, ul, m, ms, us, d, g, eds, hb, hl, mo, hg, hT, hR⟩
  have hu : Un _ := ⟨hr.units⟩
  have nd : Names nOpenUp := ⟨scOpenUp.nd⟩
  have sc : Scp nOpenUp (defScope sOpenUp) := ⟨scOpenUp.nd⟩
  subst eds
  have h1 := hb.b
  have h2 := hb.p
  have i1 : atI (momL CH CM (m :: ms)) (-1) = some (momD CH CM m) := momL_back (k := 0) rfl
  walk_at "w"
  refine oIxL (rA h2) i1 ?_
  walk_at "w"
  refine ⟨m.h, d, g, rfl, mo.h, hg, hT, ?_⟩
  walk_at "w"
  exact ⟨ib, ip, iu, b, pl, ul, m, ms, us, rowsT m.h d [], _, rfl, hb, hl, fun u => aSs_nil (hR u)⟩
abbrev sBBack : Stmt := inClass (top 45) 15
abbrev nBBack : List Str := ["self"]
theorem scBBack : FnScope nBBack ["self"] (defScope sBBack) := ⟨rfl, rfl, rfl, by decide +kernel, rfl, by decide +kernel, by decide +kernel⟩
def spBBack (CH CM CB : Addr) : ASp := fun ds S R => ∃ (ib ip iu : Nat) (b pl ul : Addr) (m m' : MomE) (ms us : List MomE), ds = [.adr b] ∧ BookAt CH CM CB S ib ip iu b pl ul (m :: m' :: ms) us ∧ us.length < 1000 ∧
  R m.a ((S.set ip (pl, .lst (momL CH CM (m' :: ms)))).set iu (ul, .lst (momL CH CM (m :: us))))
theorem bBBack (hc : BookC K CB) (hm : MomC K CM) (M : Nm mg) : BodyA P w K mg bse nBBack "Book.back" sBBack 1 (spBBack CH CM CB) := by
  intro f cdv A outer s H E hr ds S R ⟨ib, ip, iu, b, pl, ul, m, m', ms, us, eds, hb, hl, hR⟩
  have hu : Un _ := ⟨hr.units⟩
  have nd : Names nBBack := ⟨scBBack.nd⟩
  have sc : Scp nBBack (defScope sBBack) := ⟨scBBack.nd⟩
  subst eds
  have h1 := hb.b
  have h2 := hb.p
  have h3 := hb.u
  walk_at "w"
  refine ⟨_, .inr (.inl ⟨_, qA h2, rfl⟩), ?_⟩
  rw [momL_len]
  walk_at "w"
  refine iteDF (by rw [List.length_cons, List.length_cons]; omega) ?_
  walk_at "w"
  refine ⟨⟨_, rA h3⟩, ?_⟩
  refine aE_pop ?_
  walk_at "w"
  refine ⟨ip, pl, momL CH CM (m' :: ms), momD CH CM m, ⟨rfl, by rw [← momL_snoc]; exact h2⟩, ?_⟩
  have g3 : (S.set ip (pl, .lst (momL CH CM (m' :: ms))))[iu]? = some (ul, .lst (momL CH CM us)) := by rw [List.getElem?_set_ne hb.n]; exact h3
  refine ⟨iu, ul, _, ⟨rfl, g3⟩, by rw [momL_len]; omega, ?_⟩
  rw [← momL_snoc]
  have g1 : ((S.set ip (pl, .lst (momL CH CM (m' :: ms)))).set iu (ul, .lst (momL CH CM (m :: us))))[ib]? = some (b, bookO CB pl ul) := by
    rw [List.getElem?_set_ne hb.bu.symm, List.getElem?_set_ne hb.bp.symm]; exact h1
  have g4 : ((S.set ip (pl, .lst (momL CH CM (m' :: ms)))).set iu (ul, .lst (momL CH CM (m :: us))))[iu]? = some (ul, .lst (momL CH CM (m :: us))) := set_get g3
  walk_at "w"
  refine oIxL (rA g4) (momL_back (k := 0) rfl) ?_
  walk_at "w"
  exact hR
abbrev sBOn : Stmt := inClass (top 45) 16
abbrev nBOn : List Str := ["self"]
theorem scBOn : FnScope nBOn ["self"] (defScope sBOn) := ⟨rfl, rfl, rfl, by decide +kernel, rfl, by decide +kernel, by decide +kernel⟩
def spBOn (CH CM CB : Addr) : ASp := fun ds S R => ∃ (ib ip iu : Nat) (b pl ul : Addr) (m : MomE) (ms us : List MomE), ds = [.adr b] ∧ BookAt CH CM CB S ib ip iu b pl ul ms (m :: us) ∧ ms.length < 1000 ∧
  R m.a ((S.set iu (ul, .lst (momL CH CM us))).set ip (pl, .lst (momL CH CM (m :: ms))))
theorem bBOn (hc : BookC K CB) (hm : MomC K CM) : BodyA P w K mg bse nBOn "Book.on" sBOn 1 (spBOn CH CM CB) := by
  intro f cdv A outer s H E hr ds S R ⟨ib, ip, iu, b, pl, ul, m, ms, us, eds, hb, hl, hR⟩
  have hu : Un _ := ⟨hr.units⟩
  have nd : Names nBOn := ⟨scBOn.nd⟩
  have sc : Scp nBOn (defScope sBOn) := ⟨scBOn.nd⟩
  subst eds
  have h1 := hb.b
  have h2 := hb.p
  have h3 := hb.u
  walk_at "w"
  refine .inl (oEq0 (rA h3) ?_)
  rw [momL_len]
  refine iteDF (by rw [List.length_cons]; omega) ?_
  walk_at "w"
  refine ⟨⟨_, rA h2⟩, ?_⟩
  refine aE_pop ?_
  walk_at "w"
  refine ⟨iu, ul, momL CH CM us, momD CH CM m, ⟨rfl, by rw [← momL_snoc]; exact h3⟩, ?_⟩
  have g3 : (S.set iu (ul, .lst (momL CH CM us)))[ip]? = some (pl, .lst (momL CH CM ms)) := by rw [List.getElem?_set_ne hb.n.symm]; exact h2
  refine ⟨ip, pl, _, ⟨rfl, g3⟩, by rw [momL_len]; omega, ?_⟩
  rw [← momL_snoc]
  have g1 : ((S.set iu (ul, .lst (momL CH CM us))).set ip (pl, .lst (momL CH CM (m :: ms))))[ib]? = some (b, bookO CB pl ul) := by
    rw [List.getElem?_set_ne hb.bp.symm, List.getElem?_set_ne hb.bu.symm]; exact h1
  have g4 : ((S.set iu (ul, .lst (momL CH CM us))).set ip (pl, .lst (momL CH CM (m :: ms))))[ip]? = some (pl, .lst (momL CH CM (m :: ms))) := set_get g3
  walk_at "w"
  refine oIxL (rA g4) (momL_back (k := 0) rfl) ?_
  walk_at "w"
  exact hR
end

end
-- F13
section
open PySem L2 DL
section
variable {S : Store} {R : D → Store → Prop} {i n : Nat} {p : Addr} {m : Int} {x : Addr × D} {l : List D} {s : Str}
theorem oHeftP (pre : Store) (hi : S[i]? = some x) (hn : n < 2 ^ 60) (h : ∀ k : Int, 0 ≤ k → k ≤ 9999999 → R (.int k) (pre ++ S.set i (p, .pen (n + 1)))) : spHeft [.adr p] (pre ++ S.set i (p, .pen n)) R :=
  ⟨i + pre.length, p, n, rfl, by rw [getPre]; exact set_get hi, hn, fun k k0 k1 => by rw [setPre, List.set_set]; exact h k k0 k1⟩
/-- the pen has drawn no more than is said -/
theorem penUp {X : Cx} {ρ : Sl} {E : AEnds} {rest : List Stmt} (pre : Store) (hi : S[i]? = some x) {n' : Nat} (hn : n ≤ n') (h : aSs X rest ρ (pre ++ S.set i (p, .pen n')) E) : aSs X rest ρ (pre ++ S.set i (p, .pen n)) E := by
  refine aSs.imp h ?_
  have := pen_imp (K := X.K) (ρ := ρ) (S := pre ++ S.set i (p, .pen n)) (i := i + pre.length) (p := p) (m := n') (by rw [getPre]; exact set_get hi) hn
  rw [setPre, List.set_set] at this
  exact this
end
section
variable {P : Program} {w : World} {K : PySem.W.Frag} {mg : Str → Option Value} {bse : Heap} {C CH CM CB T0 : Addr}
theorem cut_sub {α : Type} {l : List α} {a b : Option Int} {x : α} (h : x ∈ cutD l a b) : x ∈ l := by
  unfold cutD at h
  exact List.mem_of_mem_drop (List.mem_of_mem_take h)
abbrev sLRows : Stmt := top 53
abbrev nLRows : List Str := ["pen", "rooms", "hefts", "found", "room", "least", "top"]
theorem scLRows : FnScope nLRows ["pen", "rooms", "hefts"] (defScope sLRows) := ⟨rfl, rfl, rfl, by decide +kernel, rfl, by decide +kernel, by decide +kernel⟩
def spLRows : ASp := fun ds S R => ∃ (i : Nat) (p : Addr) (n : Nat) (rs : List Str) (ns : List Int), ds = [.adr p, .lst (rs.map D.str), .lst (ns.map D.int)] ∧ S[i]? = some (p, .pen n) ∧ n + 16 ≤ 2 ^ 60 ∧ rs.length ≤ 4 ∧ ns.length ≤ 6 ∧ (∀ k ∈ ns, I7 k) ∧
  ∀ gs : List Row, (gs.map (·.room)).Sublist rs → (∀ r ∈ gs, RowB r) → R (rowsD gs) (S.set i (p, .pen (n + 16)))
theorem bLRows (M : Nm mg) (cD : CalA P w K mg bse 2 "_law_draw" spDraw []) (cP : CalA P w K mg bse 3 "_law_pick" spPick []) : BodyA P w K mg bse nLRows "_law_rows" sLRows 3 spLRows := by
  intro f cdv A outer s H E hr ds S R ⟨i, p, n, rs, ns, eds, hi, hn, h4, h6, hnb, hR⟩
  have hu : Un _ := ⟨hr.units⟩
  have nd : Names nLRows := ⟨scLRows.nd⟩
  have sc : Scp nLRows (defScope sLRows) := ⟨scLRows.nd⟩
  subst eds
  have lenN := M.len
  rw [← set_same hi]
  walk_at "w"
  refine .inr fun q => ?_
  walk_at "w"
  refine frS (.nm 4) ?_ (tgNm nd (by walk_at "n") (by rfl)) .never rfl
  refine aI_list ?_
  walk_at "w"
  refine ⟨_, rfl, ?_⟩
  refine frR (fun j ρ' S' => ∃ (gs : List Row) (n' : Nat) (o1 o2 o3 : Option D), (gs.map (·.room)).Sublist (rs.take j) ∧ (∀ r ∈ gs, RowB r) ∧ n' ≤ n + 4 * j ∧ ρ' = [some (.adr p), some (.lst (rs.map D.str)), some (.lst (ns.map D.int)), some (.adr q), o1, o2, o3] ∧ S' = (q, .lst (gs.map rowD)) :: S.set i (p, .pen n')) ⟨[], n, _, _, _, List.nil_sublist _, fun _ h => (List.not_mem_nil h).elim, by omega, rfl, rfl⟩ ?_ ?_
  · rintro j x ρ' S' hj ⟨gs, n', o1, o2, o3, hs, hgb, hn', e1, e2⟩
    subst e1; subst e2
    have hjl := (List.getElem?_eq_some_iff.mp hj).1
    have htk : rs.take (j + 1) = rs.take j ++ [x] := by rw [List.take_succ, hj]; rfl
    have hgl : gs.length ≤ 4 := by
      have := hs.length_le
      rw [List.length_map, List.length_take] at this
      omega
    have hs2 := hs.trans (List.sublist_append_left (rs.take j) [x])
    rw [← htk] at hs2
    show aSs _ _ [some (.adr p), some (.lst (rs.map D.str)), some (.lst (ns.map D.int)), some (.adr q), some (.str x), o2, o3] _ _
    walk_at "w"
    refine ⟨_, .inr (.inl ⟨_, qA (q := 0) rfl, rfl⟩), ?_⟩
    walk_at "w"
    refine iteD (fun _ => ?_) fun _ => ?_
    · walk_at "w"
      refine oDrawP [_] hi (by decide) (by decide) (by omega) fun k1 _ _ => ?_
      walk_at "w"
      refine iteD (fun _ => ?_) fun _ => ?_
      · walk_at "w"
        refine .inl ?_
        walk_at "w"
        refine oCat rL rL (by rw [List.length_map]; show 4 + _ ≤ _; omega) (.inl ?_)
        walk_at "w"
        refine .inr (.inl ⟨_, rL, .inl ?_⟩)
        rw [cut_map]
        refine ⟨_, .inl rL, ?_⟩
        walk_at "w"
        refine ⟨_, .inl rL, ?_⟩
        walk_at "w"
        refine .inl (oCat rL rL (by rw [List.length_append, List.length_map]; show 4 + _ + 2 ≤ _; omega) (.inl ?_))
        walk_at "w"
        refine oPickP [_] hi (by omega) (by simp) (by rw [List.length_append, List.length_append, List.length_map]; show 4 + _ + 2 < _; omega) fun z hz => ?_
        obtain ⟨k2, hk2, ez⟩ : ∃ k : Int, 0 ≤ k ∧ z = .int k := by
          rcases List.mem_append.mp hz with h | h
          · rcases List.mem_append.mp h with h | h
            · simp only [List.mem_cons, List.not_mem_nil, or_false] at h
              rcases h with h | h | h | h <;> exact ⟨_, by decide, h⟩
            · obtain ⟨k, hk, e⟩ := List.mem_map.mp h
              exact ⟨k, (hnb k hk).1, e.symm⟩
          · simp only [List.mem_cons, List.not_mem_nil, or_false] at h
            rcases h with h | h
            · exact ⟨_, sum_nn fun k hk => (hnb k (cut_sub hk)).1, h⟩
            · exact ⟨_, sum_nn fun k hk => (hnb k hk).1, h⟩
        subst ez
        refine ⟨9999999, k2, rfl, rfl, ?_⟩
        have hle : I7 (if k2 < (9999999 : Int) then k2 else 9999999) := by show 0 ≤ (if k2 < (9999999 : Int) then k2 else 9999999) ∧ (if k2 < (9999999 : Int) then k2 else 9999999) < 100000000; split <;> omega
        generalize (if k2 < (9999999 : Int) then k2 else 9999999) = least at hle
        walk_at "w"
        refine oDrawP [_] hi (by decide) (by decide) (by omega) fun k3 k30 _ => ?_
        walk_at "w"
        refine ⟨9999999, least + k3, rfl, rfl, ?_⟩
        have hms : I7 (if least + k3 < (9999999 : Int) then least + k3 else 9999999) := by have := hle.1; show 0 ≤ (if least + k3 < (9999999 : Int) then least + k3 else 9999999) ∧ (if least + k3 < (9999999 : Int) then least + k3 else 9999999) < 100000000; split <;> omega
        generalize (if least + k3 < (9999999 : Int) then least + k3 else 9999999) = mst at hms
        walk_at "w"
        refine .inl ?_
        walk_at "w"
        refine oDrawP [_] hi (by decide) (by decide) (by omega) fun k4 k40 k41 => ?_
        refine oIxAny k40 k41 fun z hz => ?_
        obtain ⟨top, htop, ez⟩ : ∃ o : Option Int, (∀ k, o = some k → I7 k) ∧ z = oI o := by
          simp only [List.mem_cons, List.not_mem_nil, or_false] at hz
          rcases hz with h | h | h
          · exact ⟨none, (fun _ e => by cases e), h⟩
          · exact ⟨none, (fun _ e => by cases e), h⟩
          · exact ⟨some mst, fun k e => Option.some.inj e ▸ hms, h⟩
        subst ez
        walk_at "w"
        refine ⟨⟨_, rA (q := 0) rfl⟩, ?_⟩
        walk_at "w"
        refine ⟨0, q, _, ⟨rfl, rfl⟩, by rw [List.length_map]; omega, ?_⟩
        walk_at "w"
        exact ⟨gs ++ [⟨x, least, top⟩], n' + 1 + 1 + 1 + 1, _, _, _, by rw [htk, List.map_append]; exact hs.append (List.Sublist.refl _), snocB hgb ⟨hle, htop⟩, by omega, rfl, by rw [List.map_append]; rfl⟩
      · walk_at "w"
        exact ⟨gs, n' + 1, _, _, _, hs2, hgb, by omega, rfl, rfl⟩
    · walk_at "w"
      exact ⟨gs, n', _, _, _, hs2, hgb, by omega, rfl, rfl⟩
  rintro ρ' S' ⟨gs, n', o1, o2, o3, hs, hgb, hn', e1, e2⟩
  subst e1; subst e2
  rw [List.take_length] at hs
  show aSs _ _ _ _ _
  refine penUp [_] hi (n' := n + 16) (by omega) ?_
  refine aSs_one (aS_ret (aE_drop 0 ?_))
  walk_at "w"
  exact ⟨_, .inl (rA (q := 0) rfl), hR gs hs hgb⟩
end

end
-- T14
/-! A drawn hall. -/
section
open PySem L2 DL
theorem FSt.same {p : Addr} {d : D} : ∀ S : Store, FSt p d S S
  | [] => trivial
  | x :: S => ⟨rfl, .inl rfl, FSt.same S⟩
theorem FSl.same {p : Addr} {d : D} : ∀ ρ : Sl, FSl p d ρ ρ
  | [] => trivial
  | none :: ρ => FSl.same ρ
  | some x :: ρ => ⟨FRel.refl, FSl.same ρ⟩
/-- the law's hall as it is being made -/
abbrev hallK (a b c : D) : List (Key × D) := [(.inr "doors", a), (.inr "stones", b), (.inr "walkers", c)]
abbrev hallQ (a b c d : D) : List (Key × D) := [(.inr "doors", a), (.inr "stones", b), (.inr "walkers", c), (.inr "rooms", d)]
section
variable {a b c d : D}
theorem hq_doors : valP (hallQ a b c d) (.inr "doors") = some a := valH
theorem hq_stones : valP (hallQ a b c d) (.inr "stones") = some b := (valK (by decide +kernel)).trans valH
theorem hq_walkers : valP (hallQ a b c d) (.inr "walkers") = some c := (valK (by decide +kernel)).trans ((valK (by decide +kernel)).trans valH)
theorem hq_rooms : valP (hallQ a b c d) (.inr "rooms") = some d := (valK (by decide +kernel)).trans ((valK (by decide +kernel)).trans ((valK (by decide +kernel)).trans valH))
theorem hk_put : putP (hallK a b c) (.inr "rooms") d = hallQ a b c d := by
  rw [put_ne (by decide +kernel), put_ne (by decide +kernel), put_ne (by decide +kernel)]
  rfl
theorem hk_merge : mergeP [] (hallK a b c) = hallK a b c := mergeP_nd (by
  show (([.inr "doors", .inr "stones", .inr "walkers"] : List Key)).Nodup
  exact nd_inr (l := ["doors", "stones", "walkers"]) (by decide +kernel))
end
theorem retHall {X : Cx} {e : Expr} {ρ : Sl} {S0 : Store} {Q : D → Store → Prop} {dd hd : Addr} {b c rm : D} {DD : List (Key × D)} {S' : Store}
    (h : aE X e ρ S0 fun x S1 => x = .adr hd ∧ S1 = (dd, .dct DD) :: (hd, .dct (hallQ (.adr dd) b c rm)) :: S') (q : Q (.dct (hallQ (.dct DD) b c rm)) S') : aE X e ρ S0 Q := by
  refine aE_frzN (aE_frzN (h.mono ?_))
  rintro x S1 ⟨e1, e2⟩
  subst e1; subst e2
  refine ⟨0, dd, _, (hd, .dct (hallQ (.dct DD) b c rm)) :: S', .adr hd, rfl, rfl, FRel.refl, ⟨rfl, .inr (.inr (.inl ⟨_, _, rfl, rfl, ⟨rfl, FRel.adr, rfl, FRel.refl, rfl, FRel.refl, rfl, FRel.refl, trivial⟩⟩)), FSt.same _⟩, ?_⟩
  exact ⟨0, hd, _, S', .dct (hallQ (.dct DD) b c rm), rfl, rfl, FRel.adr, FSt.same _, q⟩
theorem frzWalk {X : Cx} {ρ : Sl} {E : AEnds} {rest : List Stmt} {wl sd dd hd : Addr} {W : List D} {SD DD : List (Key × D)} {rm : D} {S' : Store}
    (h : aSs X rest ρ ((dd, .dct DD) :: (hd, .dct (hallQ (.adr dd) (.dct SD) (.lst W) rm)) :: S') E) : aSs X rest ρ ((wl, .lst W) :: (sd, .dct SD) :: (dd, .dct DD) :: (hd, .dct (hallQ (.adr dd) (.adr sd) (.adr wl) rm)) :: S') E := by
  refine aSs.imp (aSs.imp h (frzN (S := (sd, .dct SD) :: (dd, .dct DD) :: (hd, .dct (hallQ (.adr dd) (.adr sd) (.lst W) rm)) :: S') 0 ρ _ rfl rfl (FSl.same _) ⟨rfl, .inl rfl, rfl, .inr (.inr (.inl ⟨_, _, rfl, rfl, ⟨rfl, FRel.refl, rfl, FRel.adr, rfl, FRel.refl, rfl, FRel.refl, trivial⟩⟩)), FSt.same _⟩)) (frzN 0 ρ _ rfl rfl (FSl.same _) ⟨rfl, .inl rfl, rfl, .inl rfl, rfl, .inr (.inr (.inl ⟨_, _, rfl, rfl, ⟨rfl, FRel.refl, rfl, FRel.refl, rfl, FRel.adr, rfl, FRel.refl, trivial⟩⟩)), FSt.same _⟩)
/-- what the drawn names give -/
structure Parts (l : List Str) (rooms fn sn dn : List Str) : Prop where
  r0 : rooms ≠ []
  r4 : rooms.length ≤ 4
  rs : srt rooms = rooms
  rn : rooms.Nodup
  f : fn.Sublist ((l.drop 4).take 3)
  s : srt sn = sn
  sN : sn.Nodup
  sm : ∀ x ∈ sn, x ∈ (l.drop 7).take 3
  sl : sn.length ≤ 3
  d : srt dn = dn
  dN : dn.Nodup
  dm : ∀ x ∈ dn, x ∈ (l.drop 10).take 5
  dl : dn.length ≤ 5
theorem hall_of_parts {l rooms : List Str} {folk : List Wk} {stones : List (Str × Int)} {doors : List (Str × Gate)} (ok : NamesOk 15 l) (p : Parts l rooms (folk.map (·.name)) (stones.map (·.1)) (doors.map (·.1))) (hf : folk ≠ []) (hd : ∀ d ∈ doors, GateOk rooms d.2) : HallOk ⟨rooms, doors, stones, folk⟩ where
  r0 := p.r0
  r4 := p.r4
  rs := p.rs
  rn := p.rn
  d5 := by have := p.dl; rwa [List.length_map] at this
  ds := p.d
  dn := p.dN
  dk := fun x hx => ok.ok x (List.mem_of_mem_drop (List.mem_of_mem_take (p.dm x hx)))
  dg := hd
  s3 := by have := p.sl; rwa [List.length_map] at this
  ss := p.s
  sn := p.sN
  sk := fun x hx => ok.ok x (List.mem_of_mem_drop (List.mem_of_mem_take (p.sm x hx)))
  f0 := hf
  f3 := by
    have := p.f.length_le
    rw [List.length_map, List.length_take] at this
    show folk.length ≤ 3
    omega
  fn := (ok.nd.sublist ((List.take_sublist _ _).trans (List.drop_sublist _ _))).sublist p.f
  dj := fun x hx hf => by
    have h1 : x ∈ l.drop 7 := List.mem_of_mem_take (p.sm x hx)
    have h2 : x ∈ (l.drop 4).take 3 := p.f.subset hf
    have nd : (l.drop 4).Nodup := ok.nd.sublist (List.drop_sublist _ _)
    rw [← List.take_append_drop 3 (l.drop 4), List.drop_drop] at nd
    exact (List.nodup_append.mp nd).2.2 x h2 x h1 rfl
end
-- F14b
section
open PySem L2 DL
section
variable {P : Program} {w : World} {K : PySem.W.Frag} {mg : Str → Option Value} {bse : Heap} {C CH CM CB T0 : Addr}
abbrev sizeD : D := .tup [.int 4, .int 5, .int 3, .int 3]
abbrev hSt (wl sd dd hd : Addr) (W : List D) (SD DD : List (Key × D)) (rm : D) (S : Store) : Store := (wl, .lst W) :: (sd, .dct SD) :: (dd, .dct DD) :: (hd, .dct (hallQ (.adr dd) (.adr sd) (.adr wl) rm)) :: S
theorem nums_rg {m : Nat} : nums 0 m = (List.range m).map fun k : Nat => D.int (k : Int) := by
  unfold nums
  exact List.map_congr_left fun k _ => congrArg D.int (Int.zero_add _)
abbrev sHallOf : Stmt := top 55
abbrev nHallOf : List Str := ["pen", "names", "size", "hall", "k", "name", "rooms", "hefts", "one", "at", "far", "ends", "way"]
theorem scHallOf : FnScope nHallOf ["pen", "names", "size"] (defScope sHallOf) := ⟨rfl, rfl, rfl, by decide +kernel, rfl, by decide +kernel, by decide +kernel⟩
def forBody : Stmt → List Stmt
  | .For _ _ b _ _ => b
  | _ => []
theorem hallTail (M : Nm mg) (cD : CalA P w K mg bse 2 "_law_draw" spDraw []) (cR : CalA P w K mg bse 4 "_law_rows" spLRows []) {f : Addr} {cdv : Value} {A : Around} {outer : List Env} {s : Shared} {H : Hp} {E : XK}
    (hr : Room 4 (cxB P w K mg bse nHallOf "_law_hall_of" sHallOf f cdv A outer s H E).A) {S : Store} {i : Nat} {p : Addr} {x : Addr × D} (hi : S[i]? = some x) {l rooms sn : List Str} (ok : NamesOk 15 l) {k0 k1 : Int} (hrm : srt (l.take (1 + k0).toNat) = rooms) (r0 : 0 ≤ k0 ∧ k0 < 4)
    {folk : List Wk} (hf : folk.map (·.name) = (l.drop 4).take (1 + k1).toNat) (hf0 : folk ≠ []) {stones : List (Str × Int)} (hst : stones.map (·.1) = sn) (hsn : sn.Nodup) (hss : srt sn = sn) (hsm : ∀ x ∈ sn, x ∈ (l.drop 7).take 3) (hs3 : sn.length ≤ 3) (hsb : ∀ x ∈ stones, I7 x.2) (hfb : ∀ x ∈ folk, I7 x.heft ∧ I7 x.hands)
    {n n2 : Nat} (hn2 : n2 ≤ n + 20) (hn : n + 120 ≤ 2 ^ 60) {R : D → Store → Prop} (hR : ∀ (L : List (Key × D)) (h : HallT), HallL L h → HallOk h → HallB h → R (.dct L) (S.set i (p, .pen (n + 120)))) {dd hd : Addr} {o o2 : Option D} (hk1 : 0 ≤ k1 ∧ k1 < 3) :
    aSs (cxB P w K mg bse nHallOf "_law_hall_of" sHallOf f cdv A outer s H E) ((defBody sHallOf).drop 6) [some (.adr p), some (.lst ((l.drop 7).map D.str)), some sizeD, some (.adr hd), o, o2, none, none, none, none, none, none, none]
      ((dd, .dct []) :: (hd, .dct (hallQ (.adr dd) (.dct (dctS D.int stones)) (.lst (folk.map wkD)) (.lst (rooms.map D.str)))) :: S.set i (p, .pen n2)) { nx := fun _ S' => R .non S', rt := R } := by
  have hu : Un _ := ⟨hr.units⟩
  have nd : Names nHallOf := ⟨scHallOf.nd⟩
  have sc : Scp nHallOf (defScope sHallOf) := ⟨scHallOf.nd⟩
  have lenN := M.len
  have hl := ok.len
  have hst3 : stones.length ≤ 3 := by
    have := congrArg List.length hst
    rw [List.length_map] at this
    omega
  have hfl3 : folk.length ≤ 3 := by
    have := congrArg List.length hf
    rw [List.length_map, List.length_take, List.length_drop, hl] at this
    omega
  walk_at "w"
  refine oIxDs (rDA (q := 1) rfl) hq_rooms ?_
  walk_at "w"
  refine lcE (.nm 8) [("one", 8)] sc ?_ ⟨rfl, by decide +kernel, by decide +kernel, by decide +kernel, by decide +kernel⟩ (fun _ _ _ _ _ => tgNm nd (by walk_at "n") (by rfl)) rfl rfl rfl (by decide) (by decide)
  refine aI_list ?_
  walk_at "w"
  refine oIxDs (rDA (q := 1) rfl) hq_walkers ?_
  refine ⟨_, rfl, ?_⟩
  refine lcM (fun x => .int x.heft) (by omega) (fun x hx A => ?_) (.inl ?_)
  · intro s H C cl fp
    walk_at "w"
    exact ⟨rfl, rfl⟩
  walk_at "w"
  refine oIxDs (rDA (q := 1) rfl) hq_stones ?_
  refine ⟨_, rD, .inl ?_⟩
  have ehs : List.map (fun x : Wk => D.int x.heft) folk ++ List.map (·.2) (dctS D.int stones) = (folk.map (·.heft) ++ stones.map (·.2)).map D.int := by
    unfold dctS
    rw [List.map_append, List.map_map, List.map_map, List.map_map]
    rfl
  have hns : (folk.map (·.heft) ++ stones.map (·.2)).length ≤ 6 := by
    rw [List.length_append, List.length_map, List.length_map]; omega
  refine oCat rL rL (by rw [List.length_map, List.length_map, dctS_len]; omega) (.inl ?_)
  rw [ehs]
  have hnb := hefts_b hfb hsb
  generalize folk.map (·.heft) ++ stones.map (·.2) = ns at hns hnb
  walk_at "w"
  refine frS (.nm 5) ?_ (tgNm nd (by walk_at "n") (by rfl)) .never rfl
  refine aI_list ?_
  walk_at "w"
  refine .inr (.inl ⟨_, rL, .inl ?_⟩)
  rw [cut_lo (by decide), ← List.map_drop, List.drop_drop]
  walk_at "w"
  refine oDrawP [_, _] hi (by decide) (by decide) (by omega) fun k5 k50 k51 => ?_
  walk_at "w"
  refine ⟨_, .inr (.inl ⟨_, qL, rfl⟩), ?_⟩
  rw [List.length_map]
  walk_at "w"
  have hif : (0 : Int) ≤ (if decide ((1 : Int) < (rooms.length : Int)) = true then 1 else 0) ∧ (if decide ((1 : Int) < (rooms.length : Int)) = true then (1 : Int) else 0) ≤ 1 := by split <;> decide
  generalize (if decide ((1 : Int) < (rooms.length : Int)) = true then (1 : Int) else 0) = fl at hif
  refine oMul (.inl ⟨by omega, by omega⟩) ?_
  have hk5 : 0 ≤ k5 * fl ∧ k5 * fl ≤ 5 := by
    have : fl = 0 ∨ fl = 1 := by omega
    rcases this with e | e <;> subst e <;> omega
  generalize k5 * fl = k6 at hk5
  refine ⟨_, rfl, ?_⟩
  refine .inr (.inl ⟨_, rL, .inl ?_⟩)
  rw [cut_hi hk5.1, ← List.map_take]
  refine ⟨_, .inl rL, by rw [List.length_take]; omega, .inl ?_⟩
  refine ⟨_, rfl, ?_⟩
  have hdm : ∀ x ∈ srt ((l.drop (7 + Int.toNat 3)).take k6.toNat), x ∈ (l.drop 10).take 5 := fun x hx => by
    have h1 := srt_mem.mp hx
    exact (List.take_subset_take_left _ (by omega)) h1
  have hdn : (srt ((l.drop (7 + Int.toNat 3)).take k6.toNat)).Nodup := srt_nodup.mpr (ok.nd.sublist ((List.take_sublist _ _).trans (List.drop_sublist _ _)))
  have hd5 : (srt ((l.drop (7 + Int.toNat 3)).take k6.toNat)).length ≤ 5 := by rw [srt_len, List.length_take]; omega
  have hds : srt (srt ((l.drop (7 + Int.toNat 3)).take k6.toNat)) = srt ((l.drop (7 + Int.toNat 3)).take k6.toNat) := srt_self (srt_pw _)
  generalize srt ((l.drop (7 + Int.toNat 3)).take k6.toNat) = dn at hdm hdn hd5 hds
  have hrl : rooms.length = (1 + k0).toNat := by rw [← hrm, srt_len, List.length_take, hl]; omega
  show ∃ Pv : Nat → Sl → Store → Prop, Pv 0 [some (.adr p), some (.lst ((l.drop 7).map D.str)), some sizeD, some (.adr hd), o, o2, some (.lst (rooms.map D.str)), some (.lst (ns.map D.int)), none, none, none, none, none] ((dd, .dct (dctS gateD [])) :: (hd, .dct (hallQ (.adr dd) (.dct (dctS D.int stones)) (.lst (folk.map wkD)) (.lst (rooms.map D.str)))) :: S.set i (p, .pen (n2 + 1))) ∧ _
  refine frR (fun j ρ' S' => ∃ (dl : List (Str × Gate)) (n' : Nat) (o3 o4 o5 o6 o7 : Option D), dl.map (·.1) = dn.take j ∧ (∀ d ∈ dl, GateOk rooms d.2 ∧ ∀ r ∈ d.2.rows, RowB r) ∧ n' ≤ n2 + 1 + 19 * j ∧ ρ' = [some (.adr p), some (.lst ((l.drop 7).map D.str)), some sizeD, some (.adr hd), o, o3, some (.lst (rooms.map D.str)), some (.lst (ns.map D.int)), none, o4, o5, o6, o7] ∧
    S' = (dd, .dct (dctS gateD dl)) :: (hd, .dct (hallQ (.adr dd) (.dct (dctS D.int stones)) (.lst (folk.map wkD)) (.lst (rooms.map D.str)))) :: S.set i (p, .pen n')) ⟨[], n2 + 1, o2, none, none, none, none, rfl, fun _ h => (List.not_mem_nil h).elim, by omega, rfl, rfl⟩ ?_ ?_
  · rintro j x ρ' S' hj ⟨dl, n', o3, o4, o5, o6, o7, hdl, hgo, hn', e1, e2⟩
    subst e1; subst e2
    have hjl := (List.getElem?_eq_some_iff.mp hj).1
    have hdl5 : dl.length ≤ 5 := by
      have := congrArg List.length hdl
      rw [List.length_map, List.length_take] at this
      omega
    have hnew : x ∉ dl.map (·.1) := fun hm => by
      rw [hdl] at hm
      obtain ⟨k, hk⟩ := List.mem_iff_getElem?.mp hm
      rw [List.getElem?_take] at hk
      split at hk
      · rename_i hlt
        have := nd_inj hdn hk hj
        omega
      · cases hk
    show aSs _ _ [some (.adr p), some (.lst ((l.drop 7).map D.str)), some sizeD, some (.adr hd), o, some (.str x), some (.lst (rooms.map D.str)), some (.lst (ns.map D.int)), none, o4, o5, o6, o7] _ _
    walk_at "w"
    refine ⟨_, .inr (.inl ⟨_, qL, rfl⟩), ?_⟩
    rw [List.length_map]
    walk_at "w"
    refine oDrawP [_, _] hi (by omega) (by omega) (by omega) fun a0 a00 a01 => ?_
    walk_at "w"
    refine ⟨_, .inr (.inl ⟨_, qL, rfl⟩), ?_⟩
    rw [List.length_map]
    walk_at "w"
    refine ⟨_, _, rfl, rfl, ?_⟩
    walk_at "w"
    have hmx : 0 < (if (rooms.length : Int) - 1 > 1 then (rooms.length : Int) - 1 else 1) ∧ (if (rooms.length : Int) - 1 > 1 then (rooms.length : Int) - 1 else 1) < 10 := by split <;> omega
    refine oDrawP [_, _] hi hmx.1 (by omega) (by omega) fun b0 b00 _ => ?_
    walk_at "w"
    have hA := List.getElem?_eq_getElem (l := rooms) (i := a0.toNat) (by omega)
    refine oIxL rL (atI_map (atI_any hA (by omega))) ?_
    walk_at "w"
    refine ⟨_, .inr (.inl ⟨_, qL, rfl⟩), ?_⟩
    rw [List.length_map]
    refine oMod (by omega) ?_
    have hb1 := Int.emod_nonneg (a0 + 1 + b0) (show (rooms.length : Int) ≠ 0 by omega)
    have hb2 := Int.emod_lt_of_pos (a0 + 1 + b0) (show (0 : Int) < rooms.length by omega)
    generalize (a0 + 1 + b0) % (rooms.length : Int) = b1 at hb1 hb2
    have hB := List.getElem?_eq_getElem (l := rooms) (i := b1.toNat) (by omega)
    refine oIxL rL (atI_map (atI_any hB (by omega))) ?_
    have hAm : rooms[a0.toNat] ∈ rooms := List.getElem_mem _
    have hBm : rooms[b1.toNat] ∈ rooms := List.getElem_mem _
    generalize rooms[a0.toNat] = ra at hAm
    generalize rooms[b1.toNat] = rb at hBm
    walk_at "w"
    refine .inl ?_
    walk_at "w"
    refine .inl ?_
    walk_at "w"
    refine oDrawP [_, _] hi (by decide) (by decide) (by omega) fun w0 w00 w01 => ?_
    refine oIxAny w00 w01 fun z hz => ?_
    obtain ⟨both, ez⟩ : ∃ b : Bool, z = .str (wayS b) := by
      simp only [List.mem_cons, List.not_mem_nil, or_false] at hz
      rcases hz with h | h | h
      · exact ⟨true, h⟩
      · exact ⟨true, h⟩
      · exact ⟨false, h⟩
    subst ez
    have last : ∀ (E' : AEnds) (hE : ∀ ρ' S', (∃ (dl : List (Str × Gate)) (n' : Nat) (o3 o4 o5 o6 o7 : Option D), dl.map (·.1) = dn.take (j + 1) ∧ (∀ d ∈ dl, GateOk rooms d.2 ∧ ∀ r ∈ d.2.rows, RowB r) ∧ n' ≤ n2 + 1 + 19 * (j + 1) ∧ ρ' = [some (.adr p), some (.lst ((l.drop 7).map D.str)), some sizeD, some (.adr hd), o, o3, some (.lst (rooms.map D.str)), some (.lst (ns.map D.int)), none, o4, o5, o6, o7] ∧
    S' = (dd, .dct (dctS gateD dl)) :: (hd, .dct (hallQ (.adr dd) (.dct (dctS D.int stones)) (.lst (folk.map wkD)) (.lst (rooms.map D.str)))) :: S.set i (p, .pen n')) → E'.nx ρ' S') (a b : Str) (o3 : Option D), a ∈ rooms → b ∈ rooms → (both = true → ¬ b.cps.toList < a.cps.toList) → aSs (cxB P w K mg bse nHallOf "_law_hall_of" sHallOf f cdv A outer s H E) ((forBody ((defBody sHallOf).getD 8 (.Pass ⟨0, 0, 0, 0⟩))).drop 5)
        [some (.adr p), some (.lst ((l.drop 7).map D.str)), some sizeD, some (.adr hd), o, some (.str x), some (.lst (rooms.map D.str)), some (.lst (ns.map D.int)), none, some (.int a0), some (.int (a0 + 1 + b0)), some (.lst [.str a, .str b]), some (.str (wayS both))]
        ((dd, .dct (dctS gateD dl)) :: (hd, .dct (hallQ (.adr dd) (.dct (dctS D.int stones)) (.lst (folk.map wkD)) (.lst (rooms.map D.str)))) :: S.set i (p, .pen (n' + 1 + 1 + 1)))
        E' := by
      intro E' hE a b o3 ha hb hab
      walk_at "w"
      refine ⟨i + 2, p, n' + 1 + 1 + 1, rooms, ns, rfl, set_get hi, by omega, by omega, hns, hnb, fun gs hgs hgb => ?_⟩
      walk_at "w"
      refine oIxDs (rDA (q := 1) rfl) hq_doors ?_
      walk_at "w"
      refine oPutD (q := 0) rfl (by rw [dctS_len]; omega) ?_
      have e1 : putP (dctS gateD dl) (.inr x) (.tup [.str a, .str b, .str (wayS both), rowsD gs]) = dctS gateD (dl ++ [(x, ⟨a, b, both, gs⟩)]) := by
        rw [← putP_new hnew]
        exact putP_dctS (g := gateD) (v := ⟨a, b, both, gs⟩)
      rw [e1]
      walk_at "w"
      refine hE _ _ ⟨dl ++ [(x, ⟨a, b, both, gs⟩)], n' + 1 + 1 + 1 + 16, _, _, _, _, _, ?_, fun d hd => ?_, by omega, rfl, ?_⟩
      · rw [List.map_append, hdl, List.take_succ, hj]; rfl
      · rcases List.mem_append.mp hd with h | h
        · exact hgo d h
        · rw [List.mem_singleton.mp h]
          exact ⟨⟨ha, hb, hab, hgs⟩, hgb⟩
      · show (dd, _) :: (hd, _) :: (S.set i _).set i _ = _
        rw [List.set_set]
    walk_at "w"
    cases both with
    | false =>
      refine iteDF (by decide +kernel) ?_
      refine aSs_nil ?_
      exact last _ (fun _ _ h => h) ra rb none hAm hBm (fun h => by cases h)
    | true =>
      walk_at "w"
      refine ⟨[ra, rb], .inl rL, by show 2 < 64; decide, .inl ?_⟩
      by_cases hlt : rb.cps.toList < ra.cps.toList
      · rw [srt_two' hlt]
        exact aSs_nil (last _ (fun _ _ h => h) rb ra none hBm hAm fun _ h2 => List.lt_irrefl _ (List.lt_trans hlt h2))
      · rw [srt_two hlt]
        exact aSs_nil (last _ (fun _ _ h => h) ra rb none hAm hBm fun _ => hlt)
  rintro ρ' S' ⟨dl, n', o3, o4, o5, o6, o7, hdl, hgo, hn', e1, e2⟩
  subst e1; subst e2
  rw [List.take_length] at hdl
  show aSs _ _ _ _ _
  refine penUp [_, _] hi (n' := n + 120) (by omega) ?_
  refine aSs_one (aS_ret (retHall (dd := dd) (hd := hd) (b := .dct (dctS D.int stones)) (c := .lst (folk.map wkD)) (rm := .lst (rooms.map D.str)) (DD := dctS gateD dl) (S' := S.set i (p, .pen (n + 120))) ?_ ?_))
  · walk_at "w"
    exact ⟨rfl, rfl⟩
  refine hR _ ⟨rooms, dl, stones, folk⟩ ⟨hq_rooms, hq_doors, hq_stones, hq_walkers⟩ (hall_of_parts ok ?_ hf0 fun d hd => (hgo d hd).1) ⟨fun x hx => ok.ok x (List.mem_of_mem_take (srt_mem.mp (show x ∈ srt (l.take (1 + k0).toNat) by rw [hrm]; exact hx))), fun x hx => ok.ok x (List.mem_of_mem_drop (List.mem_of_mem_take (show x ∈ (l.drop 4).take (1 + k1).toNat by rw [← hf]; exact hx))), hsb, hfb, fun d hd => (hgo d hd).2⟩
  refine ⟨fun e => ?_, by omega, by rw [← hrm]; exact srt_self (srt_pw _), by rw [← hrm]; exact srt_nodup.mpr (ok.nd.sublist (List.take_sublist _ _)), ?_, by rw [hst]; exact hss, by rw [hst]; exact hsn, by rw [hst]; exact hsm, by rw [hst]; exact hs3, by rw [hdl]; exact hds, by rw [hdl]; exact hdn, by rw [hdl]; exact hdm, by rw [hdl]; exact hd5⟩
  · rw [e] at hrl
    have : (0 : Nat) = (1 + k0).toNat := hrl
    omega
  · rw [hf]
    exact List.take_sublist_take_left (by omega)
end

end
-- F14
section
open PySem L2 DL
section
variable {P : Program} {w : World} {K : PySem.W.Frag} {mg : Str → Option Value} {bse : Heap} {C CH CM CB T0 : Addr}
-- _law_hall_of
def spHallOf : ASp := fun ds S R => ∃ (i : Nat) (p : Addr) (n : Nat) (l : List Str), ds = [.adr p, .lst (l.map D.str), sizeD] ∧ S[i]? = some (p, .pen n) ∧ n + 120 ≤ 2 ^ 60 ∧ NamesOk 15 l ∧
  ∀ (L : List (Key × D)) (h : HallT), HallL L h → HallOk h → HallB h → R (.dct L) (S.set i (p, .pen (n + 120)))
theorem bHallOf (M : Nm mg) (cD : CalA P w K mg bse 2 "_law_draw" spDraw []) (cH : CalA P w K mg bse 3 "_law_heft" spHeft []) (cR : CalA P w K mg bse 4 "_law_rows" spLRows []) : BodyA P w K mg bse nHallOf "_law_hall_of" sHallOf 4 spHallOf := by
  intro f cdv A outer s H E hr ds S R ⟨i, p, n, l, eds, hi, hn, ok, hR⟩
  have hu : Un _ := ⟨hr.units⟩
  have nd : Names nHallOf := ⟨scHallOf.nd⟩
  have sc : Scp nHallOf (defScope sHallOf) := ⟨scHallOf.nd⟩
  subst eds
  have lenN := M.len
  have hl := ok.len
  rw [← set_same hi]
  walk_at "w"
  refine aE_disp fun hd => ?_
  refine aPrs_cons ?_
  walk_at "w"
  refine .inr fun dd => ?_
  refine aPrs_cons ?_
  walk_at "w"
  refine .inr fun sd => ?_
  refine aPrs_cons ?_
  walk_at "w"
  refine .inr fun wl => ?_
  refine aPrs_nil ?_
  refine ⟨3, rfl, by show 3 ≤ 15; decide, ?_⟩
  rw [hk_merge]
  show aSs _ _ _ ((wl, D.lst []) :: (sd, D.dct []) :: (dd, D.dct []) :: (hd, D.dct (hallK (.adr dd) (.adr sd) (.adr wl))) :: S.set i (p, D.pen n)) _
  walk_at "w"
  refine oDrawP [_, _, _, _] hi (by decide) (by decide) (by omega) fun k0 k00 k01 => ?_
  walk_at "w"
  refine .inr (.inl ⟨_, rL, .inl ?_⟩)
  rw [cut_hi (by omega), ← List.map_take]
  refine ⟨_, .inl rL, by rw [List.length_take]; omega, .inl ?_⟩
  walk_at "w"
  refine oPutD (q := 3) rfl (by show 3 < 100000; decide) ?_
  rw [hk_put]
  show aSs _ _ _ ((wl, D.lst []) :: (sd, D.dct []) :: (dd, D.dct []) :: (hd, D.dct (hallQ (.adr dd) (.adr sd) (.adr wl) (.lst ((srt (l.take (1 + k0).toNat)).map D.str)))) :: S.set i (p, D.pen (n + 1))) _
  generalize hrm : srt (l.take (1 + k0).toNat) = rooms
  walk_at "w"
  refine .inr (.inl ⟨_, rL, .inl ?_⟩)
  rw [cut_lo (by decide), ← List.map_drop]
  walk_at "w"
  refine frS (.nm 4) ?_ (tgNm nd (by walk_at "n") (by rfl)) .never rfl
  refine aI_range1 M.range ?_
  walk_at "w"
  refine oDrawP [_, _, _, _] hi (by decide) (by decide) (by omega) fun k1 k10 k11 => ?_
  walk_at "w"
  refine ⟨_, rfl, by omega, by omega, ?_⟩
  rw [nums_rg]
  show ∃ Pv : Nat → Sl → Store → Prop, Pv 0 [some (.adr p), some (.lst ((l.drop 4).map D.str)), some sizeD, some (.adr hd), none, none, none, none, none, none, none, none, none] (hSt wl sd dd hd [] [] [] (.lst (rooms.map D.str)) (S.set i (p, .pen (n + 1 + 1)))) ∧ _
  refine frR (fun j ρ' S' => ∃ (fs : List Wk) (n' : Nat) (o : Option D), fs.map (·.name) = (l.drop 4).take j ∧ (∀ x ∈ fs, I7 x.heft ∧ I7 x.hands) ∧ n' ≤ n + 2 + 2 * j ∧ ρ' = [some (.adr p), some (.lst ((l.drop 4).map D.str)), some sizeD, some (.adr hd), o, none, none, none, none, none, none, none, none] ∧ S' = hSt wl sd dd hd (fs.map wkD) [] [] (.lst (rooms.map D.str)) (S.set i (p, .pen n'))) ⟨[], n + 1 + 1, none, rfl, fun _ h => (List.not_mem_nil h).elim, by omega, rfl, rfl⟩ ?_ ?_
  · rintro j x ρ' S' hj ⟨fs, n', o, hf, hfb, hn', e1, e2⟩
    subst e1; subst e2
    have hj2 : x = j := by
      have h1 := (List.getElem?_eq_some_iff.mp hj).1
      rw [List.length_range] at h1
      rw [List.getElem?_range h1] at hj
      exact (Option.some.inj hj).symm
    subst hj2
    have hxl : x < (1 + k1).toNat := by
      have h1 := (List.getElem?_eq_some_iff.mp hj).1
      rwa [List.length_range] at h1
    have hnx : x < (l.drop 4).length := by rw [List.length_drop, hl]; omega
    have hg := List.getElem?_eq_getElem hnx
    show aSs _ _ [some (.adr p), some (.lst ((l.drop 4).map D.str)), some sizeD, some (.adr hd), some (.int x), none, none, none, none, none, none, none, none] _ _
    walk_at "w"
    refine oIxDs (rDA (q := 3) rfl) hq_walkers ?_
    refine ⟨⟨_, rA (q := 0) rfl⟩, ?_⟩
    walk_at "w"
    refine oIxL rL (atI_map (atI_any hg rfl)) ?_
    walk_at "w"
    refine oHeftP [_, _, _, _] hi (by omega) fun k2 k20 k21 => ?_
    walk_at "w"
    refine .inl ?_
    walk_at "w"
    refine oDrawP [_, _, _, _] hi (by decide) (by decide) (by omega) fun k3 k30 k31 => ?_
    refine oIxAny k30 k31 fun z hz => ?_
    obtain ⟨k4, hk4, ez⟩ : ∃ k : Int, I7 k ∧ z = .int k := by
      simp only [List.mem_cons, List.not_mem_nil, or_false] at hz
      rcases hz with h | h | h | h | h <;> exact ⟨_, by decide, h⟩
    subst ez
    walk_at "w"
    have hfl : fs.length ≤ 11 := by
      have := congrArg List.length hf
      rw [List.length_map, List.length_take, List.length_drop, hl] at this
      omega
    refine ⟨0, wl, _, ⟨rfl, rfl⟩, by rw [List.length_map]; omega, ?_⟩
    walk_at "w"
    refine ⟨fs ++ [⟨(l.drop 4)[x], k2, k4⟩], n' + 1 + 1, _, ?_, snocB hfb ⟨⟨k20, Int.lt_of_le_of_lt k21 (by decide)⟩, hk4⟩, by omega, rfl, ?_⟩
    · rw [List.map_append, hf, List.take_succ, hg]; rfl
    · rw [List.map_append]; rfl
  rintro ρ' S' ⟨folk, n1, o, hf, hfb, hn1, e1, e2⟩
  subst e1; subst e2
  rw [List.length_range] at hf hn1
  have hf0 : folk ≠ [] := fun e => by
    have := congrArg List.length hf
    rw [e, List.length_map, List.length_take, List.length_drop, hl] at this
    simp at this
    omega
  show aSs _ _ [some (.adr p), some (.lst ((l.drop 4).map D.str)), some sizeD, some (.adr hd), o, none, none, none, none, none, none, none, none] _ _
  walk_at "w"
  refine .inr (.inl ⟨_, rL, .inl ?_⟩)
  rw [cut_lo (by decide), ← List.map_drop]
  walk_at "w"
  refine frS (.nm 5) ?_ (tgNm nd (by walk_at "n") (by rfl)) .never rfl
  refine aI_list ?_
  walk_at "w"
  refine oDrawP [_, _, _, _] hi (by decide) (by decide) (by omega) fun k5 k50 k51 => ?_
  walk_at "w"
  refine .inr (.inl ⟨_, rL, .inl ?_⟩)
  rw [cut_hi k50, ← List.map_take, List.drop_drop]
  refine ⟨_, .inl rL, by rw [List.length_take]; omega, .inl ?_⟩
  refine ⟨_, rfl, ?_⟩
  show ∃ Pv : Nat → Sl → Store → Prop, Pv 0 [some (.adr p), some (.lst ((l.drop 7).map D.str)), some sizeD, some (.adr hd), o, none, none, none, none, none, none, none, none] (hSt wl sd dd hd (folk.map wkD) [] [] (.lst (rooms.map D.str)) (S.set i (p, .pen (n1 + 1)))) ∧ _
  have hsm : ∀ x ∈ srt ((l.drop (4 + Int.toNat 3)).take k5.toNat), x ∈ (l.drop 7).take 3 := fun x hx => by
    have h1 := srt_mem.mp hx
    exact (List.take_subset_take_left _ (by omega)) h1
  have hsn : (srt ((l.drop (4 + Int.toNat 3)).take k5.toNat)).Nodup := srt_nodup.mpr (ok.nd.sublist ((List.take_sublist _ _).trans (List.drop_sublist _ _)))
  have hs3 : (srt ((l.drop (4 + Int.toNat 3)).take k5.toNat)).length ≤ 3 := by rw [srt_len, List.length_take]; omega
  have hss : srt (srt ((l.drop (4 + Int.toNat 3)).take k5.toNat)) = srt ((l.drop (4 + Int.toNat 3)).take k5.toNat) := srt_self (srt_pw _)
  generalize srt ((l.drop (4 + Int.toNat 3)).take k5.toNat) = sn at hsm hsn hs3 hss
  refine frR (fun j ρ' S' => ∃ (sl : List (Str × Int)) (n' : Nat) (o2 : Option D), sl.map (·.1) = sn.take j ∧ (∀ x ∈ sl, I7 x.2) ∧ n' ≤ n1 + 1 + j ∧ ρ' = [some (.adr p), some (.lst ((l.drop 7).map D.str)), some sizeD, some (.adr hd), o, o2, none, none, none, none, none, none, none] ∧ S' = hSt wl sd dd hd (folk.map wkD) (dctS D.int sl) [] (.lst (rooms.map D.str)) (S.set i (p, .pen n'))) ⟨[], n1 + 1, none, rfl, fun _ h => (List.not_mem_nil h).elim, by omega, rfl, rfl⟩ ?_ ?_
  · rintro j x ρ' S' hj ⟨sl, n', o2, hsl, hslb, hn', e1, e2⟩
    subst e1; subst e2
    have hjl := (List.getElem?_eq_some_iff.mp hj).1
    have hsl3 : sl.length ≤ 3 := by
      have := congrArg List.length hsl
      rw [List.length_map, List.length_take] at this
      omega
    have hnew : x ∉ sl.map (·.1) := fun hm => by
      rw [hsl] at hm
      obtain ⟨k, hk⟩ := List.mem_iff_getElem?.mp hm
      rw [List.getElem?_take] at hk
      split at hk
      · rename_i hlt
        have := nd_inj hsn hk hj
        omega
      · cases hk
    show aSs _ _ [some (.adr p), some (.lst ((l.drop 7).map D.str)), some sizeD, some (.adr hd), o, some (.str x), none, none, none, none, none, none, none] _ _
    walk_at "w"
    refine oHeftP [_, _, _, _] hi (by omega) fun k2 k20 k21 => ?_
    walk_at "w"
    refine oIxDs (rDA (q := 3) rfl) hq_stones ?_
    walk_at "w"
    refine oPutD (q := 1) rfl (by rw [dctS_len]; omega) ?_
    rw [putP_dctS (g := D.int), putP_new hnew]
    walk_at "w"
    refine ⟨sl ++ [(x, k2)], n' + 1, _, ?_, snocB hslb ⟨k20, Int.lt_of_le_of_lt k21 (by decide)⟩, by omega, rfl, rfl⟩
    rw [List.map_append, hsl, List.take_succ, hj]; rfl
  rintro ρ' S' ⟨stones, n2, o2, hst, hstb, hn2, e1, e2⟩
  subst e1; subst e2
  rw [List.take_length] at hst
  have hst3 : stones.length ≤ 3 := by
    have := congrArg List.length hst
    rw [List.length_map] at this
    omega
  have hfl3 : folk.length ≤ 3 := by
    have := congrArg List.length hf
    rw [List.length_map, List.length_take, List.length_drop, hl] at this
    omega
  show aSs _ _ [some (.adr p), some (.lst ((l.drop 7).map D.str)), some sizeD, some (.adr hd), o, o2, none, none, none, none, none, none, none] _ _
  refine frzWalk ?_
  exact hallTail M cD cR hr hi ok hrm ⟨k00, k01⟩ hf hf0 hst hsn hss hsm hs3 hstb hfb (by omega) hn hR ⟨k10, k11⟩
abbrev sLHall : Stmt := top 54
abbrev nLHall : List Str := ["pen", "size"]
theorem scLHall : FnScope nLHall ["pen", "size"] (defScope sLHall) := ⟨rfl, rfl, rfl, by decide +kernel, rfl, by decide +kernel, by decide +kernel⟩
def spLHall : ASp := fun ds S R => ∃ (i : Nat) (p : Addr) (n : Nat), ds = [.adr p, sizeD] ∧ S[i]? = some (p, .pen n) ∧ n + 140 ≤ 2 ^ 60 ∧
  ∀ (L : List (Key × D)) (h : HallT), HallL L h → HallOk h → HallB h → R (.dct L) (S.set i (p, .pen (n + 140)))
theorem aE_penUp {X : Cx} {e : Expr} {ρ : Sl} {S : Store} {Q : D → Store → Prop} (h : aE X e ρ S fun d S1 => ∃ (i : Nat) (p : Addr) (n n' : Nat), S1[i]? = some (p, .pen n) ∧ n ≤ n' ∧ Q d (S1.set i (p, .pen n'))) : aE X e ρ S Q :=
  aE_pen (h.mono fun d S1 ⟨i, p, n, n', h1, h2, q⟩ => ⟨i, p, n', .inr ⟨n, h1, h2⟩, q⟩)
theorem bLHall (M : Nm mg) (c1 : CalA P w K mg bse 4 "_law_names" spNames []) (c2 : CalA P w K mg bse 5 "_law_hall_of" spHallOf []) : BodyA P w K mg bse nLHall "_law_hall" sLHall 5 spLHall := by
  intro f cdv A outer s H E hr ds S R ⟨i, p, n, eds, hi, hn, hR⟩
  have hu : Un _ := ⟨hr.units⟩
  have nd : Names nLHall := ⟨scLHall.nd⟩
  have sc : Scp nLHall (defScope sLHall) := ⟨scLHall.nd⟩
  subst eds
  refine aSs_one (aS_ret (aE_penUp ?_))
  walk_at "w"
  refine ⟨[4, 5, 3, 3], .inr (.inl rfl), ?_⟩
  walk_at "w"
  refine ⟨i, p, n, 15, rfl, hi, by omega, by decide, by decide, fun l n' hn' ok => ?_⟩
  walk_at "w"
  refine ⟨i, p, n', l, rfl, set_get hi, by omega, ok, fun L h hL ho hob => ?_⟩
  refine ⟨i, p, n' + 120, n + 140, set_get (set_get hi), by omega, ?_⟩
  rw [List.set_set, List.set_set]
  exact hR L h hL ho hob
abbrev sMade : Stmt := top 56
abbrev nMade : List Str := ["hall", "doors", "name"]
theorem scMade : FnScope nMade ["hall"] (defScope sMade) := ⟨rfl, rfl, rfl, by decide +kernel, rfl, by decide +kernel, by decide +kernel⟩
def spMade (CH T0 : Addr) : ASp := fun ds S R => ∃ (L : List (Key × D)) (h : HallT), ds = [.dct L] ∧ HallL L h ∧ HallOk h ∧ (T0, D.tbl qLam) ∈ S ∧ R (hallI CH h) S
theorem bMade (M : Nm mg) (cM : MakA P w K mg bse 3 "Hall" CH (spHInit CH T0)) : BodyA P w K mg bse nMade "_law_made" sMade 4 (spMade CH T0) := by
  intro f cdv A outer s H E hr ds S R ⟨L, h, eds, hL, ho, hT, hR⟩
  have hu : Un _ := ⟨hr.units⟩
  have nd : Names nMade := ⟨scMade.nd⟩
  have sc : Scp nMade (defScope sMade) := ⟨scMade.nd⟩
  subst eds
  have d5 := ho.d5
  have l1 := hL.rooms
  have l2 := hL.doors
  have l3 := hL.stones
  have l4 := hL.walkers
  walk_at "w"
  refine lcSD (.nm 2) [("name", 2)] sc (by walk_at "n") dw_keys (evS nd (by walk_at "n") (by rfl) hu (by rfl) l2) ?_ ⟨rfl, by decide +kernel, by decide +kernel, by decide +kernel, by decide +kernel⟩ (fun _ _ _ _ _ => tgNm nd (by walk_at "n") (by rfl)) rfl rfl rfl (by decide) (by decide)
  rw [show keysD (dctS gateD h.doors) = h.doors.map fun x => D.str x.1 by unfold keysD; rw [dctS_keys]; exact dn_map]
  refine lcM (fun x => dtD (x.1, x.2, x.2.rows)) (by omega) (fun x hx A => ?_) (.inl ?_)
  · intro s H C cl fp
    walk_at "w"
    refine oIxS rD (valP_nd ho.dn hx) ?_
    refine oCatT (by show 5 ≤ 100000; decide) ⟨rfl, rfl⟩
  walk_at "w"
  refine mkHall cM hr ?_
  walk_at "w"
  refine ⟨_, .inl qL, .inl ?_⟩
  walk_at "w"
  refine ⟨_, rD, ?_⟩
  walk_at "w"
  refine ⟨_, .inl qL, .inl ?_⟩
  walk_at "w"
  refine ⟨h, h.rooms, dT h, h.stones, true, ?_, ho, ⟨.refl _, .of_eq ?_, fun x hx => ?_, .refl _⟩, hT, hR⟩
  · unfold dT
    rw [List.map_map]
    have : itemsD (dctS D.int h.stones) = h.stones.map (prD true) := by
      unfold itemsD dctS
      rw [List.map_map]; rfl
    rw [this]
    rfl
  · unfold dT
    rw [List.map_map]
    show List.map (fun x => x) _ = _
    rw [List.map_id']
  · obtain ⟨y, hy, e⟩ := List.mem_map.mp hx
    subst e
    exact .refl _
end

end
-- F15
section
open PySem L2 DL
section
variable {P : Program} {w : World} {K : PySem.W.Frag} {mg : Str → Option Value} {bse : Heap} {C CH CM CB T0 : Addr}
abbrev sLStand : Stmt := top 57
abbrev nLStand : List Str := ["pen", "hall", "rooms", "one", "places", "stone", "free"]
theorem scLStand : FnScope nLStand ["pen", "hall"] (defScope sLStand) := ⟨rfl, rfl, rfl, by decide +kernel, rfl, by decide +kernel, by decide +kernel⟩
def spLStand : ASp := fun ds S R => ∃ (i : Nat) (p : Addr) (n : Nat) (L : List (Key × D)) (h : HallT), ds = [.adr p, .dct L] ∧ S[i]? = some (p, .pen n) ∧ n + 20 ≤ 2 ^ 60 ∧ HallL L h ∧ HallOk h ∧
  ∀ t, StandOk h t → R (standD t) (S.set i (p, .pen (n + 20)))
theorem bLStand (M : Nm mg) (cD : CalA P w K mg bse 2 "_law_draw" spDraw []) (cP : CalA P w K mg bse 3 "_law_pick" spPick []) : BodyA P w K mg bse nLStand "_law_stand" sLStand 3 spLStand := by
  intro f cdv A outer s H E hr ds S R ⟨i, p, n, L, h, eds, hi, hn, hL, ho, hR⟩
  have hu : Un _ := ⟨hr.units⟩
  have nd : Names nLStand := ⟨scLStand.nd⟩
  have sc : Scp nLStand (defScope sLStand) := ⟨scLStand.nd⟩
  subst eds
  have lenN := M.len
  have l1 := hL.rooms
  have l2 := hL.stones
  have l3 := hL.walkers
  have f3 := ho.f3
  have s3 := ho.s3
  have r4 := ho.r4
  have hf0 : 0 < h.folk.length := List.length_pos_iff.mpr ho.f0
  rw [← set_same hi]
  walk_at "w"
  refine lcE (.nm 3) [("one", 3)] sc ?_ ⟨rfl, by decide +kernel, by decide +kernel, by decide +kernel, by decide +kernel⟩ (fun _ _ _ _ _ => tgNm nd (by walk_at "n") (by rfl)) rfl rfl rfl (by decide) (by decide)
  refine aI_list ?_
  walk_at "w"
  refine ⟨_, rfl, ?_⟩
  refine lcR (fun j acc S' => ∃ rs : List Str, rs.length = j ∧ (∀ r ∈ rs, r ∈ h.rooms) ∧ acc = rs.map D.str ∧ S' = S.set i (p, .pen (n + j))) ⟨[], rfl, fun _ h => (List.not_mem_nil h).elim, rfl, rfl⟩ ?_ ?_
  · rintro j x acc S' A' hj ⟨rs, hr1, hr2, e1, e2⟩
    subst e1; subst e2
    have hjl := (List.getElem?_eq_some_iff.mp hj).1
    intro s H C cl fp
    walk_at "w"
    refine oPickP [_] hi (by omega) (by rw [ne_eq, List.map_eq_nil_iff]; exact ho.r0) (by rw [List.length_map]; omega) fun z hz => ?_
    obtain ⟨r, hr, ez⟩ := List.mem_map.mp hz
    subst ez
    refine ⟨_, rfl, by rw [List.length_map]; omega, rs ++ [r], by rw [List.length_append, hr1]; rfl, fun y hy => ?_, by rw [List.map_append]; rfl, by rw [Nat.add_assoc]; rfl⟩
    rcases List.mem_append.mp hy with h1 | h1
    · exact hr2 y h1
    · rw [List.mem_singleton.mp h1]; exact hr
  rintro acc S' ⟨rs, hr1, hr2, e1, e2⟩
  subst e1; subst e2
  refine .inl ⟨_, .inl rL, ?_⟩
  walk_at "w"
  refine .inr fun q => ?_
  walk_at "w"
  refine frD (.nm 5) dw_keys (evS nd (by walk_at "n") (by rfl) hu (by rfl) l2) ?_ (tgNm nd (by walk_at "n") (by rfl)) .never rfl
  rw [show keysD (dctS D.int h.stones) = h.stones.map fun x => D.str x.1 by unfold keysD; rw [dctS_keys]; exact sn_map]
  show ∃ Pv : Nat → Sl → Store → Prop, Pv 0 [some (.adr p), some (.dct L), some (strsD rs), none, some (.adr q), none, none] ((q, .lst []) :: S.set i (p, .pen (n + h.folk.length))) ∧ _
  refine frR (fun j ρ' S' => ∃ (ps : List Str) (o1 o2 : Option D), ps.length = j ∧ (∀ x ∈ ps, x ∈ h.rooms ∨ x ∈ fnames h) ∧ ρ' = [some (.adr p), some (.dct L), some (strsD rs), none, some (.adr q), o1, o2] ∧ S' = (q, .lst (ps.map D.str)) :: S.set i (p, .pen (n + h.folk.length + 2 * j))) ⟨[], none, none, rfl, fun _ h => (List.not_mem_nil h).elim, rfl, rfl⟩ ?_ ?_
  · rintro j x ρ' S' hj ⟨ps, o1, o2, hp1, hp2, e1, e2⟩
    subst e1; subst e2
    have hjl := (List.getElem?_eq_some_iff.mp hj).1
    show aSs _ _ [some (.adr p), some (.dct L), some (strsD rs), none, some (.adr q), some (.str x.1), o2] _ _
    walk_at "w"
    refine lcS (.nm 3) [("one", 3)] sc (by walk_at "n") ?_ ⟨rfl, by decide +kernel, by decide +kernel, by decide +kernel, by decide +kernel⟩ (fun _ _ _ _ _ => tgNm nd (by walk_at "n") (by rfl)) rfl rfl rfl (by decide) (by decide)
    refine aI_list ?_
    walk_at "w"
    refine ⟨_, rfl, ?_⟩
    refine lcF (fun y => decide (((ps.count y.name : Nat) : Int) < y.hands)) (fun y => .str y.name) (by omega) (fun y hy A => ?_) (.inl ?_)
    · intro s H C cl fp
      walk_at "w"
      refine aE_count ?_
      walk_at "w"
      refine ⟨⟨_, rA (q := 1) rfl⟩, ?_⟩
      walk_at "w"
      refine ⟨_, ps, rA (q := 1) rfl, rfl, ?_⟩
      walk_at "w"
      refine ⟨rfl, rfl, fun _ => ?_⟩
      intro s H C cl fp
      walk_at "w"
      exact ⟨rfl, rfl⟩
    have hfr : ∀ z ∈ (h.folk.filter fun y => decide (((ps.count y.name : Nat) : Int) < y.hands)).map (fun y => y.name), z ∈ fnames h := fun z hz => by
      obtain ⟨y, hy, e⟩ := List.mem_map.mp hz
      exact List.mem_map.mpr ⟨y, (List.mem_filter.mp hy).1, e⟩
    have hfl : ((h.folk.filter fun y => decide (((ps.count y.name : Nat) : Int) < y.hands)).map (fun y => y.name)).length ≤ 3 := by
      rw [List.length_map]
      have := List.length_filter_le (fun y : Wk => decide (((ps.count y.name : Nat) : Int) < y.hands)) h.folk
      omega
    rw [show (h.folk.filter fun y => decide (((ps.count y.name : Nat) : Int) < y.hands)).map (fun y => D.str y.name) = ((h.folk.filter fun y => decide (((ps.count y.name : Nat) : Int) < y.hands)).map (fun y => y.name)).map D.str by rw [List.map_map]; rfl]
    generalize (h.folk.filter fun y => decide (((ps.count y.name : Nat) : Int) < y.hands)).map (fun y => y.name) = fr at hfr hfl
    walk_at "w"
    refine ⟨⟨_, rA (q := 0) rfl⟩, ?_⟩
    walk_at "w"
    refine .inl ?_
    walk_at "w"
    refine oPickP [_] hi (by omega) (by simp) (by show 3 < 100000; decide) fun z hz => ?_
    obtain ⟨ws, ez, hws, hwl⟩ : ∃ ws : List Str, z = .lst (ws.map D.str) ∧ (∀ y ∈ ws, y ∈ h.rooms ∨ y ∈ fnames h) ∧ ws.length ≤ 4 := by
      simp only [List.mem_cons, List.not_mem_nil, or_false] at hz
      rcases hz with e | e | e
      · exact ⟨_, e, fun y hy => .inl hy, r4⟩
      · exact ⟨_, e, fun y hy => .inl hy, r4⟩
      · exact ⟨_, e, fun y hy => .inr (hfr y hy), by omega⟩
    subst ez
    walk_at "w"
    refine .inr (.inl ⟨_, rL, .inl ?_⟩)
    rw [cut_hi (by decide), ← List.map_take]
    refine oCat rL rL (by rw [List.length_map, List.length_map, List.length_take]; omega) (.inl ?_)
    rw [← List.map_append]
    walk_at "w"
    have hne : ws ++ h.rooms.take (Int.toNat 1) ≠ [] := by
      intro e
      have h1 : 0 < h.rooms.length := List.length_pos_iff.mpr ho.r0
      have h2 := congrArg List.length (List.append_eq_nil_iff.mp e).2
      rw [List.length_take, show Int.toNat 1 = 1 from rfl, List.length_nil] at h2
      omega
    refine oPickP [_] hi (by omega) (by rw [ne_eq, List.map_eq_nil_iff]; exact hne) (by rw [List.length_map, List.length_append, List.length_take]; omega) fun z hz => ?_
    obtain ⟨y, hy, ez⟩ := List.mem_map.mp hz
    subst ez
    refine ⟨0, q, _, ⟨rfl, rfl⟩, by rw [List.length_map]; omega, ?_⟩
    walk_at "w"
    refine ⟨ps ++ [y], _, _, by rw [List.length_append, hp1]; rfl, fun v hv => ?_, rfl, ?_⟩
    · rcases List.mem_append.mp hv with h1 | h1
      · exact hp2 v h1
      · rw [List.mem_singleton.mp h1]
        rcases List.mem_append.mp hy with h2 | h2
        · exact hws y h2
        · exact .inl (List.mem_of_mem_take h2)
    · rw [List.map_append, show n + h.folk.length + 2 * (j + 1) = n + h.folk.length + 2 * j + 1 + 1 by omega]
      rfl
  rintro ρ' S' ⟨ps, o1, o2, hp1, hp2, e1, e2⟩
  subst e1; subst e2
  show aSs _ _ _ _ _
  refine penUp [_] hi (n' := n + 19) (by omega) ?_
  refine aSs_one (aS_ret (aE_drop 0 ?_))
  walk_at "w"
  refine ⟨_, .inr (.inl ⟨_, qT, rfl⟩), ?_⟩
  rw [List.length_map]
  walk_at "w"
  refine oDrawP [_] hi (by omega) (by omega) (by omega) fun k k0 k1 => ?_
  walk_at "w"
  refine ⟨_, .inl (rA (q := 0) rfl), ?_⟩
  walk_at "w"
  have := hR ⟨k.toNat, rs, ps⟩ ⟨by show k.toNat < _; omega, hr1, hr2, hp1, hp2⟩
  rw [show (standD ⟨k.toNat, rs, ps⟩) = .tup [.int k, strsD rs, strsD ps] by show D.tup [.int (k.toNat : Int), _, _] = _; rw [show (k.toNat : Int) = k by omega]] at this
  exact this
end

end
-- F16
section
open PySem L2 DL
section
variable {P : Program} {w : World} {K : PySem.W.Frag} {mg : Str → Option Value} {bse : Heap} {C CH CM CB T0 : Addr}
/-! acts -/
inductive Act where
  | do_ (e : Deed) | heft (n : Str) (k : Int) | rows (d : Str) (gs : List Row) | wall (d : Str) | open_ (d : Str)
abbrev actD : Act → D
  | .do_ e => .tup [.str "do", deedD e]
  | .heft n k => .tup [.str "heft", .str n, .int k]
  | .rows d gs => .tup [.str "rows", .str d, rowsD gs]
  | .wall d => .tup [.str "wall", .str d]
  | .open_ d => .tup [.str "open", .str d]
def ActOk (h : HallT) (t : StandT) : Act → Prop
  | .do_ e => CanDo h t e ∧ okD e
  | .heft n _ => n ∈ snames h ∨ n ∈ fnames h
  | .rows d gs => d ∈ dnames h ∧ (gs.map (·.room)).Sublist h.rooms
  | .wall d => d ∈ dnames h
  | .open_ d => d ∈ dnames h
def ActB : Act → Prop
  | .heft _ k => I7 k
  | .rows _ gs => ∀ r ∈ gs, RowB r
  | _ => True
abbrev sLAct : Stmt := top 64
abbrev nLAct : List Str := ["pen", "hall", "stand", "names", "one", "doors", "hefts", "some", "deed", "door"]
theorem scLAct : FnScope nLAct ["pen", "hall", "stand"] (defScope sLAct) := ⟨rfl, rfl, rfl, by decide +kernel, rfl, by decide +kernel, by decide +kernel⟩
def spLAct : ASp := fun ds S R => ∃ (i : Nat) (p : Addr) (n : Nat) (L : List (Key × D)) (h : HallT) (t : StandT), ds = [.adr p, .dct L, standD t] ∧ S[i]? = some (p, .pen n) ∧ n + 100 ≤ 2 ^ 60 ∧ HallL L h ∧ HallOk h ∧ HallB h ∧ StandOk h t ∧
  ∀ a, ActOk h t a → ActB a → R (actD a) (S.set i (p, .pen (n + 100)))
theorem bLAct (M : Nm mg) (cP : CalA P w K mg bse 3 "_law_pick" spPick []) (cH : CalA P w K mg bse 3 "_law_heft" spHeft []) (cR : CalA P w K mg bse 4 "_law_rows" spLRows []) (cD : CalA P w K mg bse 4 "_law_deeds" spLDeeds []) : BodyA P w K mg bse nLAct "_law_act" sLAct 4 spLAct := by
  intro f cdv A outer s H E hr ds S R ⟨i, p, n, L, h, t, eds, hi, hn, hL, ho, hob, so, hR⟩
  have hu : Un _ := ⟨hr.units⟩
  have nd : Names nLAct := ⟨scLAct.nd⟩
  have sc : Scp nLAct (defScope sLAct) := ⟨scLAct.nd⟩
  subst eds
  have lenN := M.len
  have l1 := hL.rooms
  have l2 := hL.stones
  have l3 := hL.walkers
  have l4 := hL.doors
  have f3 := ho.f3
  have s3 := ho.s3
  have r4 := ho.r4
  have d5 := ho.d5
  have hf0 : 0 < h.folk.length := List.length_pos_iff.mpr ho.f0
  rw [← set_same hi]
  walk_at "w"
  refine ⟨snames h, .inr ⟨_, rD, dctS_keys'⟩, by unfold snames; rw [List.length_map]; omega, .inl ?_⟩
  rw [ho.ss]
  walk_at "w"
  refine lcE (.nm 4) [("one", 4)] sc ?_ ⟨rfl, by decide +kernel, by decide +kernel, by decide +kernel, by decide +kernel⟩ (fun _ _ _ _ _ => tgNm nd (by walk_at "n") (by rfl)) rfl rfl rfl (by decide) (by decide)
  refine aI_list ?_
  walk_at "w"
  refine ⟨_, rfl, ?_⟩
  refine lcM (fun x => .str x.name) (by omega) (fun x hx A => ?_) (.inl ?_)
  · intro s H C cl fp
    walk_at "w"
    exact ⟨rfl, rfl⟩
  rw [← fn_map]
  refine oCat rL rL (by rw [List.length_map, List.length_map]; unfold snames fnames; rw [List.length_map, List.length_map]; omega) (.inl ?_)
  rw [← List.map_append]
  walk_at "w"
  refine ⟨dnames h, .inr ⟨_, rD, dctS_keys'⟩, by unfold dnames; rw [List.length_map]; omega, .inl ?_⟩
  rw [ho.ds]
  walk_at "w"
  refine lcE (.nm 4) [("one", 4)] sc ?_ ⟨rfl, by decide +kernel, by decide +kernel, by decide +kernel, by decide +kernel⟩ (fun _ _ _ _ _ => tgNm nd (by walk_at "n") (by rfl)) rfl rfl rfl (by decide) (by decide)
  refine aI_list ?_
  walk_at "w"
  refine ⟨_, rfl, ?_⟩
  refine lcM (fun x => .int x.heft) (by omega) (fun x hx A => ?_) (.inl ?_)
  · intro s H C cl fp
    walk_at "w"
    exact ⟨rfl, rfl⟩
  walk_at "w"
  refine ⟨_, rD, .inl ?_⟩
  have ehs : List.map (fun x : Wk => D.int x.heft) h.folk ++ List.map (·.2) (dctS D.int h.stones) = (h.folk.map (·.heft) ++ h.stones.map (·.2)).map D.int := by
    unfold dctS
    rw [List.map_append, List.map_map, List.map_map, List.map_map]
    rfl
  have hns : (h.folk.map (·.heft) ++ h.stones.map (·.2)).length ≤ 6 := by
    rw [List.length_append, List.length_map, List.length_map]; omega
  refine oCat rL rL (by rw [List.length_map, List.length_map, dctS_len]; omega) (.inl ?_)
  rw [ehs]
  have hnb := hefts_b hob.fb hob.sb
  generalize h.folk.map (·.heft) ++ h.stones.map (·.2) = ns at hns hnb
  walk_at "w"
  refine lcE (.nm 8) [("deed", 8)] sc ?_ ⟨rfl, by decide +kernel, by decide +kernel, by decide +kernel, by decide +kernel⟩ (fun _ _ _ _ _ => tgNm nd (by walk_at "n") (by rfl)) rfl rfl rfl (by decide) (by decide)
  refine aI_list ?_
  walk_at "w"
  refine ⟨L, h, t, rfl, hL, ho, so, _, rfl, ?_⟩
  obtain ⟨lg, ll, lf⟩ := len_deeds (t := t) ho
  have hdl : (deedsT h t).length ≤ 12 := by
    unfold deedsT
    rw [List.length_append, List.length_append, List.length_append]
    split <;> simp <;> omega
  refine lcM (fun e => actD (.do_ e)) (by omega) (fun x hx A => ?_) (.inl ?_)
  · intro s H C cl fp
    walk_at "w"
    exact ⟨rfl, rfl⟩
  walk_at "w"
  refine .inr ⟨_, 2, rL, rfl, by decide, by decide, by rw [List.length_map]; show _ * 2 ≤ _; omega, .inl ?_⟩
  have e2 : (List.replicate (Int.toNat 2) ((deedsT h t).map fun e => actD (.do_ e))).flatten = ((deedsT h t).map Act.do_ ++ (deedsT h t).map Act.do_).map actD := by
    rw [List.map_append, List.map_map]
    show ((deedsT h t).map fun e => actD (.do_ e)) ++ (((deedsT h t).map fun e => actD (.do_ e)) ++ []) = _
    rw [List.append_nil]
    rfl
  rw [e2]
  have ok2 : ∀ a ∈ (deedsT h t).map Act.do_ ++ (deedsT h t).map Act.do_, ActOk h t a ∧ ActB a := fun a ha => by
    have : a ∈ (deedsT h t).map Act.do_ := by rcases List.mem_append.mp ha with h1 | h1 <;> exact h1
    obtain ⟨e, he, ee⟩ := List.mem_map.mp this
    subst ee
    exact ⟨deeds_can ho so he, trivial⟩
  have ln2 : ((deedsT h t).map Act.do_ ++ (deedsT h t).map Act.do_).length ≤ 24 := by
    rw [List.length_append, List.length_map]; omega
  generalize (deedsT h t).map Act.do_ ++ (deedsT h t).map Act.do_ = as0 at ok2 ln2
  walk_at "w"
  refine oPick hi (by omega) (by rw [ne_eq, List.map_eq_nil_iff]; exact fun e => ho.f0 (List.map_eq_nil_iff.mp (List.append_eq_nil_iff.mp e).2)) (by rw [List.length_map, List.length_append]; unfold snames fnames; rw [List.length_map, List.length_map]; omega) fun z hz => ?_
  obtain ⟨x, hx, ez⟩ := List.mem_map.mp hz
  subst ez
  walk_at "w"
  refine oHeft hi (by omega) fun k k0 k1 => ?_
  walk_at "w"
  refine .inl (oCat rL rL (by rw [List.length_map]; show _ + 1 ≤ _; omega) (.inr fun q => ?_))
  have e3 : as0.map actD ++ [D.tup [.str "heft", .str x, .int k]] = (as0 ++ [Act.heft x k]).map actD := by rw [List.map_append]; rfl
  rw [e3]
  have ok3 : ∀ a ∈ as0 ++ [Act.heft x k], ActOk h t a ∧ ActB a := fun a ha => by
    rcases List.mem_append.mp ha with h1 | h1
    · exact ok2 a h1
    · rw [List.mem_singleton.mp h1]; exact ⟨List.mem_append.mp hx, show I7 k from ⟨k0, by omega⟩⟩
  have ln3 : (as0 ++ [Act.heft x k]).length ≤ 25 := by rw [List.length_append]; show _ + 1 ≤ _; omega
  have ne3 : as0 ++ [Act.heft x k] ≠ [] := by simp
  generalize as0 ++ [Act.heft x k] = as1 at ok3 ln3 ne3
  walk_at "w"
  refine frS (.nm 9) ?_ (tgNm nd (by walk_at "n") (by rfl)) .never rfl
  refine aI_list ?_
  walk_at "w"
  refine ⟨_, rfl, ?_⟩
  show ∃ Pv : Nat → Sl → Store → Prop, Pv 0 [some (.adr p), some (.dct L), some (standD t), some (.lst ((snames h ++ fnames h).map D.str)), none, some (.lst ((dnames h).map D.str)), some (.lst (ns.map D.int)), some (.adr q), none, none] ((q, .lst (as1.map actD)) :: S.set i (p, .pen (n + 1 + 1))) ∧ _
  refine frR (fun j ρ' S' => ∃ (as : List Act) (o1 : Option D), as.length ≤ 25 + j ∧ as ≠ [] ∧ (∀ a ∈ as, ActOk h t a ∧ ActB a) ∧ ρ' = [some (.adr p), some (.dct L), some (standD t), some (.lst ((snames h ++ fnames h).map D.str)), none, some (.lst ((dnames h).map D.str)), some (.lst (ns.map D.int)), some (.adr q), none, o1] ∧ S' = (q, .lst (as.map actD)) :: S.set i (p, .pen (n + 2 + 16 * j))) ⟨as1, none, by omega, ne3, ok3, rfl, rfl⟩ ?_ ?_
  · rintro j x ρ' S' hj ⟨as, o1, hal, hane, hao, e1, e2⟩
    subst e1; subst e2
    have hjl := (List.getElem?_eq_some_iff.mp hj).1
    have hjd : j < 5 := by unfold dnames at hjl; rw [List.length_map] at hjl; omega
    have hxd := List.mem_of_getElem? hj
    show aSs _ _ [some (.adr p), some (.dct L), some (standD t), some (.lst ((snames h ++ fnames h).map D.str)), none, some (.lst ((dnames h).map D.str)), some (.lst (ns.map D.int)), some (.adr q), none, some (.str x)] _ _
    walk_at "w"
    refine ⟨⟨_, rA (q := 0) rfl⟩, ?_⟩
    walk_at "w"
    refine ⟨i + 1, p, n + 2 + 16 * j, h.rooms, ns, rfl, set_get hi, by omega, r4, hns, hnb, fun gs hgs hgb => ?_⟩
    walk_at "w"
    refine ⟨0, q, as.map actD, ⟨rfl, rfl⟩, by rw [List.length_map]; omega, ?_⟩
    walk_at "w"
    refine ⟨as ++ [.rows x gs], _, by rw [List.length_append]; show _ + 1 ≤ _; omega, by simp, fun a ha => ?_, rfl, ?_⟩
    · rcases List.mem_append.mp ha with h1 | h1
      · exact hao a h1
      · rw [List.mem_singleton.mp h1]; exact ⟨⟨hxd, hgs⟩, hgb⟩
    · show (q, D.lst _) :: (S.set i _).set i _ = _
      rw [List.set_set, List.map_append, show n + 2 + 16 * (j + 1) = n + 2 + 16 * j + 16 by omega]
      rfl
  rintro ρ' S' ⟨as, o1, hal, hane, hao, e1, e2⟩
  subst e1; subst e2
  have hdn5 : (dnames h).length ≤ 5 := by unfold dnames; rw [List.length_map]; exact d5
  have fin : ∀ (as : List Act) (m : Nat), as ≠ [] → as.length < 1000 → (∀ a ∈ as, ActOk h t a ∧ ActB a) → m ≤ n + 99 → aSs (cxB P w K mg bse nLAct "_law_act" sLAct f cdv A outer s H E) ((defBody sLAct).drop 5) [some (.adr p), some (.dct L), some (standD t), some (.lst ((snames h ++ fnames h).map D.str)), none, some (.lst ((dnames h).map D.str)), some (.lst (ns.map D.int)), some (.adr q), none, o1] ((q, .lst (as.map actD)) :: S.set i (p, .pen m)) { nx := fun _ S' => R .non S', rt := R } := fun as m h0 hl hok hm => by
    refine penUp [_] hi (n' := n + 99) hm ?_
    refine aSs.imp ?_ (frz_slot (i := 0) (j := 7) rfl rfl rfl)
    show aSs _ _ [some (.adr p), some (.dct L), some (standD t), some (.lst ((snames h ++ fnames h).map D.str)), none, some (.lst ((dnames h).map D.str)), some (.lst (ns.map D.int)), some (.lst (as.map actD)), none, o1] (S.set i (p, .pen (n + 99))) _
    walk_at "w"
    refine oPick hi (by omega) (by rw [ne_eq, List.map_eq_nil_iff]; exact h0) (by rw [List.length_map]; omega) fun z hz => ?_
    obtain ⟨a, ha, ez⟩ := List.mem_map.mp hz
    subst ez
    exact hR a (hok a ha).1 (hok a ha).2
  show aSs _ _ _ _ _
  walk_at "w"
  refine .inl (oNe0 rL (iteN (fun hd0 => ?_) fun _ => ?_))
  · walk_at "w"
    refine ⟨⟨_, rA (q := 0) rfl⟩, ?_⟩
    walk_at "w"
    refine .inl ?_
    walk_at "w"
    refine oPickP [_] hi (by omega) (by simp) (by show 2 < 100000; decide) fun z hz => ?_
    walk_at "w"
    refine oPickP [_] hi (by omega) (fun e => hd0 (by rw [e]; rfl)) (by rw [List.length_map]; omega) fun y hy => ?_
    obtain ⟨d, hd, ey⟩ := List.mem_map.mp hy
    subst ey
    obtain ⟨a, ea, oa⟩ : ∃ a : Act, D.tup [z, .str d] = actD a ∧ ActOk h t a ∧ ActB a := by
      simp only [List.mem_cons, List.not_mem_nil, or_false] at hz
      rcases hz with e | e <;> subst e
      · exact ⟨.wall d, rfl, hd, trivial⟩
      · exact ⟨.open_ d, rfl, hd, trivial⟩
    walk_at "w"
    refine ⟨0, q, as.map actD, ⟨rfl, rfl⟩, by rw [List.length_map]; omega, ?_⟩
    have e4 : as.map actD ++ [D.tup [z, .str d]] = (as ++ [a]).map actD := by rw [List.map_append, ea]; rfl
    rw [e4]
    refine aSs_nil ?_
    refine fin (as ++ [a]) (n + 2 + 16 * (dnames h).length + 1 + 1) (by simp) (by rw [List.length_append]; show _ + 1 < _; omega) (fun b hb => ?_) (by omega)
    rcases List.mem_append.mp hb with h1 | h1
    · exact hao b h1
    · rw [List.mem_singleton.mp h1]; exact oa
  · exact aSs_nil (fin as _ hane (by omega) hao (by omega))
end

end
-- T17
/-! What an act does. -/
section
open PySem L2 DL
def actedH (h : HallT) : Act → HallT
  | .do_ _ => h
  | .heft n k => heftedT h n k
  | .rows d gs => rowsT h d gs
  | .wall d => wallT h d
  | .open_ d => rowsT h d []
def actedS (h : HallT) (t : StandT) : Act → StandT
  | .do_ e => afterT h t e
  | _ => t
theorem acted_ok {h : HallT} {t : StandT} (ho : HallOk h) (so : StandOk h t) {a : Act} (ha : ActOk h t a) : HallOk (actedH h a) ∧ StandOk (actedH h a) (actedS h t a) := by
  cases a with
  | do_ e => exact ⟨ho, after_ok ho so ha.1⟩
  | heft n k =>
    refine ⟨heft_ok ho n k, ?_, ?_, so.r, ?_, ?_⟩
    · show t.turn < (h.folk.map _).length; rw [List.length_map]; exact so.t
    · show t.rooms.length = (h.folk.map _).length; rw [List.length_map]; exact so.rl
    · show t.places.length = (h.stones.map _).length; rw [List.length_map]; exact so.pl
    · intro x hx
      show x ∈ h.rooms ∨ x ∈ fnames (heftedT h n k)
      rw [heft_f]
      exact so.p x hx
  | rows d gs => exact ⟨rows_ok ho d ha.2, so.t, so.rl, so.r, so.pl, so.p⟩
  | wall d => exact ⟨wall_ok ho d, so.t, so.rl, so.r, so.pl, so.p⟩
  | open_ d => exact ⟨rows_ok ho d (List.nil_sublist _), so.t, so.rl, so.r, so.pl, so.p⟩
theorem acted_b {h : HallT} (hb : HallB h) {a : Act} (ha : ActB a) : HallB (actedH h a) := by
  have hrows : ∀ (d : Str) (gs : List Row), (∀ r ∈ gs, RowB r) → HallB (rowsT h d gs) := fun d gs hg => ⟨hb.rk, hb.fk, hb.sb, hb.fb, fun x hx => by
    obtain ⟨y, hy, e⟩ := List.mem_map.mp hx
    subst e
    unfold rowG
    split
    · exact hg
    · exact hb.gb y hy⟩
  cases a with
  | do_ e => exact hb
  | heft n k =>
    refine ⟨hb.rk, fun x hx => hb.fk x ?_, fun x hx => ?_, fun x hx => ?_, hb.gb⟩
    · rw [show fnames (actedH h (.heft n k)) = fnames h from heft_f] at hx; exact hx
    · obtain ⟨y, hy, e⟩ := List.mem_map.mp hx
      subst e
      unfold heftS
      split
      · exact ha
      · exact hb.sb y hy
    · obtain ⟨y, hy, e⟩ := List.mem_map.mp hx
      subst e
      unfold heftW
      split
      · exact ⟨ha, (hb.fb y hy).2⟩
      · exact hb.fb y hy
  | rows d gs => exact hrows d gs ha
  | wall d => exact ⟨hb.rk, hb.fk, hb.sb, hb.fb, fun x hx => hb.gb x (List.mem_filter.mp hx).1⟩
  | open_ d => exact hrows d [] fun _ h => (List.not_mem_nil h).elim
theorem hefted_stone {h : HallT} (ho : HallOk h) {n : Str} {k : Int} (hn : n ∈ snames h) : heftedT h n k = { h with stones := putP h.stones n k } := by
  have e1 : h.stones.map (heftS n k) = putP h.stones n k := (putP_map hn).symm
  have e2 : h.folk.map (heftW n k) = h.folk := by
    conv => rhs; rw [← List.map_id h.folk]
    refine List.map_congr_left fun x hx => ?_
    unfold heftW
    rw [if_neg fun e => ho.dj n hn (List.mem_map.mpr ⟨x, hx, e⟩)]; rfl
  unfold heftedT
  rw [e1, e2]
theorem hefted_folk {h : HallT} {n : Str} {k : Int} (hn : n ∉ snames h) : heftedT h n k = { h with folk := h.folk.map (heftW n k) } := by
  have e1 : h.stones.map (heftS n k) = h.stones := by
    conv => rhs; rw [← List.map_id h.stones]
    refine List.map_congr_left fun x hx => ?_
    unfold heftS
    rw [if_neg fun e => hn (List.mem_map.mpr ⟨x, hx, e⟩)]; rfl
  unfold heftedT
  rw [e1]
theorem rows_put {h : HallT} (ho : HallOk h) {d : Str} {g : Gate} {gs : List Row} (hg : valP h.doors d = some g) : (rowsT h d gs).doors = putP h.doors d { g with rows := gs } := by
  have hd : d ∈ h.doors.map (·.1) := List.mem_map.mpr ⟨_, valP_some_mem hg, rfl⟩
  rw [putP_map hd]
  show h.doors.map (rowG d gs) = _
  refine List.map_congr_left fun x hx => ?_
  unfold rowG
  split
  · rename_i e
    have : x.2 = g := by
      have h1 := valP_nd ho.dn hx
      rw [e, hg] at h1
      exact (Option.some.inj h1).symm
    rw [this]
  · rfl
/-- the law's new hall as it is being made -/
abbrev foundK (a b c : D) : List (Key × D) := [(.inr "rooms", a), (.inr "doors", b), (.inr "stones", c)]
abbrev foundQ (a b c d : D) : List (Key × D) := [(.inr "rooms", a), (.inr "doors", b), (.inr "stones", c), (.inr "walkers", d)]
section
variable {a b c d : D}
theorem fq_rooms : valP (foundQ a b c d) (.inr "rooms") = some a := valH
theorem fq_doors : valP (foundQ a b c d) (.inr "doors") = some b := (valK (by decide +kernel)).trans valH
theorem fq_stones : valP (foundQ a b c d) (.inr "stones") = some c := (valK (by decide +kernel)).trans ((valK (by decide +kernel)).trans valH)
theorem fq_walkers : valP (foundQ a b c d) (.inr "walkers") = some d := (valK (by decide +kernel)).trans ((valK (by decide +kernel)).trans ((valK (by decide +kernel)).trans valH))
theorem fk_put : putP (foundK a b c) (.inr "walkers") d = foundQ a b c d := by
  rw [put_ne (by decide +kernel), put_ne (by decide +kernel), put_ne (by decide +kernel)]
  rfl
theorem fk_merge : mergeP [] (foundK a b c) = foundK a b c := mergeP_nd (by
  show (([.inr "rooms", .inr "doors", .inr "stones"] : List Key)).Nodup
  exact nd_inr (l := ["rooms", "doors", "stones"]) (by decide +kernel))
theorem fq_putW {w : D} : putP (foundQ a b c d) (.inr "walkers") w = foundQ a b c w := by
  rw [put_ne (by decide +kernel), put_ne (by decide +kernel), put_ne (by decide +kernel), put_hd rfl]
theorem fq_putD {w : D} : putP (foundQ a b c d) (.inr "doors") w = foundQ a w c d := by
  rw [put_ne (by decide +kernel), put_hd (by
    rw [List.any_cons, List.any_cons, List.any_nil]
    simp only [key_ne (show decide (("stones" : Str) = "doors") = false by decide +kernel), key_ne (show decide (("walkers" : Str) = "doors") = false by decide +kernel)]
    rfl)]
end
theorem foundQ_hall {h : HallT} : HallL (foundQ (.lst (h.rooms.map D.str)) (.dct (dctS gateD h.doors)) (.dct (dctS D.int h.stones)) (.lst (h.folk.map wkD))) h := ⟨fq_rooms, fq_doors, fq_stones, fq_walkers⟩
theorem perm_map_inv {α β : Type} {f : α → β} {l m : List β} (p : l.Perm m) : ∀ {gs : List α}, m = gs.map f → ∃ rs : List α, l = rs.map f ∧ rs.Perm gs := by
  induction p with
  | nil => intro gs e; exact ⟨[], rfl, by rw [List.map_eq_nil_iff.mp e.symm]⟩
  | cons x p ih =>
    intro gs e
    cases gs with
    | nil => cases e
    | cons g gs =>
      rw [List.map_cons] at e
      obtain ⟨e1, e2⟩ := List.cons.inj e
      obtain ⟨rs, h1, h2⟩ := ih e2
      exact ⟨g :: rs, by rw [List.map_cons, h1, e1], h2.cons g⟩
  | swap x y l =>
    intro gs e
    match gs, e with
    | a :: b :: gs, e =>
      rw [List.map_cons, List.map_cons] at e
      obtain ⟨e1, e2⟩ := List.cons.inj e
      obtain ⟨e3, e4⟩ := List.cons.inj e2
      exact ⟨b :: a :: gs, by rw [List.map_cons, List.map_cons, e1, e3, e4], List.Perm.swap _ _ _⟩
    | [_], e => simp at e
    | [], e => simp at e
  | trans p q ihp ihq =>
    intro gs e
    obtain ⟨r1, h1, h2⟩ := ihq e
    obtain ⟨r2, h3, h4⟩ := ihp h1
    exact ⟨r2, h3, h4.trans h2⟩
end
-- F17
section
open PySem L2 DL
section
variable {P : Program} {w : World} {K : PySem.W.Frag} {mg : Str → Option Value} {bse : Heap} {C CH CM CB T0 : Addr}
abbrev sLActed : Stmt := top 65
abbrev nLActed : List Str := ["hall", "stand", "act", "found", "one", "name"]
theorem scLActed : FnScope nLActed ["hall", "stand", "act"] (defScope sLActed) := ⟨rfl, rfl, rfl, by decide +kernel, rfl, by decide +kernel, by decide +kernel⟩
def spLActed : ASp := fun ds S R => ∃ (L : List (Key × D)) (h : HallT) (t : StandT) (a : Act), ds = [.dct L, standD t, actD a] ∧ HallL L h ∧ HallOk h ∧ StandOk h t ∧ ActOk h t a ∧
  ∀ L', HallL L' (actedH h a) → R (.tup [.dct L', standD (actedS h t a)]) S
theorem bLActed (M : Nm mg) (cA : CalA P w K mg bse 3 "_law_after" spLAfter []) : BodyA P w K mg bse nLActed "_law_acted" sLActed 3 spLActed := by
  intro f cdv A outer s H E hr ds S R ⟨L, h, t, a, eds, hL, ho, so, ha, hR⟩
  have hu : Un _ := ⟨hr.units⟩
  have nd : Names nLActed := ⟨scLActed.nd⟩
  have sc : Scp nLActed (defScope sLActed) := ⟨scLActed.nd⟩
  subst eds
  have l1 := hL.rooms
  have l2 := hL.stones
  have l3 := hL.walkers
  have l4 := hL.doors
  have f3 := ho.f3
  have s3 := ho.s3
  have d5 := ho.d5
  have fin : ∀ (fd : Addr) (L' : List (Key × D)) (o1 o2 : Option D), HallL L' (actedH h a) → actedS h t a = t → aSs (cxB P w K mg bse nLActed "_law_acted" sLActed f cdv A outer s H E) ((defBody sLActed).drop 4) [some (.dct L), some (standD t), some (actD a), some (.adr fd), o1, o2] ((fd, .dct L') :: S) { nx := fun _ S' => R .non S', rt := R } := fun fd L' o1 o2 hL' et => by
    refine aSs.imp ?_ (frz_slot (i := 0) (j := 3) rfl rfl rfl)
    show aSs _ _ [some (.dct L), some (standD t), some (actD a), some (.dct L'), o1, o2] S _
    walk_at "w"
    have := hR L' hL'
    rw [et] at this
    exact this
  cases a with
  | do_ e =>
    walk_at "w"
    refine ⟨L, h, t, e, rfl, hL, ho, so, ha.1, ?_⟩
    walk_at "w"
    exact hR L hL
  | wall d =>
    walk_at "w"
    refine aE_disp fun fd => ?_
    refine aPrs_cons ?_
    walk_at "w"
    refine aPrs_cons ?_
    walk_at "w"
    refine ⟨_, .inl ⟨rD, .inl ?_⟩⟩
    refine aPrs_cons ?_
    walk_at "w"
    refine ⟨_, .inl ⟨rD, .inl ?_⟩⟩
    refine aPrs_nil ?_
    refine ⟨0, rfl, by show 3 ≤ 15; decide, ?_⟩
    rw [fk_merge]
    walk_at "w"
    refine ⟨_, .inl qL, .inl ?_⟩
    walk_at "w"
    refine oPutD (q := 0) rfl (by show 3 < 100000; decide) ?_
    rw [fk_put]
    walk_at "w"
    refine lcED (.nm 5) [("name", 5)] sc dw_keys (evS nd (by walk_at "n") (by rfl) hu (by rfl) l4) ?_ ⟨rfl, by decide +kernel, by decide +kernel, by decide +kernel, by decide +kernel⟩ (fun _ _ _ _ _ => tgNm nd (by walk_at "n") (by rfl)) rfl rfl rfl (by decide) (by decide)
    rw [show keysD (dctS gateD h.doors) = h.doors.map fun x => D.str x.1 by unfold keysD; rw [dctS_keys]; exact dn_map]
    refine lcF (fun x => decide (x.1 ≠ d)) (fun x => .tup [.str x.1, gateD x.2]) (by omega) (fun x hx A => ?_) (.inl ?_)
    · intro s H C cl fp
      walk_at "w"
      refine ⟨rfl, by simp, fun _ => ?_⟩
      intro s H C cl fp
      walk_at "w"
      refine oIxS rD (valP_nd ho.dn hx) ?_
      walk_at "w"
      exact ⟨rfl, rfl⟩
    have e1 : (h.doors.filter fun x => decide (x.1 ≠ d)).map (fun x => D.tup [.str x.1, gateD x.2]) = pairT (dctS gateD (wallT h d).doors) := by
      unfold pairT dctS wallT
      rw [List.map_map]; rfl
    rw [e1]
    refine ⟨_, .inr ⟨rL, .inl ?_⟩⟩
    rw [mergeP_nd (by rw [dctS_keys']; exact nd_inr (wall_ok ho d).dn)]
    walk_at "w"
    refine oPutD (q := 0) rfl (by show 4 < 100000; decide) ?_
    rw [fq_putD]
    repeat (refine aSs_nil ?_)
    exact fin fd _ _ _ (foundQ_hall (h := wallT h d)) rfl
  | heft n k =>
    by_cases hn : n ∈ snames h
    · obtain ⟨v, hv⟩ := valP_mem hn
      walk_at "w"
      refine aE_disp fun fd => ?_
      refine aPrs_cons ?_
      walk_at "w"
      refine aPrs_cons ?_
      walk_at "w"
      refine ⟨_, .inl ⟨rD, .inl ?_⟩⟩
      refine aPrs_cons ?_
      walk_at "w"
      refine ⟨_, .inl ⟨rD, .inr fun sd => ?_⟩⟩
      refine aPrs_nil ?_
      refine ⟨1, rfl, by show 3 ≤ 15; decide, ?_⟩
      rw [fk_merge]
      walk_at "w"
      refine ⟨_, .inl qL, .inl ?_⟩
      walk_at "w"
      refine oPutD (q := 1) rfl (by show 3 < 100000; decide) ?_
      rw [fk_put]
      walk_at "w"
      refine oInS rD hv ?_
      walk_at "w"
      refine oIxDs (rDA (q := 1) rfl) fq_stones ?_
      walk_at "w"
      refine oPutD (q := 0) rfl (by rw [dctS_len]; omega) ?_
      rw [putP_dctS (g := D.int)]
      repeat (refine aSs_nil ?_)
      have e1 := hefted_stone ho (k := k) hn
      refine aSs.imp (fin fd (foundQ (.lst (h.rooms.map D.str)) (.dct (dctS gateD h.doors)) (.dct (dctS D.int (putP h.stones n k))) (.lst (h.folk.map wkD))) _ _ (by show HallL _ (heftedT h n k); rw [e1]; exact foundQ_hall (h := { h with stones := putP h.stones n k })) rfl) (frzN 0 _ _ rfl rfl (FSl.same _) ⟨rfl, .inr (.inr (.inl ⟨_, _, rfl, rfl, ⟨rfl, FRel.refl, rfl, FRel.refl, rfl, FRel.adr, rfl, FRel.refl, trivial⟩⟩)), FSt.same _⟩)
    · have hv := valP_none hn
      walk_at "w"
      refine aE_disp fun fd => ?_
      refine aPrs_cons ?_
      walk_at "w"
      refine aPrs_cons ?_
      walk_at "w"
      refine ⟨_, .inl ⟨rD, .inl ?_⟩⟩
      refine aPrs_cons ?_
      walk_at "w"
      refine ⟨_, .inl ⟨rD, .inl ?_⟩⟩
      refine aPrs_nil ?_
      refine ⟨0, rfl, by show 3 ≤ 15; decide, ?_⟩
      rw [fk_merge]
      walk_at "w"
      refine ⟨_, .inl qL, .inl ?_⟩
      walk_at "w"
      refine oPutD (q := 0) rfl (by show 3 < 100000; decide) ?_
      rw [fk_put]
      walk_at "w"
      refine oInSn rD hv ?_
      walk_at "w"
      refine lcE (.nm 4) [("one", 4)] sc ?_ ⟨rfl, by decide +kernel, by decide +kernel, by decide +kernel, by decide +kernel⟩ (fun _ _ _ _ _ => tgNm nd (by walk_at "n") (by rfl)) rfl rfl rfl (by decide) (by decide)
      refine aI_list ?_
      walk_at "w"
      refine ⟨_, rfl, ?_⟩
      refine lcM (fun x => wkD (heftW n k x)) (by omega) (fun x hx A => ?_) (.inl ?_)
      · intro s H C cl fp
        walk_at "w"
        refine iteD (fun e => ?_) fun e => ?_
        · walk_at "w"
          refine ⟨rfl, ?_⟩
          unfold heftW
          rw [if_pos e]
        · walk_at "w"
          refine ⟨rfl, ?_⟩
          unfold heftW
          rw [if_neg e]
      walk_at "w"
      refine oPutD (q := 0) rfl (by show 4 < 100000; decide) ?_
      rw [fq_putW]
      repeat (refine aSs_nil ?_)
      have e1 := hefted_folk (k := k) hn
      refine fin fd _ _ _ ?_ rfl
      show HallL _ (heftedT h n k)
      rw [e1]
      refine ⟨fq_rooms, fq_doors, fq_stones, ?_⟩
      rw [fq_walkers]
      show _ = some (D.lst ((h.folk.map (heftW n k)).map wkD))
      rw [List.map_map]; rfl
  | rows d gs =>
    obtain ⟨g, hg⟩ := valP_mem ha.1
    walk_at "w"
    refine aE_disp fun fd => ?_
    refine aPrs_cons ?_
    walk_at "w"
    refine aPrs_cons ?_
    walk_at "w"
    refine ⟨_, .inl ⟨rD, .inr fun dd => ?_⟩⟩
    refine aPrs_cons ?_
    walk_at "w"
    refine ⟨_, .inl ⟨rD, .inl ?_⟩⟩
    refine aPrs_nil ?_
    refine ⟨1, rfl, by show 3 ≤ 15; decide, ?_⟩
    rw [fk_merge]
    walk_at "w"
    refine ⟨_, .inl qL, .inl ?_⟩
    walk_at "w"
    refine oPutD (q := 1) rfl (by show 3 < 100000; decide) ?_
    rw [fk_put]
    walk_at "w"
    refine oIxS rD hg ?_
    walk_at "w"
    refine .inl ⟨_, rfl, ?_⟩
    rw [cut_hi (by decide)]
    walk_at "w"
    refine oCatT (by show 4 ≤ 100000; decide) ?_
    walk_at "w"
    refine oIxDs (rDA (q := 1) rfl) fq_doors ?_
    walk_at "w"
    refine oPutD (q := 0) rfl (by rw [dctS_len]; omega) ?_
    have e1 : putP (dctS gateD h.doors) (.inr d) (.tup ([.str g.a, .str g.b, .str (wayS g.both)] ++ [rowsD gs])) = dctS gateD (rowsT h d gs).doors := by
      rw [rows_put ho hg]
      exact putP_dctS (g := gateD) (v := { g with rows := gs })
    repeat (refine aSs_nil ?_)
    show aSs _ _ _ ((dd, D.dct (putP (dctS gateD h.doors) (.inr d) (.tup ([.str g.a, .str g.b, .str (wayS g.both)] ++ [rowsD gs])))) :: (fd, D.dct (foundQ (.lst (h.rooms.map D.str)) (.adr dd) (.dct (dctS D.int h.stones)) (.lst (h.folk.map wkD)))) :: S) _
    rw [e1]
    refine aSs.imp (fin fd _ _ _ (foundQ_hall (h := rowsT h d gs)) rfl) (frzN 0 _ _ rfl rfl (FSl.same _) ⟨rfl, .inr (.inr (.inl ⟨_, _, rfl, rfl, ⟨rfl, FRel.refl, rfl, FRel.adr, rfl, FRel.refl, rfl, FRel.refl, trivial⟩⟩)), FSt.same _⟩)
  | open_ d =>
    obtain ⟨g, hg⟩ := valP_mem ha
    walk_at "w"
    refine aE_disp fun fd => ?_
    refine aPrs_cons ?_
    walk_at "w"
    refine aPrs_cons ?_
    walk_at "w"
    refine ⟨_, .inl ⟨rD, .inr fun dd => ?_⟩⟩
    refine aPrs_cons ?_
    walk_at "w"
    refine ⟨_, .inl ⟨rD, .inl ?_⟩⟩
    refine aPrs_nil ?_
    refine ⟨1, rfl, by show 3 ≤ 15; decide, ?_⟩
    rw [fk_merge]
    walk_at "w"
    refine ⟨_, .inl qL, .inl ?_⟩
    walk_at "w"
    refine oPutD (q := 1) rfl (by show 3 < 100000; decide) ?_
    rw [fk_put]
    walk_at "w"
    refine oIxS rD hg ?_
    walk_at "w"
    refine .inl ⟨_, rfl, ?_⟩
    rw [cut_hi (by decide)]
    walk_at "w"
    refine oCatT (by show 4 ≤ 100000; decide) ?_
    walk_at "w"
    refine oIxDs (rDA (q := 1) rfl) fq_doors ?_
    walk_at "w"
    refine oPutD (q := 0) rfl (by rw [dctS_len]; omega) ?_
    have e1 : putP (dctS gateD h.doors) (.inr d) (.tup ([.str g.a, .str g.b, .str (wayS g.both)] ++ [rowsD []])) = dctS gateD (rowsT h d []).doors := by
      rw [rows_put ho hg]
      exact putP_dctS (g := gateD) (v := { g with rows := [] })
    repeat (refine aSs_nil ?_)
    show aSs _ _ _ ((dd, D.dct (putP (dctS gateD h.doors) (.inr d) (.tup ([.str g.a, .str g.b, .str (wayS g.both)] ++ [rowsD []])))) :: (fd, D.dct (foundQ (.lst (h.rooms.map D.str)) (.adr dd) (.dct (dctS D.int h.stones)) (.lst (h.folk.map wkD)))) :: S) _
    rw [e1]
    refine aSs.imp (fin fd _ _ _ (foundQ_hall (h := rowsT h d [])) rfl) (frzN 0 _ _ rfl rfl (FSl.same _) ⟨rfl, .inr (.inr (.inl ⟨_, _, rfl, rfl, ⟨rfl, FRel.refl, rfl, FRel.adr, rfl, FRel.refl, rfl, FRel.refl, trivial⟩⟩)), FSt.same _⟩)
end

end
-- F18
section
open PySem L2 DL
section
variable {P : Program} {w : World} {K : PySem.W.Frag} {mg : Str → Option Value} {bse : Heap} {C CH CM CB T0 : Addr}
structure BookM (P : Program) (w : World) (K : PySem.W.Frag) (mg : Str → Option Value) (bse : Heap) (CH CM CB T0 : Addr) : Prop where
  do_ : MetA P w K mg bse 7 CB "do" (spDo CH CM CB)
  heft : MetA P w K mg bse 6 CB "set_heft" (spSHeft CH CM CB T0)
  rows : MetA P w K mg bse 7 CB "set_rows" (spSRows CH CM CB T0)
  wall : MetA P w K mg bse 7 CB "wall" (spBWall CH CM CB T0)
  open_ : MetA P w K mg bse 8 CB "open_up" (spOpenUp CH CM CB T0)
  back : MetA P w K mg bse 2 CB "back" (spBBack CH CM CB)
  on : MetA P w K mg bse 2 CB "on" (spBOn CH CM CB)
theorem noted_pen {S : Store} {i ib ip iu : Nat} {b pl : Addr} {ms : List MomE} {u : Addr} {x : Addr × D} (h1 : i ≠ ib) (h2 : i ≠ ip) (h3 : i ≠ iu) : (noted CH CM CB S ib ip iu b pl ms u).set i x = noted CH CM CB (S.set i x) ib ip iu b pl ms u := by
  unfold noted
  rw [List.set_comm _ _ h3.symm, List.set_comm _ _ h1.symm, List.set_comm _ _ h2.symm]
theorem BookAt.pen {S : Store} {i ib ip iu : Nat} {b pl ul : Addr} {ms us : List MomE} {x : Addr × D} (h : BookAt CH CM CB S ib ip iu b pl ul ms us) (h1 : i ≠ ib) (h2 : i ≠ ip) (h3 : i ≠ iu) : BookAt CH CM CB (S.set i x) ib ip iu b pl ul ms us :=
  ⟨by rw [List.getElem?_set_ne h1]; exact h.b, by rw [List.getElem?_set_ne h2]; exact h.p, by rw [List.getElem?_set_ne h3]; exact h.u, h.n⟩
theorem BookAt.up {S : Store} {ib ip iu : Nat} {b pl ul : Addr} {ms us : List MomE} {x : Addr × D} (h : BookAt CH CM CB S ib ip iu b pl ul ms us) : BookAt CH CM CB (x :: S) (ib + 1) (ip + 1) (iu + 1) b pl ul ms us :=
  ⟨h.b, h.p, h.u, fun e => h.n (Nat.succ.inj e)⟩
theorem BookAt.pens {S : Store} {i n ib ip iu : Nat} {p b pl ul : Addr} {ms us : List MomE} (h : BookAt CH CM CB S ib ip iu b pl ul ms us) (hi : S[i]? = some (p, .pen n)) : i ≠ ib ∧ i ≠ ip ∧ i ≠ iu := by
  refine ⟨fun e => ?_, fun e => ?_, fun e => ?_⟩
  · have := h.b
    rw [← e, hi] at this
    cases this
  · have := h.p
    rw [← e, hi] at this
    cases this
  · have := h.u
    rw [← e, hi] at this
    cases this
theorem tbl_set {S : Store} {i n m : Nat} {p : Addr} {q : Str} (hi : S[i]? = some (p, .pen n)) (h : (T0, D.tbl q) ∈ S) : (T0, D.tbl q) ∈ S.set i (p, .pen m) := by
  obtain ⟨j, hj⟩ := List.mem_iff_getElem?.mp h
  have : i ≠ j := fun e => by rw [← e, hi] at hj; cases hj
  exact List.mem_iff_getElem?.mpr ⟨j, by rw [List.getElem?_set_ne this]; exact hj⟩
abbrev sLTell : Stmt := top 66
abbrev nLTell : List Str := ["pen", "book", "act", "rows", "found"]
theorem scLTell : FnScope nLTell ["pen", "book", "act"] (defScope sLTell) := ⟨rfl, rfl, rfl, by decide +kernel, rfl, by decide +kernel, by decide +kernel⟩
def spLTell (CH CM CB T0 : Addr) : ASp := fun ds S R => ∃ (i : Nat) (p : Addr) (n : Nat) (ib ip iu : Nat) (b pl ul : Addr) (m : MomE) (ms us : List MomE) (a : Act), ds = [.adr p, .adr b, actD a] ∧ S[i]? = some (p, .pen n) ∧ n + 10 ≤ 2 ^ 60 ∧ BookAt CH CM CB S ib ip iu b pl ul (m :: ms) us ∧ ms.length + 1 < 1000 ∧ MomOk m ∧ ActOk m.h m.t a ∧ (T0, D.tbl qLam) ∈ S ∧
  ∀ u, R .non (noted CH CM CB (S.set i (p, .pen (n + 10))) ib ip iu b pl (⟨actedH m.h a, actedS m.h m.t a, actD a⟩ :: m :: ms) u)
theorem bLTell (hc : BookC K CB) (M : Nm mg) (BM : BookM P w K mg bse CH CM CB T0) (cD : CalA P w K mg bse 2 "_law_draw" spDraw []) (cS : CalA P w K mg bse 3 "_law_shuffled" spShuf []) : BodyA P w K mg bse nLTell "_law_tell" sLTell 8 (spLTell CH CM CB T0) := by
  intro f cdv A outer s H E hr ds S R ⟨i, p, n, ib, ip, iu, b, pl, ul, m, ms, us, a, eds, hi, hn, hb, hl, mo, ha, hT, hR⟩
  have hu : Un _ := ⟨hr.units⟩
  have nd : Names nLTell := ⟨scLTell.nd⟩
  have sc : Scp nLTell (defScope sLTell) := ⟨scLTell.nd⟩
  subst eds
  have m1 := BM.do_
  have m2 := BM.heft
  have m3 := BM.rows
  have m4 := BM.wall
  have m5 := BM.open_
  have h1 := hb.b
  obtain ⟨p1, p2, p3⟩ := hb.pens hi
  have hb' := fun k => hb.pen (x := (p, .pen k)) p1 p2 p3
  have hT' := fun k => tbl_set (m := k) hi hT
  cases a with
  | do_ e =>
    have h1' := (hb' (n + 10)).b
    refine aSs.imp ?_ (pen_imp hi (m := n + 10) (by omega))
    walk_at "w"
    exact ⟨ib, ip, iu, b, pl, ul, m, ms, us, e, rfl, hb' _, hl, mo, ha.1, ha.2, hR⟩
  | heft x k =>
    have h1' := (hb' (n + 10)).b
    refine aSs.imp ?_ (pen_imp hi (m := n + 10) (by omega))
    walk_at "w"
    exact ⟨ib, ip, iu, b, pl, ul, m, ms, us, x, k, rfl, hb' _, hl, mo, ha, hT' _, hR⟩
  | rows d gs =>
    obtain ⟨g, hg⟩ := valP_mem ha.1
    have hgl := ha.2.length_le
    rw [List.length_map] at hgl
    have r4 := mo.h.r4
    refine aSs.imp ?_ (pen_imp hi (m := n + 9 - gs.length) (by omega))
    walk_at "w"
    refine ⟨i, p, n + 9 - gs.length, gs.map rowD, rfl, set_get hi, by rw [List.length_map]; omega, by rw [List.length_map]; omega, fun l' hl' => ?_⟩
    obtain ⟨rs, el, hrs⟩ := perm_map_inv hl' rfl
    subst el
    rw [List.set_set, List.length_map, show n + 9 - gs.length + gs.length = n + 9 by omega]
    refine .inr fun q => ?_
    have h1' := (hb' (n + 9)).b
    have h2' : ((q, D.lst (rs.map rowD)) :: S.set i (p, .pen (n + 9)))[ib + 1]? = some (b, bookO CB pl ul) := h1'
    walk_at "w"
    refine oDrawP [_] hi (by decide) (by decide) (by omega) fun k0 _ _ => ?_
    have hbq := (hb' (n + 9 + 1)).up (x := (q, D.lst (rs.map rowD)))
    walk_at "w"
    refine iteD (fun _ => ?_) fun _ => ?_
    · walk_at "w"
      refine ⟨ib + 1, ip + 1, iu + 1, b, pl, ul, m, ms, us, d, g, rs, gs, _, rfl, .inl (rA (q := 0) rfl), hbq, hl, mo, hg, hrs, ha.2, List.mem_cons_of_mem _ (hT' _), fun u => ?_⟩
      show aSs _ _ _ ((q, D.lst (rs.map rowD)) :: noted CH CM CB (S.set i (p, .pen (n + 10))) ib ip iu b pl (⟨rowsT m.h d gs, m.t, actD (.rows d gs)⟩ :: m :: ms) u) _
      refine aSs_cons (aS_expr ?_)
      walk_at "w"
      refine ⟨0, q, _, ⟨rfl, rfl⟩, ?_⟩
      refine aSs_one (aS_ret (aE_drop 0 ?_))
      walk_at "w"
      exact hR u
    · walk_at "w"
      refine ⟨_, .inl (rA (q := 0) rfl), ?_⟩
      walk_at "w"
      refine ⟨ib + 1, ip + 1, iu + 1, b, pl, ul, m, ms, us, d, g, rs, gs, _, rfl, .inr rfl, hbq, hl, mo, hg, hrs, ha.2, List.mem_cons_of_mem _ (hT' _), fun u => ?_⟩
      show aSs _ _ _ ((q, D.lst (rs.map rowD)) :: noted CH CM CB (S.set i (p, .pen (n + 10))) ib ip iu b pl (⟨rowsT m.h d gs, m.t, actD (.rows d gs)⟩ :: m :: ms) u) _
      refine aSs_cons (aS_expr ?_)
      walk_at "w"
      refine ⟨0, q, _, ⟨rfl, rfl⟩, ?_⟩
      refine aSs_one (aS_ret (aE_drop 0 ?_))
      walk_at "w"
      exact hR u
  | wall d =>
    have h1' := (hb' (n + 10)).b
    refine aSs.imp ?_ (pen_imp hi (m := n + 10) (by omega))
    walk_at "w"
    exact ⟨ib, ip, iu, b, pl, ul, m, ms, us, d, rfl, hb' _, hl, mo, ha, hT' _, hR⟩
  | open_ d =>
    obtain ⟨g, hg⟩ := valP_mem ha
    have h1' := (hb' (n + 10)).b
    refine aSs.imp ?_ (pen_imp hi (m := n + 10) (by omega))
    walk_at "w"
    exact ⟨ib, ip, iu, b, pl, ul, m, ms, us, d, g, rfl, hb' _, hl, mo, hg, hT' _, hR⟩
end

end
-- T22
/-! Small data, shown. -/
section
open PySem L2 DL
theorem oNeSame {S : Store} {P : Bool → Store → Prop} {s : Str} (q : P false S) : aEq true (.str s) (.str s) S (isB P) := oNeS (by rw [decide_eq_true rfl]; exact q)
structure Sh (d : D) (p : PyData) (dp wt : Nat) : Prop where
  e : py d = some p
  s : p.showable = true
  n : p.hasDict = false
  c : p.canLay0 = true
  i : p.intsShort 13 = true
  d : p.depth ≤ dp
  w : p.weight ≤ wt
structure ShL (l : List D) (ps : List PyData) (dp wt : Nat) : Prop where
  e : pyL l = some ps
  s : PyData.showableAll ps = true
  n : PyData.hasDictAll ps = false
  c : PyData.canLayAll0 ps = true
  i : PyData.intsShortAll 13 ps = true
  d : PyData.depthAll ps ≤ dp
  w : PyData.weightAll ps ≤ wt
theorem Sh.mono {d : D} {p : PyData} {a b c e : Nat} (h : Sh d p a b) (h1 : a ≤ c) (h2 : b ≤ e) : Sh d p c e := ⟨h.e, h.s, h.n, h.c, h.i, Nat.le_trans h.d h1, Nat.le_trans h.w h2⟩
theorem ShL.mono {d : List D} {p : List PyData} {a b c e : Nat} (h : ShL d p a b) (h1 : a ≤ c) (h2 : b ≤ e) : ShL d p c e := ⟨h.e, h.s, h.n, h.c, h.i, Nat.le_trans h.d h1, Nat.le_trans h.w h2⟩
theorem ShL.nil {a b : Nat} : ShL [] [] a b := ⟨rfl, by simp [PyData.showableAll], by simp [PyData.hasDictAll], by simp [PyData.canLayAll0], by simp [PyData.intsShortAll], by simp [PyData.depthAll], by simp [PyData.weightAll]⟩
theorem ShL.cons {d : D} {p : PyData} {l : List D} {ps : List PyData} {a b c : Nat} (h : Sh d p a b) (t : ShL l ps a c) : ShL (d :: l) (p :: ps) a (b + 1 + c) where
  e := by
    show (py d).bind (fun p => (pyL l).map (p :: ·)) = _
    rw [h.e, t.e]; rfl
  s := by simp [PyData.showableAll, h.s, t.s]
  n := by simp [PyData.hasDictAll, h.n, t.n]
  c := by simp [PyData.canLayAll0, h.c, t.c]
  i := by simp [PyData.intsShortAll, h.i, t.i]
  d := by
    have h1 := h.d
    have h2 := t.d
    simp only [PyData.depthAll]
    omega
  w := by
    have h1 := h.w
    have h2 := t.w
    simp only [PyData.weightAll]
    omega
theorem ShL.map {α : Type} {f : α → D} {g : α → PyData} {a b : Nat} : ∀ {l : List α}, (∀ x ∈ l, Sh (f x) (g x) a b) → ShL (l.map f) (l.map g) a ((b + 1) * l.length)
  | [], _ => .nil
  | x :: l, h => by
    have h1 := ShL.cons (h x List.mem_cons_self) (ShL.map (l := l) fun y hy => h y (List.mem_cons_of_mem _ hy))
    refine h1.mono (Nat.le_refl _) ?_
    rw [List.length_cons, Nat.mul_add, Nat.mul_one]
    omega
theorem ShL.tup {l : List D} {ps : List PyData} {a b : Nat} (h : ShL l ps a b) : Sh (.tup l) (.tuple ps) (a + 1) b := by
  refine ⟨?_, ?_, ?_, ?_, ?_, ?_, ?_⟩
  · show (pyL l).map PyData.tuple = _
    rw [h.e]; rfl
  · simp only [PyData.showable]; exact h.s
  · simp only [PyData.hasDict]; exact h.n
  · simp only [PyData.canLay0]; exact h.c
  · simp only [PyData.intsShort]; exact h.i
  · simp only [PyData.depth]; have := h.d; omega
  · simp only [PyData.weight]; exact h.w
theorem ShL.lst {l : List D} {ps : List PyData} {a b : Nat} (h : ShL l ps a b) : Sh (.lst l) (.list ps) (a + 1) b := by
  refine ⟨?_, ?_, ?_, ?_, ?_, ?_, ?_⟩
  · show (pyL l).map PyData.list = _
    rw [h.e]; rfl
  · simp only [PyData.showable]; exact h.s
  · simp only [PyData.hasDict]; exact h.n
  · simp only [PyData.canLay0]; exact h.c
  · simp only [PyData.intsShort]; exact h.i
  · simp only [PyData.depth]; have := h.d; omega
  · simp only [PyData.weight]; exact h.w
theorem Sh.str {x : Str} (h : nameOk x) {a : Nat} : Sh (.str x) (.str x) a 8 :=
  ⟨rfl, by simp [PyData.showable], by simp [PyData.hasDict], by simp [PyData.canLay0, strOkN h], by simp [PyData.intsShort], by simp [PyData.depth], by simp only [PyData.weight]; have : x.cps.size < 9 := h.2.1; omega⟩
theorem Sh.non {a b : Nat} : Sh .non .none a b :=
  ⟨rfl, by simp [PyData.showable], by simp [PyData.hasDict], by simp [PyData.canLay0], by simp [PyData.intsShort], by simp [PyData.depth], by simp [PyData.weight]⟩
theorem int_len {n : Nat} (h : n < 10 ^ 8) : (PyData.shown (.int (n : Int))).length ≤ 8 := by
  rw [PyData.shown_int]
  show (Str.ofString (toString (n : Int))).length ≤ 8
  rw [TL.len_tl, TL.tl_num]
  exact TL.numL_len (by decide) h
theorem log_lt {n : Nat} (h : n < 100000000) : n.log2 < 27 := by
  by_cases e : n = 0
  · subst e; decide
  · exact (Nat.log2_lt e).mpr (Nat.lt_trans h (by decide))
theorem Sh.int {k : Int} (h : I7 k) {a : Nat} : Sh (.int k) (.int k) a 27 := by
  obtain ⟨n, e⟩ : ∃ n : Nat, k = n := ⟨k.toNat, by have := h.1; omega⟩
  subst e
  have hn : n < 100000000 := by have := h.2; omega
  have hl := log_lt hn
  refine ⟨rfl, ?_, by simp [PyData.hasDict], by simp [PyData.canLay0], ?_, by simp [PyData.depth], ?_⟩
  · simp only [PyData.showable, decide_eq_true_eq]
    show (Int.natAbs (n : Int)).log2 < 1920
    rw [Int.natAbs_natCast]; omega
  · simp only [PyData.intsShort, decide_eq_true_eq]
    have := int_len (n := n) (by omega)
    omega
  · simp only [PyData.weight]
    split
    · omega
    · rw [Int.natAbs_natCast]; omega
theorem Sh.len {d : D} {p : PyData} {a b : Nat} (h : Sh d p a b) (ha : a ≤ 40) (hb : b ≤ 1048576) : p.shown.length ≤ 16000000 := by
  refine Nat.le_trans (PyProof.Rows.shown_le13 ?_ h.i) (by decide)
  unfold PyData.layable0
  have h1 := h.d
  have h2 := h.w
  have e : (2 : Nat) ^ 20 = 1048576 := by decide
  rw [h.c, e]
  simp only [Bool.true_and, Bool.and_eq_true, decide_eq_true_eq]
  omega
/-- what a repr asks -/
theorem Sh.py {S : Store} {d : D} {p : PyData} {a b : Nat} (h : Sh d p a b) : PyT S d p := .inl (.inl h.e)
theorem Sh.dp {d : D} {p : PyData} {a b : Nat} (h : Sh d p a b) (ha : a ≤ 40) : p.depth ≤ 40 := Nat.le_trans h.d ha
theorem ShL.pyA {S : Store} {x : D} {l : List D} {ps : List PyData} {a b : Nat} (h : ShL l ps a b) (r : ResL S x l) : PyT S x (.list ps) := .inl (.inr ⟨l, ps, r, h.e, rfl⟩)
/-! of halls, stands, acts -/
def rowP (r : Row) : PyData := .tuple [.str r.room, .int r.least, match r.most with | none => .none | some k => .int k]
def gateP (g : Gate) : PyData := .tuple [.str g.a, .str g.b, .str (wayS g.both), .tuple (g.rows.map rowP)]
def standP (t : StandT) : PyData := .tuple [.int t.turn, .tuple (t.rooms.map PyData.str), .tuple (t.places.map PyData.str)]
def wordOk (x : Str) : Prop := nameOk x
theorem word_both : nameOk "both" := by decide +kernel
theorem word_on : nameOk "on" := by decide +kernel
theorem sh_row {r : Row} (hr : nameOk r.room) (hb : RowB r) {a : Nat} : Sh (rowD r) (rowP r) (a + 1) 65 := by
  unfold rowP
  have h3 : Sh (oI r.most) (match r.most with | none => PyData.none | some k => PyData.int k) a 27 := by
    have hm := hb.m
    generalize r.most = o at hm
    cases o with
    | none => exact .non
    | some k => exact .int (hm k rfl)
  exact (ShL.cons (.str hr) (.cons (.int hb.l) (.cons h3 (.nil (b := 0))))).tup.mono (Nat.le_refl _) (by decide)
theorem sh_rows {l : List Row} (hl : l.length ≤ 4) (h : ∀ r ∈ l, nameOk r.room ∧ RowB r) {a : Nat} : Sh (rowsD l) (.tuple (l.map rowP)) (a + 2) 264 :=
  (ShL.map (f := rowD) (g := rowP) (a := a + 1) (b := 65) fun r hr => sh_row (h r hr).1 (h r hr).2).tup.mono (Nat.le_refl _) (Nat.mul_le_mul_left 66 hl)
theorem sh_gate {g : Gate} {rooms : List Str} (hg : GateOk rooms g) (r4 : rooms.length ≤ 4) (hr : ∀ x ∈ rooms, nameOk x) (hb : ∀ r ∈ g.rows, RowB r) : Sh (gateD g) (gateP g) 3 300 := by
  unfold gateP
  have hl : g.rows.length ≤ 4 := by
    have := hg.rows.length_le
    rw [List.length_map] at this
    omega
  have hw : nameOk (wayS g.both) := by
    unfold wayS
    cases g.both
    · exact word_on
    · exact word_both
  exact (ShL.cons (.str (hr _ hg.a)) (.cons (.str (hr _ hg.b)) (.cons (.str hw) (.cons (sh_rows hl fun r h => ⟨hr _ (hg.rows.subset (List.mem_map.mpr ⟨r, h, rfl⟩)), hb r h⟩) (.nil (b := 0)))))).tup.mono (Nat.le_refl _) (by decide)
theorem sh_strs {l : List Str} (h : ∀ x ∈ l, nameOk x) {a : Nat} : ShL (l.map D.str) (l.map PyData.str) a (9 * l.length) := ShL.map (f := D.str) (g := PyData.str) fun x hx => .str (h x hx)
theorem sh_stand {h : HallT} {t : StandT} (ho : HallOk h) (hb : HallB h) (so : StandOk h t) : Sh (standD t) (standP t) 3 100 := by
  unfold standP
  have ht : I7 (t.turn : Int) := by
    have h1 := so.t
    have h2 := ho.f3
    exact ⟨by omega, by omega⟩
  have f3 := ho.f3
  have s3 := ho.s3
  have h1 : ShL (t.rooms.map D.str) (t.rooms.map PyData.str) 1 27 := (sh_strs fun x hx => hb.rk x (so.r x hx)).mono (Nat.le_refl _) (by have := so.rl; omega)
  have h2 : ShL (t.places.map D.str) (t.places.map PyData.str) 1 27 := (sh_strs fun x hx => (so.p x hx).elim (hb.rk x) (hb.fk x)).mono (Nat.le_refl _) (by have := so.pl; omega)
  exact (ShL.cons (.int ht) (.cons h1.tup (.cons h2.tup (.nil (b := 0))))).tup.mono (Nat.le_refl _) (by decide)
def actP : Act → PyData
  | .do_ e => .tuple [.str "do", deedP e]
  | .heft n k => .tuple [.str "heft", .str n, .int k]
  | .rows d gs => .tuple [.str "rows", .str d, .tuple (gs.map rowP)]
  | .wall d => .tuple [.str "wall", .str d]
  | .open_ d => .tuple [.str "open", .str d]
/-- an act that can be shown, whatever becomes of the hall later -/
def ActS : Act → Prop
  | .do_ e => okD e
  | .heft n k => nameOk n ∧ I7 k
  | .rows d gs => nameOk d ∧ gs.length ≤ 4 ∧ ∀ r ∈ gs, nameOk r.room ∧ RowB r
  | .wall d => nameOk d
  | .open_ d => nameOk d
theorem act_s {h : HallT} {t : StandT} {a : Act} (ho : HallOk h) (hb : HallB h) (ha : ActOk h t a) (hs : ActB a) : ActS a := by
  cases a with
  | do_ e => exact ha.2
  | heft n k => exact ⟨ha.elim (ho.sk n) (hb.fk n), hs⟩
  | rows d gs =>
    refine ⟨ho.dk d ha.1, ?_, fun r hr => ⟨hb.rk _ (ha.2.subset (List.mem_map.mpr ⟨r, hr, rfl⟩)), hs r hr⟩⟩
    have h1 := ha.2.length_le
    have h2 := ho.r4
    rw [List.length_map] at h1
    omega
  | wall d => exact ho.dk d ha
  | open_ d => exact ho.dk d ha
theorem sh_deed {e : Deed} (h : okD e) {a : Nat} : Sh (deedD e) (deedP e) (a + 1) 18 := by
  have w1 : nameOk "go" := by decide +kernel
  have w2 : nameOk "lift" := by decide +kernel
  have w3 : nameOk "lay" := by decide +kernel
  have w4 : nameOk "wait" := by decide +kernel
  cases e with
  | go d => exact (ShL.cons (.str w1) (.cons (.str (show nameOk d from h)) (.nil (b := 0)))).tup.mono (Nat.le_refl _) (by decide)
  | lift d => exact (ShL.cons (.str w2) (.cons (.str (show nameOk d from h)) (.nil (b := 0)))).tup.mono (Nat.le_refl _) (by decide)
  | lay d => exact (ShL.cons (.str w3) (.cons (.str (show nameOk d from h)) (.nil (b := 0)))).tup.mono (Nat.le_refl _) (by decide)
  | wait => exact (ShL.cons (.str w4) (.nil (b := 0))).tup.mono (Nat.le_refl _) (by decide)
theorem sh_act {a : Act} (h : ActS a) : Sh (actD a) (actP a) 3 300 := by
  have w1 : nameOk "do" := by decide +kernel
  have w2 : nameOk "heft" := by decide +kernel
  have w3 : nameOk "rows" := by decide +kernel
  have w4 : nameOk "wall" := by decide +kernel
  have w5 : nameOk "open" := by decide +kernel
  cases a with
  | do_ e => exact (ShL.cons (.str w1) (.cons (sh_deed (show okD e from h) (a := 1)) (.nil (b := 0)))).tup.mono (Nat.le_refl _) (by decide)
  | heft n k => exact (ShL.cons (.str w2) (.cons (.str h.1) (.cons (.int h.2) (.nil (b := 0))))).tup.mono (by decide : 1 ≤ 3) (by decide)
  | rows d gs => exact (ShL.cons (.str w3) (.cons (.str h.1) (.cons (sh_rows h.2.1 h.2.2) (.nil (b := 0))))).tup.mono (Nat.le_refl _) (by decide)
  | wall d => exact (ShL.cons (.str w4) (.cons (.str (show nameOk d from h)) (.nil (b := 0)))).tup.mono (by decide : 1 ≤ 3) (by decide)
  | open_ d => exact (ShL.cons (.str w5) (.cons (.str (show nameOk d from h)) (.nil (b := 0)))).tup.mono (by decide : 1 ≤ 3) (by decide)
theorem sh_acts {l : List Act} (h : ∀ a ∈ l, ActS a) (hl : l.length ≤ 3000) : ShL (l.map actD) (l.map actP) 3 903000 := (ShL.map (f := actD) (g := actP) fun a ha => sh_act (h a ha)).mono (Nat.le_refl _) (by omega)
end
-- T23
/-! The law's lists and the book's moments, with the acts. -/
section
open PySem L2 DL
def SameM (m : MomE) (e : KeptE) : Prop := m.h = e.h ∧ m.t = e.t
inductive SameA : List MomE → List KeptE → List Act → Prop
  | one {m : MomE} {e : KeptE} : SameM m e → KeptOk e → SameA [m] [e] []
  | cons {m : MomE} {e : KeptE} {a : Act} {ms : List MomE} {es : List KeptE} {as : List Act} : SameM m e → KeptOk e → m.a = actD a → ActS a → SameA ms es as → SameA (m :: ms) (e :: es) (a :: as)
theorem SameA.lenE : ∀ {ms : List MomE} {es : List KeptE} {as : List Act}, SameA ms es as → ms.length = es.length
  | _, _, _, .one _ _ => rfl
  | _, _, _, .cons _ _ _ _ h => congrArg (· + 1) h.lenE
theorem SameA.lenA : ∀ {ms : List MomE} {es : List KeptE} {as : List Act}, SameA ms es as → ms.length = as.length + 1
  | _, _, _, .one _ _ => rfl
  | _, _, _, .cons _ _ _ _ h => congrArg (· + 1) h.lenA
theorem SameA.okA : ∀ {ms : List MomE} {es : List KeptE} {as : List Act}, SameA ms es as → ∀ a ∈ as, ActS a
  | _, _, _, .one _ _, _, h => (List.not_mem_nil h).elim
  | _, _, _, .cons _ _ _ h1 h2, a, h => by
    rcases List.mem_cons.mp h with h | h
    · rw [h]; exact h1
    · exact h2.okA a h
theorem SameA.acts : ∀ {ms : List MomE} {es : List KeptE} {as : List Act}, SameA ms es as → (ms.reverse.drop 1).map (·.a) = as.reverse.map actD
  | _, _, _, .one _ _ => rfl
  | _, _, _, .cons (m := m) (ms := ms) (a := a) (as := as) _ _ h0 _ h => by
    have hl : 1 ≤ ms.reverse.length := by rw [List.length_reverse, h.lenA]; omega
    rw [List.reverse_cons, List.drop_append_of_le_length hl, List.map_append, h.acts, List.reverse_cons, List.map_append]
    show _ ++ [m.a] = _ ++ [actD a]
    rw [h0]
theorem SameA.get : ∀ {ms : List MomE} {es : List KeptE} {as : List Act}, SameA ms es as → ∀ {k : Nat}, k < ms.length → ∃ m e, ms[k]? = some m ∧ es[k]? = some e ∧ SameM m e ∧ KeptOk e
  | _, _, _, .one h1 h2, 0, _ => ⟨_, _, rfl, rfl, h1, h2⟩
  | _, _, _, .cons h1 h2 _ _ _, 0, _ => ⟨_, _, rfl, rfl, h1, h2⟩
  | _, _, _, .cons _ _ _ _ h, k + 1, hk => h.get (Nat.lt_of_succ_lt_succ hk)
  | _, _, _, .one _ _, k + 1, hk => absurd hk (by simp)
theorem rev_get {α : Type} {l : List α} {k : Nat} (h : k < l.length) : l.reverse[k]? = l[l.length - 1 - k]? := List.getElem?_reverse h
theorem SameA.rget {ms : List MomE} {es : List KeptE} {as : List Act} (h : SameA ms es as) {k : Nat} (hk : k < ms.length) : ∃ m e, ms.reverse[k]? = some m ∧ es.reverse[k]? = some e ∧ SameM m e ∧ KeptOk e := by
  rw [rev_get hk, rev_get (by rw [← h.lenE]; exact hk), ← h.lenE]
  exact h.get (by omega)
theorem SameA.hd {m : MomE} {ms : List MomE} {es : List KeptE} {as : List Act} (h : SameA (m :: ms) es as) : MomOk m := by
  cases h with
  | one h1 h2 => exact ⟨by rw [h1.1]; exact h2.h, by rw [h1.1, h1.2]; exact h2.t⟩
  | cons h1 h2 _ _ _ => exact ⟨by rw [h1.1]; exact h2.h, by rw [h1.1, h1.2]; exact h2.t⟩
end
-- F22
section
open PySem L2 DL
section
variable {P : Program} {w : World} {K : PySem.W.Frag} {mg : Str → Option Value} {bse : Heap} {C CH CM CB T0 : Addr}
theorem iteNB {A B : Prop} (b : B) : if (!true) = true then A else B := b
abbrev sWhole : Stmt := top 24
abbrev nWhole : List Str := ["thing"]
theorem scWhole : FnScope nWhole ["thing"] (defScope sWhole) := ⟨rfl, rfl, rfl, by decide +kernel, rfl, by decide +kernel, by decide +kernel⟩
def spWhole : ASp := fun ds S R => ∃ k : Int, ds = [.int k] ∧ R (.bl true) S
theorem bWhole (M : Nm mg) (nb : mg "bool" = none) : BodyA P w K mg bse nWhole "is_whole" sWhole 1 spWhole := by
  intro f cdv A outer s H E hr ds S R ⟨k, eds, hR⟩
  have hu : Un _ := ⟨hr.units⟩
  have nd : Names nWhole := ⟨scWhole.nd⟩
  have sc : Scp nWhole (defScope sWhole) := ⟨scWhole.nd⟩
  subst eds
  walk_at "w"
  refine aE_isi (T := "int") M.isinstance M.int rfl ?_
  walk_at "w"
  refine ⟨"int", true, rfl, kitOne_same rfl, true, rfl, ?_⟩
  walk_at "w"
  refine aE_isi (T := "bool") M.isinstance nb rfl ?_
  walk_at "w"
  exact ⟨"int", false, rfl, rfl, false, rfl, hR⟩
abbrev sFrom : Stmt := top 25
abbrev nFrom : List Str := ["thing", "least", "most"]
theorem scFrom : FnScope nFrom ["thing", "least", "most"] (defScope sFrom) := ⟨rfl, rfl, rfl, by decide +kernel, rfl, by decide +kernel, by decide +kernel⟩
def spFrom : ASp := fun ds S R => ∃ k a b : Int, ds = [.int k, .int a, .int b] ∧ a ≤ k ∧ k ≤ b ∧ R (.bl true) S
theorem bFrom (c1 : CalA P w K mg bse 2 "is_whole" spWhole []) : BodyA P w K mg bse nFrom "is_from" sFrom 2 spFrom := by
  intro f cdv A outer s H E hr ds S R ⟨k, a, b, eds, h1, h2, hR⟩
  have hu : Un _ := ⟨hr.units⟩
  have nd : Names nFrom := ⟨scFrom.nd⟩
  have sc : Scp nFrom (defScope sFrom) := ⟨scFrom.nd⟩
  subst eds
  walk_at "w"
  refine ⟨k, rfl, true, rfl, ?_⟩
  walk_at "w"
  refine aE_chainLe ?_
  walk_at "w"
  refine ⟨_, _, rfl, rfl, iteDT h1 ?_⟩
  walk_at "w"
  rw [decide_eq_true h2]
  exact hR
abbrev sMomAt : Stmt := inClass (top 45) 3
abbrev nMomAt : List Str := ["self", "moment"]
theorem scMomAt : FnScope nMomAt ["self", "moment"] (defScope sMomAt) := ⟨rfl, rfl, rfl, by decide +kernel, rfl, by decide +kernel, by decide +kernel⟩
def oN (o : Option Nat) : D := match o with
  | none => .non
  | some k => .int k
def pickM (ms : List MomE) : Option Nat → Option MomE
  | none => ms[0]?
  | some k => ms.reverse[k]?
def spMomAt (CH CM CB : Addr) : ASp := fun ds S R => ∃ (ib ip iu : Nat) (b pl ul : Addr) (ms us : List MomE) (o : Option Nat) (m : MomE), ds = [.adr b, oN o] ∧ BookAt CH CM CB S ib ip iu b pl ul ms us ∧ pickM ms o = some m ∧ R (momD CH CM m) S
theorem bMomAt (hc : BookC K CB) (M : Nm mg) (c1 : CalA P w K mg bse 3 "is_from" spFrom []) : BodyA P w K mg bse nMomAt "Book.moment_at" sMomAt 3 (spMomAt CH CM CB) := by
  intro f cdv A outer s H E hr ds S R ⟨ib, ip, iu, b, pl, ul, ms, us, o, m, eds, hb, hm, hR⟩
  have hu : Un _ := ⟨hr.units⟩
  have nd : Names nMomAt := ⟨scMomAt.nd⟩
  have sc : Scp nMomAt (defScope sMomAt) := ⟨scMomAt.nd⟩
  subst eds
  have h1 := hb.b
  have h2 := hb.p
  have lenN := M.len
  cases o with
  | none =>
    walk_at "w"
    refine oIxL (rA h2) (momL_back (k := 0) hm) ?_
    walk_at "w"
    exact hR
  | some k =>
    walk_at "w"
    refine ⟨_, .inr (.inl ⟨_, qA h2, rfl⟩), ?_⟩
    rw [momL_len]
    walk_at "w"
    have hk : k < ms.length := by
      have := (List.getElem?_eq_some_iff.mp hm).1
      rwa [List.length_reverse] at this
    refine ⟨(k : Int), 0, (ms.length : Int) - 1, rfl, by omega, by omega, true, rfl, ?_⟩
    refine iteNB ?_
    walk_at "w"
    refine oIxL (rA h2) (atI_map (atI_any hm rfl)) ?_
    walk_at "w"
    exact hR
abbrev sHallAt : Stmt := inClass (top 45) 4
abbrev nHallAt : List Str := ["self", "moment"]
theorem scHallAt : FnScope nHallAt ["self", "moment"] (defScope sHallAt) := ⟨rfl, rfl, rfl, by decide +kernel, rfl, by decide +kernel, by decide +kernel⟩
def spHallAt (CH CM CB : Addr) : ASp := fun ds S R => ∃ (ib ip iu : Nat) (b pl ul : Addr) (ms us : List MomE) (o : Option Nat) (m : MomE), ds = [.adr b, oN o] ∧ BookAt CH CM CB S ib ip iu b pl ul ms us ∧ pickM ms o = some m ∧ R (hallI CH m.h) S
theorem bHallAt (hc : BookC K CB) (hm : MomC K CM) (c1 : MetA P w K mg bse 4 CB "moment_at" (spMomAt CH CM CB)) : BodyA P w K mg bse nHallAt "Book.hall_at" sHallAt 4 (spHallAt CH CM CB) := by
  intro f cdv A outer s H E hr ds S R ⟨ib, ip, iu, b, pl, ul, ms, us, o, m, eds, hb, hp, hR⟩
  have hu : Un _ := ⟨hr.units⟩
  have nd : Names nHallAt := ⟨scHallAt.nd⟩
  have sc : Scp nHallAt (defScope sHallAt) := ⟨scHallAt.nd⟩
  subst eds
  have h1 := hb.b
  walk_at "w"
  refine ⟨ib, ip, iu, b, pl, ul, ms, us, o, m, rfl, hb, hp, ?_⟩
  walk_at "w"
  exact hR
abbrev sStandAt : Stmt := inClass (top 45) 5
abbrev nStandAt : List Str := ["self", "moment"]
theorem scStandAt : FnScope nStandAt ["self", "moment"] (defScope sStandAt) := ⟨rfl, rfl, rfl, by decide +kernel, rfl, by decide +kernel, by decide +kernel⟩
def spStandAt (CH CM CB : Addr) : ASp := fun ds S R => ∃ (ib ip iu : Nat) (b pl ul : Addr) (ms us : List MomE) (o : Option Nat) (m : MomE), ds = [.adr b, oN o] ∧ BookAt CH CM CB S ib ip iu b pl ul ms us ∧ pickM ms o = some m ∧ R (standD m.t) S
theorem bStandAt (hc : BookC K CB) (hm : MomC K CM) (c1 : MetA P w K mg bse 4 CB "moment_at" (spMomAt CH CM CB)) : BodyA P w K mg bse nStandAt "Book.stand_at" sStandAt 4 (spStandAt CH CM CB) := by
  intro f cdv A outer s H E hr ds S R ⟨ib, ip, iu, b, pl, ul, ms, us, o, m, eds, hb, hp, hR⟩
  have hu : Un _ := ⟨hr.units⟩
  have nd : Names nStandAt := ⟨scStandAt.nd⟩
  have sc : Scp nStandAt (defScope sStandAt) := ⟨scStandAt.nd⟩
  subst eds
  have h1 := hb.b
  walk_at "w"
  refine ⟨ib, ip, iu, b, pl, ul, ms, us, o, m, rfl, hb, hp, ?_⟩
  walk_at "w"
  exact hR
abbrev sActs : Stmt := inClass (top 45) 6
abbrev nActs : List Str := ["self", "one"]
theorem scActs : FnScope nActs ["self"] (defScope sActs) := ⟨rfl, rfl, rfl, by decide +kernel, rfl, by decide +kernel, by decide +kernel⟩
def spActs (CH CM CB : Addr) : ASp := fun ds S R => ∃ (ib ip iu : Nat) (b pl ul : Addr) (ms us : List MomE), ds = [.adr b] ∧ BookAt CH CM CB S ib ip iu b pl ul ms us ∧ ms.length < 1000 ∧
  ∀ p, R (.adr p) ((p, .lst ((ms.reverse.drop 1).map (·.a))) :: S)
theorem bActs (hc : BookC K CB) (hm : MomC K CM) : BodyA P w K mg bse nActs "Book.acts" sActs 1 (spActs CH CM CB) := by
  intro f cdv A outer s H E hr ds S R ⟨ib, ip, iu, b, pl, ul, ms, us, eds, hb, hl, hR⟩
  have hu : Un _ := ⟨hr.units⟩
  have nd : Names nActs := ⟨scActs.nd⟩
  have sc : Scp nActs (defScope sActs) := ⟨scActs.nd⟩
  subst eds
  have h1 := hb.b
  have h2 := hb.p
  walk_at "w"
  refine lcE (.nm 1) [("one", 1)] sc ?_ ⟨rfl, by decide +kernel, by decide +kernel, by decide +kernel, by decide +kernel⟩ (fun _ _ _ _ _ => tgNm nd (by walk_at "n") (by rfl)) rfl rfl rfl (by decide) (by decide)
  refine aI_list ?_
  walk_at "w"
  refine .inr (.inl ⟨_, rA h2, .inl ?_⟩)
  rw [cut_lo (by decide), ← List.map_drop]
  refine ⟨_, rfl, ?_⟩
  refine lcM (fun x => x.a) (by rw [List.length_drop, List.length_reverse]; omega) (fun x hx A => ?_) (.inr fun p => ?_)
  · intro s H C cl fp
    walk_at "w"
    exact ⟨rfl, rfl⟩
  walk_at "w"
  exact hR p
-- Hall.rooms
def spRoomsN (C : Addr) : ASp := fun ds S R => ∃ (h : HallT), ds = [hallI C h] ∧ ∀ p, R (.adr p) ((p, .lst (h.rooms.map D.str)) :: S)
theorem bRoomsN (hc : HallC K C) (M : Nm mg) : BodyA P w K mg bse nRooms "Hall.rooms" sRooms 1 (spRoomsN C) := by
  intro f cdv A outer s H E hr ds S R ⟨h, eds, hR⟩
  have hu : Un _ := ⟨hr.units⟩
  have nd : Names nRooms := ⟨scRooms.nd⟩
  have sc : Scp nRooms (defScope sRooms) := ⟨scRooms.nd⟩
  subst eds
  walk_at "w"
  exact ⟨_, .inl qL, .inr hR⟩
end

end
-- F23
section
open PySem L2 DL
section
variable {P : Program} {w : World} {K : PySem.W.Frag} {mg : Str → Option Value} {bse : Heap} {C CH CM CB T0 : Addr}
theorem oEq0Q {S : Store} {Q : D → Store → Prop} {l : List D} {d : D} (r : ResL S d l) (q : Q (.bl (decide (l.length = 0))) S) : aEq false d (.lst []) S Q := .inr (.inl ⟨l, [], r, .inl rfl, .inl rfl, q⟩)
abbrev sHRight : Stmt := top 67
abbrev nHRight : List Str := ["found", "hall", "folk", "one", "lists", "name"]
theorem scHRight : FnScope nHRight ["found", "hall"] (defScope sHRight) := ⟨rfl, rfl, rfl, by decide +kernel, rfl, by decide +kernel, by decide +kernel⟩
def spHRight (CH : Addr) : ASp := fun ds S R => ∃ (L : List (Key × D)) (h : HallT), ds = [hallI CH h, .dct L] ∧ HallL L h ∧ HallOk h ∧ HallB h ∧ R (.bl true) S
theorem bHRight (M : Nm mg) (HM : HallM P w K mg bse CH) : BodyG P w K mg bse nHRight "_law_hall_right" sHRight 2 (spHRight CH) := by
  intro f cdv A outer s H E hr G ds S R ⟨L, h, eds, hL, ho, hob, hR⟩
  have hu : Un _ := ⟨hr.units⟩
  have nd : Names nHRight := ⟨scHRight.nd⟩
  have sc : Scp nHRight (defScope sHRight) := ⟨scHRight.nd⟩
  subst eds
  have m1 := HM.rooms
  have m2 := HM.doors
  have m3 := HM.stones
  have m4 := HM.walkers
  have m5 := HM.door
  have m6 := HM.heft
  have m7 := HM.hands
  have l1 := hL.rooms
  have l2 := hL.stones
  have l3 := hL.walkers
  have l4 := hL.doors
  have f3 := ho.f3
  have s3 := ho.s3
  have r4 := ho.r4
  have d5 := ho.d5
  walk_at "w"
  refine lcS (.nm 3) [("one", 3)] sc (by walk_at "n") ?_ ⟨rfl, by decide +kernel, by decide +kernel, by decide +kernel, by decide +kernel⟩ (fun _ _ _ _ _ => tgNm nd (by walk_at "n") (by rfl)) rfl rfl rfl (by decide) (by decide)
  refine aI_list ?_
  walk_at "w"
  refine ⟨_, rfl, ?_⟩
  refine lcM (fun x => .str x.name) (by omega) (fun x hx A => ?_) (.inl ?_)
  · intro s H C cl fp
    walk_at "w"
    exact ⟨rfl, rfl⟩
  rw [← fn_map]
  have shL : Sh (.lst [.lst (h.rooms.map D.str), .lst ((dnames h).map D.str), .lst ((snames h).map D.str), .lst ((fnames h).map D.str)]) (.list [.list (h.rooms.map PyData.str), .list ((dnames h).map PyData.str), .list ((snames h).map PyData.str), .list ((fnames h).map PyData.str)]) 2 1000 := by
    have q1 : ShL (h.rooms.map D.str) (h.rooms.map PyData.str) 0 100 := (sh_strs hob.rk).mono (Nat.le_refl _) (by omega)
    have q2 : ShL ((dnames h).map D.str) ((dnames h).map PyData.str) 0 100 := (sh_strs ho.dk).mono (Nat.le_refl _) (by unfold dnames; rw [List.length_map]; omega)
    have q3 : ShL ((snames h).map D.str) ((snames h).map PyData.str) 0 100 := (sh_strs ho.sk).mono (Nat.le_refl _) (by unfold snames; rw [List.length_map]; omega)
    have q4 : ShL ((fnames h).map D.str) ((fnames h).map PyData.str) 0 100 := (sh_strs hob.fk).mono (Nat.le_refl _) (by unfold fnames; rw [List.length_map]; omega)
    exact (ShL.cons q1.lst (.cons q2.lst (.cons q3.lst (.cons q4.lst (.nil (b := 0)))))).lst.mono (Nat.le_refl _) (by decide)
  walk_at "w"
  refine ⟨h, rfl, ?_⟩
  walk_at "w"
  refine ⟨h, rfl, ?_⟩
  walk_at "w"
  refine ⟨h, rfl, ?_⟩
  walk_at "w"
  refine ⟨h, rfl, ?_⟩
  walk_at "w"
  refine .inl ?_
  walk_at "w"
  refine aE_repr G hu.h M.repr ?_
  walk_at "w"
  refine ⟨⟨_, .inr (.inl rfl)⟩, _, shL.py, shL.s, shL.n, shL.dp (by decide), shL.len (by decide) (by decide), ?_⟩
  refine aE_repr G hu.h M.repr ?_
  walk_at "w"
  refine ⟨dnames h, .inr ⟨_, rD, dctS_keys'⟩, by unfold dnames; rw [List.length_map]; omega, .inl ?_⟩
  rw [ho.ds]
  walk_at "w"
  refine ⟨snames h, .inr ⟨_, rD, dctS_keys'⟩, by unfold snames; rw [List.length_map]; omega, .inl ?_⟩
  rw [ho.ss]
  walk_at "w"
  refine .inl ?_
  refine ⟨⟨_, .inr (.inl rfl)⟩, _, shL.py, shL.s, shL.n, shL.dp (by decide), shL.len (by decide) (by decide), ?_⟩
  refine oNeS (iteNF rfl ?_)
  walk_at "w"
  refine lcED (.nm 5) [("name", 5)] sc dw_keys (evS nd (by walk_at "n") (by rfl) hu (by rfl) l4) ?_ ⟨rfl, by decide +kernel, by decide +kernel, by decide +kernel, by decide +kernel⟩ (fun _ _ _ _ _ => tgNm nd (by walk_at "n") (by rfl)) rfl rfl rfl (by decide) (by decide)
  rw [show keysD (dctS gateD h.doors) = h.doors.map fun x => D.str x.1 by unfold keysD; rw [dctS_keys]; exact dn_map]
  refine lcF (fun _ => false) (fun x => .str x.1) (by omega) (fun x hx A => ?_) (.inl ?_)
  · intro s H C cl fp
    have sh := sh_gate (ho.dg x hx) r4 hob.rk (hob.gb x hx)
    walk_at "w"
    refine aE_repr G hu.h M.repr ?_
    walk_at "w"
    refine ⟨h, x.1, x.2, rfl, valP_nd ho.dn hx, ?_⟩
    refine ⟨⟨_, .inl rfl⟩, _, sh.py, sh.s, sh.n, sh.dp (by decide), sh.len (by decide) (by decide), ?_⟩
    refine aE_repr G hu.h M.repr ?_
    walk_at "w"
    refine oIxS rD (valP_nd ho.dn hx) ?_
    refine ⟨⟨_, .inl rfl⟩, _, sh.py, sh.s, sh.n, sh.dp (by decide), sh.len (by decide) (by decide), ?_⟩
    exact oNeS ⟨rfl, by simp, fun hb => absurd hb (by simp)⟩
  rw [show (h.doors.filter fun _ => false).map (fun x => D.str x.1) = [] by simp]
  walk_at "w"
  refine .inl (oNe0 rL (iteNF rfl ?_))
  walk_at "w"
  refine lcED (.nm 5) [("name", 5)] sc dw_keys (evS nd (by walk_at "n") (by rfl) hu (by rfl) l2) ?_ ⟨rfl, by decide +kernel, by decide +kernel, by decide +kernel, by decide +kernel⟩ (fun _ _ _ _ _ => tgNm nd (by walk_at "n") (by rfl)) rfl rfl rfl (by decide) (by decide)
  rw [show keysD (dctS D.int h.stones) = h.stones.map fun x => D.str x.1 by unfold keysD; rw [dctS_keys]; exact sn_map]
  refine lcF (fun _ => false) (fun x => .str x.1) (by omega) (fun x hx A => ?_) (.inl ?_)
  · intro s H C cl fp
    walk_at "w"
    refine ⟨h, x.1, x.2, rfl, ho.hs hx, ?_⟩
    walk_at "w"
    refine oIxS rD (valP_nd ho.sn hx) ?_
    exact oNeI ⟨rfl, by simp, fun hb => absurd hb (by simp)⟩
  rw [show (h.stones.filter fun _ => false).map (fun x => D.str x.1) = [] by simp]
  walk_at "w"
  refine .inl (oNe0 rL (iteNF rfl ?_))
  walk_at "w"
  refine lcE (.nm 3) [("one", 3)] sc ?_ ⟨rfl, by decide +kernel, by decide +kernel, by decide +kernel, by decide +kernel⟩ (fun _ _ _ _ _ => tgNm nd (by walk_at "n") (by rfl)) rfl rfl rfl (by decide) (by decide)
  refine aI_list ?_
  walk_at "w"
  refine ⟨_, rfl, ?_⟩
  refine lcF (fun _ => false) wkD (by omega) (fun x hx A => ?_) (.inl ?_)
  · intro s H C cl fp
    walk_at "w"
    refine ⟨h, x.name, x.heft, rfl, ho.hf hx, ?_⟩
    walk_at "w"
    refine ⟨h, x.name, x, rfl, ho.fv hx, ?_⟩
    walk_at "w"
    refine .inl ⟨_, rfl, ?_⟩
    rw [cut_lo (by decide)]
    have sp : SeqAt.shaped (.tuple [.int x.heft, .int x.hands]) = true := by simp [SeqAt.shaped, PyData.canLay0, PyData.canLayAll0, PyData.depth, PyData.depthAll]
    exact oNeDT (p := .tuple [.int x.heft, .int x.hands]) (q := .tuple [.int x.heft, .int x.hands]) (b := true) rfl rfl sp sp (by simp [PyData.eqv, PyData.eqvAll]) ⟨rfl, by simp, fun hb => absurd hb (by simp)⟩
  rw [show (h.folk.filter fun _ => false).map wkD = [] by simp]
  walk_at "w"
  exact .inl (oEq0Q rL hR)
abbrev sMRight : Stmt := top 68
abbrev nMRight : List Str := ["book", "kept", "spot", "hall", "stand"]
theorem scMRight : FnScope nMRight ["book", "kept", "spot"] (defScope sMRight) := ⟨rfl, rfl, rfl, by decide +kernel, rfl, by decide +kernel, by decide +kernel⟩
def spMRight (CH CM CB : Addr) : ASp := fun ds S R => ∃ (ib ip iu : Nat) (b pl ul : Addr) (ms us : List MomE) (x : D) (es : List KeptE) (k : Nat) (m : MomE) (e : KeptE), ds = [.adr b, x, .int k] ∧ BookAt CH CM CB S ib ip iu b pl ul ms us ∧ ResL S x (es.map keptD) ∧
  es[k]? = some e ∧ ms.reverse[k]? = some m ∧ SameM m e ∧ KeptOk e ∧ R (.bl true) S
theorem bMRight (hc : BookC K CB) (M : Nm mg) (c1 : MetK P w K mg bse 5 CB "hall_at" ["moment"] (spHallAt CH CM CB)) (c2 : MetK P w K mg bse 5 CB "stand_at" ["moment"] (spStandAt CH CM CB)) (c3 : CalG P w K mg bse 3 "_law_hall_right" (spHRight CH)) : BodyG P w K mg bse nMRight "_law_moment_right" sMRight 5 (spMRight CH CM CB) := by
  intro f cdv A outer s H E hr G ds S R ⟨ib, ip, iu, b, pl, ul, ms, us, x, es, k, m, e, eds, hb, hx, he, hm, hs, ok, hR⟩
  have hu : Un _ := ⟨hr.units⟩
  have nd : Names nMRight := ⟨scMRight.nd⟩
  have sc : Scp nMRight (defScope sMRight) := ⟨scMRight.nd⟩
  subst eds
  have h1 := hb.b
  have sh := sh_stand ok.h ok.b ok.t
  walk_at "w"
  refine aS_asg (.tp [3, 4]) ?_ (tgTp rfl (pgsN nd (by walk_at "n") (by rfl) (pgsN nd (by walk_at "n") (by rfl) (pgsO))))
  walk_at "w"
  refine oIxL hx (atI_map (atI_any he rfl)) ?_
  walk_at "w"
  refine aE_callG c3 hr G ?_
  walk_at "w"
  refine aE_methK c1 hr ?_
  walk_at "w"
  refine ⟨ib, ip, iu, b, pl, ul, ms, us, some k, m, rfl, hb, hm, ?_⟩
  walk_at "w"
  refine ⟨e.L, e.h, by rw [hs.1], ok.L, ok.h, ok.b, true, rfl, ?_⟩
  walk_at "w"
  refine aE_repr G hu.h M.repr ?_
  refine aE_methK c2 hr ?_
  walk_at "w"
  refine ⟨ib, ip, iu, b, pl, ul, ms, us, some k, m, rfl, hb, hm, ?_⟩
  rw [hs.2]
  refine ⟨⟨_, .inl rfl⟩, _, sh.py, sh.s, sh.n, sh.dp (by decide), sh.len (by decide) (by decide), ?_⟩
  refine aE_repr G hu.h M.repr ?_
  walk_at "w"
  refine ⟨⟨_, .inl rfl⟩, _, sh.py, sh.s, sh.n, sh.dp (by decide), sh.len (by decide) (by decide), ?_⟩
  refine oEqSQ ?_
  rw [decide_eq_true rfl]
  exact hR
end

end
-- F24
section
open PySem L2 DL
section
variable {P : Program} {w : World} {K : PySem.W.Frag} {mg : Str → Option Value} {bse : Heap} {CH CM CB T0 : Addr}
abbrev sPen : Stmt := top 47
abbrev nPen : List Str := ["script"]
theorem scPen : FnScope nPen ["script"] (defScope sPen) := ⟨rfl, rfl, rfl, by decide +kernel, rfl, by decide +kernel, by decide +kernel⟩
def spLPen : ASp := fun ds S R => ∃ (ns : List Int), ds = [.scr ns] ∧ ns.length ≤ 63 ∧ ∀ p, R (.adr p) ((p, .pen 0) :: S)
theorem bLPen (M : Nm mg) : BodyA P w K mg bse nPen "_law_pen" sPen 1 spLPen := by
  intro f cdv A outer s H E hr ds S R ⟨ns, eds, hl, hR⟩
  have hu : Un _ := ⟨hr.units⟩
  have nd : Names nPen := ⟨scPen.nd⟩
  have sc : Scp nPen (defScope sPen) := ⟨scPen.nd⟩
  subst eds
  refine aSs_one (aS_ret (aE_newPen ?_))
  refine aE_disp fun p => ?_
  refine aPrs_cons ?_
  walk_at "w"
  refine .inr (.inr (.inl ⟨ns, rfl, .inl ?_⟩))
  refine ⟨_, .inl qL, .inl ?_⟩
  refine aPrs_cons ?_
  walk_at "w"
  refine aPrs_cons ?_
  walk_at "w"
  refine aPrs_nil ?_
  refine ⟨0, rfl, by show 3 ≤ 15; decide, ?_⟩
  have hm : mergeP [] (penL (cutD ns none (some 63)) 0 0) = penL (cutD ns none (some 63)) 0 0 := mergeP_nd (by
    show (([.inr "cells", .inr "turn", .inr "rest"] : List Key)).Nodup
    exact nd_inr (l := ["cells", "turn", "rest"]) (by decide +kernel))
  refine ⟨0, p, 0, rfl, ⟨cutD ns none (some 63), 0, 0, ?_, ?_, by decide, by decide⟩, hR p⟩
  · show some (p, D.dct (mergeP [] (penL (cutD ns none (some 63)) 0 0))) = _
    rw [hm]
    rfl
  · rw [cut_hi (by decide), List.length_take]; omega
abbrev sLaw : Stmt := top 69
abbrev nLaw : List Str := ["script", "pen", "bout", "hall", "stand", "book", "kept", "acts", "k", "act", "told", "spot"]
theorem scLaw : FnScope nLaw ["script"] (defScope sLaw) := ⟨rfl, rfl, rfl, by decide +kernel, rfl, by decide +kernel, by decide +kernel⟩
def nthS (l : List Stmt) (i : Nat) : Stmt := l.getD i (.Pass ⟨0, 0, 0, 0⟩)
def stBout : Stmt := nthS (defBody sLaw) 1
def stK : Stmt := nthS (forBody stBout) 3
abbrev lawSt (CH CM CB ac kp u pl b p : Addr) (as : List Act) (es : List KeptE) (ms : List MomE) (n : Nat) (S : Store) : Store :=
  (ac, .lst (as.reverse.map actD)) :: (kp, .lst (es.reverse.map keptD)) :: (u, .lst (momL CH CM [])) :: (pl, .lst (momL CH CM ms)) :: (b, bookO CB pl u) :: (p, .pen n) :: S
abbrev lawSl (ns : List Int) (p : Addr) (o2 : Option D) (L : List (Key × D)) (t : StandT) (b kp ac : Addr) (o8 o9 o10 o11 : Option D) : Sl := [some (.scr ns), some (.adr p), o2, some (.dct L), some (standD t), some (.adr b), some (.adr kp), some (.adr ac), o8, o9, o10, o11]
theorem kept_snoc {e : KeptE} {ks : List KeptE} : (e :: ks).reverse.map keptD = ks.reverse.map keptD ++ [keptD e] := by
  rw [List.reverse_cons, List.map_append]; rfl
theorem act_snoc {e : Act} {ks : List Act} : (e :: ks).reverse.map actD = ks.reverse.map actD ++ [actD e] := by
  rw [List.reverse_cons, List.map_append]; rfl
theorem tbl_in {CH CM CB ac kp u pl b p : Addr} {as : List Act} {es : List KeptE} {ms : List MomE} {n : Nat} {S : Store} (h : (T0, D.tbl qLam) ∈ S) : (T0, D.tbl qLam) ∈ lawSt CH CM CB ac kp u pl b p as es ms n S :=
  List.mem_cons_of_mem _ (List.mem_cons_of_mem _ (List.mem_cons_of_mem _ (List.mem_cons_of_mem _ (List.mem_cons_of_mem _ (List.mem_cons_of_mem _ h)))))
theorem bookIn {CH CM CB ac kp u pl b p : Addr} {as : List Act} {es : List KeptE} {ms : List MomE} {n : Nat} {S : Store} : BookAt CH CM CB (lawSt CH CM CB ac kp u pl b p as es ms n S) 4 3 2 b pl u ms [] := ⟨rfl, rfl, rfl, by decide⟩
/-- what one turn may leave -/
def TurnPost (CH CM CB : Addr) (E : AEnds) (ns : List Int) (p : Addr) (o2 : Option D) (L : List (Key × D)) (t : StandT) (b kp ac pl : Addr) (o8 o11 : Option D) (c n : Nat) (S : Store) : Prop :=
  ∀ u as es ms n' o9 o10, SameA ms es as → ms.length = c + 1 → n' ≤ n + 111 → E.nx (lawSl ns p o2 L t b kp ac o8 o9 o10 o11) (lawSt CH CM CB ac kp u pl b p as es ms n' S)
structure Cs (P : Program) (w : World) (K : PySem.W.Frag) (mg : Str → Option Value) (bse : Heap) (CH CM CB T0 : Addr) : Prop where
  draw : CalA P w K mg bse 2 "_law_draw" spDraw []
  act : CalA P w K mg bse 5 "_law_act" spLAct []
  tell : CalA P w K mg bse 9 "_law_tell" (spLTell CH CM CB T0) []
  acted : CalA P w K mg bse 4 "_law_acted" spLActed []
  acts : MetA P w K mg bse 2 CB "acts" (spActs CH CM CB)
  hallD : MetD P w K mg bse 5 CB "hall_at" (spHallAt CH CM CB) [.non]
  standD : MetD P w K mg bse 5 CB "stand_at" (spStandAt CH CM CB) [.non]
  rooms : MetA P w K mg bse 2 CH "rooms" (spRoomsN CH)
  hright : CalG P w K mg bse 3 "_law_hall_right" (spHRight CH)
  mright : CalG P w K mg bse 6 "_law_moment_right" (spMRight CH CM CB)
theorem turnL (hc : HallC K CH) (M : Nm mg) (Z : Cs P w K mg bse CH CM CB T0) {f : Addr} {cdv : Value} {A : Around} {outer : List Env} {s : Shared} {H : Hp} {E0 : XK} (hr : Room 9 (cxB P w K mg bse nLaw "law" sLaw f cdv A outer s H E0).A) (G : (cxB P w K mg bse nLaw "law" sLaw f cdv A outer s H E0).A.guards = some [])
    {ns : List Int} {p : Addr} {o2 : Option D} {L : List (Key × D)} {t : StandT} {b kp ac u pl : Addr} {o8 o9 o10 o11 : Option D} {as : List Act} {es : List KeptE} {ms : List MomE} {n : Nat} {S : Store} {E : AEnds} (hs : SameA ms es as) (hl : ms.length < 900) (hn : n + 300 ≤ 2 ^ 60) (hT : (T0, D.tbl qLam) ∈ S)
    (hE : TurnPost CH CM CB E ns p o2 L t b kp ac pl o8 o11 ms.length n S) :
    aSs (cxB P w K mg bse nLaw "law" sLaw f cdv A outer s H E0) (forBody stK) (lawSl ns p o2 L t b kp ac o8 o9 o10 o11) (lawSt CH CM CB ac kp u pl b p as es ms n S) E := by
  have hu : Un _ := ⟨hr.units⟩
  have nd : Names nLaw := ⟨scLaw.nd⟩
  have sc : Scp nLaw (defScope sLaw) := ⟨scLaw.nd⟩
  have lenN := M.len
  have z1 := Z.draw
  have z2 := Z.act
  have z3 := Z.tell
  have z4 := Z.acted
  have z5 := Z.acts
  obtain ⟨m, ms', e, es', em, ee, he, ok⟩ : ∃ m ms' e es', ms = m :: ms' ∧ es = e :: es' ∧ SameM m e ∧ KeptOk e := by
    cases hs with
    | one h1 h2 => exact ⟨_, _, _, _, rfl, rfl, h1, h2⟩
    | cons h1 h2 _ _ _ => exact ⟨_, _, _, _, rfl, rfl, h1, h2⟩
  subst em; subst ee
  have i1 : atI ((e :: es').reverse.map keptD) (-1) = some (keptD e) := atI_map (atI_back (k := 0) rfl)
  have hl2 : ms'.length + 1 < 900 := hl
  have hle := hs.lenE
  have hla := hs.lenA
  rw [List.length_cons, List.length_cons] at hle
  rw [List.length_cons] at hla
  show aSs _ (_ :: _) _ _ _
  walk_at "w"
  refine oIxL (rA (q := 1) rfl) i1 ?_
  walk_at "w"
  refine oIxL (rA (q := 1) rfl) i1 ?_
  walk_at "w"
  refine ⟨5, p, n, e.L, e.h, e.t, rfl, rfl, by omega, ok.L, ok.h, ok.b, ok.t, fun a ha hab => ?_⟩
  show aSs _ _ _ (lawSt CH CM CB ac kp u pl b p as (e :: es') (m :: ms') (n + 100) S) _
  walk_at "w"
  have ha' : ActOk m.h m.t a := by rw [he.1, he.2]; exact ha
  refine ⟨5, p, n + 100, 4, 3, 2, b, pl, u, m, ms', [], a, rfl, rfl, by omega, bookIn, by omega, hs.hd, ha', tbl_in hT, fun u' => ?_⟩
  walk_at "w"
  show _ ∧ aE _ _ _ (lawSt CH CM CB ac kp u' pl b p as (e :: es') (⟨actedH m.h a, actedS m.h m.t a, actD a⟩ :: m :: ms') (n + 110) S) _
  refine ⟨⟨_, rA (q := 0) rfl⟩, ?_⟩
  walk_at "w"
  refine ⟨0, ac, _, ⟨rfl, rfl⟩, by rw [List.length_map, List.length_reverse]; omega, ?_⟩
  rw [← act_snoc]
  show aSs _ _ _ (lawSt CH CM CB ac kp u' pl b p (a :: as) (e :: es') (⟨actedH m.h a, actedS m.h m.t a, actD a⟩ :: m :: ms') (n + 110) S) _
  walk_at "w"
  refine ⟨⟨_, rA (q := 1) rfl⟩, ?_⟩
  walk_at "w"
  refine oIxL (rA (q := 1) rfl) i1 ?_
  walk_at "w"
  refine oIxL (rA (q := 1) rfl) i1 ?_
  walk_at "w"
  refine ⟨e.L, e.h, e.t, a, rfl, ok.L, ok.h, ok.t, ha, fun L' hL' => ?_⟩
  refine ⟨1, kp, _, ⟨rfl, rfl⟩, by rw [List.length_map, List.length_reverse]; show es'.length + 1 < _; omega, ?_⟩
  have e1 : (e :: es').reverse.map keptD ++ [D.tup [.dct L', standD (actedS e.h e.t a)]] = (⟨L', actedH e.h a, actedS e.h e.t a⟩ :: e :: es').reverse.map keptD := (kept_snoc (e := ⟨L', actedH e.h a, actedS e.h e.t a⟩) (ks := e :: es')).symm
  rw [e1]
  obtain ⟨k1, k2⟩ := acted_ok ok.h ok.t ha
  have ok2 : KeptOk ⟨L', actedH e.h a, actedS e.h e.t a⟩ := ⟨hL', k1, k2, acted_b ok.b hab⟩
  have hs2 : SameA (⟨actedH m.h a, actedS m.h m.t a, actD a⟩ :: m :: ms') (⟨L', actedH e.h a, actedS e.h e.t a⟩ :: e :: es') (a :: as) := .cons ⟨by show actedH m.h a = actedH e.h a; rw [he.1], by show actedS m.h m.t a = actedS e.h e.t a; rw [he.1, he.2]⟩ ok2 rfl (act_s ok.h ok.b ha hab) hs
  generalize hm2 : (⟨actedH m.h a, actedS m.h m.t a, actD a⟩ : MomE) = m2 at hs2
  generalize he2 : (⟨L', actedH e.h a, actedS e.h e.t a⟩ : KeptE) = e2 at hs2 ok2
  show aSs _ _ _ (lawSt CH CM CB ac kp u' pl b p (a :: as) (e2 :: e :: es') (m2 :: m :: ms') (n + 110) S) _
  have hb : BookAt CH CM CB (lawSt CH CM CB ac kp u' pl b p (a :: as) (e2 :: e :: es') (m2 :: m :: ms') (n + 110) S) 4 3 2 b pl u' (m2 :: m :: ms') [] := bookIn
  have h1 := hb.b
  have hsm : SameM m2 e2 := by cases hs2 with | cons h _ _ _ _ => exact h
  have i2 : atI ((e2 :: e :: es').reverse.map keptD) (-1) = some (keptD e2) := atI_map (atI_back (k := 0) rfl)
  have shS := sh_stand ok2.h ok2.b ok2.t
  have z6 := Z.rooms
  have shA := sh_acts (l := (a :: as).reverse) (fun x hx => hs2.okA x (List.mem_reverse.mp hx)) (by rw [List.length_reverse, List.length_cons]; omega)
  walk_at "w"
  refine ⟨4, 3, 2, b, pl, u', _, [], rfl, bookIn, by show ms'.length + 1 + 1 < 1000; omega, fun q => ?_⟩
  rw [hs2.acts]
  walk_at "w"
  refine aE_repr G hu.h M.repr ?_
  walk_at "w"
  refine ⟨⟨[], .inr (.inr ⟨_, rfl⟩)⟩, _, shA.pyA (rA (q := 0) rfl), shA.lst.s, shA.lst.n, shA.lst.dp (by decide), shA.lst.len (by decide) (by decide), ?_⟩
  refine aE_repr G hu.h M.repr ?_
  walk_at "w"
  refine ⟨⟨[], .inr (.inr ⟨_, rfl⟩)⟩, _, shA.pyA (rA (q := 1) rfl), shA.lst.s, shA.lst.n, shA.lst.dp (by decide), shA.lst.len (by decide) (by decide), ?_⟩
  refine oNeSame ?_
  walk_at "w"
  refine ⟨0, q, _, ⟨rfl, rfl⟩, ?_⟩
  refine aSs.imp ?_ (drop_obj 0)
  show aSs _ _ _ (lawSt CH CM CB ac kp u' pl b p (a :: as) (e2 :: e :: es') (m2 :: m :: ms') (n + 110) S) _
  walk_at "w"
  refine aE_callG Z.hright hr G ?_
  walk_at "w"
  refine aE_methD0 Z.hallD hr ?_
  walk_at "w"
  refine ⟨4, 3, 2, b, pl, u', _, [], none, m2, rfl, hb, rfl, ?_⟩
  walk_at "w"
  refine oIxL (rA (q := 1) rfl) i2 ?_
  walk_at "w"
  refine ⟨e2.L, e2.h, by rw [hsm.1], ok2.L, ok2.h, ok2.b, true, rfl, ?_⟩
  refine iteNB ?_
  walk_at "w"
  refine aE_repr G hu.h M.repr ?_
  refine aE_methD0 Z.standD hr ?_
  walk_at "w"
  refine ⟨4, 3, 2, b, pl, u', _, [], none, m2, rfl, hb, rfl, ?_⟩
  rw [hsm.2]
  refine ⟨⟨_, .inl rfl⟩, _, shS.py, shS.s, shS.n, shS.dp (by decide), shS.len (by decide) (by decide), ?_⟩
  refine aE_repr G hu.h M.repr ?_
  walk_at "w"
  refine oIxL (rA (q := 1) rfl) i2 ?_
  walk_at "w"
  refine ⟨⟨_, .inl rfl⟩, _, shS.py, shS.s, shS.n, shS.dp (by decide), shS.len (by decide) (by decide), ?_⟩
  refine oNeSame ?_
  walk_at "w"
  refine aE_methD0 Z.hallD hr ?_
  walk_at "w"
  refine ⟨4, 3, 2, b, pl, u', _, [], none, m2, rfl, hb, rfl, ?_⟩
  walk_at "w"
  refine ⟨m2.h, rfl, fun q2 => ?_⟩
  refine ⟨0, q2, _, ⟨rfl, rfl⟩, ?_⟩
  refine aSs.imp ?_ (drop_obj 0)
  show aSs _ _ _ (lawSt CH CM CB ac kp u' pl b p (a :: as) (e2 :: e :: es') (m2 :: m :: ms') (n + 110) S) _
  walk_at "w"
  refine aE_callG Z.mright hr G ?_
  walk_at "w"
  refine ⟨_, .inr (.inl ⟨_, qA (q := 1) rfl, rfl⟩), ?_⟩
  rw [List.length_map, List.length_reverse]
  walk_at "w"
  refine oDrawP (S := (p, .pen 0) :: S) (i := 0) [_, _, _, _, _] rfl (by rw [List.length_cons]; omega) (by rw [List.length_cons, List.length_cons]; omega) (by omega) fun k0 k00 k01 => ?_
  obtain ⟨kn, hkn⟩ : ∃ kn : Nat, k0 = (kn : Int) := ⟨k0.toNat, by omega⟩
  subst hkn
  obtain ⟨mk, ek, g1, g2, g3, g4⟩ := hs2.rget (k := kn) (by rw [hs2.lenE]; exact Int.ofNat_lt.mp k01)
  walk_at "w"
  refine ⟨4, 3, 2, b, pl, u', _, [], .adr kp, (e2 :: e :: es').reverse, kn, mk, ek, rfl, ⟨rfl, rfl, rfl, by decide⟩, rA (q := 1) rfl, g2, g1, g3, g4, true, rfl, ?_⟩
  refine iteNB ?_
  exact aSs_nil (aSs_nil (hE u' (a :: as) (e2 :: e :: es') (m2 :: m :: ms') (n + 111) (some (actD a)) (some (.adr q)) hs2 rfl (by omega)))
end

end
-- F25
section
open PySem L2 DL
section
variable {P : Program} {w : World} {K : PySem.W.Frag} {mg : Str → Option Value} {bse : Heap} {CH CM CB T0 : Addr}
-- law
theorem drop_pre {K : PySem.W.Frag} {ρ : Sl} {S : Store} (pre : Store) : ∀ σ H, Sat K ρ (pre ++ S) σ H → Sat K ρ S σ H ∧ KpS (pre ++ S) H S H :=
  sub_imp (fun x hx => List.mem_append_right _ hx) fun nd => by
    show (S.map (·.1)).Nodup
    have nd : ((pre ++ S).map (·.1)).Nodup := nd
    rw [List.map_append] at nd
    exact (List.nodup_append.mp nd).2.1
theorem kL (hc : HallC K CH) (M : Nm mg) (Z : Cs P w K mg bse CH CM CB T0) {f : Addr} {cdv : Value} {A : Around} {outer : List Env} {s : Shared} {H : Hp} {E0 : XK} (hr : Room 9 (cxB P w K mg bse nLaw "law" sLaw f cdv A outer s H E0).A) (G : (cxB P w K mg bse nLaw "law" sLaw f cdv A outer s H E0).A.guards = some [])
    {ns : List Int} {p : Addr} {o2 : Option D} {L : List (Key × D)} {t : StandT} {b kp ac u pl : Addr} {o8 o9 o10 o11 : Option D} {as : List Act} {es : List KeptE} {ms : List MomE} {n : Nat} {S : Store} {E : AEnds} (hs : SameA ms es as) (hl : ms.length ≤ 1) (hn : n + 3800 ≤ 2 ^ 60) (hT : (T0, D.tbl qLam) ∈ S)
    (hE : ∀ u as es ms n' o8 o9 o10, SameA ms es as → ms.length ≤ 40 → n' ≤ n + 3500 → E.nx (lawSl ns p o2 L t b kp ac o8 o9 o10 o11) (lawSt CH CM CB ac kp u pl b p as es ms n' S)) :
    aS (cxB P w K mg bse nLaw "law" sLaw f cdv A outer s H E0) stK (lawSl ns p o2 L t b kp ac o8 o9 o10 o11) (lawSt CH CM CB ac kp u pl b p as es ms n S) E := by
  have hu : Un _ := ⟨hr.units⟩
  have nd : Names nLaw := ⟨scLaw.nd⟩
  have sc : Scp nLaw (defScope sLaw) := ⟨scLaw.nd⟩
  have cD := Z.draw
  show aS _ (.For _ _ _ _ _) _ _ _
  refine frS (.nm 8) ?_ (tgNm nd (by walk_at "n") (by rfl)) .never rfl
  refine aI_range1 M.range ?_
  walk_at "w"
  refine oDrawP (S := (p, .pen 0) :: S) (i := 0) [_, _, _, _, _] rfl (by decide) (by decide) (by omega) fun k0 k00 k01 => ?_
  walk_at "w"
  refine ⟨_, rfl, by omega, by omega, ?_⟩
  rw [nums_rg]
  refine frR (fun j ρ' S' => ∃ u as es ms n' o8 o9 o10, SameA ms es as ∧ ms.length ≤ j + 1 ∧ n' ≤ n + 1 + 111 * j ∧ ρ' = lawSl ns p o2 L t b kp ac o8 o9 o10 o11 ∧ S' = lawSt CH CM CB ac kp u pl b p as es ms n' S)
    ⟨u, as, es, ms, n + 1, _, _, _, hs, by omega, by omega, rfl, rfl⟩ ?_ ?_
  · rintro j x ρ' S' hj ⟨u, as, es, ms, n', o8, o9, o10, hs, hl, hn', e1, e2⟩
    subst e1; subst e2
    have hjl := (List.getElem?_eq_some_iff.mp hj).1
    rw [List.length_range] at hjl
    show aSs _ (forBody stK) (lawSl ns p o2 L t b kp ac (some (.int x)) o9 o10 o11) _ _
    refine turnL hc M Z hr G hs (by omega) (by omega) hT ?_
    intro u' as' es' ms' n'' o9' o10' q1 q2 q3
    exact ⟨u', as', es', ms', n'', _, _, _, q1, by omega, by omega, rfl, rfl⟩
  · rintro ρ' S' ⟨u, as, es, ms, n', o8, o9, o10, hs, hl, hn', e1, e2⟩
    subst e1; subst e2
    rw [List.length_range] at hn' hl
    exact hE _ _ _ _ _ _ _ _ hs (by omega) (by omega)
def spLaw (T0 : Addr) : ASp := fun ds S R => ∃ (ns : List Int), ds = [.scr ns] ∧ ns.length ≤ 63 ∧ (T0, D.tbl qLam) ∈ S ∧ ∀ S', R (.bl true) S'
theorem bLaw (hc : HallC K CH) (M : Nm mg) (BM : BookM P w K mg bse CH CM CB T0) (cPn : CalA P w K mg bse 2 "_law_pen" spLPen []) (cD : CalA P w K mg bse 2 "_law_draw" spDraw []) (cH : CalA P w K mg bse 6 "_law_hall" spLHall []) (cS : CalA P w K mg bse 4 "_law_stand" spLStand []) (cMd : CalA P w K mg bse 5 "_law_made" (spMade CH T0) []) (cB : MakA P w K mg bse 4 "Book" CB (spBInit CH CM CB))
    (cA : CalA P w K mg bse 5 "_law_act" spLAct []) (cT : CalA P w K mg bse 9 "_law_tell" (spLTell CH CM CB T0) []) (cC : CalA P w K mg bse 4 "_law_acted" spLActed []) (cAc : MetA P w K mg bse 2 CB "acts" (spActs CH CM CB)) (dH : MetD P w K mg bse 5 CB "hall_at" (spHallAt CH CM CB) [.non]) (kH : MetK P w K mg bse 5 CB "hall_at" ["moment"] (spHallAt CH CM CB)) (dS : MetD P w K mg bse 5 CB "stand_at" (spStandAt CH CM CB) [.non]) (kS : MetK P w K mg bse 5 CB "stand_at" ["moment"] (spStandAt CH CM CB))
    (cR : MetA P w K mg bse 2 CH "rooms" (spRoomsN CH)) (cHR : CalG P w K mg bse 3 "_law_hall_right" (spHRight CH)) (cMR : CalG P w K mg bse 6 "_law_moment_right" (spMRight CH CM CB)) : BodyG P w K mg bse nLaw "law" sLaw 9 (spLaw T0) := by
  intro f cdv A outer s H E hr G ds S R ⟨ns, eds, hl, hT, hR⟩
  have hu : Un _ := ⟨hr.units⟩
  have nd : Names nLaw := ⟨scLaw.nd⟩
  have sc : Scp nLaw (defScope sLaw) := ⟨scLaw.nd⟩
  subst eds
  have lenN := M.len
  have Z : Cs P w K mg bse CH CM CB T0 := ⟨cD, cA, cT, cC, cAc, dH, dS, cR, cHR, cMR⟩
  walk_at "w"
  refine ⟨ns, rfl, hl, fun p => ?_⟩
  walk_at "w"
  refine frS (.nm 2) ?_ (tgNm nd (by walk_at "n") (by rfl)) .never rfl
  refine aI_range1 M.range ?_
  walk_at "w"
  refine ⟨_, .inr (.inl ⟨_, .inr (.inr ⟨ns, rfl, rfl⟩), rfl⟩), ?_⟩
  refine ⟨_, _, rfl, rfl, ?_⟩
  rw [List.length_map]
  have hm : (if (ns.length : Int) < 3 then (ns.length : Int) else 3) ≤ 3 ∧ 0 ≤ (if (ns.length : Int) < 3 then (ns.length : Int) else 3) := by split <;> omega
  generalize (if (ns.length : Int) < 3 then (ns.length : Int) else 3) = m at hm
  walk_at "w"
  refine ⟨_, rfl, by omega, by omega, ?_⟩
  rw [nums_rg]
  show ∃ Pv : Nat → Sl → Store → Prop, Pv 0 [some (.scr ns), some (.adr p), none, none, none, none, none, none, none, none, none, none] ((p, .pen 0) :: S) ∧ _
  refine frR (fun j ρ' S' => ∃ n' o2 o3 o4 o5 o6 o7 o8 o9 o10 o11, n' ≤ 4000 * j ∧ ρ' = [some (.scr ns), some (.adr p), o2, o3, o4, o5, o6, o7, o8, o9, o10, o11] ∧ S' = (p, .pen n') :: S) ⟨0, none, none, none, none, none, none, none, none, none, none, by omega, rfl, rfl⟩ ?_ ?_
  · rintro j x ρ' S' hj ⟨n', o2, o3, o4, o5, o6, o7, o8, o9, o10, o11, hn', e1, e2⟩
    subst e1; subst e2
    have hjl := (List.getElem?_eq_some_iff.mp hj).1
    rw [List.length_range] at hjl
    show aSs _ _ [some (.scr ns), some (.adr p), some (.int x), o3, o4, o5, o6, o7, o8, o9, o10, o11] _ _
    walk_at "w"
    refine ⟨0, p, n', rfl, rfl, by omega, fun L h hL ho hob => ?_⟩
    show aSs _ _ _ ((p, .pen (n' + 140)) :: S) _
    walk_at "w"
    refine ⟨0, p, n' + 140, L, h, rfl, rfl, by omega, hL, ho, fun t so => ?_⟩
    show aSs _ _ _ ((p, .pen (n' + 160)) :: S) _
    walk_at "w"
    refine aS_asg (.tp [5, 6, 7]) ?_ (tgTp rfl (pgsN nd (by walk_at "n") (by rfl) (pgsN nd (by walk_at "n") (by rfl) (pgsN nd (by walk_at "n") (by rfl) (pgsO)))))
    walk_at "w"
    refine aE_make cB hr ?_
    walk_at "w"
    refine ⟨L, h, rfl, hL, ho, List.mem_cons_of_mem _ hT, ?_⟩
    walk_at "w"
    intro b
    refine ⟨b, h, t, (p, .pen (n' + 160)) :: S, rfl, rfl, fun pl u => ⟨rfl, ?_⟩⟩
    walk_at "w"
    refine .inr fun kp => ?_
    walk_at "w"
    refine .inr fun ac => ?_
    refine aA_nil ⟨le5 (by rfl), _, .inl rfl, rfl, ?_⟩
    show aSs _ (stK :: nthS (forBody stBout) 4 :: nthS (forBody stBout) 5 :: []) (lawSl ns p (some (.int x)) L t b kp ac o8 o9 o10 o11) (lawSt CH CM CB ac kp u pl b p [] [⟨L, h, t⟩] [⟨h, t, .non⟩] (n' + 160) S) _
    refine aSs_cons (kL hc M Z hr G (.one ⟨rfl, rfl⟩ ⟨hL, ho, so, hob⟩) (Nat.le_refl 1) (by omega) hT ?_)
    intro u' as es ms n'' o8' o9' o10' hs hml hn''
    have hle := hs.lenE
    have hla := hs.lenA
    have hb : BookAt CH CM CB (lawSt CH CM CB ac kp u' pl b p as es ms n'' S) 4 3 2 b pl u' ms [] := bookIn
    have h1 := hb.b
    have shA := sh_acts (l := as.reverse) (fun x hx => hs.okA x (List.mem_reverse.mp hx)) (by rw [List.length_reverse]; omega)
    refine aSs_cons ?_
    show aS _ (.If _ _ _ _) _ _ _
    walk_at "w"
    refine lcE (.nm 11) [("spot", 11)] sc ?_ ⟨rfl, by decide +kernel, by decide +kernel, by decide +kernel, by decide +kernel⟩ (fun _ _ _ _ _ => tgNm nd (by walk_at "n") (by rfl)) rfl rfl rfl (by decide) (by decide)
    refine aI_range1 M.range ?_
    walk_at "w"
    refine ⟨_, .inr (.inl ⟨_, qA (q := 1) rfl, rfl⟩), ?_⟩
    rw [List.length_map, List.length_reverse]
    walk_at "w"
    refine ⟨_, rfl, by omega, by omega, ?_⟩
    rw [nums_rg]
    refine lcF (fun _ => false) (fun k : Nat => .int k) (by rw [List.length_range]; omega) (fun k hk A => ?_) (.inl ?_)
    · have hk2 : k < ms.length := by
        have := List.mem_range.mp hk
        omega
      obtain ⟨mk, ek, g1, g2, g3, g4⟩ := hs.rget hk2
      intro s H C cl fp
      walk_at "w"
      refine aE_callG cMR hr G ?_
      walk_at "w"
      refine ⟨5, 4, 3, b, pl, u', ms, [], .adr kp, es.reverse, k, mk, ek, rfl, ⟨rfl, rfl, rfl, by decide⟩, rA (q := 2) rfl, g2, g1, g3, g4, ?_⟩
      exact ⟨true, rfl, rfl, rfl, fun h => absurd h (by simp)⟩
    rw [show ((List.range (es.length : Int).toNat).filter fun _ => false).map (fun k : Nat => D.int (k : Int)) = [] by simp]
    walk_at "w"
    refine .inl (oNe0 rL (iteNF rfl ?_))
    refine aSs_nil ?_
    refine aSs_cons ?_
    show aS _ (.If _ _ _ _) _ _ _
    obtain ⟨e0, he0⟩ : ∃ e0, es[0]? = some e0 := ⟨_, List.getElem?_eq_getElem (show 0 < es.length by omega)⟩
    have i2 : atI (es.reverse.map keptD) (-1) = some (keptD e0) := atI_map (atI_back (k := 0) he0)
    obtain ⟨mk, ek, g1, g2, g3, g4⟩ := hs.rget (k := as.length) (by omega)
    walk_at "w"
    refine aE_repr G hu.h M.repr ?_
    refine aE_meth0 cAc hr ?_
    walk_at "w"
    refine ⟨4, 3, 2, b, pl, u', ms, [], rfl, hb, by omega, fun q => ?_⟩
    rw [hs.acts]
    refine ⟨⟨[], .inr (.inr ⟨_, rfl⟩)⟩, _, shA.pyA (rA (q := 0) rfl), shA.lst.s, shA.lst.n, shA.lst.dp (by decide), shA.lst.len (by decide) (by decide), ?_⟩
    refine aE_repr G hu.h M.repr ?_
    walk_at "w"
    refine ⟨⟨[], .inr (.inr ⟨_, rfl⟩)⟩, _, shA.pyA (rA (q := 1) rfl), shA.lst.s, shA.lst.n, shA.lst.dp (by decide), shA.lst.len (by decide) (by decide), ?_⟩
    refine oNeSame ?_
    walk_at "w"
    refine aE_callG cMR hr G ?_
    walk_at "w"
    refine oIxL (rA (q := 2) rfl) i2 ?_
    walk_at "w"
    refine .inl ?_
    refine oCat (rA (q := 2) rfl) rL (by rw [List.length_map, List.length_reverse]; show _ + 1 ≤ _; omega) (.inl ?_)
    walk_at "w"
    refine ⟨_, .inr (.inl ⟨_, qA (q := 1) rfl, rfl⟩), ?_⟩
    rw [List.length_map, List.length_reverse]
    walk_at "w"
    have el : es.reverse.map keptD ++ [keptD e0] = (es.reverse ++ [e0]).map keptD := by rw [List.map_append]; rfl
    refine ⟨5, 4, 3, b, pl, u', ms, [], _, es.reverse ++ [e0], as.length, mk, ek, rfl, ⟨rfl, rfl, rfl, by decide⟩, by rw [el]; exact rL, ?_, g1, g3, g4, true, rfl, ?_⟩
    · rw [List.getElem?_append_left (by rw [List.length_reverse]; omega)]; exact g2
    refine iteNB ?_
    refine aSs.imp (aSs_nil (aSs_nil ?_)) (drop_pre ((q, D.lst (as.reverse.map actD)) :: (ac, .lst (as.reverse.map actD)) :: (kp, .lst (es.reverse.map keptD)) :: (u', .lst (momL CH CM [])) :: (pl, .lst (momL CH CM ms)) :: (b, bookO CB pl u') :: []))
    exact ⟨n'', _, _, _, _, _, _, _, _, _, _, by omega, rfl, rfl⟩
  · rintro ρ' S' ⟨n', o2, o3, o4, o5, o6, o7, o8, o9, o10, o11, hn', e1, e2⟩
    subst e1; subst e2
    walk_at "w"
    exact hR _
end

end
-- ASM
/-! The promises joined. -/
section
open PySem L2 DL
/-- a def of the module -/
def Top (K : PySem.W.Frag) (mg : Str → Option Value) (x : Str) (st : Stmt) : Prop := ∃ f fd, Fun K x x st f fd ∧ mg x = some (.ref f)
def MetF (K : PySem.W.Frag) (C : Addr) (m qual : Str) (st : Stmt) : Prop := ∃ f fd, Fun K m qual st f fd ∧ Meth K C m f
def MkF (K : PySem.W.Frag) (mg : Str → Option Value) (x : Str) (C : Addr) (qual : Str) (st : Stmt) : Prop := ∃ f fd, Fun K "__init__" qual st f fd ∧ Mk K C f ∧ mg x = some (.ref C)
theorem mkTop {K : PySem.W.Frag} {h : Heap} {mg : Str → Option Value} (X : K.In h) (G : h.Ns mainGlobals mg) {x : Str} {st : Stmt} {f : Addr} {oc : Value} {od an : Option Addr} {osl : Array (Option Value)} {kV doc pm cdv ct : Value} (a : PySem.W.nsIn K mainGlobals x = some (some (.ref f)))
    (l : K.lookup f = some ⟨oc, od, .func (PySem.W.fnOf x x (defArgs st) (defBody st) (defScope st) .none kV doc pm an cdv ct), osl⟩) (c : PySem.W.codeIn K cdv x = true) (k : PySem.W.keepIn K (.ref f) = true) : Top K mg x st := ⟨f, _, fun_mk l c k, PySem.W.mg_of X G a⟩
theorem mkMet {K : PySem.W.Frag} {C : Addr} {m qual : Str} {st : Stmt} {f : Addr} {oc : Value} {od an : Option Addr} {osl : Array (Option Value)} {kV doc pm cdv ct : Value} (a : PySem.W.findIn K (.ref C) m = some (some (.ref f))) (i : PySem.W.isFn K (.ref f) = true)
    (l : K.lookup f = some ⟨oc, od, .func (PySem.W.fnOf m qual (defArgs st) (defBody st) (defScope st) .none kV doc pm an cdv ct), osl⟩) (c : PySem.W.codeIn K cdv qual = true) (k : PySem.W.keepIn K (.ref f) = true) : MetF K C m qual st := ⟨f, _, fun_mk l c k, ⟨a, i, k⟩⟩
theorem mkMk {K : PySem.W.Frag} {mg : Str → Option Value} {C : Addr} {x qual : Str} {st : Stmt} {f : Addr} {oc : Value} {od an : Option Addr} {osl : Array (Option Value)} {kV doc pm cdv ct : Value} (hm : mg x = some (.ref C)) (a : PySem.W.findIn K (.ref C) "__init__" = some (some (.ref f))) (i : PySem.W.isFn K (.ref f) = true)
    (l : K.lookup f = some ⟨oc, od, .func (PySem.W.fnOf "__init__" qual (defArgs st) (defBody st) (defScope st) .none kV doc pm an cdv ct), osl⟩) (c : PySem.W.codeIn K cdv qual = true) (k : PySem.W.keepIn K (.ref f) = true) (mk : PySem.W.makesIn K C = true) (kc : PySem.W.keepIn K (.ref C) = true) : MkF K mg x C qual st := ⟨f, _, fun_mk l c k, ⟨mk, a, i, kc⟩, hm⟩
/-- a def with one default, None -/
def Top1 (K : PySem.W.Frag) (mg : Str → Option Value) (x : Str) (st : Stmt) : Prop := ∃ f fd, FunD K x x (defArgs st) (defBody st) (defScope st) [.non] [] f fd ∧ mg x = some (.ref f)
theorem mkTop1 {K : PySem.W.Frag} {h : Heap} {mg : Str → Option Value} (X : K.In h) (G : h.Ns mainGlobals mg) {x : Str} {st : Stmt} {f T : Addr} {oc tc : Value} {od an td : Option Addr} {osl tsl : Array (Option Value)} {kV doc pm cdv ct : Value} {n : Nat} (a : PySem.W.nsIn K mainGlobals x = some (some (.ref f)))
    (l : K.lookup f = some ⟨oc, od, .func (PySem.W.fnOf x x (defArgs st) (defBody st) (defScope st) (.ref T) kV doc pm an cdv ct), osl⟩) (c : PySem.W.codeIn K cdv x = true) (k : PySem.W.keepIn K (.ref f) = true) (t : K.lookup T = some ⟨tc, td, .seq #[.none] n, tsl⟩) : Top1 K mg x st :=
  ⟨f, _, ⟨⟨oc, od, _, kV, doc, pm, an, cdv, ct, osl, rfl, l, c, .inr ⟨by simp, T, _, [.none], n, rfl, t, rfl, .cons rfl .nil⟩, .inl rfl⟩, k⟩, PySem.W.mg_of X G a⟩
/-- a method with one keyword-only parameter, None where it lacks -/
def MetFk (K : PySem.W.Frag) (C : Addr) (m qual : Str) (st : Stmt) (z : Str) : Prop := ∃ f fd, FunD K m qual (defArgs st) (defBody st) (defScope st) [] [(z, .non)] f fd ∧ Meth K C m f
theorem mkMetk {K : PySem.W.Frag} {C : Addr} {m qual z : Str} {st : Stmt} {f D : Addr} {oc : Value} {od an : Option Addr} {osl : Array (Option Value)} {doc pm cdv ct : Value} (a : PySem.W.findIn K (.ref C) m = some (some (.ref f))) (i : PySem.W.isFn K (.ref f) = true)
    (l : K.lookup f = some ⟨oc, od, .func (PySem.W.fnOf m qual (defArgs st) (defBody st) (defScope st) .none (.ref D) doc pm an cdv ct), osl⟩) (c : PySem.W.codeIn K cdv qual = true) (k : PySem.W.keepIn K (.ref f) = true) (d : PySem.W.nsIn K D z = some (some .none)) : MetFk K C m qual st z :=
  ⟨f, _, ⟨⟨oc, od, _, _, doc, pm, an, cdv, ct, osl, rfl, l, c, .inl ⟨rfl, rfl⟩, .inr ⟨D, rfl, fun q hq => by rw [List.mem_singleton.mp hq]; exact ⟨.none, d, rfl⟩⟩⟩, k⟩, ⟨a, i, k⟩⟩
/-- the law's own def and door_kept's: by their places -/
structure Facts (K : PySem.W.Frag) (mg : Str → Option Value) (CH CM CB c T0 : Addr) : Prop where
  M : Nm mg
  hc : HallC K CH
  mc : MomC K CM
  bc : BookC K CB
  gL : GlobD mg K "LETTERS" (.str abc)
  gW : GlobD mg K "WAIT" (deedD .wait)
  nb : mg "bool" = none
  kept : ∃ (f : Addr) (oc : Value) (od an : Option Addr) (osl : Array (Option Value)) (kV doc pm ct : Value), K.lookup f = some ⟨oc, od, .func (PySem.W.fnOf "door_kept" "door_kept" (defArgs sKept) (defBody sKept) (defScope sKept) .none kV doc pm an (.ref c) ct), osl⟩ ∧ PySem.W.codeIn K (.ref c) "door_kept" = true ∧ PySem.W.keepIn K (.ref f) = true ∧ mg "door_kept" = some (.ref f)
  fDraw : Top K mg "_law_draw" sDraw
  fPick : Top K mg "_law_pick" sPick
  fShuf : Top K mg "_law_shuffled" sShuf
  fNames : Top K mg "_law_names" sNames
  fHeft : Top K mg "_law_heft" sHeft
  fLRows : Top K mg "_law_rows" sLRows
  fHallOf : Top K mg "_law_hall_of" sHallOf
  fLHall : Top K mg "_law_hall" sLHall
  fRowMet : Top K mg "is_row_met" sRowMet
  fLMet : Top K mg "_law_is_met" sLMet
  fFar : Top K mg "_law_far" sFar
  fRooms : MetF K CH "rooms" "Hall.rooms" sRooms
  fDoors : MetF K CH "doors" "Hall.doors" sDoors
  fStones : MetF K CH "stones" "Hall.stones" sStones
  fWalkers : MetF K CH "walkers" "Hall.walkers" sWalkers
  fDoor : MetF K CH "door" "Hall.door" sDoor
  fHeftM : MetF K CH "heft" "Hall.heft" sHeftM
  fHands : MetF K CH "hands" "Hall.hands" sHands
  fHInit : MkF K mg "Hall" CH "Hall.__init__" sHInit
  fDT : Top K mg "doors_told" sDT
  fST : Top K mg "stones_told" sST
  fWT : Top K mg "walkers_told" sWT
  fNA : Top K mg "need_among" sNA
  fWD : Top K mg "with_doors" sWD
  fWalled : Top K mg "walled" sWalled
  fRowed : Top K mg "rowed" sRowed
  fOpened : Top K mg "opened" sOpened
  fHefted : Top K mg "hefted" sHefted
  fBorne : Top1 K mg "borne" sBorne
  fIsOpen : Top K mg "is_open" sIsOpen
  fLBorne : Top K mg "_law_borne" sLBorne
  fLOpen : Top K mg "_law_open" sLOpen
  fLDeeds : Top K mg "_law_deeds" sLDeeds
  fLAfter : Top K mg "_law_after" sLAfter
  fIsName : Top K mg "is_name" sIsName
  fIsDeed : Top K mg "is_deed" sIsDeed
  fWhose : Top K mg "whose" sWhose
  fRFrom : Top K mg "rooms_from" sRFrom
  fWnGo : Top K mg "why_not_go" sWnGo
  fWnLift : Top K mg "why_not_lift" sWnLift
  fWnLay : Top K mg "why_not_lay" sWnLay
  fWhyNot : Top K mg "why_not" sWhyNot
  fBehind : Top K mg "behind" sBehind
  fDone : Top K mg "done" sDone
  fMInit : MkF K mg "Moment" CM "Moment.__init__" sMInit
  fBInit : MkF K mg "Book" CB "Book.__init__" sBInit
  fTOver : MetF K CB "turn_over" "Book.turn_over" sTOver
  fChange : MetF K CB "change" "Book.change" sChange
  fBDo : MetF K CB "do" "Book.do" sBDo
  fSHeft : MetF K CB "set_heft" "Book.set_heft" sSHeft
  fSRows : MetF K CB "set_rows" "Book.set_rows" sSRows
  fBWall : MetF K CB "wall" "Book.wall" sBWall
  fOpenUp : MetF K CB "open_up" "Book.open_up" sOpenUp
  fBBack : MetF K CB "back" "Book.back" sBBack
  fBOn : MetF K CB "on" "Book.on" sBOn
  fPen : Top K mg "_law_pen" sPen
  fLStand : Top K mg "_law_stand" sLStand
  fLAct : Top K mg "_law_act" sLAct
  fLActed : Top K mg "_law_acted" sLActed
  fLTell : Top K mg "_law_tell" sLTell
  fMade : Top K mg "_law_made" sMade
  fWhole : Top K mg "is_whole" sWhole
  fFrom : Top K mg "is_from" sFrom
  fMomAt : MetF K CB "moment_at" "Book.moment_at" sMomAt
  fHallAt : MetFk K CB "hall_at" "Book.hall_at" sHallAt "moment"
  fStandAt : MetFk K CB "stand_at" "Book.stand_at" sStandAt "moment"
  fActs : MetF K CB "acts" "Book.acts" sActs
  fHRight : Top K mg "_law_hall_right" sHRight
  fMRight : Top K mg "_law_moment_right" sMRight
theorem bd {K : PySem.W.Frag} {x qual : Str} {st : Stmt} {f : Addr} {fd : FuncData} {ps : List Str} {args : Arguments} (F0 : Fun K x qual st f fd) (ha : defArgs st = args) (h : ∀ (body : List Stmt) (scope : Scope) (kV doc pm : Value) (an : Option Addr) (cdv ct : Value) (us : List Value), us.length = ps.length → bindArgs (PySem.W.fnOf x qual args body scope .none kV doc pm an cdv ct) ⟨us, []⟩ = pure (ps.zip us)) : Binds K fd ps [] := by
  refine F0.binds (ps := ps) fun kV doc pm an cdv ct us hl => ?_
  rw [ha]; exact h _ _ _ _ _ _ _ _ us hl
theorem bd1 {K : PySem.W.Frag} {x qual : Str} {params args : Arguments} {body : List Stmt} {scope : Scope} {f : Addr} {fd : FuncData} {ps : List Str} (F : FunD K x qual params body scope [.non] [] f fd) (n j : Nat) (ha : params = args) (hn : n + (1 - j) = ps.length)
    (h : ∀ (body : List Stmt) (scope : Scope) (T : Addr) (kV doc pm : Value) (an : Option Addr) (cdv ct : Value) (us its : List Value), us.length = n → its.length = 1 →
      ∃ k, bindArgs (PySem.W.fnOf x qual args body scope (.ref T) kV doc pm an cdv ct) ⟨us, []⟩ = seqItems? (.ref T) >>= k ∧ k (some its.toArray) = pure (ps.zip (us ++ its.drop j))) : ∃ ds, Vals ([V.non].drop j) ds ∧ Binds K fd ps ds := by
  subst ha
  exact F.binds1 n j (by simp) hn fun T kV doc pm an cdv ct us its h1 h2 => h _ _ T kV doc pm an cdv ct us its h1 h2
theorem cal_kept {P : Program} {w : World} {K : PySem.W.Frag} {mg : Str → Option Value} {bse : Heap} {c T0 : Addr} (M : Nm mg) (TB : LamX.TabB bse mg c T0) (h : ∃ (f : Addr) (oc : Value) (od an : Option Addr) (osl : Array (Option Value)) (kV doc pm ct : Value), K.lookup f = some ⟨oc, od, .func (PySem.W.fnOf "door_kept" "door_kept" (defArgs sKept) (defBody sKept) (defScope sKept) .none kV doc pm an (.ref c) ct), osl⟩ ∧ PySem.W.codeIn K (.ref c) "door_kept" = true ∧ PySem.W.keepIn K (.ref f) = true ∧ mg "door_kept" = some (.ref f)) : CalA P w K mg bse 2 "door_kept" (spKept T0 qLam) [] := by
  obtain ⟨f, oc, od, an, osl, kV, doc, pm, ct, l, hcd, k, hm⟩ := h
  refine ⟨[], ⟨f, _, ["one", "other", "way", "rows"], [], okC l hcd scKept (by intro ds S R h; (repeat (obtain ⟨_, h⟩ := h)); all_goals (subst_vars; rfl)) fun A outer s H E hr ds S R hsp => bKept M TB f A outer s H E hr ds S R hsp, hm, k, ?_, .nil⟩, fun _ => rfl⟩
  exact bd (fun_mk (st := sKept) l hcd k) (args := ⟨[], [⟨"one", none, _⟩, ⟨"other", none, _⟩, ⟨"way", none, _⟩, ⟨"rows", none, _⟩], none, [], [], none, []⟩) (ps := ["one", "other", "way", "rows"]) rfl fun _ _ _ _ _ _ _ _ us hl => match us, hl with | [_, _, _, _], _ => rfl
theorem cal_borne {P : Program} {w : World} {K : PySem.W.Frag} {mg : Str → Option Value} {bse : Heap} {CH : Addr} (M : Nm mg) (HM : HallM P w K mg bse CH) (h : Top1 K mg "borne" sBorne) : CalA P w K mg bse 3 "borne" (spBorne CH) [.non] ∧ CalA P w K mg bse 3 "borne" (spBorne CH) [] := by
  obtain ⟨f, fd, F, hm⟩ := h
  have ok : FnOk P w K mg bse CX0 3 f fd ["hall", "stand", "goer"] (spA K (spBorne CH)) := by
    refine F.ok scBorne (spA_len (by intro ds S R h; (repeat (obtain ⟨_, h⟩ := h)); all_goals (subst_vars; rfl))) fun cdv A outer s H vs Q E hr ⟨ds, S0, R, r, o, q, kk⟩ => ⟨_, (pss_w (X := cxB P w K mg bse nBorne "borne" sBorne f cdv A outer s H E)).nox, ?_⟩
    refine bBorne HM M f cdv A outer s H E hr ds S0 R q (L2.start nBorne vs) H { nx := fun _ H' => Q .non H', rt := Q } ⟨start_rep r, o⟩ ⟨fun σ' H' ρ' S' q' k' s' => kk .non H' .non S' q' k' s'.ok rfl, kk, fun _ _ _ _ q' => q'.elim, fun _ _ _ _ q' => q'.elim⟩
  obtain ⟨d1, v1, b1⟩ := bd1 (args := ⟨[], [⟨"hall", none, _⟩, ⟨"stand", none, _⟩, ⟨"goer", none, _⟩], none, [], [], none, [_]⟩) F (ps := ["hall", "stand", "goer"]) 2 0 rfl rfl fun _ _ T kV doc pm an cdv ct us its h1 h2 => match us, its, h1, h2 with | [_, _], [_], _, _ => ⟨_, rfl, rfl⟩
  obtain ⟨d0, v0, b0⟩ := bd1 (args := ⟨[], [⟨"hall", none, _⟩, ⟨"stand", none, _⟩, ⟨"goer", none, _⟩], none, [], [], none, [_]⟩) F (ps := ["hall", "stand", "goer"]) 3 1 rfl rfl fun _ _ T kV doc pm an cdv ct us its h1 h2 => match us, its, h1, h2 with | [_, _, _], [_], _, _ => ⟨_, rfl, rfl⟩
  exact ⟨⟨_, ⟨f, fd, _, d1, ok, hm, F.kp, b1, v1⟩, fun _ => ⟨_, _, rfl, rfl, rfl⟩⟩, ⟨_, ⟨f, fd, _, d0, ok, hm, F.kp, b0, v0⟩, fun _ => rfl⟩⟩
variable {P : Program} {w : World} {K : PySem.W.Frag} {mg : Str → Option Value} {bse : Heap} {CH CM CB c T0 : Addr}
theorem jDraw (hM : Nm mg) (F : Top K mg "_law_draw" sDraw) : CalA P w K mg bse 2 "_law_draw" (spDraw) [] := by
  obtain ⟨f, fd, F0, hm⟩ := F
  exact calA (bDraw hM) F0 hm (bd F0 (args := ⟨[], [⟨"pen", none, _⟩, ⟨"many", none, _⟩], none, [], [], none, []⟩) (ps := ["pen", "many"]) rfl (fun _ _ _ _ _ _ _ _ us hl => match us, hl with | [_, _], _ => rfl)) scDraw (by intro ds S R h; (repeat (obtain ⟨_, h⟩ := h)); all_goals (subst_vars; rfl))
theorem jPick (hM : Nm mg) (hDraw : CalA P w K mg bse 2 "_law_draw" (spDraw) []) (F : Top K mg "_law_pick" sPick) : CalA P w K mg bse 3 "_law_pick" (spPick) [] := by
  obtain ⟨f, fd, F0, hm⟩ := F
  exact calA (bPick (kd := 0) hM hDraw) F0 hm (bd F0 (args := ⟨[], [⟨"pen", none, _⟩, ⟨"some", none, _⟩], none, [], [], none, []⟩) (ps := ["pen", "some"]) rfl (fun _ _ _ _ _ _ _ _ us hl => match us, hl with | [_, _], _ => rfl)) scPick (by intro ds S R h; (repeat (obtain ⟨_, h⟩ := h)); all_goals (subst_vars; rfl))
theorem jShuf (hM : Nm mg) (hDraw : CalA P w K mg bse 2 "_law_draw" (spDraw) []) (F : Top K mg "_law_shuffled" sShuf) : CalA P w K mg bse 3 "_law_shuffled" (spShuf) [] := by
  obtain ⟨f, fd, F0, hm⟩ := F
  exact calA (bShuf hM hDraw) F0 hm (bd F0 (args := ⟨[], [⟨"pen", none, _⟩, ⟨"some", none, _⟩], none, [], [], none, []⟩) (ps := ["pen", "some"]) rfl (fun _ _ _ _ _ _ _ _ us hl => match us, hl with | [_, _], _ => rfl)) scShuf (by intro ds S R h; (repeat (obtain ⟨_, h⟩ := h)); all_goals (subst_vars; rfl))
theorem jNames (hM : Nm mg) (hDraw : CalA P w K mg bse 2 "_law_draw" (spDraw) []) (hPick : CalA P w K mg bse 3 "_law_pick" (spPick) []) (F : Top K mg "_law_names" sNames) : CalA P w K mg bse 4 "_law_names" (spNames) [] := by
  obtain ⟨f, fd, F0, hm⟩ := F
  exact calA (bNames hM hDraw hPick) F0 hm (bd F0 (args := ⟨[], [⟨"pen", none, _⟩, ⟨"many", none, _⟩], none, [], [], none, []⟩) (ps := ["pen", "many"]) rfl (fun _ _ _ _ _ _ _ _ us hl => match us, hl with | [_, _], _ => rfl)) scNames (by intro ds S R h; (repeat (obtain ⟨_, h⟩ := h)); all_goals (subst_vars; rfl))
theorem jHeft (hM : Nm mg) (hDraw : CalA P w K mg bse 2 "_law_draw" (spDraw) []) (F : Top K mg "_law_heft" sHeft) : CalA P w K mg bse 3 "_law_heft" (spHeft) [] := by
  obtain ⟨f, fd, F0, hm⟩ := F
  have b := @bHeft P w K mg bse hM hDraw
  exact calA (by assumption) F0 hm (bd F0 (args := ⟨[], [⟨"pen", none, _⟩], none, [], [], none, []⟩) (ps := ["pen"]) rfl (fun _ _ _ _ _ _ _ _ us hl => match us, hl with | [_], _ => rfl)) scHeft (fun ds S R ⟨_, _, _, e, _⟩ => by rw [e]; rfl)
theorem jLRows (hM : Nm mg) (hDraw : CalA P w K mg bse 2 "_law_draw" (spDraw) []) (hPick : CalA P w K mg bse 3 "_law_pick" (spPick) []) (F : Top K mg "_law_rows" sLRows) : CalA P w K mg bse 4 "_law_rows" (spLRows) [] := by
  obtain ⟨f, fd, F0, hm⟩ := F
  exact calA (bLRows hM hDraw hPick) F0 hm (bd F0 (args := ⟨[], [⟨"pen", none, _⟩, ⟨"rooms", none, _⟩, ⟨"hefts", none, _⟩], none, [], [], none, []⟩) (ps := ["pen", "rooms", "hefts"]) rfl (fun _ _ _ _ _ _ _ _ us hl => match us, hl with | [_, _, _], _ => rfl)) scLRows (by intro ds S R h; (repeat (obtain ⟨_, h⟩ := h)); all_goals (subst_vars; rfl))
theorem jHallOf (hM : Nm mg) (hDraw : CalA P w K mg bse 2 "_law_draw" (spDraw) []) (hHeft : CalA P w K mg bse 3 "_law_heft" (spHeft) []) (hLRows : CalA P w K mg bse 4 "_law_rows" (spLRows) []) (F : Top K mg "_law_hall_of" sHallOf) : CalA P w K mg bse 5 "_law_hall_of" (spHallOf) [] := by
  obtain ⟨f, fd, F0, hm⟩ := F
  have b := @bHallOf P w K mg bse hM hDraw hHeft hLRows
  exact calA (by assumption) F0 hm (bd F0 (args := ⟨[], [⟨"pen", none, _⟩, ⟨"names", none, _⟩, ⟨"size", none, _⟩], none, [], [], none, []⟩) (ps := ["pen", "names", "size"]) rfl (fun _ _ _ _ _ _ _ _ us hl => match us, hl with | [_, _, _], _ => rfl)) scHallOf (fun ds S R ⟨_, _, _, _, e, _⟩ => by rw [e]; rfl)
theorem jLHall (hM : Nm mg) (hNames : CalA P w K mg bse 4 "_law_names" (spNames) []) (hHallOf : CalA P w K mg bse 5 "_law_hall_of" (spHallOf) []) (F : Top K mg "_law_hall" sLHall) : CalA P w K mg bse 6 "_law_hall" (spLHall) [] := by
  obtain ⟨f, fd, F0, hm⟩ := F
  exact calA (bLHall hM hNames hHallOf) F0 hm (bd F0 (args := ⟨[], [⟨"pen", none, _⟩, ⟨"size", none, _⟩], none, [], [], none, []⟩) (ps := ["pen", "size"]) rfl (fun _ _ _ _ _ _ _ _ us hl => match us, hl with | [_, _], _ => rfl)) scLHall (by intro ds S R h; (repeat (obtain ⟨_, h⟩ := h)); all_goals (subst_vars; rfl))
theorem jRowMet  (F : Top K mg "is_row_met" sRowMet) : CalA P w K mg bse 2 "is_row_met" (spRowMet) [] := by
  obtain ⟨f, fd, F0, hm⟩ := F
  exact calA (bRowMet) F0 hm (bd F0 (args := ⟨[], [⟨"row", none, _⟩, ⟨"weights", none, _⟩], none, [], [], none, []⟩) (ps := ["row", "weights"]) rfl (fun _ _ _ _ _ _ _ _ us hl => match us, hl with | [_, _], _ => rfl)) scRowMet (by intro ds S R h; (repeat (obtain ⟨_, h⟩ := h)); all_goals (subst_vars; rfl))
theorem jLMet  (F : Top K mg "_law_is_met" sLMet) : CalA P w K mg bse 2 "_law_is_met" (spRowMet) [] := by
  obtain ⟨f, fd, F0, hm⟩ := F
  exact calA (bLMet) F0 hm (bd F0 (args := ⟨[], [⟨"row", none, _⟩, ⟨"weights", none, _⟩], none, [], [], none, []⟩) (ps := ["row", "weights"]) rfl (fun _ _ _ _ _ _ _ _ us hl => match us, hl with | [_, _], _ => rfl)) scLMet (by intro ds S R h; (repeat (obtain ⟨_, h⟩ := h)); all_goals (subst_vars; rfl))
theorem jFar  (F : Top K mg "_law_far" sFar) : CalA P w K mg bse 2 "_law_far" (spFar) [] := by
  obtain ⟨f, fd, F0, hm⟩ := F
  exact calA (bFar) F0 hm (bd F0 (args := ⟨[], [⟨"hall", none, _⟩, ⟨"door", none, _⟩, ⟨"room", none, _⟩], none, [], [], none, []⟩) (ps := ["hall", "door", "room"]) rfl (fun _ _ _ _ _ _ _ _ us hl => match us, hl with | [_, _, _], _ => rfl)) scFar (by intro ds S R h; (repeat (obtain ⟨_, h⟩ := h)); all_goals (subst_vars; rfl))
theorem jRooms (hhc : HallC K CH) (hM : Nm mg) (F : MetF K CH "rooms" "Hall.rooms" sRooms) : MetA P w K mg bse 2 CH "rooms" (spHL CH HallT.rooms) := by
  obtain ⟨f, fd, F0, me⟩ := F
  exact metA (bRooms hhc hM) F0 hhc.c me (bd F0 (args := ⟨[], [⟨"self", none, _⟩], none, [], [], none, []⟩) (ps := ["self"]) rfl (fun _ _ _ _ _ _ _ _ us hl => match us, hl with | [_], _ => rfl)) scRooms (by intro ds S R h; (repeat (obtain ⟨_, h⟩ := h)); all_goals (subst_vars; rfl))
theorem jDoors (hhc : HallC K CH) (hM : Nm mg) (F : MetF K CH "doors" "Hall.doors" sDoors) : MetA P w K mg bse 2 CH "doors" (spHL CH dnames) := by
  obtain ⟨f, fd, F0, me⟩ := F
  exact metA (bDoors hhc hM) F0 hhc.c me (bd F0 (args := ⟨[], [⟨"self", none, _⟩], none, [], [], none, []⟩) (ps := ["self"]) rfl (fun _ _ _ _ _ _ _ _ us hl => match us, hl with | [_], _ => rfl)) scDoors (by intro ds S R h; (repeat (obtain ⟨_, h⟩ := h)); all_goals (subst_vars; rfl))
theorem jStones (hhc : HallC K CH) (hM : Nm mg) (F : MetF K CH "stones" "Hall.stones" sStones) : MetA P w K mg bse 2 CH "stones" (spHL CH snames) := by
  obtain ⟨f, fd, F0, me⟩ := F
  exact metA (bStones hhc hM) F0 hhc.c me (bd F0 (args := ⟨[], [⟨"self", none, _⟩], none, [], [], none, []⟩) (ps := ["self"]) rfl (fun _ _ _ _ _ _ _ _ us hl => match us, hl with | [_], _ => rfl)) scStones (by intro ds S R h; (repeat (obtain ⟨_, h⟩ := h)); all_goals (subst_vars; rfl))
theorem jWalkers (hhc : HallC K CH) (hM : Nm mg) (F : MetF K CH "walkers" "Hall.walkers" sWalkers) : MetA P w K mg bse 2 CH "walkers" (spHL CH fnames) := by
  obtain ⟨f, fd, F0, me⟩ := F
  exact metA (bWalkers hhc hM) F0 hhc.c me (bd F0 (args := ⟨[], [⟨"self", none, _⟩], none, [], [], none, []⟩) (ps := ["self"]) rfl (fun _ _ _ _ _ _ _ _ us hl => match us, hl with | [_], _ => rfl)) scWalkers (by intro ds S R h; (repeat (obtain ⟨_, h⟩ := h)); all_goals (subst_vars; rfl))
theorem jDoor (hhc : HallC K CH) (hM : Nm mg) (F : MetF K CH "door" "Hall.door" sDoor) : MetA P w K mg bse 2 CH "door" (spDoor CH) := by
  obtain ⟨f, fd, F0, me⟩ := F
  exact metA (bDoor hhc hM) F0 hhc.c me (bd F0 (args := ⟨[], [⟨"self", none, _⟩, ⟨"name", none, _⟩], none, [], [], none, []⟩) (ps := ["self", "name"]) rfl (fun _ _ _ _ _ _ _ _ us hl => match us, hl with | [_, _], _ => rfl)) scDoor (by intro ds S R h; (repeat (obtain ⟨_, h⟩ := h)); all_goals (subst_vars; rfl))
theorem jHeftM (hhc : HallC K CH) (hM : Nm mg) (F : MetF K CH "heft" "Hall.heft" sHeftM) : MetA P w K mg bse 2 CH "heft" (spHeftM CH) := by
  obtain ⟨f, fd, F0, me⟩ := F
  exact metA (bHeftM hhc hM) F0 hhc.c me (bd F0 (args := ⟨[], [⟨"self", none, _⟩, ⟨"name", none, _⟩], none, [], [], none, []⟩) (ps := ["self", "name"]) rfl (fun _ _ _ _ _ _ _ _ us hl => match us, hl with | [_, _], _ => rfl)) scHeftM (by intro ds S R h; (repeat (obtain ⟨_, h⟩ := h)); all_goals (subst_vars; rfl))
theorem jHands (hhc : HallC K CH) (hM : Nm mg) (F : MetF K CH "hands" "Hall.hands" sHands) : MetA P w K mg bse 2 CH "hands" (spHands CH) := by
  obtain ⟨f, fd, F0, me⟩ := F
  exact metA (bHands hhc hM) F0 hhc.c me (bd F0 (args := ⟨[], [⟨"self", none, _⟩, ⟨"walker", none, _⟩], none, [], [], none, []⟩) (ps := ["self", "walker"]) rfl (fun _ _ _ _ _ _ _ _ us hl => match us, hl with | [_, _], _ => rfl)) scHands (by intro ds S R h; (repeat (obtain ⟨_, h⟩ := h)); all_goals (subst_vars; rfl))
theorem jHInit (hhc : HallC K CH) (hM : Nm mg) (hKept : CalA P w K mg bse 2 "door_kept" (spKept T0 qLam) []) (F : MkF K mg "Hall" CH "Hall.__init__" sHInit) : MakA P w K mg bse 3 "Hall" CH (spHInit CH T0) := by
  obtain ⟨f, fd, F0, mk, hm⟩ := F
  exact makA (bHInit hhc hM hKept) F0 mk hm (bd F0 (args := ⟨[], [⟨"self", none, _⟩, ⟨"rooms", none, _⟩, ⟨"doors", none, _⟩, ⟨"stones", none, _⟩, ⟨"walkers", none, _⟩], none, [], [], none, []⟩) (ps := ["self", "rooms", "doors", "stones", "walkers"]) rfl (fun _ _ _ _ _ _ _ _ us hl => match us, hl with | [_, _, _, _, _], _ => rfl)) scHInit (by intro ds S R h; (repeat (obtain ⟨_, h⟩ := h)); all_goals (subst_vars; rfl))
theorem jDT (hHM : HallM P w K mg bse CH) (F : Top K mg "doors_told" sDT) : CalA P w K mg bse 3 "doors_told" (spDT CH) [] := by
  obtain ⟨f, fd, F0, hm⟩ := F
  exact calA (bDT hHM) F0 hm (bd F0 (args := ⟨[], [⟨"hall", none, _⟩], none, [], [], none, []⟩) (ps := ["hall"]) rfl (fun _ _ _ _ _ _ _ _ us hl => match us, hl with | [_], _ => rfl)) scDT (by intro ds S R h; (repeat (obtain ⟨_, h⟩ := h)); all_goals (subst_vars; rfl))
theorem jST (hHM : HallM P w K mg bse CH) (F : Top K mg "stones_told" sST) : CalA P w K mg bse 3 "stones_told" (spST CH) [] := by
  obtain ⟨f, fd, F0, hm⟩ := F
  exact calA (bST hHM) F0 hm (bd F0 (args := ⟨[], [⟨"hall", none, _⟩], none, [], [], none, []⟩) (ps := ["hall"]) rfl (fun _ _ _ _ _ _ _ _ us hl => match us, hl with | [_], _ => rfl)) scST (by intro ds S R h; (repeat (obtain ⟨_, h⟩ := h)); all_goals (subst_vars; rfl))
theorem jWT (hHM : HallM P w K mg bse CH) (F : Top K mg "walkers_told" sWT) : CalA P w K mg bse 3 "walkers_told" (spWT CH) [] := by
  obtain ⟨f, fd, F0, hm⟩ := F
  exact calA (bWT hHM) F0 hm (bd F0 (args := ⟨[], [⟨"hall", none, _⟩], none, [], [], none, []⟩) (ps := ["hall"]) rfl (fun _ _ _ _ _ _ _ _ us hl => match us, hl with | [_], _ => rfl)) scWT (by intro ds S R h; (repeat (obtain ⟨_, h⟩ := h)); all_goals (subst_vars; rfl))
theorem jNA  (F : Top K mg "need_among" sNA) : CalA P w K mg bse 2 "need_among" (spNA) [] := by
  obtain ⟨f, fd, F0, hm⟩ := F
  exact calA (bNA) F0 hm (bd F0 (args := ⟨[], [⟨"names", none, _⟩, ⟨"name", none, _⟩], none, [], [], none, []⟩) (ps := ["names", "name"]) rfl (fun _ _ _ _ _ _ _ _ us hl => match us, hl with | [_, _], _ => rfl)) scNA (by intro ds S R h; (repeat (obtain ⟨_, h⟩ := h)); all_goals (subst_vars; rfl))
theorem jWD (hHM : HallM P w K mg bse CH) (hST : CalA P w K mg bse 3 "stones_told" (spST CH) []) (hWT : CalA P w K mg bse 3 "walkers_told" (spWT CH) []) (hHInit : MakA P w K mg bse 3 "Hall" CH (spHInit CH T0)) (F : Top K mg "with_doors" sWD) : CalA P w K mg bse 5 "with_doors" (spWD CH T0) [] := by
  obtain ⟨f, fd, F0, hm⟩ := F
  exact calA (bWD hHM hST hWT hHInit) F0 hm (bd F0 (args := ⟨[], [⟨"hall", none, _⟩, ⟨"doors", none, _⟩], none, [], [], none, []⟩) (ps := ["hall", "doors"]) rfl (fun _ _ _ _ _ _ _ _ us hl => match us, hl with | [_, _], _ => rfl)) scWD (by intro ds S R h; (repeat (obtain ⟨_, h⟩ := h)); all_goals (subst_vars; rfl))
theorem jWalled (hHM : HallM P w K mg bse CH) (hNA : CalA P w K mg bse 2 "need_among" (spNA) []) (hDT : CalA P w K mg bse 3 "doors_told" (spDT CH) []) (hWD : CalA P w K mg bse 5 "with_doors" (spWD CH T0) []) (F : Top K mg "walled" sWalled) : CalA P w K mg bse 6 "walled" (spWalled CH T0) [] := by
  obtain ⟨f, fd, F0, hm⟩ := F
  exact calA (bWalled hHM hNA hDT hWD) F0 hm (bd F0 (args := ⟨[], [⟨"hall", none, _⟩, ⟨"door", none, _⟩], none, [], [], none, []⟩) (ps := ["hall", "door"]) rfl (fun _ _ _ _ _ _ _ _ us hl => match us, hl with | [_, _], _ => rfl)) scWalled (by intro ds S R h; (repeat (obtain ⟨_, h⟩ := h)); all_goals (subst_vars; rfl))
theorem jRowed (hHM : HallM P w K mg bse CH) (hM : Nm mg) (hNA : CalA P w K mg bse 2 "need_among" (spNA) []) (hDT : CalA P w K mg bse 3 "doors_told" (spDT CH) []) (hWD : CalA P w K mg bse 5 "with_doors" (spWD CH T0) []) (F : Top K mg "rowed" sRowed) : CalA P w K mg bse 6 "rowed" (spRowed CH T0) [] := by
  obtain ⟨f, fd, F0, hm⟩ := F
  exact calA (bRowed hHM hM hNA hDT hWD) F0 hm (bd F0 (args := ⟨[], [⟨"hall", none, _⟩, ⟨"door", none, _⟩, ⟨"rows", none, _⟩], none, [], [], none, []⟩) (ps := ["hall", "door", "rows"]) rfl (fun _ _ _ _ _ _ _ _ us hl => match us, hl with | [_, _, _], _ => rfl)) scRowed (by intro ds S R h; (repeat (obtain ⟨_, h⟩ := h)); all_goals (subst_vars; rfl))
theorem jOpened (hRowed : CalA P w K mg bse 6 "rowed" (spRowed CH T0) []) (F : Top K mg "opened" sOpened) : CalA P w K mg bse 7 "opened" (spOpened CH T0) [] := by
  obtain ⟨f, fd, F0, hm⟩ := F
  exact calA (bOpened hRowed) F0 hm (bd F0 (args := ⟨[], [⟨"hall", none, _⟩, ⟨"door", none, _⟩], none, [], [], none, []⟩) (ps := ["hall", "door"]) rfl (fun _ _ _ _ _ _ _ _ us hl => match us, hl with | [_, _], _ => rfl)) scOpened (by intro ds S R h; (repeat (obtain ⟨_, h⟩ := h)); all_goals (subst_vars; rfl))
theorem jHefted (hHM : HallM P w K mg bse CH) (hNA : CalA P w K mg bse 2 "need_among" (spNA) []) (hDT : CalA P w K mg bse 3 "doors_told" (spDT CH) []) (hST : CalA P w K mg bse 3 "stones_told" (spST CH) []) (hWT : CalA P w K mg bse 3 "walkers_told" (spWT CH) []) (hHInit : MakA P w K mg bse 3 "Hall" CH (spHInit CH T0)) (F : Top K mg "hefted" sHefted) : CalA P w K mg bse 5 "hefted" (spHefted CH T0) [] := by
  obtain ⟨f, fd, F0, hm⟩ := F
  exact calA (bHefted hHM hNA hDT hST hWT hHInit) F0 hm (bd F0 (args := ⟨[], [⟨"hall", none, _⟩, ⟨"name", none, _⟩, ⟨"heft", none, _⟩], none, [], [], none, []⟩) (ps := ["hall", "name", "heft"]) rfl (fun _ _ _ _ _ _ _ _ us hl => match us, hl with | [_, _, _], _ => rfl)) scHefted (by intro ds S R h; (repeat (obtain ⟨_, h⟩ := h)); all_goals (subst_vars; rfl))
theorem jIsOpen (hHM : HallM P w K mg bse CH) (hM : Nm mg) (hRowMet : CalA P w K mg bse 2 "is_row_met" (spRowMet) []) (F : Top K mg "is_open" sIsOpen) : CalA P w K mg bse 3 "is_open" (spIsOpen CH) [] := by
  obtain ⟨f, fd, F0, hm⟩ := F
  exact calA (bIsOpen hHM hM hRowMet) F0 hm (bd F0 (args := ⟨[], [⟨"hall", none, _⟩, ⟨"door", none, _⟩, ⟨"weights", none, _⟩], none, [], [], none, []⟩) (ps := ["hall", "door", "weights"]) rfl (fun _ _ _ _ _ _ _ _ us hl => match us, hl with | [_, _, _], _ => rfl)) scIsOpen (by intro ds S R h; (repeat (obtain ⟨_, h⟩ := h)); all_goals (subst_vars; rfl))
theorem jLBorne (hM : Nm mg) (F : Top K mg "_law_borne" sLBorne) : CalA P w K mg bse 2 "_law_borne" (spLBorne) [] := by
  obtain ⟨f, fd, F0, hm⟩ := F
  exact calA (bLBorne hM) F0 hm (bd F0 (args := ⟨[], [⟨"hall", none, _⟩, ⟨"stand", none, _⟩, ⟨"aside", none, _⟩], none, [], [], none, []⟩) (ps := ["hall", "stand", "aside"]) rfl (fun _ _ _ _ _ _ _ _ us hl => match us, hl with | [_, _, _], _ => rfl)) scLBorne (by intro ds S R h; (repeat (obtain ⟨_, h⟩ := h)); all_goals (subst_vars; rfl))
theorem jLOpen (hM : Nm mg) (hLBorne : CalA P w K mg bse 2 "_law_borne" (spLBorne) []) (hLMet : CalA P w K mg bse 2 "_law_is_met" (spRowMet) []) (F : Top K mg "_law_open" sLOpen) : CalA P w K mg bse 3 "_law_open" (spLOpen) [] := by
  obtain ⟨f, fd, F0, hm⟩ := F
  exact calA (bLOpen hM hLBorne hLMet) F0 hm (bd F0 (args := ⟨[], [⟨"hall", none, _⟩, ⟨"stand", none, _⟩, ⟨"aside", none, _⟩], none, [], [], none, []⟩) (ps := ["hall", "stand", "aside"]) rfl (fun _ _ _ _ _ _ _ _ us hl => match us, hl with | [_, _, _], _ => rfl)) scLOpen (by intro ds S R h; (repeat (obtain ⟨_, h⟩ := h)); all_goals (subst_vars; rfl))
theorem jLDeeds (hM : Nm mg) (hLOpen : CalA P w K mg bse 3 "_law_open" (spLOpen) []) (hFar : CalA P w K mg bse 2 "_law_far" (spFar) []) (F : Top K mg "_law_deeds" sLDeeds) : CalA P w K mg bse 4 "_law_deeds" (spLDeeds) [] := by
  obtain ⟨f, fd, F0, hm⟩ := F
  exact calA (bLDeeds hM hLOpen hFar) F0 hm (bd F0 (args := ⟨[], [⟨"hall", none, _⟩, ⟨"stand", none, _⟩], none, [], [], none, []⟩) (ps := ["hall", "stand"]) rfl (fun _ _ _ _ _ _ _ _ us hl => match us, hl with | [_, _], _ => rfl)) scLDeeds (by intro ds S R h; (repeat (obtain ⟨_, h⟩ := h)); all_goals (subst_vars; rfl))
theorem jLAfter (hM : Nm mg) (hFar : CalA P w K mg bse 2 "_law_far" (spFar) []) (F : Top K mg "_law_after" sLAfter) : CalA P w K mg bse 3 "_law_after" (spLAfter) [] := by
  obtain ⟨f, fd, F0, hm⟩ := F
  exact calA (bLAfter hM hFar) F0 hm (bd F0 (args := ⟨[], [⟨"hall", none, _⟩, ⟨"stand", none, _⟩, ⟨"deed", none, _⟩], none, [], [], none, []⟩) (ps := ["hall", "stand", "deed"]) rfl (fun _ _ _ _ _ _ _ _ us hl => match us, hl with | [_, _, _], _ => rfl)) scLAfter (by intro ds S R h; (repeat (obtain ⟨_, h⟩ := h)); all_goals (subst_vars; rfl))
theorem jIsName (hM : Nm mg) (hgL : GlobD mg K "LETTERS" (.str abc)) (F : Top K mg "is_name" sIsName) : CalA P w K mg bse 2 "is_name" (spIsName) [] := by
  obtain ⟨f, fd, F0, hm⟩ := F
  exact calA (bIsName hM hgL) F0 hm (bd F0 (args := ⟨[], [⟨"thing", none, _⟩], none, [], [], none, []⟩) (ps := ["thing"]) rfl (fun _ _ _ _ _ _ _ _ us hl => match us, hl with | [_], _ => rfl)) scIsName (by intro ds S R h; (repeat (obtain ⟨_, h⟩ := h)); all_goals (subst_vars; rfl))
theorem jIsDeed (hM : Nm mg) (hIsName : CalA P w K mg bse 2 "is_name" (spIsName) []) (F : Top K mg "is_deed" sIsDeed) : CalA P w K mg bse 3 "is_deed" (spIsDeed) [] := by
  obtain ⟨f, fd, F0, hm⟩ := F
  exact calA (bIsDeed hM hIsName) F0 hm (bd F0 (args := ⟨[], [⟨"thing", none, _⟩], none, [], [], none, []⟩) (ps := ["thing"]) rfl (fun _ _ _ _ _ _ _ _ us hl => match us, hl with | [_], _ => rfl)) scIsDeed (by intro ds S R h; (repeat (obtain ⟨_, h⟩ := h)); all_goals (subst_vars; rfl))
theorem jWhose (hHM : HallM P w K mg bse CH) (F : Top K mg "whose" sWhose) : CalA P w K mg bse 3 "whose" (spWhose CH) [] := by
  obtain ⟨f, fd, F0, hm⟩ := F
  exact calA (bWhose hHM) F0 hm (bd F0 (args := ⟨[], [⟨"hall", none, _⟩, ⟨"stand", none, _⟩], none, [], [], none, []⟩) (ps := ["hall", "stand"]) rfl (fun _ _ _ _ _ _ _ _ us hl => match us, hl with | [_, _], _ => rfl)) scWhose (by intro ds S R h; (repeat (obtain ⟨_, h⟩ := h)); all_goals (subst_vars; rfl))
theorem jRFrom (hHM : HallM P w K mg bse CH) (F : Top K mg "rooms_from" sRFrom) : CalA P w K mg bse 3 "rooms_from" (spRFrom CH) [] := by
  obtain ⟨f, fd, F0, hm⟩ := F
  exact calA (bRFrom hHM) F0 hm (bd F0 (args := ⟨[], [⟨"hall", none, _⟩, ⟨"door", none, _⟩, ⟨"room", none, _⟩], none, [], [], none, []⟩) (ps := ["hall", "door", "room"]) rfl (fun _ _ _ _ _ _ _ _ us hl => match us, hl with | [_, _, _], _ => rfl)) scRFrom (by intro ds S R h; (repeat (obtain ⟨_, h⟩ := h)); all_goals (subst_vars; rfl))
theorem jWnGo (hHM : HallM P w K mg bse CH) (hRFrom : CalA P w K mg bse 3 "rooms_from" (spRFrom CH) []) (hIsOpen : CalA P w K mg bse 3 "is_open" (spIsOpen CH) []) (hBorne0 : CalA P w K mg bse 3 "borne" (spBorne CH) []) (hWhose : CalA P w K mg bse 3 "whose" (spWhose CH) []) (F : Top K mg "why_not_go" sWnGo) : CalA P w K mg bse 4 "why_not_go" (spWn CH .go) [] := by
  obtain ⟨f, fd, F0, hm⟩ := F
  exact calA (bWnGo hHM hRFrom hIsOpen hBorne0 hWhose) F0 hm (bd F0 (args := ⟨[], [⟨"hall", none, _⟩, ⟨"stand", none, _⟩, ⟨"door", none, _⟩], none, [], [], none, []⟩) (ps := ["hall", "stand", "door"]) rfl (fun _ _ _ _ _ _ _ _ us hl => match us, hl with | [_, _, _], _ => rfl)) scWnGo (by intro ds S R h; (repeat (obtain ⟨_, h⟩ := h)); all_goals (subst_vars; rfl))
theorem jWnLift (hHM : HallM P w K mg bse CH) (hWhose : CalA P w K mg bse 3 "whose" (spWhose CH) []) (F : Top K mg "why_not_lift" sWnLift) : CalA P w K mg bse 4 "why_not_lift" (spWn CH .lift) [] := by
  obtain ⟨f, fd, F0, hm⟩ := F
  exact calA (bWnLift hHM hWhose) F0 hm (bd F0 (args := ⟨[], [⟨"hall", none, _⟩, ⟨"stand", none, _⟩, ⟨"stone", none, _⟩], none, [], [], none, []⟩) (ps := ["hall", "stand", "stone"]) rfl (fun _ _ _ _ _ _ _ _ us hl => match us, hl with | [_, _, _], _ => rfl)) scWnLift (by intro ds S R h; (repeat (obtain ⟨_, h⟩ := h)); all_goals (subst_vars; rfl))
theorem jWnLay (hHM : HallM P w K mg bse CH) (hWhose : CalA P w K mg bse 3 "whose" (spWhose CH) []) (F : Top K mg "why_not_lay" sWnLay) : CalA P w K mg bse 4 "why_not_lay" (spWn CH .lay) [] := by
  obtain ⟨f, fd, F0, hm⟩ := F
  exact calA (bWnLay hHM hWhose) F0 hm (bd F0 (args := ⟨[], [⟨"hall", none, _⟩, ⟨"stand", none, _⟩, ⟨"stone", none, _⟩], none, [], [], none, []⟩) (ps := ["hall", "stand", "stone"]) rfl (fun _ _ _ _ _ _ _ _ us hl => match us, hl with | [_, _, _], _ => rfl)) scWnLay (by intro ds S R h; (repeat (obtain ⟨_, h⟩ := h)); all_goals (subst_vars; rfl))
theorem jWhyNot (hgW : GlobD mg K "WAIT" (deedD .wait)) (hIsDeed : CalA P w K mg bse 3 "is_deed" (spIsDeed) []) (hWnGo : CalA P w K mg bse 4 "why_not_go" (spWn CH .go) []) (hWnLift : CalA P w K mg bse 4 "why_not_lift" (spWn CH .lift) []) (hWnLay : CalA P w K mg bse 4 "why_not_lay" (spWn CH .lay) []) (F : Top K mg "why_not" sWhyNot) : CalA P w K mg bse 5 "why_not" (spWhy CH) [] := by
  obtain ⟨f, fd, F0, hm⟩ := F
  exact calA (bWhyNot hgW hIsDeed hWnGo hWnLift hWnLay) F0 hm (bd F0 (args := ⟨[], [⟨"hall", none, _⟩, ⟨"stand", none, _⟩, ⟨"deed", none, _⟩], none, [], [], none, []⟩) (ps := ["hall", "stand", "deed"]) rfl (fun _ _ _ _ _ _ _ _ us hl => match us, hl with | [_, _, _], _ => rfl)) scWhyNot (by intro ds S R h; (repeat (obtain ⟨_, h⟩ := h)); all_goals (subst_vars; rfl))
theorem jBehind (hHM : HallM P w K mg bse CH) (hM : Nm mg) (hRFrom : CalA P w K mg bse 3 "rooms_from" (spRFrom CH) []) (hWhose : CalA P w K mg bse 3 "whose" (spWhose CH) []) (F : Top K mg "behind" sBehind) : CalA P w K mg bse 4 "behind" (spBehind CH) [] := by
  obtain ⟨f, fd, F0, hm⟩ := F
  exact calA (bBehind hHM hM hRFrom hWhose) F0 hm (bd F0 (args := ⟨[], [⟨"hall", none, _⟩, ⟨"stand", none, _⟩, ⟨"deed", none, _⟩], none, [], [], none, []⟩) (ps := ["hall", "stand", "deed"]) rfl (fun _ _ _ _ _ _ _ _ us hl => match us, hl with | [_, _, _], _ => rfl)) scBehind (by intro ds S R h; (repeat (obtain ⟨_, h⟩ := h)); all_goals (subst_vars; rfl))
theorem jDone (hWhyNot : CalA P w K mg bse 5 "why_not" (spWhy CH) []) (hBehind : CalA P w K mg bse 4 "behind" (spBehind CH) []) (F : Top K mg "done" sDone) : CalA P w K mg bse 6 "done" (spDone CH) [] := by
  obtain ⟨f, fd, F0, hm⟩ := F
  exact calA (bDone hWhyNot hBehind) F0 hm (bd F0 (args := ⟨[], [⟨"hall", none, _⟩, ⟨"stand", none, _⟩, ⟨"deed", none, _⟩], none, [], [], none, []⟩) (ps := ["hall", "stand", "deed"]) rfl (fun _ _ _ _ _ _ _ _ us hl => match us, hl with | [_, _, _], _ => rfl)) scDone (by intro ds S R h; (repeat (obtain ⟨_, h⟩ := h)); all_goals (subst_vars; rfl))
theorem jMInit (hmc : MomC K CM) (F : MkF K mg "Moment" CM "Moment.__init__" sMInit) : MakA P w K mg bse 2 "Moment" CM (spMInit CM) := by
  obtain ⟨f, fd, F0, mk, hm⟩ := F
  exact makA (bMInit hmc) F0 mk hm (bd F0 (args := ⟨[], [⟨"self", none, _⟩, ⟨"hall", none, _⟩, ⟨"stand", none, _⟩, ⟨"act", none, _⟩, ⟨"plan", none, _⟩], none, [], [], none, []⟩) (ps := ["self", "hall", "stand", "act", "plan"]) rfl (fun _ _ _ _ _ _ _ _ us hl => match us, hl with | [_, _, _, _, _], _ => rfl)) scMInit (by intro ds S R h; (repeat (obtain ⟨_, h⟩ := h)); all_goals (subst_vars; rfl))
theorem jBInit (hbc : BookC K CB) (hMInit : MakA P w K mg bse 2 "Moment" CM (spMInit CM)) (F : MkF K mg "Book" CB "Book.__init__" sBInit) : MakA P w K mg bse 4 "Book" CB (spBInit CH CM CB) := by
  obtain ⟨f, fd, F0, mk, hm⟩ := F
  exact makA (bBInit hbc hMInit) F0 mk hm (bd F0 (args := ⟨[], [⟨"self", none, _⟩, ⟨"hall", none, _⟩, ⟨"stand", none, _⟩], none, [], [], none, []⟩) (ps := ["self", "hall", "stand"]) rfl (fun _ _ _ _ _ _ _ _ us hl => match us, hl with | [_, _, _], _ => rfl)) scBInit (by intro ds S R h; (repeat (obtain ⟨_, h⟩ := h)); all_goals (subst_vars; rfl))
theorem jTOver (hbc : BookC K CB) (hMInit : MakA P w K mg bse 2 "Moment" CM (spMInit CM)) (F : MetF K CB "turn_over" "Book.turn_over" sTOver) : MetA P w K mg bse 4 CB "turn_over" (spTOver CH CM CB) := by
  obtain ⟨f, fd, F0, me⟩ := F
  exact metA (bTOver hbc hMInit) F0 hbc.c me (bd F0 (args := ⟨[], [⟨"self", none, _⟩, ⟨"hall", none, _⟩, ⟨"stand", none, _⟩, ⟨"act", none, _⟩, ⟨"plan", none, _⟩], none, [], [], none, []⟩) (ps := ["self", "hall", "stand", "act", "plan"]) rfl (fun _ _ _ _ _ _ _ _ us hl => match us, hl with | [_, _, _, _, _], _ => rfl)) scTOver (by intro ds S R h; (repeat (obtain ⟨_, h⟩ := h)); all_goals (subst_vars; rfl))
theorem jChange (hbc : BookC K CB) (hmc : MomC K CM) (hTOver : MetA P w K mg bse 4 CB "turn_over" (spTOver CH CM CB)) (F : MetF K CB "change" "Book.change" sChange) : MetA P w K mg bse 5 CB "change" (spChange CH CM CB) := by
  obtain ⟨f, fd, F0, me⟩ := F
  exact metA (bChange hbc hmc hTOver) F0 hbc.c me (bd F0 (args := ⟨[], [⟨"self", none, _⟩, ⟨"hall", none, _⟩, ⟨"act", none, _⟩], none, [], [], none, []⟩) (ps := ["self", "hall", "act"]) rfl (fun _ _ _ _ _ _ _ _ us hl => match us, hl with | [_, _, _], _ => rfl)) scChange (by intro ds S R h; (repeat (obtain ⟨_, h⟩ := h)); all_goals (subst_vars; rfl))
theorem jBDo (hbc : BookC K CB) (hmc : MomC K CM) (hTOver : MetA P w K mg bse 4 CB "turn_over" (spTOver CH CM CB)) (hDone : CalA P w K mg bse 6 "done" (spDone CH) []) (F : MetF K CB "do" "Book.do" sBDo) : MetA P w K mg bse 7 CB "do" (spDo CH CM CB) := by
  obtain ⟨f, fd, F0, me⟩ := F
  exact metA (bBDo hbc hmc hTOver hDone) F0 hbc.c me (bd F0 (args := ⟨[], [⟨"self", none, _⟩, ⟨"deed", none, _⟩], none, [], [], none, []⟩) (ps := ["self", "deed"]) rfl (fun _ _ _ _ _ _ _ _ us hl => match us, hl with | [_, _], _ => rfl)) scBDo (by intro ds S R h; (repeat (obtain ⟨_, h⟩ := h)); all_goals (subst_vars; rfl))
theorem jSHeft (hbc : BookC K CB) (hmc : MomC K CM) (hChange : MetA P w K mg bse 5 CB "change" (spChange CH CM CB)) (hHefted : CalA P w K mg bse 5 "hefted" (spHefted CH T0) []) (F : MetF K CB "set_heft" "Book.set_heft" sSHeft) : MetA P w K mg bse 6 CB "set_heft" (spSHeft CH CM CB T0) := by
  obtain ⟨f, fd, F0, me⟩ := F
  exact metA (bSHeft hbc hmc hChange hHefted) F0 hbc.c me (bd F0 (args := ⟨[], [⟨"self", none, _⟩, ⟨"name", none, _⟩, ⟨"heft", none, _⟩], none, [], [], none, []⟩) (ps := ["self", "name", "heft"]) rfl (fun _ _ _ _ _ _ _ _ us hl => match us, hl with | [_, _, _], _ => rfl)) scSHeft (by intro ds S R h; (repeat (obtain ⟨_, h⟩ := h)); all_goals (subst_vars; rfl))
theorem jSRows (hbc : BookC K CB) (hmc : MomC K CM) (hHM : HallM P w K mg bse CH) (hChange : MetA P w K mg bse 5 CB "change" (spChange CH CM CB)) (hRowed : CalA P w K mg bse 6 "rowed" (spRowed CH T0) []) (F : MetF K CB "set_rows" "Book.set_rows" sSRows) : MetA P w K mg bse 7 CB "set_rows" (spSRows CH CM CB T0) := by
  obtain ⟨f, fd, F0, me⟩ := F
  exact metA (bSRows hbc hmc hHM hChange hRowed) F0 hbc.c me (bd F0 (args := ⟨[], [⟨"self", none, _⟩, ⟨"door", none, _⟩, ⟨"rows", none, _⟩], none, [], [], none, []⟩) (ps := ["self", "door", "rows"]) rfl (fun _ _ _ _ _ _ _ _ us hl => match us, hl with | [_, _, _], _ => rfl)) scSRows (by intro ds S R h; (repeat (obtain ⟨_, h⟩ := h)); all_goals (subst_vars; rfl))
theorem jBWall (hbc : BookC K CB) (hmc : MomC K CM) (hChange : MetA P w K mg bse 5 CB "change" (spChange CH CM CB)) (hWalled : CalA P w K mg bse 6 "walled" (spWalled CH T0) []) (F : MetF K CB "wall" "Book.wall" sBWall) : MetA P w K mg bse 7 CB "wall" (spBWall CH CM CB T0) := by
  obtain ⟨f, fd, F0, me⟩ := F
  exact metA (bBWall hbc hmc hChange hWalled) F0 hbc.c me (bd F0 (args := ⟨[], [⟨"self", none, _⟩, ⟨"door", none, _⟩], none, [], [], none, []⟩) (ps := ["self", "door"]) rfl (fun _ _ _ _ _ _ _ _ us hl => match us, hl with | [_, _], _ => rfl)) scBWall (by intro ds S R h; (repeat (obtain ⟨_, h⟩ := h)); all_goals (subst_vars; rfl))
theorem jOpenUp (hbc : BookC K CB) (hmc : MomC K CM) (hChange : MetA P w K mg bse 5 CB "change" (spChange CH CM CB)) (hOpened : CalA P w K mg bse 7 "opened" (spOpened CH T0) []) (F : MetF K CB "open_up" "Book.open_up" sOpenUp) : MetA P w K mg bse 8 CB "open_up" (spOpenUp CH CM CB T0) := by
  obtain ⟨f, fd, F0, me⟩ := F
  exact metA (bOpenUp hbc hmc hChange hOpened) F0 hbc.c me (bd F0 (args := ⟨[], [⟨"self", none, _⟩, ⟨"door", none, _⟩], none, [], [], none, []⟩) (ps := ["self", "door"]) rfl (fun _ _ _ _ _ _ _ _ us hl => match us, hl with | [_, _], _ => rfl)) scOpenUp (by intro ds S R h; (repeat (obtain ⟨_, h⟩ := h)); all_goals (subst_vars; rfl))
theorem jBBack (hbc : BookC K CB) (hmc : MomC K CM) (hM : Nm mg) (F : MetF K CB "back" "Book.back" sBBack) : MetA P w K mg bse 2 CB "back" (spBBack CH CM CB) := by
  obtain ⟨f, fd, F0, me⟩ := F
  exact metA (bBBack hbc hmc hM) F0 hbc.c me (bd F0 (args := ⟨[], [⟨"self", none, _⟩], none, [], [], none, []⟩) (ps := ["self"]) rfl (fun _ _ _ _ _ _ _ _ us hl => match us, hl with | [_], _ => rfl)) scBBack (by intro ds S R h; (repeat (obtain ⟨_, h⟩ := h)); all_goals (subst_vars; rfl))
theorem jBOn (hbc : BookC K CB) (hmc : MomC K CM) (F : MetF K CB "on" "Book.on" sBOn) : MetA P w K mg bse 2 CB "on" (spBOn CH CM CB) := by
  obtain ⟨f, fd, F0, me⟩ := F
  exact metA (bBOn hbc hmc) F0 hbc.c me (bd F0 (args := ⟨[], [⟨"self", none, _⟩], none, [], [], none, []⟩) (ps := ["self"]) rfl (fun _ _ _ _ _ _ _ _ us hl => match us, hl with | [_], _ => rfl)) scBOn (by intro ds S R h; (repeat (obtain ⟨_, h⟩ := h)); all_goals (subst_vars; rfl))
theorem jPen (hM : Nm mg) (F : Top K mg "_law_pen" sPen) : CalA P w K mg bse 2 "_law_pen" (spLPen) [] := by
  obtain ⟨f, fd, F0, hm⟩ := F
  exact calA (bLPen hM) F0 hm (bd F0 (args := ⟨[], [⟨"script", none, _⟩], none, [], [], none, []⟩) (ps := ["script"]) rfl (fun _ _ _ _ _ _ _ _ us hl => match us, hl with | [_], _ => rfl)) scPen (by intro ds S R h; (repeat (obtain ⟨_, h⟩ := h)); all_goals (subst_vars; rfl))
theorem jLStand (hM : Nm mg) (hDraw : CalA P w K mg bse 2 "_law_draw" (spDraw) []) (hPick : CalA P w K mg bse 3 "_law_pick" (spPick) []) (F : Top K mg "_law_stand" sLStand) : CalA P w K mg bse 4 "_law_stand" (spLStand) [] := by
  obtain ⟨f, fd, F0, hm⟩ := F
  exact calA (bLStand hM hDraw hPick) F0 hm (bd F0 (args := ⟨[], [⟨"pen", none, _⟩, ⟨"hall", none, _⟩], none, [], [], none, []⟩) (ps := ["pen", "hall"]) rfl (fun _ _ _ _ _ _ _ _ us hl => match us, hl with | [_, _], _ => rfl)) scLStand (by intro ds S R h; (repeat (obtain ⟨_, h⟩ := h)); all_goals (subst_vars; rfl))
theorem jLAct (hM : Nm mg) (hPick : CalA P w K mg bse 3 "_law_pick" (spPick) []) (hHeft : CalA P w K mg bse 3 "_law_heft" (spHeft) []) (hLRows : CalA P w K mg bse 4 "_law_rows" (spLRows) []) (hLDeeds : CalA P w K mg bse 4 "_law_deeds" (spLDeeds) []) (F : Top K mg "_law_act" sLAct) : CalA P w K mg bse 5 "_law_act" (spLAct) [] := by
  obtain ⟨f, fd, F0, hm⟩ := F
  exact calA (bLAct hM hPick hHeft hLRows hLDeeds) F0 hm (bd F0 (args := ⟨[], [⟨"pen", none, _⟩, ⟨"hall", none, _⟩, ⟨"stand", none, _⟩], none, [], [], none, []⟩) (ps := ["pen", "hall", "stand"]) rfl (fun _ _ _ _ _ _ _ _ us hl => match us, hl with | [_, _, _], _ => rfl)) scLAct (by intro ds S R h; (repeat (obtain ⟨_, h⟩ := h)); all_goals (subst_vars; rfl))
theorem jLActed (hM : Nm mg) (hLAfter : CalA P w K mg bse 3 "_law_after" (spLAfter) []) (F : Top K mg "_law_acted" sLActed) : CalA P w K mg bse 4 "_law_acted" (spLActed) [] := by
  obtain ⟨f, fd, F0, hm⟩ := F
  exact calA (bLActed hM hLAfter) F0 hm (bd F0 (args := ⟨[], [⟨"hall", none, _⟩, ⟨"stand", none, _⟩, ⟨"act", none, _⟩], none, [], [], none, []⟩) (ps := ["hall", "stand", "act"]) rfl (fun _ _ _ _ _ _ _ _ us hl => match us, hl with | [_, _, _], _ => rfl)) scLActed (by intro ds S R h; (repeat (obtain ⟨_, h⟩ := h)); all_goals (subst_vars; rfl))
theorem jLTell (hbc : BookC K CB) (hM : Nm mg) (hBM : BookM P w K mg bse CH CM CB T0) (hDraw : CalA P w K mg bse 2 "_law_draw" (spDraw) []) (hShuf : CalA P w K mg bse 3 "_law_shuffled" (spShuf) []) (F : Top K mg "_law_tell" sLTell) : CalA P w K mg bse 9 "_law_tell" (spLTell CH CM CB T0) [] := by
  obtain ⟨f, fd, F0, hm⟩ := F
  exact calA (bLTell hbc hM hBM hDraw hShuf) F0 hm (bd F0 (args := ⟨[], [⟨"pen", none, _⟩, ⟨"book", none, _⟩, ⟨"act", none, _⟩], none, [], [], none, []⟩) (ps := ["pen", "book", "act"]) rfl (fun _ _ _ _ _ _ _ _ us hl => match us, hl with | [_, _, _], _ => rfl)) scLTell (by intro ds S R h; (repeat (obtain ⟨_, h⟩ := h)); all_goals (subst_vars; rfl))
theorem jMade (hM : Nm mg) (hHInit : MakA P w K mg bse 3 "Hall" CH (spHInit CH T0)) (F : Top K mg "_law_made" sMade) : CalA P w K mg bse 5 "_law_made" (spMade CH T0) [] := by
  obtain ⟨f, fd, F0, hm⟩ := F
  exact calA (bMade hM hHInit) F0 hm (bd F0 (args := ⟨[], [⟨"hall", none, _⟩], none, [], [], none, []⟩) (ps := ["hall"]) rfl (fun _ _ _ _ _ _ _ _ us hl => match us, hl with | [_], _ => rfl)) scMade (by intro ds S R h; (repeat (obtain ⟨_, h⟩ := h)); all_goals (subst_vars; rfl))
theorem jRoomsN (hhc : HallC K CH) (hM : Nm mg) (F : MetF K CH "rooms" "Hall.rooms" sRooms) : MetA P w K mg bse 2 CH "rooms" (spRoomsN CH) := by
  obtain ⟨f, fd, F0, me⟩ := F
  exact metA (bRoomsN hhc hM) F0 hhc.c me (bd F0 (args := ⟨[], [⟨"self", none, _⟩], none, [], [], none, []⟩) (ps := ["self"]) rfl (fun _ _ _ _ _ _ _ _ us hl => match us, hl with | [_], _ => rfl)) scRooms (by intro ds S R h; (repeat (obtain ⟨_, h⟩ := h)); all_goals (subst_vars; rfl))
theorem jWhole (hM : Nm mg) (hnb : mg "bool" = none) (F : Top K mg "is_whole" sWhole) : CalA P w K mg bse 2 "is_whole" (spWhole) [] := by
  obtain ⟨f, fd, F0, hm⟩ := F
  exact calA (bWhole hM hnb) F0 hm (bd F0 (args := ⟨[], [⟨"thing", none, _⟩], none, [], [], none, []⟩) (ps := ["thing"]) rfl (fun _ _ _ _ _ _ _ _ us hl => match us, hl with | [_], _ => rfl)) scWhole (by intro ds S R h; (repeat (obtain ⟨_, h⟩ := h)); all_goals (subst_vars; rfl))
theorem jFrom (hWhole : CalA P w K mg bse 2 "is_whole" (spWhole) []) (F : Top K mg "is_from" sFrom) : CalA P w K mg bse 3 "is_from" (spFrom) [] := by
  obtain ⟨f, fd, F0, hm⟩ := F
  exact calA (bFrom hWhole) F0 hm (bd F0 (args := ⟨[], [⟨"thing", none, _⟩, ⟨"least", none, _⟩, ⟨"most", none, _⟩], none, [], [], none, []⟩) (ps := ["thing", "least", "most"]) rfl (fun _ _ _ _ _ _ _ _ us hl => match us, hl with | [_, _, _], _ => rfl)) scFrom (by intro ds S R h; (repeat (obtain ⟨_, h⟩ := h)); all_goals (subst_vars; rfl))
theorem jMomAt (hbc : BookC K CB) (hM : Nm mg) (hFrom : CalA P w K mg bse 3 "is_from" (spFrom) []) (F : MetF K CB "moment_at" "Book.moment_at" sMomAt) : MetA P w K mg bse 4 CB "moment_at" (spMomAt CH CM CB) := by
  obtain ⟨f, fd, F0, me⟩ := F
  exact metA (bMomAt hbc hM hFrom) F0 hbc.c me (bd F0 (args := ⟨[], [⟨"self", none, _⟩, ⟨"moment", none, _⟩], none, [], [], none, []⟩) (ps := ["self", "moment"]) rfl (fun _ _ _ _ _ _ _ _ us hl => match us, hl with | [_, _], _ => rfl)) scMomAt (by intro ds S R h; (repeat (obtain ⟨_, h⟩ := h)); all_goals (subst_vars; rfl))
theorem jHallAt (hbc : BookC K CB) (hmc : MomC K CM) (hMomAt : MetA P w K mg bse 4 CB "moment_at" (spMomAt CH CM CB)) (F : MetFk K CB "hall_at" "Book.hall_at" sHallAt "moment") : MetD P w K mg bse 5 CB "hall_at" (spHallAt CH CM CB) [.non] ∧ MetK P w K mg bse 5 CB "hall_at" ["moment"] (spHallAt CH CM CB) := by
  obtain ⟨f, fd, F0, me⟩ := F
  exact ⟨metD1 (d := .non) (bHallAt hbc hmc hMomAt) F0 hbc.c me scHallAt (by intro ds S R h; (repeat (obtain ⟨_, h⟩ := h)); all_goals (subst_vars; rfl)) (fun _ => rfl) rfl fun _ _ _ _ _ _ _ _ _ _ => ⟨_, _, _, _, _, _, rfl, rfl, rfl⟩, metK1 (bHallAt hbc hmc hMomAt) F0 hbc.c me scHallAt (by intro ds S R h; (repeat (obtain ⟨_, h⟩ := h)); all_goals (subst_vars; rfl)) fun _ _ _ _ _ _ _ _ _ _ => rfl⟩
theorem jStandAt (hbc : BookC K CB) (hmc : MomC K CM) (hMomAt : MetA P w K mg bse 4 CB "moment_at" (spMomAt CH CM CB)) (F : MetFk K CB "stand_at" "Book.stand_at" sStandAt "moment") : MetD P w K mg bse 5 CB "stand_at" (spStandAt CH CM CB) [.non] ∧ MetK P w K mg bse 5 CB "stand_at" ["moment"] (spStandAt CH CM CB) := by
  obtain ⟨f, fd, F0, me⟩ := F
  exact ⟨metD1 (d := .non) (bStandAt hbc hmc hMomAt) F0 hbc.c me scStandAt (by intro ds S R h; (repeat (obtain ⟨_, h⟩ := h)); all_goals (subst_vars; rfl)) (fun _ => rfl) rfl fun _ _ _ _ _ _ _ _ _ _ => ⟨_, _, _, _, _, _, rfl, rfl, rfl⟩, metK1 (bStandAt hbc hmc hMomAt) F0 hbc.c me scStandAt (by intro ds S R h; (repeat (obtain ⟨_, h⟩ := h)); all_goals (subst_vars; rfl)) fun _ _ _ _ _ _ _ _ _ _ => rfl⟩
theorem jActs (hbc : BookC K CB) (hmc : MomC K CM) (F : MetF K CB "acts" "Book.acts" sActs) : MetA P w K mg bse 2 CB "acts" (spActs CH CM CB) := by
  obtain ⟨f, fd, F0, me⟩ := F
  exact metA (bActs hbc hmc) F0 hbc.c me (bd F0 (args := ⟨[], [⟨"self", none, _⟩], none, [], [], none, []⟩) (ps := ["self"]) rfl (fun _ _ _ _ _ _ _ _ us hl => match us, hl with | [_], _ => rfl)) scActs (by intro ds S R h; (repeat (obtain ⟨_, h⟩ := h)); all_goals (subst_vars; rfl))
theorem jHRight (hM : Nm mg) (hHM : HallM P w K mg bse CH) (F : Top K mg "_law_hall_right" sHRight) : CalG P w K mg bse 3 "_law_hall_right" (spHRight CH) := by
  obtain ⟨f, fd, F0, hm⟩ := F
  exact calG (bHRight hM hHM) F0 hm (bd F0 (args := ⟨[], [⟨"found", none, _⟩, ⟨"hall", none, _⟩], none, [], [], none, []⟩) (ps := ["found", "hall"]) rfl (fun _ _ _ _ _ _ _ _ us hl => match us, hl with | [_, _], _ => rfl)) scHRight (by intro ds S R h; (repeat (obtain ⟨_, h⟩ := h)); all_goals (subst_vars; rfl))
theorem jMRight (hbc : BookC K CB) (hM : Nm mg) (hkHallAt : MetK P w K mg bse 5 CB "hall_at" ["moment"] (spHallAt CH CM CB)) (hkStandAt : MetK P w K mg bse 5 CB "stand_at" ["moment"] (spStandAt CH CM CB)) (hHRight : CalG P w K mg bse 3 "_law_hall_right" (spHRight CH)) (F : Top K mg "_law_moment_right" sMRight) : CalG P w K mg bse 6 "_law_moment_right" (spMRight CH CM CB) := by
  obtain ⟨f, fd, F0, hm⟩ := F
  exact calG (bMRight hbc hM hkHallAt hkStandAt hHRight) F0 hm (bd F0 (args := ⟨[], [⟨"book", none, _⟩, ⟨"kept", none, _⟩, ⟨"spot", none, _⟩], none, [], [], none, []⟩) (ps := ["book", "kept", "spot"]) rfl (fun _ _ _ _ _ _ _ _ us hl => match us, hl with | [_, _, _], _ => rfl)) scMRight (by intro ds S R h; (repeat (obtain ⟨_, h⟩ := h)); all_goals (subst_vars; rfl))
theorem joined (F : Facts K mg CH CM CB c T0) (TB : LamX.TabB bse mg c T0) : BodyG P w K mg bse nLaw "law" sLaw 9 (spLaw T0) := by
  have M := F.M
  have hc := F.hc
  have mc := F.mc
  have bc := F.bc
  have gL := F.gL
  have gW := F.gW
  have nb := F.nb
  have cDraw := jDraw (P := P) (w := w) (bse := bse) (mg := mg) M F.fDraw
  have cPick := jPick (P := P) (w := w) (bse := bse) (mg := mg) M cDraw F.fPick
  have cShuf := jShuf (P := P) (w := w) (bse := bse) (mg := mg) M cDraw F.fShuf
  have cNames := jNames (P := P) (w := w) (bse := bse) (mg := mg) M cDraw cPick F.fNames
  have cHeft := jHeft (P := P) (w := w) (bse := bse) (mg := mg) M cDraw F.fHeft
  have cLRows := jLRows (P := P) (w := w) (bse := bse) (mg := mg) M cDraw cPick F.fLRows
  have cHallOf := jHallOf (P := P) (w := w) (bse := bse) (mg := mg) M cDraw cHeft cLRows F.fHallOf
  have cLHall := jLHall (P := P) (w := w) (bse := bse) (mg := mg) M cNames cHallOf F.fLHall
  have cRowMet := jRowMet (P := P) (w := w) (bse := bse) (mg := mg)  F.fRowMet
  have cLMet := jLMet (P := P) (w := w) (bse := bse) (mg := mg)  F.fLMet
  have cFar := jFar (P := P) (w := w) (bse := bse) (mg := mg)  F.fFar
  have cRooms := jRooms (P := P) (w := w) (bse := bse) (mg := mg) hc M F.fRooms
  have cDoors := jDoors (P := P) (w := w) (bse := bse) (mg := mg) hc M F.fDoors
  have cStones := jStones (P := P) (w := w) (bse := bse) (mg := mg) hc M F.fStones
  have cWalkers := jWalkers (P := P) (w := w) (bse := bse) (mg := mg) hc M F.fWalkers
  have cDoor := jDoor (P := P) (w := w) (bse := bse) (mg := mg) hc M F.fDoor
  have cHeftM := jHeftM (P := P) (w := w) (bse := bse) (mg := mg) hc M F.fHeftM
  have cHands := jHands (P := P) (w := w) (bse := bse) (mg := mg) hc M F.fHands
  have HM : HallM P w K mg bse CH := ⟨cRooms, cDoors, cStones, cWalkers, cDoor, cHeftM, cHands⟩
  have cKept := cal_kept (P := P) (w := w) M TB F.kept
  have cHInit := jHInit (P := P) (w := w) (bse := bse) (mg := mg) hc M cKept F.fHInit
  have cDT := jDT (P := P) (w := w) (bse := bse) (mg := mg) HM F.fDT
  have cST := jST (P := P) (w := w) (bse := bse) (mg := mg) HM F.fST
  have cWT := jWT (P := P) (w := w) (bse := bse) (mg := mg) HM F.fWT
  have cNA := jNA (P := P) (w := w) (bse := bse) (mg := mg)  F.fNA
  have cWD := jWD (P := P) (w := w) (bse := bse) (mg := mg) HM cST cWT cHInit F.fWD
  have cWalled := jWalled (P := P) (w := w) (bse := bse) (mg := mg) HM cNA cDT cWD F.fWalled
  have cRowed := jRowed (P := P) (w := w) (bse := bse) (mg := mg) HM M cNA cDT cWD F.fRowed
  have cOpened := jOpened (P := P) (w := w) (bse := bse) (mg := mg) cRowed F.fOpened
  have cHefted := jHefted (P := P) (w := w) (bse := bse) (mg := mg) HM cNA cDT cST cWT cHInit F.fHefted
  have cBorne := cal_borne (P := P) (w := w) (bse := bse) M HM F.fBorne
  have cIsOpen := jIsOpen (P := P) (w := w) (bse := bse) (mg := mg) HM M cRowMet F.fIsOpen
  have cLBorne := jLBorne (P := P) (w := w) (bse := bse) (mg := mg) M F.fLBorne
  have cLOpen := jLOpen (P := P) (w := w) (bse := bse) (mg := mg) M cLBorne cLMet F.fLOpen
  have cLDeeds := jLDeeds (P := P) (w := w) (bse := bse) (mg := mg) M cLOpen cFar F.fLDeeds
  have cLAfter := jLAfter (P := P) (w := w) (bse := bse) (mg := mg) M cFar F.fLAfter
  have cIsName := jIsName (P := P) (w := w) (bse := bse) (mg := mg) M gL F.fIsName
  have cIsDeed := jIsDeed (P := P) (w := w) (bse := bse) (mg := mg) M cIsName F.fIsDeed
  have cWhose := jWhose (P := P) (w := w) (bse := bse) (mg := mg) HM F.fWhose
  have cRFrom := jRFrom (P := P) (w := w) (bse := bse) (mg := mg) HM F.fRFrom
  have cWnGo := jWnGo (P := P) (w := w) (bse := bse) (mg := mg) HM cRFrom cIsOpen cBorne.2 cWhose F.fWnGo
  have cWnLift := jWnLift (P := P) (w := w) (bse := bse) (mg := mg) HM cWhose F.fWnLift
  have cWnLay := jWnLay (P := P) (w := w) (bse := bse) (mg := mg) HM cWhose F.fWnLay
  have cWhyNot := jWhyNot (P := P) (w := w) (bse := bse) (mg := mg) gW cIsDeed cWnGo cWnLift cWnLay F.fWhyNot
  have cBehind := jBehind (P := P) (w := w) (bse := bse) (mg := mg) HM M cRFrom cWhose F.fBehind
  have cDone := jDone (P := P) (w := w) (bse := bse) (mg := mg) cWhyNot cBehind F.fDone
  have cMInit := jMInit (P := P) (w := w) (bse := bse) (mg := mg) mc F.fMInit
  have cBInit := jBInit (P := P) (w := w) (bse := bse) (mg := mg) (CH := CH) bc cMInit F.fBInit
  have cTOver := jTOver (P := P) (w := w) (bse := bse) (mg := mg) (CH := CH) bc cMInit F.fTOver
  have cChange := jChange (P := P) (w := w) (bse := bse) (mg := mg) (CH := CH) bc mc cTOver F.fChange
  have cBDo := jBDo (P := P) (w := w) (bse := bse) (mg := mg) bc mc cTOver cDone F.fBDo
  have cSHeft := jSHeft (P := P) (w := w) (bse := bse) (mg := mg) bc mc cChange cHefted F.fSHeft
  have cSRows := jSRows (P := P) (w := w) (bse := bse) (mg := mg) bc mc HM cChange cRowed F.fSRows
  have cBWall := jBWall (P := P) (w := w) (bse := bse) (mg := mg) bc mc cChange cWalled F.fBWall
  have cOpenUp := jOpenUp (P := P) (w := w) (bse := bse) (mg := mg) bc mc cChange cOpened F.fOpenUp
  have cBBack := jBBack (P := P) (w := w) (bse := bse) (mg := mg) (CH := CH) bc mc M F.fBBack
  have cBOn := jBOn (P := P) (w := w) (bse := bse) (mg := mg) (CH := CH) bc mc F.fBOn
  have BM : BookM P w K mg bse CH CM CB T0 := ⟨cBDo, cSHeft, cSRows, cBWall, cOpenUp, cBBack, cBOn⟩
  have cPen := jPen (P := P) (w := w) (bse := bse) (mg := mg) M F.fPen
  have cLStand := jLStand (P := P) (w := w) (bse := bse) (mg := mg) M cDraw cPick F.fLStand
  have cLAct := jLAct (P := P) (w := w) (bse := bse) (mg := mg) M cPick cHeft cLRows cLDeeds F.fLAct
  have cLActed := jLActed (P := P) (w := w) (bse := bse) (mg := mg) M cLAfter F.fLActed
  have cLTell := jLTell (P := P) (w := w) (bse := bse) (mg := mg) bc M BM cDraw cShuf F.fLTell
  have cMade := jMade (P := P) (w := w) (bse := bse) (mg := mg) M cHInit F.fMade
  have cRoomsN := jRoomsN (P := P) (w := w) (bse := bse) (mg := mg) hc M F.fRooms
  have cWhole := jWhole (P := P) (w := w) (bse := bse) (mg := mg) M nb F.fWhole
  have cFrom := jFrom (P := P) (w := w) (bse := bse) (mg := mg) cWhole F.fFrom
  have cMomAt := jMomAt (P := P) (w := w) (bse := bse) (mg := mg) (CH := CH) (CM := CM) bc M cFrom F.fMomAt
  obtain ⟨cHallAt, kHallAt⟩ := jHallAt (P := P) (w := w) (bse := bse) (mg := mg) bc mc cMomAt F.fHallAt
  obtain ⟨cStandAt, kStandAt⟩ := jStandAt (P := P) (w := w) (bse := bse) (mg := mg) bc mc cMomAt F.fStandAt
  have cActs := jActs (P := P) (w := w) (bse := bse) (mg := mg) (CH := CH) (CM := CM) bc mc F.fActs
  have cHRight := jHRight (P := P) (w := w) (bse := bse) (mg := mg) M HM F.fHRight
  have cMRight := jMRight (P := P) (w := w) (bse := bse) (mg := mg) bc M kHallAt kStandAt cHRight F.fMRight
  exact bLaw hc M BM cPen cDraw cLHall cLStand cMade cBInit cLAct cLTell cLActed cActs cHallAt kHallAt cStandAt kStandAt cRoomsN cHRight cMRight
end
-- LAT
/-! What is known of the law where the head calls it. -/
section
open PySem L2 DL
variable {w : World} {K : PySem.W.Frag} {mg : Str → Option Value} {h : Heap} {CH CM CB c T0 fa : Addr}
theorem law_at {l : PySem.W.OpenLaw} (F : Facts K mg CH CM CB c T0) (L : Top K mg "law" sLaw) (hmg : mg "law" = some (.ref fa)) (hT : PySem.W.CodeHd h c T0 ∧ h.get? T0 = some { cls := .none, data := .fields #[] }) (nT : K.lookup T0 = none) : LawAtG l w K 10 "script" mg fa h := by
  obtain ⟨f, fd, F0, hm⟩ := L
  have e := hm.symm.trans hmg
  cases e
  have b : Binds K fd ["script"] [] := bd F0 (args := ⟨[], [⟨"script", none, _⟩], none, [], [], none, []⟩) (ps := ["script"]) rfl (fun _ _ _ _ _ _ _ _ us hl => match us, hl with | [_], _ => rfl)
  refine ⟨fd, [(c, T0)], spLaw T0, ?_, ?_, ?_, binds_all b, ?_, ?_⟩
  · intro p hp; obtain rfl := List.mem_singleton.mp hp; exact hT.2
  · intro p hp; obtain rfl := List.mem_singleton.mp hp; exact nT
  · intro p hp; obtain rfl := List.mem_singleton.mp hp; exact hT.1
  · intro ns H a hl hH hS
    have hH0 : H T0 = some (.tbl #[]) := hH (c, T0) (List.mem_singleton.mpr rfl)
    have hs : SqL K (hid (adrs [(T0, D.tbl qLam)]) H) a (ns.map V.int) := by
      rcases hS with hr | hk
      · have ha : a ∉ adrs [(T0, D.tbl qLam)] := fun m => by
          obtain rfl := List.mem_singleton.mp m
          rcases hr with e | ⟨o, e⟩
          · rw [hH0] at e; cases e
          · rw [hH0] at e; cases e
        refine .inl ?_
        rcases hr with e | ⟨o, e⟩
        · exact .inl ((hid_ne ha).trans e)
        · exact .inr ⟨o, (hid_ne ha).trans e⟩
      · exact .inr hk
    refine ⟨[.scr ns], [(T0, .tbl qLam)], fun d _ => d = .bl true, ⟨_, _, rfl, ⟨a, rfl, hs⟩, rfl⟩, ⟨(by simp [adrs]), fun p hp => ?_⟩, ⟨ns, rfl, hl, List.mem_singleton.mpr rfl, fun _ => rfl⟩, ?_⟩
    · obtain rfl := List.mem_singleton.mp hp
      exact ⟨#[], hH0, trivial, fun pos cv e => nomatch e⟩
    · rintro v H' d S' rfl _ _ r
      exact r
  · intro base KB GB TB
    refine okG (joined F (TB (c, T0) (List.mem_singleton.mpr rfl))) F0 scLaw ?_
    rintro ds S R ⟨ns, rfl, _⟩
    rfl
theorem mkKept {f : Addr} {oc : Value} {od an : Option Addr} {osl : Array (Option Value)} {kV doc pm ct : Value} (X : K.In h) (G : h.Ns mainGlobals mg) (a : PySem.W.nsIn K mainGlobals "door_kept" = some (some (.ref f))) (l : K.lookup f = some ⟨oc, od, .func (PySem.W.fnOf "door_kept" "door_kept" (defArgs sKept) (defBody sKept) (defScope sKept) .none kV doc pm an (.ref c) ct), osl⟩) (cc : PySem.W.codeIn K (.ref c) "door_kept" = true) (k : PySem.W.keepIn K (.ref f) = true) :
    ∃ (f : Addr) (oc : Value) (od an : Option Addr) (osl : Array (Option Value)) (kV doc pm ct : Value), K.lookup f = some ⟨oc, od, .func (PySem.W.fnOf "door_kept" "door_kept" (defArgs sKept) (defBody sKept) (defScope sKept) .none kV doc pm an (.ref c) ct), osl⟩ ∧ PySem.W.codeIn K (.ref c) "door_kept" = true ∧ PySem.W.keepIn K (.ref f) = true ∧ mg "door_kept" = some (.ref f) := ⟨f, oc, od, an, osl, kV, doc, pm, ct, l, cc, k, PySem.W.mg_of X G a⟩
theorem mkTab {x : Str} {f : Addr} {oc oc2 : Value} {od od2 : Option Addr} {osl osl2 : Array (Option Value)} {fd : FuncData} {vs : Array Value} (a : PySem.W.nsIn K mainGlobals x = some (some (.ref f))) (l : K.lookup f = some ⟨oc, od, .func fd, osl⟩) (hc : fd.code = .ref c) (l2 : K.lookup c = some ⟨oc2, od2, .fields vs, osl2⟩) (hv : vs[11]? = some (.ref T0)) : PySem.W.tabIn K x = some (c, T0) := by
  unfold PySem.W.tabIn
  rw [a]
  simp only [l, hc, l2, hv]
theorem mkStr {x z : Str} {t} (X : K.In h) (G : h.Ns mainGlobals mg) (a : PySem.W.nsIn K mainGlobals x = some (some (.str z t))) : GlobD mg K x (.str z) := ⟨⟨_, .str z, PySem.W.mg_of X G a, ⟨t, rfl⟩, fun _ => rfl⟩⟩
theorem mkWait {a : Addr} {t n sl} (X : K.In h) (G : h.Ns mainGlobals mg) (e : PySem.W.nsIn K mainGlobals "WAIT" = some (some (.ref a))) (l : K.lookup a = some ⟨.type "tuple", none, .seq #[.str "wait" t] n, sl⟩) : GlobD mg K "WAIT" (deedD .wait) :=
  ⟨⟨.ref a, .ref a, PySem.W.mg_of X G e, rfl, fun _ => ⟨a, [.str "wait"], rfl, .inr ⟨⟨_, l, rfl⟩, .inr ⟨_, _, _, l, rfl, rfl, (show 1 ≤ sizeLine by decide), .cons ⟨t, rfl⟩ .nil⟩⟩, ⟨_, _, rfl, rfl, rfl⟩⟩⟩⟩
end
end W85
open PySem PySem.W PyProof.Rows
set_option maxRecDepth 100000 in
set_option maxHeartbeats 0 in
theorem PySem.Challenge.cw_weighdoors_k83_what_a_book_tells_holds : PySem.Challenge.rw_weighdoors_k83_what_a_book_tells.Holds := by
  refine W85.headT ?_
  k_fill
  refine DL.walk_G (l := PySem.Challenge.rw_weighdoors_k83_what_a_book_tells) (k := 10) (x := "script") rfl rfl ⟨rfl, by decide, by decide⟩ (fun w h Y => PySem.W.km_in_of Y) ?F
  case F =>
    intro w mg fa h hTab KX G hmg
    refine' W85.law_at (l := PySem.Challenge.rw_weighdoors_k83_what_a_book_tells) ⟨?zM, ?zhc, ?zmc, ?zbc, ?zgL, ?zgW, ?znb, ?zkept, ?zfDraw, ?zfPick, ?zfShuf, ?zfNames, ?zfHeft, ?zfLRows, ?zfHallOf, ?zfLHall, ?zfRowMet, ?zfLMet, ?zfFar, ?zfRooms, ?zfDoors, ?zfStones, ?zfWalkers, ?zfDoor, ?zfHeftM, ?zfHands, ?zfHInit, ?zfDT, ?zfST, ?zfWT, ?zfNA, ?zfWD, ?zfWalled, ?zfRowed, ?zfOpened, ?zfHefted, ?zfBorne, ?zfIsOpen, ?zfLBorne, ?zfLOpen, ?zfLDeeds, ?zfLAfter, ?zfIsName, ?zfIsDeed, ?zfWhose, ?zfRFrom, ?zfWnGo, ?zfWnLift, ?zfWnLay, ?zfWhyNot, ?zfBehind, ?zfDone, ?zfMInit, ?zfBInit, ?zfTOver, ?zfChange, ?zfBDo, ?zfSHeft, ?zfSRows, ?zfBWall, ?zfOpenUp, ?zfBBack, ?zfBOn, ?zfPen, ?zfLStand, ?zfLAct, ?zfLActed, ?zfLTell, ?zfMade, ?zfWhole, ?zfFrom, ?zfMomAt, ?zfHallAt, ?zfStandAt, ?zfActs, ?zfHRight, ?zfMRight⟩ ?zL hmg ?zhT ?znT
    case zfHInit => refine' W85.mkMk (PySem.W.mg_of KX G ?hm) ?a ?i ?l ?c ?k ?mk ?kc; (case hm => k_is); (case a => k_is); (case i => k_is); (case l => k_is); (case c => k_is); (case k => k_is); (case mk => k_is); (case kc => k_is)
    case zfMInit => refine' W85.mkMk (PySem.W.mg_of KX G ?hm) ?a ?i ?l ?c ?k ?mk ?kc; (case hm => k_is); (case a => k_is); (case i => k_is); (case l => k_is); (case c => k_is); (case k => k_is); (case mk => k_is); (case kc => k_is)
    case zfBInit => refine' W85.mkMk (PySem.W.mg_of KX G ?hm) ?a ?i ?l ?c ?k ?mk ?kc; (case hm => k_is); (case a => k_is); (case i => k_is); (case l => k_is); (case c => k_is); (case k => k_is); (case mk => k_is); (case kc => k_is)
    case zkept => refine' W85.mkKept KX G ?a ?l ?c ?k; (case a => k_is); (case l => k_is); (case c => k_is); (case k => k_is)
    case zM => refine' ⟨?_, ?_, ?_, ?_, ?_, ?_, ?_, ?_, ?_, ?_, ?_, ?_, ?_, ?_, ?_, ?_⟩ <;> (refine' PySem.W.mg_none_of KX G ?_; k_is)
    case zhc => refine' ⟨⟨?_, ?_, ?_, ?_⟩, ?_, ?_, ?_, ?_, ?_⟩ <;> (try unfold L2.NoAttr) <;> k_is
    case zmc => refine' ⟨⟨?_, ?_, ?_, ?_⟩, ?_, ?_, ?_, ?_⟩ <;> (try unfold L2.NoAttr) <;> k_is
    case zbc => refine' ⟨⟨?_, ?_, ?_, ?_⟩, ?_, ?_⟩ <;> (try unfold L2.NoAttr) <;> k_is
    case zgL => refine' W85.mkStr KX G ?a; (case a => k_is)
    case zgW => refine' W85.mkWait KX G ?a ?l; (case a => k_is); (case l => k_is)
    case znb => (refine' PySem.W.mg_none_of KX G ?_; k_is)
    case zfDraw => refine' W85.mkTop KX G ?a ?l ?c ?k; (case a => k_is); (case l => k_is); (case c => k_is); (case k => k_is)
    case zfPick => refine' W85.mkTop KX G ?a ?l ?c ?k; (case a => k_is); (case l => k_is); (case c => k_is); (case k => k_is)
    case zfShuf => refine' W85.mkTop KX G ?a ?l ?c ?k; (case a => k_is); (case l => k_is); (case c => k_is); (case k => k_is)
    case zfNames => refine' W85.mkTop KX G ?a ?l ?c ?k; (case a => k_is); (case l => k_is); (case c => k_is); (case k => k_is)
    case zfHeft => refine' W85.mkTop KX G ?a ?l ?c ?k; (case a => k_is); (case l => k_is); (case c => k_is); (case k => k_is)
    case zfLRows => refine' W85.mkTop KX G ?a ?l ?c ?k; (case a => k_is); (case l => k_is); (case c => k_is); (case k => k_is)
    case zfHallOf => refine' W85.mkTop KX G ?a ?l ?c ?k; (case a => k_is); (case l => k_is); (case c => k_is); (case k => k_is)
    case zfLHall => refine' W85.mkTop KX G ?a ?l ?c ?k; (case a => k_is); (case l => k_is); (case c => k_is); (case k => k_is)
    case zfRowMet => refine' W85.mkTop KX G ?a ?l ?c ?k; (case a => k_is); (case l => k_is); (case c => k_is); (case k => k_is)
    case zfLMet => refine' W85.mkTop KX G ?a ?l ?c ?k; (case a => k_is); (case l => k_is); (case c => k_is); (case k => k_is)
    case zfFar => refine' W85.mkTop KX G ?a ?l ?c ?k; (case a => k_is); (case l => k_is); (case c => k_is); (case k => k_is)
    case zfRooms => refine' W85.mkMet ?a ?i ?l ?c ?k; (case a => k_is); (case i => k_is); (case l => k_is); (case c => k_is); (case k => k_is)
    case zfDoors => refine' W85.mkMet ?a ?i ?l ?c ?k; (case a => k_is); (case i => k_is); (case l => k_is); (case c => k_is); (case k => k_is)
    case zfStones => refine' W85.mkMet ?a ?i ?l ?c ?k; (case a => k_is); (case i => k_is); (case l => k_is); (case c => k_is); (case k => k_is)
    case zfWalkers => refine' W85.mkMet ?a ?i ?l ?c ?k; (case a => k_is); (case i => k_is); (case l => k_is); (case c => k_is); (case k => k_is)
    case zfDoor => refine' W85.mkMet ?a ?i ?l ?c ?k; (case a => k_is); (case i => k_is); (case l => k_is); (case c => k_is); (case k => k_is)
    case zfHeftM => refine' W85.mkMet ?a ?i ?l ?c ?k; (case a => k_is); (case i => k_is); (case l => k_is); (case c => k_is); (case k => k_is)
    case zfHands => refine' W85.mkMet ?a ?i ?l ?c ?k; (case a => k_is); (case i => k_is); (case l => k_is); (case c => k_is); (case k => k_is)
    case zfDT => refine' W85.mkTop KX G ?a ?l ?c ?k; (case a => k_is); (case l => k_is); (case c => k_is); (case k => k_is)
    case zfST => refine' W85.mkTop KX G ?a ?l ?c ?k; (case a => k_is); (case l => k_is); (case c => k_is); (case k => k_is)
    case zfWT => refine' W85.mkTop KX G ?a ?l ?c ?k; (case a => k_is); (case l => k_is); (case c => k_is); (case k => k_is)
    case zfNA => refine' W85.mkTop KX G ?a ?l ?c ?k; (case a => k_is); (case l => k_is); (case c => k_is); (case k => k_is)
    case zfWD => refine' W85.mkTop KX G ?a ?l ?c ?k; (case a => k_is); (case l => k_is); (case c => k_is); (case k => k_is)
    case zfWalled => refine' W85.mkTop KX G ?a ?l ?c ?k; (case a => k_is); (case l => k_is); (case c => k_is); (case k => k_is)
    case zfRowed => refine' W85.mkTop KX G ?a ?l ?c ?k; (case a => k_is); (case l => k_is); (case c => k_is); (case k => k_is)
    case zfOpened => refine' W85.mkTop KX G ?a ?l ?c ?k; (case a => k_is); (case l => k_is); (case c => k_is); (case k => k_is)
    case zfHefted => refine' W85.mkTop KX G ?a ?l ?c ?k; (case a => k_is); (case l => k_is); (case c => k_is); (case k => k_is)
    case zfBorne => refine' W85.mkTop1 KX G ?a ?l ?c ?k ?t; (case a => k_is); (case l => k_is); (case c => k_is); (case k => k_is); (case t => k_is)
    case zfIsOpen => refine' W85.mkTop KX G ?a ?l ?c ?k; (case a => k_is); (case l => k_is); (case c => k_is); (case k => k_is)
    case zfLBorne => refine' W85.mkTop KX G ?a ?l ?c ?k; (case a => k_is); (case l => k_is); (case c => k_is); (case k => k_is)
    case zfLOpen => refine' W85.mkTop KX G ?a ?l ?c ?k; (case a => k_is); (case l => k_is); (case c => k_is); (case k => k_is)
    case zfLDeeds => refine' W85.mkTop KX G ?a ?l ?c ?k; (case a => k_is); (case l => k_is); (case c => k_is); (case k => k_is)
    case zfLAfter => refine' W85.mkTop KX G ?a ?l ?c ?k; (case a => k_is); (case l => k_is); (case c => k_is); (case k => k_is)
    case zfIsName => refine' W85.mkTop KX G ?a ?l ?c ?k; (case a => k_is); (case l => k_is); (case c => k_is); (case k => k_is)
    case zfIsDeed => refine' W85.mkTop KX G ?a ?l ?c ?k; (case a => k_is); (case l => k_is); (case c => k_is); (case k => k_is)
    case zfWhose => refine' W85.mkTop KX G ?a ?l ?c ?k; (case a => k_is); (case l => k_is); (case c => k_is); (case k => k_is)
    case zfRFrom => refine' W85.mkTop KX G ?a ?l ?c ?k; (case a => k_is); (case l => k_is); (case c => k_is); (case k => k_is)
    case zfWnGo => refine' W85.mkTop KX G ?a ?l ?c ?k; (case a => k_is); (case l => k_is); (case c => k_is); (case k => k_is)
    case zfWnLift => refine' W85.mkTop KX G ?a ?l ?c ?k; (case a => k_is); (case l => k_is); (case c => k_is); (case k => k_is)
    case zfWnLay => refine' W85.mkTop KX G ?a ?l ?c ?k; (case a => k_is); (case l => k_is); (case c => k_is); (case k => k_is)
    case zfWhyNot => refine' W85.mkTop KX G ?a ?l ?c ?k; (case a => k_is); (case l => k_is); (case c => k_is); (case k => k_is)
    case zfBehind => refine' W85.mkTop KX G ?a ?l ?c ?k; (case a => k_is); (case l => k_is); (case c => k_is); (case k => k_is)
    case zfDone => refine' W85.mkTop KX G ?a ?l ?c ?k; (case a => k_is); (case l => k_is); (case c => k_is); (case k => k_is)
    case zfTOver => refine' W85.mkMet ?a ?i ?l ?c ?k; (case a => k_is); (case i => k_is); (case l => k_is); (case c => k_is); (case k => k_is)
    case zfChange => refine' W85.mkMet ?a ?i ?l ?c ?k; (case a => k_is); (case i => k_is); (case l => k_is); (case c => k_is); (case k => k_is)
    case zfBDo => refine' W85.mkMet ?a ?i ?l ?c ?k; (case a => k_is); (case i => k_is); (case l => k_is); (case c => k_is); (case k => k_is)
    case zfSHeft => refine' W85.mkMet ?a ?i ?l ?c ?k; (case a => k_is); (case i => k_is); (case l => k_is); (case c => k_is); (case k => k_is)
    case zfSRows => refine' W85.mkMet ?a ?i ?l ?c ?k; (case a => k_is); (case i => k_is); (case l => k_is); (case c => k_is); (case k => k_is)
    case zfBWall => refine' W85.mkMet ?a ?i ?l ?c ?k; (case a => k_is); (case i => k_is); (case l => k_is); (case c => k_is); (case k => k_is)
    case zfOpenUp => refine' W85.mkMet ?a ?i ?l ?c ?k; (case a => k_is); (case i => k_is); (case l => k_is); (case c => k_is); (case k => k_is)
    case zfBBack => refine' W85.mkMet ?a ?i ?l ?c ?k; (case a => k_is); (case i => k_is); (case l => k_is); (case c => k_is); (case k => k_is)
    case zfBOn => refine' W85.mkMet ?a ?i ?l ?c ?k; (case a => k_is); (case i => k_is); (case l => k_is); (case c => k_is); (case k => k_is)
    case zfPen => refine' W85.mkTop KX G ?a ?l ?c ?k; (case a => k_is); (case l => k_is); (case c => k_is); (case k => k_is)
    case zfLStand => refine' W85.mkTop KX G ?a ?l ?c ?k; (case a => k_is); (case l => k_is); (case c => k_is); (case k => k_is)
    case zfLAct => refine' W85.mkTop KX G ?a ?l ?c ?k; (case a => k_is); (case l => k_is); (case c => k_is); (case k => k_is)
    case zfLActed => refine' W85.mkTop KX G ?a ?l ?c ?k; (case a => k_is); (case l => k_is); (case c => k_is); (case k => k_is)
    case zfLTell => refine' W85.mkTop KX G ?a ?l ?c ?k; (case a => k_is); (case l => k_is); (case c => k_is); (case k => k_is)
    case zfMade => refine' W85.mkTop KX G ?a ?l ?c ?k; (case a => k_is); (case l => k_is); (case c => k_is); (case k => k_is)
    case zfWhole => refine' W85.mkTop KX G ?a ?l ?c ?k; (case a => k_is); (case l => k_is); (case c => k_is); (case k => k_is)
    case zfFrom => refine' W85.mkTop KX G ?a ?l ?c ?k; (case a => k_is); (case l => k_is); (case c => k_is); (case k => k_is)
    case zfMomAt => refine' W85.mkMet ?a ?i ?l ?c ?k; (case a => k_is); (case i => k_is); (case l => k_is); (case c => k_is); (case k => k_is)
    case zfHallAt => refine' W85.mkMetk ?a ?i ?l ?c ?k ?d; (case a => k_is); (case i => k_is); (case l => k_is); (case c => k_is); (case k => k_is); (case d => k_is)
    case zfStandAt => refine' W85.mkMetk ?a ?i ?l ?c ?k ?d; (case a => k_is); (case i => k_is); (case l => k_is); (case c => k_is); (case k => k_is); (case d => k_is)
    case zfActs => refine' W85.mkMet ?a ?i ?l ?c ?k; (case a => k_is); (case i => k_is); (case l => k_is); (case c => k_is); (case k => k_is)
    case zfHRight => refine' W85.mkTop KX G ?a ?l ?c ?k; (case a => k_is); (case l => k_is); (case c => k_is); (case k => k_is)
    case zfMRight => refine' W85.mkTop KX G ?a ?l ?c ?k; (case a => k_is); (case l => k_is); (case c => k_is); (case k => k_is)
    case zL => refine' W85.mkTop KX G ?a ?l ?c ?k; (case a => k_is); (case l => k_is); (case c => k_is); (case k => k_is)
    case zhT => refine' hTab "door_kept" _ _ _ rfl (W85.mkTab ?a ?l ?e ?l2 ?v); (case a => k_is); (case l => k_is); (case e => exact rfl); (case l2 => k_is); (case v => exact rfl)
    case znT => exact (by kernel_rfl)
