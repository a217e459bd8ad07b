import PyProof.Rows.All
import HandS.ForMost
import HandS.More
import HandS.TupAny
import HandS.IsInst
import HandS.NoneIn
import HandS.Defaults
import HandS.HeadEnd
import HandS.HeadHook1
import HandS.HeadHook2
import HandS.Iter
import HandS.Flow
import HandS.TupLe
import HandS.List
import HandS.Codes
import PyProof.StrOps2
import HandS.SortInts
import PyProof.ReprRoads
import PyProof.CallFns
import HandS.Style
import HandS.Conv
import HandS.HeadHook3
import HandS.WordsDict
import HandS.SetFor
import HandS.Strs
import HandS.Remove
import KE.GoesEnum
import KE.GoesMore
import PySem.Challenge.RW_keepsgoing_k26_whole_one_beat
import HandS.Head0
import HandS.Head1
import HandS.Head2
set_option Elab.async false
set_option linter.all false
set_option maxRecDepth 100000
set_option maxHeartbeats 0
namespace Bv
def Box (P : Prop) : Prop := P
theorem boxT {P : Prop} (h : P) : Box P = True := eq_true h
theorem unbox {P : Prop} (h : Box P) : P := h
theorem idP {P : Prop} (h : P) : P := h
end Bv
/-! Bv: a layer by value over the hand layer: data D without addresses, an environment of slots, total functions in place of readings. -/
namespace Bv
open PySem PySem.Spec PyProof.Rows L2

/-! ### data -/
inductive D where
  | non | bl (b : Bool) | int (i : Int) | str (x : Str)
  | tup (xs : List D) | lst (xs : List D) | frz (xs : List D)
  | dic (kvs : List (Key × D))

mutual
def noList : D → Bool
  | .non => true | .bl _ => true | .int _ => true | .str _ => true
  | .tup xs => noLists xs
  | .lst _ => false
  | .frz xs => noLists xs
  | .dic _ => false
def noLists : List D → Bool
  | [] => true
  | x :: xs => noList x && noLists xs
end

/-- a frozen list: one that nobody writes -/
def Fz (K : PySem.W.Frag) (H : Hp) (a : Addr) (xs : List V) : Prop :=
  (∃ o, H a = some (.frz o (.lst xs))) ∨
    ∃ (o : Obj) (its : Array Value) (n : Nat), K.lookup a = some o ∧ o.cls = .type "list" ∧ o.dict = none ∧ o.data = .seq its n ∧ its.size ≤ sizeLine ∧ Vals xs its.toList
theorem Fz.sq {K : PySem.W.Frag} {H : Hp} {a : Addr} {xs : List V} (h : Fz K H a xs) : SqL K H a xs := by
  rcases h with ⟨o, h⟩ | h
  · exact .inl (.inr ⟨o, h⟩)
  · exact .inr h

mutual
inductive Rep (K : PySem.W.Frag) (H : Hp) : V → D → List Addr → Prop
  | non : Rep K H .non .non []
  | bl (b : Bool) : Rep K H (.bl b) (.bl b) []
  | int (i : Int) : Rep K H (.int i) (.int i) []
  | str (x : Str) : Rep K H (.str x) (.str x) []
  | tup {a : Addr} {xs : List V} {ds : List D} {fp : List Addr} : SqT K H a xs → Reps K H xs ds fp → Rep K H (.ref a) (.tup ds) fp
  | lst {a : Addr} {xs : List V} {ds : List D} {fp : List Addr} : H a = some (.lst xs) → Reps K H xs ds fp → Rep K H (.ref a) (.lst ds) (a :: fp)
  | frz {a : Addr} {xs : List V} {ds : List D} : Fz K H a xs → Reps K H xs ds [] → Rep K H (.ref a) (.frz ds) []
  | dic {a : Addr} {kvs : List (Key × V)} {ds : List (Key × D)} {fp : List Addr} : H a = some (.dK kvs) → RepK K H kvs ds fp → Rep K H (.ref a) (.dic ds) (a :: fp)
inductive Reps (K : PySem.W.Frag) (H : Hp) : List V → List D → List Addr → Prop
  | nil : Reps K H [] [] []
  | cons {v : V} {vs : List V} {d : D} {ds : List D} {f fp : List Addr} : Rep K H v d f → Reps K H vs ds fp → Reps K H (v :: vs) (d :: ds) (f ++ fp)
inductive RepK (K : PySem.W.Frag) (H : Hp) : List (Key × V) → List (Key × D) → List Addr → Prop
  | nil : RepK K H [] [] []
  | cons {k : Key} {v : V} {vs : List (Key × V)} {d : D} {ds : List (Key × D)} {f fp : List Addr} : Rep K H v d f → RepK K H vs ds fp → RepK K H ((k, v) :: vs) ((k, d) :: ds) (f ++ fp)
end

/-- a mutable object -/
def Mb : Option HO → Prop
  | some (.lst _) => True
  | some (.dK _) => True
  | _ => False

section
variable {K : PySem.W.Frag} {H H' : Hp} {A : List Addr}
theorem sqT_keep {a : Addr} {xs : List V} (hA : ∀ b ∈ A, Mb (H b)) (k : ∀ b o, H b = some o → b ∉ A → H' b = some o) (h : SqT K H a xs) : SqT K H' a xs := by
  rcases h with (h | ⟨o, h⟩) | h
  · exact .inl (.inl (k _ _ h fun m => by have := hA _ m; rw [h] at this; exact this))
  · exact .inl (.inr ⟨o, k _ _ h fun m => by have := hA _ m; rw [h] at this; exact this⟩)
  · exact .inr h
theorem fz_keep {a : Addr} {xs : List V} (hA : ∀ b ∈ A, Mb (H b)) (k : ∀ b o, H b = some o → b ∉ A → H' b = some o) (h : Fz K H a xs) : Fz K H' a xs := by
  rcases h with ⟨o, h⟩ | h
  · exact .inl ⟨o, k _ _ h fun m => by have := hA _ m; rw [h] at this; exact this⟩
  · exact .inr h
mutual
theorem Rep.keep (hA : ∀ b ∈ A, Mb (H b)) (k : ∀ b o, H b = some o → b ∉ A → H' b = some o) : ∀ (d : D) (v : V) (fp : List Addr), Rep K H v d fp → (∀ a ∈ fp, a ∉ A) → Rep K H' v d fp
  | .non, _, _, h, _ => by cases h; exact .non
  | .bl b, _, _, h, _ => by cases h; exact .bl b
  | .int i, _, _, h, _ => by cases h; exact .int i
  | .str x, _, _, h, _ => by cases h; exact .str x
  | .tup ds, _, _, h, n => by
    cases h with
    | tup s r => exact .tup (sqT_keep hA k s) (Reps.keep hA k ds _ _ r n)
  | .lst ds, _, _, h, n => by
    cases h with
    | lst s r => exact .lst (k _ _ s (n _ List.mem_cons_self)) (Reps.keep hA k ds _ _ r fun a m => n a (List.mem_cons_of_mem _ m))
  | .frz ds, _, _, h, n => by
    cases h with
    | frz s r => exact .frz (fz_keep hA k s) (Reps.keep hA k ds _ _ r n)
  | .dic ds, _, _, h, n => by
    cases h with
    | dic s r => exact .dic (k _ _ s (n _ List.mem_cons_self)) (RepK.keep hA k ds _ _ r fun a m => n a (List.mem_cons_of_mem _ m))
theorem Reps.keep (hA : ∀ b ∈ A, Mb (H b)) (k : ∀ b o, H b = some o → b ∉ A → H' b = some o) : ∀ (ds : List D) (vs : List V) (fp : List Addr), Reps K H vs ds fp → (∀ a ∈ fp, a ∉ A) → Reps K H' vs ds fp
  | [], _, _, h, _ => by cases h; exact .nil
  | d :: ds, _, _, h, n => by
    cases h with
    | cons r rs => exact .cons (Rep.keep hA k d _ _ r fun a m => n a (List.mem_append_left _ m)) (Reps.keep hA k ds _ _ rs fun a m => n a (List.mem_append_right _ m))
theorem RepK.keep (hA : ∀ b ∈ A, Mb (H b)) (k : ∀ b o, H b = some o → b ∉ A → H' b = some o) : ∀ (ds : List (Key × D)) (vs : List (Key × V)) (fp : List Addr), RepK K H vs ds fp → (∀ a ∈ fp, a ∉ A) → RepK K H' vs ds fp
  | [], _, _, h, _ => by cases h; exact .nil
  | (_, d) :: ds, _, _, h, n => by
    cases h with
    | cons r rs => exact .cons (Rep.keep hA k d _ _ r fun a m => n a (List.mem_append_left _ m)) (RepK.keep hA k ds _ _ rs fun a m => n a (List.mem_append_right _ m))
end
mutual
theorem Rep.mb : ∀ (d : D) (v : V) (fp : List Addr), Rep K H v d fp → ∀ a ∈ fp, Mb (H a)
  | .non, _, _, h, a, m => by cases h; cases m
  | .bl b, _, _, h, a, m => by cases h; cases m
  | .int i, _, _, h, a, m => by cases h; cases m
  | .str x, _, _, h, a, m => by cases h; cases m
  | .tup ds, _, _, h, a, m => by
    cases h with
    | tup s r => exact Reps.mb ds _ _ r a m
  | .lst ds, _, _, h, a, m => by
    cases h with
    | lst s r =>
      rcases List.mem_cons.mp m with e | m
      · subst e; rw [s]; trivial
      · exact Reps.mb ds _ _ r a m
  | .frz ds, _, _, h, a, m => by cases h; cases m
  | .dic ds, _, _, h, a, m => by
    cases h with
    | dic s r =>
      rcases List.mem_cons.mp m with e | m
      · subst e; rw [s]; trivial
      · exact RepK.mb ds _ _ r a m
theorem Reps.mb : ∀ (ds : List D) (vs : List V) (fp : List Addr), Reps K H vs ds fp → ∀ a ∈ fp, Mb (H a)
  | [], _, _, h, a, m => by cases h; cases m
  | d :: ds, _, _, h, a, m => by
    cases h with
    | cons r rs =>
      rcases List.mem_append.mp m with m | m
      · exact Rep.mb d _ _ r a m
      · exact Reps.mb ds _ _ rs a m
theorem RepK.mb : ∀ (ds : List (Key × D)) (vs : List (Key × V)) (fp : List Addr), RepK K H vs ds fp → ∀ a ∈ fp, Mb (H a)
  | [], _, _, h, a, m => by cases h; cases m
  | (_, d) :: ds, _, _, h, a, m => by
    cases h with
    | cons r rs =>
      rcases List.mem_append.mp m with m | m
      · exact Rep.mb d _ _ r a m
      · exact RepK.mb ds _ _ rs a m
end
mutual
theorem Rep.nol : ∀ (d : D) (v : V) (fp : List Addr), Rep K H v d fp → noList d = true → fp = []
  | .non, _, _, h, _ => by cases h; rfl
  | .bl b, _, _, h, _ => by cases h; rfl
  | .int i, _, _, h, _ => by cases h; rfl
  | .str x, _, _, h, _ => by cases h; rfl
  | .tup ds, _, _, h, n => by
    cases h with
    | tup s r => exact Reps.nol ds _ _ r n
  | .lst ds, _, _, h, n => by cases n
  | .frz ds, _, _, h, n => by cases h; rfl
  | .dic ds, _, _, h, n => by cases n
theorem Reps.nol : ∀ (ds : List D) (vs : List V) (fp : List Addr), Reps K H vs ds fp → noLists ds = true → fp = []
  | [], _, _, h, _ => by cases h; rfl
  | d :: ds, _, _, h, n => by
    cases h with
    | cons r rs =>
      have n' := Bool.and_eq_true_iff.mp (show (noList d && noLists ds) = true from n)
      rw [Rep.nol d _ _ r n'.1, Reps.nol ds _ _ rs n'.2]; rfl
end
theorem Rep.same {d : D} {v : V} {fp : List Addr} (h : Rep K H v d fp) (s : Same H H') : Rep K H' v d fp :=
  Rep.keep (A := []) (fun _ m => nomatch m) (fun b o e _ => s b o e) d v fp h (fun _ _ m => nomatch m)
theorem Reps.same {ds : List D} {vs : List V} {fp : List Addr} (h : Reps K H vs ds fp) (s : Same H H') : Reps K H' vs ds fp :=
  Reps.keep (A := []) (fun _ m => nomatch m) (fun b o e _ => s b o e) ds vs fp h (fun _ _ m => nomatch m)
theorem RepK.same {ds : List (Key × D)} {vs : List (Key × V)} {fp : List Addr} (h : RepK K H vs ds fp) (s : Same H H') : RepK K H' vs ds fp :=
  RepK.keep (A := []) (fun _ m => nomatch m) (fun b o e _ => s b o e) ds vs fp h (fun _ _ m => nomatch m)
theorem Reps.length : ∀ {ds : List D} {vs : List V} {fp : List Addr}, Reps K H vs ds fp → vs.length = ds.length
  | [], _, _, h => by cases h; rfl
  | d :: ds, _, _, h => by
    cases h with
    | cons r rs => rw [List.length_cons, List.length_cons, Reps.length rs]
theorem Reps.append : ∀ {ds es : List D} {vs ws : List V} {fp fq : List Addr}, Reps K H vs ds fp → Reps K H ws es fq → Reps K H (vs ++ ws) (ds ++ es) (fp ++ fq)
  | [], es, _, ws, _, fq, h, g => by cases h; exact g
  | d :: ds, es, _, ws, _, fq, h, g => by
    cases h with
    | cons r rs =>
      rw [List.append_assoc]
      exact .cons r (Reps.append rs g)
theorem Reps.get : ∀ {ds : List D} {vs : List V} {fp : List Addr} {i : Nat} {d : D}, Reps K H vs ds fp → ds[i]? = some d → ∃ v f, vs[i]? = some v ∧ Rep K H v d f ∧ ∀ a ∈ f, a ∈ fp
  | [], _, _, i, d, h, e => by simp at e
  | d :: ds, _, _, 0, d', h, e => by
    cases h with
    | cons r rs =>
      have e' : d = d' := by simpa using e
      subst e'
      exact ⟨_, _, rfl, r, fun a m => List.mem_append_left _ m⟩
  | d :: ds, _, _, i + 1, d', h, e => by
    cases h with
    | cons r rs =>
      obtain ⟨v, f, e1, r1, s⟩ := Reps.get (i := i) (d := d') rs (by simpa using e)
      exact ⟨v, f, by simpa using e1, r1, fun a m => List.mem_append_right _ (s a m)⟩
theorem Reps.single {v : V} {d : D} {f : List Addr} (r : Rep K H v d f) : Reps K H [v] [d] f := by
  have := Reps.cons r Reps.nil
  rwa [List.append_nil] at this
/-- one item exchanged -/
theorem Reps.set : ∀ {ds : List D} {vs : List V} {fp : List Addr} {i : Nat} {d : D} {v : V} {f : List Addr}, Reps K H vs ds fp → Rep K H v d f → (f ++ fp).Nodup →
    ∃ fq, Reps K H (vs.set i v) (ds.set i d) fq ∧ fq.Nodup ∧ ∀ a ∈ fq, a ∈ f ++ fp
  | [], _, _, i, d, v, f, h, r, n => by
    cases h
    exact ⟨[], .nil, List.nodup_nil, fun a m => nomatch m⟩
  | d0 :: ds, _, _, 0, d, v, f, h, r, n => by
    cases h with
    | @cons v0 vs _ _ f0 fp rr rs =>
      have n1 := List.nodup_append.mp n
      have n2 := List.nodup_append.mp n1.2.1
      refine ⟨f ++ fp, .cons r rs, List.nodup_append.mpr ⟨n1.1, n2.2.1, fun a ha b hb => n1.2.2 a ha b (List.mem_append_right _ hb)⟩, fun a m => ?_⟩
      rcases List.mem_append.mp m with m | m
      · exact List.mem_append_left _ m
      · exact List.mem_append_right _ (List.mem_append_right _ m)
  | d0 :: ds, _, _, i + 1, d, v, f, h, r, n => by
    cases h with
    | @cons v0 vs _ _ f0 fp rr rs =>
      have n1 := List.nodup_append.mp n
      have n2 := List.nodup_append.mp n1.2.1
      obtain ⟨fq, q, nq, sq⟩ := Reps.set (i := i) rs r (List.nodup_append.mpr ⟨n1.1, n2.2.1, fun a ha b hb => n1.2.2 a ha b (List.mem_append_right _ hb)⟩)
      refine ⟨f0 ++ fq, .cons rr q, List.nodup_append.mpr ⟨n2.1, nq, fun a ha b hb => ?_⟩, fun a m => ?_⟩
      · rcases List.mem_append.mp (sq b hb) with m | m
        · exact fun e => n1.2.2 b m a (List.mem_append_left _ ha) e.symm
        · exact n2.2.2 a ha b m
      · rcases List.mem_append.mp m with m | m
        · exact List.mem_append_right _ (List.mem_append_left _ m)
        · rcases List.mem_append.mp (sq a m) with m | m
          · exact List.mem_append_left _ m
          · exact List.mem_append_right _ (List.mem_append_right _ m)
end

/-! ### what a piece of code may change -/
/-- between H and H': all that is not in A stands; what is owned behind (B) was owned ahead (A) or is new -/
structure Chg (H H' : Hp) (A B : List Addr) : Prop where
  keep : ∀ b o, H b = some o → b ∉ A → H' b = some o
  new : ∀ b ∈ B, b ∈ A ∨ H b = none
theorem Chg.refl {H : Hp} {A : List Addr} : Chg H H A A := ⟨fun _ _ e _ => e, fun _ m => .inl m⟩
theorem Chg.trans {H H1 H2 : Hp} {A B A1 C : List Addr} (x : Chg H H1 A B) (y : Chg H1 H2 A1 C) (s : ∀ a ∈ A1, a ∈ B) : Chg H H2 A C := by
  refine ⟨fun b o e n => y.keep b o (x.keep b o e n) fun m => ?_, fun b m => ?_⟩
  · rcases x.new b (s b m) with q | q
    · exact n q
    · rw [q] at e; cases e
  · rcases y.new b m with q | q
    · exact x.new b (s b q)
    · by_cases hb : b ∈ A
      · exact .inl hb
      · refine .inr ?_
        cases e : H b with
        | none => rfl
        | some o => rw [x.keep b o e hb] at q; cases q
theorem Chg.sub {H H' : Hp} {A B C : List Addr} (x : Chg H H' A B) (s : ∀ a ∈ C, a ∈ B) : Chg H H' A C := ⟨x.keep, fun b m => x.new b (s b m)⟩
theorem Chg.same {H H' : Hp} {A : List Addr} (s : Same H H') : Chg H H' A A := ⟨fun b o e _ => s b o e, fun _ m => .inl m⟩
theorem Chg.toSame {H H' : Hp} {B : List Addr} (x : Chg H H' [] B) : Same H H' := fun b o e => x.keep b o e fun m => nomatch m
theorem Chg.ups {H H' : Hp} {A A' B : List Addr} (x : Chg H H' A B) (s : ∀ a ∈ A, a ∈ A') : Chg H H' A' B :=
  ⟨fun b o e n => x.keep b o e fun m => n (s b m), fun b m => (x.new b m).imp (s b) id⟩

/-! ### the slots -/
abbrev Env := List (Option D)
inductive Slots (K : PySem.W.Frag) (H : Hp) : L2.St → Env → List (List Addr) → Prop
  | nil : Slots K H [] [] []
  | no {x : Option V} {σ : L2.St} {ρ : Env} {fs : List (List Addr)} : Slots K H σ ρ fs → Slots K H (x :: σ) (none :: ρ) ([] :: fs)
  | so {v : V} {d : D} {f : List Addr} {σ : L2.St} {ρ : Env} {fs : List (List Addr)} : Rep K H v d f → Slots K H σ ρ fs → Slots K H (some v :: σ) (some d :: ρ) (f :: fs)
/-- the environment ρ at the slots σ in the heap H; fp: the mutable objects that it owns -/
def Rel (K : PySem.W.Frag) (H : Hp) (σ : L2.St) (ρ : Env) (fp : List Addr) : Prop := ∃ fs, Slots K H σ ρ fs ∧ fp = fs.flatten ∧ fp.Nodup
section
variable {K : PySem.W.Frag} {H H' : Hp} {A : List Addr}
theorem Slots.len {σ : L2.St} {ρ : Env} {fs : List (List Addr)} (h : Slots K H σ ρ fs) : σ.length = ρ.length ∧ fs.length = ρ.length := by
  induction h with
  | nil => exact ⟨rfl, rfl⟩
  | no _ ih => exact ⟨by simp [ih.1], by simp [ih.2]⟩
  | so _ _ ih => exact ⟨by simp [ih.1], by simp [ih.2]⟩
theorem Slots.keep {σ : L2.St} {ρ : Env} {fs : List (List Addr)} (hA : ∀ b ∈ A, Mb (H b)) (k : ∀ b o, H b = some o → b ∉ A → H' b = some o) (h : Slots K H σ ρ fs) (n : ∀ a ∈ fs.flatten, a ∉ A) : Slots K H' σ ρ fs := by
  induction h with
  | nil => exact .nil
  | no _ ih => exact .no (ih fun a m => n a (by simpa using m))
  | so r _ ih =>
    exact .so (Rep.keep hA k _ _ _ r fun a m => n a (by rw [List.flatten_cons]; exact List.mem_append_left _ m)) (ih fun a m => n a (by rw [List.flatten_cons]; exact List.mem_append_right _ m))
theorem Slots.mb {σ : L2.St} {ρ : Env} {fs : List (List Addr)} (h : Slots K H σ ρ fs) : ∀ a ∈ fs.flatten, Mb (H a) := by
  induction h with
  | nil => intro a m; simp at m
  | no _ ih => intro a m; exact ih a (by simpa using m)
  | so r _ ih =>
    intro a m
    rw [List.flatten_cons] at m
    rcases List.mem_append.mp m with m | m
    · exact Rep.mb _ _ _ r a m
    · exact ih a m
theorem Slots.get {σ : L2.St} {ρ : Env} {fs : List (List Addr)} (h : Slots K H σ ρ fs) : ∀ {i : Nat} {d : D}, ρ[i]? = some (some d) → ∃ v f, σ[i]? = some (some v) ∧ fs[i]? = some f ∧ Rep K H v d f := by
  induction h with
  | nil => intro i d e; simp at e
  | no _ ih =>
    intro i d e
    cases i with
    | zero => simp at e
    | succ i => simpa using ih (i := i) (d := d) (by simpa using e)
  | so r _ ih =>
    intro i d e
    cases i with
    | zero =>
      rw [List.getElem?_cons_zero] at e
      cases e
      exact ⟨_, _, rfl, rfl, r⟩
    | succ i => simpa using ih (i := i) (d := d) (by simpa using e)
theorem Slots.put {σ : L2.St} {ρ : Env} {fs : List (List Addr)} (h : Slots K H σ ρ fs) : ∀ (i : Nat) {v : V} {d : D} {f : List Addr}, Rep K H v d f → Slots K H (σ.set i (some v)) (ρ.set i (some d)) (fs.set i f) := by
  induction h with
  | nil => intro i v d f r; exact .nil
  | no h ih =>
    intro i v d f r
    cases i with
    | zero => exact .so r h
    | succ i => exact .no (ih i r)
  | so r0 h ih =>
    intro i v d f r
    cases i with
    | zero => exact .so r h
    | succ i => exact .so r0 (ih i r)
theorem Slots.drop {σ : L2.St} {ρ : Env} {fs : List (List Addr)} (h : Slots K H σ ρ fs) : ∀ (i : Nat), Slots K H σ (ρ.set i none) (fs.set i []) := by
  induction h with
  | nil => intro i; exact .nil
  | no h ih =>
    intro i
    cases i with
    | zero => exact .no h
    | succ i => exact .no (ih i)
  | so r0 h ih =>
    intro i
    cases i with
    | zero => exact .no h
    | succ i => exact .so r0 (ih i)
theorem flat_set_perm : ∀ {fs : List (List Addr)} {i : Nat} {f : List Addr} (g : List Addr), fs[i]? = some f → (fs.set i g).flatten.Perm (g ++ (fs.set i []).flatten)
  | [], i, f, g, e => by simp at e
  | f0 :: fs, 0, f, g, e => by simp
  | f0 :: fs, i + 1, f, g, e => by
    have ih := flat_set_perm (fs := fs) (i := i) (f := f) g (by simpa using e)
    simp only [List.set_cons_succ, List.flatten_cons]
    refine (List.Perm.append_left f0 ih).trans ?_
    rw [← List.append_assoc, ← List.append_assoc]
    exact List.Perm.append_right _ List.perm_append_comm
theorem set_self {fs : List (List Addr)} {i : Nat} {f : List Addr} (e : fs[i]? = some f) : fs.set i f = fs := by
  apply List.ext_getElem?
  intro j
  by_cases h : i = j
  · subst h
    rw [List.getElem?_set_self (List.getElem?_eq_some_iff.mp e).1, e]
  · rw [List.getElem?_set_ne h]
theorem flat_perm {fs : List (List Addr)} {i : Nat} {f : List Addr} (e : fs[i]? = some f) : fs.flatten.Perm (f ++ (fs.set i []).flatten) := by
  have := flat_set_perm f e
  rwa [set_self e] at this
theorem Rel.nodup {σ : L2.St} {ρ : Env} {fp : List Addr} (h : Rel K H σ ρ fp) : fp.Nodup := let ⟨_, _, _, n⟩ := h; n
theorem Rel.mb {σ : L2.St} {ρ : Env} {fp : List Addr} (h : Rel K H σ ρ fp) : ∀ a ∈ fp, Mb (H a) := by
  obtain ⟨fs, s, rfl, _⟩ := h
  exact s.mb
theorem Rel.keep {σ : L2.St} {ρ : Env} {fp : List Addr} (hA : ∀ b ∈ A, Mb (H b)) (k : ∀ b o, H b = some o → b ∉ A → H' b = some o) (h : Rel K H σ ρ fp) (n : ∀ a ∈ fp, a ∉ A) : Rel K H' σ ρ fp := by
  obtain ⟨fs, s, rfl, q⟩ := h
  exact ⟨fs, s.keep hA k n, rfl, q⟩
theorem Rel.same {σ : L2.St} {ρ : Env} {fp : List Addr} (h : Rel K H σ ρ fp) (s : Same H H') : Rel K H' σ ρ fp :=
  h.keep (A := []) (fun _ m => nomatch m) (fun b o e _ => s b o e) (fun _ _ m => nomatch m)
/-- what a slot holds -/
theorem Rel.get {σ : L2.St} {ρ : Env} {fp : List Addr} (h : Rel K H σ ρ fp) {i : Nat} {d : D} (e : ρ[i]? = some (some d)) : ∃ v f, σ[i]? = some (some v) ∧ Rep K H v d f ∧ ∀ a ∈ f, a ∈ fp := by
  obtain ⟨fs, s, rfl, _⟩ := h
  obtain ⟨v, f, e1, e2, r⟩ := s.get e
  exact ⟨v, f, e1, r, fun a m => (flat_perm e2).mem_iff.mpr (List.mem_append_left _ m)⟩
/-- .. taken out -/
theorem Rel.take {σ : L2.St} {ρ : Env} {fp : List Addr} (h : Rel K H σ ρ fp) {i : Nat} {d : D} (e : ρ[i]? = some (some d)) :
    ∃ v f fq, σ[i]? = some (some v) ∧ Rep K H v d f ∧ Rel K H σ (ρ.set i none) fq ∧ (f ++ fq).Nodup ∧ ∀ a, a ∈ fp ↔ a ∈ f ++ fq := by
  obtain ⟨fs, s, rfl, n⟩ := h
  obtain ⟨v, f, e1, e2, r⟩ := s.get e
  have p := flat_perm e2
  have n' := p.nodup_iff.mp n
  exact ⟨v, f, _, e1, r, ⟨_, s.drop i, rfl, (List.nodup_append.mp n').2.1⟩, n', fun a => p.mem_iff⟩
/-- a slot is dropped -/
theorem Rel.drop {σ : L2.St} {ρ : Env} {fp : List Addr} (h : Rel K H σ ρ fp) (i : Nat) : ∃ fq, Rel K H σ (ρ.set i none) fq ∧ ∀ a ∈ fq, a ∈ fp := by
  obtain ⟨fs, s, rfl, n⟩ := h
  cases e : fs[i]? with
  | none =>
    have hl : fs.length ≤ i := List.getElem?_eq_none_iff.mp e
    refine ⟨fs.flatten, ⟨fs, ?_, rfl, n⟩, fun a m => m⟩
    rw [List.set_eq_of_length_le (by have := s.len; omega)]
    exact s
  | some f =>
    have p := flat_perm e
    refine ⟨_, ⟨_, s.drop i, rfl, (List.nodup_append.mp (p.nodup_iff.mp n)).2.1⟩, fun a m => p.mem_iff.mpr (List.mem_append_right _ m)⟩
/-- a slot gets a value -/
theorem Rel.put {σ : L2.St} {ρ : Env} {fp : List Addr} (h : Rel K H σ ρ fp) (i : Nat) {v : V} {d : D} {f : List Addr} (r : Rep K H v d f) (n : (f ++ fp).Nodup) :
    ∃ fq, Rel K H (σ.set i (some v)) (ρ.set i (some d)) fq ∧ ∀ a ∈ fq, a ∈ f ++ fp := by
  obtain ⟨fs, s, rfl, n0⟩ := h
  cases e : fs[i]? with
  | none =>
    have hl : fs.length ≤ i := List.getElem?_eq_none_iff.mp e
    have hs := s.len
    refine ⟨fs.flatten, ⟨fs, ?_, rfl, n0⟩, fun a m => List.mem_append_right _ m⟩
    rw [List.set_eq_of_length_le (by omega), List.set_eq_of_length_le (by omega)]
    exact s
  | some g =>
    have p := flat_set_perm f e
    have p2 := flat_perm e
    have sub : ∀ a, a ∈ (fs.set i []).flatten → a ∈ fs.flatten := fun a m => p2.mem_iff.mpr (List.mem_append_right _ m)
    have n1 := List.nodup_append.mp n
    refine ⟨_, ⟨_, s.put i r, rfl, p.nodup_iff.mpr (List.nodup_append.mpr ⟨n1.1, (List.nodup_append.mp (p2.nodup_iff.mp n0)).2.1, fun a ha b hb => n1.2.2 a ha b (sub b hb)⟩)⟩, fun a m => ?_⟩
    rcases List.mem_append.mp (p.mem_iff.mp m) with m | m
    · exact List.mem_append_left _ m
    · exact List.mem_append_right _ (sub a m)
theorem set_same_slot {σ : L2.St} {i : Nat} {v : V} (e : σ[i]? = some (some v)) : σ.set i (some v) = σ := by
  apply List.ext_getElem?
  intro j
  by_cases h : i = j
  · subst h
    rw [List.getElem?_set_self (List.getElem?_eq_some_iff.mp e).1, e]
  · rw [List.getElem?_set_ne h]
/-- .. the value that the name has already: another datum for it -/
theorem Rel.put' {σ : L2.St} {ρ : Env} {fp : List Addr} (h : Rel K H σ ρ fp) {i : Nat} {v : V} {d : D} {f : List Addr} (e : σ[i]? = some (some v)) (r : Rep K H v d f) (n : (f ++ fp).Nodup) :
    ∃ fq, Rel K H σ (ρ.set i (some d)) fq ∧ ∀ a ∈ fq, a ∈ f ++ fp := by
  have := h.put i r n
  rwa [set_same_slot e] at this
theorem Rel.len {σ : L2.St} {ρ : Env} {fp : List Addr} (h : Rel K H σ ρ fp) : σ.length = ρ.length := let ⟨_, s, _, _⟩ := h; s.len.1
end
end Bv

namespace Bv
open PySem PySem.Spec PyProof.Rows L2

abbrev ME := Env → Option (D × Env)
abbrev MP := Env → Option D
abbrev MT := Env → Option (Bool × Env)
abbrev MG := D → Env → Option Env
inductive Out where
  | nx | rt (d : D) | bk | ct
abbrev MS := Env → Option (Out × Env)
def nth (ρ : Env) (i : Nat) : Option D := (ρ[i]?).join
theorem nth_some {ρ : Env} {i : Nat} {d : D} (h : nth ρ i = some d) : ρ[i]? = some (some d) := by
  unfold nth at h
  cases e : ρ[i]? with
  | none => rw [e] at h; cases h
  | some x => rw [e] at h; cases x with
    | none => cases h
    | some y => cases h; rfl

/-! ### the readings -/
def tM (K : PySem.W.Frag) (m : ME) : TE := fun σ H Q => ∃ ρ d ρ' fp, Rel K H σ ρ fp ∧ m ρ = some (d, ρ') ∧
  ∀ v H' fp' fr, Rel K H' σ ρ' fp' → Rep K H' v d fr → (fr ++ fp').Nodup → Chg H H' fp (fr ++ fp') → Q v H'
def tP (K : PySem.W.Frag) (m : MP) : TE := fun σ H Q => ∃ ρ d fp, Rel K H σ ρ fp ∧ m ρ = some d ∧ ∀ v H' fr, Same H H' → Rep K H' v d fr → Q v H'
def tT (K : PySem.W.Frag) (m : MT) : TT := fun σ H Q => ∃ ρ b ρ' fp, Rel K H σ ρ fp ∧ m ρ = some (b, ρ') ∧ ∀ H' fp', Rel K H' σ ρ' fp' → Chg H H' fp fp' → Q b H'
/-- the slots in io hold what they held -/
def Pin (io : List Nat) (σ σ' : L2.St) : Prop := σ'.length = σ.length ∧ ∀ i ∈ io, σ'[i]? = σ[i]?
theorem Pin.refl {io : List Nat} {σ : L2.St} : Pin io σ σ := ⟨rfl, fun _ _ => rfl⟩
theorem Pin.trans {io : List Nat} {σ σ1 σ2 : L2.St} (a : Pin io σ σ1) (b : Pin io σ1 σ2) : Pin io σ σ2 := ⟨b.1.trans a.1, fun i m => (b.2 i m).trans (a.2 i m)⟩
theorem Pin.set {io : List Nat} {σ : L2.St} {i : Nat} {v : Option V} (h : i ∉ io) : Pin io σ (σ.set i v) := ⟨List.length_set, fun j m => List.getElem?_set_ne fun e => h (by rw [e]; exact m)⟩
def SPost (K : PySem.W.Frag) (io : List Nat) (D : Ends) (σ : L2.St) (H : Hp) (fp : List Addr) (ρ' : Env) : Out → Prop
  | .nx => ∀ σ' H' fp', Rel K H' σ' ρ' fp' → Chg H H' fp fp' → Pin io σ σ' → D.nx σ' H'
  | .bk => ∀ σ' H' fp', Rel K H' σ' ρ' fp' → Chg H H' fp fp' → Pin io σ σ' → D.bk σ' H'
  | .ct => ∀ σ' H' fp', Rel K H' σ' ρ' fp' → Chg H H' fp fp' → Pin io σ σ' → D.ct σ' H'
  | .rt d => ∀ v σ' H' fp' fr, Rel K H' σ' ρ' fp' → Rep K H' v d fr → (fr ++ fp').Nodup → Chg H H' fp (fr ++ fp') → Pin io σ σ' → D.rt v H'
def tS (K : PySem.W.Frag) (io : List Nat) (m : MS) : TS := fun D σ H => ∃ ρ o ρ' fp, Rel K H σ ρ fp ∧ m ρ = some (o, ρ') ∧ SPost K io D σ H fp ρ' o
def tG (K : PySem.W.Frag) (io : List Nat) (g : MG) : TG := fun v σ H Q => ∃ ρ d ρ' fp, Rel K H σ ρ fp ∧ Rep K H v d [] ∧ g d ρ = some ρ' ∧
  ∀ σ' H' fp', Rel K H' σ' ρ' fp' → Chg H H' fp fp' → Pin io σ σ' → Q σ' H'
def tGs (K : PySem.W.Frag) (io : List Nat) (g : List D → Env → Option Env) : TGs := fun vs σ H Q => ∃ ρ ds ρ' fp, Rel K H σ ρ fp ∧ Reps K H vs ds [] ∧ g ds ρ = some ρ' ∧
  ∀ σ' H' fp', Rel K H' σ' ρ' fp' → Chg H H' fp fp' → Pin io σ σ' → Q σ' H'
/-- an expression, its function; pure: the environment is read alone -/
abbrev JE (X : Cx) (e : Expr) (m : ME) : Prop := PE X e (tM X.K m)
abbrev JP (X : Cx) (e : Expr) (m : MP) : Prop := PE X e (tP X.K m)
abbrev JT (X : Cx) (e : Expr) (m : MT) : Prop := PT X e (tT X.K m)
abbrev JW (X : Cx) (e : Expr) (m : MT) : Prop := PW X e (tT X.K m)
abbrev JS (X : Cx) (io : List Nat) (st : Stmt) (m : MS) : Prop := PS X st (tS X.K io m)
abbrev JSs (X : Cx) (io : List Nat) (st : List Stmt) (m : MS) : Prop := PSs X st (tS X.K io m)
abbrev JG (X : Cx) (io : List Nat) (e : Expr) (g : MG) : Prop := PG X e (tG X.K io g)
abbrev JGs (X : Cx) (io : List Nat) (es : List Expr) (g : List D → Env → Option Env) : Prop := PGs X es (tGs X.K io g)

theorem pe_imp {X : Cx} {e : Expr} {t t' : TE} (h : PE X e t) (i : ∀ σ H Q, t' σ H Q → t σ H Q) : PE X e t' := ⟨fun pins s σ H Q I w => h.run pins s σ H Q I (i σ H Q w)⟩
theorem pt_imp {X : Cx} {e : Expr} {t t' : TT} (h : PT X e t) (i : ∀ σ H Q, t' σ H Q → t σ H Q) : PT X e t' := ⟨fun pins s σ H Q I w => h.run pins s σ H Q I (i σ H Q w)⟩
theorem pw_imp {X : Cx} {e : Expr} {t t' : TT} (h : PW X e t) (i : ∀ σ H Q, t' σ H Q → t σ H Q) : PW X e t' := ⟨fun wh pins s σ H Q I w => h.run wh pins s σ H Q I (i σ H Q w)⟩
theorem pa_imp {X : Cx} {e : List Expr} {t t' : TA} (h : PA X e t) (i : ∀ σ H Q, t' σ H Q → t σ H Q) : PA X e t' := ⟨fun pos pins s σ H Q I w => h.run pos pins s σ H Q I (i σ H Q w)⟩
theorem ps_imp {X : Cx} {e : Stmt} {t t' : TS} (h : PS X e t) (i : ∀ D σ H, t' D σ H → t D σ H) : PS X e t' := ⟨fun pins s σ H D I w => h.run pins s σ H D I (i D σ H w)⟩
theorem pss_imp {X : Cx} {e : List Stmt} {t t' : TS} (h : PSs X e t) (i : ∀ D σ H, t' D σ H → t D σ H) : PSs X e t' := ⟨fun pins s σ H D I w => h.run pins s σ H D I (i D σ H w)⟩
theorem pg_imp {X : Cx} {e : Expr} {t t' : TG} (h : PG X e t) (i : ∀ v σ H Q, t' v σ H Q → t v σ H Q) : PG X e t' := ⟨fun pins s σ H v u Q I r w => h.run pins s σ H v u Q I r (i v σ H Q w)⟩
theorem pgs_imp {X : Cx} {e : List Expr} {t t' : TGs} (h : PGs X e t) (i : ∀ v σ H Q, t' v σ H Q → t v σ H Q) : PGs X e t' := ⟨fun pins s σ H v u Q I r w => h.run pins s σ H v u Q I r (i v σ H Q w)⟩
theorem pi_imp {X : Cx} {tg e : Expr} {t t' : TI} (h : PI X tg e t) (i : ∀ σ H Q, t' σ H Q → t σ H Q) : PI X tg e t' := ⟨fun pins s σ H R I w => h.run pins s σ H R I (i σ H R w)⟩

theorem rep_none {K : PySem.W.Frag} {H : Hp} {v : V} {d : D} {f : List Addr} (r : Rep K H v d f) (n : noList d = true) : Rep K H v d [] := by
  have := Rep.nol d v f r n
  subst this
  exact r
/-- what was held aside stands behind a piece of code -/
theorem rep_aside {K : PySem.W.Frag} {H H' : Hp} {A B : List Addr} {v : V} {d : D} {f : List Addr} (r : Rep K H v d f) (c : Chg H H' A B) (hA : ∀ b ∈ A, Mb (H b)) (n : (f ++ A).Nodup) : Rep K H' v d f :=
  Rep.keep hA c.keep d v f r fun a m z => (List.nodup_append.mp n).2.2 a m a z rfl
theorem reps_aside {K : PySem.W.Frag} {H H' : Hp} {A B : List Addr} {v : List V} {d : List D} {f : List Addr} (r : Reps K H v d f) (c : Chg H H' A B) (hA : ∀ b ∈ A, Mb (H b)) (n : (f ++ A).Nodup) : Reps K H' v d f :=
  Reps.keep hA c.keep d v f r fun a m z => (List.nodup_append.mp n).2.2 a m a z rfl
/-- .. and stays apart from what is owned then -/
theorem nd_aside {H H' : Hp} {A B f : List Addr} (c : Chg H H' A B) (hf : ∀ a ∈ f, Mb (H a)) (n : (f ++ A).Nodup) (nB : B.Nodup) : (f ++ B).Nodup := by
  have q := List.nodup_append.mp n
  refine List.nodup_append.mpr ⟨q.1, nB, fun a ha b hb e => ?_⟩
  subst e
  rcases c.new a hb with z | z
  · exact q.2.2 a ha a z rfl
  · have := hf a ha
    rw [z] at this
    exact this

section
variable {X : Cx} {a b c : Expr} {m m1 m2 : ME} {p p1 p2 : MP} {pos : Pos} {io : List Nat}
/-! ### names, constants, pure and owned -/
def eOwn (p : MP) : ME := fun ρ => match p ρ with
  | some d => if noList d then some (d, ρ) else none
  | none => none
theorem je_own (h : JP X a p) : JE X a (eOwn p) := pe_imp h fun σ H Q => by
  rintro ⟨ρ, d, ρ', fp, R, e, k⟩
  unfold eOwn at e
  cases ep : p ρ with
  | none => rw [ep] at e; cases e
  | some d' =>
    rw [ep] at e
    dsimp only at e
    split at e
    · rename_i hn
      cases e
      refine ⟨ρ, _, fp, R, ep, fun v H' fr s r => ?_⟩
      have r' := rep_none r hn
      exact k v H' fp [] (R.same s) r' R.nodup (Chg.same s)
    · cases e
def pVar (i : Nat) : MP := fun ρ => nth ρ i
theorem jp_name {i : Nat} (h : PE X a (tVar i)) : JP X a (pVar i) := pe_imp h fun σ H Q => by
  rintro ⟨ρ, d, fp, R, e, k⟩
  obtain ⟨v, f, e1, r, _⟩ := R.get (nth_some e)
  exact ⟨v, e1, k v H f (Same.refl H) r⟩
theorem jp_var (i : Nat) {x : Str} (hN : X.N[i]? = some x := by rfl) (hv : Vis X.env.scope x := by first | exact Or.inl rfl | exact Or.inr (Or.inl rfl) | exact Or.inr (Or.inr rfl)) (hd : (x == ("__debug__" : Str)) = false := by decide)
    (hcd : (x == ("__classdict__" : Str)) = false := by decide) : JP X (.Name x pos) (pVar i) := jp_name (pe_var hN hv hd hcd)
/-- the name's value goes: the slot is empty behind -/
def eMove (i : Nat) : ME := fun ρ => match nth ρ i with
  | some d => some (d, ρ.set i none)
  | none => none
theorem je_move' {i : Nat} (h : PE X a (tVar i)) : JE X a (eMove i) := pe_imp h fun σ H Q => by
  rintro ⟨ρ, d, ρ', fp, R, e, k⟩
  unfold eMove at e
  cases en : nth ρ i with
  | none => rw [en] at e; cases e
  | some d' =>
    rw [en] at e
    cases e
    obtain ⟨v, f, fq, e1, r, R', n, s⟩ := R.take (nth_some en)
    exact ⟨v, e1, k v H fq f R' r n ⟨fun _ _ e _ => e, fun b m => .inl ((s b).mpr m)⟩⟩
theorem je_move (i : Nat) {x : Str} (hN : X.N[i]? = some x := by rfl) (hv : Vis X.env.scope x := by first | exact Or.inl rfl | exact Or.inr (Or.inl rfl) | exact Or.inr (Or.inr rfl)) (hd : (x == ("__debug__" : Str)) = false := by decide)
    (hcd : (x == ("__classdict__" : Str)) = false := by decide) : JE X (.Name x pos) (eMove i) := je_move' (pe_var hN hv hd hcd)
def pC (d : D) : MP := fun _ => some d
theorem jp_const {v : V} {d : D} (h : PE X a (tC v)) (r : ∀ H, Rep X.K H v d []) : JP X a (pC d) := pe_imp h fun σ H Q => by
  rintro ⟨ρ, d', fp, R, e, k⟩
  cases e
  exact k v H [] (Same.refl H) (r H)
theorem jp_int {i : Int} {j pos} : JP X (.Constant (.int i) j pos) (pC (.int i)) := jp_const pe_int fun _ => .int i
theorem jp_bl {b : Bool} {j pos} : JP X (.Constant (.bool b) j pos) (pC (.bl b)) := jp_const pe_bl fun _ => .bl b
theorem jp_non {j pos} : JP X (.Constant .none j pos) (pC .non) := jp_const pe_non fun _ => .non
theorem jp_str {x : Str} {j pos} : JP X (.Constant (.str x) j pos) (pC (.str x)) := jp_const pe_str fun _ => .str x

/-! ### two operands -/
/-- r does what op says, and makes nothing but new objects -/
def R2ok (K : PySem.W.Frag) (r : R2) (op : D → D → Option D) : Prop := ∀ (x y : V) (H : Hp) (Q : VK) (d1 d2 d : D) (f1 f2 : List Addr), Rep K H x d1 f1 → Rep K H y d2 f2 → op d1 d2 = some d →
  (∀ v H' fr, Same H H' → Rep K H' v d fr → fr.Nodup → (∀ a ∈ fr, H a = none) → Q v H') → r x y H Q
def eBin (op : D → D → Option D) (m1 m2 : ME) : ME := fun ρ => match m1 ρ with
  | some (d1, ρ1) => (match m2 ρ1 with
    | some (d2, ρ2) => (match op d1 d2 with
      | some d => some (d, ρ2)
      | none => none)
    | none => none)
  | none => none
def pBin (op : D → D → Option D) (p1 p2 : MP) : MP := fun ρ => match p1 ρ with
  | some d1 => (match p2 ρ with
    | some d2 => op d1 d2
    | none => none)
  | none => none
/-- the right side a pure one: read behind the left one -/
def eBinP (op : D → D → Option D) (m1 : ME) (p2 : MP) : ME := fun ρ => match m1 ρ with
  | some (d1, ρ1) => (match p2 ρ1 with
    | some d2 => (match op d1 d2 with
      | some d => some (d, ρ1)
      | none => none)
    | none => none)
  | none => none
theorem nd_new {K : PySem.W.Frag} {H : Hp} {σ : L2.St} {ρ : Env} {fr fp : List Addr} (R : Rel K H σ ρ fp) (n : fr.Nodup) (f : ∀ a ∈ fr, H a = none) : (fr ++ fp).Nodup :=
  List.nodup_append.mpr ⟨n, R.nodup, fun a ha b hb e => by
    subst e
    have := R.mb a hb
    rw [f a ha] at this
    exact this⟩
theorem eBin_t {r : R2} {op : D → D → Option D} (ok : R2ok X.K r op) (σ : L2.St) (H : Hp) (Q : VK) (h : tM X.K (eBin op m1 m2) σ H Q) : tOp r (tM X.K m1) (tM X.K m2) σ H Q := by
  obtain ⟨ρ, d, ρ', fp, R, e, k⟩ := h
  unfold eBin at e
  split at e
  · rename_i d1 ρ1 e1
    split at e
    · rename_i d2 ρ2 e2
      split at e
      · rename_i d' e3
        cases e
        refine ⟨ρ, d1, ρ1, fp, R, e1, fun x H1 fp1 fr1 R1 r1 n1 c1 => ?_⟩
        refine ⟨ρ1, d2, ρ', fp1, R1, e2, fun y H2 fp2 fr2 R2 r2 n2 c2 => ?_⟩
        refine ok x y H2 Q d1 d2 d fr1 fr2 (rep_aside r1 c2 R1.mb n1) r2 e3 fun v H' fr s r n f => ?_
        refine k v H' fp2 fr (R2.same s) r (nd_new R2 n f) ?_
        refine Chg.trans (c1.trans c2 fun a m => List.mem_append_right _ m) (Chg.mk (fun b o e _ => s b o e) fun b m => ?_) (A1 := fr2 ++ fp2) fun a m => m
        rcases List.mem_append.mp m with m | m
        · exact .inr (f b m)
        · exact .inl (List.mem_append_right _ m)
      · cases e
    · cases e
  · cases e
theorem eBinP_t {r : R2} {op : D → D → Option D} (ok : R2ok X.K r op) (σ : L2.St) (H : Hp) (Q : VK) (h : tM X.K (eBinP op m1 p2) σ H Q) : tOp r (tM X.K m1) (tP X.K p2) σ H Q := by
  obtain ⟨ρ, d, ρ', fp, R, e, k⟩ := h
  unfold eBinP at e
  split at e
  · rename_i d1 ρ1 e1
    split at e
    · rename_i d2 e2
      split at e
      · rename_i d' e3
        cases e
        refine ⟨ρ, d1, ρ', fp, R, e1, fun x H1 fp1 fr1 R1 r1 n1 c1 => ?_⟩
        refine ⟨ρ', d2, fp1, R1, e2, fun y H2 fr2 s2 r2 => ?_⟩
        refine ok x y H2 Q d1 d2 d fr1 fr2 (r1.same s2) r2 e3 fun v H' fr s r n f => ?_
        have s' := s2.trans s
        have f' : ∀ a ∈ fr, H1 a = none := fun a m => s2.free (f a m)
        refine k v H' fp1 fr (R1.same s') r (nd_new R1 n f') ?_
        refine Chg.trans c1 (Chg.mk (fun b o e _ => s' b o e) fun b m => ?_) (A1 := fr1 ++ fp1) fun a m => m
        rcases List.mem_append.mp m with m | m
        · exact .inr (f' b m)
        · exact .inl (List.mem_append_right _ m)
      · cases e
    · cases e
  · cases e
theorem pBin_t {r : R2} {op : D → D → Option D} (ok : R2ok X.K r op) (σ : L2.St) (H : Hp) (Q : VK) (h : tP X.K (pBin op p1 p2) σ H Q) : tOp r (tP X.K p1) (tP X.K p2) σ H Q := by
  obtain ⟨ρ, d, fp, R, e, k⟩ := h
  unfold pBin at e
  split at e
  · rename_i d1 e1
    split at e
    · rename_i d2 e2
      refine ⟨ρ, d1, fp, R, e1, fun x H1 fr1 s1 r1 => ?_⟩
      refine ⟨ρ, d2, fp, R.same s1, e2, fun y H2 fr2 s2 r2 => ?_⟩
      exact ok x y H2 Q d1 d2 d fr1 fr2 (r1.same s2) r2 e fun v H' fr s r n f => k v H' fr ((s1.trans s2).trans s) r
    · cases e
  · cases e
theorem je_bin {o : Operator} {r : R2} {op : D → D → Option D} (ho : OpR X (binaryOp o) r) (ok : R2ok X.K r op) (ha : JE X a m1) (hb : JE X b m2) : JE X (.BinOp a o b pos) (eBin op m1 m2) :=
  pe_imp (pe_op ho ha hb) (eBin_t ok)
theorem jp_bin {o : Operator} {r : R2} {op : D → D → Option D} (ho : OpR X (binaryOp o) r) (ok : R2ok X.K r op) (ha : JP X a p1) (hb : JP X b p2) : JP X (.BinOp a o b pos) (pBin op p1 p2) :=
  pe_imp (pe_op ho ha hb) (pBin_t ok)
theorem je_cmp {o : CmpOp} {r : R2} {op : D → D → Option D} (ho : OpR X (compareOp o) r) (ok : R2ok X.K r op) (ha : JE X a m1) (hb : JE X b m2) (hm : behindInMarks o b = false) : JE X (.Compare a [o] [b] pos) (eBin op m1 m2) :=
  pe_imp (pe_cmpR ho ha hb hm) (eBin_t ok)
theorem je_cmpP {o : CmpOp} {r : R2} {op : D → D → Option D} (ho : OpR X (compareOp o) r) (ok : R2ok X.K r op) (ha : JE X a m1) (hb : JP X b p2) (hm : behindInMarks o b = false) : JE X (.Compare a [o] [b] pos) (eBinP op m1 p2) :=
  pe_imp (pe_cmpR ho ha hb hm) (eBinP_t ok)
theorem jp_cmp {o : CmpOp} {r : R2} {op : D → D → Option D} (ho : OpR X (compareOp o) r) (ok : R2ok X.K r op) (ha : JP X a p1) (hb : JP X b p2) (hm : behindInMarks o b = false) : JP X (.Compare a [o] [b] pos) (pBin op p1 p2) :=
  pe_imp (pe_cmpR ho ha hb hm) (pBin_t ok)

/-! ### one operand -/
def R1ok (K : PySem.W.Frag) (r : V → Hp → VK → Prop) (op : D → Option D) : Prop := ∀ (x : V) (H : Hp) (Q : VK) (d1 d : D) (f1 : List Addr), Rep K H x d1 f1 → op d1 = some d →
  (∀ v H' fr, Same H H' → Rep K H' v d fr → fr.Nodup → (∀ a ∈ fr, H a = none) → Q v H') → r x H Q
def eUn (op : D → Option D) (m : ME) : ME := fun ρ => match m ρ with
  | some (d1, ρ1) => (match op d1 with
    | some d => some (d, ρ1)
    | none => none)
  | none => none
def pUn (op : D → Option D) (p : MP) : MP := fun ρ => match p ρ with
  | some d1 => op d1
  | none => none
theorem chg_new {H H' : Hp} {A fr fp : List Addr} (s : Same H H') (f : ∀ a ∈ fr, H a = none) (h : ∀ a ∈ fp, a ∈ A) : Chg H H' A (fr ++ fp) :=
  ⟨fun b o e _ => s b o e, fun b m => (List.mem_append.mp m).elim (fun m => .inr (f b m)) fun m => .inl (h b m)⟩
theorem eUn_t {r : V → Hp → VK → Prop} {op : D → Option D} (ok : R1ok X.K r op) (σ : L2.St) (H : Hp) (Q : VK) (h : tM X.K (eUn op m) σ H Q) : tUn r (tM X.K m) σ H Q := by
  obtain ⟨ρ, d, ρ', fp, R, e, k⟩ := h
  unfold eUn at e
  split at e
  · rename_i d1 ρ1 e1
    split at e
    · rename_i d' e3
      cases e
      refine ⟨ρ, d1, ρ', fp, R, e1, fun x H1 fp1 fr1 R1 r1 n1 c1 => ?_⟩
      refine ok x H1 Q d1 d fr1 r1 e3 fun v H' fr s r n f => ?_
      exact k v H' fp1 fr (R1.same s) r (nd_new R1 n f) (c1.trans (chg_new s f fun a m => List.mem_append_right fr1 m) fun a m => m)
    · cases e
  · cases e
theorem pUn_t {r : V → Hp → VK → Prop} {op : D → Option D} (ok : R1ok X.K r op) (σ : L2.St) (H : Hp) (Q : VK) (h : tP X.K (pUn op p) σ H Q) : tUn r (tP X.K p) σ H Q := by
  obtain ⟨ρ, d, fp, R, e, k⟩ := h
  unfold pUn at e
  split at e
  · rename_i d1 e1
    refine ⟨ρ, d1, fp, R, e1, fun x H1 fr1 s1 r1 => ?_⟩
    exact ok x H1 Q d1 d fr1 r1 e fun v H' fr s r n f => k v H' fr (s1.trans s) r
  · cases e
theorem je_un {o : UnaryOp} {r : V → Hp → VK → Prop} {op : D → Option D} (ho : UnR X (unaryOp o) r) (ok : R1ok X.K r op) (ha : JE X a m) : JE X (.UnaryOp o a pos) (eUn op m) := pe_imp (pe_un ho ha) (eUn_t ok)
theorem jp_un {o : UnaryOp} {r : V → Hp → VK → Prop} {op : D → Option D} (ho : UnR X (unaryOp o) r) (ok : R1ok X.K r op) (ha : JP X a p) : JP X (.UnaryOp o a pos) (pUn op p) := pe_imp (pe_un ho ha) (pUn_t ok)

/-! ### tests -/
/-- a value that is a bool, as a test -/
def asT (m : ME) : MT := fun ρ => match m ρ with
  | some (.bl b, ρ') => some (b, ρ')
  | _ => none
theorem jt_val' {t : TE} (ht : ∀ σ H Q, tT X.K (asT m) σ H Q → tB (tM X.K m) σ H Q) : True := trivial
theorem tB_t (σ : L2.St) (H : Hp) (Q : Bool → Hp → Prop) (h : tT X.K (asT m) σ H Q) : tB (tM X.K m) σ H Q := by
  obtain ⟨ρ, b, ρ', fp, R, e, k⟩ := h
  unfold asT at e
  split at e
  · rename_i b' ρ1 e1
    cases e
    refine ⟨ρ, _, ρ', fp, R, e1, fun v H' fp' fr R' r n c => ?_⟩
    cases r
    exact ⟨b, rfl, k H' fp' R' c⟩
  · cases e
theorem jt_val (h : JE X a m) (he : ∀ whole, isTrue a X.env whole = (do let v ← whole; standAt a.pos; holding [v] (truthy v)) := by intro _; rfl) : JT X a (asT m) := pt_imp (pt_val h he) tB_t
theorem jt_cmp {o : CmpOp} {r : R2} {op : D → D → Option D} (ho : OpR X (compareOp o) r) (ok : R2ok X.K r op) (ha : JE X a m1) (hb : JE X b m2) (hm : behindInMarks o b = false) : JT X (.Compare a [o] [b] pos) (asT (eBin op m1 m2)) :=
  pt_imp (pt_cmpR ho ha hb hm) fun σ H Q h => by
    have h' := tB_t σ H Q h
    exact eBin_t ok σ H _ h'
theorem jt_cmpP {o : CmpOp} {r : R2} {op : D → D → Option D} (ho : OpR X (compareOp o) r) (ok : R2ok X.K r op) (ha : JE X a m1) (hb : JP X b p2) (hm : behindInMarks o b = false) : JT X (.Compare a [o] [b] pos) (asT (eBinP op m1 p2)) :=
  pt_imp (pt_cmpR ho ha hb hm) fun σ H Q h => by
    have h' := tB_t σ H Q h
    exact eBinP_t ok σ H _ h'
/-- both sides pure (lists of names, too) -/
def ePure (p : MP) : ME := fun ρ => match p ρ with
  | some d => some (d, ρ)
  | none => none
theorem jt_cmpPP {o : CmpOp} {r : R2} {op : D → D → Option D} (ho : OpR X (compareOp o) r) (ok : R2ok X.K r op) (ha : JP X a p1) (hb : JP X b p2) (hm : behindInMarks o b = false) : JT X (.Compare a [o] [b] pos) (asT (eOwn (pBin op p1 p2))) :=
  pt_imp (pt_cmpR ho ha hb hm) fun σ H Q h => by
    obtain ⟨ρ, b, ρ', fp, R, e, k⟩ := h
    unfold asT at e
    split at e
    · rename_i b' ρ1 e1
      cases e
      unfold eOwn at e1
      split at e1
      · rename_i d e2
        split at e1
        · cases e1
          refine pBin_t ok σ H _ ⟨ρ, .bl b, fp, R, e2, fun v H' fr s r => ?_⟩
          cases r
          exact ⟨b, rfl, k H' fp (R.same s) (Chg.same s)⟩
        · cases e1
      · cases e1
    · cases e
/-! and, or, not -/
def mAnd (t u : MT) : MT := fun ρ => match t ρ with
  | some (true, ρ1) => u ρ1
  | some (false, ρ1) => some (false, ρ1)
  | none => none
def mOr (t u : MT) : MT := fun ρ => match t ρ with
  | some (true, ρ1) => some (true, ρ1)
  | some (false, ρ1) => u ρ1
  | none => none
def mNot (t : MT) : MT := fun ρ => match t ρ with
  | some (b, ρ1) => some (!b, ρ1)
  | none => none
variable {t u : MT} {rest : List Expr}
theorem jw_and1 (ha : JT X a t) : JW X (.BoolOp .And [a] pos) t := pw_and1 ha
theorem jw_or1 (ha : JT X a t) : JW X (.BoolOp .Or [a] pos) t := pw_or1 ha
theorem jw_and (ha : JT X a t) (hb : JW X (.BoolOp .And (b :: rest) pos) u) : JW X (.BoolOp .And (a :: b :: rest) pos) (mAnd t u) := pw_imp (pw_and ha hb) fun σ H Q => by
  rintro ⟨ρ, b, ρ', fp, R, e, k⟩
  unfold mAnd at e
  split at e
  · rename_i ρ1 e1
    refine ⟨ρ, true, ρ1, fp, R, e1, fun H1 fp1 R1 c1 => ?_⟩
    refine iteT ?_
    exact ⟨ρ1, b, ρ', fp1, R1, e, fun H2 fp2 R2 c2 => k H2 fp2 R2 (c1.trans c2 fun a m => m)⟩
  · rename_i ρ1 e1
    cases e
    refine ⟨ρ, false, ρ', fp, R, e1, fun H1 fp1 R1 c1 => ?_⟩
    refine iteF ?_
    exact k H1 fp1 R1 c1
  · cases e
theorem jw_or (ha : JT X a t) (hb : JW X (.BoolOp .Or (b :: rest) pos) u) : JW X (.BoolOp .Or (a :: b :: rest) pos) (mOr t u) := pw_imp (pw_or ha hb) fun σ H Q => by
  rintro ⟨ρ, b, ρ', fp, R, e, k⟩
  unfold mOr at e
  split at e
  · rename_i ρ1 e1
    cases e
    refine ⟨ρ, true, ρ', fp, R, e1, fun H1 fp1 R1 c1 => ?_⟩
    refine iteT ?_
    exact k H1 fp1 R1 c1
  · rename_i ρ1 e1
    refine ⟨ρ, false, ρ1, fp, R, e1, fun H1 fp1 R1 c1 => ?_⟩
    refine iteF ?_
    exact ⟨ρ1, b, ρ', fp1, R1, e, fun H2 fp2 R2 c2 => k H2 fp2 R2 (c1.trans c2 fun a m => m)⟩
  · cases e
theorem jt_not (ha : JT X a t) : JT X (.UnaryOp .Not a pos) (mNot t) := pt_imp (pt_not ha) fun σ H Q => by
  rintro ⟨ρ, b, ρ', fp, R, e, k⟩
  unfold mNot at e
  split at e
  · rename_i b' ρ1 e1
    cases e
    exact ⟨ρ, b', ρ', fp, R, e1, fun H1 fp1 R1 c1 => k H1 fp1 R1 c1⟩
  · cases e
/-- .. as values of bools -/
def vAnd (m : ME) (u : ME) : ME := fun ρ => match m ρ with
  | some (.bl true, ρ1) => u ρ1
  | some (.bl false, ρ1) => some (.bl false, ρ1)
  | _ => none
def vOr (m : ME) (u : ME) : ME := fun ρ => match m ρ with
  | some (.bl true, ρ1) => some (.bl true, ρ1)
  | some (.bl false, ρ1) => u ρ1
  | _ => none
theorem chg_from {H H1 H2 : Hp} {A fr fp B : List Addr} (c1 : Chg H H1 A (fr ++ fp)) (c2 : Chg H1 H2 fp B) : Chg H H2 A B := c1.trans c2 fun a m => List.mem_append_right _ m
theorem je_and (ha : JE X a m1) (hb : JE X (.BoolOp .And (b :: rest) pos) m2) : JE X (.BoolOp .And (a :: b :: rest) pos) (vAnd m1 m2) := pe_imp (pe_and ha hb) fun σ H Q => by
  rintro ⟨ρ, d, ρ', fp, R, e, k⟩
  unfold vAnd at e
  split at e
  · rename_i ρ1 e1
    refine ⟨ρ, _, ρ1, fp, R, e1, fun v H1 fp1 fr R1 r n c1 => ?_⟩
    cases r
    refine ⟨true, rfl, ?_⟩
    refine iteT ?_
    exact ⟨ρ1, d, ρ', fp1, R1, e, fun w H2 fp2 fr2 R2 r2 n2 c2 => k w H2 fp2 fr2 R2 r2 n2 (chg_from c1 c2)⟩
  · rename_i ρ1 e1
    cases e
    refine ⟨ρ, _, ρ', fp, R, e1, fun v H1 fp1 fr R1 r n c1 => ?_⟩
    cases r
    refine ⟨false, rfl, ?_⟩
    refine iteF ?_
    exact k _ H1 fp1 [] R1 (.bl false) n c1
  · cases e
theorem je_or (ha : JE X a m1) (hb : JE X (.BoolOp .Or (b :: rest) pos) m2) : JE X (.BoolOp .Or (a :: b :: rest) pos) (vOr m1 m2) := pe_imp (pe_or ha hb) fun σ H Q => by
  rintro ⟨ρ, d, ρ', fp, R, e, k⟩
  unfold vOr at e
  split at e
  · rename_i ρ1 e1
    cases e
    refine ⟨ρ, _, ρ', fp, R, e1, fun v H1 fp1 fr R1 r n c1 => ?_⟩
    cases r
    refine ⟨true, rfl, ?_⟩
    refine iteT ?_
    exact k _ H1 fp1 [] R1 (.bl true) n c1
  · rename_i ρ1 e1
    refine ⟨ρ, _, ρ1, fp, R, e1, fun v H1 fp1 fr R1 r n c1 => ?_⟩
    cases r
    refine ⟨false, rfl, ?_⟩
    refine iteF ?_
    exact ⟨ρ1, d, ρ', fp1, R1, e, fun w H2 fp2 fr2 R2 r2 n2 c2 => k w H2 fp2 fr2 R2 r2 n2 (chg_from c1 c2)⟩
  · cases e
theorem je_one {op} (h : JE X a m) : JE X (.BoolOp op [a] pos) m := pe_one h
def notD : D → Option D
  | .bl b => some (.bl (!b))
  | _ => none
theorem je_not (ha : JE X a m) : JE X (.UnaryOp .Not a pos) (eUn notD m) := pe_imp (pe_not ha) fun σ H Q => by
  rintro ⟨ρ, d, ρ', fp, R, e, k⟩
  unfold eUn at e
  split at e
  · rename_i d1 ρ1 e1
    split at e
    · rename_i d2 e2
      cases e
      cases d1 <;> cases e2
      refine ⟨ρ, _, ρ', fp, R, e1, fun v H1 fp1 fr R1 r n c1 => ?_⟩
      cases r
      exact ⟨_, rfl, k _ H1 fp1 [] R1 (.bl _) n c1⟩
    · cases e
  · cases e
def eIf (t : MT) (m1 m2 : ME) : ME := fun ρ => match t ρ with
  | some (true, ρ1) => m1 ρ1
  | some (false, ρ1) => m2 ρ1
  | none => none
theorem je_if (ht : JT X c t) (ha : JE X a m1) (hb : JE X b m2) : JE X (.IfExp c a b pos) (eIf t m1 m2) := pe_imp (pe_ifExp ht ha hb) fun σ H Q => by
  rintro ⟨ρ, d, ρ', fp, R, e, k⟩
  unfold eIf at e
  split at e
  · rename_i ρ1 e1
    refine ⟨ρ, true, ρ1, fp, R, e1, fun H1 fp1 R1 c1 => ?_⟩
    refine iteT ?_
    exact ⟨ρ1, d, ρ', fp1, R1, e, fun w H2 fp2 fr2 R2 r2 n2 c2 => k w H2 fp2 fr2 R2 r2 n2 (c1.trans c2 fun a m => m)⟩
  · rename_i ρ1 e1
    refine ⟨ρ, false, ρ1, fp, R, e1, fun H1 fp1 R1 c1 => ?_⟩
    refine iteF ?_
    exact ⟨ρ1, d, ρ', fp1, R1, e, fun w H2 fp2 fr2 R2 r2 n2 c2 => k w H2 fp2 fr2 R2 r2 n2 (c1.trans c2 fun a m => m)⟩
  · cases e
end
end Bv

namespace Bv
open PySem PySem.Spec PyProof.Rows L2

/-! ### lists of expressions -/
def evs : List ME → Env → Option (List D × Env)
  | [], ρ => some ([], ρ)
  | m :: ms, ρ => match m ρ with
    | some (d, ρ1) => (match evs ms ρ1 with
      | some (ds, ρ2) => some (d :: ds, ρ2)
      | none => none)
    | none => none
def evp : List MP → Env → Option (List D)
  | [], _ => some []
  | p :: ps, ρ => match p ρ with
    | some d => (match evp ps ρ with
      | some ds => some (d :: ds)
      | none => none)
    | none => none
inductive Arg where
  | val (m : ME) | bor (i : Nat)
def evArgs : List Arg → Env → Option (List (D ⊕ Nat) × Env)
  | [], ρ => some ([], ρ)
  | .val m :: as, ρ => (match m ρ with
    | some (d, ρ1) => (match evArgs as ρ1 with
      | some (ds, ρ2) => some (.inl d :: ds, ρ2)
      | none => none)
    | none => none)
  | .bor i :: as, ρ => (match nth ρ i with
    | some _ => (match evArgs as ρ with
      | some (ds, ρ2) => some (.inr i :: ds, ρ2)
      | none => none)
    | none => none)
inductive RepA (K : PySem.W.Frag) (H : Hp) (σ : L2.St) : List V → List (D ⊕ Nat) → List Addr → Prop
  | nil : RepA K H σ [] [] []
  | val {v : V} {vs : List V} {d : D} {as : List (D ⊕ Nat)} {f fp : List Addr} : Rep K H v d f → RepA K H σ vs as fp → RepA K H σ (v :: vs) (.inl d :: as) (f ++ fp)
  | bor {v : V} {vs : List V} {i : Nat} {as : List (D ⊕ Nat)} {fp : List Addr} : σ[i]? = some (some v) → RepA K H σ vs as fp → RepA K H σ (v :: vs) (.inr i :: as) fp
def tMs (K : PySem.W.Frag) (ms : List ME) : TA := fun σ H Q => ∃ ρ ds ρ' fp, Rel K H σ ρ fp ∧ evs ms ρ = some (ds, ρ') ∧
  ∀ vs H' fp' fr, Rel K H' σ ρ' fp' → Reps K H' vs ds fr → (fr ++ fp').Nodup → Chg H H' fp (fr ++ fp') → Q vs H'
def tPs (K : PySem.W.Frag) (ps : List MP) : TA := fun σ H Q => ∃ ρ ds fp, Rel K H σ ρ fp ∧ evp ps ρ = some ds ∧ ∀ vs H' fr, Same H H' → Reps K H' vs ds fr → Q vs H'
def tA (K : PySem.W.Frag) (as : List Arg) : TA := fun σ H Q => ∃ ρ ds ρ' fp, Rel K H σ ρ fp ∧ evArgs as ρ = some (ds, ρ') ∧
  ∀ vs H' fp' fr, Rel K H' σ ρ' fp' → RepA K H' σ vs ds fr → (fr ++ fp').Nodup → Chg H H' fp (fr ++ fp') → Q vs H'
abbrev JMs (X : Cx) (es : List Expr) (ms : List ME) : Prop := PA X es (tMs X.K ms)
abbrev JPs (X : Cx) (es : List Expr) (ps : List MP) : Prop := PA X es (tPs X.K ps)
abbrev JA (X : Cx) (es : List Expr) (as : List Arg) : Prop := PA X es (tA X.K as)
section
variable {X : Cx} {e a b : Expr} {es : List Expr} {m m1 m2 : ME} {p p1 p2 : MP} {ms : List ME} {ps : List MP} {as : List Arg} {pos : Pos} {io : List Nat}
theorem jms_nil : JMs X [] [] := pa_imp pa_nil fun σ H Q => by
  rintro ⟨ρ, ds, ρ', fp, R, e, k⟩
  cases e
  exact k [] H fp [] R .nil R.nodup Chg.refl
theorem jps_nil : JPs X [] [] := pa_imp pa_nil fun σ H Q => by
  rintro ⟨ρ, ds, fp, R, e, k⟩
  cases e
  exact k [] H [] (Same.refl H) .nil
theorem ja_nil : JA X [] [] := pa_imp pa_nil fun σ H Q => by
  rintro ⟨ρ, ds, ρ', fp, R, e, k⟩
  cases e
  exact k [] H fp [] R .nil R.nodup Chg.refl
theorem chg_two {H H1 H2 : Hp} {A f1 A1 f2 B : List Addr} (c1 : Chg H H1 A (f1 ++ A1)) (c2 : Chg H1 H2 A1 (f2 ++ B)) : Chg H H2 A ((f1 ++ f2) ++ B) := by
  refine ⟨(c1.trans c2 fun a m => List.mem_append_right _ m).keep, fun b m => ?_⟩
  rw [List.append_assoc] at m
  rcases List.mem_append.mp m with m | m
  · exact c1.new b (List.mem_append_left _ m)
  · exact (c1.trans c2 fun a m => List.mem_append_right _ m).new b m
theorem nd_two {H1 H2 : Hp} {f1 A1 f2 B : List Addr} (n1 : (f1 ++ A1).Nodup) (hf : ∀ a ∈ f1, Mb (H1 a)) (c2 : Chg H1 H2 A1 (f2 ++ B)) (n2 : (f2 ++ B).Nodup) : ((f1 ++ f2) ++ B).Nodup := by
  rw [List.append_assoc]
  exact nd_aside c2 hf n1 n2
theorem jms_cons (ha : JE X e m) (hr : JMs X es ms) (hs : starEach (e :: es) X.env = (false, eval e X.env) :: starEach es X.env := by rfl) : JMs X (e :: es) (m :: ms) := pa_imp (pa_cons ha hr hs) fun σ H Q => by
  rintro ⟨ρ, ds, ρ', fp, R, e, k⟩
  unfold evs at e
  split at e
  · rename_i d ρ1 e1
    split at e
    · rename_i ds2 ρ2 e2
      cases e
      refine ⟨ρ, d, ρ1, fp, R, e1, fun v H1 fp1 fr1 R1 r1 n1 c1 => ?_⟩
      refine ⟨ρ1, ds2, ρ', fp1, R1, e2, fun vs H2 fp2 fr2 R2 r2 n2 c2 => ?_⟩
      exact k (v :: vs) H2 fp2 (fr1 ++ fr2) R2 (.cons (rep_aside r1 c2 R1.mb n1) r2) (nd_two n1 (Rep.mb _ _ _ r1) c2 n2) (chg_two c1 c2)
    · cases e
  · cases e
theorem jps_cons (ha : JP X e p) (hr : JPs X es ps) (hs : starEach (e :: es) X.env = (false, eval e X.env) :: starEach es X.env := by rfl) : JPs X (e :: es) (p :: ps) := pa_imp (pa_cons ha hr hs) fun σ H Q => by
  rintro ⟨ρ, ds, fp, R, e, k⟩
  unfold evp at e
  split at e
  · rename_i d e1
    split at e
    · rename_i ds2 e2
      cases e
      refine ⟨ρ, d, fp, R, e1, fun v H1 fr1 s1 r1 => ?_⟩
      refine ⟨ρ, ds2, fp, R.same s1, e2, fun vs H2 fr2 s2 r2 => ?_⟩
      exact k (v :: vs) H2 (fr1 ++ fr2) (s1.trans s2) (.cons (r1.same s2) r2)
    · cases e
  · cases e
theorem ja_val (ha : JE X e m) (hr : JA X es as) (hs : starEach (e :: es) X.env = (false, eval e X.env) :: starEach es X.env := by rfl) : JA X (e :: es) (.val m :: as) := pa_imp (pa_cons ha hr hs) fun σ H Q => by
  rintro ⟨ρ, ds, ρ', fp, R, e, k⟩
  unfold evArgs at e
  split at e
  · rename_i d ρ1 e1
    split at e
    · rename_i ds2 ρ2 e2
      cases e
      refine ⟨ρ, d, ρ1, fp, R, e1, fun v H1 fp1 fr1 R1 r1 n1 c1 => ?_⟩
      refine ⟨ρ1, ds2, ρ', fp1, R1, e2, fun vs H2 fp2 fr2 R2 r2 n2 c2 => ?_⟩
      exact k (v :: vs) H2 fp2 (fr1 ++ fr2) R2 (.val (rep_aside r1 c2 R1.mb n1) r2) (nd_two n1 (Rep.mb _ _ _ r1) c2 n2) (chg_two c1 c2)
    · cases e
  · cases e
theorem ja_bor' {i : Nat} (ha : PE X e (tVar i)) (hr : JA X es as) (hs : starEach (e :: es) X.env = (false, eval e X.env) :: starEach es X.env := by rfl) : JA X (e :: es) (.bor i :: as) := pa_imp (pa_cons ha hr hs) fun σ H Q => by
  rintro ⟨ρ, ds, ρ', fp, R, e, k⟩
  unfold evArgs at e
  split at e
  · rename_i d e1
    split at e
    · rename_i ds2 ρ2 e2
      cases e
      obtain ⟨v, f, es, r, _⟩ := R.get (nth_some e1)
      refine ⟨v, es, ρ, ds2, ρ', fp, R, e2, fun vs H2 fp2 fr2 R2 r2 n2 c2 => ?_⟩
      exact k (v :: vs) H2 fp2 fr2 R2 (.bor es r2) n2 c2
    · cases e
  · cases e
theorem ja_bor (i : Nat) {x : Str} (hr : JA X es as) (hN : X.N[i]? = some x := by rfl) (hv : Vis X.env.scope x := by first | exact Or.inl rfl | exact Or.inr (Or.inl rfl) | exact Or.inr (Or.inr rfl)) (hd : (x == ("__debug__" : Str)) = false := by decide)
    (hcd : (x == ("__classdict__" : Str)) = false := by decide) (hs : starEach (.Name x pos :: es) X.env = (false, eval (.Name x pos) X.env) :: starEach es X.env := by rfl) : JA X (.Name x pos :: es) (.bor i :: as) :=
  ja_bor' (pe_var hN hv hd hcd) hr hs

/-! ### displays -/
def eTup (ms : List ME) : ME := fun ρ => match evs ms ρ with
  | some (ds, ρ') => some (.tup ds, ρ')
  | none => none
def eLst (ms : List ME) : ME := fun ρ => match evs ms ρ with
  | some (ds, ρ') => some (.lst ds, ρ')
  | none => none
def pTup (ps : List MP) : MP := fun ρ => match evp ps ρ with
  | some ds => some (.tup ds)
  | none => none
theorem evs_len : ∀ {ms : List ME} {ρ ρ' : Env} {ds : List D}, evs ms ρ = some (ds, ρ') → ds.length = ms.length
  | [], ρ, ρ', ds, h => by cases h; rfl
  | m :: ms, ρ, ρ', ds, h => by
    unfold evs at h
    split at h
    · split at h
      · rename_i e2
        cases h
        rw [List.length_cons, List.length_cons, evs_len e2]
      · cases h
    · cases h
theorem evp_len : ∀ {ms : List MP} {ρ : Env} {ds : List D}, evp ms ρ = some ds → ds.length = ms.length
  | [], ρ, ds, h => by cases h; rfl
  | m :: ms, ρ, ds, h => by
    unfold evp at h
    split at h
    · split at h
      · rename_i e2
        cases h
        rw [List.length_cons, List.length_cons, evp_len e2]
      · cases h
    · cases h
theorem same_upd {H : Hp} {p : Addr} {o : HO} (h : H p = none) : Same H (upd H p o) := fun b x e => by
  rw [upd_ne (ne_of_none e h)]
  exact e
theorem szl {n : Nat} (h : n ≤ 16777216) : n ≤ sizeLine := by rw [sizeLine_eq]; exact h
theorem chg_upd {H H1 : Hp} {A fr fp : List Addr} {q : Addr} {o : HO} (c : Chg H H1 A (fr ++ fp)) (n : H1 q = none) : Chg H (upd H1 q o) A ((q :: fr) ++ fp) := by
  refine ⟨fun b x e h => same_upd n b x (c.keep b x e h), fun b m => ?_⟩
  rcases List.mem_cons.mp m with e | m
  · subst e
    by_cases hb : b ∈ A
    · exact .inl hb
    · refine .inr ?_
      cases z : H b with
      | none => rfl
      | some x => rw [c.keep b x z hb] at n; cases n
  · exact c.new b m
theorem je_tup {c} (h : JMs X es ms) (hl : ms.length ≤ 16777216 := by decide) : JE X (.Tuple es c pos) (eTup ms) := pe_imp (pe_tup h) fun σ H Q => by
  rintro ⟨ρ, d, ρ', fp, R, e, k⟩
  unfold eTup at e
  split at e
  · rename_i ds ρ1 e1
    cases e
    refine ⟨ρ, ds, ρ', fp, R, e1, fun vs H1 fp1 fr R1 r n c => ⟨?_, fun q hq => ?_⟩⟩
    · rw [r.length, evs_len e1]; exact szl hl
    · have s := same_upd (o := .tup vs) hq
      exact k _ _ fp1 fr (R1.same s) (.tup (.inl (.inl upd_same)) (r.same s)) n ((chg_upd c hq).sub fun a m => List.mem_cons_of_mem _ m)
  · cases e
theorem jp_tup {c} (h : JPs X es ps) (hl : ps.length ≤ 16777216 := by decide) : JP X (.Tuple es c pos) (pTup ps) := pe_imp (pe_tup h) fun σ H Q => by
  rintro ⟨ρ, d, fp, R, e, k⟩
  unfold pTup at e
  split at e
  · rename_i ds e1
    cases e
    refine ⟨ρ, ds, fp, R, e1, fun vs H1 fr s1 r => ⟨?_, fun q hq => ?_⟩⟩
    · rw [r.length, evp_len e1]; exact szl hl
    · have s := same_upd (o := .tup vs) hq
      exact k _ _ fr (s1.trans s) (.tup (.inl (.inl upd_same)) (r.same s))
  · cases e
theorem je_lst (h : JMs X es ms) (hl : ms.length ≤ 16777216 := by decide) : JE X (.List es pos) (eLst ms) := pe_imp (pe_lst h) fun σ H Q => by
  rintro ⟨ρ, d, ρ', fp, R, e, k⟩
  unfold eLst at e
  split at e
  · rename_i ds ρ1 e1
    cases e
    refine ⟨ρ, ds, ρ', fp, R, e1, fun vs H1 fp1 fr R1 r n c => ⟨?_, fun q hq => ?_⟩⟩
    · rw [r.length, evs_len e1]; exact szl hl
    · have s := same_upd (o := .lst vs) hq
      refine k _ _ fp1 (q :: fr) (R1.same s) (.lst upd_same (r.same s)) ?_ (chg_upd c hq)
      refine List.nodup_cons.mpr ⟨fun m => ?_, n⟩
      rcases List.mem_append.mp m with m | m
      · have := Reps.mb _ _ _ r q m
        rw [hq] at this; exact this
      · have := R1.mb q m
        rw [hq] at this; exact this
  · cases e

/-! ### built-in functions by values -/
def RLok (K : PySem.W.Frag) (r : List V → Hp → VK → Prop) (op : List D → Option D) : Prop := ∀ (xs : List V) (H : Hp) (Q : VK) (ds : List D) (d : D) (f : List Addr), Reps K H xs ds f → op ds = some d →
  (∀ v H' fr, Same H H' → Rep K H' v d fr → fr.Nodup → (∀ a ∈ fr, H a = none) → Q v H') → r xs H Q
def eB (op : List D → Option D) (ms : List ME) : ME := fun ρ => match evs ms ρ with
  | some (ds, ρ') => (match op ds with
    | some d => some (d, ρ')
    | none => none)
  | none => none
def pB (op : List D → Option D) (ps : List MP) : MP := fun ρ => match evp ps ρ with
  | some ds => op ds
  | none => none
theorem eB_t {r : List V → Hp → VK → Prop} {op : List D → Option D} (ok : RLok X.K r op) (σ : L2.St) (H : Hp) (Q : VK) (h : tM X.K (eB op ms) σ H Q) : tCB r (tMs X.K ms) σ H Q := by
  obtain ⟨ρ, d, ρ', fp, R, e, k⟩ := h
  unfold eB at e
  split at e
  · rename_i ds ρ1 e1
    split at e
    · rename_i d' e2
      cases e
      refine ⟨ρ, ds, ρ', fp, R, e1, fun vs H1 fp1 fr R1 r1 n c => ?_⟩
      exact ok vs H1 Q ds d fr r1 e2 fun v H' fr' s r' n' f => k v H' fp1 fr' (R1.same s) r' (nd_new R1 n' f) (c.trans (chg_new s f fun a m => List.mem_append_right fr m) fun a m => m)
    · cases e
  · cases e
theorem pB_t {r : List V → Hp → VK → Prop} {op : List D → Option D} (ok : RLok X.K r op) (σ : L2.St) (H : Hp) (Q : VK) (h : tP X.K (pB op ps) σ H Q) : tCB r (tPs X.K ps) σ H Q := by
  obtain ⟨ρ, d, fp, R, e, k⟩ := h
  unfold pB at e
  split at e
  · rename_i ds e1
    exact ⟨ρ, ds, fp, R, e1, fun vs H1 fr s1 r1 => ok vs H1 Q ds d fr r1 e fun v H' fr' s r' n' f => k v H' fr' (s1.trans s) r'⟩
  · cases e
section
variable {x : Str} {id T : String} {r : List V → Hp → VK → Prop} {op : List D → Option D} {px : Pos}
theorem je_b (hc : CallR X (.builtin id) r) (ok : RLok X.K r op) (hg : Gl X x) (hm : X.mg x = none) (hv : bootBuiltins x = some (.builtin id)) (ha : JMs X (e :: es) ms) (hn : x ≠ "__name__" := by decide) (hdb : (x == ("__debug__" : Str)) = false := by decide)
    (he : starEach (e :: es) X.env = (false, eval e X.env) :: starEach es X.env := by rfl) (hpl : (backTo pos (starEach es X.env)).any (·.1) = false := by rfl) : JE X (.Call (.Name x px) (e :: es) [] pos) (eB op ms) :=
  pe_imp (pe_callB hc hg hm hv ha hn hdb he hpl) (eB_t ok)
theorem jp_b (hc : CallR X (.builtin id) r) (ok : RLok X.K r op) (hg : Gl X x) (hm : X.mg x = none) (hv : bootBuiltins x = some (.builtin id)) (ha : JPs X (e :: es) ps) (hn : x ≠ "__name__" := by decide) (hdb : (x == ("__debug__" : Str)) = false := by decide)
    (he : starEach (e :: es) X.env = (false, eval e X.env) :: starEach es X.env := by rfl) (hpl : (backTo pos (starEach es X.env)).any (·.1) = false := by rfl) : JP X (.Call (.Name x px) (e :: es) [] pos) (pB op ps) :=
  pe_imp (pe_callB hc hg hm hv ha hn hdb he hpl) (pB_t ok)
theorem je_ty (hc : CallR X (.type T) r) (ok : RLok X.K r op) (hg : Gl X x) (hm : X.mg x = none) (hv : bootBuiltins x = some (.type T)) (ha : JMs X (e :: es) ms) (hn : x ≠ "__name__" := by decide) (hdb : (x == ("__debug__" : Str)) = false := by decide)
    (he : starEach (e :: es) X.env = (false, eval e X.env) :: starEach es X.env := by rfl) (hpl : (backTo pos (starEach es X.env)).any (·.1) = false := by rfl) : JE X (.Call (.Name x px) (e :: es) [] pos) (eB op ms) :=
  pe_imp (pe_callTy hc hg hm hv ha hn hdb he hpl) (eB_t ok)
theorem jp_ty (hc : CallR X (.type T) r) (ok : RLok X.K r op) (hg : Gl X x) (hm : X.mg x = none) (hv : bootBuiltins x = some (.type T)) (ha : JPs X (e :: es) ps) (hn : x ≠ "__name__" := by decide) (hdb : (x == ("__debug__" : Str)) = false := by decide)
    (he : starEach (e :: es) X.env = (false, eval e X.env) :: starEach es X.env := by rfl) (hpl : (backTo pos (starEach es X.env)).any (·.1) = false := by rfl) : JP X (.Call (.Name x px) (e :: es) [] pos) (pB op ps) :=
  pe_imp (pe_callTy hc hg hm hv ha hn hdb he hpl) (pB_t ok)
/-- .. a pure call whose result is a new list: owned -/
theorem je_tyP (hc : CallR X (.type T) r) (ok : RLok X.K r op) (hg : Gl X x) (hm : X.mg x = none) (hv : bootBuiltins x = some (.type T)) (ha : JPs X (e :: es) ps) (hn : x ≠ "__name__" := by decide) (hdb : (x == ("__debug__" : Str)) = false := by decide)
    (he : starEach (e :: es) X.env = (false, eval e X.env) :: starEach es X.env := by rfl) (hpl : (backTo pos (starEach es X.env)).any (·.1) = false := by rfl) : JE X (.Call (.Name x px) (e :: es) [] pos) (ePure (pB op ps)) :=
  pe_imp (pe_callTy hc hg hm hv ha hn hdb he hpl) fun σ H Q => by
    rintro ⟨ρ, d, ρ', fp, R, e, k⟩
    unfold ePure at e
    split at e
    · rename_i d' e0
      cases e
      unfold pB at e0
      split at e0
      · rename_i ds e1
        exact ⟨ρ, ds, fp, R, e1, fun vs H1 fr s1 r1 => ok vs H1 Q ds d fr r1 e0 fun v H' fr' s r' n' f =>
          k v H' fp fr' ((R.same s1).same s) r' (nd_new (R.same s1) n' f) ((Chg.same s1).trans (chg_new s f fun a m => m) fun a m => m)⟩
      · cases e0
    · cases e
theorem je_bP (hc : CallR X (.builtin id) r) (ok : RLok X.K r op) (hg : Gl X x) (hm : X.mg x = none) (hv : bootBuiltins x = some (.builtin id)) (ha : JPs X (e :: es) ps) (hn : x ≠ "__name__" := by decide) (hdb : (x == ("__debug__" : Str)) = false := by decide)
    (he : starEach (e :: es) X.env = (false, eval e X.env) :: starEach es X.env := by rfl) (hpl : (backTo pos (starEach es X.env)).any (·.1) = false := by rfl) : JE X (.Call (.Name x px) (e :: es) [] pos) (ePure (pB op ps)) :=
  pe_imp (pe_callB hc hg hm hv ha hn hdb he hpl) fun σ H Q => by
    rintro ⟨ρ, d, ρ', fp, R, e, k⟩
    unfold ePure at e
    split at e
    · rename_i d' e0
      cases e
      unfold pB at e0
      split at e0
      · rename_i ds e1
        exact ⟨ρ, ds, fp, R, e1, fun vs H1 fr s1 r1 => ok vs H1 Q ds d fr r1 e0 fun v H' fr' s r' n' f =>
          k v H' fp fr' ((R.same s1).same s) r' (nd_new (R.same s1) n' f) ((Chg.same s1).trans (chg_new s f fun a m => m) fun a m => m)⟩
      · cases e0
    · cases e
end

/-! ### calls of the text's own defs -/
def resolve : List (D ⊕ Nat) → Env → Option (List D × Env)
  | [], ρ => some ([], ρ)
  | .inl d :: as, ρ => (match resolve as ρ with
    | some (ds, ρ') => some (d :: ds, ρ')
    | none => none)
  | .inr i :: as, ρ => (match nth ρ i with
    | some d => (match resolve as (if noList d then ρ else ρ.set i none) with
      | some (ds, ρ') => some (d :: ds, ρ')
      | none => none)
    | none => none)
def putBack : List (D ⊕ Nat) → List D → Env → Env
  | .inl _ :: as, _ :: ds, ρ => putBack as ds ρ
  | .inr i :: as, d :: ds, ρ => putBack as ds (ρ.set i (some d))
  | _, _, ρ => ρ
def eCall (f : List D → Option (D × List D)) (as : List Arg) : ME := fun ρ => match evArgs as ρ with
  | some (ds, ρ1) => (match resolve ds ρ1 with
    | some (xs, ρ2) => (match f xs with
      | some (r, xs') => some (r, putBack ds xs' ρ2)
      | none => none)
    | none => none)
  | none => none
/-- a def's promise by a function of its arguments: its value, and what the arguments contain behind -/
def spM (K : PySem.W.Frag) (n : Nat) (m : List D → Option (D × List D)) : Sp := fun vs H Q _ => ∃ ds r ds' fp, Reps K H vs ds fp ∧ fp.Nodup ∧ vs.length = n ∧ m ds = some (r, ds') ∧
  ∀ v H' fr fq, Rep K H' v r fr → Reps K H' vs ds' fq → (fr ++ fq).Nodup → Chg H H' fp (fr ++ fq) → Q v H'
theorem resolve_ok {K : PySem.W.Frag} {H : Hp} {σ : L2.St} : ∀ (as : List (D ⊕ Nat)) (ρ : Env) (fp : List Addr) (vs : List V) (fr : List Addr) (ds : List D) (ρ' : Env), Rel K H σ ρ fp → RepA K H σ vs as fr → (fr ++ fp).Nodup → resolve as ρ = some (ds, ρ') →
    ∃ fq fp', Reps K H vs ds fq ∧ Rel K H σ ρ' fp' ∧ (fq ++ fp').Nodup ∧ ∀ a, a ∈ fq ++ fp' → a ∈ fr ++ fp
  | [], ρ, fp, vs, fr, ds, ρ', R, r, n, e => by
    cases e
    cases r
    exact ⟨[], fp, .nil, R, n, fun a m => m⟩
  | .inl d :: as, ρ, fp, vs, fr, ds, ρ', R, r, n, e => by
    unfold resolve at e
    split at e
    · rename_i ds2 ρ2 e2
      cases e
      cases r with
      | @val v vs _ _ f fq rd ra =>
        rw [List.append_assoc] at n
        have n1 := List.nodup_append.mp n
        obtain ⟨gq, gp, q1, q2, q3, q4⟩ := resolve_ok as ρ fp vs fq ds2 ρ' R ra n1.2.1 e2
        refine ⟨f ++ gq, gp, .cons rd q1, q2, ?_, fun a m => ?_⟩
        · rw [List.append_assoc]
          exact List.nodup_append.mpr ⟨n1.1, q3, fun a ha b hb => n1.2.2 a ha b (q4 b hb)⟩
        · rw [List.append_assoc] at m ⊢
          rcases List.mem_append.mp m with m | m
          · exact List.mem_append_left _ m
          · exact List.mem_append_right _ (q4 a m)
    · cases e
  | .inr i :: as, ρ, fp, vs, fr, ds, ρ', R, r, n, e => by
    unfold resolve at e
    split at e
    · rename_i d en
      split at e
      · rename_i ds2 ρ2 e2
        cases e
        cases r with
        | @bor v vs _ _ _ hv ra =>
          obtain ⟨v', f, gq, e1, rd, R', n', s⟩ := R.take (nth_some en)
          have ev : v' = v := by rw [hv] at e1; exact (Option.some.inj (Option.some.inj e1)).symm
          subst ev
          by_cases hn : noList d = true
          · rw [if_pos hn] at e2
            obtain ⟨hq, hp, q1, q2, q3, q4⟩ := resolve_ok as ρ fp vs fr ds2 ρ' R ra n e2
            exact ⟨[] ++ hq, hp, .cons (rep_none rd hn) q1, q2, q3, q4⟩
          · rw [if_neg hn] at e2
            have n1 := List.nodup_append.mp n
            have n2 := List.nodup_append.mp n'
            have sub : ∀ a, a ∈ gq → a ∈ fp := fun a m => (s a).mpr (List.mem_append_right _ m)
            have subf : ∀ a, a ∈ f → a ∈ fp := fun a m => (s a).mpr (List.mem_append_left _ m)
            obtain ⟨hq, hp, q1, q2, q3, q4⟩ := resolve_ok as (ρ.set i none) gq vs fr ds2 ρ' R' ra (List.nodup_append.mpr ⟨n1.1, n2.2.1, fun a ha b hb => n1.2.2 a ha b (sub b hb)⟩) e2
            refine ⟨f ++ hq, hp, .cons rd q1, q2, ?_, fun a m => ?_⟩
            · rw [List.append_assoc]
              refine List.nodup_append.mpr ⟨n2.1, q3, fun a ha b hb => ?_⟩
              rcases List.mem_append.mp (q4 b hb) with m | m
              · exact fun e => n1.2.2 b m a (subf a ha) e.symm
              · exact n2.2.2 a ha b m
            · rw [List.append_assoc] at m
              rcases List.mem_append.mp m with m | m
              · exact List.mem_append_right _ (subf a m)
              · rcases List.mem_append.mp (q4 a m) with m | m
                · exact List.mem_append_left _ m
                · exact List.mem_append_right _ (sub a m)
      · cases e
    · cases e
theorem putBack_ok {K : PySem.W.Frag} {H0 H : Hp} {σ : L2.St} : ∀ (as : List (D ⊕ Nat)) (ρ : Env) (fp : List Addr) (vs : List V) (fr : List Addr) (ds : List D) (fq : List Addr), Rel K H σ ρ fp → RepA K H0 σ vs as fr → Reps K H vs ds fq → (fq ++ fp).Nodup →
    ∃ fp', Rel K H σ (putBack as ds ρ) fp' ∧ ∀ a ∈ fp', a ∈ fq ++ fp
  | [], ρ, fp, vs, fr, ds, fq, R, ra, r, n => by
    cases ra
    cases r
    exact ⟨fp, R, fun a m => m⟩
  | .inl d :: as, ρ, fp, vs, fr, ds, fq, R, ra, r, n => by
    cases ra with
    | val _ ra =>
      cases r with
      | @cons v vs d' ds f fq rd rs =>
        rw [List.append_assoc] at n
        obtain ⟨gp, q1, q2⟩ := putBack_ok as ρ fp _ _ ds fq R ra rs (List.nodup_append.mp n).2.1
        exact ⟨gp, q1, fun a m => by rw [List.append_assoc]; exact List.mem_append_right _ (q2 a m)⟩
  | .inr i :: as, ρ, fp, vs, fr, ds, fq, R, ra, r, n => by
    cases ra with
    | bor hv ra =>
      cases r with
      | @cons v vs d' ds f fq rd rs =>
        rw [List.append_assoc] at n
        have n1 := List.nodup_append.mp n
        have n2 := List.nodup_append.mp n1.2.1
        obtain ⟨hp, R2, s2⟩ := R.put' hv rd (List.nodup_append.mpr ⟨n1.1, n2.2.1, fun a ha b hb => n1.2.2 a ha b (List.mem_append_right _ hb)⟩)
        obtain ⟨gp, q1, q2⟩ := putBack_ok as (ρ.set i (some d')) hp _ _ ds fq R2 ra rs (List.nodup_append.mpr ⟨n2.1, R2.nodup, fun a ha b hb => by
          rcases List.mem_append.mp (s2 b hb) with m | m
          · exact fun e => n1.2.2 b m a (List.mem_append_left _ ha) e.symm
          · exact n2.2.2 a ha b m⟩)
        refine ⟨gp, q1, fun a m => ?_⟩
        rw [List.append_assoc]
        rcases List.mem_append.mp (q2 a m) with m | m
        · exact List.mem_append_right _ (List.mem_append_left _ m)
        · rcases List.mem_append.mp (s2 a m) with m | m
          · exact List.mem_append_left _ m
          · exact List.mem_append_right _ (List.mem_append_right _ m)
theorem eCall_t {K : PySem.W.Frag} {n : Nat} {mf : List D → Option (D × List D)} (σ : L2.St) (H : Hp) (Q : VK) (hlen : ∀ (vs : List V) (ds : List (D ⊕ Nat)) (H : Hp) (fr : List Addr), (∃ ρ ρ', evArgs as ρ = some (ds, ρ')) → RepA K H σ vs ds fr → vs.length = n)
    (h : tM K (eCall mf as) σ H Q) : tCall (spM K n mf) [] E0 (tA K as) σ H Q := by
  obtain ⟨ρ, d, ρ', fp, R, e, k⟩ := h
  unfold eCall at e
  split at e
  · rename_i ds ρ1 e1
    split at e
    · rename_i xs ρ2 e2
      split at e
      · rename_i r xs' e3
        cases e
        refine ⟨ρ, ds, ρ1, fp, R, e1, fun vs H1 fp1 fr R1 ra n1 c1 => ?_⟩
        obtain ⟨fq, fp2, rs, R2, n2, s2⟩ := resolve_ok ds ρ1 fp1 vs fr xs ρ2 R1 ra n1 e2
        have nq := List.nodup_append.mp n2
        have mbq : ∀ a ∈ fq, Mb (H1 a) := Reps.mb _ _ _ rs
        rw [List.append_nil]
        refine ⟨xs, d, xs', fq, rs, nq.1, hlen vs ds H1 fr ⟨ρ, ρ1, e1⟩ ra, e3, fun v H2 fr' fq' r' rs' n' c2 => ?_⟩
        have n2' : (fp2 ++ fq).Nodup := List.nodup_append.mpr ⟨nq.2.1, nq.1, fun a ha b hb e => nq.2.2 b hb a ha e.symm⟩
        have R3 : Rel K H2 σ ρ2 fp2 := R2.keep mbq c2.keep fun a m z => nq.2.2 a z a m rfl
        have n3 : (fp2 ++ (fr' ++ fq')).Nodup := nd_aside c2 R2.mb n2' n'
        have n4 := List.nodup_append.mp n3
        have n5 := List.nodup_append.mp n'
        obtain ⟨fp3, R4, s4⟩ := putBack_ok ds ρ2 fp2 vs fr xs' fq' R3 ra rs' (List.nodup_append.mpr ⟨n5.2.1, n4.1, fun a ha b hb e => n4.2.2 b hb a (List.mem_append_right _ ha) e.symm⟩)
        refine k v H2 fp3 fr' R4 r' (List.nodup_append.mpr ⟨n5.1, R4.nodup, fun a ha b hb => ?_⟩) ?_
        · rcases List.mem_append.mp (s4 b hb) with m | m
          · exact n5.2.2 a ha b m
          · exact fun e => n4.2.2 b m a (List.mem_append_left _ ha) e.symm
        · refine ⟨fun b o e h => ?_, fun b m => ?_⟩
          · refine c2.keep b o (c1.keep b o e h) fun z => ?_
            rcases c1.new b (s2 b (List.mem_append_left _ z)) with q | q
            · exact h q
            · rw [q] at e; cases e
          · have old : ∀ a, a ∈ fq ++ fp2 → a ∈ fp ∨ H a = none := fun a m => c1.new a (s2 a m)
            have nw : ∀ a, a ∈ fr' ++ fq' → a ∈ fp ∨ H a = none := fun a m => by
              rcases c2.new a m with q | q
              · exact old a (List.mem_append_left _ q)
              · by_cases ha : a ∈ fp
                · exact .inl ha
                · refine .inr ?_
                  cases z : H a with
                  | none => rfl
                  | some x => rw [c1.keep a x z ha] at q; cases q
            rcases List.mem_append.mp m with m | m
            · exact nw b (List.mem_append_left _ m)
            · rcases List.mem_append.mp (s4 b m) with m | m
              · exact nw b (List.mem_append_right _ m)
              · exact old b (List.mem_append_right _ m)
      · cases e
    · cases e
  · cases e
theorem evArgs_len : ∀ {as : List Arg} {ρ ρ' : Env} {ds : List (D ⊕ Nat)}, evArgs as ρ = some (ds, ρ') → ds.length = as.length
  | [], ρ, ρ', ds, h => by cases h; rfl
  | .val m :: ms, ρ, ρ', ds, h => by
    unfold evArgs at h
    split at h
    · split at h
      · rename_i e2
        cases h
        rw [List.length_cons, List.length_cons, evArgs_len e2]
      · cases h
    · cases h
  | .bor i :: ms, ρ, ρ', ds, h => by
    unfold evArgs at h
    split at h
    · split at h
      · rename_i e2
        cases h
        rw [List.length_cons, List.length_cons, evArgs_len e2]
      · cases h
    · cases h
theorem RepA.length {K : PySem.W.Frag} {H : Hp} {σ : L2.St} {vs : List V} {ds : List (D ⊕ Nat)} {fr : List Addr} (h : RepA K H σ vs ds fr) : vs.length = ds.length := by
  induction h with
  | nil => rfl
  | val _ _ ih => rw [List.length_cons, List.length_cons, ih]
  | bor _ _ ih => rw [List.length_cons, List.length_cons, ih]
/-- a def that keeps the promise of m -/
abbrev FOk (P : Program) (w : World) (K : PySem.W.Frag) (mg : Str → Option Value) (base : Heap) (k : Nat) (f : Addr) (fd : FuncData) (ps : List Str) (m : List D → Option (D × List D)) : Prop := FnOk P w K mg base CX0 k f fd ps (spM K ps.length m)
section
variable {k j : Nat} {f : Addr} {fd : FuncData} {prm : List Str} {mf : List D → Option (D × List D)} {x : Str} {px : Pos}
theorem je_call (F : FOk X.prog X.w X.K X.mg X.base k f fd prm mf) (hr : Room k X.A) (hg : Gl X x) (hm : X.mg x = some (.ref f)) (hk : PySem.W.keepIn X.K (.ref f) = true) (hb : Binds X.K fd prm []) (ha : JA X (e :: es) as) (hl : as.length = prm.length := by rfl)
    (hdb : (x == ("__debug__" : Str)) = false := by decide) (he : starEach (e :: es) X.env = (false, eval e X.env) :: starEach es X.env := by rfl) (hpl : (backTo pos (starEach es X.env)).any (·.1) = false := by rfl) :
    JE X (.Call (.Name x px) (e :: es) [] pos) (eCall mf as) :=
  pe_imp (pe_call F hr hg hm hk hb .nil pass0 ha hdb he hpl) fun σ H Q h => eCall_t σ H Q (fun vs ds H fr ⟨ρ, ρ', e⟩ r => by rw [r.length, evArgs_len e, hl]) h
theorem je_call0 (F : FOk X.prog X.w X.K X.mg X.base k f fd [] mf) (hr : Room k X.A) (hg : Gl X x) (hm : X.mg x = some (.ref f)) (hk : PySem.W.keepIn X.K (.ref f) = true) (hb : Binds X.K fd [] []) (hdb : (x == ("__debug__" : Str)) = false := by decide) :
    JE X (.Call (.Name x px) [] [] pos) (eCall mf []) :=
  pe_imp (pe_call0 F hr hg hm hk hb .nil pass0 hdb) fun σ H Q h => by
    have h' := eCall_t (n := 0) σ H Q (fun vs ds H fr ⟨ρ, ρ', e⟩ r => by rw [r.length, evArgs_len e]; rfl) h
    obtain ⟨ρ, ds, ρ', fp, R, e, k⟩ := h'
    cases e
    exact k [] H fp [] R .nil R.nodup Chg.refl
/-- a pure call: of data without lists, to such -/
def pCall (mf : List D → Option (D × List D)) (ps : List MP) : MP := fun ρ => match evp ps ρ with
  | some ds => if noLists ds then (match mf ds with
    | some (r, _) => if noList r then some r else none
    | none => none) else none
  | none => none
theorem jp_call (F : FOk X.prog X.w X.K X.mg X.base k f fd prm mf) (hr : Room k X.A) (hg : Gl X x) (hm : X.mg x = some (.ref f)) (hk : PySem.W.keepIn X.K (.ref f) = true) (hb : Binds X.K fd prm []) (ha : JPs X (e :: es) ps) (hl : ps.length = prm.length := by rfl)
    (hdb : (x == ("__debug__" : Str)) = false := by decide) (he : starEach (e :: es) X.env = (false, eval e X.env) :: starEach es X.env := by rfl) (hpl : (backTo pos (starEach es X.env)).any (·.1) = false := by rfl) :
    JP X (.Call (.Name x px) (e :: es) [] pos) (pCall mf ps) :=
  pe_imp (pe_call F hr hg hm hk hb .nil pass0 ha hdb he hpl) fun σ H Q => by
    rintro ⟨ρ, d, fp, R, e, k⟩
    unfold pCall at e
    split at e
    · rename_i ds e1
      split at e
      · rename_i hn
        split at e
        · rename_i r ds' e2
          split at e
          · rename_i hr'
            cases e
            refine ⟨ρ, ds, fp, R, e1, fun vs H1 fr s1 r1 => ?_⟩
            have z := Reps.nol ds vs fr r1 hn
            subst z
            show spM X.K prm.length mf (vs ++ []) H1 Q E0
            rw [List.append_nil]
            refine ⟨ds, d, ds', [], r1, List.nodup_nil, by rw [r1.length, evp_len e1, hl], e2, fun v H' fr' fq' r' _ _ c => ?_⟩
            exact k v H' fr' (s1.trans c.toSame) r'
          · cases e
        · cases e
      · cases e
    · cases e
end
end
end Bv

namespace Bv
open PySem PySem.Spec PyProof.Rows L2

/-! ### subscripts -/
def atS (z : Str) (i : Int) : Option D := if z.length ≤ 16777216 then (match atI z.cps.toList i with
  | some c => some (.str ⟨#[c]⟩)
  | none => none) else none
def ixD : D → D → Option D
  | .tup ds, .int i => atI ds i
  | .lst ds, .int i => atI ds i
  | .frz ds, .int i => atI ds i
  | .str z, .int i => atS z i
  | _, _ => none
section
variable {K : PySem.W.Frag} {H : Hp}
theorem Reps.getS : ∀ {ds : List D} {vs : List V} {fp : List Addr} {i : Nat} {d : D}, Reps K H vs ds fp → ds[i]? = some d → ∃ v f, vs[i]? = some v ∧ Rep K H v d f ∧ f.Sublist fp
  | [], _, _, i, d, h, e => by simp at e
  | d :: ds, _, _, 0, d', h, e => by
    cases h with
    | cons r rs =>
      have e' : d = d' := by simpa using e
      subst e'
      exact ⟨_, _, rfl, r, List.sublist_append_left _ _⟩
  | d :: ds, _, _, i + 1, d', h, e => by
    cases h with
    | cons r rs =>
      obtain ⟨v, f, e1, r1, s⟩ := Reps.getS (i := i) (d := d') rs (by simpa using e)
      exact ⟨v, f, by simpa using e1, r1, s.trans (List.sublist_append_right _ _)⟩
theorem Reps.atI {ds : List D} {vs : List V} {fp : List Addr} {i : Int} {d : D} (r : Reps K H vs ds fp) (e : atI ds i = some d) : ∃ v f, atI vs i = some v ∧ Rep K H v d f ∧ f.Sublist fp := by
  unfold L2.atI at e ⊢
  rw [r.length]
  cases z : ixN ds.length i with
  | none => rw [z] at e; cases e
  | some j =>
    rw [z] at e
    exact r.getS e
theorem ix_ok {x y : V} {d1 d2 d : D} {f1 f2 : List Addr} {Q : VK} (r1 : Rep K H x d1 f1) (r2 : Rep K H y d2 f2) (e : ixD d1 d2 = some d) (k : ∀ v f, Rep K H v d f → f.Sublist f1 → Q v H) : rIx K x y H Q := by
  cases d1 with
  | tup ds =>
    cases d2 with
    | int i =>
      cases r1 with
      | tup s r =>
        cases r2
        obtain ⟨v, f, e1, rv, sb⟩ := r.atI e
        exact .inr (.inl ⟨_, _, _, v, rfl, rfl, s, e1, k v f rv sb⟩)
    | _ => cases e
  | lst ds =>
    cases d2 with
    | int i =>
      cases r1 with
      | lst s r =>
        cases r2
        obtain ⟨v, f, e1, rv, sb⟩ := r.atI e
        exact .inl ⟨_, _, _, v, rfl, rfl, .inl (.inl s), e1, k v f rv (sb.trans (List.sublist_cons_self _ _))⟩
    | _ => cases e
  | frz ds =>
    cases d2 with
    | int i =>
      cases r1 with
      | frz s r =>
        cases r2
        obtain ⟨v, f, e1, rv, sb⟩ := r.atI e
        exact .inl ⟨_, _, _, v, rfl, rfl, s.sq, e1, k v f rv sb⟩
    | _ => cases e
  | str z =>
    cases d2 with
    | int i =>
      cases r1
      cases r2
      have e : atS z i = some d := e
      unfold atS at e
      split at e
      · rename_i hz
        split at e
        · rename_i c hc
          cases e
          exact .inr (.inr ⟨z, i, c, rfl, rfl, szl hz, hc, k _ [] (.str _) (List.nil_sublist _)⟩)
        · cases e
      · cases e
    | _ => cases e
  | _ => cases e
end
section
variable {X : Cx} {e a b o : Expr} {es : List Expr} {m m1 m2 : ME} {p p1 p2 : MP} {ms : List ME} {ps : List MP} {pos : Pos} {io : List Nat}
theorem jp_ix (ha : JP X a p1) (hb : JP X b p2) (hs : PlainIx b := by exact fun _ _ => rfl) : JP X (.Subscript a b pos) (pBin ixD p1 p2) := pe_imp (pe_ix ix_seq ha hb hs) fun σ H Q => by
  rintro ⟨ρ, d, fp, R, e, k⟩
  unfold pBin at e
  split at e
  · rename_i d1 e1
    split at e
    · rename_i d2 e2
      refine ⟨ρ, d1, fp, R, e1, fun x H1 fr1 s1 r1 => ?_⟩
      refine ⟨ρ, d2, fp, R.same s1, e2, fun y H2 fr2 s2 r2 => ?_⟩
      exact ix_ok (r1.same s2) r2 e fun v f r _ => k v H2 f (s1.trans s2) r
    · cases e
  · cases e
/-- of a value of one's own -/
theorem je_ix (ha : JE X a m1) (hb : JE X b m2) (hs : PlainIx b := by exact fun _ _ => rfl) : JE X (.Subscript a b pos) (eBin ixD m1 m2) := pe_imp (pe_ix ix_seq ha hb hs) fun σ H Q => by
  rintro ⟨ρ, d, ρ', fp, R, e, k⟩
  unfold eBin at e
  split at e
  · rename_i d1 ρ1 e1
    split at e
    · rename_i d2 ρ2 e2
      split at e
      · rename_i d' e3
        cases e
        refine ⟨ρ, d1, ρ1, fp, R, e1, fun x H1 fp1 fr1 R1 r1 n1 c1 => ?_⟩
        refine ⟨ρ1, d2, ρ', fp1, R1, e2, fun y H2 fp2 fr2 R2 r2 n2 c2 => ?_⟩
        refine ix_ok (rep_aside r1 c2 R1.mb n1) r2 e3 fun v f r sb => ?_
        have n3 := nd_two n1 (Rep.mb _ _ _ r1) c2 n2
        have sb' : (f ++ fp2).Sublist ((fr1 ++ fr2) ++ fp2) := (sb.trans (List.sublist_append_left _ _)).append (List.Sublist.refl _)
        exact k v H2 fp2 f R2 r (n3.sublist sb') ((chg_two c1 c2).sub fun a m => sb'.subset m)
      · cases e
    · cases e
  · cases e
/-- a name's item at an index that is reckoned: the name is read last -/
def eIxN (i : Nat) (m : ME) : ME := fun ρ => match nth ρ i with
  | some _ => (match m ρ with
    | some (k, ρ1) => (match nth ρ1 i with
      | some b => (match ixD b k with
        | some d => if noList d then some (d, ρ1) else none
        | none => none)
      | none => none)
    | none => none)
  | none => none
theorem slot_same {K : PySem.W.Frag} {H1 : Hp} {σ : L2.St} {ρ1 : Env} {fp1 : List Addr} {i : Nat} {d1 : D} {v : V} (R1 : Rel K H1 σ ρ1 fp1) (hv : σ[i]? = some (some v)) (e1 : nth ρ1 i = some d1) : ∃ f, Rep K H1 v d1 f ∧ ∀ a ∈ f, a ∈ fp1 := by
  obtain ⟨v', f, e, r, s⟩ := R1.get (nth_some e1)
  rw [hv] at e
  cases e
  exact ⟨f, r, s⟩
theorem je_ixN' {i : Nat} (ha : PE X a (tVar i)) (hb : JE X b m) (hs : PlainIx b := by exact fun _ _ => rfl) : JE X (.Subscript a b pos) (eIxN i m) := pe_imp (pe_ix ix_seq ha hb hs) fun σ H Q => by
  rintro ⟨ρ, d, ρ', fp, R, e, k⟩
  unfold eIxN at e
  split at e
  · rename_i d0 e0
    split at e
    · rename_i kd ρ1 e1
      split at e
      · rename_i bd e2
        split at e
        · rename_i d' e3
          split at e
          · rename_i hn
            cases e
            obtain ⟨v, f, hv, _, _⟩ := R.get (nth_some e0)
            refine ⟨v, hv, ρ, kd, ρ', fp, R, e1, fun y H2 fp2 fr2 R2 r2 n2 c2 => ?_⟩
            obtain ⟨f1, r1, _⟩ := slot_same R2 hv e2
            refine ix_ok r1 r2 e3 fun w g rw sb => ?_
            exact k w H2 fp2 [] R2 (rep_none rw hn) R2.nodup (c2.sub fun a m => List.mem_append_right _ m)
          · cases e
        · cases e
      · cases e
    · cases e
  · cases e
theorem je_ixN (i : Nat) {x : Str} {px : Pos} (hb : JE X b m) (hs : PlainIx b := by exact fun _ _ => rfl) (hN : X.N[i]? = some x := by rfl) (hv : Vis X.env.scope x := by first | exact Or.inl rfl | exact Or.inr (Or.inl rfl) | exact Or.inr (Or.inr rfl)) (hd : (x == ("__debug__" : Str)) = false := by decide)
    (hcd : (x == ("__classdict__" : Str)) = false := by decide) : JE X (.Subscript (.Name x px) b pos) (eIxN i m) := je_ixN' (pe_var hN hv hd hcd) hb hs

/-! ### slices -/
abbrev MO := Env → Option (Option Int)
def tO (K : PySem.W.Frag) (m : MO) : TO := fun σ H Q => ∃ ρ o fp, Rel K H σ ρ fp ∧ m ρ = some o ∧ ∀ H', Same H H' → Q o H'
abbrev JO (X : Cx) (e : Option Expr) (m : MO) : Prop := PO X e (tO X.K m)
theorem po_imp {X : Cx} {e : Option Expr} {t t' : TO} (h : PO X e t) (i : ∀ σ H Q, t' σ H Q → t σ H Q) : PO X e t' := ⟨fun pins s σ H Q I w => h.run pins s σ H Q I (i σ H Q w)⟩
def oNone : MO := fun _ => some none
def oSome (p : MP) : MO := fun ρ => match p ρ with
  | some (.int i) => some (some i)
  | _ => none
theorem jo_none : JO X none oNone := po_imp po_none fun σ H Q => by
  rintro ⟨ρ, o, fp, R, e, k⟩
  cases e
  exact k H (Same.refl H)
theorem jo_some (h : JP X e p) : JO X (some e) (oSome p) := po_imp (po_some h) fun σ H Q => by
  rintro ⟨ρ, o, fp, R, e, k⟩
  unfold oSome at e
  split at e
  · rename_i i e1
    cases e
    refine ⟨ρ, .int i, fp, R, e1, fun v H' fr s r => ?_⟩
    cases r
    exact ⟨i, rfl, k H' s⟩
  · cases e
def cutD (xs : List D) (lo hi : Option Int) : List D := (xs.drop (HT.sIx xs.length 0 lo)).take (HT.sIx xs.length xs.length hi - HT.sIx xs.length 0 lo)
/-- what a slice is; owned lists are copied if their items are no lists -/
def slD : D → Option Int → Option Int → Option D
  | .tup ds, lo, hi => some (.tup (cutD ds lo hi))
  | .lst ds, lo, hi => if noLists ds then some (.lst (cutD ds lo hi)) else none
  | .frz ds, lo, hi => some (.lst (cutD ds lo hi))
  | .str z, lo, hi => if z.length ≤ 16777216 then some (.str (cutS z lo hi)) else none
  | _, _, _ => none
section
variable {K : PySem.W.Frag} {H : Hp}
theorem Reps.drop : ∀ {ds : List D} {vs : List V} {fp : List Addr} (n : Nat), Reps K H vs ds fp → ∃ fq, Reps K H (vs.drop n) (ds.drop n) fq ∧ fq.Sublist fp
  | ds, vs, fp, 0, r => ⟨fp, r, List.Sublist.refl _⟩
  | [], _, _, n + 1, r => by cases r; exact ⟨[], .nil, List.Sublist.refl _⟩
  | d :: ds, _, _, n + 1, r => by
    cases r with
    | cons r rs =>
      obtain ⟨fq, q, s⟩ := Reps.drop n rs
      exact ⟨fq, q, s.trans (List.sublist_append_right _ _)⟩
theorem Reps.take : ∀ {ds : List D} {vs : List V} {fp : List Addr} (n : Nat), Reps K H vs ds fp → ∃ fq, Reps K H (vs.take n) (ds.take n) fq ∧ fq.Sublist fp
  | ds, vs, fp, 0, r => ⟨[], .nil, List.nil_sublist _⟩
  | [], _, _, n + 1, r => by cases r; exact ⟨[], .nil, List.Sublist.refl _⟩
  | d :: ds, _, _, n + 1, r => by
    cases r with
    | cons r rs =>
      obtain ⟨fq, q, s⟩ := Reps.take n rs
      exact ⟨_, .cons r q, (List.Sublist.refl _).append s⟩
theorem Reps.cut {ds : List D} {vs : List V} {fp : List Addr} (lo hi : Option Int) (r : Reps K H vs ds fp) : ∃ fq, Reps K H (cutV vs lo hi) (cutD ds lo hi) fq ∧ fq.Sublist fp := by
  unfold cutV cutD
  rw [r.length]
  obtain ⟨f1, r1, s1⟩ := r.drop (HT.sIx ds.length 0 lo)
  obtain ⟨f2, r2, s2⟩ := r1.take (HT.sIx ds.length ds.length hi - HT.sIx ds.length 0 lo)
  exact ⟨f2, r2, s2.trans s1⟩
theorem noLists_cut {ds : List D} (lo hi : Option Int) (h : noLists ds = true) : noLists (cutD ds lo hi) = true := by
  have key : ∀ (l : List D), noLists l = true ↔ ∀ d ∈ l, noList d = true := by
    intro l
    induction l with
    | nil => exact ⟨fun _ _ m => (nomatch m), fun _ => rfl⟩
    | cons x r ih =>
      show (noList x && noLists r) = true ↔ _
      rw [Bool.and_eq_true, ih]
      constructor
      · rintro ⟨a, b⟩ d m
        rcases List.mem_cons.mp m with e | m
        · subst e; exact a
        · exact b d m
      · exact fun h => ⟨h x List.mem_cons_self, fun d m => h d (List.mem_cons_of_mem _ m)⟩
  rw [key] at h ⊢
  exact fun d m => h d (List.mem_of_mem_drop (List.mem_of_mem_take m))
end
def pSl (p : MP) (lo hi : MO) : MP := fun ρ => match p ρ with
  | some d => (match lo ρ with
    | some l => (match hi ρ with
      | some h => slD d l h
      | none => none)
    | none => none)
  | none => none
def rSl (K : PySem.W.Frag) : V → Option Int → Option Int → Hp → VK → Prop := fun x lo hi H Q => rSlA K x lo hi H Q ∨ (rSlL K x lo hi H Q ∨ rSlS x lo hi H Q)
theorem sl_any : SlR X (rSl X.K) := sl_tupA.or (sl_list.or sl_str)
theorem sl_ok {K : PySem.W.Frag} {H : Hp} {x : V} {d1 d : D} {f1 : List Addr} {lo hi : Option Int} {Q : VK} (r1 : Rep K H x d1 f1) (e : slD d1 lo hi = some d)
    (k : ∀ v H' fr, Same H H' → Rep K H' v d fr → ((noList d = true → fr = []) ∧ ∀ ds, d = .lst ds → fr.Nodup ∧ ∀ a ∈ fr, H a = none) → Q v H') : rSl K x lo hi H Q := by
  cases d1 with
  | tup ds =>
    cases e
    cases r1 with
    | @tup a xs _ _ s r =>
      obtain ⟨fq, q, sq⟩ := r.cut lo hi
      refine .inl ⟨a, xs, rfl, s, fun w => ?_, fun w p hp => ?_⟩
      · have ew : cutV xs lo hi = xs := by unfold cutV; rw [w.1, w.2, List.drop_zero, Nat.sub_zero, List.take_length]
        rw [ew] at q
        exact k _ H fq (Same.refl H) (.tup s q) ⟨fun n => Rep.nol _ _ _ (Rep.tup s q) n, fun ds h => nomatch h⟩
      · have sm := same_upd (o := .tup (cutV xs lo hi)) hp
        have rr : Rep K (upd H p (.tup (cutV xs lo hi))) (.ref p) (.tup (cutD ds lo hi)) fq := .tup (.inl (.inl upd_same)) (q.same sm)
        exact k _ _ fq sm rr ⟨fun n => Rep.nol _ _ _ rr n, fun ds h => nomatch h⟩
  | lst ds =>
    have e : (if noLists ds = true then some (D.lst (cutD ds lo hi)) else none) = some d := e
    split at e
    · rename_i hn
      cases e
      cases r1 with
      | @lst a xs _ f s r =>
        obtain ⟨fq, q, sq⟩ := r.cut lo hi
        have z := Reps.nol _ _ _ q (noLists_cut lo hi hn)
        subst z
        refine .inr (.inl ⟨a, xs, rfl, .inl (.inl s), fun p hp => ?_⟩)
        have sm := same_upd (o := .lst (cutV xs lo hi)) hp
        exact k _ _ [p] sm (.lst upd_same (q.same sm)) ⟨fun h => (nomatch h), fun _ _ => ⟨by simp, fun b m => by rw [List.mem_singleton.mp m]; exact hp⟩⟩
    · cases e
  | frz ds =>
    cases e
    cases r1 with
    | @frz a xs _ s r =>
      obtain ⟨fq, q, sq⟩ := r.cut lo hi
      have z : fq = [] := List.eq_nil_of_sublist_nil sq
      subst z
      refine .inr (.inl ⟨a, xs, rfl, s.sq, fun p hp => ?_⟩)
      have sm := same_upd (o := .lst (cutV xs lo hi)) hp
      exact k _ _ [p] sm (.lst upd_same (q.same sm)) ⟨fun h => (nomatch h), fun _ _ => ⟨by simp, fun b m => by rw [List.mem_singleton.mp m]; exact hp⟩⟩
  | str z =>
    have e : (if z.length ≤ 16777216 then some (D.str (cutS z lo hi)) else none) = some d := e
    split at e
    · rename_i hz
      cases e
      cases r1
      exact .inr (.inr ⟨z, rfl, szl hz, k _ H [] (Same.refl H) (.str _) ⟨fun _ => rfl, fun ds h => nomatch h⟩⟩)
    · cases e
  | _ => cases e
theorem jp_sl {lo hi : Option Expr} {ml mh : MO} {p2 : Pos} (he : JP X e p) (hl : JO X lo ml) (hh : JO X hi mh) : JP X (.Subscript e (.Slice lo hi none p2) pos) (pSl p ml mh) := pe_imp (pe_slice sl_any he hl hh) fun σ H Q => by
  rintro ⟨ρ, d, fp, R, e, k⟩
  unfold pSl at e
  split at e
  · rename_i d1 e1
    split at e
    · rename_i l e2
      split at e
      · rename_i h e3
        refine ⟨ρ, d1, fp, R, e1, fun x H1 fr1 s1 r1 => ?_⟩
        refine ⟨ρ, l, fp, R.same s1, e2, fun H2 s2 => ?_⟩
        refine ⟨ρ, h, fp, (R.same s1).same s2, e3, fun H3 s3 => ?_⟩
        exact sl_ok ((r1.same s2).same s3) e fun v H' fr s r _ => k v H' fr (((s1.trans s2).trans s3).trans s) r
      · cases e
    · cases e
  · cases e
/-- .. a list's: a list of one's own -/
def eSl (p : MP) (lo hi : MO) : ME := fun ρ => match pSl p lo hi ρ with
  | some (.lst ds) => some (.lst ds, ρ)
  | some d => if noList d then some (d, ρ) else none
  | none => none
theorem je_sl {lo hi : Option Expr} {ml mh : MO} {p2 : Pos} (he : JP X e p) (hl : JO X lo ml) (hh : JO X hi mh) : JE X (.Subscript e (.Slice lo hi none p2) pos) (eSl p ml mh) := pe_imp (pe_slice sl_any he hl hh) fun σ H Q => by
  rintro ⟨ρ, d, ρ', fp, R, e, k⟩
  have key : ∃ d0, pSl p ml mh ρ = some d0 ∧ d0 = d ∧ ρ' = ρ ∧ (noList d = true ∨ ∃ ds, d = .lst ds) := by
    unfold eSl at e
    split at e
    · rename_i ds e0
      cases e
      exact ⟨_, e0, rfl, rfl, .inr ⟨ds, rfl⟩⟩
    · rename_i d0 _ e0
      split at e
      · rename_i hn
        cases e
        exact ⟨_, e0, rfl, rfl, .inl hn⟩
      · cases e
    · cases e
  obtain ⟨d0, e0, rfl, rfl, hn⟩ := key
  unfold pSl at e0
  split at e0
  · rename_i d1 e1
    split at e0
    · rename_i l e2
      split at e0
      · rename_i h e3
        refine ⟨ρ', d1, fp, R, e1, fun x H1 fr1 s1 r1 => ?_⟩
        refine ⟨ρ', l, fp, R.same s1, e2, fun H2 s2 => ?_⟩
        refine ⟨ρ', h, fp, (R.same s1).same s2, e3, fun H3 s3 => ?_⟩
        refine sl_ok ((r1.same s2).same s3) e0 fun v H' fr s r z => ?_
        have S := ((s1.trans s2).trans s3)
        have nn : fr.Nodup ∧ ∀ a ∈ fr, H a = none := by
          rcases hn with hn | ⟨ds, hd⟩
          · rw [z.1 hn]; exact ⟨List.nodup_nil, fun a m => nomatch m⟩
          · exact ⟨(z.2 ds hd).1, fun a m => S.free ((z.2 ds hd).2 a m)⟩
        exact k v H' fp fr (R.same (S.trans s)) r (nd_new R nn.1 nn.2) (chg_new (S.trans s) nn.2 fun a m => m)
      · cases e0
    · cases e0
  · cases e0
end
end Bv

namespace Bv
open PySem PySem.Spec PyProof.Rows L2

section
variable {X : Cx} {e a b o c : Expr} {es : List Expr} {m m1 m2 : ME} {p p1 p2 : MP} {ms : List ME} {ps : List MP} {pos : Pos} {io : List Nat} {s1 s2 : MS} {st : Stmt} {sts sts1 sts2 : List Stmt} {t : MT}
/-! ### blocks -/
def sNil : MS := fun ρ => some (.nx, ρ)
def sSeq (s1 s2 : MS) : MS := fun ρ => match s1 ρ with
  | some (.nx, ρ1) => s2 ρ1
  | some (.rt d, ρ1) => some (.rt d, ρ1)
  | some (.bk, ρ1) => some (.bk, ρ1)
  | some (.ct, ρ1) => some (.ct, ρ1)
  | none => none
theorem SPost.from {K : PySem.W.Frag} {io : List Nat} {D : Ends} {σ σ1 : L2.St} {H H1 : Hp} {fp fp1 : List Addr} {ρ' : Env} {o : Out} (h : SPost K io D σ H fp ρ' o) (c : Chg H H1 fp fp1) (p : Pin io σ σ1) : SPost K io D σ1 H1 fp1 ρ' o := by
  cases o with
  | nx => exact fun σ' H' fp' R c2 p2 => h σ' H' fp' R (c.trans c2 fun a m => m) (p.trans p2)
  | bk => exact fun σ' H' fp' R c2 p2 => h σ' H' fp' R (c.trans c2 fun a m => m) (p.trans p2)
  | ct => exact fun σ' H' fp' R c2 p2 => h σ' H' fp' R (c.trans c2 fun a m => m) (p.trans p2)
  | rt d => exact fun v σ' H' fp' fr R r n c2 p2 => h v σ' H' fp' fr R r n (c.trans c2 fun a m => m) (p.trans p2)
theorem jss_nil : JSs X io [] sNil := pss_imp pss_nil fun D σ H => by
  rintro ⟨ρ, o, ρ', fp, R, e, k⟩
  cases e
  exact k σ H fp R Chg.refl Pin.refl
theorem tSeq_t (D : Ends) (σ : L2.St) (H : Hp) (h : tS X.K io (sSeq s1 s2) D σ H) : tSeq (tS X.K io s1) (tS X.K io s2) D σ H := by
  obtain ⟨ρ, o, ρ', fp, R, e, k⟩ := h
  unfold sSeq at e
  split at e
  · rename_i ρ1 e1
    refine ⟨ρ, .nx, ρ1, fp, R, e1, fun σ1 H1 fp1 R1 c1 p1 => ?_⟩
    exact ⟨ρ1, o, ρ', fp1, R1, e, k.from c1 p1⟩
  · rename_i d ρ1 e1
    cases e
    exact ⟨ρ, .rt d, ρ', fp, R, e1, k⟩
  · rename_i ρ1 e1
    cases e
    exact ⟨ρ, .bk, ρ', fp, R, e1, k⟩
  · rename_i ρ1 e1
    cases e
    exact ⟨ρ, .ct, ρ', fp, R, e1, k⟩
  · cases e
theorem jss_cons (h1 : JS X io st s1) (h2 : JSs X io sts s2) : JSs X io (st :: sts) (sSeq s1 s2) := pss_imp (pss_cons h1 h2) tSeq_t
theorem jss_one (h1 : JS X io st s1) : JSs X io [st] s1 := pss_one h1
theorem js_pass : JS X io (.Pass pos) sNil := ps_imp ps_pass fun D σ H => by
  rintro ⟨ρ, o, ρ', fp, R, e, k⟩
  cases e
  exact k σ H fp R Chg.refl Pin.refl
theorem js_doc {x : Str} {j pos'} : JS X io (.Expr (.Constant (.str x) j pos) pos') sNil := ps_imp ps_doc fun D σ H => by
  rintro ⟨ρ, o, ρ', fp, R, e, k⟩
  cases e
  exact k σ H fp R Chg.refl Pin.refl
def sBreak : MS := fun ρ => some (.bk, ρ)
def sCont : MS := fun ρ => some (.ct, ρ)
theorem js_break : JS X io (.Break pos) sBreak := ps_imp ps_break fun D σ H => by
  rintro ⟨ρ, o, ρ', fp, R, e, k⟩
  cases e
  exact k σ H fp R Chg.refl Pin.refl
theorem js_continue : JS X io (.Continue pos) sCont := ps_imp ps_continue fun D σ H => by
  rintro ⟨ρ, o, ρ', fp, R, e, k⟩
  cases e
  exact k σ H fp R Chg.refl Pin.refl
/-- code that is never reached -/
def sNever : MS := fun _ => none
theorem js_never : JS X io st sNever := ps_imp ps_never fun D σ H => by
  rintro ⟨ρ, o, ρ', fp, R, e, k⟩
  cases e
theorem jss_never : JSs X io sts sNever := pss_imp pss_never fun D σ H => by
  rintro ⟨ρ, o, ρ', fp, R, e, k⟩
  cases e
def sExpr (m : ME) : MS := fun ρ => match m ρ with
  | some (_, ρ') => some (.nx, ρ')
  | none => none
theorem js_expr (h : JE X e m) (hs : swapsWith e none pos.line X.env = pure false := by rfl) : JS X io (.Expr e pos) (sExpr m) := ps_imp (ps_expr h hs) fun D σ H => by
  rintro ⟨ρ, o, ρ', fp, R, e, k⟩
  unfold sExpr at e
  split at e
  · rename_i d ρ1 e1
    cases e
    exact ⟨ρ, d, ρ', fp, R, e1, fun v H1 fp1 fr R1 r n c => k σ H1 fp1 R1 (c.sub fun a m => List.mem_append_right _ m) Pin.refl⟩
  · cases e
def sRet (m : ME) : MS := fun ρ => match m ρ with
  | some (d, ρ') => some (.rt d, ρ')
  | none => none
theorem js_ret (h : JE X e m) : JS X io (.Return (some e) pos) (sRet m) := ps_imp (ps_ret h) fun D σ H => by
  rintro ⟨ρ, o, ρ', fp, R, e, k⟩
  unfold sRet at e
  split at e
  · rename_i d ρ1 e1
    cases e
    exact ⟨ρ, d, ρ', fp, R, e1, fun v H1 fp1 fr R1 r n c => k v σ H1 fp1 fr R1 r n c Pin.refl⟩
  · cases e
def sRetN : MS := fun ρ => some (.rt .non, ρ)
theorem js_retN : JS X io (.Return none pos) sRetN := ps_imp ps_retN fun D σ H => by
  rintro ⟨ρ, o, ρ', fp, R, e, k⟩
  cases e
  exact k .non σ H fp [] R .non R.nodup Chg.refl Pin.refl
def sIf (t : MT) (s1 s2 : MS) : MS := fun ρ => match t ρ with
  | some (true, ρ1) => s1 ρ1
  | some (false, ρ1) => s2 ρ1
  | none => none
theorem js_if (ht : JT X c t) (h1 : JSs X io sts1 s1) (h2 : JSs X io sts2 s2) : JS X io (.If c sts1 sts2 pos) (sIf t s1 s2) := ps_imp (ps_if ht h1 h2) fun D σ H => by
  rintro ⟨ρ, o, ρ', fp, R, e, k⟩
  unfold sIf at e
  split at e
  · rename_i ρ1 e1
    refine ⟨ρ, true, ρ1, fp, R, e1, fun H1 fp1 R1 c1 => iteT ?_⟩
    exact ⟨ρ1, o, ρ', fp1, R1, e, k.from c1 Pin.refl⟩
  · rename_i ρ1 e1
    refine ⟨ρ, false, ρ1, fp, R, e1, fun H1 fp1 R1 c1 => iteF ?_⟩
    exact ⟨ρ1, o, ρ', fp1, R1, e, k.from c1 Pin.refl⟩
  · cases e

/-! ### stores -/
def sSet (i : Nat) (m : ME) : MS := fun ρ => match m ρ with
  | some (d, ρ') => some (.nx, ρ'.set i (some d))
  | none => none
theorem gName_t {i : Nat} (hi : i ∉ io) (D : Ends) (σ : L2.St) (H : Hp) (h : tS X.K io (sSet i m) D σ H) : tAsg (tM X.K m) (gName i) D σ H := by
  obtain ⟨ρ, o, ρ', fp, R, e, k⟩ := h
  unfold sSet at e
  split at e
  · rename_i d ρ1 e1
    cases e
    refine ⟨ρ, d, ρ1, fp, R, e1, fun v H1 fp1 fr R1 r n c => ?_⟩
    obtain ⟨fq, R2, s⟩ := R1.put i r n
    exact k _ H1 fq R2 (c.sub s) (Pin.set hi)
  · cases e
theorem js_set {i : Nat} {x : Str} {px : Pos} (hN : X.N.Nodup) (he : JE X e m) (hi : X.N[i]? = some x := by rfl) (hio : i ∉ io := by decide) (hx : Loc X.env.scope x := by first | exact Or.inl rfl | exact Or.inr rfl) (hs : swapsWith e (some (.Name x px)) pos.line X.env = pure false := by rfl)
    (hf : X.fn x = true ∨ X.env.scope.names.lookup x = some .local := by first | exact .inl rfl | exact .inr rfl | assumption) : JS X io (.Assign [.Name x px] e pos) (sSet i m) := ps_imp (ps_set hN hi hx he hs hf) (gName_t hio)
/-- a, b = x, y with plain local names -/
def sPar (i j : Nat) (ms : List ME) : MS := fun ρ => match evs ms ρ with
  | some ([d, d'], ρ') => some (.nx, (ρ'.set i (some d)).set j (some d'))
  | _ => none
theorem js_par {i j : Nat} {x y : Str} {px py pt : Pos} {kt k2 pt2} (hc : X.calm = true) (hN : X.N.Nodup) (ha : JMs X [a, b] ms) (hi : X.N[i]? = some x := by rfl) (hj : X.N[j]? = some y := by rfl) (hij : i ≠ j := by decide) (hio : i ∉ io := by decide) (hjo : j ∉ io := by decide)
    (hx : X.env.scope.names.lookup x = some .local := by rfl) (hy : X.env.scope.names.lookup y = some .local := by rfl)
    (hw : swappedStores [.Tuple [.Name x px, .Name y py] kt pt] (.Tuple [a, b] k2 pt2) X.env = pure (some [x, y]) := by rfl)
    (hs : swapsWithSole [.Tuple [.Name x px, .Name y py] kt pt] (.Tuple [a, b] k2 pt2) pos.line X.env = pure false := by rfl) :
    JS X io (.Assign [.Tuple [.Name x px, .Name y py] kt pt] (.Tuple [a, b] k2 pt2) pos) (sPar i j ms) := ps_imp (ps_par hc hN hi hj hij hx hy ha hw hs) fun D σ H => by
  rintro ⟨ρ, o, ρ', fp, R, e, k⟩
  unfold sPar at e
  split at e
  · rename_i d d' ρ1 e1
    cases e
    refine ⟨ρ, [d, d'], ρ1, fp, R, e1, fun vs H1 fp1 fr R1 r n c => ?_⟩
    cases r with
    | @cons v vs _ _ f f' r1 rs =>
      cases rs with
      | @cons w ws _ _ f2 f3 r2 rn =>
        cases rn
        rw [List.append_nil] at n c
        refine ⟨v, w, rfl, ?_⟩
        have n1 := List.nodup_append.mp n
        have n2 := List.nodup_append.mp n1.1
        obtain ⟨fq, R2, s2⟩ := R1.put i r1 (List.nodup_append.mpr ⟨n2.1, n1.2.1, fun a ha b hb => n1.2.2 a (List.mem_append_left _ ha) b hb⟩)
        obtain ⟨fq', R3, s3⟩ := R2.put j r2 (List.nodup_append.mpr ⟨n2.2.1, R2.nodup, fun a ha b hb => by
          rcases List.mem_append.mp (s2 b hb) with m | m
          · exact fun e => n2.2.2 b m a ha e.symm
          · exact n1.2.2 a (List.mem_append_right _ ha) b m⟩)
        refine k _ H1 fq' R3 (c.sub fun a m => ?_) ((Pin.set hio).trans (Pin.set hjo))
        rcases List.mem_append.mp (s3 a m) with m | m
        · exact List.mem_append_left _ (List.mem_append_right _ m)
        · rcases List.mem_append.mp (s2 a m) with m | m
          · exact List.mem_append_left _ (List.mem_append_left _ m)
          · exact List.mem_append_right _ m
  · cases e
/-! targets in general -/
def gSet (i : Nat) : MG := fun d ρ => some (ρ.set i (some d))
theorem jg_name {i : Nat} {x : Str} {px : Pos} (hN : X.N.Nodup) (hi : X.N[i]? = some x := by rfl) (hio : i ∉ io := by decide) (hx : Loc X.env.scope x := by first | exact Or.inl rfl | exact Or.inr rfl) (hf : X.fn x = true ∨ X.env.scope.names.lookup x = some .local := by first | exact .inl rfl | exact .inr rfl | assumption) :
    JG X io (.Name x px) (gSet i) := pg_imp (pg_name hN hi hx hf) fun v σ H Q => by
  rintro ⟨ρ, d, ρ', fp, R, r, e, k⟩
  cases e
  obtain ⟨fq, R2, s⟩ := R.put i r (show ([] ++ fp).Nodup from R.nodup)
  exact k _ H fq R2 ⟨fun _ _ e _ => e, fun b m => .inl (s b m)⟩ (Pin.set hio)
def gNilD : List D → Env → Option Env
  | [], ρ => some ρ
  | _ :: _, _ => none
def gConsD (g : MG) (gs : List D → Env → Option Env) : List D → Env → Option Env
  | d :: ds, ρ => (match g d ρ with
    | some ρ1 => gs ds ρ1
    | none => none)
  | [], _ => none
theorem jgs_nil : JGs X io [] gNilD := pgs_imp pgs_nil fun vs σ H Q => by
  rintro ⟨ρ, ds, ρ', fp, R, r, e, k⟩
  cases ds with
  | nil =>
    cases r
    cases e
    exact ⟨rfl, k σ H fp R Chg.refl Pin.refl⟩
  | cons d ds => cases e
theorem reps_nil_cons {K : PySem.W.Frag} {H : Hp} {vs : List V} {d : D} {ds : List D} (r : Reps K H vs (d :: ds) []) : ∃ v ws, vs = v :: ws ∧ Rep K H v d [] ∧ Reps K H ws ds [] := by
  generalize hf : ([] : List Addr) = f at r
  cases r with
  | @cons v vs _ _ f1 f2 r1 rs =>
    have h1 : f1 = [] := by cases f1 with
      | nil => rfl
      | cons x y => cases hf
    subst h1
    have h2 : f2 = [] := hf.symm
    subst h2
    exact ⟨v, vs, rfl, r1, rs⟩
theorem jgs_cons {g : MG} {gs : List D → Env → Option Env} (h1 : JG X io e g) (h2 : JGs X io es gs) (hs : (assignEach (e :: es) X.env).map (·.2) = assign e X.env :: (assignEach es X.env).map (·.2) := by rfl) : JGs X io (e :: es) (gConsD g gs) := pgs_imp (pgs_cons h1 h2 hs) fun vs σ H Q => by
  rintro ⟨ρ, ds, ρ', fp, R, r, e, k⟩
  cases ds with
  | nil => cases e
  | cons d ds =>
    have e : (match g d ρ with
      | some ρ1 => gs ds ρ1
      | none => none) = some ρ' := e
    split at e
    · rename_i ρ1 e1
      obtain ⟨v, ws, rfl, r1, rs⟩ := reps_nil_cons r
      refine ⟨v, ws, rfl, ρ, d, ρ1, fp, R, r1, e1, fun σ1 H1 fp1 R1 c1 p1 => ?_⟩
      refine ⟨ρ1, ds, ρ', fp1, R1, ?_, e, fun σ2 H2 fp2 R2 c2 p2 => k σ2 H2 fp2 R2 (c1.trans c2 fun a m => m) (p1.trans p2)⟩
      exact reps_aside rs c1 R.mb (show ([] ++ fp).Nodup from R.nodup)
    · cases e
def gTupD (gs : List D → Env → Option Env) : MG := fun d ρ => match d with
  | .tup ds => gs ds ρ
  | _ => none
theorem jg_tup {k : Nat} {n : Nat} {gs : List D → Env → Option Env} (hc : X.calm = true) (h : JGs X io es gs) (hl : ∀ ds ρ ρ', gs ds ρ = some ρ' → ds.length = n)
    (hn : (assignEach es X.env).length = n := by rfl) (hst : (assignEach es X.env).findIdx? (·.1) = none := by rfl) : JG X io (.Tuple es k pos) (gTupD gs) := pg_imp (pg_tup hc h hn hst) fun v σ H Q => by
  rintro ⟨ρ, d, ρ', fp, R, r, e, k⟩
  cases d with
  | tup ds =>
    have e : gs ds ρ = some ρ' := e
    cases r with
    | @tup a xs _ _ s r =>
      exact ⟨a, xs, rfl, s, by rw [r.length, hl ds ρ ρ' e], ρ, ds, ρ', fp, R, r, e, k⟩
  | _ => cases e
theorem gl_nil : ∀ ds ρ ρ', gNilD ds ρ = some ρ' → ds.length = 0 := fun ds ρ ρ' e => by
  cases ds with
  | nil => rfl
  | cons _ _ => cases e
theorem gl_cons {g : MG} {gs : List D → Env → Option Env} {n : Nat} (h : ∀ ds ρ ρ', gs ds ρ = some ρ' → ds.length = n) : ∀ ds ρ ρ', gConsD g gs ds ρ = some ρ' → ds.length = n + 1 := fun ds ρ ρ' e => by
  cases ds with
  | nil => cases e
  | cons d ds =>
    have e : (match g d ρ with
      | some ρ1 => gs ds ρ1
      | none => none) = some ρ' := e
    split at e
    · rw [List.length_cons, h ds _ _ e]
    · cases e
/-- target = e (e without lists) -/
def sAsg (m : ME) (g : MG) : MS := fun ρ => match m ρ with
  | some (d, ρ1) => if noList d then (match g d ρ1 with
    | some ρ2 => some (.nx, ρ2)
    | none => none) else none
  | none => none
theorem js_asg {tg : Expr} {g : MG} (he : JE X e m) (hg : JG X io tg g) (hs : swapsWithSole [tg] e pos.line X.env = pure false := by rfl) (hw : swappedStores [tg] e X.env = pure none := by rfl)
    (h1 : (assignEach [tg] X.env).map (·.2) = [assign tg X.env] := by rfl) : JS X io (.Assign [tg] e pos) (sAsg m g) := ps_imp (ps_asg he hg hs hw h1) fun D σ H => by
  rintro ⟨ρ, o, ρ', fp, R, e, k⟩
  unfold sAsg at e
  split at e
  · rename_i d ρ1 e1
    split at e
    · rename_i hn
      split at e
      · rename_i ρ2 e2
        cases e
        refine ⟨ρ, d, ρ1, fp, R, e1, fun v H1 fp1 fr R1 r n c => ?_⟩
        refine ⟨ρ1, d, ρ', fp1, R1, rep_none r hn, e2, fun σ2 H2 fp2 R2 c2 p2 => ?_⟩
        exact k σ2 H2 fp2 R2 (chg_from c c2) p2
      · cases e
    · cases e
  · cases e
/-- a list's item: x[i] = e -/
def sSetIx (i : Nat) (ix : ME) (m : ME) : MS := fun ρ => match m ρ with
  | some (d, ρ1) => (match nth ρ1 i with
    | some _ => (match ix ρ1 with
      | some (.int k, ρ2) => (match nth ρ2 i with
        | some (.lst ds) => (match ixN ds.length k with
          | some j => some (.nx, ρ2.set i (some (.lst (ds.set j d))))
          | none => none)
        | _ => none)
      | _ => none)
    | none => none)
  | none => none
theorem js_setIx {i : Nat} {tpos : Pos} (ho : PE X o (tVar i)) (hi : JE X b m1) (he : JE X e m) (hsub : ∀ v, assign (.Subscript o b tpos) X.env v = (do
      let ov ← holding [v] (eval o X.env)
      let iv ← holding [v, ov] (eval b X.env)
      standAt tpos
      holding [v, ov, iv] (setItem ov iv v)
      release [v, ov, iv] []) := by intro _; rfl)
    (hs : swapsWithSole [.Subscript o b tpos] e pos.line X.env = pure false := by rfl) (hw : swappedStores [.Subscript o b tpos] e X.env = pure none := by rfl)
    (h1 : (assignEach [.Subscript o b tpos] X.env).map (·.2) = [assign (.Subscript o b tpos) X.env] := by rfl) : JS X io (.Assign [.Subscript o b tpos] e pos) (sSetIx i m1 m) :=
  ps_imp (ps_asg he (pg_sub ho hi set_list hsub) hs hw h1) fun D σ H => by
  rintro ⟨ρ, o, ρ', fp, R, e, k⟩
  unfold sSetIx at e
  split at e
  · rename_i d ρ1 e1
    split at e
    · rename_i d0 e0
      split at e
      · rename_i kk ρ2 e2
        split at e
        · rename_i ds e3
          split at e
          · rename_i j e4
            cases e
            refine ⟨ρ, d, ρ1, fp, R, e1, fun v H1 fp1 fr R1 r1 n1 c1 => ?_⟩
            obtain ⟨ov, f0, hv, _, _⟩ := R1.get (nth_some e0)
            refine ⟨ov, hv, ρ1, .int kk, ρ2, fp1, R1, e2, fun iv H2 fp2 fr2 R2 r2 n2 c2 => ?_⟩
            cases r2
            have r1' := rep_aside r1 c2 R1.mb n1
            have c12 := chg_two c1 c2
            have n12 : (fr ++ fp2).Nodup := by
              have := nd_two n1 (Rep.mb _ _ _ r1) c2 n2
              rwa [List.append_nil] at this
            obtain ⟨v', f, fq, e5, rl, R3, n3, s3⟩ := R2.take (nth_some e3)
            rw [hv] at e5
            cases e5
            cases rl with
            | @lst a xs _ f hl rs =>
              refine ⟨a, xs, kk, j, rfl, rfl, hl, by rw [rs.length]; exact e4, ?_⟩
              -- the new heap
              have nn := List.nodup_append.mp n12
              have n4 := List.nodup_append.mp n3
              have n5 := List.nodup_cons.mp n4.1
              have hA : ∀ b ∈ [a], Mb (H2 b) := fun b m => by rw [List.mem_singleton.mp m, hl]; trivial
              have kp : ∀ b o, H2 b = some o → b ∉ [a] → (upd H2 a (.lst (xs.set j v))) b = some o := fun b o e h => by
                rw [upd_ne (fun z => h (by rw [z]; exact List.mem_singleton.mpr rfl))]; exact e
              have afr : a ∉ fr := fun m => nn.2.2 a m a ((s3 a).mpr (List.mem_append_left _ List.mem_cons_self)) rfl
              have r1'' : Rep X.K (upd H2 a (.lst (xs.set j v))) v d fr := Rep.keep hA kp _ _ _ r1' fun b m z => afr (List.mem_singleton.mp z ▸ m)
              have rs' : Reps X.K (upd H2 a (.lst (xs.set j v))) xs ds f := Reps.keep hA kp _ _ _ rs fun b m z => n5.1 (List.mem_singleton.mp z ▸ m)
              have R3' : Rel X.K (upd H2 a (.lst (xs.set j v))) σ (ρ2.set i none) fq := R3.keep hA kp fun b m z => n4.2.2 a List.mem_cons_self b m (List.mem_singleton.mp z).symm
              have nfd : (fr ++ f).Nodup := List.nodup_append.mpr ⟨nn.1, n5.2, fun x hx y hy => nn.2.2 x hx y ((s3 y).mpr (List.mem_append_left _ (List.mem_cons_of_mem _ hy)))⟩
              obtain ⟨g, rg, ng, sg⟩ := rs'.set (i := j) r1'' nfd
              have rnew : Rep X.K (upd H2 a (.lst (xs.set j v))) (.ref a) (.lst (ds.set j d)) (a :: g) := .lst upd_same rg
              have nnew : ((a :: g) ++ fq).Nodup := by
                refine List.nodup_append.mpr ⟨List.nodup_cons.mpr ⟨fun m => ?_, ng⟩, n4.2.1, fun x hx y hy => ?_⟩
                · rcases List.mem_append.mp (sg a m) with m | m
                  · exact afr m
                  · exact n5.1 m
                · rcases List.mem_cons.mp hx with e | hx
                  · exact n4.2.2 x (e ▸ List.mem_cons_self) y hy
                  · rcases List.mem_append.mp (sg x hx) with m | m
                    · exact nn.2.2 x m y ((s3 y).mpr (List.mem_append_right _ hy))
                    · exact n4.2.2 x (List.mem_cons_of_mem _ m) y hy
              obtain ⟨fe, R5, s5⟩ := R3'.put' hv rnew nnew
              rw [List.set_set] at R5
              refine k σ _ fe R5 ⟨fun b o e h => ?_, fun b m => ?_⟩ Pin.refl
              · refine kp b o (c12.keep b o e h) fun z => ?_
                have z' := List.mem_singleton.mp z
                subst z'
                rcases c12.new b (List.mem_append_right _ ((s3 b).mpr (List.mem_append_left _ List.mem_cons_self))) with q | q
                · exact h q
                · rw [q] at e; cases e
              · have old : ∀ x, x ∈ fr ∨ x ∈ fp2 → x ∈ fp ∨ H x = none := fun x m => c12.new x (by
                  rcases m with m | m
                  · rw [List.append_nil]; exact List.mem_append_left _ m
                  · exact List.mem_append_right _ m)
                rcases List.mem_append.mp (s5 b m) with m | m
                · rcases List.mem_cons.mp m with e | m
                  · exact old b (.inr ((s3 b).mpr (List.mem_append_left _ (e ▸ List.mem_cons_self))))
                  · rcases List.mem_append.mp (sg b m) with m | m
                    · exact old b (.inl m)
                    · exact old b (.inr ((s3 b).mpr (List.mem_append_left _ (List.mem_cons_of_mem _ m))))
                · exact old b (.inr ((s3 b).mpr (List.mem_append_right _ m)))
          · cases e
        · cases e
      · cases e
    · cases e
  · cases e
end
end Bv

namespace Bv
open PySem PySem.Spec PyProof.Rows L2

section
variable {X : Cx} {e a b o c : Expr} {es : List Expr} {m m1 m2 : ME} {p p1 p2 : MP} {ms : List ME} {ps : List MP} {pos : Pos} {io : List Nat} {s1 s2 : MS} {st : Stmt} {sts sts1 sts2 : List Stmt} {t : MT}
/-! ### methods that change a list -/
/-- r does to a list of one's own what op says: its items, the arguments; the value, the new items -/
def LMut (K : PySem.W.Frag) (r : V → List V → Hp → VK → Prop) (op : List D → List D → Option (D × List D)) : Prop :=
  ∀ (a : Addr) (xs ys : List V) (ds es : List D) (fp fe : List Addr) (H : Hp) (Q : VK) (d : D) (ds' : List D), H a = some (.lst xs) → Reps K H xs ds fp → Reps K H ys es fe → (a :: fp ++ fe).Nodup → op ds es = some (d, ds') →
    (∀ v xs' fr fq, Rep K (upd H a (.lst xs')) v d fr → Reps K (upd H a (.lst xs')) xs' ds' fq → (a :: (fr ++ fq)).Nodup → (∀ b ∈ fr ++ fq, b ∈ fp ++ fe) → Q v (upd H a (.lst xs'))) → r (.ref a) ys H Q
def eLMut (op : List D → List D → Option (D × List D)) (i : Nat) (ms : List ME) : ME := fun ρ => match nth ρ i with
  | some (.lst _) => (match evs ms ρ with
    | some (es, ρ1) => (match nth ρ1 i with
      | some (.lst ds) => (match op ds es with
        | some (d, ds') => some (d, ρ1.set i (some (.lst ds')))
        | none => none)
      | _ => none)
    | none => none)
  | _ => none
theorem eLMut_t {i : Nat} {r : V → List V → Hp → VK → Prop} {op : List D → List D → Option (D × List D)} (ok : LMut X.K r op) (σ : L2.St) (H : Hp) (Q : VK) (h : tM X.K (eLMut op i ms) σ H Q) : tBM X.K "list" r (tVar i) (tMs X.K ms) σ H Q := by
  obtain ⟨ρ, d, ρ', fp, R, e, k⟩ := h
  unfold eLMut at e
  split at e
  · rename_i d0 e0
    split at e
    · rename_i es ρ1 e1
      split at e
      · rename_i ds e2
        split at e
        · rename_i d' ds' e3
          cases e
          obtain ⟨ov, f0, hv, r0, _⟩ := R.get (nth_some e0)
          refine ⟨ov, hv, ?_, ρ, es, ρ1, fp, R, e1, fun ys H2 fp2 fe R2 re n2 c2 => ?_⟩
          · cases r0 with
            | lst s _ => exact .inl ⟨rfl, _, .inl (.inl s)⟩
          · obtain ⟨v', f, fq, e5, rl, R3, n3, s3⟩ := R2.take (nth_some e2)
            rw [hv] at e5
            cases e5
            cases rl with
            | @lst a xs _ f hl rs =>
              have nn := List.nodup_append.mp n2
              have n4 := List.nodup_append.mp n3
              have n5 := List.nodup_cons.mp n4.1
              have afe : ∀ b ∈ fe, b ∉ a :: f := fun b hb m => nn.2.2 b hb b ((s3 b).mpr (List.mem_append_left _ m)) rfl
              refine ok a xs ys ds es f fe H2 Q d ds' hl rs re ?_ e3 fun v xs' fr g rv rg ng sg => ?_
              · exact List.nodup_append.mpr ⟨n4.1, nn.1, fun x hx y hy e => afe y hy (e ▸ hx)⟩
              · have hA : ∀ b ∈ [a], Mb (H2 b) := fun b m => by rw [List.mem_singleton.mp m, hl]; trivial
                have kp : ∀ b o, H2 b = some o → b ∉ [a] → (upd H2 a (.lst xs')) b = some o := fun b o e h => by
                  rw [upd_ne (fun z => h (by rw [z]; exact List.mem_singleton.mpr rfl))]; exact e
                have R3' : Rel X.K (upd H2 a (.lst xs')) σ (ρ1.set i none) fq := R3.keep hA kp fun b m z => n4.2.2 a List.mem_cons_self b m (List.mem_singleton.mp z).symm
                have n6 := List.nodup_cons.mp ng
                have n7 := List.nodup_append.mp n6.2
                have apart : ∀ x, x ∈ fr ++ g → x ∉ fq := fun x hx hq => by
                  rcases List.mem_append.mp (sg x hx) with m | m
                  · exact n4.2.2 x (List.mem_cons_of_mem _ m) x hq rfl
                  · exact nn.2.2 x m x ((s3 x).mpr (List.mem_append_right _ hq)) rfl
                have rnew : Rep X.K (upd H2 a (.lst xs')) (.ref a) (.lst ds') (a :: g) := .lst upd_same rg
                have nnew : ((a :: g) ++ fq).Nodup := by
                  refine List.nodup_append.mpr ⟨List.nodup_cons.mpr ⟨fun m => n6.1 (List.mem_append_right _ m), n7.2.1⟩, n4.2.1, fun x hx y hy e => ?_⟩
                  subst e
                  rcases List.mem_cons.mp hx with e | hx
                  · exact n4.2.2 x (e ▸ List.mem_cons_self) x hy rfl
                  · exact apart x (List.mem_append_right _ hx) hy
                obtain ⟨fe', R5, s5⟩ := R3'.put' hv rnew nnew
                rw [List.set_set] at R5
                refine k v _ fe' fr R5 rv ?_ ⟨fun b o e h => ?_, fun b m => ?_⟩
                · refine List.nodup_append.mpr ⟨n7.1, R5.nodup, fun x hx y hy e => ?_⟩
                  subst e
                  rcases List.mem_append.mp (s5 x hy) with m | m
                  · rcases List.mem_cons.mp m with e | m
                    · subst e; exact n6.1 (List.mem_append_left _ hx)
                    · exact n7.2.2 x hx x m rfl
                  · exact apart x (List.mem_append_left _ hx) m
                · refine kp b o (c2.keep b o e h) fun z => ?_
                  have z' := List.mem_singleton.mp z
                  subst z'
                  rcases c2.new b (List.mem_append_right _ ((s3 b).mpr (List.mem_append_left _ List.mem_cons_self))) with q | q
                  · exact h q
                  · rw [q] at e; cases e
                · have old : ∀ x, x ∈ fe ∨ x ∈ fp2 → x ∈ fp ∨ H x = none := fun x m => c2.new x (by
                    rcases m with m | m
                    · exact List.mem_append_left _ m
                    · exact List.mem_append_right _ m)
                  have inn : ∀ x, x ∈ f ++ fe → x ∈ fp ∨ H x = none := fun x m => by
                    rcases List.mem_append.mp m with m | m
                    · exact old x (.inr ((s3 x).mpr (List.mem_append_left _ (List.mem_cons_of_mem _ m))))
                    · exact old x (.inl m)
                  rcases List.mem_append.mp m with m | m
                  · exact inn b (sg b (List.mem_append_left _ m))
                  · rcases List.mem_append.mp (s5 b m) with m | m
                    · rcases List.mem_cons.mp m with e | m
                      · exact old b (.inr ((s3 b).mpr (List.mem_append_left _ (e ▸ List.mem_cons_self))))
                      · exact inn b (sg b (List.mem_append_right _ m))
                    · exact old b (.inr ((s3 b).mpr (List.mem_append_right _ m)))
        · cases e
      · cases e
    · cases e
  · cases e
theorem je_lmut {i : Nat} {name : Str} {id : String} {r : V → List V → Hp → VK → Prop} {op : List D → List D → Option (D × List D)} {apos cpos : Pos} (slot : Slot "list" name id) (hty : typeOf (.builtin id) = pure (.type "method_descriptor")) (hm : MtR X id r) (ok : LMut X.K r op)
    (ho : PE X o (tVar i)) (ha : JMs X (e :: es) ms)
    (hbase : attributeBase o name X.env (eval o X.env) = eval o X.env := by rfl)
    (hfew : ((backTo cpos (starEach (e :: es) X.env)).all (fun x => !x.1) && (backToKw cpos (keywordEach [] X.env)).all (fun x => x.1.isSome)
      && decide ((e :: es).length + ([] : List Keyword).length + (if ([] : List Keyword).isEmpty then 0 else 1) < 30)) = true := by rfl)
    (hline : (apos.endLine == cpos.line) = true := by rfl) (hs : starEach (e :: es) X.env = (false, eval e X.env) :: starEach es X.env := by rfl) (hplain : (backTo cpos (starEach es X.env)).any (·.1) = false := by rfl) :
    JE X (.Call (.Attribute o name apos) (e :: es) [] cpos) (eLMut op i ms) := pe_imp (pe_bm PySem.F.plainAttrs_list slot hty hm ho ha hbase hfew hline hs hplain) (eLMut_t ok)
theorem je_lmut0 {i : Nat} {name : Str} {id : String} {r : V → List V → Hp → VK → Prop} {op : List D → List D → Option (D × List D)} {apos cpos : Pos} (slot : Slot "list" name id) (hty : typeOf (.builtin id) = pure (.type "method_descriptor")) (hm : MtR X id r) (ok : LMut X.K r op)
    (ho : PE X o (tVar i)) (hbase : attributeBase o name X.env (eval o X.env) = eval o X.env := by rfl) (hline : (apos.endLine == cpos.line) = true := by rfl) :
    JE X (.Call (.Attribute o name apos) [] [] cpos) (eLMut op i []) := pe_imp (pe_bm0 PySem.F.plainAttrs_list slot hty hm ho hbase hline) fun σ H Q h => by
  obtain ⟨v, hv, ty, q⟩ := eLMut_t (ms := []) ok σ H Q h
  obtain ⟨ρ, ds, ρ', fp, R, e, k⟩ := q
  cases e
  exact ⟨v, hv, ty, k [] H fp [] R .nil R.nodup Chg.refl⟩
def lAppend : List D → List D → Option (D × List D) := fun ds es => match es with
  | [d] => if ds.length < 16777216 then some (.non, ds ++ [d]) else none
  | _ => none
theorem keep_upd {K : PySem.W.Frag} {H : Hp} {a : Addr} {xs xs' : List V} (hl : H a = some (.lst xs)) : (∀ b ∈ [a], Mb (H b)) ∧ ∀ b o, H b = some o → b ∉ [a] → (upd H a (.lst xs')) b = some o :=
  ⟨fun b m => by rw [List.mem_singleton.mp m, hl]; trivial, fun b o e h => by rw [upd_ne (fun z => h (by rw [z]; exact List.mem_singleton.mpr rfl))]; exact e⟩
theorem reps_upd {K : PySem.W.Frag} {H : Hp} {a : Addr} {xs xs' : List V} {ys : List V} {ds : List D} {fp : List Addr} (hl : H a = some (.lst xs)) (r : Reps K H ys ds fp) (n : a ∉ fp) : Reps K (upd H a (.lst xs')) ys ds fp :=
  have z := keep_upd (K := K) (xs' := xs') hl
  Reps.keep z.1 z.2 _ _ _ r fun b m z => n (List.mem_singleton.mp z ▸ m)
theorem szlt {n : Nat} (h : n < 16777216) : n < sizeLine := by rw [sizeLine_eq]; exact h
theorem append_ok {K : PySem.W.Frag} : LMut K rAppend lAppend := by
  intro a xs ys ds es fp fe H Q d ds' hl rx ry n e k
  unfold lAppend at e
  split at e
  · rename_i d1
    split at e
    · rename_i hz
      cases e
      cases ry with
      | @cons y ys _ _ f fn r1 rn =>
        cases rn
        rw [List.append_nil] at n k
        have n1 := List.nodup_append.mp n
        have n2 := List.nodup_cons.mp n1.1
        have af : a ∉ f := fun m => n1.2.2 a List.mem_cons_self a m rfl
        refine ⟨a, xs, y, rfl, rfl, hl, szlt (by rw [rx.length]; exact hz), ?_⟩
        refine k .non (xs ++ [y]) [] (fp ++ f) .non ((reps_upd hl rx n2.1).append (reps_upd hl (Reps.single r1) af)) n fun b m => m
    · cases e
  · cases e
theorem js_append {i : Nat} {apos cpos pos2 : Pos} (ho : PE X o (tVar i)) (ha : JE X e m) (hbase : attributeBase o "append" X.env (eval o X.env) = eval o X.env := by rfl)
    (hfew : ((backTo cpos (starEach (e :: []) X.env)).all (fun x => !x.1) && (backToKw cpos (keywordEach [] X.env)).all (fun x => x.1.isSome)
      && decide ((e :: []).length + ([] : List Keyword).length + (if ([] : List Keyword).isEmpty then 0 else 1) < 30)) = true := by rfl)
    (hline : (apos.endLine == cpos.line) = true := by rfl) (hs : starEach (e :: []) X.env = (false, eval e X.env) :: starEach [] X.env := by rfl) (hplain : (backTo cpos (starEach [] X.env)).any (·.1) = false := by rfl)
    (hsw : swapsWith (.Call (.Attribute o "append" apos) [e] [] cpos) none pos2.line X.env = pure false := by rfl) :
    JS X io (.Expr (.Call (.Attribute o "append" apos) [e] [] cpos) pos2) (sExpr (eLMut lAppend i [m])) :=
  js_expr (je_lmut PySem.F.slot_list_append PySem.F.type_list_append mt_append append_ok ho (jms_cons ha jms_nil hs) hbase hfew hline hs hplain) hsw
def lInsert : List D → List D → Option (D × List D) := fun ds es => match es with
  | [.int i, d] => if ds.length < 16777216 ∧ 0 ≤ i ∧ i < 2 ^ 63 then some (.non, ds.take i.toNat ++ [d] ++ ds.drop i.toNat) else none
  | _ => none
theorem insert_ok {K : PySem.W.Frag} : LMut K (fun x vs H Q => ∃ (l : Addr) (xs : List V) (i : Int) (y : V), x = .ref l ∧ vs = [.int i, y] ∧ H l = some (.lst xs) ∧ xs.length < sizeLine ∧ 0 ≤ i ∧ i < 2 ^ 63 ∧
    Q .non (upd H l (.lst (xs.take i.toNat ++ [y] ++ xs.drop i.toNat)))) lInsert := by
  intro a xs ys ds es fp fe H Q d ds' hl rx ry n e k
  unfold lInsert at e
  split at e
  · rename_i i d1
    split at e
    · rename_i hz
      cases e
      cases ry with
      | @cons y0 ys _ _ f0 fn r0 rn =>
        cases r0
        cases rn with
        | @cons y ys _ _ f fn r1 rn =>
          cases rn
          rw [List.nil_append, List.append_nil] at n k
          have n1 := List.nodup_append.mp n
          have n2 := List.nodup_cons.mp n1.1
          have af : a ∉ f := fun m => n1.2.2 a List.mem_cons_self a m rfl
          refine ⟨a, xs, i, y, rfl, rfl, hl, szlt (by rw [rx.length]; exact hz.1), hz.2.1, hz.2.2, ?_⟩
          have rx' := reps_upd (xs' := xs.take i.toNat ++ [y] ++ xs.drop i.toNat) hl rx n2.1
          -- the two parts
          have cut : ∀ (ds : List D) (xs : List V) (fp : List Addr) (j : Nat) (H : Hp), Reps K H xs ds fp → ∃ f1 f2, fp = f1 ++ f2 ∧ Reps K H (xs.take j) (ds.take j) f1 ∧ Reps K H (xs.drop j) (ds.drop j) f2 := by
            intro ds
            induction ds with
            | nil =>
              intro xs fp j H r
              cases r
              exact ⟨[], [], rfl, by simpa using Reps.nil, by simpa using Reps.nil⟩
            | cons d ds ih =>
              intro xs fp j H r
              cases r with
              | @cons v vs _ _ f0 fp0 r rs =>
                cases j with
                | zero => exact ⟨[], _, rfl, .nil, .cons r rs⟩
                | succ j =>
                  obtain ⟨f1, f2, e, q1, q2⟩ := ih vs fp0 j H rs
                  exact ⟨f0 ++ f1, f2, by rw [e, List.append_assoc], .cons r q1, q2⟩
          obtain ⟨f1, f2, ef, q1, q2⟩ := cut _ _ _ i.toNat _ rx'
          refine k .non _ [] (f1 ++ f ++ f2) .non ((q1.append (reps_upd hl (Reps.single r1) af)).append q2) ?_ fun b m => ?_
          · subst ef
            rw [List.nil_append]
            have p : (a :: (f1 ++ f ++ f2)).Perm (a :: (f1 ++ f2) ++ f) := by
              rw [List.cons_append, List.append_assoc, List.append_assoc]
              exact List.Perm.cons _ (List.Perm.append_left _ List.perm_append_comm)
            exact p.nodup_iff.mpr n
          · subst ef
            rw [List.nil_append] at m
            rcases List.mem_append.mp m with m | m
            · rcases List.mem_append.mp m with m | m
              · exact List.mem_append_left _ (List.mem_append_left _ m)
              · exact List.mem_append_right _ m
            · exact List.mem_append_left _ (List.mem_append_right _ m)
    · cases e
  · cases e

/-! ### what loops walk -/
/-- the items are these as long as what is owned stands -/
def SeqIt (J : It) (K : PySem.W.Frag) (ds : List D) (own : List Addr) (H : Hp) : Prop :=
  ∀ (A : List Addr) (H2 : Hp), (∀ b ∈ A, Mb (H b)) → (∀ b o, H b = some o → b ∉ A → H2 b = some o) → (∀ a ∈ own, a ∉ A) → ∀ i,
    (∀ d, ds[i]? = some d → J.go i H2 ∧ ∀ x H3, J.yld i H2 x H3 → Same H2 H3 ∧ Rep K H3 x d []) ∧ (ds.length ≤ i → J.stop i H2)
abbrev MI := Env → Option (List D × Env)
/-- a walked thing of one's own; its items are no lists -/
def tI (K : PySem.W.Frag) (it : MI) : TI := fun σ H R => ∃ ρ ds ρ' fp, Rel K H σ ρ fp ∧ it ρ = some (ds, ρ') ∧
  ∀ J H' fp' own, Rel K H' σ ρ' fp' → (own ++ fp').Nodup → Chg H H' fp (own ++ fp') → (∀ a ∈ own, Mb (H' a)) → SeqIt J K ds own H' → R J H'
abbrev JI (X : Cx) (tg e : Expr) (it : MI) : Prop := PI X tg e (tI X.K it)
/-- the items of a value -/
def seqD : D → Option (List D)
  | .tup ds => if noLists ds then some ds else none
  | .lst ds => if noLists ds then some ds else none
  | .frz ds => if noLists ds then some ds else none
  | .str z => some (z.cps.toList.map fun c => .str ⟨#[c]⟩)
  | _ => none
def iSeq (m : ME) : MI := fun ρ => match m ρ with
  | some (d, ρ') => (match seqD d with
    | some ds => some (ds, ρ')
    | none => none)
  | none => none
def tiAny (K : PySem.W.Frag) (te : TE) : TI := fun σ H R => iTup K te σ H R ∨ iList K te σ H R
theorem pi_any {tg : Expr} {te : TE} (he : PE X e te) : PI X tg e (tiAny X.K te) := ⟨fun pins s σ H R I h => h.elim (fun h => (pi_tup he).run pins s σ H R I h) fun h => (pi_list he).run pins s σ H R I h⟩
theorem seq_tup {K : PySem.W.Frag} {H : Hp} {a : Addr} {xs : List V} {ds : List D} {own : List Addr} (s : SqT K H a xs) (r : Reps K H xs ds []) : SeqIt (Itt K a) K ds own H := by
  intro A H2 hA kp _ i
  have s2 := sqT_keep hA kp s
  have r2 := Reps.keep hA kp _ _ _ r fun a m => nomatch m
  refine ⟨fun d hd => ?_, fun hl => ⟨xs, s2, by rw [r.length]; exact hl⟩⟩
  obtain ⟨v, f, e1, rv, sb⟩ := r2.getS hd
  have z := List.eq_nil_of_sublist_nil sb
  subst z
  refine ⟨⟨xs, v, s2, e1⟩, fun x H3 y => ?_⟩
  obtain ⟨rfl, hy⟩ := y
  have e2 := hy xs s2
  rw [e1] at e2
  cases e2
  exact ⟨Same.refl _, rv⟩
theorem seq_lst {K : PySem.W.Frag} {H : Hp} {a : Addr} {xs : List V} {ds : List D} {own : List Addr} (s : SqL K H a xs) (st : ∀ (A : List Addr) (H2 : Hp), (∀ b ∈ A, Mb (H b)) → (∀ b o, H b = some o → b ∉ A → H2 b = some o) → (∀ a ∈ own, a ∉ A) → SqL K H2 a xs) (r : Reps K H xs ds []) : SeqIt (Itl K a) K ds own H := by
  intro A H2 hA kp ow i
  have s2 := st A H2 hA kp ow
  have r2 := Reps.keep hA kp _ _ _ r fun a m => nomatch m
  refine ⟨fun d hd => ?_, fun hl => ⟨xs, s2, by rw [r.length]; exact hl⟩⟩
  obtain ⟨v, f, e1, rv, sb⟩ := r2.getS hd
  have z := List.eq_nil_of_sublist_nil sb
  subst z
  refine ⟨⟨xs, v, s2, e1⟩, fun x H3 y => ?_⟩
  obtain ⟨rfl, hy⟩ := y
  have e2 := hy xs s2
  rw [e1] at e2
  cases e2
  exact ⟨Same.refl _, rv⟩
/-- a value's items, in its iterator -/
theorem val_tup {K : PySem.W.Frag} {H : Hp} {v : V} {es ds : List D} {f : List Addr} (r : Rep K H v (.tup es) f) (e : seqD (.tup es) = some ds) : ∃ a xs, v = .ref a ∧ SqT K H a xs ∧ SeqIt (Itt K a) K ds f H := by
  have e : (if noLists es = true then some es else none) = some ds := e
  split at e
  · rename_i hn
    cases e
    cases r with
    | tup s r =>
      have z := Reps.nol _ _ _ r hn
      subst z
      exact ⟨_, _, rfl, s, seq_tup s r⟩
  · cases e
theorem val_lst {K : PySem.W.Frag} {H : Hp} {v : V} {es ds : List D} {f : List Addr} (r : Rep K H v (.lst es) f) (e : seqD (.lst es) = some ds) : ∃ a xs, v = .ref a ∧ SqL K H a xs ∧ SeqIt (Itl K a) K ds f H := by
  have e : (if noLists es = true then some es else none) = some ds := e
  split at e
  · rename_i hn
    cases e
    cases r with
    | @lst a xs _ g s r =>
      have z := Reps.nol _ _ _ r hn
      subst z
      exact ⟨_, _, rfl, .inl (.inl s), seq_lst (.inl (.inl s)) (fun A H2 hA kp ow => .inl (.inl (kp _ _ s (ow a List.mem_cons_self)))) r⟩
  · cases e
theorem val_frz {K : PySem.W.Frag} {H : Hp} {v : V} {es ds : List D} {f : List Addr} (r : Rep K H v (.frz es) f) (e : seqD (.frz es) = some ds) : ∃ a xs, v = .ref a ∧ SqL K H a xs ∧ SeqIt (Itl K a) K ds f H := by
  have e : (if noLists es = true then some es else none) = some ds := e
  split at e
  · rename_i hn
    cases e
    cases r with
    | frz s r => exact ⟨_, _, rfl, s.sq, seq_lst s.sq (fun A H2 hA kp ow => (fz_keep hA kp s).sq) r⟩
  · cases e
def notStr : D → Bool
  | .str _ => false
  | _ => true
/-- .. of a tuple or a list (for a text: ji_str) -/
def iSeqL (m : ME) : MI := fun ρ => match m ρ with
  | some (d, ρ') => if notStr d then (match seqD d with
    | some ds => some (ds, ρ')
    | none => none) else none
  | none => none
theorem ji_seq {tg : Expr} (h : JE X e m) : JI X tg e (iSeqL m) := pi_imp (pi_any h) fun σ H R => by
  rintro ⟨ρ, ds, ρ', fp, Re, e, k⟩
  unfold iSeqL at e
  split at e
  · rename_i d ρ1 e1
    split at e
    · rename_i hs
      split at e
      · rename_i ds' e2
        cases e
        -- which one it is hangs on the datum
        cases d with
        | tup es =>
          refine .inl ⟨ρ, _, ρ', fp, Re, e1, fun v H1 fp1 fr R1 r n c => ?_⟩
          obtain ⟨a, xs, rfl, s, J⟩ := val_tup r e2
          exact ⟨a, rfl, ⟨xs, s⟩, k _ H1 fp1 fr R1 n c (Rep.mb _ _ _ r) J⟩
        | lst es =>
          refine .inr ⟨ρ, _, ρ', fp, Re, e1, fun v H1 fp1 fr R1 r n c => ?_⟩
          obtain ⟨a, xs, rfl, s, J⟩ := val_lst r e2
          exact ⟨a, rfl, ⟨xs, s⟩, k _ H1 fp1 fr R1 n c (Rep.mb _ _ _ r) J⟩
        | frz es =>
          refine .inr ⟨ρ, _, ρ', fp, Re, e1, fun v H1 fp1 fr R1 r n c => ?_⟩
          obtain ⟨a, xs, rfl, s, J⟩ := val_frz r e2
          exact ⟨a, rfl, ⟨xs, s⟩, k _ H1 fp1 fr R1 n c (Rep.mb _ _ _ r) J⟩
        | str z => cases hs
        | _ => cases e2
      · cases e
    · cases e
  · cases e
/-- the signs of a text -/
def iStrD (m : ME) : MI := fun ρ => match m ρ with
  | some (.str z, ρ') => some (z.cps.toList.map fun c => .str ⟨#[c]⟩, ρ')
  | _ => none
/-- numbers in order -/
def numsD (lo : Int) (n : Nat) : List D := (List.range n).map fun i => .int (lo + (i : Nat))
theorem seq_rng {K : PySem.W.Frag} {H : Hp} {lo : Int} {n : Nat} {own : List Addr} : SeqIt (Itr lo n) K (numsD lo n) own H := by
  intro A H2 hA kp _ i
  refine ⟨fun d hd => ?_, fun hl => ?_⟩
  · unfold numsD at hd
    rw [List.getElem?_map] at hd
    by_cases hi : i < n
    · rw [List.getElem?_range hi] at hd
      cases hd
      refine ⟨hi, fun x H3 y => ?_⟩
      obtain ⟨rfl, rfl⟩ := y
      exact ⟨Same.refl _, .int _⟩
    · rw [List.getElem?_eq_none (by rw [List.length_range]; omega)] at hd
      cases hd
  · unfold numsD at hl
    rw [List.length_map, List.length_range] at hl
    exact hl
def iRng (ms : List ME) : MI := fun ρ => match evs ms ρ with
  | some ([.int n], ρ') => if -(2 ^ 62) ≤ n ∧ n < 2 ^ 62 then some (numsD 0 n.toNat, ρ') else none
  | some ([.int lo, .int hi], ρ') => if -(2 ^ 62) ≤ lo ∧ lo < 2 ^ 62 ∧ -(2 ^ 62) ≤ hi ∧ hi < 2 ^ 62 then some (numsD lo (hi - lo).toNat, ρ') else none
  | _ => none
theorem ji_range1 {tg : Expr} {px : Pos} (hg : Gl X "range") (hm : X.mg "range" = none) (ha : JMs X [a] [m]) (hs : starEach [a] X.env = [(false, eval a X.env)] := by rfl) : JI X tg (.Call (.Name "range" px) [a] [] pos) (iRng [m]) := pi_imp (pi_range1 hg hm ha hs) fun σ H R => by
  rintro ⟨ρ, ds, ρ', fp, Re, e, k⟩
  unfold iRng at e
  split at e
  · rename_i n ρ1 e1
    split at e
    · rename_i hb
      cases e
      refine ⟨ρ, _, ρ', fp, Re, e1, fun vs H1 fp1 fr R1 r nn c => ?_⟩
      cases r with
      | cons r rn =>
        cases rn
        cases r
        exact ⟨n, rfl, hb.1, hb.2, k _ H1 fp1 [] R1 R1.nodup (c.sub fun a m => List.mem_append_right _ m) (fun a m => nomatch m) seq_rng⟩
    · cases e
  · rename_i lo hi ρ1 e1
    exact absurd (evs_len e1) (by simp)
  · cases e
theorem ji_range2 {tg : Expr} {px : Pos} (hg : Gl X "range") (hm : X.mg "range" = none) (ha : JMs X [a, b] [m1, m2]) (hs : starEach [a, b] X.env = [(false, eval a X.env), (false, eval b X.env)] := by rfl) (hs2 : starEach [b] X.env = [(false, eval b X.env)] := by rfl) :
    JI X tg (.Call (.Name "range" px) [a, b] [] pos) (iRng [m1, m2]) := pi_imp (pi_range2 hg hm ha hs hs2) fun σ H R => by
  rintro ⟨ρ, ds, ρ', fp, Re, e, k⟩
  unfold iRng at e
  split at e
  · rename_i n ρ1 e1
    exact absurd (evs_len e1) (by simp)
  · rename_i lo hi ρ1 e1
    split at e
    · rename_i hb
      cases e
      refine ⟨ρ, _, ρ', fp, Re, e1, fun vs H1 fp1 fr R1 r nn c => ?_⟩
      cases r with
      | cons r rn =>
        cases rn with
        | cons r2 rn =>
          cases rn
          cases r
          cases r2
          exact ⟨lo, hi, rfl, hb, k _ H1 fp1 [] R1 R1.nodup (c.sub fun a m => List.mem_append_right _ m) (fun a m => nomatch m) seq_rng⟩
    · cases e
  · cases e

/-! ### for -/
def forD (g : MG) (b : MS) : List D → Env → Option (Out × Env)
  | [], ρ => some (.nx, ρ)
  | d :: ds, ρ => (match g d ρ with
    | some ρ1 => (match b ρ1 with
      | some (.nx, ρ2) => forD g b ds ρ2
      | some (.ct, ρ2) => forD g b ds ρ2
      | some (.bk, ρ2) => some (.nx, ρ2)
      | some (.rt r, ρ2) => some (.rt r, ρ2)
      | none => none)
    | none => none)
theorem drop_cons {α : Type} {l : List α} {i : Nat} {d : α} (h : l[i]? = some d) : l.drop i = d :: l.drop (i + 1) := by
  obtain ⟨hi, e⟩ := List.getElem?_eq_some_iff.mp h
  rw [List.drop_eq_getElem_cons hi, e]
theorem for_core {K : PySem.W.Frag} {J : It} {ds : List D} {own fp : List Addr} {σ : L2.St} {H : Hp} {ρ ρ' : Env} {o : Out} {g : MG} {b : MS} {D : Ends} (R : Rel K H σ ρ fp) (n : (own ++ fp).Nodup) (S : SeqIt J K ds own H)
    (e : forD g b ds ρ = some (o, ρ')) (k : SPost K io D σ H fp ρ' o) :
    ∃ W : Nat → Nat → L2.St → Hp → Prop, (∃ m, W 0 m σ H) ∧ ∀ i m σ H, W i m σ H →
      (J.stop i H ∧ D.nx σ H) ∨ (J.go i H ∧ ∃ N : L2.St → Hp → Prop, (∀ σ' H', N σ' H' → ∃ m', m' < m ∧ W (i + 1) m' σ' H') ∧ ∀ x H', J.yld i H x H' → tG K io g x σ H' fun σ2 H2 => tS K io b { D with nx := N, ct := N, bk := D.nx } σ2 H2) := by
  have ow : ∀ a ∈ own, a ∉ fp := fun a m z => (List.nodup_append.mp n).2.2 a m a z rfl
  refine ⟨fun i m σ1 H1 => m = ds.length - i ∧ i ≤ ds.length ∧ ∃ ρ1 fp1, Rel K H1 σ1 ρ1 fp1 ∧ forD g b (ds.drop i) ρ1 = some (o, ρ') ∧ Chg H H1 fp fp1 ∧ Pin io σ σ1, ⟨ds.length, by omega, by omega, ρ, fp, R, e, Chg.refl, Pin.refl⟩, ?_⟩
  rintro i m σ1 H1 ⟨rfl, hi, ρ1, fp1, R1, e1, c1, p1⟩
  have S1 := S fp H1 R.mb c1.keep ow i
  cases hd : ds[i]? with
  | none =>
    have hl : ds.length ≤ i := List.getElem?_eq_none_iff.mp hd
    rw [List.drop_of_length_le hl] at e1
    cases e1
    exact .inl ⟨S1.2 hl, k σ1 H1 fp1 R1 c1 p1⟩
  | some d =>
    have hlt : i < ds.length := (List.getElem?_eq_some_iff.mp hd).1
    rw [drop_cons hd] at e1
    obtain ⟨go, yl⟩ := S1.1 d hd
    refine .inr ⟨go, fun σ' H' => (i + 1 ≤ ds.length ∧ ∃ ρ1 fp1, Rel K H' σ' ρ1 fp1 ∧ forD g b (ds.drop (i + 1)) ρ1 = some (o, ρ') ∧ Chg H H' fp fp1 ∧ Pin io σ σ'), fun σ' H' ⟨h1, h2⟩ => ⟨ds.length - (i + 1), by omega, rfl, h1, h2⟩, fun x H3 y => ?_⟩
    obtain ⟨sm, rx⟩ := yl x H3 y
    have e1 : (match g d ρ1 with
      | some ρ1 => (match b ρ1 with
        | some (.nx, ρ2) => forD g b (ds.drop (i + 1)) ρ2
        | some (.ct, ρ2) => forD g b (ds.drop (i + 1)) ρ2
        | some (.bk, ρ2) => some (.nx, ρ2)
        | some (.rt r, ρ2) => some (.rt r, ρ2)
        | none => none)
      | none => none) = some (o, ρ') := e1
    split at e1
    · rename_i ρ2 e2
      refine ⟨ρ1, d, ρ2, fp1, R1.same sm, rx, e2, fun σ2 H2 fp2 R2 c2 p2 => ?_⟩
      have c12 : Chg H H2 fp fp2 := c1.trans ((Chg.same sm).trans c2 fun a m => m) fun a m => m
      have p12 := p1.trans p2
      split at e1
      · rename_i ρ3 e3
        exact ⟨ρ2, .nx, ρ3, fp2, R2, e3, fun σ3 H3 fp3 R3 c3 p3 => ⟨hlt, ρ3, fp3, R3, e1, c12.trans c3 fun a m => m, p12.trans p3⟩⟩
      · rename_i ρ3 e3
        exact ⟨ρ2, .ct, ρ3, fp2, R2, e3, fun σ3 H3 fp3 R3 c3 p3 => ⟨hlt, ρ3, fp3, R3, e1, c12.trans c3 fun a m => m, p12.trans p3⟩⟩
      · rename_i ρ3 e3
        cases e1
        exact ⟨ρ2, .bk, ρ', fp2, R2, e3, fun σ3 H3 fp3 R3 c3 p3 => k σ3 H3 fp3 R3 (c12.trans c3 fun a m => m) (p12.trans p3)⟩
      · rename_i r ρ3 e3
        cases e1
        exact ⟨ρ2, .rt r, ρ', fp2, R2, e3, fun v σ3 H3 fp3 fr R3 rr nn c3 p3 => k v σ3 H3 fp3 fr R3 rr nn (c12.trans c3 fun a m => m) (p12.trans p3)⟩
      · cases e1
    · cases e1
def sFor (it : MI) (g : MG) (b : MS) : MS := fun ρ => match it ρ with
  | some (ds, ρ1) => forD g b ds ρ1
  | none => none
theorem js_for {tg : Expr} {it : MI} {g : MG} {b : MS} {iter : Expr} (hp : PassesOwn (model X.prog X.w) X.A X.env X.xe) (hc : X.calm = true) (hi : JI X tg iter it) (hg : JG X io tg g) (hb : JSs X io sts b)
    (hs : ∀ x, foldedSetIterable iter X.env x = pure x := by intro _; rfl) : JS X io (.For tg iter sts [] pos) (sFor it g b) := ps_imp (ps_for hp hc hi hg hb hs) fun D σ H => by
  rintro ⟨ρ, o, ρ', fp, R, e, k⟩
  unfold sFor at e
  split at e
  · rename_i ds ρ1 e1
    refine ⟨ρ, ds, ρ1, fp, R, e1, fun J H1 fp1 own R1 n c mb S => ?_⟩
    exact for_core R1 n S e (k.from (c.sub fun a m => List.mem_append_right _ m) Pin.refl)
  · cases e
/-- over a name's list, which nobody reads meanwhile -/
def sForN (i : Nat) (g : MG) (b : MS) : MS := fun ρ => match nth ρ i with
  | some d => if notStr d then (match seqD d with
    | some ds => (match forD g b ds (ρ.set i none) with
      | some (.nx, ρ1) => some (.nx, ρ1.set i (some d))
      | some (.rt r, ρ1) => some (.rt r, ρ1.set i (some d))
      | _ => none)
    | none => none) else none
  | none => none
theorem iTL {K : PySem.W.Frag} {v : V} {d : D} {ds : List D} {f : List Addr} {H : Hp} (r : Rep K H v d f) (e : seqD d = some ds) (hs : notStr d = true) : ∃ J, SeqIt J K ds f H ∧ ((∃ a xs, v = .ref a ∧ SqT K H a xs ∧ J = Itt K a) ∨ ∃ a xs, v = .ref a ∧ SqL K H a xs ∧ J = Itl K a) := by
  cases d with
  | tup es =>
    obtain ⟨a, xs, rfl, s, J⟩ := val_tup r e
    exact ⟨_, J, .inl ⟨a, xs, rfl, s, rfl⟩⟩
  | lst es =>
    obtain ⟨a, xs, rfl, s, J⟩ := val_lst r e
    exact ⟨_, J, .inr ⟨a, xs, rfl, s, rfl⟩⟩
  | frz es =>
    obtain ⟨a, xs, rfl, s, J⟩ := val_frz r e
    exact ⟨_, J, .inr ⟨a, xs, rfl, s, rfl⟩⟩
  | str z => cases hs
  | _ => cases e
theorem js_forN {i : Nat} {tg : Expr} {g : MG} {b : MS} {iter : Expr} (hp : PassesOwn (model X.prog X.w) X.A X.env X.xe) (hc : X.calm = true) (hi : PE X iter (tVar i)) (hg : JG X (i :: io) tg g) (hb : JSs X (i :: io) sts b)
    (hs : ∀ x, foldedSetIterable iter X.env x = pure x := by intro _; rfl) : JS X io (.For tg iter sts [] pos) (sForN i g b) := ps_imp (ps_for hp hc (pi_any hi) hg hb hs) fun D σ H => by
  rintro ⟨ρ, o, ρ', fp, R, e, k⟩
  unfold sForN at e
  split at e
  · rename_i d e1
    split at e
    · rename_i hst
      split at e
      · rename_i ds e2
        obtain ⟨v, f, fq, hv, r, R1, n, s⟩ := R.take (nth_some e1)
        obtain ⟨J, S, hJ⟩ := iTL r e2 hst
        -- what comes behind the loop
        have back : ∀ (o1 : Out) (ρ1 : Env), (o1 = .nx ∧ o = .nx ∨ ∃ x, o1 = .rt x ∧ o = .rt x) → ρ' = ρ1.set i (some d) → SPost X.K (i :: io) D σ H fq ρ1 o1 := by
          intro o1 ρ1 ho hρ
          have core : ∀ (σ1 : L2.St) (H1 : Hp) (fp1 fr : List Addr), Rel X.K H1 σ1 ρ1 fp1 → (fr ++ fp1).Nodup → Chg H H1 fq (fr ++ fp1) → Pin (i :: io) σ σ1 →
              ∃ fp2, Rel X.K H1 σ1 ρ' fp2 ∧ (fr ++ fp2).Nodup ∧ Chg H H1 fp (fr ++ fp2) ∧ Pin io σ σ1 := by
            intro σ1 H1 fp1 fr R2 n2 c p
            have r1 := rep_aside r c R1.mb n
            have hv1 : σ1[i]? = some (some v) := (p.2 i List.mem_cons_self).trans hv
            have n3 := nd_aside c (Rep.mb _ _ _ r) n n2
            have n4 := List.nodup_append.mp n3
            have n5 := List.nodup_append.mp n2
            obtain ⟨fp2, R3, s3⟩ := R2.put' hv1 r1 (List.nodup_append.mpr ⟨n4.1, n5.2.1, fun a ha b hb => n4.2.2 a ha b (List.mem_append_right _ hb)⟩)
            rw [← hρ] at R3
            refine ⟨fp2, R3, List.nodup_append.mpr ⟨n5.1, R3.nodup, fun a ha b hb => ?_⟩, ⟨fun b o e h => c.keep b o e fun m => h ((s b).mpr (List.mem_append_right _ m)), fun b m => ?_⟩, ⟨p.1, fun j m => p.2 j (List.mem_cons_of_mem _ m)⟩⟩
            · rcases List.mem_append.mp (s3 b hb) with m | m
              · exact fun e => n4.2.2 b m a (List.mem_append_left _ ha) e.symm
              · exact n5.2.2 a ha b m
            · have old : ∀ x, x ∈ fr ++ fp1 → x ∈ fp ∨ H x = none := fun x m => (c.new x m).imp (fun m => (s x).mpr (List.mem_append_right _ m)) id
              rcases List.mem_append.mp m with m | m
              · exact old b (List.mem_append_left _ m)
              · rcases List.mem_append.mp (s3 b m) with m | m
                · exact .inl ((s b).mpr (List.mem_append_left _ m))
                · exact old b (List.mem_append_right _ m)
          rcases ho with ⟨rfl, rfl⟩ | ⟨x, rfl, rfl⟩
          · intro σ1 H1 fp1 R2 c p
            obtain ⟨fp2, R3, _, c3, p3⟩ := core σ1 H1 fp1 [] R2 R2.nodup c p
            exact k σ1 H1 fp2 R3 c3 p3
          · intro w σ1 H1 fp1 fr R2 rw n2 c p
            obtain ⟨fp2, R3, n3, c3, p3⟩ := core σ1 H1 fp1 fr R2 n2 c p
            exact k w σ1 H1 fp2 fr R3 rw n3 c3 p3
        have go : ∀ (o1 : Out) (ρ1 : Env), forD g b ds (ρ.set i none) = some (o1, ρ1) → SPost X.K (i :: io) D σ H fq ρ1 o1 → tFor (tiAny X.K (tVar i)) (tG X.K (i :: io) g) (tS X.K (i :: io) b) D σ H := by
          intro o1 ρ1 e3 post
          have C := for_core R1 n S e3 post
          rcases hJ with ⟨a, xs, rfl, sq, rfl⟩ | ⟨a, xs, rfl, sq, rfl⟩
          · exact .inl ⟨_, hv, a, rfl, ⟨xs, sq⟩, C⟩
          · exact .inr ⟨_, hv, a, rfl, ⟨xs, sq⟩, C⟩
        split at e
        · rename_i ρ1 e3
          cases e
          exact go _ _ e3 (back .nx ρ1 (.inl ⟨rfl, rfl⟩) rfl)
        · rename_i x ρ1 e3
          cases e
          exact go _ _ e3 (back (.rt x) ρ1 (.inr ⟨x, rfl, rfl⟩) rfl)
        · cases e
      · cases e
    · cases e
  · cases e

/-! ### while -/
def whileD (t : MT) (b : MS) : Nat → Env → Option (Out × Env)
  | 0, _ => none
  | n + 1, ρ => (match t ρ with
    | some (true, ρ1) => (match b ρ1 with
      | some (.nx, ρ2) => whileD t b n ρ2
      | some (.ct, ρ2) => whileD t b n ρ2
      | some (.bk, ρ2) => some (.nx, ρ2)
      | some (.rt r, ρ2) => some (.rt r, ρ2)
      | none => none)
    | some (false, ρ1) => some (.nx, ρ1)
    | none => none)
theorem js_while {n : Nat} {b : MS} (hp : PassesOwn (model X.prog X.w) X.A X.env X.xe) (ht : JT X c t) (hb : JSs X io sts b) : JS X io (.While c sts [] pos) (whileD t b n) := ps_imp (ps_while hp ht hb) fun D σ H => by
  rintro ⟨ρ, o, ρ', fp, R, e, k⟩
  refine ⟨fun m σ1 H1 => ∃ ρ1 fp1, Rel X.K H1 σ1 ρ1 fp1 ∧ whileD t b m ρ1 = some (o, ρ') ∧ Chg H H1 fp fp1 ∧ Pin io σ σ1, ⟨n, ρ, fp, R, e, Chg.refl, Pin.refl⟩, ?_⟩
  rintro m σ1 H1 ⟨ρ1, fp1, R1, e1, c1, p1⟩
  cases m with
  | zero => cases e1
  | succ m =>
    unfold whileD at e1
    split at e1
    · rename_i ρ2 e2
      refine ⟨ρ1, true, ρ2, fp1, R1, e2, fun H2 fp2 R2 c2 => iteT ?_⟩
      have c12 := c1.trans c2 fun a m => m
      refine ⟨fun σ' H' => ∃ ρ1 fp1, Rel X.K H' σ' ρ1 fp1 ∧ whileD t b m ρ1 = some (o, ρ') ∧ Chg H H' fp fp1 ∧ Pin io σ σ', fun σ' H' h => ⟨m, Nat.lt_succ_self m, h⟩, ?_⟩
      split at e1
      · rename_i ρ3 e3
        exact ⟨ρ2, .nx, ρ3, fp2, R2, e3, fun σ3 H3 fp3 R3 c3 p3 => ⟨ρ3, fp3, R3, e1, c12.trans c3 fun a m => m, p1.trans p3⟩⟩
      · rename_i ρ3 e3
        exact ⟨ρ2, .ct, ρ3, fp2, R2, e3, fun σ3 H3 fp3 R3 c3 p3 => ⟨ρ3, fp3, R3, e1, c12.trans c3 fun a m => m, p1.trans p3⟩⟩
      · rename_i ρ3 e3
        cases e1
        exact ⟨ρ2, .bk, ρ', fp2, R2, e3, fun σ3 H3 fp3 R3 c3 p3 => k σ3 H3 fp3 R3 (c12.trans c3 fun a m => m) (p1.trans p3)⟩
      · rename_i r ρ3 e3
        cases e1
        exact ⟨ρ2, .rt r, ρ', fp2, R2, e3, fun v σ3 H3 fp3 fr R3 rr nn c3 p3 => k v σ3 H3 fp3 fr R3 rr nn (c12.trans c3 fun a m => m) (p1.trans p3)⟩
      · cases e1
    · rename_i ρ2 e2
      cases e1
      refine ⟨ρ1, false, ρ', fp1, R1, e2, fun H2 fp2 R2 c2 => iteF ?_⟩
      exact k σ1 H2 fp2 R2 (c1.trans c2 fun a m => m) p1
    · cases e1
end
end Bv

namespace Bv
open PySem PySem.Spec PyProof.Rows L2

/-! ### comprehensions -/
def wipeE : List Nat → Env → Env
  | [], ρ => ρ
  | i :: is, ρ => (wipeE is ρ).set i none
theorem Slots.dropS {K : PySem.W.Frag} {H : Hp} {σ : L2.St} {ρ : Env} {fs : List (List Addr)} (h : Slots K H σ ρ fs) : ∀ (i : Nat) (x : Option V), Slots K H (σ.set i x) (ρ.set i none) (fs.set i []) := by
  induction h with
  | nil => intro i x; exact .nil
  | no h ih =>
    intro i x
    cases i with
    | zero => exact .no h
    | succ i => exact .no (ih i x)
  | so r0 h ih =>
    intro i x
    cases i with
    | zero => exact .no h
    | succ i => exact .so r0 (ih i x)
theorem Rel.dropS {K : PySem.W.Frag} {H : Hp} {σ : L2.St} {ρ : Env} {fp : List Addr} (h : Rel K H σ ρ fp) (i : Nat) (x : Option V) : ∃ fq, Rel K H (σ.set i x) (ρ.set i none) fq ∧ ∀ a ∈ fq, a ∈ fp := by
  obtain ⟨fs, s, rfl, n⟩ := h
  cases e : fs[i]? with
  | none =>
    have hl : fs.length ≤ i := List.getElem?_eq_none_iff.mp e
    have hs := s.len
    refine ⟨fs.flatten, ⟨fs, ?_, rfl, n⟩, fun a m => m⟩
    rw [List.set_eq_of_length_le (by omega), List.set_eq_of_length_le (by omega)]
    exact s
  | some f =>
    have p := flat_perm e
    refine ⟨_, ⟨_, s.dropS i x, rfl, (List.nodup_append.mp (p.nodup_iff.mp n)).2.1⟩, fun a m => p.mem_iff.mpr (List.mem_append_right _ m)⟩
theorem Rel.wipe {K : PySem.W.Frag} {H : Hp} {σ : L2.St} {ρ : Env} {fp : List Addr} (h : Rel K H σ ρ fp) : ∀ (vs : List Nat), ∃ fq, Rel K H (L2.wipe σ vs) (wipeE vs ρ) fq ∧ ∀ a ∈ fq, a ∈ fp
  | [] => ⟨fp, h, fun a m => m⟩
  | i :: vs => by
    obtain ⟨fq, R, s⟩ := Rel.wipe h vs
    obtain ⟨fr, R2, s2⟩ := R.dropS i none
    exact ⟨fr, R2, fun a m => s a (s2 a m)⟩
theorem Slots.more {K : PySem.W.Frag} {H : Hp} {σ : L2.St} {ρ : Env} {fs : List (List Addr)} (h : Slots K H σ ρ fs) : ∀ {σ2 : L2.St}, σ2.length = σ.length → (∀ (i : Nat) v, σ[i]? = some (some v) → σ2[i]? = some (some v)) → Slots K H σ2 ρ fs := by
  induction h with
  | nil =>
    intro σ2 hl _
    have : σ2 = [] := List.length_eq_zero_iff.mp hl
    subst this
    exact .nil
  | no h ih =>
    intro σ2 hl hs
    cases σ2 with
    | nil => simp at hl
    | cons y σ2 => exact .no (ih (by simpa using hl) fun i v e => by simpa using hs (i + 1) v (by simpa using e))
  | so r h ih =>
    intro σ2 hl hs
    cases σ2 with
    | nil => simp at hl
    | cons y σ2 =>
      have e0 := hs 0 _ rfl
      have e0 : some y = some (some _) := e0
      cases e0
      exact .so r (ih (by simpa using hl) fun i v e => by simpa using hs (i + 1) v (by simpa using e))
theorem Rel.unwipe {K : PySem.W.Frag} {H : Hp} {σ : L2.St} {ρ : Env} {fp : List Addr} {vs : List Nat} (h : Rel K H (L2.wipe σ vs) ρ fp) : Rel K H σ ρ fp := by
  obtain ⟨fs, s, e, n⟩ := h
  exact ⟨fs, s.more (wipe_length σ vs).symm fun i v e => (wipe_some e).1, e, n⟩
def lcD (g : MG) (tt : MT) (te : ME) (own : List Nat) : List D → Env → Option (List D × Env)
  | [], ρ => some ([], ρ)
  | d :: ds, ρ => (match g d ρ with
    | some ρ1 => (match tt ρ1 with
      | some (true, ρ2) => (match te ρ2 with
        | some (y, ρ3) => (match lcD g tt te own ds (wipeE own ρ3) with
          | some (ys, ρ4) => some (y :: ys, ρ4)
          | none => none)
        | none => none)
      | some (false, ρ2) => lcD g tt te own ds (wipeE own ρ2)
      | none => none)
    | none => none)
def eLc (it : MI) (g : MG) (tt : MT) (te : ME) (own : List Nat) : ME := fun ρ => match it ρ with
  | some (ds, ρ1) => if ds.length ≤ 16777216 then (match lcD g tt te own ds (wipeE own ρ1) with
    | some (ys, ρ2) => some (.lst ys, ρ2)
    | none => none) else none
  | none => none
def mYes : MT := fun ρ => some (true, ρ)
/-- the slots that are not the block's own -/
def others (n : Nat) (own : List Nat) : List Nat := (List.range n).filter fun i => !own.contains i
theorem wipe_pin {σ σ2 : L2.St} {n : Nat} {own : List Nat} (hn : σ.length = n) (p : Pin (others n own) (L2.wipe σ own) σ2) : L2.wipe σ2 own = L2.wipe σ own := by
  have hl : σ2.length = σ.length := by rw [p.1, wipe_length]
  have none_in : ∀ (τ : L2.St) (vs : List Nat) (i : Nat), i ∈ vs → i < τ.length → (L2.wipe τ vs)[i]? = some none := by
    intro τ vs
    induction vs with
    | nil => intro i m _; cases m
    | cons v vs ih =>
      intro i m hi
      show ((L2.wipe τ vs).set v none)[i]? = some none
      by_cases e : v = i
      · subst e
        rw [List.getElem?_set_self (by rw [wipe_length]; exact hi)]
      · rw [List.getElem?_set_ne e]
        rcases List.mem_cons.mp m with z | m
        · exact absurd z.symm e
        · exact ih i m hi
  apply List.ext_getElem?
  intro i
  by_cases hi : i < σ.length
  · by_cases hm : i ∈ own
    · rw [none_in σ2 own i hm (by omega), none_in σ own i hm hi]
    · rw [wipe_out hm, p.2 i (by
        unfold others
        rw [List.mem_filter]
        exact ⟨List.mem_range.mpr (by omega), by simp [hm]⟩)]
  · rw [List.getElem?_eq_none (by rw [wipe_length]; omega), List.getElem?_eq_none (by rw [wipe_length]; omega)]
section
variable {X : Cx} {m : ME}
theorem nd_sub {l A B : List Addr} (n : (l ++ A).Nodup) (nB : B.Nodup) (s : ∀ a ∈ B, a ∈ A) : (l ++ B).Nodup :=
  List.nodup_append.mpr ⟨(List.nodup_append.mp n).1, nB, fun a ha b hb => (List.nodup_append.mp n).2.2 a ha b (s b hb)⟩
theorem chg_step {H1 H3 H4 : Hp} {A l B C : List Addr} (c : Chg H1 H3 A (l ++ B)) (c2 : Chg H3 H4 B C) : Chg H1 H4 A (l ++ C) := by
  have c3 : Chg H1 H4 A C := c.trans c2 fun a m => List.mem_append_right _ m
  exact ⟨c3.keep, fun b m => (List.mem_append.mp m).elim (fun m => c.new b (List.mem_append_left _ m)) (c3.new b)⟩
theorem chg_in {H1 H : Hp} {A B : List Addr} {D : Addr} {o : HO} (c : Chg H1 H A B) (hD : H1 D = none) : Chg H1 (upd H D o) A B :=
  ⟨fun b x e h => by
    rw [upd_ne (fun z => by rw [z, hD] at e; cases e)]
    exact c.keep b x e h, c.new⟩
theorem lc_turns {J : It} {ds ys : List D} {ownA fp1 : List Addr} {σ : L2.St} {H1 : Hp} {ρ1 ρ' : Env} {g : MG} {tt : MT} {te : ME} {own : List Nat} {io : List Nat} {K : PySem.W.Frag} {Q : VK} (hio : ∀ σ2, Pin io (L2.wipe σ own) σ2 → L2.wipe σ2 own = L2.wipe σ own)
    (R1 : Rel K H1 σ ρ1 fp1) (n1 : (ownA ++ fp1).Nodup) (S : SeqIt J K ds ownA H1) (hz : ds.length ≤ 16777216) (e2 : lcD g tt te own ds (wipeE own ρ1) = some (ys, ρ')) (D : Addr) (hD : H1 D = none)
    (k : ∀ H3 fp3 fr, Rel K H3 σ ρ' fp3 → Rep K H3 (.ref D) (.lst ys) fr → (fr ++ fp3).Nodup → Chg H1 H3 fp1 (fr ++ fp3) → Q (.ref D) H3) :
    ∃ W : Nat → Nat → Hp → Prop, (∃ m, W 0 m (upd H1 D (.lst []))) ∧ ∀ i m H, W i m H →
      (J.stop i H ∧ Q (.ref D) H) ∨ (J.go i H ∧ ∃ Nx : Hp → Prop, (∀ H', Nx H' → ∃ m', m' < m ∧ W (i + 1) m' H') ∧ ∀ x H', J.yld i H x H' → tG K io g x (L2.wipe σ own) H' fun σ2 H2 => L2.wipe σ2 own = L2.wipe σ own ∧ tT K tt σ2 H2 fun b H3 =>
        if b = true then tM K te σ2 H3 fun y H4 => ∃ acc, H4 D = some (.lst acc) ∧ acc.length < sizeLine ∧ Nx (upd H4 D (.lst (acc ++ [y]))) else Nx H3) := by
  obtain ⟨fp2, R2, s2⟩ := R1.wipe own
  have Dfp : D ∉ fp1 := fun m => by
    have := R1.mb D m
    rw [hD] at this; exact this
  have ow : ∀ a ∈ ownA, a ∉ fp1 := fun a m z => (List.nodup_append.mp n1).2.2 a m a z rfl
  refine ⟨fun i m H => m = ds.length - i ∧ i ≤ ds.length ∧ ∃ ρ3 fp3 acc ys0 fa rest, Rel K H (L2.wipe σ own) ρ3 fp3 ∧ H D = some (.lst acc) ∧ Reps K H acc ys0 fa ∧ (D :: (fa ++ fp3)).Nodup ∧ lcD g tt te own (ds.drop i) ρ3 = some (rest, ρ') ∧ ys0 ++ rest = ys ∧ ys0.length ≤ i ∧ Chg H1 H fp1 (D :: (fa ++ fp3)), ?_, ?_⟩
  · have sm := same_upd (o := .lst []) hD
    refine ⟨ds.length, by omega, by omega, wipeE own ρ1, fp2, [], [], [], ys, R2.same sm, upd_same, .nil, ?_, e2, rfl, Nat.le_refl _, ?_⟩
    · exact List.nodup_cons.mpr ⟨fun m => Dfp (s2 D m), R2.nodup⟩
    · refine ⟨fun b o e _ => sm b o e, fun b m => ?_⟩
      rcases List.mem_cons.mp m with e | m
      · subst e; exact .inr hD
      · exact .inl (s2 b m)
  · rintro i m H3 ⟨rfl, hi, ρ3, fp3, acc, ys0, fa, rest, R3, hacc, ra, n3, e3, ey, hy, c3⟩
    have S1 := S fp1 H3 R1.mb c3.keep ow i
    have n4 := List.nodup_cons.mp n3
    cases hd : ds[i]? with
    | none =>
      have hl : ds.length ≤ i := List.getElem?_eq_none_iff.mp hd
      rw [List.drop_of_length_le hl] at e3
      cases e3
      rw [List.append_nil] at ey
      subst ey
      refine .inl ⟨S1.2 hl, ?_⟩
      exact k H3 fp3 (D :: fa) R3.unwipe (.lst hacc ra) n3 c3
    | some d =>
      have hlt : i < ds.length := (List.getElem?_eq_some_iff.mp hd).1
      rw [drop_cons hd] at e3
      obtain ⟨go, yl⟩ := S1.1 d hd
      refine .inr ⟨go, fun H => i + 1 ≤ ds.length ∧ ∃ ρ3 fp3 acc ys0 fa rest, Rel K H (L2.wipe σ own) ρ3 fp3 ∧ H D = some (.lst acc) ∧ Reps K H acc ys0 fa ∧ (D :: (fa ++ fp3)).Nodup ∧ lcD g tt te own (ds.drop (i + 1)) ρ3 = some (rest, ρ') ∧ ys0 ++ rest = ys ∧ ys0.length ≤ i + 1 ∧ Chg H1 H fp1 (D :: (fa ++ fp3)), fun H' ⟨h1, h2⟩ => ⟨ds.length - (i + 1), by omega, rfl, h1, h2⟩, fun x H4 y => ?_⟩
      obtain ⟨sm, rx⟩ := yl x H4 y
      have e3 : (match g d ρ3 with
        | some ρ1 => (match tt ρ1 with
          | some (true, ρ2) => (match te ρ2 with
            | some (y, ρ3) => (match lcD g tt te own (ds.drop (i + 1)) (wipeE own ρ3) with
              | some (ys, ρ4) => some (y :: ys, ρ4)
              | none => none)
            | none => none)
          | some (false, ρ2) => lcD g tt te own (ds.drop (i + 1)) (wipeE own ρ2)
          | none => none)
        | none => none) = some (rest, ρ') := e3
      split at e3
      · rename_i ρ4 e4
        refine ⟨ρ3, d, ρ4, fp3, R3.same sm, rx, e4, fun σ5 H5 fp5 R5 c5 p5 => ⟨hio σ5 p5, ?_⟩⟩
        -- the list that grows, held aside
        have C5 : Chg H3 H5 fp3 fp5 := (Chg.same sm).trans c5 fun a m => m
        have side : ∀ {H H' : Hp} {fp fp' : List Addr}, H D = some (.lst acc) → Reps K H acc ys0 fa → (D :: (fa ++ fp)).Nodup → (∀ b ∈ fp, Mb (H b)) → Chg H H' fp fp' → fp'.Nodup → H' D = some (.lst acc) ∧ Reps K H' acc ys0 fa ∧ (D :: (fa ++ fp')).Nodup := by
          intro H H' fp fp' h1 h2 h3 h4 h5 h6
          have q := List.nodup_cons.mp h3
          refine ⟨h5.keep D _ h1 fun m => q.1 (List.mem_append_right _ m), reps_aside h2 h5 h4 q.2, ?_⟩
          have z : (D :: fa) ++ fp' = D :: (fa ++ fp') := rfl
          rw [← z]
          exact nd_aside h5 (fun a m => by
            rcases List.mem_cons.mp m with e | m
            · subst e; rw [h1]; trivial
            · exact Reps.mb _ _ _ h2 a m) h3 h6
        obtain ⟨a5, b5, n5⟩ := side hacc ra n3 R3.mb C5 R5.nodup
        split at e3
        · rename_i ρ6 e6
          refine ⟨ρ4, true, ρ6, fp5, R5, e6, fun H6 fp6 R6 c6 => iteT ?_⟩
          obtain ⟨a6, b6, n6⟩ := side a5 b5 n5 R5.mb c6 R6.nodup
          split at e3
          · rename_i yv ρ7 e7
            split at e3
            · rename_i ys' ρ8 e8
              cases e3
              refine ⟨ρ6, yv, ρ7, fp6, R6, e7, fun v H7 fp7 fr R7 rv n7 c7 => ?_⟩
              obtain ⟨a7, b7, n8⟩ := side a6 b6 n6 R6.mb c7 n7
              refine ⟨acc, a7, szlt (by rw [ra.length]; omega), hlt, ?_⟩
              obtain ⟨fp8, R8, s8⟩ := R7.wipe own
              rw [hio σ5 p5] at R8
              have n9 := List.nodup_cons.mp n8
              have n10 := List.nodup_append.mp n9.2
              have n11 := List.nodup_append.mp n7
              have hb := keep_upd (K := K) (xs' := acc ++ [v]) a7
              have Dfr : D ∉ fr := fun m => n9.1 (List.mem_append_right _ (List.mem_append_left _ m))
              have Dfa : D ∉ fa := fun m => n9.1 (List.mem_append_left _ m)
              refine ⟨wipeE own ρ7, fp8, acc ++ [v], ys0 ++ [yv], fa ++ fr, ys', ?_, upd_same, ?_, ?_, e8, by rw [List.append_assoc]; exact ey, by rw [List.length_append]; simp; omega, ?_⟩
              · exact R8.keep hb.1 hb.2 fun b m z => n9.1 (List.mem_append_right _ (List.mem_append_right _ (s8 D (List.mem_singleton.mp z ▸ m))))
              · exact (reps_upd a7 b7 Dfa).append (reps_upd a7 (Reps.single rv) Dfr)
              · have z : D :: (fa ++ fr ++ fp8) = (D :: (fa ++ fr)) ++ fp8 := rfl
                rw [z]
                refine nd_sub (A := fp7) ?_ R8.nodup s8
                have z2 : (D :: (fa ++ fr)) ++ fp7 = D :: (fa ++ (fr ++ fp7)) := by rw [← List.append_assoc]; rfl
                rw [z2]
                exact n8
              · have c31 : Chg H1 H6 fp1 ((D :: fa) ++ fp6) := chg_step (chg_step (l := D :: fa) c3 C5) c6
                have c37 : Chg H1 H7 fp1 ((D :: fa) ++ (fr ++ fp7)) := chg_step c31 c7
                refine (chg_in c37 hD).sub fun b m => ?_
                rcases List.mem_cons.mp m with e | m
                · subst e; exact List.mem_append_left _ List.mem_cons_self
                · rcases List.mem_append.mp m with m | m
                  · rcases List.mem_append.mp m with m | m
                    · exact List.mem_append_left _ (List.mem_cons_of_mem _ m)
                    · exact List.mem_append_right _ (List.mem_append_left _ m)
                  · exact List.mem_append_right _ (List.mem_append_right _ (s8 b m))
            · cases e3
          · cases e3
        · rename_i ρ6 e6
          refine ⟨ρ4, false, ρ6, fp5, R5, e6, fun H6 fp6 R6 c6 => iteF ?_⟩
          obtain ⟨a6, b6, n6⟩ := side a5 b5 n5 R5.mb c6 R6.nodup
          obtain ⟨fp8, R8, s8⟩ := R6.wipe own
          rw [hio σ5 p5] at R8
          refine ⟨hlt, wipeE own ρ6, fp8, acc, ys0, fa, rest, R8, a6, b6, ?_, e3, ey, by omega, ?_⟩
          · have z : D :: (fa ++ fp8) = (D :: fa) ++ fp8 := rfl
            rw [z]
            exact nd_sub (A := fp6) n6 R8.nodup s8
          · have c31 : Chg H1 H6 fp1 ((D :: fa) ++ fp6) := chg_step (chg_step (l := D :: fa) c3 C5) c6
            refine c31.sub fun b m => ?_
            rcases List.mem_append.mp (show b ∈ (D :: fa) ++ fp8 from m) with m | m
            · exact List.mem_append_left _ m
            · exact List.mem_append_right _ (s8 b m)
        · cases e3
      · cases e3
theorem eLc_t {it : MI} {g : MG} {tt : MT} {te : ME} {own : List Nat} {io : List Nat} {K : PySem.W.Frag} (hio : ∀ σ : L2.St, σ.length = X.N.length → ∀ σ2, Pin io (L2.wipe σ own) σ2 → L2.wipe σ2 own = L2.wipe σ own) (σ : L2.St) (H : Hp) (Q : VK) (hσ : σ.length = X.N.length) (h : tM K (eLc it g tt te own) σ H Q) :
    tLc (tI K it) (tG K io g) (tT K tt) (tM K te) own σ H Q := by
  obtain ⟨ρ, d, ρ', fp, R, e, k⟩ := h
  unfold eLc at e
  split at e
  · rename_i ds ρ1 e1
    split at e
    · rename_i hz
      split at e
      · rename_i ys ρ2 e2
        cases e
        refine ⟨ρ, ds, ρ1, fp, R, e1, fun J H1 fp1 ownA R1 n1 c1 mb S D hD => ?_⟩
        exact lc_turns (hio σ hσ) R1 n1 S hz e2 D hD fun H3 fp3 fr R3 r3 n3 c3 => k (.ref D) H3 fp3 fr R3 r3 n3 (c1.trans c3 fun a m => List.mem_append_right _ m)
      · cases e
    · cases e
  · cases e
variable {elt tg iter : Expr} {ifs : List Expr} {scope : Scope} {own : List (Str × Nat)} {pos : Pos} {it : MI} {g : MG} {tt : MT} {te : ME} {io : List Nat}
theorem others_ok {n : Nat} {vs : List Nat} {io : List Nat} (h : (others n vs).all (fun i => io.contains i) = true) : ∀ σ : L2.St, σ.length = n → ∀ σ2, Pin io (L2.wipe σ vs) σ2 → L2.wipe σ2 vs = L2.wipe σ vs := fun σ hσ σ2 p =>
  wipe_pin hσ ⟨p.1, fun i m => p.2 i (by simpa using List.all_eq_true.mp h i m)⟩
theorem je_lc (io : List Nat) (hc : X.calm = true) (hN : X.N.Nodup) (hi : JI X tg iter it) (ok : BlkOk X.N X.env.scope scope own) (hio : (others X.N.length (own.map (·.2))).all (fun i => io.contains i) = true)
    (hg : ∀ (s : Shared) (H : Hp) (C : Addr) (cl : List (Str × Addr)) (fp : List Addr), JG (X.blk s H scope (compEnvC scope cl C X.env) fp) io tg g) (ht : ∀ (s : Shared) (H : Hp) (C : Addr) (cl : List (Str × Addr)) (fp : List Addr), PTs (X.blk s H scope (compEnvC scope cl C X.env) fp) ifs (tT X.K tt))
    (he : ∀ (s : Shared) (H : Hp) (C : Addr) (cl : List (Str × Addr)) (fp : List Addr), JE (X.blk s H scope (compEnvC scope cl C X.env) fp) elt te) (hs : ∀ x, foldedSetIterable iter X.env x = pure x := by intro _; rfl) :
    JE X (.ListComp elt [⟨tg, iter, ifs, 0⟩] scope pos) (eLc it g tt te (own.map (·.2))) :=
  ⟨fun pins s σ H Q I h => (pe_lc hc hN hi ok hg ht he hs).run pins s σ H Q I (eLc_t (others_ok hio) σ H Q I.len h)⟩
theorem js_setLc {i : Nat} {y : Str} {py spos : Pos} (io : List Nat) {io' : List Nat} (hc : X.calm = true) (hN : X.N.Nodup) (hi : JI X tg iter it) (ok : BlkOk X.N X.env.scope scope own) (hio : (others X.N.length (own.map (·.2))).all (fun i => io.contains i) = true)
    (hg : ∀ (s : Shared) (H : Hp) (C : Addr) (cl : List (Str × Addr)) (fp : List Addr), JG (X.blk s H scope (compEnvC scope cl C X.env) fp) io tg g) (ht : ∀ (s : Shared) (H : Hp) (C : Addr) (cl : List (Str × Addr)) (fp : List Addr), PTs (X.blk s H scope (compEnvC scope cl C X.env) fp) ifs (tT X.K tt))
    (he : ∀ (s : Shared) (H : Hp) (C : Addr) (cl : List (Str × Addr)) (fp : List Addr), JE (X.blk s H scope (compEnvC scope cl C X.env) fp) elt te)
    (hsw : swapsWith (.ListComp elt [⟨tg, iter, ifs, 0⟩] scope pos) (some (.Name y py)) spos.line X.env = pure true) (hy : X.N[i]? = some y := by rfl) (hyo : i ∉ io' := by decide) (hyl : X.env.scope.names.lookup y = some .local := by rfl) (hs : ∀ x, foldedSetIterable iter X.env x = pure x := by intro _; rfl) :
    JS X io' (.Assign [.Name y py] (.ListComp elt [⟨tg, iter, ifs, 0⟩] scope pos) spos) (sSet i (eLc it g tt te (own.map (·.2)))) :=
  ⟨fun pins s σ H D I h => (ps_setLc hc hN hy hyl hsw hi ok hg ht he hs).run pins s σ H D I (by
    have h' := gName_t hyo D σ H h
    exact eLc_t (others_ok hio) σ H _ I.len h')⟩
theorem jts_nil : PTs X [] (tT X.K mYes) := ⟨fun pins s σ H Q I h => pts_nil.run pins s σ H Q I (by
  obtain ⟨ρ, b, ρ', fp, R, e, k⟩ := h
  cases e
  exact k H fp R Chg.refl)⟩
theorem jts_one {c : Expr} {t : MT} (h : JT X c t) : PTs X [c] (tT X.K t) := pts_one h

/-! ### defs -/
def allSome : List (Option D) → Option (List D)
  | [] => some []
  | some d :: r => (match allSome r with
    | some ds => some (d :: ds)
    | none => none)
  | none :: _ => none
/-- a def as a function: its value, what its arguments contain behind -/
def mkFn (tot : Nat) (b : MS) : List D → Option (D × List D) := fun ds => match b (ds.map some ++ List.replicate (tot - ds.length) none) with
  | some (.rt d, ρ) => (match allSome (ρ.take ds.length) with
    | some ds' => some (d, ds')
    | none => none)
  | some (.nx, ρ) => (match allSome (ρ.take ds.length) with
    | some ds' => some (.non, ds')
    | none => none)
  | _ => none
theorem slots_start {K : PySem.W.Frag} {H : Hp} : ∀ {ds : List D} {vs : List V} {fp : List Addr} (n : Nat), Reps K H vs ds fp → ∃ fs, Slots K H (vs.map some ++ List.replicate n none) (ds.map some ++ List.replicate n none) fs ∧ fs.flatten = fp
  | [], _, _, n, r => by
    cases r
    have : ∀ n : Nat, ∃ fs, Slots K H (List.replicate n none) (List.replicate n none) fs ∧ fs.flatten = [] := by
      intro n
      induction n with
      | zero => exact ⟨[], .nil, rfl⟩
      | succ n ih =>
        obtain ⟨fs, s, e⟩ := ih
        exact ⟨[] :: fs, .no s, by simpa using e⟩
    exact this n
  | d :: ds, _, _, n, r => by
    cases r with
    | @cons v vs _ _ f fp r rs =>
      obtain ⟨fs, s, e⟩ := slots_start n rs
      exact ⟨f :: fs, .so r s, by rw [List.flatten_cons, e]⟩
theorem slots_end {K : PySem.W.Frag} {H : Hp} : ∀ {vs : List V} {σ : L2.St} {ρ : Env} {fs : List (List Addr)} {ds : List D}, Slots K H σ ρ fs → (∀ (i : Nat) v, vs[i]? = some v → σ[i]? = some (some v)) → allSome (ρ.take vs.length) = some ds → ∃ fq, Reps K H vs ds fq ∧ fq.Sublist fs.flatten
  | [], σ, ρ, fs, ds, s, h, e => by
    rw [List.length_nil, List.take_zero] at e
    cases e
    exact ⟨[], .nil, List.nil_sublist _⟩
  | v :: vs, σ, ρ, fs, ds, s, h, e => by
    have h0 := h 0 v rfl
    cases s with
    | nil => cases h0
    | no s =>
      rw [List.length_cons, List.take_succ_cons] at e
      cases e
    | @so w d f σ ρ fs r s =>
      have h0 : some (some w) = some (some v) := h0
      cases h0
      rw [List.length_cons, List.take_succ_cons] at e
      have e : (match allSome (ρ.take vs.length) with
        | some ds => some (d :: ds)
        | none => none) = some ds := e
      split at e
      · rename_i ds' e2
        cases e
        obtain ⟨fq, q, sb⟩ := slots_end s (fun i x e => by simpa using h (i + 1) x (by simpa using e)) e2
        exact ⟨f ++ fq, .cons r q, by rw [List.flatten_cons]; exact (List.Sublist.refl f).append sb⟩
      · cases e
end
section
variable {P : Program} {w : World} {K : PySem.W.Frag} {mg : Str → Option Value} {base : Heap}
/-- the rule for a def -/
theorem fn_ok {x qual : Str} {st : Stmt} {f : Addr} {fd : FuncData} {N ps : List Str} {k : Nat} {b : MS} (F : Fun K x qual st f fd) (S : FnScope N ps (defScope st))
    (hb : ∀ (cdv : Value) (A : Around) (outer : List PySem.Env) (s : Shared) (H : Hp) (E : XK), Room k (A.deeper (envOfC qual (defScope st) s.heap.objs.size f cdv)) →
      JSs (cxOf CX0 P w K mg base N qual (defScope st) f cdv A outer s H E).nox (List.range ps.length) (defBody st) b) : FOk P w K mg base (k + 1) f fd ps (mkFn N.length b) := by
  refine F.ok S (fun vs H Q E h => ?_) (fun cdv A outer s H vs Q E hr h => ⟨_, hb cdv A outer s H E hr, ?_⟩)
  · obtain ⟨_, _, _, _, _, _, hl, _⟩ := h
    exact hl
  · obtain ⟨ds, r, ds', fp, rs, n, hl, e, k⟩ := h
    have hld := rs.length
    obtain ⟨fs, sl, ef⟩ := slots_start (N.length - vs.length) rs
    have start : Rel K H (L2.start N vs) (ds.map some ++ List.replicate (N.length - ds.length) none) fp := ⟨fs, by rw [← hld]; exact sl, ef.symm, n⟩
    have pinned : ∀ (σ' : L2.St), Pin (List.range ps.length) (L2.start N vs) σ' → ∀ (i : Nat) v, vs[i]? = some v → σ'[i]? = some (some v) := fun σ' p i v e => by
      have hi : i < vs.length := (List.getElem?_eq_some_iff.mp e).1
      rw [p.2 i (List.mem_range.mpr (by omega))]
      unfold L2.start
      rw [List.getElem?_append_left (by simpa using hi), List.getElem?_map, e]
      rfl
    unfold mkFn at e
    split at e
    · rename_i d ρ1 e1
      split at e
      · rename_i ds2 e2
        cases e
        refine ⟨_, .rt r, ρ1, fp, start, e1, fun v σ' H' fp' fr R rr nn c p => ?_⟩
        obtain ⟨fs', s', ef', n'⟩ := R
        obtain ⟨fq, q, sb⟩ := slots_end s' (pinned σ' p) (by rw [hld]; exact e2)
        have sb2 : fq.Sublist fp' := by rw [ef']; exact sb
        have sb3 : (fr ++ fq).Sublist (fr ++ fp') := (List.Sublist.refl fr).append sb2
        exact k v H' fr fq rr q (nn.sublist sb3) (c.sub fun a m => sb3.subset m)
      · cases e
    · rename_i ρ1 e1
      split at e
      · rename_i ds2 e2
        cases e
        refine ⟨_, .nx, ρ1, fp, start, e1, fun σ' H' fp' R c p => ?_⟩
        obtain ⟨fs', s', ef', n'⟩ := R
        obtain ⟨fq, q, sb⟩ := slots_end s' (pinned σ' p) (by rw [hld]; exact e2)
        have sb2 : fq.Sublist fp' := by rw [ef']; exact sb
        exact k .non H' [] fq .non q (n'.sublist sb2) (c.sub fun a m => sb2.subset m)
      · cases e
    · cases e
/-- .. of data alone: the arguments may be stored anew -/
def mkFnP (tot : Nat) (b : MS) : List D → Option (D × List D) := fun ds => if noLists ds then (match b (ds.map some ++ List.replicate (tot - ds.length) none) with
  | some (.rt d, _) => some (d, ds)
  | some (.nx, _) => some (.non, ds)
  | _ => none) else none
theorem fnp_ok {x qual : Str} {st : Stmt} {f : Addr} {fd : FuncData} {N ps : List Str} {k : Nat} {b : MS} (F : Fun K x qual st f fd) (S : FnScope N ps (defScope st))
    (hb : ∀ (cdv : Value) (A : Around) (outer : List PySem.Env) (s : Shared) (H : Hp) (E : XK), Room k (A.deeper (envOfC qual (defScope st) s.heap.objs.size f cdv)) →
      JSs (cxOf CX0 P w K mg base N qual (defScope st) f cdv A outer s H E).nox [] (defBody st) b) : FOk P w K mg base (k + 1) f fd ps (mkFnP N.length b) := by
  refine F.ok S (fun vs H Q E h => ?_) (fun cdv A outer s H vs Q E hr h => ⟨_, hb cdv A outer s H E hr, ?_⟩)
  · obtain ⟨_, _, _, _, _, _, hl, _⟩ := h
    exact hl
  · obtain ⟨ds, r, ds', fp, rs, n, hl, e, k⟩ := h
    have hld := rs.length
    obtain ⟨fs, sl, ef⟩ := slots_start (N.length - vs.length) rs
    have start : Rel K H (L2.start N vs) (ds.map some ++ List.replicate (N.length - ds.length) none) fp := ⟨fs, by rw [← hld]; exact sl, ef.symm, n⟩
    unfold mkFnP at e
    split at e
    · rename_i hn
      have z := Reps.nol _ _ _ rs hn
      subst z
      split at e
      · rename_i d ρ1 e1
        cases e
        refine ⟨_, .rt r, ρ1, [], start, e1, fun v σ' H' fp' fr R rr nn c p => ?_⟩
        exact k v H' fr [] rr (rs.same c.toSame) (by rw [List.append_nil]; exact (List.nodup_append.mp nn).1) (c.sub fun a m => by rw [List.append_nil] at m; exact List.mem_append_left _ m)
      · rename_i ρ1 e1
        cases e
        refine ⟨_, .nx, ρ1, [], start, e1, fun σ' H' fp' R c p => ?_⟩
        exact k .non H' [] [] .non (rs.same c.toSame) List.nodup_nil (c.sub fun a m => nomatch m)
      · cases e
    · cases e
end
end Bv

namespace Bv
open PySem PySem.Spec PyProof.Rows L2

/-! ### operators on data -/
section
variable {X : Cx} {K : PySem.W.Frag}
def rAdd4 (K : PySem.W.Frag) : R2 := fun x y H Q => rI0 (fun i j => .int (i + j)) x y H Q ∨ ((∃ i j, x = .str i ∧ y = .str j ∧ i.length + j.length ≤ sizeLine ∧ Q (.str (i ++ j)) H) ∨ (rCatA K x y H Q ∨ rCat x y H Q))
theorem op_add4 : OpR X (binaryOp .Add) (rAdd4 X.K) := op_add.or (op_add_str.or (op_catA.or op_cat))
def addD : D → D → Option D
  | .int i, .int j => some (.int (i + j))
  | .str a, .str b => if a.length + b.length ≤ 16777216 then some (.str (a ++ b)) else none
  | .tup a, .tup b => if a.length + b.length ≤ 16777216 ∧ noLists a = true ∧ noLists b = true then some (.tup (a ++ b)) else none
  | .lst a, .lst b => if a.length + b.length ≤ 16777216 ∧ noLists a = true ∧ noLists b = true then some (.lst (a ++ b)) else none
  | _, _ => none
theorem add_ok : R2ok K (rAdd4 K) addD := by
  intro x y H Q d1 d2 d f1 f2 r1 r2 e k
  unfold addD at e
  split at e
  · cases e
    cases r1
    cases r2
    exact .inl ⟨_, _, rfl, rfl, k _ H [] (Same.refl H) (.int _) List.nodup_nil (fun a m => nomatch m)⟩
  · split at e
    · rename_i hz
      cases e
      cases r1
      cases r2
      exact .inr (.inl ⟨_, _, rfl, rfl, szl hz, k _ H [] (Same.refl H) (.str _) List.nodup_nil (fun a m => nomatch m)⟩)
    · cases e
  · split at e
    · rename_i hz
      cases e
      cases r1 with
      | @tup a xs ds f s1 q1 =>
        cases r2 with
        | @tup b ys es g s2 q2 =>
          have z1 := Reps.nol _ _ _ q1 hz.2.1
          have z2 := Reps.nol _ _ _ q2 hz.2.2
          subst z1 z2
          refine .inr (.inr (.inl ⟨a, b, xs, ys, rfl, rfl, s1, s2, by rw [q1.length, q2.length]; exact szl hz.1, fun ex => ?_, fun ex ey => ?_, fun ex ey p hp => ?_⟩))
          · subst ex
            cases q1
            exact k _ H [] (Same.refl H) (.tup s2 q2) List.nodup_nil (fun a m => nomatch m)
          · subst ey
            cases q2
            rw [List.append_nil] at k
            exact k _ H [] (Same.refl H) (.tup s1 q1) List.nodup_nil (fun a m => nomatch m)
          · have sm := same_upd (o := .tup (xs ++ ys)) hp
            exact k _ _ [] sm (.tup (.inl (.inl upd_same)) ((q1.same sm).append (q2.same sm))) List.nodup_nil (fun a m => nomatch m)
    · cases e
  · split at e
    · rename_i hz
      cases e
      cases r1 with
      | @lst a xs ds f s1 q1 =>
        cases r2 with
        | @lst b ys es g s2 q2 =>
          have z1 := Reps.nol _ _ _ q1 hz.2.1
          have z2 := Reps.nol _ _ _ q2 hz.2.2
          subst z1 z2
          refine .inr (.inr (.inr ⟨a, b, xs, ys, rfl, rfl, s1, s2, by rw [q1.length, q2.length]; exact szl hz.1, fun p hp => ?_⟩))
          have sm := same_upd (o := .lst (xs ++ ys)) hp
          exact k _ _ [p] sm (.lst upd_same ((q1.same sm).append (q2.same sm))) (by simp) (fun a m => by rw [List.mem_singleton.mp m]; exact hp)
    · cases e
  · cases e
/-- an operator on two ints -/
def intD (C : Int → Int → Bool) (g : Int → Int → Int) : D → D → Option D
  | .int i, .int j => if C i j then some (.int (g i j)) else none
  | _, _ => none
theorem int_ok {C : Int → Int → Bool} {C' : Int → Int → Prop} {g : Int → Int → Int} (h : ∀ i j, C i j = true → C' i j) : R2ok K (rI C' fun i j => .int (g i j)) (intD C g) := by
  intro x y H Q d1 d2 d f1 f2 r1 r2 e k
  unfold intD at e
  split at e
  · split at e
    · rename_i hc
      cases e
      cases r1
      cases r2
      exact ⟨_, _, rfl, rfl, h _ _ hc, k _ H [] (Same.refl H) (.int _) List.nodup_nil (fun a m => nomatch m)⟩
    · cases e
  · cases e
theorem int0_ok {g : Int → Int → Int} : R2ok K (rI0 fun i j => .int (g i j)) (intD (fun _ _ => true) g) := by
  intro x y H Q d1 d2 d f1 f2 r1 r2 e k
  unfold intD at e
  split at e
  · cases e
    cases r1
    cases r2
    exact ⟨_, _, rfl, rfl, k _ H [] (Same.refl H) (.int _) List.nodup_nil (fun a m => nomatch m)⟩
  · cases e
def subD : D → D → Option D := intD (fun _ _ => true) fun i j => i - j
theorem sub_ok : R2ok K (rI0 fun i j => .int (i - j)) subD := int0_ok
def cMul (i j : Int) : Bool := decide (-(2 ^ 64) < i ∧ i < 2 ^ 64) || decide (-(2 ^ 64) < j ∧ j < 2 ^ 64)
def mulI : D → D → Option D := intD cMul fun i j => i * j
def rMul3 (K : PySem.W.Frag) : R2 := fun x y H Q => rI CMul (fun i j => .int (i * j)) x y H Q ∨ rRep x y H Q
theorem op_mul3 : OpR X (binaryOp .Mult) (rMul3 X.K) := op_mul.or op_rep
def mulD : D → D → Option D
  | .int i, .int j => if cMul i j then some (.int (i * j)) else none
  | .lst a, .int n => if -(2 ^ 63) ≤ n ∧ n < 2 ^ 63 ∧ a.length * n.toNat ≤ 16777216 ∧ noLists a = true then some (.lst (List.replicate n.toNat a).flatten) else none
  | _, _ => none
theorem reps_rep {H : Hp} {xs : List V} {ds : List D} (r : Reps K H xs ds []) : ∀ n : Nat, Reps K H (List.replicate n xs).flatten (List.replicate n ds).flatten []
  | 0 => .nil
  | n + 1 => by
    rw [List.replicate_succ, List.replicate_succ, List.flatten_cons, List.flatten_cons]
    exact r.append (reps_rep r n)
theorem mul_ok : R2ok K (rMul3 K) mulD := by
  intro x y H Q d1 d2 d f1 f2 r1 r2 e k
  unfold mulD at e
  split at e
  · split at e
    · rename_i hc
      cases e
      cases r1
      cases r2
      refine .inl ⟨_, _, rfl, rfl, ?_, k _ H [] (Same.refl H) (.int _) List.nodup_nil (fun a m => nomatch m)⟩
      unfold cMul at hc
      rw [Bool.or_eq_true] at hc
      exact hc.imp of_decide_eq_true of_decide_eq_true
    · cases e
  · rename_i es n
    split at e
    · rename_i hz
      cases e
      cases r1 with
      | @lst a xs ds f s1 q1 =>
        cases r2
        have z1 := Reps.nol _ _ _ q1 hz.2.2.2
        subst z1
        refine .inr ⟨a, n, xs, rfl, rfl, s1, hz.1, hz.2.1, by rw [q1.length]; exact szl hz.2.2.1, fun p hp => ?_⟩
        have sm := same_upd (o := .lst (List.replicate n.toNat xs).flatten) hp
        exact k _ _ [p] sm (.lst upd_same (reps_rep (q1.same sm) _)) (by simp) (fun a m => by rw [List.mem_singleton.mp m]; exact hp)
    · cases e
  · cases e
def cDiv (i j : Int) : Bool := decide (0 < j ∧ j < 1073741824)
def fdivD : D → D → Option D := intD cDiv fun i j => i / j
theorem fdiv_ok : R2ok K (rI CDiv fun i j => .int (i / j)) fdivD := int_ok fun i j h => of_decide_eq_true (p := 0 < j ∧ j < 1073741824) h
/-- any divisor but 0 -/
def cDivN (i j : Int) : Bool := decide (j ≠ 0 ∧ j.natAbs < 1073741824)
def fdivND : D → D → Option D := intD cDivN fun i j => i.fdiv j
theorem fdivN_ok : R2ok K (rI CDivN fun i j => .int (i.fdiv j)) fdivND := int_ok fun i j h => of_decide_eq_true (p := j ≠ 0 ∧ j.natAbs < 1073741824) h
def modD : D → D → Option D := intD (fun _ j => decide (0 < j)) fun i j => i % j
theorem mod_ok : R2ok K (rI (fun _ j => 0 < j) fun i j => .int (i % j)) modD := int_ok fun i j h => of_decide_eq_true h
def andD : D → D → Option D := intD (fun _ _ => true) fun i j => Builtin.bitAnd i j
theorem and_ok : R2ok K (rI0 fun i j => .int (Builtin.bitAnd i j)) andD := int0_ok
def cPow (i j : Int) : Bool := decide (0 ≤ j ∧ j ≤ 1000000 ∧ i.natAbs < 2 ^ 64)
def shlD : D → D → Option D := intD cPow fun i j => i * 2 ^ j.toNat
theorem shl_ok : R2ok K (rI CPow fun i j => .int (i * 2 ^ j.toNat)) shlD := int_ok fun i j h => of_decide_eq_true (p := 0 ≤ j ∧ j ≤ 1000000 ∧ i.natAbs < 2 ^ 64) h
def powD : D → D → Option D := intD cPow fun i j => i ^ j.toNat
theorem pow_ok : R2ok K (rI CPow fun i j => .int (i ^ j.toNat)) powD := int_ok fun i j h => of_decide_eq_true (p := 0 ≤ j ∧ j ≤ 1000000 ∧ i.natAbs < 2 ^ 64) h
/-! comparisons -/
def cmpD (g : Int → Int → Bool) : D → D → Option D
  | .int i, .int j => some (.bl (g i j))
  | _, _ => none
theorem cmp_ok {g : Int → Int → Bool} : R2ok K (rI0 fun i j => .bl (g i j)) (cmpD g) := by
  intro x y H Q d1 d2 d f1 f2 r1 r2 e k
  unfold cmpD at e
  split at e
  · cases e
    cases r1
    cases r2
    exact ⟨_, _, rfl, rfl, k _ H [] (Same.refl H) (.bl _) List.nodup_nil (fun a m => nomatch m)⟩
  · cases e
abbrev ltD : D → D → Option D := cmpD fun i j => decide (i < j)
abbrev leD : D → D → Option D := cmpD fun i j => decide (i ≤ j)
abbrev gtD : D → D → Option D := cmpD fun i j => decide (j < i)
abbrev geD : D → D → Option D := cmpD fun i j => decide (j ≤ i)
theorem lt_ok : R2ok K (rI0 fun i j => .bl (decide (i < j))) ltD := cmp_ok
theorem le_ok : R2ok K (rI0 fun i j => .bl (decide (i ≤ j))) leD := cmp_ok
theorem gt_ok : R2ok K (rI0 fun i j => .bl (decide (j < i))) gtD := cmp_ok
theorem ge_ok : R2ok K (rI0 fun i j => .bl (decide (j ≤ i))) geD := cmp_ok
/-! equality -/
mutual
def toPy : D → PyData
  | .non => .none | .bl b => .bool b | .int i => .int i | .str x => .str x
  | .tup xs => .tuple (toPys xs) | .lst xs => .list (toPys xs) | .frz xs => .list (toPys xs)
  | .dic _ => .dict []
def toPys : List D → List PyData
  | [] => []
  | x :: xs => toPy x :: toPys xs
end
mutual
def noDic : D → Bool
  | .tup xs => noDics xs | .lst xs => noDics xs | .frz xs => noDics xs
  | .dic _ => false
  | _ => true
def noDics : List D → Bool
  | [] => true
  | x :: xs => noDic x && noDics xs
end
mutual
theorem Rep.dp {H : Hp} : ∀ (d : D) (v : V) (f : List Addr), Rep K H v d f → noDic d = true → Dp K H v (toPy d)
  | .non, _, _, h, _ => by cases h; exact .non
  | .bl b, _, _, h, _ => by cases h; exact .bl b
  | .int i, _, _, h, _ => by cases h; exact .int i
  | .str x, _, _, h, _ => by cases h; exact .str x
  | .tup ds, _, _, h, n => by
    cases h with
    | tup s r => exact .tup s (Reps.dp ds _ _ r n)
  | .lst ds, _, _, h, n => by
    cases h with
    | lst s r => exact .lst (.inl (.inl s)) (Reps.dp ds _ _ r n)
  | .frz ds, _, _, h, n => by
    cases h with
    | frz s r => exact .lst s.sq (Reps.dp ds _ _ r n)
  | .dic ds, _, _, h, n => by cases n
theorem Reps.dp {H : Hp} : ∀ (ds : List D) (vs : List V) (f : List Addr), Reps K H vs ds f → noDics ds = true → DpAll K H vs (toPys ds)
  | [], _, _, h, _ => by cases h; exact .nil
  | d :: ds, _, _, h, n => by
    cases h with
    | cons r rs =>
      have n' := Bool.and_eq_true_iff.mp (show (noDic d && noDics ds) = true from n)
      exact .cons (Rep.dp d _ _ r n'.1) (Reps.dp ds _ _ rs n'.2)
end
def scalD : D → D → Bool
  | .non, .non => true | .non, .int _ => true | .int _, .non => true | .non, .bl _ => true | .bl _, .non => true | .non, .str _ => true | .str _, .non => true
  | .int _, .int _ => true | .bl _, .bl _ => true | .str _, .str _ => true
  | .int _, .str _ => true | .str _, .int _ => true | .bl _, .str _ => true | .str _, .bl _ => true
  | _, _ => false
/-- equality of data: of scalars at once, of others part by part -/
def eqB : D → D → Option Bool
  | .int i, .int j => some (decide (i = j))
  | .str i, .str j => some (decide (i = j))
  | .bl i, .bl j => some (decide (i = j))
  | .non, .non => some true
  | .non, .int _ => some false | .int _, .non => some false | .non, .bl _ => some false | .bl _, .non => some false | .non, .str _ => some false | .str _, .non => some false
  | .int _, .str _ => some false | .str _, .int _ => some false | .bl _, .str _ => some false | .str _, .bl _ => some false
  | d1, d2 => if noDic d1 = true ∧ noDic d2 = true ∧ SeqAt.shaped (toPy d1) = true ∧ SeqAt.shaped (toPy d2) = true then some (PyData.eqv (toPy d1) (toPy d2)) else none
def eqD (d1 d2 : D) : Option D := match eqB d1 d2 with
  | some b => some (.bl b)
  | none => none
def neD (d1 d2 : D) : Option D := match eqB d1 d2 with
  | some b => some (.bl (!b))
  | none => none
theorem eqB_cases {H : Hp} {x y : V} {d1 d2 : D} {f1 f2 : List Addr} {b : Bool} (r1 : Rep K H x d1 f1) (r2 : Rep K H y d2 f2) (e : eqB d1 d2 = some b) :
    (scal x y = true ∧ b = decide (x = y)) ∨ (∃ p q, Dp K H x p ∧ Dp K H y q ∧ SeqAt.shaped p = true ∧ SeqAt.shaped q = true ∧ b = PyData.eqv p q) := by
  have deep : (if noDic d1 = true ∧ noDic d2 = true ∧ SeqAt.shaped (toPy d1) = true ∧ SeqAt.shaped (toPy d2) = true then some (PyData.eqv (toPy d1) (toPy d2)) else none) = some b →
      ∃ p q, Dp K H x p ∧ Dp K H y q ∧ SeqAt.shaped p = true ∧ SeqAt.shaped q = true ∧ b = PyData.eqv p q := by
    intro e
    split at e
    · rename_i hh
      cases e
      exact ⟨_, _, Rep.dp _ _ _ r1 hh.1, Rep.dp _ _ _ r2 hh.2.1, hh.2.2.1, hh.2.2.2, rfl⟩
    · cases e
  cases r1 <;> cases r2 <;> first
    | exact .inr (deep e)
    | (cases e; exact .inl ⟨rfl, by simp⟩)
def rEq2 (K : PySem.W.Frag) : R2 := fun x y H Q => rEq x y H Q ∨ rEqD K x y H Q
def rNe2 (K : PySem.W.Frag) : R2 := fun x y H Q => rNe x y H Q ∨ rNeD K x y H Q
theorem op_eq2 (hu : X.A.units + 64 < cLine) : OpR X (compareOp .Eq) (rEq2 X.K) := op_eq.or (op_eqD hu)
theorem op_ne2 (hu : X.A.units + 64 < cLine) : OpR X (compareOp .NotEq) (rNe2 X.K) := op_ne.or (op_neD hu)
theorem eq_ok : R2ok K (rEq2 K) eqD := by
  intro x y H Q d1 d2 d f1 f2 r1 r2 e k
  unfold eqD at e
  split at e
  · rename_i b eb
    cases e
    have kk := k (.bl b) H [] (Same.refl H) (.bl _) List.nodup_nil (fun a m => nomatch m)
    rcases eqB_cases r1 r2 eb with ⟨s, rfl⟩ | ⟨p, q, h1, h2, h3, h4, rfl⟩
    · exact .inl ⟨s, kk⟩
    · exact .inr ⟨p, q, h1, h2, h3, h4, kk⟩
  · cases e
theorem ne_ok : R2ok K (rNe2 K) neD := by
  intro x y H Q d1 d2 d f1 f2 r1 r2 e k
  unfold neD at e
  split at e
  · rename_i b eb
    cases e
    have kk := k (.bl (!b)) H [] (Same.refl H) (.bl _) List.nodup_nil (fun a m => nomatch m)
    rcases eqB_cases r1 r2 eb with ⟨s, rfl⟩ | ⟨p, q, h1, h2, h3, h4, rfl⟩
    · exact .inl ⟨s, kk⟩
    · exact .inr ⟨p, q, h1, h2, h3, h4, kk⟩
  · cases e
/-! None -/
def isNoneB : D → Bool
  | .non => true
  | _ => false
theorem rep_isNone {H : Hp} {x : V} {d : D} {f : List Addr} (r : Rep K H x d f) : decide (x = .non) = isNoneB d := by
  cases r <;> simp [isNoneB]
def isND (d1 d2 : D) : Option D := match d2 with
  | .non => some (.bl (isNoneB d1))
  | _ => none
def notND (d1 d2 : D) : Option D := match d2 with
  | .non => some (.bl (!isNoneB d1))
  | _ => none
theorem isN_ok : R2ok K (fun x y H Q => y = .non ∧ Q (.bl (decide (x = .non))) H) isND := by
  intro x y H Q d1 d2 d f1 f2 r1 r2 e k
  unfold isND at e
  split at e
  · cases e
    cases r2
    exact ⟨rfl, by rw [rep_isNone r1]; exact k _ H [] (Same.refl H) (.bl _) List.nodup_nil (fun a m => nomatch m)⟩
  · cases e
theorem notN_ok : R2ok K (fun x y H Q => y = .non ∧ Q (.bl (!decide (x = .non))) H) notND := by
  intro x y H Q d1 d2 d f1 f2 r1 r2 e k
  unfold notND at e
  split at e
  · cases e
    cases r2
    exact ⟨rfl, by rw [rep_isNone r1]; exact k _ H [] (Same.refl H) (.bl _) List.nodup_nil (fun a m => nomatch m)⟩
  · cases e
/-! in: flat things in lists and tuples, one sign in a text -/
def flatD : D → Bool
  | .non => true | .bl _ => true | .int _ => true | .str _ => true
  | _ => false
def eqF : D → D → Bool
  | .non, .non => true
  | .bl a, .bl b => a == b
  | .bl a, .int b => (if a then 1 else 0) == b
  | .int a, .bl b => a == (if b then 1 else 0)
  | .int a, .int b => a == b
  | .str a, .str b => a == b
  | _, _ => false
def inF (d : D) (ds : List D) : Bool := ds.any fun y => eqF y d
theorem flat_rep {H : Hp} {x : V} {d : D} {f : List Addr} (r : Rep K H x d f) (h : flatD d = true) : flatV x = true := by
  cases r <;> first | rfl | cases h
theorem eqF_rep {H : Hp} {x y : V} {d e : D} {f g : List Addr} (r : Rep K H x d f) (q : Rep K H y e g) (h : flatD d = true) (h' : flatD e = true) : eqV y x = eqF e d := by
  cases r <;> cases q <;> first | rfl | cases h | cases h'
theorem inF_reps {H : Hp} {x : V} {d : D} {f : List Addr} (r : Rep K H x d f) (h : flatD d = true) : ∀ {ys : List V} {es : List D} {g : List Addr}, Reps K H ys es g → es.all flatD = true → ys.all flatV = true ∧ inV x ys = inF d es
  | _, _, _, .nil, _ => ⟨rfl, rfl⟩
  | _, _, _, .cons q qs, a => by
    rw [List.all_cons, Bool.and_eq_true] at a
    obtain ⟨i1, i2⟩ := inF_reps r h qs a.2
    refine ⟨by rw [List.all_cons, flat_rep q a.1, i1]; rfl, ?_⟩
    unfold inV inF at i2 ⊢
    rw [List.any_cons, List.any_cons, eqF_rep r q h a.1, i2]
def itemsD : D → Option (List D)
  | .tup ds => some ds | .lst ds => some ds | .frz ds => some ds
  | _ => none
def inB : D → D → Option Bool
  | .str c, .str z => if c.cps.size = 1 then some (decide (c.cps.getD 0 0 ∈ z.cps.toList)) else none
  | d, e => match itemsD e with
    | some es => if flatD d = true ∧ es.all flatD = true then some (inF d es) else none
    | none => none
def inD (d1 d2 : D) : Option D := match inB d1 d2 with
  | some b => some (.bl b)
  | none => none
def notInD (d1 d2 : D) : Option D := match inB d1 d2 with
  | some b => some (.bl (!b))
  | none => none
def rIn2 (K : PySem.W.Frag) : R2 := fun x y H Q => rIn K false x y H Q ∨ ∃ (c : Nat) (z : Str), x = .str ⟨#[c]⟩ ∧ y = .str z ∧ Q (.bl (decide (c ∈ z.cps.toList))) H
def rNotIn2 (K : PySem.W.Frag) : R2 := fun x y H Q => rIn K true x y H Q ∨ ∃ (c : Nat) (z : Str), x = .str ⟨#[c]⟩ ∧ y = .str z ∧ Q (.bl (!decide (c ∈ z.cps.toList))) H
theorem op_in2 : OpR X (compareOp .In) (rIn2 X.K) := op_in_seq.or op_in_sign
theorem op_notIn2 : OpR X (compareOp .NotIn) (rNotIn2 X.K) := op_notIn_seq.or op_notIn_sign
theorem one_sign {c : Str} (h : c.cps.size = 1) : c = ⟨#[c.cps.getD 0 0]⟩ := by
  obtain ⟨⟨l⟩⟩ := c
  cases l with
  | nil => cases h
  | cons x r => cases r with
    | nil => rfl
    | cons y r => simp at h
theorem inB_cases {H : Hp} {x y : V} {d1 d2 : D} {f1 f2 : List Addr} {b : Bool} (r1 : Rep K H x d1 f1) (r2 : Rep K H y d2 f2) (e : inB d1 d2 = some b) :
    (∃ p xs, y = .ref p ∧ (SqL K H p xs ∨ SqT K H p xs) ∧ flatV x = true ∧ xs.all flatV = true ∧ inV x xs = b) ∨ ∃ (c : Nat) (z : Str), x = .str ⟨#[c]⟩ ∧ y = .str z ∧ b = decide (c ∈ z.cps.toList) := by
  have seq : ∀ {es : List D}, itemsD d2 = some es → (if flatD d1 = true ∧ es.all flatD = true then some (inF d1 es) else none) = some b → ∃ p xs, y = .ref p ∧ (SqL K H p xs ∨ SqT K H p xs) ∧ flatV x = true ∧ xs.all flatV = true ∧ inV x xs = b := by
    intro es ei e
    split at e
    · rename_i hh
      cases e
      cases r2 <;> cases ei
      · rename_i a xs s q
        obtain ⟨i1, i2⟩ := inF_reps r1 hh.1 q hh.2
        exact ⟨_, xs, rfl, .inr s, flat_rep r1 hh.1, i1, i2⟩
      · rename_i a xs fp s q
        obtain ⟨i1, i2⟩ := inF_reps r1 hh.1 q hh.2
        exact ⟨_, xs, rfl, .inl (.inl (.inl s)), flat_rep r1 hh.1, i1, i2⟩
      · rename_i a xs s q
        obtain ⟨i1, i2⟩ := inF_reps r1 hh.1 q hh.2
        exact ⟨_, xs, rfl, .inl s.sq, flat_rep r1 hh.1, i1, i2⟩
    · cases e
  unfold inB at e
  split at e
  · rename_i c z
    split at e
    · rename_i h1
      cases e
      cases r1
      cases r2
      exact .inr ⟨_, z, by rw [← one_sign h1], rfl, rfl⟩
    · cases e
  · split at e
    · rename_i es ei
      exact .inl (seq ei e)
    · cases e
theorem in_ok : R2ok K (rIn2 K) inD := by
  intro x y H Q d1 d2 d f1 f2 r1 r2 e k
  unfold inD at e
  split at e
  · rename_i b eb
    cases e
    have kk := k (.bl b) H [] (Same.refl H) (.bl _) List.nodup_nil (fun a m => nomatch m)
    rcases inB_cases r1 r2 eb with ⟨p, xs, h1, h2, h3, h4, rfl⟩ | ⟨c, z, h1, h2, rfl⟩
    · exact .inl ⟨p, xs, h1, h2, h3, h4, kk⟩
    · exact .inr ⟨c, z, h1, h2, kk⟩
  · cases e
theorem notIn_ok : R2ok K (rNotIn2 K) notInD := by
  intro x y H Q d1 d2 d f1 f2 r1 r2 e k
  unfold notInD at e
  split at e
  · rename_i b eb
    cases e
    have kk := k (.bl (!b)) H [] (Same.refl H) (.bl _) List.nodup_nil (fun a m => nomatch m)
    rcases inB_cases r1 r2 eb with ⟨p, xs, h1, h2, h3, h4, rfl⟩ | ⟨c, z, h1, h2, rfl⟩
    · exact .inl ⟨p, xs, h1, h2, h3, h4, kk⟩
    · exact .inr ⟨c, z, h1, h2, kk⟩
  · cases e
/-! one operand -/
def negD : D → Option D
  | .int i => some (.int (-i))
  | _ => none
theorem neg_ok : R1ok K (rU fun i => .int (-i)) negD := by
  intro x H Q d1 d f1 r1 e k
  cases d1 <;> cases e
  cases r1
  exact ⟨_, rfl, k _ H [] (Same.refl H) (.int _) List.nodup_nil (fun a m => nomatch m)⟩

/-! ### built-in functions -/
def lenD : List D → Option D
  | [.str z] => if z.length ≤ 16777216 then some (.int z.length) else none
  | [.tup ds] => some (.int ds.length)
  | [.lst ds] => some (.int ds.length)
  | [.frz ds] => some (.int ds.length)
  | _ => none
theorem reps1 {H : Hp} {vs : List V} {d : D} {f : List Addr} (r : Reps K H vs [d] f) : ∃ v, vs = [v] ∧ Rep K H v d f := by
  cases r with
  | @cons v vs _ _ g g' r rn =>
    cases rn
    rw [List.append_nil]
    exact ⟨v, rfl, r⟩
theorem reps2 {H : Hp} {vs : List V} {d e : D} {f : List Addr} (r : Reps K H vs [d, e] f) : ∃ v u g h, vs = [v, u] ∧ Rep K H v d g ∧ Rep K H u e h ∧ f = g ++ h := by
  cases r with
  | @cons v vs _ _ g g' r rn =>
    obtain ⟨u, rfl, r2⟩ := reps1 rn
    exact ⟨v, u, g, g', rfl, r, r2, rfl⟩
theorem len_ok : RLok K (fun xs H Q => ∃ x n, xs = [x] ∧ LenV K x H n ∧ Q (.int n) H) lenD := by
  intro xs H Q ds d f r e k
  unfold lenD at e
  split at e
  · split at e
    · rename_i hz
      cases e
      obtain ⟨v, rfl, rv⟩ := reps1 r
      cases rv
      exact ⟨_, _, rfl, (show _ ∧ _ from ⟨szl hz, rfl⟩), k _ H [] (Same.refl H) (.int _) List.nodup_nil (fun a m => nomatch m)⟩
    · cases e
  · cases e
    obtain ⟨v, rfl, rv⟩ := reps1 r
    cases rv with
    | tup s q => exact ⟨_, _, rfl, .inr ⟨_, s, q.length.symm⟩, k _ H [] (Same.refl H) (.int _) List.nodup_nil (fun a m => nomatch m)⟩
  · cases e
    obtain ⟨v, rfl, rv⟩ := reps1 r
    cases rv with
    | lst s q => exact ⟨_, _, rfl, .inl ⟨_, .inl (.inl s), q.length.symm⟩, k _ H [] (Same.refl H) (.int _) List.nodup_nil (fun a m => nomatch m)⟩
  · cases e
    obtain ⟨v, rfl, rv⟩ := reps1 r
    cases rv with
    | frz s q => exact ⟨_, _, rfl, .inl ⟨_, s.sq, q.length.symm⟩, k _ H [] (Same.refl H) (.int _) List.nodup_nil (fun a m => nomatch m)⟩
  · cases e
def absD : List D → Option D
  | [.int i] => some (.int (if i < 0 then -i else i))
  | _ => none
theorem abs_ok : RLok K (fun xs H Q => ∃ i, xs = [.int i] ∧ Q (.int (if i < 0 then -i else i)) H) absD := by
  intro xs H Q ds d f r e k
  unfold absD at e
  split at e
  · cases e
    obtain ⟨v, rfl, rv⟩ := reps1 r
    cases rv
    exact ⟨_, rfl, k _ H [] (Same.refl H) (.int _) List.nodup_nil (fun a m => nomatch m)⟩
  · cases e
def toInt : List D → Option D
  | [.int i] => some (.int i)
  | [.bl b] => some (.int (if b then 1 else 0))
  | _ => none
theorem toInt_ok : RLok K (fun xs H Q => (∃ i, xs = [.int i] ∧ Q (.int i) H) ∨ ∃ k, xs = [.bl k] ∧ Q (.int (if k then 1 else 0)) H) toInt := by
  intro xs H Q ds d f r e k
  unfold toInt at e
  split at e
  · cases e
    obtain ⟨v, rfl, rv⟩ := reps1 r
    cases rv
    exact .inl ⟨_, rfl, k _ H [] (Same.refl H) (.int _) List.nodup_nil (fun a m => nomatch m)⟩
  · cases e
    obtain ⟨v, rfl, rv⟩ := reps1 r
    cases rv
    exact .inr ⟨_, rfl, k _ H [] (Same.refl H) (.int _) List.nodup_nil (fun a m => nomatch m)⟩
  · cases e
def divmodD : List D → Option D
  | [.int i, .int j] => if 0 < j ∧ j < 1073741824 then some (.tup [.int (i / j), .int (i % j)]) else none
  | _ => none
theorem divmod_ok : RLok K (fun xs H Q => ∃ i j, xs = [.int i, .int j] ∧ CDiv i j ∧ ∀ p, H p = none → Q (.ref p) (upd H p (.tup [.int (i / j), .int (i % j)]))) divmodD := by
  intro xs H Q ds d f r e k
  unfold divmodD at e
  split at e
  · split at e
    · rename_i hj
      cases e
      obtain ⟨v, u, g, h, rfl, r1, r2, _⟩ := reps2 r
      cases r1
      cases r2
      refine ⟨_, _, rfl, hj, fun p hp => ?_⟩
      exact k _ _ [] (same_upd hp) (.tup (.inl (.inl upd_same)) (show Reps K _ _ _ ([] ++ ([] ++ [])) from .cons (.int _) (.cons (.int _) .nil))) List.nodup_nil (fun a m => nomatch m)
    · cases e
  · cases e
def min2 : List D → Option D
  | [.int i, .int j] => some (.int (if j < i then j else i))
  | _ => none
def max2 : List D → Option D
  | [.int i, .int j] => some (.int (if j > i then j else i))
  | _ => none
theorem min2_ok : RLok K (fun xs H Q => ∃ i j, xs = [.int i, .int j] ∧ Q (.int (if j < i then j else i)) H) min2 := by
  intro xs H Q ds d f r e k
  unfold min2 at e
  split at e
  · cases e
    obtain ⟨v, u, g, h, rfl, r1, r2, _⟩ := reps2 r
    cases r1
    cases r2
    exact ⟨_, _, rfl, k _ H [] (Same.refl H) (.int _) List.nodup_nil (fun a m => nomatch m)⟩
  · cases e
theorem max2_ok : RLok K (fun xs H Q => ∃ i j, xs = [.int i, .int j] ∧ Q (.int (if j > i then j else i)) H) max2 := by
  intro xs H Q ds d f r e k
  unfold max2 at e
  split at e
  · cases e
    obtain ⟨v, u, g, h, rfl, r1, r2, _⟩ := reps2 r
    cases r1
    cases r2
    exact ⟨_, _, rfl, k _ H [] (Same.refl H) (.int _) List.nodup_nil (fun a m => nomatch m)⟩
  · cases e
/-- the ints of data -/
def intsOf : List D → Option (List Int)
  | [] => some []
  | .int i :: r => (match intsOf r with
    | some is => some (i :: is)
    | none => none)
  | _ :: _ => none
theorem intsOf_map : ∀ (ns : List Int), intsOf (ns.map D.int) = some ns
  | [] => rfl
  | n :: r => by
    show (match intsOf (r.map D.int) with
      | some is => some (n :: is)
      | none => none) = _
    rw [intsOf_map r]
theorem intsOf_eq : ∀ {ds : List D} {ns : List Int}, intsOf ds = some ns → ds = ns.map D.int
  | [], ns, h => by cases h; rfl
  | d :: r, ns, h => by
    cases d with
    | int i =>
      have h : (match intsOf r with
        | some is => some (i :: is)
        | none => none) = some ns := h
      split at h
      · rename_i is e
        cases h
        rw [intsOf_eq e]; rfl
      · cases h
    | _ => cases h
theorem reps_ints {H : Hp} : ∀ {ns : List Int} {vs : List V} {f : List Addr}, Reps K H vs (ns.map D.int) f → vs = ns.map V.int
  | [], _, _, h => by cases h; rfl
  | n :: r, _, _, h => by
    cases h with
    | cons r rs =>
      cases r
      rw [reps_ints rs]; rfl
def listOf : D → Option (List D)
  | .lst ds => some ds | .frz ds => some ds
  | _ => none
theorem listOf_rep {H : Hp} {v : V} {d : D} {ds : List D} {f : List Addr} (r : Rep K H v d f) (e : listOf d = some ds) : ∃ a xs g, v = .ref a ∧ SqL K H a xs ∧ Reps K H xs ds g ∧ ∀ b ∈ g, b ∈ f := by
  cases r <;> cases e
  · rename_i a xs fp s q; exact ⟨_, xs, fp, rfl, .inl (.inl s), q, fun b m => List.mem_cons_of_mem _ m⟩
  · rename_i a xs s q; exact ⟨_, xs, [], rfl, s.sq, q, fun b m => nomatch m⟩
def maxOf : List Int → Int
  | [] => 0
  | [x] => x
  | x :: y :: r => if x < maxOf (y :: r) then maxOf (y :: r) else x
theorem maxOf_mem : ∀ (x : Int) (r : List Int), maxOf (x :: r) ∈ x :: r ∧ ∀ y ∈ x :: r, y ≤ maxOf (x :: r)
  | x, [] => ⟨by simp [maxOf], by simp [maxOf]⟩
  | x, y :: r => by
    obtain ⟨h1, h2⟩ := maxOf_mem y r
    show (if x < maxOf (y :: r) then maxOf (y :: r) else x) ∈ _ ∧ ∀ z ∈ x :: y :: r, z ≤ (if x < maxOf (y :: r) then maxOf (y :: r) else x)
    split
    · rename_i h
      refine ⟨List.mem_cons_of_mem _ h1, fun z m => ?_⟩
      rcases List.mem_cons.mp m with e | m
      · rw [e]; omega
      · exact h2 z m
    · rename_i h
      refine ⟨List.mem_cons_self, fun z m => ?_⟩
      rcases List.mem_cons.mp m with e | m
      · rw [e]; omega
      · have := h2 z m; omega
def minOf : List Int → Int
  | [] => 0
  | [x] => x
  | x :: y :: r => if minOf (y :: r) < x then minOf (y :: r) else x
theorem minOf_mem : ∀ (x : Int) (r : List Int), minOf (x :: r) ∈ x :: r ∧ ∀ y ∈ x :: r, minOf (x :: r) ≤ y
  | x, [] => ⟨by simp [minOf], by simp [minOf]⟩
  | x, y :: r => by
    obtain ⟨h1, h2⟩ := minOf_mem y r
    show (if minOf (y :: r) < x then minOf (y :: r) else x) ∈ _ ∧ ∀ z ∈ x :: y :: r, (if minOf (y :: r) < x then minOf (y :: r) else x) ≤ z
    split
    · rename_i h
      refine ⟨List.mem_cons_of_mem _ h1, fun z m => ?_⟩
      rcases List.mem_cons.mp m with e | m
      · rw [e]; omega
      · exact h2 z m
    · rename_i h
      refine ⟨List.mem_cons_self, fun z m => ?_⟩
      rcases List.mem_cons.mp m with e | m
      · rw [e]; omega
      · have := h2 z m; omega
def onInts (g : List Int → Option D) : List D → Option D
  | [d] => (match listOf d with
    | some ds => (match intsOf ds with
      | some ns => g ns
      | none => none)
    | none => none)
  | _ => none
theorem onInts_rep {H : Hp} {xs : List V} {ds : List D} {d : D} {f : List Addr} {g : List Int → Option D} (r : Reps K H xs ds f) (e : onInts g ds = some d) : ∃ a ns, xs = [.ref a] ∧ SqL K H a (ns.map V.int) ∧ g ns = some d := by
  unfold onInts at e
  split at e
  · rename_i d0
    split at e
    · rename_i es e1
      split at e
      · rename_i ns e2
        obtain ⟨v, rfl, rv⟩ := reps1 r
        obtain ⟨a, ys, g', rfl, s, q, _⟩ := listOf_rep rv e1
        have z := intsOf_eq e2
        subst z
        have z2 := reps_ints q
        subst z2
        exact ⟨a, ns, rfl, s, e⟩
      · cases e
    · cases e
  · cases e
def maxL : List D → Option D := onInts fun ns => match ns with
  | [] => none
  | x :: r => some (.int (maxOf (x :: r)))
def minL : List D → Option D := onInts fun ns => match ns with
  | [] => none
  | x :: r => some (.int (minOf (x :: r)))
def sumL : List D → Option D := onInts fun ns => some (.int ns.sum)
theorem maxL_ok : RLok K (rMax K) maxL := by
  intro xs H Q ds d f r e k
  obtain ⟨a, ns, rfl, s, e⟩ := onInts_rep r e
  cases ns with
  | nil => cases e
  | cons x r =>
    cases e
    refine ⟨a, x :: r, rfl, s, Nat.succ_pos _, fun m hm hle => ?_⟩
    obtain ⟨h1, h2⟩ := maxOf_mem x r
    have : m = maxOf (x :: r) := by
      have a1 := h2 m hm
      have a2 := hle _ h1
      omega
    subst this
    exact k _ H [] (Same.refl H) (.int _) List.nodup_nil (fun a m => nomatch m)
theorem minL_ok : RLok K (rMin K) minL := by
  intro xs H Q ds d f r e k
  obtain ⟨a, ns, rfl, s, e⟩ := onInts_rep r e
  cases ns with
  | nil => cases e
  | cons x r =>
    cases e
    refine ⟨a, x :: r, rfl, s, Nat.succ_pos _, fun m hm hle => ?_⟩
    obtain ⟨h1, h2⟩ := minOf_mem x r
    have : m = minOf (x :: r) := by
      have a1 := h2 m hm
      have a2 := hle _ h1
      omega
    subst this
    exact k _ H [] (Same.refl H) (.int _) List.nodup_nil (fun a m => nomatch m)
theorem sumL_ok : RLok K (rSum K) sumL := by
  intro xs H Q ds d f r e k
  obtain ⟨a, ns, rfl, s, e⟩ := onInts_rep r e
  cases e
  exact ⟨a, ns, rfl, s, k _ H [] (Same.refl H) (.int _) List.nodup_nil (fun a m => nomatch m)⟩
/-- list(..), tuple(..) of things without lists -/
def toList : List D → Option D
  | [.tup ds] => if noLists ds then some (.lst ds) else none
  | [.lst ds] => if noLists ds then some (.lst ds) else none
  | [.frz ds] => some (.lst ds)
  | _ => none
theorem toList_ok : RLok K (fun xs H Q => ∃ p ys, xs = [.ref p] ∧ (SqL K H p ys ∨ SqT K H p ys) ∧ ∀ l, H l = none → Q (.ref l) (upd H l (.lst ys))) toList := by
  intro xs H Q ds d f r e k
  have fin : ∀ {ys : List V} {es : List D}, Reps K H ys es [] → d = .lst es → ∀ l, H l = none → Q (.ref l) (upd H l (.lst ys)) := by
    intro ys es q ed l hl
    subst ed
    have sm := same_upd (o := .lst ys) hl
    exact k _ _ [l] sm (.lst upd_same (q.same sm)) (by simp) (fun a m => by rw [List.mem_singleton.mp m]; exact hl)
  unfold toList at e
  split at e
  · split at e
    · rename_i hn
      cases e
      obtain ⟨v, rfl, rv⟩ := reps1 r
      cases rv with
      | tup s q =>
        have z := Reps.nol _ _ _ q hn
        subst z
        exact ⟨_, _, rfl, .inr s, fin q rfl⟩
    · cases e
  · split at e
    · rename_i hn
      cases e
      obtain ⟨v, rfl, rv⟩ := reps1 r
      cases rv with
      | lst s q =>
        have z := Reps.nol _ _ _ q hn
        subst z
        exact ⟨_, _, rfl, .inl (.inl (.inl s)), fin q rfl⟩
    · cases e
  · cases e
    obtain ⟨v, rfl, rv⟩ := reps1 r
    cases rv with
    | frz s q => exact ⟨_, _, rfl, .inl s.sq, fin q rfl⟩
  · cases e
def toTuple : List D → Option D
  | [.tup ds] => if noLists ds then some (.tup ds) else none
  | [.lst ds] => if noLists ds then some (.tup ds) else none
  | [.frz ds] => some (.tup ds)
  | _ => none
theorem toTuple_ok : RLok K (fun xs H Q => ∃ p ys, xs = [.ref p] ∧ ((SqL K H p ys ∧ ∀ l, H l = none → Q (.ref l) (upd H l (.tup ys))) ∨ (SqT K H p ys ∧ Q (.ref p) H))) toTuple := by
  intro xs H Q ds d f r e k
  have fin : ∀ {ys : List V} {es : List D}, Reps K H ys es [] → d = .tup es → ∀ l, H l = none → Q (.ref l) (upd H l (.tup ys)) := by
    intro ys es q ed l hl
    subst ed
    have sm := same_upd (o := .tup ys) hl
    exact k _ _ [] sm (.tup (.inl (.inl upd_same)) (q.same sm)) List.nodup_nil (fun a m => nomatch m)
  unfold toTuple at e
  split at e
  · split at e
    · rename_i hn
      cases e
      obtain ⟨v, rfl, rv⟩ := reps1 r
      cases rv with
      | tup s q =>
        have z := Reps.nol _ _ _ q hn
        subst z
        exact ⟨_, _, rfl, .inr ⟨s, k _ H [] (Same.refl H) (.tup s q) List.nodup_nil (fun a m => nomatch m)⟩⟩
    · cases e
  · split at e
    · rename_i hn
      cases e
      obtain ⟨v, rfl, rv⟩ := reps1 r
      cases rv with
      | lst s q =>
        have z := Reps.nol _ _ _ q hn
        subst z
        exact ⟨_, _, rfl, .inl ⟨.inl (.inl s), fin q rfl⟩⟩
    · cases e
  · cases e
    obtain ⟨v, rfl, rv⟩ := reps1 r
    cases rv with
    | frz s q => exact ⟨_, _, rfl, .inl ⟨s.sq, fin q rfl⟩⟩
  · cases e

/-! ### isinstance -/
def tyN : D → String
  | .non => "NoneType" | .bl _ => "bool" | .int _ => "int" | .str _ => "str" | .tup _ => "tuple" | .lst _ => "list" | .frz _ => "list" | .dic _ => "dict"
theorem rep_ty {H : Hp} {v : V} {d : D} {f : List Addr} (r : Rep K H v d f) : TyX K H v (.type (tyN d)) := by
  cases r with
  | non => exact .base .non
  | bl b => exact .base (.bl b)
  | int i => exact .base (.int i)
  | str x => exact .base (.str x)
  | tup s q =>
    rcases s with (s | ⟨o, s⟩) | ⟨o, its, n, hk, hc, _⟩
    · exact .base (.tup s)
    · exact .fTuple s
    · exact .kTuple hk hc
  | lst s q => exact .base (.lst s)
  | frz s q =>
    rcases s with ⟨o, s⟩ | ⟨o, its, n, hk, hc, _⟩
    · exact .base (.frz s)
    · exact .kList hk hc
  | dic s q => exact .base (.dK s)
def isiD (g : D → Bool) : D → Option D := fun d => some (.bl (g d))
def isInt : D → Bool
  | .int _ => true | .bl _ => true
  | _ => false
def isBool : D → Bool
  | .bl _ => true
  | _ => false
def isStr : D → Bool
  | .str _ => true
  | _ => false
def isTup : D → Bool
  | .tup _ => true
  | _ => false
def isLst : D → Bool
  | .lst _ => true | .frz _ => true
  | _ => false
theorem kit_int : ∀ d, kitB (tyN d) "int" = some (isInt d) := fun d => by cases d <;> (dsimp only [tyN, isInt, isBool, isStr, isTup, isLst]; decide +kernel)
theorem kit_bool : ∀ d, kitB (tyN d) "bool" = some (isBool d) := fun d => by cases d <;> (dsimp only [tyN, isInt, isBool, isStr, isTup, isLst]; decide +kernel)
theorem kit_str : ∀ d, kitB (tyN d) "str" = some (isStr d) := fun d => by cases d <;> (dsimp only [tyN, isInt, isBool, isStr, isTup, isLst]; decide +kernel)
theorem kit_tup : ∀ d, kitB (tyN d) "tuple" = some (isTup d) := fun d => by cases d <;> (dsimp only [tyN, isInt, isBool, isStr, isTup, isLst]; decide +kernel)
theorem kit_lst : ∀ d, kitB (tyN d) "list" = some (isLst d) := fun d => by cases d <;> (dsimp only [tyN, isInt, isBool, isStr, isTup, isLst]; decide +kernel)
variable {e : Expr} {m : ME} {p : MP} {T : String} {g : D → Bool} {xT : Str} {px pT pos : Pos}
theorem isi_t (hT : ∀ d, kitB (tyN d) T = some (g d)) {H : Hp} {v : V} {d : D} {f : List Addr} {Q : VK} (r : Rep X.K H v d f) (k : Q (.bl (g d)) H) : rIsi X.K [v, .ty T] H Q :=
  ⟨v, .ty T, _, _, g d, rfl, .ty T, rep_ty r, kit_ty (hT d), k⟩
theorem je_isi (hT : ∀ d, kitB (tyN d) T = some (g d)) (ha : JE X e m) (hg : Gl X "isinstance") (hm : X.mg "isinstance" = none) (gT : Gl X xT) (mT : X.mg xT = none) (vT : bootBuiltins xT = some (.type T)) (hv : bootBuiltins "isinstance" = some (.builtin "isinstance") := by decide +kernel)
    (hn : xT ≠ "__name__" := by decide) (hd : (xT == ("__debug__" : Str)) = false := by decide)
    (hs : starEach [e, .Name xT pT] X.env = (false, eval e X.env) :: starEach [.Name xT pT] X.env := by rfl) (hs2 : starEach [.Name xT pT] X.env = (false, eval (.Name xT pT) X.env) :: starEach [] X.env := by rfl)
    (hpl : (backTo pos (starEach [.Name xT pT] X.env)).any (·.1) = false := by rfl) : JE X (.Call (.Name "isinstance" px) [e, .Name xT pT] [] pos) (eUn (isiD g) m) :=
  pe_imp (pe_callB call_isi hg hm hv (pa_cons ha (pa_cons (pe_bltn (v := .ty T) gT mT vT rfl hn hd) pa_nil hs2) hs) (by decide) (by decide) hs hpl) fun σ H Q => by
    rintro ⟨ρ, d, ρ', fp, R, e, k⟩
    unfold eUn at e
    split at e
    · rename_i d1 ρ1 e1
      cases e
      refine ⟨ρ, d1, ρ', fp, R, e1, fun v H1 fp1 fr R1 r n c => ?_⟩
      exact isi_t hT r (k _ H1 fp1 [] R1 (.bl _) R1.nodup (c.sub fun a m => List.mem_append_right _ m))
    · cases e
theorem jp_isi (hT : ∀ d, kitB (tyN d) T = some (g d)) (ha : JP X e p) (hg : Gl X "isinstance") (hm : X.mg "isinstance" = none) (gT : Gl X xT) (mT : X.mg xT = none) (vT : bootBuiltins xT = some (.type T)) (hv : bootBuiltins "isinstance" = some (.builtin "isinstance") := by decide +kernel)
    (hn : xT ≠ "__name__" := by decide) (hd : (xT == ("__debug__" : Str)) = false := by decide)
    (hs : starEach [e, .Name xT pT] X.env = (false, eval e X.env) :: starEach [.Name xT pT] X.env := by rfl) (hs2 : starEach [.Name xT pT] X.env = (false, eval (.Name xT pT) X.env) :: starEach [] X.env := by rfl)
    (hpl : (backTo pos (starEach [.Name xT pT] X.env)).any (·.1) = false := by rfl) : JP X (.Call (.Name "isinstance" px) [e, .Name xT pT] [] pos) (pUn (isiD g) p) :=
  pe_imp (pe_callB call_isi hg hm hv (pa_cons ha (pa_cons (pe_bltn (v := .ty T) gT mT vT rfl hn hd) pa_nil hs2) hs) (by decide) (by decide) hs hpl) fun σ H Q => by
    rintro ⟨ρ, d, fp, R, e, k⟩
    unfold pUn at e
    split at e
    · rename_i d1 e1
      cases e
      refine ⟨ρ, d1, fp, R, e1, fun v H1 fr s r => ?_⟩
      exact isi_t hT r (k _ H1 [] s (.bl _))
    · cases e
end
end Bv

namespace Bv
open PySem PySem.Spec PyProof.Rows L2

section
variable {X : Cx} {e a b o c : Expr} {es : List Expr} {m m1 m2 : ME} {p p1 p2 : MP} {ms : List ME} {ps : List MP} {pos : Pos} {io : List Nat} {s1 s2 : MS} {st : Stmt} {sts sts1 sts2 : List Stmt} {t : MT}

/-! ### pure operations as owned values: what they make is new -/
theorem je_binPP {o : Operator} {r : R2} {op : D → D → Option D} (ho : OpR X (binaryOp o) r) (ok : R2ok X.K r op) (ha : JP X a p1) (hb : JP X b p2) : JE X (.BinOp a o b pos) (ePure (pBin op p1 p2)) :=
  pe_imp (pe_op ho ha hb) fun σ H Q => by
    rintro ⟨ρ, d, ρ', fp, R, e, k⟩
    unfold ePure at e
    split at e
    · rename_i d' e0
      cases e
      unfold pBin at e0
      split at e0
      · rename_i d1 e1
        split at e0
        · rename_i d2 e2
          refine ⟨ρ, d1, fp, R, e1, fun x H1 fr1 q1 r1 => ⟨ρ, d2, fp, R.same q1, e2, fun y H2 fr2 q2 r2 => ?_⟩⟩
          refine ok x y H2 Q d1 d2 d fr1 fr2 (r1.same q2) r2 e0 fun v H' fr q r n f => ?_
          have S := (q1.trans q2).trans q
          have f' : ∀ a ∈ fr, H a = none := fun a m => (q1.trans q2).free (f a m)
          exact k v H' fp fr (R.same S) r (nd_new R n f') (chg_new S f' fun a m => m)
        · cases e0
      · cases e0
    · cases e
theorem cmpPP_t {r : R2} {op : D → D → Option D} (ok : R2ok X.K r op) (σ : L2.St) (H : Hp) (Q : VK) (h : tM X.K (ePure (pBin op p1 p2)) σ H Q) : tOp r (tP X.K p1) (tP X.K p2) σ H Q := by
  obtain ⟨ρ, d, ρ', fp, R, e, k⟩ := h
  unfold ePure at e
  split at e
  · rename_i d' e0
    cases e
    unfold pBin at e0
    split at e0
    · rename_i d1 e1
      split at e0
      · rename_i d2 e2
        refine ⟨ρ, d1, fp, R, e1, fun x H1 fr1 q1 r1 => ⟨ρ, d2, fp, R.same q1, e2, fun y H2 fr2 q2 r2 => ?_⟩⟩
        refine ok x y H2 Q d1 d2 d fr1 fr2 (r1.same q2) r2 e0 fun v H' fr q r n f => ?_
        have S := (q1.trans q2).trans q
        have f' : ∀ a ∈ fr, H a = none := fun a m => (q1.trans q2).free (f a m)
        exact k v H' fp fr (R.same S) r (nd_new R n f') (chg_new S f' fun a m => m)
      · cases e0
    · cases e0
  · cases e
theorem je_cmpPP {o : CmpOp} {r : R2} {op : D → D → Option D} (ho : OpR X (compareOp o) r) (ok : R2ok X.K r op) (ha : JP X a p1) (hb : JP X b p2) (hm : behindInMarks o b = false) : JE X (.Compare a [o] [b] pos) (ePure (pBin op p1 p2)) :=
  pe_imp (pe_cmpR ho ha hb hm) (cmpPP_t ok)
theorem jt_cmpPure {o : CmpOp} {r : R2} {op : D → D → Option D} (ho : OpR X (compareOp o) r) (ok : R2ok X.K r op) (ha : JP X a p1) (hb : JP X b p2) (hm : behindInMarks o b = false) : JT X (.Compare a [o] [b] pos) (asT (ePure (pBin op p1 p2))) :=
  pt_imp (pt_cmpR ho ha hb hm) fun σ H Q h => cmpPP_t ok σ H _ (tB_t σ H Q h)
/-- a op1 b op2 c of three numbers -/
def eChain (op op' : D → D → Option D) (p p1 p2 : MP) : ME := fun ρ => match p ρ with
  | some x => (match p1 ρ with
    | some y => (match op x y with
      | some (.bl true) => (match p2 ρ with
        | some z => (match op' y z with
          | some (.bl k) => some (.bl k, ρ)
          | _ => none)
        | none => none)
      | some (.bl false) => some (.bl false, ρ)
      | _ => none)
    | none => none)
  | none => none
theorem chain_t {r r' : R2} {op op' : D → D → Option D} (ok : R2ok X.K r op) (ok' : R2ok X.K r' op') (σ : L2.St) (H : Hp) (Q : VK) (h : tM X.K (eChain op op' p p1 p2) σ H Q) : tChain r r' (tP X.K p) (tP X.K p1) (tP X.K p2) σ H Q := by
  obtain ⟨ρ, d, ρ', fp, R, e, k⟩ := h
  unfold eChain at e
  split at e
  · rename_i x ex
    split at e
    · rename_i y ey
      refine ⟨ρ, x, fp, R, ex, fun xv H1 f1 q1 r1 => ⟨ρ, y, fp, R.same q1, ey, fun yv H2 f2 q2 r2 => ?_⟩⟩
      split at e
      · rename_i eo
        split at e
        · rename_i z ez
          split at e
          · rename_i kk eo'
            cases e
            refine ok xv yv H2 _ x y (.bl true) f1 f2 (r1.same q2) r2 eo fun v H3 fr q3 r3 _ _ => ?_
            cases r3
            refine ⟨true, rfl, iteT ?_⟩
            have S3 := (q1.trans q2).trans q3
            refine ⟨ρ, z, fp, R.same S3, ez, fun zv H4 f4 q4 r4 => ?_⟩
            refine ok' yv zv H4 Q y z (.bl kk) f2 f4 ((r2.same q3).same q4) r4 eo' fun v H5 fr q5 r5 _ _ => ?_
            cases r5
            exact k _ H5 fp [] (R.same ((S3.trans q4).trans q5)) (.bl _) R.nodup (Chg.same ((S3.trans q4).trans q5))
          · cases e
        · cases e
      · rename_i eo
        cases e
        refine ok xv yv H2 _ x y (.bl false) f1 f2 (r1.same q2) r2 eo fun v H3 fr q3 r3 _ _ => ?_
        cases r3
        refine ⟨false, rfl, iteF ?_⟩
        have S3 := (q1.trans q2).trans q3
        exact k _ H3 fp [] (R.same S3) (.bl _) R.nodup (Chg.same S3)
      · cases e
    · cases e
  · cases e
theorem je_chain {o o' : CmpOp} {r r' : R2} {op op' : D → D → Option D} (ho : OpR X (compareOp o) r) (ok : R2ok X.K r op) (ho' : OpR X (compareOp o') r') (ok' : R2ok X.K r' op') (ha : JP X a p) (hb : JP X b p1) (hc : JP X c p2)
    (hm : lastMarks [o, o'] [b, c] = false := by with_unfolding_all rfl) : JE X (.Compare a [o, o'] [b, c] pos) (eChain op op' p p1 p2) := pe_imp (pe_chain ho ho' ha hb hc hm) (chain_t ok ok')
theorem jt_chain {o o' : CmpOp} {r r' : R2} {op op' : D → D → Option D} (ho : OpR X (compareOp o) r) (ok : R2ok X.K r op) (ho' : OpR X (compareOp o') r') (ok' : R2ok X.K r' op') (ha : JP X a p) (hb : JP X b p1) (hc : JP X c p2)
    (hm : lastMarks [o, o'] [b, c] = false := by with_unfolding_all rfl) : JT X (.Compare a [o, o'] [b, c] pos) (asT (eChain op op' p p1 p2)) := pt_imp (pt_chain ho ho' ha hb hc hm) fun σ H Q h => chain_t ok ok' σ H _ (tB_t σ H Q h)

/-! ### a name's value: a copy, or (a list) taken away -/
def eTake (i : Nat) : ME := fun ρ => match nth ρ i with
  | some d => if noList d then some (d, ρ) else some (d, ρ.set i none)
  | none => none
theorem je_take' {i : Nat} (h : PE X a (tVar i)) : JE X a (eTake i) := pe_imp h fun σ H Q => by
  rintro ⟨ρ, d, ρ', fp, R, e, k⟩
  unfold eTake at e
  split at e
  · rename_i d' en
    obtain ⟨v, f, fq, e1, r, R', n, s⟩ := R.take (nth_some en)
    split at e
    · rename_i hn
      cases e
      exact ⟨v, e1, k v H fp [] R (rep_none r hn) R.nodup Chg.refl⟩
    · cases e
      exact ⟨v, e1, k v H fq f R' r n ⟨fun _ _ e _ => e, fun b m => .inl ((s b).mpr m)⟩⟩
  · cases e
theorem je_take (i : Nat) {x : Str} (hN : X.N[i]? = some x := by rfl) (hv : Vis X.env.scope x := by first | exact Or.inl rfl | exact Or.inr (Or.inl rfl) | exact Or.inr (Or.inr rfl)) (hd : (x == ("__debug__" : Str)) = false := by decide)
    (hcd : (x == ("__classdict__" : Str)) = false := by decide) : JE X (.Name x pos) (eTake i) := je_take' (pe_var hN hv hd hcd)

/-! ### truth -/
def truD : D → Option Bool
  | .non => some false
  | .bl b => some b
  | .int i => some (i != 0)
  | .str z => if z.length ≤ 16777216 then some ((z.length : Int) != 0) else none
  | .tup ds => some (!ds.isEmpty)
  | .lst ds => some (!ds.isEmpty)
  | .frz ds => some (!ds.isEmpty)
  | .dic ds => some (!ds.isEmpty)
theorem reps_empty {K : PySem.W.Frag} {H : Hp} {vs : List V} {ds : List D} {f : List Addr} (r : Reps K H vs ds f) : vs.isEmpty = ds.isEmpty := by
  cases r <;> rfl
theorem repk_empty {K : PySem.W.Frag} {H : Hp} {vs : List (Key × V)} {ds : List (Key × D)} {f : List Addr} (r : RepK K H vs ds f) : vs.isEmpty = ds.isEmpty := by
  cases r <;> rfl
theorem truD_ok {K : PySem.W.Frag} {H : Hp} {v : V} {d : D} {f : List Addr} {k : Bool} (r : Rep K H v d f) (e : truD d = some k) : TruV K v H k := by
  cases r with
  | non => cases e; exact (rfl : false = false)
  | bl b => cases e; exact (rfl : k = k)
  | int i => cases e; exact (rfl : (i != 0) = (i != 0))
  | str x =>
    have e : (if x.length ≤ 16777216 then some ((x.length : Int) != 0) else none) = some k := e
    split at e
    · rename_i hz
      cases e
      exact (show _ ∧ _ from ⟨szl hz, rfl⟩)
    · cases e
  | tup s q =>
    cases e
    exact .inr (.inl ⟨_, s, by rw [reps_empty q]⟩)
  | lst s q =>
    cases e
    exact .inl ⟨_, .inl (.inl s), by rw [reps_empty q]⟩
  | frz s q =>
    cases e
    exact .inl ⟨_, s.sq, by rw [reps_empty q]⟩
  | dic s q =>
    cases e
    exact .inr (.inr ⟨_, s, by rw [repk_empty q]⟩)
def tru (m : ME) : MT := fun ρ => match m ρ with
  | some (d, ρ') => (match truD d with
    | some b => some (b, ρ')
    | none => none)
  | none => none
def truP (p : MP) : MT := fun ρ => match p ρ with
  | some d => (match truD d with
    | some b => some (b, ρ)
    | none => none)
  | none => none
theorem jt_tru (h : JE X a m) (he : ∀ whole, isTrue a X.env whole = (do let v ← whole; standAt a.pos; holding [v] (truthy v)) := by intro _; rfl) : JT X a (tru m) := pt_imp (pt_truth h he) fun σ H Q => by
  rintro ⟨ρ, b, ρ', fp, R, e, k⟩
  unfold tru at e
  split at e
  · rename_i d ρ1 e1
    split at e
    · rename_i b' e2
      cases e
      exact ⟨ρ, d, ρ', fp, R, e1, fun v H' fp' fr R' r n c => ⟨b, truD_ok r e2, k H' fp' R' (c.sub fun a m => List.mem_append_right _ m)⟩⟩
    · cases e
  · cases e
theorem jt_truP (h : JP X a p) (he : ∀ whole, isTrue a X.env whole = (do let v ← whole; standAt a.pos; holding [v] (truthy v)) := by intro _; rfl) : JT X a (truP p) := pt_imp (pt_truth h he) fun σ H Q => by
  rintro ⟨ρ, b, ρ', fp, R, e, k⟩
  unfold truP at e
  split at e
  · rename_i d e1
    split at e
    · rename_i b' e2
      cases e
      exact ⟨ρ, d, fp, R, e1, fun v H' fr s r => ⟨b, truD_ok r e2, k H' fp (R.same s) (Chg.same s)⟩⟩
    · cases e
  · cases e

/-! ### for and comprehensions over what a name holds -/
def sForV (i : Nat) (g : MG) (b : MS) : MS := fun ρ => match nth ρ i with
  | some d => if notStr d then (match seqD d with
    | some ds => if noList d then forD g b ds ρ else (match forD g b ds (ρ.set i none) with
      | some (.nx, ρ1) => some (.nx, ρ1.set i (some d))
      | some (.rt r, ρ1) => some (.rt r, ρ1.set i (some d))
      | _ => none)
    | none => none) else none
  | none => none
theorem js_forV {i : Nat} {tg : Expr} {g : MG} {b : MS} {iter : Expr} (hp : PassesOwn (model X.prog X.w) X.A X.env X.xe) (hc : X.calm = true) (hi : PE X iter (tVar i)) (hg : JG X (i :: io) tg g) (hb : JSs X (i :: io) sts b)
    (hs : ∀ x, foldedSetIterable iter X.env x = pure x := by intro _; rfl) : JS X io (.For tg iter sts [] pos) (sForV i g b) := ⟨fun pins s σ H D I h => by
  obtain ⟨ρ, o, ρ', fp, R, e, k⟩ := h
  by_cases hl : ∃ d, nth ρ i = some d ∧ noList d = true
  · obtain ⟨d, en, hn⟩ := hl
    unfold sForV at e
    rw [en] at e
    dsimp only at e
    split at e
    · rename_i hst
      split at e
      · rename_i ds e2
        try rw [if_pos hn] at e
        have k' : SPost X.K (i :: io) D σ H fp ρ' o := by
          cases o with
          | nx => exact fun σ' H' fp' R' c p => k σ' H' fp' R' c ⟨p.1, fun j m => p.2 j (List.mem_cons_of_mem _ m)⟩
          | bk => exact fun σ' H' fp' R' c p => k σ' H' fp' R' c ⟨p.1, fun j m => p.2 j (List.mem_cons_of_mem _ m)⟩
          | ct => exact fun σ' H' fp' R' c p => k σ' H' fp' R' c ⟨p.1, fun j m => p.2 j (List.mem_cons_of_mem _ m)⟩
          | rt d => exact fun v σ' H' fp' fr R' r n c p => k v σ' H' fp' fr R' r n c ⟨p.1, fun j m => p.2 j (List.mem_cons_of_mem _ m)⟩
        obtain ⟨v, f, hv, r, _⟩ := R.get (nth_some en)
        have r0 := rep_none r hn
        obtain ⟨J, S, hJ⟩ := iTL r0 e2 hst
        have C := for_core (io := i :: io) R (show ([] ++ fp).Nodup from R.nodup) S e k'
        refine (ps_for hp hc (pi_any hi) hg hb hs).run pins s σ H D I ?_
        rcases hJ with ⟨a, xs, rfl, sq, rfl⟩ | ⟨a, xs, rfl, sq, rfl⟩
        · exact .inl ⟨_, hv, a, rfl, ⟨xs, sq⟩, C⟩
        · exact .inr ⟨_, hv, a, rfl, ⟨xs, sq⟩, C⟩
      · cases e
    · cases e
  · refine (js_forN hp hc hi hg hb hs).run pins s σ H D I ⟨ρ, o, ρ', fp, R, ?_, k⟩
    unfold sForV at e
    unfold sForN
    split at e
    · rename_i d en
      try rw [en]
      try dsimp only
      split at e
      · rename_i hst
        try rw [if_pos hst]
        split at e
        · rename_i ds e2
          have hn : ¬ noList d = true := fun h => hl ⟨d, en, h⟩
          rw [if_neg hn] at e
          try rw [e2]
          exact e
        · cases e
      · cases e
    · cases e⟩
/-- what a name holds, for a comprehension: a list is held aside meanwhile -/
def eLcV (i : Nat) (g : MG) (tt : MT) (te : ME) (own : List Nat) : ME := fun ρ => match nth ρ i with
  | some d => if notStr d then (match seqD d with
    | some ds => if ds.length ≤ 16777216 then (if noList d then (match lcD g tt te own ds (wipeE own ρ) with
        | some (ys, ρ1) => some (.lst ys, ρ1)
        | none => none)
      else (match lcD g tt te own ds (wipeE own (ρ.set i none)) with
        | some (ys, ρ1) => some (.lst ys, ρ1.set i (some d))
        | none => none)) else none
    | none => none) else none
  | none => none
theorem eLcV_t {i : Nat} {g : MG} {tt : MT} {te : ME} {own : List Nat} {io : List Nat} (hio : ∀ σ : L2.St, σ.length = X.N.length → ∀ σ2, Pin io (L2.wipe σ own) σ2 → L2.wipe σ2 own = L2.wipe σ own) (σ : L2.St) (H : Hp) (Q : VK) (hσ : σ.length = X.N.length) (h : tM X.K (eLcV i g tt te own) σ H Q) :
    tLc (tiAny X.K (tVar i)) (tG X.K io g) (tT X.K tt) (tM X.K te) own σ H Q := by
  obtain ⟨ρ, d, ρ', fp, R, e, k⟩ := h
  unfold eLcV at e
  split at e
  · rename_i d0 en
    split at e
    · rename_i hst
      split at e
      · rename_i ds e2
        split at e
        · rename_i hz
          obtain ⟨v, f, fq, hv, r, R1, n, s⟩ := R.take (nth_some en)
          split at e
          · rename_i hn
            split at e
            · rename_i ys ρ1 e3
              cases e
              have r0 := rep_none r hn
              obtain ⟨J, S, hJ⟩ := iTL r0 e2 hst
              have C := fun D hD => lc_turns (K := X.K) (tt := tt) (te := te) (Q := Q) (hio σ hσ) R (show ([] ++ fp).Nodup from R.nodup) S hz e3 D hD fun H3 fp3 fr R3 r3 n3 c3 => k (.ref D) H3 fp3 fr R3 r3 n3 c3
              rcases hJ with ⟨a, xs, rfl, sq, rfl⟩ | ⟨a, xs, rfl, sq, rfl⟩
              · exact .inl ⟨_, hv, a, rfl, ⟨xs, sq⟩, C⟩
              · exact .inr ⟨_, hv, a, rfl, ⟨xs, sq⟩, C⟩
            · cases e
          · split at e
            · rename_i ys ρ1 e3
              cases e
              obtain ⟨J, S, hJ⟩ := iTL r e2 hst
              have C := fun D hD => lc_turns (K := X.K) (tt := tt) (te := te) (Q := Q) (hio σ hσ) R1 n S hz e3 D hD fun H3 fp3 fr R3 r3 n3 c3 => by
                have r1 := rep_aside r c3 R1.mb n
                have n4 := nd_aside c3 (Rep.mb _ _ _ r) n n3
                have n5 := List.nodup_append.mp n4
                have n6 := List.nodup_append.mp n3
                obtain ⟨fp4, R4, s4⟩ := R3.put' hv r1 (List.nodup_append.mpr ⟨n5.1, n6.2.1, fun a ha b hb => n5.2.2 a ha b (List.mem_append_right _ hb)⟩)
                refine k (.ref D) H3 fp4 fr R4 r3 (List.nodup_append.mpr ⟨n6.1, R4.nodup, fun a ha b hb => ?_⟩) ⟨fun b o e h => c3.keep b o e fun m => h ((s b).mpr (List.mem_append_right _ m)), fun b m => ?_⟩
                · rcases List.mem_append.mp (s4 b hb) with m | m
                  · exact fun e => n5.2.2 b m a (List.mem_append_left _ ha) e.symm
                  · exact n6.2.2 a ha b m
                · have old : ∀ x, x ∈ fr ++ fp3 → x ∈ fp ∨ H x = none := fun x m => (c3.new x m).imp (fun m => (s x).mpr (List.mem_append_right _ m)) id
                  rcases List.mem_append.mp m with m | m
                  · exact old b (List.mem_append_left _ m)
                  · rcases List.mem_append.mp (s4 b m) with m | m
                    · exact .inl ((s b).mpr (List.mem_append_left _ m))
                    · exact old b (List.mem_append_right _ m)
              rcases hJ with ⟨a, xs, rfl, sq, rfl⟩ | ⟨a, xs, rfl, sq, rfl⟩
              · exact .inl ⟨_, hv, a, rfl, ⟨xs, sq⟩, C⟩
              · exact .inr ⟨_, hv, a, rfl, ⟨xs, sq⟩, C⟩
            · cases e
        · cases e
      · cases e
    · cases e
  · cases e
section
variable {elt tg iter : Expr} {ifs : List Expr} {scope : Scope} {own : List (Str × Nat)} {g : MG} {tt : MT} {te : ME}
theorem je_lcV {i : Nat} (io : List Nat) (hc : X.calm = true) (hN : X.N.Nodup) (hi : PE X iter (tVar i)) (ok : BlkOk X.N X.env.scope scope own) (hio : (others X.N.length (own.map (·.2))).all (fun i => io.contains i) = true)
    (hg : ∀ (s : Shared) (H : Hp) (C : Addr) (cl : List (Str × Addr)) (fp : List Addr), JG (X.blk s H scope (compEnvC scope cl C X.env) fp) io tg g) (ht : ∀ (s : Shared) (H : Hp) (C : Addr) (cl : List (Str × Addr)) (fp : List Addr), PTs (X.blk s H scope (compEnvC scope cl C X.env) fp) ifs (tT X.K tt))
    (he : ∀ (s : Shared) (H : Hp) (C : Addr) (cl : List (Str × Addr)) (fp : List Addr), JE (X.blk s H scope (compEnvC scope cl C X.env) fp) elt te) (hs : ∀ x, foldedSetIterable iter X.env x = pure x := by intro _; rfl) :
    JE X (.ListComp elt [⟨tg, iter, ifs, 0⟩] scope pos) (eLcV i g tt te (own.map (·.2))) :=
  ⟨fun pins s σ H Q I h => (pe_lc hc hN (pi_any hi) ok hg ht he hs).run pins s σ H Q I (eLcV_t (others_ok hio) σ H Q I.len h)⟩
theorem js_setLcV {i j : Nat} {y : Str} {py spos : Pos} (io : List Nat) {io' : List Nat} (hc : X.calm = true) (hN : X.N.Nodup) (hi : PE X iter (tVar i)) (ok : BlkOk X.N X.env.scope scope own) (hio : (others X.N.length (own.map (·.2))).all (fun i => io.contains i) = true)
    (hg : ∀ (s : Shared) (H : Hp) (C : Addr) (cl : List (Str × Addr)) (fp : List Addr), JG (X.blk s H scope (compEnvC scope cl C X.env) fp) io tg g) (ht : ∀ (s : Shared) (H : Hp) (C : Addr) (cl : List (Str × Addr)) (fp : List Addr), PTs (X.blk s H scope (compEnvC scope cl C X.env) fp) ifs (tT X.K tt))
    (he : ∀ (s : Shared) (H : Hp) (C : Addr) (cl : List (Str × Addr)) (fp : List Addr), JE (X.blk s H scope (compEnvC scope cl C X.env) fp) elt te)
    (hsw : swapsWith (.ListComp elt [⟨tg, iter, ifs, 0⟩] scope pos) (some (.Name y py)) spos.line X.env = pure true) (hy : X.N[j]? = some y := by rfl) (hyo : j ∉ io' := by decide) (hyl : X.env.scope.names.lookup y = some .local := by rfl) (hs : ∀ x, foldedSetIterable iter X.env x = pure x := by intro _; rfl) :
    JS X io' (.Assign [.Name y py] (.ListComp elt [⟨tg, iter, ifs, 0⟩] scope pos) spos) (sSet j (eLcV i g tt te (own.map (·.2)))) :=
  ⟨fun pins s σ H D I h => (ps_setLc hc hN hy hyl hsw (pi_any hi) ok hg ht he hs).run pins s σ H D I (by
    have h' := gName_t hyo D σ H h
    exact eLcV_t (others_ok hio) σ H _ I.len h')⟩
end

/-! ### texts' methods, dicts -/
/-- a method of a text by values -/
def SMok (K : PySem.W.Frag) (r : V → List V → Hp → VK → Prop) (op : Str → List D → Option D) : Prop := ∀ (z : Str) (ys : List V) (H : Hp) (Q : VK) (ds : List D) (d : D) (f : List Addr), Reps K H ys ds f → op z ds = some d →
  (∀ v H' fr, Same H H' → Rep K H' v d fr → fr.Nodup → (∀ a ∈ fr, H a = none) → Q v H') → r (.str z) ys H Q
def eSm (op : Str → List D → Option D) (p : MP) (ps : List MP) : ME := fun ρ => match p ρ with
  | some (.str z) => (match evp ps ρ with
    | some ds => (match op z ds with
      | some d => some (d, ρ)
      | none => none)
    | none => none)
  | _ => none
theorem je_sm1 {id : String} {name : Str} {apos : Pos} {r : V → List V → Hp → VK → Prop} {op : Str → List D → Option D} (slot : Slot "str" name id) (ty : typeOf (.builtin id) = pure (.type "method_descriptor")) (rule : MtR X id r) (ok : SMok X.K r op) (ho : JP X o p) (he : JP X e p1)
    (hs : starEach [e] X.env = [(false, eval e X.env)] := by rfl) (hbase : attributeBase o name X.env (eval o X.env) = eval o X.env := by rfl) (hline : (apos.endLine == pos.line) = true := by rfl) :
    JE X (.Call (.Attribute o name apos) [e] [] pos) (eSm op p [p1]) := pe_imp (pe_m1 slot ty rule ho he hs hbase hline) fun σ H Q => by
  rintro ⟨ρ, d, ρ', fp, R, e, k⟩
  unfold eSm at e
  split at e
  · rename_i z e1
    split at e
    · rename_i ds e2
      split at e
      · rename_i d' e3
        cases e
        unfold evp at e2
        split at e2
        · rename_i d1 e4
          split at e2
          · rename_i ds' e5
            cases e2
            cases e5
            refine ⟨ρ, .str z, fp, R, e1, fun v H1 f1 q1 r1 => ?_⟩
            cases r1
            refine ⟨⟨z, rfl⟩, ρ, d1, fp, R.same q1, e4, fun y H2 f2 q2 r2 => ?_⟩
            refine ok z [y] H2 Q [d1] d _ (Reps.single r2) e3 fun v H' fr q r n f => ?_
            have S := (q1.trans q2).trans q
            have f' : ∀ a ∈ fr, H a = none := fun a m => (q1.trans q2).free (f a m)
            exact k v H' fp fr (R.same S) r (nd_new R n f') (chg_new S f' fun a m => m)
          · cases e2
        · cases e2
      · cases e
    · cases e
  · cases e
def splitD (z : Str) : List D → Option D
  | [.str b] => if (b.length == 0) = false ∧ z.length + 2 ≤ 16777216 then some (.lst ((Txt.split z b).map D.str)) else none
  | _ => none
theorem reps_strs {K : PySem.W.Frag} {H : Hp} : ∀ (ys : List Str), Reps K H (ys.map V.str) (ys.map D.str) []
  | [] => .nil
  | y :: r => .cons (.str y) (reps_strs r)
theorem split_ok {K : PySem.W.Frag} : SMok K (fun x xs H Q => ∃ a b, x = .str a ∧ xs = [.str b] ∧ (b.length == 0) = false ∧ a.length + 2 ≤ sizeLine ∧ rNewStrs (Txt.split a b) H Q) splitD := by
  intro z ys H Q ds d f r e k
  unfold splitD at e
  split at e
  · split at e
    · rename_i hz
      cases e
      obtain ⟨v, rfl, rv⟩ := reps1 r
      cases rv
      refine ⟨z, _, rfl, rfl, hz.1, szl hz.2, fun q hq => ?_⟩
      exact k _ _ [q] (same_upd hq) (.lst upd_same (reps_strs _)) (by simp) (fun a m => by rw [List.mem_singleton.mp m]; exact hq)
    · cases e
  · cases e
theorem je_split {apos : Pos} (ho : JP X o p) (he : JP X e p1) (hs : starEach [e] X.env = [(false, eval e X.env)] := by rfl) (hbase : attributeBase o "split" X.env (eval o X.env) = eval o X.env := by rfl) (hline : (apos.endLine == pos.line) = true := by rfl) :
    JE X (.Call (.Attribute o "split" apos) [e] [] pos) (eSm splitD p [p1]) := je_sm1 PySem.F.slot_str_split PySem.F.type_str_split mt_split split_ok ho he hs hbase hline
def strsOf : List D → Option (List Str)
  | [] => some []
  | .str i :: r => (match strsOf r with
    | some is => some (i :: is)
    | none => none)
  | _ :: _ => none
theorem strsOf_map : ∀ (ns : List Str), strsOf (ns.map D.str) = some ns
  | [] => rfl
  | n :: r => by
    show (match strsOf (r.map D.str) with
      | some is => some (n :: is)
      | none => none) = _
    rw [strsOf_map r]
theorem strsOf_eq : ∀ {ds : List D} {ns : List Str}, strsOf ds = some ns → ds = ns.map D.str
  | [], ns, h => by cases h; rfl
  | d :: r, ns, h => by
    cases d with
    | str i =>
      have h : (match strsOf r with
        | some is => some (i :: is)
        | none => none) = some ns := h
      split at h
      · rename_i is e
        cases h
        rw [strsOf_eq e]; rfl
      · cases h
    | _ => cases h
theorem reps_strsI {K : PySem.W.Frag} {H : Hp} : ∀ {ns : List Str} {vs : List V} {f : List Addr}, Reps K H vs (ns.map D.str) f → vs = ns.map V.str
  | [], _, _, h => by cases h; rfl
  | n :: r, _, _, h => by
    cases h with
    | cons r rs =>
      cases r
      rw [reps_strsI rs]; rfl
def joinD (z : Str) : List D → Option D
  | [d] => (match itemsD d with
    | some ds => (match strsOf ds with
      | some ys => if (ys.map (·.length)).sum + ys.length * z.length ≤ 16777216 then some (.str (Txt.join z ys)) else none
      | none => none)
    | none => none)
  | _ => none
theorem join_ok {K : PySem.W.Frag} : SMok K (fun x xs H Q => ∃ a p, ∃ ys : List Str, x = .str a ∧ xs = [.ref p] ∧ (SqL K H p (ys.map V.str) ∨ SqT K H p (ys.map V.str)) ∧
      (ys.map (·.length)).sum + ys.length * a.length ≤ 16777216 ∧ Q (.str (Txt.join a ys)) H) joinD := by
  intro z ys H Q ds d f r e k
  unfold joinD at e
  split at e
  · rename_i d0
    split at e
    · rename_i es e1
      split at e
      · rename_i ns e2
        split at e
        · rename_i hz
          cases e
          obtain ⟨v, rfl, rv⟩ := reps1 r
          have z2 := strsOf_eq e2
          subst z2
          have kk := k (.str (Txt.join z ns)) H [] (Same.refl H) (.str _) List.nodup_nil (fun a m => nomatch m)
          cases rv <;> cases e1
          · rename_i a xs s q
            have z3 := reps_strsI q
            subst z3
            exact ⟨z, a, ns, rfl, rfl, .inr s, hz, kk⟩
          · rename_i a xs fp s q
            have z3 := reps_strsI q
            subst z3
            exact ⟨z, a, ns, rfl, rfl, .inl (.inl (.inl s)), hz, kk⟩
          · rename_i a xs s q
            have z3 := reps_strsI q
            subst z3
            exact ⟨z, a, ns, rfl, rfl, .inl s.sq, hz, kk⟩
        · cases e
      · cases e
    · cases e
  · cases e
theorem je_join {apos : Pos} (ho : JP X o p) (he : JP X e p1) (hs : starEach [e] X.env = [(false, eval e X.env)] := by rfl) (hbase : attributeBase o "join" X.env (eval o X.env) = eval o X.env := by rfl) (hline : (apos.endLine == pos.line) = true := by rfl) :
    JE X (.Call (.Attribute o "join" apos) [e] [] pos) (eSm joinD p [p1]) := je_sm1 PySem.F.slot_str_join PySem.F.type_str_join mt_join join_ok ho he hs hbase hline
/-! dicts -/
def keyOf : D → Option Key
  | .int i => some (.inl i)
  | .str x => some (.inr x)
  | _ => none
def valK (kvs : List (Key × D)) (k : Key) : Option D := (kvs.find? fun kv => decide (kv.1 = k)).map (·.2)
theorem repk_val {K : PySem.W.Frag} {H : Hp} {k : Key} : ∀ {ds : List (Key × D)} {vs : List (Key × V)} {f : List Addr}, RepK K H vs ds f → (valV vs k).isSome = (valK ds k).isSome ∧ ∀ d, valK ds k = some d → ∃ v g, valV vs k = some v ∧ Rep K H v d g ∧ g.Sublist f
  | _, _, _, .nil => ⟨rfl, fun d e => by cases e⟩
  | _, _, _, .cons (k := j) (v := v) (d := d) (ds := ds) r rs => by
    obtain ⟨i1, i2⟩ := repk_val (k := k) rs
    by_cases e : j = k
    · refine ⟨by rw [valV_pos e]; simp [valK, e], fun d' e' => ?_⟩
      have : d' = d := by simp [valK, e] at e'; exact e'.symm
      subst this
      exact ⟨v, _, valV_pos e, r, List.sublist_append_left _ _⟩
    · refine ⟨by rw [valV_neg e, i1]; simp [valK, e], fun d' e' => ?_⟩
      have : valK ds k = some d' := by simpa [valK, List.find?_cons, e] using e'
      obtain ⟨w, g, h1, h2, h3⟩ := i2 d' this
      exact ⟨w, g, by rw [valV_neg e]; exact h1, h2, h3.trans (List.sublist_append_right _ _)⟩
def inDict (d : D) (ds : List (Key × D)) : Option Bool := match d with
  | .non => some false
  | d => (match keyOf d with
    | some k => some (valK ds k).isSome
    | none => none)
def eInDict (neg : Bool) (p p1 : MP) : ME := fun ρ => match p ρ with
  | some d => (match p1 ρ with
    | some (.dic ds) => (match inDict d ds with
      | some b => some (.bl (if neg then !b else b), ρ)
      | none => none)
    | _ => none)
  | none => none
theorem inDict_rep {K : PySem.W.Frag} {H : Hp} {y : V} {d : D} {ds : List (Key × D)} {kvs : List (Key × V)} {f g : List Addr} {a : Addr} {b : Bool} (r : Rep K H y d f) (ha : H a = some (.dK kvs)) (q : RepK K H kvs ds g) (e : inDict d ds = some b) :
    (∃ o, DGet H a y o ∧ o.isSome = b) ∨ (y = .non ∧ Rd H a (.dK kvs) ∧ b = false) := by
  cases r with
  | non => cases e; exact .inr ⟨rfl, .inl ha, rfl⟩
  | int i =>
    have e : some (valK ds (.inl i)).isSome = some b := e
    cases e
    exact .inl ⟨valV kvs (.inl i), .inl ⟨kvs, .inl i, .inl ha, rfl, rfl⟩, (repk_val q).1⟩
  | str x =>
    have e : some (valK ds (.inr x)).isSome = some b := e
    cases e
    exact .inl ⟨valV kvs (.inr x), .inl ⟨kvs, .inr x, .inl ha, rfl, rfl⟩, (repk_val q).1⟩
  | _ => cases e
theorem inDict_t (σ : L2.St) (H : Hp) (Q : VK) (h : tM X.K (eInDict false p p1) σ H Q) : tDInN (tP X.K p) (tP X.K p1) σ H Q := by
  obtain ⟨ρ, d, ρ', fp, R, e, k⟩ := h
  unfold eInDict at e
  split at e
  · rename_i d0 e1
    split at e
    · rename_i ds e2
      split at e
      · rename_i b e3
        cases e
        refine ⟨ρ, d0, fp, R, e1, fun y H1 f1 q1 r1 => ⟨ρ, .dic ds, fp, R.same q1, e2, fun v H2 f2 q2 r2 => ?_⟩⟩
        cases r2 with
        | dic ha q =>
          have kk := fun b' (hb : b' = b) => k (.bl b') H2 fp [] (R.same (q1.trans q2)) (by rw [hb]; exact .bl b) R.nodup (Chg.same (q1.trans q2))
          rcases inDict_rep (r1.same q2) ha q e3 with ⟨o, g, ho⟩ | ⟨ey, g, hb⟩
          · exact .inl ⟨_, o, rfl, g, kk _ ho⟩
          · exact .inr ⟨_, _, rfl, ey, g, kk _ hb.symm⟩
      · cases e
    · cases e
  · cases e
theorem notInDict_t (σ : L2.St) (H : Hp) (Q : VK) (h : tM X.K (eInDict true p p1) σ H Q) : tDNotInN (tP X.K p) (tP X.K p1) σ H Q := by
  obtain ⟨ρ, d, ρ', fp, R, e, k⟩ := h
  unfold eInDict at e
  split at e
  · rename_i d0 e1
    split at e
    · rename_i ds e2
      split at e
      · rename_i b e3
        cases e
        refine ⟨ρ, d0, fp, R, e1, fun y H1 f1 q1 r1 => ⟨ρ, .dic ds, fp, R.same q1, e2, fun v H2 f2 q2 r2 => ?_⟩⟩
        cases r2 with
        | dic ha q =>
          have kk := fun b' (hb : b' = !b) => k (.bl b') H2 fp [] (R.same (q1.trans q2)) (by rw [hb]; exact .bl _) R.nodup (Chg.same (q1.trans q2))
          rcases inDict_rep (r1.same q2) ha q e3 with ⟨o, g, ho⟩ | ⟨ey, g, hb⟩
          · exact .inl ⟨_, o, rfl, g, kk _ (by rw [ho])⟩
          · exact .inr ⟨_, _, rfl, ey, g, kk _ (by rw [hb]; rfl)⟩
      · cases e
    · cases e
  · cases e
theorem je_inDict (hu : X.A.units + 1 < cLine) (ha : JP X a p) (hb : JP X b p1) (hm : behindInMarks .In b = false := by rfl) : JE X (.Compare a [.In] [b] pos) (eInDict false p p1) := pe_imp (pe_cmp (pc_dinN hu ha hb) hm) inDict_t
theorem jt_inDict (hu : X.A.units + 1 < cLine) (ha : JP X a p) (hb : JP X b p1) (hm : behindInMarks .In b = false := by rfl) : JT X (.Compare a [.In] [b] pos) (asT (eInDict false p p1)) := pt_imp (pt_cmp (pc_dinN hu ha hb) hm) fun σ H Q h => inDict_t σ H _ (tB_t σ H Q h)
theorem jt_notInDict (hu : X.A.units + 1 < cLine) (ha : JP X a p) (hb : JP X b p1) (hm : behindInMarks .NotIn b = false := by rfl) : JT X (.Compare a [.NotIn] [b] pos) (asT (eInDict true p p1)) := pt_imp (pt_cmp (pc_dnotinN hu ha hb) hm) fun σ H Q h => notInDict_t σ H _ (tB_t σ H Q h)
end

/-! ### the text's defs as a whole -/
theorem fun_of {K : PySem.W.Frag} {x qual : Str} {st : Stmt} {f : Addr} {fd : FuncData} {kws : List (Str × V)} (F : FunD K x qual (defArgs st) (defBody st) (defScope st) [] kws f fd) : Fun K x qual st f fd := by
  obtain ⟨⟨oc, od, dV, kV, doc, pm, an, cdv, ct, osl, e, lk, hc, hD, _⟩, kp⟩ := F
  rcases hD with ⟨_, rfl⟩ | ⟨h, _⟩
  · exact ⟨⟨oc, od, kV, doc, pm, an, cdv, ct, osl, e, lk, hc⟩, kp⟩
  · exact absurd rfl h
/-- the def at the module's name x keeps the promise of m -/
def OkF (P : Program) (w : World) (K : PySem.W.Frag) (mg : Str → Option Value) (base : Heap) (k : Nat) (x : Str) (ps : List Str) (m : List D → Option (D × List D)) : Prop :=
  ∃ fd, FOk P w K mg base k (He.ga K x) fd ps m ∧ Binds K fd ps [] ∧ mg x = some (.ref (He.ga K x)) ∧ PySem.W.keepIn K (.ref (He.ga K x)) = true
section
variable {X : Cx} {e : Expr} {es : List Expr} {as : List Arg} {ps : List MP} {pos px : Pos} {k : Nat} {x : Str} {prm : List Str} {mf : List D → Option (D × List D)}
theorem je_callF (F : OkF X.prog X.w X.K X.mg X.base k x prm mf) (hr : Room k X.A) (hg : Gl X x) (ha : JA X (e :: es) as) (hl : as.length = prm.length := by rfl)
    (hdb : (x == ("__debug__" : Str)) = false := by decide) (he : starEach (e :: es) X.env = (false, eval e X.env) :: starEach es X.env := by rfl) (hpl : (backTo pos (starEach es X.env)).any (·.1) = false := by rfl) :
    JE X (.Call (.Name x px) (e :: es) [] pos) (eCall mf as) := by
  obtain ⟨fd, F, hb, hm, hk⟩ := F
  exact je_call F hr hg hm hk hb ha hl hdb he hpl
theorem je_callF0 (F : OkF X.prog X.w X.K X.mg X.base k x [] mf) (hr : Room k X.A) (hg : Gl X x) (hdb : (x == ("__debug__" : Str)) = false := by decide) :
    JE X (.Call (.Name x px) [] [] pos) (eCall mf []) := by
  obtain ⟨fd, F, hb, hm, hk⟩ := F
  exact je_call0 F hr hg hm hk hb hdb
theorem jp_callF (F : OkF X.prog X.w X.K X.mg X.base k x prm mf) (hr : Room k X.A) (hg : Gl X x) (ha : JPs X (e :: es) ps) (hl : ps.length = prm.length := by rfl)
    (hdb : (x == ("__debug__" : Str)) = false := by decide) (he : starEach (e :: es) X.env = (false, eval e X.env) :: starEach es X.env := by rfl) (hpl : (backTo pos (starEach es X.env)).any (·.1) = false := by rfl) :
    JP X (.Call (.Name x px) (e :: es) [] pos) (pCall mf ps) := by
  obtain ⟨fd, F, hb, hm, hk⟩ := F
  exact jp_call F hr hg hm hk hb ha hl hdb he hpl
end
/-- what the walk uses of the head's facts -/
structure Tx (fa : List He.Fa) (fn : List He.DefD) (K : PySem.W.Frag) (mg : Str → Option Value) : Prop where
  says : He.SaysD fa fn K
  glo : ∀ {x : Str}, (He.Fa.glo x).ok K = true → mg x = some (.ref (He.ga K x))
  free : ∀ {x : Str}, (He.Fa.free x).ok K = true → mg x = none
theorem Tx.mk' {fa : List He.Fa} {fn : List He.DefD} {K : PySem.W.Frag} {mg : Str → Option Value} {h : Heap} (X : K.In h) (G : h.Ns mainGlobals mg) (c : He.SaysD fa fn K) : Tx fa fn K mg :=
  ⟨c, fun e => He.glo_ok X G e, fun e => He.free_ok X G e⟩
theorem Tx.z {fa : List He.Fa} {fn : List He.DefD} {K : PySem.W.Frag} {mg : Str → Option Value} (T : Tx fa fn K mg) (i : Nat) {x : Str} (h : fa[i]? = some (.free x) := by rfl) : mg x = none := T.free (T.says.fact i h)
def dOf (x : Str) (st : Stmt) : He.DefD := ⟨(x, none), x, x, defArgs st, defBody st, defScope st, [], []⟩
section
variable {P : Program} {w : World} {K : PySem.W.Frag} {mg : Str → Option Value} {base : Heap} {fa : List He.Fa} {fn : List He.DefD}
theorem Tx.fn_ (T : Tx fa fn K mg) (i j : Nat) {x : Str} {st : Stmt} {ps : List Str} {k : Nat} {m : List D → Option (D × List D)} (hi : fn[i]? = some (dOf x st)) (hj : fa[j]? = some (.glo x))
    (hb : ∀ (kV doc pm : Value) (an : Option Addr) (cdv ct : Value) (us : List Value), us.length = ps.length → bindArgs (PySem.W.fnOf x x (defArgs st) (defBody st) (defScope st) .none kV doc pm an cdv ct) ⟨us, []⟩ = pure (ps.zip us))
    (ok : ∀ fd, Fun K x x st (He.ga K x) fd → FOk P w K mg base k (He.ga K x) fd ps m) : OkF P w K mg base k x ps m := by
  obtain ⟨fd, F⟩ := T.says.def_ i hi
  have F1 : Fun K x x st (He.ga K x) fd := fun_of F
  exact ⟨fd, ok fd F1, F1.binds hb, T.glo (T.says.fact j hj), F1.kp⟩
end
/-- the law's end -/
theorem law_end {K : PySem.W.Frag} {n : Nat} {m : List D → Option (D × List D)} (h : ∀ ns : List Int, ns.length ≤ n → ∃ ds', m [.frz (ns.map D.int)] = some (.bl true, ds')) :
    ∀ (H : Hp) (a : Addr) (ns : List Int), ns.length ≤ n → Only H → SqL K H a (ns.map V.int) → spM K 1 m [.ref a] H (fun v _ => v = .bl true) fun _ _ _ => False := by
  intro H a ns hl hO hS
  obtain ⟨ds', e⟩ := h ns hl
  have fz : Fz K H a (ns.map V.int) := by
    rcases hS with (hS | ⟨o, hS⟩) | hS
    · rcases hO a with q | ⟨o, xs, q⟩
      · rw [q] at hS; cases hS
      · rw [q] at hS; cases hS
    · exact .inl ⟨o, hS⟩
    · exact .inr hS
  have rs : Reps K H (ns.map V.int) (ns.map D.int) [] := by
    clear hS e hl fz
    induction ns with
    | nil => exact .nil
    | cons x r ih => exact .cons (f := []) (.int x) ih
  refine ⟨[.frz (ns.map D.int)], .bl true, ds', [], Reps.single (.frz fz rs), List.nodup_nil, rfl, e, fun v H' fr fq r _ _ _ => ?_⟩
  cases r
  rfl
end Bv

namespace Bv
open PySem PySem.Spec PyProof.Rows L2

section
variable {X : Cx} {e a b o c : Expr} {es : List Expr} {m m1 m2 m3 : ME} {p p1 p2 : MP} {ms : List ME} {ps : List MP} {pos : Pos} {io : List Nat} {s1 s2 : MS} {st : Stmt} {sts sts1 sts2 : List Stmt} {t : MT}
theorem pvn (i : Nat) {x : Str} (hN : X.N[i]? = some x := by rfl) (hv : Vis X.env.scope x := by first | exact Or.inl rfl | exact Or.inr (Or.inl rfl) | exact Or.inr (Or.inr rfl)) (hd : (x == ("__debug__" : Str)) = false := by decide)
    (hcd : (x == ("__classdict__" : Str)) = false := by decide) : PE X (.Name x pos) (tVar i) := pe_var hN hv hd hcd
/-- {} -/
def eDict0 : ME := fun ρ => some (.dic [], ρ)
theorem je_dict0 : JE X (.Dict [] [] pos) eDict0 := pe_imp pe_dnewK fun σ H Q => by
  rintro ⟨ρ, d, ρ', fp, R, e, k⟩ p hp
  cases e
  have sm := same_upd (o := .dK []) hp
  refine k (.ref p) _ fp [p] (R.same sm) (.dic upd_same .nil) ?_ (chg_new sm (fun a m => by rw [List.mem_singleton.mp m]; exact hp) fun a m => m)
  exact nd_new R (by simp) fun a m => by rw [List.mem_singleton.mp m]; exact hp
/-- d[k] of a dict, s[i] of a sequence -/
def getD (d k : D) : Option D := match d with
  | .dic ds => (match keyOf k with
    | some j => valK ds j
    | none => none)
  | d => ixD d k
theorem keyOf_rep {K : PySem.W.Frag} {H : Hp} {y : V} {d : D} {f : List Addr} {k : Key} (r : Rep K H y d f) (e : keyOf d = some k) : y = kV k := by
  cases r <;> cases e <;> rfl
theorem pg_dic {K : PySem.W.Frag} (σ : L2.St) (H : Hp) (Q : VK) (h : tP K (pBin getD p1 p2) σ H Q) :
    tOp (rIx K) (tP K p1) (tP K p2) σ H Q ∨ tDGet (tP K p1) (tP K p2) σ H Q := by
  obtain ⟨ρ, d, fp, R, e, k⟩ := h
  unfold pBin at e
  split at e
  · rename_i d1 e1
    split at e
    · rename_i d2 e2
      by_cases hd : ∃ ds, d1 = .dic ds
      · obtain ⟨ds, rfl⟩ := hd
        refine .inr ⟨ρ, _, fp, R, e1, fun x H1 f1 q1 r1 => ⟨ρ, d2, fp, R.same q1, e2, fun y H2 f2 q2 r2 => ?_⟩⟩
        unfold getD at e
        dsimp only at e
        split at e
        · rename_i j ej
          cases r1 with
          | dic s q =>
            have q' := RepK.same q q2
            obtain ⟨_, i2⟩ := repk_val (k := j) q
            obtain ⟨v, g, hv, rv, _⟩ := i2 d e
            refine ⟨_, v, rfl, .inl ⟨_, j, .inl (q2 _ _ s), keyOf_rep r2 ej, hv.symm⟩, k v H2 g (q1.trans q2) (rv.same q2)⟩
        · cases e
      · have e : ixD d1 d2 = some d := by
          cases d1 <;> first | exact e | exact absurd ⟨_, rfl⟩ hd
        refine .inl ⟨ρ, _, fp, R, e1, fun x H1 f1 q1 r1 => ⟨ρ, d2, fp, R.same q1, e2, fun y H2 f2 q2 r2 => ?_⟩⟩
        exact ix_ok (r1.same q2) r2 e fun v f r _ => k v H2 f (q1.trans q2) r
    · cases e
  · cases e
theorem jp_get (hu : X.A.units + 1 < cLine) (ha : JP X a p1) (hb : JP X b p2) (hs : PlainIx b := by exact fun _ _ => rfl) (hn : NoSl b := by exact fun _ _ => rfl) : JP X (.Subscript a b pos) (pBin getD p1 p2) :=
  ⟨fun pins s σ H Q I h => (pg_dic σ H Q h).elim (fun h => (pe_ix ix_seq ha hb hs).run pins s σ H Q I h) fun h => (pe_dget hu ha hb hn).run pins s σ H Q I h⟩
/-- not, by the truth of what stands there -/
def notT (d : D) : Option D := match truD d with
  | some b => some (.bl (!b))
  | none => none
theorem je_notT (ha : JE X a m) : JE X (.UnaryOp .Not a pos) (eUn notT m) := pe_imp (pe_notT ha) fun σ H Q => by
  rintro ⟨ρ, d, ρ', fp, R, e, k⟩
  unfold eUn at e
  split at e
  · rename_i d1 ρ1 e1
    split at e
    · rename_i d2 e2
      cases e
      unfold notT at e2
      split at e2
      · rename_i b eb
        cases e2
        refine ⟨ρ, d1, ρ', fp, R, e1, fun x H1 fp1 fr R1 r1 n1 c1 => ⟨b, truD_ok r1 eb, ?_⟩⟩
        exact k _ H1 fp1 [] R1 (.bl _) R1.nodup (c1.sub fun a m => List.mem_append_right _ m)
      · cases e2
    · cases e
  · cases e
/-- range(a, b, -1) -/
def downD (lo : Int) (n : Nat) : List D := (List.range n).map fun i => .int (lo + (i : Nat) * -1)
def iDown (ms : List ME) : MI := fun ρ => match evs ms ρ with
  | some ([.int lo, .int hi, .int c], ρ') => if c = -1 ∧ -(2 ^ 62) ≤ lo ∧ lo < 2 ^ 62 ∧ -(2 ^ 62) ≤ hi ∧ hi < 2 ^ 62 then some (downD lo (lo - hi).toNat, ρ') else none
  | _ => none
theorem seq_down {K : PySem.W.Frag} {H : Hp} {lo : Int} {n : Nat} {own : List Addr} : SeqIt (Itc lo (-1) n) K (downD lo n) own H := by
  intro A H2 hA kp _ i
  refine ⟨fun d hd => ?_, fun hl => ?_⟩
  · unfold downD at hd
    rw [List.getElem?_map] at hd
    by_cases hi : i < n
    · rw [List.getElem?_range hi] at hd
      cases hd
      refine ⟨hi, fun x H3 y => ?_⟩
      obtain ⟨rfl, rfl⟩ := y
      exact ⟨Same.refl _, .int _⟩
    · rw [List.getElem?_eq_none (by rw [List.length_range]; omega)] at hd
      cases hd
  · unfold downD at hl
    rw [List.length_map, List.length_range] at hl
    exact hl
theorem ji_down {tg : Expr} {px : Pos} (hg : Gl X "range") (hm : X.mg "range" = none) (ha : JMs X [a, b, c] [m1, m2, m3]) (hs : starEach [a, b, c] X.env = (false, eval a X.env) :: starEach [b, c] X.env := by rfl) (hpl : (backTo pos (starEach [b, c] X.env)).any (·.1) = false := by rfl) :
    JI X tg (.Call (.Name "range" px) [a, b, c] [] pos) (iDown [m1, m2, m3]) := pi_imp (pi_range3 hg hm ha hs hpl) fun σ H R => by
  rintro ⟨ρ, ds, ρ', fp, Re, e, k⟩
  unfold iDown at e
  split at e
  · rename_i lo hi cc ρ1 e1
    split at e
    · rename_i hb
      cases e
      refine ⟨ρ, _, ρ', fp, Re, e1, fun vs H1 fp1 fr R1 r n c => ?_⟩
      obtain ⟨rfl, hb⟩ := hb
      cases r with
      | cons ra r =>
        cases r with
        | cons rb r =>
          cases r with
          | cons rc r =>
            cases r
            cases ra
            cases rb
            cases rc
            exact ⟨lo, hi, -1, _, rfl, RgC.neg hb.1 hb.2.1 hb.2.2.1 hb.2.2.2, k _ H1 fp1 [] R1 R1.nodup (c.sub fun a m => List.mem_append_right _ m) (fun a m => nomatch m) seq_down⟩
    · cases e
  · cases e
/-! in, of dicts and others -/
def eInAny (neg : Bool) (p p1 : MP) : ME := fun ρ => match p1 ρ with
  | some (.dic _) => eInDict neg p p1 ρ
  | _ => if neg then ePure (pBin notInD p p1) ρ else ePure (pBin inD p p1) ρ
theorem tM_at {K : PySem.W.Frag} {m m' : ME} {σ : L2.St} {H : Hp} {Q : VK} (h : tM K m σ H Q) (i : ∀ ρ d ρ', m ρ = some (d, ρ') → m' ρ = some (d, ρ')) : tM K m' σ H Q := by
  obtain ⟨ρ, d, ρ', fp, R, e, k⟩ := h
  exact ⟨ρ, d, ρ', fp, R, i _ _ _ e, k⟩
theorem inAny_t {K : PySem.W.Frag} {neg : Bool} {σ : L2.St} {H : Hp} {Q : VK} (h : tM K (eInAny neg p p1) σ H Q) : tM K (eInDict neg p p1) σ H Q ∨ (if neg then tM K (ePure (pBin notInD p p1)) σ H Q else tM K (ePure (pBin inD p p1)) σ H Q) := by
  obtain ⟨ρ, d, ρ', fp, R, e, k⟩ := h
  unfold eInAny at e
  split at e
  · exact .inl ⟨ρ, d, ρ', fp, R, e, k⟩
  · cases neg
    · exact .inr ⟨ρ, d, ρ', fp, R, e, k⟩
    · exact .inr ⟨ρ, d, ρ', fp, R, e, k⟩
theorem je_in (hu : X.A.units + 1 < cLine) (ha : JP X a p) (hb : JP X b p1) (hm : behindInMarks .In b = false := by rfl) : JE X (.Compare a [.In] [b] pos) (eInAny false p p1) :=
  ⟨fun pins s σ H Q I h => (inAny_t h).elim (fun h => (je_inDict hu ha hb hm).run pins s σ H Q I h) fun h => (je_cmpPP op_in2 in_ok ha hb hm).run pins s σ H Q I h⟩
theorem jt_in (hu : X.A.units + 1 < cLine) (ha : JP X a p) (hb : JP X b p1) (hm : behindInMarks .In b = false := by rfl) : JT X (.Compare a [.In] [b] pos) (asT (eInAny false p p1)) :=
  ⟨fun pins s σ H Q I h => (inAny_t (tB_t σ H Q h)).elim (fun h => (pt_cmp (pc_dinN hu ha hb) hm).run pins s σ H Q I (inDict_t σ H _ h)) fun h => (pt_cmpR op_in2 ha hb hm).run pins s σ H Q I (cmpPP_t in_ok σ H _ h)⟩
theorem jt_notIn (hu : X.A.units + 1 < cLine) (ha : JP X a p) (hb : JP X b p1) (hm : behindInMarks .NotIn b = false := by rfl) : JT X (.Compare a [.NotIn] [b] pos) (asT (eInAny true p p1)) :=
  ⟨fun pins s σ H Q I h => (inAny_t (tB_t σ H Q h)).elim (fun h => (pt_cmp (pc_dnotinN hu ha hb) hm).run pins s σ H Q I (notInDict_t σ H _ h)) fun h => (pt_cmpR op_notIn2 ha hb hm).run pins s σ H Q I (cmpPP_t notIn_ok σ H _ h)⟩
end
end Bv

namespace Bv
open PySem PySem.Spec PyProof.Rows L2

/-! ### what a piece gives, said with what comes behind it -/
def WO (o : Option D) (Q : D → Prop) : Prop := ∃ d, o = some d ∧ Q d
def WP (p : MP) (ρ : Env) (Q : D → Prop) : Prop := ∃ d, p ρ = some d ∧ Q d
def WPs (ps : List MP) (ρ : Env) (Q : List D → Prop) : Prop := ∃ ds, evp ps ρ = some ds ∧ Q ds
def WE (m : ME) (ρ : Env) (Q : D → Env → Prop) : Prop := ∃ d ρ', m ρ = some (d, ρ') ∧ Q d ρ'
def WEs (ms : List ME) (ρ : Env) (Q : List D → Env → Prop) : Prop := ∃ ds ρ', evs ms ρ = some (ds, ρ') ∧ Q ds ρ'
def WT (t : MT) (ρ : Env) (Q : Bool → Env → Prop) : Prop := ∃ b ρ', t ρ = some (b, ρ') ∧ Q b ρ'
def WS (s : MS) (ρ : Env) (Q : Out → Env → Prop) : Prop := ∃ o ρ', s ρ = some (o, ρ') ∧ Q o ρ'
def WF (m : List D → Option (D × List D)) (ds : List D) (Q : D → List D → Prop) : Prop := ∃ r ds', m ds = some (r, ds') ∧ Q r ds'
def WI (it : MI) (ρ : Env) (Q : List D → Env → Prop) : Prop := ∃ ds ρ', it ρ = some (ds, ρ') ∧ Q ds ρ'
def WG (g : MG) (d : D) (ρ : Env) (Q : Env → Prop) : Prop := ∃ ρ', g d ρ = some ρ' ∧ Q ρ'
def WGs (gs : List D → Env → Option Env) (ds : List D) (ρ : Env) (Q : Env → Prop) : Prop := ∃ ρ', gs ds ρ = some ρ' ∧ Q ρ'
def WO3 (lo : MO) (ρ : Env) (Q : Option Int → Prop) : Prop := ∃ o, lo ρ = some o ∧ Q o
/-- the next environment, put in order -/
def NE (ρ : Env) (Q : Env → Prop) : Prop := Q ρ
theorem ne_ {ρ ρ' : Env} {Q : Env → Prop} (e : ρ = ρ') (q : Q ρ') : NE ρ Q := by rw [← e] at q; exact q
theorem WF.imp {m : List D → Option (D × List D)} {ds : List D} {Q Q' : D → List D → Prop} (h : WF m ds Q') (i : ∀ r ds', Q' r ds' → Q r ds') : WF m ds Q := by
  obtain ⟨r, ds', e, q⟩ := h
  exact ⟨r, ds', e, i _ _ q⟩
theorem WS.imp {m : MS} {ρ : Env} {Q Q' : Out → Env → Prop} (h : WS m ρ Q') (i : ∀ r ds', Q' r ds' → Q r ds') : WS m ρ Q := by
  obtain ⟨r, ds', e, q⟩ := h
  exact ⟨r, ds', e, i _ _ q⟩
theorem WE.imp {m : ME} {ρ : Env} {Q Q' : D → Env → Prop} (h : WE m ρ Q') (i : ∀ r ds', Q' r ds' → Q r ds') : WE m ρ Q := by
  obtain ⟨r, ds', e, q⟩ := h
  exact ⟨r, ds', e, i _ _ q⟩
/-! small words for what must hold on the way -/
def ND (d : D) (Q : Prop) : Prop := noList d = true ∧ Q
def IsB (d : D) (Q : Bool → Prop) : Prop := ∃ b, d = .bl b ∧ Q b
def IsI (d : D) (Q : Int → Prop) : Prop := ∃ n, d = .int n ∧ Q n
def IsS (d : D) (Q : Str → Prop) : Prop := ∃ n, d = .str n ∧ Q n
def TR (d : D) (Q : Bool → Prop) : Prop := ∃ b, truD d = some b ∧ Q b
def BR (b : Bool) (A B : Prop) : Prop := (b = true → A) ∧ (b = false → B)
def RG (n : Int) (Q : Prop) : Prop := (-(2 ^ 62) ≤ n ∧ n < 2 ^ 62) ∧ Q
def TQ (d : D) (Q : List D → Prop) : Prop := ∃ ds, notStr d = true ∧ seqD d = some ds ∧ Q ds
def SZ (n : Nat) (Q : Prop) : Prop := n ≤ 16777216 ∧ Q
def SZ1 (n : Nat) (Q : Prop) : Prop := n < 16777216 ∧ Q
def LN (o : Option D) (Q : List D → Prop) : Prop := ∃ ds, o = some (.lst ds) ∧ Q ds
def SN (o : Option D) (Q : D → Prop) : Prop := ∃ d, o = some d ∧ Q d
def IX (len : Nat) (n : Int) (Q : Nat → Prop) : Prop := ∃ j, ixN len n = some j ∧ Q j
def inX (d : D) : D → Option Bool
  | .dic ds => inDict d ds
  | e => inB d e
def IN (d e : D) (Q : Bool → Prop) : Prop := ∃ b, inX d e = some b ∧ Q b
def LQ (a b : Nat) (Q : Prop) : Prop := a = b ∧ Q
theorem lq_ {a b : Nat} {Q : Prop} (h : a = b) (q : Q) : LQ a b Q := ⟨h, q⟩
theorem nd_ {d : D} {Q : Prop} (h : noList d = true) (q : Q) : ND d Q := ⟨h, q⟩
theorem isb_ {b : Bool} {Q : Bool → Prop} (q : Q b) : IsB (.bl b) Q := ⟨b, rfl, q⟩
theorem isi_ {n : Int} {Q : Int → Prop} (q : Q n) : IsI (.int n) Q := ⟨n, rfl, q⟩
theorem iss_ {n : Str} {Q : Str → Prop} (q : Q n) : IsS (.str n) Q := ⟨n, rfl, q⟩
theorem tr_b {b : Bool} {Q : Bool → Prop} (q : Q b) : TR (.bl b) Q := ⟨b, rfl, q⟩
theorem tr_i {n : Int} {Q : Bool → Prop} (q : Q (n != 0)) : TR (.int n) Q := ⟨_, rfl, q⟩
theorem tr_n {Q : Bool → Prop} (q : Q false) : TR .non Q := ⟨_, rfl, q⟩
theorem tr_l {ds : List D} {Q : Bool → Prop} (q : Q (!ds.isEmpty)) : TR (.lst ds) Q := ⟨_, rfl, q⟩
theorem tr_t {ds : List D} {Q : Bool → Prop} (q : Q (!ds.isEmpty)) : TR (.tup ds) Q := ⟨_, rfl, q⟩
theorem br_t {b : Bool} {A B : Prop} (e : b = true) (q : A) : BR b A B := ⟨fun _ => q, fun h => by rw [e] at h; cases h⟩
theorem br_f {b : Bool} {A B : Prop} (e : b = false) (q : B) : BR b A B := ⟨fun h => (by rw [e] at h; cases h), fun _ => q⟩
theorem br_d {p : Prop} [Decidable p] {A B : Prop} (h1 : p → A) (h2 : ¬ p → B) : BR (decide p) A B := ⟨fun h => h1 (of_decide_eq_true h), fun h => h2 (of_decide_eq_false h)⟩
theorem br_dt {p : Prop} [Decidable p] {A B : Prop} (h : p) (q : A) : BR (decide p) A B := br_t (decide_eq_true h) q
theorem br_df {p : Prop} [Decidable p] {A B : Prop} (h : ¬ p) (q : B) : BR (decide p) A B := br_f (decide_eq_false h) q
theorem br_not {b : Bool} {A B : Prop} (h : BR b B A) : BR (!b) A B := ⟨fun e => h.2 (by cases b <;> first | rfl | cases e), fun e => h.1 (by cases b <;> first | rfl | cases e)⟩
theorem br_ {b : Bool} {A B : Prop} (h1 : b = true → A) (h2 : b = false → B) : BR b A B := ⟨h1, h2⟩
theorem rg_ {n : Int} {Q : Prop} (h1 : -(2 ^ 62) ≤ n) (h2 : n < 2 ^ 62) (q : Q) : RG n Q := ⟨⟨h1, h2⟩, q⟩
theorem tq_t {ds : List D} {Q : List D → Prop} (h : noLists ds = true) (q : Q ds) : TQ (.tup ds) Q := ⟨ds, rfl, by unfold seqD; dsimp only; rw [if_pos h], q⟩
theorem tq_l {ds : List D} {Q : List D → Prop} (h : noLists ds = true) (q : Q ds) : TQ (.lst ds) Q := ⟨ds, rfl, by unfold seqD; dsimp only; rw [if_pos h], q⟩
theorem tq_f {ds : List D} {Q : List D → Prop} (h : noLists ds = true) (q : Q ds) : TQ (.frz ds) Q := ⟨ds, rfl, by unfold seqD; dsimp only; rw [if_pos h], q⟩
theorem sz_ {n : Nat} {Q : Prop} (h : n ≤ 16777216) (q : Q) : SZ n Q := ⟨h, q⟩
theorem sz1_ {n : Nat} {Q : Prop} (h : n < 16777216) (q : Q) : SZ1 n Q := ⟨h, q⟩
theorem ln_ {o : Option D} {ds : List D} {Q : List D → Prop} (e : o = some (.lst ds)) (q : Q ds) : LN o Q := ⟨ds, e, q⟩
theorem sn_ {o : Option D} {d : D} {Q : D → Prop} (e : o = some d) (q : Q d) : SN o Q := ⟨d, e, q⟩
theorem ix_lit {len : Nat} {n : Int} {j : Nat} {Q : Nat → Prop} (e : ixN len n = some j) (q : Q j) : IX len n Q := ⟨j, e, q⟩
theorem ix_pos {len : Nat} {n : Int} {Q : Nat → Prop} (h0 : 0 ≤ n) (h1 : n < len) (q : Q n.toNat) : IX len n Q := ⟨_, by unfold ixN; rw [if_pos h0, if_pos h1], q⟩
theorem ix_nat {len j : Nat} {Q : Nat → Prop} (h1 : j < len) (q : Q j) : IX len (j : Int) Q := ⟨j, by unfold ixN; rw [if_pos (by omega), if_pos (by omega)]; simp, q⟩
theorem in_ {d e : D} {b : Bool} {Q : Bool → Prop} (h : inX d e = some b) (q : Q b) : IN d e Q := ⟨b, h, q⟩
theorem wo_ {o : Option D} {d : D} {Q : D → Prop} (e : o = some d) (q : Q d) : WO o Q := ⟨d, e, q⟩
theorem cMul_r {i j : Int} (h : decide (-(2 ^ 64) < j ∧ j < 2 ^ 64) = true) : cMul i j = true := by unfold cMul; rw [h, Bool.or_true]
theorem cMul_l {i j : Int} (h : decide (-(2 ^ 64) < i ∧ i < 2 ^ 64) = true) : cMul i j = true := by unfold cMul; rw [h, Bool.true_or]
theorem wo_mul {i j : Int} {Q : D → Prop} (h : cMul i j = true) (q : Q (.int (i * j))) : WO (mulD (.int i) (.int j)) Q := ⟨_, by unfold mulD; dsimp only; rw [if_pos h], q⟩
theorem wo_mulL {ds : List D} {n : Int} {Q : D → Prop} (h1 : -(2 ^ 63) ≤ n) (h2 : n < 2 ^ 63) (h3 : ds.length * n.toNat ≤ 16777216) (h4 : noLists ds = true) (q : Q (.lst (List.replicate n.toNat ds).flatten)) : WO (mulD (.lst ds) (.int n)) Q :=
  ⟨_, by unfold mulD; dsimp only; rw [if_pos ⟨h1, h2, h3, h4⟩], q⟩
theorem wo_mod {i j : Int} {Q : D → Prop} (h : 0 < j) (q : Q (.int (i % j))) : WO (modD (.int i) (.int j)) Q := ⟨_, by unfold modD intD; dsimp only; rw [if_pos (decide_eq_true h)], q⟩
theorem wo_fdiv {i j : Int} {Q : D → Prop} (h1 : 0 < j) (h2 : j < 1073741824) (q : Q (.int (i / j))) : WO (fdivD (.int i) (.int j)) Q := ⟨_, by unfold fdivD intD cDiv; dsimp only; rw [if_pos (decide_eq_true ⟨h1, h2⟩)], q⟩
theorem wo_fdivN {i j : Int} {Q : D → Prop} (h1 : j ≠ 0) (h2 : j.natAbs < 1073741824) (q : Q (.int (i.fdiv j))) : WO (fdivND (.int i) (.int j)) Q := ⟨_, by unfold fdivND intD cDivN; dsimp only; rw [if_pos (decide_eq_true ⟨h1, h2⟩)], q⟩
theorem wo_divmod {i j : Int} {Q : D → Prop} (h1 : 0 < j) (h2 : j < 1073741824) (q : Q (.tup [.int (i / j), .int (i % j)])) : WO (divmodD [.int i, .int j]) Q := ⟨_, by unfold divmodD; dsimp only; rw [if_pos ⟨h1, h2⟩], q⟩
theorem wo_shl {i j : Int} {Q : D → Prop} (h : cPow i j = true) (q : Q (.int (i * 2 ^ j.toNat))) : WO (shlD (.int i) (.int j)) Q := ⟨_, by unfold shlD intD; dsimp only; rw [if_pos h], q⟩
theorem wo_pow {i j : Int} {Q : D → Prop} (h : cPow i j = true) (q : Q (.int (i ^ j.toNat))) : WO (powD (.int i) (.int j)) Q := ⟨_, by unfold powD intD; dsimp only; rw [if_pos h], q⟩
theorem wo_addT {a b : List D} {Q : D → Prop} (h1 : a.length + b.length ≤ 16777216) (h2 : noLists a = true) (h3 : noLists b = true) (q : Q (.tup (a ++ b))) : WO (addD (.tup a) (.tup b)) Q := ⟨_, by unfold addD; dsimp only; rw [if_pos ⟨h1, h2, h3⟩], q⟩
theorem wo_addL {a b : List D} {Q : D → Prop} (h1 : a.length + b.length ≤ 16777216) (h2 : noLists a = true) (h3 : noLists b = true) (q : Q (.lst (a ++ b))) : WO (addD (.lst a) (.lst b)) Q := ⟨_, by unfold addD; dsimp only; rw [if_pos ⟨h1, h2, h3⟩], q⟩
theorem atI_pos {ds : List D} {n : Int} {d : D} (h0 : 0 ≤ n) (h : ds[n.toNat]? = some d) : atI ds n = some d := by
  have hl : n.toNat < ds.length := by
    rcases Nat.lt_or_ge n.toNat ds.length with h' | h'
    · exact h'
    · rw [List.getElem?_eq_none h'] at h; cases h
  unfold atI ixN
  rw [if_pos h0, if_pos (by omega)]
  exact h
theorem wo_getT {ds : List D} {n : Int} {d : D} {Q : D → Prop} (h : atI ds n = some d) (q : Q d) : WO (getD (.tup ds) (.int n)) Q := ⟨d, h, q⟩
theorem wo_getL {ds : List D} {n : Int} {d : D} {Q : D → Prop} (h : atI ds n = some d) (q : Q d) : WO (getD (.lst ds) (.int n)) Q := ⟨d, h, q⟩
theorem wo_ixL {ds : List D} {n : Int} {d : D} {Q : D → Prop} (h : atI ds n = some d) (q : Q d) : WO (ixD (.lst ds) (.int n)) Q := ⟨d, h, q⟩
theorem wo_ixT {ds : List D} {n : Int} {d : D} {Q : D → Prop} (h : atI ds n = some d) (q : Q d) : WO (ixD (.tup ds) (.int n)) Q := ⟨d, h, q⟩
theorem wo_toTupL {ds : List D} {Q : D → Prop} (h : noLists ds = true) (q : Q (.tup ds)) : WO (toTuple [.lst ds]) Q := ⟨_, by unfold toTuple; dsimp only; rw [if_pos h], q⟩
theorem wo_toTupT {ds : List D} {Q : D → Prop} (h : noLists ds = true) (q : Q (.tup ds)) : WO (toTuple [.tup ds]) Q := ⟨_, by unfold toTuple; dsimp only; rw [if_pos h], q⟩
theorem wo_toLstL {ds : List D} {Q : D → Prop} (h : noLists ds = true) (q : Q (.lst ds)) : WO (toList [.lst ds]) Q := ⟨_, by unfold toList; dsimp only; rw [if_pos h], q⟩
theorem wo_toLstT {ds : List D} {Q : D → Prop} (h : noLists ds = true) (q : Q (.lst ds)) : WO (toList [.tup ds]) Q := ⟨_, by unfold toList; dsimp only; rw [if_pos h], q⟩
section
variable {ρ ρ1 ρ2 : Env} {p p1 p2 : MP} {ps : List MP} {m m1 m2 m3 : ME} {ms : List ME} {t u : MT} {s1 s2 : MS} {d : D} {i : Nat}
/-! pure ones -/
theorem wp_var {Q : D → Prop} (e : nth ρ i = some d) (q : Q d) : WP (pVar i) ρ Q := ⟨d, e, q⟩
theorem wp_c {Q : D → Prop} (q : Q d) : WP (pC d) ρ Q := ⟨d, rfl, q⟩
theorem wp_bin {op : D → D → Option D} {Q : D → Prop} (h : WP p1 ρ fun a => WP p2 ρ fun b => WO (op a b) Q) : WP (pBin op p1 p2) ρ Q := by
  obtain ⟨a, ea, b, eb, d, ed, q⟩ := h
  exact ⟨d, by unfold pBin; rw [ea, eb]; exact ed, q⟩
theorem wp_un {op : D → Option D} {Q : D → Prop} (h : WP p ρ fun a => WO (op a) Q) : WP (pUn op p) ρ Q := by
  obtain ⟨a, ea, d, ed, q⟩ := h
  exact ⟨d, by unfold pUn; rw [ea]; exact ed, q⟩
theorem wps_nil {Q : List D → Prop} (q : Q []) : WPs [] ρ Q := ⟨[], rfl, q⟩
theorem wps_cons {Q : List D → Prop} (h : WP p ρ fun a => WPs ps ρ fun as => Q (a :: as)) : WPs (p :: ps) ρ Q := by
  obtain ⟨a, ea, as, es, q⟩ := h
  exact ⟨a :: as, by unfold evp; rw [ea]; dsimp only; rw [es], q⟩
theorem wp_b {op : List D → Option D} {Q : D → Prop} (h : WPs ps ρ fun as => WO (op as) Q) : WP (pB op ps) ρ Q := by
  obtain ⟨a, ea, d, ed, q⟩ := h
  exact ⟨d, by unfold pB; rw [ea]; exact ed, q⟩
theorem wp_tup {Q : D → Prop} (h : WPs ps ρ fun as => Q (.tup as)) : WP (pTup ps) ρ Q := by
  obtain ⟨a, ea, q⟩ := h
  exact ⟨_, by unfold pTup; rw [ea], q⟩
theorem wo3_none {Q : Option Int → Prop} (q : Q none) : WO3 oNone ρ Q := ⟨none, rfl, q⟩
theorem wo3_some {Q : Option Int → Prop} (h : WP p ρ fun a => IsI a fun i => Q (some i)) : WO3 (oSome p) ρ Q := by
  obtain ⟨a, ea, i, rfl, q⟩ := h
  exact ⟨some i, by unfold oSome; rw [ea], q⟩
theorem wp_sl {lo hi : MO} {Q : D → Prop} (h : WP p ρ fun a => WO3 lo ρ fun l => WO3 hi ρ fun r => WO (slD a l r) Q) : WP (pSl p lo hi) ρ Q := by
  obtain ⟨a, ea, l, el, r, er, d, ed, q⟩ := h
  exact ⟨d, by unfold pSl; rw [ea, el, er]; exact ed, q⟩
/-! owned ones -/
theorem we_own {Q : D → Env → Prop} (h : WP p ρ fun d => ND d (Q d ρ)) : WE (eOwn p) ρ Q := by
  obtain ⟨d, e, n, q⟩ := h
  exact ⟨d, ρ, by unfold eOwn; rw [e]; dsimp only; rw [if_pos n], q⟩
theorem we_pure {Q : D → Env → Prop} (h : WP p ρ fun d => Q d ρ) : WE (ePure p) ρ Q := by
  obtain ⟨d, e, q⟩ := h
  exact ⟨d, ρ, by unfold ePure; rw [e], q⟩
theorem we_take {Q : D → Env → Prop} (e : nth ρ i = some d) (n : noList d = true) (q : Q d ρ) : WE (eTake i) ρ Q :=
  ⟨d, ρ, by unfold eTake; rw [e]; dsimp only; rw [if_pos n], q⟩
theorem we_takeL {Q : D → Env → Prop} (e : nth ρ i = some d) (n : noList d = false) (q : NE (ρ.set i none) (Q d)) : WE (eTake i) ρ Q :=
  ⟨d, ρ.set i none, by unfold eTake; rw [e]; dsimp only; rw [if_neg (by rw [n]; exact Bool.false_ne_true)], q⟩
theorem we_bin {op : D → D → Option D} {Q : D → Env → Prop} (h : WE m1 ρ fun a ρ1 => WE m2 ρ1 fun b ρ2 => WO (op a b) fun d => Q d ρ2) : WE (eBin op m1 m2) ρ Q := by
  obtain ⟨a, ρ1, ea, b, ρ2, eb, d, ed, q⟩ := h
  exact ⟨d, ρ2, by unfold eBin; rw [ea]; dsimp only; rw [eb]; dsimp only; rw [ed], q⟩
theorem we_binP {op : D → D → Option D} {Q : D → Env → Prop} (h : WE m1 ρ fun a ρ1 => WP p2 ρ1 fun b => WO (op a b) fun d => Q d ρ1) : WE (eBinP op m1 p2) ρ Q := by
  obtain ⟨a, ρ1, ea, b, eb, d, ed, q⟩ := h
  exact ⟨d, ρ1, by unfold eBinP; rw [ea]; dsimp only; rw [eb]; dsimp only; rw [ed], q⟩
theorem we_un {op : D → Option D} {Q : D → Env → Prop} (h : WE m ρ fun a ρ1 => WO (op a) fun d => Q d ρ1) : WE (eUn op m) ρ Q := by
  obtain ⟨a, ρ1, ea, d, ed, q⟩ := h
  exact ⟨d, ρ1, by unfold eUn; rw [ea]; dsimp only; rw [ed], q⟩
theorem wes_nil {Q : List D → Env → Prop} (q : Q [] ρ) : WEs [] ρ Q := ⟨[], ρ, rfl, q⟩
theorem wes_cons {Q : List D → Env → Prop} (h : WE m ρ fun a ρ1 => WEs ms ρ1 fun as ρ2 => Q (a :: as) ρ2) : WEs (m :: ms) ρ Q := by
  obtain ⟨a, ρ1, ea, as, ρ2, es, q⟩ := h
  exact ⟨a :: as, ρ2, by unfold evs; rw [ea]; dsimp only; rw [es], q⟩
theorem we_b {op : List D → Option D} {Q : D → Env → Prop} (h : WEs ms ρ fun as ρ1 => WO (op as) fun d => Q d ρ1) : WE (eB op ms) ρ Q := by
  obtain ⟨a, ρ1, ea, d, ed, q⟩ := h
  exact ⟨d, ρ1, by unfold eB; rw [ea]; dsimp only; rw [ed], q⟩
theorem we_tup {Q : D → Env → Prop} (h : WEs ms ρ fun as ρ1 => Q (.tup as) ρ1) : WE (eTup ms) ρ Q := by
  obtain ⟨a, ρ1, ea, q⟩ := h
  exact ⟨_, ρ1, by unfold eTup; rw [ea], q⟩
theorem we_lst {Q : D → Env → Prop} (h : WEs ms ρ fun as ρ1 => Q (.lst as) ρ1) : WE (eLst ms) ρ Q := by
  obtain ⟨a, ρ1, ea, q⟩ := h
  exact ⟨_, ρ1, by unfold eLst; rw [ea], q⟩
theorem we_dict0 {Q : D → Env → Prop} (q : Q (.dic []) ρ) : WE eDict0 ρ Q := ⟨_, ρ, rfl, q⟩
theorem we_ixN {b : D} {Q : D → Env → Prop} (e : nth ρ i = some b) (h : WE m ρ fun k ρ1 => SN (nth ρ1 i) fun b => WO (ixD b k) fun d => ND d (Q d ρ1)) : WE (eIxN i m) ρ Q := by
  obtain ⟨k, ρ1, ek, b', eb, d, ed, n, q⟩ := h
  exact ⟨d, ρ1, by unfold eIxN; rw [e]; dsimp only; rw [ek]; dsimp only; rw [eb]; dsimp only; rw [ed]; dsimp only; rw [if_pos n], q⟩
theorem we_sl {lo hi : MO} {Q : D → Env → Prop} (h : WP (pSl p lo hi) ρ fun d => (noList d = true ∨ ∃ ds, d = .lst ds) ∧ Q d ρ) : WE (eSl p lo hi) ρ Q := by
  obtain ⟨d, e, n, q⟩ := h
  refine ⟨d, ρ, ?_, q⟩
  unfold eSl
  rw [e]
  rcases n with n | ⟨ds, rfl⟩
  · cases d <;> first | rfl | (dsimp only; rw [if_pos n])
  · rfl
theorem we_if {Q : D → Env → Prop} (h : WT t ρ fun b ρ1 => BR b (WE m1 ρ1 Q) (WE m2 ρ1 Q)) : WE (eIf t m1 m2) ρ Q := by
  obtain ⟨b, ρ1, e, h1, h2⟩ := h
  cases b with
  | true =>
    obtain ⟨d, ρ2, e2, q⟩ := h1 rfl
    exact ⟨d, ρ2, by unfold eIf; rw [e]; exact e2, q⟩
  | false =>
    obtain ⟨d, ρ2, e2, q⟩ := h2 rfl
    exact ⟨d, ρ2, by unfold eIf; rw [e]; exact e2, q⟩
theorem we_and {Q : D → Env → Prop} (h : WE m1 ρ fun a ρ1 => IsB a fun b => BR b (WE m2 ρ1 Q) (Q (.bl false) ρ1)) : WE (vAnd m1 m2) ρ Q := by
  obtain ⟨d, ρ1, e, b, rfl, h1, h2⟩ := h
  cases b with
  | true =>
    obtain ⟨d, ρ2, e2, q⟩ := h1 rfl
    exact ⟨d, ρ2, by unfold vAnd; rw [e]; exact e2, q⟩
  | false => exact ⟨_, ρ1, by unfold vAnd; rw [e], h2 rfl⟩
theorem we_or {Q : D → Env → Prop} (h : WE m1 ρ fun a ρ1 => IsB a fun b => BR b (Q (.bl true) ρ1) (WE m2 ρ1 Q)) : WE (vOr m1 m2) ρ Q := by
  obtain ⟨d, ρ1, e, b, rfl, h1, h2⟩ := h
  cases b with
  | false =>
    obtain ⟨d, ρ2, e2, q⟩ := h2 rfl
    exact ⟨d, ρ2, by unfold vOr; rw [e]; exact e2, q⟩
  | true => exact ⟨_, ρ1, by unfold vOr; rw [e], h1 rfl⟩
theorem we_inAny {neg : Bool} {Q : D → Env → Prop} (h : WP p ρ fun d => WP p1 ρ fun e => IN d e fun b => Q (.bl (if neg then !b else b)) ρ) : WE (eInAny neg p p1) ρ Q := by
  obtain ⟨d, e1, e, e2, b, eb, q⟩ := h
  refine ⟨_, ρ, ?_, q⟩
  unfold eInAny
  rw [e2]
  have nd : (∀ ds, e ≠ .dic ds) → inB d e = some b → (if neg = true then ePure (pBin notInD p p1) ρ else ePure (pBin inD p p1) ρ) = some (.bl (if neg then !b else b), ρ) := by
    intro _ hb
    unfold ePure pBin
    rw [e1, e2]
    dsimp only
    cases neg
    · unfold inD; rw [hb]; rfl
    · unfold notInD; rw [hb]; rfl
  cases e with
  | dic ds =>
    show eInDict neg p p1 ρ = _
    unfold eInDict
    rw [e1, e2]
    have eb : inDict d ds = some b := eb
    dsimp only
    rw [eb]
  | _ => exact nd (fun ds z => by cases z) eb
theorem we_chain {op op' : D → D → Option D} {p2 : MP} {Q : D → Env → Prop} (h : WP p ρ fun x => WP p1 ρ fun y => WO (op x y) fun r => IsB r fun b => BR b (WP p2 ρ fun z => WO (op' y z) fun k => IsB k fun c => Q (.bl c) ρ) (Q (.bl false) ρ)) : WE (eChain op op' p p1 p2) ρ Q := by
  obtain ⟨x, ex, y, ey, r, er, b, rfl, h1, h2⟩ := h
  cases b with
  | true =>
    obtain ⟨z, ez, k, ek, c, rfl, q⟩ := h1 rfl
    exact ⟨_, ρ, by unfold eChain; rw [ex, ey]; dsimp only; rw [er]; dsimp only; rw [ez]; dsimp only; rw [ek], q⟩
  | false => exact ⟨_, ρ, by unfold eChain; rw [ex, ey]; dsimp only; rw [er], h2 rfl⟩
theorem we_sm {op : Str → List D → Option D} {Q : D → Env → Prop} (h : WP p ρ fun a => IsS a fun z => WPs ps ρ fun as => WO (op z as) fun d => Q d ρ) : WE (eSm op p ps) ρ Q := by
  obtain ⟨a, ea, z, rfl, as, es, d, ed, q⟩ := h
  exact ⟨d, ρ, by unfold eSm; rw [ea]; dsimp only; rw [es]; dsimp only; rw [ed], q⟩
/-! tests -/
theorem wt_asT {Q : Bool → Env → Prop} (h : WE m ρ fun d ρ1 => IsB d fun b => Q b ρ1) : WT (asT m) ρ Q := by
  obtain ⟨d, ρ1, e, b, rfl, q⟩ := h
  exact ⟨b, ρ1, by unfold asT; rw [e], q⟩
theorem wt_tru {Q : Bool → Env → Prop} (h : WE m ρ fun d ρ1 => TR d fun b => Q b ρ1) : WT (tru m) ρ Q := by
  obtain ⟨d, ρ1, e, b, eb, q⟩ := h
  exact ⟨b, ρ1, by unfold tru; rw [e]; dsimp only; rw [eb], q⟩
theorem wt_truP {Q : Bool → Env → Prop} (h : WP p ρ fun d => TR d fun b => Q b ρ) : WT (truP p) ρ Q := by
  obtain ⟨d, e, b, eb, q⟩ := h
  exact ⟨b, ρ, by unfold truP; rw [e]; dsimp only; rw [eb], q⟩
theorem wt_and {Q : Bool → Env → Prop} (h : WT t ρ fun b ρ1 => BR b (WT u ρ1 Q) (Q false ρ1)) : WT (mAnd t u) ρ Q := by
  obtain ⟨b, ρ1, e, h1, h2⟩ := h
  cases b with
  | true =>
    obtain ⟨d, ρ2, e2, q⟩ := h1 rfl
    exact ⟨d, ρ2, by unfold mAnd; rw [e]; exact e2, q⟩
  | false => exact ⟨_, ρ1, by unfold mAnd; rw [e], h2 rfl⟩
theorem wt_or {Q : Bool → Env → Prop} (h : WT t ρ fun b ρ1 => BR b (Q true ρ1) (WT u ρ1 Q)) : WT (mOr t u) ρ Q := by
  obtain ⟨b, ρ1, e, h1, h2⟩ := h
  cases b with
  | false =>
    obtain ⟨d, ρ2, e2, q⟩ := h2 rfl
    exact ⟨d, ρ2, by unfold mOr; rw [e]; exact e2, q⟩
  | true => exact ⟨_, ρ1, by unfold mOr; rw [e], h1 rfl⟩
theorem wt_not {Q : Bool → Env → Prop} (h : WT t ρ fun b ρ1 => Q (!b) ρ1) : WT (mNot t) ρ Q := by
  obtain ⟨b, ρ1, e, q⟩ := h
  exact ⟨_, ρ1, by unfold mNot; rw [e], q⟩
theorem wt_yes {Q : Bool → Env → Prop} (q : Q true ρ) : WT mYes ρ Q := ⟨true, ρ, rfl, q⟩
/-! calls -/
def WA (as : List Arg) (ρ : Env) (Q : List (D ⊕ Nat) → Env → Prop) : Prop := ∃ ds ρ', evArgs as ρ = some (ds, ρ') ∧ Q ds ρ'
/-- the arguments' values -/
def WR (ds : List (D ⊕ Nat)) (ρ : Env) (Q : List D → Prop) : Prop := ∃ vs, ds.mapM (fun x => match x with
  | .inl d => some d
  | .inr i => nth ρ i) = some vs ∧ Q vs
theorem wa_nil {Q : List (D ⊕ Nat) → Env → Prop} (q : Q [] ρ) : WA [] ρ Q := ⟨[], ρ, rfl, q⟩
theorem wa_val {as : List Arg} {Q : List (D ⊕ Nat) → Env → Prop} (h : WE m ρ fun a ρ1 => WA as ρ1 fun ds ρ2 => Q (.inl a :: ds) ρ2) : WA (.val m :: as) ρ Q := by
  obtain ⟨a, ρ1, ea, as', ρ2, es, q⟩ := h
  exact ⟨_, ρ2, by unfold evArgs; rw [ea]; dsimp only; rw [es], q⟩
theorem wa_bor {as : List Arg} {Q : List (D ⊕ Nat) → Env → Prop} (e : nth ρ i = some d) (h : WA as ρ fun ds ρ2 => Q (.inr i :: ds) ρ2) : WA (.bor i :: as) ρ Q := by
  obtain ⟨as', ρ2, es, q⟩ := h
  exact ⟨_, ρ2, by unfold evArgs; rw [e]; dsimp only; rw [es], q⟩
theorem wr_nil {Q : List D → Prop} (q : Q []) : WR [] ρ Q := ⟨[], rfl, q⟩
theorem wr_inl {ds : List (D ⊕ Nat)} {Q : List D → Prop} (h : WR ds ρ fun vs => Q (d :: vs)) : WR (.inl d :: ds) ρ Q := by
  obtain ⟨vs, e, q⟩ := h
  exact ⟨d :: vs, by rw [List.mapM_cons, e]; rfl, q⟩
theorem wr_inr {ds : List (D ⊕ Nat)} {Q : List D → Prop} (e : nth ρ i = some d) (h : WR ds ρ fun vs => Q (d :: vs)) : WR (.inr i :: ds) ρ Q := by
  obtain ⟨vs, e', q⟩ := h
  exact ⟨d :: vs, by rw [List.mapM_cons, e']; dsimp only; rw [e]; rfl, q⟩
def bors : List Arg → List Nat
  | [] => []
  | .val _ :: as => bors as
  | .bor i :: as => i :: bors as
def borsR : List (D ⊕ Nat) → List Nat
  | [] => []
  | .inl _ :: as => borsR as
  | .inr i :: as => i :: borsR as
theorem evArgs_bors : ∀ {as : List Arg} {ρ ρ' : Env} {ds : List (D ⊕ Nat)}, evArgs as ρ = some (ds, ρ') → borsR ds = bors as
  | [], ρ, ρ', ds, h => by cases h; rfl
  | .val m :: ms, ρ, ρ', ds, h => by
    unfold evArgs at h
    split at h
    · split at h
      · rename_i e
        cases h
        have z := evArgs_bors e
        exact z
      · cases h
    · cases h
  | .bor i :: ms, ρ, ρ', ds, h => by
    unfold evArgs at h
    split at h
    · split at h
      · rename_i e
        cases h
        show i :: _ = i :: _
        rw [evArgs_bors e]
      · cases h
    · cases h
theorem nth_set_ne {i j : Nat} {x : Option D} (h : i ≠ j) : nth (ρ.set i x) j = nth ρ j := by
  unfold nth
  rw [List.getElem?_set_ne h]
theorem resolve_vals : ∀ {ds : List (D ⊕ Nat)} {ρ : Env} {vs : List D}, (borsR ds).Nodup → ds.mapM (fun x => match x with
    | .inl d => some d
    | .inr i => nth ρ i) = some vs → ∃ ρ', resolve ds ρ = some (vs, ρ') ∧ (∀ j, j ∉ borsR ds → ρ'[j]? = ρ[j]?) ∧ ρ'.length = ρ.length
  | [], ρ, vs, _, h => by cases h; exact ⟨ρ, rfl, fun _ _ => rfl, rfl⟩
  | .inl d :: ds, ρ, vs, n, h => by
    rw [List.mapM_cons] at h
    cases e : ds.mapM (fun x => match x with
      | .inl d => some d
      | .inr i => nth ρ i) with
    | none => rw [e] at h; cases h
    | some ws =>
      rw [e] at h
      cases h
      obtain ⟨ρ', r1, r2, r3⟩ := resolve_vals (ds := ds) n e
      exact ⟨ρ', by unfold resolve; rw [r1], r2, r3⟩
  | .inr i :: ds, ρ, vs, n, h => by
    rw [List.mapM_cons] at h
    have n' := List.nodup_cons.mp (show (i :: borsR ds).Nodup from n)
    cases ei : nth ρ i with
    | none => dsimp only at h; rw [ei] at h; cases h
    | some d =>
      dsimp only at h
      rw [ei] at h
      cases e : ds.mapM (fun x => match x with
        | .inl d => some d
        | .inr i => nth ρ i) with
      | none => rw [e] at h; cases h
      | some ws =>
        rw [e] at h
        cases h
        have key : ∀ (l : List (D ⊕ Nat)), i ∉ borsR l → l.mapM (fun x => match x with
            | .inl d => some d
            | .inr j => nth (if noList d then ρ else ρ.set i none) j) = l.mapM (fun x => match x with
            | .inl d => some d
            | .inr j => nth ρ j) := by
          intro l
          induction l with
          | nil => intro _; rfl
          | cons x l ih =>
            intro hn
            rw [List.mapM_cons, List.mapM_cons]
            cases x with
            | inl y => rw [ih hn]
            | inr j =>
              have hn : i ∉ j :: borsR l := hn
              rw [ih fun m => hn (List.mem_cons_of_mem _ m)]
              have : i ≠ j := fun e => hn (by rw [e]; exact List.mem_cons_self)
              dsimp only
              split
              · rfl
              · rw [nth_set_ne this]
        obtain ⟨ρ', r1, r2, r3⟩ := resolve_vals (ds := ds) (ρ := if noList d then ρ else ρ.set i none) n'.2 ((key ds n'.1).trans e)
        refine ⟨ρ', by unfold resolve; rw [ei]; dsimp only; rw [r1], fun j hj => ?_, ?_⟩
        · have hj : j ∉ i :: borsR ds := hj
          rw [r2 j fun m => hj (List.mem_cons_of_mem _ m)]
          split
          · rfl
          · exact List.getElem?_set_ne fun e => hj (by rw [e]; exact List.mem_cons_self)
        · rw [r3]
          split
          · rfl
          · rw [List.length_set]
theorem putBack_at : ∀ {ds : List (D ⊕ Nat)} {vs : List D} {ρ ρ' : Env}, vs.length = ds.length → (∀ j, j ∉ borsR ds → ρ'[j]? = ρ[j]?) → ρ'.length = ρ.length → putBack ds vs ρ' = putBack ds vs ρ
  | [], vs, ρ, ρ', _, h, hl => by
    have : ρ' = ρ := List.ext_getElem? fun j => h j (by simp [borsR])
    rw [this]
  | .inl d :: ds, [], ρ, ρ', hv, _, _ => by cases hv
  | .inl d :: ds, v :: vs, ρ, ρ', hv, h, hl => by
    unfold putBack
    exact putBack_at (Nat.succ.inj hv) h hl
  | .inr i :: ds, [], ρ, ρ', hv, _, _ => by cases hv
  | .inr i :: ds, v :: vs, ρ, ρ', hv, h, hl => by
    unfold putBack
    refine putBack_at (Nat.succ.inj hv) (fun j hj => ?_) (by rw [List.length_set, List.length_set, hl])
    by_cases e : i = j
    · subst e
      rw [List.getElem?_set, List.getElem?_set, hl, if_pos rfl, if_pos rfl]
    · rw [List.getElem?_set_ne e, List.getElem?_set_ne e]
      exact h j fun m => by
        rcases List.mem_cons.mp m with m | m
        · exact e m.symm
        · exact hj m
theorem we_call {f : List D → Option (D × List D)} {as : List Arg} {Q : D → Env → Prop} (h : WA as ρ fun ds ρ1 => WR ds ρ1 fun vs => WF f vs fun r vs' => LQ vs'.length vs.length (NE (putBack ds vs' ρ1) fun ρ2 => Q r ρ2)) (hd : (bors as).Nodup := by decide) : WE (eCall f as) ρ Q := by
  obtain ⟨ds, ρ1, e1, vs, e2, r, vs', e3, hl, q⟩ := h
  have hb := evArgs_bors e1
  obtain ⟨ρ', r1, r2, r3⟩ := resolve_vals (by rw [hb]; exact hd) e2
  have hlen : vs.length = ds.length := by
    clear e1 hb r1 r2 r3 q e3 hl
    induction ds generalizing vs with
    | nil => cases e2; rfl
    | cons x ds ih =>
      rw [List.mapM_cons] at e2
      cases ex : (match x with
        | .inl d => some d
        | .inr i => nth ρ1 i) with
      | none => rw [ex] at e2; cases e2
      | some d =>
        rw [ex] at e2
        cases e : ds.mapM (fun x => match x with
          | .inl d => some d
          | .inr i => nth ρ1 i) with
        | none => rw [e] at e2; cases e2
        | some ws =>
          rw [e] at e2
          cases e2
          rw [List.length_cons, List.length_cons, ih _ e]
  refine ⟨r, putBack ds vs' ρ1, ?_, q⟩
  unfold eCall
  rw [e1]
  dsimp only
  rw [r1]
  dsimp only
  rw [e3]
  dsimp only
  rw [putBack_at (by rw [hl, hlen]) r2 r3]
/-! statements -/
def sqK (s2 : MS) (Q : Out → Env → Prop) : Out → Env → Prop
  | .nx, ρ => WS s2 ρ Q
  | o, ρ => Q o ρ
theorem ws_seq {Q : Out → Env → Prop} (h : WS s1 ρ (sqK s2 Q)) : WS (sSeq s1 s2) ρ Q := by
  obtain ⟨o, ρ1, e, q⟩ := h
  cases o with
  | nx =>
    obtain ⟨o2, ρ2, e2, q2⟩ := q
    exact ⟨o2, ρ2, by unfold sSeq; rw [e]; exact e2, q2⟩
  | rt d => exact ⟨_, ρ1, by unfold sSeq; rw [e], q⟩
  | bk => exact ⟨_, ρ1, by unfold sSeq; rw [e], q⟩
  | ct => exact ⟨_, ρ1, by unfold sSeq; rw [e], q⟩
theorem sq_nx {Q : Out → Env → Prop} (h : WS s2 ρ Q) : sqK s2 Q .nx ρ := h
theorem sq_rt {Q : Out → Env → Prop} (h : Q (.rt d) ρ) : sqK s2 Q (.rt d) ρ := h
theorem sq_bk {Q : Out → Env → Prop} (h : Q .bk ρ) : sqK s2 Q .bk ρ := h
theorem sq_ct {Q : Out → Env → Prop} (h : Q .ct ρ) : sqK s2 Q .ct ρ := h
theorem ws_nil {Q : Out → Env → Prop} (q : Q .nx ρ) : WS sNil ρ Q := ⟨_, ρ, rfl, q⟩
theorem ws_break {Q : Out → Env → Prop} (q : Q .bk ρ) : WS sBreak ρ Q := ⟨_, ρ, rfl, q⟩
theorem ws_cont {Q : Out → Env → Prop} (q : Q .ct ρ) : WS sCont ρ Q := ⟨_, ρ, rfl, q⟩
theorem ws_set {Q : Out → Env → Prop} (h : WE m ρ fun d ρ1 => NE (ρ1.set i (some d)) (Q .nx)) : WS (sSet i m) ρ Q := by
  obtain ⟨d, ρ1, e, q⟩ := h
  exact ⟨_, _, by unfold sSet; rw [e], q⟩
theorem ws_expr {Q : Out → Env → Prop} (h : WE m ρ fun d ρ1 => Q .nx ρ1) : WS (sExpr m) ρ Q := by
  obtain ⟨d, ρ1, e, q⟩ := h
  exact ⟨_, _, by unfold sExpr; rw [e], q⟩
theorem ws_ret {Q : Out → Env → Prop} (h : WE m ρ fun d ρ1 => Q (.rt d) ρ1) : WS (sRet m) ρ Q := by
  obtain ⟨d, ρ1, e, q⟩ := h
  exact ⟨_, _, by unfold sRet; rw [e], q⟩
theorem ws_retN {Q : Out → Env → Prop} (q : Q (.rt .non) ρ) : WS sRetN ρ Q := ⟨_, ρ, rfl, q⟩
theorem ws_if {Q : Out → Env → Prop} (h : WT t ρ fun b ρ1 => BR b (WS s1 ρ1 Q) (WS s2 ρ1 Q)) : WS (sIf t s1 s2) ρ Q := by
  obtain ⟨b, ρ1, e, h1, h2⟩ := h
  cases b with
  | true =>
    obtain ⟨d, ρ2, e2, q⟩ := h1 rfl
    exact ⟨d, ρ2, by unfold sIf; rw [e]; exact e2, q⟩
  | false =>
    obtain ⟨d, ρ2, e2, q⟩ := h2 rfl
    exact ⟨d, ρ2, by unfold sIf; rw [e]; exact e2, q⟩
theorem ws_par {j : Nat} {Q : Out → Env → Prop} (h : WEs ms ρ fun ds ρ1 => ∃ a b, ds = [a, b] ∧ NE ((ρ1.set i (some a)).set j (some b)) (Q .nx)) : WS (sPar i j ms) ρ Q := by
  obtain ⟨ds, ρ1, e, a, b, rfl, q⟩ := h
  exact ⟨_, _, by unfold sPar; rw [e], q⟩
theorem ws_setIx {ix : ME} {Q : Out → Env → Prop} (h : WE m ρ fun d ρ1 => SN (nth ρ1 i) fun b0 => WE ix ρ1 fun k ρ2 => IsI k fun n => LN (nth ρ2 i) fun ds => IX ds.length n fun j => NE (ρ2.set i (some (.lst (ds.set j d)))) (Q .nx)) : WS (sSetIx i ix m) ρ Q := by
  obtain ⟨d, ρ1, e, b0, e0, k, ρ2, e2, n, rfl, ds, e3, j, e4, q⟩ := h
  exact ⟨_, _, by unfold sSetIx; rw [e]; dsimp only; rw [e0]; dsimp only; rw [e2]; dsimp only; rw [e3]; dsimp only; rw [e4], q⟩
theorem we_append {Q : D → Env → Prop} {ds0 : List D} (e0 : nth ρ i = some (.lst ds0)) (h : WE m ρ fun d ρ1 => LN (nth ρ1 i) fun ds => SZ1 ds.length (NE (ρ1.set i (some (.lst (ds ++ [d])))) (Q .non))) : WE (eLMut lAppend i [m]) ρ Q := by
  obtain ⟨d, ρ1, e, ds, e1, hl, q⟩ := h
  refine ⟨.non, _, ?_, q⟩
  unfold eLMut
  rw [e0]
  dsimp only
  unfold evs
  rw [e]
  dsimp only
  rw [show evs [] ρ1 = some ([], ρ1) from rfl]
  dsimp only
  rw [e1]
  dsimp only
  unfold lAppend
  dsimp only
  rw [if_pos hl]
theorem wg_set {Q : Env → Prop} (q : NE (ρ.set i (some d)) Q) : WG (gSet i) d ρ Q := ⟨_, rfl, q⟩
theorem wg_tup {gs : List D → Env → Option Env} {ds : List D} {Q : Env → Prop} (h : WGs gs ds ρ Q) : WG (gTupD gs) (.tup ds) ρ Q := h
theorem wgs_nil {Q : Env → Prop} (q : Q ρ) : WGs gNilD [] ρ Q := ⟨ρ, rfl, q⟩
theorem wgs_cons {g : MG} {gs : List D → Env → Option Env} {ds : List D} {Q : Env → Prop} (h : WG g d ρ fun ρ1 => WGs gs ds ρ1 Q) : WGs (gConsD g gs) (d :: ds) ρ Q := by
  obtain ⟨ρ1, e, ρ2, e2, q⟩ := h
  exact ⟨ρ2, by unfold gConsD; dsimp only; rw [e]; exact e2, q⟩
theorem ws_asg {g : MG} {Q : Out → Env → Prop} (h : WE m ρ fun d ρ1 => ND d (WG g d ρ1 (Q .nx))) : WS (sAsg m g) ρ Q := by
  obtain ⟨d, ρ1, e, n, ρ2, e2, q⟩ := h
  exact ⟨_, _, by unfold sAsg; rw [e]; dsimp only; rw [if_pos n, e2], q⟩
/-! loops -/
def lpK (Inv : Env → Prop) (Q : Out → Env → Prop) : Out → Env → Prop
  | .nx, ρ => Inv ρ
  | .ct, ρ => Inv ρ
  | .bk, ρ => Q .nx ρ
  | .rt d, ρ => Q (.rt d) ρ
theorem lp_nx {Inv : Env → Prop} {Q : Out → Env → Prop} (h : Inv ρ) : lpK Inv Q .nx ρ := h
theorem lp_ct {Inv : Env → Prop} {Q : Out → Env → Prop} (h : Inv ρ) : lpK Inv Q .ct ρ := h
theorem lp_bk {Inv : Env → Prop} {Q : Out → Env → Prop} (h : Q .nx ρ) : lpK Inv Q .bk ρ := h
theorem lp_rt {Inv : Env → Prop} {Q : Out → Env → Prop} (h : Q (.rt d) ρ) : lpK Inv Q (.rt d) ρ := h
def WL (g : MG) (b : MS) (ds : List D) (ρ : Env) (Q : Out → Env → Prop) : Prop := ∃ o ρ', forD g b ds ρ = some (o, ρ') ∧ Q o ρ'
theorem wl_from {g : MG} {b : MS} {Q : Out → Env → Prop} (Inv : Nat → Env → Prop) (all : List D)
    (step : ∀ k d ρ, all[k]? = some d → Inv k ρ → WG g d ρ fun ρ1 => WS b ρ1 (lpK (Inv (k + 1)) Q)) (fin : ∀ ρ, Inv all.length ρ → Q .nx ρ) :
    ∀ (ds : List D) (k : Nat) (ρ : Env), all.drop k = ds → k ≤ all.length → Inv k ρ → WL g b ds ρ Q
  | [], k, ρ, e, hk, h => by
    have : k = all.length := Nat.le_antisymm hk (List.drop_eq_nil_iff.mp e)
    subst this
    exact ⟨.nx, ρ, rfl, fin ρ h⟩
  | d :: ds, k, ρ, e, hk, h => by
    have e1 : all[k]? = some d := by
      have := congrArg (fun l => l[0]?) e
      simp only [List.getElem?_drop, List.getElem?_cons_zero, Nat.add_zero] at this
      exact this
    have e2 : all.drop (k + 1) = ds := by
      have := congrArg List.tail e
      rw [List.tail_drop] at this
      exact this
    have hk2 : k < all.length := by
      rcases Nat.lt_or_ge k all.length with h | h
      · exact h
      · rw [List.getElem?_eq_none h] at e1; cases e1
    obtain ⟨ρ1, eg, o, ρ2, eb, q⟩ := step k d ρ e1 h
    cases o with
    | nx =>
      obtain ⟨o', ρ', e', q'⟩ := wl_from Inv all step fin ds (k + 1) ρ2 e2 hk2 q
      exact ⟨o', ρ', by unfold forD; rw [eg]; dsimp only; rw [eb]; exact e', q'⟩
    | ct =>
      obtain ⟨o', ρ', e', q'⟩ := wl_from Inv all step fin ds (k + 1) ρ2 e2 hk2 q
      exact ⟨o', ρ', by unfold forD; rw [eg]; dsimp only; rw [eb]; exact e', q'⟩
    | bk => exact ⟨.nx, ρ2, by unfold forD; rw [eg]; dsimp only; rw [eb], q⟩
    | rt r => exact ⟨.rt r, ρ2, by unfold forD; rw [eg]; dsimp only; rw [eb], q⟩
/-- a for loop, by what holds ahead of its k-th turn -/
theorem wl_inv {g : MG} {b : MS} {ds : List D} {Q : Out → Env → Prop} (Inv : Nat → Env → Prop) (h0 : Inv 0 ρ)
    (step : ∀ k d ρ, ds[k]? = some d → Inv k ρ → WG g d ρ fun ρ1 => WS b ρ1 (lpK (Inv (k + 1)) Q)) (fin : ∀ ρ, Inv ds.length ρ → Q .nx ρ) : WL g b ds ρ Q :=
  wl_from Inv ds step fin ds 0 ρ rfl (Nat.zero_le _) h0
theorem wl_nil {g : MG} {b : MS} {Q : Out → Env → Prop} (h : Q .nx ρ) : WL g b [] ρ Q := ⟨.nx, ρ, rfl, h⟩
theorem ws_for {it : MI} {g : MG} {b : MS} {Q : Out → Env → Prop} (h : WI it ρ fun ds ρ1 => WL g b ds ρ1 Q) : WS (sFor it g b) ρ Q := by
  obtain ⟨ds, ρ1, e, o, ρ2, e2, q⟩ := h
  exact ⟨o, ρ2, by unfold sFor; rw [e]; exact e2, q⟩
/-- over what a name holds, if no list stands in it -/
theorem ws_forV {g : MG} {b : MS} {ds : List D} {Q : Out → Env → Prop} (e : nth ρ i = some d) (hs : notStr d = true) (e2 : seqD d = some ds) (n : noList d = true) (h : WL g b ds ρ Q) : WS (sForV i g b) ρ Q := by
  obtain ⟨o, ρ2, e3, q⟩ := h
  exact ⟨o, ρ2, by unfold sForV; rw [e]; dsimp only; rw [if_pos hs, e2]; dsimp only; rw [if_pos n]; exact e3, q⟩
def fvK (i : Nat) (d : D) (Q : Out → Env → Prop) : Out → Env → Prop
  | .nx, ρ => Q .nx (ρ.set i (some d))
  | .rt r, ρ => Q (.rt r) (ρ.set i (some d))
  | _, _ => False
/-- over a list in a name: it is held aside meanwhile -/
theorem ws_forVL {g : MG} {b : MS} {ds : List D} {Q : Out → Env → Prop} (e : nth ρ i = some d) (hs : notStr d = true) (e2 : seqD d = some ds) (n : noList d = false) (h : NE (ρ.set i none) fun ρ0 => WL g b ds ρ0 (fvK i d Q)) : WS (sForV i g b) ρ Q := by
  obtain ⟨o, ρ2, e3, q⟩ := h
  have hn : ¬ noList d = true := by rw [n]; exact Bool.false_ne_true
  cases o with
  | nx => exact ⟨.nx, _, by unfold sForV; rw [e]; dsimp only; rw [if_pos hs, e2]; dsimp only; rw [if_neg hn, e3], q⟩
  | rt r => exact ⟨.rt r, _, by unfold sForV; rw [e]; dsimp only; rw [if_pos hs, e2]; dsimp only; rw [if_neg hn, e3], q⟩
  | bk => cases q
  | ct => cases q
theorem wi_rng1 {Q : List D → Env → Prop} (h : WE m ρ fun d ρ1 => IsI d fun n => RG n (Q (numsD 0 n.toNat) ρ1)) : WI (iRng [m]) ρ Q := by
  obtain ⟨d, ρ1, e, n, rfl, hn, q⟩ := h
  refine ⟨_, ρ1, ?_, q⟩
  unfold iRng evs
  rw [e]
  dsimp only
  rw [show evs [] ρ1 = some ([], ρ1) from rfl]
  dsimp only
  rw [if_pos hn]
theorem wi_rng2 {Q : List D → Env → Prop} (h : WE m1 ρ fun a ρ1 => WE m2 ρ1 fun b ρ2 => IsI a fun lo => IsI b fun hi => RG lo (RG hi (Q (numsD lo (hi - lo).toNat) ρ2))) : WI (iRng [m1, m2]) ρ Q := by
  obtain ⟨a, ρ1, e, b, ρ2, e2, lo, rfl, hi, rfl, ⟨hn1, hn1'⟩, ⟨hn2, hn2'⟩, q⟩ := h
  have hn : -(2 ^ 62) ≤ lo ∧ lo < 2 ^ 62 ∧ -(2 ^ 62) ≤ hi ∧ hi < 2 ^ 62 := ⟨hn1, hn1', hn2, hn2'⟩
  refine ⟨_, ρ2, ?_, q⟩
  unfold iRng evs
  rw [e]
  dsimp only
  unfold evs
  rw [e2]
  dsimp only
  rw [show evs [] ρ2 = some ([], ρ2) from rfl]
  dsimp only
  rw [if_pos hn]
theorem wi_down {Q : List D → Env → Prop} (h : WE m1 ρ fun a ρ1 => WE m2 ρ1 fun b ρ2 => WE m3 ρ2 fun c ρ3 => IsI a fun lo => IsI b fun hi => IsI c fun s => s = -1 ∧ RG lo (RG hi (Q (downD lo (lo - hi).toNat) ρ3))) : WI (iDown [m1, m2, m3]) ρ Q := by
  obtain ⟨a, ρ1, e, b, ρ2, e2, c, ρ3, e3, lo, rfl, hi, rfl, ss, rfl, rfl, ⟨hn1, hn1'⟩, ⟨hn2, hn2'⟩, q⟩ := h
  have hn : -(2 ^ 62) ≤ lo ∧ lo < 2 ^ 62 ∧ -(2 ^ 62) ≤ hi ∧ hi < 2 ^ 62 := ⟨hn1, hn1', hn2, hn2'⟩
  refine ⟨_, ρ3, ?_, q⟩
  unfold iDown
  rw [show evs [m1, m2, m3] ρ = some ([.int lo, .int hi, .int (-1)], ρ3) by
    unfold evs; rw [e]; dsimp only
    unfold evs; rw [e2]; dsimp only
    unfold evs; rw [e3]; rfl]
  dsimp only
  rw [if_pos ⟨rfl, hn⟩]
theorem wi_seq {Q : List D → Env → Prop} (h : WE m ρ fun d ρ1 => TQ d fun ds => Q ds ρ1) : WI (iSeqL m) ρ Q := by
  obtain ⟨d, ρ1, e, ds, hs, e2, q⟩ := h
  exact ⟨ds, ρ1, by unfold iSeqL; rw [e]; dsimp only; rw [if_pos hs, e2], q⟩
theorem ws_while {b : MS} {n : Nat} {Q : Out → Env → Prop} (Inv : Env → Prop) (μ : Env → Nat) (h0 : Inv ρ) (hn : μ ρ < n)
    (step : ∀ ρ, Inv ρ → WT t ρ fun c ρ1 => BR c (WS b ρ1 (lpK (fun ρ2 => Inv ρ2 ∧ μ ρ2 < μ ρ) Q)) (Q .nx ρ1)) : WS (whileD t b n) ρ Q := by
  induction n generalizing ρ with
  | zero => cases hn
  | succ n ih =>
    obtain ⟨c, ρ1, e, h1, h2⟩ := step ρ h0
    cases c with
    | false => exact ⟨.nx, ρ1, by unfold whileD; rw [e], h2 rfl⟩
    | true =>
      obtain ⟨o, ρ2, e2, q⟩ := h1 rfl
      cases o with
      | nx =>
        obtain ⟨o', ρ', e', q'⟩ := ih q.1 (Nat.lt_of_lt_of_le q.2 (Nat.le_of_lt_succ hn))
        exact ⟨o', ρ', by unfold whileD; rw [e]; dsimp only; rw [e2]; exact e', q'⟩
      | ct =>
        obtain ⟨o', ρ', e', q'⟩ := ih q.1 (Nat.lt_of_lt_of_le q.2 (Nat.le_of_lt_succ hn))
        exact ⟨o', ρ', by unfold whileD; rw [e]; dsimp only; rw [e2]; exact e', q'⟩
      | bk => exact ⟨.nx, ρ2, by unfold whileD; rw [e]; dsimp only; rw [e2], q⟩
      | rt r => exact ⟨.rt r, ρ2, by unfold whileD; rw [e]; dsimp only; rw [e2], q⟩
/-! comprehensions -/
def WC (g : MG) (tt : MT) (te : ME) (own : List Nat) (ds : List D) (ρ : Env) (Q : List D → Env → Prop) : Prop := ∃ ys ρ', lcD g tt te own ds ρ = some (ys, ρ') ∧ Q ys ρ'
theorem wc_from {g : MG} {tt : MT} {te : ME} {own : List Nat} {Q : List D → Env → Prop} (Inv : Nat → List D → Env → Prop) (all : List D)
    (step : ∀ k ys d ρ, all[k]? = some d → Inv k ys ρ → WG g d ρ fun ρ1 => WT tt ρ1 fun b ρ2 => BR b (WE te ρ2 fun y ρ3 => NE (wipeE own ρ3) (Inv (k + 1) (ys ++ [y]))) (NE (wipeE own ρ2) (Inv (k + 1) ys))) (fin : ∀ ys ρ, Inv all.length ys ρ → Q ys ρ) :
    ∀ (ds : List D) (k : Nat) (zs : List D) (ρ : Env), all.drop k = ds → k ≤ all.length → Inv k zs ρ → WC g tt te own ds ρ fun ys ρ' => Q (zs ++ ys) ρ'
  | [], k, zs, ρ, e, hk, h => by
    have : k = all.length := Nat.le_antisymm hk (List.drop_eq_nil_iff.mp e)
    subst this
    exact ⟨[], ρ, rfl, by show Q (zs ++ []) ρ; rw [List.append_nil]; exact fin zs ρ h⟩
  | d :: ds, k, zs, ρ, e, hk, h => by
    have e1 : all[k]? = some d := by
      have := congrArg (fun l => l[0]?) e
      simp only [List.getElem?_drop, List.getElem?_cons_zero, Nat.add_zero] at this
      exact this
    have e2 : all.drop (k + 1) = ds := by
      have := congrArg List.tail e
      rw [List.tail_drop] at this
      exact this
    have hk2 : k < all.length := by
      rcases Nat.lt_or_ge k all.length with h | h
      · exact h
      · rw [List.getElem?_eq_none h] at e1; cases e1
    obtain ⟨ρ1, eg, b, ρ2, et, h1, h2⟩ := step k zs d ρ e1 h
    cases b with
    | true =>
      obtain ⟨y, ρ3, ey, q⟩ := h1 rfl
      obtain ⟨ys, ρ', e', q'⟩ := wc_from Inv all step fin ds (k + 1) (zs ++ [y]) _ e2 hk2 q
      exact ⟨y :: ys, ρ', by unfold lcD; rw [eg]; dsimp only; rw [et]; dsimp only; rw [ey]; dsimp only; rw [e'], by rw [List.append_assoc] at q'; exact q'⟩
    | false =>
      obtain ⟨ys, ρ', e', q'⟩ := wc_from Inv all step fin ds (k + 1) zs _ e2 hk2 (h2 rfl)
      exact ⟨ys, ρ', by unfold lcD; rw [eg]; dsimp only; rw [et]; exact e', q'⟩
theorem wc_inv {g : MG} {tt : MT} {te : ME} {own : List Nat} {ds : List D} {Q : List D → Env → Prop} (Inv : Nat → List D → Env → Prop) (h0 : Inv 0 [] ρ)
    (step : ∀ k ys d ρ, ds[k]? = some d → Inv k ys ρ → WG g d ρ fun ρ1 => WT tt ρ1 fun b ρ2 => BR b (WE te ρ2 fun y ρ3 => NE (wipeE own ρ3) (Inv (k + 1) (ys ++ [y]))) (NE (wipeE own ρ2) (Inv (k + 1) ys))) (fin : ∀ ys ρ, Inv ds.length ys ρ → Q ys ρ) : WC g tt te own ds ρ Q :=
  wc_from Inv ds step fin ds 0 [] ρ rfl (Nat.zero_le _) h0
/-- each thing makes one, the environment stays -/
theorem wc_map {g : MG} {te : ME} {own : List Nat} {ds : List D} {Q : List D → Env → Prop} (f : D → D) (step : ∀ d ∈ ds, WG g d ρ fun ρ1 => WE te ρ1 fun y ρ3 => y = f d ∧ NE (wipeE own ρ3) fun ρ4 => ρ4 = ρ) (fin : Q (ds.map f) ρ) : WC g mYes te own ds ρ Q :=
  wc_inv (fun k ys ρ' => ys = (ds.take k).map f ∧ ρ' = ρ) ⟨by simp, rfl⟩ (fun k ys d ρ' e ⟨h1, h2⟩ => by
    subst h1 h2
    obtain ⟨ρ1, e1, y, ρ3, e2, rfl, e3⟩ := step d (List.mem_of_getElem? e)
    refine ⟨ρ1, e1, true, ρ1, rfl, fun _ => ⟨_, ρ3, e2, ?_⟩, fun h => by cases h⟩
    refine ne_ e3 ⟨?_, rfl⟩
    rw [List.take_succ, e, List.map_append]
    rfl) (fun ys ρ' ⟨h1, h2⟩ => by
    subst h1 h2
    rw [List.take_length]
    exact fin)
/-- each thing that passes makes one, the environment stays -/
theorem wc_filter {g : MG} {tt : MT} {te : ME} {own : List Nat} {ds : List D} {Q : List D → Env → Prop} (c : D → Bool) (f : D → D)
    (step : ∀ d ∈ ds, WG g d ρ fun ρ1 => WT tt ρ1 fun b ρ2 => b = c d ∧ BR b (WE te ρ2 fun y ρ3 => y = f d ∧ NE (wipeE own ρ3) fun ρ4 => ρ4 = ρ) (NE (wipeE own ρ2) fun ρ4 => ρ4 = ρ)) (fin : Q ((ds.filter c).map f) ρ) : WC g tt te own ds ρ Q :=
  wc_inv (fun k ys ρ' => ys = ((ds.take k).filter c).map f ∧ ρ' = ρ) ⟨by simp, rfl⟩ (fun k ys d ρ' e ⟨h1, h2⟩ => by
    subst h1 h2
    obtain ⟨ρ1, e1, b, ρ2, e2, hb, k1, k2⟩ := step d (List.mem_of_getElem? e)
    refine ⟨ρ1, e1, b, ρ2, e2, fun hb' => ?_, fun hb' => ?_⟩
    · obtain ⟨y, ρ3, e4, rfl, e5⟩ := k1 hb'
      refine ⟨_, ρ3, e4, ne_ e5 ⟨?_, rfl⟩⟩
      rw [List.take_succ, e, List.filter_append, List.map_append]
      simp [← hb, hb']
    · refine ne_ (k2 hb') ⟨?_, rfl⟩
      rw [List.take_succ, e, List.filter_append, List.map_append]
      simp [← hb, hb']) (fun ys ρ' ⟨h1, h2⟩ => by
    subst h1 h2
    rw [List.take_length]
    exact fin)
theorem we_lc {it : MI} {g : MG} {tt : MT} {te : ME} {own : List Nat} {Q : D → Env → Prop} (h : WI it ρ fun ds ρ1 => SZ ds.length (NE (wipeE own ρ1) fun ρ2 => WC g tt te own ds ρ2 fun ys ρ3 => Q (.lst ys) ρ3)) : WE (eLc it g tt te own) ρ Q := by
  obtain ⟨ds, ρ1, e, hl, ys, ρ2, e2, q⟩ := h
  exact ⟨_, ρ2, by unfold eLc; rw [e]; dsimp only; rw [if_pos hl, e2], q⟩
theorem we_lcV {g : MG} {tt : MT} {te : ME} {own : List Nat} {ds : List D} {Q : D → Env → Prop} (e : nth ρ i = some d) (hs : notStr d = true) (e2 : seqD d = some ds) (n : noList d = true) (hl : ds.length ≤ 16777216) (h : NE (wipeE own ρ) fun ρ2 => WC g tt te own ds ρ2 fun ys ρ3 => Q (.lst ys) ρ3) : WE (eLcV i g tt te own) ρ Q := by
  obtain ⟨ys, ρ2, e3, q⟩ := h
  exact ⟨_, ρ2, by unfold eLcV; rw [e]; dsimp only; rw [if_pos hs, e2]; dsimp only; rw [if_pos hl, if_pos n, e3], q⟩
theorem we_lcVL {g : MG} {tt : MT} {te : ME} {own : List Nat} {ds : List D} {Q : D → Env → Prop} (e : nth ρ i = some d) (hs : notStr d = true) (e2 : seqD d = some ds) (n : noList d = false) (hl : ds.length ≤ 16777216) (h : NE (wipeE own (ρ.set i none)) fun ρ2 => WC g tt te own ds ρ2 fun ys ρ3 => NE (ρ3.set i (some d)) fun ρ4 => Q (.lst ys) ρ4) : WE (eLcV i g tt te own) ρ Q := by
  obtain ⟨ys, ρ2, e3, q⟩ := h
  have hn : ¬ noList d = true := by rw [n]; exact Bool.false_ne_true
  exact ⟨_, _, by unfold eLcV; rw [e]; dsimp only; rw [if_pos hs, e2]; dsimp only; rw [if_pos hl, if_neg hn, e3], q⟩
/-! defs -/
def fnK (n : Nat) (Q : D → List D → Prop) : Out → Env → Prop
  | .rt d, ρ => ∃ ds', allSome (ρ.take n) = some ds' ∧ Q d ds'
  | .nx, ρ => ∃ ds', allSome (ρ.take n) = some ds' ∧ Q .non ds'
  | _, _ => False
theorem fk_rt {n : Nat} {ds' : List D} {Q : D → List D → Prop} (e : allSome (ρ.take n) = some ds') (q : Q d ds') : fnK n Q (.rt d) ρ := ⟨ds', e, q⟩
theorem fk_nx {n : Nat} {ds' : List D} {Q : D → List D → Prop} (e : allSome (ρ.take n) = some ds') (q : Q .non ds') : fnK n Q .nx ρ := ⟨ds', e, q⟩
theorem wf_mk {tot : Nat} {b : MS} {ds : List D} {Q : D → List D → Prop} (h : NE (ds.map some ++ List.replicate (tot - ds.length) none) fun ρ0 => WS b ρ0 (fnK ds.length Q)) : WF (mkFn tot b) ds Q := by
  obtain ⟨o, ρ, e, q⟩ := h
  cases o with
  | rt d =>
    obtain ⟨ds', e2, q⟩ := q
    exact ⟨d, ds', by unfold mkFn; rw [e]; dsimp only; rw [e2], q⟩
  | nx =>
    obtain ⟨ds', e2, q⟩ := q
    exact ⟨.non, ds', by unfold mkFn; rw [e]; dsimp only; rw [e2], q⟩
  | bk => cases q
  | ct => cases q
def fnKP (ds : List D) (Q : D → List D → Prop) : Out → Env → Prop
  | .rt d, _ => Q d ds
  | .nx, _ => Q .non ds
  | _, _ => False
theorem fp_rt {ds : List D} {Q : D → List D → Prop} (q : Q d ds) : fnKP ds Q (.rt d) ρ := q
theorem fp_nx {ds : List D} {Q : D → List D → Prop} (q : Q .non ds) : fnKP ds Q .nx ρ := q
theorem wf_mkP {tot : Nat} {b : MS} {ds : List D} {Q : D → List D → Prop} (n : noLists ds = true) (h : NE (ds.map some ++ List.replicate (tot - ds.length) none) fun ρ0 => WS b ρ0 (fnKP ds Q)) : WF (mkFnP tot b) ds Q := by
  obtain ⟨o, ρ, e, q⟩ := h
  cases o with
  | rt d => exact ⟨d, ds, by unfold mkFnP; rw [if_pos n, e], q⟩
  | nx => exact ⟨.non, ds, by unfold mkFnP; rw [if_pos n, e], q⟩
  | bk => cases q
  | ct => cases q
end
end Bv

namespace Bv
open PySem PySem.Spec PyProof.Rows L2

theorem nl_tup {ds : List D} (h : noLists ds = true) : noList (.tup ds) = true := h
theorem nl_str {x : Str} : noList (.str x) = true := rfl
theorem nl_int {x : Int} : noList (.int x) = true := rfl
theorem nls_mem : ∀ {ds : List D} {d : D}, noLists ds = true → d ∈ ds → noList d = true
  | [], _, _, m => nomatch m
  | e :: ds, d, h, m => by
    have h' := Bool.and_eq_true_iff.mp (show (noList e && noLists ds) = true from h)
    rcases List.mem_cons.mp m with z | z
    · rw [z]; exact h'.1
    · exact nls_mem h'.2 z
theorem nls_of : ∀ {ds : List D}, (∀ d ∈ ds, noList d = true) → noLists ds = true
  | [], _ => rfl
  | e :: ds, h => by
    show (noList e && noLists ds) = true
    rw [h e List.mem_cons_self, nls_of fun d m => h d (List.mem_cons_of_mem _ m)]; rfl
theorem nls_app {a b : List D} (ha : noLists a = true) (hb : noLists b = true) : noLists (a ++ b) = true :=
  nls_of fun d m => (List.mem_append.mp m).elim (nls_mem ha) (nls_mem hb)
theorem nls_cons {d : D} {b : List D} (ha : noList d = true) (hb : noLists b = true) : noLists (d :: b) = true := by
  show (noList d && noLists b) = true
  rw [ha, hb]; rfl
theorem nls_snoc {a : List D} {d : D} (ha : noLists a = true) (hd : noList d = true) : noLists (a ++ [d]) = true := nls_app ha (nls_cons hd rfl)
theorem nls_ints (ns : List Int) : noLists (ns.map D.int) = true := nls_of fun d m => by
  obtain ⟨x, _, rfl⟩ := List.mem_map.mp m
  rfl
theorem nls_strs (ns : List Str) : noLists (ns.map D.str) = true := nls_of fun d m => by
  obtain ⟨x, _, rfl⟩ := List.mem_map.mp m
  rfl
theorem nls_rep {n : Nat} {d : D} (h : noList d = true) : noLists (List.replicate n d) = true := nls_of fun e m => by
  rw [List.eq_of_mem_replicate m]; exact h
/-! items by place -/
theorem at_in {α : Type} {ds : List α} {r : Int} (h0 : 0 ≤ r) (h1 : r < ds.length) : ∃ d, atI ds r = some d ∧ ds[r.toNat]? = some d ∧ d ∈ ds := by
  have h2 : r.toNat < ds.length := by omega
  refine ⟨ds[r.toNat], ?_, List.getElem?_eq_getElem h2, List.getElem_mem h2⟩
  unfold atI ixN
  rw [if_pos h0, if_pos (by omega)]
  exact List.getElem?_eq_getElem h2
theorem wo_ixM {ds : List D} {r : Int} {Q : D → Prop} (h0 : 0 ≤ r) (h1 : r < ds.length) (q : ∀ d, ds[r.toNat]? = some d → d ∈ ds → Q d) : WO (ixD (.lst ds) (.int r)) Q := by
  obtain ⟨d, e, e2, m⟩ := at_in h0 h1
  exact ⟨d, e, q d e2 m⟩
theorem wo_gtM {ds : List D} {r : Int} {Q : D → Prop} (h0 : 0 ≤ r) (h1 : r < ds.length) (q : ∀ d, ds[r.toNat]? = some d → d ∈ ds → Q d) : WO (getD (.tup ds) (.int r)) Q := by
  obtain ⟨d, e, e2, m⟩ := at_in h0 h1
  exact ⟨d, e, q d e2 m⟩
theorem wo_glM {ds : List D} {r : Int} {Q : D → Prop} (h0 : 0 ≤ r) (h1 : r < ds.length) (q : ∀ d, ds[r.toNat]? = some d → d ∈ ds → Q d) : WO (getD (.lst ds) (.int r)) Q := by
  obtain ⟨d, e, e2, m⟩ := at_in h0 h1
  exact ⟨d, e, q d e2 m⟩
def allInt : List D → Bool
  | [] => true
  | .int _ :: ds => allInt ds
  | _ :: _ => false
theorem allInt_mem : ∀ {ds : List D} {d : D}, allInt ds = true → d ∈ ds → ∃ x, d = .int x
  | [], _, _, m => nomatch m
  | e :: ds, d, h, m => by
    cases e <;> first | cases h | skip
    rename_i x
    have h : allInt ds = true := h
    rcases List.mem_cons.mp m with z | z
    · exact ⟨x, z⟩
    · exact allInt_mem h z
def allStr : List D → Bool
  | [] => true
  | .str _ :: ds => allStr ds
  | _ :: _ => false
theorem allStr_mem : ∀ {ds : List D} {d : D}, allStr ds = true → d ∈ ds → ∃ x, d = .str x
  | [], _, _, m => nomatch m
  | e :: ds, d, h, m => by
    cases e <;> first | cases h | skip
    rename_i x
    have h : allStr ds = true := h
    rcases List.mem_cons.mp m with z | z
    · exact ⟨x, z⟩
    · exact allStr_mem h z
theorem allStr_map (ns : List Str) : allStr (ns.map D.str) = true := by
  induction ns with
  | nil => rfl
  | cons n ns ih => exact ih
theorem wo_ixI {ds : List D} {r : Int} {Q : D → Prop} (ha : allInt ds = true) (h0 : 0 ≤ r) (h1 : r < ds.length) (q : ∀ x, D.int x ∈ ds → Q (.int x)) : WO (ixD (.lst ds) (.int r)) Q :=
  wo_ixM h0 h1 fun d _ m => by
    obtain ⟨x, rfl⟩ := allInt_mem ha m
    exact q x m
theorem wo_ixS {ds : List D} {r : Int} {Q : D → Prop} (ha : allStr ds = true) (h0 : 0 ≤ r) (h1 : r < ds.length) (q : ∀ x, D.str x ∈ ds → Q (.str x)) : WO (ixD (.lst ds) (.int r)) Q :=
  wo_ixM h0 h1 fun d _ m => by
    obtain ⟨x, rfl⟩ := allStr_mem ha m
    exact q x m
theorem wo_get0 {d : D} {ds : List D} {Q : D → Prop} (q : Q d) : WO (getD (.tup (d :: ds)) (.int 0)) Q := ⟨d, by
  show atI (d :: ds) 0 = some d
  unfold atI ixN
  rw [if_pos (by decide), if_pos (by rw [List.length_cons]; omega)]
  rfl, q⟩
theorem wo_min2 {i j : Int} {Q : D → Prop} (q : Q (.int (min i j))) : WO (min2 [.int i, .int j]) Q := ⟨_, by
  show some (D.int (if j < i then j else i)) = some (.int (min i j))
  have : (if j < i then j else i) = min i j := by
    split <;> omega
  rw [this], q⟩
theorem wo_max2 {i j : Int} {Q : D → Prop} (q : Q (.int (max i j))) : WO (max2 [.int i, .int j]) Q := ⟨_, by
  show some (D.int (if j > i then j else i)) = some (.int (max i j))
  have : (if j > i then j else i) = max i j := by
    split <;> omega
  rw [this], q⟩
theorem wo_abs {i : Int} {Q : D → Prop} (q : Q (.int (if i < 0 then -i else i))) : WO (absD [.int i]) Q := ⟨_, rfl, q⟩
theorem wo_maxL {ns : List Int} {Q : D → Prop} (h : 0 < ns.length) (q : Q (.int (maxOf ns))) : WO (maxL [.lst (ns.map D.int)]) Q := ⟨_, by
  unfold maxL onInts
  dsimp only [listOf]
  rw [intsOf_map]
  cases ns with
  | nil => cases h
  | cons x r => rfl, q⟩
theorem wo_sumL {ns : List Int} {Q : D → Prop} (q : Q (.int ns.sum)) : WO (sumL [.lst (ns.map D.int)]) Q := ⟨_, by
  unfold sumL onInts
  dsimp only [listOf]
  rw [intsOf_map], q⟩
theorem wo_addI {i j : Int} {Q : D → Prop} (q : Q (.int (i + j))) : WO (addD (.int i) (.int j)) Q := ⟨_, rfl, q⟩
theorem wo_subI {i j : Int} {Q : D → Prop} (q : Q (.int (i - j))) : WO (subD (.int i) (.int j)) Q := ⟨_, rfl, q⟩
theorem wo_andI {i j : Int} {Q : D → Prop} (q : Q (.int (Builtin.bitAnd i j))) : WO (andD (.int i) (.int j)) Q := ⟨_, rfl, q⟩
theorem wo_ltI {i j : Int} {Q : D → Prop} (q : Q (.bl (decide (i < j)))) : WO (ltD (.int i) (.int j)) Q := ⟨_, rfl, q⟩
theorem wo_leI {i j : Int} {Q : D → Prop} (q : Q (.bl (decide (i ≤ j)))) : WO (leD (.int i) (.int j)) Q := ⟨_, rfl, q⟩
theorem wo_gtI {i j : Int} {Q : D → Prop} (q : Q (.bl (decide (j < i)))) : WO (gtD (.int i) (.int j)) Q := ⟨_, rfl, q⟩
theorem wo_geI {i j : Int} {Q : D → Prop} (q : Q (.bl (decide (j ≤ i)))) : WO (geD (.int i) (.int j)) Q := ⟨_, rfl, q⟩
theorem wo_eqI {i j : Int} {Q : D → Prop} (q : Q (.bl (decide (i = j)))) : WO (eqD (.int i) (.int j)) Q := ⟨_, rfl, q⟩
theorem wo_eqS {i j : Str} {Q : D → Prop} (q : Q (.bl (decide (i = j)))) : WO (eqD (.str i) (.str j)) Q := ⟨_, rfl, q⟩
theorem wo_neI {i j : Int} {Q : D → Prop} (q : Q (.bl (!decide (i = j)))) : WO (neD (.int i) (.int j)) Q := ⟨_, rfl, q⟩
theorem wo_neS {i j : Str} {Q : D → Prop} (q : Q (.bl (!decide (i = j)))) : WO (neD (.str i) (.str j)) Q := ⟨_, rfl, q⟩
theorem wo_negI {i : Int} {Q : D → Prop} (q : Q (.int (-i))) : WO (negD (.int i)) Q := ⟨_, rfl, q⟩
theorem wo_lenT {ds : List D} {Q : D → Prop} (q : Q (.int ds.length)) : WO (lenD [.tup ds]) Q := ⟨_, rfl, q⟩
theorem wo_lenL {ds : List D} {Q : D → Prop} (q : Q (.int ds.length)) : WO (lenD [.lst ds]) Q := ⟨_, rfl, q⟩
theorem wo_intI {i : Int} {Q : D → Prop} (q : Q (.int i)) : WO (toInt [.int i]) Q := ⟨_, rfl, q⟩
theorem wo_notB {b : Bool} {Q : D → Prop} (q : Q (.bl (!b))) : WO (notD (.bl b)) Q := ⟨_, rfl, q⟩
/-! ranges -/
theorem numsD_at {lo : Int} {n k : Nat} {d : D} (h : (numsD lo n)[k]? = some d) : k < n ∧ d = .int (lo + k) := by
  unfold numsD at h
  rw [List.getElem?_map] at h
  rcases Nat.lt_or_ge k n with h' | h'
  · rw [List.getElem?_range h'] at h
    cases h
    exact ⟨h', rfl⟩
  · rw [List.getElem?_eq_none (by rw [List.length_range]; exact h')] at h
    cases h
theorem numsD_len {lo : Int} {n : Nat} : (numsD lo n).length = n := by unfold numsD; simp
theorem downD_at {lo : Int} {n k : Nat} {d : D} (h : (downD lo n)[k]? = some d) : k < n ∧ d = .int (lo - k) := by
  unfold downD at h
  rw [List.getElem?_map] at h
  rcases Nat.lt_or_ge k n with h' | h'
  · rw [List.getElem?_range h'] at h
    cases h
    refine ⟨h', ?_⟩
    show D.int (lo + (k : Int) * -1) = _
    rw [show lo + (k : Int) * -1 = lo - k by omega]
  · rw [List.getElem?_eq_none (by rw [List.length_range]; exact h')] at h
    cases h
theorem downD_len {lo : Int} {n : Nat} : (downD lo n).length = n := by unfold downD; simp
theorem getI {fs : List Int} {k : Nat} {d : D} (h : (fs.map D.int)[k]? = some d) : ∃ x, fs[k]? = some x ∧ d = .int x := by
  rw [List.getElem?_map] at h
  cases e : fs[k]? with
  | none => rw [e] at h; cases h
  | some x => rw [e] at h; cases h; exact ⟨x, rfl, rfl⟩
/-! the small reader's parts -/
theorem and_nn {a b : Int} (h : 0 ≤ a) (h2 : 0 ≤ b) : 0 ≤ Builtin.bitAnd a b := by
  unfold Builtin.bitAnd
  rw [decide_eq_true h, decide_eq_true h2]
  exact Int.natCast_nonneg _
theorem cells_at {cells : List Int} {i : Int} (h : 0 ≤ i) (h2 : i < ((cells.map D.int).length : Int)) : ∃ c : Int, atI (cells.map D.int) i = some (.int c) := by
  have h3 : i.toNat < cells.length := by rw [List.length_map] at h2; omega
  exact ⟨cells[i.toNat], atI_pos h (by rw [List.getElem?_map, List.getElem?_eq_getElem h3]; rfl)⟩
theorem hi_nn (c : Int) : 0 ≤ Builtin.bitAnd ((if c < 0 then -c else c) / 2) (1 * 2 ^ (8192 : Int).toNat - 1) := by
  refine and_nn (Int.ediv_nonneg (by split <;> omega) (by decide)) ?_
  have : (0 : Int) < 2 ^ (8192 : Int).toNat := Int.pow_pos (by decide)
  omega
/-- the script's reader: what is read, the place, a big number's rest, two counts -/
def VD (L : List D) : Prop := ∃ (cells : List Int) (i hi seed cnt : Int), L = [.lst (cells.map D.int), .int i, .int hi, .int seed, .int cnt] ∧ 0 ≤ i ∧ 0 ≤ hi
end Bv

namespace Bv
open PySem PySem.Spec PyProof.Rows L2

/-! ### more operators -/
/-- t > u of tuples of ints: by places from the front -/
def gtL (ns ms : List Int) : Bool := Ob.lexAt (fun j => decide (ns.getD j 0 = ms.getD j 0)) (fun j => decide (ms.getD j 0 < ns.getD j 0)) (decide (ns.length > ms.length)) 0 (min ns.length ms.length)
def rGtT2 (K : PySem.W.Frag) : R2 := fun x y H Q => ∃ (p q : Addr) (us ws : List Int), (x = .ref p ∧ y = .ref q) ∧ (SqT K H p (us.map V.int) ∧ SqT K H q (ws.map V.int)) ∧ Q (.bl (gtL us ws)) H
theorem op_gtT2 {X : Cx} (hu : X.A.units < cLine) : OpR X (compareOp .Gt) (rGtT2 X.K) := by
  intro pins s σ H x y v u Q I rx ry h
  obtain ⟨p, q, us, ws, ⟨ex, ey⟩, ⟨hp, hq⟩, qq⟩ := h
  subst ex ey; cases rx; cases ry
  obtain ⟨g1, r1, p1, _⟩ := I.tuple hp
  obtain ⟨g2, r2, p2, _⟩ := I.tuple hq
  have j1 : IntsAre g1 us := Vals.ints r1
  have j2 : IntsAre g2 ws := Vals.ints r2
  have z1 : g1.toArray.size = us.length := List.size_toArray.trans j1.length
  have z2 : g2.toArray.size = ws.length := List.size_toArray.trans j2.length
  have A1 : ∀ j (h : j < g1.toArray.size), ∃ t, g1.toArray[j] = .int (us.getD j 0) t := fun j h => PyProof.Rows.IntsAre.int_at j1 _ _ (by simp at h; simp [h])
  have A2 : ∀ j (h : j < g2.toArray.size), ∃ t, g2.toArray[j] = .int (ws.getD j 0) t := fun j h => PyProof.Rows.IntsAre.int_at j2 _ _ (by simp at h; simp [h])
  have big := Ob.RcOp.tuples_gt (A := X.A) (s := s) (e := fun j => decide (us.getD j 0 = ws.getD j 0)) (r := fun j => decide (ws.getD j 0 < us.getD j 0)) p1 p2 hu
    (fun j h1 h2 => by
      obtain ⟨t, et⟩ := A1 j h1
      obtain ⟨t', et'⟩ := A2 j h2
      rw [et, et', show decide (us.getD j 0 = ws.getD j 0) = (us.getD j 0 == ws.getD j 0) by simp [BEq.beq]]
      exact SeqAt.EqAt.int_int _ _ _ _)
    (fun j h1 h2 _ => by
      obtain ⟨t, et⟩ := A1 j h1; obtain ⟨t', et'⟩ := A2 j h2
      rw [et, et']; exact Ob.RcOp.gt_int _ _ _ _)
  rw [z1, z2] at big
  exact (big X.prog X.w X.xe (EP X pins σ Q) ⟨.bl _, H, I, rfl, qq⟩ : wpAny (model X.prog X.w) X.A (compareOp .Gt (.ref p) (.ref q)) (EP X pins σ Q) X.xe s)
/-- > of two ints, of two tuples of ints -/
def gtX (d1 d2 : D) : Option D := match d1, d2 with
  | .int i, .int j => some (.bl (decide (j < i)))
  | .tup a, .tup b => (match intsOf a with
    | some us => (match intsOf b with
      | some ws => some (.bl (gtL us ws))
      | none => none)
    | none => none)
  | _, _ => none
def rGtX (K : PySem.W.Frag) : R2 := fun x y H Q => rI0 (fun i j => .bl (decide (j < i))) x y H Q ∨ rGtT2 K x y H Q
theorem op_gtX {X : Cx} (hu : X.A.units + 64 < cLine) : OpR X (compareOp .Gt) (rGtX X.K) := op_gt.or (op_gtT2 (by omega))
theorem gtX_ok {K : PySem.W.Frag} : R2ok K (rGtX K) gtX := by
  intro x y H Q d1 d2 d f1 f2 r1 r2 e k
  unfold gtX at e
  split at e
  · cases e
    cases r1
    cases r2
    exact .inl ⟨_, _, rfl, rfl, k _ H [] (Same.refl H) (.bl _) List.nodup_nil (fun a m => nomatch m)⟩
  · split at e
    · rename_i us eu
      split at e
      · rename_i ws ew
        cases e
        have z1 := intsOf_eq eu
        have z2 := intsOf_eq ew
        subst z1 z2
        cases r1 with
        | tup s1 q1 =>
          cases r2 with
          | tup s2 q2 =>
            have y1 := reps_ints q1
            have y2 := reps_ints q2
            subst y1 y2
            exact .inr ⟨_, _, us, ws, ⟨rfl, rfl⟩, ⟨s1, s2⟩, k _ H [] (Same.refl H) (.bl _) List.nodup_nil (fun a m => nomatch m)⟩
      · cases e
    · cases e
  · cases e
theorem wo_gtXI {i j : Int} {Q : D → Prop} (q : Q (.bl (decide (j < i)))) : WO (gtX (.int i) (.int j)) Q := ⟨_, rfl, q⟩
theorem wo_gtXT {us ws : List Int} {Q : D → Prop} (q : Q (.bl (gtL us ws))) : WO (gtX (.tup (us.map D.int)) (.tup (ws.map D.int))) Q := ⟨_, by
  unfold gtX
  dsimp only
  rw [intsOf_map]
  dsimp only
  rw [intsOf_map], q⟩
end Bv

namespace Bv
open PySem PySem.Spec PyProof.Rows L2
/-- one turn of a loop -/
theorem wl_cons {ρ : Env} {g : MG} {b : MS} {d : D} {ds : List D} {Q : Out → Env → Prop} (h : WG g d ρ fun ρ1 => WS b ρ1 (lpK (fun ρ2 => WL g b ds ρ2 Q) Q)) : WL g b (d :: ds) ρ Q := by
  obtain ⟨ρ1, eg, o, ρ2, eb, q⟩ := h
  cases o with
  | nx =>
    obtain ⟨o', ρ', e', q'⟩ := q
    exact ⟨o', ρ', by unfold forD; rw [eg]; dsimp only; rw [eb]; exact e', q'⟩
  | ct =>
    obtain ⟨o', ρ', e', q'⟩ := q
    exact ⟨o', ρ', by unfold forD; rw [eg]; dsimp only; rw [eb]; exact e', q'⟩
  | bk => exact ⟨.nx, ρ2, by unfold forD; rw [eg]; dsimp only; rw [eb], q⟩
  | rt r => exact ⟨.rt r, ρ2, by unfold forD; rw [eg]; dsimp only; rw [eb], q⟩
/-- turns of a comprehension, one by one -/
theorem wc_nil {ρ : Env} {g : MG} {tt : MT} {te : ME} {own : List Nat} {Q : List D → Env → Prop} (h : Q [] ρ) : WC g tt te own [] ρ Q := ⟨[], ρ, rfl, h⟩
theorem wc_cons {ρ : Env} {g : MG} {tt : MT} {te : ME} {own : List Nat} {d : D} {ds : List D} {Q : List D → Env → Prop} (h : WG g d ρ fun ρ1 => WT tt ρ1 fun b ρ2 => BR b (WE te ρ2 fun y ρ3 => NE (wipeE own ρ3) fun ρ4 => WC g tt te own ds ρ4 fun ys ρ5 => Q (y :: ys) ρ5) (NE (wipeE own ρ2) fun ρ4 => WC g tt te own ds ρ4 Q)) : WC g tt te own (d :: ds) ρ Q := by
  obtain ⟨ρ1, eg, b, ρ2, et, h1, h2⟩ := h
  cases b with
  | true =>
    obtain ⟨y, ρ3, ey, ys, ρ', e', q⟩ := h1 rfl
    exact ⟨y :: ys, ρ', by unfold lcD; rw [eg]; dsimp only; rw [et]; dsimp only; rw [ey]; dsimp only; rw [e'], q⟩
  | false =>
    obtain ⟨ys, ρ', e', q⟩ := h2 rfl
    exact ⟨ys, ρ', by unfold lcD; rw [eg]; dsimp only; rw [et]; exact e', q⟩
end Bv

namespace Bv
open PySem PySem.Spec PyProof.Rows L2

/-! ### the module's constants -/
mutual
/-- v stands for d among the frozen objects -/
def repV (K : PySem.W.Frag) : Nat → Value → D → Option V
  | 0, _, _ => none
  | n + 1, v, d => match v, d with
    | .none, .non => some .non
    | .bool b, .bl c => if b = c then some (.bl c) else none
    | .int i _, .int j => if i = j then some (.int j) else none
    | .str x _, .str y => if x = y then some (.str y) else none
    | .ref a, .tup ds => (match K.lookup a with
      | some ⟨.type c, _, .seq its _, _⟩ => if c = "tuple" ∧ its.size ≤ sizeLine then (match repVs K n its.toList ds with
        | some _ => some (.ref a)
        | none => none) else none
      | _ => none)
    | _, _ => none
def repVs (K : PySem.W.Frag) : Nat → List Value → List D → Option (List V)
  | 0, _, _ => none
  | n + 1, us, ds => match us, ds with
    | [], [] => some []
    | u :: us, d :: ds => (match repV K n u d with
      | some x => (match repVs K n us ds with
        | some xs => some (x :: xs)
        | none => none)
      | none => none)
    | _, _ => none
end
theorem repV_both (K : PySem.W.Frag) : ∀ n : Nat, (∀ v d x, repV K n v d = some x → RelV x v ∧ ∀ H, Rep K H x d []) ∧ ∀ us ds xs, repVs K n us ds = some xs → Vals xs us ∧ ∀ H, Reps K H xs ds []
  | 0 => ⟨fun v d x h => (by unfold repV at h; cases h), fun us ds xs h => (by unfold repVs at h; cases h)⟩
  | n + 1 => by
    obtain ⟨ih1, ih2⟩ := repV_both K n
    refine ⟨fun v d x h => ?_, fun us ds xs h => ?_⟩
    · unfold repV at h
      split at h
      · cases h; exact ⟨rfl, fun H => .non⟩
      · split at h
        · rename_i e; cases h; exact ⟨by rw [e]; exact (rfl : Value.bool _ = Value.bool _), fun H => .bl _⟩
        · cases h
      · split at h
        · rename_i t _ e; cases h; exact ⟨⟨_, by rw [e]⟩, fun H => .int _⟩
        · cases h
      · split at h
        · rename_i t _ e; cases h; exact ⟨⟨_, by rw [e]⟩, fun H => .str _⟩
        · cases h
      · rename_i a ds
        split at h
        · rename_i c dd its m sl e
          split at h
          · rename_i hc
            split at h
            · rename_i vs e2
              cases h
              obtain ⟨r1, r2⟩ := ih2 _ _ _ e2
              exact ⟨(rfl : Value.ref a = Value.ref a), fun H => .tup (.inr ⟨_, its, m, e, by rw [hc.1], rfl, hc.2, r1⟩) (r2 H)⟩
            · cases h
          · cases h
        · cases h
      · cases h
    · unfold repVs at h
      split at h
      · cases h; exact ⟨.nil, fun H => .nil⟩
      · split at h
        · rename_i x e1
          split at h
          · rename_i xs e2
            cases h
            obtain ⟨a1, a2⟩ := ih1 _ _ _ e1
            obtain ⟨b1, b2⟩ := ih2 _ _ _ e2
            exact ⟨.cons a1 b1, fun H => .cons (f := []) (a2 H) (b2 H)⟩
          · cases h
        · cases h
      · cases h
/-- a constant of the module: its name, what it holds -/
def cnOk (K : PySem.W.Frag) (c : Str × D) : Bool := match PySem.W.nsIn K mainGlobals c.1 with
  | some (some v) => (repV K 400 v c.2).isSome
  | _ => false
abbrev AlC : Type := He.AlD × Bool
def obsC (fa : List He.Fa) (fn : List He.DefD) (cs : List (Str × D)) (K : PySem.W.Frag) : AlC := (He.obsD fa fn K, cs.all (cnOk K))
def obsCG (n : Nat) (fa : List He.Fa) (fn : List He.DefD) (cs : List (Str × D)) (g : Addr → Option Obj) : AlC := obsC fa fn cs (He.frG g (He.asD g n))
def valC (fn : List He.DefD) : AlC := (He.valD fn, true)
def hookC (n : Nat) (fa : List He.Fa) (fn : List He.DefD) (cs : List (Str × D)) : PySem.W.Hook where
  α := AlC
  obs := fun s => obsCG n fa fn cs s.heap.get?
  val := fun _ => valC fn
  says := fun _ h => ∃ K : PySem.W.Frag, K.In h ∧ obsC fa fn cs K = valC fn
  of := fun _ _ e => ⟨_, He.frG_in, e⟩
  keeps := fun _ _ _ ⟨K, hK, c⟩ k => ⟨K, PySem.W.Frag.In.keeps hK k, c⟩
theorem obsCG_eq {n : Nat} {fa : List He.Fa} {fn : List He.DefD} {cs : List (Str × D)} {g : Addr → Option Obj} {s : Shared} (h : ∀ a, g a = s.heap.get? a) : obsCG n fa fn cs g = (hookC n fa fn cs).obs s := by
  have e : g = s.heap.get? := funext h
  rw [e]
  rfl
/-- the constants' facts for the walk -/
def TxC (cs : List (Str × D)) (K : PySem.W.Frag) (mg : Str → Option Value) : Prop := ∀ c ∈ cs, ∃ u v, mg c.1 = some u ∧ RelV v u ∧ ∀ H, Rep K H v c.2 []
theorem TxC.mk' {fa : List He.Fa} {fn : List He.DefD} {cs : List (Str × D)} {K : PySem.W.Frag} {mg : Str → Option Value} {h : Heap} (X : K.In h) (G : h.Ns mainGlobals mg) (c : obsC fa fn cs K = valC fn) : TxC cs K mg := fun a m => by
  have c2 : cs.all (cnOk K) = true := congrArg (fun z : AlC => z.2) c
  have := List.all_eq_true.mp c2 a m
  unfold cnOk at this
  split at this
  · rename_i v e
    cases e2 : repV K 400 v a.2 with
    | none => rw [e2] at this; cases this
    | some x =>
      obtain ⟨r1, r2⟩ := (repV_both K 400).1 _ _ _ e2
      exact ⟨v, x, PySem.W.mg_of X G e, r1, r2⟩
  · cases this
theorem TxC.fst {fa : List He.Fa} {fn : List He.DefD} {cs : List (Str × D)} {K : PySem.W.Frag} (c : obsC fa fn cs K = valC fn) : He.SaysD fa fn K := congrArg (fun z : AlC => z.1) c
theorem jp_gc {X : Cx} {cs : List (Str × D)} (T : TxC cs X.K X.mg) (i : Nat) {x : Str} {d : D} {pos : Pos} (hg : Gl X x) (hi : cs[i]? = some (x, d) := by rfl) (hd : (x == ("__debug__" : Str)) = false := by decide) : JP X (.Name x pos) (pC d) := by
  obtain ⟨u, v, hm, r, q⟩ := T (x, d) (List.mem_of_getElem? hi)
  exact jp_const (pe_glob hg hm r hd) q
end Bv

namespace Bv
open PySem PySem.Spec PyProof.Rows L2

/-! ### text times a number -/
def repS (z : Str) (n : Int) : Str := ⟨(List.replicate n.toNat z.cps).foldl (· ++ ·) #[]⟩
theorem rep_size (a : Array Nat) : ∀ (n : Nat) (b : Array Nat), ((List.replicate n a).foldl (· ++ ·) b).size = b.size + n * a.size
  | 0, b => by simp
  | n + 1, b => by
    rw [List.replicate_succ, List.foldl_cons, rep_size a n, Array.size_append, Nat.add_mul]
    omega
theorem repS_len {z : Str} {n : Int} : (repS z n).length = n.toNat * z.length := by
  show ((List.replicate n.toNat z.cps).foldl (· ++ ·) #[]).size = _
  rw [rep_size]
  show 0 + _ = _
  rw [Nat.zero_add]
  rfl
def rMulS : R2 := fun x y H Q => ∃ (z : Str) (n : Int), (x = .str z ∧ y = .int n) ∧ (2 ≤ n ∧ n < 1048576) ∧ (0 < z.length ∧ z.length < 1048576 ∧ z.length * n.toNat ≤ 16777216) ∧ Q (.str (repS z n)) H
theorem op_mulS {X : Cx} : OpR X (binaryOp .Mult) rMulS := by
  intro pins s σ H x y v u Q I rx ry h
  obtain ⟨z, n, ⟨ex, ey⟩, ⟨n1, n2⟩, ⟨z1, z2, z3⟩, q⟩ := h
  subst ex ey
  obtain ⟨t, rfl⟩ := rx; obtain ⟨t', rfl⟩ := ry
  have hc : (n == 1 || z.length == 0) = false := by
    rw [Bool.or_eq_false_iff]
    exact ⟨beq_eq_false_iff_ne.mpr (by omega), beq_eq_false_iff_ne.mpr (by omega)⟩
  refine P.mul_str ?_ (fun _ _ => ?_) (fun _ _ => ?_) ?_
  · rw [Bool.or_eq_false_iff]
    exact ⟨decide_eq_false (by omega), decide_eq_false (by omega)⟩
  · have e : ((z.length * n.toNat : Nat) : Int) = (z.length : Int) * n := by rw [Int.natCast_mul, Int.toNat_of_nonneg (by omega)]
    exact Int.not_lt.mpr (Int.le_ediv_of_mul_le (by omega) (by rw [← e]; omega))
  · exact decide_eq_false (by rw [sizeLine_eq]; omega)
  · rw [if_neg (by omega), if_neg (by rw [hc]; exact Bool.false_ne_true)]
    exact ⟨by show (repS z n).length ≤ sizeLine; rw [repS_len, sizeLine_eq, Nat.mul_comm]; exact z3, .str (repS z n), H, I.tok _, ⟨_, rfl⟩, q⟩
/-- * of ints, of a list and an int, of a text and an int -/
def mulX (d1 d2 : D) : Option D := match d1, d2 with
  | .str z, .int n => if (2 ≤ n ∧ n < 1048576) ∧ (0 < z.length ∧ z.length < 1048576 ∧ z.length * n.toNat ≤ 16777216) then some (.str (repS z n)) else none
  | d1, d2 => mulD d1 d2
def rMulX (K : PySem.W.Frag) : R2 := fun x y H Q => rMul3 K x y H Q ∨ rMulS x y H Q
theorem op_mulX {X : Cx} : OpR X (binaryOp .Mult) (rMulX X.K) := op_mul3.or op_mulS
theorem mulX_ok {K : PySem.W.Frag} : R2ok K (rMulX K) mulX := by
  intro x y H Q d1 d2 d f1 f2 r1 r2 e k
  unfold mulX at e
  split at e
  · split at e
    · rename_i hc
      cases e
      cases r1
      cases r2
      exact .inr ⟨_, _, ⟨rfl, rfl⟩, hc.1, hc.2, k _ H [] (Same.refl H) (.str _) List.nodup_nil (fun a m => nomatch m)⟩
    · cases e
  · exact .inl (mul_ok x y H Q _ _ d f1 f2 r1 r2 e k)
theorem wo_mulXI {i j : Int} {Q : D → Prop} (h : cMul i j = true) (q : Q (.int (i * j))) : WO (mulX (.int i) (.int j)) Q := wo_mul h q
theorem wo_mulXS {z : Str} {n : Int} {Q : D → Prop} (h1 : 2 ≤ n ∧ n < 1048576) (h2 : 0 < z.length ∧ z.length < 1048576 ∧ z.length * n.toNat ≤ 16777216) (q : Q (.str (repS z n))) : WO (mulX (.str z) (.int n)) Q := ⟨_, by unfold mulX; dsimp only; rw [if_pos ⟨h1, h2⟩], q⟩

/-! ### for over a text -/
theorem seq_str {K : PySem.W.Frag} {z : Str} {own : List Addr} {H : Hp} : SeqIt (Its z) K (z.cps.toList.map fun c => .str ⟨#[c]⟩) own H := by
  intro A H2 hA kp _ i
  refine ⟨fun d hd => ?_, fun hl => ?_⟩
  · rw [List.getElem?_map] at hd
    cases ec : z.cps.toList[i]? with
    | none => rw [ec] at hd; cases hd
    | some c =>
      rw [ec] at hd
      cases hd
      have ea : z.cps[i]? = some c := by rw [← Array.getElem?_toList]; exact ec
      refine ⟨?_, fun x H3 y => ?_⟩
      · show i < z.cps.size
        rcases Nat.lt_or_ge i z.cps.size with h | h
        · exact h
        · rw [Array.getElem?_eq_none h] at ea; cases ea
      · obtain ⟨rfl, c', e', rfl⟩ := y
        rw [ea] at e'
        cases e'
        exact ⟨Same.refl _, .str _⟩
  · rw [List.length_map, Array.length_toList] at hl
    exact hl
def sForA (i : Nat) (g : MG) (b : MS) : MS := fun ρ => match nth ρ i with
  | some (.str z) => forD g b (z.cps.toList.map fun c => .str ⟨#[c]⟩) ρ
  | _ => sForV i g b ρ
theorem js_forA {X : Cx} {io : List Nat} {sts : List Stmt} {pos : Pos} {i : Nat} {tg : Expr} {g : MG} {b : MS} {iter : Expr} (hp : PassesOwn (model X.prog X.w) X.A X.env X.xe) (hc : X.calm = true) (hi : PE X iter (tVar i)) (hg : JG X (i :: io) tg g) (hb : JSs X (i :: io) sts b)
    (hs : ∀ x, foldedSetIterable iter X.env x = pure x := by intro _; rfl) : JS X io (.For tg iter sts [] pos) (sForA i g b) := ⟨fun pins s σ H D' I h => by
  obtain ⟨ρ, o, ρ', fp, R, e, k⟩ := h
  by_cases hz : ∃ z, nth ρ i = some (.str z)
  · obtain ⟨z, en⟩ := hz
    unfold sForA at e
    rw [en] at e
    dsimp only at e
    have k' : SPost X.K (i :: io) D' σ H fp ρ' o := by
      cases o with
      | nx => exact fun σ' H' fp' R' c p => k σ' H' fp' R' c ⟨p.1, fun j m => p.2 j (List.mem_cons_of_mem _ m)⟩
      | bk => exact fun σ' H' fp' R' c p => k σ' H' fp' R' c ⟨p.1, fun j m => p.2 j (List.mem_cons_of_mem _ m)⟩
      | ct => exact fun σ' H' fp' R' c p => k σ' H' fp' R' c ⟨p.1, fun j m => p.2 j (List.mem_cons_of_mem _ m)⟩
      | rt d => exact fun v σ' H' fp' fr R' r n c p => k v σ' H' fp' fr R' r n c ⟨p.1, fun j m => p.2 j (List.mem_cons_of_mem _ m)⟩
    obtain ⟨v, f, hv, r, _⟩ := R.get (nth_some en)
    cases r
    have C := for_core (io := i :: io) R (show ([] ++ fp).Nodup from R.nodup) (seq_str (H := H)) e k'
    exact (ps_for hp hc (pi_str hi) hg hb hs).run pins s σ H D' I ⟨_, hv, z, rfl, C⟩
  · refine (js_forV hp hc hi hg hb hs).run pins s σ H D' I ⟨ρ, o, ρ', fp, R, ?_, k⟩
    unfold sForA at e
    split at e
    · rename_i z en
      exact absurd ⟨z, en⟩ hz
    · exact e⟩
theorem ws_forS {ρ : Env} {i : Nat} {z : Str} {g : MG} {b : MS} {Q : Out → Env → Prop} (e : nth ρ i = some (.str z)) (h : WL g b (z.cps.toList.map fun c => .str ⟨#[c]⟩) ρ Q) : WS (sForA i g b) ρ Q := by
  obtain ⟨o, ρ2, e3, q⟩ := h
  exact ⟨o, ρ2, by unfold sForA; rw [e]; exact e3, q⟩
theorem ws_forA {ρ : Env} {i : Nat} {d : D} {g : MG} {b : MS} {Q : Out → Env → Prop} (e : nth ρ i = some d) (hs : notStr d = true) (h : WS (sForV i g b) ρ Q) : WS (sForA i g b) ρ Q := by
  obtain ⟨o, ρ2, e3, q⟩ := h
  refine ⟨o, ρ2, ?_, q⟩
  unfold sForA
  rw [e]
  cases d <;> first | exact e3 | cases hs
end Bv


namespace Bv
open PySem PySem.Spec PyProof.Rows L2
/-! ### texts on the plain side -/
theorem wo_lenS {z : Str} {Q : D → Prop} (hz : z.length ≤ 16777216) (q : Q (.int z.length)) : WO (lenD [.str z]) Q := ⟨_, by unfold lenD; dsimp only; rw [if_pos hz], q⟩
theorem atS_at {z : Str} {n : Int} {c : Nat} (hz : z.length ≤ 16777216) (h0 : 0 ≤ n) (e : z.cps.toList[n.toNat]? = some c) : atS z n = some (.str ⟨#[c]⟩) := by
  unfold atS
  rw [if_pos hz]
  have hl : n.toNat < z.cps.toList.length := by
    rcases Nat.lt_or_ge n.toNat z.cps.toList.length with h | h
    · exact h
    · rw [List.getElem?_eq_none h] at e; cases e
  have : atI z.cps.toList n = some c := by
    unfold atI ixN
    rw [if_pos h0, if_pos (by omega)]
    exact e
  rw [this]
theorem wo_getS {z : Str} {n : Int} {c : Nat} {Q : D → Prop} (hz : z.length ≤ 16777216) (h0 : 0 ≤ n) (e : z.cps.toList[n.toNat]? = some c) (q : Q (.str ⟨#[c]⟩)) : WO (getD (.str z) (.int n)) Q := ⟨_, atS_at hz h0 e, q⟩
theorem wo_ixT2 {z : Str} {n : Int} {Q : D → Prop} (hz : z.length ≤ 16777216) (h0 : 0 ≤ n) (h1 : n < z.length) (q : ∀ c, z.cps.toList[n.toNat]? = some c → c ∈ z.cps.toList → Q (.str ⟨#[c]⟩)) : WO (ixD (.str z) (.int n)) Q := by
  have h2 : n.toNat < z.cps.toList.length := by
    rw [Array.length_toList]
    have : z.length = z.cps.size := rfl
    omega
  have e := List.getElem?_eq_getElem h2
  exact ⟨_, atS_at hz h0 e, q _ e (List.getElem_mem h2)⟩
theorem wo_addS {a b : Str} {Q : D → Prop} (h : a.length + b.length ≤ 16777216) (q : Q (.str (a ++ b))) : WO (addD (.str a) (.str b)) Q := ⟨_, by unfold addD; dsimp only; rw [if_pos h], q⟩
theorem wo_slS {z : Str} {l h : Option Int} {Q : D → Prop} (hz : z.length ≤ 16777216) (q : Q (.str (cutS z l h))) : WO (slD (.str z) l h) Q := ⟨_, by unfold slD; dsimp only; rw [if_pos hz], q⟩
theorem cutS_nn {z : Str} {a b : Nat} (h : a ≤ z.length) : (cutS z (some (a : Int)) (some (b : Int))).cps.toList = (z.cps.toList.drop a).take (b - a) := by
  unfold cutS
  rw [HT.sIx_nat, HT.sIx_nat, Nat.min_eq_left h]
  show (z.cps.toList.drop a).take (min b z.length - a) = _
  rcases Nat.le_total b z.length with hb | hb
  · rw [Nat.min_eq_left hb]
  · rw [Nat.min_eq_right hb]
    have hl : (z.cps.toList.drop a).length = z.length - a := by rw [List.length_drop]; rfl
    rw [List.take_of_length_le (by omega), List.take_of_length_le (by omega)]
theorem cutS_0n {z : Str} {b : Nat} : (cutS z none (some (b : Int))).cps.toList = z.cps.toList.take b := by
  unfold cutS
  rw [HT.sIx_nat, HT.sIx_none]
  show (z.cps.toList.drop 0).take (min b z.length - 0) = _
  rw [List.drop_zero, Nat.sub_zero]
  rcases Nat.le_total b z.length with hb | hb
  · rw [Nat.min_eq_left hb]
  · have hl : z.cps.toList.length = z.length := rfl
    rw [Nat.min_eq_right hb, List.take_of_length_le (by omega), List.take_of_length_le (by omega)]
theorem in_SS {c : Nat} {z : Str} {Q : Bool → Prop} (q : Q (decide (c ∈ z.cps.toList))) : IN (.str ⟨#[c]⟩) (.str z) Q := ⟨_, rfl, q⟩
theorem in_ST {z : Str} {ds : List D} {Q : Bool → Prop} (h : ds.all flatD = true) (q : Q (inF (.str z) ds)) : IN (.str z) (.tup ds) Q := ⟨_, by
  show (if flatD (.str z) = true ∧ ds.all flatD = true then some (inF (.str z) ds) else none) = _
  rw [if_pos ⟨rfl, h⟩], q⟩
theorem we_inF {ρ : Env} {p p1 : MP} {Q : D → Env → Prop} (h : WP p ρ fun d => WP p1 ρ fun e => IN d e fun b => Q (.bl b) ρ) : WE (eInAny false p p1) ρ Q := we_inAny h
theorem we_inT {ρ : Env} {p p1 : MP} {Q : D → Env → Prop} (h : WP p ρ fun d => WP p1 ρ fun e => IN d e fun b => Q (.bl (!b)) ρ) : WE (eInAny true p p1) ρ Q := we_inAny h
theorem we_slN {ρ : Env} {p : MP} {lo hi : MO} {Q : D → Env → Prop} (h : WP (pSl p lo hi) ρ fun d => ND d (Q d ρ)) : WE (eSl p lo hi) ρ Q := by
  obtain ⟨d, e, n, q⟩ := h
  exact we_sl ⟨d, e, .inl n, q⟩
theorem in_SS1 {z y : Str} {c : Nat} {Q : Bool → Prop} (e : z = ⟨#[c]⟩) (q : Q (decide (c ∈ y.cps.toList))) : IN (.str z) (.str y) Q := by rw [e]; exact in_SS q
theorem eqv_strs : ∀ ns : List Str, PyData.eqvAll (toPys (ns.map D.str)) (toPys (ns.map D.str)) = true
  | [] => rfl
  | n :: r => by
    show (n == n && PyData.eqvAll (toPys (r.map D.str)) (toPys (r.map D.str))) = true
    rw [eqv_strs r, beq_self_eq_true]; rfl
theorem nodic_strs : ∀ ns : List Str, noDics (ns.map D.str) = true
  | [] => rfl
  | n :: r => by
    show (noDic (.str n) && noDics (r.map D.str)) = true
    rw [nodic_strs r]; rfl
theorem lay_strs : ∀ ns : List Str, (∀ n ∈ ns, n.cps.all (· < 0x110000) = true) → PyData.canLayAll0 (toPys (ns.map D.str)) = true
  | [], _ => rfl
  | n :: r, h => by
    show (PyData.canLay0 (.str n) && PyData.canLayAll0 (toPys (r.map D.str))) = true
    rw [lay_strs r fun m k => h m (List.mem_cons_of_mem _ k), Bool.and_true]
    show n.cps.all (· < 0x110000) = true
    exact h n List.mem_cons_self
theorem dep_strs : ∀ ns : List Str, PyData.depthAll (toPys (ns.map D.str)) = 0
  | [] => rfl
  | n :: r => by
    show max (PyData.depth (.str n)) (PyData.depthAll (toPys (r.map D.str))) = 0
    rw [dep_strs r]; rfl
theorem eqB_strs {ns : List Str} (h : ∀ n ∈ ns, n.cps.all (· < 0x110000) = true) : eqB (.lst (ns.map D.str)) (.lst (ns.map D.str)) = some true := by
  have sh : SeqAt.shaped (toPy (.lst (ns.map D.str))) = true := by
    show (PyData.canLay0 (.list (toPys (ns.map D.str))) && decide (PyData.depth (.list (toPys (ns.map D.str))) ≤ 64)) = true
    rw [Bool.and_eq_true]
    refine ⟨lay_strs ns h, decide_eq_true ?_⟩
    show PyData.depthAll (toPys (ns.map D.str)) + 1 ≤ 64
    rw [dep_strs]
    decide
  show (if noDic (.lst (ns.map D.str)) = true ∧ noDic (.lst (ns.map D.str)) = true ∧ SeqAt.shaped (toPy (.lst (ns.map D.str))) = true ∧ SeqAt.shaped (toPy (.lst (ns.map D.str))) = true then some (PyData.eqv (toPy (.lst (ns.map D.str))) (toPy (.lst (ns.map D.str)))) else none) = _
  rw [if_pos ⟨nodic_strs ns, nodic_strs ns, sh, sh⟩]
  show some (PyData.eqvAll (toPys (ns.map D.str)) (toPys (ns.map D.str))) = _
  rw [eqv_strs]
end Bv

namespace Bv
open PySem PySem.Spec PyProof.Rows L2

/-! ### more methods of lists -/
theorem reps_erase {K : PySem.W.Frag} {H : Hp} : ∀ {ds : List D} {xs : List V} {fp : List Addr} {k : Nat} {d : D}, Reps K H xs ds fp → ds[k]? = some d →
    ∃ v f g h, xs[k]? = some v ∧ fp = f ++ g ++ h ∧ Rep K H v d g ∧ Reps K H (xs.eraseIdx k) (ds.eraseIdx k) (f ++ h)
  | [], _, _, k, d, r, e => by simp at e
  | d0 :: ds, _, _, 0, d, r, e => by
    cases r with
    | @cons v vs _ _ f0 fp0 r rs =>
      cases e
      exact ⟨v, [], f0, fp0, rfl, rfl, r, rs⟩
  | d0 :: ds, _, _, k + 1, d, r, e => by
    cases r with
    | @cons v vs _ _ f0 fp0 r rs =>
      obtain ⟨v', f, g, h, e1, e2, q1, q2⟩ := reps_erase (k := k) rs e
      refine ⟨v', f0 ++ f, g, h, e1, by rw [e2]; simp, q1, ?_⟩
      show Reps K H (v :: vs.eraseIdx k) (d0 :: ds.eraseIdx k) _
      rw [List.append_assoc]
      exact .cons r q2
theorem drop_erase {α : Type} : ∀ (xs : List α), xs.dropLast = xs.eraseIdx (xs.length - 1)
  | [] => rfl
  | [x] => rfl
  | x :: y :: r => by
    have := drop_erase (y :: r)
    show x :: (y :: r).dropLast = x :: (y :: r).eraseIdx ((y :: r).length - 1)
    rw [this]
theorem popped {K : PySem.W.Frag} {H : Hp} {a : Addr} {xs : List V} {ds : List D} {fp : List Addr} {k : Nat} {d : D} {Q : VK} (hl : H a = some (.lst xs)) (rx : Reps K H xs ds fp) (n : (a :: fp).Nodup) (hk : ds[k]? = some d)
    (q : ∀ v xs' fr fq, Rep K (upd H a (.lst xs')) v d fr → Reps K (upd H a (.lst xs')) xs' (ds.eraseIdx k) fq → (a :: (fr ++ fq)).Nodup → (∀ b ∈ fr ++ fq, b ∈ fp) → Q v (upd H a (.lst xs'))) :
    ∃ v, xs[k]? = some v ∧ Q v (upd H a (.lst (xs.eraseIdx k))) := by
  have n0 := List.nodup_cons.mp n
  have rx' := reps_upd (xs' := xs.eraseIdx k) hl rx n0.1
  obtain ⟨v, f, g, h, e1, e2, q1, q2⟩ := reps_erase rx' hk
  refine ⟨v, e1, q v _ g (f ++ h) q1 q2 ?_ fun b m => ?_⟩
  · have p : (g ++ (f ++ h)).Perm fp := by
      rw [e2, List.append_assoc]
      exact (List.perm_append_comm_assoc g f h)
    exact List.nodup_cons.mpr ⟨fun m => n0.1 (p.mem_iff.mp m), p.nodup_iff.mpr n0.2⟩
  · rw [e2]
    simp only [List.mem_append] at m ⊢
    rcases m with m | m | m
    · exact .inl (.inr m)
    · exact .inl (.inl m)
    · exact .inr m
def lPop : List D → List D → Option (D × List D) := fun ds es => match es with
  | [] => (match ds[ds.length - 1]? with
    | some d => some (d, ds.eraseIdx (ds.length - 1))
    | none => none)
  | [.int i] => if -(2 ^ 63) ≤ i ∧ i < 2 ^ 63 then (match seqIndex? i ds.length with
    | some k => (match ds[k]? with
      | some d => some (d, ds.eraseIdx k)
      | none => none)
    | none => none) else none
  | _ => none
def rPop2 : V → List V → Hp → VK → Prop := fun x vs H Q => rPop x vs H Q ∨ rPopAt x vs H Q
theorem mt_pop2 {X : Cx} : MtR X "list.pop" rPop2 := fun pins s σ H x xs v us Q I rx rxs h => h.elim (mt_pop pins s σ H x xs v us Q I rx rxs) (mt_popAt pins s σ H x xs v us Q I rx rxs)
theorem pop_ok {K : PySem.W.Frag} : LMut K rPop2 lPop := by
  intro a xs ys ds es fp fe H Q d ds' hl rx ry n e k
  unfold lPop at e
  split at e
  · cases ry
    split at e
    · rename_i d0 ed
      cases e
      rw [List.append_nil] at n k
      obtain ⟨v, e1, q⟩ := popped hl rx n ed k
      refine .inl ⟨a, xs, v, rfl, rfl, hl, ?_, ?_⟩
      · rw [rx.length]; exact e1
      · rw [drop_erase, rx.length]; exact q
    · cases e
  · rename_i i
    split at e
    · rename_i hb
      split at e
      · rename_i j ej
        split at e
        · rename_i d0 ed
          cases e
          cases ry with
          | @cons y ys _ _ f fn r1 rn =>
            cases r1
            cases rn
            rw [List.append_nil] at n k
            obtain ⟨v, e1, q⟩ := popped hl rx (show (a :: fp).Nodup by simpa using n) ed (by simpa using k)
            exact .inr ⟨a, xs, i, j, v, rfl, rfl, hl, hb.1, hb.2, by rw [rx.length]; exact ej, e1, q⟩
        · cases e
      · cases e
    · cases e
  · cases e
/-! sorted, of ints -/
theorem sorted_uniq : ∀ {a b : List Int}, a.Perm b → a.Pairwise (· ≤ ·) → b.Pairwise (· ≤ ·) → a = b
  | [], b, p, _, _ => (List.nil_perm.mp p).symm ▸ rfl
  | x :: a, [], p, _, _ => absurd p.length_eq (by simp)
  | x :: a, y :: b, p, ha, hb => by
    have ha' := List.pairwise_cons.mp ha
    have hb' := List.pairwise_cons.mp hb
    have hx : x ∈ y :: b := p.mem_iff.mp List.mem_cons_self
    have hy : y ∈ x :: a := p.mem_iff.mpr List.mem_cons_self
    have e : x = y := by
      rcases List.mem_cons.mp hx with e | m1
      · exact e
      · rcases List.mem_cons.mp hy with e | m2
        · exact e.symm
        · have h1 := hb'.1 x m1
          have h2 := ha'.1 y m2
          omega
    subst e
    rw [sorted_uniq (List.Perm.cons_inv p) ha'.2 hb'.2]
def insI (x : Int) : List Int → List Int
  | [] => [x]
  | y :: r => if x ≤ y then x :: y :: r else y :: insI x r
def sortI : List Int → List Int
  | [] => []
  | x :: r => insI x (sortI r)
theorem insI_perm (x : Int) : ∀ l : List Int, (insI x l).Perm (x :: l)
  | [] => .refl _
  | y :: r => by
    unfold insI
    split
    · exact .refl _
    · exact ((insI_perm x r).cons y).trans (.swap x y r)
theorem sortI_perm : ∀ l : List Int, (sortI l).Perm l
  | [] => .refl _
  | x :: r => (insI_perm x (sortI r)).trans ((sortI_perm r).cons x)
theorem insI_sorted (x : Int) : ∀ l : List Int, l.Pairwise (· ≤ ·) → (insI x l).Pairwise (· ≤ ·)
  | [], _ => List.pairwise_singleton _ _
  | y :: r, h => by
    have h' := List.pairwise_cons.mp h
    unfold insI
    split
    · rename_i hxy
      exact List.pairwise_cons.mpr ⟨fun z m => by
        rcases List.mem_cons.mp m with rfl | m
        · exact hxy
        · exact Int.le_trans hxy (h'.1 z m), h⟩
    · refine List.pairwise_cons.mpr ⟨fun z m => ?_, insI_sorted x r h'.2⟩
      rcases List.mem_cons.mp ((insI_perm x r).mem_iff.mp m) with rfl | m
      · omega
      · exact h'.1 z m
theorem sortI_sorted : ∀ l : List Int, (sortI l).Pairwise (· ≤ ·)
  | [] => .nil
  | x :: r => insI_sorted x _ (sortI_sorted r)
def sortL : List D → Option D := onInts fun ns => some (.lst ((sortI ns).map D.int))
theorem reps_intsD {K : PySem.W.Frag} {H : Hp} : ∀ ns : List Int, Reps K H (ns.map V.int) (ns.map D.int) []
  | [] => .nil
  | n :: r => .cons (f := []) (.int n) (reps_intsD r)
theorem sortL_ok {K : PySem.W.Frag} : RLok K (rSortedI K) sortL := by
  intro xs H Q ds d f r e k
  obtain ⟨a, ns, rfl, s, e⟩ := onInts_rep r e
  cases e
  refine ⟨a, ns, rfl, s, fun ns' p hp hs hpn => ?_⟩
  have e2 : ns' = sortI ns := sorted_uniq (hp.trans (sortI_perm ns).symm) hs (sortI_sorted ns)
  subst e2
  exact k _ _ [p] (same_upd hpn) (.lst upd_same (reps_intsD _)) (by simp) (fun a m => by rw [List.mem_singleton.mp m]; exact hpn)
end Bv

namespace Bv
open PySem PySem.Spec PyProof.Rows L2

/-! ### a def called by the law's caller alone: its Around is known, the guards too -/
def FnG (P : Program) (w : World) (K : PySem.W.Frag) (mg : Str → Option Value) (base : Heap) (f : Addr) (fd : FuncData) (ps : List Str) (sp : Sp) : Prop :=
  ∀ (s : Shared) (H : Hp) (args : Args) (us : List Value) (vs : List V) (Q : VK) (E : XK), Env0 P w K mg base callerA [] s H → BindsTo s fd args (ps.zip us) → Vals vs us → sp vs H Q E →
    codeAny (model P w) callerA (.call (.ref f) args) (CR CX0 [] P w H s Q E) s
theorem room_caller {k : Nat} (h1 : callerA.depth + 3 * k + 5 < recursionLimit) (h2 : callerA.units + 16 * k + 200 < cLine) : Room k callerA := ⟨rfl, h1, h2⟩
section
variable {P : Program} {w : World} {K : PySem.W.Frag} {mg : Str → Option Value} {base : Heap}
theorem fnG_of {x qual : Str} {st : Stmt} {f : Addr} {fd : FuncData} {N ps : List Str} {k : Nat} {sp : Sp} (F : Fun K x qual st f fd) (S : FnScope N ps (defScope st)) (hr : Room (k + 1) callerA) (len : ∀ vs H Q E, sp vs H Q E → vs.length = ps.length)
    (hbody : ∀ (cdv : Value) (s : Shared) (H : Hp) (vs : List V) (Q : VK) (E : XK), Room k (callerA.deeper (envOfC qual (defScope st) s.heap.objs.size f cdv)) → sp vs H Q E →
      ∃ t, PSs (cxOf CX0 P w K mg base N qual (defScope st) f cdv callerA [] s H E) (defBody st) t ∧ t { nx := fun _ H' => Q .non H', rt := Q } (L2.start N vs) H) : FnG P w K mg base f fd ps sp := by
  obtain ⟨⟨oc, od, kV, doc, pm, an, cdv, ct, osl, e, lk, hcd⟩, _⟩ := F
  subst e
  intro s H args us vs Q E e0 bd rv hs
  have KX : K.In s.heap := e0.mod.kin.keeps fun b o h => (e0.bs b o h).1
  have noLim : s.heap.NoLimit := e0.mod.nolimit.keeps fun b o h => (e0.bs b o h).1
  have kinds : ∀ y ∈ ps.zip us, (defScope st).names.lookup y.1 = some .local ∨ ((defScope st).names.lookup y.1 = some .cell ∧ ((cellsFrom (s.heap.objs.size + 1) (defScope st).names []).lookup y.1).isSome = true) := by
    rintro ⟨nm, v⟩ hy
    exact (S.par nm (List.of_mem_zip hy).1).elim .inl fun h => .inr ⟨h, PySem.W.cellsFrom_some _ _ _ (.inl h)⟩
  refine codeAny_call_function hr.depth (KX _ _ lk) rfl S.co S.gen rfl (PySem.W.codeRec_of KX hcd) (bd _ _ _ _ (wpAny_newFunctionEnv_cells S.kind kinds fun env he s1 ic => ?_))
  subst he
  refine ⟨noLim.keeps ic.toInCall.keep, codeAny_func ?_⟩
  obtain ⟨t, ht, hq⟩ := hbody cdv s H vs Q E (hr.deeper _) hs
  have J0 : L2.Inv (cxOf CX0 P w K mg base N qual (defScope st) f cdv callerA [] s H E) [] (L2.start N vs) H s1 := inv_start S hr.hd e0 (len _ _ _ _ hs) rv ic
  refine wpAny_mono (ht.run [] s1 (L2.start N vs) H _ J0 hq) (fun fl s' h => ?_) fun _ _ h => h
  cases fl with
  | ret u => obtain ⟨v, σ', H', J, r, q⟩ := h; exact ⟨v, H', J.os, J.bare, J.base, J.hok, r, q⟩
  | next => obtain ⟨σ', H', J, q⟩ := h; exact ⟨V.non, H', J.os, J.bare, J.base, J.hok, (rfl : Value.none = Value.none), q⟩
  | brk => obtain ⟨_, _, _, q⟩ := h; exact q.elim
  | cont => obtain ⟨_, _, _, q⟩ := h; exact q.elim
/-- the law's def, its arguments kept -/
theorem fn_okG {x qual : Str} {st : Stmt} {f : Addr} {fd : FuncData} {N ps : List Str} {k : Nat} {b : MS} (F : Fun K x qual st f fd) (S : FnScope N ps (defScope st)) (hr : Room (k + 1) callerA)
    (hb : ∀ (cdv : Value) (s : Shared) (H : Hp) (E : XK), Room k (callerA.deeper (envOfC qual (defScope st) s.heap.objs.size f cdv)) →
      JSs (cxOf CX0 P w K mg base N qual (defScope st) f cdv callerA [] s H E).nox (List.range ps.length) (defBody st) b) : FnG P w K mg base f fd ps (spM K ps.length (mkFn N.length b)) := by
  refine fnG_of F S hr (fun vs H Q E h => ?_) (fun cdv s H vs Q E hr h => ⟨_, PSs.nox (hb cdv s H E hr), ?_⟩)
  · obtain ⟨_, _, _, _, _, _, hl, _⟩ := h
    exact hl
  · obtain ⟨ds, r, ds', fp, rs, n, hl, e, k⟩ := h
    have hld := rs.length
    obtain ⟨fs, sl, ef⟩ := slots_start (N.length - vs.length) rs
    have st0 : Rel K H (L2.start N vs) (ds.map some ++ List.replicate (N.length - ds.length) none) fp := ⟨fs, by rw [← hld]; exact sl, ef.symm, n⟩
    have pinned : ∀ (σ' : L2.St), Pin (List.range ps.length) (L2.start N vs) σ' → ∀ (i : Nat) v, vs[i]? = some v → σ'[i]? = some (some v) := fun σ' p i v e => by
      have hi : i < vs.length := (List.getElem?_eq_some_iff.mp e).1
      rw [p.2 i (List.mem_range.mpr (by omega))]
      unfold L2.start
      rw [List.getElem?_append_left (by simpa using hi), List.getElem?_map, e]
      rfl
    unfold mkFn at e
    split at e
    · rename_i d ρ1 e1
      split at e
      · rename_i ds2 e2
        cases e
        refine ⟨_, .rt r, ρ1, fp, st0, e1, fun v σ' H' fp' fr R rr nn c p => ?_⟩
        obtain ⟨fs', s', ef', n'⟩ := R
        obtain ⟨fq, q, sb⟩ := slots_end s' (pinned σ' p) (by rw [hld]; exact e2)
        have sb2 : fq.Sublist fp' := by rw [ef']; exact sb
        have sb3 : (fr ++ fq).Sublist (fr ++ fp') := (List.Sublist.refl fr).append sb2
        exact k v H' fr fq rr q (nn.sublist sb3) (c.sub fun a m => sb3.subset m)
      · cases e
    · rename_i ρ1 e1
      split at e
      · rename_i ds2 e2
        cases e
        refine ⟨_, .nx, ρ1, fp, st0, e1, fun σ' H' fp' R c p => ?_⟩
        obtain ⟨fs', s', ef', n'⟩ := R
        obtain ⟨fq, q, sb⟩ := slots_end s' (pinned σ' p) (by rw [hld]; exact e2)
        have sb2 : fq.Sublist fp' := by rw [ef']; exact sb
        exact k .non H' [] fq .non q (n'.sublist sb2) (c.sub fun a m => sb2.subset m)
      · cases e
    · cases e
end
/-- the call of the law, its def known at the caller -/
theorem law_callG {P : Program} {w : World} {K : PySem.W.Frag} {mg mb : Str → Option Value} {fa a : Addr} {fd : FuncData} {x : Str} {sp : Sp} {z : Shared} {vs : List Value} {ns : List Int}
    (hK : K.In z.heap) (nsG : z.heap.Ns mainGlobals mg) (nsB : z.heap.Ns builtinsNs mb) (bt : ∀ y : Str, y ≠ "__name__" → mb y = bootBuiltins y) (lim : z.heap.NoLimit) (gn : z.gens = #[])
    (at_ : z.heap.get? a = some { cls := .type "list", data := .seq vs.toArray }) (hi : IntsAre vs ns) (hl : ns.length ≤ sizeLine)
    (F : ∀ base : Heap, K.In base → base.Ns mainGlobals mg → FnG P w K mg base fa fd [x] sp) (bd : ∀ (s : Shared) (u : Value), BindsTo s fd ⟨[u], []⟩ [(x, u)])
    (hsp : ∀ H : Hp, Only H → SqL K H a (ns.map V.int) → sp [.ref a] H (fun v _ => v = .bl true) fun _ _ _ => False) :
    codeAny (model P w) callerA (.call (.ref fa) ⟨[.ref a], []⟩) (fun r s' => r = .ok (.ret (.bool true)) ∧ OldK z.heap s'.heap ∧ s'.os = z.os ∧ AllBare s'.gens) z := by
  have rv := vals_ints hi
  have lv := hi.length
  have main : ∀ H : Hp, Only H → SqL K H a (ns.map V.int) → HOk P w H z.heap → (∀ b, H b ≠ none → b = a) → (H a ≠ none → K.lookup a = none) →
      codeAny (model P w) callerA (.call (.ref fa) ⟨[.ref a], []⟩) (fun r s' => r = .ok (.ret (.bool true)) ∧ OldK z.heap s'.heap ∧ s'.os = z.os ∧ AllBare s'.gens) z := by
    intro H hO hS hk one kno
    have free : ∀ {b : Addr}, b ≠ a → H b = none := fun {b} ne => by
      cases q : H b with
      | none => rfl
      | some u => exact absurd (one b (by rw [q]; exact fun h => by cases h)) ne
    have keep : ∀ {b : Addr} {o : Obj}, z.heap.get? b = some o → H b = none → (hidT z.heap H).get? b = some o := fun e n => hidT_get e n
    have dictNe : ∀ {b : Addr} {o : Obj} {es : Array DictEntry} {ep : Nat}, z.heap.get? b = some o → o.data = .dict es ep → H b = none := fun {b o es ep} e d => free fun eb => by
      subst eb
      rw [at_] at e; cases e; cases (show Data.seq vs.toArray _ = Data.dict es ep from d)
    have nsT : ∀ {b : Addr} {m : Str → Option Value}, z.heap.Ns b m → (hidT z.heap H).Ns b m := fun {b m} h => by
      obtain ⟨o, es, ep, e, d, r⟩ := h
      exact ⟨o, es, ep, keep e (dictNe e d), d, r⟩
    have kT : K.In (hidT z.heap H) := fun b o e => keep (hK b o e) (by
      cases q : H b with
      | none => rfl
      | some u =>
        have eb : b = a := one b (by rw [q]; exact fun h => by cases h)
        subst eb
        rw [kno (by rw [q]; exact fun h => by cases h)] at e
        cases e)
    have modT : Mod K mg (hidT z.heap H) := ⟨kT, nsT nsG, ⟨mb, nsT nsB, bt⟩, by obtain ⟨mc, h1, h2⟩ := lim; exact ⟨mc, nsT h1, h2⟩⟩
    have env : Env0 P w K mg (hidT z.heap H) callerA [] z H := ⟨rfl, modT, fun b o e => of_hidT e, Nat.le_of_eq (hidT_size _ _), trivial, fun b hb => (by cases hb), hk, .of_eq gn⟩
    refine codeAny_mono (F _ kT (nsT nsG) z H ⟨[.ref a], []⟩ [.ref a] [.ref a] _ _ env (bd z (.ref a)) (.cons rfl .nil) (hsp H hO hS)) fun r s' h => ?_
    match r, h with
    | .ok (.ret u), h =>
      obtain ⟨v, H', os, bare, un, hk', ru, q⟩ := h
      subst q
      obtain rfl : u = Value.bool true := ru
      refine ⟨rfl, OldK.of_keep fun b o e => ?_, os, bare⟩
      cases q : H b with
      | none => exact un.keep b o e q (fun m => by cases m) (by simp)
      | some u =>
        rcases hO b with n0 | ⟨ob, xs, n0⟩
        · rw [q] at n0; cases n0
        · have t1 := (hk b _ n0).1
          have t2 := (hk' b _ (un.frzs b ob _ n0)).1
          rw [e] at t1; cases t1
          exact t2
    | .ok .next, h => exact h.elim
    | .ok .brk, h => exact h.elim
    | .ok .cont, h => exact h.elim
    | .error e, h => exact h.elim
  cases hk : K.lookup a with
  | some o =>
    have e := hK a o hk
    rw [at_] at e
    cases e
    exact main (fun _ => none) (fun _ => .inl rfl) (.inr ⟨_, vs.toArray, _, hk, rfl, rfl, rfl, by rw [List.size_toArray, lv]; exact hl, by simpa using rv⟩) (fun b u q => by cases (show (none : Option HO) = some u from q)) (fun b q => (q rfl).elim) fun q => (q rfl).elim
  | none =>
    have self : (fun b => if b = a then some (HO.frz { cls := .type "list", data := .seq vs.toArray } (.lst (ns.map V.int))) else none) a = some (HO.frz { cls := .type "list", data := .seq vs.toArray } (.lst (ns.map V.int))) := if_pos rfl
    refine main (fun b => if b = a then some (.frz { cls := .type "list", data := .seq vs.toArray } (.lst (ns.map V.int))) else none) (fun b => ?_) (.inl (.inr ⟨_, self⟩)) (fun b u q => ?_) (fun b q => ?_) fun _ => hk
    · by_cases eb : b = a
      · exact .inr ⟨_, _, by rw [eb]; exact self⟩
      · exact .inl (if_neg eb)
    · by_cases eb : b = a
      · subst eb
        cases self.symm.trans q
        exact ⟨at_, by rw [List.length_map]; exact hl, vs, _, rv, at_⟩
      · cases (if_neg eb).symm.trans q
    · exact Classical.byContradiction fun eb => q (if_neg eb)
/-- a law whose def is known at the caller -/
theorem walk_ofG {l : PySem.W.OpenLaw} {n : Nat} {q : Program} {loose : List Str} {XP : (Str → Option Value) → Heap → Prop} {YP : World → Heap → Prop} {d : DefRec} {x : Str} (hn : l.most = some n) (hn2 : n ≤ sizeLine) (hdf : d.params.defaults = [])
    (F : ∀ (w : World) (mg : Str → Option Value) (fa : Addr) (h : Heap), YP w h → h.Ns mainGlobals mg → mg d.name = some (.ref fa) → ∃ (K : PySem.W.Frag) (fd : FuncData) (sp : Sp), K.In h ∧ (∀ (s : Shared) (u : Value), BindsTo s fd ⟨[u], []⟩ [(x, u)]) ∧
      (∀ (H : Hp) (a : Addr) (ns : List Int), ns.length ≤ n → Only H → SqL K H a (ns.map V.int) → sp [.ref a] H (fun v _ => v = .bl true) fun _ _ _ => False) ∧ ∀ base : Heap, K.In base → base.Ns mainGlobals mg → FnG l.prog w K mg base fa fd [x] sp) :
    PySem.W.WalkO q loose XP YP l.row.toRowW d [] (fun f vs => PySem.call f vs) := by
  refine Att.attach_call hn hdf fun w s₀ s₁ mg mb fa o pm cd doc a vs ns G Y ho hd hcd hmg hobj hints hlen hg => ?_
  obtain ⟨K, fd, sp, c1, c2, c3, c4⟩ := F w mg fa _ Y G.T.g hmg
  exact law_callG c1 G.T.g G.T.b G.T.builtins G.T.nolimit hg hobj hints (Nat.le_trans hlen hn2) c4 c2 (fun H hO hS => c3 H a ns hlen hO hS)
end Bv

namespace Bv
open PySem PySem.Spec PyProof.Rows L2

/-! ### repr of data, where the guards are known -/
def rReprD (K : PySem.W.Frag) : List V → Hp → VK → Prop := fun xs H Q => ∃ x p, xs = [x] ∧ Dp K H x p ∧ (p.showable = true ∧ p.hasDict = false) ∧ (p.depth ≤ 60 ∧ p.shown.length ≤ sizeLine) ∧ Q (.str p.shown) H
theorem call_reprD {X : Cx} (hg : X.A.guards = some []) (hu : X.A.units + 64 < cLine) : CallR X (.builtin "repr") (rReprD X.K) := by
  intro pins s σ H xs us Q I r h
  obtain ⟨x, p, rfl, hp, ⟨p1, p2⟩, ⟨p3, p4⟩, q⟩ := h
  cases r with
  | @cons _ u _ _ ru rr =>
    cases rr
    have fin : ∀ t k, EP X pins σ Q (.str p.shown t) { s with toks := k } := fun t k => ⟨.str p.shown, H, I.tok _, ⟨_, rfl⟩, q⟩
    have deep : ∀ a, u = .ref a → wpAny (model X.prog X.w) X.A (call (.builtin "repr") [.ref a]) (EP X pins σ Q) X.xe s := fun a e => by
      obtain ⟨as, rd⟩ := Dp.reads I p x u hp ru
      rw [e] at rd
      exact repr_of_reads' rd p1 (PyData.noDict_hsm p2) hg (by omega) (fun _ _ z => z) (fun h' t k kp => ⟨.str p.shown, H, I.kept kp, ⟨_, rfl⟩, q⟩) p4
    cases p with
    | none =>
      cases hp
      cases (show u = Value.none from ru)
      exact PySem.P.repr_of_none (fin _ _)
    | bool b =>
      cases hp
      cases (show u = Value.bool b from ru)
      exact PySem.P.repr_of_bool (fin _ _)
    | int i =>
      cases hp
      obtain ⟨t, rfl⟩ := ru
      exact PySem.P.repr_of_int (of_decide_eq_true p1) (fin _ _)
    | str z =>
      cases hp
      obtain ⟨t, rfl⟩ := ru
      exact PySem.P.repr_of_str (fin _ _) p4
    | list xs =>
      cases hp with
      | @lst a _ _ _ _ =>
        cases (show u = Value.ref a from ru)
        exact deep a rfl
    | tuple xs =>
      cases hp with
      | @tup a _ _ _ _ =>
        cases (show u = Value.ref a from ru)
        exact deep a rfl
    | dict kvs => cases p2
def reprD : List D → Option D
  | [d] => if noDic d = true ∧ ((toPy d).showable = true ∧ (toPy d).hasDict = false) ∧ ((toPy d).depth ≤ 60 ∧ (toPy d).shown.length ≤ 16777216) then some (.str (toPy d).shown) else none
  | _ => none
theorem reprD_ok {K : PySem.W.Frag} : RLok K (rReprD K) reprD := by
  intro xs H Q ds d f r e k
  unfold reprD at e
  split at e
  · rename_i d0
    split at e
    · rename_i hc
      cases e
      obtain ⟨v, rfl, rv⟩ := reps1 r
      exact ⟨v, toPy d0, rfl, Rep.dp d0 v f rv hc.1, hc.2.1, ⟨hc.2.2.1, szl hc.2.2.2⟩, k _ H [] (Same.refl H) (.str _) List.nodup_nil (fun a m => nomatch m)⟩
    · cases e
  · cases e
end Bv

namespace HTr
open PySem PyProof.Rows PySem.SeqAt PySem.MeetsSeq PySem.MeetsSeq2 PySem.MeetsSeq3
section
variable {prog : Program} {w : World} {A : Around} {E : Value → Shared → Prop} {s : Shared}
theorem adjust_rev (n : Nat) : Builtin.Slice.sliceAdjust none none (-1) (n : Int) = ((n : Int) - 1, -1) := rfl
theorem places_rev (n : Nat) : Builtin.Slice.slicePlaces ((n : Int) - 1) (-1) (-1) = n := by
  unfold Builtin.Slice.slicePlaces
  rw [if_neg (by decide)]
  by_cases h : 0 < n
  · rw [if_pos (by omega)]
    have : (n : Int) - 1 - -1 - 1 = n - 1 := by omega
    rw [this, show (-(-1 : Int)) = 1 by decide, Int.ediv_one]
    omega
  · rw [if_neg (by omega)]
    have : n = 0 := by omega
    rw [this]; rfl
theorem applied_rev {sl : Addr} {vk : Value} {n : Nat} {Q : Int × Int × Nat → Shared → Prop} (hs : s.heap.IsSliceOf sl .none .none vk) (pk : IsPart vk (some (-1))) (h : Q ((n : Int) - 1, -1, n) s) :
    wpAny (model prog w) A (Builtin.Slice.sliceApplied (.ref sl) (pure (n : Int))) Q E s := by
  obtain ⟨os, h1, h2, h3⟩ := id hs
  unfold Builtin.Slice.sliceApplied Builtin.Slice.sliceFields
  refine wpAny_bind (wpAny_bind (wpAny_field h1 h3 (x := .none) rfl (wpAny_bind (wpAny_field h1 h3 (x := .none) rfl (wpAny_bind (wpAny_field h1 h3 (x := vk) rfl (wpAny_pure ?_)))))))
  refine wpAny_bind (HT.slicePart_ pk ?_)
  show wpAny _ _ (if ((-1 : Int) == 0) = true then _ else _) _ _ s
  rw [if_neg (by decide)]
  refine wpAny_bind (HT.slicePart_ .none (wpAny_bind (HT.slicePart_ .none (wpAny_bind (wpAny_pure ?_)))))
  show wpAny _ _ (match Builtin.Slice.sliceAdjust none none (-1) (n : Int) with | (lo, hi) => pure (lo, (-1 : Int), Builtin.Slice.slicePlaces lo hi (-1))) _ _ s
  rw [adjust_rev]
  show wpAny _ _ (pure ((n : Int) - 1, (-1 : Int), Builtin.Slice.slicePlaces ((n : Int) - 1) (-1) (-1))) _ _ s
  rw [places_rev]
  exact wpAny_pure h
theorem range_get : ∀ l : List Value, ((List.range l.length).filterMap fun m => l[m]?) = l
  | [] => rfl
  | x :: r => by
    rw [List.length_cons, List.range_succ_eq_map, List.filterMap_cons, List.filterMap_map]
    show x :: (List.range r.length).filterMap (fun m => r[m]?) = x :: r
    rw [range_get r]
theorem rev_pick (l : List Value) : ((List.range l.length).filterMap fun (m : Nat) => l.toArray[((l.length : Int) - 1 + (m : Int) * (-1)).toNat]?) = l.reverse := by
  have e : ((List.range l.length).filterMap fun (m : Nat) => l.toArray[((l.length : Int) - 1 + (m : Int) * (-1)).toNat]?) = ((List.range l.length).map fun m => l.length - 1 - m).filterMap fun m => l[m]? := by
    rw [List.filterMap_map]
    congr 1
    funext m
    show l.toArray[_]? = l[_]?
    rw [List.getElem?_toArray]
    congr 1
    show ((l.length : Int) - 1 + (m : Int) * (-1)).toNat = l.length - 1 - m
    omega
  have e2 : ((List.range l.length).map fun m => l.length - 1 - m) = (List.range l.length).reverse := by
    refine List.ext_getElem (by simp) fun i h1 h2 => ?_
    simp
  rw [e, e2, List.filterMap_reverse, range_get]
theorem getItem_tuple_rev {t sl : Addr} {its : List Value} {vk : Value} {Q : Value → Shared → Prop} (ht : IsTup s.heap t its.toArray) (hs : s.heap.IsSliceOf sl .none .none vk) (pk : IsPart vk (some (-1)))
    (h : Q (.ref s.heap.objs.size) { s with heap := s.heap.push { cls := .type "tuple", data := .seq its.reverse.toArray } }) (hz : its.length ≤ sizeLine) : wpAny (model prog w) A (getItem (.ref t) (.ref sl)) Q E s := by
  have ok : sizeOk (.seq its.reverse.toArray) := by
    show its.reverse.toArray.size ≤ sizeLine
    rw [List.size_toArray, List.length_reverse]; exact hz
  obtain ⟨os, h1, h2, h3⟩ := id hs
  have ty : s.TypeIs (.ref sl) "slice" := ⟨os, h1, h2⟩
  unfold getItem; try with_reducible refine wpAny_holding ?_
  first | refine wpAny_bind (wpAny_pure ?_) | skip
  refine wpAny_bind (wpAny_sequenceKey ht.typeIs (by decide) (wpAny_bind (wpAny_callSpecial?_slot (name := Str.ofString "__getitem__") ht.typeIs PyProof.Rows.slot_tuple_getitem (wpAny_call_entry PyProof.Rows.slot_tuple_getitem ht.typeIs entry_tuple_getitem ?_ (args_tuple_getitem _ _)))))
  show wpAny _ _ (Builtin.Tuple.tupleItemsOf (.ref t) >>= _) _ _ s
  refine wpAny_bind (tupleItemsOf_ ht (wpAny_bind (wpAny_typeOf ty ?_)))
  rw [if_pos (by decide)]
  refine wpAny_bind (applied_rev hs pk ?_)
  have no : ¬ ((((its.toArray.size : Int) - 1) == 0 && (-1 : Int) == 1 && its.toArray.size == its.toArray.size) = true) := by
    rw [show ((-1 : Int) == 1) = false by decide, Bool.and_false, Bool.false_and]
    exact Bool.false_ne_true
  show wpAny _ _ (if (((its.toArray.size : Int) - 1) == 0 && (-1 : Int) == 1 && its.toArray.size == its.toArray.size) = true then _ else _) _ _ s
  rw [if_neg no]
  have pick := rev_pick its
  rw [List.size_toArray, pick]
  first
    | exact wpAny_bind (m := Builtin.Tuple.tupleExact _) (wpAny_newObj_type (wpAny_pure ⟨_, rfl, wpAny_pure h⟩) ok)
    | exact wpAny_bind (m := Builtin.Tuple.tupleExact _) (wpAny_newObj_type (wpAny_bind (wpAny_pure (wpAny_pure ⟨_, rfl, wpAny_pure h⟩))) ok)
    | exact wpAny_bind (wpAny_bind (m := Builtin.Tuple.tupleExact _) (wpAny_newObj_type (wpAny_pure (wpAny_pure ⟨_, rfl, wpAny_pure h⟩)) ok))
    | exact wpAny_bind (wpAny_bind (m := Builtin.Tuple.tupleExact _) (wpAny_newObj_type (wpAny_pure ⟨_, rfl, wpAny_pure h⟩) ok))
end
end HTr
namespace Bv
open PySem PySem.Spec PyProof.Rows L2
/-- t[::-1] of a tuple -/
def tRevT (K : PySem.W.Frag) (te : TE) : TE := fun σ H Q => te σ H fun x H1 => ∃ a xs, x = .ref a ∧ SqT K H1 a xs ∧ ∀ p, H1 p = none → Q (.ref p) (upd H1 p (.tup xs.reverse))
theorem pe_revT {X : Cx} {e : Expr} {te : TE} {k : Nat} {p1 p2 p3 pos : Pos} (he : PE X e te) : PE X (.Subscript e (.Slice none none (some (.UnaryOp .USub (.Constant (.int 1) k p1) p2)) p3) pos) (tRevT X.K te) := by
  refine ⟨fun pins s σ H Q I h => Subscript_ (thn (he.run pins s σ H _ I h) fun v s1 ⟨x, H1, I1, r1, a, xs, ex, hx, q⟩ => ?_)⟩
  subst ex
  cases r1
  have st : PO X (some (.UnaryOp .USub (.Constant (.int 1) k p1) p2)) (tPart (tUn (rU fun i => .int (-i)) (tC (.int 1)))) := po_some (pe_un un_neg pe_int)
  refine wpAny_Slice (thn (po_none.run pins s1 σ H1 (fun o H2 => o = none ∧ H2 = H1) I1 ⟨rfl, rfl⟩) fun vl s2 ⟨l, H2, I2, pl, el, e2⟩ => ?_)
  subst el e2; cases pl
  refine thn (po_none.run pins s2 σ H2 (fun o H3 => o = none ∧ H3 = H2) I2 ⟨rfl, rfl⟩) fun vu s3 ⟨u, H3, I3, pu, eu, e3⟩ => ?_
  subst eu e3; cases pu
  refine thn (st.run pins s3 σ H3 (fun o H4 => o = some (-1) ∧ H4 = H3) I3 ⟨1, rfl, -1, rfl, rfl, rfl⟩) fun vs s4 ⟨o, H4, I4, ps, eo, e4⟩ => ?_
  subst eo e4
  have J : L2.Inv X pins σ H4 { s4 with heap := s4.heap.push { cls := .type "slice", data := .fields #[.none, .none, vs] } } := I4.kept (t' := s4.toks) fun b ob z => Heap.get?_push_of_some _ z
  obtain ⟨its, r, ht, hz⟩ := J.tuple hx
  have hl := r.length
  show wpAny (model X.prog X.w) X.A (subscriptTail e (.Slice none none (some (.UnaryOp .USub (.Constant (.int 1) k p1) p2)) p3) (.ref a) (.ref s4.heap.objs.size)) (EP X pins σ Q) X.xe { s4 with heap := s4.heap.push { cls := .type "slice", data := .fields #[.none, .none, vs] } }
  refine tail_any (ops := [.ref a, .ref s4.heap.objs.size]) ht.typeIs PyProof.Rows.slot_tuple_getitem.lookup (HTr.getItem_tuple_rev ht (Heap.IsSliceOf.new _ .none .none vs) ps ?_ (by omega)) (by with_unfolding_all rfl)
  refine ⟨.ref _, _, J.laid (t' := s4.toks) (o := .tup xs.reverse) (fun b ob z => Heap.get?_push_of_some _ z) (Nat.le_refl _) ?_, rfl, q _ (J.hok.fresh (Nat.le_refl _))⟩
  exact ⟨by rw [List.length_reverse]; exact hz, _, r.reverse, IsTup.new _ _⟩
/-- x[::-1] of tuples and lists -/
def revD : D → Option D
  | .tup ds => if noLists ds = true then some (.tup ds.reverse) else none
  | .lst ds => if noLists ds = true then some (.lst ds.reverse) else none
  | .frz ds => some (.lst ds.reverse)
  | _ => none
theorem reps_rev {K : PySem.W.Frag} {H : Hp} : ∀ {ds : List D} {xs : List V}, Reps K H xs ds [] → Reps K H xs.reverse ds.reverse []
  | [], _, r => by cases r; exact .nil
  | d :: ds, _, r => by
    obtain ⟨v, ws, rfl, r1, rs⟩ := reps_nil_cons r
    rw [List.reverse_cons, List.reverse_cons]
    exact (reps_rev rs).append (Reps.single r1)
def ePRev (p : MP) : ME := fun ρ => match p ρ with
  | some d => (match revD d with
    | some d' => some (d', ρ)
    | none => none)
  | none => none
theorem rev_t {K : PySem.W.Frag} {p : MP} {σ : L2.St} {H : Hp} {Q : VK} (h : tM K (ePRev p) σ H Q) : tRevT K (tP K p) σ H Q ∨ tRevL K (tP K p) σ H Q := by
  obtain ⟨ρ, d, ρ', fp, R, e, k⟩ := h
  unfold ePRev at e
  split at e
  · rename_i d0 e0
    split at e
    · rename_i d1 e1
      cases e
      unfold revD at e1
      split at e1
      · split at e1
        · rename_i hn
          cases e1
          refine .inl ⟨ρ, _, fp, R, e0, fun v H1 fr q1 r1 => ?_⟩
          cases r1 with
          | @tup a0 xs _ _ s rs =>
            have z := Reps.nol _ _ _ rs hn
            subst z
            refine ⟨_, _, rfl, s, fun a ha => ?_⟩
            have sm := same_upd (o := .tup xs.reverse) ha
            exact k _ _ fp [] (R.same (q1.trans sm)) (.tup (.inl (.inl upd_same)) (reps_rev (rs.same sm))) R.nodup (Chg.same (q1.trans sm))
        · cases e1
      · split at e1
        · rename_i hn
          cases e1
          refine .inr ⟨ρ, _, fp, R, e0, fun v H1 fr q1 r1 => ?_⟩
          cases r1 with
          | @lst a0 xs _ _ s rs =>
            have z := Reps.nol _ _ _ rs hn
            subst z
            refine ⟨_, _, rfl, .inl (.inl s), fun a ha => ?_⟩
            have sm := same_upd (o := .lst xs.reverse) ha
            have S := q1.trans sm
            have fre : ∀ b ∈ [a], H b = none := fun b m => by rw [List.mem_singleton.mp m]; exact q1.free ha
            exact k _ _ fp [a] (R.same S) (.lst upd_same (reps_rev (rs.same sm))) (nd_new R (by simp) fre) (chg_new S fre fun b m => m)
        · cases e1
      · cases e1
        refine .inr ⟨ρ, _, fp, R, e0, fun v H1 fr q1 r1 => ?_⟩
        cases r1 with
        | @frz a0 xs _ s rs =>
          refine ⟨_, _, rfl, s.sq, fun a ha => ?_⟩
          have sm := same_upd (o := .lst xs.reverse) ha
          have S := q1.trans sm
          have fre : ∀ b ∈ [a], H b = none := fun b m => by rw [List.mem_singleton.mp m]; exact q1.free ha
          exact k _ _ fp [a] (R.same S) (.lst upd_same (reps_rev (rs.same sm))) (nd_new R (by simp) fre) (chg_new S fre fun b m => m)
      · cases e1
    · cases e
  · cases e
theorem je_rev {X : Cx} {e : Expr} {p : MP} {k : Nat} {p1 p2 p3 pos : Pos} (he : JP X e p) : JE X (.Subscript e (.Slice none none (some (.UnaryOp .USub (.Constant (.int 1) k p1) p2)) p3) pos) (ePRev p) :=
  ⟨fun pins s σ H Q I h => (rev_t h).elim (fun h => (pe_revT he).run pins s σ H Q I h) fun h => (pe_revL he).run pins s σ H Q I h⟩
theorem we_rev {ρ : Env} {p : MP} {Q : D → Env → Prop} (h : WP p ρ fun d => WO (revD d) fun d' => Q d' ρ) : WE (ePRev p) ρ Q := by
  obtain ⟨d, e, d', e', q⟩ := h
  exact ⟨d', ρ, by unfold ePRev; rw [e]; dsimp only; rw [e'], q⟩
theorem wo_revT {ds : List D} {Q : D → Prop} (h : noLists ds = true) (q : Q (.tup ds.reverse)) : WO (revD (.tup ds)) Q := ⟨_, by unfold revD; dsimp only; rw [if_pos h], q⟩
theorem wo_revLs {ds : List D} {Q : D → Prop} (h : noLists ds = true) (q : Q (.lst ds.reverse)) : WO (revD (.lst ds)) Q := ⟨_, by unfold revD; dsimp only; rw [if_pos h], q⟩
end Bv


namespace Bv
open PySem PySem.Spec PyProof.Rows L2
/-! ### lists' methods on the plain side -/
def LM (o : Option (D × List D)) (Q : D → List D → Prop) : Prop := ∃ d ds, o = some (d, ds) ∧ Q d ds
theorem we_lmut {ρ : Env} {i : Nat} {op : List D → List D → Option (D × List D)} {ms : List ME} {ds0 : List D} {Q : D → Env → Prop} (e0 : nth ρ i = some (.lst ds0))
    (h : WEs ms ρ fun es ρ1 => LN (nth ρ1 i) fun ds => LM (op ds es) fun d ds' => NE (ρ1.set i (some (.lst ds'))) (Q d)) : WE (eLMut op i ms) ρ Q := by
  obtain ⟨es, ρ1, e, ds, e1, d, ds', e2, q⟩ := h
  exact ⟨d, _, by unfold eLMut; rw [e0]; dsimp only; rw [e]; dsimp only; rw [e1]; dsimp only; rw [e2], q⟩
theorem lm_insert {ds : List D} {i : Int} {d : D} {Q : D → List D → Prop} (h0 : ds.length < 16777216) (h1 : 0 ≤ i) (h2 : i < 2 ^ 63) (q : Q .non (ds.take i.toNat ++ [d] ++ ds.drop i.toNat)) : LM (lInsert ds [.int i, d]) Q := ⟨_, _, by
  unfold lInsert; dsimp only; rw [if_pos ⟨h0, h1, h2⟩], q⟩
theorem lm_pop {ds : List D} {i : Int} {d : D} {Q : D → List D → Prop} (h0 : 0 ≤ i) (h1 : i < 2 ^ 63) (e : ds[i.toNat]? = some d) (q : Q d (ds.eraseIdx i.toNat)) : LM (lPop ds [.int i]) Q := ⟨_, _, by
  have hl : i.toNat < ds.length := by
    rcases Nat.lt_or_ge i.toNat ds.length with h | h
    · exact h
    · rw [List.getElem?_eq_none h] at e; cases e
  have es : seqIndex? i ds.length = some i.toNat := by
    unfold seqIndex?
    rw [if_neg (show ¬ i < 0 by omega)]
    dsimp only
    rw [if_pos]
    rw [Bool.and_eq_true]
    exact ⟨decide_eq_true h0, decide_eq_true (by omega)⟩
  unfold lPop
  dsimp only
  rw [if_pos ⟨by omega, h1⟩, es]
  dsimp only
  rw [e], q⟩
end Bv

namespace Bv
open PySem PySem.Spec PyProof.Rows L2
variable {K : PySem.W.Frag}
/-! ### more operators of ints -/
def shrD : D → D → Option D := intD (fun _ j => decide (0 ≤ j)) fun i j => i / 2 ^ j.toNat
theorem shr_ok : R2ok K (rI (fun _ j => 0 ≤ j) fun i j => .int (i / 2 ^ j.toNat)) shrD := int_ok fun i j h => of_decide_eq_true h
def orD : D → D → Option D := intD (fun _ _ => true) fun i j => Builtin.bitOr i j
theorem or_ok : R2ok K (rI0 fun i j => .int (Builtin.bitOr i j)) orD := int0_ok
theorem wo_shr {i j : Int} {Q : D → Prop} (h : 0 ≤ j) (q : Q (.int (i / 2 ^ j.toNat))) : WO (shrD (.int i) (.int j)) Q := ⟨_, by unfold shrD intD; dsimp only; rw [if_pos (decide_eq_true h)], q⟩
theorem wo_orI {i j : Int} {Q : D → Prop} (q : Q (.int (Builtin.bitOr i j))) : WO (orD (.int i) (.int j)) Q := ⟨_, rfl, q⟩
end Bv

namespace Bv
open PySem PySem.Spec PyProof.Rows L2
variable {K : PySem.W.Frag} {H : Hp}
/-! ### a thing within a thing: what is changed there, and what stays -/
/-- H' has what H had but at f -/
def Off (H H' : Hp) (f : List Addr) : Prop := ∀ b o, H b = some o → b ∉ f → H' b = some o
theorem Reps.lens : ∀ {ds : List D} {vs : List V} {fp : List Addr} {j : Nat} {d : D}, Reps K H vs ds fp → fp.Nodup → ds[j]? = some d →
    ∃ v f, vs[j]? = some v ∧ Rep K H v d f ∧ f.Sublist fp ∧ ∀ (H' : Hp) (d' : D) (f' : List Addr), Off H H' f → Rep K H' v d' f' → f'.Nodup → (∀ x ∈ f', x ∈ f ∨ x ∉ fp) →
      ∃ fp', Reps K H' vs (ds.set j d') fp' ∧ fp'.Nodup ∧ ∀ x ∈ fp', (x ∈ fp ∧ x ∉ f) ∨ x ∈ f'
  | [], _, _, j, d, h, n, e => by simp at e
  | d :: ds, _, _, 0, d', h, n, e => by
    cases h with
    | @cons v vs _ _ f fp r rs =>
      have e' : d = d' := by simpa using e
      subst e'
      have nn := List.nodup_append.mp n
      refine ⟨v, f, rfl, r, List.sublist_append_left _ _, fun H' d2 f' o r' n' s => ?_⟩
      have rs' : Reps K H' vs ds fp := Reps.keep (A := f) (Rep.mb _ _ _ r) o _ _ _ rs fun a m z => nn.2.2 a z a m rfl
      refine ⟨f' ++ fp, .cons r' rs', List.nodup_append.mpr ⟨n', nn.2.1, fun x hx y hy e => ?_⟩, fun x m => ?_⟩
      · subst e
        rcases s x hx with m | m
        · exact nn.2.2 x m x hy rfl
        · exact m (List.mem_append_right _ hy)
      · rcases List.mem_append.mp m with m | m
        · exact .inr m
        · exact .inl ⟨List.mem_append_right _ m, fun z => nn.2.2 x z x m rfl⟩
  | d :: ds, _, _, j + 1, d', h, n, e => by
    cases h with
    | @cons v vs _ _ f0 fp r rs =>
      have nn := List.nodup_append.mp n
      obtain ⟨w, f, e1, rw1, sb, k⟩ := Reps.lens (j := j) (d := d') rs nn.2.1 (by simpa using e)
      refine ⟨w, f, by simpa using e1, rw1, sb.trans (List.sublist_append_right _ _), fun H' d2 f' o r' n' s => ?_⟩
      have r0 : Rep K H' v d f0 := Rep.keep (A := f) (Rep.mb _ _ _ rw1) o _ _ _ r fun a m z => nn.2.2 a m a (sb.subset z) rfl
      obtain ⟨fq, rq, nq, sq⟩ := k H' d2 f' o r' n' fun x m => (s x m).imp id fun z y => z (List.mem_append_right _ y)
      refine ⟨f0 ++ fq, .cons r0 rq, List.nodup_append.mpr ⟨nn.1, nq, fun x hx y hy e => ?_⟩, fun x m => ?_⟩
      · subst e
        rcases sq x hy with ⟨m, _⟩ | m
        · exact nn.2.2 x hx x m rfl
        · rcases s x m with z | z
          · exact nn.2.2 x hx x (sb.subset z) rfl
          · exact z (List.mem_append_left _ hx)
      · rcases List.mem_append.mp m with m | m
        · exact .inl ⟨List.mem_append_left _ m, fun z => nn.2.2 x m x (sb.subset z) rfl⟩
        · rcases sq x m with ⟨a, b⟩ | z
          · exact .inl ⟨List.mem_append_right _ a, b⟩
          · exact .inr z
theorem RepK.lens : ∀ {ds : List (Key × D)} {vs : List (Key × V)} {fp : List Addr} {j : Nat} {k : Key} {d : D}, RepK K H vs ds fp → fp.Nodup → ds[j]? = some (k, d) →
    ∃ v f, vs[j]? = some (k, v) ∧ Rep K H v d f ∧ f.Sublist fp ∧ ∀ (H' : Hp) (d' : D) (f' : List Addr), Off H H' f → Rep K H' v d' f' → f'.Nodup → (∀ x ∈ f', x ∈ f ∨ x ∉ fp) →
      ∃ fp', RepK K H' vs (ds.set j (k, d')) fp' ∧ fp'.Nodup ∧ ∀ x ∈ fp', (x ∈ fp ∧ x ∉ f) ∨ x ∈ f'
  | [], _, _, j, k, d, h, n, e => by simp at e
  | (k, d) :: ds, _, _, 0, k', d', h, n, e => by
    cases h with
    | @cons _ v vs _ _ f fp r rs =>
      have e' : k = k' ∧ d = d' := by simpa using e
      obtain ⟨rfl, rfl⟩ := e'
      have nn := List.nodup_append.mp n
      refine ⟨v, f, rfl, r, List.sublist_append_left _ _, fun H' d2 f' o r' n' s => ?_⟩
      have rs' : RepK K H' vs ds fp := RepK.keep (A := f) (Rep.mb _ _ _ r) o _ _ _ rs fun a m z => nn.2.2 a z a m rfl
      refine ⟨f' ++ fp, .cons r' rs', List.nodup_append.mpr ⟨n', nn.2.1, fun x hx y hy e => ?_⟩, fun x m => ?_⟩
      · subst e
        rcases s x hx with m | m
        · exact nn.2.2 x m x hy rfl
        · exact m (List.mem_append_right _ hy)
      · rcases List.mem_append.mp m with m | m
        · exact .inr m
        · exact .inl ⟨List.mem_append_right _ m, fun z => nn.2.2 x z x m rfl⟩
  | (k0, d) :: ds, _, _, j + 1, k', d', h, n, e => by
    cases h with
    | @cons _ v vs _ _ f0 fp r rs =>
      have nn := List.nodup_append.mp n
      obtain ⟨w, f, e1, rw1, sb, k⟩ := RepK.lens (j := j) (k := k') (d := d') rs nn.2.1 (by simpa using e)
      refine ⟨w, f, by simpa using e1, rw1, sb.trans (List.sublist_append_right _ _), fun H' d2 f' o r' n' s => ?_⟩
      have r0 : Rep K H' v d f0 := Rep.keep (A := f) (Rep.mb _ _ _ rw1) o _ _ _ r fun a m z => nn.2.2 a m a (sb.subset z) rfl
      obtain ⟨fq, rq, nq, sq⟩ := k H' d2 f' o r' n' fun x m => (s x m).imp id fun z y => z (List.mem_append_right _ y)
      refine ⟨f0 ++ fq, .cons r0 rq, List.nodup_append.mpr ⟨nn.1, nq, fun x hx y hy e => ?_⟩, fun x m => ?_⟩
      · subst e
        rcases sq x hy with ⟨m, _⟩ | m
        · exact nn.2.2 x hx x m rfl
        · rcases s x m with z | z
          · exact nn.2.2 x hx x (sb.subset z) rfl
          · exact z (List.mem_append_left _ hx)
      · rcases List.mem_append.mp m with m | m
        · exact .inl ⟨List.mem_append_left _ m, fun z => nn.2.2 x m x (sb.subset z) rfl⟩
        · rcases sq x m with ⟨a, b⟩ | z
          · exact .inl ⟨List.mem_append_right _ a, b⟩
          · exact .inr z
end Bv

namespace Bv
open PySem PySem.Spec PyProof.Rows L2
/-! ### x[k].m(e ..): a method that changes a list within a list -/
def eLMutI (op : List D → List D → Option (D × List D)) (i : Nat) (pk : MP) (ms : List ME) : ME := fun ρ => match nth ρ i with
  | some (.lst cs) => (match pk ρ with
    | some (.int n) => (match ixN cs.length n with
      | some j => (match cs[j]? with
        | some (.lst ds) => (match evs ms (ρ.set i none) with
          | some (es, ρ1) => (match op ds es with
            | some (d, ds') => some (d, ρ1.set i (some (.lst (cs.set j (.lst ds')))))
            | none => none)
          | none => none)
        | _ => none)
      | none => none)
    | _ => none)
  | _ => none
section
variable {X : Cx} {ms : List ME} {pk : MP}
theorem eLMutI_t {i : Nat} {r : V → List V → Hp → VK → Prop} {op : List D → List D → Option (D × List D)} (ok : LMut X.K r op) (σ : L2.St) (H : Hp) (Q : VK) (h : tM X.K (eLMutI op i pk ms) σ H Q) : tBM X.K "list" r (tOp (rIx X.K) (tVar i) (tP X.K pk)) (tMs X.K ms) σ H Q := by
  obtain ⟨ρ, d, ρ', fp, R, e, k⟩ := h
  unfold eLMutI at e
  split at e
  · rename_i cs e0
    split at e
    · rename_i n e1
      split at e
      · rename_i j e2
        split at e
        · rename_i ds e3
          split at e
          · rename_i es ρ1 e4
            split at e
            · rename_i d' ds' e5
              cases e
              obtain ⟨ov, f0, fq, hv, r0, R1, n1, s1⟩ := R.take (nth_some e0)
              cases r0 with
              | @lst a xs _ f hl rs =>
              have n10 := List.nodup_append.mp n1
              have n11 := List.nodup_cons.mp n10.1
              refine ⟨_, hv, ρ, _, fp, R, e1, fun y H1 fr1 sm1 r1 => ?_⟩
              cases r1
              have rs1 := rs.same sm1
              obtain ⟨v1, g1, ev1, rv1, sb1, _⟩ := rs1.lens n11.2 e3
              have eat : atI xs n = some v1 := by
                unfold L2.atI
                rw [rs.length, e2]
                exact ev1
              cases rv1 with
              | @lst a2 ys1 _ g1' hl1 rs11 =>
              refine .inl ⟨_, _, _, _, rfl, rfl, .inl (.inl (sm1 _ _ hl)), eat, .inl ⟨rfl, _, .inl (.inl hl1)⟩, ρ.set i none, es, ρ1, fq, R1.same sm1, e4, fun zs H2 fp2 fe R2 re n2 c2 => ?_⟩
              -- what was held aside, at H2
              have R1' := R1.same sm1
              have hl2 : H2 a = some (.lst xs) := c2.keep _ _ (sm1 _ _ hl) fun m => n10.2.2 a List.mem_cons_self a m rfl
              have rs2 : Reps X.K H2 xs cs f := reps_aside rs1 c2 R1'.mb (List.nodup_append.mpr ⟨n11.2, n10.2.1, fun x hx y hy e => n10.2.2 x (List.mem_cons_of_mem _ hx) y hy e⟩)
              obtain ⟨v2, g2, ev2, rv2, sb2, lens⟩ := rs2.lens n11.2 e3
              rw [ev1] at ev2
              cases ev2
              cases rv2 with
              | @lst _ ys _ g2' hl3 rs3 =>
              have nn := List.nodup_append.mp n2
              have ng2 : (a2 :: g2').Nodup := sb2.nodup n11.2
              have f0old : ∀ x ∈ a :: f, H1 x ≠ none := fun x m z => by
                have := Rep.mb _ _ _ (Rep.lst hl rs) x m
                have z' := sm1.free z
                rw [z'] at this
                exact this
              have apart : ∀ x ∈ fe ++ fp2, x ∉ a :: f := fun x m z => by
                rcases c2.new x m with q | q
                · exact n10.2.2 x z x q rfl
                · exact f0old x z q
              have a2f : a2 ∈ f := sb2.subset List.mem_cons_self
              have ana2 : a ≠ a2 := fun e => n11.1 (e ▸ a2f)
              refine ok a2 ys zs ds es g2' fe H2 Q d ds' hl3 rs3 re ?_ e5 fun v xs' fr gq rv rg ng sg => ?_
              · exact List.nodup_append.mpr ⟨ng2, nn.1, fun x hx y hy e => apart y (List.mem_append_left _ hy) (List.mem_cons_of_mem _ (sb2.subset (e ▸ hx)))⟩
              · have n6 := List.nodup_cons.mp ng
                have n7 := List.nodup_append.mp n6.2
                have hA : ∀ b ∈ [a2], Mb (H2 b) := fun b m => by rw [List.mem_singleton.mp m, hl3]; trivial
                have kp : ∀ b o, H2 b = some o → b ∉ [a2] → (upd H2 a2 (.lst xs')) b = some o := fun b o e h => by
                  rw [upd_ne (fun z => h (by rw [z]; exact List.mem_singleton.mpr rfl))]; exact e
                have a2p : a2 ∉ fp2 := fun m => apart a2 (List.mem_append_right _ m) (List.mem_cons_of_mem _ a2f)
                have R3 : Rel X.K (upd H2 a2 (.lst xs')) σ ρ1 fp2 := R2.keep hA kp fun b m z => a2p (by rw [← List.mem_singleton.mp z]; exact m)
                obtain ⟨fz, rz, nz, sz⟩ := lens (upd H2 a2 (.lst xs')) (.lst ds') (a2 :: gq) (fun b o e h => kp b o e fun z => h (by rw [List.mem_singleton.mp z]; exact List.mem_cons_self)) (.lst upd_same rg)
                  (List.nodup_cons.mpr ⟨fun m => n6.1 (List.mem_append_right _ m), n7.2.1⟩) (fun x hx => by
                    rcases List.mem_cons.mp hx with e | hx
                    · exact .inl (e ▸ List.mem_cons_self)
                    · rcases List.mem_append.mp (sg x (List.mem_append_right _ hx)) with m | m
                      · exact .inl (List.mem_cons_of_mem _ m)
                      · exact .inr fun z => apart x (List.mem_append_left _ m) (List.mem_cons_of_mem _ z))
                have inz : ∀ x ∈ fz, x ∈ f ∨ x ∈ fe := fun x hx => by
                  rcases sz x hx with ⟨m, _⟩ | m
                  · exact .inl m
                  · rcases List.mem_cons.mp m with e | m
                    · exact .inl (e ▸ a2f)
                    · exact (List.mem_append.mp (sg x (List.mem_append_right _ m))).imp (fun m => sb2.subset (List.mem_cons_of_mem _ m)) id
                have frz : ∀ x ∈ fr, x ∉ a :: fz := fun x hx hz => by
                  rcases List.mem_cons.mp hz with e | hz
                  · subst e
                    rcases List.mem_append.mp (sg x (List.mem_append_left _ hx)) with m | m
                    · exact n11.1 (sb2.subset (List.mem_cons_of_mem _ m))
                    · exact apart x (List.mem_append_left _ m) List.mem_cons_self
                  · rcases sz x hz with ⟨m, q⟩ | m
                    · rcases List.mem_append.mp (sg x (List.mem_append_left _ hx)) with z | z
                      · exact q (List.mem_cons_of_mem _ z)
                      · exact apart x (List.mem_append_left _ z) (List.mem_cons_of_mem _ m)
                    · rcases List.mem_cons.mp m with e | m
                      · exact n6.1 (e ▸ List.mem_append_left _ hx)
                      · exact n7.2.2 x hx x m rfl
                have afz : a ∉ fz := fun m => by
                  rcases inz a m with z | z
                  · exact n11.1 z
                  · exact apart a (List.mem_append_left _ z) List.mem_cons_self
                have rnew : Rep X.K (upd H2 a2 (.lst xs')) (.ref a) (.lst (cs.set j (.lst ds'))) (a :: fz) := .lst (by rw [upd_ne ana2]; exact hl2) rz
                have nnew : ((a :: fz) ++ fp2).Nodup := by
                  refine List.nodup_append.mpr ⟨List.nodup_cons.mpr ⟨afz, nz⟩, nn.2.1, fun x hx y hy e => ?_⟩
                  subst e
                  rcases List.mem_cons.mp hx with e | hx
                  · exact apart x (List.mem_append_right _ hy) (e ▸ List.mem_cons_self)
                  · rcases inz x hx with z | z
                    · exact apart x (List.mem_append_right _ hy) (List.mem_cons_of_mem _ z)
                    · exact nn.2.2 x z x hy rfl
                obtain ⟨fp3, R5, s5⟩ := R3.put' hv rnew nnew
                refine k v _ fp3 fr R5 rv ?_ ⟨fun b o e h => ?_, fun b m => ?_⟩
                · refine List.nodup_append.mpr ⟨n7.1, R5.nodup, fun x hx y hy e => ?_⟩
                  subst e
                  rcases List.mem_append.mp (s5 x hy) with m | m
                  · exact frz x hx m
                  · rcases List.mem_append.mp (sg x (List.mem_append_left _ hx)) with z | z
                    · exact apart x (List.mem_append_right _ m) (List.mem_cons_of_mem _ (sb2.subset (List.mem_cons_of_mem _ z)))
                    · exact nn.2.2 x z x m rfl
                · refine kp b o (c2.keep b o (sm1 _ _ e) fun m => h ((s1 b).mpr (List.mem_append_right _ m))) fun z => ?_
                  rw [List.mem_singleton.mp z] at h
                  exact h ((s1 a2).mpr (List.mem_append_left _ (List.mem_cons_of_mem _ a2f)))
                · have inF : ∀ x ∈ f, x ∈ fp := fun x m => (s1 x).mpr (List.mem_append_left _ (List.mem_cons_of_mem _ m))
                  have old : ∀ x, x ∈ fe ++ fp2 → x ∈ fp ∨ H x = none := fun x m => by
                    rcases c2.new x m with z | z
                    · exact .inl ((s1 x).mpr (List.mem_append_right _ z))
                    · exact .inr (sm1.free z)
                  rcases List.mem_append.mp m with m | m
                  · rcases List.mem_append.mp (sg b (List.mem_append_left _ m)) with z | z
                    · exact .inl (inF b (sb2.subset (List.mem_cons_of_mem _ z)))
                    · exact old b (List.mem_append_left _ z)
                  · rcases List.mem_append.mp (s5 b m) with z | z
                    · rcases List.mem_cons.mp z with e | z
                      · exact .inl ((s1 b).mpr (List.mem_append_left _ (e ▸ List.mem_cons_self)))
                      · rcases inz b z with z | z
                        · exact .inl (inF b z)
                        · exact old b (List.mem_append_left _ z)
                    · exact old b (List.mem_append_right _ z)
            · cases e
          · cases e
        · cases e
      · cases e
    · cases e
  · cases e
theorem je_lmutI {o b e : Expr} {es : List Expr} {i : Nat} {name : Str} {id : String} {r : V → List V → Hp → VK → Prop} {op : List D → List D → Option (D × List D)} {pos apos cpos : Pos} (slot : Slot "list" name id) (hty : typeOf (.builtin id) = pure (.type "method_descriptor")) (hm : MtR X id r) (ok : LMut X.K r op)
    (ho : PE X o (tVar i)) (hb : JP X b pk) (ha : JMs X (e :: es) ms) (hsx : PlainIx b := by exact fun _ _ => rfl)
    (hbase : attributeBase (.Subscript o b pos) name X.env (eval (.Subscript o b pos) X.env) = eval (.Subscript o b pos) X.env := by rfl)
    (hfew : ((backTo cpos (starEach (e :: es) X.env)).all (fun x => !x.1) && (backToKw cpos (keywordEach [] X.env)).all (fun x => x.1.isSome)
      && decide ((e :: es).length + ([] : List Keyword).length + (if ([] : List Keyword).isEmpty then 0 else 1) < 30)) = true := by rfl)
    (hline : (apos.endLine == cpos.line) = true := by rfl) (hs : starEach (e :: es) X.env = (false, eval e X.env) :: starEach es X.env := by rfl) (hplain : (backTo cpos (starEach es X.env)).any (·.1) = false := by rfl) :
    JE X (.Call (.Attribute (.Subscript o b pos) name apos) (e :: es) [] cpos) (eLMutI op i pk ms) := pe_imp (pe_bm PySem.F.plainAttrs_list slot hty hm (pe_ix ix_seq ho hb hsx) ha hbase hfew hline hs hplain) (eLMutI_t ok)
end
section
variable {ρ : Env}
/-- the item at a place: within the outer list -/
theorem we_lmutI {i : Nat} {op : List D → List D → Option (D × List D)} {pk : MP} {ms : List ME} {cs : List D} {Q : D → Env → Prop} (e0 : nth ρ i = some (.lst cs))
    (h : WP pk ρ fun kd => IsI kd fun n => IX cs.length n fun j => LN cs[j]? fun ds => NE (ρ.set i none) fun ρ0 => WEs ms ρ0 fun es ρ1 => LM (op ds es) fun d ds' => NE (ρ1.set i (some (.lst (cs.set j (.lst ds'))))) (Q d)) : WE (eLMutI op i pk ms) ρ Q := by
  obtain ⟨kd, e1, n, rfl, j, e2, ds, e3, es, ρ1, e4, d, ds', e5, q⟩ := h
  exact ⟨d, _, by unfold eLMutI; rw [e0]; dsimp only; rw [e1]; dsimp only; rw [e2]; dsimp only; rw [e3]; dsimp only; rw [e4]; dsimp only; rw [e5], q⟩
theorem lm_append {ds : List D} {d : D} {Q : D → List D → Prop} (h0 : ds.length < 16777216) (q : Q .non (ds ++ [d])) : LM (lAppend ds [d]) Q := ⟨_, _, by
  unfold lAppend; dsimp only; rw [if_pos h0], q⟩
end
end Bv

namespace Bv
open PySem PySem.Spec PyProof.Rows L2
/-! ### xs.extend of a list of one's own, of a tuple -/
theorem list_extend_tup (l : Addr) (items : Array Value) (n : Nat) (b : Addr) (items2 : Array Value) (n2 : Nat) (od : Option Addr) (sl : Array (Option Value)) (hs0 : ¬(!items.isEmpty && Builtin.List.listTooLong (items.size + items2.size)) = true) (hs1 : items.size ≤ sizeLine) (hs2 : items.size + items2.size ≤ sizeLine + 1) :
    Meets (Builtin.«list.extend» ⟨[.ref l, .ref b], []⟩) (fun _ R s => s.heap.get? l = some { cls := .type "list", dict := none, data := .seq items n, slots := #[] } ∧ s.heap.get? b = some { cls := .type "tuple", dict := od, data := .seq items2 n2, slots := sl } ∧ R (.ok (.ret Value.none)) { s with heap := s.heap.update l (Obj.mapSeq fun x => x ++ items2), toks := s.toks }) :=
  .of_wp fun prog w A R s h => by
    obtain ⟨hp, g, d, tk, os⟩ := s; obtain ⟨hl, hb, h⟩ := h; have f1 := AutoSeq1.idx_int; have f2 := AutoSeq1.sub_tuple_tuple; have f3 := AutoSeq1.sub_list_list; have f4 := AutoSeq1.sub_tuple_list; have f5 := AutoSeq1.sub_list_tuple;
    have hz' : (items ++ items2).size ≤ sizeLine + 1 := by rw [Array.size_append]; exact hs2
    wp_walk using (wpAny_updateSeq hl rfl (hz := hs1) (_hz' := hz')), AutoSeq1.wpAny_loadPart' hl, AutoSeq1.wpAny_loadPart' hb; exact ⟨_, rfl, h⟩
def rExtendT (K : PySem.W.Frag) : V → List V → Hp → VK → Prop := fun x vs H Q => ∃ l b xs zs, x = .ref l ∧ vs = [.ref b] ∧ H l = some (.lst xs) ∧ SqT K H b zs ∧ xs.length + zs.length ≤ sizeLine ∧ Q .non (upd H l (.lst (xs ++ zs)))
theorem mt_extendT {X : Cx} : MtM X "list.extend" (rExtendT X.K) := by
  intro pins s σ H x vs v us Q I rx rv h
  obtain ⟨l, b, xs, zs, rfl, rfl, hH, hB, hz, q⟩ := h
  cases rx
  obtain ⟨u, rfl, ru⟩ := rv.one
  cases ru
  obtain ⟨z, its, n, r, hl, e⟩ := I.lstM hH
  obtain ⟨its2, r2, ⟨o2, e2, c2, n2, d2⟩, z2⟩ := I.tuple hB
  obtain ⟨oc, od, odt, osl⟩ := o2
  dsimp only at c2 d2
  subst c2 d2
  have hl2 := r2.length
  have hsz : its.toArray.size + its2.toArray.size ≤ sizeLine := by rw [List.size_toArray, List.size_toArray]; omega
  have hlong : ¬ (!its.toArray.isEmpty && Builtin.List.listTooLong (its.toArray.size + its2.toArray.size)) = true := by
    rw [notLongL hsz, Bool.and_false]
    exact Bool.false_ne_true
  refine call_meets PySem.F.slot_list_extend ⟨_, e, rfl⟩ PySem.F.entry_list_extend (PySem.F.args_list_extend_2 _ _)
    (list_extend_tup l its.toArray n b its2.toArray n2 _ _ hlong (by rw [List.size_toArray]; omega) (by omega)) ⟨e, e2, ?_⟩
  refine ⟨.non, _, I.lset (its' := its ++ its2) hH e (by simp) (r.append r2) ?_, rfl, q⟩
  rw [List.length_append]
  omega
def rExt2 (K : PySem.W.Frag) : V → List V → Hp → VK → Prop := fun x vs H Q => rExtend x vs H Q ∨ rExtendT K x vs H Q
theorem mt_ext2 {X : Cx} : MtR X "list.extend" (rExt2 X.K) := fun pins s σ H x xs v us Q I rx rxs h => h.elim (mt_extend pins s σ H x xs v us Q I rx rxs) (mt_extendT pins s σ H x xs v us Q I rx rxs)
def lExtend : List D → List D → Option (D × List D) := fun ds es => match es with
  | [.lst zs] => if ds.length + zs.length ≤ 16777216 ∧ noLists zs = true then some (.non, ds ++ zs) else none
  | [.tup zs] => if ds.length + zs.length ≤ 16777216 ∧ noLists zs = true then some (.non, ds ++ zs) else none
  | _ => none
theorem extend_ok {K : PySem.W.Frag} : LMut K (rExt2 K) lExtend := by
  intro a xs ys ds es fp fe H Q d ds' hl rx ry n e k
  unfold lExtend at e
  split at e
  · rename_i zs
    split at e
    · rename_i hz
      cases e
      cases ry with
      | @cons y ys _ _ f fn r1 rn =>
        cases rn
        cases r1 with
        | @lst b vs _ f hb rb =>
        have z := Reps.nol _ _ _ rb hz.2
        subst z
        have n1 := List.nodup_append.mp n
        have n2 := List.nodup_cons.mp n1.1
        have ab : a ≠ b := fun e => n1.2.2 a List.mem_cons_self b (by simp) e
        refine .inl ⟨a, b, xs, vs, rfl, rfl, hl, hb, by rw [rx.length, rb.length, sizeLine_eq]; exact hz.1, ?_⟩
        refine k .non (xs ++ vs) [] (fp ++ []) .non ((reps_upd hl rx n2.1).append (reps_upd hl rb (by simp))) (by simpa using n1.1) fun b m => ?_
        simp only [List.nil_append, List.append_nil] at m
        exact List.mem_append_left _ m
    · cases e
  · rename_i zs
    split at e
    · rename_i hz
      cases e
      cases ry with
      | @cons y ys _ _ f fn r1 rn =>
        cases rn
        cases r1 with
        | @tup b vs _ f hb rb =>
        have z := Reps.nol _ _ _ rb hz.2
        subst z
        have n1 := List.nodup_append.mp n
        have n2 := List.nodup_cons.mp n1.1
        refine .inr ⟨a, b, xs, vs, rfl, rfl, hl, hb, by rw [rx.length, rb.length, sizeLine_eq]; exact hz.1, ?_⟩
        refine k .non (xs ++ vs) [] (fp ++ []) .non ((reps_upd hl rx n2.1).append (reps_upd hl rb (by simp))) (by simpa using n1.1) fun b m => ?_
        simp only [List.nil_append, List.append_nil] at m
        exact List.mem_append_left _ m
    · cases e
  · cases e
theorem lm_extL {ds zs : List D} {Q : D → List D → Prop} (h0 : ds.length + zs.length ≤ 16777216) (h1 : noLists zs = true) (q : Q .non (ds ++ zs)) : LM (lExtend ds [.lst zs]) Q := ⟨_, _, by
  unfold lExtend; dsimp only; rw [if_pos ⟨h0, h1⟩], q⟩
theorem lm_extT {ds zs : List D} {Q : D → List D → Prop} (h0 : ds.length + zs.length ≤ 16777216) (h1 : noLists zs = true) (q : Q .non (ds ++ zs)) : LM (lExtend ds [.tup zs]) Q := ⟨_, _, by
  unfold lExtend; dsimp only; rw [if_pos ⟨h0, h1⟩], q⟩
/-! ### slices of what is made there -/
def eSlM (m : ME) (lo hi : MO) : ME := fun ρ => match m ρ with
  | some (d1, ρ1) => (match lo ρ1 with
    | some l => (match hi ρ1 with
      | some h => (match slD d1 l h with
        | some (.lst ds) => some (.lst ds, ρ1)
        | some d => if noList d then some (d, ρ1) else none
        | none => none)
      | none => none)
    | none => none)
  | none => none
section
variable {X : Cx} {e : Expr} {m : ME} {pos : Pos}
theorem je_slM {lo hi : Option Expr} {ml mh : MO} {p2 : Pos} (he : JE X e m) (hl : JO X lo ml) (hh : JO X hi mh) : JE X (.Subscript e (.Slice lo hi none p2) pos) (eSlM m ml mh) := pe_imp (pe_slice sl_any he hl hh) fun σ H Q => by
  rintro ⟨ρ, d, ρ', fp, R, e, k⟩
  unfold eSlM at e
  split at e
  · rename_i d1 ρ1 e1
    split at e
    · rename_i l e2
      split at e
      · rename_i h e3
        have key : slD d1 l h = some d ∧ ρ' = ρ1 ∧ (noList d = true ∨ ∃ ds, d = .lst ds) := by
          split at e
          · rename_i ds e0
            cases e
            exact ⟨e0, rfl, .inr ⟨ds, rfl⟩⟩
          · rename_i d0 _ e0
            split at e
            · rename_i hn
              cases e
              exact ⟨e0, rfl, .inl hn⟩
            · cases e
          · cases e
        obtain ⟨e0, rfl, hn⟩ := key
        refine ⟨ρ, d1, ρ', fp, R, e1, fun x H1 fp1 fr1 R1 r1 n1 c1 => ?_⟩
        refine ⟨ρ', l, fp1, R1, e2, fun H2 s2 => ?_⟩
        refine ⟨ρ', h, fp1, R1.same s2, e3, fun H3 s3 => ?_⟩
        refine sl_ok ((r1.same s2).same s3) e0 fun v H' fr s r z => ?_
        have S := s2.trans s3
        have nn : fr.Nodup ∧ ∀ a ∈ fr, H1 a = none := by
          rcases hn with hn | ⟨ds, hd⟩
          · rw [z.1 hn]; exact ⟨List.nodup_nil, fun a m => nomatch m⟩
          · exact ⟨(z.2 ds hd).1, fun a m => S.free ((z.2 ds hd).2 a m)⟩
        exact k v H' fp1 fr (R1.same (S.trans s)) r (nd_new R1 nn.1 nn.2) (c1.trans (chg_new (S.trans s) nn.2 fun a m => List.mem_append_right fr1 m) fun a m => m)
      · cases e
    · cases e
  · cases e
theorem we_slM {ρ : Env} {lo hi : MO} {Q : D → Env → Prop} (h : WE m ρ fun a ρ1 => WO3 lo ρ1 fun l => WO3 hi ρ1 fun r => WO (slD a l r) fun d => (noList d = true ∨ ∃ ds, d = .lst ds) ∧ Q d ρ1) : WE (eSlM m lo hi) ρ Q := by
  obtain ⟨a, ρ1, ea, l, el, r, er, d, ed, hn, q⟩ := h
  refine ⟨d, ρ1, ?_, q⟩
  unfold eSlM
  rw [ea]; dsimp only; rw [el]; dsimp only; rw [er]; dsimp only; rw [ed]
  rcases hn with hn | ⟨ds, rfl⟩
  · cases d <;> first | (dsimp only; rw [if_pos hn]) | rfl
  · rfl
end
/-! ### list(range(..)), tuple(range(..)) -/
def rgB (a b : Int) : Bool := decide (-(2 ^ 62) ≤ a ∧ a < 2 ^ 62 ∧ -(2 ^ 62) ≤ b ∧ b < 2 ^ 62 ∧ (b - a).toNat ≤ 2 ^ 24)
theorem rgB_ok {a b : Int} (h : rgB a b = true) : RgOk a b := by
  have := of_decide_eq_true h
  exact this
def eRg (l : Bool) (ms : List ME) : ME := fun ρ => match evs ms ρ with
  | some ([.int n], ρ') => if rgB 0 n then some (if l then .lst (numsD 0 n.toNat) else .tup (numsD 0 n.toNat), ρ') else none
  | some ([.int a, .int b], ρ') => if rgB a b then some (if l then .lst (numsD a (b - a).toNat) else .tup (numsD a (b - a).toNat), ρ') else none
  | _ => none
theorem reps_nums {K : PySem.W.Frag} {H : Hp} (a b : Int) : Reps K H (rgV a b) (numsD a (b - a).toNat) [] := by
  unfold rgV numsD
  generalize (List.range (b - a).toNat) = l
  induction l with
  | nil => exact .nil
  | cons x r ih => exact .cons (f := []) (.int _) ih
theorem rg_same {K : PySem.W.Frag} {σ : L2.St} {H : Hp} {ρ : Env} {fp : List Addr} {a b : Int} {l : Bool} {Q : VK} (R : Rel K H σ ρ fp)
    (k : ∀ v H' fr, Rel K H' σ ρ fp → Rep K H' v (if l then .lst (numsD a (b - a).toNat) else .tup (numsD a (b - a).toNat)) fr → (fr ++ fp).Nodup → (∀ A, (∀ x ∈ fp, x ∈ A) → Chg H H' A (fr ++ fp)) → Q v H') :
    ∀ q, H q = none → Q (.ref q) (upd H q (if l then .lst (rgV a b) else .tup (rgV a b))) := by
  intro q hq
  cases l with
  | true =>
    have sm := same_upd (o := .lst (rgV a b)) hq
    exact k _ _ [q] (R.same sm) (.lst upd_same (reps_nums a b)) (nd_new R (by simp) fun x m => by rw [List.mem_singleton.mp m]; exact hq) fun A h => chg_new sm (fun x m => by rw [List.mem_singleton.mp m]; exact hq) h
  | false =>
    have sm := same_upd (o := .tup (rgV a b)) hq
    exact k _ _ [] (R.same sm) (.tup (.inl (.inl upd_same)) (reps_nums a b)) R.nodup fun A h => (Chg.same sm).ups h
section
variable {X : Cx} {a b : Expr} {m m1 m2 : ME} {p p2 pos pos2 : Pos}
theorem eRg1_t {l : Bool} (σ : L2.St) (H : Hp) (Q : VK) (h : tM X.K (eRg l [m]) σ H Q) : tM X.K m σ H fun x H1 => ∃ n, x = .int n ∧ RgOk 0 n ∧ ∀ q, H1 q = none → Q (.ref q) (upd H1 q (if l then .lst (rgV 0 n) else .tup (rgV 0 n))) := by
  obtain ⟨ρ, d, ρ', fp, R, e, k⟩ := h
  unfold eRg evs at e
  cases em : m ρ with
  | none => rw [em] at e; cases e
  | some y =>
    obtain ⟨d1, ρ1⟩ := y
    rw [em] at e
    dsimp only [evs] at e
    cases d1 with
    | int n =>
      dsimp only at e
      by_cases hb : rgB 0 n = true
      · rw [if_pos hb] at e
        cases e
        refine ⟨ρ, _, ρ', fp, R, em, fun x H1 fp1 fr R1 r n1 c => ?_⟩
        cases r
        refine ⟨n, rfl, rgB_ok hb, rg_same R1 fun v H' fr R' r' n' c' => ?_⟩
        rw [Int.sub_zero] at r'
        exact k v H' fp1 fr R' r' n' (c.trans (c' _ fun x m => m) fun a m => m)
      · rw [if_neg hb] at e; cases e
    | _ => cases e
theorem eRg2_t {l : Bool} (σ : L2.St) (H : Hp) (Q : VK) (h : tM X.K (eRg l [m1, m2]) σ H Q) : tM X.K m1 σ H fun x H1 => tM X.K m2 σ H1 fun y H2 => ∃ i j, x = .int i ∧ y = .int j ∧ RgOk i j ∧ ∀ q, H2 q = none → Q (.ref q) (upd H2 q (if l then .lst (rgV i j) else .tup (rgV i j))) := by
  obtain ⟨ρ, d, ρ', fp, R, e, k⟩ := h
  unfold eRg evs at e
  cases em : m1 ρ with
  | none => rw [em] at e; cases e
  | some y =>
    obtain ⟨d1, ρ1⟩ := y
    rw [em] at e
    dsimp only at e
    cases em2 : m2 ρ1 with
    | none => unfold evs at e; rw [em2] at e; cases e
    | some y =>
      obtain ⟨d2, ρ2⟩ := y
      unfold evs at e
      rw [em2] at e
      dsimp only [evs] at e
      cases d1 with
      | int i =>
        cases d2 with
        | int j =>
          dsimp only at e
          by_cases hb : rgB i j = true
          · rw [if_pos hb] at e
            cases e
            refine ⟨ρ, _, ρ1, fp, R, em, fun x H1 fp1 fr1 R1 r1 n1 c1 => ?_⟩
            refine ⟨ρ1, _, ρ', fp1, R1, em2, fun y H2 fp2 fr2 R2 r2 n2 c2 => ?_⟩
            cases r1
            cases r2
            refine ⟨i, j, rfl, rfl, rgB_ok hb, rg_same R2 fun v H' fr R' r' n' c' => ?_⟩
            exact k v H' fp2 fr R' r' n' ((chg_from c1 c2).trans (c' _ fun x m => m) fun a m => m)
          · rw [if_neg hb] at e; cases e
        | _ => cases e
      | _ => cases e
theorem je_listRg1 (hc : X.calm = true) (hg : Gl X "list") (hm : X.mg "list" = none) (hg2 : Gl X "range") (hm2 : X.mg "range" = none) (ha : JE X a m) (na : starEach [a] X.env = (false, eval a X.env) :: starEach [] X.env := by rfl)
    (nb : starEach [Expr.Call (.Name "range" p2) [a] [] pos2] X.env = (false, eval (Expr.Call (.Name "range" p2) [a] [] pos2) X.env) :: starEach [] X.env := by rfl) : JE X (.Call (.Name "list" p) [.Call (.Name "range" p2) [a] [] pos2] [] pos) (eRg true [m]) :=
  pe_imp (pe_listRg hc hg hm (prg_1 hg2 hm2 ha na) nb) fun σ H Q h => by
    obtain ⟨ρ, d, ρ', fp, R, e, k⟩ := eRg1_t σ H Q h
    exact ⟨ρ, d, ρ', fp, R, e, fun v H' fp' fr R' r n c => let ⟨i, e, g, q⟩ := k v H' fp' fr R' r n c; ⟨i, e, g, q⟩⟩
theorem je_tupRg1 (hc : X.calm = true) (hg : Gl X "tuple") (hm : X.mg "tuple" = none) (hg2 : Gl X "range") (hm2 : X.mg "range" = none) (ha : JE X a m) (na : starEach [a] X.env = (false, eval a X.env) :: starEach [] X.env := by rfl)
    (nb : starEach [Expr.Call (.Name "range" p2) [a] [] pos2] X.env = (false, eval (Expr.Call (.Name "range" p2) [a] [] pos2) X.env) :: starEach [] X.env := by rfl) : JE X (.Call (.Name "tuple" p) [.Call (.Name "range" p2) [a] [] pos2] [] pos) (eRg false [m]) :=
  pe_imp (pe_tupRg hc hg hm (prg_1 hg2 hm2 ha na) nb) fun σ H Q h => by
    obtain ⟨ρ, d, ρ', fp, R, e, k⟩ := eRg1_t σ H Q h
    exact ⟨ρ, d, ρ', fp, R, e, fun v H' fp' fr R' r n c => let ⟨i, e, g, q⟩ := k v H' fp' fr R' r n c; ⟨i, e, g, q⟩⟩
theorem je_listRg2 (hc : X.calm = true) (hg : Gl X "list") (hm : X.mg "list" = none) (hg2 : Gl X "range") (hm2 : X.mg "range" = none) (ha : JE X a m1) (hb : JE X b m2) (na : starEach [a, b] X.env = (false, eval a X.env) :: starEach [b] X.env := by rfl)
    (nb : starEach [b] X.env = (false, eval b X.env) :: starEach [] X.env := by rfl) (hp : (backTo pos2 (starEach [b] X.env)).any (·.1) = false := by rfl)
    (nc : starEach [Expr.Call (.Name "range" p2) [a, b] [] pos2] X.env = (false, eval (Expr.Call (.Name "range" p2) [a, b] [] pos2) X.env) :: starEach [] X.env := by rfl) : JE X (.Call (.Name "list" p) [.Call (.Name "range" p2) [a, b] [] pos2] [] pos) (eRg true [m1, m2]) :=
  pe_imp (pe_listRg hc hg hm (prg_2 hg2 hm2 ha hb na nb hp) nc) fun σ H Q h => by
    obtain ⟨ρ, d, ρ', fp, R, e, k⟩ := eRg2_t σ H Q h
    refine ⟨ρ, d, ρ', fp, R, e, fun v H' fp' fr R' r n c => ?_⟩
    obtain ⟨ρ2, d2, ρ2', fp2, R2, e2, k2⟩ := k v H' fp' fr R' r n c
    exact ⟨ρ2, d2, ρ2', fp2, R2, e2, fun v H' fp' fr R' r n c => let ⟨i, j, e1, e2, g, q⟩ := k2 v H' fp' fr R' r n c; ⟨i, j, e1, e2, g, q⟩⟩
theorem je_tupRg2 (hc : X.calm = true) (hg : Gl X "tuple") (hm : X.mg "tuple" = none) (hg2 : Gl X "range") (hm2 : X.mg "range" = none) (ha : JE X a m1) (hb : JE X b m2) (na : starEach [a, b] X.env = (false, eval a X.env) :: starEach [b] X.env := by rfl)
    (nb : starEach [b] X.env = (false, eval b X.env) :: starEach [] X.env := by rfl) (hp : (backTo pos2 (starEach [b] X.env)).any (·.1) = false := by rfl)
    (nc : starEach [Expr.Call (.Name "range" p2) [a, b] [] pos2] X.env = (false, eval (Expr.Call (.Name "range" p2) [a, b] [] pos2) X.env) :: starEach [] X.env := by rfl) : JE X (.Call (.Name "tuple" p) [.Call (.Name "range" p2) [a, b] [] pos2] [] pos) (eRg false [m1, m2]) :=
  pe_imp (pe_tupRg hc hg hm (prg_2 hg2 hm2 ha hb na nb hp) nc) fun σ H Q h => by
    obtain ⟨ρ, d, ρ', fp, R, e, k⟩ := eRg2_t σ H Q h
    refine ⟨ρ, d, ρ', fp, R, e, fun v H' fp' fr R' r n c => ?_⟩
    obtain ⟨ρ2, d2, ρ2', fp2, R2, e2, k2⟩ := k v H' fp' fr R' r n c
    exact ⟨ρ2, d2, ρ2', fp2, R2, e2, fun v H' fp' fr R' r n c => let ⟨i, j, e1, e2, g, q⟩ := k2 v H' fp' fr R' r n c; ⟨i, j, e1, e2, g, q⟩⟩
end
def RB (a b : Int) (Q : Prop) : Prop := rgB a b = true ∧ Q
theorem rb_ {a b : Int} {Q : Prop} (h0 : -1000000 ≤ a) (h1 : a < 1000000) (h2 : -1000000 ≤ b) (h3 : b < 1000000) (q : Q) : RB a b Q := ⟨decide_eq_true ⟨by omega, by omega, by omega, by omega, by omega⟩, q⟩
theorem we_rgL1 {ρ : Env} {m : ME} {Q : D → Env → Prop} (h : WE m ρ fun d ρ1 => IsI d fun n => RB 0 n (Q (.lst (numsD 0 n.toNat)) ρ1)) : WE (eRg true [m]) ρ Q := by
  obtain ⟨d, ρ1, e, n, rfl, hb, q⟩ := h
  exact ⟨_, ρ1, by unfold eRg evs; rw [e]; dsimp only [evs]; rw [if_pos hb]; rfl, q⟩
theorem we_rgT1 {ρ : Env} {m : ME} {Q : D → Env → Prop} (h : WE m ρ fun d ρ1 => IsI d fun n => RB 0 n (Q (.tup (numsD 0 n.toNat)) ρ1)) : WE (eRg false [m]) ρ Q := by
  obtain ⟨d, ρ1, e, n, rfl, hb, q⟩ := h
  exact ⟨_, ρ1, by unfold eRg evs; rw [e]; dsimp only [evs]; rw [if_pos hb]; rfl, q⟩
theorem we_rgL2 {ρ : Env} {m1 m2 : ME} {Q : D → Env → Prop} (h : WE m1 ρ fun d ρ1 => WE m2 ρ1 fun d2 ρ2 => IsI d fun a => IsI d2 fun b => RB a b (Q (.lst (numsD a (b - a).toNat)) ρ2)) : WE (eRg true [m1, m2]) ρ Q := by
  obtain ⟨d, ρ1, e, d2, ρ2, e2, a, rfl, b, rfl, hb, q⟩ := h
  exact ⟨_, ρ2, by unfold eRg evs; rw [e]; dsimp only [evs]; rw [e2]; dsimp only; rw [if_pos hb]; rfl, q⟩
/-! ### any, all -/
def boolsOf : List D → Option (List Bool)
  | [] => some []
  | .bl b :: ds => (match boolsOf ds with
    | some bs => some (b :: bs)
    | none => none)
  | _ :: _ => none
def allL : List D → Option D
  | [.lst ds] => (match boolsOf ds with
    | some bs => some (.bl (bs.all id))
    | none => none)
  | _ => none
def anyL : List D → Option D
  | [.lst ds] => (match boolsOf ds with
    | some bs => some (.bl (bs.any id))
    | none => none)
  | _ => none
theorem boolsOf_map (bs : List Bool) : boolsOf (bs.map D.bl) = some bs := by
  induction bs with
  | nil => rfl
  | cons b bs ih => show (match boolsOf (bs.map D.bl) with | some bs => some (b :: bs) | none => none) = _; rw [ih]
theorem boolsOf_rep {K : PySem.W.Frag} {H : Hp} : ∀ {ds : List D} {xs : List V} {fp : List Addr} {bs : List Bool}, Reps K H xs ds fp → boolsOf ds = some bs → xs = bs.map V.bl
  | [], _, _, bs, r, e => by cases r; cases e; rfl
  | d :: ds, _, _, bs, r, e => by
    cases r with
    | cons r rs =>
      cases d with
      | bl b =>
        have e : (match boolsOf ds with | some bs => some (b :: bs) | none => none) = some bs := e
        split at e
        · rename_i bs' e'
          cases e
          cases r
          rw [boolsOf_rep rs e']; rfl
        · cases e
      | _ => cases e
theorem allL_ok {K : PySem.W.Frag} : RLok K (rAll K) allL := by
  intro xs H Q ds d f r e k
  unfold allL at e
  split at e
  · rename_i es
    split at e
    · rename_i bs eb
      cases e
      cases r with
      | cons r rs =>
        cases rs
        cases r with
        | @lst a vs _ f s rv => exact ⟨a, bs, rfl, by rw [← boolsOf_rep rv eb]; exact .inl (.inl s), k _ H [] (Same.refl H) (.bl _) List.nodup_nil fun a m => nomatch m⟩
    · cases e
  · cases e
theorem anyL_ok {K : PySem.W.Frag} : RLok K (rAny K) anyL := by
  intro xs H Q ds d f r e k
  unfold anyL at e
  split at e
  · rename_i es
    split at e
    · rename_i bs eb
      cases e
      cases r with
      | cons r rs =>
        cases rs
        cases r with
        | @lst a vs _ f s rv => exact ⟨a, bs, rfl, by rw [← boolsOf_rep rv eb]; exact .inl (.inl s), k _ H [] (Same.refl H) (.bl _) List.nodup_nil fun a m => nomatch m⟩
    · cases e
  · cases e
theorem wo_allL {bs : List Bool} {Q : D → Prop} (q : Q (.bl (bs.all id))) : WO (allL [.lst (bs.map D.bl)]) Q := ⟨_, by unfold allL; dsimp only; rw [boolsOf_map], q⟩
theorem wo_anyL {bs : List Bool} {Q : D → Prop} (q : Q (.bl (bs.any id))) : WO (anyL [.lst (bs.map D.bl)]) Q := ⟨_, by unfold anyL; dsimp only; rw [boolsOf_map], q⟩
end Bv

namespace Bv
open PySem PySem.Spec PyProof.Rows L2
/-! ### the module's tables: dicts with text keys -/
abbrev Tb : Type := Str × List (Str × D)
def tabL : List (Str × D) → Str → Option D
  | [], _ => none
  | (k, d) :: r, z => if k = z then some d else tabL r z
def tabA (K : PySem.W.Frag) (x : Str) : Addr := match PySem.W.nsIn K mainGlobals x with
  | some (some (.ref a)) => a
  | _ => 0
def tabB (K : PySem.W.Frag) (t : Tb) : Bool := match PySem.W.nsIn K mainGlobals t.1 with
  | some (some (.ref a)) => t.2.all fun q => match PySem.W.nsIn K a q.1 with
    | some (some v) => (repV K 400 v q.2).isSome
    | _ => false
  | _ => false
abbrev AlX : Type := AlC × (Bool × List (Option (List (Option (Str × Int)))))
def obsX (fa : List He.Fa) (fn : List He.DefD) (cs : List (Str × D)) (ts : List Tb) (K : PySem.W.Frag) : AlX := (obsC fa fn cs K, ts.all (tabB K), ts.map fun t => He.dicW K (tabA K t.1))
def valX (fn : List He.DefD) (ts : List Tb) (w : World) : AlX := (valC fn, true, ts.map fun t => some (He.keysIn w.params (t.2.map (·.1))))
def obsXG (n : Nat) (fa : List He.Fa) (fn : List He.DefD) (cs : List (Str × D)) (ts : List Tb) (g : Addr → Option Obj) : AlX := obsX fa fn cs ts (He.frG g (He.asD g n))
def hookX (n : Nat) (fa : List He.Fa) (fn : List He.DefD) (cs : List (Str × D)) (ts : List Tb) : PySem.W.Hook where
  α := AlX
  obs := fun s => obsXG n fa fn cs ts s.heap.get?
  val := fun w => valX fn ts w
  says := fun w h => ∃ K : PySem.W.Frag, K.In h ∧ obsX fa fn cs ts K = valX fn ts w
  of := fun _ _ e => ⟨_, He.frG_in, e⟩
  keeps := fun _ _ _ ⟨K, hK, c⟩ k => ⟨K, PySem.W.Frag.In.keeps hK k, c⟩
theorem obsXG_eq {n : Nat} {fa : List He.Fa} {fn : List He.DefD} {cs : List (Str × D)} {ts : List Tb} {g : Addr → Option Obj} {s : Shared} (h : ∀ a, g a = s.heap.get? a) : obsXG n fa fn cs ts g = (hookX n fa fn cs ts).obs s := by
  have e : g = s.heap.get? := funext h
  rw [e]
  rfl
/-- the tables' facts for the walk -/
def TxT (w : World) (ts : List Tb) (K : PySem.W.Frag) (mg : Str → Option Value) : Prop := ∀ t ∈ ts, ∃ a es n, mg t.1 = some (.ref a) ∧ KDict K w a es n ∧ (∀ z, tabL t.2 z = none → PySem.W.nsIn K a z = some none) ∧
  ∀ z d, tabL t.2 z = some d → ∃ u v, PySem.W.nsIn K a z = some (some u) ∧ RelV v u ∧ ∀ H, Rep K H v d []
theorem key_none {P : Params} {z : Str} : ∀ {l : List DictEntry} {ks : List Str}, l.map He.keyOf = He.keysIn P ks → z ∉ ks → l.find? (·.key.isStr z) = none ∧ l.any (·.refKey) = false
  | [], _, _, _ => ⟨rfl, rfl⟩
  | e :: r, [], h, _ => by cases h
  | e :: r, k :: ks, h, hz => by
    have h1 : He.keyOf e :: r.map He.keyOf = some (k, PyData.keyHash P k) :: He.keysIn P ks := h
    injection h1 with h2 h3
    have ih := key_none (P := P) (z := z) h3 fun m => hz (List.mem_cons_of_mem _ m)
    unfold He.keyOf at h2
    split at h2
    · rename_i x t q
      have h4 := Option.some.inj h2
      obtain ⟨h5, h6⟩ := Prod.mk.inj h4
      subst h5
      have n1 : (e.key.isStr z) = false := by
        rw [q]
        show (x == z) = false
        exact beq_eq_false_iff_ne.mpr fun e => hz (e ▸ List.mem_cons_self)
      have n2 : e.refKey = false := by
        unfold DictEntry.refKey
        rw [q]
      refine ⟨?_, ?_⟩
      · rw [List.find?_cons, n1]; exact ih.1
      · rw [List.any_cons, n2]; exact ih.2
    · cases h2
theorem tabL_none : ∀ {l : List (Str × D)} {z : Str}, tabL l z = none → z ∉ l.map (·.1)
  | [], _, _, m => nomatch m
  | (k, d) :: r, z, h, m => by
    unfold tabL at h
    split at h
    · cases h
    · rename_i hk
      rcases List.mem_cons.mp m with e | m
      · exact hk e.symm
      · exact tabL_none h m
theorem tabL_some : ∀ {l : List (Str × D)} {z : Str} {d : D}, tabL l z = some d → (z, d) ∈ l
  | (k, d0) :: r, z, d, h => by
    unfold tabL at h
    split at h
    · rename_i hk
      cases h
      rw [hk]; exact List.mem_cons_self
    · exact List.mem_cons_of_mem _ (tabL_some h)
theorem TxT.mk' {fa : List He.Fa} {fn : List He.DefD} {cs : List (Str × D)} {ts : List Tb} {K : PySem.W.Frag} {w : World} {mg : Str → Option Value} {h : Heap} (X : K.In h) (G : h.Ns mainGlobals mg) (c : obsX fa fn cs ts K = valX fn ts w) : TxT w ts K mg := fun t m => by
  have c2 : ts.all (tabB K) = true := congrArg (fun z : AlX => z.2.1) c
  have c3 : (ts.map fun t => He.dicW K (tabA K t.1)) = ts.map fun t => some (He.keysIn w.params (t.2.map (·.1))) := congrArg (fun z : AlX => z.2.2) c
  have h1 := List.all_eq_true.mp c2 t m
  have h2 : He.dicW K (tabA K t.1) = some (He.keysIn w.params (t.2.map (·.1))) := by
    have := List.map_inj_left.mp c3
    exact this t m
  unfold tabB at h1
  split at h1
  · rename_i a ea
    have ta : tabA K t.1 = a := by unfold tabA; rw [ea]
    rw [ta] at h2
    obtain ⟨es, n, kd⟩ := He.dicW_ok h2
    refine ⟨a, es, n, PySem.W.mg_of X G ea, kd, fun z hz => ?_, fun z d hz => ?_⟩
    · have hl := kd.at_
      unfold He.dicW at h2
      rw [hl] at h2
      dsimp only at h2
      have h3 : es.toList.map He.keyOf = He.keysIn w.params (t.2.map (·.1)) := by
        split at h2
        · exact Option.some.inj h2
        · cases h2
      have h4 := key_none h3 (tabL_none hz)
      unfold PySem.W.nsIn
      rw [hl]
      dsimp only
      rw [h4.1]
      dsimp only
      rw [h4.2]
      rfl
    · have h3 := List.all_eq_true.mp h1 (z, d) (tabL_some hz)
      dsimp only at h3
      split at h3
      · rename_i v ev
        cases e2 : repV K 400 v d with
        | none => rw [e2] at h3; cases h3
        | some x =>
          obtain ⟨r1, r2⟩ := (repV_both K 400).1 _ _ _ e2
          exact ⟨v, x, ev, r1, r2⟩
      · cases h3
  · cases h1
theorem TxT.fst {fa : List He.Fa} {fn : List He.DefD} {cs : List (Str × D)} {ts : List Tb} {K : PySem.W.Frag} {w : World} (c : obsX fa fn cs ts K = valX fn ts w) : obsC fa fn cs K = valC fn := congrArg (fun z : AlX => z.1) c
def tabIn (kvs : List (Str × D)) : D → Option D
  | .str z => some (.bl (tabL kvs z).isSome)
  | _ => none
def tabNotIn (kvs : List (Str × D)) : D → Option D
  | .str z => some (.bl (!(tabL kvs z).isSome))
  | _ => none
def tabGet (kvs : List (Str × D)) : D → Option D
  | .str z => tabL kvs z
  | _ => none
theorem ns_tab {K : PySem.W.Frag} {a : Addr} {kvs : List (Str × D)} (h1 : ∀ z, tabL kvs z = none → PySem.W.nsIn K a z = some none) (h2 : ∀ z d, tabL kvs z = some d → ∃ u v, PySem.W.nsIn K a z = some (some u) ∧ RelV v u ∧ ∀ H, Rep K H v d []) (z : Str) :
    ∃ r, PySem.W.nsIn K a z = some r ∧ r.isSome = (tabL kvs z).isSome := by
  cases e : tabL kvs z with
  | none => exact ⟨none, h1 z e, rfl⟩
  | some d => obtain ⟨u, _, e2, _⟩ := h2 z d e; exact ⟨some u, e2, rfl⟩
section
variable {X : Cx} {ts : List Tb} {a b : Expr} {p : MP} {x : Str} {kvs : List (Str × D)} {px pos : Pos}
theorem tab_in_t {r : R2} {f : D → Option D} {A : Addr} (hr : ∀ z H Q d, f (.str z) = some d → (∀ v, (∀ H, Rep X.K H v d []) → Q v H) → r (.str z) (.ref A) H Q) (hf : ∀ d1 d, f d1 = some d → ∃ z, d1 = .str z) (σ : L2.St) (H : Hp) (Q : VK) (h : tP X.K (pUn f p) σ H Q) : tOp r (tP X.K p) (tC (.ref A)) σ H Q := by
  obtain ⟨ρ, d, fp, R, e, k⟩ := h
  unfold pUn at e
  split at e
  · rename_i d1 e1
    obtain ⟨z, rfl⟩ := hf _ _ e
    refine ⟨ρ, _, fp, R, e1, fun y H1 fr1 s1 r1 => ?_⟩
    cases r1
    exact hr z H1 Q d e fun v rv => k v H1 [] s1 (rv H1)
  · cases e
theorem tabIn_str {d1 d : D} (h : tabIn kvs d1 = some d) : ∃ z, d1 = .str z := by
  cases d1 <;> first | exact ⟨_, rfl⟩ | cases h
theorem tabNotIn_str {d1 d : D} (h : tabNotIn kvs d1 = some d) : ∃ z, d1 = .str z := by
  cases d1 <;> first | exact ⟨_, rfl⟩ | cases h
theorem tabGet_str {d1 d : D} (h : tabGet kvs d1 = some d) : ∃ z, d1 = .str z := by
  cases d1 <;> first | exact ⟨_, rfl⟩ | cases h
theorem jp_tabIn (T : TxT X.w ts X.K X.mg) (i : Nat) (hg : Gl X x) (ha : JP X a p) (hi : ts[i]? = some (x, kvs) := by rfl) (hd : (x == ("__debug__" : Str)) = false := by decide) : JP X (.Compare a [.In] [.Name x px] pos) (pUn (tabIn kvs) p) := by
  obtain ⟨A, es, n, hm, kd, t1, t2⟩ := T (x, kvs) (List.mem_of_getElem? hi)
  refine pe_imp (pe_cmpR (op_in_kd kd) ha (pe_glob (v := .ref A) hg hm rfl hd) rfl) (tab_in_t (fun z H Q d e q => ?_) fun _ _ => tabIn_str)
  cases e
  obtain ⟨r, e, er⟩ := ns_tab t1 t2 z
  exact ⟨z, r, rfl, rfl, e, by rw [er]; exact q _ fun H => .bl _⟩
theorem jp_tabNotIn (T : TxT X.w ts X.K X.mg) (i : Nat) (hg : Gl X x) (ha : JP X a p) (hi : ts[i]? = some (x, kvs) := by rfl) (hd : (x == ("__debug__" : Str)) = false := by decide) : JP X (.Compare a [.NotIn] [.Name x px] pos) (pUn (tabNotIn kvs) p) := by
  obtain ⟨A, es, n, hm, kd, t1, t2⟩ := T (x, kvs) (List.mem_of_getElem? hi)
  refine pe_imp (pe_cmpR (op_notIn_kd kd) ha (pe_glob (v := .ref A) hg hm rfl hd) rfl) (tab_in_t (fun z H Q d e q => ?_) fun _ _ => tabNotIn_str)
  cases e
  obtain ⟨r, e, er⟩ := ns_tab t1 t2 z
  exact ⟨z, r, rfl, rfl, e, by rw [er]; exact q _ fun H => .bl _⟩
theorem ix_kd {d : Addr} {es : Array DictEntry} {n : Nat} (kd : KDict X.K X.w d es n) : IxR X (fun x y H Q => ∃ (z : Str) (u0 : Value) (v0 : V), x = .ref d ∧ y = .str z ∧ PySem.W.nsIn X.K d z = some (some u0) ∧ RelV v0 u0 ∧ Q v0 H) := by
  intro value slice pins s σ H x y v u Q I rx ry h hs
  have g := op_item_kd kd pins s σ H x y v u Q I rx ry h
  obtain ⟨z, u0, v0, rfl, rfl, e, r, q⟩ := h
  cases rx
  obtain ⟨t, rfl⟩ := ry
  exact tail_any (kd_type kd I) slot_dict_getitem.lookup g hs
theorem jp_tabGet (T : TxT X.w ts X.K X.mg) (i : Nat) (hg : Gl X x) (hb : JP X b p) (hi : ts[i]? = some (x, kvs) := by rfl) (hs : PlainIx b := by exact fun _ _ => rfl) (hd : (x == ("__debug__" : Str)) = false := by decide) : JP X (.Subscript (.Name x px) b pos) (pUn (tabGet kvs) p) := by
  obtain ⟨A, es, n, hm, kd, t1, t2⟩ := T (x, kvs) (List.mem_of_getElem? hi)
  refine pe_imp (pe_ix (ix_kd kd) (pe_glob (v := .ref A) hg hm rfl hd) hb hs) fun σ H Q => ?_
  rintro ⟨ρ, d, fp, R, e, k⟩
  unfold pUn at e
  split at e
  · rename_i d1 e1
    obtain ⟨z, rfl⟩ := tabGet_str e
    refine ⟨ρ, _, fp, R, e1, fun y H1 fr1 s1 r1 => ?_⟩
    cases r1
    obtain ⟨u, v, e2, rv, rr⟩ := t2 z d e
    exact ⟨z, u, v, rfl, rfl, e2, rv, k v H1 [] s1 (rr H1)⟩
  · cases e
end
theorem wo_tabIn {kvs : List (Str × D)} {z : Str} {Q : D → Prop} (q : Q (.bl (tabL kvs z).isSome)) : WO (tabIn kvs (.str z)) Q := ⟨_, rfl, q⟩
theorem wo_tabNotIn {kvs : List (Str × D)} {z : Str} {Q : D → Prop} (q : Q (.bl (!(tabL kvs z).isSome))) : WO (tabNotIn kvs (.str z)) Q := ⟨_, rfl, q⟩
theorem wo_tabGet {kvs : List (Str × D)} {z : Str} {d : D} {Q : D → Prop} (h : tabL kvs z = some d) (q : Q d) : WO (tabGet kvs (.str z)) Q := ⟨_, h, q⟩
end Bv

namespace Bv
open PySem PySem.Spec PyProof.Rows L2
/-! ### the goals' heads -/
section
variable {ρ : Env} {p : MP} {m : ME} {t : MT} {s : MS} {o : Option D}
theorem g_ws {Q : Out → Env → Prop} (h : WS s ρ Q) : WS s ρ Q := h
theorem g_we {Q : D → Env → Prop} (h : WE m ρ Q) : WE m ρ Q := h
theorem g_wp {Q : D → Prop} (h : WP p ρ Q) : WP p ρ Q := h
theorem g_wo {Q : D → Prop} (h : WO o Q) : WO o Q := h
theorem g_wt {Q : Bool → Env → Prop} (h : WT t ρ Q) : WT t ρ Q := h
end
/-! ### == of plain data is equality -/
def strB (x : Str) : Bool := x.cps.toList.all fun c => decide (c < 0x110000)
theorem strB_ok {x : Str} (h : strB x = true) : PyData.canLay0 (.str x) = true := by
  show PyData.strOk x = true
  unfold PyData.strOk
  unfold strB at h
  rw [← Array.all_toList]
  exact h
mutual
def smB : Nat → D → Bool
  | _, .non => true
  | _, .int _ => true
  | _, .str x => strB x
  | n + 1, .tup xs => smsB n xs
  | n + 1, .lst xs => smsB n xs
  | _, _ => false
def smsB : Nat → List D → Bool
  | _, [] => true
  | n, x :: xs => smB n x && smsB n xs
end
mutual
theorem smB_py : ∀ (d : D) (n : Nat), smB n d = true → noDic d = true ∧ PyData.canLay0 (toPy d) = true ∧ (toPy d).depth ≤ n
  | .non, n, _ => ⟨rfl, rfl, by unfold toPy PyData.depth; omega⟩
  | .int i, n, _ => ⟨rfl, rfl, by unfold toPy PyData.depth; omega⟩
  | .str x, n, h => ⟨rfl, strB_ok (by cases n <;> exact h), by unfold toPy PyData.depth; omega⟩
  | .bl b, n, h => by cases n <;> cases h
  | .frz xs, n, h => by cases n <;> cases h
  | .dic xs, n, h => by cases n <;> cases h
  | .tup xs, 0, h => by cases h
  | .tup xs, n + 1, h => by
    obtain ⟨h1, h2, h3⟩ := smsB_py xs n h
    exact ⟨h1, h2, by show PyData.depthAll (toPys xs) + 1 ≤ n + 1; omega⟩
  | .lst xs, 0, h => by cases h
  | .lst xs, n + 1, h => by
    obtain ⟨h1, h2, h3⟩ := smsB_py xs n h
    exact ⟨h1, h2, by show PyData.depthAll (toPys xs) + 1 ≤ n + 1; omega⟩
theorem smsB_py : ∀ (ds : List D) (n : Nat), smsB n ds = true → noDics ds = true ∧ PyData.canLayAll0 (toPys ds) = true ∧ PyData.depthAll (toPys ds) ≤ n
  | [], n, _ => ⟨rfl, rfl, by unfold toPys PyData.depthAll; omega⟩
  | d :: ds, n, h => by
    have h' := Bool.and_eq_true_iff.mp (show (smB n d && smsB n ds) = true from h)
    obtain ⟨a1, a2, a3⟩ := smB_py d n h'.1
    obtain ⟨b1, b2, b3⟩ := smsB_py ds n h'.2
    refine ⟨?_, ?_, ?_⟩
    · show (noDic d && noDics ds) = true; rw [a1, b1]; rfl
    · show (PyData.canLay0 (toPy d) && PyData.canLayAll0 (toPys ds)) = true; rw [a2, b2]; rfl
    · show max (toPy d).depth (PyData.depthAll (toPys ds)) ≤ n; omega
end
theorem smB_shaped {d : D} {n : Nat} (h : smB n d = true) (hn : n ≤ 64) : noDic d = true ∧ SeqAt.shaped (toPy d) = true := by
  obtain ⟨a, b, c⟩ := smB_py d n h
  exact ⟨a, by unfold SeqAt.shaped; rw [b, decide_eq_true (by omega : (toPy d).depth ≤ 64)]; rfl⟩
mutual
theorem eqv_iff : ∀ (a b : D) (n m : Nat), smB n a = true → smB m b = true → (PyData.eqv (toPy a) (toPy b) = true ↔ a = b)
  | .non, b, n, m, _, hb => by cases b <;> first | (constructor <;> intro h <;> first | rfl | cases h) | (cases m <;> cases hb)
  | .int i, b, n, m, _, hb => by
    cases b <;> first
      | (rename_i j; show ((i == j) = true) ↔ _; rw [beq_iff_eq]; exact ⟨fun h => by rw [h], fun h => by cases h; rfl⟩)
      | (constructor <;> intro h <;> cases h)
      | (cases m <;> cases hb)
  | .str i, b, n, m, _, hb => by
    cases b <;> first
      | (rename_i j; show ((i == j) = true) ↔ _; rw [beq_iff_eq]; exact ⟨fun h => by rw [h], fun h => by cases h; rfl⟩)
      | (constructor <;> intro h <;> cases h)
      | (cases m <;> cases hb)
  | .bl _, _, n, _, ha, _ => by cases n <;> cases ha
  | .frz _, _, n, _, ha, _ => by cases n <;> cases ha
  | .dic _, _, n, _, ha, _ => by cases n <;> cases ha
  | .tup _, _, 0, _, ha, _ => by cases ha
  | .lst _, _, 0, _, ha, _ => by cases ha
  | .tup xs, b, n + 1, m, ha, hb => by
    cases b <;> first
      | (rename_i ys; cases m with
          | zero => cases hb
          | succ m =>
            show (PyData.eqvAll (toPys xs) (toPys ys) = true) ↔ _
            rw [eqvs_iff xs ys n m ha hb]
            exact ⟨fun h => by rw [h], fun h => by cases h; rfl⟩)
      | (constructor <;> intro h <;> cases h)
      | (cases m <;> cases hb)
  | .lst xs, b, n + 1, m, ha, hb => by
    cases b <;> first
      | (rename_i ys; cases m with
          | zero => cases hb
          | succ m =>
            show (PyData.eqvAll (toPys xs) (toPys ys) = true) ↔ _
            rw [eqvs_iff xs ys n m ha hb]
            exact ⟨fun h => by rw [h], fun h => by cases h; rfl⟩)
      | (constructor <;> intro h <;> cases h)
      | (cases m <;> cases hb)
theorem eqvs_iff : ∀ (a b : List D) (n m : Nat), smsB n a = true → smsB m b = true → (PyData.eqvAll (toPys a) (toPys b) = true ↔ a = b)
  | [], [], _, _, _, _ => ⟨fun _ => rfl, fun _ => rfl⟩
  | [], _ :: _, _, _, _, _ => ⟨fun h => (by cases h), fun h => (by cases h)⟩
  | _ :: _, [], _, _, _, _ => ⟨fun h => (by cases h), fun h => (by cases h)⟩
  | x :: xs, y :: ys, n, m, ha, hb => by
    have a' := Bool.and_eq_true_iff.mp (show (smB n x && smsB n xs) = true from ha)
    have b' := Bool.and_eq_true_iff.mp (show (smB m y && smsB m ys) = true from hb)
    show ((PyData.eqv (toPy x) (toPy y) && PyData.eqvAll (toPys xs) (toPys ys)) = true) ↔ _
    rw [Bool.and_eq_true, eqv_iff x y n m a'.1 b'.1, eqvs_iff xs ys n m a'.2 b'.2]
    exact ⟨fun h => by rw [h.1, h.2], fun h => by cases h; exact ⟨rfl, rfl⟩⟩
end
/-- the truth of a statement -/
noncomputable def eqP (p : Prop) : Bool := @decide p (Classical.propDecidable p)
theorem eqP_t {p : Prop} (h : p) : eqP p = true := @decide_eq_true p (Classical.propDecidable p) h
theorem eqP_f {p : Prop} (h : ¬ p) : eqP p = false := @decide_eq_false p (Classical.propDecidable p) h
theorem eqP_iff {p : Prop} : eqP p = true ↔ p := ⟨fun h => @of_decide_eq_true p (Classical.propDecidable p) h, eqP_t⟩
theorem eqP_of {p : Prop} {b : Bool} (h : b = true ↔ p) : b = eqP p := by
  cases b with
  | true => exact (eqP_t (h.mp rfl)).symm
  | false => exact (eqP_f fun q => by cases h.mpr q).symm
theorem br_e {p : Prop} {A B : Prop} (h1 : p → A) (h2 : ¬ p → B) : BR (eqP p) A B := ⟨fun h => h1 (eqP_iff.mp h), fun h => h2 fun q => by rw [eqP_t q] at h; cases h⟩
theorem br_et {p : Prop} {A B : Prop} (h : p) (q : A) : BR (eqP p) A B := br_t (eqP_t h) q
theorem br_ef {p : Prop} {A B : Prop} (h : ¬ p) (q : B) : BR (eqP p) A B := br_f (eqP_f h) q
theorem eqB_sm {a b : D} (ha : smB 60 a = true) (hb : smB 60 b = true) : eqB a b = some (eqP (a = b)) := by
  have e := eqP_of (eqv_iff a b 60 60 ha hb)
  have sa := smB_shaped ha (by decide)
  have sb := smB_shaped hb (by decide)
  have gen : (if noDic a = true ∧ noDic b = true ∧ SeqAt.shaped (toPy a) = true ∧ SeqAt.shaped (toPy b) = true then some (PyData.eqv (toPy a) (toPy b)) else none) = some (eqP (a = b)) := by
    rw [if_pos ⟨sa.1, sb.1, sa.2, sb.2⟩, e]
  have nn : ∀ {x y : D}, x ≠ y → some false = some (eqP (x = y)) := fun h => by rw [eqP_f h]
  cases a <;> cases b <;> first
    | exact gen
    | (refine nn ?_; intro h; cases h; done)
    | (rename_i i j; exact congrArg some (eqP_of (b := decide (i = j)) (by rw [decide_eq_true_iff]; exact ⟨fun h => by rw [h], fun h => by cases h; rfl⟩)))
    | (show some true = some _; rw [eqP_t rfl])
theorem wo_eqSm {a b : D} {Q : D → Prop} (ha : smB 60 a = true) (hb : smB 60 b = true) (q : Q (.bl (eqP (a = b)))) : WO (eqD a b) Q := ⟨_, by unfold eqD; rw [eqB_sm ha hb], q⟩
theorem wo_neSm {a b : D} {Q : D → Prop} (ha : smB 60 a = true) (hb : smB 60 b = true) (q : Q (.bl (!eqP (a = b)))) : WO (neD a b) Q := ⟨_, by unfold neD; rw [eqB_sm ha hb], q⟩
theorem smsB_of {n : Nat} : ∀ {ds : List D}, (∀ d ∈ ds, smB n d = true) → smsB n ds = true
  | [], _ => by cases n <;> rfl
  | d :: ds, h => by
    show (smB n d && smsB n ds) = true
    rw [h d List.mem_cons_self, smsB_of fun e m => h e (List.mem_cons_of_mem _ m)]; rfl
theorem smsB_mem {n : Nat} : ∀ {ds : List D} {d : D}, smsB n ds = true → d ∈ ds → smB n d = true
  | [], _, _, m => nomatch m
  | e :: ds, d, h, m => by
    have h' := Bool.and_eq_true_iff.mp (show (smB n e && smsB n ds) = true from h)
    rcases List.mem_cons.mp m with z | z
    · rw [z]; exact h'.1
    · exact smsB_mem h'.2 z
mutual
theorem smB_up : ∀ (d : D) (n m : Nat), n ≤ m → smB n d = true → smB m d = true
  | .non, n, m, _, _ => by cases m <;> rfl
  | .int i, n, m, _, _ => by cases m <;> rfl
  | .str x, n, m, _, h => by cases n <;> cases m <;> exact h
  | .bl b, n, m, _, h => by cases n <;> cases h
  | .frz xs, n, m, _, h => by cases n <;> cases h
  | .dic xs, n, m, _, h => by cases n <;> cases h
  | .tup xs, n, m, hl, h => by
    cases n with
    | zero => cases h
    | succ n => cases m with
      | zero => omega
      | succ m => exact smsB_up xs n m (by omega) h
  | .lst xs, n, m, hl, h => by
    cases n with
    | zero => cases h
    | succ n => cases m with
      | zero => omega
      | succ m => exact smsB_up xs n m (by omega) h
theorem smsB_up : ∀ (ds : List D) (n m : Nat), n ≤ m → smsB n ds = true → smsB m ds = true
  | [], n, m, _, _ => by cases m <;> rfl
  | d :: ds, n, m, hl, h => by
    have h' := Bool.and_eq_true_iff.mp (show (smB n d && smsB n ds) = true from h)
    show (smB m d && smsB m ds) = true
    rw [smB_up d n m hl h'.1, smsB_up ds n m hl h'.2]; rfl
end
theorem nls_nil : noLists [] = true := rfl
/-! ### items by place -/
theorem numsD0_at {n k : Nat} {d : D} (h : (numsD 0 n)[k]? = some d) : k < n ∧ d = .int (k : Int) := by
  obtain ⟨a, rfl⟩ := numsD_at h
  exact ⟨a, by rw [Int.zero_add]⟩
theorem wo_getN {ds : List D} {i : Nat} {d : D} {Q : D → Prop} (e : ds[i]? = some d) (q : Q d) : WO (getD (.lst ds) (.int (i : Int))) Q :=
  wo_getL (atI_pos (Int.natCast_nonneg i) (by rw [Int.toNat_natCast]; exact e)) q
theorem wo_getZ {ds : List D} {i : Int} {d : D} {Q : D → Prop} (h0 : 0 ≤ i) (e : ds[i.toNat]? = some d) (q : Q d) : WO (getD (.lst ds) (.int i)) Q :=
  wo_getL (atI_pos h0 e) q
theorem wo_get1 {a b : D} {ds : List D} {Q : D → Prop} (q : Q b) : WO (getD (.tup (a :: b :: ds)) (.int 1)) Q := ⟨b, by
  show atI (a :: b :: ds) 1 = some b
  unfold atI ixN
  rw [if_pos (by decide), if_pos (by simp; omega)]
  rfl, q⟩
theorem wo_get2 {a b c : D} {ds : List D} {Q : D → Prop} (q : Q c) : WO (getD (.tup (a :: b :: c :: ds)) (.int 2)) Q := ⟨c, by
  show atI (a :: b :: c :: ds) 2 = some c
  unfold atI ixN
  rw [if_pos (by decide), if_pos (by simp; omega)]
  rfl, q⟩
theorem wo_get3 {a b c d : D} {ds : List D} {Q : D → Prop} (q : Q d) : WO (getD (.tup (a :: b :: c :: d :: ds)) (.int 3)) Q := ⟨d, by
  show atI (a :: b :: c :: d :: ds) 3 = some d
  unfold atI ixN
  rw [if_pos (by decide), if_pos (by simp; omega)]
  rfl, q⟩
/-! ### is there anything -/
theorem br_empM {α β : Type} {f : α → β} {l : List α} {A B : Prop} (h1 : l = [] → A) (h2 : 0 < l.length → B) : BR (l.map f).isEmpty A B := ⟨fun h => h1 (by cases l with
    | nil => rfl
    | cons _ _ => cases h), fun h => h2 (by cases l with
    | nil => cases h
    | cons _ _ => exact Nat.succ_pos _)⟩
theorem br_emp {α : Type} {l : List α} {A B : Prop} (h1 : l = [] → A) (h2 : 0 < l.length → B) : BR l.isEmpty A B := ⟨fun h => h1 (by cases l with
    | nil => rfl
    | cons _ _ => cases h), fun h => h2 (by cases l with
    | nil => cases h
    | cons _ _ => exact Nat.succ_pos _)⟩
theorem wo_ixMI {is : List Int} {r : Int} {Q : D → Prop} (h0 : 0 ≤ r) (h1 : r < is.length) (q : ∀ i, i ∈ is → Q (.int i)) : WO (ixD (.lst (is.map D.int)) (.int r)) Q :=
  wo_ixM h0 (by rw [List.length_map]; exact h1) fun d _ m => by
    obtain ⟨i, hi, rfl⟩ := List.mem_map.mp m
    exact q i hi
/-! ### loops over what a name holds; loops over written rows -/
section
variable {ρ : Env} {i : Nat} {g : MG} {b : MS} {tt : MT} {te : ME} {own : List Nat} {d : D} {ds : List D}
theorem seqT (h : noLists ds = true) : seqD (.tup ds) = some ds := by unfold seqD; dsimp only; rw [if_pos h]
theorem seqL (h : noLists ds = true) : seqD (.lst ds) = some ds := by unfold seqD; dsimp only; rw [if_pos h]
theorem ws_forAt {Q : Out → Env → Prop} (e : nth ρ i = some (.tup ds)) (n : noLists ds = true) (h : WL g b ds ρ Q) : WS (sForA i g b) ρ Q := ws_forA e rfl (ws_forV e rfl (seqT n) n h)
theorem ws_forAl {Q : Out → Env → Prop} (e : nth ρ i = some (.lst ds)) (n : noLists ds = true) (h : NE (ρ.set i none) fun ρ0 => WL g b ds ρ0 (fvK i (.lst ds) Q)) : WS (sForA i g b) ρ Q := ws_forA e rfl (ws_forVL e rfl (seqL n) rfl h)
theorem we_lcVt {Q : D → Env → Prop} (e : nth ρ i = some (.tup ds)) (n : noLists ds = true) (hl : ds.length ≤ 16777216) (h : NE (wipeE own ρ) fun ρ2 => WC g tt te own ds ρ2 fun ys ρ3 => Q (.lst ys) ρ3) : WE (eLcV i g tt te own) ρ Q := we_lcV e rfl (seqT n) n hl h
theorem we_lcVl {Q : D → Env → Prop} (e : nth ρ i = some (.lst ds)) (n : noLists ds = true) (hl : ds.length ≤ 16777216) (h : NE (wipeE own (ρ.set i none)) fun ρ2 => WC g tt te own ds ρ2 fun ys ρ3 => NE (ρ3.set i (some (.lst ds))) fun ρ4 => Q (.lst ys) ρ4) : WE (eLcV i g tt te own) ρ Q := we_lcVL e rfl (seqL n) rfl hl h
theorem fv_nx {Q : Out → Env → Prop} (h : NE (ρ.set i (some d)) (Q .nx)) : fvK i d Q .nx ρ := h
theorem fv_rt {r : D} {Q : Out → Env → Prop} (h : NE (ρ.set i (some d)) (Q (.rt r))) : fvK i d Q (.rt r) ρ := h
theorem wc_consA {Q : List D → Env → Prop} (h : WG g d ρ fun ρ1 => WT tt ρ1 fun b ρ2 => BR b (WE te ρ2 fun y ρ3 => NE (wipeE own ρ3) fun ρ4 => WC g tt te own ds ρ4 fun ys ρ5 => Q (y :: ys) ρ5) (NE (wipeE own ρ2) fun ρ4 => WC g tt te own ds ρ4 Q)) : WC g tt te own (d :: ds) ρ Q := by
  obtain ⟨ρ1, eg, b, ρ2, et, h1, h2⟩ := h
  cases b with
  | true =>
    obtain ⟨y, ρ3, ey, ys, ρ', e', q'⟩ := h1 rfl
    exact ⟨y :: ys, ρ', by unfold lcD; rw [eg]; dsimp only; rw [et]; dsimp only; rw [ey]; dsimp only; rw [e'], q'⟩
  | false =>
    obtain ⟨ys, ρ', e', q'⟩ := h2 rfl
    exact ⟨ys, ρ', by unfold lcD; rw [eg]; dsimp only; rw [et]; exact e', q'⟩
theorem wl_consA {Q : Out → Env → Prop} (h : WG g d ρ fun ρ1 => WS b ρ1 (lpK (fun ρ2 => WL g b ds ρ2 Q) Q)) : WL g b (d :: ds) ρ Q := by
  obtain ⟨ρ1, eg, o, ρ2, eb, q⟩ := h
  cases o with
  | nx =>
    obtain ⟨o', ρ', e', q'⟩ := q
    exact ⟨o', ρ', by unfold forD; rw [eg]; dsimp only; rw [eb]; exact e', q'⟩
  | ct =>
    obtain ⟨o', ρ', e', q'⟩ := q
    exact ⟨o', ρ', by unfold forD; rw [eg]; dsimp only; rw [eb]; exact e', q'⟩
  | bk => exact ⟨.nx, ρ2, by unfold forD; rw [eg]; dsimp only; rw [eb], q⟩
  | rt r => exact ⟨.rt r, ρ2, by unfold forD; rw [eg]; dsimp only; rw [eb], q⟩
end
end Bv

namespace Bv
open PySem PySem.Spec PyProof.Rows L2
/-! ### loops over a name's list that stays readable: turn k takes what stands at k then -/
def forI (i : Nat) (g : MG) (b : MS) : Nat → Nat → Env → Option (Out × Env)
  | 0, k, ρ => (match nth ρ i with
    | some (.lst ds) => if ds.length ≤ k then some (.nx, ρ) else none
    | _ => none)
  | n + 1, k, ρ => (match nth ρ i with
    | some (.lst ds) => (match ds[k]? with
      | some d => if noList d then (match g d ρ with
        | some ρ1 => (match b ρ1 with
          | some (.nx, ρ2) => forI i g b n (k + 1) ρ2
          | some (.ct, ρ2) => forI i g b n (k + 1) ρ2
          | some (.bk, ρ2) => some (.nx, ρ2)
          | some (.rt r, ρ2) => some (.rt r, ρ2)
          | none => none)
        | none => none) else none
      | none => some (.nx, ρ))
    | _ => none)
def lcI (i : Nat) (g : MG) (tt : MT) (te : ME) (own : List Nat) : Nat → Nat → Env → Option (List D × Env)
  | 0, k, ρ => (match nth ρ i with
    | some (.lst ds) => if ds.length ≤ k then some ([], ρ) else none
    | _ => none)
  | n + 1, k, ρ => (match nth ρ i with
    | some (.lst ds) => (match ds[k]? with
      | some d => if noList d then (match g d ρ with
        | some ρ1 => (match tt ρ1 with
          | some (true, ρ2) => (match te ρ2 with
            | some (y, ρ3) => (match lcI i g tt te own n (k + 1) (wipeE own ρ3) with
              | some (ys, ρ4) => some (y :: ys, ρ4)
              | none => none)
            | none => none)
          | some (false, ρ2) => lcI i g tt te own n (k + 1) (wipeE own ρ2)
          | none => none)
        | none => none) else none
      | none => some ([], ρ))
    | _ => none)
theorem forI_core {K : PySem.W.Frag} {i0 : Nat} {a0 : Addr} {fp : List Addr} {io : List Nat} {σ : L2.St} {H : Hp} {ρ ρ' : Env} {o : Out} {g : MG} {b : MS} {D : Ends} {N0 : Nat} (hio : i0 ∈ io) (hσ : σ[i0]? = some (some (.ref a0))) (R : Rel K H σ ρ fp)
    (e : forI i0 g b N0 0 ρ = some (o, ρ')) (k : SPost K io D σ H fp ρ' o) :
    ∃ W : Nat → Nat → L2.St → Hp → Prop, (∃ m, W 0 m σ H) ∧ ∀ i m σ H, W i m σ H →
      ((Itl K a0).stop i H ∧ D.nx σ H) ∨ ((Itl K a0).go i H ∧ ∃ N : L2.St → Hp → Prop, (∀ σ' H', N σ' H' → ∃ m', m' < m ∧ W (i + 1) m' σ' H') ∧ ∀ x H', (Itl K a0).yld i H x H' → tG K io g x σ H' fun σ2 H2 => tS K io b { D with nx := N, ct := N, bk := D.nx } σ2 H2) := by
  refine ⟨fun i m σ1 H1 => m + i = N0 ∧ ∃ ρ1 fp1, Rel K H1 σ1 ρ1 fp1 ∧ forI i0 g b m i ρ1 = some (o, ρ') ∧ Chg H H1 fp fp1 ∧ Pin io σ σ1, ⟨N0, by omega, ρ, fp, R, e, Chg.refl, Pin.refl⟩, ?_⟩
  rintro i m σ1 H1 ⟨hm, ρ1, fp1, R1, e1, c1, p1⟩
  have hsl : ∃ ds, nth ρ1 i0 = some (.lst ds) ∧ ((ds[i]? = none ∧ o = .nx ∧ ρ1 = ρ') ∨ ∃ m' d, m = m' + 1 ∧ ds[i]? = some d ∧ noList d = true ∧ (match g d ρ1 with
      | some ρ1 => (match b ρ1 with
        | some (.nx, ρ2) => forI i0 g b m' (i + 1) ρ2
        | some (.ct, ρ2) => forI i0 g b m' (i + 1) ρ2
        | some (.bk, ρ2) => some (.nx, ρ2)
        | some (.rt r, ρ2) => some (.rt r, ρ2)
        | none => none)
      | none => none) = some (o, ρ')) := by
    cases m with
    | zero =>
      unfold forI at e1
      split at e1
      · rename_i ds e0
        split at e1
        · rename_i hle
          cases e1
          exact ⟨ds, e0, .inl ⟨List.getElem?_eq_none hle, rfl, rfl⟩⟩
        · cases e1
      · cases e1
    | succ m' =>
      unfold forI at e1
      split at e1
      · rename_i ds e0
        split at e1
        · rename_i d hd
          split at e1
          · rename_i hn
            exact ⟨ds, e0, .inr ⟨m', d, rfl, hd, hn, e1⟩⟩
          · cases e1
        · rename_i hd
          cases e1
          exact ⟨ds, e0, .inl ⟨hd, rfl, rfl⟩⟩
      · cases e1
  obtain ⟨ds, e0, hcase⟩ := hsl
  obtain ⟨v0, f0, hv0, r0, _⟩ := R1.get (nth_some e0)
  rw [p1.2 i0 hio, hσ] at hv0
  cases hv0
  cases r0 with
  | @lst _ xs _ f hl rs =>
  rcases hcase with ⟨hn, rfl, rfl⟩ | ⟨m', d, rfl, hd, hn, e2⟩
  · exact .inl ⟨⟨xs, .inl (.inl hl), by rw [rs.length]; exact List.getElem?_eq_none_iff.mp hn⟩, k σ1 H1 fp1 R1 c1 p1⟩
  · obtain ⟨v, fv, ev, rv, sb⟩ := rs.getS hd
    have z := Rep.nol _ _ _ rv hn
    subst z
    refine .inr ⟨⟨xs, v, .inl (.inl hl), ev⟩, fun σ' H' => (m' + (i + 1) = N0 ∧ ∃ ρ1 fp1, Rel K H' σ' ρ1 fp1 ∧ forI i0 g b m' (i + 1) ρ1 = some (o, ρ') ∧ Chg H H' fp fp1 ∧ Pin io σ σ'), fun σ' H' ⟨h1, h2⟩ => ⟨m', Nat.lt_succ_self m', h1, h2⟩, fun x H3 y => ?_⟩
    obtain ⟨rfl, hy2⟩ := y
    have hy3 := hy2 xs (.inl (.inl hl))
    rw [ev] at hy3
    cases hy3
    split at e2
    · rename_i ρ2 e3
      refine ⟨ρ1, d, ρ2, fp1, R1, rv, e3, fun σ2 H2 fp2 R2 c2 p2 => ?_⟩
      have c12 : Chg H H2 fp fp2 := c1.trans c2 fun a m => m
      have p12 := p1.trans p2
      split at e2
      · rename_i ρ3 e4
        exact ⟨ρ2, .nx, ρ3, fp2, R2, e4, fun σ3 H3 fp3 R3 c3 p3 => ⟨by omega, ρ3, fp3, R3, e2, c12.trans c3 fun a m => m, p12.trans p3⟩⟩
      · rename_i ρ3 e4
        exact ⟨ρ2, .ct, ρ3, fp2, R2, e4, fun σ3 H3 fp3 R3 c3 p3 => ⟨by omega, ρ3, fp3, R3, e2, c12.trans c3 fun a m => m, p12.trans p3⟩⟩
      · rename_i ρ3 e4
        cases e2
        exact ⟨ρ2, .bk, ρ', fp2, R2, e4, fun σ3 H3 fp3 R3 c3 p3 => k σ3 H3 fp3 R3 (c12.trans c3 fun a m => m) (p12.trans p3)⟩
      · rename_i r ρ3 e4
        cases e2
        exact ⟨ρ2, .rt r, ρ', fp2, R2, e4, fun v σ3 H3 fp3 fr R3 rr nn c3 p3 => k v σ3 H3 fp3 fr R3 rr nn (c12.trans c3 fun a m => m) (p12.trans p3)⟩
      · cases e2
    · cases e2
theorem lcI_turns {i0 : Nat} {a0 : Addr} {ys : List D} {fp1 : List Addr} {σ : L2.St} {H1 : Hp} {ρ1 ρ' : Env} {g : MG} {tt : MT} {te : ME} {own : List Nat} {io : List Nat} {K : PySem.W.Frag} {Q : VK} {N0 : Nat} (hio : ∀ σ2, Pin io (L2.wipe σ own) σ2 → L2.wipe σ2 own = L2.wipe σ own)
    (hσ : (L2.wipe σ own)[i0]? = some (some (.ref a0))) (R1 : Rel K H1 σ ρ1 fp1) (hz : N0 ≤ 16777216) (e2 : lcI i0 g tt te own N0 0 (wipeE own ρ1) = some (ys, ρ')) (D : Addr) (hD : H1 D = none)
    (k : ∀ H3 fp3 fr, Rel K H3 σ ρ' fp3 → Rep K H3 (.ref D) (.lst ys) fr → (fr ++ fp3).Nodup → Chg H1 H3 fp1 (fr ++ fp3) → Q (.ref D) H3) :
    ∃ W : Nat → Nat → Hp → Prop, (∃ m, W 0 m (upd H1 D (.lst []))) ∧ ∀ i m H, W i m H →
      ((Itl K a0).stop i H ∧ Q (.ref D) H) ∨ ((Itl K a0).go i H ∧ ∃ Nx : Hp → Prop, (∀ H', Nx H' → ∃ m', m' < m ∧ W (i + 1) m' H') ∧ ∀ x H', (Itl K a0).yld i H x H' → tG K io g x (L2.wipe σ own) H' fun σ2 H2 => L2.wipe σ2 own = L2.wipe σ own ∧ tT K tt σ2 H2 fun b H3 =>
        if b = true then tM K te σ2 H3 fun y H4 => ∃ acc, H4 D = some (.lst acc) ∧ acc.length < sizeLine ∧ Nx (upd H4 D (.lst (acc ++ [y]))) else Nx H3) := by
  obtain ⟨fp2, R2, s2⟩ := R1.wipe own
  have Dfp : D ∉ fp1 := fun m => by
    have := R1.mb D m
    rw [hD] at this; exact this
  refine ⟨fun i m H => m + i = N0 ∧ ∃ ρ3 fp3 acc ys0 fa rest, Rel K H (L2.wipe σ own) ρ3 fp3 ∧ H D = some (.lst acc) ∧ Reps K H acc ys0 fa ∧ (D :: (fa ++ fp3)).Nodup ∧ lcI i0 g tt te own m i ρ3 = some (rest, ρ') ∧ ys0 ++ rest = ys ∧ ys0.length ≤ i ∧ Chg H1 H fp1 (D :: (fa ++ fp3)), ?_, ?_⟩
  · have sm := same_upd (o := .lst []) hD
    refine ⟨N0, by omega, wipeE own ρ1, fp2, [], [], [], ys, R2.same sm, upd_same, .nil, ?_, e2, rfl, Nat.le_refl _, ?_⟩
    · exact List.nodup_cons.mpr ⟨fun m => Dfp (s2 D m), R2.nodup⟩
    · refine ⟨fun b o e _ => sm b o e, fun b m => ?_⟩
      rcases List.mem_cons.mp m with e | m
      · subst e; exact .inr hD
      · exact .inl (s2 b m)
  · rintro i m H3 ⟨hm, ρ3, fp3, acc, ys0, fa, rest, R3, hacc, ra, n3, e3, ey, hy, c3⟩
    have n4 := List.nodup_cons.mp n3
    have hsl : ∃ ds, nth ρ3 i0 = some (.lst ds) ∧ ((ds[i]? = none ∧ rest = [] ∧ ρ3 = ρ') ∨ ∃ m' d, m = m' + 1 ∧ ds[i]? = some d ∧ noList d = true ∧ (match g d ρ3 with
        | some ρ1 => (match tt ρ1 with
          | some (true, ρ2) => (match te ρ2 with
            | some (y, ρ3) => (match lcI i0 g tt te own m' (i + 1) (wipeE own ρ3) with
              | some (ys, ρ4) => some (y :: ys, ρ4)
              | none => none)
            | none => none)
          | some (false, ρ2) => lcI i0 g tt te own m' (i + 1) (wipeE own ρ2)
          | none => none)
        | none => none) = some (rest, ρ')) := by
      cases m with
      | zero =>
        unfold lcI at e3
        split at e3
        · rename_i ds e0
          split at e3
          · rename_i hle
            cases e3
            exact ⟨ds, e0, .inl ⟨List.getElem?_eq_none hle, rfl, rfl⟩⟩
          · cases e3
        · cases e3
      | succ m' =>
        unfold lcI at e3
        split at e3
        · rename_i ds e0
          split at e3
          · rename_i d hd
            split at e3
            · rename_i hn
              exact ⟨ds, e0, .inr ⟨m', d, rfl, hd, hn, e3⟩⟩
            · cases e3
          · rename_i hd
            cases e3
            exact ⟨ds, e0, .inl ⟨hd, rfl, rfl⟩⟩
        · cases e3
    obtain ⟨ds, e0, hcase⟩ := hsl
    obtain ⟨v0, f0, hv0, r0, _⟩ := R3.get (nth_some e0)
    rw [hσ] at hv0
    cases hv0
    cases r0 with
    | @lst _ xs _ f hl rs =>
    rcases hcase with ⟨hn, rfl, rfl⟩ | ⟨m', d, rfl, hd, hn, e3⟩
    · rw [List.append_nil] at ey
      subst ey
      exact .inl ⟨⟨xs, .inl (.inl hl), by rw [rs.length]; exact List.getElem?_eq_none_iff.mp hn⟩, k H3 fp3 (D :: fa) R3.unwipe (.lst hacc ra) n3 c3⟩
    · obtain ⟨v1, fv, ev, rv1, sb⟩ := rs.getS hd
      have z1 := Rep.nol _ _ _ rv1 hn
      subst z1
      refine .inr ⟨⟨xs, v1, .inl (.inl hl), ev⟩, fun H => m' + (i + 1) = N0 ∧ ∃ ρ3 fp3 acc ys0 fa rest, Rel K H (L2.wipe σ own) ρ3 fp3 ∧ H D = some (.lst acc) ∧ Reps K H acc ys0 fa ∧ (D :: (fa ++ fp3)).Nodup ∧ lcI i0 g tt te own m' (i + 1) ρ3 = some (rest, ρ') ∧ ys0 ++ rest = ys ∧ ys0.length ≤ i + 1 ∧ Chg H1 H fp1 (D :: (fa ++ fp3)), fun H' ⟨h1, h2⟩ => ⟨m', Nat.lt_succ_self m', h1, h2⟩, fun x H4 y => ?_⟩
      obtain ⟨eH, hy2⟩ := y
      have hy3 := hy2 xs (.inl (.inl hl))
      rw [ev] at hy3
      cases hy3
      have sm : Same H3 H4 := by rw [eH]; exact Same.refl _
      have rx : Rep K H4 v1 d [] := by rw [eH]; exact rv1
      split at e3
      · rename_i ρ4 e4
        refine ⟨ρ3, d, ρ4, fp3, R3.same sm, rx, e4, fun σ5 H5 fp5 R5 c5 p5 => ⟨hio σ5 p5, ?_⟩⟩
        -- the list that grows, held aside
        have C5 : Chg H3 H5 fp3 fp5 := (Chg.same sm).trans c5 fun a m => m
        have side : ∀ {H H' : Hp} {fp fp' : List Addr}, H D = some (.lst acc) → Reps K H acc ys0 fa → (D :: (fa ++ fp)).Nodup → (∀ b ∈ fp, Mb (H b)) → Chg H H' fp fp' → fp'.Nodup → H' D = some (.lst acc) ∧ Reps K H' acc ys0 fa ∧ (D :: (fa ++ fp')).Nodup := by
          intro H H' fp fp' h1 h2 h3 h4 h5 h6
          have q := List.nodup_cons.mp h3
          refine ⟨h5.keep D _ h1 fun m => q.1 (List.mem_append_right _ m), reps_aside h2 h5 h4 q.2, ?_⟩
          have z : (D :: fa) ++ fp' = D :: (fa ++ fp') := rfl
          rw [← z]
          exact nd_aside h5 (fun a m => by
            rcases List.mem_cons.mp m with e | m
            · subst e; rw [h1]; trivial
            · exact Reps.mb _ _ _ h2 a m) h3 h6
        obtain ⟨a5, b5, n5⟩ := side hacc ra n3 R3.mb C5 R5.nodup
        split at e3
        · rename_i ρ6 e6
          refine ⟨ρ4, true, ρ6, fp5, R5, e6, fun H6 fp6 R6 c6 => iteT ?_⟩
          obtain ⟨a6, b6, n6⟩ := side a5 b5 n5 R5.mb c6 R6.nodup
          split at e3
          · rename_i yv ρ7 e7
            split at e3
            · rename_i ys' ρ8 e8
              cases e3
              refine ⟨ρ6, yv, ρ7, fp6, R6, e7, fun v H7 fp7 fr R7 rv n7 c7 => ?_⟩
              obtain ⟨a7, b7, n8⟩ := side a6 b6 n6 R6.mb c7 n7
              refine ⟨acc, a7, szlt (by rw [ra.length]; omega), by omega, ?_⟩
              obtain ⟨fp8, R8, s8⟩ := R7.wipe own
              rw [hio σ5 p5] at R8
              have n9 := List.nodup_cons.mp n8
              have n10 := List.nodup_append.mp n9.2
              have n11 := List.nodup_append.mp n7
              have hb := keep_upd (K := K) (xs' := acc ++ [v]) a7
              have Dfr : D ∉ fr := fun m => n9.1 (List.mem_append_right _ (List.mem_append_left _ m))
              have Dfa : D ∉ fa := fun m => n9.1 (List.mem_append_left _ m)
              refine ⟨wipeE own ρ7, fp8, acc ++ [v], ys0 ++ [yv], fa ++ fr, ys', ?_, upd_same, ?_, ?_, e8, by rw [List.append_assoc]; exact ey, by rw [List.length_append]; simp; omega, ?_⟩
              · exact R8.keep hb.1 hb.2 fun b m z => n9.1 (List.mem_append_right _ (List.mem_append_right _ (s8 D (List.mem_singleton.mp z ▸ m))))
              · exact (reps_upd a7 b7 Dfa).append (reps_upd a7 (Reps.single rv) Dfr)
              · have z : D :: (fa ++ fr ++ fp8) = (D :: (fa ++ fr)) ++ fp8 := rfl
                rw [z]
                refine nd_sub (A := fp7) ?_ R8.nodup s8
                have z2 : (D :: (fa ++ fr)) ++ fp7 = D :: (fa ++ (fr ++ fp7)) := by rw [← List.append_assoc]; rfl
                rw [z2]
                exact n8
              · have c31 : Chg H1 H6 fp1 ((D :: fa) ++ fp6) := chg_step (chg_step (l := D :: fa) c3 C5) c6
                have c37 : Chg H1 H7 fp1 ((D :: fa) ++ (fr ++ fp7)) := chg_step c31 c7
                refine (chg_in c37 hD).sub fun b m => ?_
                rcases List.mem_cons.mp m with e | m
                · subst e; exact List.mem_append_left _ List.mem_cons_self
                · rcases List.mem_append.mp m with m | m
                  · rcases List.mem_append.mp m with m | m
                    · exact List.mem_append_left _ (List.mem_cons_of_mem _ m)
                    · exact List.mem_append_right _ (List.mem_append_left _ m)
                  · exact List.mem_append_right _ (List.mem_append_right _ (s8 b m))
            · cases e3
          · cases e3
        · rename_i ρ6 e6
          refine ⟨ρ4, false, ρ6, fp5, R5, e6, fun H6 fp6 R6 c6 => iteF ?_⟩
          obtain ⟨a6, b6, n6⟩ := side a5 b5 n5 R5.mb c6 R6.nodup
          obtain ⟨fp8, R8, s8⟩ := R6.wipe own
          rw [hio σ5 p5] at R8
          refine ⟨by omega, wipeE own ρ6, fp8, acc, ys0, fa, rest, R8, a6, b6, ?_, e3, ey, by omega, ?_⟩
          · have z : D :: (fa ++ fp8) = (D :: fa) ++ fp8 := rfl
            rw [z]
            exact nd_sub (A := fp6) n6 R8.nodup s8
          · have c31 : Chg H1 H6 fp1 ((D :: fa) ++ fp6) := chg_step (chg_step (l := D :: fa) c3 C5) c6
            refine c31.sub fun b m => ?_
            rcases List.mem_append.mp (show b ∈ (D :: fa) ++ fp8 from m) with m | m
            · exact List.mem_append_left _ m
            · exact List.mem_append_right _ (s8 b m)
        · cases e3
      · cases e3
def sForB (i : Nat) (g : MG) (b : MS) : MS := fun ρ => match nth ρ i with
  | some (.lst ds) => if noLists ds then forI i g b ds.length 0 ρ else sForA i g b ρ
  | _ => sForA i g b ρ
def eLcW (i : Nat) (g : MG) (tt : MT) (te : ME) (own : List Nat) : ME := fun ρ => match nth ρ i with
  | some (.lst ds) => if noLists ds then (if ds.length ≤ 16777216 then (match lcI i g tt te own ds.length 0 (wipeE own ρ) with
    | some (ys, ρ1) => some (.lst ys, ρ1)
    | none => none) else none) else eLcV i g tt te own ρ
  | _ => eLcV i g tt te own ρ
theorem js_forB {X : Cx} {io : List Nat} {sts : List Stmt} {pos : Pos} {i : Nat} {tg : Expr} {g : MG} {b : MS} {iter : Expr} (hp : PassesOwn (model X.prog X.w) X.A X.env X.xe) (hc : X.calm = true) (hi : PE X iter (tVar i)) (hg : JG X (i :: io) tg g) (hb : JSs X (i :: io) sts b)
    (hs : ∀ x, foldedSetIterable iter X.env x = pure x := by intro _; rfl) : JS X io (.For tg iter sts [] pos) (sForB i g b) := ⟨fun pins s σ H D' I h => by
  obtain ⟨ρ, o, ρ', fp, R, e, k⟩ := h
  by_cases hz : ∃ ds, nth ρ i = some (.lst ds) ∧ noLists ds = true
  · obtain ⟨ds, en, hn⟩ := hz
    unfold sForB at e
    rw [en] at e
    dsimp only at e
    rw [if_pos hn] at e
    have k' : SPost X.K (i :: io) D' σ H fp ρ' o := by
      cases o with
      | nx => exact fun σ' H' fp' R' c p => k σ' H' fp' R' c ⟨p.1, fun j m => p.2 j (List.mem_cons_of_mem _ m)⟩
      | bk => exact fun σ' H' fp' R' c p => k σ' H' fp' R' c ⟨p.1, fun j m => p.2 j (List.mem_cons_of_mem _ m)⟩
      | ct => exact fun σ' H' fp' R' c p => k σ' H' fp' R' c ⟨p.1, fun j m => p.2 j (List.mem_cons_of_mem _ m)⟩
      | rt d => exact fun v σ' H' fp' fr R' r n c p => k v σ' H' fp' fr R' r n c ⟨p.1, fun j m => p.2 j (List.mem_cons_of_mem _ m)⟩
    obtain ⟨v, f, hv, r, _⟩ := R.get (nth_some en)
    cases r with
    | @lst a xs _ f hl rs =>
    have C := forI_core (io := i :: io) List.mem_cons_self hv R e k'
    exact (ps_for hp hc (pi_any hi) hg hb hs).run pins s σ H D' I (.inr ⟨_, hv, a, rfl, ⟨xs, .inl (.inl hl)⟩, C⟩)
  · refine (js_forA hp hc hi hg hb hs).run pins s σ H D' I ⟨ρ, o, ρ', fp, R, ?_, k⟩
    unfold sForB at e
    split at e
    · rename_i ds en
      split at e
      · rename_i hn; exact absurd ⟨ds, en, hn⟩ hz
      · exact e
    · exact e⟩
section
variable {X : Cx} {own : List (Str × Nat)} {elt tg iter : Expr} {ifs : List Expr} {scope : Scope} {pos : Pos} {g : MG} {tt : MT} {te : ME}
theorem eLcW_t {i : Nat} {g : MG} {tt : MT} {te : ME} {own : List Nat} {io : List Nat} (hn : i ∉ own) (hio : ∀ σ : L2.St, σ.length = X.N.length → ∀ σ2, Pin io (L2.wipe σ own) σ2 → L2.wipe σ2 own = L2.wipe σ own) (σ : L2.St) (H : Hp) (Q : VK) (hσ : σ.length = X.N.length) (h : tM X.K (eLcW i g tt te own) σ H Q) :
    tLc (tiAny X.K (tVar i)) (tG X.K io g) (tT X.K tt) (tM X.K te) own σ H Q := by
  obtain ⟨ρ, d, ρ', fp, R, e, k⟩ := h
  by_cases hz : ∃ ds, nth ρ i = some (.lst ds) ∧ noLists ds = true
  · obtain ⟨ds, en, hnl⟩ := hz
    unfold eLcW at e
    rw [en] at e
    dsimp only at e
    rw [if_pos hnl] at e
    split at e
    · rename_i hl
      split at e
      · rename_i ys ρ1 e3
        cases e
        obtain ⟨v, f, hv, r, _⟩ := R.get (nth_some en)
        cases r with
        | @lst a xs _ f hla rs =>
        exact .inr ⟨_, hv, a, rfl, ⟨xs, .inl (.inl hla)⟩, fun D hD => lcI_turns (K := X.K) (tt := tt) (te := te) (Q := Q) (hio σ hσ) (by rw [wipe_out hn]; exact hv) R hl e3 D hD fun H3 fp3 fr R3 r3 n3 c3 => k (.ref D) H3 fp3 fr R3 r3 n3 c3⟩
      · cases e
    · cases e
  · refine eLcV_t hio σ H Q hσ ⟨ρ, d, ρ', fp, R, ?_, k⟩
    unfold eLcW at e
    split at e
    · rename_i ds en
      split at e
      · rename_i hn; exact absurd ⟨ds, en, hn⟩ hz
      · exact e
    · exact e
theorem je_lcW {i : Nat} (io : List Nat) (hc : X.calm = true) (hN : X.N.Nodup) (hi : PE X iter (tVar i)) (hown : i ∉ own.map (·.2)) (ok : BlkOk X.N X.env.scope scope own) (hio : (others X.N.length (own.map (·.2))).all (fun i => io.contains i) = true)
    (hg : ∀ (s : Shared) (H : Hp) (C : Addr) (cl : List (Str × Addr)) (fp : List Addr), JG (X.blk s H scope (compEnvC scope cl C X.env) fp) io tg g) (ht : ∀ (s : Shared) (H : Hp) (C : Addr) (cl : List (Str × Addr)) (fp : List Addr), PTs (X.blk s H scope (compEnvC scope cl C X.env) fp) ifs (tT X.K tt))
    (he : ∀ (s : Shared) (H : Hp) (C : Addr) (cl : List (Str × Addr)) (fp : List Addr), JE (X.blk s H scope (compEnvC scope cl C X.env) fp) elt te) (hs : ∀ x, foldedSetIterable iter X.env x = pure x := by intro _; rfl) :
    JE X (.ListComp elt [⟨tg, iter, ifs, 0⟩] scope pos) (eLcW i g tt te (own.map (·.2))) :=
  ⟨fun pins s σ H Q I h => (pe_lc hc hN (pi_any hi) ok hg ht he hs).run pins s σ H Q I (eLcW_t hown (others_ok hio) σ H Q I.len h)⟩
theorem js_setLcW {i j : Nat} {y : Str} {py spos : Pos} (io : List Nat) {io' : List Nat} (hc : X.calm = true) (hN : X.N.Nodup) (hi : PE X iter (tVar i)) (hown : i ∉ own.map (·.2)) (ok : BlkOk X.N X.env.scope scope own) (hio : (others X.N.length (own.map (·.2))).all (fun i => io.contains i) = true)
    (hg : ∀ (s : Shared) (H : Hp) (C : Addr) (cl : List (Str × Addr)) (fp : List Addr), JG (X.blk s H scope (compEnvC scope cl C X.env) fp) io tg g) (ht : ∀ (s : Shared) (H : Hp) (C : Addr) (cl : List (Str × Addr)) (fp : List Addr), PTs (X.blk s H scope (compEnvC scope cl C X.env) fp) ifs (tT X.K tt))
    (he : ∀ (s : Shared) (H : Hp) (C : Addr) (cl : List (Str × Addr)) (fp : List Addr), JE (X.blk s H scope (compEnvC scope cl C X.env) fp) elt te)
    (hsw : swapsWith (.ListComp elt [⟨tg, iter, ifs, 0⟩] scope pos) (some (.Name y py)) spos.line X.env = pure true) (hy : X.N[j]? = some y := by rfl) (hyo : j ∉ io' := by decide) (hyl : X.env.scope.names.lookup y = some .local := by rfl) (hs : ∀ x, foldedSetIterable iter X.env x = pure x := by intro _; rfl) :
    JS X io' (.Assign [.Name y py] (.ListComp elt [⟨tg, iter, ifs, 0⟩] scope pos) spos) (sSet j (eLcW i g tt te (own.map (·.2)))) :=
  ⟨fun pins s σ H D I h => (ps_setLc hc hN hy hyl hsw (pi_any hi) ok hg ht he hs).run pins s σ H D I (by
    have h' := gName_t hyo D σ H h
    exact eLcW_t hown (others_ok hio) σ H _ I.len h')⟩

end
section
variable {ρ : Env} {i : Nat} {g : MG} {b : MS} {tt : MT} {te : ME} {own : List Nat} {ds : List D}
def WLI (i : Nat) (g : MG) (b : MS) (n k : Nat) (ρ : Env) (Q : Out → Env → Prop) : Prop := ∃ o ρ', forI i g b n k ρ = some (o, ρ') ∧ Q o ρ'
def WCI (i : Nat) (g : MG) (tt : MT) (te : ME) (own : List Nat) (n k : Nat) (ρ : Env) (Q : List D → Env → Prop) : Prop := ∃ ys ρ', lcI i g tt te own n k ρ = some (ys, ρ') ∧ Q ys ρ'
def WLIs (i : Nat) (g : MG) (b : MS) (rest : List D) (k : Nat) (ρ : Env) (Q : Out → Env → Prop) : Prop := WLI i g b rest.length k ρ Q
def WCIs (i : Nat) (g : MG) (tt : MT) (te : ME) (own : List Nat) (rest : List D) (k : Nat) (ρ : Env) (Q : List D → Env → Prop) : Prop := WCI i g tt te own rest.length k ρ Q
theorem ws_forBl {Q : Out → Env → Prop} (e : nth ρ i = some (.lst ds)) (n : noLists ds = true) (h : WLIs i g b ds 0 ρ Q) : WS (sForB i g b) ρ Q := by
  obtain ⟨o, ρ', e2, q⟩ := h
  exact ⟨o, ρ', by unfold sForB; rw [e]; dsimp only; rw [if_pos n]; exact e2, q⟩
theorem ws_forBt {Q : Out → Env → Prop} (e : nth ρ i = some (.tup ds)) (n : noLists ds = true) (h : WL g b ds ρ Q) : WS (sForB i g b) ρ Q := by
  obtain ⟨o, ρ', e2, q⟩ := ws_forAt e n h
  exact ⟨o, ρ', by unfold sForB; rw [e]; exact e2, q⟩
theorem ws_forBs {z : Str} {Q : Out → Env → Prop} (e : nth ρ i = some (.str z)) (h : WL g b (z.cps.toList.map fun c => .str ⟨#[c]⟩) ρ Q) : WS (sForB i g b) ρ Q := by
  obtain ⟨o, ρ', e2, q⟩ := ws_forS e h
  exact ⟨o, ρ', by unfold sForB; rw [e]; exact e2, q⟩
theorem we_lcWl {Q : D → Env → Prop} (e : nth ρ i = some (.lst ds)) (n : noLists ds = true) (hl : ds.length ≤ 16777216) (h : NE (wipeE own ρ) fun ρ0 => WCIs i g tt te own ds 0 ρ0 fun ys ρ3 => Q (.lst ys) ρ3) : WE (eLcW i g tt te own) ρ Q := by
  obtain ⟨ys, ρ', e2, q⟩ := h
  exact ⟨_, ρ', by unfold eLcW; rw [e]; dsimp only; rw [if_pos n, if_pos hl, e2], q⟩
theorem we_lcWt {Q : D → Env → Prop} (e : nth ρ i = some (.tup ds)) (n : noLists ds = true) (hl : ds.length ≤ 16777216) (h : NE (wipeE own ρ) fun ρ2 => WC g tt te own ds ρ2 fun ys ρ3 => Q (.lst ys) ρ3) : WE (eLcW i g tt te own) ρ Q := by
  obtain ⟨d, ρ', e2, q⟩ := we_lcVt e n hl h
  exact ⟨d, ρ', by unfold eLcW; rw [e]; exact e2, q⟩
theorem we_lcWf {Q : D → Env → Prop} (e : nth ρ i = some (.frz ds)) (n : noLists ds = true) (hl : ds.length ≤ 16777216) (h : NE (wipeE own ρ) fun ρ2 => WC g tt te own ds ρ2 fun ys ρ3 => Q (.lst ys) ρ3) : WE (eLcW i g tt te own) ρ Q := by
  obtain ⟨d, ρ', e2, q⟩ := we_lcV (g := g) (tt := tt) (te := te) e rfl (by unfold seqD; dsimp only; rw [if_pos n]) n hl h
  exact ⟨d, ρ', by unfold eLcW; rw [e]; exact e2, q⟩
/-- turn by turn -/
theorem wli_0 {k : Nat} {Q : Out → Env → Prop} (h : LN (nth ρ i) fun ds => ds.length ≤ k ∧ Q .nx ρ) : WLI i g b 0 k ρ Q := by
  obtain ⟨ds, e, hl, q⟩ := h
  exact ⟨.nx, ρ, by unfold forI; rw [e]; dsimp only; rw [if_pos hl], q⟩
theorem wli_s {n k : Nat} {d : D} {Q : Out → Env → Prop} (e : nth ρ i = some (.lst ds)) (hd : ds[k]? = some d) (hn : noList d = true) (h : WG g d ρ fun ρ1 => WS b ρ1 (lpK (fun ρ2 => WLI i g b n (k + 1) ρ2 Q) Q)) : WLI i g b (n + 1) k ρ Q := by
  obtain ⟨ρ1, eg, o, ρ2, eb, q⟩ := h
  cases o with
  | nx => obtain ⟨o', ρ', e', q'⟩ := q; exact ⟨o', ρ', by unfold forI; rw [e]; dsimp only; rw [hd]; dsimp only; rw [if_pos hn, eg]; dsimp only; rw [eb]; exact e', q'⟩
  | ct => obtain ⟨o', ρ', e', q'⟩ := q; exact ⟨o', ρ', by unfold forI; rw [e]; dsimp only; rw [hd]; dsimp only; rw [if_pos hn, eg]; dsimp only; rw [eb]; exact e', q'⟩
  | bk => exact ⟨.nx, ρ2, by unfold forI; rw [e]; dsimp only; rw [hd]; dsimp only; rw [if_pos hn, eg]; dsimp only; rw [eb], q⟩
  | rt r => exact ⟨.rt r, ρ2, by unfold forI; rw [e]; dsimp only; rw [hd]; dsimp only; rw [if_pos hn, eg]; dsimp only; rw [eb], q⟩
/-- by what holds ahead of turn k; the list stays what it is -/
theorem wli_inv {all : List D} {Q : Out → Env → Prop} (hn : noLists all = true) (Inv : Nat → Env → Prop) (hs : ∀ k ρ, Inv k ρ → nth ρ i = some (.lst all)) (h0 : Inv 0 ρ)
    (step : ∀ k d ρ, all[k]? = some d → Inv k ρ → WG g d ρ fun ρ1 => WS b ρ1 (lpK (Inv (k + 1)) Q)) (fin : ∀ ρ, Inv all.length ρ → Q .nx ρ) : WLIs i g b all 0 ρ Q := by
  have go : ∀ (n k : Nat) (ρ : Env), n + k = all.length → Inv k ρ → WLI i g b n k ρ Q := by
    intro n
    induction n with
    | zero =>
      intro k ρ hk h
      have : k = all.length := by omega
      subst this
      exact wli_0 (ln_ (hs _ _ h) ⟨Nat.le_refl _, fin ρ h⟩)
    | succ n ih =>
      intro k ρ hk h
      have hlt : k < all.length := by omega
      have e1 := List.getElem?_eq_getElem hlt
      refine wli_s (hs _ _ h) e1 (nls_mem hn (List.getElem_mem hlt)) ?_
      obtain ⟨ρ1, eg, o, ρ2, eb, q⟩ := step k _ ρ e1 h
      refine ⟨ρ1, eg, o, ρ2, eb, ?_⟩
      cases o with
      | nx => exact ih (k + 1) ρ2 (by omega) q
      | ct => exact ih (k + 1) ρ2 (by omega) q
      | bk => exact q
      | rt r => exact q
  exact go all.length 0 ρ (by omega) h0
theorem wci_0 {k : Nat} {Q : List D → Env → Prop} (h : LN (nth ρ i) fun ds => ds.length ≤ k ∧ Q [] ρ) : WCI i g tt te own 0 k ρ Q := by
  obtain ⟨ds, e, hl, q⟩ := h
  exact ⟨[], ρ, by unfold lcI; rw [e]; dsimp only; rw [if_pos hl], q⟩
theorem wci_s {n k : Nat} {d : D} {Q : List D → Env → Prop} (e : nth ρ i = some (.lst ds)) (hd : ds[k]? = some d) (hn : noList d = true)
    (h : WG g d ρ fun ρ1 => WT tt ρ1 fun b ρ2 => BR b (WE te ρ2 fun y ρ3 => NE (wipeE own ρ3) fun ρ4 => WCI i g tt te own n (k + 1) ρ4 fun ys ρ5 => Q (y :: ys) ρ5) (NE (wipeE own ρ2) fun ρ4 => WCI i g tt te own n (k + 1) ρ4 Q)) : WCI i g tt te own (n + 1) k ρ Q := by
  obtain ⟨ρ1, eg, b, ρ2, et, h1, h2⟩ := h
  cases b with
  | true =>
    obtain ⟨y, ρ3, ey, ys, ρ', e', q'⟩ := h1 rfl
    exact ⟨y :: ys, ρ', by unfold lcI; rw [e]; dsimp only; rw [hd]; dsimp only; rw [if_pos hn, eg]; dsimp only; rw [et]; dsimp only; rw [ey]; dsimp only; rw [e'], q'⟩
  | false =>
    obtain ⟨ys, ρ', e', q'⟩ := h2 rfl
    exact ⟨ys, ρ', by unfold lcI; rw [e]; dsimp only; rw [hd]; dsimp only; rw [if_pos hn, eg]; dsimp only; rw [et]; exact e', q'⟩
theorem wci_inv {all : List D} {Q : List D → Env → Prop} (hn : noLists all = true) (Inv : Nat → List D → Env → Prop) (hs : ∀ k ys ρ, Inv k ys ρ → nth ρ i = some (.lst all)) (h0 : Inv 0 [] ρ)
    (step : ∀ k ys d ρ, all[k]? = some d → Inv k ys ρ → WG g d ρ fun ρ1 => WT tt ρ1 fun b ρ2 => BR b (WE te ρ2 fun y ρ3 => NE (wipeE own ρ3) (Inv (k + 1) (ys ++ [y]))) (NE (wipeE own ρ2) (Inv (k + 1) ys))) (fin : ∀ ys ρ, Inv all.length ys ρ → Q ys ρ) : WCIs i g tt te own all 0 ρ Q := by
  have go : ∀ (n k : Nat) (zs : List D) (ρ : Env), n + k = all.length → Inv k zs ρ → WCI i g tt te own n k ρ fun ys ρ' => Q (zs ++ ys) ρ' := by
    intro n
    induction n with
    | zero =>
      intro k zs ρ hk h
      have : k = all.length := by omega
      subst this
      exact wci_0 (ln_ (hs _ _ _ h) ⟨Nat.le_refl _, by rw [List.append_nil]; exact fin zs ρ h⟩)
    | succ n ih =>
      intro k zs ρ hk h
      have hlt : k < all.length := by omega
      have e1 := List.getElem?_eq_getElem hlt
      refine wci_s (hs _ _ _ h) e1 (nls_mem hn (List.getElem_mem hlt)) ?_
      obtain ⟨ρ1, eg, b, ρ2, et, h1, h2⟩ := step k zs _ ρ e1 h
      refine ⟨ρ1, eg, b, ρ2, et, fun hb => ?_, fun hb => ?_⟩
      · obtain ⟨y, ρ3, ey, q⟩ := h1 hb
        obtain ⟨ys, ρ', e', q'⟩ := ih (k + 1) (zs ++ [y]) _ (by omega) q
        exact ⟨y, ρ3, ey, ys, ρ', e', by rw [List.append_assoc] at q'; exact q'⟩
      · exact ih (k + 1) zs _ (by omega) (h2 hb)
  have := go all.length 0 [] ρ (by omega) h0
  exact this
theorem wlis_nil {k : Nat} {all : List D} {Q : Out → Env → Prop} (e : nth ρ i = some (.lst all)) (hl : all.length ≤ k) (q : Q .nx ρ) : WLIs i g b [] k ρ Q := wli_0 (ln_ e ⟨hl, q⟩)
theorem wlis_cons {k : Nat} {all : List D} {d : D} {Q : Out → Env → Prop} (e : nth ρ i = some (.lst all)) (hd : all[k]? = some d) (hn : noList d = true) (h : WG g d ρ fun ρ1 => WS b ρ1 (lpK (fun ρ2 => WLIs i g b ds (k + 1) ρ2 Q) Q)) : WLIs i g b (d :: ds) k ρ Q := wli_s e hd hn h
theorem wcis_nil {k : Nat} {all : List D} {Q : List D → Env → Prop} (e : nth ρ i = some (.lst all)) (hl : all.length ≤ k) (q : Q [] ρ) : WCIs i g tt te own [] k ρ Q := wci_0 (ln_ e ⟨hl, q⟩)
theorem wcis_cons {k : Nat} {all : List D} {d : D} {Q : List D → Env → Prop} (e : nth ρ i = some (.lst all)) (hd : all[k]? = some d) (hn : noList d = true)
    (h : WG g d ρ fun ρ1 => WT tt ρ1 fun b ρ2 => BR b (WE te ρ2 fun y ρ3 => NE (wipeE own ρ3) fun ρ4 => WCIs i g tt te own ds (k + 1) ρ4 fun ys ρ5 => Q (y :: ys) ρ5) (NE (wipeE own ρ2) fun ρ4 => WCIs i g tt te own ds (k + 1) ρ4 Q)) : WCIs i g tt te own (d :: ds) k ρ Q := wci_s e hd hn h
end
end Bv

namespace Bv
open PySem PySem.Spec PyProof.Rows L2
/-! ### x[k] = v, x a list or a dict -/
def putD (kvs : List (Key × D)) (k : Key) (d : D) : List (Key × D) :=
  if (kvs.any fun kv => decide (kv.1 = k)) = true then kvs.map (fun kv => if kv.1 = k then (kv.1, d) else kv) else kvs ++ [(k, d)]
section
variable {K : PySem.W.Frag} {H : Hp}
theorem repk_any {k : Key} : ∀ {ds : List (Key × D)} {vs : List (Key × V)} {f : List Addr}, RepK K H vs ds f → (vs.any fun kv => decide (kv.1 = k)) = ds.any fun kv => decide (kv.1 = k)
  | _, _, _, .nil => rfl
  | _, _, _, .cons r rs => by rw [List.any_cons, List.any_cons, repk_any rs]
theorem repk_len : ∀ {ds : List (Key × D)} {vs : List (Key × V)} {f : List Addr}, RepK K H vs ds f → vs.length = ds.length
  | _, _, _, .nil => rfl
  | _, _, _, .cons r rs => by rw [List.length_cons, List.length_cons, repk_len rs]
theorem repk_map {k : Key} {v : V} {d : D} (rv : Rep K H v d []) : ∀ {ds : List (Key × D)} {vs : List (Key × V)} {f : List Addr}, RepK K H vs ds f →
    ∃ g, RepK K H (vs.map fun kv => if kv.1 = k then (kv.1, v) else kv) (ds.map fun kv => if kv.1 = k then (kv.1, d) else kv) g ∧ g.Sublist f
  | _, _, _, .nil => ⟨[], .nil, List.Sublist.refl _⟩
  | _, _, _, .cons (k := j) (v := v0) (d := d0) (f := f0) r rs => by
    obtain ⟨g, q, s⟩ := repk_map (k := k) rv rs
    by_cases e : j = k
    · rw [List.map_cons, List.map_cons]
      dsimp only
      rw [if_pos e, if_pos e]
      exact ⟨[] ++ g, .cons rv q, s.trans (List.sublist_append_right _ _)⟩
    · rw [List.map_cons, List.map_cons]
      dsimp only
      rw [if_neg e, if_neg e]
      exact ⟨f0 ++ g, .cons r q, List.Sublist.append (List.Sublist.refl _) s⟩
theorem repk_app {k : Key} {v : V} {d : D} (rv : Rep K H v d []) : ∀ {ds : List (Key × D)} {vs : List (Key × V)} {f : List Addr}, RepK K H vs ds f → RepK K H (vs ++ [(k, v)]) (ds ++ [(k, d)]) f
  | _, _, _, .nil => .cons (f := []) (fp := []) rv .nil
  | _, _, _, .cons r rs => .cons r (repk_app rv rs)
theorem repk_put {k : Key} {v : V} {d : D} {ds : List (Key × D)} {vs : List (Key × V)} {f : List Addr} (rv : Rep K H v d []) (r : RepK K H vs ds f) : ∃ g, RepK K H (putK vs k v) (putD ds k d) g ∧ g.Sublist f := by
  unfold putK putD
  rw [repk_any r]
  split
  · exact repk_map rv r
  · exact ⟨f, repk_app rv r, List.Sublist.refl _⟩
end
def setDc (i : Nat) (ix : ME) (d : D) (ρ1 : Env) : Option Env := if noList d then (match ix ρ1 with
  | some (kd, ρ2) => (match keyOf kd with
    | some k => (match nth ρ2 i with
      | some (.dic kvs) => if kvs.length < 16777216 then some (ρ2.set i (some (.dic (putD kvs k d)))) else none
      | _ => none)
    | none => none)
  | none => none) else none
def sSetD (i : Nat) (ix : ME) (m : ME) : MS := fun ρ => match m ρ with
  | some (d, ρ1) => (match nth ρ1 i with
    | some (.dic _) => (match setDc i ix d ρ1 with
      | some ρ2 => some (.nx, ρ2)
      | none => none)
    | _ => none)
  | none => none
def sSetAny (i : Nat) (ix : ME) (m : ME) : MS := fun ρ => match m ρ with
  | some (_, ρ1) => (match nth ρ1 i with
    | some (.dic _) => sSetD i ix m ρ
    | _ => sSetIx i ix m ρ)
  | none => none
section
variable {X : Cx} {e b o : Expr} {m m1 : ME} {pos tpos : Pos} {io : List Nat}
theorem js_setD {i : Nat} (hu : X.A.units + 1 < cLine) (ho : PE X o (tVar i)) (hi : JE X b m1) (he : JE X e m) (hs : swapsWith e (some (.Subscript o b tpos)) pos.line X.env = pure false := by rfl) : JS X io (.Assign [.Subscript o b tpos] e pos) (sSetD i m1 m) :=
  ps_imp (ps_dput hu ho hi he hs) fun D σ H => by
  rintro ⟨ρ, o, ρ', fp, R, e, k⟩
  unfold sSetD at e
  split at e
  · rename_i d ρ1 e1
    split at e
    · rename_i kvs0 e2
      split at e
      · rename_i ρ2' e3
        cases e
        unfold setDc at e3
        split at e3
        · rename_i hn
          split at e3
          · rename_i kd ρ2 e4
            split at e3
            · rename_i kk e5
              split at e3
              · rename_i kvs e6
                split at e3
                · rename_i hl
                  cases e3
                  refine ⟨ρ, d, ρ1, fp, R, e1, fun v H1 fp1 fr R1 r1 n1 c1 => ?_⟩
                  have r1' := rep_none r1 hn
                  obtain ⟨ov, f0, hv, rr0, _⟩ := R1.get (nth_some e2)
                  cases rr0 with
                  | @dic a _ _ _ _ _ =>
                  refine ⟨_, hv, ρ1, kd, ρ2, fp1, R1, e4, fun y H2 fp2 fr2 R2 r2 n2 c2 => ?_⟩
                  have rv2 : Rep X.K H2 v d [] := rep_aside r1' c2 R1.mb (show ([] ++ fp1).Nodup from R1.nodup)
                  obtain ⟨ov2, f, fq, hv2, rd, R3, n3, s3⟩ := R2.take (nth_some e6)
                  rw [hv] at hv2
                  cases hv2
                  cases rd with
                  | @dic _ vs _ f hd q =>
                  have n4 := List.nodup_append.mp n3
                  have n5 := List.nodup_cons.mp n4.1
                  have hA : ∀ b ∈ [a], Mb (H2 b) := fun b m => by rw [List.mem_singleton.mp m, hd]; trivial
                  have kp : ∀ b o, H2 b = some o → b ∉ [a] → (upd H2 a (.dK (putK vs kk v))) b = some o := fun b o e h => by
                    rw [upd_ne (fun z => h (by rw [z]; exact List.mem_singleton.mpr rfl))]; exact e
                  refine ⟨a, upd H2 a (.dK (putK vs kk v)), rfl, ?_, ?_⟩
                  · rw [keyOf_rep r2 e5]
                    exact DPut.k hd (by rw [repk_len q, sizeLine_eq]; exact hl)
                  · have q' : RepK X.K (upd H2 a (.dK (putK vs kk v))) vs kvs f := RepK.keep hA kp _ _ _ q fun b m z => n5.1 (List.mem_singleton.mp z ▸ m)
                    have rv3 : Rep X.K (upd H2 a (.dK (putK vs kk v))) v d [] := Rep.keep hA kp _ _ _ rv2 fun b m => nomatch m
                    obtain ⟨g, qg, sg⟩ := repk_put (k := kk) rv3 q'
                    have R3' : Rel X.K (upd H2 a (.dK (putK vs kk v))) σ (ρ2.set i none) fq := R3.keep hA kp fun b m z => n4.2.2 a List.mem_cons_self b m (List.mem_singleton.mp z).symm
                    have rnew : Rep X.K (upd H2 a (.dK (putK vs kk v))) (.ref a) (.dic (putD kvs kk d)) (a :: g) := .dic upd_same qg
                    have nnew : ((a :: g) ++ fq).Nodup := by
                      refine List.nodup_append.mpr ⟨List.nodup_cons.mpr ⟨fun m => n5.1 (sg.subset m), sg.nodup n5.2⟩, n4.2.1, fun x hx y hy e => ?_⟩
                      subst e
                      rcases List.mem_cons.mp hx with e | hx
                      · exact n4.2.2 x (e ▸ List.mem_cons_self) x hy rfl
                      · exact n4.2.2 x (List.mem_cons_of_mem _ (sg.subset hx)) x hy rfl
                    obtain ⟨fe', R5, s5⟩ := R3'.put' hv rnew nnew
                    rw [List.set_set] at R5
                    have old : ∀ x, x ∈ fp2 → x ∈ fp ∨ H x = none := fun x m => by
                      have c12 : Chg H H2 fp (fr2 ++ fp2) := chg_from c1 c2
                      exact c12.new x (List.mem_append_right _ m)
                    have ina : ∀ x, x ∈ a :: f → x ∈ fp2 := fun x m => (s3 x).mpr (List.mem_append_left _ m)
                    refine k σ _ fe' R5 ⟨fun b o e h => ?_, fun b m => ?_⟩ Pin.refl
                    · have c12 : Chg H H2 fp (fr2 ++ fp2) := chg_from c1 c2
                      refine kp b o (c12.keep b o e h) fun z => ?_
                      have z' := List.mem_singleton.mp z
                      subst z'
                      rcases old b (ina b List.mem_cons_self) with q | q
                      · exact h q
                      · rw [q] at e; cases e
                    · rcases List.mem_append.mp (s5 b m) with m | m
                      · rcases List.mem_cons.mp m with e | m
                        · exact old b (ina b (e ▸ List.mem_cons_self))
                        · exact old b (ina b (List.mem_cons_of_mem _ (sg.subset m)))
                      · exact old b ((s3 b).mpr (List.mem_append_right _ m))
                · cases e3
              · cases e3
            · cases e3
          · cases e3
        · cases e3
      · cases e
    · cases e
  · cases e
theorem js_setAny {i : Nat} (hu : X.A.units + 1 < cLine) (ho : PE X o (tVar i)) (hi : JE X b m1) (he : JE X e m) (hsub : ∀ v, assign (.Subscript o b tpos) X.env v = (do
      let ov ← holding [v] (eval o X.env)
      let iv ← holding [v, ov] (eval b X.env)
      standAt tpos
      holding [v, ov, iv] (setItem ov iv v)
      release [v, ov, iv] []) := by intro _; rfl)
    (hs : swapsWithSole [.Subscript o b tpos] e pos.line X.env = pure false := by rfl) (hw : swappedStores [.Subscript o b tpos] e X.env = pure none := by rfl)
    (h1 : (assignEach [.Subscript o b tpos] X.env).map (·.2) = [assign (.Subscript o b tpos) X.env] := by rfl) (hs2 : swapsWith e (some (.Subscript o b tpos)) pos.line X.env = pure false := by rfl) : JS X io (.Assign [.Subscript o b tpos] e pos) (sSetAny i m1 m) := ⟨fun pins s σ H D I h => by
  obtain ⟨ρ, o, ρ', fp, R, e, k⟩ := h
  unfold sSetAny at e
  split at e
  · split at e
    · exact (js_setD hu ho hi he hs2).run pins s σ H D I ⟨ρ, o, ρ', fp, R, e, k⟩
    · exact (js_setIx ho hi he hsub hs hw h1).run pins s σ H D I ⟨ρ, o, ρ', fp, R, e, k⟩
  · cases e⟩
end
section
variable {ρ : Env} {i : Nat} {ix m : ME} {d : D} {Q : Out → Env → Prop}
/-- what d is stored in: a list, a dict -/
def SA (i : Nat) (ix : ME) (d : D) (ρ1 : Env) (Q : Env → Prop) : Prop := (∃ ds kk ρ2 ds2 j, nth ρ1 i = some (.lst ds) ∧ ix ρ1 = some (.int kk, ρ2) ∧ nth ρ2 i = some (.lst ds2) ∧ ixN ds2.length kk = some j ∧ Q (ρ2.set i (some (.lst (ds2.set j d))))) ∨ ∃ kvs ρ2, nth ρ1 i = some (.dic kvs) ∧ setDc i ix d ρ1 = some ρ2 ∧ Q ρ2
theorem ws_setAny (h : WE m ρ fun d ρ1 => SA i ix d ρ1 (Q .nx)) : WS (sSetAny i ix m) ρ Q := by
  obtain ⟨d, ρ1, e, h | h⟩ := h
  · obtain ⟨ds, kk, ρ2, ds2, j, e1, e2, e3, e4, q⟩ := h
    exact ⟨.nx, _, by unfold sSetAny; rw [e]; dsimp only; rw [e1]; dsimp only; unfold sSetIx; rw [e]; dsimp only; rw [e1]; dsimp only; rw [e2]; dsimp only; rw [e3]; dsimp only; rw [e4], q⟩
  · obtain ⟨kvs, ρ2, e1, e2, q⟩ := h
    exact ⟨.nx, _, by unfold sSetAny; rw [e]; dsimp only; rw [e1]; dsimp only; unfold sSetD; rw [e]; dsimp only; rw [e1]; dsimp only; rw [e2], q⟩
theorem sa_lst {ds : List D} {Q : Env → Prop} (e1 : nth ρ i = some (.lst ds)) (h : WE ix ρ fun kd ρ2 => IsI kd fun kk => LN (nth ρ2 i) fun ds2 => IX ds2.length kk fun j => NE (ρ2.set i (some (.lst (ds2.set j d)))) Q) : SA i ix d ρ Q := by
  obtain ⟨kd, ρ2, e2, kk, rfl, ds2, e3, j, e4, q⟩ := h
  exact .inl ⟨ds, kk, ρ2, ds2, j, e1, e2, e3, e4, q⟩
def KY (kd : D) (Q : Key → Prop) : Prop := ∃ k, keyOf kd = some k ∧ Q k
theorem ky_i {n : Int} {Q : Key → Prop} (q : Q (.inl n)) : KY (.int n) Q := ⟨_, rfl, q⟩
theorem ky_s {x : Str} {Q : Key → Prop} (q : Q (.inr x)) : KY (.str x) Q := ⟨_, rfl, q⟩
def DN (o : Option D) (Q : List (Key × D) → Prop) : Prop := ∃ ds, o = some (.dic ds) ∧ Q ds
theorem dn_ {o : Option D} {ds : List (Key × D)} {Q : List (Key × D) → Prop} (e : o = some (.dic ds)) (q : Q ds) : DN o Q := ⟨ds, e, q⟩
theorem sa_dic {kvs : List (Key × D)} {Q : Env → Prop} (e1 : nth ρ i = some (.dic kvs)) (n : noList d = true) (h : WE ix ρ fun kd ρ2 => KY kd fun k => DN (nth ρ2 i) fun kvs2 => SZ1 kvs2.length (NE (ρ2.set i (some (.dic (putD kvs2 k d)))) Q)) : SA i ix d ρ Q := by
  obtain ⟨kd, ρ2, e2, k, e3, kvs2, e4, hl, q⟩ := h
  exact .inr ⟨kvs, _, e1, by unfold setDc; rw [if_pos n, e2]; dsimp only; rw [e3]; dsimp only; rw [e4]; dsimp only; rw [if_pos hl], q⟩
end
end Bv

namespace Bv
open PySem PySem.Spec PyProof.Rows L2
/-! ### len, of a dict too -/
def rLenX (K : PySem.W.Frag) : List V → Hp → VK → Prop := fun xs H Q => (∃ x n, xs = [x] ∧ LenV K x H n ∧ Q (.int n) H) ∨ ∃ (a : Addr) (kvs : List (Key × V)), xs = [V.ref a] ∧ H a = some (.dK kvs) ∧ Q (.int kvs.length) H
theorem call_lenX {X : Cx} : CallR X (.builtin "len") (rLenX X.K) := fun pins s σ H xs us Q I r h => h.elim (call_len pins s σ H xs us Q I r) (call_lenD pins s σ H xs us Q I r)
def lenX : List D → Option D
  | [.dic ds] => some (.int ds.length)
  | ds => lenD ds
theorem lenX_ok {K : PySem.W.Frag} : RLok K (rLenX K) lenX := by
  intro xs H Q ds d f r e k
  unfold lenX at e
  split at e
  · rename_i kvs
    cases e
    obtain ⟨v, rfl, rv⟩ := reps1 r
    cases rv with
    | @dic a vs _ _ ha q => exact .inr ⟨a, vs, rfl, ha, by rw [repk_len q]; exact k _ H [] (Same.refl H) (.int _) List.nodup_nil fun a m => nomatch m⟩
  · exact .inl (len_ok xs H Q ds d f r e k)
theorem wo_lenXT {ds : List D} {Q : D → Prop} (q : Q (.int ds.length)) : WO (lenX [.tup ds]) Q := ⟨_, rfl, q⟩
theorem wo_lenXL {ds : List D} {Q : D → Prop} (q : Q (.int ds.length)) : WO (lenX [.lst ds]) Q := ⟨_, rfl, q⟩
theorem wo_lenXD {ds : List (Key × D)} {Q : D → Prop} (q : Q (.int ds.length)) : WO (lenX [.dic ds]) Q := ⟨_, rfl, q⟩
theorem wo_lenXS {z : Str} {Q : D → Prop} (h : z.length ≤ 16777216) (q : Q (.int z.length)) : WO (lenX [.str z]) Q := wo_lenS h q
/-! ### dicts with whole numbers as keys -/
def kdv (l : List (Int × D)) : List (Key × D) := l.map fun p => (.inl p.1, p.2)
theorem kdv_val (l : List (Int × D)) (x : Int) : (valK (kdv l) (.inl x)).isSome = decide (x ∈ l.map (·.1)) := by
  induction l with
  | nil => rfl
  | cons p l ih =>
    unfold valK kdv at *
    rw [List.map_cons, List.find?_cons]
    by_cases h : p.1 = x
    · simp [h]
    · have h1 : decide ((Sum.inl p.1 : Key) = .inl x) = false := decide_eq_false fun e => h (Sum.inl.inj e)
      dsimp only
      rw [h1]
      dsimp only
      rw [ih]
      simp [Ne.symm h]
theorem in_kdv {l : List (Int × D)} {x : Int} {Q : Bool → Prop} (q : Q (decide (x ∈ l.map (·.1)))) : IN (.int x) (.dic (kdv l)) Q := ⟨_, by
  show inDict (.int x) (kdv l) = some (decide (x ∈ l.map (·.1)))
  unfold inDict
  show some (valK (kdv l) (.inl x)).isSome = _
  rw [kdv_val], q⟩
theorem put_kdv {l : List (Int × D)} {x : Int} {d : D} (h : x ∉ l.map (·.1)) : putD (kdv l) (.inl x) d = kdv (l ++ [(x, d)]) := by
  unfold putD
  have : ((kdv l).any fun kv => decide (kv.1 = (.inl x : Key))) = false := by
    rw [List.any_eq_false]
    intro kv m
    unfold kdv at m
    obtain ⟨p, hp, rfl⟩ := List.mem_map.mp m
    intro e
    have e2 := of_decide_eq_true e
    exact h (List.mem_map.mpr ⟨p, hp, Sum.inl.inj e2⟩)
  rw [this]
  unfold kdv
  rw [List.map_append]
  rfl
theorem get_kdv {l : List (Int × D)} {x : Int} {d : D} (hn : (l.map (·.1)).Nodup) (h : (x, d) ∈ l) : valK (kdv l) (.inl x) = some d := by
  induction l with
  | nil => cases h
  | cons p l ih =>
    unfold valK kdv at *
    rw [List.map_cons, List.find?_cons]
    rw [List.map_cons] at hn
    have hn' := List.nodup_cons.mp hn
    rcases List.mem_cons.mp h with e | m
    · subst e
      simp
    · have hne : p.1 ≠ x := fun e => hn'.1 (e ▸ List.mem_map.mpr ⟨(x, d), m, rfl⟩)
      have h1 : decide ((Sum.inl p.1 : Key) = .inl x) = false := decide_eq_false fun e => hne (Sum.inl.inj e)
      dsimp only
      rw [h1]
      exact ih hn'.2 m
theorem wo_getKdv {l : List (Int × D)} {x : Int} {d : D} {Q : D → Prop} (hn : (l.map (·.1)).Nodup) (h : (x, d) ∈ l) (q : Q d) : WO (getD (.dic (kdv l)) (.int x)) Q := ⟨d, get_kdv hn h, q⟩
theorem kdv_len (l : List (Int × D)) : (kdv l).length = l.length := List.length_map ..
end Bv

namespace Bv
open PySem PySem.Spec PyProof.Rows L2
/-! ### freezing: lists that nobody writes from here on -/
mutual
def fzD : D → D
  | .tup xs => .tup (fzDs xs)
  | .lst xs => if noLists (fzDs xs) then .frz (fzDs xs) else .lst (fzDs xs)
  | .non => .non
  | .bl b => .bl b
  | .int i => .int i
  | .str x => .str x
  | .frz xs => .frz xs
  | .dic kvs => .dic kvs
def fzDs : List D → List D
  | [] => []
  | x :: xs => fzD x :: fzDs xs
end
/-- H' is H with some lists of fp locked -/
structure Frz (H H' : Hp) (fp : List Addr) : Prop where
  out : ∀ a, a ∉ fp → H' a = H a
theorem Frz.refl {H : Hp} {fp : List Addr} : Frz H H fp := ⟨fun _ _ => rfl⟩
theorem Frz.keep {H H' : Hp} {fp : List Addr} (z : Frz H H' fp) : ∀ b o, H b = some o → b ∉ fp → H' b = some o := fun b o e n => (z.out b n).trans e
section
variable {K : PySem.W.Frag} {J : Hp → Prop} (hJ : ∀ (H : Hp) (a : Addr) (xs : List V), J H → H a = some (.lst xs) → ∃ o, J (upd H a (.frz o (.lst xs))))
include hJ
mutual
theorem fz_rep : ∀ (d : D) (H : Hp) (v : V) (f : List Addr), J H → Rep K H v d f → f.Nodup → ∃ H' f', J H' ∧ Rep K H' v (fzD d) f' ∧ f'.Nodup ∧ (∀ a ∈ f', a ∈ f) ∧ Frz H H' f
  | .non, H, v, f, j, r, n => by cases r; exact ⟨H, [], j, by unfold fzD; exact .non, n, fun _ m => m, Frz.refl⟩
  | .bl b, H, v, f, j, r, n => by cases r; exact ⟨H, [], j, by unfold fzD; exact .bl b, n, fun _ m => m, Frz.refl⟩
  | .int i, H, v, f, j, r, n => by cases r; exact ⟨H, [], j, by unfold fzD; exact .int i, n, fun _ m => m, Frz.refl⟩
  | .str x, H, v, f, j, r, n => by cases r; exact ⟨H, [], j, by unfold fzD; exact .str x, n, fun _ m => m, Frz.refl⟩
  | .frz xs, H, v, f, j, r, n => ⟨H, f, j, by unfold fzD; exact r, n, fun _ m => m, Frz.refl⟩
  | .dic kvs, H, v, f, j, r, n => ⟨H, f, j, by unfold fzD; exact r, n, fun _ m => m, Frz.refl⟩
  | .tup ds, H, v, f, j, r, n => by
    have hmb := Rep.mb _ _ _ r
    cases r with
    | @tup a xs _ _ hs rs =>
      obtain ⟨H', f', j', r', n', s', z⟩ := fz_reps ds H xs f j rs n
      exact ⟨H', f', j', by unfold fzD; exact .tup (sqT_keep hmb z.keep hs) r', n', s', z⟩
  | .lst ds, H, v, f, j, r, n => by
    have hmb := Rep.mb _ _ _ r
    cases r with
    | @lst a xs _ f0 hl rs =>
      have n1 := List.nodup_cons.mp n
      obtain ⟨H1, f1, j1, r1, m1, s1, z1⟩ := fz_reps ds H xs f0 j rs n1.2
      have e1 : H1 a = some (.lst xs) := z1.keep _ _ hl n1.1
      unfold fzD
      split
      · rename_i hn
        have e2 : f1 = [] := Reps.nol _ _ _ r1 hn
        subst e2
        obtain ⟨o, j2⟩ := hJ H1 a xs j1 e1
        have k2 : ∀ b u, H1 b = some u → b ∉ [a] → (upd H1 a (.frz o (.lst xs))) b = some u := fun b u e m => by
          rw [upd_ne (fun z => m (by rw [z]; exact List.mem_singleton.mpr rfl))]; exact e
        have r2 : Reps K (upd H1 a (.frz o (.lst xs))) xs (fzDs ds) [] := Reps.keep (A := [a]) (fun b m => by rw [List.mem_singleton.mp m, e1]; trivial) k2 _ _ _ r1 fun _ m => nomatch m
        refine ⟨_, [], j2, .frz (.inl ⟨o, upd_same⟩) r2, List.nodup_nil, fun _ m => (nomatch m), ⟨fun b m => ?_⟩⟩
        rw [upd_ne (fun z => m (by rw [z]; exact List.mem_cons_self)), z1.out b fun q => m (List.mem_cons_of_mem _ q)]
      · refine ⟨H1, a :: f1, j1, .lst e1 r1, List.nodup_cons.mpr ⟨fun m => n1.1 (s1 _ m), m1⟩, fun b m => ?_, ⟨fun b m => z1.out b fun q => m (List.mem_cons_of_mem _ q)⟩⟩
        rcases List.mem_cons.mp m with e | m
        · rw [e]; exact List.mem_cons_self
        · exact List.mem_cons_of_mem _ (s1 b m)
theorem fz_reps : ∀ (ds : List D) (H : Hp) (vs : List V) (f : List Addr), J H → Reps K H vs ds f → f.Nodup → ∃ H' f', J H' ∧ Reps K H' vs (fzDs ds) f' ∧ f'.Nodup ∧ (∀ a ∈ f', a ∈ f) ∧ Frz H H' f
  | [], H, vs, f, j, r, n => by cases r; exact ⟨H, [], j, by unfold fzDs; exact .nil, n, fun _ m => m, Frz.refl⟩
  | d :: ds, H, vs, f, j, r, n => by
    cases r with
    | @cons v vs _ _ f0 f1 r rs =>
      have q := List.nodup_append.mp n
      have hmb0 := Rep.mb _ _ _ r
      have hmb1 := Reps.mb _ _ _ rs
      obtain ⟨H1, g0, j1, r1, n1, s1, z1⟩ := fz_rep d H v f0 j r q.1
      have rs1 : Reps K H1 vs ds f1 := Reps.keep hmb0 z1.keep _ _ _ rs fun a m h => q.2.2 a h a m rfl
      obtain ⟨H2, g1, j2, r2, n2, s2, z2⟩ := fz_reps ds H1 vs f1 j1 rs1 q.2.1
      have hmb2 : ∀ b ∈ f1, Mb (H1 b) := Reps.mb _ _ _ rs1
      have r1' : Rep K H2 v (fzD d) g0 := Rep.keep hmb2 z2.keep _ _ _ r1 fun a m h => q.2.2 a (s1 a m) a h rfl
      refine ⟨H2, g0 ++ g1, j2, by unfold fzDs; exact .cons r1' r2, List.nodup_append.mpr ⟨n1, n2, fun a ha b hb => q.2.2 a (s1 a ha) b (s2 b hb)⟩, fun a m => ?_, ⟨fun b m => ?_⟩⟩
      · rcases List.mem_append.mp m with m | m
        · exact List.mem_append_left _ (s1 a m)
        · exact List.mem_append_right _ (s2 a m)
      · rw [z2.out b fun h => m (List.mem_append_right _ h), z1.out b fun h => m (List.mem_append_left _ h)]
end
end
theorem inv_frz {X : Cx} {pins : List (Addr × Obj)} {σ : L2.St} {H : Hp} {s : Shared} {a : Addr} {xs : List V} (I : Inv X pins σ H s) (h : H a = some (.lst xs)) : ∃ o, Inv X pins σ (upd H a (.frz o (.lst xs))) s := by
  obtain ⟨z, its, n, r, e⟩ := I.hok a _ h
  refine ⟨{ cls := .type "list", data := .seq its.toArray n }, ?_⟩
  exact I.write (x := a) (e := a) (h' := s.heap) (t' := s.toks) (by rw [h]; trivial) (.inl rfl) (fun _ _ _ q => q) ⟨_, e⟩ ⟨e, z, its, n, r, e⟩
/-- the slot i is frozen ahead of the statement -/
def sFz (i : Nat) (m : MS) : MS := fun ρ => match nth ρ i with
  | some d => m (ρ.set i (some (fzD d)))
  | none => none
theorem slot_frz {X : Cx} {pins : List (Addr × Obj)} {σ : L2.St} {H : Hp} {s : Shared} {ρ : Env} {fp : List Addr} {i : Nat} {d : D} (I : Inv X pins σ H s) (R : Rel X.K H σ ρ fp) (e : nth ρ i = some d) :
    ∃ H' fp', Inv X pins σ H' s ∧ Rel X.K H' σ (ρ.set i (some (fzD d))) fp' ∧ Chg H H' fp fp' := by
  obtain ⟨v, f, fq, hv, r, R1, n, sb⟩ := R.take (nth_some e)
  have q := List.nodup_append.mp n
  obtain ⟨H', f', I', r', n', s', z⟩ := fz_rep (K := X.K) (J := fun H => Inv X pins σ H s) (fun H a xs I h => inv_frz I h) d H v f I r q.1
  have R2 : Rel X.K H' σ (ρ.set i none) fq := R1.keep (Rep.mb _ _ _ r) z.keep fun a m h => q.2.2 a h a m rfl
  obtain ⟨fp', R3, s3⟩ := R2.put' hv r' (List.nodup_append.mpr ⟨n', q.2.1, fun a ha b hb => q.2.2 a (s' a ha) b hb⟩)
  rw [List.set_set] at R3
  refine ⟨H', fp', I', R3, ⟨fun b o e h => ?_, fun b m => .inl ((sb b).mpr ?_)⟩⟩
  · exact z.keep b o e fun m => h ((sb b).mpr (List.mem_append_left _ m))
  · rcases List.mem_append.mp (s3 b m) with m | m
    · exact List.mem_append_left _ (s' b m)
    · exact List.mem_append_right _ m
theorem spost_chg {K : PySem.W.Frag} {io : List Nat} {D : Ends} {σ : L2.St} {H H' : Hp} {fp fp' : List Addr} {ρ' : Env} (c : Chg H H' fp fp') : ∀ {o : Out}, SPost K io D σ H fp ρ' o → SPost K io D σ H' fp' ρ' o
  | .nx, k => fun σ' H2 fp2 R c2 p => k σ' H2 fp2 R (c.trans c2 fun a m => m) p
  | .bk, k => fun σ' H2 fp2 R c2 p => k σ' H2 fp2 R (c.trans c2 fun a m => m) p
  | .ct, k => fun σ' H2 fp2 R c2 p => k σ' H2 fp2 R (c.trans c2 fun a m => m) p
  | .rt d, k => fun v σ' H2 fp2 fr R r n c2 p => k v σ' H2 fp2 fr R r n (c.trans c2 fun a m => m) p
theorem js_fz {X : Cx} {io : List Nat} {st : Stmt} {m : MS} (i : Nat) (h : JS X io st m) : JS X io st (sFz i m) := ⟨fun pins s σ H D I w => by
  obtain ⟨ρ, o, ρ', fp, R, e, k⟩ := w
  unfold sFz at e
  split at e
  · rename_i d e1
    obtain ⟨H', fp', I', R', c⟩ := slot_frz I R e1
    exact h.run pins s σ H' D I' ⟨_, o, ρ', fp', R', e, spost_chg c k⟩
  · cases e⟩
end Bv

namespace Bv
open PySem PySem.Spec PyProof.Rows L2
/-! ### set(xs) of a list of ints -/
abbrev setOb (w : World) : Obj := { cls := .type "set", dict := none, data := .set #[] 0 (.fresh 0 0 (!w.params.followText "set-order")) }
section
variable {P : Program} {w : World} {A : Around} {E : Value → Shared → Prop} {s : Shared}
set_option maxHeartbeats 3200000 in
theorem call_set_listI {l : Addr} {items : Array Value} (ns : List Int) {Q : Value → Shared → Prop} (hh : A.handled = none) (hl : s.heap.IsList l items) (hit : IntsAre items.toList ns) (hb : ns.length + 1 < scanBound)
    (h : ∀ (h' : Heap) (tk c : Nat), SetR w h' s.heap.objs.size (fun j => decide (j ∈ ns)) c → c ≤ ns.length → (∀ b o, s.heap.get? b = some o → h'.get? b = some o) → Q (.ref s.heap.objs.size) { s with heap := h', toks := tk }) :
    wpAny (model P w) A (call (.type "set") [.ref l]) Q E s := by
  have hisz : items.size = ns.length := by have q := IntsAre.length hit; rw [Array.length_toList] at q; exact q
  obtain ⟨c, tl, hmro⟩ := F.called_set.mro; have hmade := F.called_set.made; have hsub := F.called_set.sub
  refine wpAny_call (codeAny_of_tree ?_); show wpAny _ _ (callAny (.type "set") _) _ _ _
  refine wpAny_pure ⟨Code.quiet_builtin _ (by decide +kernel), codeAny_builtin F.entry_type_call ?_⟩
  rw [Around.under_plain (weight_type_call_type "set" [.ref l] []) rfl]
  have h1 := F.called_set.notType; have h2 := F.called_set.canCreate; have hct := F.typeCall_set_1 (.ref l)
  repeat (any_goals (first | assumption | wp_step))
  refine codeAny_mono (code_set_led1 (.ref l) (E := E) (Q₁ := fun obj s₁ => obj = .ref s.heap.objs.size ∧ s₁ = { s with heap := s.heap.push (setOb w) }) ⟨rfl, rfl⟩) fun r s₁ hr => ?_
  cases r with
  | error e => exact hr
  | ok fl =>
    cases fl with
    | ret obj =>
      obtain ⟨rfl, rfl⟩ := hr
      have hS : (s.heap.push (setOb w)).get? s.heap.objs.size = some (setOb w) := Heap.get?_push_size _ rfl
      have hT : Shared.TypeIs { s with heap := s.heap.push (setOb w) } (.ref s.heap.objs.size) "set" := ⟨_, hS, rfl⟩
      have hli := F.called_set.init.lookup; have hbi := F.called_set.init.bind (.ref s.heap.objs.size)
      repeat (any_goals (first | assumption | wp_step))
      refine codeAny_mono (codeAny_call_builtin (R := wants (fun r s₂ => r = .none ∧ ∃ h' tk c, s₂ = { s with heap := h', toks := tk } ∧ SetR w h' s.heap.objs.size (fun j => decide (j ∈ ns)) c ∧ c ≤ ns.length ∧ (∀ b o, s.heap.get? b = some o → h'.get? b = some o)) E) F.called_set.init.plain F.entry_set_init (check_set_init_1 hT ?_)) fun r₂ s₂ hr₂ => ?_
      · obtain ⟨⟨ocls, odict, odata, oslots⟩, hol, hcl, nl, hdl⟩ := hl
        simp only at hcl hdl; subst hcl; subst hdl
        have hol' : (s.heap.push (setOb w)).get? l = some { cls := .type "list", dict := odict, data := .seq items nl, slots := oslots } := Heap.get?_push_of_some _ hol
        have hsls := F.sub_list_set; have hslf := F.sub_list_frozenset; have hne : (Value.type "list" == Value.type "dict") = false := by decide
        have hl1 : (s.heap.push (setOb w)).IsList l items := ⟨_, hol', rfl, nl, rfl⟩
        unfold Builtin.«set.__init__» noKeywords Builtin.Frozenset.updateFrom; generalize hPI : pyIter = PI
        wp_walk
        subst hPI
        refine wpAny_pyIter_list hl1 (wpAny_bind (wpAny_runValue ?_))
        have hlS : l < s.heap.objs.size := Heap.lt_size hol
        have hh3 : A.in1.in1.in1.handled = none := by simp [hh]
        have hneI : l ≠ (s.heap.push (setOb w)).objs.size := by rw [Heap.size_push]; exact Nat.ne_of_lt (Nat.lt_succ_of_lt hlS)
        have hSf : s.heap.objs.size ∉ [(s.heap.push (setOb w)).objs.size, l] := by
          rw [Heap.size_push]; simp only [List.mem_cons, List.mem_singleton, List.not_mem_nil, or_false, not_or]; exact ⟨Nat.ne_of_lt (Nat.lt_succ_self _), Nat.ne_of_gt hlS⟩
        have hval : ∀ (i : Nat) (v : Value), items[i]? = some v → ∃ k t, ns[i]? = some k ∧ v = .int k t := fun i v hv => by
          have hi : i < ns.length := by rw [← hisz]; exact (Array.getElem?_eq_some_iff.mp hv).1
          obtain ⟨t, e⟩ := PyProof.Rows.IntsAre.int_at hit i v (by rw [Array.getElem?_toList]; exact hv)
          exact ⟨ns[i], t, List.getElem?_eq_getElem hi, by rw [e, List.getD_eq_getElem?_getD, List.getElem?_eq_getElem hi] <;> rfl⟩
        refine set_update_ints ((Walks.list hh3 _ l hneI items).toS) s.heap.objs.size hSf ns hisz hb hval (items.size - 0) 0 _ (by omega) (Nat.zero_le _) ⟨⟨_, Heap.get?_push_size _ rfl, rfl, rfl⟩, (hl1.push _)⟩ ?hS0 ?hR
        case hS0 => exact ⟨0, Nat.le_refl 0, setR_new_at (Heap.get?_push_of_some _ hS)⟩
        case hR =>
          intro s' c' hm hc' hS'
          obtain ⟨h', g2, d', tk', os'⟩ := s'
          have eg : g2 = s.gens := hm.gens; have ed : d' = s.drawn := hm.drawn; have eo : os' = s.os := hm.os
          subst eg; subst ed; subst eo
          show wpAny _ _ _ _ _ _
          refine wpAny_pure ?_
          show wpAny _ _ (ret Value.none) _ _ _
          rw [hisz] at hc'
          refine wpAny_pure ⟨rfl, h', tk', c', rfl, hS', hc', fun b o e => ?_⟩
          have hb0 : b < s.heap.objs.size := Heap.lt_size e
          have hb2 : b ≠ (s.heap.push (setOb w)).objs.size := by rw [Heap.size_push]; exact Nat.ne_of_lt (Nat.lt_succ_of_lt hb0)
          exact hm.heap b o (by simp only [List.mem_cons, List.mem_singleton, List.not_mem_nil, or_false, not_or]; exact ⟨Nat.ne_of_lt hb0, hb2⟩) (Heap.get?_push_of_some _ (Heap.get?_push_of_some _ e))
      · cases r₂ with
        | error e => exact hr₂
        | ok fl₂ =>
          cases fl₂ with
          | ret r =>
            obtain ⟨rfl, h', tk, c', rfl, hS', hc', hk'⟩ := hr₂; repeat (any_goals (first | assumption | wp_step))
            exact h _ _ _ hS' hc' hk'
          | _ => exact hr₂.elim
    | _ => exact hr.elim
end
def rSetL (K : PySem.W.Frag) (w : World) : List V → Hp → VK → Prop := fun xs H Q => ∃ (l : Addr) (ns : List Int), xs = [.ref l] ∧ SqL K H l (ns.map V.int) ∧ ns.length ≤ 1000 ∧ ∀ (c : Nat) (p : Addr), c ≤ ns.length → H p = none → Q (.ref p) (upd H p (SetO w p (fun j => decide (j ∈ ns)) c))
section
variable {X : Cx}
theorem cr_setL (hc : X.calm = true) : CallR X (.type "set") (rSetL X.K X.w) := by
  intro pins s σ H xs us Q I r h
  obtain ⟨l, ns, rfl, hq, hl, q⟩ := h
  rw [Vals.ref1 r]
  obtain ⟨its, rv, p, hz⟩ := I.list hq
  refine call_set_listI ns (I.ok.hd hc) p.isList (by simpa using ints_of_vals rv) (by unfold scanBound; omega) fun h' tk c hS hc' hk => ?_
  have I2 := I.laid (t' := tk) hk (Nat.le_refl _) (setO_new (P := X.prog) (H := upd H s.heap.objs.size (SetO X.w s.heap.objs.size (fun j => decide (j ∈ ns)) c)) hS)
  exact ⟨.ref _, _, I2, rfl, q c _ hc' (I.hok.fresh (Nat.le_refl _))⟩
end
end Bv

namespace Bv
open PySem PySem.Spec PyProof.Rows L2
/-! ### sorted(set(xs)), len(set(xs)) -/
def dedI : List Int → List Int
  | [] => []
  | x :: xs => if x ∈ xs then dedI xs else x :: dedI xs
theorem dedI_mem {k : Int} : ∀ {xs : List Int}, k ∈ dedI xs ↔ k ∈ xs
  | [] => Iff.rfl
  | x :: xs => by
    unfold dedI
    split
    · rename_i h
      rw [dedI_mem (xs := xs), List.mem_cons]
      exact ⟨.inr, fun m => m.elim (fun e => e ▸ h) id⟩
    · rw [List.mem_cons, List.mem_cons, dedI_mem (xs := xs)]
theorem dedI_nodup : ∀ (xs : List Int), (dedI xs).Nodup
  | [] => List.nodup_nil
  | x :: xs => by
    unfold dedI
    split
    · exact dedI_nodup xs
    · rename_i h
      exact List.nodup_cons.mpr ⟨fun m => h (dedI_mem.mp m), dedI_nodup xs⟩
def sortU (xs : List Int) : List Int := sortI (dedI xs)
theorem sortU_mem {k : Int} {xs : List Int} : k ∈ sortU xs ↔ k ∈ xs := ((sortI_perm _).mem_iff).trans dedI_mem
theorem sortU_nodup (xs : List Int) : (sortU xs).Nodup := (sortI_perm _).nodup_iff.mpr (dedI_nodup xs)
theorem lt_of_le_nd : ∀ {l : List Int}, l.Pairwise (· ≤ ·) → l.Nodup → l.Pairwise (· < ·)
  | [], _, _ => .nil
  | x :: l, h, n => by
    have h' := List.pairwise_cons.mp h
    have n' := List.nodup_cons.mp n
    exact List.pairwise_cons.mpr ⟨fun y m => by
      have := h'.1 y m
      rcases Int.lt_or_eq_of_le this with q | q
      · exact q
      · exact absurd (q ▸ m) n'.1, lt_of_le_nd h'.2 n'.2⟩
theorem sortU_lt (xs : List Int) : (sortU xs).Pairwise (· < ·) := lt_of_le_nd (sortI_sorted _) (sortU_nodup xs)
theorem lt_uniq : ∀ {a b : List Int}, a.Pairwise (· < ·) → b.Pairwise (· < ·) → (∀ k, k ∈ a ↔ k ∈ b) → a = b := fun {a b} ha hb h => by
  have na : a.Nodup := ha.imp fun h e => by omega
  have nb : b.Nodup := hb.imp fun h e => by omega
  exact sorted_uniq ((List.perm_ext_iff_of_nodup na nb).mpr h) (ha.imp fun h => by omega) (hb.imp fun h => by omega)
theorem sortU_len (xs : List Int) : (sortU xs).length ≤ xs.length := by
  unfold sortU
  rw [(sortI_perm _).length_eq]
  induction xs with
  | nil => exact Nat.le_refl _
  | cons x xs ih =>
    unfold dedI
    split
    · rw [List.length_cons]; omega
    · rw [List.length_cons, List.length_cons]; omega
theorem reps_intsI {K : PySem.W.Frag} {H : Hp} : ∀ {ns : List Int} {vs : List V} {f : List Addr}, Reps K H vs (ns.map D.int) f → vs = ns.map V.int
  | [], _, _, .nil => rfl
  | n :: ns, _, _, .cons r rs => by cases r; rw [reps_intsI rs]; rfl
/-- the ints of a list -/
def lstI : D → Option (List Int)
  | .lst ds => intsOf ds
  | .frz ds => intsOf ds
  | _ => none
theorem lstI_rep {K : PySem.W.Frag} {H : Hp} {v : V} {d : D} {f : List Addr} {ns : List Int} (r : Rep K H v d f) (e : lstI d = some ns) : ∃ a, v = .ref a ∧ SqL K H a (ns.map V.int) := by
  cases d with
  | lst ds =>
    cases r with
    | lst h rs =>
      have := intsOf_eq (show intsOf ds = some ns from e)
      subst this
      rw [reps_intsI rs] at h
      exact ⟨_, rfl, .inl (.inl h)⟩
  | frz ds =>
    cases r with
    | frz h rs =>
      have := intsOf_eq (show intsOf ds = some ns from e)
      subst this
      rw [reps_intsI rs] at h
      exact ⟨_, rfl, h.sq⟩
  | _ => cases e
def sortSetD (d : D) : Option D := match lstI d with
  | some ns => if ns.length < 64 then some (.lst ((sortU ns).map D.int)) else none
  | none => none
section
variable {X : Cx} {e o a : Expr} {m : ME} {p : MP} {pos : Pos} {io : List Nat}
theorem je_sortedSet {p1 p2 q pos : Pos} (hc : X.calm = true) (hg : Gl X "sorted") (hm : X.mg "sorted" = none) (hg2 : Gl X "set") (hm2 : X.mg "set" = none) (ha : JE X a m)
    (hs : starEach [a] X.env = (false, eval a X.env) :: starEach [] X.env := by rfl)
    (hs2 : starEach [.Call (.Name "set" p2) [a] [] q] X.env = (false, eval (.Call (.Name "set" p2) [a] [] q) X.env) :: starEach [] X.env := by rfl)
    (hp1 : (backTo q (starEach [] X.env)).any (·.1) = false := by rfl) (hp2 : (backTo pos (starEach [] X.env)).any (·.1) = false := by rfl) :
    JE X (.Call (.Name "sorted" p1) [.Call (.Name "set" p2) [a] [] q] [] pos) (eUn sortSetD m) :=
  pe_imp (pe_callB (cr_sortedSet hc) hg hm (by decide +kernel) (pa_cons (pe_callTy (cr_setL hc) hg2 hm2 (by decide +kernel) (pa_cons ha pa_nil hs) (by decide) (by decide) hs hp1) pa_nil hs2) (by decide) (by decide) hs2 hp2) fun σ H Q => by
  rintro ⟨ρ, d, ρ', fp, R, e, k⟩
  unfold eUn at e
  split at e
  · rename_i d1 ρ1 e1
    split at e
    · rename_i d' e3
      cases e
      refine ⟨ρ, d1, ρ', fp, R, e1, fun x H1 fp1 fr1 R1 r1 n1 c1 => ?_⟩
      unfold sortSetD at e3
      split at e3
      · rename_i ns e4
        split at e3
        · rename_i hl
          cases e3
          obtain ⟨b, rfl, hq⟩ := lstI_rep r1 e4
          refine ⟨b, ns, rfl, hq, by omega, fun c p hcl hp => ?_⟩
          refine ⟨p, _, c, rfl, upd_same, by omega, fun zs p' hz hmem hlen hp' => ?_⟩
          have hz' : zs = sortU ns := lt_uniq hz (sortU_lt ns) fun k => by rw [hmem k, sortU_mem, decide_eq_true_iff]
          subst hz'
          have hpp : p' ≠ p := fun z => by rw [z, upd_same] at hp'; cases hp'
          have hp1 : H1 p' = none := by rwa [upd_ne hpp] at hp'
          have s2 : Same H1 (upd (upd H1 p (SetO X.w p (fun j => decide (j ∈ ns)) c)) p' (.lst ((sortU ns).map V.int))) := (same_upd hp).trans (same_upd hp')
          refine k (.ref p') _ fp1 [p'] (R1.same s2) (.lst upd_same (reps_intsD _)) (nd_new R1 (by simp) fun x m => by rw [List.mem_singleton.mp m]; exact hp1) ?_
          exact c1.trans (chg_new s2 (fun x m => by rw [List.mem_singleton.mp m]; exact hp1) fun x m => List.mem_append_right fr1 m) fun x m => m
        · cases e3
      · cases e3
    · cases e
  · cases e

/-! ### x[k] op= y, of ints in a list -/
def rGetL (K : PySem.W.Frag) : V → V → Hp → VK → Prop := fun x y H Q => ∃ p xs i v, x = .ref p ∧ y = .int i ∧ SqL K H p xs ∧ 0 ≤ i ∧ xs[i.toNat]? = some v ∧ Q v H
theorem pget_list : PGet X (rGetL X.K) := by
  intro pins s σ H o i ov iv Q I r1 r2 h
  obtain ⟨p, xs, i, v, rfl, rfl, hq, h0, he, q⟩ := h
  cases r1
  obtain ⟨t, rfl⟩ := r2
  obtain ⟨its, r, pl, hz⟩ := I.list hq
  obtain ⟨w, ew, rw'⟩ := r.get he
  have hl := r.length
  have hi : i.toNat < xs.length := (List.getElem?_eq_some_iff.mp he).1
  rw [sizeLine_eq] at hz
  exact wpAny_getItem_list pl.isList h0 (by omega) (by simpa using ew) ⟨v, H, I, rw', q⟩
def sAugIx (f : Int → Int → Int) (i : Nat) (pk p : MP) : MS := fun ρ => match nth ρ i with
  | some (.lst ds) => (match pk ρ with
    | some (.int k) => (match p ρ with
      | some (.int y) => if 0 ≤ k then (match ds[k.toNat]? with
        | some (.int x) => some (.nx, ρ.set i (some (.lst (ds.set k.toNat (.int (f x y))))))
        | _ => none) else none
      | _ => none)
    | _ => none)
  | _ => none
theorem js_augIx {op : Operator} {f : Int → Int → Int} {i : Nat} {b : Expr} {pk : MP} {tpos : Pos} (hp : PIp X op (ipI f)) (ho : PE X o (tVar i)) (hi : JP X b pk) (he : JP X e p)
    (ha : ∀ ov iv new, augStore b ov iv new = (do holding [new, ov, iv] (setItem ov iv new); release [new, ov, iv] []; pure .next) := by intros; rfl) : JS X io (.AugAssign (.Subscript o b tpos) op e pos) (sAugIx f i pk p) :=
  ps_imp (ps_augS ho hi pget_list he hp set_list ha) fun D σ H => by
  rintro ⟨ρ, o, ρ', fp, R, e, k⟩
  unfold sAugIx at e
  split at e
  · rename_i ds e0
    split at e
    · rename_i kk e1
      split at e
      · rename_i y e2
        split at e
        · rename_i h0
          split at e
          · rename_i x e3
            cases e
            obtain ⟨v', f1, fq, hv, rl, R3, n3, s3⟩ := R.take (nth_some e0)
            cases rl with
            | @lst a xs _ g hl rs =>
            have n4 := List.nodup_append.mp n3
            have n5 := List.nodup_cons.mp n4.1
            obtain ⟨xv, xf, ex, rx, _⟩ := rs.get e3
            cases rx
            have hlt : kk.toNat < xs.length := (List.getElem?_eq_some_iff.mp ex).1
            refine ⟨_, hv, ρ, .int kk, fp, R, e1, fun v H1 fr1 sm1 r1 => ?_⟩
            cases r1
            refine ⟨a, xs, kk, .int x, rfl, rfl, .inl (.inl (sm1 _ _ hl)), h0, ex, ?_⟩
            refine ⟨ρ, .int y, fp, R.same sm1, e2, fun v H2 fr2 sm2 r2 => ?_⟩
            cases r2
            have sm := sm1.trans sm2
            have hl2 : H2 a = some (.lst xs) := sm _ _ hl
            refine ⟨x, y, rfl, rfl, a, xs, kk, kk.toNat, rfl, rfl, hl2, by unfold ixN; rw [if_pos h0, if_pos (by omega)], ?_⟩
            have hA : ∀ b ∈ [a], Mb (H2 b) := fun b m => by rw [List.mem_singleton.mp m, hl2]; trivial
            have kp : ∀ b o, H2 b = some o → b ∉ [a] → (upd H2 a (.lst (xs.set kk.toNat (.int (f x y))))) b = some o := fun b o e h => by
              rw [upd_ne (fun z => h (by rw [z]; exact List.mem_singleton.mpr rfl))]; exact e
            have rs' : Reps X.K (upd H2 a (.lst (xs.set kk.toNat (.int (f x y))))) xs ds g := Reps.keep hA kp _ _ _ (rs.same sm) fun b m z => n5.1 (List.mem_singleton.mp z ▸ m)
            have R3' : Rel X.K (upd H2 a (.lst (xs.set kk.toNat (.int (f x y))))) σ (ρ.set i none) fq := (R3.same sm).keep hA kp fun b m z => n4.2.2 a List.mem_cons_self b m (List.mem_singleton.mp z).symm
            obtain ⟨g', rg, ng, sg⟩ := rs'.set (i := kk.toNat) (.int (f x y)) (show ([] ++ g).Nodup from n5.2)
            have rnew : Rep X.K (upd H2 a (.lst (xs.set kk.toNat (.int (f x y))))) (.ref a) (.lst (ds.set kk.toNat (.int (f x y)))) (a :: g') := .lst upd_same rg
            have nnew : ((a :: g') ++ fq).Nodup := by
              refine List.nodup_append.mpr ⟨List.nodup_cons.mpr ⟨fun m => n5.1 (sg a m), ng⟩, n4.2.1, fun x hx y hy => ?_⟩
              rcases List.mem_cons.mp hx with e | hx
              · exact n4.2.2 x (e ▸ List.mem_cons_self) y hy
              · exact n4.2.2 x (List.mem_cons_of_mem _ (sg x hx)) y hy
            obtain ⟨fe', R5, s5⟩ := R3'.put' hv rnew nnew
            rw [List.set_set] at R5
            have ina : ∀ z, z ∈ a :: g → z ∈ fp := fun z m => (s3 z).mpr (List.mem_append_left _ m)
            refine k σ _ fe' R5 ⟨fun b o e h => kp b o (sm b o e) fun z => h (ina b (List.mem_singleton.mp z ▸ List.mem_cons_self)), fun b m => .inl ?_⟩ Pin.refl
            rcases List.mem_append.mp (s5 b m) with m | m
            · rcases List.mem_cons.mp m with e | m
              · exact ina b (e ▸ List.mem_cons_self)
              · exact ina b (List.mem_cons_of_mem _ (sg b m))
            · exact (s3 b).mpr (List.mem_append_right _ m)
          · cases e
        · cases e
      · cases e
    · cases e
  · cases e
/-! ### x op= y of ints -/
def sAug (f : Int → Int → Int) (i : Nat) (p : MP) : MS := fun ρ => match nth ρ i with
  | some (.int x) => (match p ρ with
    | some (.int y) => some (.nx, ρ.set i (some (.int (f x y))))
    | _ => none)
  | _ => none
theorem js_aug {op : Operator} {f : Int → Int → Int} {i : Nat} {x : Str} {pos' : Pos} (hN : X.N.Nodup) (hp : PIp X op (ipI f)) (he : JP X e p) (hi : X.N[i]? = some x := by rfl) (hx : Loc X.env.scope x := by first | exact Or.inl rfl | exact Or.inr rfl) (hno : i ∉ io := by decide)
    (hf : X.fn x = true ∨ X.env.scope.names.lookup x = some .local := by first | exact .inl rfl | exact .inr rfl | assumption) :
    JS X io (.AugAssign (.Name x pos') op e pos) (sAug f i p) := ps_imp (ps_aug hN hi hx he hp hf) fun D σ H => by
  rintro ⟨ρ, o, ρ', fp, R, e, k⟩
  unfold sAug at e
  split at e
  · rename_i a e0
    split at e
    · rename_i y e1
      cases e
      obtain ⟨v, f1, hv, r, _⟩ := R.get (nth_some e0)
      cases r
      refine ⟨_, hv, ρ, .int y, fp, R, e1, fun v H1 fr1 sm1 r1 => ?_⟩
      cases r1
      refine ⟨a, y, rfl, rfl, ?_⟩
      obtain ⟨fq, R2, s2⟩ := (R.same sm1).put i (.int (f a y)) (show ([] ++ fp).Nodup from R.nodup)
      exact k _ _ fq R2 ⟨fun b o e _ => sm1 b o e, fun b m => .inl (s2 b m)⟩ (Pin.set hno)
    · cases e
  · cases e

/-! ### x.remove(k), of ints -/
def lRemove : List D → List D → Option (D × List D) := fun ds es => match es with
  | [.int k] => (match intsOf ds with
    | some ns => if k ∈ ns then some (.non, (ns.erase k).map D.int) else none
    | none => none)
  | _ => none
theorem remove_ok {K : PySem.W.Frag} : LMut K rRemI lRemove := by
  intro a xs ys ds es fp fe H Q d ds' hl rx ry n e k
  unfold lRemove at e
  split at e
  · rename_i kk
    split at e
    · rename_i ns e1
      split at e
      · rename_i hm
        cases e
        have := intsOf_eq e1
        subst this
        have hx := reps_intsI rx
        subst hx
        obtain ⟨j, hj1, hj2, hj3, hj4⟩ := first_at hm
        cases ry with
        | cons r1 rn =>
          cases r1
          cases rn
          have nn := List.nodup_append.mp n
          refine ⟨a, ns, kk, j, rfl, rfl, hl, hj2, hj3, ?_⟩
          rw [hj4]
          exact k .non _ [] [] .non (reps_intsD _) (by simp) fun b m => nomatch m
      · cases e
    · cases e
  · cases e
end
end Bv

namespace Bv
open PySem PySem.Spec PyProof.Rows L2
/-! ### enumerate(x), x a list or a tuple -/
set_option maxHeartbeats 1000000 in
theorem meets_enum1 {v : Value} {o : Obj} {H : Heap → Prop} (B : Begins v o H) :
    Meets (Builtin.«enumerate.__new__» ⟨[.type "enumerate", v], []⟩) (fun _ R s => H s.heap ∧
      R (.ok (.ret (.ref (s.heap.push o).objs.size))) { s with heap := (s.heap.push o).push { cls := .type "enumerate", data := .fields #[.none, .bool false, .ref s.heap.objs.size, rawInt 0, .none, .none] } }) :=
  .of_wp fun prog w A R s h => by
    obtain ⟨hp, g, d, tk, os⟩ := s; obtain ⟨h1, h⟩ := h; have hsub := sub_enumerate
    have q1 : ∀ {A' : Around} {E : Value → Shared → Prop} {Q : Value → Shared → Prop}, Q (.ref hp.objs.size) ⟨hp.push o, g, d, tk, os⟩ → wpAny (model prog w) A' (pyIter v) Q E ⟨hp, g, d, tk, os⟩ := fun q => B.iter prog w _ _ ⟨hp, g, d, tk, os⟩ _ h1 q
    wp_walk using q1
    refine wpAny_stack_any fun st => wpAny_pure ?_
    split
    · rename_i c _ _ _ _ _
      cases (c == Value.type "enumerate") <;> (wp_walk using q1; exact ⟨_, rfl, h⟩)
    · wp_walk using q1
      exact ⟨_, rfl, h⟩
section
variable {prog : Program} {w : World} {A : Around} {E : Value → Shared → Prop} {s : Shared}
theorem enum_begins1 {v : Value} {o : Obj} {H : Heap → Prop} {Q : Value → Shared → Prop} (B : Begins v o H) (h1 : H s.heap)
    (h : ∀ h', IsEnum h' (s.heap.objs.size + 1) s.heap.objs.size 0 .none → h'.get? s.heap.objs.size = some o → (∀ b o, s.heap.get? b = some o → h'.get? b = some o) → Q (.ref (s.heap.objs.size + 1)) { s with heap := h' }) :
    wpAny (model prog w) A (call (.type "enumerate") [v]) Q E s := by
  refine callType_new F.called_enumerate (by decide) (F.typeCall_enumerate_1 _) (F.newCall_enumerate_1 _) (fun obj => F.args_object_init_2 obj _) F.entry_enumerate_new (meets_enum1 B) ⟨h1, ?_⟩
  have hz : (s.heap.push o).objs.size = s.heap.objs.size + 1 := Heap.size_push ..
  show _ ∧ _
  rw [hz]
  have he : IsEnum ((s.heap.push o).push { cls := .type "enumerate", data := .fields #[.none, .bool false, .ref s.heap.objs.size, rawInt 0, .none, .none] }) (s.heap.objs.size + 1) s.heap.objs.size 0 .none := by
    have := Heap.get?_push_size (s.heap.push o) (o := { cls := .type "enumerate", data := .fields #[.none, .bool false, .ref s.heap.objs.size, rawInt 0, .none, .none] }) rfl; rw [hz] at this; exact this
  exact ⟨⟨_, he, rfl⟩, h _ he (Heap.get?_push_of_some _ (Heap.get?_push_size _ B.free)) fun b o x => Heap.get?_push_of_some _ (Heap.get?_push_of_some _ x)⟩
end
/-- the tuple at a as it stands at each turn, each item in a new pair -/
def IteT (K : PySem.W.Frag) (a : Addr) : It :=
  ⟨fun i H => ∃ (xs : List V) (x : V), SqT K H a xs ∧ xs[i]? = some x, fun i H v H' => ∃ T x, v = .ref T ∧ H T = none ∧ H' = upd H T (.tup [.int (i : Nat), x]) ∧ ∀ xs, SqT K H a xs → xs[i]? = some x, fun i H => ∃ xs : List V, SqT K H a xs ∧ xs.length ≤ i⟩
theorem two_mem {b e it : Addr} {p : Prop} (h : b ∈ [e, it]) (h1 : b = e → p) (h2 : b = it → p) : p := by
  rcases List.mem_cons.mp h with z | z
  · exact h1 z
  · exact h2 (List.mem_singleton.mp z)
theorem turn_enumT {P : Program} {w : World} {K : PySem.W.Frag} {elts : List Expr} {kk : Nat} {tpos : Pos} (a e it : Addr) :
    Turn P w K (.Tuple elts kk tpos) (IteT K a) [e, it] e (fun i h => (∃ old, IsEnum h e it ((i : Nat) : Int) old) ∧ h.IsTupleIter it a i ∧ e ≠ it ∧ a ≠ it ∧ e ≠ a) where
  mem := List.mem_cons_self
  obj := fun i h st b hb => by
    obtain ⟨⟨old, he⟩, ⟨o, ho, hc, hd⟩, _⟩ := st
    exact two_mem hb (fun z => z ▸ ⟨_, he, fun v q => nomatch q⟩) fun z => z ▸ ⟨o, ho, fun v q => by rw [hd] at q; cases q⟩
  keep := fun i h h' st k => let ⟨⟨old, he⟩, hi, hne⟩ := st; ⟨⟨old, k e List.mem_cons_self _ he⟩, hi.at fun o q => k it (List.mem_cons_of_mem _ List.mem_cons_self) o q, hne⟩
  item := by
    intro X hP hw hK hc i pins s σ H E I hf st hg; subst hP hw hK
    obtain ⟨⟨old, he⟩, hit, hne, hai, hea⟩ := st
    obtain ⟨xs, x, hq, hx⟩ := hg
    obtain ⟨its, rv, p, hz⟩ := I.tuple hq
    obtain ⟨u, hu, ru⟩ := rv.get hx
    have hel : e < s.heap.objs.size := Heap.lt_size he
    have hil : it < s.heap.objs.size := by obtain ⟨_, q, _⟩ := hit; exact Heap.lt_size q
    have hlt : i < its.toArray.size := by have := (List.getElem?_eq_some_iff.mp hu).1; simpa using this
    have hh : X.A.in1.handled = none := by simp [I.ok.hd hc]
    refine wpAny_pyNext_enum_itemD (Draws.tuple hh it a hai its.toArray) he ⟨hit, p⟩ hlt hne (fun m => two_mem m hne hea) fun u' h' tk hPu ho hst' hT hsz hk => ?_
    have hu' : u' = u := by
      have : its[i]? = some u' := by simpa using hPu
      rw [hu] at this; cases this; rfl
    subst hu'
    refine ⟨_, rfl, wpAny_letOwnedTupleGo_enum (s := { s with heap := h', toks := tk + 1 }) ho fun h'' he' sb => ?_⟩
    have hT2 : h''.get? s.heap.objs.size = some { cls := .type "tuple", data := .seq #[.int i tk, u'] } := (sb.2 _ (Nat.ne_of_gt hel)).trans hT
    have new : ObjOk X.prog X.w (upd H s.heap.objs.size (.tup [.int (i : Nat), x])) h'' s.heap.objs.size (.tup [.int (i : Nat), x]) := ⟨by show 2 ≤ sizeLine; decide, [.int i tk, u'], .cons ⟨_, rfl⟩ (.cons ru .nil), ⟨_, hT2, rfl, _, rfl⟩⟩
    have I1 : Inv X pins σ (upd H s.heap.objs.size (.tup [.int (i : Nat), x])) { s with heap := h'', toks := tk + 1 } :=
      I.turnedNew (ch := [e, it]) (fun b ob hb q => (sb.2 b (fun z => hb (z ▸ List.mem_cons_self))).trans (hk b ob (fun z => hb (z ▸ List.mem_cons_self)) (fun z => hb (z ▸ List.mem_cons_of_mem _ List.mem_cons_self)) q)) hf (Nat.le_refl _) new
    refine ⟨.ref s.heap.objs.size, _, I1, rfl, ⟨_, x, rfl, I.hok.fresh (Nat.le_refl _), rfl, fun ys hy => by rw [I.tuple_inj hy hq]; exact hx⟩, ⟨⟨u', ?_⟩, hst'.1.at fun o q => (sb.2 it (Ne.symm hne)).trans q, hne, hai, hea⟩, fun b hb => ?_⟩
    · rw [show ((i + 1 : Nat) : Int) = (i : Int) + 1 by omega]; exact he'
    · rw [upd_ne (Nat.ne_of_lt (two_mem hb (fun z => z ▸ hel) fun z => z ▸ hil))]; exact (hf b hb).1
  done := by
    intro X hP hw hK hc i pins s σ H E I hf st hg; subst hP hw hK
    obtain ⟨⟨old, he⟩, hit, hne, hai, hea⟩ := st
    obtain ⟨xs, hq, hx⟩ := hg
    obtain ⟨its, rv, p, hz⟩ := I.tuple hq
    obtain ⟨f0, f1, f2, f3, f4, f5⟩ := hf it (List.mem_cons_of_mem _ List.mem_cons_self)
    have hl := rv.length
    have hh : X.A.in1.in1.handled = none := by simp [I.ok.hd hc]
    have hT : s.TypeIs (.ref e) "enumerate" := ⟨_, he, rfl⟩
    unfold pyNext
    refine wpAny_bind (wpAny_attempt (wpAny_callSpecial?_slot (name := Str.ofString "__next__") hT F.slot_enumerate_next (wpAny_call_entry F.slot_enumerate_next hT F.entry_enumerate_next ?_ (F.args_enumerate_next_1 _))))
    show wpAny _ _ (field (.ref e) 2 >>= _) _ _ _
    refine wpAny_bind (wpAny_field he rfl (x := .ref it) rfl ?_)
    refine wpAny_bind (wpAny_nextOf_tuple_end (by simp [I.ok.hd hc]) hit p (by simp; omega) fun h' x he' hx' => ?_)
    obtain ⟨o, ho, hc'⟩ := hx'
    refine wpAny_bind (wpAny_isInstance (T := "StopIteration") (b := true) ⟨o, ho, hc'⟩ isSubtype_stop ?_)
    exact wpAny_pure ⟨rfl, I.turned (t' := s.toks) (fun b o hb q => he' b o hb q) f0 f1 f3 f4 f5⟩
  self := fun A i s Q E st h => let ⟨⟨_, he⟩, _⟩ := st; wpAny_pyIter_enum he h
def iEnumT (K : PySem.W.Frag) (ta : TA) : TI := fun σ H R => ta σ H fun vs H1 => ∃ a xs, vs = [.ref a] ∧ SqT K H1 a xs ∧ R (IteT K a) H1
section
variable {X : Cx} {e : Expr} {m : ME} {pos : Pos}
theorem pi_enumT {ta : TA} {p pos tpos : Pos} {elts : List Expr} {kk : Nat} (hg : Gl X "enumerate") (hm : X.mg "enumerate" = none) (ha : PA X [e] ta) (hs : starEach [e] X.env = [(false, eval e X.env)] := by rfl) :
    PI X (.Tuple elts kk tpos) (.Call (.Name "enumerate" p) [e] [] pos) (iEnumT X.K ta) := by
  refine ⟨fun pins s σ H R I h => ?_⟩
  refine Call_ (ld_blt I hg hm boot_enumerate (PyProof.Rows.callWith_type1 (thn (ha.run pos pins s σ H _ I h) fun us s1 ⟨vs, H1, I1, r1, q1⟩ => ?_) hs rfl))
  obtain ⟨a, xs, ex, hq, q⟩ := q1; subst ex
  rw [Vals.ref1 r1]
  obtain ⟨its, rv, p', hz⟩ := I1.tuple hq
  have hal : a < s1.heap.objs.size := by obtain ⟨o, ho, _⟩ := p'; exact Heap.lt_size ho
  refine enum_begins1 (begins_tuple a its.toArray) p' fun h' he hit hk => wpAny_pyIter_enum he ?_
  have I2 : Inv X pins σ H1 { s1 with heap := h' } := I1.kept (t' := s1.toks) hk
  refine ⟨s1.heap.objs.size + 1, [s1.heap.objs.size + 1, s1.heap.objs.size], _, _, H1, rfl, I2, turn_enumT a (s1.heap.objs.size + 1) s1.heap.objs.size, ⟨⟨.none, he⟩, ⟨_, hit, rfl, rfl⟩, Nat.succ_ne_self _, Nat.ne_of_lt hal, Nat.ne_of_gt (Nat.lt_succ_of_lt hal)⟩, fun b hb => ?_, q⟩
  have hle : s1.heap.objs.size ≤ b := two_mem hb (fun z => z ▸ Nat.le_succ _) fun z => z ▸ Nat.le_refl _
  exact I1.fpOk hle (I1.hok.fresh hle)
/-! by value -/
def enumF : Nat → List D → List D
  | _, [] => []
  | k, d :: ds => .tup [.int (k : Nat), d] :: enumF (k + 1) ds
theorem enumF_len : ∀ (k : Nat) (ds : List D), (enumF k ds).length = ds.length
  | _, [] => rfl
  | k, d :: ds => by unfold enumF; rw [List.length_cons, List.length_cons, enumF_len (k + 1) ds]
theorem enumF_at : ∀ (k : Nat) (ds : List D) (i : Nat), (enumF k ds)[i]? = (ds[i]?).map fun d => .tup [.int ((k + i : Nat) : Int), d]
  | _, [], i => by unfold enumF; simp
  | k, d :: ds, 0 => by unfold enumF; rfl
  | k, d :: ds, i + 1 => by
    unfold enumF
    rw [List.getElem?_cons_succ, List.getElem?_cons_succ, enumF_at (k + 1) ds i, show k + 1 + i = k + (i + 1) by omega]
def iEnumD (m : ME) : MI := fun ρ => match m ρ with
  | some (d, ρ') => if notStr d then (match seqD d with
    | some ds => some (enumF 0 ds, ρ')
    | none => none) else none
  | none => none
theorem enum_it {K : PySem.W.Frag} {H : Hp} {ds : List D} {own : List Addr} {xs : List V} {J : It} {S : Hp → List V → Prop}
    (st : ∀ (A : List Addr) (H2 : Hp), (∀ b ∈ A, Mb (H b)) → (∀ b o, H b = some o → b ∉ A → H2 b = some o) → (∀ a ∈ own, a ∉ A) → S H2 xs) (r : Reps K H xs ds [])
    (go : ∀ i H2 x, S H2 xs → xs[i]? = some x → J.go i H2) (yl : ∀ i H2 v H3, S H2 xs → J.yld i H2 v H3 → ∃ T x, v = .ref T ∧ H2 T = none ∧ H3 = upd H2 T (.tup [.int (i : Nat), x]) ∧ xs[i]? = some x)
    (sp : ∀ i H2, S H2 xs → xs.length ≤ i → J.stop i H2) : SeqIt J K (enumF 0 ds) own H := by
  intro A H2 hA kp ow i
  have s2 := st A H2 hA kp ow
  have r2 := Reps.keep hA kp _ _ _ r fun a m => nomatch m
  refine ⟨fun d hd => ?_, fun hl => sp i H2 s2 (by rw [r.length]; rwa [enumF_len] at hl)⟩
  rw [enumF_at] at hd
  cases h : ds[i]? with
  | none => rw [h] at hd; cases hd
  | some d0 =>
    rw [h] at hd
    cases hd
    obtain ⟨v, f, e1, rv, sb⟩ := r2.getS h
    have z := List.eq_nil_of_sublist_nil sb
    subst z
    refine ⟨go i H2 v s2 e1, fun x H3 y => ?_⟩
    obtain ⟨T, x', rfl, hT, rfl, hx'⟩ := yl i H2 x H3 s2 y
    rw [e1] at hx'
    cases hx'
    refine ⟨same_upd hT, .tup (.inl (.inl upd_same)) ?_⟩
    rw [Nat.zero_add]
    exact Reps.cons (f := []) (fp := []) (.int _) (Reps.single (rv.same (same_upd hT)))
theorem ji_enum {elts : List Expr} {kk : Nat} {p tpos : Pos} (hg : Gl X "enumerate") (hm : X.mg "enumerate" = none) (ha : JE X e m) (hs : starEach [e] X.env = [(false, eval e X.env)] := by rfl) :
    JI X (.Tuple elts kk tpos) (.Call (.Name "enumerate" p) [e] [] pos) (iEnumD m) := by
  have hP := jms_cons ha jms_nil hs
  refine ⟨fun pins s σ H R I h => ?_⟩
  have hh : iEnumT X.K (tMs X.K [m]) σ H R ∨ iEnum X.K (tMs X.K [m]) σ H R := by
    obtain ⟨ρ, ds, ρ', fp, Re, e, k⟩ := h
    unfold iEnumD at e
    split at e
    · rename_i d ρ1 e1
      split at e
      · rename_i hns
        split at e
        · rename_i ds' e2
          cases e
          have ev : evs [m] ρ = some ([d], ρ') := by
            show (match m ρ with
              | some (d, ρ1) => (match evs [] ρ1 with
                | some (ds, ρ2) => some (d :: ds, ρ2)
                | none => none)
              | none => none) = _
            rw [e1]; rfl
          cases d with
          | tup es =>
            refine .inl ⟨ρ, _, ρ', fp, Re, ev, fun vs H1 fp1 fr R1 r n c => ?_⟩
            obtain ⟨v, rfl, rv⟩ := reps1 r
            have e2 : (if noLists es = true then some es else none) = some ds' := e2
            split at e2
            · rename_i hn
              cases e2
              cases rv with
              | @tup a xs _ _ s rs =>
                have z := Reps.nol _ _ _ rs hn
                subst z
                refine ⟨a, xs, rfl, s, k _ H1 fp1 [] R1 n c (fun a m => nomatch m) (enum_it (S := fun H xs => SqT X.K H a xs) (fun A H2 hA kp _ => sqT_keep hA kp s) rs (fun i H2 x s e => ⟨xs, x, s, e⟩) (fun i H2 v H3 s y => ?_) fun i H2 s h => ⟨xs, s, h⟩)⟩
                obtain ⟨T, x, a1, a2, a3, a4⟩ := y
                exact ⟨T, x, a1, a2, a3, a4 xs s⟩
            · cases e2
          | lst es =>
            refine .inr ⟨ρ, _, ρ', fp, Re, ev, fun vs H1 fp1 fr R1 r n c => ?_⟩
            obtain ⟨v, rfl, rv⟩ := reps1 r
            have e2 : (if noLists es = true then some es else none) = some ds' := e2
            split at e2
            · rename_i hn
              cases e2
              have hmb := Rep.mb _ _ _ rv
              cases rv with
              | @lst a xs _ g s rs =>
                have z := Reps.nol _ _ _ rs hn
                subst z
                refine ⟨a, xs, rfl, .inl (.inl s), k _ H1 fp1 _ R1 n c hmb (enum_it (S := fun H xs => SqL X.K H a xs) (fun A H2 hA kp ow => .inl (.inl (kp _ _ s (ow a List.mem_cons_self)))) rs (fun i H2 x s e => ⟨xs, x, s, e⟩) (fun i H2 v H3 s y => ?_) fun i H2 s h => ⟨xs, s, h⟩)⟩
                obtain ⟨T, x, a1, a2, a3, a4⟩ := y
                exact ⟨T, x, a1, a2, a3, a4 xs s⟩
            · cases e2
          | frz es =>
            refine .inr ⟨ρ, _, ρ', fp, Re, ev, fun vs H1 fp1 fr R1 r n c => ?_⟩
            obtain ⟨v, rfl, rv⟩ := reps1 r
            have e2 : (if noLists es = true then some es else none) = some ds' := e2
            split at e2
            · rename_i hn
              cases e2
              cases rv with
              | @frz a xs _ s rs =>
                refine ⟨a, xs, rfl, s.sq, k _ H1 fp1 [] R1 n c (fun a m => nomatch m) (enum_it (S := fun H xs => SqL X.K H a xs) (fun A H2 hA kp ow => (fz_keep hA kp s).sq) rs (fun i H2 x s e => ⟨xs, x, s, e⟩) (fun i H2 v H3 s y => ?_) fun i H2 s h => ⟨xs, s, h⟩)⟩
                obtain ⟨T, x, a1, a2, a3, a4⟩ := y
                exact ⟨T, x, a1, a2, a3, a4 xs s⟩
            · cases e2
          | str z => cases hns
          | _ => cases e2
        · cases e
      · cases e
    · cases e
  exact hh.elim (fun h => (pi_enumT hg hm hP hs).run pins s σ H R I h) fun h => (pi_enum hg hm hP hs).run pins s σ H R I h
end
end Bv

namespace Bv
open PySem PySem.Spec PyProof.Rows L2
/-! ### the plain side of Bv32 .. Bv35 -/
section
variable {ρ : Env} {i : Nat} {m : ME} {p pk : MP} {g : MG} {b : MS} {s : MS} {ds : List D} {d : D}
theorem ws_fz {Q : Out → Env → Prop} (e : nth ρ i = some d) (h : NE (ρ.set i (some (fzD d))) fun ρ0 => WS s ρ0 Q) : WS (sFz i s) ρ Q := by
  obtain ⟨o, ρ', e2, q⟩ := h
  exact ⟨o, ρ', by unfold sFz; rw [e]; exact e2, q⟩
theorem ws_forBf {Q : Out → Env → Prop} (e : nth ρ i = some (.frz ds)) (n : noLists ds = true) (h : WL g b ds ρ Q) : WS (sForB i g b) ρ Q := by
  obtain ⟨o, ρ', e2, q⟩ := ws_forA (d := .frz ds) e rfl (ws_forV e rfl (by unfold seqD; dsimp only; rw [if_pos n]) n h)
  exact ⟨o, ρ', by unfold sForB; rw [e]; exact e2, q⟩
theorem wi_enum {Q : List D → Env → Prop} (h : WE m ρ fun d ρ1 => TQ d fun ds => Q (enumF 0 ds) ρ1) : WI (iEnumD m) ρ Q := by
  obtain ⟨d, ρ1, e, ds, h1, h2, q⟩ := h
  exact ⟨_, ρ1, by unfold iEnumD; rw [e]; dsimp only; rw [if_pos h1, h2], q⟩
theorem wo_sortSet {ns : List Int} {Q : D → Prop} (h : ns.length < 64) (q : Q (.lst ((sortU ns).map D.int))) : WO (sortSetD (.lst (ns.map D.int))) Q := ⟨_, by
  unfold sortSetD lstI; dsimp only; rw [intsOf_map]; dsimp only; rw [if_pos h], q⟩
theorem wo_lenXF {ds : List D} {Q : D → Prop} (q : Q (.int ds.length)) : WO (lenX [.frz ds]) Q := ⟨_, rfl, q⟩
theorem ws_augIx {f : Int → Int → Int} {Q : Out → Env → Prop} (h : SN (nth ρ i) fun l => ∃ ds, l = .lst ds ∧ WP pk ρ fun kd => IsI kd fun k => WP p ρ fun yd => IsI yd fun y => 0 ≤ k ∧ SN ds[k.toNat]? fun xd => IsI xd fun x => NE (ρ.set i (some (.lst (ds.set k.toNat (.int (f x y)))))) (Q .nx)) : WS (sAugIx f i pk p) ρ Q := by
  obtain ⟨_, e, ds, rfl, _, e1, k, rfl, _, e2, y, rfl, h0, _, e3, x, rfl, q⟩ := h
  exact ⟨.nx, _, by unfold sAugIx; rw [e]; dsimp only; rw [e1]; dsimp only; rw [e2]; dsimp only; rw [if_pos h0, e3], q⟩
theorem ws_aug {f : Int → Int → Int} {Q : Out → Env → Prop} (h : SN (nth ρ i) fun l => IsI l fun x => WP p ρ fun yd => IsI yd fun y => NE (ρ.set i (some (.int (f x y)))) (Q .nx)) : WS (sAug f i p) ρ Q := by
  obtain ⟨_, e, x, rfl, _, e2, y, rfl, q⟩ := h
  exact ⟨.nx, _, by unfold sAug; rw [e]; dsimp only; rw [e2], q⟩
theorem lm_remove {ns : List Int} {k : Int} {Q : D → List D → Prop} (h : k ∈ ns) (q : Q .non ((ns.erase k).map D.int)) : LM (lRemove (ns.map D.int) [.int k]) Q := ⟨_, _, by
  unfold lRemove; dsimp only; rw [intsOf_map]; dsimp only; rw [if_pos h], q⟩
theorem wo_minL {n : Int} {ns : List Int} {Q : D → Prop} (q : ∀ x, x ∈ n :: ns → (∀ y ∈ n :: ns, x ≤ y) → Q (.int x)) : WO (minL [.lst ((n :: ns).map D.int)]) Q := ⟨.int (minOf (n :: ns)), by
  unfold minL onInts
  dsimp only [listOf]
  rw [intsOf_map], q _ (minOf_mem n ns).1 (minOf_mem n ns).2⟩
end
/-! lists made by a function of the place -/
def mkL {α : Type} (n : Nat) (f : Nat → α) : List α := (List.range n).map f
theorem mkL_len {α : Type} (n : Nat) (f : Nat → α) : (mkL n f).length = n := by unfold mkL; simp
theorem mkL_get {α : Type} {n : Nat} {f : Nat → α} {i : Nat} (h : i < n) : (mkL n f)[i]? = some (f i) := by
  unfold mkL
  rw [List.getElem?_map, List.getElem?_range h]; rfl
theorem mkL_congr {α : Type} {n : Nat} {f g : Nat → α} (h : ∀ i, i < n → f i = g i) : mkL n f = mkL n g := by
  unfold mkL
  exact List.map_congr_left fun i m => h i (List.mem_range.mp m)
theorem mkL_set {α : Type} {n : Nat} {f : Nat → α} {i : Nat} {v : α} : (mkL n f).set i v = mkL n fun j => if j = i then v else f j := by
  apply List.ext_getElem?
  intro j
  by_cases hj : j < n
  · rw [mkL_get hj]
    by_cases e : i = j
    · subst e
      rw [List.getElem?_set_self (by rw [mkL_len]; exact hj), if_pos rfl]
    · rw [List.getElem?_set_ne e, mkL_get hj, if_neg fun z => e z.symm]
  · rw [List.getElem?_eq_none (by rw [List.length_set, mkL_len]; omega), List.getElem?_eq_none (by rw [mkL_len]; omega)]
theorem mkL_map {α β : Type} {n : Nat} {f : Nat → α} {g : α → β} : (mkL n f).map g = mkL n fun i => g (f i) := by
  unfold mkL; rw [List.map_map]; rfl
theorem map_mkL {α β : Type} (l : List α) (g : α → β) (d : β) : l.map g = mkL l.length fun i => (l[i]?.map g).getD d := by
  apply List.ext_getElem?
  intro j
  by_cases hj : j < l.length
  · rw [mkL_get hj, List.getElem?_map, List.getElem?_eq_getElem hj]; rfl
  · rw [List.getElem?_eq_none (by rw [List.length_map]; omega), List.getElem?_eq_none (by rw [mkL_len]; omega)]
theorem fzDs_map : ∀ (ds : List D), fzDs ds = ds.map fzD
  | [] => rfl
  | d :: ds => by unfold fzDs; rw [fzDs_map ds]; rfl
theorem fz_int (i : Int) : fzD (.int i) = .int i := by unfold fzD; rfl
theorem fz_ints (ns : List Int) : fzD (.lst (ns.map D.int)) = .frz (ns.map D.int) := by
  have e : fzDs (ns.map D.int) = ns.map D.int := by
    rw [fzDs_map, List.map_map]
    exact List.map_congr_left fun i _ => fz_int i
  unfold fzD
  rw [e, if_pos (nls_ints ns)]
theorem fz_rows {n : Nat} (f : Nat → List Int) : fzD (.lst (mkL n fun i => .lst ((f i).map D.int))) = .frz (mkL n fun i => .frz ((f i).map D.int)) := by
  have e : fzDs (mkL n fun i => .lst ((f i).map D.int)) = mkL n fun i => .frz ((f i).map D.int) := by
    rw [fzDs_map, mkL_map]
    exact mkL_congr fun i _ => fz_ints _
  unfold fzD
  rw [e, if_pos (nls_of fun d m => by
    unfold mkL at m
    obtain ⟨i, _, rfl⟩ := List.mem_map.mp m
    exact nls_ints _)]
theorem nls_rows {n : Nat} (f : Nat → List Int) : noLists (mkL n fun i => D.frz ((f i).map D.int)) = true := nls_of fun d m => by
  unfold mkL at m
  obtain ⟨i, _, rfl⟩ := List.mem_map.mp m
  exact nls_ints _
theorem nls_mkI {n : Nat} (f : Nat → Int) : noLists (mkL n fun i => D.int (f i)) = true := nls_of fun d m => by
  unfold mkL at m
  obtain ⟨i, _, rfl⟩ := List.mem_map.mp m
  rfl
end Bv

namespace Bv
open PySem PySem.Spec PyProof.Rows L2
/-! ### lists made by a function of the place: rules -/
section
variable {ρ : Env} {i n : Nat} {p pk : MP} {ms : List ME} {f : Int → Int → Int}
theorem ix_mk {y : Int} {Q : Nat → Prop} (h0 : 0 ≤ y) (h1 : y < n) (q : Q y.toNat) : IX n y Q := ⟨y.toNat, by unfold ixN; rw [if_pos h0, if_pos h1], q⟩
theorem we_appMk {U : Nat → List Int} {Q : D → Env → Prop} (e0 : nth ρ i = some (.lst (mkL n fun j => .lst ((U j).map D.int))))
    (h : WP pk ρ fun kd => IsI kd fun y => 0 ≤ y ∧ y < n ∧ (U y.toNat).length < 16777216 ∧ NE (ρ.set i none) fun ρ0 => WEs ms ρ0 fun es ρ1 => ∃ v, es = [.int v] ∧ NE (ρ1.set i (some (.lst (mkL n fun j => .lst ((if j = y.toNat then U j ++ [v] else U j).map D.int))))) (Q .non)) : WE (eLMutI lAppend i pk ms) ρ Q := by
  obtain ⟨kd, e1, y, rfl, h0, h1, hl, es, ρ1, e2, v, rfl, q⟩ := h
  have hy : y.toNat < n := by omega
  refine we_lmutI e0 ⟨_, e1, y, rfl, ?_⟩
  rw [mkL_len]
  refine ix_mk h0 h1 ⟨_, mkL_get hy, ?_⟩
  refine ⟨_, _, e2, lm_append (by rw [List.length_map]; exact hl) ?_⟩
  rw [mkL_set]
  have : (mkL n fun j => if j = y.toNat then D.lst ((U y.toNat).map D.int ++ [D.int v]) else D.lst ((U j).map D.int)) = mkL n fun j => D.lst ((if j = y.toNat then U j ++ [v] else U j).map D.int) := mkL_congr fun j _ => by
    by_cases h : j = y.toNat
    · rw [if_pos h, if_pos h, h, List.map_append]; rfl
    · rw [if_neg h, if_neg h]
  rw [this]
  exact q
theorem ws_augMk {M : Nat → Int} {Q : Out → Env → Prop} (e : nth ρ i = some (.lst (mkL n fun j => .int (M j))))
    (h : WP pk ρ fun kd => IsI kd fun y => 0 ≤ y ∧ y < n ∧ WP p ρ fun vd => IsI vd fun v => NE (ρ.set i (some (.lst (mkL n fun j => .int (if j = y.toNat then f (M j) v else M j))))) (Q .nx)) : WS (sAugIx f i pk p) ρ Q := by
  obtain ⟨kd, e1, y, rfl, h0, h1, vd, e2, v, rfl, q⟩ := h
  refine ws_augIx ⟨_, e, _, rfl, _, e1, y, rfl, _, e2, v, rfl, h0, _, mkL_get (by omega), _, rfl, ?_⟩
  dsimp only
  rw [mkL_set]
  have : (mkL n fun j => if j = y.toNat then D.int (f (M y.toNat) v) else D.int (M j)) = mkL n fun j => D.int (if j = y.toNat then f (M j) v else M j) := mkL_congr fun j _ => by
    by_cases h : j = y.toNat
    · rw [if_pos h, if_pos h, h]
    · rw [if_neg h, if_neg h]
  rw [this]
  exact q
theorem wo_getMk {α : Nat → D} {y : Int} {Q : D → Prop} (h0 : 0 ≤ y) (h1 : y < n) (q : Q (α y.toNat)) : WO (getD (.lst (mkL n α)) (.int y)) Q := wo_getL (atI_pos h0 (mkL_get (by omega))) q
theorem wo_getFk {α : Nat → D} {y : Int} {Q : D → Prop} (h0 : 0 ≤ y) (h1 : y < n) (q : Q (α y.toNat)) : WO (getD (.frz (mkL n α)) (.int y)) Q := ⟨_, atI_pos h0 (mkL_get (by omega)), q⟩
theorem enumF_mk {f : Nat → D} {k : Nat} {d : D} (h : (enumF 0 (mkL n f))[k]? = some d) : k < n ∧ d = .tup [.int (k : Int), f k] := by
  rw [enumF_at] at h
  by_cases hk : k < n
  · rw [mkL_get hk] at h
    cases h
    rw [Nat.zero_add]
    exact ⟨hk, rfl⟩
  · rw [List.getElem?_eq_none (by rw [mkL_len]; omega)] at h
    cases h
end
end Bv





namespace G_k26
open PySem PySem.Spec PyProof.Rows L2 Bv
def topS (i : Nat) : Stmt := PySem.Challenge.pw_keepsgoing_k26_whole_one_beat.main.body.getD i (.Pass ⟨0, 0, 0, 0⟩)
def fa : List He.Fa := [.glo "_law_begin", .glo "_law_draw_digit", .glo "_law_mixed", .glo "_law_draw", .glo "_law_rate", .glo "_law_is_layer", .glo "_law_beat_clock", .glo "_law_bent", .glo "_law_pick", .glo "_law_parted", .glo "_law_kept", .glo "_law_gaps", .glo "_law_product", .glo "_law_passed", .glo "_law_rate_due", .glo "_law_beat_due", .glo "_law_values", .glo "closed_up", .glo "one_beat", .glo "_law_ticks_of", .glo "law", .free "int", .free "divmod", .free "len", .free "abs", .free "range", .free "tuple", .free "min", .free "repr"]
def fn : List He.DefD := [dOf "_law_begin" (topS 4), dOf "_law_draw_digit" (topS 7), dOf "_law_mixed" (topS 5), dOf "_law_draw" (topS 6), dOf "_law_rate" (topS 9), dOf "_law_is_layer" (topS 10), dOf "_law_beat_clock" (topS 14), dOf "_law_bent" (topS 17), dOf "_law_pick" (topS 8), dOf "_law_parted" (topS 15), dOf "_law_kept" (topS 16), dOf "_law_gaps" (topS 18), dOf "_law_product" (topS 12), dOf "_law_passed" (topS 11), dOf "_law_rate_due" (topS 13), dOf "_law_beat_due" (topS 19), dOf "_law_values" (topS 21), dOf "closed_up" (topS 1), dOf "one_beat" (topS 2), dOf "_law_ticks_of" (topS 20), dOf "law" (topS 22)]
def cs : List (Str × D) := []
def ts : List Tb := []
section
variable {P : Program} {w : World} {K : PySem.W.Frag} {mg : Str → Option Value} {base : Heap}
abbrev s__law_begin : Stmt := topS 4
theorem sc__law_begin : FnScope ["_law_script", "_law_cell"] ["_law_script"] (defScope s__law_begin) := ⟨rfl, rfl, rfl, by decide +kernel, rfl, by decide +kernel, by decide +kernel⟩
def m__law_begin : List D → Option (D × List D) := mkFn 2
   (sRet (eLst [(eLcW 0 (gSet 1) mYes (ePure (pB toInt [(pVar 1)])) [1]), (eOwn (pC (.int 0))), (eOwn (pC (.int 0))), (eOwn (pC (.int 1234577))), (eOwn (pC (.int 0)))]))
theorem ok__law_begin (T : Tx fa fn K mg) (TC : TxC cs K mg ∧ TxT w ts K mg) : OkF P w K mg base 1 "_law_begin" ["_law_script"] m__law_begin :=
  T.fn_ 0 0 rfl rfl (fun _ _ _ _ _ _ us hl => match us, hl with | [_], _ => rfl) fun fd F => fn_ok F sc__law_begin fun cdv A outer s H E hr =>
   (jss_one (js_ret (je_lst (jms_cons (je_lcW (i := 0) [0] rfl sc__law_begin.nd (pvn 0) (by decide) (own := [("_law_cell", 1)]) (blkOk_by (by kernel_rfl)) (by kernel_rfl) (fun _ _ _ _ _ => (jg_name sc__law_begin.nd)) (fun _ _ _ _ _ => jts_nil) (fun _ _ _ _ _ => (je_tyP call_int1 toInt_ok rfl (T.z 21) (by decide +kernel) (jps_cons (jp_var 1) jps_nil)))) (jms_cons (je_own jp_int) (jms_cons (je_own jp_int) (jms_cons (je_own jp_int) (jms_cons (je_own jp_int) jms_nil))))))))
abbrev s__law_draw_digit : Stmt := topS 7
theorem sc__law_draw_digit : FnScope ["_law_d", "_law_many", "_law_pair"] ["_law_d", "_law_many"] (defScope s__law_draw_digit) := ⟨rfl, rfl, rfl, by decide +kernel, rfl, by decide +kernel, by decide +kernel⟩
def m__law_draw_digit : List D → Option (D × List D) := mkFn 3
   (sSeq (sSet 2 (ePure (pB divmodD [(pBin getD (pVar 0) (pC (.int 2))), (pVar 1)])))
    (sSeq (sSetAny 0 (eOwn (pC (.int 2))) (eOwn (pBin getD (pVar 2) (pC (.int 0)))))
    (sRet (eOwn (pBin getD (pVar 2) (pC (.int 1)))))))
theorem ok__law_draw_digit (T : Tx fa fn K mg) (TC : TxC cs K mg ∧ TxT w ts K mg) : OkF P w K mg base 1 "_law_draw_digit" ["_law_d", "_law_many"] m__law_draw_digit :=
  T.fn_ 1 1 rfl rfl (fun _ _ _ _ _ _ us hl => match us, hl with | [_, _], _ => rfl) fun fd F => fn_ok F sc__law_draw_digit fun cdv A outer s H E hr =>
   (jss_cons (js_set sc__law_draw_digit.nd (je_bP call_divmod divmod_ok rfl (T.z 22) (by decide +kernel) (jps_cons (jp_get (hu_of hr) (jp_var 0) jp_int) (jps_cons (jp_var 1) jps_nil))))
    (jss_cons (js_setAny (hu_of hr) (pvn 0) (je_own jp_int) (je_own (jp_get (hu_of hr) (jp_var 2) jp_int)))
    (jss_one (js_ret (je_own (jp_get (hu_of hr) (jp_var 2) jp_int))))))
abbrev s__law_mixed : Stmt := topS 5
theorem sc__law_mixed : FnScope ["_law_d", "_law_cell"] ["_law_d", "_law_cell"] (defScope s__law_mixed) := ⟨rfl, rfl, rfl, by decide +kernel, rfl, by decide +kernel, by decide +kernel⟩
def m__law_mixed : List D → Option (D × List D) := mkFn 2
   (sSeq (sSetAny 0 (eOwn (pC (.int 4))) (ePure (pBin addD (pBin getD (pVar 0) (pC (.int 4))) (pC (.int 1)))))
    (sSeq (sSetAny 0 (eOwn (pC (.int 3))) (ePure (pBin modD (pB toInt [(pBin addD (pBin addD (pBin mulX (pBin getD (pVar 0) (pC (.int 3))) (pC (.int 48271))) (pBin mulX (pBin addD (pVar 1) (pBin getD (pVar 0) (pC (.int 4)))) (pC (.int 69621)))) (pC (.int 40487)))]) (pC (.int 2147483647)))))
    (sSeq (sSetAny 0 (eOwn (pC (.int 3))) (ePure (pBin modD (pB toInt [(pBin addD (pBin addD (pBin mulX (pBin getD (pVar 0) (pC (.int 3))) (pC (.int 16807))) (pBin mulX (pBin getD (pVar 0) (pC (.int 4))) (pC (.int 7919)))) (pC (.int 5)))]) (pC (.int 2147483629)))))
    (sRet (ePure (pBin fdivD (pBin getD (pVar 0) (pC (.int 3))) (pC (.int 8))))))))
theorem ok__law_mixed (T : Tx fa fn K mg) (TC : TxC cs K mg ∧ TxT w ts K mg) : OkF P w K mg base 1 "_law_mixed" ["_law_d", "_law_cell"] m__law_mixed :=
  T.fn_ 2 2 rfl rfl (fun _ _ _ _ _ _ us hl => match us, hl with | [_, _], _ => rfl) fun fd F => fn_ok F sc__law_mixed fun cdv A outer s H E hr =>
   (jss_cons (js_setAny (hu_of hr) (pvn 0) (je_own jp_int) (je_binPP op_add4 add_ok (jp_get (hu_of hr) (jp_var 0) jp_int) jp_int))
    (jss_cons (js_setAny (hu_of hr) (pvn 0) (je_own jp_int) (je_binPP op_mod mod_ok (jp_ty call_int1 toInt_ok rfl (T.z 21) (by decide +kernel) (jps_cons (jp_bin op_add4 add_ok (jp_bin op_add4 add_ok (jp_bin op_mulX mulX_ok (jp_get (hu_of hr) (jp_var 0) jp_int) jp_int) (jp_bin op_mulX mulX_ok (jp_bin op_add4 add_ok (jp_var 1) (jp_get (hu_of hr) (jp_var 0) jp_int)) jp_int)) jp_int) jps_nil)) jp_int))
    (jss_cons (js_setAny (hu_of hr) (pvn 0) (je_own jp_int) (je_binPP op_mod mod_ok (jp_ty call_int1 toInt_ok rfl (T.z 21) (by decide +kernel) (jps_cons (jp_bin op_add4 add_ok (jp_bin op_add4 add_ok (jp_bin op_mulX mulX_ok (jp_get (hu_of hr) (jp_var 0) jp_int) jp_int) (jp_bin op_mulX mulX_ok (jp_get (hu_of hr) (jp_var 0) jp_int) jp_int)) jp_int) jps_nil)) jp_int))
    (jss_one (js_ret (je_binPP op_fdiv fdiv_ok (jp_get (hu_of hr) (jp_var 0) jp_int) jp_int))))))
abbrev s__law_draw : Stmt := topS 6
theorem sc__law_draw : FnScope ["_law_d", "_law_many", "_law_cell"] ["_law_d", "_law_many"] (defScope s__law_draw) := ⟨rfl, rfl, rfl, by decide +kernel, rfl, by decide +kernel, by decide +kernel⟩
def m__law_draw : List D → Option (D × List D) := mkFn 3
   (sSeq (sIf (asT (ePure (pBin gtX (pBin getD (pVar 0) (pC (.int 2))) (pC (.int 0))))) (sRet (eCall m__law_draw_digit [.bor 0, .bor 1])) sNil)
    (sSeq (sIf (asT (ePure (pBin ltD (pBin getD (pVar 0) (pC (.int 1))) (pB lenX [(pBin getD (pVar 0) (pC (.int 0)))])))) (sSeq (sSet 2 (eOwn (pBin getD (pBin getD (pVar 0) (pC (.int 0))) (pBin getD (pVar 0) (pC (.int 1))))))
    (sSeq (sSetAny 0 (eOwn (pC (.int 1))) (ePure (pBin addD (pBin getD (pVar 0) (pC (.int 1))) (pC (.int 1)))))
    (sSeq (sIf (asT (ePure (pBin geD (pB absD [(pVar 2)]) (pBin powD (pC (.int 10)) (pC (.int 18)))))) (sSeq (sSetAny 0 (eOwn (pC (.int 2))) (ePure (pBin andD (pBin fdivD (pB absD [(pVar 2)]) (pC (.int 2))) (pBin subD (pBin shlD (pC (.int 1)) (pC (.int 8192))) (pC (.int 1))))))
    (sRet (eCall m__law_draw_digit [.bor 0, .bor 1]))) sNil)
    (sRet (eBin modD (eB toInt [(eCall m__law_mixed [.bor 0, .bor 2])]) (eTake 1)))))) sNil)
    (sRet (eBin modD (eB toInt [(eCall m__law_mixed [.bor 0, .val (eOwn (pC (.int 7)))])]) (eTake 1)))))
theorem ok__law_draw (T : Tx fa fn K mg) (TC : TxC cs K mg ∧ TxT w ts K mg) : OkF P w K mg base 2 "_law_draw" ["_law_d", "_law_many"] m__law_draw :=
  T.fn_ 3 3 rfl rfl (fun _ _ _ _ _ _ us hl => match us, hl with | [_, _], _ => rfl) fun fd F => fn_ok F sc__law_draw fun cdv A outer s H E hr =>
   (jss_cons (js_if (jt_cmpPure (op_gtX hr.units) gtX_ok (jp_get (hu_of hr) (jp_var 0) jp_int) jp_int (by rfl)) (jss_one (js_ret (je_callF (ok__law_draw_digit T TC) (hr.mono (by omega)) rfl (ja_bor 0 (ja_bor 1 ja_nil))))) jss_nil)
    (jss_cons (js_if (jt_cmpPure op_lt lt_ok (jp_get (hu_of hr) (jp_var 0) jp_int) (jp_b call_lenX lenX_ok rfl (T.z 23) (by decide +kernel) (jps_cons (jp_get (hu_of hr) (jp_var 0) jp_int) jps_nil)) (by rfl)) (jss_cons (js_set sc__law_draw.nd (je_own (jp_get (hu_of hr) (jp_get (hu_of hr) (jp_var 0) jp_int) (jp_get (hu_of hr) (jp_var 0) jp_int))))
    (jss_cons (js_setAny (hu_of hr) (pvn 0) (je_own jp_int) (je_binPP op_add4 add_ok (jp_get (hu_of hr) (jp_var 0) jp_int) jp_int))
    (jss_cons (js_if (jt_cmpPure op_ge ge_ok (jp_b call_abs abs_ok rfl (T.z 24) (by decide +kernel) (jps_cons (jp_var 2) jps_nil)) (jp_bin op_pow pow_ok jp_int jp_int) (by rfl)) (jss_cons (js_setAny (hu_of hr) (pvn 0) (je_own jp_int) (je_binPP op_and and_ok (jp_bin op_fdiv fdiv_ok (jp_b call_abs abs_ok rfl (T.z 24) (by decide +kernel) (jps_cons (jp_var 2) jps_nil)) jp_int) (jp_bin op_sub sub_ok (jp_bin op_shl shl_ok jp_int jp_int) jp_int)))
    (jss_one (js_ret (je_callF (ok__law_draw_digit T TC) (hr.mono (by omega)) rfl (ja_bor 0 (ja_bor 1 ja_nil)))))) jss_nil)
    (jss_one (js_ret (je_bin op_mod mod_ok (je_ty call_int1 toInt_ok rfl (T.z 21) (by decide +kernel) (jms_cons (je_callF (ok__law_mixed T TC) (hr.mono (by omega)) rfl (ja_bor 0 (ja_bor 2 ja_nil))) jms_nil)) (je_take 1))))))) jss_nil)
    (jss_one (js_ret (je_bin op_mod mod_ok (je_ty call_int1 toInt_ok rfl (T.z 21) (by decide +kernel) (jms_cons (je_callF (ok__law_mixed T TC) (hr.mono (by omega)) rfl (ja_bor 0 (ja_val (je_own jp_int) ja_nil))) jms_nil)) (je_take 1))))))
abbrev s__law_rate : Stmt := topS 9
theorem sc__law_rate : FnScope ["_law_d", "_law_most", "_law_many", "_law_first"] ["_law_d", "_law_most"] (defScope s__law_rate) := ⟨rfl, rfl, rfl, by decide +kernel, rfl, by decide +kernel, by decide +kernel⟩
def m__law_rate : List D → Option (D × List D) := mkFn 4
   (sSeq (sSet 2 (eBin ixD (eLst [(eOwn (pC (.int 2))), (eOwn (pC (.int 2))), (eOwn (pC (.int 3))), (eOwn (pC (.int 4))), (eBin addD (eOwn (pC (.int 1))) (eCall m__law_draw [.bor 0, .bor 1])), (eBin addD (eOwn (pC (.int 1))) (eCall m__law_draw [.bor 0, .bor 1]))]) (eCall m__law_draw [.bor 0, .val (eOwn (pC (.int 6)))])))
    (sSeq (sSet 3 (eBin ixD (eLst [(eOwn (pC (.int 0))), (ePure (pBin subD (pVar 2) (pC (.int 1)))), (eCall m__law_draw [.bor 0, .bor 2])]) (eCall m__law_draw [.bor 0, .val (eOwn (pC (.int 3)))])))
    (sRet (eTup [(eOwn (pC (.str "every"))), (eTake 2), (eTake 3), (eBin ixD (eLst [(eOwn (pC .non)), (eOwn (pC .non)), (eOwn (pC (.str "a"))), (eOwn (pC (.str "pump.x")))]) (eCall m__law_draw [.bor 0, .val (eOwn (pC (.int 4)))]))]))))
theorem ok__law_rate (T : Tx fa fn K mg) (TC : TxC cs K mg ∧ TxT w ts K mg) : OkF P w K mg base 3 "_law_rate" ["_law_d", "_law_most"] m__law_rate :=
  T.fn_ 4 4 rfl rfl (fun _ _ _ _ _ _ us hl => match us, hl with | [_, _], _ => rfl) fun fd F => fn_ok F sc__law_rate fun cdv A outer s H E hr =>
   (jss_cons (js_set sc__law_rate.nd (je_ix (je_lst (jms_cons (je_own jp_int) (jms_cons (je_own jp_int) (jms_cons (je_own jp_int) (jms_cons (je_own jp_int) (jms_cons (je_bin op_add4 add_ok (je_own jp_int) (je_callF (ok__law_draw T TC) (hr.mono (by omega)) rfl (ja_bor 0 (ja_bor 1 ja_nil)))) (jms_cons (je_bin op_add4 add_ok (je_own jp_int) (je_callF (ok__law_draw T TC) (hr.mono (by omega)) rfl (ja_bor 0 (ja_bor 1 ja_nil)))) jms_nil))))))) (je_callF (ok__law_draw T TC) (hr.mono (by omega)) rfl (ja_bor 0 (ja_val (je_own jp_int) ja_nil)))))
    (jss_cons (js_set sc__law_rate.nd (je_ix (je_lst (jms_cons (je_own jp_int) (jms_cons (je_binPP op_sub sub_ok (jp_var 2) jp_int) (jms_cons (je_callF (ok__law_draw T TC) (hr.mono (by omega)) rfl (ja_bor 0 (ja_bor 2 ja_nil))) jms_nil)))) (je_callF (ok__law_draw T TC) (hr.mono (by omega)) rfl (ja_bor 0 (ja_val (je_own jp_int) ja_nil)))))
    (jss_one (js_ret (je_tup (jms_cons (je_own jp_str) (jms_cons (je_take 2) (jms_cons (je_take 3) (jms_cons (je_ix (je_lst (jms_cons (je_own jp_non) (jms_cons (je_own jp_non) (jms_cons (je_own jp_str) (jms_cons (je_own jp_str) jms_nil))))) (je_callF (ok__law_draw T TC) (hr.mono (by omega)) rfl (ja_bor 0 (ja_val (je_own jp_int) ja_nil)))) jms_nil)))))))))
abbrev s__law_is_layer : Stmt := topS 10
theorem sc__law_is_layer : FnScope ["_law_d", "_law_name"] ["_law_d"] (defScope s__law_is_layer) := ⟨rfl, rfl, rfl, by decide +kernel, rfl, by decide +kernel, by decide +kernel⟩
def m__law_is_layer : List D → Option (D × List D) := mkFn 2
   (sSeq (sSet 1 (eBin ixD (eLst [(eOwn (pC (.str "a"))), (eOwn (pC (.str "b"))), (eOwn (pC (.str "c"))), (eOwn (pC (.str "m@now"))), (eOwn (pC (.str "a@here")))]) (eCall m__law_draw [.bor 0, .val (eOwn (pC (.int 5)))])))
    (sSeq (sIf (asT (ePure (pBin eqD (pVar 1) (pC (.str "m@now"))))) (sRet (eTup [(eOwn (pC (.str "is"))), (eTake 1), (eTup [(eOwn (pC (.str "mode"))), (eTup [(eOwn (pC (.str "on"))), (eOwn (pC (.str "off"))), (eOwn (pC (.str "idle")))]), (eCall m__law_draw [.bor 0, .val (eOwn (pC (.int 3)))])])])) sNil)
    (sRet (eTup [(eOwn (pC (.str "is"))), (eTake 1), (eTup [(eOwn (pC (.str "truth"))), (eCall m__law_draw [.bor 0, .val (eOwn (pC (.int 2)))])])]))))
theorem ok__law_is_layer (T : Tx fa fn K mg) (TC : TxC cs K mg ∧ TxT w ts K mg) : OkF P w K mg base 3 "_law_is_layer" ["_law_d"] m__law_is_layer :=
  T.fn_ 5 5 rfl rfl (fun _ _ _ _ _ _ us hl => match us, hl with | [_], _ => rfl) fun fd F => fn_ok F sc__law_is_layer fun cdv A outer s H E hr =>
   (jss_cons (js_set sc__law_is_layer.nd (je_ix (je_lst (jms_cons (je_own jp_str) (jms_cons (je_own jp_str) (jms_cons (je_own jp_str) (jms_cons (je_own jp_str) (jms_cons (je_own jp_str) jms_nil)))))) (je_callF (ok__law_draw T TC) (hr.mono (by omega)) rfl (ja_bor 0 (ja_val (je_own jp_int) ja_nil)))))
    (jss_cons (js_if (jt_cmpPure (op_eq2 hr.units) eq_ok (jp_var 1) jp_str (by rfl)) (jss_one (js_ret (je_tup (jms_cons (je_own jp_str) (jms_cons (je_take 1) (jms_cons (je_tup (jms_cons (je_own jp_str) (jms_cons (je_tup (jms_cons (je_own jp_str) (jms_cons (je_own jp_str) (jms_cons (je_own jp_str) jms_nil)))) (jms_cons (je_callF (ok__law_draw T TC) (hr.mono (by omega)) rfl (ja_bor 0 (ja_val (je_own jp_int) ja_nil))) jms_nil)))) jms_nil)))))) jss_nil)
    (jss_one (js_ret (je_tup (jms_cons (je_own jp_str) (jms_cons (je_take 1) (jms_cons (je_tup (jms_cons (je_own jp_str) (jms_cons (je_callF (ok__law_draw T TC) (hr.mono (by omega)) rfl (ja_bor 0 (ja_val (je_own jp_int) ja_nil))) jms_nil))) jms_nil))))))))
abbrev s__law_beat_clock : Stmt := topS 14
theorem sc__law_beat_clock : FnScope ["_law_d", "_law_layers", "_law_step"] ["_law_d"] (defScope s__law_beat_clock) := ⟨rfl, rfl, rfl, by decide +kernel, rfl, by decide +kernel, by decide +kernel⟩
def m__law_beat_clock : List D → Option (D × List D) := mkFn 3
   (sSeq (sSet 1 (eLc (iRng [(eCall m__law_draw [.bor 0, .val (eOwn (pC (.int 4)))])]) (gSet 2) mYes (eCall m__law_rate [.bor 0, .val (eOwn (pC (.int 12)))]) [2]))
    (sSeq (sFor (iRng [(eBin ixD (eLst [(eOwn (pC (.int 0))), (eOwn (pC (.int 0))), (eOwn (pC (.int 1))), (eOwn (pC (.int 1))), (eOwn (pC (.int 2))), (eOwn (pC (.int 3)))]) (eCall m__law_draw [.bor 0, .val (eOwn (pC (.int 6)))]))]) (gSet 2) (sExpr (eLMut lInsert 1 [(eCall m__law_draw [.bor 0, .val (ePure (pBin addD (pB lenX [(pVar 1)]) (pC (.int 1))))]), (eCall m__law_is_layer [.bor 0])])))
    (sRet (ePure (pB toTuple [(pVar 1)])))))
theorem ok__law_beat_clock (T : Tx fa fn K mg) (TC : TxC cs K mg ∧ TxT w ts K mg) : OkF P w K mg base 4 "_law_beat_clock" ["_law_d"] m__law_beat_clock :=
  T.fn_ 6 6 rfl rfl (fun _ _ _ _ _ _ us hl => match us, hl with | [_], _ => rfl) fun fd F => fn_ok F sc__law_beat_clock fun cdv A outer s H E hr =>
   (jss_cons (js_setLc (i := 1) [0, 1] rfl sc__law_beat_clock.nd (ji_range1 rfl (T.z 25) (jms_cons (je_callF (ok__law_draw T TC) (hr.mono (by omega)) rfl (ja_bor 0 (ja_val (je_own jp_int) ja_nil))) jms_nil)) (own := [("_law_step", 2)]) (blkOk_by (by kernel_rfl)) (by kernel_rfl) (fun _ _ _ _ _ => (jg_name sc__law_beat_clock.nd)) (fun _ _ _ _ _ => jts_nil) (fun _ _ _ _ _ => (je_callF (ok__law_rate T TC) (hr.mono (by omega)) rfl (ja_bor 0 (ja_val (je_own jp_int) ja_nil)))) (sw_true rfl rfl rfl (by decide +kernel)))
    (jss_cons (js_for PassesOwn.never rfl (ji_range1 rfl (T.z 25) (jms_cons (je_ix (je_lst (jms_cons (je_own jp_int) (jms_cons (je_own jp_int) (jms_cons (je_own jp_int) (jms_cons (je_own jp_int) (jms_cons (je_own jp_int) (jms_cons (je_own jp_int) jms_nil))))))) (je_callF (ok__law_draw T TC) (hr.mono (by omega)) rfl (ja_bor 0 (ja_val (je_own jp_int) ja_nil)))) jms_nil)) (jg_name sc__law_beat_clock.nd) (jss_one (js_expr (je_lmut PySem.F.slot_list_insert PySem.F.type_list_insert mt_insert insert_ok (pvn 1) (jms_cons (je_callF (ok__law_draw T TC) (hr.mono (by omega)) rfl (ja_bor 0 (ja_val (je_binPP op_add4 add_ok (jp_b call_lenX lenX_ok rfl (T.z 23) (by decide +kernel) (jps_cons (jp_var 1) jps_nil)) jp_int) ja_nil))) (jms_cons (je_callF (ok__law_is_layer T TC) (hr.mono (by omega)) rfl (ja_bor 0 ja_nil)) jms_nil))))))
    (jss_one (js_ret (je_tyP call_tuple_of toTuple_ok rfl (T.z 26) (by decide +kernel) (jps_cons (jp_var 1) jps_nil))))))
abbrev s__law_bent : Stmt := topS 17
theorem sc__law_bent : FnScope ["_law_d", "_law_clock", "_law_way", "_law_at", "_law_new", "_law_layer", "_law_many"] ["_law_d", "_law_clock"] (defScope s__law_bent) := ⟨rfl, rfl, rfl, by decide +kernel, rfl, by decide +kernel, by decide +kernel⟩
def m__law_bent : List D → Option (D × List D) := mkFn 7
   (sSeq (sSet 2 (eCall m__law_draw [.bor 0, .val (eOwn (pC (.int 6)))]))
    (sSeq (sSet 3 (eCall m__law_draw [.bor 0, .val (ePure (pBin addD (pB lenX [(pVar 1)]) (pC (.int 1))))]))
    (sSeq (sIf (mOr (asT (ePure (pBin eqD (pVar 3) (pB lenX [(pVar 1)])))) (asT (ePure (pBin eqD (pVar 2) (pC (.int 0)))))) (sSeq (sSet 4 (eIf (asT (eBinP eqD (eCall m__law_draw [.bor 0, .val (eOwn (pC (.int 2)))]) (pC (.int 0)))) (eCall m__law_is_layer [.bor 0]) (eTup [(eOwn (pC (.str "every"))), (eBin addD (eOwn (pC (.int 1))) (eCall m__law_draw [.bor 0, .val (eOwn (pC (.int 3)))])), (eOwn (pC (.int 0))), (eOwn (pC .non))])))
    (sRet (ePure (pBin addD (pBin addD (pSl (pVar 1) oNone (oSome (pVar 3))) (pTup [(pVar 4)])) (pSl (pVar 1) (oSome (pVar 3)) oNone))))) sNil)
    (sSeq (sSet 5 (eOwn (pBin getD (pVar 1) (pVar 3))))
    (sSeq (sIf (asT (ePure (pBin eqD (pVar 2) (pC (.int 1))))) (sRet (ePure (pBin addD (pSl (pVar 1) oNone (oSome (pVar 3))) (pSl (pVar 1) (oSome (pBin addD (pVar 3) (pC (.int 1)))) oNone)))) sNil)
    (sSeq (sIf (asT (ePure (pBin eqD (pVar 2) (pC (.int 2))))) (sRet (ePure (pBin addD (pBin addD (pBin addD (pSl (pVar 1) oNone (oSome (pVar 3))) (pSl (pVar 1) (oSome (pBin addD (pVar 3) (pC (.int 1)))) (oSome (pBin addD (pVar 3) (pC (.int 2)))))) (pTup [(pVar 5)])) (pSl (pVar 1) (oSome (pBin addD (pVar 3) (pC (.int 2)))) oNone)))) sNil)
    (sSeq (sIf (asT (ePure (pBin eqD (pBin getD (pVar 5) (pC (.int 0))) (pC (.str "is"))))) (sSet 4 (eCall m__law_is_layer [.bor 0])) (sIf (asT (ePure (pBin eqD (pVar 2) (pC (.int 3))))) (sSet 4 (eBin addD (eSl (pVar 5) oNone (oSome (pC (.int 2)))) (eTup [(eCall m__law_draw [.bor 0, .val (eOwn (pBin getD (pVar 5) (pC (.int 1))))]), (eOwn (pBin getD (pVar 5) (pC (.int 3))))]))) (sSeq (sSet 6 (eBin addD (eOwn (pC (.int 1))) (eCall m__law_draw [.bor 0, .val (eOwn (pC (.int 12)))])))
    (sSet 4 (eTup [(eOwn (pC (.str "every"))), (eTake 6), (ePure (pB min2 [(pBin getD (pVar 5) (pC (.int 2))), (pBin subD (pVar 6) (pC (.int 1)))])), (eOwn (pBin getD (pVar 5) (pC (.int 3))))])))))
    (sRet (ePure (pBin addD (pBin addD (pSl (pVar 1) oNone (oSome (pVar 3))) (pTup [(pVar 4)])) (pSl (pVar 1) (oSome (pBin addD (pVar 3) (pC (.int 1)))) oNone)))))))))))
theorem ok__law_bent (T : Tx fa fn K mg) (TC : TxC cs K mg ∧ TxT w ts K mg) : OkF P w K mg base 4 "_law_bent" ["_law_d", "_law_clock"] m__law_bent :=
  T.fn_ 7 7 rfl rfl (fun _ _ _ _ _ _ us hl => match us, hl with | [_, _], _ => rfl) fun fd F => fn_ok F sc__law_bent fun cdv A outer s H E hr =>
   (jss_cons (js_set sc__law_bent.nd (je_callF (ok__law_draw T TC) (hr.mono (by omega)) rfl (ja_bor 0 (ja_val (je_own jp_int) ja_nil))))
    (jss_cons (js_set sc__law_bent.nd (je_callF (ok__law_draw T TC) (hr.mono (by omega)) rfl (ja_bor 0 (ja_val (je_binPP op_add4 add_ok (jp_b call_lenX lenX_ok rfl (T.z 23) (by decide +kernel) (jps_cons (jp_var 1) jps_nil)) jp_int) ja_nil))))
    (jss_cons (js_if (PW.pt (jw_or (jt_cmpPure (op_eq2 hr.units) eq_ok (jp_var 3) (jp_b call_lenX lenX_ok rfl (T.z 23) (by decide +kernel) (jps_cons (jp_var 1) jps_nil)) (by rfl)) (jw_or1 (jt_cmpPure (op_eq2 hr.units) eq_ok (jp_var 2) jp_int (by rfl))))) (jss_cons (js_set sc__law_bent.nd (je_if (jt_cmpP (op_eq2 hr.units) eq_ok (je_callF (ok__law_draw T TC) (hr.mono (by omega)) rfl (ja_bor 0 (ja_val (je_own jp_int) ja_nil))) jp_int (by rfl)) (je_callF (ok__law_is_layer T TC) (hr.mono (by omega)) rfl (ja_bor 0 ja_nil)) (je_tup (jms_cons (je_own jp_str) (jms_cons (je_bin op_add4 add_ok (je_own jp_int) (je_callF (ok__law_draw T TC) (hr.mono (by omega)) rfl (ja_bor 0 (ja_val (je_own jp_int) ja_nil)))) (jms_cons (je_own jp_int) (jms_cons (je_own jp_non) jms_nil)))))))
    (jss_one (js_ret (je_binPP op_add4 add_ok (jp_bin op_add4 add_ok (jp_sl (jp_var 1) jo_none (jo_some (jp_var 3))) (jp_tup (jps_cons (jp_var 4) jps_nil))) (jp_sl (jp_var 1) (jo_some (jp_var 3)) jo_none))))) jss_nil)
    (jss_cons (js_set sc__law_bent.nd (je_own (jp_get (hu_of hr) (jp_var 1) (jp_var 3))))
    (jss_cons (js_if (jt_cmpPure (op_eq2 hr.units) eq_ok (jp_var 2) jp_int (by rfl)) (jss_one (js_ret (je_binPP op_add4 add_ok (jp_sl (jp_var 1) jo_none (jo_some (jp_var 3))) (jp_sl (jp_var 1) (jo_some (jp_bin op_add4 add_ok (jp_var 3) jp_int)) jo_none)))) jss_nil)
    (jss_cons (js_if (jt_cmpPure (op_eq2 hr.units) eq_ok (jp_var 2) jp_int (by rfl)) (jss_one (js_ret (je_binPP op_add4 add_ok (jp_bin op_add4 add_ok (jp_bin op_add4 add_ok (jp_sl (jp_var 1) jo_none (jo_some (jp_var 3))) (jp_sl (jp_var 1) (jo_some (jp_bin op_add4 add_ok (jp_var 3) jp_int)) (jo_some (jp_bin op_add4 add_ok (jp_var 3) jp_int)))) (jp_tup (jps_cons (jp_var 5) jps_nil))) (jp_sl (jp_var 1) (jo_some (jp_bin op_add4 add_ok (jp_var 3) jp_int)) jo_none)))) jss_nil)
    (jss_cons (js_if (jt_cmpPure (op_eq2 hr.units) eq_ok (jp_get (hu_of hr) (jp_var 5) jp_int) jp_str (by rfl)) (jss_one (js_set sc__law_bent.nd (je_callF (ok__law_is_layer T TC) (hr.mono (by omega)) rfl (ja_bor 0 ja_nil)))) (jss_one (js_if (jt_cmpPure (op_eq2 hr.units) eq_ok (jp_var 2) jp_int (by rfl)) (jss_one (js_set sc__law_bent.nd (je_bin op_add4 add_ok (je_sl (jp_var 5) jo_none (jo_some jp_int)) (je_tup (jms_cons (je_callF (ok__law_draw T TC) (hr.mono (by omega)) rfl (ja_bor 0 (ja_val (je_own (jp_get (hu_of hr) (jp_var 5) jp_int)) ja_nil))) (jms_cons (je_own (jp_get (hu_of hr) (jp_var 5) jp_int)) jms_nil)))))) (jss_cons (js_set sc__law_bent.nd (je_bin op_add4 add_ok (je_own jp_int) (je_callF (ok__law_draw T TC) (hr.mono (by omega)) rfl (ja_bor 0 (ja_val (je_own jp_int) ja_nil)))))
    (jss_one (js_set sc__law_bent.nd (je_tup (jms_cons (je_own jp_str) (jms_cons (je_take 6) (jms_cons (je_bP (call_min2 rfl) min2_ok rfl (T.z 27) (by decide +kernel) (jps_cons (jp_get (hu_of hr) (jp_var 5) jp_int) (jps_cons (jp_bin op_sub sub_ok (jp_var 6) jp_int) jps_nil))) (jms_cons (je_own (jp_get (hu_of hr) (jp_var 5) jp_int)) jms_nil)))))))))))
    (jss_one (js_ret (je_binPP op_add4 add_ok (jp_bin op_add4 add_ok (jp_sl (jp_var 1) jo_none (jo_some (jp_var 3))) (jp_tup (jps_cons (jp_var 4) jps_nil))) (jp_sl (jp_var 1) (jo_some (jp_bin op_add4 add_ok (jp_var 3) jp_int)) jo_none)))))))))))
abbrev s__law_pick : Stmt := topS 8
theorem sc__law_pick : FnScope ["_law_d", "_law_row"] ["_law_d", "_law_row"] (defScope s__law_pick) := ⟨rfl, rfl, rfl, by decide +kernel, rfl, by decide +kernel, by decide +kernel⟩
def m__law_pick : List D → Option (D × List D) := mkFn 2
   (sRet (eIxN 1 (eCall m__law_draw [.bor 0, .val (ePure (pB lenX [(pVar 1)]))])))
theorem ok__law_pick (T : Tx fa fn K mg) (TC : TxC cs K mg ∧ TxT w ts K mg) : OkF P w K mg base 3 "_law_pick" ["_law_d", "_law_row"] m__law_pick :=
  T.fn_ 8 8 rfl rfl (fun _ _ _ _ _ _ us hl => match us, hl with | [_, _], _ => rfl) fun fd F => fn_ok F sc__law_pick fun cdv A outer s H E hr =>
   (jss_one (js_ret (je_ixN 1 (je_callF (ok__law_draw T TC) (hr.mono (by omega)) rfl (ja_bor 0 (ja_val (je_bP call_lenX lenX_ok rfl (T.z 23) (by decide +kernel) (jps_cons (jp_var 1) jps_nil)) ja_nil))))))
abbrev s__law_parted : Stmt := topS 15
theorem sc__law_parted : FnScope ["_law_d", "_law_layer", "_law_parts", "_law_n", "_law_first"] ["_law_d", "_law_layer"] (defScope s__law_parted) := ⟨rfl, rfl, rfl, by decide +kernel, rfl, by decide +kernel, by decide +kernel⟩
def m__law_parted : List D → Option (D × List D) := mkFn 5
   (sSeq (sSet 2 (eLc (iRng [(eOwn (pC (.int 1))), (ePure (pBin addD (pBin getD (pVar 1) (pC (.int 1))) (pC (.int 1))))]) (gSet 3) (asT (ePure (pBin eqD (pBin modD (pB toInt [(pBin getD (pVar 1) (pC (.int 1)))]) (pVar 3)) (pC (.int 0))))) (eTake 3) [3]))
    (sSeq (sSet 3 (eCall m__law_pick [.bor 0, .bor 2]))
    (sSeq (sSet 4 (eTup [(eOwn (pC (.str "every"))), (eTake 3), (ePure (pBin modD (pB toInt [(pBin getD (pVar 1) (pC (.int 2)))]) (pVar 3))), (eOwn (pBin getD (pVar 1) (pC (.int 3))))]))
    (sRet (eTup [(eTake 4), (eTup [(eOwn (pC (.str "every"))), (ePure (pBin fdivND (pBin getD (pVar 1) (pC (.int 1))) (pVar 3))), (ePure (pBin fdivND (pBin getD (pVar 1) (pC (.int 2))) (pVar 3))), (eBin ixD (eLst [(eOwn (pC .non)), (eOwn (pC (.str "b"))), (eOwn (pBin getD (pVar 1) (pC (.int 3))))]) (eCall m__law_draw [.bor 0, .val (eOwn (pC (.int 3)))]))])])))))
theorem ok__law_parted (T : Tx fa fn K mg) (TC : TxC cs K mg ∧ TxT w ts K mg) : OkF P w K mg base 4 "_law_parted" ["_law_d", "_law_layer"] m__law_parted :=
  T.fn_ 9 9 rfl rfl (fun _ _ _ _ _ _ us hl => match us, hl with | [_, _], _ => rfl) fun fd F => fn_ok F sc__law_parted fun cdv A outer s H E hr =>
   (jss_cons (js_setLc (i := 2) [0, 1, 2, 4] rfl sc__law_parted.nd (ji_range2 rfl (T.z 25) (jms_cons (je_own jp_int) (jms_cons (je_binPP op_add4 add_ok (jp_get (hu_of hr) (jp_var 1) jp_int) jp_int) jms_nil))) (own := [("_law_n", 3)]) (blkOk_by (by kernel_rfl)) (by kernel_rfl) (fun _ _ _ _ _ => (jg_name sc__law_parted.nd)) (fun _ _ _ _ _ => (jts_one (jt_cmpPure (op_eq2 hr.units) eq_ok (jp_bin op_mod mod_ok (jp_ty call_int1 toInt_ok rfl (T.z 21) (by decide +kernel) (jps_cons (jp_get (hu_of hr) (jp_var 1) jp_int) jps_nil)) (jp_var 3)) jp_int (by rfl)))) (fun _ _ _ _ _ => (je_take 3)) (sw_true rfl rfl rfl (by decide +kernel)))
    (jss_cons (js_set sc__law_parted.nd (je_callF (ok__law_pick T TC) (hr.mono (by omega)) rfl (ja_bor 0 (ja_bor 2 ja_nil))))
    (jss_cons (js_set sc__law_parted.nd (je_tup (jms_cons (je_own jp_str) (jms_cons (je_take 3) (jms_cons (je_binPP op_mod mod_ok (jp_ty call_int1 toInt_ok rfl (T.z 21) (by decide +kernel) (jps_cons (jp_get (hu_of hr) (jp_var 1) jp_int) jps_nil)) (jp_var 3)) (jms_cons (je_own (jp_get (hu_of hr) (jp_var 1) jp_int)) jms_nil))))))
    (jss_one (js_ret (je_tup (jms_cons (je_take 4) (jms_cons (je_tup (jms_cons (je_own jp_str) (jms_cons (je_binPP op_fdivN fdivN_ok (jp_get (hu_of hr) (jp_var 1) jp_int) (jp_var 3)) (jms_cons (je_binPP op_fdivN fdivN_ok (jp_get (hu_of hr) (jp_var 1) jp_int) (jp_var 3)) (jms_cons (je_ix (je_lst (jms_cons (je_own jp_non) (jms_cons (je_own jp_str) (jms_cons (je_own (jp_get (hu_of hr) (jp_var 1) jp_int)) jms_nil)))) (je_callF (ok__law_draw T TC) (hr.mono (by omega)) rfl (ja_bor 0 (ja_val (je_own jp_int) ja_nil)))) jms_nil))))) jms_nil))))))))
abbrev s__law_kept : Stmt := topS 16
theorem sc__law_kept : FnScope ["_law_d", "_law_clock", "_law_way", "_law_at", "_law_layer", "_law_other", "_law_both"] ["_law_d", "_law_clock"] (defScope s__law_kept) := ⟨rfl, rfl, rfl, by decide +kernel, rfl, by decide +kernel, by decide +kernel⟩
def m__law_kept : List D → Option (D × List D) := mkFn 7
   (sSeq (sSet 2 (eCall m__law_draw [.bor 0, .val (eOwn (pC (.int 4)))]))
    (sSeq (sSet 3 (eCall m__law_draw [.bor 0, .val (ePure (pBin addD (pB lenX [(pVar 1)]) (pC (.int 1))))]))
    (sSeq (sIf (mOr (asT (ePure (pBin eqD (pVar 3) (pB lenX [(pVar 1)])))) (asT (ePure (pBin eqD (pVar 2) (pC (.int 3)))))) (sRet (eBin addD (eBin addD (eSl (pVar 1) oNone (oSome (pVar 3))) (eTup [(eTup [(eOwn (pC (.str "every"))), (eOwn (pC (.int 1))), (eOwn (pC (.int 0))), (eBin ixD (eLst [(eOwn (pC .non)), (eOwn (pC (.str "a")))]) (eCall m__law_draw [.bor 0, .val (eOwn (pC (.int 2)))]))])])) (eSl (pVar 1) (oSome (pVar 3)) oNone))) sNil)
    (sSeq (sSet 4 (eOwn (pBin getD (pVar 1) (pVar 3))))
    (sSeq (sIf (asT (ePure (pBin eqD (pBin getD (pVar 4) (pC (.int 0))) (pC (.str "is"))))) (sRet (eTake 1)) sNil)
    (sSeq (sIf (asT (ePure (pBin eqD (pVar 2) (pC (.int 0))))) (sRet (eBin addD (eBin addD (eSl (pVar 1) oNone (oSome (pVar 3))) (eTup [(eBin addD (eSl (pVar 4) oNone (oSome (pC (.int 3)))) (eTup [(eBin ixD (eLst [(eOwn (pC (.str "x"))), (eOwn (pC (.str "a"))), (eOwn (pC .non))]) (eCall m__law_draw [.bor 0, .val (eOwn (pC (.int 3)))]))]))])) (eSl (pVar 1) (oSome (pBin addD (pVar 3) (pC (.int 1)))) oNone))) sNil)
    (sSeq (sIf (asT (ePure (pBin eqD (pVar 2) (pC (.int 1))))) (sRet (eBin addD (eBin addD (eSl (pVar 1) oNone (oSome (pVar 3))) (eCall m__law_parted [.bor 0, .bor 4])) (eSl (pVar 1) (oSome (pBin addD (pVar 3) (pC (.int 1)))) oNone))) sNil)
    (sSeq (sIf (asT (ePure (pBin eqD (pBin getD (pVar 4) (pC (.int 1))) (pC (.int 1))))) (sRet (ePure (pBin addD (pSl (pVar 1) oNone (oSome (pVar 3))) (pSl (pVar 1) (oSome (pBin addD (pVar 3) (pC (.int 1)))) oNone)))) sNil)
    (sSeq (sIf (mAnd (asT (ePure (pBin ltD (pBin addD (pVar 3) (pC (.int 1))) (pB lenX [(pVar 1)])))) (mAnd (asT (ePure (pBin eqD (pBin getD (pBin getD (pVar 1) (pBin addD (pVar 3) (pC (.int 1)))) (pC (.int 0))) (pC (.str "every"))))) (asT (ePure (pBin leD (pBin mulX (pBin getD (pVar 4) (pC (.int 1))) (pBin getD (pBin getD (pVar 1) (pBin addD (pVar 3) (pC (.int 1)))) (pC (.int 1)))) (pC (.int 12))))))) (sSeq (sSet 5 (eOwn (pBin getD (pVar 1) (pBin addD (pVar 3) (pC (.int 1))))))
    (sSeq (sSet 6 (eTup [(eOwn (pC (.str "every"))), (ePure (pBin mulX (pBin getD (pVar 4) (pC (.int 1))) (pBin getD (pVar 5) (pC (.int 1))))), (ePure (pBin addD (pBin getD (pVar 4) (pC (.int 2))) (pBin mulX (pBin getD (pVar 4) (pC (.int 1))) (pBin getD (pVar 5) (pC (.int 2)))))), (eOwn (pBin getD (pVar 5) (pC (.int 3))))]))
    (sRet (ePure (pBin addD (pBin addD (pSl (pVar 1) oNone (oSome (pVar 3))) (pTup [(pVar 6)])) (pSl (pVar 1) (oSome (pBin addD (pVar 3) (pC (.int 2)))) oNone)))))) sNil)
    (sRet (eTake 1)))))))))))
theorem ok__law_kept (T : Tx fa fn K mg) (TC : TxC cs K mg ∧ TxT w ts K mg) : OkF P w K mg base 5 "_law_kept" ["_law_d", "_law_clock"] m__law_kept :=
  T.fn_ 10 10 rfl rfl (fun _ _ _ _ _ _ us hl => match us, hl with | [_, _], _ => rfl) fun fd F => fn_ok F sc__law_kept fun cdv A outer s H E hr =>
   (jss_cons (js_set sc__law_kept.nd (je_callF (ok__law_draw T TC) (hr.mono (by omega)) rfl (ja_bor 0 (ja_val (je_own jp_int) ja_nil))))
    (jss_cons (js_set sc__law_kept.nd (je_callF (ok__law_draw T TC) (hr.mono (by omega)) rfl (ja_bor 0 (ja_val (je_binPP op_add4 add_ok (jp_b call_lenX lenX_ok rfl (T.z 23) (by decide +kernel) (jps_cons (jp_var 1) jps_nil)) jp_int) ja_nil))))
    (jss_cons (js_if (PW.pt (jw_or (jt_cmpPure (op_eq2 hr.units) eq_ok (jp_var 3) (jp_b call_lenX lenX_ok rfl (T.z 23) (by decide +kernel) (jps_cons (jp_var 1) jps_nil)) (by rfl)) (jw_or1 (jt_cmpPure (op_eq2 hr.units) eq_ok (jp_var 2) jp_int (by rfl))))) (jss_one (js_ret (je_bin op_add4 add_ok (je_bin op_add4 add_ok (je_sl (jp_var 1) jo_none (jo_some (jp_var 3))) (je_tup (jms_cons (je_tup (jms_cons (je_own jp_str) (jms_cons (je_own jp_int) (jms_cons (je_own jp_int) (jms_cons (je_ix (je_lst (jms_cons (je_own jp_non) (jms_cons (je_own jp_str) jms_nil))) (je_callF (ok__law_draw T TC) (hr.mono (by omega)) rfl (ja_bor 0 (ja_val (je_own jp_int) ja_nil)))) jms_nil))))) jms_nil))) (je_sl (jp_var 1) (jo_some (jp_var 3)) jo_none)))) jss_nil)
    (jss_cons (js_set sc__law_kept.nd (je_own (jp_get (hu_of hr) (jp_var 1) (jp_var 3))))
    (jss_cons (js_if (jt_cmpPure (op_eq2 hr.units) eq_ok (jp_get (hu_of hr) (jp_var 4) jp_int) jp_str (by rfl)) (jss_one (js_ret (je_take 1))) jss_nil)
    (jss_cons (js_if (jt_cmpPure (op_eq2 hr.units) eq_ok (jp_var 2) jp_int (by rfl)) (jss_one (js_ret (je_bin op_add4 add_ok (je_bin op_add4 add_ok (je_sl (jp_var 1) jo_none (jo_some (jp_var 3))) (je_tup (jms_cons (je_bin op_add4 add_ok (je_sl (jp_var 4) jo_none (jo_some jp_int)) (je_tup (jms_cons (je_ix (je_lst (jms_cons (je_own jp_str) (jms_cons (je_own jp_str) (jms_cons (je_own jp_non) jms_nil)))) (je_callF (ok__law_draw T TC) (hr.mono (by omega)) rfl (ja_bor 0 (ja_val (je_own jp_int) ja_nil)))) jms_nil))) jms_nil))) (je_sl (jp_var 1) (jo_some (jp_bin op_add4 add_ok (jp_var 3) jp_int)) jo_none)))) jss_nil)
    (jss_cons (js_if (jt_cmpPure (op_eq2 hr.units) eq_ok (jp_var 2) jp_int (by rfl)) (jss_one (js_ret (je_bin op_add4 add_ok (je_bin op_add4 add_ok (je_sl (jp_var 1) jo_none (jo_some (jp_var 3))) (je_callF (ok__law_parted T TC) (hr.mono (by omega)) rfl (ja_bor 0 (ja_bor 4 ja_nil)))) (je_sl (jp_var 1) (jo_some (jp_bin op_add4 add_ok (jp_var 3) jp_int)) jo_none)))) jss_nil)
    (jss_cons (js_if (jt_cmpPure (op_eq2 hr.units) eq_ok (jp_get (hu_of hr) (jp_var 4) jp_int) jp_int (by rfl)) (jss_one (js_ret (je_binPP op_add4 add_ok (jp_sl (jp_var 1) jo_none (jo_some (jp_var 3))) (jp_sl (jp_var 1) (jo_some (jp_bin op_add4 add_ok (jp_var 3) jp_int)) jo_none)))) jss_nil)
    (jss_cons (js_if (PW.pt (jw_and (jt_cmpPure op_lt lt_ok (jp_bin op_add4 add_ok (jp_var 3) jp_int) (jp_b call_lenX lenX_ok rfl (T.z 23) (by decide +kernel) (jps_cons (jp_var 1) jps_nil)) (by rfl)) (jw_and (jt_cmpPure (op_eq2 hr.units) eq_ok (jp_get (hu_of hr) (jp_get (hu_of hr) (jp_var 1) (jp_bin op_add4 add_ok (jp_var 3) jp_int)) jp_int) jp_str (by rfl)) (jw_and1 (jt_cmpPure op_le le_ok (jp_bin op_mulX mulX_ok (jp_get (hu_of hr) (jp_var 4) jp_int) (jp_get (hu_of hr) (jp_get (hu_of hr) (jp_var 1) (jp_bin op_add4 add_ok (jp_var 3) jp_int)) jp_int)) jp_int (by rfl)))))) (jss_cons (js_set sc__law_kept.nd (je_own (jp_get (hu_of hr) (jp_var 1) (jp_bin op_add4 add_ok (jp_var 3) jp_int))))
    (jss_cons (js_set sc__law_kept.nd (je_tup (jms_cons (je_own jp_str) (jms_cons (je_binPP op_mulX mulX_ok (jp_get (hu_of hr) (jp_var 4) jp_int) (jp_get (hu_of hr) (jp_var 5) jp_int)) (jms_cons (je_binPP op_add4 add_ok (jp_get (hu_of hr) (jp_var 4) jp_int) (jp_bin op_mulX mulX_ok (jp_get (hu_of hr) (jp_var 4) jp_int) (jp_get (hu_of hr) (jp_var 5) jp_int))) (jms_cons (je_own (jp_get (hu_of hr) (jp_var 5) jp_int)) jms_nil))))))
    (jss_one (js_ret (je_binPP op_add4 add_ok (jp_bin op_add4 add_ok (jp_sl (jp_var 1) jo_none (jo_some (jp_var 3))) (jp_tup (jps_cons (jp_var 6) jps_nil))) (jp_sl (jp_var 1) (jo_some (jp_bin op_add4 add_ok (jp_var 3) jp_int)) jo_none)))))) jss_nil)
    (jss_one (js_ret (je_take 1))))))))))))
abbrev s__law_gaps : Stmt := topS 18
theorem sc__law_gaps : FnScope ["_law_clock", "_law_names", "_law_gaps_here", "_law_layer"] ["_law_clock"] (defScope s__law_gaps) := ⟨rfl, rfl, rfl, by decide +kernel, rfl, by decide +kernel, by decide +kernel⟩
def m__law_gaps : List D → Option (D × List D) := mkFn 4
   (sSeq (sSet 1 (eLst []))
    (sSeq (sSet 2 (eLst [(eLst [])]))
    (sSeq (sForB 0 (gSet 3) (sIf (asT (ePure (pBin eqD (pBin getD (pVar 3) (pC (.int 0))) (pC (.str "is"))))) (sSeq (sExpr (eLMut lAppend 1 [(eSl (pVar 3) (oSome (pC (.int 1))) oNone)]))
    (sExpr (eLMut lAppend 2 [(eLst [])]))) (sExpr (eLMutI lAppend 2 (pUn negD (pC (.int 1))) [(eTake 3)]))))
    (sRet (eLst [(eTake 1), (eTake 2)])))))
theorem ok__law_gaps (T : Tx fa fn K mg) (TC : TxC cs K mg ∧ TxT w ts K mg) : OkF P w K mg base 1 "_law_gaps" ["_law_clock"] m__law_gaps :=
  T.fn_ 11 11 rfl rfl (fun _ _ _ _ _ _ us hl => match us, hl with | [_], _ => rfl) fun fd F => fn_ok F sc__law_gaps fun cdv A outer s H E hr =>
   (jss_cons (js_set sc__law_gaps.nd (je_lst jms_nil))
    (jss_cons (js_set sc__law_gaps.nd (je_lst (jms_cons (je_lst jms_nil) jms_nil)))
    (jss_cons (js_forB PassesOwn.never rfl (pvn 0) (jg_name sc__law_gaps.nd) (jss_one (js_if (jt_cmpPure (op_eq2 hr.units) eq_ok (jp_get (hu_of hr) (jp_var 3) jp_int) jp_str (by rfl)) (jss_cons (js_append (pvn 1) (je_sl (jp_var 3) (jo_some jp_int) jo_none))
    (jss_one (js_append (pvn 2) (je_lst jms_nil)))) (jss_one (js_expr (je_lmutI PySem.F.slot_list_append PySem.F.type_list_append mt_append append_ok (pvn 2) (jp_un un_neg neg_ok jp_int) (jms_cons (je_take 3) jms_nil)))))))
    (jss_one (js_ret (je_lst (jms_cons (je_take 1) (jms_cons (je_take 2) jms_nil))))))))
abbrev s__law_product : Stmt := topS 12
theorem sc__law_product : FnScope ["_law_layers", "_law_many", "_law_layer"] ["_law_layers"] (defScope s__law_product) := ⟨rfl, rfl, rfl, by decide +kernel, rfl, by decide +kernel, by decide +kernel⟩
def m__law_product : List D → Option (D × List D) := mkFn 3
   (sSeq (sSet 1 (eOwn (pC (.int 1))))
    (sSeq (sForB 0 (gSet 2) (sSet 1 (ePure (pBin mulX (pVar 1) (pBin getD (pVar 2) (pC (.int 1)))))))
    (sRet (eTake 1))))
theorem ok__law_product (T : Tx fa fn K mg) (TC : TxC cs K mg ∧ TxT w ts K mg) : OkF P w K mg base 1 "_law_product" ["_law_layers"] m__law_product :=
  T.fn_ 12 12 rfl rfl (fun _ _ _ _ _ _ us hl => match us, hl with | [_], _ => rfl) fun fd F => fn_ok F sc__law_product fun cdv A outer s H E hr =>
   (jss_cons (js_set sc__law_product.nd (je_own jp_int))
    (jss_cons (js_forB PassesOwn.never rfl (pvn 0) (jg_name sc__law_product.nd) (jss_one (js_set sc__law_product.nd (je_binPP op_mulX mulX_ok (jp_var 1) (jp_get (hu_of hr) (jp_var 2) jp_int)))))
    (jss_one (js_ret (je_take 1)))))
abbrev s__law_passed : Stmt := topS 11
theorem sc__law_passed : FnScope ["_law_layers", "_law_many", "_law_counts", "_law_found", "_law_tick", "_law_there", "_law_at", "_law_count", "_law_layer"] ["_law_layers", "_law_many"] (defScope s__law_passed) := ⟨rfl, rfl, rfl, by decide +kernel, rfl, by decide +kernel, by decide +kernel⟩
def m__law_passed : List D → Option (D × List D) := mkFn 9
   (sSeq (sSet 2 (eLcW 0 (gSet 8) mYes (eOwn (pC (.int 0))) [8]))
    (sSeq (sSet 3 (eLst []))
    (sSeq (sFor (iRng [(eTake 1)]) (gSet 4) (sSeq (sSet 5 (eOwn (pC (.bl true))))
    (sSeq (sFor (iRng [(ePure (pB lenX [(pVar 0)]))]) (gSet 6) (sIf (truP (pVar 5)) (sSeq (sSet 7 (eOwn (pBin getD (pVar 2) (pVar 6))))
    (sSeq (sSetAny 2 (eTake 6) (ePure (pBin addD (pVar 7) (pC (.int 1)))))
    (sSet 5 (vAnd (ePure (pBin geD (pVar 7) (pBin getD (pBin getD (pVar 0) (pVar 6)) (pC (.int 2))))) (ePure (pBin eqD (pBin modD (pB toInt [(pBin subD (pVar 7) (pBin getD (pBin getD (pVar 0) (pVar 6)) (pC (.int 2))))]) (pBin getD (pBin getD (pVar 0) (pVar 6)) (pC (.int 1)))) (pC (.int 0)))))))) sNil))
    (sIf (truP (pVar 5)) (sExpr (eLMut lAppend 3 [(eTake 4)])) sNil))))
    (sRet (eTake 3)))))
theorem ok__law_passed (T : Tx fa fn K mg) (TC : TxC cs K mg ∧ TxT w ts K mg) : OkF P w K mg base 1 "_law_passed" ["_law_layers", "_law_many"] m__law_passed :=
  T.fn_ 13 13 rfl rfl (fun _ _ _ _ _ _ us hl => match us, hl with | [_, _], _ => rfl) fun fd F => fn_ok F sc__law_passed fun cdv A outer s H E hr =>
   (jss_cons (js_setLcW (i := 0) (j := 2) [0, 1, 2, 3, 4, 5, 6, 7] rfl sc__law_passed.nd (pvn 0) (by decide) (own := [("_law_layer", 8)]) (blkOk_by (by kernel_rfl)) (by kernel_rfl) (fun _ _ _ _ _ => (jg_name sc__law_passed.nd)) (fun _ _ _ _ _ => jts_nil) (fun _ _ _ _ _ => (je_own jp_int)) (sw_true rfl rfl rfl (by decide +kernel)))
    (jss_cons (js_set sc__law_passed.nd (je_lst jms_nil))
    (jss_cons (js_for PassesOwn.never rfl (ji_range1 rfl (T.z 25) (jms_cons (je_take 1) jms_nil)) (jg_name sc__law_passed.nd) (jss_cons (js_set sc__law_passed.nd (je_own jp_bl))
    (jss_cons (js_for PassesOwn.never rfl (ji_range1 rfl (T.z 25) (jms_cons (je_bP call_lenX lenX_ok rfl (T.z 23) (by decide +kernel) (jps_cons (jp_var 0) jps_nil)) jms_nil)) (jg_name sc__law_passed.nd) (jss_one (js_if (jt_truP (jp_var 5)) (jss_cons (js_set sc__law_passed.nd (je_own (jp_get (hu_of hr) (jp_var 2) (jp_var 6))))
    (jss_cons (js_setAny (hu_of hr) (pvn 2) (je_take 6) (je_binPP op_add4 add_ok (jp_var 7) jp_int))
    (jss_one (js_set sc__law_passed.nd (je_and (je_cmpPP op_ge ge_ok (jp_var 7) (jp_get (hu_of hr) (jp_get (hu_of hr) (jp_var 0) (jp_var 6)) jp_int) (by rfl)) (je_one (je_cmpPP (op_eq2 hr.units) eq_ok (jp_bin op_mod mod_ok (jp_ty call_int1 toInt_ok rfl (T.z 21) (by decide +kernel) (jps_cons (jp_bin op_sub sub_ok (jp_var 7) (jp_get (hu_of hr) (jp_get (hu_of hr) (jp_var 0) (jp_var 6)) jp_int)) jps_nil)) (jp_get (hu_of hr) (jp_get (hu_of hr) (jp_var 0) (jp_var 6)) jp_int)) jp_int (by rfl)))))))) jss_nil)))
    (jss_one (js_if (jt_truP (jp_var 5)) (jss_one (js_append (pvn 3) (je_take 4))) jss_nil)))))
    (jss_one (js_ret (je_take 3))))))
abbrev s__law_rate_due : Stmt := topS 13
theorem sc__law_rate_due : FnScope ["_law_clock", "_law_many", "_law_ticks", "_law_n", "_law_k", "_law_layer"] ["_law_clock"] (defScope s__law_rate_due) := ⟨rfl, rfl, rfl, by decide +kernel, rfl, by decide +kernel, by decide +kernel⟩
def m__law_rate_due : List D → Option (D × List D) := mkFn 6
   (sSeq (sIf (tru (eLcW 0 (gSet 5) (asT (ePure (pBin eqD (pBin getD (pVar 5) (pC (.int 0))) (pC (.str "is"))))) (eTake 5) [5])) (sRet (eOwn (pC .non))) sNil)
    (sSeq (sSet 1 (eCall m__law_product [.bor 0]))
    (sSeq (sIf (asT (ePure (pBin leD (pVar 1) (pC (.int 2000))))) (sSeq (sSet 2 (eCall m__law_passed [.bor 0, .val (ePure (pBin mulX (pC (.int 2)) (pVar 1)))]))
    (sRet (eTup [(ePure (pBin subD (pBin getD (pVar 2) (pC (.int 1))) (pBin getD (pVar 2) (pC (.int 0))))), (eOwn (pBin getD (pVar 2) (pC (.int 0))))]))) sNil)
    (sSeq (sSet 3 (eOwn (pC (.int 1))))
    (sSeq (sSet 4 (eOwn (pC (.int 0))))
    (sSeq (sFor (iSeqL (ePRev (pVar 0))) (gSet 5) (sSeq (sSet 4 (ePure (pBin addD (pBin getD (pVar 5) (pC (.int 2))) (pBin mulX (pBin getD (pVar 5) (pC (.int 1))) (pVar 4)))))
    (sSet 3 (ePure (pBin mulX (pBin getD (pVar 5) (pC (.int 1))) (pVar 3))))))
    (sRet (eTup [(eTake 3), (eTake 4)]))))))))
theorem ok__law_rate_due (T : Tx fa fn K mg) (TC : TxC cs K mg ∧ TxT w ts K mg) : OkF P w K mg base 2 "_law_rate_due" ["_law_clock"] m__law_rate_due :=
  T.fn_ 14 14 rfl rfl (fun _ _ _ _ _ _ us hl => match us, hl with | [_], _ => rfl) fun fd F => fn_ok F sc__law_rate_due fun cdv A outer s H E hr =>
   (jss_cons (js_if (jt_tru (je_lcW (i := 0) [0, 1, 2, 3, 4] rfl sc__law_rate_due.nd (pvn 0) (by decide) (own := [("_law_layer", 5)]) (blkOk_by (by kernel_rfl)) (by kernel_rfl) (fun _ _ _ _ _ => (jg_name sc__law_rate_due.nd)) (fun _ _ _ _ _ => (jts_one (jt_cmpPure (op_eq2 hr.units) eq_ok (jp_get (hu_of hr) (jp_var 5) jp_int) jp_str (by rfl)))) (fun _ _ _ _ _ => (je_take 5)))) (jss_one (js_ret (je_own jp_non))) jss_nil)
    (jss_cons (js_set sc__law_rate_due.nd (je_callF (ok__law_product T TC) (hr.mono (by omega)) rfl (ja_bor 0 ja_nil)))
    (jss_cons (js_if (jt_cmpPure op_le le_ok (jp_var 1) jp_int (by rfl)) (jss_cons (js_set sc__law_rate_due.nd (je_callF (ok__law_passed T TC) (hr.mono (by omega)) rfl (ja_bor 0 (ja_val (je_binPP op_mulX mulX_ok jp_int (jp_var 1)) ja_nil))))
    (jss_one (js_ret (je_tup (jms_cons (je_binPP op_sub sub_ok (jp_get (hu_of hr) (jp_var 2) jp_int) (jp_get (hu_of hr) (jp_var 2) jp_int)) (jms_cons (je_own (jp_get (hu_of hr) (jp_var 2) jp_int)) jms_nil)))))) jss_nil)
    (jss_cons (js_set sc__law_rate_due.nd (je_own jp_int))
    (jss_cons (js_set sc__law_rate_due.nd (je_own jp_int))
    (jss_cons (js_for PassesOwn.never rfl (ji_seq (je_rev (jp_var 0))) (jg_name sc__law_rate_due.nd) (jss_cons (js_set sc__law_rate_due.nd (je_binPP op_add4 add_ok (jp_get (hu_of hr) (jp_var 5) jp_int) (jp_bin op_mulX mulX_ok (jp_get (hu_of hr) (jp_var 5) jp_int) (jp_var 4))))
    (jss_one (js_set sc__law_rate_due.nd (je_binPP op_mulX mulX_ok (jp_get (hu_of hr) (jp_var 5) jp_int) (jp_var 3))))))
    (jss_one (js_ret (je_tup (jms_cons (je_take 3) (jms_cons (je_take 4) jms_nil)))))))))))
abbrev s__law_beat_due : Stmt := topS 19
theorem sc__law_beat_due : FnScope ["_law_clock", "_law_other", "_law_one", "_law_two", "_law_at"] ["_law_clock", "_law_other"] (defScope s__law_beat_due) := ⟨rfl, rfl, rfl, by decide +kernel, rfl, by decide +kernel, by decide +kernel⟩
def m__law_beat_due : List D → Option (D × List D) := mkFn 5
   (sSeq (sSet 2 (eCall m__law_gaps [.bor 0]))
    (sSeq (sSet 3 (eCall m__law_gaps [.bor 1]))
    (sSeq (sFz 3 (sFz 2 (sIf (asT (ePure (pBin neD (pBin getD (pVar 2) (pC (.int 0))) (pBin getD (pVar 3) (pC (.int 0)))))) (sRet (eOwn (pC (.bl false)))) sNil)))
    (sSeq (sFor (iRng [(ePure (pB lenX [(pBin getD (pVar 2) (pC (.int 1)))]))]) (gSet 4) (sIf (asT (eBin neD (eCall m__law_rate_due [.val (eOwn (pBin getD (pBin getD (pVar 2) (pC (.int 1))) (pVar 4)))]) (eCall m__law_rate_due [.val (eOwn (pBin getD (pBin getD (pVar 3) (pC (.int 1))) (pVar 4)))]))) (sRet (eOwn (pC (.bl false)))) sNil))
    (sRet (eOwn (pC (.bl true))))))))
theorem ok__law_beat_due (T : Tx fa fn K mg) (TC : TxC cs K mg ∧ TxT w ts K mg) : OkF P w K mg base 3 "_law_beat_due" ["_law_clock", "_law_other"] m__law_beat_due :=
  T.fn_ 15 15 rfl rfl (fun _ _ _ _ _ _ us hl => match us, hl with | [_, _], _ => rfl) fun fd F => fn_ok F sc__law_beat_due fun cdv A outer s H E hr =>
   (jss_cons (js_set sc__law_beat_due.nd (je_callF (ok__law_gaps T TC) (hr.mono (by omega)) rfl (ja_bor 0 ja_nil)))
    (jss_cons (js_set sc__law_beat_due.nd (je_callF (ok__law_gaps T TC) (hr.mono (by omega)) rfl (ja_bor 1 ja_nil)))
    (jss_cons (js_fz 3 (js_fz 2 (js_if (jt_cmpPure (op_ne2 hr.units) ne_ok (jp_get (hu_of hr) (jp_var 2) jp_int) (jp_get (hu_of hr) (jp_var 3) jp_int) (by rfl)) (jss_one (js_ret (je_own jp_bl))) jss_nil)))
    (jss_cons (js_for PassesOwn.never rfl (ji_range1 rfl (T.z 25) (jms_cons (je_bP call_lenX lenX_ok rfl (T.z 23) (by decide +kernel) (jps_cons (jp_get (hu_of hr) (jp_var 2) jp_int) jps_nil)) jms_nil)) (jg_name sc__law_beat_due.nd) (jss_one (js_if (jt_cmp (op_ne2 hr.units) ne_ok (je_callF (ok__law_rate_due T TC) (hr.mono (by omega)) rfl (ja_val (je_own (jp_get (hu_of hr) (jp_get (hu_of hr) (jp_var 2) jp_int) (jp_var 4))) ja_nil)) (je_callF (ok__law_rate_due T TC) (hr.mono (by omega)) rfl (ja_val (je_own (jp_get (hu_of hr) (jp_get (hu_of hr) (jp_var 3) jp_int) (jp_var 4))) ja_nil)) (by rfl)) (jss_one (js_ret (je_own jp_bl))) jss_nil)))
    (jss_one (js_ret (je_own jp_bl)))))))
abbrev s__law_values : Stmt := topS 21
theorem sc__law_values : FnScope ["_law_d", "_law_clocks", "_law_many", "_law_values_here", "_law_clock", "_law_layer", "_law_row", "_law_others", "_law_shift", "_law_tick", "_law_one"] ["_law_d", "_law_clocks", "_law_many"] (defScope s__law_values) := ⟨rfl, rfl, rfl, by decide +kernel, rfl, by decide +kernel, by decide +kernel⟩
def m__law_values : List D → Option (D × List D) := mkFn 11
   (sSeq (sSet 3 eDict0)
    (sSeq (sForB 1 (gSet 4) (sForB 4 (gSet 5) (sIf (mAnd (asT (ePure (pBin eqD (pBin getD (pVar 5) (pC (.int 0))) (pC (.str "is"))))) (asT (eInAny true (pBin getD (pVar 5) (pC (.int 1))) (pVar 3)))) (sSeq (sSet 6 (eLst []))
    (sSeq (sSet 7 (eLcW 4 (gSet 10) (mAnd (asT (ePure (pBin eqD (pBin getD (pVar 10) (pC (.int 0))) (pC (.str "is"))))) (asT (ePure (pBin eqD (pBin getD (pVar 10) (pC (.int 1))) (pBin getD (pVar 5) (pC (.int 1))))))) (eOwn (pBin getD (pVar 10) (pC (.int 2)))) [10]))
    (sSeq (sSet 8 (eCall m__law_draw [.bor 0, .val (ePure (pBin shlD (pC (.int 1)) (pVar 2)))]))
    (sSeq (sFor (iRng [(eTake 2)]) (gSet 9) (sExpr (eLMut lAppend 6 [(eIf (truP (pBin andD (pBin shrD (pVar 8) (pVar 9)) (pC (.int 1)))) (eOwn (pBin getD (pVar 7) (pC (.int 0)))) (eBin ixD (eCall m__law_is_layer [.bor 0]) (eOwn (pC (.int 2)))))])))
    (sFz 6 (sSetAny 3 (eOwn (pBin getD (pVar 5) (pC (.int 1)))) (eTake 6))))))) sNil)))
    (sRet (eTake 3))))
theorem ok__law_values (T : Tx fa fn K mg) (TC : TxC cs K mg ∧ TxT w ts K mg) : OkF P w K mg base 4 "_law_values" ["_law_d", "_law_clocks", "_law_many"] m__law_values :=
  T.fn_ 16 16 rfl rfl (fun _ _ _ _ _ _ us hl => match us, hl with | [_, _, _], _ => rfl) fun fd F => fn_ok F sc__law_values fun cdv A outer s H E hr =>
   (jss_cons (js_set sc__law_values.nd je_dict0)
    (jss_cons (js_forB PassesOwn.never rfl (pvn 1) (jg_name sc__law_values.nd) (jss_one (js_forB PassesOwn.never rfl (pvn 4) (jg_name sc__law_values.nd) (jss_one (js_if (PW.pt (jw_and (jt_cmpPure (op_eq2 hr.units) eq_ok (jp_get (hu_of hr) (jp_var 5) jp_int) jp_str (by rfl)) (jw_and1 (jt_notIn (hu_of hr) (jp_get (hu_of hr) (jp_var 5) jp_int) (jp_var 3))))) (jss_cons (js_set sc__law_values.nd (je_lst jms_nil))
    (jss_cons (js_setLcW (i := 4) (j := 7) [0, 1, 2, 3, 4, 5, 6, 7, 8, 9] rfl sc__law_values.nd (pvn 4) (by decide) (own := [("_law_one", 10)]) (blkOk_by (by kernel_rfl)) (by kernel_rfl) (fun _ _ _ _ _ => (jg_name sc__law_values.nd)) (fun _ _ _ _ _ => (jts_one (PW.pt (jw_and (jt_cmpPure (op_eq2 hr.units) eq_ok (jp_get (hu_of hr) (jp_var 10) jp_int) jp_str (by rfl)) (jw_and1 (jt_cmpPure (op_eq2 hr.units) eq_ok (jp_get (hu_of hr) (jp_var 10) jp_int) (jp_get (hu_of hr) (jp_var 5) jp_int) (by rfl))))))) (fun _ _ _ _ _ => (je_own (jp_get (hu_of hr) (jp_var 10) jp_int))) (sw_true rfl rfl rfl (by decide +kernel)))
    (jss_cons (js_set sc__law_values.nd (je_callF (ok__law_draw T TC) (hr.mono (by omega)) rfl (ja_bor 0 (ja_val (je_binPP op_shl shl_ok jp_int (jp_var 2)) ja_nil))))
    (jss_cons (js_for PassesOwn.never rfl (ji_range1 rfl (T.z 25) (jms_cons (je_take 2) jms_nil)) (jg_name sc__law_values.nd) (jss_one (js_append (pvn 6) (je_if (jt_truP (jp_bin op_and and_ok (jp_bin op_shr shr_ok (jp_var 8) (jp_var 9)) jp_int)) (je_own (jp_get (hu_of hr) (jp_var 7) jp_int)) (je_ix (je_callF (ok__law_is_layer T TC) (hr.mono (by omega)) rfl (ja_bor 0 ja_nil)) (je_own jp_int))))))
    (jss_one (js_fz 6 (js_setAny (hu_of hr) (pvn 3) (je_own (jp_get (hu_of hr) (jp_var 5) jp_int)) (je_take 6)))))))) jss_nil)))))
    (jss_one (js_ret (je_take 3)))))
abbrev s_closed_up : Stmt := topS 1
theorem sc_closed_up : FnScope ["clock", "found", "rate", "layer"] ["clock"] (defScope s_closed_up) := ⟨rfl, rfl, rfl, by decide +kernel, rfl, by decide +kernel, by decide +kernel⟩
def m_closed_up : List D → Option (D × List D) := mkFn 4
   (sSeq (sSet 1 (eLst []))
    (sSeq (sSet 2 (eTup [(eOwn (pC (.int 1))), (eOwn (pC (.int 0)))]))
    (sSeq (sForB 0 (gSet 3) (sIf (asT (ePure (pBin eqD (pBin getD (pVar 3) (pC (.int 0))) (pC (.str "every"))))) (sSet 2 (eTup [(ePure (pBin mulX (pBin getD (pVar 2) (pC (.int 0))) (pBin getD (pVar 3) (pC (.int 1))))), (ePure (pBin addD (pBin getD (pVar 2) (pC (.int 1))) (pBin mulX (pBin getD (pVar 2) (pC (.int 0))) (pBin getD (pVar 3) (pC (.int 2))))))])) (sSeq (sIf (asT (ePure (pBin neD (pVar 2) (pTup [(pC (.int 1)), (pC (.int 0))])))) (sExpr (eLMut lAppend 1 [(eTake 2)])) sNil)
    (sSeq (sExpr (eLMut lAppend 1 [(eTake 3)]))
    (sSet 2 (eTup [(eOwn (pC (.int 1))), (eOwn (pC (.int 0)))]))))))
    (sSeq (sIf (asT (ePure (pBin neD (pVar 2) (pTup [(pC (.int 1)), (pC (.int 0))])))) (sExpr (eLMut lAppend 1 [(eTake 2)])) sNil)
    (sRet (eTake 1))))))
theorem ok_closed_up (T : Tx fa fn K mg) (TC : TxC cs K mg ∧ TxT w ts K mg) : OkF P w K mg base 1 "closed_up" ["clock"] m_closed_up :=
  T.fn_ 17 17 rfl rfl (fun _ _ _ _ _ _ us hl => match us, hl with | [_], _ => rfl) fun fd F => fn_ok F sc_closed_up fun cdv A outer s H E hr =>
   (jss_cons (js_set sc_closed_up.nd (je_lst jms_nil))
    (jss_cons (js_set sc_closed_up.nd (je_tup (jms_cons (je_own jp_int) (jms_cons (je_own jp_int) jms_nil))))
    (jss_cons (js_forB PassesOwn.never rfl (pvn 0) (jg_name sc_closed_up.nd) (jss_one (js_if (jt_cmpPure (op_eq2 hr.units) eq_ok (jp_get (hu_of hr) (jp_var 3) jp_int) jp_str (by rfl)) (jss_one (js_set sc_closed_up.nd (je_tup (jms_cons (je_binPP op_mulX mulX_ok (jp_get (hu_of hr) (jp_var 2) jp_int) (jp_get (hu_of hr) (jp_var 3) jp_int)) (jms_cons (je_binPP op_add4 add_ok (jp_get (hu_of hr) (jp_var 2) jp_int) (jp_bin op_mulX mulX_ok (jp_get (hu_of hr) (jp_var 2) jp_int) (jp_get (hu_of hr) (jp_var 3) jp_int))) jms_nil))))) (jss_cons (js_if (jt_cmpPure (op_ne2 hr.units) ne_ok (jp_var 2) (jp_tup (jps_cons jp_int (jps_cons jp_int jps_nil))) (by rfl)) (jss_one (js_append (pvn 1) (je_take 2))) jss_nil)
    (jss_cons (js_append (pvn 1) (je_take 3))
    (jss_one (js_set sc_closed_up.nd (je_tup (jms_cons (je_own jp_int) (jms_cons (je_own jp_int) jms_nil))))))))))
    (jss_cons (js_if (jt_cmpPure (op_ne2 hr.units) ne_ok (jp_var 2) (jp_tup (jps_cons jp_int (jps_cons jp_int jps_nil))) (by rfl)) (jss_one (js_append (pvn 1) (je_take 2))) jss_nil)
    (jss_one (js_ret (je_take 1)))))))
abbrev s_one_beat : Stmt := topS 2
theorem sc_one_beat : FnScope ["clock", "other"] ["clock", "other"] (defScope s_one_beat) := ⟨rfl, rfl, rfl, by decide +kernel, rfl, by decide +kernel, by decide +kernel⟩
def m_one_beat : List D → Option (D × List D) := mkFn 2
   (sRet (eBin eqD (eCall m_closed_up [.bor 0]) (eCall m_closed_up [.bor 1])))
theorem ok_one_beat (T : Tx fa fn K mg) (TC : TxC cs K mg ∧ TxT w ts K mg) : OkF P w K mg base 2 "one_beat" ["clock", "other"] m_one_beat :=
  T.fn_ 18 18 rfl rfl (fun _ _ _ _ _ _ us hl => match us, hl with | [_, _], _ => rfl) fun fd F => fn_ok F sc_one_beat fun cdv A outer s H E hr =>
   (jss_one (js_ret (je_cmp (op_eq2 hr.units) eq_ok (je_callF (ok_closed_up T TC) (hr.mono (by omega)) rfl (ja_bor 0 ja_nil)) (je_callF (ok_closed_up T TC) (hr.mono (by omega)) rfl (ja_bor 1 ja_nil)) (by rfl))))
abbrev s__law_ticks_of : Stmt := topS 20
theorem sc__law_ticks_of : FnScope ["_law_clock", "_law_values_here", "_law_many", "_law_counts", "_law_found", "_law_tick", "_law_there", "_law_at", "_law_layer", "_law_count"] ["_law_clock", "_law_values_here", "_law_many"] (defScope s__law_ticks_of) := ⟨rfl, rfl, rfl, by decide +kernel, rfl, by decide +kernel, by decide +kernel⟩
def m__law_ticks_of : List D → Option (D × List D) := mkFn 10
   (sSeq (sSet 3 (eLcW 0 (gSet 8) mYes (eOwn (pC (.int 0))) [8]))
    (sSeq (sSet 4 (eLst []))
    (sSeq (sFor (iRng [(eTake 2)]) (gSet 5) (sSeq (sSet 6 (eOwn (pC (.bl true))))
    (sSeq (sFor (iRng [(ePure (pB lenX [(pVar 0)]))]) (gSet 7) (sIf (truP (pVar 6)) (sSeq (sSet 8 (eOwn (pBin getD (pVar 0) (pVar 7))))
    (sSeq (sSet 9 (eOwn (pBin getD (pVar 3) (pVar 7))))
    (sSeq (sSetAny 3 (eTake 7) (ePure (pBin addD (pVar 9) (pC (.int 1)))))
    (sIf (asT (ePure (pBin eqD (pBin getD (pVar 8) (pC (.int 0))) (pC (.str "is"))))) (sSet 6 (ePure (pBin eqD (pBin getD (pBin getD (pVar 1) (pBin getD (pVar 8) (pC (.int 1)))) (pVar 5)) (pBin getD (pVar 8) (pC (.int 2)))))) (sSet 6 (vAnd (ePure (pBin geD (pVar 9) (pBin getD (pVar 8) (pC (.int 2))))) (ePure (pBin eqD (pBin modD (pB toInt [(pBin subD (pVar 9) (pBin getD (pVar 8) (pC (.int 2))))]) (pBin getD (pVar 8) (pC (.int 1)))) (pC (.int 0)))))))))) sNil))
    (sIf (truP (pVar 6)) (sExpr (eLMut lAppend 4 [(eTake 5)])) sNil))))
    (sRet (eTake 4)))))
theorem ok__law_ticks_of (T : Tx fa fn K mg) (TC : TxC cs K mg ∧ TxT w ts K mg) : OkF P w K mg base 1 "_law_ticks_of" ["_law_clock", "_law_values_here", "_law_many"] m__law_ticks_of :=
  T.fn_ 19 19 rfl rfl (fun _ _ _ _ _ _ us hl => match us, hl with | [_, _, _], _ => rfl) fun fd F => fn_ok F sc__law_ticks_of fun cdv A outer s H E hr =>
   (jss_cons (js_setLcW (i := 0) (j := 3) [0, 1, 2, 3, 4, 5, 6, 7, 9] rfl sc__law_ticks_of.nd (pvn 0) (by decide) (own := [("_law_layer", 8)]) (blkOk_by (by kernel_rfl)) (by kernel_rfl) (fun _ _ _ _ _ => (jg_name sc__law_ticks_of.nd)) (fun _ _ _ _ _ => jts_nil) (fun _ _ _ _ _ => (je_own jp_int)) (sw_true rfl rfl rfl (by decide +kernel)))
    (jss_cons (js_set sc__law_ticks_of.nd (je_lst jms_nil))
    (jss_cons (js_for PassesOwn.never rfl (ji_range1 rfl (T.z 25) (jms_cons (je_take 2) jms_nil)) (jg_name sc__law_ticks_of.nd) (jss_cons (js_set sc__law_ticks_of.nd (je_own jp_bl))
    (jss_cons (js_for PassesOwn.never rfl (ji_range1 rfl (T.z 25) (jms_cons (je_bP call_lenX lenX_ok rfl (T.z 23) (by decide +kernel) (jps_cons (jp_var 0) jps_nil)) jms_nil)) (jg_name sc__law_ticks_of.nd) (jss_one (js_if (jt_truP (jp_var 6)) (jss_cons (js_set sc__law_ticks_of.nd (je_own (jp_get (hu_of hr) (jp_var 0) (jp_var 7))))
    (jss_cons (js_set sc__law_ticks_of.nd (je_own (jp_get (hu_of hr) (jp_var 3) (jp_var 7))))
    (jss_cons (js_setAny (hu_of hr) (pvn 3) (je_take 7) (je_binPP op_add4 add_ok (jp_var 9) jp_int))
    (jss_one (js_if (jt_cmpPure (op_eq2 hr.units) eq_ok (jp_get (hu_of hr) (jp_var 8) jp_int) jp_str (by rfl)) (jss_one (js_set sc__law_ticks_of.nd (je_cmpPP (op_eq2 hr.units) eq_ok (jp_get (hu_of hr) (jp_get (hu_of hr) (jp_var 1) (jp_get (hu_of hr) (jp_var 8) jp_int)) (jp_var 5)) (jp_get (hu_of hr) (jp_var 8) jp_int) (by rfl)))) (jss_one (js_set sc__law_ticks_of.nd (je_and (je_cmpPP op_ge ge_ok (jp_var 9) (jp_get (hu_of hr) (jp_var 8) jp_int) (by rfl)) (je_one (je_cmpPP (op_eq2 hr.units) eq_ok (jp_bin op_mod mod_ok (jp_ty call_int1 toInt_ok rfl (T.z 21) (by decide +kernel) (jps_cons (jp_bin op_sub sub_ok (jp_var 9) (jp_get (hu_of hr) (jp_var 8) jp_int)) jps_nil)) (jp_get (hu_of hr) (jp_var 8) jp_int)) jp_int (by rfl))))))))))) jss_nil)))
    (jss_one (js_if (jt_truP (jp_var 6)) (jss_one (js_append (pvn 4) (je_take 5))) jss_nil)))))
    (jss_one (js_ret (je_take 4))))))
abbrev s_law : Stmt := topS 22
theorem sc_law : FnScope ["_law_script", "_law_d", "_law_clocks", "_law_turn", "_law_clock", "_law_step", "_law_other", "_law_due", "_law_values_here"] ["_law_script"] (defScope s_law) := ⟨rfl, rfl, rfl, by decide +kernel, rfl, by decide +kernel, by decide +kernel⟩
def m_law : List D → Option (D × List D) := mkFn 9
   (sSeq (sSet 1 (eCall m__law_begin [.bor 0]))
    (sSeq (sSet 2 (eLst [(eCall m__law_beat_clock [.bor 1])]))
    (sSeq (sFor (iRng [(eOwn (pC (.int 2)))]) (gSet 3) (sSeq (sSet 4 (eOwn (pBin getD (pVar 2) (pUn negD (pC (.int 1))))))
    (sSeq (sFor (iRng [(eBin mulX (eTake 3) (eBin addD (eOwn (pC (.int 1))) (eCall m__law_draw [.bor 1, .val (eOwn (pC (.int 2)))])))]) (gSet 5) (sSet 4 (eCall m__law_bent [.bor 1, .bor 4])))
    (sSeq (sFor (iRng [(eCall m__law_draw [.bor 1, .val (eOwn (pC (.int 6)))])]) (gSet 5) (sSet 4 (eCall m__law_kept [.bor 1, .bor 4])))
    (sExpr (eLMut lAppend 2 [(eTake 4)]))))))
    (sSeq (sForB 2 (gSet 4) (sForB 2 (gSet 6) (sSeq (sSet 7 (eCall m__law_beat_due [.bor 4, .bor 6]))
    (sSeq (sIf (asT (eBinP neD (eB reprD [(eCall m_one_beat [.bor 4, .bor 6])]) (pB reprD [(pVar 7)]))) (sRet (eOwn (pC (.bl false)))) sNil)
    (sIf (truP (pVar 7)) (sSeq (sSet 8 (eCall m__law_values [.bor 1, .val (eLst [(eTake 4), (eTake 6)]), .val (eOwn (pC (.int 12)))]))
    (sIf (asT (eBin neD (eCall m__law_ticks_of [.bor 4, .bor 8, .val (eOwn (pC (.int 12)))]) (eCall m__law_ticks_of [.bor 6, .bor 8, .val (eOwn (pC (.int 12)))]))) (sRet (eOwn (pC (.bl false)))) sNil)) sNil)))))
    (sRet (eOwn (pC (.bl true))))))))
theorem fok_law (T : Tx fa fn K mg) (TC : TxC cs K mg ∧ TxT w ts K mg) {fd : FuncData} (F : Fun K "law" "law" s_law (He.ga K "law") fd) : FnG P w K mg base (He.ga K "law") fd ["_law_script"] (spM K 1 m_law) :=
  fn_okG (k := 5) F sc_law (room_caller (by decide) (by decide)) fun cdv s H E hr =>
   (jss_cons (js_set sc_law.nd (je_callF (ok__law_begin T TC) (hr.mono (by omega)) rfl (ja_bor 0 ja_nil)))
    (jss_cons (js_set sc_law.nd (je_lst (jms_cons (je_callF (ok__law_beat_clock T TC) (hr.mono (by omega)) rfl (ja_bor 1 ja_nil)) jms_nil)))
    (jss_cons (js_for PassesOwn.never rfl (ji_range1 rfl (T.z 25) (jms_cons (je_own jp_int) jms_nil)) (jg_name sc_law.nd) (jss_cons (js_set sc_law.nd (je_own (jp_get (hu_of hr) (jp_var 2) (jp_un un_neg neg_ok jp_int))))
    (jss_cons (js_for PassesOwn.never rfl (ji_range1 rfl (T.z 25) (jms_cons (je_bin op_mulX mulX_ok (je_take 3) (je_bin op_add4 add_ok (je_own jp_int) (je_callF (ok__law_draw T TC) (hr.mono (by omega)) rfl (ja_bor 1 (ja_val (je_own jp_int) ja_nil))))) jms_nil)) (jg_name sc_law.nd) (jss_one (js_set sc_law.nd (je_callF (ok__law_bent T TC) (hr.mono (by omega)) rfl (ja_bor 1 (ja_bor 4 ja_nil))))))
    (jss_cons (js_for PassesOwn.never rfl (ji_range1 rfl (T.z 25) (jms_cons (je_callF (ok__law_draw T TC) (hr.mono (by omega)) rfl (ja_bor 1 (ja_val (je_own jp_int) ja_nil))) jms_nil)) (jg_name sc_law.nd) (jss_one (js_set sc_law.nd (je_callF (ok__law_kept T TC) (hr.mono (by omega)) rfl (ja_bor 1 (ja_bor 4 ja_nil))))))
    (jss_one (js_append (pvn 2) (je_take 4)))))))
    (jss_cons (js_forB PassesOwn.never rfl (pvn 2) (jg_name sc_law.nd) (jss_one (js_forB PassesOwn.never rfl (pvn 2) (jg_name sc_law.nd) (jss_cons (js_set sc_law.nd (je_callF (ok__law_beat_due T TC) (hr.mono (by omega)) rfl (ja_bor 4 (ja_bor 6 ja_nil))))
    (jss_cons (js_if (jt_cmpP (op_ne2 hr.units) ne_ok (je_b (call_reprD rfl hr.units) reprD_ok rfl (T.z 28) (by decide +kernel) (jms_cons (je_callF (ok_one_beat T TC) (hr.mono (by omega)) rfl (ja_bor 4 (ja_bor 6 ja_nil))) jms_nil)) (jp_b (call_reprD rfl hr.units) reprD_ok rfl (T.z 28) (by decide +kernel) (jps_cons (jp_var 7) jps_nil)) (by rfl)) (jss_one (js_ret (je_own jp_bl))) jss_nil)
    (jss_one (js_if (jt_truP (jp_var 7)) (jss_cons (js_set sc_law.nd (je_callF (ok__law_values T TC) (hr.mono (by omega)) rfl (ja_bor 1 (ja_val (je_lst (jms_cons (je_take 4) (jms_cons (je_take 6) jms_nil))) (ja_val (je_own jp_int) ja_nil)))))
    (jss_one (js_if (jt_cmp (op_ne2 hr.units) ne_ok (je_callF (ok__law_ticks_of T TC) (hr.mono (by omega)) rfl (ja_bor 4 (ja_bor 8 (ja_val (je_own jp_int) ja_nil)))) (je_callF (ok__law_ticks_of T TC) (hr.mono (by omega)) rfl (ja_bor 6 (ja_bor 8 (ja_val (je_own jp_int) ja_nil)))) (by rfl)) (jss_one (js_ret (je_own jp_bl))) jss_nil))) jss_nil)))))))
    (jss_one (js_ret (je_own jp_bl)))))))
end
end G_k26

namespace Rt
open PySem PySem.Spec PyProof.Rows L2 Bv
/-- a layer by a rate -/
def RL (d : D) : Prop := ∃ (n k : Int) (x : D), d = .tup [.str "every", .int n, .int k, x] ∧ 0 ≤ k ∧ k < n ∧ n ≤ 12 ∧ noList x = true
/-- a layer by a value -/
def IL (d : D) : Prop := ∃ (nm : Str) (v : D), d = .tup [.str "is", .str nm, v] ∧ strB nm = true ∧ noList v = true ∧ smB 50 v = true
theorem RL.nl {d : D} (h : RL d) : noList d = true := by
  obtain ⟨n, k, x, rfl, _, _, _, hx⟩ := h
  exact nls_cons rfl (nls_cons rfl (nls_cons rfl (nls_cons hx rfl)))
theorem IL.nl {d : D} (h : IL d) : noList d = true := by
  obtain ⟨nm, v, rfl, _, hx, _⟩ := h
  exact nls_cons rfl (nls_cons rfl (nls_cons hx rfl))
/-- a clock's layers -/
def Lay (ds : List D) : Prop := ∀ d ∈ ds, RL d ∨ IL d
theorem Lay.nls {ds : List D} (h : Lay ds) : noLists ds = true := nls_of fun d m => (h d m).elim RL.nl IL.nl
def nOf : D → Int
  | .tup [_, .int n, _, _] => n
  | _ => 1
def kOf : D → Int
  | .tup [_, _, .int k, _] => k
  | _ => 0
def isIL : D → Bool
  | .tup (.str w :: _) => decide (w = "is")
  | _ => false
theorem RL.isIL {d : D} (h : RL d) : isIL d = false := by
  obtain ⟨n, k, x, rfl, _⟩ := h
  show decide (("every" : Str) = "is") = false
  decide
theorem IL.isIL {d : D} (h : IL d) : isIL d = true := by
  obtain ⟨nm, v, rfl, _⟩ := h
  show decide (("is" : Str) = "is") = true
  decide
/-- the beat that layers make: every n-th, the first at k -/
def rateF : List D → Int × Int → Int × Int
  | [], p => p
  | d :: r, p => rateF r (p.1 * nOf d, p.2 + p.1 * kOf d)
def hor : List D → Int × Int
  | [] => (1, 0)
  | d :: r => (nOf d * (hor r).1, kOf d + nOf d * (hor r).2)
theorem rate_hor : ∀ (ds : List D) (p : Int × Int), rateF ds p = (p.1 * (hor ds).1, p.2 + p.1 * (hor ds).2)
  | [], p => by
    show p = (p.1 * 1, p.2 + p.1 * 0)
    rw [Int.mul_one, Int.mul_zero, Int.add_zero]
  | d :: r, p => by
    show rateF r (p.1 * nOf d, p.2 + p.1 * kOf d) = (p.1 * (nOf d * (hor r).1), p.2 + p.1 * (kOf d + nOf d * (hor r).2))
    rw [rate_hor r]
    show (p.1 * nOf d * (hor r).1, p.2 + p.1 * kOf d + p.1 * nOf d * (hor r).2) = _
    rw [Int.mul_add, Int.mul_assoc, Int.mul_assoc, Int.add_assoc]
theorem rate_snoc : ∀ (a : List D) (d : D) (p : Int × Int), rateF (a ++ [d]) p = ((rateF a p).1 * nOf d, (rateF a p).2 + (rateF a p).1 * kOf d)
  | [], d, p => rfl
  | e :: a, d, p => rate_snoc a d _
theorem rate_take {ds : List D} {k : Nat} {d : D} (h : ds[k]? = some d) (p : Int × Int) : rateF (ds.take (k + 1)) p = ((rateF (ds.take k) p).1 * nOf d, (rateF (ds.take k) p).2 + (rateF (ds.take k) p).1 * kOf d) := by
  rw [List.take_succ, h]
  exact rate_snoc _ _ _
/-- what both tell -/
def rateD (ds : List D) : D := if ds.any isIL then .non else .tup [.int (rateF ds (1, 0)).1, .int (rateF ds (1, 0)).2]
theorem any_take {ds : List D} {k : Nat} {d : D} (h : ds[k]? = some d) (ha : (ds.take k).any isIL = false) (hd : isIL d = false) : (ds.take (k + 1)).any isIL = false := by
  rw [List.take_succ, h, List.any_append, ha]
  show (false || (isIL d || false)) = false
  rw [hd]; rfl
/-! ### when the layers let a tick by -/
def rch (N K t : Int) : Bool := decide (K ≤ t ∧ (t - K) % N = 0)
def cnt (N K t : Int) : Int := if t ≤ K then 0 else (t - K - 1) / N + 1
theorem cnt_at {N K t : Int} (hN : 1 ≤ N) (h : rch N K t = true) : cnt N K t = (t - K) / N ∧ t = K + N * ((t - K) / N) := by
  obtain ⟨h1, h2⟩ := of_decide_eq_true h
  have e := Int.mul_ediv_add_emod (t - K) N
  rw [h2, Int.add_zero] at e
  generalize (t - K) / N = q at e ⊢
  refine ⟨?_, by omega⟩
  unfold cnt
  split
  · have : t - K = 0 := by omega
    rw [this] at e
    rcases Int.mul_eq_zero.mp e with e | e <;> omega
  · have hq : t - K - 1 = N - 1 + N * (q - 1) := by rw [Int.mul_sub, Int.mul_one, e]; omega
    rw [hq, Int.add_mul_ediv_left _ _ (by omega), Int.ediv_eq_zero_of_lt (by omega) (by omega)]
    omega
theorem cnt_next {N K t : Int} (hN : 1 ≤ N) : cnt N K (t + 1) = if rch N K t = true then cnt N K t + 1 else cnt N K t := by
  split
  · rename_i h
    have h1 := (of_decide_eq_true h).1
    rw [(cnt_at hN h).1]
    unfold cnt
    rw [if_neg (by omega), show t + 1 - K - 1 = t - K by omega]
  · rename_i h
    unfold cnt
    by_cases h1 : t < K
    · rw [if_pos (by omega), if_pos (by omega)]
    · have h2 : ¬ (t - K) % N = 0 := fun e => h (decide_eq_true ⟨by omega, e⟩)
      have h3 : ¬ t = K := fun e => h2 (by rw [e, Int.sub_self, Int.zero_emod])
      rw [if_neg (by omega), if_neg (by omega), show t + 1 - K - 1 = t - K by omega]
      have e := Int.mul_ediv_add_emod (t - K) N
      have m1 := Int.emod_nonneg (t - K) (show N ≠ 0 by omega)
      have m2 := Int.emod_lt_of_pos (t - K) (show 0 < N by omega)
      generalize (t - K) / N = q at e ⊢
      generalize (t - K) % N = r at e h2 m1 m2
      have : t - K - 1 = (r - 1) + N * q := by omega
      rw [this, Int.add_mul_ediv_left _ _ (by omega), Int.ediv_eq_zero_of_lt (by omega) (by omega)]
      omega
theorem rch_next {N K n k t : Int} (hN : 1 ≤ N) (hn : 1 ≤ n) (hk : 0 ≤ k) : rch (N * n) (K + N * k) t = (rch N K t && (decide (k ≤ cnt N K t) && decide ((cnt N K t - k) % n = 0))) := by
  cases h : rch N K t with
  | true =>
    obtain ⟨e1, e2⟩ := cnt_at hN h
    rw [e1, Bool.true_and]
    generalize (t - K) / N = q at e1 e2 ⊢
    have e3 : t - (K + N * k) = N * (q - k) := by rw [Int.mul_sub]; omega
    unfold rch
    rw [e3, Int.mul_emod_mul_of_pos _ _ (by omega), ← Bool.decide_and]
    refine decide_eq_decide.mpr ⟨fun ⟨h1, h2⟩ => ⟨?_, ?_⟩, fun ⟨h1, h2⟩ => ⟨?_, ?_⟩⟩
    · refine Int.not_lt.mp fun hlt => ?_
      have : N * q < N * k := Int.mul_lt_mul_of_pos_left hlt (by omega)
      omega
    · rcases Int.mul_eq_zero.mp h2 with z | z
      · omega
      · exact z
    · have : N * k ≤ N * q := Int.mul_le_mul_of_nonneg_left h1 (by omega)
      omega
    · rw [h2, Int.mul_zero]
  | false =>
    rw [Bool.false_and]
    refine decide_eq_false fun ⟨h1, h2⟩ => ?_
    have h3 : rch N K t = true := by
      have p : 0 ≤ N * k := Int.mul_nonneg (by omega) hk
      refine decide_eq_true ⟨by omega, ?_⟩
      have e := Int.mul_ediv_add_emod (t - (K + N * k)) (N * n)
      rw [h2, Int.add_zero, Int.mul_assoc] at e
      have : t - K = N * (n * ((t - (K + N * k)) / (N * n)) + k) := by rw [Int.mul_add, e]; omega
      rw [this]
      exact Int.mul_emod_right _ _
    rw [h] at h3; cases h3
/-- the partial beats -/
abbrev PN (ds : List D) (i : Nat) : Int := (rateF (ds.take i) (1, 0)).1
abbrev PK (ds : List D) (i : Nat) : Int := (rateF (ds.take i) (1, 0)).2
theorem part_ok {ds : List D} (hy : ∀ d ∈ ds, RL d) : ∀ i : Nat, 1 ≤ PN ds i ∧ 0 ≤ PK ds i ∧ PK ds i < PN ds i
  | 0 => by
    show 1 ≤ (1 : Int) ∧ 0 ≤ (0 : Int) ∧ (0 : Int) < 1
    decide
  | i + 1 => by
    have ih := part_ok hy i
    rcases Nat.lt_or_ge i ds.length with h | h
    · have hd : ds[i]? = some ds[i] := List.getElem?_eq_getElem h
      have hr := rate_take hd (1, 0)
      obtain ⟨n, k, x, e, h1, h2, h3, hx⟩ := hy _ (List.getElem_mem h)
      have e1 : PN ds (i + 1) = PN ds i * n := by show (rateF _ _).1 = _; rw [hr, e]; rfl
      have e2 : PK ds (i + 1) = PK ds i + PN ds i * k := by show (rateF _ _).2 = _; rw [hr, e]; rfl
      rw [e1, e2]
      generalize PN ds i = N at ih ⊢
      generalize PK ds i = K at ih ⊢
      have a1 : N * 1 ≤ N * n := Int.mul_le_mul_of_nonneg_left (by omega) (by omega)
      have a2 : 0 ≤ N * k := Int.mul_nonneg (by omega) h1
      have a3 : N * k ≤ N * (n - 1) := Int.mul_le_mul_of_nonneg_left (by omega) (by omega)
      rw [Int.mul_sub, Int.mul_one] at a3
      rw [Int.mul_one] at a1
      omega
    · have e : ds.take (i + 1) = ds.take i := by rw [List.take_of_length_le (by omega), List.take_of_length_le h]
      show 1 ≤ (rateF (ds.take (i + 1)) (1, 0)).1 ∧ 0 ≤ (rateF (ds.take (i + 1)) (1, 0)).2 ∧ (rateF (ds.take (i + 1)) (1, 0)).2 < (rateF (ds.take (i + 1)) (1, 0)).1
      rw [e]
      exact ih
theorem filter_two {a b : Nat} (h : a < b) : ∀ n : Nat, (List.range n).filter (fun t => decide (t = a ∨ t = b)) = (if a < n then [a] else []) ++ (if b < n then [b] else [])
  | 0 => rfl
  | n + 1 => by
    rw [List.range_succ, List.filter_append, filter_two h n]
    by_cases h1 : n = a
    · subst h1
      rw [if_neg (by omega), if_neg (by omega), if_pos (by omega), if_neg (by omega)]
      simp
    · by_cases h2 : n = b
      · subst h2
        rw [if_pos (by omega), if_neg (by omega), if_pos (by omega), if_pos (by omega)]
        simp
      · have e : [n].filter (fun t => decide (t = a ∨ t = b)) = [] := by simp [h1, h2]
        rw [e, List.append_nil]
        congr 1
        · by_cases h3 : a < n
          · rw [if_pos h3, if_pos (by omega)]
          · rw [if_neg h3, if_neg (by omega)]
        · by_cases h3 : b < n
          · rw [if_pos h3, if_pos (by omega)]
          · rw [if_neg h3, if_neg (by omega)]
theorem at_ints {ls : List Int} {s : Int} (h0 : 0 ≤ s) (h1 : s.toNat < ls.length) : atI (ls.map D.int) s = some (.int (ls.getD s.toNat 0)) := by
  refine atI_pos h0 ?_
  rw [List.getElem?_map, List.getElem?_eq_getElem h1, List.getD_eq_getElem?_getD, List.getElem?_eq_getElem h1]
  rfl
theorem getD_set_eq {ls : List Int} {i : Nat} {x : Int} (h : i < ls.length) : (ls.set i x).getD i 0 = x := by
  rw [List.getD_eq_getElem?_getD, List.getElem?_set_self h]; rfl
theorem getD_set_ne {ls : List Int} {i j : Nat} {x : Int} (h : i ≠ j) : (ls.set i x).getD j 0 = ls.getD j 0 := by
  rw [List.getD_eq_getElem?_getD, List.getElem?_set_ne h, List.getD_eq_getElem?_getD]
/-- the ticks ahead of t that are let by -/
def FF (ds : List D) (t : Nat) : List Int := ((List.range t).filter fun (u : Nat) => rch (PN ds ds.length) (PK ds ds.length) (u : Int)).map fun (u : Nat) => (u : Int)
theorem FF_next {ds : List D} {t : Nat} : FF ds (t + 1) = if rch (PN ds ds.length) (PK ds ds.length) (t : Int) = true then FF ds t ++ [(t : Int)] else FF ds t := by
  unfold FF
  rw [List.range_succ, List.filter_append, List.map_append]
  cases h : rch (PN ds ds.length) (PK ds ds.length) (t : Int) with
  | true => rw [if_pos rfl]; simp [h]
  | false => rw [if_neg Bool.false_ne_true]; simp [h]
theorem FF_len (ds : List D) (t : Nat) : (FF ds t).length ≤ t := by
  unfold FF
  rw [List.length_map]
  exact Nat.le_trans (List.length_filter_le _ _) (by simp)
theorem FF_two {ds : List D} (hy : ∀ d ∈ ds, RL d) {n k : Nat} (en : PN ds ds.length = n) (ek : PK ds ds.length = k) : FF ds (2 * n) = [(k : Int), (k : Int) + n] := by
  have h := part_ok hy ds.length
  rw [en, ek] at h
  unfold FF
  rw [en, ek]
  have e : (List.range (2 * n)).filter (fun (u : Nat) => rch (n : Int) (k : Int) (u : Int)) = (List.range (2 * n)).filter (fun t => decide (t = k ∨ t = k + n)) := by
    refine List.filter_congr fun t mt => ?_
    have ht := List.mem_range.mp mt
    unfold rch
    refine decide_eq_decide.mpr ⟨fun ⟨a, b⟩ => ?_, fun hc => ?_⟩
    · have e := Int.mul_ediv_add_emod ((t : Int) - k) n
      rw [b, Int.add_zero] at e
      generalize ((t : Int) - k) / n = q at e
      have q0 : 0 ≤ q := by
        refine Int.not_lt.mp fun hq => ?_
        have : (n : Int) * q ≤ n * (-1) := Int.mul_le_mul_of_nonneg_left (by omega) (by omega)
        omega
      have q2 : q < 2 := by
        refine Int.not_le.mp fun hq => ?_
        have : (n : Int) * 2 ≤ n * q := Int.mul_le_mul_of_nonneg_left (by omega) (by omega)
        omega
      have q3 : q = 0 ∨ q = 1 := by omega
      rcases q3 with rfl | rfl
      · left; omega
      · right; omega
    · rcases hc with rfl | rfl
      · exact ⟨by omega, by rw [Int.sub_self, Int.zero_emod]⟩
      · exact ⟨by omega, by rw [show ((k + n : Nat) : Int) - k = n by omega, Int.emod_self]⟩
  rw [e, filter_two (by omega), if_pos (by omega), if_pos (by omega)]
  show [(k : Int), ((k + n : Nat) : Int)] = _
  rw [Int.natCast_add]
theorem hor_drop {ds : List D} {j : Nat} {d : D} (h : ds[j]? = some d) : hor (ds.drop j) = (nOf d * (hor (ds.drop (j + 1))).1, kOf d + nOf d * (hor (ds.drop (j + 1))).2) := by
  obtain ⟨hj, rfl⟩ := List.getElem?_eq_some_iff.mp h
  rw [List.drop_eq_getElem_cons hj]
  rfl
theorem rate_due_eq {ds : List D} : hor ds = rateF ds (1, 0) := by
  rw [rate_hor]
  show hor ds = (1 * (hor ds).1, 0 + 1 * (hor ds).2)
  rw [Int.one_mul, Int.one_mul, Int.zero_add]
theorem no_is {ds : List D} (hy : Lay ds) (h : ds.any isIL = false) : ∀ d ∈ ds, RL d := fun d m => by
  rcases hy d m with h1 | h1
  · exact h1
  · have : ds.any isIL = true := List.any_eq_true.mpr ⟨d, m, h1.isIL⟩
    rw [h] at this; cases this
theorem fil_is {ds : List D} : ((ds.filter isIL).map fun d => d) = [] ∧ ds.any isIL = false ∨ (∃ x r, ((ds.filter isIL).map fun d => d) = x :: r) ∧ ds.any isIL = true := by
  rw [List.map_id']
  cases h : ds.any isIL with
  | false =>
    refine .inl ⟨List.filter_eq_nil_iff.mpr fun d m e => ?_, rfl⟩
    have : ds.any isIL = true := List.any_eq_true.mpr ⟨d, m, e⟩
    rw [h] at this; cases this
  | true =>
    obtain ⟨d, m, e⟩ := List.any_eq_true.mp h
    have := List.mem_filter.mpr ⟨m, e⟩
    cases e2 : ds.filter isIL with
    | nil => rw [e2] at this; cases this
    | cons x r => exact .inr ⟨⟨x, r, rfl⟩, rfl⟩
theorem hor_pos {ds : List D} (hy : ∀ d ∈ ds, RL d) : ∀ {j : Nat}, j ≤ ds.length → 0 ≤ (hor (ds.drop j)).1 := fun {j} hj => by
  have := part_ok (ds := ds.drop j) (fun d m => hy d (List.mem_of_mem_drop m)) (ds.drop j).length
  rw [show PN (ds.drop j) (ds.drop j).length = (hor (ds.drop j)).1 by rw [rate_due_eq]; show (rateF ((ds.drop j).take _) _).1 = _; rw [List.take_length]] at this
  omega
/-! ### a clock parted: rates, a layer is, rates, .. -/
def stp (st : List (List D × D) × List D) (d : D) : List (List D × D) × List D := if isIL d then (st.1 ++ [(st.2, d)], []) else (st.1, st.2 ++ [d])
def seg (ds : List D) : List (List D × D) × List D := ds.foldl stp ([], [])
theorem seg_take {ds : List D} {k : Nat} {d : D} (h : ds[k]? = some d) : seg (ds.take (k + 1)) = stp (seg (ds.take k)) d := by
  unfold seg
  rw [List.take_succ, h, List.foldl_append]
  rfl
def tl : D → D
  | .tup (_ :: r) => .tup r
  | d => d
def names (st : List (List D × D) × List D) : List D := st.1.map fun p => tl p.2
def gaps (st : List (List D × D) × List D) : List (List D) := st.1.map (·.1) ++ [st.2]
/-- what is known of a parted clock -/
structure SgOK (st : List (List D × D) × List D) : Prop where
  il : ∀ p ∈ st.1, IL p.2
  rl : ∀ g ∈ gaps st, ∀ d ∈ g, RL d
theorem sg_stp {st : List (List D × D) × List D} {d : D} (h : SgOK st) (hd : RL d ∨ IL d) : SgOK (stp st d) := by
  unfold stp
  rcases hd with hd | hd
  · rw [hd.isIL, if_neg Bool.false_ne_true]
    refine ⟨h.il, fun g mg e me => ?_⟩
    rcases List.mem_append.mp mg with mg | mg
    · exact h.rl g (List.mem_append_left _ mg) e me
    · rw [List.mem_singleton.mp mg] at me
      rcases List.mem_append.mp me with me | me
      · exact h.rl st.2 (List.mem_append_right _ (List.mem_singleton.mpr rfl)) e me
      · rw [List.mem_singleton.mp me]; exact hd
  · rw [hd.isIL, if_pos rfl]
    refine ⟨fun p mp => ?_, fun g mg e me => ?_⟩
    · rcases List.mem_append.mp mp with mp | mp
      · exact h.il p mp
      · rw [List.mem_singleton.mp mp]; exact hd
    · rcases List.mem_append.mp mg with mg | mg
      · obtain ⟨p, mp, rfl⟩ := List.mem_map.mp mg
        rcases List.mem_append.mp mp with mp | mp
        · exact h.rl _ (List.mem_append_left _ (List.mem_map.mpr ⟨p, mp, rfl⟩)) e me
        · rw [List.mem_singleton.mp mp] at me
          exact h.rl st.2 (List.mem_append_right _ (List.mem_singleton.mpr rfl)) e me
      · rw [List.mem_singleton.mp mg] at me; cases me
theorem sg_fold : ∀ (ds : List D) (st : List (List D × D) × List D), SgOK st → Lay ds → SgOK (ds.foldl stp st)
  | [], _, h, _ => h
  | d :: ds, st, h, hy => sg_fold ds (stp st d) (sg_stp h (hy d List.mem_cons_self)) fun e m => hy e (List.mem_cons_of_mem _ m)
theorem sg_ok {ds : List D} (hy : Lay ds) : SgOK (seg ds) := by
  refine sg_fold ds _ ⟨fun p m => (by cases m), fun g m e me => ?_⟩ hy
  rw [List.mem_singleton.mp m] at me; cases me
/-- how long its parts are -/
def sgL (st : List (List D × D) × List D) : Nat := (st.1.map fun p => p.1.length + 1).sum + st.2.length
theorem sgL_stp (st : List (List D × D) × List D) (d : D) : sgL (stp st d) = sgL st + 1 := by
  unfold stp sgL
  split
  · simp only [List.map_append, List.sum_append, List.map_cons, List.map_nil, List.sum_cons, List.sum_nil, List.length_nil]; omega
  · simp only [List.length_append, List.length_cons, List.length_nil]; omega
theorem sgL_fold : ∀ (ds : List D) (st : List (List D × D) × List D), sgL (ds.foldl stp st) = sgL st + ds.length
  | [], st => rfl
  | d :: ds, st => by
    rw [List.foldl_cons, sgL_fold ds, sgL_stp, List.length_cons]; omega
theorem sgL_seg (ds : List D) : sgL (seg ds) = ds.length := by
  unfold seg
  rw [sgL_fold]
  show 0 + 0 + ds.length = ds.length
  omega
theorem sum_mem : ∀ {ls : List Nat} {n : Nat}, n ∈ ls → n ≤ ls.sum
  | a :: ls, n, m => by
    rw [List.sum_cons]
    rcases List.mem_cons.mp m with rfl | m
    · omega
    · have := sum_mem m; omega
theorem sgL_gap {st : List (List D × D) × List D} {g : List D} (m : g ∈ gaps st) : g.length ≤ sgL st := by
  unfold sgL
  rcases List.mem_append.mp m with m | m
  · obtain ⟨p, mp, rfl⟩ := List.mem_map.mp m
    have := sum_mem (List.mem_map.mpr ⟨p, mp, rfl⟩ : p.1.length + 1 ∈ st.1.map fun p => p.1.length + 1)
    omega
  · rw [List.mem_singleton.mp m]; omega
theorem len_le_sum : ∀ (l : List (List D × D)), l.length ≤ (l.map fun p => p.1.length + 1).sum
  | [] => Nat.le_refl _
  | p :: l => by
    rw [List.map_cons, List.sum_cons, List.length_cons]
    have := len_le_sum l; omega
theorem sgL_pre (st : List (List D × D) × List D) : st.1.length ≤ sgL st := by
  unfold sgL
  have := len_le_sum st.1; omega
/-! ### the beat of a gap -/
def rt (g : List D) : Int × Int := rateF g (1, 0)
def rT (p : Int × Int) : D := .tup [.int p.1, .int p.2]
def rtc (g : List D) : List D := if rt g = (1, 0) then [] else [rT (rt g)]
def cl : List (List D × D) → List D → List D
  | [], c => rtc c
  | p :: r, c => rtc p.1 ++ p.2 :: cl r c
def clB : List (List D × D) → List D
  | [] => []
  | p :: r => rtc p.1 ++ p.2 :: clB r
theorem clB_snoc : ∀ (l : List (List D × D)) (p : List D × D), clB (l ++ [p]) = clB l ++ (rtc p.1 ++ [p.2])
  | [], p => by show rtc p.1 ++ [p.2] = [] ++ (rtc p.1 ++ [p.2]); rfl
  | q :: l, p => by
    show rtc q.1 ++ q.2 :: clB (l ++ [p]) = rtc q.1 ++ q.2 :: clB l ++ (rtc p.1 ++ [p.2])
    rw [clB_snoc l p, List.append_assoc]; rfl
theorem cl_eq : ∀ (l : List (List D × D)) (c : List D), cl l c = clB l ++ rtc c
  | [], c => rfl
  | p :: l, c => by
    show rtc p.1 ++ p.2 :: cl l c = (rtc p.1 ++ p.2 :: clB l) ++ rtc c
    rw [cl_eq l c, List.append_assoc]; rfl
theorem rT_isIL (p : Int × Int) : isIL (rT p) = false := rfl
theorem rtc_len (g : List D) : (rtc g).length ≤ 1 := by
  unfold rtc; split
  · exact Nat.zero_le _
  · exact Nat.le_refl _
theorem clB_len : ∀ (l : List (List D × D)), (clB l).length ≤ 2 * l.length
  | [] => Nat.le_refl _
  | p :: l => by
    show (rtc p.1 ++ p.2 :: clB l).length ≤ 2 * (l.length + 1)
    rw [List.length_append, List.length_cons]
    have := clB_len l
    have := rtc_len p.1
    omega
theorem rtc_inj {g h : List D} (e : rtc g = rtc h) : rt g = rt h := by
  unfold rtc at e
  split at e
  · rename_i h1
    split at e
    · rename_i h2; rw [h1, h2]
    · cases e
  · split at e
    · cases e
    · have e2 := List.cons.inj e
      have e3 := D.tup.inj e2.1
      have e4 := List.cons.inj e3
      have e5 := List.cons.inj e4.2
      exact Prod.ext (D.int.inj e4.1) (D.int.inj e5.1)
theorem rtc_congr {g h : List D} (e : rt g = rt h) : rtc g = rtc h := by unfold rtc; rw [e]
/-- the things that a beat turns on -/
def bk (p : List D × D) : (Int × Int) × D := (rt p.1, p.2)
theorem cl_inj : ∀ (a b : List (List D × D)) (c c' : List D), (∀ p ∈ a, isIL p.2 = true) → (∀ p ∈ b, isIL p.2 = true) → cl a c = cl b c' → a.map bk = b.map bk ∧ rt c = rt c'
  | [], [], c, c', _, _, e => ⟨rfl, rtc_inj e⟩
  | [], p :: b, c, c', _, hb, e => by
    exfalso
    have e : rtc c = rtc p.1 ++ p.2 :: cl b c' := e
    have m : p.2 ∈ rtc c := by rw [e]; exact List.mem_append_right _ List.mem_cons_self
    have h1 := hb p List.mem_cons_self
    unfold rtc at m
    split at m
    · cases m
    · rw [List.mem_singleton.mp m, rT_isIL] at h1; cases h1
  | p :: a, [], c, c', ha, _, e => by
    exfalso
    have e : rtc p.1 ++ p.2 :: cl a c = rtc c' := e
    have m : p.2 ∈ rtc c' := by rw [← e]; exact List.mem_append_right _ List.mem_cons_self
    have h1 := ha p List.mem_cons_self
    unfold rtc at m
    split at m
    · cases m
    · rw [List.mem_singleton.mp m, rT_isIL] at h1; cases h1
  | p :: a, q :: b, c, c', ha, hb, e => by
    have e : rtc p.1 ++ p.2 :: cl a c = rtc q.1 ++ q.2 :: cl b c' := e
    have h1 := ha p List.mem_cons_self
    have h2 := hb q List.mem_cons_self
    have key : rt p.1 = rt q.1 ∧ p.2 = q.2 ∧ cl a c = cl b c' := by
      have hp := rtc_len p.1
      unfold rtc at e
      split at e
      · rename_i g1
        split at e
        · rename_i g2
          have e2 := List.cons.inj e
          exact ⟨by rw [g1, g2], e2.1, e2.2⟩
        · have e2 := List.cons.inj e
          rw [e2.1, rT_isIL] at h1; cases h1
      · split at e
        · have e2 := List.cons.inj e
          rw [← e2.1, rT_isIL] at h2; cases h2
        · have e2 := List.cons.inj e
          have e2' := List.cons.inj e2.2
          have e3 := D.tup.inj e2.1
          have e4 := List.cons.inj e3
          have e5 := List.cons.inj e4.2
          exact ⟨Prod.ext (D.int.inj e4.1) (D.int.inj e5.1), e2'.1, e2'.2⟩
    obtain ⟨k1, k2, k3⟩ := key
    obtain ⟨i1, i2⟩ := cl_inj a b c c' (fun p m => ha p (List.mem_cons_of_mem _ m)) (fun p m => hb p (List.mem_cons_of_mem _ m)) k3
    refine ⟨?_, i2⟩
    rw [List.map_cons, List.map_cons, i1]
    unfold bk
    rw [k1, k2]
theorem cl_congr : ∀ (a b : List (List D × D)) (c c' : List D), a.map bk = b.map bk → rt c = rt c' → cl a c = cl b c'
  | [], [], c, c', _, e => rtc_congr e
  | [], _ :: _, _, _, e, _ => by cases e
  | _ :: _, [], _, _, e, _ => by cases e
  | p :: a, q :: b, c, c', e, e2 => by
    have e1 := List.cons.inj e
    have e3 := Prod.mk.inj e1.1
    show rtc p.1 ++ p.2 :: cl a c = rtc q.1 ++ q.2 :: cl b c'
    rw [cl_congr a b c c' e1.2 e2, rtc_congr e3.1, e3.2]
def clo (st : List (List D × D) × List D) : List D := cl st.1 st.2
theorem tl_inj {d e : D} (hd : IL d) (he : IL e) (h : tl d = tl e) : d = e := by
  obtain ⟨nm, v, rfl, _⟩ := hd
  obtain ⟨nm', v', rfl, _⟩ := he
  have h1 := D.tup.inj h
  rw [h1]
/-- of one beat: the names and the rates of the gaps -/
def Due (a b : List (List D × D) × List D) : Prop := names a = names b ∧ (gaps a).map rt = (gaps b).map rt
theorem due_bk : ∀ (a b : List (List D × D)) (c c' : List D), (∀ p ∈ a, IL p.2) → (∀ p ∈ b, IL p.2) → (Due (a, c) (b, c') ↔ (a.map bk = b.map bk ∧ rt c = rt c'))
  | [], [], c, c', _, _ => ⟨fun h => ⟨rfl, (List.cons.inj h.2).1⟩, fun h => ⟨rfl, (by show [rt c] = [rt c']; rw [h.2])⟩⟩
  | [], _ :: _, _, _, _, _ => ⟨fun h => (by cases h.1), fun h => (by cases h.1)⟩
  | _ :: _, [], _, _, _, _ => ⟨fun h => (by cases h.1), fun h => (by cases h.1)⟩
  | p :: a, q :: b, c, c', ha, hb => by
    have ih := due_bk a b c c' (fun p m => ha p (List.mem_cons_of_mem _ m)) (fun p m => hb p (List.mem_cons_of_mem _ m))
    constructor
    · rintro ⟨h1, h2⟩
      have h1 := List.cons.inj (show tl p.2 :: names (a, c) = tl q.2 :: names (b, c') from h1)
      have h2 := List.cons.inj (show rt p.1 :: (gaps (a, c)).map rt = rt q.1 :: (gaps (b, c')).map rt from h2)
      obtain ⟨i1, i2⟩ := ih.mp ⟨h1.2, h2.2⟩
      refine ⟨?_, i2⟩
      rw [List.map_cons, List.map_cons, i1]
      unfold bk
      rw [h2.1, tl_inj (ha p List.mem_cons_self) (hb q List.mem_cons_self) h1.1]
    · rintro ⟨h1, h2⟩
      have h1 := List.cons.inj h1
      have h3 := Prod.mk.inj h1.1
      obtain ⟨i1, i2⟩ := ih.mpr ⟨h1.2, h2⟩
      refine ⟨?_, ?_⟩
      · show tl p.2 :: names (a, c) = tl q.2 :: names (b, c')
        rw [i1, h3.2]
      · show rt p.1 :: (gaps (a, c)).map rt = rt q.1 :: (gaps (b, c')).map rt
        rw [i2, h3.1]
/-- the law's answer and the program's -/
theorem due_clo {a b : List (List D × D) × List D} (ha : SgOK a) (hb : SgOK b) : Due a b ↔ clo a = clo b := by
  obtain ⟨a, c⟩ := a
  obtain ⟨b, c'⟩ := b
  rw [due_bk a b c c' ha.il hb.il]
  exact ⟨fun h => cl_congr a b c c' h.1 h.2, fun h => cl_inj a b c c' (fun p m => (ha.il p m).isIL) (fun p m => (hb.il p m).isIL) h⟩
end Rt

namespace Rt
open PySem PySem.Spec PyProof.Rows L2 Bv
/-! ### the ticks that layers let by -/
def cntB (s : Nat → Bool) : Nat → Int
  | 0 => 0
  | t + 1 => if s t = true then cntB s t + 1 else cntB s t
theorem cntB_nn (s : Nat → Bool) : ∀ t, 0 ≤ cntB s t
  | 0 => Int.le_refl _
  | t + 1 => by
    have := cntB_nn s t
    show 0 ≤ if s t = true then cntB s t + 1 else cntB s t
    split <;> omega
noncomputable def pas (V : Str → List D) : D → Int → Nat → Bool
  | .tup [_, .str nm, v], _, t => eqP ((V nm).getD t .non = v)
  | .tup [_, .int n, .int k, _], c, _ => decide (k ≤ c) && decide ((c - k) % n = 0)
  | _, _, _ => false
noncomputable def tf (V : Str → List D) (s : Nat → Bool) (d : D) : Nat → Bool := fun t => s t && pas V d (cntB s t) t
noncomputable def thr (V : Str → List D) (ds : List D) : Nat → Bool := ds.foldl (tf V) fun _ => true
theorem thr_take {V : Str → List D} {ds : List D} {k : Nat} {d : D} (h : ds[k]? = some d) : thr V (ds.take (k + 1)) = tf V (thr V (ds.take k)) d := by
  unfold thr
  rw [List.take_succ, h, List.foldl_append]
  rfl
def gapR (r : Int × Int) (s : Nat → Bool) : Nat → Bool := fun t => s t && rch r.1 r.2 (cntB s t)
theorem cnt_gapR {N K : Int} (hN : 1 ≤ N) (hK : 0 ≤ K) (s : Nat → Bool) : ∀ t, cntB (gapR (N, K) s) t = cnt N K (cntB s t)
  | 0 => by
    show (0 : Int) = cnt N K 0
    unfold cnt
    rw [if_pos hK]
  | t + 1 => by
    have ih := cnt_gapR hN hK s t
    show (if gapR (N, K) s t = true then cntB (gapR (N, K) s) t + 1 else cntB (gapR (N, K) s) t) = cnt N K (if s t = true then cntB s t + 1 else cntB s t)
    rw [ih]
    show (if (s t && rch N K (cntB s t)) = true then _ else _) = _
    cases h : s t with
    | false => rfl
    | true =>
      rw [Bool.true_and, if_pos (rfl : true = true), cnt_next hN]
theorem gap_from {V : Str → List D} {s : Nat → Bool} : ∀ (g : List D) (N K : Int), 1 ≤ N → 0 ≤ K → (∀ d ∈ g, RL d) → g.foldl (tf V) (gapR (N, K) s) = gapR (rateF g (N, K)) s
  | [], N, K, _, _, _ => rfl
  | d :: g, N, K, hN, hK, hy => by
    obtain ⟨n, k, x, rfl, h1, h2, h3, hx⟩ := hy d List.mem_cons_self
    show g.foldl (tf V) (tf V (gapR (N, K) s) (.tup [.str "every", .int n, .int k, x])) = gapR (rateF g (N * n, K + N * k)) s
    have e : tf V (gapR (N, K) s) (.tup [.str "every", .int n, .int k, x]) = gapR (N * n, K + N * k) s := by
      funext t
      show (gapR (N, K) s t && (decide (k ≤ cntB (gapR (N, K) s) t) && decide ((cntB (gapR (N, K) s) t - k) % n = 0))) = (s t && rch (N * n) (K + N * k) (cntB s t))
      rw [cnt_gapR hN hK, rch_next hN (by omega) h1]
      show (s t && rch N K (cntB s t) && _) = _
      rw [Bool.and_assoc]
    rw [e]
    have a1 : N * 1 ≤ N * n := Int.mul_le_mul_of_nonneg_left (by omega) (by omega)
    have a2 : 0 ≤ N * k := Int.mul_nonneg (by omega) h1
    rw [Int.mul_one] at a1
    exact gap_from g _ _ (by omega) (by omega) fun d m => hy d (List.mem_cons_of_mem _ m)
theorem gapR_one (s : Nat → Bool) : gapR (1, 0) s = s := by
  funext t
  show (s t && rch 1 0 (cntB s t)) = s t
  have : rch 1 0 (cntB s t) = true := decide_eq_true ⟨cntB_nn s t, by rw [Int.sub_zero, Int.emod_one]⟩
  rw [this, Bool.and_true]
theorem gap_rt {V : Str → List D} {s : Nat → Bool} {g : List D} (hy : ∀ d ∈ g, RL d) : g.foldl (tf V) s = gapR (rt g) s := by
  have := gap_from (V := V) (s := s) g 1 0 (by omega) (by omega) hy
  rw [gapR_one] at this
  exact this
noncomputable def thrS (V : Str → List D) (st : List (List D × D) × List D) : Nat → Bool := st.2.foldl (tf V) (st.1.foldl (fun s p => tf V (p.1.foldl (tf V) s) p.2) fun _ => true)
theorem thrS_stp {V : Str → List D} {st : List (List D × D) × List D} {d : D} : thrS V (stp st d) = tf V (thrS V st) d := by
  unfold stp thrS
  split
  · rw [List.foldl_append]; rfl
  · rw [List.foldl_append]; rfl
theorem thrS_fold {V : Str → List D} : ∀ (ds : List D) (st : List (List D × D) × List D), thrS V (ds.foldl stp st) = ds.foldl (tf V) (thrS V st)
  | [], st => rfl
  | d :: ds, st => by
    rw [List.foldl_cons, List.foldl_cons, thrS_fold ds, thrS_stp]
theorem thr_seg {V : Str → List D} (ds : List D) : thr V ds = thrS V (seg ds) := by
  unfold seg
  rw [thrS_fold]
  rfl
theorem pre_bk {V : Str → List D} : ∀ (l : List (List D × D)) (s : Nat → Bool), (∀ p ∈ l, ∀ d ∈ p.1, RL d) → l.foldl (fun s p => tf V (p.1.foldl (tf V) s) p.2) s = (l.map bk).foldl (fun s q => tf V (gapR q.1 s) q.2) s
  | [], s, _ => rfl
  | p :: l, s, h => by
    rw [List.map_cons, List.foldl_cons, List.foldl_cons, gap_rt (h p List.mem_cons_self)]
    exact pre_bk l _ fun q m => h q (List.mem_cons_of_mem _ m)
theorem thrS_bk {V : Str → List D} {st : List (List D × D) × List D} (h : SgOK st) : thrS V st = gapR (rt st.2) ((st.1.map bk).foldl (fun s q => tf V (gapR q.1 s) q.2) fun _ => true) := by
  unfold thrS
  rw [gap_rt (h.rl _ (List.mem_append_right _ (List.mem_singleton.mpr rfl))), pre_bk _ _ fun p m => h.rl _ (List.mem_append_left _ (List.mem_map.mpr ⟨p, m, rfl⟩))]
/-- of one beat: there at the same ticks -/
theorem due_thr {V : Str → List D} {a b : List D} (ha : Lay a) (hb : Lay b) (h : Due (seg a) (seg b)) : thr V a = thr V b := by
  have h1 := sg_ok ha
  have h2 := sg_ok hb
  rw [thr_seg, thr_seg, thrS_bk h1, thrS_bk h2]
  obtain ⟨e1, e2⟩ := (due_bk (seg a).1 (seg b).1 (seg a).2 (seg b).2 h1.il h2.il).mp h
  rw [e1, e2]
/-- the ticks told -/
noncomputable def tks (V : Str → List D) (ds : List D) (t : Nat) : List Int := ((List.range t).filter (thr V ds)).map fun (u : Nat) => (u : Int)
theorem tks_next {V : Str → List D} {ds : List D} {t : Nat} : tks V ds (t + 1) = if thr V ds t = true then tks V ds t ++ [(t : Int)] else tks V ds t := by
  unfold tks
  rw [List.range_succ, List.filter_append, List.map_append]
  cases h : thr V ds t with
  | true => rw [if_pos rfl]; simp [h]
  | false => rw [if_neg Bool.false_ne_true]; simp [h]
theorem tks_len (V : Str → List D) (ds : List D) (t : Nat) : (tks V ds t).length ≤ t := by
  unfold tks
  rw [List.length_map]
  exact Nat.le_trans (List.length_filter_le _ _) (by simp)
/-! ### rows of values by names -/
def rowOf (kvs : List (Key × D)) (nm : Str) : List D := match valK kvs (.inr nm) with
  | some (.frz r) => r
  | _ => []
structure VOK (kvs : List (Key × D)) : Prop where
  ok : ∀ kd ∈ kvs, ∃ r, kd.2 = .frz r ∧ r.length = 12 ∧ noLists r = true ∧ smsB 50 r = true
theorem valK_mem {kvs : List (Key × D)} {k : Key} {d : D} (h : valK kvs k = some d) : (k, d) ∈ kvs := by
  unfold valK at h
  cases e : kvs.find? fun kv => decide (kv.1 = k) with
  | none => rw [e] at h; cases h
  | some kv =>
    rw [e] at h
    have h1 := List.mem_of_find?_eq_some e
    have h2 := of_decide_eq_true (List.find?_some (p := fun kv : Key × D => decide (kv.1 = k)) e)
    have h3 : kv.2 = d := Option.some.inj h
    rw [← h2, ← h3]
    exact h1
theorem row_ok {kvs : List (Key × D)} {nm : Str} (v : VOK kvs) (h : (valK kvs (.inr nm)).isSome = true) : valK kvs (.inr nm) = some (.frz (rowOf kvs nm)) ∧ (rowOf kvs nm).length = 12 ∧ noLists (rowOf kvs nm) = true ∧ smsB 50 (rowOf kvs nm) = true := by
  unfold rowOf
  cases e : valK kvs (.inr nm) with
  | none => rw [e] at h; cases h
  | some d =>
    obtain ⟨r, e2, h2⟩ := v.ok _ (valK_mem e)
    have e2 : d = .frz r := e2
    subst e2
    exact ⟨rfl, h2⟩
theorem val_app {kvs : List (Key × D)} {k k' : Key} {d : D} (h : (valK kvs k').isSome = true) : (valK (kvs ++ [(k, d)]) k').isSome = true := by
  unfold valK at *
  rw [List.find?_append]
  cases e : kvs.find? fun kv => decide (kv.1 = k') with
  | none => rw [e] at h; cases h
  | some kv => rfl
theorem val_new {kvs : List (Key × D)} {k : Key} {d : D} : (valK (kvs ++ [(k, d)]) k).isSome = true := by
  unfold valK
  rw [List.find?_append]
  cases e : kvs.find? fun kv => decide (kv.1 = k) with
  | none => simp
  | some kv => rfl
theorem put_new {kvs : List (Key × D)} {k : Key} {d : D} (h : (valK kvs k).isSome = false) : putD kvs k d = kvs ++ [(k, d)] := by
  unfold putD
  have : (kvs.any fun kv => decide (kv.1 = k)) = false := by
    rw [List.any_eq_false]
    intro kv m e
    unfold valK at h
    cases e2 : kvs.find? fun kv => decide (kv.1 = k) with
    | none => exact List.find?_eq_none.mp e2 kv m e
    | some kv => rw [e2] at h; cases h
  rw [this, if_neg Bool.false_ne_true]
theorem in_txt {kvs : List (Key × D)} {x : Str} {Q : Bool → Prop} (q : Q (valK kvs (.inr x)).isSome) : IN (.str x) (.dic kvs) Q := ⟨_, rfl, q⟩
theorem wo_getTxt {kvs : List (Key × D)} {x : Str} {d : D} {Q : D → Prop} (h : valK kvs (.inr x) = some d) (q : Q d) : WO (getD (.dic kvs) (.str x)) Q := ⟨d, h, q⟩
end Rt

namespace G_k26
open PySem PySem.Spec PyProof.Rows L2 Bv Rt
set_option hygiene false
local macro_rules | `(tactic| decreasing_trivial_pre_omega) => `(tactic| first
  | ((with_reducible apply wes_nil))
  | ((with_reducible apply wes_cons))
  | ((with_reducible apply sq_nx))
  | ((with_reducible apply sq_rt))
  | ((with_reducible apply sq_bk))
  | ((with_reducible apply sq_ct))
  | ((with_reducible apply wps_cons))
  | ((with_reducible apply wps_nil))
  | ((with_reducible apply wo3_none))
  | ((with_reducible apply wo3_some))
  | ((with_reducible apply ne_); (· (first | (simp only [List.set_cons_zero, List.set_cons_succ, putBack, wipeE, List.map_cons, List.map_nil, List.length_cons, List.length_nil, List.cons_append, List.nil_append, List.replicate, Nat.reduceSub, Nat.reduceAdd, Nat.reduceLT]; rfl) | rfl)))
  | ((with_reducible apply lq_); (· rfl))
  | ((with_reducible apply nd_); (· (first | rfl | assumption | exact nl_tup (by assumption) | (with_reducible apply nl_tup; ((repeat' (first | assumption | with_reducible exact nls_ints _ | with_reducible exact nls_strs _ | with_reducible exact pD_nls _ | with_reducible rfl | with_reducible apply nls_cons | with_reducible apply nls_app | with_reducible exact nls_nil | with_reducible apply nl_tup | with_reducible exact nl_int | with_reducible exact nl_str)); done)))))
  | ((with_reducible apply lm_insert); (· (first | omega | (simp only [numsD_len, List.length_map, List.length_append, List.length_cons, List.length_nil]; omega))); (· omega); (· omega))
  | ((with_reducible apply wa_nil))
  | ((with_reducible apply wa_val))
  | ((with_reducible apply wr_nil))
  | ((with_reducible apply wr_inl))
  | ((with_reducible apply wa_bor); (· rfl))
  | ((with_reducible apply wr_inr); (· rfl))
  | ((with_reducible apply wc_nil))
  | ((with_reducible apply wl_nil))
  | ((with_reducible apply isb_))
  | ((with_reducible apply isi_))
  | ((with_reducible apply iss_))
  | ((with_reducible apply tr_b))
  | ((with_reducible apply tr_i))
  | ((with_reducible apply tr_n))
  | ((with_reducible apply tr_l))
  | ((with_reducible apply tr_t))
  | ((with_reducible apply br_not))
  | ((with_reducible apply wg_set))
  | ((with_reducible apply wg_tup))
  | ((with_reducible apply wgs_nil))
  | ((with_reducible apply wgs_cons))
  | ((with_reducible apply wi_rng1))
  | ((with_reducible apply wi_rng2))
  | ((with_reducible apply wi_down))
  | ((with_reducible apply wi_seq))
  | ((with_reducible apply lp_nx))
  | ((with_reducible apply lp_ct))
  | ((with_reducible apply lp_bk))
  | ((with_reducible apply lp_rt))
  | ((with_reducible apply fk_rt); (· rfl))
  | ((with_reducible apply fk_nx); (· rfl))
  | ((with_reducible apply fp_rt))
  | ((with_reducible apply fp_nx))
  | ((with_reducible apply sn_); (· rfl))
  | ((with_reducible apply ln_); (· rfl))
  | ((with_reducible apply br_t); (· rfl))
  | ((with_reducible apply br_f); (· rfl))
  | ((with_reducible apply br_dt); (· (first | assumption | decide | omega)))
  | ((with_reducible apply br_df); (· (first | assumption | decide | omega)))
  | (with_reducible refine br_d (fun h => ?_) (fun h => ?_))
  | ((with_reducible apply rg_); (· omega); (· omega))
  | ((with_reducible apply sz_); (· (first | omega | assumption | (simp only [numsD_len, List.length_map, List.length_append, List.length_cons, List.length_nil]; omega))))
  | ((with_reducible apply sz1_); (· (first | omega | assumption | (simp only [numsD_len, List.length_map, List.length_append, List.length_cons, List.length_nil]; omega))))
  | ((with_reducible apply ix_lit); (· rfl))
  | ((with_reducible apply ix_pos); (· omega); (· (first | omega | (simp; omega))))
  | ((with_reducible apply tq_t); (· (first | rfl | assumption | with_reducible exact nls_ints _ | with_reducible exact nls_strs _ | with_reducible exact pD_nls _ | ((repeat' (first | assumption | with_reducible exact nls_ints _ | with_reducible exact nls_strs _ | with_reducible exact pD_nls _ | with_reducible rfl | with_reducible apply nls_cons | with_reducible apply nls_app | with_reducible exact nls_nil | with_reducible apply nl_tup | with_reducible exact nl_int | with_reducible exact nl_str)); done))))
  | ((with_reducible apply tq_l); (· (first | rfl | assumption | with_reducible exact nls_ints _ | with_reducible exact nls_strs _ | with_reducible exact pD_nls _ | ((repeat' (first | assumption | with_reducible exact nls_ints _ | with_reducible exact nls_strs _ | with_reducible exact pD_nls _ | with_reducible rfl | with_reducible apply nls_cons | with_reducible apply nls_app | with_reducible exact nls_nil | with_reducible apply nl_tup | with_reducible exact nl_int | with_reducible exact nl_str)); done))))
  | ((with_reducible apply tq_f); (· (first | rfl | assumption | with_reducible exact nls_ints _ | with_reducible exact nls_strs _ | with_reducible exact pD_nls _ | ((repeat' (first | assumption | with_reducible exact nls_ints _ | with_reducible exact nls_strs _ | with_reducible exact pD_nls _ | with_reducible rfl | with_reducible apply nls_cons | with_reducible apply nls_app | with_reducible exact nls_nil | with_reducible apply nl_tup | with_reducible exact nl_int | with_reducible exact nl_str)); done))))
  | ((with_reducible apply in_SS1); (· rfl))
  | ((with_reducible apply in_ST); (· rfl))
  | ((with_reducible apply in_); (· rfl))
  | ((with_reducible apply lm_append); (· (first | omega | (simp only [numsD_len, List.length_map, List.length_append, List.length_cons, List.length_nil]; omega))))
  | ((with_reducible apply lm_extL); (· (first | omega | (simp only [numsD_len, List.length_map, List.length_append, List.length_cons, List.length_nil]; omega))); (· (first | rfl | assumption)))
  | ((with_reducible apply lm_extT); (· (first | omega | (simp only [numsD_len, List.length_map, List.length_append, List.length_cons, List.length_nil]; omega))); (· (first | rfl | assumption)))
  | ((with_reducible apply rb_); (· omega); (· omega); (· omega); (· omega))
  | ((with_reducible apply br_et); (· (first | assumption | rfl)))
  | ((with_reducible apply br_ef); (· (first | assumption | (intro h; simp only [D.tup.injEq, List.cons.injEq, D.str.injEq, D.int.injEq, reduceCtorEq, false_and, and_false] at h; done))))
  | (with_reducible refine br_e (fun h => ?_) (fun h => ?_))
  | ((with_reducible apply wlis_nil); (· rfl); (· (first | exact Nat.le_refl _ | omega)))
  | ((with_reducible apply wcis_nil); (· rfl); (· (first | exact Nat.le_refl _ | omega)))
  | ((with_reducible apply wlis_cons); (· rfl); (· rfl); (· (first | rfl | assumption | exact nl_tup (by assumption) | (with_reducible apply nl_tup; ((repeat' (first | assumption | with_reducible exact nls_ints _ | with_reducible exact nls_strs _ | with_reducible exact pD_nls _ | with_reducible rfl | with_reducible apply nls_cons | with_reducible apply nls_app | with_reducible exact nls_nil | with_reducible apply nl_tup | with_reducible exact nl_int | with_reducible exact nl_str)); done)))))
  | ((with_reducible apply wcis_cons); (· rfl); (· rfl); (· (first | rfl | assumption | exact nl_tup (by assumption) | (with_reducible apply nl_tup; ((repeat' (first | assumption | with_reducible exact nls_ints _ | with_reducible exact nls_strs _ | with_reducible exact pD_nls _ | with_reducible rfl | with_reducible apply nls_cons | with_reducible apply nls_app | with_reducible exact nls_nil | with_reducible apply nl_tup | with_reducible exact nl_int | with_reducible exact nl_str)); done)))))
  | ((with_reducible apply sa_lst); (· rfl))
  | ((with_reducible apply sa_dic); (· rfl); (· (first | rfl | assumption | exact nl_tup (by assumption) | (with_reducible apply nl_tup; ((repeat' (first | assumption | with_reducible exact nls_ints _ | with_reducible exact nls_strs _ | with_reducible exact pD_nls _ | with_reducible rfl | with_reducible apply nls_cons | with_reducible apply nls_app | with_reducible exact nls_nil | with_reducible apply nl_tup | with_reducible exact nl_int | with_reducible exact nl_str)); done)))))
  | ((with_reducible apply ky_i))
  | ((with_reducible apply ky_s))
  | ((with_reducible apply dn_); (· rfl))
  | ((with_reducible apply fv_nx))
  | ((with_reducible apply fv_rt))
  | ((with_reducible apply wc_consA))
  | ((with_reducible apply wl_consA))
  | ((with_reducible apply wi_enum))
  | (with_reducible refine br_empM (fun h => ?_) (fun h => ?_))
  | (with_reducible refine br_emp (fun h => ?_) (fun h => ?_))
  | (with_reducible refine br_ (fun h => ?_) (fun h => ?_))
  | (with_reducible assumption)
  | (with_reducible rfl)
  | fail)
local macro_rules | `(tactic| decreasing_trivial_pre_omega) => `(tactic| ((with_reducible apply g_wo); first
  | ((with_reducible apply wo_ixZ); (· omega); (· assumption))
  | ((with_reducible apply wo_getN); (· assumption))
  | ((with_reducible apply wo_getZ); (· omega); (· assumption))
  | ((with_reducible apply wo_get1))
  | ((with_reducible apply wo_get2))
  | ((with_reducible apply wo_get3))
  | ((with_reducible apply wo_ixTa))
  | ((with_reducible apply wo_ixTb))
  | ((with_reducible apply wo_ixTc))
  | ((with_reducible apply wo_get0))
  | ((with_reducible apply wo_min2))
  | ((with_reducible apply wo_max2))
  | ((with_reducible apply wo_sumL))
  | ((with_reducible apply wo_addI))
  | ((with_reducible apply wo_subI))
  | ((with_reducible apply wo_andI))
  | ((with_reducible apply wo_ltI))
  | ((with_reducible apply wo_leI))
  | ((with_reducible apply wo_gtI))
  | ((with_reducible apply wo_gtXI))
  | ((with_reducible apply wo_geI))
  | ((with_reducible apply wo_eqI))
  | ((with_reducible apply wo_eqS))
  | ((with_reducible apply wo_neI))
  | ((with_reducible apply wo_neS))
  | ((with_reducible apply wo_negI))
  | ((with_reducible apply wo_lenT))
  | ((with_reducible apply wo_lenL))
  | ((with_reducible apply wo_lenXT))
  | ((with_reducible apply wo_lenXL))
  | ((with_reducible apply wo_lenXD))
  | ((with_reducible apply wo_lenXF))
  | ((with_reducible apply wo_intI))
  | ((with_reducible apply wo_notB))
  | ((with_reducible apply wo_maxL); (· (first | omega | assumption | (rw [List.length_map]; omega))))
  | ((with_reducible apply wo_lenS); (· (first | assumption | omega)))
  | ((with_reducible apply wo_lenXS); (· (first | assumption | omega)))
  | ((with_reducible apply wo_addS); (· (first | assumption | omega)))
  | ((with_reducible apply wo_slS); (· (first | assumption | omega)))
  | ((with_reducible apply wo_revT); (· (first | rfl | assumption)))
  | ((with_reducible apply wo_revLs); (· (first | rfl | assumption)))
  | ((with_reducible apply wo_mulXI); (· (first | exact cMul_r (by decide) | exact cMul_l (by decide) | exact cMul_r (decide_eq_true ⟨by omega, by omega⟩) | exact cMul_l (decide_eq_true ⟨by omega, by omega⟩))))
  | ((with_reducible apply wo_mul); (· (first | exact cMul_r (by decide) | exact cMul_l (by decide))))
  | ((with_reducible apply wo_addT); (· (first | omega | (simp only [List.length_append, List.length_map, List.length_cons, List.length_nil]; omega))); (· (first | rfl | assumption | with_reducible exact nls_ints _ | with_reducible exact nls_strs _ | with_reducible exact pD_nls _ | ((repeat' (first | assumption | with_reducible exact nls_ints _ | with_reducible exact nls_strs _ | with_reducible exact pD_nls _ | with_reducible rfl | with_reducible apply nls_cons | with_reducible apply nls_app | with_reducible exact nls_nil | with_reducible apply nl_tup | with_reducible exact nl_int | with_reducible exact nl_str)); done))); (· (first | rfl | assumption | with_reducible exact nls_ints _ | with_reducible exact nls_strs _ | with_reducible exact pD_nls _ | ((repeat' (first | assumption | with_reducible exact nls_ints _ | with_reducible exact nls_strs _ | with_reducible exact pD_nls _ | with_reducible rfl | with_reducible apply nls_cons | with_reducible apply nls_app | with_reducible exact nls_nil | with_reducible apply nl_tup | with_reducible exact nl_int | with_reducible exact nl_str)); done))))
  | ((with_reducible apply wo_addL); (· (first | omega | (simp only [List.length_append, List.length_map, List.length_cons, List.length_nil]; omega))); (· (first | rfl | assumption | with_reducible exact nls_ints _ | with_reducible exact nls_strs _ | with_reducible exact pD_nls _ | ((repeat' (first | assumption | with_reducible exact nls_ints _ | with_reducible exact nls_strs _ | with_reducible exact pD_nls _ | with_reducible rfl | with_reducible apply nls_cons | with_reducible apply nls_app | with_reducible exact nls_nil | with_reducible apply nl_tup | with_reducible exact nl_int | with_reducible exact nl_str)); done))); (· (first | rfl | assumption | with_reducible exact nls_ints _ | with_reducible exact nls_strs _ | with_reducible exact pD_nls _ | ((repeat' (first | assumption | with_reducible exact nls_ints _ | with_reducible exact nls_strs _ | with_reducible exact pD_nls _ | with_reducible rfl | with_reducible apply nls_cons | with_reducible apply nls_app | with_reducible exact nls_nil | with_reducible apply nl_tup | with_reducible exact nl_int | with_reducible exact nl_str)); done))))
  | ((with_reducible apply wo_mod); (· (first | decide | omega | assumption)))
  | ((with_reducible apply wo_fdiv); (· (first | assumption | decide | omega)); (· (first | assumption | decide | omega)))
  | ((with_reducible apply wo_fdivN); (· (first | assumption | decide | omega)); (· (first | assumption | decide | omega)))
  | ((with_reducible apply wo_divmod); (· (first | assumption | decide | omega)); (· (first | assumption | decide | omega)))
  | ((with_reducible apply wo_shl); (· decide))
  | ((with_reducible apply wo_pow); (· decide))
  | ((with_reducible apply wo_toTupL); (· (first | rfl | assumption | with_reducible exact nls_ints _ | with_reducible exact nls_strs _ | with_reducible exact pD_nls _ | ((repeat' (first | assumption | with_reducible exact nls_ints _ | with_reducible exact nls_strs _ | with_reducible exact pD_nls _ | with_reducible rfl | with_reducible apply nls_cons | with_reducible apply nls_app | with_reducible exact nls_nil | with_reducible apply nl_tup | with_reducible exact nl_int | with_reducible exact nl_str)); done))))
  | ((with_reducible apply wo_toTupT); (· (first | rfl | assumption | with_reducible exact nls_ints _ | with_reducible exact nls_strs _ | with_reducible exact pD_nls _ | ((repeat' (first | assumption | with_reducible exact nls_ints _ | with_reducible exact nls_strs _ | with_reducible exact pD_nls _ | with_reducible rfl | with_reducible apply nls_cons | with_reducible apply nls_app | with_reducible exact nls_nil | with_reducible apply nl_tup | with_reducible exact nl_int | with_reducible exact nl_str)); done))))
  | ((with_reducible apply wo_toLstL); (· (first | rfl | assumption | with_reducible exact nls_ints _ | with_reducible exact nls_strs _ | with_reducible exact pD_nls _ | ((repeat' (first | assumption | with_reducible exact nls_ints _ | with_reducible exact nls_strs _ | with_reducible exact pD_nls _ | with_reducible rfl | with_reducible apply nls_cons | with_reducible apply nls_app | with_reducible exact nls_nil | with_reducible apply nl_tup | with_reducible exact nl_int | with_reducible exact nl_str)); done))))
  | ((with_reducible apply wo_toLstT); (· (first | rfl | assumption | with_reducible exact nls_ints _ | with_reducible exact nls_strs _ | with_reducible exact pD_nls _ | ((repeat' (first | assumption | with_reducible exact nls_ints _ | with_reducible exact nls_strs _ | with_reducible exact pD_nls _ | with_reducible rfl | with_reducible apply nls_cons | with_reducible apply nls_app | with_reducible exact nls_nil | with_reducible apply nl_tup | with_reducible exact nl_int | with_reducible exact nl_str)); done))))
  | ((with_reducible refine wo_ixI ?ha ?h0 ?h1 (fun x hx => ?q)); (case ha => rfl); (case h0 => omega); (case h1 => first | omega | (simp only [List.length_cons, List.length_nil]; omega)); (try simp only [List.mem_cons, D.int.injEq, List.not_mem_nil, or_false] at hx))
  | ((with_reducible refine wo_ixS ?ha ?h0 ?h1 (fun x hx => ?q)); (case ha => first | rfl | assumption); (case h0 => omega); (case h1 => first | omega | (simp only [List.length_cons, List.length_nil]; omega)))
  | ((with_reducible apply (wo_ (o := slD (.tup _) _ _))); (· rfl))
  | ((with_reducible apply (wo_ (o := eqD _ _))); (· rfl))
  | ((with_reducible apply (wo_ (o := neD _ _))); (· rfl))
  | ((with_reducible apply (wo_ (o := isND _ _))); (· rfl))
  | ((with_reducible apply (wo_ (o := notND _ _))); (· rfl))
  | ((with_reducible apply (wo_ (o := getD _ _))); (· rfl))
  | ((with_reducible apply (wo_ (o := ixD _ _))); (· rfl))
  | ((with_reducible apply (wo_ (o := isiD _ _))); (· rfl))
  | ((with_reducible apply (wo_ (o := lenD _))); (· rfl))
  | ((with_reducible apply (wo_ (o := lenX _))); (· rfl))
  | ((with_reducible apply (wo_ (o := notD _))); (· rfl))
  | ((with_reducible apply (wo_ (o := notT _))); (· rfl))
  | ((with_reducible apply (wo_ (o := toInt _))); (· rfl))
  | ((with_reducible apply (wo_ (o := absD _))); (· rfl))
  | ((with_reducible apply (wo_ (o := splitD _ _))); (· rfl))
  | ((with_reducible apply (wo_ (o := negD _))); (· rfl))
  | ((with_reducible apply (wo_ (o := inD _ _))); (· rfl))
  | ((with_reducible apply (wo_ (o := notInD _ _))); (· rfl))
  | ((with_reducible apply wo_allL))
  | ((with_reducible apply wo_anyL))
  | ((with_reducible apply wo_tabIn))
  | ((with_reducible apply wo_tabNotIn))
  | ((with_reducible apply wo_tabGet); (· rfl))
  | ((with_reducible refine wo_ixMI ?h0 ?h1 (fun i hi => ?q)); (case h0 => first | omega | (simp only [List.length_map] at *; omega)); (case h1 => first | omega | (simp only [List.length_map] at *; omega)))
  | ((with_reducible apply wo_eqSm); (· (first | assumption | rfl | with_reducible exact smB_cutP _ _ _ | with_reducible exact pD_sm _)); (· (first | assumption | rfl | with_reducible exact smB_cutP _ _ _ | with_reducible exact pD_sm _)))
  | ((with_reducible apply wo_neSm); (· (first | assumption | rfl | with_reducible exact smB_cutP _ _ _ | with_reducible exact pD_sm _)); (· (first | assumption | rfl | with_reducible exact smB_cutP _ _ _ | with_reducible exact pD_sm _)))
  | fail))
local macro_rules | `(tactic| decreasing_trivial_pre_omega) => `(tactic| ((with_reducible apply g_wp); first
  | ((with_reducible apply wp_bin))
  | ((with_reducible apply wp_c))
  | ((with_reducible apply wp_b))
  | ((with_reducible apply wp_un))
  | ((with_reducible apply wp_tup))
  | ((with_reducible apply wp_sl))
  | ((with_reducible apply wp_var); (· rfl))
  | fail))
local macro_rules | `(tactic| decreasing_trivial_pre_omega) => `(tactic| ((with_reducible apply g_wt); first
  | ((with_reducible apply wt_asT))
  | ((with_reducible apply wt_tru))
  | ((with_reducible apply wt_truP))
  | ((with_reducible apply wt_and))
  | ((with_reducible apply wt_or))
  | ((with_reducible apply wt_not))
  | ((with_reducible apply wt_yes))
  | fail))
local macro_rules | `(tactic| decreasing_trivial_pre_omega) => `(tactic| ((with_reducible apply g_we); first
  | ((with_reducible apply we_own))
  | ((with_reducible apply we_pure))
  | ((with_reducible apply we_tup))
  | ((with_reducible apply we_lst))
  | ((with_reducible apply we_b))
  | ((with_reducible apply we_bin))
  | ((with_reducible apply we_binP))
  | ((with_reducible apply we_un))
  | ((with_reducible apply we_dict0))
  | ((with_reducible apply we_if))
  | ((with_reducible apply we_and))
  | ((with_reducible apply we_or))
  | ((with_reducible apply we_inF))
  | ((with_reducible apply we_inT))
  | ((with_reducible apply we_inAny))
  | ((with_reducible apply we_chain))
  | ((with_reducible apply we_sm))
  | ((with_reducible apply we_slN))
  | ((with_reducible apply we_sl))
  | ((with_reducible apply we_rev))
  | ((with_reducible apply we_lc))
  | ((with_reducible apply we_take); (· rfl); (· (first | rfl | assumption | exact nl_tup (by assumption) | (with_reducible apply nl_tup; ((repeat' (first | assumption | with_reducible exact nls_ints _ | with_reducible exact nls_strs _ | with_reducible exact pD_nls _ | with_reducible rfl | with_reducible apply nls_cons | with_reducible apply nls_app | with_reducible exact nls_nil | with_reducible apply nl_tup | with_reducible exact nl_int | with_reducible exact nl_str)); done)))))
  | ((with_reducible apply we_takeL); (· rfl); (· rfl))
  | ((with_reducible apply we_ixN); (· rfl))
  | ((with_reducible apply we_append); (· rfl))
  | ((with_reducible apply we_lmut); (· rfl))
  | (with_reducible refine we_call ?_ (by decide))
  | ((with_reducible apply we_lmutI); (· rfl))
  | ((with_reducible apply we_slM))
  | ((with_reducible apply we_rgL1))
  | ((with_reducible apply we_rgT1))
  | ((with_reducible apply we_rgL2))
  | ((with_reducible apply we_lcWt); (· rfl); (· (first | rfl | assumption | with_reducible exact nls_ints _ | with_reducible exact nls_strs _ | with_reducible exact pD_nls _ | ((repeat' (first | assumption | with_reducible exact nls_ints _ | with_reducible exact nls_strs _ | with_reducible exact pD_nls _ | with_reducible rfl | with_reducible apply nls_cons | with_reducible apply nls_app | with_reducible exact nls_nil | with_reducible apply nl_tup | with_reducible exact nl_int | with_reducible exact nl_str)); done))); (· (first | omega | assumption | (simp only [List.length_map, List.length_append, List.length_cons, List.length_nil]; omega))))
  | ((with_reducible apply we_lcWl); (· rfl); (· (first | rfl | assumption | with_reducible exact nls_ints _ | with_reducible exact nls_strs _ | with_reducible exact pD_nls _ | ((repeat' (first | assumption | with_reducible exact nls_ints _ | with_reducible exact nls_strs _ | with_reducible exact pD_nls _ | with_reducible rfl | with_reducible apply nls_cons | with_reducible apply nls_app | with_reducible exact nls_nil | with_reducible apply nl_tup | with_reducible exact nl_int | with_reducible exact nl_str)); done))); (· (first | omega | assumption | (simp only [List.length_map, List.length_append, List.length_cons, List.length_nil]; omega))))
  | ((with_reducible apply we_lcWf); (· rfl); (· (first | rfl | assumption | with_reducible exact nls_ints _ | with_reducible exact nls_strs _ | with_reducible exact pD_nls _ | ((repeat' (first | assumption | with_reducible exact nls_ints _ | with_reducible exact nls_strs _ | with_reducible exact pD_nls _ | with_reducible rfl | with_reducible apply nls_cons | with_reducible apply nls_app | with_reducible exact nls_nil | with_reducible apply nl_tup | with_reducible exact nl_int | with_reducible exact nl_str)); done))); (· (first | omega | assumption | (simp only [List.length_map, List.length_append, List.length_cons, List.length_nil]; omega))))
  | fail))
local macro_rules | `(tactic| decreasing_trivial_pre_omega) => `(tactic| ((with_reducible apply g_ws); first
  | ((with_reducible apply ws_seq))
  | ((with_reducible apply ws_set))
  | ((with_reducible apply ws_ret))
  | ((with_reducible apply ws_retN))
  | ((with_reducible apply ws_if))
  | ((with_reducible apply ws_expr))
  | ((with_reducible apply ws_nil))
  | ((with_reducible apply ws_break))
  | ((with_reducible apply ws_cont))
  | ((with_reducible apply ws_setAny))
  | ((with_reducible apply ws_par))
  | ((with_reducible apply ws_asg))
  | ((with_reducible apply ws_for))
  | ((with_reducible apply ws_forS); (· rfl))
  | ((with_reducible apply ws_forBt); (· rfl); (· (first | rfl | assumption | with_reducible exact nls_ints _ | with_reducible exact nls_strs _ | with_reducible exact pD_nls _ | ((repeat' (first | assumption | with_reducible exact nls_ints _ | with_reducible exact nls_strs _ | with_reducible exact pD_nls _ | with_reducible rfl | with_reducible apply nls_cons | with_reducible apply nls_app | with_reducible exact nls_nil | with_reducible apply nl_tup | with_reducible exact nl_int | with_reducible exact nl_str)); done))))
  | ((with_reducible apply ws_forBl); (· rfl); (· (first | rfl | assumption | with_reducible exact nls_ints _ | with_reducible exact nls_strs _ | with_reducible exact pD_nls _ | ((repeat' (first | assumption | with_reducible exact nls_ints _ | with_reducible exact nls_strs _ | with_reducible exact pD_nls _ | with_reducible rfl | with_reducible apply nls_cons | with_reducible apply nls_app | with_reducible exact nls_nil | with_reducible apply nl_tup | with_reducible exact nl_int | with_reducible exact nl_str)); done))))
  | ((with_reducible apply ws_forBs); (· rfl))
  | ((with_reducible apply ws_forBf); (· rfl); (· (first | rfl | assumption | with_reducible exact nls_ints _ | with_reducible exact nls_strs _ | with_reducible exact pD_nls _ | ((repeat' (first | assumption | with_reducible exact nls_ints _ | with_reducible exact nls_strs _ | with_reducible exact pD_nls _ | with_reducible rfl | with_reducible apply nls_cons | with_reducible apply nls_app | with_reducible exact nls_nil | with_reducible apply nl_tup | with_reducible exact nl_int | with_reducible exact nl_str)); done))))
  | ((with_reducible apply ws_fz); (· rfl))
  | ((with_reducible apply ws_augIx))
  | ((with_reducible apply ws_aug))
  | fail))
set_option hygiene true
theorem w_digit {L : List D} {n : Int} {Q : D → List D → Prop} (v : VD L) (h : 0 < n) (h2 : n < 1073741824) (q : ∀ r L', VD L' → 0 ≤ r → r < n → Q (.int r) [.lst L', .int n]) : WF m__law_draw_digit [.lst L, .int n] Q := by
  refine Bv.unbox ?_
  simp (disch := (
    refine Bv.idP ?_
    with_unfolding_all (
  obtain ⟨cells, i, hi, seed, cnt, rfl, v1, v2⟩ := v
  refine wf_mk ?_
  (repeat' decreasing_trivial_pre_omega)
  exact q _ _ ⟨cells, i, _, seed, cnt, rfl, v1, Int.ediv_nonneg v2 (by omega)⟩ (Int.emod_nonneg _ (by omega)) (Int.emod_lt_of_pos _ h)))) only [↓Bv.boxT]
theorem w_mixed {L : List D} {c : Int} {Q : D → List D → Prop} (v : VD L) (q : ∀ r L', VD L' → Q (.int r) [.lst L', .int c]) : WF m__law_mixed [.lst L, .int c] Q := by
  refine Bv.unbox ?_
  simp (disch := (
    refine Bv.idP ?_
    with_unfolding_all (
  obtain ⟨cells, i, hi, seed, cnt, rfl, v1, v2⟩ := v
  refine wf_mk ?_
  (repeat' decreasing_trivial_pre_omega)
  exact q _ _ ⟨cells, i, hi, _, _, rfl, v1, v2⟩))) only [↓Bv.boxT]
theorem w_draw {L : List D} {n : Int} {Q : D → List D → Prop} (v : VD L) (h : 0 < n) (h2 : n < 1073741824) (q : ∀ r L', VD L' → 0 ≤ r → r < n → Q (.int r) [.lst L', .int n]) : WF m__law_draw [.lst L, .int n] Q := by
  refine Bv.unbox ?_
  simp (disch := (
    refine Bv.idP ?_
    with_unfolding_all (
  obtain ⟨cells, i, hi, seed, cnt, rfl, v1, v2⟩ := v
  refine wf_mk ?_
  (repeat' (first | ((with_reducible apply w_digit); (· (first | assumption | exact ⟨_, _, _, _, _, rfl, by omega, by first | omega | exact hi_nn _⟩)); (· (first | omega | (simp only [List.length_cons, List.length_nil, List.length_map, List.length_append]; omega))); (· (first | omega | (simp only [List.length_cons, List.length_nil, List.length_map, List.length_append]; omega))); intro r L' v hr1 hr2) | ((with_reducible apply w_mixed); (· (first | assumption | exact ⟨_, _, _, _, _, rfl, by omega, by first | omega | exact hi_nn _⟩)); intro r L' v) | decreasing_trivial_pre_omega))
  · exact q _ _ v hr1 hr2
  · obtain ⟨c, e⟩ := cells_at v1 h
    refine wo_getL e ?_
    (repeat' (first | ((with_reducible apply w_digit); (· (first | assumption | exact ⟨_, _, _, _, _, rfl, by omega, by first | omega | exact hi_nn _⟩)); (· (first | omega | (simp only [List.length_cons, List.length_nil, List.length_map, List.length_append]; omega))); (· (first | omega | (simp only [List.length_cons, List.length_nil, List.length_map, List.length_append]; omega))); intro r L' v hr1 hr2) | ((with_reducible apply w_mixed); (· (first | assumption | exact ⟨_, _, _, _, _, rfl, by omega, by first | omega | exact hi_nn _⟩)); intro r L' v) | decreasing_trivial_pre_omega))
    · exact q _ _ v hr1 hr2
    · exact q _ _ v (Int.emod_nonneg _ (by omega)) (Int.emod_lt_of_pos _ (by omega))
  · exact q _ _ v (Int.emod_nonneg _ (by omega)) (Int.emod_lt_of_pos _ (by omega))))) only [↓Bv.boxT]
theorem w_begin {ns : List Int} {Q : D → List D → Prop} (hl : ns.length ≤ 63) (q : ∀ L, VD L → Q (.lst L) [.frz (ns.map D.int)]) : WF m__law_begin [.frz (ns.map D.int)] Q := by
  refine Bv.unbox ?_
  simp (disch := (
    refine Bv.idP ?_
    with_unfolding_all (
  refine wf_mk ?_
  (repeat' decreasing_trivial_pre_omega)
  refine wc_map (fun d => d) (fun d m => ?_) ?_
  · obtain ⟨c, _, rfl⟩ := List.mem_map.mp m
    (repeat' decreasing_trivial_pre_omega)
    refine ⟨rfl, ?_⟩
    (repeat' decreasing_trivial_pre_omega)
  · rw [List.map_id']
    (repeat' decreasing_trivial_pre_omega)
    exact q _ ⟨ns, 0, 0, _, _, rfl, by decide, by decide⟩))) only [↓Bv.boxT]
theorem w_pick {L ds : List D} {Q : D → List D → Prop} (v : VD L) (hn : noLists ds = true) (h1 : 0 < ds.length) (h2 : ds.length < 1000000) (q : ∀ d L', VD L' → d ∈ ds → noList d = true → Q d [.lst L', .lst ds]) : WF m__law_pick [.lst L, .lst ds] Q := by
  refine Bv.unbox ?_
  simp (disch := (
    refine Bv.idP ?_
    with_unfolding_all (
  refine wf_mk ?_
  (repeat' (first | ((with_reducible apply w_draw); (· (first | assumption | exact ⟨_, _, _, _, _, rfl, by omega, by first | omega | exact hi_nn _⟩)); (· (first | omega | (simp only [List.length_cons, List.length_nil, List.length_map, List.length_append]; omega))); (· (first | omega | (simp only [List.length_cons, List.length_nil, List.length_map, List.length_append]; omega))); intro r L' v hr1 hr2) | decreasing_trivial_pre_omega))
  refine wo_ixM hr1 hr2 fun d _ md => ?_
  have hd := nls_mem hn md
  (repeat' decreasing_trivial_pre_omega)
  exact q _ _ v md hd))) only [↓Bv.boxT]
theorem w_rate {L : List D} {m : Int} {Q : D → List D → Prop} (v : VD L) (h1 : 1 ≤ m) (h2 : m ≤ 12) (q : ∀ d L', VD L' → RL d → Q d [.lst L', .int m]) : WF m__law_rate [.lst L, .int m] Q := by
  refine Bv.unbox ?_
  simp (disch := (
    refine Bv.idP ?_
    with_unfolding_all (
  refine wf_mk ?_
  (repeat' (first | ((with_reducible apply w_draw); (· (first | assumption | exact ⟨_, _, _, _, _, rfl, by omega, by first | omega | exact hi_nn _⟩)); (· (first | omega | (simp only [List.length_cons, List.length_nil, List.length_map, List.length_append]; omega))); (· (first | omega | (simp only [List.length_cons, List.length_nil, List.length_map, List.length_append]; omega))); intro r L' v hr1 hr2) | ((with_reducible apply w_pick); (· (first | assumption | exact ⟨_, _, _, _, _, rfl, by omega, by first | omega | exact hi_nn _⟩)); (· assumption); (· (first | omega | (simp only [List.length_cons, List.length_nil, List.length_map, List.length_append]; omega))); (· (first | omega | (simp only [List.length_cons, List.length_nil, List.length_map, List.length_append]; omega))); intro d L' v md hd) | decreasing_trivial_pre_omega))
  refine wo_ixM hr1 hr2 fun d _ md => ?_
  have hd : noList d = true := by
    simp at md
    rcases md with rfl | rfl | rfl | rfl <;> rfl
  (repeat' (first | ((with_reducible apply w_draw); (· (first | assumption | exact ⟨_, _, _, _, _, rfl, by omega, by first | omega | exact hi_nn _⟩)); (· (first | omega | (simp only [List.length_cons, List.length_nil, List.length_map, List.length_append]; omega))); (· (first | omega | (simp only [List.length_cons, List.length_nil, List.length_map, List.length_append]; omega))); intro r L' v hr1 hr2) | ((with_reducible apply w_pick); (· (first | assumption | exact ⟨_, _, _, _, _, rfl, by omega, by first | omega | exact hi_nn _⟩)); (· assumption); (· (first | omega | (simp only [List.length_cons, List.length_nil, List.length_map, List.length_append]; omega))); (· (first | omega | (simp only [List.length_cons, List.length_nil, List.length_map, List.length_append]; omega))); intro d L' v md hd) | decreasing_trivial_pre_omega))
  exact q _ _ v ⟨_, _, _, rfl, by omega, by omega, by omega, hd⟩))) only [↓Bv.boxT]
theorem w_is_layer {L : List D} {Q : D → List D → Prop} (v : VD L) (q : ∀ d L', VD L' → IL d → Q d [.lst L']) : WF m__law_is_layer [.lst L] Q := by
  refine Bv.unbox ?_
  simp (disch := (
    refine Bv.idP ?_
    with_unfolding_all (
  refine wf_mk ?_
  (repeat' (first | ((with_reducible apply w_draw); (· (first | assumption | exact ⟨_, _, _, _, _, rfl, by omega, by first | omega | exact hi_nn _⟩)); (· (first | omega | (simp only [List.length_cons, List.length_nil, List.length_map, List.length_append]; omega))); (· (first | omega | (simp only [List.length_cons, List.length_nil, List.length_map, List.length_append]; omega))); intro r L' v hr1 hr2) | ((with_reducible apply w_pick); (· (first | assumption | exact ⟨_, _, _, _, _, rfl, by omega, by first | omega | exact hi_nn _⟩)); (· assumption); (· (first | omega | (simp only [List.length_cons, List.length_nil, List.length_map, List.length_append]; omega))); (· (first | omega | (simp only [List.length_cons, List.length_nil, List.length_map, List.length_append]; omega))); intro d L' v md hd) | decreasing_trivial_pre_omega))
  all_goals
    have hs : strB x = true := by
      simp only [List.mem_cons, List.not_mem_nil, or_false, D.str.injEq] at hx
      rcases hx with rfl | rfl | rfl | rfl | rfl <;> decide +kernel
    first
      | exact q _ _ v ⟨_, _, rfl, hs, rfl, rfl⟩
      | exact q _ _ v ⟨_, _, rfl, hs, rfl, by decide +kernel⟩))) only [↓Bv.boxT]
theorem w_beat_clock {L : List D} {Q : D → List D → Prop} (v : VD L) (q : ∀ ds L', VD L' → Lay ds → ds.length ≤ 6 → Q (.tup ds) [.lst L']) : WF m__law_beat_clock [.lst L] Q := by
  refine Bv.unbox ?_
  simp (disch := (
    refine Bv.idP ?_
    with_unfolding_all (
  refine wf_mk ?_
  (repeat' (first | ((with_reducible apply w_draw); (· (first | assumption | exact ⟨_, _, _, _, _, rfl, by omega, by first | omega | exact hi_nn _⟩)); (· (first | omega | (simp only [List.length_cons, List.length_nil, List.length_map, List.length_append]; omega))); (· (first | omega | (simp only [List.length_cons, List.length_nil, List.length_map, List.length_append]; omega))); intro r L' v hr1 hr2) | ((with_reducible apply w_pick); (· (first | assumption | exact ⟨_, _, _, _, _, rfl, by omega, by first | omega | exact hi_nn _⟩)); (· assumption); (· (first | omega | (simp only [List.length_cons, List.length_nil, List.length_map, List.length_append]; omega))); (· (first | omega | (simp only [List.length_cons, List.length_nil, List.length_map, List.length_append]; omega))); intro d L' v md hd) | ((with_reducible apply w_rate); (· (first | assumption | exact ⟨_, _, _, _, _, rfl, by omega, by first | omega | exact hi_nn _⟩)); (· (first | omega | (simp only [List.length_cons, List.length_nil, List.length_map, List.length_append]; omega))); (· (first | omega | (simp only [List.length_cons, List.length_nil, List.length_map, List.length_append]; omega))); intro d L' v hd) | ((with_reducible apply w_is_layer); (· (first | assumption | exact ⟨_, _, _, _, _, rfl, by omega, by first | omega | exact hi_nn _⟩)); intro d L' v hd) | decreasing_trivial_pre_omega))
  refine wc_inv (fun k ys ρ => ∃ (L : List D), ρ = [some (.lst L), none, none] ∧ VD L ∧ Lay ys ∧ ys.length = k) ⟨_, rfl, by assumption, fun d m => (by cases m), rfl⟩ ?_ ?_
  · rintro k ys d ρ hk ⟨L, rfl, v, hy, hyl⟩
    (repeat' (first | ((with_reducible apply w_draw); (· (first | assumption | exact ⟨_, _, _, _, _, rfl, by omega, by first | omega | exact hi_nn _⟩)); (· (first | omega | (simp only [List.length_cons, List.length_nil, List.length_map, List.length_append]; omega))); (· (first | omega | (simp only [List.length_cons, List.length_nil, List.length_map, List.length_append]; omega))); intro r L' v hr1 hr2) | ((with_reducible apply w_pick); (· (first | assumption | exact ⟨_, _, _, _, _, rfl, by omega, by first | omega | exact hi_nn _⟩)); (· assumption); (· (first | omega | (simp only [List.length_cons, List.length_nil, List.length_map, List.length_append]; omega))); (· (first | omega | (simp only [List.length_cons, List.length_nil, List.length_map, List.length_append]; omega))); intro d L' v md hd) | ((with_reducible apply w_rate); (· (first | assumption | exact ⟨_, _, _, _, _, rfl, by omega, by first | omega | exact hi_nn _⟩)); (· (first | omega | (simp only [List.length_cons, List.length_nil, List.length_map, List.length_append]; omega))); (· (first | omega | (simp only [List.length_cons, List.length_nil, List.length_map, List.length_append]; omega))); intro d L' v hd) | ((with_reducible apply w_is_layer); (· (first | assumption | exact ⟨_, _, _, _, _, rfl, by omega, by first | omega | exact hi_nn _⟩)); intro d L' v hd) | decreasing_trivial_pre_omega))
    exact ⟨_, rfl, v, fun e me => (List.mem_append.mp me).elim (hy e) fun me => .inl (by rw [List.mem_singleton.mp me]; exact hd), by rw [List.length_append, hyl]; rfl⟩
  · rintro ys ρ ⟨L, rfl, v, hy, hyl⟩
    rw [numsD_len] at hyl
    have hyn := hy.nls
    (repeat' (first | ((with_reducible apply w_draw); (· (first | assumption | exact ⟨_, _, _, _, _, rfl, by omega, by first | omega | exact hi_nn _⟩)); (· (first | omega | (simp only [List.length_cons, List.length_nil, List.length_map, List.length_append]; omega))); (· (first | omega | (simp only [List.length_cons, List.length_nil, List.length_map, List.length_append]; omega))); intro r L' v hr1 hr2) | ((with_reducible apply w_pick); (· (first | assumption | exact ⟨_, _, _, _, _, rfl, by omega, by first | omega | exact hi_nn _⟩)); (· assumption); (· (first | omega | (simp only [List.length_cons, List.length_nil, List.length_map, List.length_append]; omega))); (· (first | omega | (simp only [List.length_cons, List.length_nil, List.length_map, List.length_append]; omega))); intro d L' v md hd) | ((with_reducible apply w_rate); (· (first | assumption | exact ⟨_, _, _, _, _, rfl, by omega, by first | omega | exact hi_nn _⟩)); (· (first | omega | (simp only [List.length_cons, List.length_nil, List.length_map, List.length_append]; omega))); (· (first | omega | (simp only [List.length_cons, List.length_nil, List.length_map, List.length_append]; omega))); intro d L' v hd) | ((with_reducible apply w_is_layer); (· (first | assumption | exact ⟨_, _, _, _, _, rfl, by omega, by first | omega | exact hi_nn _⟩)); intro d L' v hd) | decreasing_trivial_pre_omega))
    all_goals
      refine wl_inv (fun k ρ => ∃ (L ys : List D) (c : Option D), ρ = [some (.lst L), some (.lst ys), c] ∧ VD L ∧ Lay ys ∧ ys.length ≤ 3 + k) ⟨_, _, _, rfl, by assumption, hy, by omega⟩ ?_ ?_
      · rintro k d ρ hk ⟨L, ys, c, rfl, v, hy, hyl⟩
        obtain ⟨hk', rfl⟩ := numsD_at hk
        (repeat' (first | ((with_reducible apply w_draw); (· (first | assumption | exact ⟨_, _, _, _, _, rfl, by omega, by first | omega | exact hi_nn _⟩)); (· (first | omega | (simp only [List.length_cons, List.length_nil, List.length_map, List.length_append]; omega))); (· (first | omega | (simp only [List.length_cons, List.length_nil, List.length_map, List.length_append]; omega))); intro r L' v hr1 hr2) | ((with_reducible apply w_pick); (· (first | assumption | exact ⟨_, _, _, _, _, rfl, by omega, by first | omega | exact hi_nn _⟩)); (· assumption); (· (first | omega | (simp only [List.length_cons, List.length_nil, List.length_map, List.length_append]; omega))); (· (first | omega | (simp only [List.length_cons, List.length_nil, List.length_map, List.length_append]; omega))); intro d L' v md hd) | ((with_reducible apply w_rate); (· (first | assumption | exact ⟨_, _, _, _, _, rfl, by omega, by first | omega | exact hi_nn _⟩)); (· (first | omega | (simp only [List.length_cons, List.length_nil, List.length_map, List.length_append]; omega))); (· (first | omega | (simp only [List.length_cons, List.length_nil, List.length_map, List.length_append]; omega))); intro d L' v hd) | ((with_reducible apply w_is_layer); (· (first | assumption | exact ⟨_, _, _, _, _, rfl, by omega, by first | omega | exact hi_nn _⟩)); intro d L' v hd) | decreasing_trivial_pre_omega))
        refine ⟨_, _, _, rfl, v, fun e me => ?_, ?_⟩
        · rcases List.mem_append.mp me with me | me
          · rcases List.mem_append.mp me with me | me
            · exact hy e (List.mem_of_mem_take me)
            · rw [List.mem_singleton.mp me]; exact .inr hd
          · exact hy e (List.mem_of_mem_drop me)
        · rw [List.length_append, List.length_append, List.length_take, List.length_drop, List.length_singleton]; omega
      · rintro ρ ⟨L, ys, c, rfl, v, hy, hyl⟩
        rw [numsD_len] at hyl
        have hyn := hy.nls
        (repeat' (first | ((with_reducible apply w_draw); (· (first | assumption | exact ⟨_, _, _, _, _, rfl, by omega, by first | omega | exact hi_nn _⟩)); (· (first | omega | (simp only [List.length_cons, List.length_nil, List.length_map, List.length_append]; omega))); (· (first | omega | (simp only [List.length_cons, List.length_nil, List.length_map, List.length_append]; omega))); intro r L' v hr1 hr2) | ((with_reducible apply w_pick); (· (first | assumption | exact ⟨_, _, _, _, _, rfl, by omega, by first | omega | exact hi_nn _⟩)); (· assumption); (· (first | omega | (simp only [List.length_cons, List.length_nil, List.length_map, List.length_append]; omega))); (· (first | omega | (simp only [List.length_cons, List.length_nil, List.length_map, List.length_append]; omega))); intro d L' v md hd) | ((with_reducible apply w_rate); (· (first | assumption | exact ⟨_, _, _, _, _, rfl, by omega, by first | omega | exact hi_nn _⟩)); (· (first | omega | (simp only [List.length_cons, List.length_nil, List.length_map, List.length_append]; omega))); (· (first | omega | (simp only [List.length_cons, List.length_nil, List.length_map, List.length_append]; omega))); intro d L' v hd) | ((with_reducible apply w_is_layer); (· (first | assumption | exact ⟨_, _, _, _, _, rfl, by omega, by first | omega | exact hi_nn _⟩)); intro d L' v hd) | decreasing_trivial_pre_omega))
        exact q _ _ v hy (by omega)))) only [↓Bv.boxT]
end G_k26


namespace G_k26
open PySem PySem.Spec PyProof.Rows L2 Bv Rt
set_option hygiene false
local macro_rules | `(tactic| decreasing_trivial_pre_omega) => `(tactic| first
  | ((with_reducible apply wes_nil))
  | ((with_reducible apply wes_cons))
  | ((with_reducible apply sq_nx))
  | ((with_reducible apply sq_rt))
  | ((with_reducible apply sq_bk))
  | ((with_reducible apply sq_ct))
  | ((with_reducible apply wps_cons))
  | ((with_reducible apply wps_nil))
  | ((with_reducible apply wo3_none))
  | ((with_reducible apply wo3_some))
  | ((with_reducible apply ne_); (· (first | (simp only [List.set_cons_zero, List.set_cons_succ, putBack, wipeE, List.map_cons, List.map_nil, List.length_cons, List.length_nil, List.cons_append, List.nil_append, List.replicate, Nat.reduceSub, Nat.reduceAdd, Nat.reduceLT]; rfl) | rfl)))
  | ((with_reducible apply lq_); (· rfl))
  | ((with_reducible apply nd_); (· (first | rfl | assumption | exact nl_tup (by assumption) | (with_reducible apply nl_tup; ((repeat' (first | assumption | with_reducible exact nls_ints _ | with_reducible exact nls_strs _ | with_reducible exact pD_nls _ | with_reducible rfl | with_reducible apply nls_cons | with_reducible apply nls_app | with_reducible exact nls_nil | with_reducible apply nl_tup | with_reducible exact nl_int | with_reducible exact nl_str)); done)))))
  | ((with_reducible apply lm_insert); (· (first | omega | (simp only [numsD_len, List.length_map, List.length_append, List.length_cons, List.length_nil]; omega))); (· omega); (· omega))
  | ((with_reducible apply wa_nil))
  | ((with_reducible apply wa_val))
  | ((with_reducible apply wr_nil))
  | ((with_reducible apply wr_inl))
  | ((with_reducible apply wa_bor); (· rfl))
  | ((with_reducible apply wr_inr); (· rfl))
  | ((with_reducible apply wc_nil))
  | ((with_reducible apply wl_nil))
  | ((with_reducible apply isb_))
  | ((with_reducible apply isi_))
  | ((with_reducible apply iss_))
  | ((with_reducible apply tr_b))
  | ((with_reducible apply tr_i))
  | ((with_reducible apply tr_n))
  | ((with_reducible apply tr_l))
  | ((with_reducible apply tr_t))
  | ((with_reducible apply br_not))
  | ((with_reducible apply wg_set))
  | ((with_reducible apply wg_tup))
  | ((with_reducible apply wgs_nil))
  | ((with_reducible apply wgs_cons))
  | ((with_reducible apply wi_rng1))
  | ((with_reducible apply wi_rng2))
  | ((with_reducible apply wi_down))
  | ((with_reducible apply wi_seq))
  | ((with_reducible apply lp_nx))
  | ((with_reducible apply lp_ct))
  | ((with_reducible apply lp_bk))
  | ((with_reducible apply lp_rt))
  | ((with_reducible apply fk_rt); (· rfl))
  | ((with_reducible apply fk_nx); (· rfl))
  | ((with_reducible apply fp_rt))
  | ((with_reducible apply fp_nx))
  | ((with_reducible apply sn_); (· rfl))
  | ((with_reducible apply ln_); (· rfl))
  | ((with_reducible apply br_t); (· rfl))
  | ((with_reducible apply br_f); (· rfl))
  | ((with_reducible apply br_dt); (· (first | assumption | decide | omega)))
  | ((with_reducible apply br_df); (· (first | assumption | decide | omega)))
  | (with_reducible refine br_d (fun h => ?_) (fun h => ?_))
  | ((with_reducible apply rg_); (· omega); (· omega))
  | ((with_reducible apply sz_); (· (first | omega | assumption | (simp only [numsD_len, List.length_map, List.length_append, List.length_cons, List.length_nil]; omega))))
  | ((with_reducible apply sz1_); (· (first | omega | assumption | (simp only [numsD_len, List.length_map, List.length_append, List.length_cons, List.length_nil]; omega))))
  | ((with_reducible apply ix_lit); (· rfl))
  | ((with_reducible apply ix_pos); (· omega); (· (first | omega | (simp; omega))))
  | ((with_reducible apply tq_t); (· (first | rfl | assumption | with_reducible exact nls_ints _ | with_reducible exact nls_strs _ | with_reducible exact pD_nls _ | ((repeat' (first | assumption | with_reducible exact nls_ints _ | with_reducible exact nls_strs _ | with_reducible exact pD_nls _ | with_reducible rfl | with_reducible apply nls_cons | with_reducible apply nls_app | with_reducible exact nls_nil | with_reducible apply nl_tup | with_reducible exact nl_int | with_reducible exact nl_str)); done))))
  | ((with_reducible apply tq_l); (· (first | rfl | assumption | with_reducible exact nls_ints _ | with_reducible exact nls_strs _ | with_reducible exact pD_nls _ | ((repeat' (first | assumption | with_reducible exact nls_ints _ | with_reducible exact nls_strs _ | with_reducible exact pD_nls _ | with_reducible rfl | with_reducible apply nls_cons | with_reducible apply nls_app | with_reducible exact nls_nil | with_reducible apply nl_tup | with_reducible exact nl_int | with_reducible exact nl_str)); done))))
  | ((with_reducible apply tq_f); (· (first | rfl | assumption | with_reducible exact nls_ints _ | with_reducible exact nls_strs _ | with_reducible exact pD_nls _ | ((repeat' (first | assumption | with_reducible exact nls_ints _ | with_reducible exact nls_strs _ | with_reducible exact pD_nls _ | with_reducible rfl | with_reducible apply nls_cons | with_reducible apply nls_app | with_reducible exact nls_nil | with_reducible apply nl_tup | with_reducible exact nl_int | with_reducible exact nl_str)); done))))
  | ((with_reducible apply in_SS1); (· rfl))
  | ((with_reducible apply in_ST); (· rfl))
  | ((with_reducible apply in_); (· rfl))
  | ((with_reducible apply lm_append); (· (first | omega | (simp only [numsD_len, List.length_map, List.length_append, List.length_cons, List.length_nil]; omega))))
  | ((with_reducible apply lm_extL); (· (first | omega | (simp only [numsD_len, List.length_map, List.length_append, List.length_cons, List.length_nil]; omega))); (· (first | rfl | assumption)))
  | ((with_reducible apply lm_extT); (· (first | omega | (simp only [numsD_len, List.length_map, List.length_append, List.length_cons, List.length_nil]; omega))); (· (first | rfl | assumption)))
  | ((with_reducible apply rb_); (· omega); (· omega); (· omega); (· omega))
  | ((with_reducible apply br_et); (· (first | assumption | rfl)))
  | ((with_reducible apply br_ef); (· (first | assumption | (intro h; simp only [D.tup.injEq, List.cons.injEq, D.str.injEq, D.int.injEq, reduceCtorEq, false_and, and_false] at h; done))))
  | (with_reducible refine br_e (fun h => ?_) (fun h => ?_))
  | ((with_reducible apply wlis_nil); (· rfl); (· (first | exact Nat.le_refl _ | omega)))
  | ((with_reducible apply wcis_nil); (· rfl); (· (first | exact Nat.le_refl _ | omega)))
  | ((with_reducible apply wlis_cons); (· rfl); (· rfl); (· (first | rfl | assumption | exact nl_tup (by assumption) | (with_reducible apply nl_tup; ((repeat' (first | assumption | with_reducible exact nls_ints _ | with_reducible exact nls_strs _ | with_reducible exact pD_nls _ | with_reducible rfl | with_reducible apply nls_cons | with_reducible apply nls_app | with_reducible exact nls_nil | with_reducible apply nl_tup | with_reducible exact nl_int | with_reducible exact nl_str)); done)))))
  | ((with_reducible apply wcis_cons); (· rfl); (· rfl); (· (first | rfl | assumption | exact nl_tup (by assumption) | (with_reducible apply nl_tup; ((repeat' (first | assumption | with_reducible exact nls_ints _ | with_reducible exact nls_strs _ | with_reducible exact pD_nls _ | with_reducible rfl | with_reducible apply nls_cons | with_reducible apply nls_app | with_reducible exact nls_nil | with_reducible apply nl_tup | with_reducible exact nl_int | with_reducible exact nl_str)); done)))))
  | ((with_reducible apply sa_lst); (· rfl))
  | ((with_reducible apply sa_dic); (· rfl); (· (first | rfl | assumption | exact nl_tup (by assumption) | (with_reducible apply nl_tup; ((repeat' (first | assumption | with_reducible exact nls_ints _ | with_reducible exact nls_strs _ | with_reducible exact pD_nls _ | with_reducible rfl | with_reducible apply nls_cons | with_reducible apply nls_app | with_reducible exact nls_nil | with_reducible apply nl_tup | with_reducible exact nl_int | with_reducible exact nl_str)); done)))))
  | ((with_reducible apply ky_i))
  | ((with_reducible apply ky_s))
  | ((with_reducible apply dn_); (· rfl))
  | ((with_reducible apply fv_nx))
  | ((with_reducible apply fv_rt))
  | ((with_reducible apply wc_consA))
  | ((with_reducible apply wl_consA))
  | ((with_reducible apply wi_enum))
  | (with_reducible refine br_empM (fun h => ?_) (fun h => ?_))
  | (with_reducible refine br_emp (fun h => ?_) (fun h => ?_))
  | (with_reducible refine br_ (fun h => ?_) (fun h => ?_))
  | (with_reducible assumption)
  | (with_reducible rfl)
  | fail)
local macro_rules | `(tactic| decreasing_trivial_pre_omega) => `(tactic| ((with_reducible apply g_wo); first
  | ((with_reducible apply wo_ixZ); (· omega); (· assumption))
  | ((with_reducible apply wo_getN); (· assumption))
  | ((with_reducible apply wo_getZ); (· omega); (· assumption))
  | ((with_reducible apply wo_get1))
  | ((with_reducible apply wo_get2))
  | ((with_reducible apply wo_get3))
  | ((with_reducible apply wo_ixTa))
  | ((with_reducible apply wo_ixTb))
  | ((with_reducible apply wo_ixTc))
  | ((with_reducible apply wo_get0))
  | ((with_reducible apply wo_min2))
  | ((with_reducible apply wo_max2))
  | ((with_reducible apply wo_sumL))
  | ((with_reducible apply wo_addI))
  | ((with_reducible apply wo_subI))
  | ((with_reducible apply wo_andI))
  | ((with_reducible apply wo_ltI))
  | ((with_reducible apply wo_leI))
  | ((with_reducible apply wo_gtI))
  | ((with_reducible apply wo_gtXI))
  | ((with_reducible apply wo_geI))
  | ((with_reducible apply wo_eqI))
  | ((with_reducible apply wo_eqS))
  | ((with_reducible apply wo_neI))
  | ((with_reducible apply wo_neS))
  | ((with_reducible apply wo_negI))
  | ((with_reducible apply wo_lenT))
  | ((with_reducible apply wo_lenL))
  | ((with_reducible apply wo_lenXT))
  | ((with_reducible apply wo_lenXL))
  | ((with_reducible apply wo_lenXD))
  | ((with_reducible apply wo_lenXF))
  | ((with_reducible apply wo_intI))
  | ((with_reducible apply wo_notB))
  | ((with_reducible apply wo_maxL); (· (first | omega | assumption | (rw [List.length_map]; omega))))
  | ((with_reducible apply wo_lenS); (· (first | assumption | omega)))
  | ((with_reducible apply wo_lenXS); (· (first | assumption | omega)))
  | ((with_reducible apply wo_addS); (· (first | assumption | omega)))
  | ((with_reducible apply wo_slS); (· (first | assumption | omega)))
  | ((with_reducible apply wo_revT); (· (first | rfl | assumption)))
  | ((with_reducible apply wo_revLs); (· (first | rfl | assumption)))
  | ((with_reducible apply wo_mulXI); (· (first | exact cMul_r (by decide) | exact cMul_l (by decide) | exact cMul_r (decide_eq_true ⟨by omega, by omega⟩) | exact cMul_l (decide_eq_true ⟨by omega, by omega⟩))))
  | ((with_reducible apply wo_mul); (· (first | exact cMul_r (by decide) | exact cMul_l (by decide))))
  | ((with_reducible apply wo_addT); (· (first | omega | (simp only [List.length_append, List.length_map, List.length_cons, List.length_nil]; omega))); (· (first | rfl | assumption | with_reducible exact nls_ints _ | with_reducible exact nls_strs _ | with_reducible exact pD_nls _ | ((repeat' (first | assumption | with_reducible exact nls_ints _ | with_reducible exact nls_strs _ | with_reducible exact pD_nls _ | with_reducible rfl | with_reducible apply nls_cons | with_reducible apply nls_app | with_reducible exact nls_nil | with_reducible apply nl_tup | with_reducible exact nl_int | with_reducible exact nl_str)); done))); (· (first | rfl | assumption | with_reducible exact nls_ints _ | with_reducible exact nls_strs _ | with_reducible exact pD_nls _ | ((repeat' (first | assumption | with_reducible exact nls_ints _ | with_reducible exact nls_strs _ | with_reducible exact pD_nls _ | with_reducible rfl | with_reducible apply nls_cons | with_reducible apply nls_app | with_reducible exact nls_nil | with_reducible apply nl_tup | with_reducible exact nl_int | with_reducible exact nl_str)); done))))
  | ((with_reducible apply wo_addL); (· (first | omega | (simp only [List.length_append, List.length_map, List.length_cons, List.length_nil]; omega))); (· (first | rfl | assumption | with_reducible exact nls_ints _ | with_reducible exact nls_strs _ | with_reducible exact pD_nls _ | ((repeat' (first | assumption | with_reducible exact nls_ints _ | with_reducible exact nls_strs _ | with_reducible exact pD_nls _ | with_reducible rfl | with_reducible apply nls_cons | with_reducible apply nls_app | with_reducible exact nls_nil | with_reducible apply nl_tup | with_reducible exact nl_int | with_reducible exact nl_str)); done))); (· (first | rfl | assumption | with_reducible exact nls_ints _ | with_reducible exact nls_strs _ | with_reducible exact pD_nls _ | ((repeat' (first | assumption | with_reducible exact nls_ints _ | with_reducible exact nls_strs _ | with_reducible exact pD_nls _ | with_reducible rfl | with_reducible apply nls_cons | with_reducible apply nls_app | with_reducible exact nls_nil | with_reducible apply nl_tup | with_reducible exact nl_int | with_reducible exact nl_str)); done))))
  | ((with_reducible apply wo_mod); (· (first | decide | omega | assumption)))
  | ((with_reducible apply wo_fdiv); (· (first | assumption | decide | omega)); (· (first | assumption | decide | omega)))
  | ((with_reducible apply wo_fdivN); (· (first | assumption | decide | omega)); (· (first | assumption | decide | omega)))
  | ((with_reducible apply wo_divmod); (· (first | assumption | decide | omega)); (· (first | assumption | decide | omega)))
  | ((with_reducible apply wo_shl); (· decide))
  | ((with_reducible apply wo_pow); (· decide))
  | ((with_reducible apply wo_toTupL); (· (first | rfl | assumption | with_reducible exact nls_ints _ | with_reducible exact nls_strs _ | with_reducible exact pD_nls _ | ((repeat' (first | assumption | with_reducible exact nls_ints _ | with_reducible exact nls_strs _ | with_reducible exact pD_nls _ | with_reducible rfl | with_reducible apply nls_cons | with_reducible apply nls_app | with_reducible exact nls_nil | with_reducible apply nl_tup | with_reducible exact nl_int | with_reducible exact nl_str)); done))))
  | ((with_reducible apply wo_toTupT); (· (first | rfl | assumption | with_reducible exact nls_ints _ | with_reducible exact nls_strs _ | with_reducible exact pD_nls _ | ((repeat' (first | assumption | with_reducible exact nls_ints _ | with_reducible exact nls_strs _ | with_reducible exact pD_nls _ | with_reducible rfl | with_reducible apply nls_cons | with_reducible apply nls_app | with_reducible exact nls_nil | with_reducible apply nl_tup | with_reducible exact nl_int | with_reducible exact nl_str)); done))))
  | ((with_reducible apply wo_toLstL); (· (first | rfl | assumption | with_reducible exact nls_ints _ | with_reducible exact nls_strs _ | with_reducible exact pD_nls _ | ((repeat' (first | assumption | with_reducible exact nls_ints _ | with_reducible exact nls_strs _ | with_reducible exact pD_nls _ | with_reducible rfl | with_reducible apply nls_cons | with_reducible apply nls_app | with_reducible exact nls_nil | with_reducible apply nl_tup | with_reducible exact nl_int | with_reducible exact nl_str)); done))))
  | ((with_reducible apply wo_toLstT); (· (first | rfl | assumption | with_reducible exact nls_ints _ | with_reducible exact nls_strs _ | with_reducible exact pD_nls _ | ((repeat' (first | assumption | with_reducible exact nls_ints _ | with_reducible exact nls_strs _ | with_reducible exact pD_nls _ | with_reducible rfl | with_reducible apply nls_cons | with_reducible apply nls_app | with_reducible exact nls_nil | with_reducible apply nl_tup | with_reducible exact nl_int | with_reducible exact nl_str)); done))))
  | ((with_reducible refine wo_ixI ?ha ?h0 ?h1 (fun x hx => ?q)); (case ha => rfl); (case h0 => omega); (case h1 => first | omega | (simp only [List.length_cons, List.length_nil]; omega)); (try simp only [List.mem_cons, D.int.injEq, List.not_mem_nil, or_false] at hx))
  | ((with_reducible refine wo_ixS ?ha ?h0 ?h1 (fun x hx => ?q)); (case ha => first | rfl | assumption); (case h0 => omega); (case h1 => first | omega | (simp only [List.length_cons, List.length_nil]; omega)))
  | ((with_reducible apply (wo_ (o := slD (.tup _) _ _))); (· rfl))
  | ((with_reducible apply (wo_ (o := eqD _ _))); (· rfl))
  | ((with_reducible apply (wo_ (o := neD _ _))); (· rfl))
  | ((with_reducible apply (wo_ (o := isND _ _))); (· rfl))
  | ((with_reducible apply (wo_ (o := notND _ _))); (· rfl))
  | ((with_reducible apply (wo_ (o := getD _ _))); (· rfl))
  | ((with_reducible apply (wo_ (o := ixD _ _))); (· rfl))
  | ((with_reducible apply (wo_ (o := isiD _ _))); (· rfl))
  | ((with_reducible apply (wo_ (o := lenD _))); (· rfl))
  | ((with_reducible apply (wo_ (o := lenX _))); (· rfl))
  | ((with_reducible apply (wo_ (o := notD _))); (· rfl))
  | ((with_reducible apply (wo_ (o := notT _))); (· rfl))
  | ((with_reducible apply (wo_ (o := toInt _))); (· rfl))
  | ((with_reducible apply (wo_ (o := absD _))); (· rfl))
  | ((with_reducible apply (wo_ (o := splitD _ _))); (· rfl))
  | ((with_reducible apply (wo_ (o := negD _))); (· rfl))
  | ((with_reducible apply (wo_ (o := inD _ _))); (· rfl))
  | ((with_reducible apply (wo_ (o := notInD _ _))); (· rfl))
  | ((with_reducible apply wo_allL))
  | ((with_reducible apply wo_anyL))
  | ((with_reducible apply wo_tabIn))
  | ((with_reducible apply wo_tabNotIn))
  | ((with_reducible apply wo_tabGet); (· rfl))
  | ((with_reducible refine wo_ixMI ?h0 ?h1 (fun i hi => ?q)); (case h0 => first | omega | (simp only [List.length_map] at *; omega)); (case h1 => first | omega | (simp only [List.length_map] at *; omega)))
  | ((with_reducible apply wo_eqSm); (· (first | assumption | rfl | with_reducible exact smB_cutP _ _ _ | with_reducible exact pD_sm _)); (· (first | assumption | rfl | with_reducible exact smB_cutP _ _ _ | with_reducible exact pD_sm _)))
  | ((with_reducible apply wo_neSm); (· (first | assumption | rfl | with_reducible exact smB_cutP _ _ _ | with_reducible exact pD_sm _)); (· (first | assumption | rfl | with_reducible exact smB_cutP _ _ _ | with_reducible exact pD_sm _)))
  | fail))
local macro_rules | `(tactic| decreasing_trivial_pre_omega) => `(tactic| ((with_reducible apply g_wp); first
  | ((with_reducible apply wp_bin))
  | ((with_reducible apply wp_c))
  | ((with_reducible apply wp_b))
  | ((with_reducible apply wp_un))
  | ((with_reducible apply wp_tup))
  | ((with_reducible apply wp_sl))
  | ((with_reducible apply wp_var); (· rfl))
  | fail))
local macro_rules | `(tactic| decreasing_trivial_pre_omega) => `(tactic| ((with_reducible apply g_wt); first
  | ((with_reducible apply wt_asT))
  | ((with_reducible apply wt_tru))
  | ((with_reducible apply wt_truP))
  | ((with_reducible apply wt_and))
  | ((with_reducible apply wt_or))
  | ((with_reducible apply wt_not))
  | ((with_reducible apply wt_yes))
  | fail))
local macro_rules | `(tactic| decreasing_trivial_pre_omega) => `(tactic| ((with_reducible apply g_we); first
  | ((with_reducible apply we_own))
  | ((with_reducible apply we_pure))
  | ((with_reducible apply we_tup))
  | ((with_reducible apply we_lst))
  | ((with_reducible apply we_b))
  | ((with_reducible apply we_bin))
  | ((with_reducible apply we_binP))
  | ((with_reducible apply we_un))
  | ((with_reducible apply we_dict0))
  | ((with_reducible apply we_if))
  | ((with_reducible apply we_and))
  | ((with_reducible apply we_or))
  | ((with_reducible apply we_inF))
  | ((with_reducible apply we_inT))
  | ((with_reducible apply we_inAny))
  | ((with_reducible apply we_chain))
  | ((with_reducible apply we_sm))
  | ((with_reducible apply we_slN))
  | ((with_reducible apply we_sl))
  | ((with_reducible apply we_rev))
  | ((with_reducible apply we_lc))
  | ((with_reducible apply we_take); (· rfl); (· (first | rfl | assumption | exact nl_tup (by assumption) | (with_reducible apply nl_tup; ((repeat' (first | assumption | with_reducible exact nls_ints _ | with_reducible exact nls_strs _ | with_reducible exact pD_nls _ | with_reducible rfl | with_reducible apply nls_cons | with_reducible apply nls_app | with_reducible exact nls_nil | with_reducible apply nl_tup | with_reducible exact nl_int | with_reducible exact nl_str)); done)))))
  | ((with_reducible apply we_takeL); (· rfl); (· rfl))
  | ((with_reducible apply we_ixN); (· rfl))
  | ((with_reducible apply we_append); (· rfl))
  | ((with_reducible apply we_lmut); (· rfl))
  | (with_reducible refine we_call ?_ (by decide))
  | ((with_reducible apply we_lmutI); (· rfl))
  | ((with_reducible apply we_slM))
  | ((with_reducible apply we_rgL1))
  | ((with_reducible apply we_rgT1))
  | ((with_reducible apply we_rgL2))
  | ((with_reducible apply we_lcWt); (· rfl); (· (first | rfl | assumption | with_reducible exact nls_ints _ | with_reducible exact nls_strs _ | with_reducible exact pD_nls _ | ((repeat' (first | assumption | with_reducible exact nls_ints _ | with_reducible exact nls_strs _ | with_reducible exact pD_nls _ | with_reducible rfl | with_reducible apply nls_cons | with_reducible apply nls_app | with_reducible exact nls_nil | with_reducible apply nl_tup | with_reducible exact nl_int | with_reducible exact nl_str)); done))); (· (first | omega | assumption | (simp only [List.length_map, List.length_append, List.length_cons, List.length_nil]; omega))))
  | ((with_reducible apply we_lcWl); (· rfl); (· (first | rfl | assumption | with_reducible exact nls_ints _ | with_reducible exact nls_strs _ | with_reducible exact pD_nls _ | ((repeat' (first | assumption | with_reducible exact nls_ints _ | with_reducible exact nls_strs _ | with_reducible exact pD_nls _ | with_reducible rfl | with_reducible apply nls_cons | with_reducible apply nls_app | with_reducible exact nls_nil | with_reducible apply nl_tup | with_reducible exact nl_int | with_reducible exact nl_str)); done))); (· (first | omega | assumption | (simp only [List.length_map, List.length_append, List.length_cons, List.length_nil]; omega))))
  | ((with_reducible apply we_lcWf); (· rfl); (· (first | rfl | assumption | with_reducible exact nls_ints _ | with_reducible exact nls_strs _ | with_reducible exact pD_nls _ | ((repeat' (first | assumption | with_reducible exact nls_ints _ | with_reducible exact nls_strs _ | with_reducible exact pD_nls _ | with_reducible rfl | with_reducible apply nls_cons | with_reducible apply nls_app | with_reducible exact nls_nil | with_reducible apply nl_tup | with_reducible exact nl_int | with_reducible exact nl_str)); done))); (· (first | omega | assumption | (simp only [List.length_map, List.length_append, List.length_cons, List.length_nil]; omega))))
  | fail))
local macro_rules | `(tactic| decreasing_trivial_pre_omega) => `(tactic| ((with_reducible apply g_ws); first
  | ((with_reducible apply ws_seq))
  | ((with_reducible apply ws_set))
  | ((with_reducible apply ws_ret))
  | ((with_reducible apply ws_retN))
  | ((with_reducible apply ws_if))
  | ((with_reducible apply ws_expr))
  | ((with_reducible apply ws_nil))
  | ((with_reducible apply ws_break))
  | ((with_reducible apply ws_cont))
  | ((with_reducible apply ws_setAny))
  | ((with_reducible apply ws_par))
  | ((with_reducible apply ws_asg))
  | ((with_reducible apply ws_for))
  | ((with_reducible apply ws_forS); (· rfl))
  | ((with_reducible apply ws_forBt); (· rfl); (· (first | rfl | assumption | with_reducible exact nls_ints _ | with_reducible exact nls_strs _ | with_reducible exact pD_nls _ | ((repeat' (first | assumption | with_reducible exact nls_ints _ | with_reducible exact nls_strs _ | with_reducible exact pD_nls _ | with_reducible rfl | with_reducible apply nls_cons | with_reducible apply nls_app | with_reducible exact nls_nil | with_reducible apply nl_tup | with_reducible exact nl_int | with_reducible exact nl_str)); done))))
  | ((with_reducible apply ws_forBl); (· rfl); (· (first | rfl | assumption | with_reducible exact nls_ints _ | with_reducible exact nls_strs _ | with_reducible exact pD_nls _ | ((repeat' (first | assumption | with_reducible exact nls_ints _ | with_reducible exact nls_strs _ | with_reducible exact pD_nls _ | with_reducible rfl | with_reducible apply nls_cons | with_reducible apply nls_app | with_reducible exact nls_nil | with_reducible apply nl_tup | with_reducible exact nl_int | with_reducible exact nl_str)); done))))
  | ((with_reducible apply ws_forBs); (· rfl))
  | ((with_reducible apply ws_forBf); (· rfl); (· (first | rfl | assumption | with_reducible exact nls_ints _ | with_reducible exact nls_strs _ | with_reducible exact pD_nls _ | ((repeat' (first | assumption | with_reducible exact nls_ints _ | with_reducible exact nls_strs _ | with_reducible exact pD_nls _ | with_reducible rfl | with_reducible apply nls_cons | with_reducible apply nls_app | with_reducible exact nls_nil | with_reducible apply nl_tup | with_reducible exact nl_int | with_reducible exact nl_str)); done))))
  | ((with_reducible apply ws_fz); (· rfl))
  | ((with_reducible apply ws_augIx))
  | ((with_reducible apply ws_aug))
  | fail))
set_option hygiene true
theorem sIxN (n d : Nat) {a : Int} (h : 0 ≤ a) : HT.sIx n d (some a) = min a.toNat n := by
  obtain ⟨k, rfl⟩ : ∃ k : Nat, a = k := ⟨a.toNat, by omega⟩
  rw [HT.sIx_nat, Int.toNat_natCast]
theorem cut_lay {ds : List D} (hy : Lay ds) (lo hi : Option Int) : Lay (Bv.cutD ds lo hi) := fun d m => hy d (List.mem_of_mem_drop (List.mem_of_mem_take m))
theorem wo_slTo {ds : List D} {a : Int} {Q : D → Prop} (h0 : 0 ≤ a) (hy : Lay ds) (q : ∀ R, Lay R → R.length ≤ a.toNat → R.length ≤ ds.length → noLists R = true → Q (.tup R)) : WO (slD (.tup ds) none (some a)) Q := by
  refine Bv.unbox ?_
  simp (disch := (
    refine Bv.idP ?_
    with_unfolding_all (
  refine ⟨_, rfl, q _ (cut_lay hy _ _) ?_ ?_ (cut_lay hy _ _).nls⟩
  · unfold Bv.cutD; rw [List.length_take, sIxN _ _ h0]; show min (_ - 0) _ ≤ _; omega
  · unfold Bv.cutD; rw [List.length_take, List.length_drop]; omega))) only [↓Bv.boxT]
theorem wo_slFr {ds : List D} {a : Int} {Q : D → Prop} (h0 : 0 ≤ a) (hy : Lay ds) (q : ∀ R, Lay R → R.length ≤ ds.length - a.toNat → noLists R = true → Q (.tup R)) : WO (slD (.tup ds) (some a) none) Q := by
  refine Bv.unbox ?_
  simp (disch := (
    refine Bv.idP ?_
    with_unfolding_all (
  refine ⟨_, rfl, q _ (cut_lay hy _ _) ?_ (cut_lay hy _ _).nls⟩
  unfold Bv.cutD; rw [List.length_take, List.length_drop, sIxN _ _ h0]; omega))) only [↓Bv.boxT]
theorem wo_slMi {ds : List D} {a b : Int} {Q : D → Prop} (h0 : 0 ≤ a) (h1 : 0 ≤ b) (hy : Lay ds) (q : ∀ R, Lay R → R.length ≤ b.toNat - a.toNat → noLists R = true → Q (.tup R)) : WO (slD (.tup ds) (some a) (some b)) Q := by
  refine Bv.unbox ?_
  simp (disch := (
    refine Bv.idP ?_
    with_unfolding_all (
  refine ⟨_, rfl, q _ (cut_lay hy _ _) ?_ (cut_lay hy _ _).nls⟩
  unfold Bv.cutD; rw [List.length_take, List.length_drop, sIxN _ _ h0, sIxN _ _ h1]; omega))) only [↓Bv.boxT]
theorem lay_app {a b : List D} (ha : Lay a) (hb : Lay b) : Lay (a ++ b) := fun d m => (List.mem_append.mp m).elim (ha d) (hb d)
theorem lay1 {d : D} (h : RL d ∨ IL d) : Lay [d] := fun e m => by rw [List.mem_singleton.mp m]; exact h
theorem wo_addLay {a b : List D} {Q : D → Prop} (ha : Lay a) (hb : Lay b) (hl : a.length + b.length ≤ 1000) (q : ∀ R, Lay R → R.length = a.length + b.length → noLists R = true → Q (.tup R)) : WO (addD (.tup a) (.tup b)) Q :=
  wo_addT (by omega) ha.nls hb.nls (q _ (lay_app ha hb) (by rw [List.length_append]) (lay_app ha hb).nls)
theorem wo_addLay1 {a : List D} {d : D} {Q : D → Prop} (ha : Lay a) (hd : RL d ∨ IL d) (hl : a.length + 1 ≤ 1000) (q : ∀ R, Lay R → R.length = a.length + 1 → noLists R = true → Q (.tup R)) : WO (addD (.tup a) (.tup [d])) Q :=
  wo_addLay ha (lay1 hd) hl q
theorem wo_addLay2 {a : List D} {d e : D} {Q : D → Prop} (ha : Lay a) (hd : RL d) (he : RL e) (hl : a.length + 2 ≤ 1000) (q : ∀ R, Lay R → R.length = a.length + 2 → noLists R = true → Q (.tup R)) : WO (addD (.tup a) (.tup [d, e])) Q :=
  wo_addLay ha (fun x m => by
    rcases List.mem_cons.mp m with rfl | m
    · exact .inl hd
    · rw [List.mem_singleton.mp m]; exact .inl he) hl q
theorem RLmk {n k : Int} {x : D} (h1 : 0 ≤ k) (h2 : k < n) (h3 : n ≤ 12) (hx : noList x = true) : RL (.tup [.str "every", .int n, .int k, x]) := ⟨_, _, _, rfl, h1, h2, h3, hx⟩
theorem wo_ixNL {ds : List D} {r : Int} {Q : D → Prop} (hn : noLists ds = true) (h0 : 0 ≤ r) (h1 : r < ds.length) (q : ∀ d, noList d = true → Q d) : WO (ixD (.lst ds) (.int r)) Q :=
  wo_ixM h0 h1 fun d _ m => q d (nls_mem hn m)
theorem w_parted {L : List D} {n k : Int} {x : D} {Q : D → List D → Prop} (v : VD L) (h1 : 0 ≤ k) (h2 : k < n) (h3 : n ≤ 12) (hx : noList x = true) (q : ∀ d1 d2 L', VD L' → RL d1 → RL d2 → Q (.tup [d1, d2]) [.lst L', .tup [.str "every", .int n, .int k, x]]) : WF m__law_parted [.lst L, .tup [.str "every", .int n, .int k, x]] Q := by
  refine Bv.unbox ?_
  simp (disch := (
    refine Bv.idP ?_
    with_unfolding_all (
  refine wf_mk ?_
  (repeat' decreasing_trivial_pre_omega)
  refine wc_inv (fun j ys ρ => ∃ (ps : List Int), ys = ps.map D.int ∧ ρ = [some (.lst L), some (.tup [.str "every", .int n, .int k, x]), none, none, none] ∧ (∀ p ∈ ps, 1 ≤ p ∧ p ≤ n ∧ n % p = 0) ∧ ps.length ≤ j ∧ (0 < j → 0 < ps.length)) ⟨[], rfl, rfl, fun p m => (by cases m), by simp, by omega⟩ ?_ ?_
  · rintro j ys d ρ hk ⟨ps, rfl, rfl, hps, hpl, hp0⟩
    obtain ⟨hk', rfl⟩ := numsD_at hk
    (repeat' decreasing_trivial_pre_omega)
    · refine ⟨ps ++ [1 + (j : Int)], by rw [List.map_append]; rfl, rfl, fun p m => ?_, by simp; omega, by simp⟩
      rcases List.mem_append.mp m with m | m
      · exact hps p m
      · rw [List.mem_singleton.mp m]
        exact ⟨by omega, by omega, by assumption⟩
    · refine ⟨ps, rfl, rfl, hps, by omega, fun _ => ?_⟩
      rcases Nat.eq_zero_or_pos j with e | e
      · subst e
        exact absurd (Int.emod_one n) h
      · exact hp0 e
  · rintro ys ρ ⟨ps, rfl, rfl, hps, hpl, hp0⟩
    rw [numsD_len] at hpl hp0
    have hp0 := hp0 (by omega)
    (repeat' (first | ((with_reducible apply w_draw); (· (first | assumption | exact ⟨_, _, _, _, _, rfl, by omega, by first | omega | exact hi_nn _⟩)); (· (first | omega | (simp only [List.length_cons, List.length_nil, List.length_map, List.length_append]; omega))); (· (first | omega | (simp only [List.length_cons, List.length_nil, List.length_map, List.length_append]; omega))); intro r L' v hr1 hr2) | decreasing_trivial_pre_omega))
    refine w_pick v (nls_ints ps) (by rw [List.length_map]; exact hp0) (by rw [List.length_map]; omega) (fun d L' v md hd => ?_)
    obtain ⟨p, mp, rfl⟩ := List.mem_map.mp md
    obtain ⟨p1, p2, p3⟩ := hps p mp
    (repeat' (first | ((with_reducible apply w_draw); (· (first | assumption | exact ⟨_, _, _, _, _, rfl, by omega, by first | omega | exact hi_nn _⟩)); (· (first | omega | (simp only [List.length_cons, List.length_nil, List.length_map, List.length_append]; omega))); (· (first | omega | (simp only [List.length_cons, List.length_nil, List.length_map, List.length_append]; omega))); intro r L' v hr1 hr2) | ((with_reducible apply wo_ixNL); (· (first | rfl | assumption | with_reducible exact nls_ints _ | with_reducible exact nls_strs _ | with_reducible exact pD_nls _ | ((repeat' (first | assumption | with_reducible exact nls_ints _ | with_reducible exact nls_strs _ | with_reducible exact pD_nls _ | with_reducible rfl | with_reducible apply nls_cons | with_reducible apply nls_app | with_reducible exact nls_nil | with_reducible apply nl_tup | with_reducible exact nl_int | with_reducible exact nl_str)); done))); (· (first | omega | (simp only [List.length_cons, List.length_nil, List.length_map, List.length_append]; omega))); (· (first | omega | (simp only [List.length_cons, List.length_nil, List.length_map, List.length_append]; omega))); intro d hd) | decreasing_trivial_pre_omega))
    rw [Int.fdiv_eq_ediv_of_nonneg n (by omega), Int.fdiv_eq_ediv_of_nonneg k (by omega)]
    refine q _ _ _ v (RLmk (Int.emod_nonneg _ (by omega)) (Int.emod_lt_of_pos _ (by omega)) (by omega) hx) (RLmk (Int.ediv_nonneg h1 (by omega)) ?_ ?_ hd)
    · have e := Int.mul_ediv_add_emod n p
      rw [p3, Int.add_zero] at e
      exact Int.ediv_lt_of_lt_mul (by omega) (by rw [Int.mul_comm, e]; exact h2)
    · exact Int.le_trans (Int.ediv_le_self _ (by omega)) h3))) only [↓Bv.boxT]
theorem RLnl (n k : Int) {x : D} (hx : noList x = true) : noList (.tup [.str "every", .int n, .int k, x]) = true := nls_cons rfl (nls_cons rfl (nls_cons rfl (nls_cons hx rfl)))
theorem wo_getTZ {ds : List D} {i : Int} {d : D} {Q : D → Prop} (h0 : 0 ≤ i) (e : ds[i.toNat]? = some d) (q : Q d) : WO (getD (.tup ds) (.int i)) Q := wo_getT (atI_pos h0 e) q
theorem wo_sl43 {a b c d : D} {Q : D → Prop} (q : Q (.tup [a, b, c])) : WO (slD (.tup [a, b, c, d]) none (some 3)) Q := ⟨_, rfl, q⟩
theorem wo_sl42 {a b c d : D} {Q : D → Prop} (q : Q (.tup [a, b])) : WO (slD (.tup [a, b, c, d]) none (some 2)) Q := ⟨_, rfl, q⟩
theorem wo_add31 {a b c d : D} {Q : D → Prop} (h1 : noLists [a, b, c] = true) (h2 : noLists [d] = true) (q : Q (.tup [a, b, c, d])) : WO (addD (.tup [a, b, c]) (.tup [d])) Q := wo_addT (by simp) h1 h2 q
theorem wo_add22 {a b c d : D} {Q : D → Prop} (h1 : noLists [a, b] = true) (h2 : noLists [c, d] = true) (q : Q (.tup [a, b, c, d])) : WO (addD (.tup [a, b]) (.tup [c, d])) Q := wo_addT (by simp) h1 h2 q
theorem lay_at {ds : List D} {r : Int} (hy : Lay ds) (h0 : 0 ≤ r) (h1 : r < ds.length) : (∃ n k x, ds[r.toNat]? = some (.tup [.str "every", .int n, .int k, x]) ∧ 0 ≤ k ∧ k < n ∧ n ≤ 12 ∧ noList x = true ∧ noList (.tup [.str "every", .int n, .int k, x]) = true) ∨ (∃ nm v, ds[r.toNat]? = some (.tup [.str "is", .str nm, v]) ∧ strB nm = true ∧ noList v = true ∧ smB 50 v = true ∧ noList (.tup [.str "is", .str nm, v]) = true) := by
  refine Bv.unbox ?_
  simp (disch := (
    refine Bv.idP ?_
    with_unfolding_all (
  have hlt : r.toNat < ds.length := by omega
  have e := List.getElem?_eq_getElem hlt
  rcases hy _ (List.getElem_mem hlt) with hd | hd
  · have hn := hd.nl
    obtain ⟨n, k, x, e2, a, b, c, f⟩ := hd
    rw [e2] at e hn
    exact .inl ⟨n, k, x, e, a, b, c, f, hn⟩
  · have hn := hd.nl
    obtain ⟨nm, v, e2, a, b, c⟩ := hd
    rw [e2] at e hn
    exact .inr ⟨nm, v, e, a, b, c, hn⟩))) only [↓Bv.boxT]
theorem w_kept {L ds : List D} {Q : D → List D → Prop} (v : VD L) (hy : Lay ds) (hl : ds.length ≤ 40) (q : ∀ ds' L', VD L' → Lay ds' → ds'.length ≤ ds.length + 1 → Q (.tup ds') [.lst L', .tup ds]) : WF m__law_kept [.lst L, .tup ds] Q := by
  refine Bv.unbox ?_
  simp (disch := (
    refine Bv.idP ?_
    with_unfolding_all (
  have hn := hy.nls
  refine wf_mk ?_
  (repeat' (first | ((with_reducible apply w_draw); (· (first | assumption | exact ⟨_, _, _, _, _, rfl, by omega, by first | omega | exact hi_nn _⟩)); (· (first | omega | (simp only [List.length_cons, List.length_nil, List.length_map, List.length_append]; omega))); (· (first | omega | (simp only [List.length_cons, List.length_nil, List.length_map, List.length_append]; omega))); intro r L' v hr1 hr2) | ((with_reducible apply wo_sl43)) | ((with_reducible apply wo_sl42)) | ((with_reducible apply wo_add31); (· (first | rfl | assumption | with_reducible exact nls_ints _ | with_reducible exact nls_strs _ | with_reducible exact pD_nls _ | ((repeat' (first | assumption | with_reducible exact nls_ints _ | with_reducible exact nls_strs _ | with_reducible exact pD_nls _ | with_reducible rfl | with_reducible apply nls_cons | with_reducible apply nls_app | with_reducible exact nls_nil | with_reducible apply nl_tup | with_reducible exact nl_int | with_reducible exact nl_str)); done))); (· (first | rfl | assumption | with_reducible exact nls_ints _ | with_reducible exact nls_strs _ | with_reducible exact pD_nls _ | ((repeat' (first | assumption | with_reducible exact nls_ints _ | with_reducible exact nls_strs _ | with_reducible exact pD_nls _ | with_reducible rfl | with_reducible apply nls_cons | with_reducible apply nls_app | with_reducible exact nls_nil | with_reducible apply nl_tup | with_reducible exact nl_int | with_reducible exact nl_str)); done)))) | ((with_reducible apply wo_add22); (· (first | rfl | assumption | with_reducible exact nls_ints _ | with_reducible exact nls_strs _ | with_reducible exact pD_nls _ | ((repeat' (first | assumption | with_reducible exact nls_ints _ | with_reducible exact nls_strs _ | with_reducible exact pD_nls _ | with_reducible rfl | with_reducible apply nls_cons | with_reducible apply nls_app | with_reducible exact nls_nil | with_reducible apply nl_tup | with_reducible exact nl_int | with_reducible exact nl_str)); done))); (· (first | rfl | assumption | with_reducible exact nls_ints _ | with_reducible exact nls_strs _ | with_reducible exact pD_nls _ | ((repeat' (first | assumption | with_reducible exact nls_ints _ | with_reducible exact nls_strs _ | with_reducible exact pD_nls _ | with_reducible rfl | with_reducible apply nls_cons | with_reducible apply nls_app | with_reducible exact nls_nil | with_reducible apply nl_tup | with_reducible exact nl_int | with_reducible exact nl_str)); done)))) | ((with_reducible apply wo_getTZ); (· (first | omega | (simp only [List.length_cons, List.length_nil, List.length_map, List.length_append]; omega))); (· assumption)) | ((with_reducible apply wo_slTo); (· (first | omega | (simp only [List.length_cons, List.length_nil, List.length_map, List.length_append]; omega))); (· assumption); intro R hR hRl hRm hRn) | ((with_reducible apply wo_slFr); (· (first | omega | (simp only [List.length_cons, List.length_nil, List.length_map, List.length_append]; omega))); (· assumption); intro R hR hRl hRn) | ((with_reducible apply wo_slMi); (· (first | omega | (simp only [List.length_cons, List.length_nil, List.length_map, List.length_append]; omega))); (· (first | omega | (simp only [List.length_cons, List.length_nil, List.length_map, List.length_append]; omega))); (· assumption); intro R hR hRl hRn) | (refine wo_addLay1 (by assumption) ?_ (by omega) (fun R hR hRl hRn => ?_)) | ((with_reducible apply wo_addLay2); (· assumption); (· assumption); (· assumption); (· (first | omega | (simp only [List.length_cons, List.length_nil, List.length_map, List.length_append]; omega))); intro R hR hRl hRn) | ((with_reducible apply wo_addLay); (· assumption); (· assumption); (· (first | omega | (simp only [List.length_cons, List.length_nil, List.length_map, List.length_append]; omega))); intro R hR hRl hRn) | ((with_reducible apply wo_ixNL); (· (first | rfl | assumption | with_reducible exact nls_ints _ | with_reducible exact nls_strs _ | with_reducible exact pD_nls _ | ((repeat' (first | assumption | with_reducible exact nls_ints _ | with_reducible exact nls_strs _ | with_reducible exact pD_nls _ | with_reducible rfl | with_reducible apply nls_cons | with_reducible apply nls_app | with_reducible exact nls_nil | with_reducible apply nl_tup | with_reducible exact nl_int | with_reducible exact nl_str)); done))); (· (first | omega | (simp only [List.length_cons, List.length_nil, List.length_map, List.length_append]; omega))); (· (first | omega | (simp only [List.length_cons, List.length_nil, List.length_map, List.length_append]; omega))); intro d hd) | (refine Or.inr ⟨_, _, rfl, by assumption, by assumption, by assumption⟩) | (refine q _ _ (by assumption) (by assumption) (by omega)) | (refine Or.inr (by assumption)) | (refine Or.inl (RLmk (by omega) (by omega) (by omega) (by first | rfl | assumption))) | decreasing_trivial_pre_omega))
  rcases lay_at (r := r) hy (by omega) (by omega) with ⟨n, k, x, e, h1, h2, h3, hx, hd⟩ | ⟨nm, v, e, _, _, _, hd⟩
  · (repeat' (first | ((with_reducible apply w_draw); (· (first | assumption | exact ⟨_, _, _, _, _, rfl, by omega, by first | omega | exact hi_nn _⟩)); (· (first | omega | (simp only [List.length_cons, List.length_nil, List.length_map, List.length_append]; omega))); (· (first | omega | (simp only [List.length_cons, List.length_nil, List.length_map, List.length_append]; omega))); intro r L' v hr1 hr2) | ((with_reducible apply wo_sl43)) | ((with_reducible apply wo_sl42)) | ((with_reducible apply wo_add31); (· (first | rfl | assumption | with_reducible exact nls_ints _ | with_reducible exact nls_strs _ | with_reducible exact pD_nls _ | ((repeat' (first | assumption | with_reducible exact nls_ints _ | with_reducible exact nls_strs _ | with_reducible exact pD_nls _ | with_reducible rfl | with_reducible apply nls_cons | with_reducible apply nls_app | with_reducible exact nls_nil | with_reducible apply nl_tup | with_reducible exact nl_int | with_reducible exact nl_str)); done))); (· (first | rfl | assumption | with_reducible exact nls_ints _ | with_reducible exact nls_strs _ | with_reducible exact pD_nls _ | ((repeat' (first | assumption | with_reducible exact nls_ints _ | with_reducible exact nls_strs _ | with_reducible exact pD_nls _ | with_reducible rfl | with_reducible apply nls_cons | with_reducible apply nls_app | with_reducible exact nls_nil | with_reducible apply nl_tup | with_reducible exact nl_int | with_reducible exact nl_str)); done)))) | ((with_reducible apply wo_add22); (· (first | rfl | assumption | with_reducible exact nls_ints _ | with_reducible exact nls_strs _ | with_reducible exact pD_nls _ | ((repeat' (first | assumption | with_reducible exact nls_ints _ | with_reducible exact nls_strs _ | with_reducible exact pD_nls _ | with_reducible rfl | with_reducible apply nls_cons | with_reducible apply nls_app | with_reducible exact nls_nil | with_reducible apply nl_tup | with_reducible exact nl_int | with_reducible exact nl_str)); done))); (· (first | rfl | assumption | with_reducible exact nls_ints _ | with_reducible exact nls_strs _ | with_reducible exact pD_nls _ | ((repeat' (first | assumption | with_reducible exact nls_ints _ | with_reducible exact nls_strs _ | with_reducible exact pD_nls _ | with_reducible rfl | with_reducible apply nls_cons | with_reducible apply nls_app | with_reducible exact nls_nil | with_reducible apply nl_tup | with_reducible exact nl_int | with_reducible exact nl_str)); done)))) | ((with_reducible apply wo_getTZ); (· (first | omega | (simp only [List.length_cons, List.length_nil, List.length_map, List.length_append]; omega))); (· assumption)) | ((with_reducible apply wo_slTo); (· (first | omega | (simp only [List.length_cons, List.length_nil, List.length_map, List.length_append]; omega))); (· assumption); intro R hR hRl hRm hRn) | ((with_reducible apply wo_slFr); (· (first | omega | (simp only [List.length_cons, List.length_nil, List.length_map, List.length_append]; omega))); (· assumption); intro R hR hRl hRn) | ((with_reducible apply wo_slMi); (· (first | omega | (simp only [List.length_cons, List.length_nil, List.length_map, List.length_append]; omega))); (· (first | omega | (simp only [List.length_cons, List.length_nil, List.length_map, List.length_append]; omega))); (· assumption); intro R hR hRl hRn) | (refine wo_addLay1 (by assumption) ?_ (by omega) (fun R hR hRl hRn => ?_)) | ((with_reducible apply wo_addLay2); (· assumption); (· assumption); (· assumption); (· (first | omega | (simp only [List.length_cons, List.length_nil, List.length_map, List.length_append]; omega))); intro R hR hRl hRn) | ((with_reducible apply wo_addLay); (· assumption); (· assumption); (· (first | omega | (simp only [List.length_cons, List.length_nil, List.length_map, List.length_append]; omega))); intro R hR hRl hRn) | ((with_reducible apply wo_ixNL); (· (first | rfl | assumption | with_reducible exact nls_ints _ | with_reducible exact nls_strs _ | with_reducible exact pD_nls _ | ((repeat' (first | assumption | with_reducible exact nls_ints _ | with_reducible exact nls_strs _ | with_reducible exact pD_nls _ | with_reducible rfl | with_reducible apply nls_cons | with_reducible apply nls_app | with_reducible exact nls_nil | with_reducible apply nl_tup | with_reducible exact nl_int | with_reducible exact nl_str)); done))); (· (first | omega | (simp only [List.length_cons, List.length_nil, List.length_map, List.length_append]; omega))); (· (first | omega | (simp only [List.length_cons, List.length_nil, List.length_map, List.length_append]; omega))); intro d hd) | (refine Or.inr ⟨_, _, rfl, by assumption, by assumption, by assumption⟩) | (refine q _ _ (by assumption) (by assumption) (by omega)) | (refine Or.inr (by assumption)) | (refine Or.inl (RLmk (by omega) (by omega) (by omega) (by first | rfl | assumption))) | (refine w_parted (by assumption) (by omega) (by omega) (by omega) (by assumption) (fun d1 d2 L' v hd1 hd2 => ?_)) | decreasing_trivial_pre_omega))
    rcases lay_at (r := r + 1) hy (by omega) (by omega) with ⟨n', k', x', e', h1', h2', h3', hx', hd'⟩ | ⟨nm', v', e', _, _, _, hd'⟩
    · (repeat' (first | ((with_reducible apply w_draw); (· (first | assumption | exact ⟨_, _, _, _, _, rfl, by omega, by first | omega | exact hi_nn _⟩)); (· (first | omega | (simp only [List.length_cons, List.length_nil, List.length_map, List.length_append]; omega))); (· (first | omega | (simp only [List.length_cons, List.length_nil, List.length_map, List.length_append]; omega))); intro r L' v hr1 hr2) | ((with_reducible apply wo_sl43)) | ((with_reducible apply wo_sl42)) | ((with_reducible apply wo_add31); (· (first | rfl | assumption | with_reducible exact nls_ints _ | with_reducible exact nls_strs _ | with_reducible exact pD_nls _ | ((repeat' (first | assumption | with_reducible exact nls_ints _ | with_reducible exact nls_strs _ | with_reducible exact pD_nls _ | with_reducible rfl | with_reducible apply nls_cons | with_reducible apply nls_app | with_reducible exact nls_nil | with_reducible apply nl_tup | with_reducible exact nl_int | with_reducible exact nl_str)); done))); (· (first | rfl | assumption | with_reducible exact nls_ints _ | with_reducible exact nls_strs _ | with_reducible exact pD_nls _ | ((repeat' (first | assumption | with_reducible exact nls_ints _ | with_reducible exact nls_strs _ | with_reducible exact pD_nls _ | with_reducible rfl | with_reducible apply nls_cons | with_reducible apply nls_app | with_reducible exact nls_nil | with_reducible apply nl_tup | with_reducible exact nl_int | with_reducible exact nl_str)); done)))) | ((with_reducible apply wo_add22); (· (first | rfl | assumption | with_reducible exact nls_ints _ | with_reducible exact nls_strs _ | with_reducible exact pD_nls _ | ((repeat' (first | assumption | with_reducible exact nls_ints _ | with_reducible exact nls_strs _ | with_reducible exact pD_nls _ | with_reducible rfl | with_reducible apply nls_cons | with_reducible apply nls_app | with_reducible exact nls_nil | with_reducible apply nl_tup | with_reducible exact nl_int | with_reducible exact nl_str)); done))); (· (first | rfl | assumption | with_reducible exact nls_ints _ | with_reducible exact nls_strs _ | with_reducible exact pD_nls _ | ((repeat' (first | assumption | with_reducible exact nls_ints _ | with_reducible exact nls_strs _ | with_reducible exact pD_nls _ | with_reducible rfl | with_reducible apply nls_cons | with_reducible apply nls_app | with_reducible exact nls_nil | with_reducible apply nl_tup | with_reducible exact nl_int | with_reducible exact nl_str)); done)))) | ((with_reducible apply wo_getTZ); (· (first | omega | (simp only [List.length_cons, List.length_nil, List.length_map, List.length_append]; omega))); (· assumption)) | ((with_reducible apply wo_slTo); (· (first | omega | (simp only [List.length_cons, List.length_nil, List.length_map, List.length_append]; omega))); (· assumption); intro R hR hRl hRm hRn) | ((with_reducible apply wo_slFr); (· (first | omega | (simp only [List.length_cons, List.length_nil, List.length_map, List.length_append]; omega))); (· assumption); intro R hR hRl hRn) | ((with_reducible apply wo_slMi); (· (first | omega | (simp only [List.length_cons, List.length_nil, List.length_map, List.length_append]; omega))); (· (first | omega | (simp only [List.length_cons, List.length_nil, List.length_map, List.length_append]; omega))); (· assumption); intro R hR hRl hRn) | (refine wo_addLay1 (by assumption) ?_ (by omega) (fun R hR hRl hRn => ?_)) | ((with_reducible apply wo_addLay2); (· assumption); (· assumption); (· assumption); (· (first | omega | (simp only [List.length_cons, List.length_nil, List.length_map, List.length_append]; omega))); intro R hR hRl hRn) | ((with_reducible apply wo_addLay); (· assumption); (· assumption); (· (first | omega | (simp only [List.length_cons, List.length_nil, List.length_map, List.length_append]; omega))); intro R hR hRl hRn) | ((with_reducible apply wo_ixNL); (· (first | rfl | assumption | with_reducible exact nls_ints _ | with_reducible exact nls_strs _ | with_reducible exact pD_nls _ | ((repeat' (first | assumption | with_reducible exact nls_ints _ | with_reducible exact nls_strs _ | with_reducible exact pD_nls _ | with_reducible rfl | with_reducible apply nls_cons | with_reducible apply nls_app | with_reducible exact nls_nil | with_reducible apply nl_tup | with_reducible exact nl_int | with_reducible exact nl_str)); done))); (· (first | omega | (simp only [List.length_cons, List.length_nil, List.length_map, List.length_append]; omega))); (· (first | omega | (simp only [List.length_cons, List.length_nil, List.length_map, List.length_append]; omega))); intro d hd) | (refine Or.inr ⟨_, _, rfl, by assumption, by assumption, by assumption⟩) | (refine q _ _ (by assumption) (by assumption) (by omega)) | (refine Or.inr (by assumption)) | (refine Or.inl (RLmk (by omega) (by omega) (by omega) (by first | rfl | assumption))) | decreasing_trivial_pre_omega))
      have a1 : n * k' ≤ n * (n' - 1) := Int.mul_le_mul_of_nonneg_left (by omega) (by omega)
      have a2 : 0 ≤ n * k' := Int.mul_nonneg (by omega) h1'
      rw [Int.mul_sub, Int.mul_one] at a1
      exact .inl (RLmk (by omega) (by omega) (by omega) hx')
    · (repeat' (first | ((with_reducible apply w_draw); (· (first | assumption | exact ⟨_, _, _, _, _, rfl, by omega, by first | omega | exact hi_nn _⟩)); (· (first | omega | (simp only [List.length_cons, List.length_nil, List.length_map, List.length_append]; omega))); (· (first | omega | (simp only [List.length_cons, List.length_nil, List.length_map, List.length_append]; omega))); intro r L' v hr1 hr2) | ((with_reducible apply wo_sl43)) | ((with_reducible apply wo_sl42)) | ((with_reducible apply wo_add31); (· (first | rfl | assumption | with_reducible exact nls_ints _ | with_reducible exact nls_strs _ | with_reducible exact pD_nls _ | ((repeat' (first | assumption | with_reducible exact nls_ints _ | with_reducible exact nls_strs _ | with_reducible exact pD_nls _ | with_reducible rfl | with_reducible apply nls_cons | with_reducible apply nls_app | with_reducible exact nls_nil | with_reducible apply nl_tup | with_reducible exact nl_int | with_reducible exact nl_str)); done))); (· (first | rfl | assumption | with_reducible exact nls_ints _ | with_reducible exact nls_strs _ | with_reducible exact pD_nls _ | ((repeat' (first | assumption | with_reducible exact nls_ints _ | with_reducible exact nls_strs _ | with_reducible exact pD_nls _ | with_reducible rfl | with_reducible apply nls_cons | with_reducible apply nls_app | with_reducible exact nls_nil | with_reducible apply nl_tup | with_reducible exact nl_int | with_reducible exact nl_str)); done)))) | ((with_reducible apply wo_add22); (· (first | rfl | assumption | with_reducible exact nls_ints _ | with_reducible exact nls_strs _ | with_reducible exact pD_nls _ | ((repeat' (first | assumption | with_reducible exact nls_ints _ | with_reducible exact nls_strs _ | with_reducible exact pD_nls _ | with_reducible rfl | with_reducible apply nls_cons | with_reducible apply nls_app | with_reducible exact nls_nil | with_reducible apply nl_tup | with_reducible exact nl_int | with_reducible exact nl_str)); done))); (· (first | rfl | assumption | with_reducible exact nls_ints _ | with_reducible exact nls_strs _ | with_reducible exact pD_nls _ | ((repeat' (first | assumption | with_reducible exact nls_ints _ | with_reducible exact nls_strs _ | with_reducible exact pD_nls _ | with_reducible rfl | with_reducible apply nls_cons | with_reducible apply nls_app | with_reducible exact nls_nil | with_reducible apply nl_tup | with_reducible exact nl_int | with_reducible exact nl_str)); done)))) | ((with_reducible apply wo_getTZ); (· (first | omega | (simp only [List.length_cons, List.length_nil, List.length_map, List.length_append]; omega))); (· assumption)) | ((with_reducible apply wo_slTo); (· (first | omega | (simp only [List.length_cons, List.length_nil, List.length_map, List.length_append]; omega))); (· assumption); intro R hR hRl hRm hRn) | ((with_reducible apply wo_slFr); (· (first | omega | (simp only [List.length_cons, List.length_nil, List.length_map, List.length_append]; omega))); (· assumption); intro R hR hRl hRn) | ((with_reducible apply wo_slMi); (· (first | omega | (simp only [List.length_cons, List.length_nil, List.length_map, List.length_append]; omega))); (· (first | omega | (simp only [List.length_cons, List.length_nil, List.length_map, List.length_append]; omega))); (· assumption); intro R hR hRl hRn) | (refine wo_addLay1 (by assumption) ?_ (by omega) (fun R hR hRl hRn => ?_)) | ((with_reducible apply wo_addLay2); (· assumption); (· assumption); (· assumption); (· (first | omega | (simp only [List.length_cons, List.length_nil, List.length_map, List.length_append]; omega))); intro R hR hRl hRn) | ((with_reducible apply wo_addLay); (· assumption); (· assumption); (· (first | omega | (simp only [List.length_cons, List.length_nil, List.length_map, List.length_append]; omega))); intro R hR hRl hRn) | ((with_reducible apply wo_ixNL); (· (first | rfl | assumption | with_reducible exact nls_ints _ | with_reducible exact nls_strs _ | with_reducible exact pD_nls _ | ((repeat' (first | assumption | with_reducible exact nls_ints _ | with_reducible exact nls_strs _ | with_reducible exact pD_nls _ | with_reducible rfl | with_reducible apply nls_cons | with_reducible apply nls_app | with_reducible exact nls_nil | with_reducible apply nl_tup | with_reducible exact nl_int | with_reducible exact nl_str)); done))); (· (first | omega | (simp only [List.length_cons, List.length_nil, List.length_map, List.length_append]; omega))); (· (first | omega | (simp only [List.length_cons, List.length_nil, List.length_map, List.length_append]; omega))); intro d hd) | (refine Or.inr ⟨_, _, rfl, by assumption, by assumption, by assumption⟩) | (refine q _ _ (by assumption) (by assumption) (by omega)) | (refine Or.inr (by assumption)) | (refine Or.inl (RLmk (by omega) (by omega) (by omega) (by first | rfl | assumption))) | decreasing_trivial_pre_omega))
  · (repeat' (first | ((with_reducible apply w_draw); (· (first | assumption | exact ⟨_, _, _, _, _, rfl, by omega, by first | omega | exact hi_nn _⟩)); (· (first | omega | (simp only [List.length_cons, List.length_nil, List.length_map, List.length_append]; omega))); (· (first | omega | (simp only [List.length_cons, List.length_nil, List.length_map, List.length_append]; omega))); intro r L' v hr1 hr2) | ((with_reducible apply wo_sl43)) | ((with_reducible apply wo_sl42)) | ((with_reducible apply wo_add31); (· (first | rfl | assumption | with_reducible exact nls_ints _ | with_reducible exact nls_strs _ | with_reducible exact pD_nls _ | ((repeat' (first | assumption | with_reducible exact nls_ints _ | with_reducible exact nls_strs _ | with_reducible exact pD_nls _ | with_reducible rfl | with_reducible apply nls_cons | with_reducible apply nls_app | with_reducible exact nls_nil | with_reducible apply nl_tup | with_reducible exact nl_int | with_reducible exact nl_str)); done))); (· (first | rfl | assumption | with_reducible exact nls_ints _ | with_reducible exact nls_strs _ | with_reducible exact pD_nls _ | ((repeat' (first | assumption | with_reducible exact nls_ints _ | with_reducible exact nls_strs _ | with_reducible exact pD_nls _ | with_reducible rfl | with_reducible apply nls_cons | with_reducible apply nls_app | with_reducible exact nls_nil | with_reducible apply nl_tup | with_reducible exact nl_int | with_reducible exact nl_str)); done)))) | ((with_reducible apply wo_add22); (· (first | rfl | assumption | with_reducible exact nls_ints _ | with_reducible exact nls_strs _ | with_reducible exact pD_nls _ | ((repeat' (first | assumption | with_reducible exact nls_ints _ | with_reducible exact nls_strs _ | with_reducible exact pD_nls _ | with_reducible rfl | with_reducible apply nls_cons | with_reducible apply nls_app | with_reducible exact nls_nil | with_reducible apply nl_tup | with_reducible exact nl_int | with_reducible exact nl_str)); done))); (· (first | rfl | assumption | with_reducible exact nls_ints _ | with_reducible exact nls_strs _ | with_reducible exact pD_nls _ | ((repeat' (first | assumption | with_reducible exact nls_ints _ | with_reducible exact nls_strs _ | with_reducible exact pD_nls _ | with_reducible rfl | with_reducible apply nls_cons | with_reducible apply nls_app | with_reducible exact nls_nil | with_reducible apply nl_tup | with_reducible exact nl_int | with_reducible exact nl_str)); done)))) | ((with_reducible apply wo_getTZ); (· (first | omega | (simp only [List.length_cons, List.length_nil, List.length_map, List.length_append]; omega))); (· assumption)) | ((with_reducible apply wo_slTo); (· (first | omega | (simp only [List.length_cons, List.length_nil, List.length_map, List.length_append]; omega))); (· assumption); intro R hR hRl hRm hRn) | ((with_reducible apply wo_slFr); (· (first | omega | (simp only [List.length_cons, List.length_nil, List.length_map, List.length_append]; omega))); (· assumption); intro R hR hRl hRn) | ((with_reducible apply wo_slMi); (· (first | omega | (simp only [List.length_cons, List.length_nil, List.length_map, List.length_append]; omega))); (· (first | omega | (simp only [List.length_cons, List.length_nil, List.length_map, List.length_append]; omega))); (· assumption); intro R hR hRl hRn) | (refine wo_addLay1 (by assumption) ?_ (by omega) (fun R hR hRl hRn => ?_)) | ((with_reducible apply wo_addLay2); (· assumption); (· assumption); (· assumption); (· (first | omega | (simp only [List.length_cons, List.length_nil, List.length_map, List.length_append]; omega))); intro R hR hRl hRn) | ((with_reducible apply wo_addLay); (· assumption); (· assumption); (· (first | omega | (simp only [List.length_cons, List.length_nil, List.length_map, List.length_append]; omega))); intro R hR hRl hRn) | ((with_reducible apply wo_ixNL); (· (first | rfl | assumption | with_reducible exact nls_ints _ | with_reducible exact nls_strs _ | with_reducible exact pD_nls _ | ((repeat' (first | assumption | with_reducible exact nls_ints _ | with_reducible exact nls_strs _ | with_reducible exact pD_nls _ | with_reducible rfl | with_reducible apply nls_cons | with_reducible apply nls_app | with_reducible exact nls_nil | with_reducible apply nl_tup | with_reducible exact nl_int | with_reducible exact nl_str)); done))); (· (first | omega | (simp only [List.length_cons, List.length_nil, List.length_map, List.length_append]; omega))); (· (first | omega | (simp only [List.length_cons, List.length_nil, List.length_map, List.length_append]; omega))); intro d hd) | (refine Or.inr ⟨_, _, rfl, by assumption, by assumption, by assumption⟩) | (refine q _ _ (by assumption) (by assumption) (by omega)) | (refine Or.inr (by assumption)) | (refine Or.inl (RLmk (by omega) (by omega) (by omega) (by first | rfl | assumption))) | decreasing_trivial_pre_omega))))) only [↓Bv.boxT]
theorem w_bent {L ds : List D} {Q : D → List D → Prop} (v : VD L) (hy : Lay ds) (hl : ds.length ≤ 40) (q : ∀ ds' L', VD L' → Lay ds' → ds'.length ≤ ds.length + 1 → Q (.tup ds') [.lst L', .tup ds]) : WF m__law_bent [.lst L, .tup ds] Q := by
  refine Bv.unbox ?_
  simp (disch := (
    refine Bv.idP ?_
    with_unfolding_all (
  have hn := hy.nls
  refine wf_mk ?_
  (repeat' (first | ((with_reducible apply w_draw); (· (first | assumption | exact ⟨_, _, _, _, _, rfl, by omega, by first | omega | exact hi_nn _⟩)); (· (first | omega | (simp only [List.length_cons, List.length_nil, List.length_map, List.length_append]; omega))); (· (first | omega | (simp only [List.length_cons, List.length_nil, List.length_map, List.length_append]; omega))); intro r L' v hr1 hr2) | ((with_reducible apply w_rate); (· (first | assumption | exact ⟨_, _, _, _, _, rfl, by omega, by first | omega | exact hi_nn _⟩)); (· (first | omega | (simp only [List.length_cons, List.length_nil, List.length_map, List.length_append]; omega))); (· (first | omega | (simp only [List.length_cons, List.length_nil, List.length_map, List.length_append]; omega))); intro d L' v hd) | ((with_reducible apply w_is_layer); (· (first | assumption | exact ⟨_, _, _, _, _, rfl, by omega, by first | omega | exact hi_nn _⟩)); intro d L' v hd) | ((with_reducible apply wo_sl43)) | ((with_reducible apply wo_sl42)) | ((with_reducible apply wo_add31); (· (first | rfl | assumption | with_reducible exact nls_ints _ | with_reducible exact nls_strs _ | with_reducible exact pD_nls _ | ((repeat' (first | assumption | with_reducible exact nls_ints _ | with_reducible exact nls_strs _ | with_reducible exact pD_nls _ | with_reducible rfl | with_reducible apply nls_cons | with_reducible apply nls_app | with_reducible exact nls_nil | with_reducible apply nl_tup | with_reducible exact nl_int | with_reducible exact nl_str)); done))); (· (first | rfl | assumption | with_reducible exact nls_ints _ | with_reducible exact nls_strs _ | with_reducible exact pD_nls _ | ((repeat' (first | assumption | with_reducible exact nls_ints _ | with_reducible exact nls_strs _ | with_reducible exact pD_nls _ | with_reducible rfl | with_reducible apply nls_cons | with_reducible apply nls_app | with_reducible exact nls_nil | with_reducible apply nl_tup | with_reducible exact nl_int | with_reducible exact nl_str)); done)))) | ((with_reducible apply wo_add22); (· (first | rfl | assumption | with_reducible exact nls_ints _ | with_reducible exact nls_strs _ | with_reducible exact pD_nls _ | ((repeat' (first | assumption | with_reducible exact nls_ints _ | with_reducible exact nls_strs _ | with_reducible exact pD_nls _ | with_reducible rfl | with_reducible apply nls_cons | with_reducible apply nls_app | with_reducible exact nls_nil | with_reducible apply nl_tup | with_reducible exact nl_int | with_reducible exact nl_str)); done))); (· (first | rfl | assumption | with_reducible exact nls_ints _ | with_reducible exact nls_strs _ | with_reducible exact pD_nls _ | ((repeat' (first | assumption | with_reducible exact nls_ints _ | with_reducible exact nls_strs _ | with_reducible exact pD_nls _ | with_reducible rfl | with_reducible apply nls_cons | with_reducible apply nls_app | with_reducible exact nls_nil | with_reducible apply nl_tup | with_reducible exact nl_int | with_reducible exact nl_str)); done)))) | ((with_reducible apply wo_getTZ); (· (first | omega | (simp only [List.length_cons, List.length_nil, List.length_map, List.length_append]; omega))); (· assumption)) | ((with_reducible apply wo_slTo); (· (first | omega | (simp only [List.length_cons, List.length_nil, List.length_map, List.length_append]; omega))); (· assumption); intro R hR hRl hRm hRn) | ((with_reducible apply wo_slFr); (· (first | omega | (simp only [List.length_cons, List.length_nil, List.length_map, List.length_append]; omega))); (· assumption); intro R hR hRl hRn) | ((with_reducible apply wo_slMi); (· (first | omega | (simp only [List.length_cons, List.length_nil, List.length_map, List.length_append]; omega))); (· (first | omega | (simp only [List.length_cons, List.length_nil, List.length_map, List.length_append]; omega))); (· assumption); intro R hR hRl hRn) | (refine wo_addLay1 (by assumption) ?_ (by omega) (fun R hR hRl hRn => ?_)) | ((with_reducible apply wo_addLay2); (· assumption); (· assumption); (· assumption); (· (first | omega | (simp only [List.length_cons, List.length_nil, List.length_map, List.length_append]; omega))); intro R hR hRl hRn) | ((with_reducible apply wo_addLay); (· assumption); (· assumption); (· (first | omega | (simp only [List.length_cons, List.length_nil, List.length_map, List.length_append]; omega))); intro R hR hRl hRn) | ((with_reducible apply wo_ixNL); (· (first | rfl | assumption | with_reducible exact nls_ints _ | with_reducible exact nls_strs _ | with_reducible exact pD_nls _ | ((repeat' (first | assumption | with_reducible exact nls_ints _ | with_reducible exact nls_strs _ | with_reducible exact pD_nls _ | with_reducible rfl | with_reducible apply nls_cons | with_reducible apply nls_app | with_reducible exact nls_nil | with_reducible apply nl_tup | with_reducible exact nl_int | with_reducible exact nl_str)); done))); (· (first | omega | (simp only [List.length_cons, List.length_nil, List.length_map, List.length_append]; omega))); (· (first | omega | (simp only [List.length_cons, List.length_nil, List.length_map, List.length_append]; omega))); intro d hd) | (refine Or.inr ⟨_, _, rfl, by assumption, by assumption, by assumption⟩) | (refine q _ _ (by assumption) (by assumption) (by omega)) | (refine Or.inr (by assumption)) | (refine Or.inl (RLmk (by omega) (by omega) (by omega) (by first | rfl | assumption))) | decreasing_trivial_pre_omega))
  all_goals rcases lay_at (r := r) hy (by omega) (by omega) with ⟨n, k, x, e, h1, h2, h3, hx, hd⟩ | ⟨nm, v, e, _, _, _, hd⟩
  · (repeat' (first | ((with_reducible apply w_draw); (· (first | assumption | exact ⟨_, _, _, _, _, rfl, by omega, by first | omega | exact hi_nn _⟩)); (· (first | omega | (simp only [List.length_cons, List.length_nil, List.length_map, List.length_append]; omega))); (· (first | omega | (simp only [List.length_cons, List.length_nil, List.length_map, List.length_append]; omega))); intro r L' v hr1 hr2) | ((with_reducible apply w_rate); (· (first | assumption | exact ⟨_, _, _, _, _, rfl, by omega, by first | omega | exact hi_nn _⟩)); (· (first | omega | (simp only [List.length_cons, List.length_nil, List.length_map, List.length_append]; omega))); (· (first | omega | (simp only [List.length_cons, List.length_nil, List.length_map, List.length_append]; omega))); intro d L' v hd) | ((with_reducible apply w_is_layer); (· (first | assumption | exact ⟨_, _, _, _, _, rfl, by omega, by first | omega | exact hi_nn _⟩)); intro d L' v hd) | ((with_reducible apply wo_sl43)) | ((with_reducible apply wo_sl42)) | ((with_reducible apply wo_add31); (· (first | rfl | assumption | with_reducible exact nls_ints _ | with_reducible exact nls_strs _ | with_reducible exact pD_nls _ | ((repeat' (first | assumption | with_reducible exact nls_ints _ | with_reducible exact nls_strs _ | with_reducible exact pD_nls _ | with_reducible rfl | with_reducible apply nls_cons | with_reducible apply nls_app | with_reducible exact nls_nil | with_reducible apply nl_tup | with_reducible exact nl_int | with_reducible exact nl_str)); done))); (· (first | rfl | assumption | with_reducible exact nls_ints _ | with_reducible exact nls_strs _ | with_reducible exact pD_nls _ | ((repeat' (first | assumption | with_reducible exact nls_ints _ | with_reducible exact nls_strs _ | with_reducible exact pD_nls _ | with_reducible rfl | with_reducible apply nls_cons | with_reducible apply nls_app | with_reducible exact nls_nil | with_reducible apply nl_tup | with_reducible exact nl_int | with_reducible exact nl_str)); done)))) | ((with_reducible apply wo_add22); (· (first | rfl | assumption | with_reducible exact nls_ints _ | with_reducible exact nls_strs _ | with_reducible exact pD_nls _ | ((repeat' (first | assumption | with_reducible exact nls_ints _ | with_reducible exact nls_strs _ | with_reducible exact pD_nls _ | with_reducible rfl | with_reducible apply nls_cons | with_reducible apply nls_app | with_reducible exact nls_nil | with_reducible apply nl_tup | with_reducible exact nl_int | with_reducible exact nl_str)); done))); (· (first | rfl | assumption | with_reducible exact nls_ints _ | with_reducible exact nls_strs _ | with_reducible exact pD_nls _ | ((repeat' (first | assumption | with_reducible exact nls_ints _ | with_reducible exact nls_strs _ | with_reducible exact pD_nls _ | with_reducible rfl | with_reducible apply nls_cons | with_reducible apply nls_app | with_reducible exact nls_nil | with_reducible apply nl_tup | with_reducible exact nl_int | with_reducible exact nl_str)); done)))) | ((with_reducible apply wo_getTZ); (· (first | omega | (simp only [List.length_cons, List.length_nil, List.length_map, List.length_append]; omega))); (· assumption)) | ((with_reducible apply wo_slTo); (· (first | omega | (simp only [List.length_cons, List.length_nil, List.length_map, List.length_append]; omega))); (· assumption); intro R hR hRl hRm hRn) | ((with_reducible apply wo_slFr); (· (first | omega | (simp only [List.length_cons, List.length_nil, List.length_map, List.length_append]; omega))); (· assumption); intro R hR hRl hRn) | ((with_reducible apply wo_slMi); (· (first | omega | (simp only [List.length_cons, List.length_nil, List.length_map, List.length_append]; omega))); (· (first | omega | (simp only [List.length_cons, List.length_nil, List.length_map, List.length_append]; omega))); (· assumption); intro R hR hRl hRn) | (refine wo_addLay1 (by assumption) ?_ (by omega) (fun R hR hRl hRn => ?_)) | ((with_reducible apply wo_addLay2); (· assumption); (· assumption); (· assumption); (· (first | omega | (simp only [List.length_cons, List.length_nil, List.length_map, List.length_append]; omega))); intro R hR hRl hRn) | ((with_reducible apply wo_addLay); (· assumption); (· assumption); (· (first | omega | (simp only [List.length_cons, List.length_nil, List.length_map, List.length_append]; omega))); intro R hR hRl hRn) | ((with_reducible apply wo_ixNL); (· (first | rfl | assumption | with_reducible exact nls_ints _ | with_reducible exact nls_strs _ | with_reducible exact pD_nls _ | ((repeat' (first | assumption | with_reducible exact nls_ints _ | with_reducible exact nls_strs _ | with_reducible exact pD_nls _ | with_reducible rfl | with_reducible apply nls_cons | with_reducible apply nls_app | with_reducible exact nls_nil | with_reducible apply nl_tup | with_reducible exact nl_int | with_reducible exact nl_str)); done))); (· (first | omega | (simp only [List.length_cons, List.length_nil, List.length_map, List.length_append]; omega))); (· (first | omega | (simp only [List.length_cons, List.length_nil, List.length_map, List.length_append]; omega))); intro d hd) | (refine Or.inr ⟨_, _, rfl, by assumption, by assumption, by assumption⟩) | (refine q _ _ (by assumption) (by assumption) (by omega)) | (refine Or.inr (by assumption)) | (refine Or.inl (RLmk (by omega) (by omega) (by omega) (by first | rfl | assumption))) | decreasing_trivial_pre_omega))
  · (repeat' (first | ((with_reducible apply w_draw); (· (first | assumption | exact ⟨_, _, _, _, _, rfl, by omega, by first | omega | exact hi_nn _⟩)); (· (first | omega | (simp only [List.length_cons, List.length_nil, List.length_map, List.length_append]; omega))); (· (first | omega | (simp only [List.length_cons, List.length_nil, List.length_map, List.length_append]; omega))); intro r L' v hr1 hr2) | ((with_reducible apply w_rate); (· (first | assumption | exact ⟨_, _, _, _, _, rfl, by omega, by first | omega | exact hi_nn _⟩)); (· (first | omega | (simp only [List.length_cons, List.length_nil, List.length_map, List.length_append]; omega))); (· (first | omega | (simp only [List.length_cons, List.length_nil, List.length_map, List.length_append]; omega))); intro d L' v hd) | ((with_reducible apply w_is_layer); (· (first | assumption | exact ⟨_, _, _, _, _, rfl, by omega, by first | omega | exact hi_nn _⟩)); intro d L' v hd) | ((with_reducible apply wo_sl43)) | ((with_reducible apply wo_sl42)) | ((with_reducible apply wo_add31); (· (first | rfl | assumption | with_reducible exact nls_ints _ | with_reducible exact nls_strs _ | with_reducible exact pD_nls _ | ((repeat' (first | assumption | with_reducible exact nls_ints _ | with_reducible exact nls_strs _ | with_reducible exact pD_nls _ | with_reducible rfl | with_reducible apply nls_cons | with_reducible apply nls_app | with_reducible exact nls_nil | with_reducible apply nl_tup | with_reducible exact nl_int | with_reducible exact nl_str)); done))); (· (first | rfl | assumption | with_reducible exact nls_ints _ | with_reducible exact nls_strs _ | with_reducible exact pD_nls _ | ((repeat' (first | assumption | with_reducible exact nls_ints _ | with_reducible exact nls_strs _ | with_reducible exact pD_nls _ | with_reducible rfl | with_reducible apply nls_cons | with_reducible apply nls_app | with_reducible exact nls_nil | with_reducible apply nl_tup | with_reducible exact nl_int | with_reducible exact nl_str)); done)))) | ((with_reducible apply wo_add22); (· (first | rfl | assumption | with_reducible exact nls_ints _ | with_reducible exact nls_strs _ | with_reducible exact pD_nls _ | ((repeat' (first | assumption | with_reducible exact nls_ints _ | with_reducible exact nls_strs _ | with_reducible exact pD_nls _ | with_reducible rfl | with_reducible apply nls_cons | with_reducible apply nls_app | with_reducible exact nls_nil | with_reducible apply nl_tup | with_reducible exact nl_int | with_reducible exact nl_str)); done))); (· (first | rfl | assumption | with_reducible exact nls_ints _ | with_reducible exact nls_strs _ | with_reducible exact pD_nls _ | ((repeat' (first | assumption | with_reducible exact nls_ints _ | with_reducible exact nls_strs _ | with_reducible exact pD_nls _ | with_reducible rfl | with_reducible apply nls_cons | with_reducible apply nls_app | with_reducible exact nls_nil | with_reducible apply nl_tup | with_reducible exact nl_int | with_reducible exact nl_str)); done)))) | ((with_reducible apply wo_getTZ); (· (first | omega | (simp only [List.length_cons, List.length_nil, List.length_map, List.length_append]; omega))); (· assumption)) | ((with_reducible apply wo_slTo); (· (first | omega | (simp only [List.length_cons, List.length_nil, List.length_map, List.length_append]; omega))); (· assumption); intro R hR hRl hRm hRn) | ((with_reducible apply wo_slFr); (· (first | omega | (simp only [List.length_cons, List.length_nil, List.length_map, List.length_append]; omega))); (· assumption); intro R hR hRl hRn) | ((with_reducible apply wo_slMi); (· (first | omega | (simp only [List.length_cons, List.length_nil, List.length_map, List.length_append]; omega))); (· (first | omega | (simp only [List.length_cons, List.length_nil, List.length_map, List.length_append]; omega))); (· assumption); intro R hR hRl hRn) | (refine wo_addLay1 (by assumption) ?_ (by omega) (fun R hR hRl hRn => ?_)) | ((with_reducible apply wo_addLay2); (· assumption); (· assumption); (· assumption); (· (first | omega | (simp only [List.length_cons, List.length_nil, List.length_map, List.length_append]; omega))); intro R hR hRl hRn) | ((with_reducible apply wo_addLay); (· assumption); (· assumption); (· (first | omega | (simp only [List.length_cons, List.length_nil, List.length_map, List.length_append]; omega))); intro R hR hRl hRn) | ((with_reducible apply wo_ixNL); (· (first | rfl | assumption | with_reducible exact nls_ints _ | with_reducible exact nls_strs _ | with_reducible exact pD_nls _ | ((repeat' (first | assumption | with_reducible exact nls_ints _ | with_reducible exact nls_strs _ | with_reducible exact pD_nls _ | with_reducible rfl | with_reducible apply nls_cons | with_reducible apply nls_app | with_reducible exact nls_nil | with_reducible apply nl_tup | with_reducible exact nl_int | with_reducible exact nl_str)); done))); (· (first | omega | (simp only [List.length_cons, List.length_nil, List.length_map, List.length_append]; omega))); (· (first | omega | (simp only [List.length_cons, List.length_nil, List.length_map, List.length_append]; omega))); intro d hd) | (refine Or.inr ⟨_, _, rfl, by assumption, by assumption, by assumption⟩) | (refine q _ _ (by assumption) (by assumption) (by omega)) | (refine Or.inr (by assumption)) | (refine Or.inl (RLmk (by omega) (by omega) (by omega) (by first | rfl | assumption))) | decreasing_trivial_pre_omega))))) only [↓Bv.boxT]
end G_k26


namespace G_k26
open PySem PySem.Spec PyProof.Rows L2 Bv Rt
set_option hygiene false
local macro_rules | `(tactic| decreasing_trivial_pre_omega) => `(tactic| first
  | ((with_reducible apply wes_nil))
  | ((with_reducible apply wes_cons))
  | ((with_reducible apply sq_nx))
  | ((with_reducible apply sq_rt))
  | ((with_reducible apply sq_bk))
  | ((with_reducible apply sq_ct))
  | ((with_reducible apply wps_cons))
  | ((with_reducible apply wps_nil))
  | ((with_reducible apply wo3_none))
  | ((with_reducible apply wo3_some))
  | ((with_reducible apply ne_); (· (first | (simp only [List.set_cons_zero, List.set_cons_succ, putBack, wipeE, List.map_cons, List.map_nil, List.length_cons, List.length_nil, List.cons_append, List.nil_append, List.replicate, Nat.reduceSub, Nat.reduceAdd, Nat.reduceLT]; rfl) | rfl)))
  | ((with_reducible apply lq_); (· rfl))
  | ((with_reducible apply nd_); (· (first | rfl | assumption | exact nl_tup (by assumption) | (with_reducible apply nl_tup; ((repeat' (first | assumption | with_reducible exact nls_ints _ | with_reducible exact nls_strs _ | with_reducible exact pD_nls _ | with_reducible rfl | with_reducible apply nls_cons | with_reducible apply nls_app | with_reducible exact nls_nil | with_reducible apply nl_tup | with_reducible exact nl_int | with_reducible exact nl_str)); done)))))
  | ((with_reducible apply lm_insert); (· (first | omega | (simp only [numsD_len, List.length_map, List.length_append, List.length_cons, List.length_nil]; omega))); (· omega); (· omega))
  | ((with_reducible apply wa_nil))
  | ((with_reducible apply wa_val))
  | ((with_reducible apply wr_nil))
  | ((with_reducible apply wr_inl))
  | ((with_reducible apply wa_bor); (· rfl))
  | ((with_reducible apply wr_inr); (· rfl))
  | ((with_reducible apply wc_nil))
  | ((with_reducible apply wl_nil))
  | ((with_reducible apply isb_))
  | ((with_reducible apply isi_))
  | ((with_reducible apply iss_))
  | ((with_reducible apply tr_b))
  | ((with_reducible apply tr_i))
  | ((with_reducible apply tr_n))
  | ((with_reducible apply tr_l))
  | ((with_reducible apply tr_t))
  | ((with_reducible apply br_not))
  | ((with_reducible apply wg_set))
  | ((with_reducible apply wg_tup))
  | ((with_reducible apply wgs_nil))
  | ((with_reducible apply wgs_cons))
  | ((with_reducible apply wi_rng1))
  | ((with_reducible apply wi_rng2))
  | ((with_reducible apply wi_down))
  | ((with_reducible apply wi_seq))
  | ((with_reducible apply lp_nx))
  | ((with_reducible apply lp_ct))
  | ((with_reducible apply lp_bk))
  | ((with_reducible apply lp_rt))
  | ((with_reducible apply fk_rt); (· rfl))
  | ((with_reducible apply fk_nx); (· rfl))
  | ((with_reducible apply fp_rt))
  | ((with_reducible apply fp_nx))
  | ((with_reducible apply sn_); (· rfl))
  | ((with_reducible apply ln_); (· rfl))
  | ((with_reducible apply br_t); (· rfl))
  | ((with_reducible apply br_f); (· rfl))
  | ((with_reducible apply br_dt); (· (first | assumption | decide | omega)))
  | ((with_reducible apply br_df); (· (first | assumption | decide | omega)))
  | (with_reducible refine br_d (fun h => ?_) (fun h => ?_))
  | ((with_reducible apply rg_); (· omega); (· omega))
  | ((with_reducible apply sz_); (· (first | omega | assumption | (simp only [numsD_len, List.length_map, List.length_append, List.length_cons, List.length_nil]; omega))))
  | ((with_reducible apply sz1_); (· (first | omega | assumption | (simp only [numsD_len, List.length_map, List.length_append, List.length_cons, List.length_nil]; omega))))
  | ((with_reducible apply ix_lit); (· rfl))
  | ((with_reducible apply ix_pos); (· omega); (· (first | omega | (simp; omega))))
  | ((with_reducible apply tq_t); (· (first | rfl | assumption | with_reducible exact nls_ints _ | with_reducible exact nls_strs _ | with_reducible exact pD_nls _ | ((repeat' (first | assumption | with_reducible exact nls_ints _ | with_reducible exact nls_strs _ | with_reducible exact pD_nls _ | with_reducible rfl | with_reducible apply nls_cons | with_reducible apply nls_app | with_reducible exact nls_nil | with_reducible apply nl_tup | with_reducible exact nl_int | with_reducible exact nl_str)); done))))
  | ((with_reducible apply tq_l); (· (first | rfl | assumption | with_reducible exact nls_ints _ | with_reducible exact nls_strs _ | with_reducible exact pD_nls _ | ((repeat' (first | assumption | with_reducible exact nls_ints _ | with_reducible exact nls_strs _ | with_reducible exact pD_nls _ | with_reducible rfl | with_reducible apply nls_cons | with_reducible apply nls_app | with_reducible exact nls_nil | with_reducible apply nl_tup | with_reducible exact nl_int | with_reducible exact nl_str)); done))))
  | ((with_reducible apply tq_f); (· (first | rfl | assumption | with_reducible exact nls_ints _ | with_reducible exact nls_strs _ | with_reducible exact pD_nls _ | ((repeat' (first | assumption | with_reducible exact nls_ints _ | with_reducible exact nls_strs _ | with_reducible exact pD_nls _ | with_reducible rfl | with_reducible apply nls_cons | with_reducible apply nls_app | with_reducible exact nls_nil | with_reducible apply nl_tup | with_reducible exact nl_int | with_reducible exact nl_str)); done))))
  | ((with_reducible apply in_SS1); (· rfl))
  | ((with_reducible apply in_ST); (· rfl))
  | ((with_reducible apply in_); (· rfl))
  | ((with_reducible apply lm_append); (· (first | omega | (simp only [numsD_len, List.length_map, List.length_append, List.length_cons, List.length_nil]; omega))))
  | ((with_reducible apply lm_extL); (· (first | omega | (simp only [numsD_len, List.length_map, List.length_append, List.length_cons, List.length_nil]; omega))); (· (first | rfl | assumption)))
  | ((with_reducible apply lm_extT); (· (first | omega | (simp only [numsD_len, List.length_map, List.length_append, List.length_cons, List.length_nil]; omega))); (· (first | rfl | assumption)))
  | ((with_reducible apply rb_); (· omega); (· omega); (· omega); (· omega))
  | ((with_reducible apply br_et); (· (first | assumption | rfl)))
  | ((with_reducible apply br_ef); (· (first | assumption | (intro h; simp only [D.tup.injEq, List.cons.injEq, D.str.injEq, D.int.injEq, reduceCtorEq, false_and, and_false] at h; done))))
  | (with_reducible refine br_e (fun h => ?_) (fun h => ?_))
  | ((with_reducible apply wlis_nil); (· rfl); (· (first | exact Nat.le_refl _ | omega)))
  | ((with_reducible apply wcis_nil); (· rfl); (· (first | exact Nat.le_refl _ | omega)))
  | ((with_reducible apply wlis_cons); (· rfl); (· rfl); (· (first | rfl | assumption | exact nl_tup (by assumption) | (with_reducible apply nl_tup; ((repeat' (first | assumption | with_reducible exact nls_ints _ | with_reducible exact nls_strs _ | with_reducible exact pD_nls _ | with_reducible rfl | with_reducible apply nls_cons | with_reducible apply nls_app | with_reducible exact nls_nil | with_reducible apply nl_tup | with_reducible exact nl_int | with_reducible exact nl_str)); done)))))
  | ((with_reducible apply wcis_cons); (· rfl); (· rfl); (· (first | rfl | assumption | exact nl_tup (by assumption) | (with_reducible apply nl_tup; ((repeat' (first | assumption | with_reducible exact nls_ints _ | with_reducible exact nls_strs _ | with_reducible exact pD_nls _ | with_reducible rfl | with_reducible apply nls_cons | with_reducible apply nls_app | with_reducible exact nls_nil | with_reducible apply nl_tup | with_reducible exact nl_int | with_reducible exact nl_str)); done)))))
  | ((with_reducible apply sa_lst); (· rfl))
  | ((with_reducible apply sa_dic); (· rfl); (· (first | rfl | assumption | exact nl_tup (by assumption) | (with_reducible apply nl_tup; ((repeat' (first | assumption | with_reducible exact nls_ints _ | with_reducible exact nls_strs _ | with_reducible exact pD_nls _ | with_reducible rfl | with_reducible apply nls_cons | with_reducible apply nls_app | with_reducible exact nls_nil | with_reducible apply nl_tup | with_reducible exact nl_int | with_reducible exact nl_str)); done)))))
  | ((with_reducible apply ky_i))
  | ((with_reducible apply ky_s))
  | ((with_reducible apply dn_); (· rfl))
  | ((with_reducible apply fv_nx))
  | ((with_reducible apply fv_rt))
  | ((with_reducible apply wc_consA))
  | ((with_reducible apply wl_consA))
  | ((with_reducible apply wi_enum))
  | (with_reducible refine br_empM (fun h => ?_) (fun h => ?_))
  | (with_reducible refine br_emp (fun h => ?_) (fun h => ?_))
  | (with_reducible refine br_ (fun h => ?_) (fun h => ?_))
  | (with_reducible assumption)
  | (with_reducible rfl)
  | fail)
local macro_rules | `(tactic| decreasing_trivial_pre_omega) => `(tactic| ((with_reducible apply g_wo); first
  | ((with_reducible apply wo_ixZ); (· omega); (· assumption))
  | ((with_reducible apply wo_getN); (· assumption))
  | ((with_reducible apply wo_getZ); (· omega); (· assumption))
  | ((with_reducible apply wo_get1))
  | ((with_reducible apply wo_get2))
  | ((with_reducible apply wo_get3))
  | ((with_reducible apply wo_ixTa))
  | ((with_reducible apply wo_ixTb))
  | ((with_reducible apply wo_ixTc))
  | ((with_reducible apply wo_get0))
  | ((with_reducible apply wo_min2))
  | ((with_reducible apply wo_max2))
  | ((with_reducible apply wo_sumL))
  | ((with_reducible apply wo_addI))
  | ((with_reducible apply wo_subI))
  | ((with_reducible apply wo_andI))
  | ((with_reducible apply wo_ltI))
  | ((with_reducible apply wo_leI))
  | ((with_reducible apply wo_gtI))
  | ((with_reducible apply wo_gtXI))
  | ((with_reducible apply wo_geI))
  | ((with_reducible apply wo_eqI))
  | ((with_reducible apply wo_eqS))
  | ((with_reducible apply wo_neI))
  | ((with_reducible apply wo_neS))
  | ((with_reducible apply wo_negI))
  | ((with_reducible apply wo_lenT))
  | ((with_reducible apply wo_lenL))
  | ((with_reducible apply wo_lenXT))
  | ((with_reducible apply wo_lenXL))
  | ((with_reducible apply wo_lenXD))
  | ((with_reducible apply wo_lenXF))
  | ((with_reducible apply wo_intI))
  | ((with_reducible apply wo_notB))
  | ((with_reducible apply wo_maxL); (· (first | omega | assumption | (rw [List.length_map]; omega))))
  | ((with_reducible apply wo_lenS); (· (first | assumption | omega)))
  | ((with_reducible apply wo_lenXS); (· (first | assumption | omega)))
  | ((with_reducible apply wo_addS); (· (first | assumption | omega)))
  | ((with_reducible apply wo_slS); (· (first | assumption | omega)))
  | ((with_reducible apply wo_revT); (· (first | rfl | assumption)))
  | ((with_reducible apply wo_revLs); (· (first | rfl | assumption)))
  | ((with_reducible apply wo_mulXI); (· (first | exact cMul_r (by decide) | exact cMul_l (by decide) | exact cMul_r (decide_eq_true ⟨by omega, by omega⟩) | exact cMul_l (decide_eq_true ⟨by omega, by omega⟩))))
  | ((with_reducible apply wo_mul); (· (first | exact cMul_r (by decide) | exact cMul_l (by decide))))
  | ((with_reducible apply wo_addT); (· (first | omega | (simp only [List.length_append, List.length_map, List.length_cons, List.length_nil]; omega))); (· (first | rfl | assumption | with_reducible exact nls_ints _ | with_reducible exact nls_strs _ | with_reducible exact pD_nls _ | ((repeat' (first | assumption | with_reducible exact nls_ints _ | with_reducible exact nls_strs _ | with_reducible exact pD_nls _ | with_reducible rfl | with_reducible apply nls_cons | with_reducible apply nls_app | with_reducible exact nls_nil | with_reducible apply nl_tup | with_reducible exact nl_int | with_reducible exact nl_str)); done))); (· (first | rfl | assumption | with_reducible exact nls_ints _ | with_reducible exact nls_strs _ | with_reducible exact pD_nls _ | ((repeat' (first | assumption | with_reducible exact nls_ints _ | with_reducible exact nls_strs _ | with_reducible exact pD_nls _ | with_reducible rfl | with_reducible apply nls_cons | with_reducible apply nls_app | with_reducible exact nls_nil | with_reducible apply nl_tup | with_reducible exact nl_int | with_reducible exact nl_str)); done))))
  | ((with_reducible apply wo_addL); (· (first | omega | (simp only [List.length_append, List.length_map, List.length_cons, List.length_nil]; omega))); (· (first | rfl | assumption | with_reducible exact nls_ints _ | with_reducible exact nls_strs _ | with_reducible exact pD_nls _ | ((repeat' (first | assumption | with_reducible exact nls_ints _ | with_reducible exact nls_strs _ | with_reducible exact pD_nls _ | with_reducible rfl | with_reducible apply nls_cons | with_reducible apply nls_app | with_reducible exact nls_nil | with_reducible apply nl_tup | with_reducible exact nl_int | with_reducible exact nl_str)); done))); (· (first | rfl | assumption | with_reducible exact nls_ints _ | with_reducible exact nls_strs _ | with_reducible exact pD_nls _ | ((repeat' (first | assumption | with_reducible exact nls_ints _ | with_reducible exact nls_strs _ | with_reducible exact pD_nls _ | with_reducible rfl | with_reducible apply nls_cons | with_reducible apply nls_app | with_reducible exact nls_nil | with_reducible apply nl_tup | with_reducible exact nl_int | with_reducible exact nl_str)); done))))
  | ((with_reducible apply wo_mod); (· (first | decide | omega | assumption)))
  | ((with_reducible apply wo_fdiv); (· (first | assumption | decide | omega)); (· (first | assumption | decide | omega)))
  | ((with_reducible apply wo_fdivN); (· (first | assumption | decide | omega)); (· (first | assumption | decide | omega)))
  | ((with_reducible apply wo_divmod); (· (first | assumption | decide | omega)); (· (first | assumption | decide | omega)))
  | ((with_reducible apply wo_shl); (· decide))
  | ((with_reducible apply wo_pow); (· decide))
  | ((with_reducible apply wo_toTupL); (· (first | rfl | assumption | with_reducible exact nls_ints _ | with_reducible exact nls_strs _ | with_reducible exact pD_nls _ | ((repeat' (first | assumption | with_reducible exact nls_ints _ | with_reducible exact nls_strs _ | with_reducible exact pD_nls _ | with_reducible rfl | with_reducible apply nls_cons | with_reducible apply nls_app | with_reducible exact nls_nil | with_reducible apply nl_tup | with_reducible exact nl_int | with_reducible exact nl_str)); done))))
  | ((with_reducible apply wo_toTupT); (· (first | rfl | assumption | with_reducible exact nls_ints _ | with_reducible exact nls_strs _ | with_reducible exact pD_nls _ | ((repeat' (first | assumption | with_reducible exact nls_ints _ | with_reducible exact nls_strs _ | with_reducible exact pD_nls _ | with_reducible rfl | with_reducible apply nls_cons | with_reducible apply nls_app | with_reducible exact nls_nil | with_reducible apply nl_tup | with_reducible exact nl_int | with_reducible exact nl_str)); done))))
  | ((with_reducible apply wo_toLstL); (· (first | rfl | assumption | with_reducible exact nls_ints _ | with_reducible exact nls_strs _ | with_reducible exact pD_nls _ | ((repeat' (first | assumption | with_reducible exact nls_ints _ | with_reducible exact nls_strs _ | with_reducible exact pD_nls _ | with_reducible rfl | with_reducible apply nls_cons | with_reducible apply nls_app | with_reducible exact nls_nil | with_reducible apply nl_tup | with_reducible exact nl_int | with_reducible exact nl_str)); done))))
  | ((with_reducible apply wo_toLstT); (· (first | rfl | assumption | with_reducible exact nls_ints _ | with_reducible exact nls_strs _ | with_reducible exact pD_nls _ | ((repeat' (first | assumption | with_reducible exact nls_ints _ | with_reducible exact nls_strs _ | with_reducible exact pD_nls _ | with_reducible rfl | with_reducible apply nls_cons | with_reducible apply nls_app | with_reducible exact nls_nil | with_reducible apply nl_tup | with_reducible exact nl_int | with_reducible exact nl_str)); done))))
  | ((with_reducible refine wo_ixI ?ha ?h0 ?h1 (fun x hx => ?q)); (case ha => rfl); (case h0 => omega); (case h1 => first | omega | (simp only [List.length_cons, List.length_nil]; omega)); (try simp only [List.mem_cons, D.int.injEq, List.not_mem_nil, or_false] at hx))
  | ((with_reducible refine wo_ixS ?ha ?h0 ?h1 (fun x hx => ?q)); (case ha => first | rfl | assumption); (case h0 => omega); (case h1 => first | omega | (simp only [List.length_cons, List.length_nil]; omega)))
  | ((with_reducible apply (wo_ (o := slD (.tup _) _ _))); (· rfl))
  | ((with_reducible apply (wo_ (o := eqD _ _))); (· rfl))
  | ((with_reducible apply (wo_ (o := neD _ _))); (· rfl))
  | ((with_reducible apply (wo_ (o := isND _ _))); (· rfl))
  | ((with_reducible apply (wo_ (o := notND _ _))); (· rfl))
  | ((with_reducible apply (wo_ (o := getD _ _))); (· rfl))
  | ((with_reducible apply (wo_ (o := ixD _ _))); (· rfl))
  | ((with_reducible apply (wo_ (o := isiD _ _))); (· rfl))
  | ((with_reducible apply (wo_ (o := lenD _))); (· rfl))
  | ((with_reducible apply (wo_ (o := lenX _))); (· rfl))
  | ((with_reducible apply (wo_ (o := notD _))); (· rfl))
  | ((with_reducible apply (wo_ (o := notT _))); (· rfl))
  | ((with_reducible apply (wo_ (o := toInt _))); (· rfl))
  | ((with_reducible apply (wo_ (o := absD _))); (· rfl))
  | ((with_reducible apply (wo_ (o := splitD _ _))); (· rfl))
  | ((with_reducible apply (wo_ (o := negD _))); (· rfl))
  | ((with_reducible apply (wo_ (o := inD _ _))); (· rfl))
  | ((with_reducible apply (wo_ (o := notInD _ _))); (· rfl))
  | ((with_reducible apply wo_allL))
  | ((with_reducible apply wo_anyL))
  | ((with_reducible apply wo_tabIn))
  | ((with_reducible apply wo_tabNotIn))
  | ((with_reducible apply wo_tabGet); (· rfl))
  | ((with_reducible refine wo_ixMI ?h0 ?h1 (fun i hi => ?q)); (case h0 => first | omega | (simp only [List.length_map] at *; omega)); (case h1 => first | omega | (simp only [List.length_map] at *; omega)))
  | ((with_reducible apply wo_eqSm); (· (first | assumption | rfl | with_reducible exact smB_cutP _ _ _ | with_reducible exact pD_sm _)); (· (first | assumption | rfl | with_reducible exact smB_cutP _ _ _ | with_reducible exact pD_sm _)))
  | ((with_reducible apply wo_neSm); (· (first | assumption | rfl | with_reducible exact smB_cutP _ _ _ | with_reducible exact pD_sm _)); (· (first | assumption | rfl | with_reducible exact smB_cutP _ _ _ | with_reducible exact pD_sm _)))
  | fail))
local macro_rules | `(tactic| decreasing_trivial_pre_omega) => `(tactic| ((with_reducible apply g_wp); first
  | ((with_reducible apply wp_bin))
  | ((with_reducible apply wp_c))
  | ((with_reducible apply wp_b))
  | ((with_reducible apply wp_un))
  | ((with_reducible apply wp_tup))
  | ((with_reducible apply wp_sl))
  | ((with_reducible apply wp_var); (· rfl))
  | fail))
local macro_rules | `(tactic| decreasing_trivial_pre_omega) => `(tactic| ((with_reducible apply g_wt); first
  | ((with_reducible apply wt_asT))
  | ((with_reducible apply wt_tru))
  | ((with_reducible apply wt_truP))
  | ((with_reducible apply wt_and))
  | ((with_reducible apply wt_or))
  | ((with_reducible apply wt_not))
  | ((with_reducible apply wt_yes))
  | fail))
local macro_rules | `(tactic| decreasing_trivial_pre_omega) => `(tactic| ((with_reducible apply g_we); first
  | ((with_reducible apply we_own))
  | ((with_reducible apply we_pure))
  | ((with_reducible apply we_tup))
  | ((with_reducible apply we_lst))
  | ((with_reducible apply we_b))
  | ((with_reducible apply we_bin))
  | ((with_reducible apply we_binP))
  | ((with_reducible apply we_un))
  | ((with_reducible apply we_dict0))
  | ((with_reducible apply we_if))
  | ((with_reducible apply we_and))
  | ((with_reducible apply we_or))
  | ((with_reducible apply we_inF))
  | ((with_reducible apply we_inT))
  | ((with_reducible apply we_inAny))
  | ((with_reducible apply we_chain))
  | ((with_reducible apply we_sm))
  | ((with_reducible apply we_slN))
  | ((with_reducible apply we_sl))
  | ((with_reducible apply we_rev))
  | ((with_reducible apply we_lc))
  | ((with_reducible apply we_take); (· rfl); (· (first | rfl | assumption | exact nl_tup (by assumption) | (with_reducible apply nl_tup; ((repeat' (first | assumption | with_reducible exact nls_ints _ | with_reducible exact nls_strs _ | with_reducible exact pD_nls _ | with_reducible rfl | with_reducible apply nls_cons | with_reducible apply nls_app | with_reducible exact nls_nil | with_reducible apply nl_tup | with_reducible exact nl_int | with_reducible exact nl_str)); done)))))
  | ((with_reducible apply we_takeL); (· rfl); (· rfl))
  | ((with_reducible apply we_ixN); (· rfl))
  | ((with_reducible apply we_append); (· rfl))
  | ((with_reducible apply we_lmut); (· rfl))
  | (with_reducible refine we_call ?_ (by decide))
  | ((with_reducible apply we_lmutI); (· rfl))
  | ((with_reducible apply we_slM))
  | ((with_reducible apply we_rgL1))
  | ((with_reducible apply we_rgT1))
  | ((with_reducible apply we_rgL2))
  | ((with_reducible apply we_lcWt); (· rfl); (· (first | rfl | assumption | with_reducible exact nls_ints _ | with_reducible exact nls_strs _ | with_reducible exact pD_nls _ | ((repeat' (first | assumption | with_reducible exact nls_ints _ | with_reducible exact nls_strs _ | with_reducible exact pD_nls _ | with_reducible rfl | with_reducible apply nls_cons | with_reducible apply nls_app | with_reducible exact nls_nil | with_reducible apply nl_tup | with_reducible exact nl_int | with_reducible exact nl_str)); done))); (· (first | omega | assumption | (simp only [List.length_map, List.length_append, List.length_cons, List.length_nil]; omega))))
  | ((with_reducible apply we_lcWl); (· rfl); (· (first | rfl | assumption | with_reducible exact nls_ints _ | with_reducible exact nls_strs _ | with_reducible exact pD_nls _ | ((repeat' (first | assumption | with_reducible exact nls_ints _ | with_reducible exact nls_strs _ | with_reducible exact pD_nls _ | with_reducible rfl | with_reducible apply nls_cons | with_reducible apply nls_app | with_reducible exact nls_nil | with_reducible apply nl_tup | with_reducible exact nl_int | with_reducible exact nl_str)); done))); (· (first | omega | assumption | (simp only [List.length_map, List.length_append, List.length_cons, List.length_nil]; omega))))
  | ((with_reducible apply we_lcWf); (· rfl); (· (first | rfl | assumption | with_reducible exact nls_ints _ | with_reducible exact nls_strs _ | with_reducible exact pD_nls _ | ((repeat' (first | assumption | with_reducible exact nls_ints _ | with_reducible exact nls_strs _ | with_reducible exact pD_nls _ | with_reducible rfl | with_reducible apply nls_cons | with_reducible apply nls_app | with_reducible exact nls_nil | with_reducible apply nl_tup | with_reducible exact nl_int | with_reducible exact nl_str)); done))); (· (first | omega | assumption | (simp only [List.length_map, List.length_append, List.length_cons, List.length_nil]; omega))))
  | fail))
local macro_rules | `(tactic| decreasing_trivial_pre_omega) => `(tactic| ((with_reducible apply g_ws); first
  | ((with_reducible apply ws_seq))
  | ((with_reducible apply ws_set))
  | ((with_reducible apply ws_ret))
  | ((with_reducible apply ws_retN))
  | ((with_reducible apply ws_if))
  | ((with_reducible apply ws_expr))
  | ((with_reducible apply ws_nil))
  | ((with_reducible apply ws_break))
  | ((with_reducible apply ws_cont))
  | ((with_reducible apply ws_setAny))
  | ((with_reducible apply ws_par))
  | ((with_reducible apply ws_asg))
  | ((with_reducible apply ws_for))
  | ((with_reducible apply ws_forS); (· rfl))
  | ((with_reducible apply ws_forBt); (· rfl); (· (first | rfl | assumption | with_reducible exact nls_ints _ | with_reducible exact nls_strs _ | with_reducible exact pD_nls _ | ((repeat' (first | assumption | with_reducible exact nls_ints _ | with_reducible exact nls_strs _ | with_reducible exact pD_nls _ | with_reducible rfl | with_reducible apply nls_cons | with_reducible apply nls_app | with_reducible exact nls_nil | with_reducible apply nl_tup | with_reducible exact nl_int | with_reducible exact nl_str)); done))))
  | ((with_reducible apply ws_forBl); (· rfl); (· (first | rfl | assumption | with_reducible exact nls_ints _ | with_reducible exact nls_strs _ | with_reducible exact pD_nls _ | ((repeat' (first | assumption | with_reducible exact nls_ints _ | with_reducible exact nls_strs _ | with_reducible exact pD_nls _ | with_reducible rfl | with_reducible apply nls_cons | with_reducible apply nls_app | with_reducible exact nls_nil | with_reducible apply nl_tup | with_reducible exact nl_int | with_reducible exact nl_str)); done))))
  | ((with_reducible apply ws_forBs); (· rfl))
  | ((with_reducible apply ws_forBf); (· rfl); (· (first | rfl | assumption | with_reducible exact nls_ints _ | with_reducible exact nls_strs _ | with_reducible exact pD_nls _ | ((repeat' (first | assumption | with_reducible exact nls_ints _ | with_reducible exact nls_strs _ | with_reducible exact pD_nls _ | with_reducible rfl | with_reducible apply nls_cons | with_reducible apply nls_app | with_reducible exact nls_nil | with_reducible apply nl_tup | with_reducible exact nl_int | with_reducible exact nl_str)); done))))
  | ((with_reducible apply ws_fz); (· rfl))
  | ((with_reducible apply ws_augIx))
  | ((with_reducible apply ws_aug))
  | fail))
set_option hygiene true
mutual
theorem fz_nl : ∀ (d : D), noList d = true → fzD d = d
  | .non, _ => by unfold fzD; rfl
  | .bl _, _ => by unfold fzD; rfl
  | .int _, _ => by unfold fzD; rfl
  | .str _, _ => by unfold fzD; rfl
  | .frz _, _ => by unfold fzD; rfl
  | .dic _, _ => by unfold fzD; rfl
  | .lst _, h => by cases h
  | .tup xs, h => by unfold fzD; rw [fzs_nl xs h]
theorem fzs_nl : ∀ (ds : List D), noLists ds = true → fzDs ds = ds
  | [], _ => by unfold fzDs; rfl
  | d :: ds, h => by
    have h' := Bool.and_eq_true_iff.mp (show (noList d && noLists ds) = true from h)
    unfold fzDs; rw [fz_nl d h'.1, fzs_nl ds h'.2]
end
theorem fz_lst {ds : List D} (h : noLists ds = true) : fzD (.lst ds) = .frz ds := by
  unfold fzD
  rw [fzs_nl ds h, if_pos h]
theorem wo_getF {ds : List D} {i : Int} {d : D} {Q : D → Prop} (h0 : 0 ≤ i) (e : ds[i.toNat]? = some d) (q : Q d) : WO (getD (.frz ds) (.int i)) Q := ⟨d, atI_pos h0 e, q⟩
theorem wo_revF {ds : List D} {Q : D → Prop} (q : Q (.lst ds.reverse)) : WO (revD (.frz ds)) Q := ⟨_, rfl, q⟩
theorem we_appLast {ρ : Bv.Env} {i : Nat} {A cur : List D} {ms : List ME} {Q : D → Bv.Env → Prop} (e0 : nth ρ i = some (.lst (A ++ [.lst cur]))) (hl : cur.length < 16777216)
    (h : NE (ρ.set i none) fun ρ0 => WEs ms ρ0 fun es ρ1 => ∃ d, es = [d] ∧ NE (ρ1.set i (some (.lst (A ++ [.lst (cur ++ [d])])))) (Q .non)) : WE (eLMutI lAppend i (pUn negD (pC (.int 1))) ms) ρ Q := by
  obtain ⟨es, ρ1, e2, d, rfl, q⟩ := h
  refine we_lmutI e0 ⟨.int (-1), rfl, -1, rfl, A.length, ?_, ?_⟩
  · unfold ixN
    rw [if_neg (by decide), List.length_append]
    simp
    try omega
  · have e : (A ++ [D.lst cur])[A.length]? = some (.lst cur) := by rw [List.getElem?_append_right (Nat.le_refl _), Nat.sub_self]; rfl
    refine ⟨_, e, _, _, e2, lm_append hl ?_⟩
    have e3 : (A ++ [D.lst cur]).set A.length (.lst (cur ++ [d])) = A ++ [.lst (cur ++ [d])] := by
      rw [List.set_append_right _ _ (Nat.le_refl _), Nat.sub_self]; rfl
    rw [e3]
    exact q
theorem wo_sl31 {a b c : D} {Q : D → Prop} (q : Q (.tup [b, c])) : WO (slD (.tup [a, b, c]) (some 1) none) Q := ⟨_, rfl, q⟩
theorem gaps_len {ds : List D} (k : Nat) : (seg (ds.take k)).1.length ≤ ds.length := by
  refine Bv.unbox ?_
  simp (disch := (
    refine Bv.idP ?_
    with_unfolding_all (
  have h1 := sgL_pre (seg (ds.take k))
  rw [sgL_seg] at h1
  have := List.length_take_le k ds
  rw [List.length_take] at *; omega))) only [↓Bv.boxT]
theorem cur_len {ds : List D} (k : Nat) : (seg (ds.take k)).2.length ≤ ds.length := by
  refine Bv.unbox ?_
  simp (disch := (
    refine Bv.idP ?_
    with_unfolding_all (
  have h1 := sgL_gap (st := seg (ds.take k)) (List.mem_append_right _ (List.mem_singleton.mpr rfl))
  rw [sgL_seg, List.length_take] at h1
  omega))) only [↓Bv.boxT]
abbrev gapD (st : List (List D × D) × List D) : List D := st.1.map (fun p => D.lst p.1) ++ [.lst st.2]
theorem w_gaps {ds : List D} {Q : D → List D → Prop} (hy : Lay ds) (hl : ds.length ≤ 40) (q : Q (.lst [.lst (names (seg ds)), .lst (gapD (seg ds))]) [.tup ds]) : WF m__law_gaps [.tup ds] Q := by
  refine Bv.unbox ?_
  simp (disch := (
    refine Bv.idP ?_
    with_unfolding_all (
  have hn := hy.nls
  refine wf_mk ?_
  (repeat' decreasing_trivial_pre_omega)
  refine wl_inv (fun k ρ => ∃ c, ρ = [some (.tup ds), some (.lst (names (seg (ds.take k)))), some (.lst (gapD (seg (ds.take k)))), c]) ⟨_, rfl⟩ ?_ ?_
  · rintro k d ρ hk ⟨c, rfl⟩
    have hs := seg_take hk
    have g1 := gaps_len (ds := ds) k
    have g2 := cur_len (ds := ds) k
    have g3 : (names (seg (ds.take k))).length ≤ ds.length := by unfold names; rw [List.length_map]; exact g1
    rcases hy d (List.mem_of_getElem? hk) with hd | hd
    · have hi := hd.isIL
      have hdn := hd.nl
      unfold stp at hs
      rw [hi, if_neg Bool.false_ne_true] at hs
      obtain ⟨n, kk, x, rfl, h1, h2, h3, hx⟩ := hd
      (repeat' (first | (refine we_appLast (A := (seg (ds.take k)).1.map fun p => D.lst p.1) rfl (Nat.lt_of_le_of_lt g2 (by omega)) ?_) | decreasing_trivial_pre_omega))
      refine ⟨_, rfl, ?_⟩
      (repeat' decreasing_trivial_pre_omega)
      exact ⟨_, by rw [hs]; rfl⟩
    · have hi := hd.isIL
      have hdn := hd.nl
      unfold stp at hs
      rw [hi, if_pos rfl] at hs
      obtain ⟨nm, v, rfl, h1, h2, h3⟩ := hd
      (repeat' (first | ((with_reducible apply wo_sl31)) | decreasing_trivial_pre_omega))
      exact ⟨_, by rw [hs]; unfold gapD names; dsimp only; rw [List.map_append, List.map_append]; rfl⟩
  · rintro ρ ⟨c, rfl⟩
    rw [List.take_length]
    (repeat' decreasing_trivial_pre_omega)))) only [↓Bv.boxT]
theorem w_product {ds : List D} {Q : D → List D → Prop} (hy : ∀ d ∈ ds, RL d) (q : Q (.int (rateF ds (1, 0)).1) [.frz ds]) : WF m__law_product [.frz ds] Q := by
  refine Bv.unbox ?_
  simp (disch := (
    refine Bv.idP ?_
    with_unfolding_all (
  have hn : noLists ds = true := nls_of fun d m => (hy d m).nl
  refine wf_mk ?_
  (repeat' decreasing_trivial_pre_omega)
  refine wl_inv (fun k ρ => ∃ st, ρ = [some (.frz ds), some (.int (rateF (ds.take k) (1, 0)).1), st]) ⟨_, rfl⟩ ?_ ?_
  · rintro k d ρ hk ⟨st, rfl⟩
    have hr := rate_take hk (1, 0)
    obtain ⟨n, kk, x, rfl, h1, h2, h3, hx⟩ := hy d (List.mem_of_getElem? hk)
    (repeat' decreasing_trivial_pre_omega)
    exact ⟨_, by rw [hr]; rfl⟩
  · rintro ρ ⟨st, rfl⟩
    rw [List.take_length]
    (repeat' decreasing_trivial_pre_omega)))) only [↓Bv.boxT]
end G_k26


namespace G_k26
open PySem PySem.Spec PyProof.Rows L2 Bv Rt
set_option hygiene false
local macro_rules | `(tactic| decreasing_trivial_pre_omega) => `(tactic| first
  | ((with_reducible apply wes_nil))
  | ((with_reducible apply wes_cons))
  | ((with_reducible apply sq_nx))
  | ((with_reducible apply sq_rt))
  | ((with_reducible apply sq_bk))
  | ((with_reducible apply sq_ct))
  | ((with_reducible apply wps_cons))
  | ((with_reducible apply wps_nil))
  | ((with_reducible apply wo3_none))
  | ((with_reducible apply wo3_some))
  | ((with_reducible apply ne_); (· (first | (simp only [List.set_cons_zero, List.set_cons_succ, putBack, wipeE, List.map_cons, List.map_nil, List.length_cons, List.length_nil, List.cons_append, List.nil_append, List.replicate, Nat.reduceSub, Nat.reduceAdd, Nat.reduceLT]; rfl) | rfl)))
  | ((with_reducible apply lq_); (· rfl))
  | ((with_reducible apply nd_); (· (first | rfl | assumption | exact nl_tup (by assumption) | (with_reducible apply nl_tup; ((repeat' (first | assumption | with_reducible exact nls_ints _ | with_reducible exact nls_strs _ | with_reducible exact pD_nls _ | with_reducible rfl | with_reducible apply nls_cons | with_reducible apply nls_app | with_reducible exact nls_nil | with_reducible apply nl_tup | with_reducible exact nl_int | with_reducible exact nl_str)); done)))))
  | ((with_reducible apply lm_insert); (· (first | omega | (simp only [numsD_len, List.length_map, List.length_append, List.length_cons, List.length_nil]; omega))); (· omega); (· omega))
  | ((with_reducible apply wa_nil))
  | ((with_reducible apply wa_val))
  | ((with_reducible apply wr_nil))
  | ((with_reducible apply wr_inl))
  | ((with_reducible apply wa_bor); (· rfl))
  | ((with_reducible apply wr_inr); (· rfl))
  | ((with_reducible apply wc_nil))
  | ((with_reducible apply wl_nil))
  | ((with_reducible apply isb_))
  | ((with_reducible apply isi_))
  | ((with_reducible apply iss_))
  | ((with_reducible apply tr_b))
  | ((with_reducible apply tr_i))
  | ((with_reducible apply tr_n))
  | ((with_reducible apply tr_l))
  | ((with_reducible apply tr_t))
  | ((with_reducible apply br_not))
  | ((with_reducible apply wg_set))
  | ((with_reducible apply wg_tup))
  | ((with_reducible apply wgs_nil))
  | ((with_reducible apply wgs_cons))
  | ((with_reducible apply wi_rng1))
  | ((with_reducible apply wi_rng2))
  | ((with_reducible apply wi_down))
  | ((with_reducible apply wi_seq))
  | ((with_reducible apply lp_nx))
  | ((with_reducible apply lp_ct))
  | ((with_reducible apply lp_bk))
  | ((with_reducible apply lp_rt))
  | ((with_reducible apply fk_rt); (· rfl))
  | ((with_reducible apply fk_nx); (· rfl))
  | ((with_reducible apply fp_rt))
  | ((with_reducible apply fp_nx))
  | ((with_reducible apply sn_); (· rfl))
  | ((with_reducible apply ln_); (· rfl))
  | ((with_reducible apply br_t); (· rfl))
  | ((with_reducible apply br_f); (· rfl))
  | ((with_reducible apply br_dt); (· (first | assumption | decide | omega)))
  | ((with_reducible apply br_df); (· (first | assumption | decide | omega)))
  | (with_reducible refine br_d (fun h => ?_) (fun h => ?_))
  | ((with_reducible apply rg_); (· omega); (· omega))
  | ((with_reducible apply sz_); (· (first | omega | assumption | (simp only [numsD_len, List.length_map, List.length_append, List.length_cons, List.length_nil]; omega))))
  | ((with_reducible apply sz1_); (· (first | omega | assumption | (simp only [numsD_len, List.length_map, List.length_append, List.length_cons, List.length_nil]; omega))))
  | ((with_reducible apply ix_lit); (· rfl))
  | ((with_reducible apply ix_pos); (· omega); (· (first | omega | (simp; omega))))
  | ((with_reducible apply tq_t); (· (first | rfl | assumption | with_reducible exact nls_ints _ | with_reducible exact nls_strs _ | with_reducible exact pD_nls _ | ((repeat' (first | assumption | with_reducible exact nls_ints _ | with_reducible exact nls_strs _ | with_reducible exact pD_nls _ | with_reducible rfl | with_reducible apply nls_cons | with_reducible apply nls_app | with_reducible exact nls_nil | with_reducible apply nl_tup | with_reducible exact nl_int | with_reducible exact nl_str)); done))))
  | ((with_reducible apply tq_l); (· (first | rfl | assumption | with_reducible exact nls_ints _ | with_reducible exact nls_strs _ | with_reducible exact pD_nls _ | ((repeat' (first | assumption | with_reducible exact nls_ints _ | with_reducible exact nls_strs _ | with_reducible exact pD_nls _ | with_reducible rfl | with_reducible apply nls_cons | with_reducible apply nls_app | with_reducible exact nls_nil | with_reducible apply nl_tup | with_reducible exact nl_int | with_reducible exact nl_str)); done))))
  | ((with_reducible apply tq_f); (· (first | rfl | assumption | with_reducible exact nls_ints _ | with_reducible exact nls_strs _ | with_reducible exact pD_nls _ | ((repeat' (first | assumption | with_reducible exact nls_ints _ | with_reducible exact nls_strs _ | with_reducible exact pD_nls _ | with_reducible rfl | with_reducible apply nls_cons | with_reducible apply nls_app | with_reducible exact nls_nil | with_reducible apply nl_tup | with_reducible exact nl_int | with_reducible exact nl_str)); done))))
  | ((with_reducible apply in_SS1); (· rfl))
  | ((with_reducible apply in_ST); (· rfl))
  | ((with_reducible apply in_); (· rfl))
  | ((with_reducible apply lm_append); (· (first | omega | (simp only [numsD_len, List.length_map, List.length_append, List.length_cons, List.length_nil]; omega))))
  | ((with_reducible apply lm_extL); (· (first | omega | (simp only [numsD_len, List.length_map, List.length_append, List.length_cons, List.length_nil]; omega))); (· (first | rfl | assumption)))
  | ((with_reducible apply lm_extT); (· (first | omega | (simp only [numsD_len, List.length_map, List.length_append, List.length_cons, List.length_nil]; omega))); (· (first | rfl | assumption)))
  | ((with_reducible apply rb_); (· omega); (· omega); (· omega); (· omega))
  | ((with_reducible apply br_et); (· (first | assumption | rfl)))
  | ((with_reducible apply br_ef); (· (first | assumption | (intro h; simp only [D.tup.injEq, List.cons.injEq, D.str.injEq, D.int.injEq, reduceCtorEq, false_and, and_false] at h; done))))
  | (with_reducible refine br_e (fun h => ?_) (fun h => ?_))
  | ((with_reducible apply wlis_nil); (· rfl); (· (first | exact Nat.le_refl _ | omega)))
  | ((with_reducible apply wcis_nil); (· rfl); (· (first | exact Nat.le_refl _ | omega)))
  | ((with_reducible apply wlis_cons); (· rfl); (· rfl); (· (first | rfl | assumption | exact nl_tup (by assumption) | (with_reducible apply nl_tup; ((repeat' (first | assumption | with_reducible exact nls_ints _ | with_reducible exact nls_strs _ | with_reducible exact pD_nls _ | with_reducible rfl | with_reducible apply nls_cons | with_reducible apply nls_app | with_reducible exact nls_nil | with_reducible apply nl_tup | with_reducible exact nl_int | with_reducible exact nl_str)); done)))))
  | ((with_reducible apply wcis_cons); (· rfl); (· rfl); (· (first | rfl | assumption | exact nl_tup (by assumption) | (with_reducible apply nl_tup; ((repeat' (first | assumption | with_reducible exact nls_ints _ | with_reducible exact nls_strs _ | with_reducible exact pD_nls _ | with_reducible rfl | with_reducible apply nls_cons | with_reducible apply nls_app | with_reducible exact nls_nil | with_reducible apply nl_tup | with_reducible exact nl_int | with_reducible exact nl_str)); done)))))
  | ((with_reducible apply sa_lst); (· rfl))
  | ((with_reducible apply sa_dic); (· rfl); (· (first | rfl | assumption | exact nl_tup (by assumption) | (with_reducible apply nl_tup; ((repeat' (first | assumption | with_reducible exact nls_ints _ | with_reducible exact nls_strs _ | with_reducible exact pD_nls _ | with_reducible rfl | with_reducible apply nls_cons | with_reducible apply nls_app | with_reducible exact nls_nil | with_reducible apply nl_tup | with_reducible exact nl_int | with_reducible exact nl_str)); done)))))
  | ((with_reducible apply ky_i))
  | ((with_reducible apply ky_s))
  | ((with_reducible apply dn_); (· rfl))
  | ((with_reducible apply fv_nx))
  | ((with_reducible apply fv_rt))
  | ((with_reducible apply wc_consA))
  | ((with_reducible apply wl_consA))
  | ((with_reducible apply wi_enum))
  | (with_reducible refine br_empM (fun h => ?_) (fun h => ?_))
  | (with_reducible refine br_emp (fun h => ?_) (fun h => ?_))
  | (with_reducible refine br_ (fun h => ?_) (fun h => ?_))
  | (with_reducible assumption)
  | (with_reducible rfl)
  | fail)
local macro_rules | `(tactic| decreasing_trivial_pre_omega) => `(tactic| ((with_reducible apply g_wo); first
  | ((with_reducible apply wo_ixZ); (· omega); (· assumption))
  | ((with_reducible apply wo_getN); (· assumption))
  | ((with_reducible apply wo_getZ); (· omega); (· assumption))
  | ((with_reducible apply wo_get1))
  | ((with_reducible apply wo_get2))
  | ((with_reducible apply wo_get3))
  | ((with_reducible apply wo_ixTa))
  | ((with_reducible apply wo_ixTb))
  | ((with_reducible apply wo_ixTc))
  | ((with_reducible apply wo_get0))
  | ((with_reducible apply wo_min2))
  | ((with_reducible apply wo_max2))
  | ((with_reducible apply wo_sumL))
  | ((with_reducible apply wo_addI))
  | ((with_reducible apply wo_subI))
  | ((with_reducible apply wo_andI))
  | ((with_reducible apply wo_ltI))
  | ((with_reducible apply wo_leI))
  | ((with_reducible apply wo_gtI))
  | ((with_reducible apply wo_gtXI))
  | ((with_reducible apply wo_geI))
  | ((with_reducible apply wo_eqI))
  | ((with_reducible apply wo_eqS))
  | ((with_reducible apply wo_neI))
  | ((with_reducible apply wo_neS))
  | ((with_reducible apply wo_negI))
  | ((with_reducible apply wo_lenT))
  | ((with_reducible apply wo_lenL))
  | ((with_reducible apply wo_lenXT))
  | ((with_reducible apply wo_lenXL))
  | ((with_reducible apply wo_lenXD))
  | ((with_reducible apply wo_lenXF))
  | ((with_reducible apply wo_intI))
  | ((with_reducible apply wo_notB))
  | ((with_reducible apply wo_maxL); (· (first | omega | assumption | (rw [List.length_map]; omega))))
  | ((with_reducible apply wo_lenS); (· (first | assumption | omega)))
  | ((with_reducible apply wo_lenXS); (· (first | assumption | omega)))
  | ((with_reducible apply wo_addS); (· (first | assumption | omega)))
  | ((with_reducible apply wo_slS); (· (first | assumption | omega)))
  | ((with_reducible apply wo_revT); (· (first | rfl | assumption)))
  | ((with_reducible apply wo_revLs); (· (first | rfl | assumption)))
  | ((with_reducible apply wo_mulXI); (· (first | exact cMul_r (by decide) | exact cMul_l (by decide) | exact cMul_r (decide_eq_true ⟨by omega, by omega⟩) | exact cMul_l (decide_eq_true ⟨by omega, by omega⟩))))
  | ((with_reducible apply wo_mul); (· (first | exact cMul_r (by decide) | exact cMul_l (by decide))))
  | ((with_reducible apply wo_addT); (· (first | omega | (simp only [List.length_append, List.length_map, List.length_cons, List.length_nil]; omega))); (· (first | rfl | assumption | with_reducible exact nls_ints _ | with_reducible exact nls_strs _ | with_reducible exact pD_nls _ | ((repeat' (first | assumption | with_reducible exact nls_ints _ | with_reducible exact nls_strs _ | with_reducible exact pD_nls _ | with_reducible rfl | with_reducible apply nls_cons | with_reducible apply nls_app | with_reducible exact nls_nil | with_reducible apply nl_tup | with_reducible exact nl_int | with_reducible exact nl_str)); done))); (· (first | rfl | assumption | with_reducible exact nls_ints _ | with_reducible exact nls_strs _ | with_reducible exact pD_nls _ | ((repeat' (first | assumption | with_reducible exact nls_ints _ | with_reducible exact nls_strs _ | with_reducible exact pD_nls _ | with_reducible rfl | with_reducible apply nls_cons | with_reducible apply nls_app | with_reducible exact nls_nil | with_reducible apply nl_tup | with_reducible exact nl_int | with_reducible exact nl_str)); done))))
  | ((with_reducible apply wo_addL); (· (first | omega | (simp only [List.length_append, List.length_map, List.length_cons, List.length_nil]; omega))); (· (first | rfl | assumption | with_reducible exact nls_ints _ | with_reducible exact nls_strs _ | with_reducible exact pD_nls _ | ((repeat' (first | assumption | with_reducible exact nls_ints _ | with_reducible exact nls_strs _ | with_reducible exact pD_nls _ | with_reducible rfl | with_reducible apply nls_cons | with_reducible apply nls_app | with_reducible exact nls_nil | with_reducible apply nl_tup | with_reducible exact nl_int | with_reducible exact nl_str)); done))); (· (first | rfl | assumption | with_reducible exact nls_ints _ | with_reducible exact nls_strs _ | with_reducible exact pD_nls _ | ((repeat' (first | assumption | with_reducible exact nls_ints _ | with_reducible exact nls_strs _ | with_reducible exact pD_nls _ | with_reducible rfl | with_reducible apply nls_cons | with_reducible apply nls_app | with_reducible exact nls_nil | with_reducible apply nl_tup | with_reducible exact nl_int | with_reducible exact nl_str)); done))))
  | ((with_reducible apply wo_mod); (· (first | decide | omega | assumption)))
  | ((with_reducible apply wo_fdiv); (· (first | assumption | decide | omega)); (· (first | assumption | decide | omega)))
  | ((with_reducible apply wo_fdivN); (· (first | assumption | decide | omega)); (· (first | assumption | decide | omega)))
  | ((with_reducible apply wo_divmod); (· (first | assumption | decide | omega)); (· (first | assumption | decide | omega)))
  | ((with_reducible apply wo_shl); (· decide))
  | ((with_reducible apply wo_pow); (· decide))
  | ((with_reducible apply wo_toTupL); (· (first | rfl | assumption | with_reducible exact nls_ints _ | with_reducible exact nls_strs _ | with_reducible exact pD_nls _ | ((repeat' (first | assumption | with_reducible exact nls_ints _ | with_reducible exact nls_strs _ | with_reducible exact pD_nls _ | with_reducible rfl | with_reducible apply nls_cons | with_reducible apply nls_app | with_reducible exact nls_nil | with_reducible apply nl_tup | with_reducible exact nl_int | with_reducible exact nl_str)); done))))
  | ((with_reducible apply wo_toTupT); (· (first | rfl | assumption | with_reducible exact nls_ints _ | with_reducible exact nls_strs _ | with_reducible exact pD_nls _ | ((repeat' (first | assumption | with_reducible exact nls_ints _ | with_reducible exact nls_strs _ | with_reducible exact pD_nls _ | with_reducible rfl | with_reducible apply nls_cons | with_reducible apply nls_app | with_reducible exact nls_nil | with_reducible apply nl_tup | with_reducible exact nl_int | with_reducible exact nl_str)); done))))
  | ((with_reducible apply wo_toLstL); (· (first | rfl | assumption | with_reducible exact nls_ints _ | with_reducible exact nls_strs _ | with_reducible exact pD_nls _ | ((repeat' (first | assumption | with_reducible exact nls_ints _ | with_reducible exact nls_strs _ | with_reducible exact pD_nls _ | with_reducible rfl | with_reducible apply nls_cons | with_reducible apply nls_app | with_reducible exact nls_nil | with_reducible apply nl_tup | with_reducible exact nl_int | with_reducible exact nl_str)); done))))
  | ((with_reducible apply wo_toLstT); (· (first | rfl | assumption | with_reducible exact nls_ints _ | with_reducible exact nls_strs _ | with_reducible exact pD_nls _ | ((repeat' (first | assumption | with_reducible exact nls_ints _ | with_reducible exact nls_strs _ | with_reducible exact pD_nls _ | with_reducible rfl | with_reducible apply nls_cons | with_reducible apply nls_app | with_reducible exact nls_nil | with_reducible apply nl_tup | with_reducible exact nl_int | with_reducible exact nl_str)); done))))
  | ((with_reducible refine wo_ixI ?ha ?h0 ?h1 (fun x hx => ?q)); (case ha => rfl); (case h0 => omega); (case h1 => first | omega | (simp only [List.length_cons, List.length_nil]; omega)); (try simp only [List.mem_cons, D.int.injEq, List.not_mem_nil, or_false] at hx))
  | ((with_reducible refine wo_ixS ?ha ?h0 ?h1 (fun x hx => ?q)); (case ha => first | rfl | assumption); (case h0 => omega); (case h1 => first | omega | (simp only [List.length_cons, List.length_nil]; omega)))
  | ((with_reducible apply (wo_ (o := slD (.tup _) _ _))); (· rfl))
  | ((with_reducible apply (wo_ (o := eqD _ _))); (· rfl))
  | ((with_reducible apply (wo_ (o := neD _ _))); (· rfl))
  | ((with_reducible apply (wo_ (o := isND _ _))); (· rfl))
  | ((with_reducible apply (wo_ (o := notND _ _))); (· rfl))
  | ((with_reducible apply (wo_ (o := getD _ _))); (· rfl))
  | ((with_reducible apply (wo_ (o := ixD _ _))); (· rfl))
  | ((with_reducible apply (wo_ (o := isiD _ _))); (· rfl))
  | ((with_reducible apply (wo_ (o := lenD _))); (· rfl))
  | ((with_reducible apply (wo_ (o := lenX _))); (· rfl))
  | ((with_reducible apply (wo_ (o := notD _))); (· rfl))
  | ((with_reducible apply (wo_ (o := notT _))); (· rfl))
  | ((with_reducible apply (wo_ (o := toInt _))); (· rfl))
  | ((with_reducible apply (wo_ (o := absD _))); (· rfl))
  | ((with_reducible apply (wo_ (o := splitD _ _))); (· rfl))
  | ((with_reducible apply (wo_ (o := negD _))); (· rfl))
  | ((with_reducible apply (wo_ (o := inD _ _))); (· rfl))
  | ((with_reducible apply (wo_ (o := notInD _ _))); (· rfl))
  | ((with_reducible apply wo_allL))
  | ((with_reducible apply wo_anyL))
  | ((with_reducible apply wo_tabIn))
  | ((with_reducible apply wo_tabNotIn))
  | ((with_reducible apply wo_tabGet); (· rfl))
  | ((with_reducible refine wo_ixMI ?h0 ?h1 (fun i hi => ?q)); (case h0 => first | omega | (simp only [List.length_map] at *; omega)); (case h1 => first | omega | (simp only [List.length_map] at *; omega)))
  | ((with_reducible apply wo_eqSm); (· (first | assumption | rfl | with_reducible exact smB_cutP _ _ _ | with_reducible exact pD_sm _)); (· (first | assumption | rfl | with_reducible exact smB_cutP _ _ _ | with_reducible exact pD_sm _)))
  | ((with_reducible apply wo_neSm); (· (first | assumption | rfl | with_reducible exact smB_cutP _ _ _ | with_reducible exact pD_sm _)); (· (first | assumption | rfl | with_reducible exact smB_cutP _ _ _ | with_reducible exact pD_sm _)))
  | fail))
local macro_rules | `(tactic| decreasing_trivial_pre_omega) => `(tactic| ((with_reducible apply g_wp); first
  | ((with_reducible apply wp_bin))
  | ((with_reducible apply wp_c))
  | ((with_reducible apply wp_b))
  | ((with_reducible apply wp_un))
  | ((with_reducible apply wp_tup))
  | ((with_reducible apply wp_sl))
  | ((with_reducible apply wp_var); (· rfl))
  | fail))
local macro_rules | `(tactic| decreasing_trivial_pre_omega) => `(tactic| ((with_reducible apply g_wt); first
  | ((with_reducible apply wt_asT))
  | ((with_reducible apply wt_tru))
  | ((with_reducible apply wt_truP))
  | ((with_reducible apply wt_and))
  | ((with_reducible apply wt_or))
  | ((with_reducible apply wt_not))
  | ((with_reducible apply wt_yes))
  | fail))
local macro_rules | `(tactic| decreasing_trivial_pre_omega) => `(tactic| ((with_reducible apply g_we); first
  | ((with_reducible apply we_own))
  | ((with_reducible apply we_pure))
  | ((with_reducible apply we_tup))
  | ((with_reducible apply we_lst))
  | ((with_reducible apply we_b))
  | ((with_reducible apply we_bin))
  | ((with_reducible apply we_binP))
  | ((with_reducible apply we_un))
  | ((with_reducible apply we_dict0))
  | ((with_reducible apply we_if))
  | ((with_reducible apply we_and))
  | ((with_reducible apply we_or))
  | ((with_reducible apply we_inF))
  | ((with_reducible apply we_inT))
  | ((with_reducible apply we_inAny))
  | ((with_reducible apply we_chain))
  | ((with_reducible apply we_sm))
  | ((with_reducible apply we_slN))
  | ((with_reducible apply we_sl))
  | ((with_reducible apply we_rev))
  | ((with_reducible apply we_lc))
  | ((with_reducible apply we_take); (· rfl); (· (first | rfl | assumption | exact nl_tup (by assumption) | (with_reducible apply nl_tup; ((repeat' (first | assumption | with_reducible exact nls_ints _ | with_reducible exact nls_strs _ | with_reducible exact pD_nls _ | with_reducible rfl | with_reducible apply nls_cons | with_reducible apply nls_app | with_reducible exact nls_nil | with_reducible apply nl_tup | with_reducible exact nl_int | with_reducible exact nl_str)); done)))))
  | ((with_reducible apply we_takeL); (· rfl); (· rfl))
  | ((with_reducible apply we_ixN); (· rfl))
  | ((with_reducible apply we_append); (· rfl))
  | ((with_reducible apply we_lmut); (· rfl))
  | (with_reducible refine we_call ?_ (by decide))
  | ((with_reducible apply we_lmutI); (· rfl))
  | ((with_reducible apply we_slM))
  | ((with_reducible apply we_rgL1))
  | ((with_reducible apply we_rgT1))
  | ((with_reducible apply we_rgL2))
  | ((with_reducible apply we_lcWt); (· rfl); (· (first | rfl | assumption | with_reducible exact nls_ints _ | with_reducible exact nls_strs _ | with_reducible exact pD_nls _ | ((repeat' (first | assumption | with_reducible exact nls_ints _ | with_reducible exact nls_strs _ | with_reducible exact pD_nls _ | with_reducible rfl | with_reducible apply nls_cons | with_reducible apply nls_app | with_reducible exact nls_nil | with_reducible apply nl_tup | with_reducible exact nl_int | with_reducible exact nl_str)); done))); (· (first | omega | assumption | (simp only [List.length_map, List.length_append, List.length_cons, List.length_nil]; omega))))
  | ((with_reducible apply we_lcWl); (· rfl); (· (first | rfl | assumption | with_reducible exact nls_ints _ | with_reducible exact nls_strs _ | with_reducible exact pD_nls _ | ((repeat' (first | assumption | with_reducible exact nls_ints _ | with_reducible exact nls_strs _ | with_reducible exact pD_nls _ | with_reducible rfl | with_reducible apply nls_cons | with_reducible apply nls_app | with_reducible exact nls_nil | with_reducible apply nl_tup | with_reducible exact nl_int | with_reducible exact nl_str)); done))); (· (first | omega | assumption | (simp only [List.length_map, List.length_append, List.length_cons, List.length_nil]; omega))))
  | ((with_reducible apply we_lcWf); (· rfl); (· (first | rfl | assumption | with_reducible exact nls_ints _ | with_reducible exact nls_strs _ | with_reducible exact pD_nls _ | ((repeat' (first | assumption | with_reducible exact nls_ints _ | with_reducible exact nls_strs _ | with_reducible exact pD_nls _ | with_reducible rfl | with_reducible apply nls_cons | with_reducible apply nls_app | with_reducible exact nls_nil | with_reducible apply nl_tup | with_reducible exact nl_int | with_reducible exact nl_str)); done))); (· (first | omega | assumption | (simp only [List.length_map, List.length_append, List.length_cons, List.length_nil]; omega))))
  | fail))
local macro_rules | `(tactic| decreasing_trivial_pre_omega) => `(tactic| ((with_reducible apply g_ws); first
  | ((with_reducible apply ws_seq))
  | ((with_reducible apply ws_set))
  | ((with_reducible apply ws_ret))
  | ((with_reducible apply ws_retN))
  | ((with_reducible apply ws_if))
  | ((with_reducible apply ws_expr))
  | ((with_reducible apply ws_nil))
  | ((with_reducible apply ws_break))
  | ((with_reducible apply ws_cont))
  | ((with_reducible apply ws_setAny))
  | ((with_reducible apply ws_par))
  | ((with_reducible apply ws_asg))
  | ((with_reducible apply ws_for))
  | ((with_reducible apply ws_forS); (· rfl))
  | ((with_reducible apply ws_forBt); (· rfl); (· (first | rfl | assumption | with_reducible exact nls_ints _ | with_reducible exact nls_strs _ | with_reducible exact pD_nls _ | ((repeat' (first | assumption | with_reducible exact nls_ints _ | with_reducible exact nls_strs _ | with_reducible exact pD_nls _ | with_reducible rfl | with_reducible apply nls_cons | with_reducible apply nls_app | with_reducible exact nls_nil | with_reducible apply nl_tup | with_reducible exact nl_int | with_reducible exact nl_str)); done))))
  | ((with_reducible apply ws_forBl); (· rfl); (· (first | rfl | assumption | with_reducible exact nls_ints _ | with_reducible exact nls_strs _ | with_reducible exact pD_nls _ | ((repeat' (first | assumption | with_reducible exact nls_ints _ | with_reducible exact nls_strs _ | with_reducible exact pD_nls _ | with_reducible rfl | with_reducible apply nls_cons | with_reducible apply nls_app | with_reducible exact nls_nil | with_reducible apply nl_tup | with_reducible exact nl_int | with_reducible exact nl_str)); done))))
  | ((with_reducible apply ws_forBs); (· rfl))
  | ((with_reducible apply ws_forBf); (· rfl); (· (first | rfl | assumption | with_reducible exact nls_ints _ | with_reducible exact nls_strs _ | with_reducible exact pD_nls _ | ((repeat' (first | assumption | with_reducible exact nls_ints _ | with_reducible exact nls_strs _ | with_reducible exact pD_nls _ | with_reducible rfl | with_reducible apply nls_cons | with_reducible apply nls_app | with_reducible exact nls_nil | with_reducible apply nl_tup | with_reducible exact nl_int | with_reducible exact nl_str)); done))))
  | ((with_reducible apply ws_fz); (· rfl))
  | ((with_reducible apply ws_augIx))
  | ((with_reducible apply ws_aug))
  | fail))
set_option hygiene true
theorem w_passed {ds : List D} {m : Nat} {Q : D → List D → Prop} (hy : ∀ d ∈ ds, RL d) (hl : ds.length ≤ 1000) (hm : m ≤ 10000) (q : Q (.lst ((FF ds m).map D.int)) [.frz ds, .int m]) : WF m__law_passed [.frz ds, .int m] Q := by
  refine Bv.unbox ?_
  simp (disch := (
    refine Bv.idP ?_
    with_unfolding_all (
  have hn : noLists ds = true := nls_of fun d m => (hy d m).nl
  refine wf_mk ?_
  (repeat' decreasing_trivial_pre_omega)
  refine wc_map (fun _ => .int 0) (fun d m => ?_) ?_
  · (repeat' decreasing_trivial_pre_omega)
    refine ⟨rfl, ?_⟩
    (repeat' decreasing_trivial_pre_omega)
  rw [show (ds.map fun _ => D.int 0) = (ds.map fun _ => (0 : Int)).map D.int by rw [List.map_map]; rfl]
  (repeat' decreasing_trivial_pre_omega)
  refine wl_inv (fun t ρ => ∃ (cs : List Int) (a b c d : Option D), ρ = [some (.frz ds), some (.int m), some (.lst (cs.map D.int)), some (.lst ((FF ds t).map D.int)), a, b, c, d, none] ∧ cs.length = ds.length ∧ ∀ i, i < ds.length → cs.getD i 0 = Rt.cnt (PN ds i) (Rt.PK ds i) t)
    ⟨ds.map fun _ => (0 : Int), _, _, _, _, rfl, by simp, fun i hi => ?_⟩ ?_ ?_
  · have := part_ok hy i
    rw [List.getD_eq_getElem?_getD, List.getElem?_map, List.getElem?_eq_getElem hi]
    unfold Rt.cnt
    rw [if_pos (by show (0 : Int) ≤ _; exact this.2.1)]
    rfl
  · rintro t d ρ hk ⟨cs, a, b, c, d', rfl, hcl, hcs⟩
    obtain ⟨hk', rfl⟩ := numsD_at hk
    have hfl := FF_len ds t
    simp only [Int.zero_add]
    (repeat' decreasing_trivial_pre_omega)
    refine wl_inv (fun i ρ => ∃ (cs : List Int) (c d : Option D), ρ = [some (.frz ds), some (.int m), some (.lst (cs.map D.int)), some (.lst ((FF ds t).map D.int)), some (.int t), some (.bl (rch (PN ds i) (Rt.PK ds i) t)), c, d, none] ∧ cs.length = ds.length ∧ ∀ j, j < ds.length → cs.getD j 0 = Rt.cnt (PN ds j) (Rt.PK ds j) (if j < i then (t : Int) + 1 else t))
      ⟨cs, c, d', ?_, hcl, fun j hj => by rw [if_neg (by omega)]; exact hcs j hj⟩ ?_ ?_
    · have : rch (PN ds 0) (Rt.PK ds 0) (t : Int) = true := by
        show decide ((0 : Int) ≤ t ∧ ((t : Int) - 0) % 1 = 0) = true
        exact decide_eq_true ⟨by omega, Int.emod_one _⟩
      rw [this]
    · rintro i d ρ hk ⟨cs, c, d', rfl, hcl, hcs⟩
      obtain ⟨hi, rfl⟩ := numsD_at hk
      simp only [Int.zero_add]
      have hil : i < ds.length := by omega
      have hd : ds[i]? = some ds[i] := List.getElem?_eq_getElem hil
      have hr := rate_take hd (1, 0)
      have hp := part_ok hy i
      have hci := hcs i hil
      rw [if_neg (by omega)] at hci
      obtain ⟨n, k, x, e, h1, h2, h3, hx⟩ := hy _ (List.getElem_mem hil)
      rw [e] at hd hr
      have e1 : PN ds (i + 1) = PN ds i * n := by show (rateF _ _).1 = _; rw [hr]; rfl
      have e2 : Rt.PK ds (i + 1) = Rt.PK ds i + PN ds i * k := by show (rateF _ _).2 = _; rw [hr]; rfl
      have hrn := rch_next (t := (t : Int)) hp.1 (show 1 ≤ n by omega) h1 (K := Rt.PK ds i)
      rw [← e1, ← e2] at hrn
      have hcn := cnt_next (K := Rt.PK ds i) (t := (t : Int)) hp.1
      (repeat' decreasing_trivial_pre_omega)
      · rw [h, if_pos rfl] at hcn
        rw [h, Bool.true_and] at hrn
        have fin2 : (cs.set i (Rt.cnt (PN ds i) (Rt.PK ds i) t + 1)).length = ds.length ∧ ∀ j, j < ds.length → (cs.set i (Rt.cnt (PN ds i) (Rt.PK ds i) t + 1)).getD j 0 = Rt.cnt (PN ds j) (Rt.PK ds j) (if j < i + 1 then (t : Int) + 1 else t) := by
          refine ⟨by rw [List.length_set]; exact hcl, fun j hj => ?_⟩
          by_cases ej : i = j
          · subst ej
            rw [getD_set_eq (by omega), if_pos (by omega), hcn]
          · rw [getD_set_ne ej, hcs j hj]
            by_cases hji : j < i
            · rw [if_pos hji, if_pos (by omega)]
            · rw [if_neg hji, if_neg (by omega)]
        refine wo_getL (at_ints (by omega) (by omega)) ?_
        rw [Int.toNat_natCast, hci]
        (repeat' decreasing_trivial_pre_omega)
        refine wo_getF (by omega) (by rw [Int.toNat_natCast]; exact hd) ?_
        (repeat' decreasing_trivial_pre_omega)
        · refine wo_getF (by omega) (by rw [Int.toNat_natCast]; exact hd) ?_
          (repeat' decreasing_trivial_pre_omega)
          refine wo_getF (by omega) (by rw [Int.toNat_natCast]; exact hd) ?_
          (repeat' decreasing_trivial_pre_omega)
          rw [decide_eq_true h, Bool.true_and] at hrn
          exact ⟨_, _, _, by rw [hrn, Int.toNat_natCast, ← List.map_set], fin2⟩
        · rw [decide_eq_false h, Bool.false_and] at hrn
          exact ⟨_, _, _, by rw [hrn, Int.toNat_natCast, ← List.map_set], fin2⟩
      · rw [h] at hrn
        rw [h, if_neg Bool.false_ne_true] at hcn
        refine ⟨cs, _, _, by rw [hrn, h]; rfl, hcl, fun j hj => ?_⟩
        by_cases ej : j = i
        · subst ej
          rw [if_pos (by omega), hcn]
          exact hci
        · rw [hcs j hj]
          by_cases hji : j < i
          · rw [if_pos hji, if_pos (by omega)]
          · rw [if_neg hji, if_neg (by omega)]
    · rintro ρ ⟨cs, c, d', rfl, hcl, hcs⟩
      rw [numsD_len] at hcs ⊢
      rw [show ((ds.length : Int)).toNat = ds.length by omega] at hcs ⊢
      have hff := FF_next (ds := ds) (t := t)
      have fin : ∀ i, i < ds.length → cs.getD i 0 = Rt.cnt (PN ds i) (Rt.PK ds i) ((t + 1 : Nat) : Int) := fun i hi => by
        rw [hcs i hi, if_pos hi]; rfl
      (repeat' decreasing_trivial_pre_omega)
      · rw [h, if_pos rfl] at hff
        exact ⟨cs, _, _, _, _, by rw [hff, List.map_append]; rfl, hcl, fin⟩
      · rw [h, if_neg Bool.false_ne_true] at hff
        exact ⟨cs, _, _, _, _, by rw [hff], hcl, fin⟩
  · rintro ρ ⟨cs, a, b, c, d, rfl, hcl, hcs⟩
    rw [numsD_len, show ((m : Int)).toNat = m by omega]
    (repeat' decreasing_trivial_pre_omega)))) only [↓Bv.boxT]
theorem w_rate_due {ds : List D} {Q : D → List D → Prop} (hy : ∀ d ∈ ds, RL d) (hl : ds.length ≤ 1000) (q : Q (rT (rt ds)) [.frz ds]) : WF m__law_rate_due [.frz ds] Q := by
  refine Bv.unbox ?_
  simp (disch := (
    refine Bv.idP ?_
    with_unfolding_all (
  have hn : noLists ds = true := nls_of fun d m => (hy d m).nl
  refine wf_mk ?_
  (repeat' decreasing_trivial_pre_omega)
  refine wc_filter (fun _ => false) (fun d => d) (fun d m => ?_) ?_
  · obtain ⟨n, k, x, rfl, _⟩ := hy d m
    (repeat' decreasing_trivial_pre_omega)
    refine ⟨rfl, br_f rfl ?_⟩
    (repeat' decreasing_trivial_pre_omega)
  · rw [List.filter_eq_nil_iff.mpr (fun d m e => Bool.false_ne_true e)]
    (repeat' decreasing_trivial_pre_omega)
    have hp := part_ok hy ds.length
    have eN : PN ds ds.length = (rateF ds (1, 0)).1 := by show (rateF (ds.take _) _).1 = _; rw [List.take_length]
    have eK : Rt.PK ds ds.length = (rateF ds (1, 0)).2 := by show (rateF (ds.take _) _).2 = _; rw [List.take_length]
    refine w_product hy ?_
    (repeat' decreasing_trivial_pre_omega)
    · have hN : (rateF ds (1, 0)).1 ≤ 2000 := by assumption
      obtain ⟨n, en⟩ : ∃ n : Nat, (rateF ds (1, 0)).1 = n := ⟨_, (Int.toNat_of_nonneg (by omega)).symm⟩
      obtain ⟨k, ek⟩ : ∃ k : Nat, (rateF ds (1, 0)).2 = k := ⟨_, (Int.toNat_of_nonneg (by omega)).symm⟩
      have hf := FF_two hy (eN.trans en) (eK.trans ek)
      unfold rt rT at q
      rw [en, ek] at q
      rw [en]
      rw [show (2 : Int) * n = ((2 * n : Nat) : Int) by omega]
      refine w_passed hy hl (by omega) ?_
      rw [hf]
      simp only [List.map_cons, List.map_nil]
      (repeat' decreasing_trivial_pre_omega)
      rw [show (k : Int) + n - k = n by omega]
      exact q
    · refine wo_revF ?_
      (repeat' decreasing_trivial_pre_omega)
      refine tq_l (nls_of fun d m => (hy d (List.mem_reverse.mp m)).nl) ?_
      refine wl_inv (fun j ρ => ∃ a b, ρ = [some (.frz ds), some (.int (rateF ds (1, 0)).1), a, some (.int (hor (ds.drop (ds.length - j))).1), some (.int (hor (ds.drop (ds.length - j))).2), b]) ⟨none, none, ?_⟩ ?_ ?_
      · rw [show ds.drop (ds.length - 0) = [] by rw [Nat.sub_zero, List.drop_length]]
        rfl
      · rintro j d ρ hk ⟨a, b, rfl⟩
        have hj : j < ds.length := by
          have := (List.getElem?_eq_some_iff.mp hk).1
          rw [List.length_reverse] at this; exact this
        rw [List.getElem?_reverse hj] at hk
        have hh := hor_drop hk
        rw [show ds.length - 1 - j + 1 = ds.length - j by omega, show ds.length - 1 - j = ds.length - (j + 1) by omega] at hh
        obtain ⟨n, kk, x, rfl, h1, h2, h3, hx⟩ := hy d (List.mem_of_getElem? hk)
        have hd := RL.nl ⟨n, kk, x, rfl, h1, h2, h3, hx⟩
        (repeat' decreasing_trivial_pre_omega)
        exact ⟨_, _, by rw [hh]; rfl⟩
      · rintro ρ ⟨a, b, rfl⟩
        rw [show ds.drop (ds.length - ds.reverse.length) = ds by rw [List.length_reverse, Nat.sub_self]; rfl, rate_due_eq]
        (repeat' decreasing_trivial_pre_omega)
        exact q))) only [↓Bv.boxT]
end G_k26


namespace G_k26
open PySem PySem.Spec PyProof.Rows L2 Bv Rt
set_option hygiene false
local macro_rules | `(tactic| decreasing_trivial_pre_omega) => `(tactic| first
  | ((with_reducible apply wes_nil))
  | ((with_reducible apply wes_cons))
  | ((with_reducible apply sq_nx))
  | ((with_reducible apply sq_rt))
  | ((with_reducible apply sq_bk))
  | ((with_reducible apply sq_ct))
  | ((with_reducible apply wps_cons))
  | ((with_reducible apply wps_nil))
  | ((with_reducible apply wo3_none))
  | ((with_reducible apply wo3_some))
  | ((with_reducible apply ne_); (· (first | (simp only [List.set_cons_zero, List.set_cons_succ, putBack, wipeE, List.map_cons, List.map_nil, List.length_cons, List.length_nil, List.cons_append, List.nil_append, List.replicate, Nat.reduceSub, Nat.reduceAdd, Nat.reduceLT]; rfl) | rfl)))
  | ((with_reducible apply lq_); (· rfl))
  | ((with_reducible apply nd_); (· (first | rfl | assumption | exact nl_tup (by assumption) | (with_reducible apply nl_tup; ((repeat' (first | assumption | with_reducible exact nls_ints _ | with_reducible exact nls_strs _ | with_reducible exact pD_nls _ | with_reducible rfl | with_reducible apply nls_cons | with_reducible apply nls_app | with_reducible exact nls_nil | with_reducible apply nl_tup | with_reducible exact nl_int | with_reducible exact nl_str)); done)))))
  | ((with_reducible apply lm_insert); (· (first | omega | (simp only [numsD_len, List.length_map, List.length_append, List.length_cons, List.length_nil]; omega))); (· omega); (· omega))
  | ((with_reducible apply wa_nil))
  | ((with_reducible apply wa_val))
  | ((with_reducible apply wr_nil))
  | ((with_reducible apply wr_inl))
  | ((with_reducible apply wa_bor); (· rfl))
  | ((with_reducible apply wr_inr); (· rfl))
  | ((with_reducible apply wc_nil))
  | ((with_reducible apply wl_nil))
  | ((with_reducible apply isb_))
  | ((with_reducible apply isi_))
  | ((with_reducible apply iss_))
  | ((with_reducible apply tr_b))
  | ((with_reducible apply tr_i))
  | ((with_reducible apply tr_n))
  | ((with_reducible apply tr_l))
  | ((with_reducible apply tr_t))
  | ((with_reducible apply br_not))
  | ((with_reducible apply wg_set))
  | ((with_reducible apply wg_tup))
  | ((with_reducible apply wgs_nil))
  | ((with_reducible apply wgs_cons))
  | ((with_reducible apply wi_rng1))
  | ((with_reducible apply wi_rng2))
  | ((with_reducible apply wi_down))
  | ((with_reducible apply wi_seq))
  | ((with_reducible apply lp_nx))
  | ((with_reducible apply lp_ct))
  | ((with_reducible apply lp_bk))
  | ((with_reducible apply lp_rt))
  | ((with_reducible apply fk_rt); (· rfl))
  | ((with_reducible apply fk_nx); (· rfl))
  | ((with_reducible apply fp_rt))
  | ((with_reducible apply fp_nx))
  | ((with_reducible apply sn_); (· rfl))
  | ((with_reducible apply ln_); (· rfl))
  | ((with_reducible apply br_t); (· rfl))
  | ((with_reducible apply br_f); (· rfl))
  | ((with_reducible apply br_dt); (· (first | assumption | decide | omega)))
  | ((with_reducible apply br_df); (· (first | assumption | decide | omega)))
  | (with_reducible refine br_d (fun h => ?_) (fun h => ?_))
  | ((with_reducible apply rg_); (· omega); (· omega))
  | ((with_reducible apply sz_); (· (first | omega | assumption | (simp only [numsD_len, List.length_map, List.length_append, List.length_cons, List.length_nil]; omega))))
  | ((with_reducible apply sz1_); (· (first | omega | assumption | (simp only [numsD_len, List.length_map, List.length_append, List.length_cons, List.length_nil]; omega))))
  | ((with_reducible apply ix_lit); (· rfl))
  | ((with_reducible apply ix_pos); (· omega); (· (first | omega | (simp; omega))))
  | ((with_reducible apply tq_t); (· (first | rfl | assumption | with_reducible exact nls_ints _ | with_reducible exact nls_strs _ | with_reducible exact pD_nls _ | ((repeat' (first | assumption | with_reducible exact nls_ints _ | with_reducible exact nls_strs _ | with_reducible exact pD_nls _ | with_reducible rfl | with_reducible apply nls_cons | with_reducible apply nls_app | with_reducible exact nls_nil | with_reducible apply nl_tup | with_reducible exact nl_int | with_reducible exact nl_str)); done))))
  | ((with_reducible apply tq_l); (· (first | rfl | assumption | with_reducible exact nls_ints _ | with_reducible exact nls_strs _ | with_reducible exact pD_nls _ | ((repeat' (first | assumption | with_reducible exact nls_ints _ | with_reducible exact nls_strs _ | with_reducible exact pD_nls _ | with_reducible rfl | with_reducible apply nls_cons | with_reducible apply nls_app | with_reducible exact nls_nil | with_reducible apply nl_tup | with_reducible exact nl_int | with_reducible exact nl_str)); done))))
  | ((with_reducible apply tq_f); (· (first | rfl | assumption | with_reducible exact nls_ints _ | with_reducible exact nls_strs _ | with_reducible exact pD_nls _ | ((repeat' (first | assumption | with_reducible exact nls_ints _ | with_reducible exact nls_strs _ | with_reducible exact pD_nls _ | with_reducible rfl | with_reducible apply nls_cons | with_reducible apply nls_app | with_reducible exact nls_nil | with_reducible apply nl_tup | with_reducible exact nl_int | with_reducible exact nl_str)); done))))
  | ((with_reducible apply in_SS1); (· rfl))
  | ((with_reducible apply in_ST); (· rfl))
  | ((with_reducible apply in_); (· rfl))
  | ((with_reducible apply lm_append); (· (first | omega | (simp only [numsD_len, List.length_map, List.length_append, List.length_cons, List.length_nil]; omega))))
  | ((with_reducible apply lm_extL); (· (first | omega | (simp only [numsD_len, List.length_map, List.length_append, List.length_cons, List.length_nil]; omega))); (· (first | rfl | assumption)))
  | ((with_reducible apply lm_extT); (· (first | omega | (simp only [numsD_len, List.length_map, List.length_append, List.length_cons, List.length_nil]; omega))); (· (first | rfl | assumption)))
  | ((with_reducible apply rb_); (· omega); (· omega); (· omega); (· omega))
  | ((with_reducible apply br_et); (· (first | assumption | rfl)))
  | ((with_reducible apply br_ef); (· (first | assumption | (intro h; simp only [D.tup.injEq, List.cons.injEq, D.str.injEq, D.int.injEq, reduceCtorEq, false_and, and_false] at h; done))))
  | (with_reducible refine br_e (fun h => ?_) (fun h => ?_))
  | ((with_reducible apply wlis_nil); (· rfl); (· (first | exact Nat.le_refl _ | omega)))
  | ((with_reducible apply wcis_nil); (· rfl); (· (first | exact Nat.le_refl _ | omega)))
  | ((with_reducible apply wlis_cons); (· rfl); (· rfl); (· (first | rfl | assumption | exact nl_tup (by assumption) | (with_reducible apply nl_tup; ((repeat' (first | assumption | with_reducible exact nls_ints _ | with_reducible exact nls_strs _ | with_reducible exact pD_nls _ | with_reducible rfl | with_reducible apply nls_cons | with_reducible apply nls_app | with_reducible exact nls_nil | with_reducible apply nl_tup | with_reducible exact nl_int | with_reducible exact nl_str)); done)))))
  | ((with_reducible apply wcis_cons); (· rfl); (· rfl); (· (first | rfl | assumption | exact nl_tup (by assumption) | (with_reducible apply nl_tup; ((repeat' (first | assumption | with_reducible exact nls_ints _ | with_reducible exact nls_strs _ | with_reducible exact pD_nls _ | with_reducible rfl | with_reducible apply nls_cons | with_reducible apply nls_app | with_reducible exact nls_nil | with_reducible apply nl_tup | with_reducible exact nl_int | with_reducible exact nl_str)); done)))))
  | ((with_reducible apply sa_lst); (· rfl))
  | ((with_reducible apply sa_dic); (· rfl); (· (first | rfl | assumption | exact nl_tup (by assumption) | (with_reducible apply nl_tup; ((repeat' (first | assumption | with_reducible exact nls_ints _ | with_reducible exact nls_strs _ | with_reducible exact pD_nls _ | with_reducible rfl | with_reducible apply nls_cons | with_reducible apply nls_app | with_reducible exact nls_nil | with_reducible apply nl_tup | with_reducible exact nl_int | with_reducible exact nl_str)); done)))))
  | ((with_reducible apply ky_i))
  | ((with_reducible apply ky_s))
  | ((with_reducible apply dn_); (· rfl))
  | ((with_reducible apply fv_nx))
  | ((with_reducible apply fv_rt))
  | ((with_reducible apply wc_consA))
  | ((with_reducible apply wl_consA))
  | ((with_reducible apply wi_enum))
  | (with_reducible refine br_empM (fun h => ?_) (fun h => ?_))
  | (with_reducible refine br_emp (fun h => ?_) (fun h => ?_))
  | (with_reducible refine br_ (fun h => ?_) (fun h => ?_))
  | (with_reducible assumption)
  | (with_reducible rfl)
  | fail)
local macro_rules | `(tactic| decreasing_trivial_pre_omega) => `(tactic| ((with_reducible apply g_wo); first
  | ((with_reducible apply wo_ixZ); (· omega); (· assumption))
  | ((with_reducible apply wo_getN); (· assumption))
  | ((with_reducible apply wo_getZ); (· omega); (· assumption))
  | ((with_reducible apply wo_get1))
  | ((with_reducible apply wo_get2))
  | ((with_reducible apply wo_get3))
  | ((with_reducible apply wo_ixTa))
  | ((with_reducible apply wo_ixTb))
  | ((with_reducible apply wo_ixTc))
  | ((with_reducible apply wo_get0))
  | ((with_reducible apply wo_min2))
  | ((with_reducible apply wo_max2))
  | ((with_reducible apply wo_sumL))
  | ((with_reducible apply wo_addI))
  | ((with_reducible apply wo_subI))
  | ((with_reducible apply wo_andI))
  | ((with_reducible apply wo_ltI))
  | ((with_reducible apply wo_leI))
  | ((with_reducible apply wo_gtI))
  | ((with_reducible apply wo_gtXI))
  | ((with_reducible apply wo_geI))
  | ((with_reducible apply wo_eqI))
  | ((with_reducible apply wo_eqS))
  | ((with_reducible apply wo_neI))
  | ((with_reducible apply wo_neS))
  | ((with_reducible apply wo_negI))
  | ((with_reducible apply wo_lenT))
  | ((with_reducible apply wo_lenL))
  | ((with_reducible apply wo_lenXT))
  | ((with_reducible apply wo_lenXL))
  | ((with_reducible apply wo_lenXD))
  | ((with_reducible apply wo_lenXF))
  | ((with_reducible apply wo_intI))
  | ((with_reducible apply wo_notB))
  | ((with_reducible apply wo_maxL); (· (first | omega | assumption | (rw [List.length_map]; omega))))
  | ((with_reducible apply wo_lenS); (· (first | assumption | omega)))
  | ((with_reducible apply wo_lenXS); (· (first | assumption | omega)))
  | ((with_reducible apply wo_addS); (· (first | assumption | omega)))
  | ((with_reducible apply wo_slS); (· (first | assumption | omega)))
  | ((with_reducible apply wo_revT); (· (first | rfl | assumption)))
  | ((with_reducible apply wo_revLs); (· (first | rfl | assumption)))
  | ((with_reducible apply wo_mulXI); (· (first | exact cMul_r (by decide) | exact cMul_l (by decide) | exact cMul_r (decide_eq_true ⟨by omega, by omega⟩) | exact cMul_l (decide_eq_true ⟨by omega, by omega⟩))))
  | ((with_reducible apply wo_mul); (· (first | exact cMul_r (by decide) | exact cMul_l (by decide))))
  | ((with_reducible apply wo_addT); (· (first | omega | (simp only [List.length_append, List.length_map, List.length_cons, List.length_nil]; omega))); (· (first | rfl | assumption | with_reducible exact nls_ints _ | with_reducible exact nls_strs _ | with_reducible exact pD_nls _ | ((repeat' (first | assumption | with_reducible exact nls_ints _ | with_reducible exact nls_strs _ | with_reducible exact pD_nls _ | with_reducible rfl | with_reducible apply nls_cons | with_reducible apply nls_app | with_reducible exact nls_nil | with_reducible apply nl_tup | with_reducible exact nl_int | with_reducible exact nl_str)); done))); (· (first | rfl | assumption | with_reducible exact nls_ints _ | with_reducible exact nls_strs _ | with_reducible exact pD_nls _ | ((repeat' (first | assumption | with_reducible exact nls_ints _ | with_reducible exact nls_strs _ | with_reducible exact pD_nls _ | with_reducible rfl | with_reducible apply nls_cons | with_reducible apply nls_app | with_reducible exact nls_nil | with_reducible apply nl_tup | with_reducible exact nl_int | with_reducible exact nl_str)); done))))
  | ((with_reducible apply wo_addL); (· (first | omega | (simp only [List.length_append, List.length_map, List.length_cons, List.length_nil]; omega))); (· (first | rfl | assumption | with_reducible exact nls_ints _ | with_reducible exact nls_strs _ | with_reducible exact pD_nls _ | ((repeat' (first | assumption | with_reducible exact nls_ints _ | with_reducible exact nls_strs _ | with_reducible exact pD_nls _ | with_reducible rfl | with_reducible apply nls_cons | with_reducible apply nls_app | with_reducible exact nls_nil | with_reducible apply nl_tup | with_reducible exact nl_int | with_reducible exact nl_str)); done))); (· (first | rfl | assumption | with_reducible exact nls_ints _ | with_reducible exact nls_strs _ | with_reducible exact pD_nls _ | ((repeat' (first | assumption | with_reducible exact nls_ints _ | with_reducible exact nls_strs _ | with_reducible exact pD_nls _ | with_reducible rfl | with_reducible apply nls_cons | with_reducible apply nls_app | with_reducible exact nls_nil | with_reducible apply nl_tup | with_reducible exact nl_int | with_reducible exact nl_str)); done))))
  | ((with_reducible apply wo_mod); (· (first | decide | omega | assumption)))
  | ((with_reducible apply wo_fdiv); (· (first | assumption | decide | omega)); (· (first | assumption | decide | omega)))
  | ((with_reducible apply wo_fdivN); (· (first | assumption | decide | omega)); (· (first | assumption | decide | omega)))
  | ((with_reducible apply wo_divmod); (· (first | assumption | decide | omega)); (· (first | assumption | decide | omega)))
  | ((with_reducible apply wo_shl); (· decide))
  | ((with_reducible apply wo_pow); (· decide))
  | ((with_reducible apply wo_toTupL); (· (first | rfl | assumption | with_reducible exact nls_ints _ | with_reducible exact nls_strs _ | with_reducible exact pD_nls _ | ((repeat' (first | assumption | with_reducible exact nls_ints _ | with_reducible exact nls_strs _ | with_reducible exact pD_nls _ | with_reducible rfl | with_reducible apply nls_cons | with_reducible apply nls_app | with_reducible exact nls_nil | with_reducible apply nl_tup | with_reducible exact nl_int | with_reducible exact nl_str)); done))))
  | ((with_reducible apply wo_toTupT); (· (first | rfl | assumption | with_reducible exact nls_ints _ | with_reducible exact nls_strs _ | with_reducible exact pD_nls _ | ((repeat' (first | assumption | with_reducible exact nls_ints _ | with_reducible exact nls_strs _ | with_reducible exact pD_nls _ | with_reducible rfl | with_reducible apply nls_cons | with_reducible apply nls_app | with_reducible exact nls_nil | with_reducible apply nl_tup | with_reducible exact nl_int | with_reducible exact nl_str)); done))))
  | ((with_reducible apply wo_toLstL); (· (first | rfl | assumption | with_reducible exact nls_ints _ | with_reducible exact nls_strs _ | with_reducible exact pD_nls _ | ((repeat' (first | assumption | with_reducible exact nls_ints _ | with_reducible exact nls_strs _ | with_reducible exact pD_nls _ | with_reducible rfl | with_reducible apply nls_cons | with_reducible apply nls_app | with_reducible exact nls_nil | with_reducible apply nl_tup | with_reducible exact nl_int | with_reducible exact nl_str)); done))))
  | ((with_reducible apply wo_toLstT); (· (first | rfl | assumption | with_reducible exact nls_ints _ | with_reducible exact nls_strs _ | with_reducible exact pD_nls _ | ((repeat' (first | assumption | with_reducible exact nls_ints _ | with_reducible exact nls_strs _ | with_reducible exact pD_nls _ | with_reducible rfl | with_reducible apply nls_cons | with_reducible apply nls_app | with_reducible exact nls_nil | with_reducible apply nl_tup | with_reducible exact nl_int | with_reducible exact nl_str)); done))))
  | ((with_reducible refine wo_ixI ?ha ?h0 ?h1 (fun x hx => ?q)); (case ha => rfl); (case h0 => omega); (case h1 => first | omega | (simp only [List.length_cons, List.length_nil]; omega)); (try simp only [List.mem_cons, D.int.injEq, List.not_mem_nil, or_false] at hx))
  | ((with_reducible refine wo_ixS ?ha ?h0 ?h1 (fun x hx => ?q)); (case ha => first | rfl | assumption); (case h0 => omega); (case h1 => first | omega | (simp only [List.length_cons, List.length_nil]; omega)))
  | ((with_reducible apply (wo_ (o := slD (.tup _) _ _))); (· rfl))
  | ((with_reducible apply (wo_ (o := eqD _ _))); (· rfl))
  | ((with_reducible apply (wo_ (o := neD _ _))); (· rfl))
  | ((with_reducible apply (wo_ (o := isND _ _))); (· rfl))
  | ((with_reducible apply (wo_ (o := notND _ _))); (· rfl))
  | ((with_reducible apply (wo_ (o := getD _ _))); (· rfl))
  | ((with_reducible apply (wo_ (o := ixD _ _))); (· rfl))
  | ((with_reducible apply (wo_ (o := isiD _ _))); (· rfl))
  | ((with_reducible apply (wo_ (o := lenD _))); (· rfl))
  | ((with_reducible apply (wo_ (o := lenX _))); (· rfl))
  | ((with_reducible apply (wo_ (o := notD _))); (· rfl))
  | ((with_reducible apply (wo_ (o := notT _))); (· rfl))
  | ((with_reducible apply (wo_ (o := toInt _))); (· rfl))
  | ((with_reducible apply (wo_ (o := absD _))); (· rfl))
  | ((with_reducible apply (wo_ (o := splitD _ _))); (· rfl))
  | ((with_reducible apply (wo_ (o := negD _))); (· rfl))
  | ((with_reducible apply (wo_ (o := inD _ _))); (· rfl))
  | ((with_reducible apply (wo_ (o := notInD _ _))); (· rfl))
  | ((with_reducible apply wo_allL))
  | ((with_reducible apply wo_anyL))
  | ((with_reducible apply wo_tabIn))
  | ((with_reducible apply wo_tabNotIn))
  | ((with_reducible apply wo_tabGet); (· rfl))
  | ((with_reducible refine wo_ixMI ?h0 ?h1 (fun i hi => ?q)); (case h0 => first | omega | (simp only [List.length_map] at *; omega)); (case h1 => first | omega | (simp only [List.length_map] at *; omega)))
  | ((with_reducible apply wo_eqSm); (· (first | assumption | rfl | with_reducible exact smB_cutP _ _ _ | with_reducible exact pD_sm _)); (· (first | assumption | rfl | with_reducible exact smB_cutP _ _ _ | with_reducible exact pD_sm _)))
  | ((with_reducible apply wo_neSm); (· (first | assumption | rfl | with_reducible exact smB_cutP _ _ _ | with_reducible exact pD_sm _)); (· (first | assumption | rfl | with_reducible exact smB_cutP _ _ _ | with_reducible exact pD_sm _)))
  | fail))
local macro_rules | `(tactic| decreasing_trivial_pre_omega) => `(tactic| ((with_reducible apply g_wp); first
  | ((with_reducible apply wp_bin))
  | ((with_reducible apply wp_c))
  | ((with_reducible apply wp_b))
  | ((with_reducible apply wp_un))
  | ((with_reducible apply wp_tup))
  | ((with_reducible apply wp_sl))
  | ((with_reducible apply wp_var); (· rfl))
  | fail))
local macro_rules | `(tactic| decreasing_trivial_pre_omega) => `(tactic| ((with_reducible apply g_wt); first
  | ((with_reducible apply wt_asT))
  | ((with_reducible apply wt_tru))
  | ((with_reducible apply wt_truP))
  | ((with_reducible apply wt_and))
  | ((with_reducible apply wt_or))
  | ((with_reducible apply wt_not))
  | ((with_reducible apply wt_yes))
  | fail))
local macro_rules | `(tactic| decreasing_trivial_pre_omega) => `(tactic| ((with_reducible apply g_we); first
  | ((with_reducible apply we_own))
  | ((with_reducible apply we_pure))
  | ((with_reducible apply we_tup))
  | ((with_reducible apply we_lst))
  | ((with_reducible apply we_b))
  | ((with_reducible apply we_bin))
  | ((with_reducible apply we_binP))
  | ((with_reducible apply we_un))
  | ((with_reducible apply we_dict0))
  | ((with_reducible apply we_if))
  | ((with_reducible apply we_and))
  | ((with_reducible apply we_or))
  | ((with_reducible apply we_inF))
  | ((with_reducible apply we_inT))
  | ((with_reducible apply we_inAny))
  | ((with_reducible apply we_chain))
  | ((with_reducible apply we_sm))
  | ((with_reducible apply we_slN))
  | ((with_reducible apply we_sl))
  | ((with_reducible apply we_rev))
  | ((with_reducible apply we_lc))
  | ((with_reducible apply we_take); (· rfl); (· (first | rfl | assumption | exact nl_tup (by assumption) | (with_reducible apply nl_tup; ((repeat' (first | assumption | with_reducible exact nls_ints _ | with_reducible exact nls_strs _ | with_reducible exact pD_nls _ | with_reducible rfl | with_reducible apply nls_cons | with_reducible apply nls_app | with_reducible exact nls_nil | with_reducible apply nl_tup | with_reducible exact nl_int | with_reducible exact nl_str)); done)))))
  | ((with_reducible apply we_takeL); (· rfl); (· rfl))
  | ((with_reducible apply we_ixN); (· rfl))
  | ((with_reducible apply we_append); (· rfl))
  | ((with_reducible apply we_lmut); (· rfl))
  | (with_reducible refine we_call ?_ (by decide))
  | ((with_reducible apply we_lmutI); (· rfl))
  | ((with_reducible apply we_slM))
  | ((with_reducible apply we_rgL1))
  | ((with_reducible apply we_rgT1))
  | ((with_reducible apply we_rgL2))
  | ((with_reducible apply we_lcWt); (· rfl); (· (first | rfl | assumption | with_reducible exact nls_ints _ | with_reducible exact nls_strs _ | with_reducible exact pD_nls _ | ((repeat' (first | assumption | with_reducible exact nls_ints _ | with_reducible exact nls_strs _ | with_reducible exact pD_nls _ | with_reducible rfl | with_reducible apply nls_cons | with_reducible apply nls_app | with_reducible exact nls_nil | with_reducible apply nl_tup | with_reducible exact nl_int | with_reducible exact nl_str)); done))); (· (first | omega | assumption | (simp only [List.length_map, List.length_append, List.length_cons, List.length_nil]; omega))))
  | ((with_reducible apply we_lcWl); (· rfl); (· (first | rfl | assumption | with_reducible exact nls_ints _ | with_reducible exact nls_strs _ | with_reducible exact pD_nls _ | ((repeat' (first | assumption | with_reducible exact nls_ints _ | with_reducible exact nls_strs _ | with_reducible exact pD_nls _ | with_reducible rfl | with_reducible apply nls_cons | with_reducible apply nls_app | with_reducible exact nls_nil | with_reducible apply nl_tup | with_reducible exact nl_int | with_reducible exact nl_str)); done))); (· (first | omega | assumption | (simp only [List.length_map, List.length_append, List.length_cons, List.length_nil]; omega))))
  | ((with_reducible apply we_lcWf); (· rfl); (· (first | rfl | assumption | with_reducible exact nls_ints _ | with_reducible exact nls_strs _ | with_reducible exact pD_nls _ | ((repeat' (first | assumption | with_reducible exact nls_ints _ | with_reducible exact nls_strs _ | with_reducible exact pD_nls _ | with_reducible rfl | with_reducible apply nls_cons | with_reducible apply nls_app | with_reducible exact nls_nil | with_reducible apply nl_tup | with_reducible exact nl_int | with_reducible exact nl_str)); done))); (· (first | omega | assumption | (simp only [List.length_map, List.length_append, List.length_cons, List.length_nil]; omega))))
  | fail))
local macro_rules | `(tactic| decreasing_trivial_pre_omega) => `(tactic| ((with_reducible apply g_ws); first
  | ((with_reducible apply ws_seq))
  | ((with_reducible apply ws_set))
  | ((with_reducible apply ws_ret))
  | ((with_reducible apply ws_retN))
  | ((with_reducible apply ws_if))
  | ((with_reducible apply ws_expr))
  | ((with_reducible apply ws_nil))
  | ((with_reducible apply ws_break))
  | ((with_reducible apply ws_cont))
  | ((with_reducible apply ws_setAny))
  | ((with_reducible apply ws_par))
  | ((with_reducible apply ws_asg))
  | ((with_reducible apply ws_for))
  | ((with_reducible apply ws_forS); (· rfl))
  | ((with_reducible apply ws_forBt); (· rfl); (· (first | rfl | assumption | with_reducible exact nls_ints _ | with_reducible exact nls_strs _ | with_reducible exact pD_nls _ | ((repeat' (first | assumption | with_reducible exact nls_ints _ | with_reducible exact nls_strs _ | with_reducible exact pD_nls _ | with_reducible rfl | with_reducible apply nls_cons | with_reducible apply nls_app | with_reducible exact nls_nil | with_reducible apply nl_tup | with_reducible exact nl_int | with_reducible exact nl_str)); done))))
  | ((with_reducible apply ws_forBl); (· rfl); (· (first | rfl | assumption | with_reducible exact nls_ints _ | with_reducible exact nls_strs _ | with_reducible exact pD_nls _ | ((repeat' (first | assumption | with_reducible exact nls_ints _ | with_reducible exact nls_strs _ | with_reducible exact pD_nls _ | with_reducible rfl | with_reducible apply nls_cons | with_reducible apply nls_app | with_reducible exact nls_nil | with_reducible apply nl_tup | with_reducible exact nl_int | with_reducible exact nl_str)); done))))
  | ((with_reducible apply ws_forBs); (· rfl))
  | ((with_reducible apply ws_forBf); (· rfl); (· (first | rfl | assumption | with_reducible exact nls_ints _ | with_reducible exact nls_strs _ | with_reducible exact pD_nls _ | ((repeat' (first | assumption | with_reducible exact nls_ints _ | with_reducible exact nls_strs _ | with_reducible exact pD_nls _ | with_reducible rfl | with_reducible apply nls_cons | with_reducible apply nls_app | with_reducible exact nls_nil | with_reducible apply nl_tup | with_reducible exact nl_int | with_reducible exact nl_str)); done))))
  | ((with_reducible apply ws_fz); (· rfl))
  | ((with_reducible apply ws_augIx))
  | ((with_reducible apply ws_aug))
  | fail))
set_option hygiene true
abbrev gapF (st : List (List D × D) × List D) : List D := (gaps st).map D.frz
theorem fzs_map (ds : List D) : fzDs ds = ds.map fzD := fzDs_map ds
theorem fz_gaps {st : List (List D × D) × List D} (h : SgOK st) (hn : noLists (names st) = true) : fzD (.lst [.lst (names st), .lst (gapD st)]) = .frz [.frz (names st), .frz (gapF st)] := by
  refine Bv.unbox ?_
  simp (disch := (
    refine Bv.idP ?_
    with_unfolding_all (
  have e1 : fzD (.lst (names st)) = .frz (names st) := fz_lst hn
  have e2 : fzDs (gapD st) = gapF st := by
    have e : gapD st = (gaps st).map D.lst := by unfold gapD gaps; rw [List.map_append, List.map_map]; rfl
    rw [e, fzDs_map, List.map_map]
    exact List.map_congr_left fun g m => fz_lst (nls_of fun d md => (h.rl g m d md).nl)
  have e3 : noLists (gapF st) = true := nls_of fun d m => by
    obtain ⟨g, mg, rfl⟩ := List.mem_map.mp m
    exact nls_of fun d md => (h.rl g mg d md).nl
  have e4 : fzD (.lst (gapD st)) = .frz (gapF st) := by
    unfold fzD
    rw [e2, if_pos e3]
  have e5 : fzDs [.lst (names st), .lst (gapD st)] = [.frz (names st), .frz (gapF st)] := by
    rw [fzDs_map]
    show [fzD (.lst (names st)), fzD (.lst (gapD st))] = _
    rw [e1, e4]
  unfold fzD
  rw [e5]
  exact if_pos (by show (noLists (names st) && (noLists (gapF st) && true)) = true; rw [hn, e3]; rfl)))) only [↓Bv.boxT]
theorem names_nls {st : List (List D × D) × List D} (h : SgOK st) : noLists (names st) = true := nls_of fun d m => by
  obtain ⟨p, mp, rfl⟩ := List.mem_map.mp m
  obtain ⟨nm, v, e, _, hv, _⟩ := h.il p mp
  rw [e]
  exact nls_cons rfl (nls_cons hv rfl)
theorem names_sm {st : List (List D × D) × List D} (h : SgOK st) : smsB 55 (names st) = true := smsB_of fun d m => by
  obtain ⟨p, mp, rfl⟩ := List.mem_map.mp m
  obtain ⟨nm, v, e, hs, _, hv⟩ := h.il p mp
  rw [e]
  show (strB nm && (smB 54 v && true)) = true
  rw [hs, smB_up v 50 54 (by decide) hv]; rfl
theorem wo_neF {a b : List D} {Q : D → Prop} (ha : smsB 55 a = true) (hb : smsB 55 b = true) (q : Q (.bl (!eqP (D.lst a = D.lst b)))) : WO (neD (.frz a) (.frz b)) Q := by
  refine Bv.unbox ?_
  simp (disch := (
    refine Bv.idP ?_
    with_unfolding_all (
  obtain ⟨d, e, h⟩ := wo_neSm (a := .lst a) (b := .lst b) (smB_up (.lst a) 56 60 (by decide) ha) (smB_up (.lst b) 56 60 (by decide) hb) q
  exact ⟨d, e, h⟩))) only [↓Bv.boxT]
theorem wo_neRT {a b : Int × Int} {Q : D → Prop} (q : Q (.bl (!eqP (rT a = rT b)))) : WO (neD (rT a) (rT b)) Q := wo_neSm rfl rfl q
theorem rT_inj {a b : Int × Int} (h : rT a = rT b) : a = b := by
  refine Bv.unbox ?_
  simp (disch := (
    refine Bv.idP ?_
    with_unfolding_all (
  have e3 := D.tup.inj h
  have e4 := List.cons.inj e3
  have e5 := List.cons.inj e4.2
  exact Prod.ext (D.int.inj e4.1) (D.int.inj e5.1)))) only [↓Bv.boxT]
theorem names_len {a b : List (List D × D) × List D} (h : names a = names b) : (gaps a).length = (gaps b).length := by
  refine Bv.unbox ?_
  simp (disch := (
    refine Bv.idP ?_
    with_unfolding_all (
  have := congrArg List.length h
  unfold names at this
  rw [List.length_map, List.length_map] at this
  unfold gaps
  rw [List.length_append, List.length_append, List.length_map, List.length_map, this]; rfl))) only [↓Bv.boxT]
theorem w_beat_due {a b : List D} {Q : D → List D → Prop} (ha : Lay a) (hb : Lay b) (hla : a.length ≤ 40) (hlb : b.length ≤ 40) (q : ∀ r : Bool, (r = true ↔ Due (seg a) (seg b)) → Q (.bl r) [.tup a, .tup b]) : WF m__law_beat_due [.tup a, .tup b] Q := by
  refine Bv.unbox ?_
  simp (disch := (
    refine Bv.idP ?_
    with_unfolding_all (
  have hn1 := ha.nls
  have hn2 := hb.nls
  have s1 := sg_ok ha
  have s2 := sg_ok hb
  have n1 := names_sm s1
  have n2 := names_sm s2
  have la := sgL_seg a
  have lb := sgL_seg b
  refine wf_mk ?_
  (repeat' (first | (refine w_gaps (by assumption) (by omega) ?_) | decreasing_trivial_pre_omega))
  rw [fz_gaps s2 (names_nls s2)]
  (repeat' (first | (refine w_gaps (by assumption) (by omega) ?_) | decreasing_trivial_pre_omega))
  rw [fz_gaps s1 (names_nls s1)]
  (repeat' (first | ((with_reducible apply wo_getF); (· (first | omega | (simp only [List.length_cons, List.length_nil, List.length_map, List.length_append]; omega))); (· (first | rfl | assumption))) | ((with_reducible apply wo_neF); (· assumption); (· assumption)) | ((with_reducible apply wo_neRT)) | (refine w_rate_due (by assumption) (by omega) ?_) | decreasing_trivial_pre_omega))
  · have hne : names (seg a) = names (seg b) := D.lst.inj (by assumption)
    have hle := names_len hne
    have hgl : (gaps (seg a)).length ≤ 41 := by
      have := sgL_pre (seg a)
      unfold gaps; rw [List.length_append, List.length_map, List.length_singleton]; omega
    refine rg_ (by omega) (by rw [List.length_map]; omega) ?_
    refine wl_inv (fun k ρ => ∃ c, ρ = [some (.tup a), some (.tup b), some (.frz [.frz (names (seg a)), .frz (gapF (seg a))]), some (.frz [.frz (names (seg b)), .frz (gapF (seg b))]), c] ∧ ∀ j < k, ((gaps (seg a))[j]?).map rt = ((gaps (seg b))[j]?).map rt) ⟨_, rfl, fun j hj => (by omega)⟩ ?_ ?_
    · rintro k d ρ hk ⟨c, rfl, hj⟩
      obtain ⟨hk', rfl⟩ := numsD_at hk
      simp only [List.length_map] at hk'
      have k1 : k < (gaps (seg a)).length := by omega
      have k2 : k < (gaps (seg b)).length := by omega
      have e1 : (gapF (seg a))[(0 + (k : Int)).toNat]? = some (.frz (gaps (seg a))[k]) := by
        rw [Int.zero_add, Int.toNat_natCast]
        unfold gapF; rw [List.getElem?_map, List.getElem?_eq_getElem k1]; rfl
      have e2 : (gapF (seg b))[(0 + (k : Int)).toNat]? = some (.frz (gaps (seg b))[k]) := by
        rw [Int.zero_add, Int.toNat_natCast]
        unfold gapF; rw [List.getElem?_map, List.getElem?_eq_getElem k2]; rfl
      have m1 := List.getElem_mem k1
      have m2 := List.getElem_mem k2
      have f1 := List.getElem?_eq_getElem k1
      have f2 := List.getElem?_eq_getElem k2
      have r1 := s1.rl _ m1
      have r2 := s2.rl _ m2
      have l1 := sgL_gap m1
      have l2 := sgL_gap m2
      generalize (gaps (seg a))[k] = g1 at *
      generalize (gaps (seg b))[k] = g2 at *
      have q1 : noList (.frz g1) = true := (nls_of fun d md => (r1 d md).nl : noLists g1 = true)
      have q2 : noList (.frz g2) = true := (nls_of fun d md => (r2 d md).nl : noLists g2 = true)
      (repeat' (first | ((with_reducible apply wo_getF); (· (first | omega | (simp only [List.length_cons, List.length_nil, List.length_map, List.length_append]; omega))); (· (first | rfl | assumption))) | ((with_reducible apply wo_neF); (· assumption); (· assumption)) | ((with_reducible apply wo_neRT)) | (refine w_rate_due (by assumption) (by omega) ?_) | decreasing_trivial_pre_omega))
      · have hrt : rt g1 = rt g2 := rT_inj (by assumption)
        refine ⟨_, rfl, fun j hj' => ?_⟩
        rcases Nat.lt_or_ge j k with h' | h'
        · exact hj j h'
        · have : j = k := by omega
          subst this
          rw [f1, f2]
          show some (rt g1) = some (rt g2)
          rw [hrt]
      · refine q false ⟨fun e => (by cases e), fun e => ?_⟩
        exfalso
        have := congrArg (fun l => l[k]?) e.2
        rw [List.getElem?_map, List.getElem?_map, f1, f2] at this
        exact absurd (congrArg rT (Option.some.inj this)) (by assumption)
    · rintro ρ ⟨c, rfl, hj⟩
      rw [numsD_len] at hj
      (repeat' decreasing_trivial_pre_omega)
      refine q true ⟨fun _ => ⟨hne, ?_⟩, fun _ => rfl⟩
      apply List.ext_getElem?
      intro j
      rw [List.getElem?_map, List.getElem?_map]
      rcases Nat.lt_or_ge j (gaps (seg a)).length with h' | h'
      · exact hj j (by simp only [List.length_map]; omega)
      · rw [List.getElem?_eq_none h', List.getElem?_eq_none (by omega)]
  · exact q false ⟨fun e => (by cases e), fun e => absurd (congrArg D.lst e.1) (by assumption)⟩))) only [↓Bv.boxT]
theorem wo_neP2 {p : Int × Int} {a b : Int} {Q : D → Prop} (q : Q (.bl (!eqP (p = (a, b))))) : WO (neD (.tup [.int p.1, .int p.2]) (.tup [.int a, .int b])) Q := by
  refine Bv.unbox ?_
  simp (disch := (
    refine Bv.idP ?_
    with_unfolding_all (
  refine wo_neSm rfl rfl ?_
  have e : eqP (D.tup [.int p.1, .int p.2] = D.tup [.int a, .int b]) = eqP (p = (a, b)) := by
    refine eqP_of (eqP_iff.trans ⟨fun h => ?_, fun h => ?_⟩)
    · exact rT_inj (a := p) (b := (a, b)) h
    · rw [h]
  rw [e]
  exact q))) only [↓Bv.boxT]
theorem w_closed_up {ds : List D} {Q : D → List D → Prop} (hy : Lay ds) (hl : ds.length ≤ 40) (q : Q (.lst (clo (seg ds))) [.tup ds]) : WF m_closed_up [.tup ds] Q := by
  refine Bv.unbox ?_
  simp (disch := (
    refine Bv.idP ?_
    with_unfolding_all (
  have hn := hy.nls
  refine wf_mk ?_
  (repeat' decreasing_trivial_pre_omega)
  refine wl_inv (fun k ρ => ∃ c, ρ = [some (.tup ds), some (.lst (clB (seg (ds.take k)).1)), some (.tup [.int (rt (seg (ds.take k)).2).1, .int (rt (seg (ds.take k)).2).2]), c]) ⟨_, rfl⟩ ?_ ?_
  · rintro k d ρ hk ⟨c, rfl⟩
    have hs := seg_take hk
    have g1 := gaps_len (ds := ds) k
    have g2 := clB_len (seg (ds.take k)).1
    rcases hy d (List.mem_of_getElem? hk) with hd | hd
    · have hi := hd.isIL
      have hdn := hd.nl
      unfold stp at hs
      rw [hi, if_neg Bool.false_ne_true] at hs
      obtain ⟨n, kk, x, rfl, h1, h2, h3, hx⟩ := hd
      have hr := rate_snoc (seg (ds.take k)).2 (.tup [.str "every", .int n, .int kk, x]) (1, 0)
      (repeat' decreasing_trivial_pre_omega)
      exact ⟨_, by rw [hs]; unfold rt; rw [hr]; rfl⟩
    · have hi := hd.isIL
      have hdn := hd.nl
      unfold stp at hs
      rw [hi, if_pos rfl] at hs
      obtain ⟨nm, v, rfl, h1, h2, h3⟩ := hd
      have hc := clB_snoc (seg (ds.take k)).1 ((seg (ds.take k)).2, .tup [.str "is", .str nm, v])
      dsimp only at hc
      (repeat' (first | ((with_reducible apply wo_neP2)) | decreasing_trivial_pre_omega))
      · exact ⟨_, by rw [hs]; dsimp only; rw [hc]; unfold rtc; rw [if_pos h]; rfl⟩
      · exact ⟨_, by rw [hs]; dsimp only; rw [hc]; unfold rtc; rw [if_neg h, List.append_assoc]; rfl⟩
  · rintro ρ ⟨c, rfl⟩
    rw [List.take_length]
    have g1 := gaps_len (ds := ds) ds.length
    rw [List.take_length] at g1
    have g2 := clB_len (seg ds).1
    unfold clo at q
    rw [cl_eq] at q
    unfold rtc at q
    (repeat' (first | ((with_reducible apply wo_neP2)) | decreasing_trivial_pre_omega))
    · rw [if_pos h, List.append_nil] at q
      exact q
    · rw [if_neg h] at q
      exact q))) only [↓Bv.boxT]
theorem clo_sm {st : List (List D × D) × List D} (h : SgOK st) : smsB 59 (clo st) = true := smsB_of fun d m => by
  have hr : ∀ g, d ∈ rtc g → smB 59 d = true := fun g m => by
    unfold rtc at m
    split at m
    · cases m
    · rw [List.mem_singleton.mp m]; rfl
  have hb : ∀ l : List (List D × D), (∀ p ∈ l, IL p.2) → d ∈ clB l → smB 59 d = true := fun l => by
    induction l with
    | nil => intro _ m; cases m
    | cons p l ih =>
      intro hl m
      rcases List.mem_append.mp (show d ∈ rtc p.1 ++ p.2 :: clB l from m) with m | m
      · exact hr _ m
      · rcases List.mem_cons.mp m with rfl | m
        · obtain ⟨nm, v, e, hs, _, hv⟩ := hl p List.mem_cons_self
          rw [e]
          show (strB "is" && (strB nm && (smB 58 v && true))) = true
          rw [hs, smB_up v 50 58 (by decide) hv]; decide +kernel
        · exact ih (fun q mq => hl q (List.mem_cons_of_mem _ mq)) m
  unfold clo at m
  rw [cl_eq] at m
  rcases List.mem_append.mp m with m | m
  · exact hb _ h.il m
  · exact hr _ m
theorem w_one_beat {a b : List D} {Q : D → List D → Prop} (ha : Lay a) (hb : Lay b) (hla : a.length ≤ 40) (hlb : b.length ≤ 40) (q : ∀ r : Bool, (r = true ↔ Due (seg a) (seg b)) → Q (.bl r) [.tup a, .tup b]) : WF m_one_beat [.tup a, .tup b] Q := by
  refine Bv.unbox ?_
  simp (disch := (
    refine Bv.idP ?_
    with_unfolding_all (
  have hn1 := ha.nls
  have hn2 := hb.nls
  have s1 := clo_sm (sg_ok ha)
  have s2 := clo_sm (sg_ok hb)
  refine wf_mk ?_
  (repeat' (first | (refine w_closed_up (by assumption) (by omega) ?_) | decreasing_trivial_pre_omega))
  refine q _ ?_
  rw [eqP_iff, due_clo (sg_ok ha) (sg_ok hb)]
  exact ⟨D.lst.inj, congrArg D.lst⟩))) only [↓Bv.boxT]
end G_k26


namespace G_k26
open PySem PySem.Spec PyProof.Rows L2 Bv Rt
set_option hygiene false
local macro_rules | `(tactic| decreasing_trivial_pre_omega) => `(tactic| first
  | ((with_reducible apply wes_nil))
  | ((with_reducible apply wes_cons))
  | ((with_reducible apply sq_nx))
  | ((with_reducible apply sq_rt))
  | ((with_reducible apply sq_bk))
  | ((with_reducible apply sq_ct))
  | ((with_reducible apply wps_cons))
  | ((with_reducible apply wps_nil))
  | ((with_reducible apply wo3_none))
  | ((with_reducible apply wo3_some))
  | ((with_reducible apply ne_); (· (first | (simp only [List.set_cons_zero, List.set_cons_succ, putBack, wipeE, List.map_cons, List.map_nil, List.length_cons, List.length_nil, List.cons_append, List.nil_append, List.replicate, Nat.reduceSub, Nat.reduceAdd, Nat.reduceLT]; rfl) | rfl)))
  | ((with_reducible apply lq_); (· rfl))
  | ((with_reducible apply nd_); (· (first | rfl | assumption | exact nl_tup (by assumption) | (with_reducible apply nl_tup; ((repeat' (first | assumption | with_reducible exact nls_ints _ | with_reducible exact nls_strs _ | with_reducible exact pD_nls _ | with_reducible rfl | with_reducible apply nls_cons | with_reducible apply nls_app | with_reducible exact nls_nil | with_reducible apply nl_tup | with_reducible exact nl_int | with_reducible exact nl_str)); done)))))
  | ((with_reducible apply lm_insert); (· (first | omega | (simp only [numsD_len, List.length_map, List.length_append, List.length_cons, List.length_nil]; omega))); (· omega); (· omega))
  | ((with_reducible apply wa_nil))
  | ((with_reducible apply wa_val))
  | ((with_reducible apply wr_nil))
  | ((with_reducible apply wr_inl))
  | ((with_reducible apply wa_bor); (· rfl))
  | ((with_reducible apply wr_inr); (· rfl))
  | ((with_reducible apply wc_nil))
  | ((with_reducible apply wl_nil))
  | ((with_reducible apply isb_))
  | ((with_reducible apply isi_))
  | ((with_reducible apply iss_))
  | ((with_reducible apply tr_b))
  | ((with_reducible apply tr_i))
  | ((with_reducible apply tr_n))
  | ((with_reducible apply tr_l))
  | ((with_reducible apply tr_t))
  | ((with_reducible apply br_not))
  | ((with_reducible apply wg_set))
  | ((with_reducible apply wg_tup))
  | ((with_reducible apply wgs_nil))
  | ((with_reducible apply wgs_cons))
  | ((with_reducible apply wi_rng1))
  | ((with_reducible apply wi_rng2))
  | ((with_reducible apply wi_down))
  | ((with_reducible apply wi_seq))
  | ((with_reducible apply lp_nx))
  | ((with_reducible apply lp_ct))
  | ((with_reducible apply lp_bk))
  | ((with_reducible apply lp_rt))
  | ((with_reducible apply fk_rt); (· rfl))
  | ((with_reducible apply fk_nx); (· rfl))
  | ((with_reducible apply fp_rt))
  | ((with_reducible apply fp_nx))
  | ((with_reducible apply sn_); (· rfl))
  | ((with_reducible apply ln_); (· rfl))
  | ((with_reducible apply br_t); (· rfl))
  | ((with_reducible apply br_f); (· rfl))
  | ((with_reducible apply br_dt); (· (first | assumption | decide | omega)))
  | ((with_reducible apply br_df); (· (first | assumption | decide | omega)))
  | (with_reducible refine br_d (fun h => ?_) (fun h => ?_))
  | ((with_reducible apply rg_); (· omega); (· omega))
  | ((with_reducible apply sz_); (· (first | omega | assumption | (simp only [numsD_len, List.length_map, List.length_append, List.length_cons, List.length_nil]; omega))))
  | ((with_reducible apply sz1_); (· (first | omega | assumption | (simp only [numsD_len, List.length_map, List.length_append, List.length_cons, List.length_nil]; omega))))
  | ((with_reducible apply ix_lit); (· rfl))
  | ((with_reducible apply ix_pos); (· omega); (· (first | omega | (simp; omega))))
  | ((with_reducible apply tq_t); (· (first | rfl | assumption | with_reducible exact nls_ints _ | with_reducible exact nls_strs _ | with_reducible exact pD_nls _ | ((repeat' (first | assumption | with_reducible exact nls_ints _ | with_reducible exact nls_strs _ | with_reducible exact pD_nls _ | with_reducible rfl | with_reducible apply nls_cons | with_reducible apply nls_app | with_reducible exact nls_nil | with_reducible apply nl_tup | with_reducible exact nl_int | with_reducible exact nl_str)); done))))
  | ((with_reducible apply tq_l); (· (first | rfl | assumption | with_reducible exact nls_ints _ | with_reducible exact nls_strs _ | with_reducible exact pD_nls _ | ((repeat' (first | assumption | with_reducible exact nls_ints _ | with_reducible exact nls_strs _ | with_reducible exact pD_nls _ | with_reducible rfl | with_reducible apply nls_cons | with_reducible apply nls_app | with_reducible exact nls_nil | with_reducible apply nl_tup | with_reducible exact nl_int | with_reducible exact nl_str)); done))))
  | ((with_reducible apply tq_f); (· (first | rfl | assumption | with_reducible exact nls_ints _ | with_reducible exact nls_strs _ | with_reducible exact pD_nls _ | ((repeat' (first | assumption | with_reducible exact nls_ints _ | with_reducible exact nls_strs _ | with_reducible exact pD_nls _ | with_reducible rfl | with_reducible apply nls_cons | with_reducible apply nls_app | with_reducible exact nls_nil | with_reducible apply nl_tup | with_reducible exact nl_int | with_reducible exact nl_str)); done))))
  | ((with_reducible apply in_SS1); (· rfl))
  | ((with_reducible apply in_ST); (· rfl))
  | ((with_reducible apply in_); (· rfl))
  | ((with_reducible apply lm_append); (· (first | omega | (simp only [numsD_len, List.length_map, List.length_append, List.length_cons, List.length_nil]; omega))))
  | ((with_reducible apply lm_extL); (· (first | omega | (simp only [numsD_len, List.length_map, List.length_append, List.length_cons, List.length_nil]; omega))); (· (first | rfl | assumption)))
  | ((with_reducible apply lm_extT); (· (first | omega | (simp only [numsD_len, List.length_map, List.length_append, List.length_cons, List.length_nil]; omega))); (· (first | rfl | assumption)))
  | ((with_reducible apply rb_); (· omega); (· omega); (· omega); (· omega))
  | ((with_reducible apply br_et); (· (first | assumption | rfl)))
  | ((with_reducible apply br_ef); (· (first | assumption | (intro h; simp only [D.tup.injEq, List.cons.injEq, D.str.injEq, D.int.injEq, reduceCtorEq, false_and, and_false] at h; done))))
  | (with_reducible refine br_e (fun h => ?_) (fun h => ?_))
  | ((with_reducible apply wlis_nil); (· rfl); (· (first | exact Nat.le_refl _ | omega)))
  | ((with_reducible apply wcis_nil); (· rfl); (· (first | exact Nat.le_refl _ | omega)))
  | ((with_reducible apply wlis_cons); (· rfl); (· rfl); (· (first | rfl | assumption | exact nl_tup (by assumption) | (with_reducible apply nl_tup; ((repeat' (first | assumption | with_reducible exact nls_ints _ | with_reducible exact nls_strs _ | with_reducible exact pD_nls _ | with_reducible rfl | with_reducible apply nls_cons | with_reducible apply nls_app | with_reducible exact nls_nil | with_reducible apply nl_tup | with_reducible exact nl_int | with_reducible exact nl_str)); done)))))
  | ((with_reducible apply wcis_cons); (· rfl); (· rfl); (· (first | rfl | assumption | exact nl_tup (by assumption) | (with_reducible apply nl_tup; ((repeat' (first | assumption | with_reducible exact nls_ints _ | with_reducible exact nls_strs _ | with_reducible exact pD_nls _ | with_reducible rfl | with_reducible apply nls_cons | with_reducible apply nls_app | with_reducible exact nls_nil | with_reducible apply nl_tup | with_reducible exact nl_int | with_reducible exact nl_str)); done)))))
  | ((with_reducible apply sa_lst); (· rfl))
  | ((with_reducible apply sa_dic); (· rfl); (· (first | rfl | assumption | exact nl_tup (by assumption) | (with_reducible apply nl_tup; ((repeat' (first | assumption | with_reducible exact nls_ints _ | with_reducible exact nls_strs _ | with_reducible exact pD_nls _ | with_reducible rfl | with_reducible apply nls_cons | with_reducible apply nls_app | with_reducible exact nls_nil | with_reducible apply nl_tup | with_reducible exact nl_int | with_reducible exact nl_str)); done)))))
  | ((with_reducible apply ky_i))
  | ((with_reducible apply ky_s))
  | ((with_reducible apply dn_); (· rfl))
  | ((with_reducible apply fv_nx))
  | ((with_reducible apply fv_rt))
  | ((with_reducible apply wc_consA))
  | ((with_reducible apply wl_consA))
  | ((with_reducible apply wi_enum))
  | (with_reducible refine br_empM (fun h => ?_) (fun h => ?_))
  | (with_reducible refine br_emp (fun h => ?_) (fun h => ?_))
  | (with_reducible refine br_ (fun h => ?_) (fun h => ?_))
  | (with_reducible assumption)
  | (with_reducible rfl)
  | fail)
local macro_rules | `(tactic| decreasing_trivial_pre_omega) => `(tactic| ((with_reducible apply g_wo); first
  | ((with_reducible apply wo_ixZ); (· omega); (· assumption))
  | ((with_reducible apply wo_getN); (· assumption))
  | ((with_reducible apply wo_getZ); (· omega); (· assumption))
  | ((with_reducible apply wo_get1))
  | ((with_reducible apply wo_get2))
  | ((with_reducible apply wo_get3))
  | ((with_reducible apply wo_ixTa))
  | ((with_reducible apply wo_ixTb))
  | ((with_reducible apply wo_ixTc))
  | ((with_reducible apply wo_get0))
  | ((with_reducible apply wo_min2))
  | ((with_reducible apply wo_max2))
  | ((with_reducible apply wo_sumL))
  | ((with_reducible apply wo_addI))
  | ((with_reducible apply wo_subI))
  | ((with_reducible apply wo_andI))
  | ((with_reducible apply wo_ltI))
  | ((with_reducible apply wo_leI))
  | ((with_reducible apply wo_gtI))
  | ((with_reducible apply wo_gtXI))
  | ((with_reducible apply wo_geI))
  | ((with_reducible apply wo_eqI))
  | ((with_reducible apply wo_eqS))
  | ((with_reducible apply wo_neI))
  | ((with_reducible apply wo_neS))
  | ((with_reducible apply wo_negI))
  | ((with_reducible apply wo_lenT))
  | ((with_reducible apply wo_lenL))
  | ((with_reducible apply wo_lenXT))
  | ((with_reducible apply wo_lenXL))
  | ((with_reducible apply wo_lenXD))
  | ((with_reducible apply wo_lenXF))
  | ((with_reducible apply wo_intI))
  | ((with_reducible apply wo_notB))
  | ((with_reducible apply wo_maxL); (· (first | omega | assumption | (rw [List.length_map]; omega))))
  | ((with_reducible apply wo_lenS); (· (first | assumption | omega)))
  | ((with_reducible apply wo_lenXS); (· (first | assumption | omega)))
  | ((with_reducible apply wo_addS); (· (first | assumption | omega)))
  | ((with_reducible apply wo_slS); (· (first | assumption | omega)))
  | ((with_reducible apply wo_revT); (· (first | rfl | assumption)))
  | ((with_reducible apply wo_revLs); (· (first | rfl | assumption)))
  | ((with_reducible apply wo_mulXI); (· (first | exact cMul_r (by decide) | exact cMul_l (by decide) | exact cMul_r (decide_eq_true ⟨by omega, by omega⟩) | exact cMul_l (decide_eq_true ⟨by omega, by omega⟩))))
  | ((with_reducible apply wo_mul); (· (first | exact cMul_r (by decide) | exact cMul_l (by decide))))
  | ((with_reducible apply wo_addT); (· (first | omega | (simp only [List.length_append, List.length_map, List.length_cons, List.length_nil]; omega))); (· (first | rfl | assumption | with_reducible exact nls_ints _ | with_reducible exact nls_strs _ | with_reducible exact pD_nls _ | ((repeat' (first | assumption | with_reducible exact nls_ints _ | with_reducible exact nls_strs _ | with_reducible exact pD_nls _ | with_reducible rfl | with_reducible apply nls_cons | with_reducible apply nls_app | with_reducible exact nls_nil | with_reducible apply nl_tup | with_reducible exact nl_int | with_reducible exact nl_str)); done))); (· (first | rfl | assumption | with_reducible exact nls_ints _ | with_reducible exact nls_strs _ | with_reducible exact pD_nls _ | ((repeat' (first | assumption | with_reducible exact nls_ints _ | with_reducible exact nls_strs _ | with_reducible exact pD_nls _ | with_reducible rfl | with_reducible apply nls_cons | with_reducible apply nls_app | with_reducible exact nls_nil | with_reducible apply nl_tup | with_reducible exact nl_int | with_reducible exact nl_str)); done))))
  | ((with_reducible apply wo_addL); (· (first | omega | (simp only [List.length_append, List.length_map, List.length_cons, List.length_nil]; omega))); (· (first | rfl | assumption | with_reducible exact nls_ints _ | with_reducible exact nls_strs _ | with_reducible exact pD_nls _ | ((repeat' (first | assumption | with_reducible exact nls_ints _ | with_reducible exact nls_strs _ | with_reducible exact pD_nls _ | with_reducible rfl | with_reducible apply nls_cons | with_reducible apply nls_app | with_reducible exact nls_nil | with_reducible apply nl_tup | with_reducible exact nl_int | with_reducible exact nl_str)); done))); (· (first | rfl | assumption | with_reducible exact nls_ints _ | with_reducible exact nls_strs _ | with_reducible exact pD_nls _ | ((repeat' (first | assumption | with_reducible exact nls_ints _ | with_reducible exact nls_strs _ | with_reducible exact pD_nls _ | with_reducible rfl | with_reducible apply nls_cons | with_reducible apply nls_app | with_reducible exact nls_nil | with_reducible apply nl_tup | with_reducible exact nl_int | with_reducible exact nl_str)); done))))
  | ((with_reducible apply wo_mod); (· (first | decide | omega | assumption)))
  | ((with_reducible apply wo_fdiv); (· (first | assumption | decide | omega)); (· (first | assumption | decide | omega)))
  | ((with_reducible apply wo_fdivN); (· (first | assumption | decide | omega)); (· (first | assumption | decide | omega)))
  | ((with_reducible apply wo_divmod); (· (first | assumption | decide | omega)); (· (first | assumption | decide | omega)))
  | ((with_reducible apply wo_shl); (· decide))
  | ((with_reducible apply wo_pow); (· decide))
  | ((with_reducible apply wo_toTupL); (· (first | rfl | assumption | with_reducible exact nls_ints _ | with_reducible exact nls_strs _ | with_reducible exact pD_nls _ | ((repeat' (first | assumption | with_reducible exact nls_ints _ | with_reducible exact nls_strs _ | with_reducible exact pD_nls _ | with_reducible rfl | with_reducible apply nls_cons | with_reducible apply nls_app | with_reducible exact nls_nil | with_reducible apply nl_tup | with_reducible exact nl_int | with_reducible exact nl_str)); done))))
  | ((with_reducible apply wo_toTupT); (· (first | rfl | assumption | with_reducible exact nls_ints _ | with_reducible exact nls_strs _ | with_reducible exact pD_nls _ | ((repeat' (first | assumption | with_reducible exact nls_ints _ | with_reducible exact nls_strs _ | with_reducible exact pD_nls _ | with_reducible rfl | with_reducible apply nls_cons | with_reducible apply nls_app | with_reducible exact nls_nil | with_reducible apply nl_tup | with_reducible exact nl_int | with_reducible exact nl_str)); done))))
  | ((with_reducible apply wo_toLstL); (· (first | rfl | assumption | with_reducible exact nls_ints _ | with_reducible exact nls_strs _ | with_reducible exact pD_nls _ | ((repeat' (first | assumption | with_reducible exact nls_ints _ | with_reducible exact nls_strs _ | with_reducible exact pD_nls _ | with_reducible rfl | with_reducible apply nls_cons | with_reducible apply nls_app | with_reducible exact nls_nil | with_reducible apply nl_tup | with_reducible exact nl_int | with_reducible exact nl_str)); done))))
  | ((with_reducible apply wo_toLstT); (· (first | rfl | assumption | with_reducible exact nls_ints _ | with_reducible exact nls_strs _ | with_reducible exact pD_nls _ | ((repeat' (first | assumption | with_reducible exact nls_ints _ | with_reducible exact nls_strs _ | with_reducible exact pD_nls _ | with_reducible rfl | with_reducible apply nls_cons | with_reducible apply nls_app | with_reducible exact nls_nil | with_reducible apply nl_tup | with_reducible exact nl_int | with_reducible exact nl_str)); done))))
  | ((with_reducible refine wo_ixI ?ha ?h0 ?h1 (fun x hx => ?q)); (case ha => rfl); (case h0 => omega); (case h1 => first | omega | (simp only [List.length_cons, List.length_nil]; omega)); (try simp only [List.mem_cons, D.int.injEq, List.not_mem_nil, or_false] at hx))
  | ((with_reducible refine wo_ixS ?ha ?h0 ?h1 (fun x hx => ?q)); (case ha => first | rfl | assumption); (case h0 => omega); (case h1 => first | omega | (simp only [List.length_cons, List.length_nil]; omega)))
  | ((with_reducible apply (wo_ (o := slD (.tup _) _ _))); (· rfl))
  | ((with_reducible apply (wo_ (o := eqD _ _))); (· rfl))
  | ((with_reducible apply (wo_ (o := neD _ _))); (· rfl))
  | ((with_reducible apply (wo_ (o := isND _ _))); (· rfl))
  | ((with_reducible apply (wo_ (o := notND _ _))); (· rfl))
  | ((with_reducible apply (wo_ (o := getD _ _))); (· rfl))
  | ((with_reducible apply (wo_ (o := ixD _ _))); (· rfl))
  | ((with_reducible apply (wo_ (o := isiD _ _))); (· rfl))
  | ((with_reducible apply (wo_ (o := lenD _))); (· rfl))
  | ((with_reducible apply (wo_ (o := lenX _))); (· rfl))
  | ((with_reducible apply (wo_ (o := notD _))); (· rfl))
  | ((with_reducible apply (wo_ (o := notT _))); (· rfl))
  | ((with_reducible apply (wo_ (o := toInt _))); (· rfl))
  | ((with_reducible apply (wo_ (o := absD _))); (· rfl))
  | ((with_reducible apply (wo_ (o := splitD _ _))); (· rfl))
  | ((with_reducible apply (wo_ (o := negD _))); (· rfl))
  | ((with_reducible apply (wo_ (o := inD _ _))); (· rfl))
  | ((with_reducible apply (wo_ (o := notInD _ _))); (· rfl))
  | ((with_reducible apply wo_allL))
  | ((with_reducible apply wo_anyL))
  | ((with_reducible apply wo_tabIn))
  | ((with_reducible apply wo_tabNotIn))
  | ((with_reducible apply wo_tabGet); (· rfl))
  | ((with_reducible refine wo_ixMI ?h0 ?h1 (fun i hi => ?q)); (case h0 => first | omega | (simp only [List.length_map] at *; omega)); (case h1 => first | omega | (simp only [List.length_map] at *; omega)))
  | ((with_reducible apply wo_eqSm); (· (first | assumption | rfl | with_reducible exact smB_cutP _ _ _ | with_reducible exact pD_sm _)); (· (first | assumption | rfl | with_reducible exact smB_cutP _ _ _ | with_reducible exact pD_sm _)))
  | ((with_reducible apply wo_neSm); (· (first | assumption | rfl | with_reducible exact smB_cutP _ _ _ | with_reducible exact pD_sm _)); (· (first | assumption | rfl | with_reducible exact smB_cutP _ _ _ | with_reducible exact pD_sm _)))
  | fail))
local macro_rules | `(tactic| decreasing_trivial_pre_omega) => `(tactic| ((with_reducible apply g_wp); first
  | ((with_reducible apply wp_bin))
  | ((with_reducible apply wp_c))
  | ((with_reducible apply wp_b))
  | ((with_reducible apply wp_un))
  | ((with_reducible apply wp_tup))
  | ((with_reducible apply wp_sl))
  | ((with_reducible apply wp_var); (· rfl))
  | fail))
local macro_rules | `(tactic| decreasing_trivial_pre_omega) => `(tactic| ((with_reducible apply g_wt); first
  | ((with_reducible apply wt_asT))
  | ((with_reducible apply wt_tru))
  | ((with_reducible apply wt_truP))
  | ((with_reducible apply wt_and))
  | ((with_reducible apply wt_or))
  | ((with_reducible apply wt_not))
  | ((with_reducible apply wt_yes))
  | fail))
local macro_rules | `(tactic| decreasing_trivial_pre_omega) => `(tactic| ((with_reducible apply g_we); first
  | ((with_reducible apply we_own))
  | ((with_reducible apply we_pure))
  | ((with_reducible apply we_tup))
  | ((with_reducible apply we_lst))
  | ((with_reducible apply we_b))
  | ((with_reducible apply we_bin))
  | ((with_reducible apply we_binP))
  | ((with_reducible apply we_un))
  | ((with_reducible apply we_dict0))
  | ((with_reducible apply we_if))
  | ((with_reducible apply we_and))
  | ((with_reducible apply we_or))
  | ((with_reducible apply we_inF))
  | ((with_reducible apply we_inT))
  | ((with_reducible apply we_inAny))
  | ((with_reducible apply we_chain))
  | ((with_reducible apply we_sm))
  | ((with_reducible apply we_slN))
  | ((with_reducible apply we_sl))
  | ((with_reducible apply we_rev))
  | ((with_reducible apply we_lc))
  | ((with_reducible apply we_take); (· rfl); (· (first | rfl | assumption | exact nl_tup (by assumption) | (with_reducible apply nl_tup; ((repeat' (first | assumption | with_reducible exact nls_ints _ | with_reducible exact nls_strs _ | with_reducible exact pD_nls _ | with_reducible rfl | with_reducible apply nls_cons | with_reducible apply nls_app | with_reducible exact nls_nil | with_reducible apply nl_tup | with_reducible exact nl_int | with_reducible exact nl_str)); done)))))
  | ((with_reducible apply we_takeL); (· rfl); (· rfl))
  | ((with_reducible apply we_ixN); (· rfl))
  | ((with_reducible apply we_append); (· rfl))
  | ((with_reducible apply we_lmut); (· rfl))
  | (with_reducible refine we_call ?_ (by decide))
  | ((with_reducible apply we_lmutI); (· rfl))
  | ((with_reducible apply we_slM))
  | ((with_reducible apply we_rgL1))
  | ((with_reducible apply we_rgT1))
  | ((with_reducible apply we_rgL2))
  | ((with_reducible apply we_lcWt); (· rfl); (· (first | rfl | assumption | with_reducible exact nls_ints _ | with_reducible exact nls_strs _ | with_reducible exact pD_nls _ | ((repeat' (first | assumption | with_reducible exact nls_ints _ | with_reducible exact nls_strs _ | with_reducible exact pD_nls _ | with_reducible rfl | with_reducible apply nls_cons | with_reducible apply nls_app | with_reducible exact nls_nil | with_reducible apply nl_tup | with_reducible exact nl_int | with_reducible exact nl_str)); done))); (· (first | omega | assumption | (simp only [List.length_map, List.length_append, List.length_cons, List.length_nil]; omega))))
  | ((with_reducible apply we_lcWl); (· rfl); (· (first | rfl | assumption | with_reducible exact nls_ints _ | with_reducible exact nls_strs _ | with_reducible exact pD_nls _ | ((repeat' (first | assumption | with_reducible exact nls_ints _ | with_reducible exact nls_strs _ | with_reducible exact pD_nls _ | with_reducible rfl | with_reducible apply nls_cons | with_reducible apply nls_app | with_reducible exact nls_nil | with_reducible apply nl_tup | with_reducible exact nl_int | with_reducible exact nl_str)); done))); (· (first | omega | assumption | (simp only [List.length_map, List.length_append, List.length_cons, List.length_nil]; omega))))
  | ((with_reducible apply we_lcWf); (· rfl); (· (first | rfl | assumption | with_reducible exact nls_ints _ | with_reducible exact nls_strs _ | with_reducible exact pD_nls _ | ((repeat' (first | assumption | with_reducible exact nls_ints _ | with_reducible exact nls_strs _ | with_reducible exact pD_nls _ | with_reducible rfl | with_reducible apply nls_cons | with_reducible apply nls_app | with_reducible exact nls_nil | with_reducible apply nl_tup | with_reducible exact nl_int | with_reducible exact nl_str)); done))); (· (first | omega | assumption | (simp only [List.length_map, List.length_append, List.length_cons, List.length_nil]; omega))))
  | fail))
local macro_rules | `(tactic| decreasing_trivial_pre_omega) => `(tactic| ((with_reducible apply g_ws); first
  | ((with_reducible apply ws_seq))
  | ((with_reducible apply ws_set))
  | ((with_reducible apply ws_ret))
  | ((with_reducible apply ws_retN))
  | ((with_reducible apply ws_if))
  | ((with_reducible apply ws_expr))
  | ((with_reducible apply ws_nil))
  | ((with_reducible apply ws_break))
  | ((with_reducible apply ws_cont))
  | ((with_reducible apply ws_setAny))
  | ((with_reducible apply ws_par))
  | ((with_reducible apply ws_asg))
  | ((with_reducible apply ws_for))
  | ((with_reducible apply ws_forS); (· rfl))
  | ((with_reducible apply ws_forBt); (· rfl); (· (first | rfl | assumption | with_reducible exact nls_ints _ | with_reducible exact nls_strs _ | with_reducible exact pD_nls _ | ((repeat' (first | assumption | with_reducible exact nls_ints _ | with_reducible exact nls_strs _ | with_reducible exact pD_nls _ | with_reducible rfl | with_reducible apply nls_cons | with_reducible apply nls_app | with_reducible exact nls_nil | with_reducible apply nl_tup | with_reducible exact nl_int | with_reducible exact nl_str)); done))))
  | ((with_reducible apply ws_forBl); (· rfl); (· (first | rfl | assumption | with_reducible exact nls_ints _ | with_reducible exact nls_strs _ | with_reducible exact pD_nls _ | ((repeat' (first | assumption | with_reducible exact nls_ints _ | with_reducible exact nls_strs _ | with_reducible exact pD_nls _ | with_reducible rfl | with_reducible apply nls_cons | with_reducible apply nls_app | with_reducible exact nls_nil | with_reducible apply nl_tup | with_reducible exact nl_int | with_reducible exact nl_str)); done))))
  | ((with_reducible apply ws_forBs); (· rfl))
  | ((with_reducible apply ws_forBf); (· rfl); (· (first | rfl | assumption | with_reducible exact nls_ints _ | with_reducible exact nls_strs _ | with_reducible exact pD_nls _ | ((repeat' (first | assumption | with_reducible exact nls_ints _ | with_reducible exact nls_strs _ | with_reducible exact pD_nls _ | with_reducible rfl | with_reducible apply nls_cons | with_reducible apply nls_app | with_reducible exact nls_nil | with_reducible apply nl_tup | with_reducible exact nl_int | with_reducible exact nl_str)); done))))
  | ((with_reducible apply ws_fz); (· rfl))
  | ((with_reducible apply ws_augIx))
  | ((with_reducible apply ws_aug))
  | fail))
set_option hygiene true
theorem wo_get0L {d : D} {ds : List D} {Q : D → Prop} (q : Q d) : WO (getD (.lst (d :: ds)) (.int 0)) Q := wo_getL (d := d) (atI_pos (by omega) rfl) q
theorem wo_ix2 {d : D} {Q : D → Prop} (hd : IL d) (q : ∀ v, noList v = true → smB 50 v = true → Q v) : WO (ixD d (.int 2)) Q := by
  obtain ⟨nm, v, rfl, _, h2, h3⟩ := hd
  exact wo_ixT (d := v) rfl (q v h2 h3)
/-- every name of a clock's layers has its row -/
def Has (kvs : List (Key × D)) (ds : List D) : Prop := ∀ nm v, .tup [.str "is", .str nm, v] ∈ ds → (valK kvs (.inr nm)).isSome = true
theorem w_values {L a b : List D} {Q : D → List D → Prop} (v : VD L) (ha : Lay a) (hb : Lay b) (hla : a.length ≤ 40) (hlb : b.length ≤ 40)
    (q : ∀ kvs L', VD L' → VOK kvs → Has kvs a → Has kvs b → Q (.dic kvs) [.lst L', .lst [.tup a, .tup b], .int 12]) : WF m__law_values [.lst L, .lst [.tup a, .tup b], .int 12] Q := by
  have hn1 := ha.nls
  have hn2 := hb.nls
  have hnn : noLists [D.tup a, D.tup b] = true := nls_cons hn1 (nls_cons hn2 rfl)
  obtain ⟨ls, hls⟩ : ∃ ls, ls = [D.tup a, D.tup b] := ⟨_, rfl⟩
  rw [← hls] at hnn
  rw [← hls]
  simp only [← hls] at q
  refine wf_mk ?_
  (repeat' decreasing_trivial_pre_omega)
  refine wli_inv hnn (fun k ρ => ∃ (L : List D) (kvs : List (Key × D)) (c4 c5 c6 c7 c8 c9 : Option D), ρ = [some (.lst L), some (.lst ls), some (.int 12), some (.dic kvs), c4, c5, c6, c7, c8, c9, none] ∧ VD L ∧ VOK kvs ∧ kvs.length ≤ 50 * k ∧ (0 < k → Has kvs a) ∧ (1 < k → Has kvs b)) (fun k ρ h => by obtain ⟨L, kvs, _, _, _, _, _, _, rfl, _⟩ := h; rfl) ⟨_, [], _, _, _, _, _, _, rfl, v, ⟨fun kd m => (by cases m)⟩, by simp, by omega, by omega⟩ ?_ ?_
  · rintro k d ρ hk ⟨L, kvs, c4, c5, c6, c7, c8, c9, rfl, v, hv, hkl, h0, h1⟩
    obtain ⟨cs, rfl, hc, hcl, hk2, hcase⟩ : ∃ cs, d = .tup cs ∧ Lay cs ∧ cs.length ≤ 40 ∧ k < 2 ∧ (k = 0 ∧ cs = a ∨ k = 1 ∧ cs = b) := by
      rw [hls] at hk
      match k, hk with
      | 0, hk => exact ⟨_, (Option.some.inj hk).symm, ha, hla, by omega, .inl ⟨rfl, rfl⟩⟩
      | 1, hk => exact ⟨_, (Option.some.inj hk).symm, hb, hlb, by omega, .inr ⟨rfl, rfl⟩⟩
      | k + 2, hk => cases hk
    have hcn := hc.nls
    (repeat' decreasing_trivial_pre_omega)
    refine wl_inv (fun j ρ => ∃ (L : List D) (kvs : List (Key × D)) (c5 c6 c7 c8 c9 : Option D), ρ = [some (.lst L), some (.lst ls), some (.int 12), some (.dic kvs), some (.tup cs), c5, c6, c7, c8, c9, none] ∧ VD L ∧ VOK kvs ∧ kvs.length ≤ 50 * k + j ∧ (0 < k → Has kvs a) ∧ Has kvs (cs.take j)) ⟨_, _, _, _, _, _, _, rfl, v, hv, by omega, h0, fun nm v m => (by cases m)⟩ ?_ ?_
    · rintro j d ρ hk ⟨L, kvs, c5, c6, c7, c8, c9, rfl, v, hv, hkl, h0, h1⟩
      have md := List.mem_of_getElem? hk
      have hjl := (List.getElem?_eq_some_iff.mp hk).1
      have ht : cs.take (j + 1) = cs.take j ++ [d] := by rw [List.take_succ, hk]; rfl
      rcases hc d md with hd | hd
      · have hdn := hd.nl
        obtain ⟨n, kk, x, rfl, h1', h2', h3', hx⟩ := hd
        (repeat' decreasing_trivial_pre_omega)
        refine ⟨_, _, _, _, _, _, _, rfl, v, hv, by omega, h0, fun nm v m => ?_⟩
        rw [ht] at m
        rcases List.mem_append.mp m with m | m
        · exact h1 nm v m
        · cases List.mem_singleton.mp m
      · have hdn := hd.nl
        have hdi := hd
        obtain ⟨nm, w, rfl, hs, hw, hws⟩ := hd
        (repeat' (first | (refine in_txt ?_) | decreasing_trivial_pre_omega))
        · refine ⟨_, _, _, _, _, _, _, rfl, v, hv, by omega, h0, fun nm' w' m => ?_⟩
          rw [ht] at m
          rcases List.mem_append.mp m with m | m
          · exact h1 nm' w' m
          · cases List.mem_singleton.mp m
            exact h
        · refine wc_inv (fun m ys ρ => ρ = [some (.lst L), some (.lst ls), some (.int 12), some (.dic kvs), some (.tup cs), some (.tup [.str "is", .str nm, w]), some (.lst []), c7, c8, c9, none] ∧ (∀ y ∈ ys, noList y = true ∧ smB 50 y = true) ∧ ys.length ≤ m ∧ (j < m → 0 < ys.length)) ⟨rfl, fun y m => (by cases m), by simp, fun e => (by omega)⟩ ?_ ?_
          · rintro m ys d ρ hk2 ⟨rfl, hys, hyl, hyp⟩
            have hml := (List.getElem?_eq_some_iff.mp hk2).1
            rcases hc d (List.mem_of_getElem? hk2) with hd | hd
            · have hdn' := hd.nl
              have hne : m ≠ j := fun e => by
                subst e
                rw [hk] at hk2
                obtain ⟨n, kk, x, e, _⟩ := hd
                rw [e] at hk2
                cases hk2
              obtain ⟨n, kk, x, rfl, h1', h2', h3', hx⟩ := hd
              (repeat' (first | (refine in_txt ?_) | decreasing_trivial_pre_omega))
              exact ⟨rfl, hys, by omega, fun e => hyp (by omega)⟩
            · have hdn' := hd.nl
              have hnm : ∀ nm' w', d = .tup [.str "is", .str nm', w'] → m = j → nm' = nm := fun nm' w' e1 e2 => by
                subst e2
                rw [hk] at hk2
                rw [e1] at hk2
                cases hk2
                rfl
              obtain ⟨nm', w', rfl, hs', hw', hws'⟩ := hd
              (repeat' (first | (refine in_txt ?_) | decreasing_trivial_pre_omega))
              · refine ⟨rfl, fun y my => ?_, by rw [List.length_append]; show ys.length + 1 ≤ m + 1; omega, fun _ => by simp⟩
                rcases List.mem_append.mp my with my | my
                · exact hys y my
                · rw [List.mem_singleton.mp my]; exact ⟨hw', hws'⟩
              · refine ⟨rfl, hys, by omega, fun e => hyp ?_⟩
                rcases Nat.lt_or_ge j m with h' | h'
                · exact h'
                · exact absurd (hnm _ _ rfl (by omega)) (by assumption)
          · rintro ys ρ ⟨rfl, hys, hyl, hyp⟩
            obtain ⟨y, yr, rfl⟩ : ∃ y yr, ys = y :: yr := by
              have := hyp hjl
              cases ys with
              | nil => cases this
              | cons y yr => exact ⟨y, yr, rfl⟩
            have hyy := hys y List.mem_cons_self
            obtain ⟨hy1, hy2⟩ := hyy
            (repeat' (first | (refine in_txt ?_) | ((with_reducible apply w_draw); (· (first | assumption | exact ⟨_, _, _, _, _, rfl, by omega, by first | omega | exact hi_nn _⟩)); (· (first | omega | (simp only [List.length_cons, List.length_nil, List.length_map, List.length_append]; omega))); (· (first | omega | (simp only [List.length_cons, List.length_nil, List.length_map, List.length_append]; omega))); intro r L' v hr1 hr2) | decreasing_trivial_pre_omega))
            refine w_draw v (by decide) (by decide) (fun r L' v hr1 hr2 => ?_)
            (repeat' (first | (refine in_txt ?_) | ((with_reducible apply w_draw); (· (first | assumption | exact ⟨_, _, _, _, _, rfl, by omega, by first | omega | exact hi_nn _⟩)); (· (first | omega | (simp only [List.length_cons, List.length_nil, List.length_map, List.length_append]; omega))); (· (first | omega | (simp only [List.length_cons, List.length_nil, List.length_map, List.length_append]; omega))); intro r L' v hr1 hr2) | decreasing_trivial_pre_omega))
            refine wl_inv (fun t ρ => ∃ (L row : List D) (c9 : Option D), ρ = [some (.lst L), some (.lst ls), some (.int 12), some (.dic kvs), some (.tup cs), some (.tup [.str "is", .str nm, w]), some (.lst row), some (.lst (y :: yr)), some (.int r), c9, none] ∧ VD L ∧ row.length = t ∧ noLists row = true ∧ smsB 50 row = true) ⟨_, [], _, rfl, by assumption, rfl, rfl, rfl⟩ ?_ ?_
            · rintro t d ρ hk3 ⟨L, row, c9, rfl, v, hrl, hrn, hrs⟩
              obtain ⟨hk3', rfl⟩ := numsD_at hk3
              have htl : t < 12 := hk3'
              (repeat' (first | (refine in_txt ?_) | ((with_reducible apply w_draw); (· (first | assumption | exact ⟨_, _, _, _, _, rfl, by omega, by first | omega | exact hi_nn _⟩)); (· (first | omega | (simp only [List.length_cons, List.length_nil, List.length_map, List.length_append]; omega))); (· (first | omega | (simp only [List.length_cons, List.length_nil, List.length_map, List.length_append]; omega))); intro r L' v hr1 hr2) | ((with_reducible apply w_is_layer); (· (first | assumption | exact ⟨_, _, _, _, _, rfl, by omega, by first | omega | exact hi_nn _⟩)); intro d L' v hd) | ((with_reducible apply wo_ix2); (· assumption); intro x hx hxs) | ((with_reducible apply wo_shr); (· (first | omega | (simp only [List.length_cons, List.length_nil, List.length_map, List.length_append]; omega)))) | ((with_reducible apply wo_get0L)) | decreasing_trivial_pre_omega))
              · exact ⟨_, _, _, rfl, v, by rw [List.length_append, hrl]; rfl, nls_app hrn (nls_cons hy1 rfl), smsB_of fun e me => (List.mem_append.mp me).elim (smsB_mem hrs) fun me => by rw [List.mem_singleton.mp me]; exact hy2⟩
              · exact ⟨_, _, _, rfl, v, by rw [List.length_append, hrl]; rfl, nls_app hrn (nls_cons hx rfl), smsB_of fun e me => (List.mem_append.mp me).elim (smsB_mem hrs) fun me => by rw [List.mem_singleton.mp me]; exact hxs⟩
            · rintro ρ ⟨L, row, c9, rfl, v, hrl, hrn, hrs⟩
              have hfz := fz_lst hrn
              have hrl : row.length = 12 := hrl
              (repeat' (first | (refine in_txt ?_) | decreasing_trivial_pre_omega))
              rw [hfz]
              (repeat' (first | (refine in_txt ?_) | decreasing_trivial_pre_omega))
              have hnew : (valK kvs (.inr nm)).isSome = false := by assumption
              rw [put_new hnew]
              refine ⟨_, _, _, _, _, _, _, rfl, v, ⟨fun kd m => ?_⟩, by rw [List.length_append, List.length_singleton]; omega, fun e nm' w' m => val_app (h0 e nm' w' m), fun nm' w' m => ?_⟩
              · rcases List.mem_append.mp m with m | m
                · exact hv.ok kd m
                · rw [List.mem_singleton.mp m]
                  exact ⟨row, rfl, hrl, hrn, hrs⟩
              · rw [ht] at m
                rcases List.mem_append.mp m with m | m
                · exact val_app (h1 nm' w' m)
                · cases List.mem_singleton.mp m
                  exact val_new
    · rintro ρ ⟨L, kvs, c5, c6, c7, c8, c9, rfl, v, hv, hkl, h0, h1⟩
      rw [List.take_length] at h1
      (repeat' decreasing_trivial_pre_omega)
      refine ⟨_, _, _, _, _, _, _, _, rfl, v, hv, by omega, fun _ => ?_, fun _ => ?_⟩
      · rcases hcase with ⟨e1, e2⟩ | ⟨e1, e2⟩
        · rw [← e2]; exact h1
        · exact h0 (by omega)
      · rcases hcase with ⟨e1, e2⟩ | ⟨e1, e2⟩
        · omega
        · rw [← e2]; exact h1
  · rintro ρ ⟨L, kvs, c4, c5, c6, c7, c8, c9, rfl, v, hv, hkl, h0, h1⟩
    (repeat' decreasing_trivial_pre_omega)
    rw [hls] at h0 h1
    exact q _ _ v hv (h0 (by simp)) (h1 (by simp))
end G_k26


namespace G_k26
open PySem PySem.Spec PyProof.Rows L2 Bv Rt
set_option hygiene false
local macro_rules | `(tactic| decreasing_trivial_pre_omega) => `(tactic| first
  | ((with_reducible apply wes_nil))
  | ((with_reducible apply wes_cons))
  | ((with_reducible apply sq_nx))
  | ((with_reducible apply sq_rt))
  | ((with_reducible apply sq_bk))
  | ((with_reducible apply sq_ct))
  | ((with_reducible apply wps_cons))
  | ((with_reducible apply wps_nil))
  | ((with_reducible apply wo3_none))
  | ((with_reducible apply wo3_some))
  | ((with_reducible apply ne_); (· (first | (simp only [List.set_cons_zero, List.set_cons_succ, putBack, wipeE, List.map_cons, List.map_nil, List.length_cons, List.length_nil, List.cons_append, List.nil_append, List.replicate, Nat.reduceSub, Nat.reduceAdd, Nat.reduceLT]; rfl) | rfl)))
  | ((with_reducible apply lq_); (· rfl))
  | ((with_reducible apply nd_); (· (first | rfl | assumption | exact nl_tup (by assumption) | (with_reducible apply nl_tup; ((repeat' (first | assumption | with_reducible exact nls_ints _ | with_reducible exact nls_strs _ | with_reducible exact pD_nls _ | with_reducible rfl | with_reducible apply nls_cons | with_reducible apply nls_app | with_reducible exact nls_nil | with_reducible apply nl_tup | with_reducible exact nl_int | with_reducible exact nl_str)); done)))))
  | ((with_reducible apply lm_insert); (· (first | omega | (simp only [numsD_len, List.length_map, List.length_append, List.length_cons, List.length_nil]; omega))); (· omega); (· omega))
  | ((with_reducible apply wa_nil))
  | ((with_reducible apply wa_val))
  | ((with_reducible apply wr_nil))
  | ((with_reducible apply wr_inl))
  | ((with_reducible apply wa_bor); (· rfl))
  | ((with_reducible apply wr_inr); (· rfl))
  | ((with_reducible apply wc_nil))
  | ((with_reducible apply wl_nil))
  | ((with_reducible apply isb_))
  | ((with_reducible apply isi_))
  | ((with_reducible apply iss_))
  | ((with_reducible apply tr_b))
  | ((with_reducible apply tr_i))
  | ((with_reducible apply tr_n))
  | ((with_reducible apply tr_l))
  | ((with_reducible apply tr_t))
  | ((with_reducible apply br_not))
  | ((with_reducible apply wg_set))
  | ((with_reducible apply wg_tup))
  | ((with_reducible apply wgs_nil))
  | ((with_reducible apply wgs_cons))
  | ((with_reducible apply wi_rng1))
  | ((with_reducible apply wi_rng2))
  | ((with_reducible apply wi_down))
  | ((with_reducible apply wi_seq))
  | ((with_reducible apply lp_nx))
  | ((with_reducible apply lp_ct))
  | ((with_reducible apply lp_bk))
  | ((with_reducible apply lp_rt))
  | ((with_reducible apply fk_rt); (· rfl))
  | ((with_reducible apply fk_nx); (· rfl))
  | ((with_reducible apply fp_rt))
  | ((with_reducible apply fp_nx))
  | ((with_reducible apply sn_); (· rfl))
  | ((with_reducible apply ln_); (· rfl))
  | ((with_reducible apply br_t); (· rfl))
  | ((with_reducible apply br_f); (· rfl))
  | ((with_reducible apply br_dt); (· (first | assumption | decide | omega)))
  | ((with_reducible apply br_df); (· (first | assumption | decide | omega)))
  | (with_reducible refine br_d (fun h => ?_) (fun h => ?_))
  | ((with_reducible apply rg_); (· omega); (· omega))
  | ((with_reducible apply sz_); (· (first | omega | assumption | (simp only [numsD_len, List.length_map, List.length_append, List.length_cons, List.length_nil]; omega))))
  | ((with_reducible apply sz1_); (· (first | omega | assumption | (simp only [numsD_len, List.length_map, List.length_append, List.length_cons, List.length_nil]; omega))))
  | ((with_reducible apply ix_lit); (· rfl))
  | ((with_reducible apply ix_pos); (· omega); (· (first | omega | (simp; omega))))
  | ((with_reducible apply tq_t); (· (first | rfl | assumption | with_reducible exact nls_ints _ | with_reducible exact nls_strs _ | with_reducible exact pD_nls _ | ((repeat' (first | assumption | with_reducible exact nls_ints _ | with_reducible exact nls_strs _ | with_reducible exact pD_nls _ | with_reducible rfl | with_reducible apply nls_cons | with_reducible apply nls_app | with_reducible exact nls_nil | with_reducible apply nl_tup | with_reducible exact nl_int | with_reducible exact nl_str)); done))))
  | ((with_reducible apply tq_l); (· (first | rfl | assumption | with_reducible exact nls_ints _ | with_reducible exact nls_strs _ | with_reducible exact pD_nls _ | ((repeat' (first | assumption | with_reducible exact nls_ints _ | with_reducible exact nls_strs _ | with_reducible exact pD_nls _ | with_reducible rfl | with_reducible apply nls_cons | with_reducible apply nls_app | with_reducible exact nls_nil | with_reducible apply nl_tup | with_reducible exact nl_int | with_reducible exact nl_str)); done))))
  | ((with_reducible apply tq_f); (· (first | rfl | assumption | with_reducible exact nls_ints _ | with_reducible exact nls_strs _ | with_reducible exact pD_nls _ | ((repeat' (first | assumption | with_reducible exact nls_ints _ | with_reducible exact nls_strs _ | with_reducible exact pD_nls _ | with_reducible rfl | with_reducible apply nls_cons | with_reducible apply nls_app | with_reducible exact nls_nil | with_reducible apply nl_tup | with_reducible exact nl_int | with_reducible exact nl_str)); done))))
  | ((with_reducible apply in_SS1); (· rfl))
  | ((with_reducible apply in_ST); (· rfl))
  | ((with_reducible apply in_); (· rfl))
  | ((with_reducible apply lm_append); (· (first | omega | (simp only [numsD_len, List.length_map, List.length_append, List.length_cons, List.length_nil]; omega))))
  | ((with_reducible apply lm_extL); (· (first | omega | (simp only [numsD_len, List.length_map, List.length_append, List.length_cons, List.length_nil]; omega))); (· (first | rfl | assumption)))
  | ((with_reducible apply lm_extT); (· (first | omega | (simp only [numsD_len, List.length_map, List.length_append, List.length_cons, List.length_nil]; omega))); (· (first | rfl | assumption)))
  | ((with_reducible apply rb_); (· omega); (· omega); (· omega); (· omega))
  | ((with_reducible apply br_et); (· (first | assumption | rfl)))
  | ((with_reducible apply br_ef); (· (first | assumption | (intro h; simp only [D.tup.injEq, List.cons.injEq, D.str.injEq, D.int.injEq, reduceCtorEq, false_and, and_false] at h; done))))
  | (with_reducible refine br_e (fun h => ?_) (fun h => ?_))
  | ((with_reducible apply wlis_nil); (· rfl); (· (first | exact Nat.le_refl _ | omega)))
  | ((with_reducible apply wcis_nil); (· rfl); (· (first | exact Nat.le_refl _ | omega)))
  | ((with_reducible apply wlis_cons); (· rfl); (· rfl); (· (first | rfl | assumption | exact nl_tup (by assumption) | (with_reducible apply nl_tup; ((repeat' (first | assumption | with_reducible exact nls_ints _ | with_reducible exact nls_strs _ | with_reducible exact pD_nls _ | with_reducible rfl | with_reducible apply nls_cons | with_reducible apply nls_app | with_reducible exact nls_nil | with_reducible apply nl_tup | with_reducible exact nl_int | with_reducible exact nl_str)); done)))))
  | ((with_reducible apply wcis_cons); (· rfl); (· rfl); (· (first | rfl | assumption | exact nl_tup (by assumption) | (with_reducible apply nl_tup; ((repeat' (first | assumption | with_reducible exact nls_ints _ | with_reducible exact nls_strs _ | with_reducible exact pD_nls _ | with_reducible rfl | with_reducible apply nls_cons | with_reducible apply nls_app | with_reducible exact nls_nil | with_reducible apply nl_tup | with_reducible exact nl_int | with_reducible exact nl_str)); done)))))
  | ((with_reducible apply sa_lst); (· rfl))
  | ((with_reducible apply sa_dic); (· rfl); (· (first | rfl | assumption | exact nl_tup (by assumption) | (with_reducible apply nl_tup; ((repeat' (first | assumption | with_reducible exact nls_ints _ | with_reducible exact nls_strs _ | with_reducible exact pD_nls _ | with_reducible rfl | with_reducible apply nls_cons | with_reducible apply nls_app | with_reducible exact nls_nil | with_reducible apply nl_tup | with_reducible exact nl_int | with_reducible exact nl_str)); done)))))
  | ((with_reducible apply ky_i))
  | ((with_reducible apply ky_s))
  | ((with_reducible apply dn_); (· rfl))
  | ((with_reducible apply fv_nx))
  | ((with_reducible apply fv_rt))
  | ((with_reducible apply wc_consA))
  | ((with_reducible apply wl_consA))
  | ((with_reducible apply wi_enum))
  | (with_reducible refine br_empM (fun h => ?_) (fun h => ?_))
  | (with_reducible refine br_emp (fun h => ?_) (fun h => ?_))
  | (with_reducible refine br_ (fun h => ?_) (fun h => ?_))
  | (with_reducible assumption)
  | (with_reducible rfl)
  | fail)
local macro_rules | `(tactic| decreasing_trivial_pre_omega) => `(tactic| ((with_reducible apply g_wo); first
  | ((with_reducible apply wo_ixZ); (· omega); (· assumption))
  | ((with_reducible apply wo_getN); (· assumption))
  | ((with_reducible apply wo_getZ); (· omega); (· assumption))
  | ((with_reducible apply wo_get1))
  | ((with_reducible apply wo_get2))
  | ((with_reducible apply wo_get3))
  | ((with_reducible apply wo_ixTa))
  | ((with_reducible apply wo_ixTb))
  | ((with_reducible apply wo_ixTc))
  | ((with_reducible apply wo_get0))
  | ((with_reducible apply wo_min2))
  | ((with_reducible apply wo_max2))
  | ((with_reducible apply wo_sumL))
  | ((with_reducible apply wo_addI))
  | ((with_reducible apply wo_subI))
  | ((with_reducible apply wo_andI))
  | ((with_reducible apply wo_ltI))
  | ((with_reducible apply wo_leI))
  | ((with_reducible apply wo_gtI))
  | ((with_reducible apply wo_gtXI))
  | ((with_reducible apply wo_geI))
  | ((with_reducible apply wo_eqI))
  | ((with_reducible apply wo_eqS))
  | ((with_reducible apply wo_neI))
  | ((with_reducible apply wo_neS))
  | ((with_reducible apply wo_negI))
  | ((with_reducible apply wo_lenT))
  | ((with_reducible apply wo_lenL))
  | ((with_reducible apply wo_lenXT))
  | ((with_reducible apply wo_lenXL))
  | ((with_reducible apply wo_lenXD))
  | ((with_reducible apply wo_lenXF))
  | ((with_reducible apply wo_intI))
  | ((with_reducible apply wo_notB))
  | ((with_reducible apply wo_maxL); (· (first | omega | assumption | (rw [List.length_map]; omega))))
  | ((with_reducible apply wo_lenS); (· (first | assumption | omega)))
  | ((with_reducible apply wo_lenXS); (· (first | assumption | omega)))
  | ((with_reducible apply wo_addS); (· (first | assumption | omega)))
  | ((with_reducible apply wo_slS); (· (first | assumption | omega)))
  | ((with_reducible apply wo_revT); (· (first | rfl | assumption)))
  | ((with_reducible apply wo_revLs); (· (first | rfl | assumption)))
  | ((with_reducible apply wo_mulXI); (· (first | exact cMul_r (by decide) | exact cMul_l (by decide) | exact cMul_r (decide_eq_true ⟨by omega, by omega⟩) | exact cMul_l (decide_eq_true ⟨by omega, by omega⟩))))
  | ((with_reducible apply wo_mul); (· (first | exact cMul_r (by decide) | exact cMul_l (by decide))))
  | ((with_reducible apply wo_addT); (· (first | omega | (simp only [List.length_append, List.length_map, List.length_cons, List.length_nil]; omega))); (· (first | rfl | assumption | with_reducible exact nls_ints _ | with_reducible exact nls_strs _ | with_reducible exact pD_nls _ | ((repeat' (first | assumption | with_reducible exact nls_ints _ | with_reducible exact nls_strs _ | with_reducible exact pD_nls _ | with_reducible rfl | with_reducible apply nls_cons | with_reducible apply nls_app | with_reducible exact nls_nil | with_reducible apply nl_tup | with_reducible exact nl_int | with_reducible exact nl_str)); done))); (· (first | rfl | assumption | with_reducible exact nls_ints _ | with_reducible exact nls_strs _ | with_reducible exact pD_nls _ | ((repeat' (first | assumption | with_reducible exact nls_ints _ | with_reducible exact nls_strs _ | with_reducible exact pD_nls _ | with_reducible rfl | with_reducible apply nls_cons | with_reducible apply nls_app | with_reducible exact nls_nil | with_reducible apply nl_tup | with_reducible exact nl_int | with_reducible exact nl_str)); done))))
  | ((with_reducible apply wo_addL); (· (first | omega | (simp only [List.length_append, List.length_map, List.length_cons, List.length_nil]; omega))); (· (first | rfl | assumption | with_reducible exact nls_ints _ | with_reducible exact nls_strs _ | with_reducible exact pD_nls _ | ((repeat' (first | assumption | with_reducible exact nls_ints _ | with_reducible exact nls_strs _ | with_reducible exact pD_nls _ | with_reducible rfl | with_reducible apply nls_cons | with_reducible apply nls_app | with_reducible exact nls_nil | with_reducible apply nl_tup | with_reducible exact nl_int | with_reducible exact nl_str)); done))); (· (first | rfl | assumption | with_reducible exact nls_ints _ | with_reducible exact nls_strs _ | with_reducible exact pD_nls _ | ((repeat' (first | assumption | with_reducible exact nls_ints _ | with_reducible exact nls_strs _ | with_reducible exact pD_nls _ | with_reducible rfl | with_reducible apply nls_cons | with_reducible apply nls_app | with_reducible exact nls_nil | with_reducible apply nl_tup | with_reducible exact nl_int | with_reducible exact nl_str)); done))))
  | ((with_reducible apply wo_mod); (· (first | decide | omega | assumption)))
  | ((with_reducible apply wo_fdiv); (· (first | assumption | decide | omega)); (· (first | assumption | decide | omega)))
  | ((with_reducible apply wo_fdivN); (· (first | assumption | decide | omega)); (· (first | assumption | decide | omega)))
  | ((with_reducible apply wo_divmod); (· (first | assumption | decide | omega)); (· (first | assumption | decide | omega)))
  | ((with_reducible apply wo_shl); (· decide))
  | ((with_reducible apply wo_pow); (· decide))
  | ((with_reducible apply wo_toTupL); (· (first | rfl | assumption | with_reducible exact nls_ints _ | with_reducible exact nls_strs _ | with_reducible exact pD_nls _ | ((repeat' (first | assumption | with_reducible exact nls_ints _ | with_reducible exact nls_strs _ | with_reducible exact pD_nls _ | with_reducible rfl | with_reducible apply nls_cons | with_reducible apply nls_app | with_reducible exact nls_nil | with_reducible apply nl_tup | with_reducible exact nl_int | with_reducible exact nl_str)); done))))
  | ((with_reducible apply wo_toTupT); (· (first | rfl | assumption | with_reducible exact nls_ints _ | with_reducible exact nls_strs _ | with_reducible exact pD_nls _ | ((repeat' (first | assumption | with_reducible exact nls_ints _ | with_reducible exact nls_strs _ | with_reducible exact pD_nls _ | with_reducible rfl | with_reducible apply nls_cons | with_reducible apply nls_app | with_reducible exact nls_nil | with_reducible apply nl_tup | with_reducible exact nl_int | with_reducible exact nl_str)); done))))
  | ((with_reducible apply wo_toLstL); (· (first | rfl | assumption | with_reducible exact nls_ints _ | with_reducible exact nls_strs _ | with_reducible exact pD_nls _ | ((repeat' (first | assumption | with_reducible exact nls_ints _ | with_reducible exact nls_strs _ | with_reducible exact pD_nls _ | with_reducible rfl | with_reducible apply nls_cons | with_reducible apply nls_app | with_reducible exact nls_nil | with_reducible apply nl_tup | with_reducible exact nl_int | with_reducible exact nl_str)); done))))
  | ((with_reducible apply wo_toLstT); (· (first | rfl | assumption | with_reducible exact nls_ints _ | with_reducible exact nls_strs _ | with_reducible exact pD_nls _ | ((repeat' (first | assumption | with_reducible exact nls_ints _ | with_reducible exact nls_strs _ | with_reducible exact pD_nls _ | with_reducible rfl | with_reducible apply nls_cons | with_reducible apply nls_app | with_reducible exact nls_nil | with_reducible apply nl_tup | with_reducible exact nl_int | with_reducible exact nl_str)); done))))
  | ((with_reducible refine wo_ixI ?ha ?h0 ?h1 (fun x hx => ?q)); (case ha => rfl); (case h0 => omega); (case h1 => first | omega | (simp only [List.length_cons, List.length_nil]; omega)); (try simp only [List.mem_cons, D.int.injEq, List.not_mem_nil, or_false] at hx))
  | ((with_reducible refine wo_ixS ?ha ?h0 ?h1 (fun x hx => ?q)); (case ha => first | rfl | assumption); (case h0 => omega); (case h1 => first | omega | (simp only [List.length_cons, List.length_nil]; omega)))
  | ((with_reducible apply (wo_ (o := slD (.tup _) _ _))); (· rfl))
  | ((with_reducible apply (wo_ (o := eqD _ _))); (· rfl))
  | ((with_reducible apply (wo_ (o := neD _ _))); (· rfl))
  | ((with_reducible apply (wo_ (o := isND _ _))); (· rfl))
  | ((with_reducible apply (wo_ (o := notND _ _))); (· rfl))
  | ((with_reducible apply (wo_ (o := getD _ _))); (· rfl))
  | ((with_reducible apply (wo_ (o := ixD _ _))); (· rfl))
  | ((with_reducible apply (wo_ (o := isiD _ _))); (· rfl))
  | ((with_reducible apply (wo_ (o := lenD _))); (· rfl))
  | ((with_reducible apply (wo_ (o := lenX _))); (· rfl))
  | ((with_reducible apply (wo_ (o := notD _))); (· rfl))
  | ((with_reducible apply (wo_ (o := notT _))); (· rfl))
  | ((with_reducible apply (wo_ (o := toInt _))); (· rfl))
  | ((with_reducible apply (wo_ (o := absD _))); (· rfl))
  | ((with_reducible apply (wo_ (o := splitD _ _))); (· rfl))
  | ((with_reducible apply (wo_ (o := negD _))); (· rfl))
  | ((with_reducible apply (wo_ (o := inD _ _))); (· rfl))
  | ((with_reducible apply (wo_ (o := notInD _ _))); (· rfl))
  | ((with_reducible apply wo_allL))
  | ((with_reducible apply wo_anyL))
  | ((with_reducible apply wo_tabIn))
  | ((with_reducible apply wo_tabNotIn))
  | ((with_reducible apply wo_tabGet); (· rfl))
  | ((with_reducible refine wo_ixMI ?h0 ?h1 (fun i hi => ?q)); (case h0 => first | omega | (simp only [List.length_map] at *; omega)); (case h1 => first | omega | (simp only [List.length_map] at *; omega)))
  | ((with_reducible apply wo_eqSm); (· (first | assumption | rfl | with_reducible exact smB_cutP _ _ _ | with_reducible exact pD_sm _)); (· (first | assumption | rfl | with_reducible exact smB_cutP _ _ _ | with_reducible exact pD_sm _)))
  | ((with_reducible apply wo_neSm); (· (first | assumption | rfl | with_reducible exact smB_cutP _ _ _ | with_reducible exact pD_sm _)); (· (first | assumption | rfl | with_reducible exact smB_cutP _ _ _ | with_reducible exact pD_sm _)))
  | fail))
local macro_rules | `(tactic| decreasing_trivial_pre_omega) => `(tactic| ((with_reducible apply g_wp); first
  | ((with_reducible apply wp_bin))
  | ((with_reducible apply wp_c))
  | ((with_reducible apply wp_b))
  | ((with_reducible apply wp_un))
  | ((with_reducible apply wp_tup))
  | ((with_reducible apply wp_sl))
  | ((with_reducible apply wp_var); (· rfl))
  | fail))
local macro_rules | `(tactic| decreasing_trivial_pre_omega) => `(tactic| ((with_reducible apply g_wt); first
  | ((with_reducible apply wt_asT))
  | ((with_reducible apply wt_tru))
  | ((with_reducible apply wt_truP))
  | ((with_reducible apply wt_and))
  | ((with_reducible apply wt_or))
  | ((with_reducible apply wt_not))
  | ((with_reducible apply wt_yes))
  | fail))
local macro_rules | `(tactic| decreasing_trivial_pre_omega) => `(tactic| ((with_reducible apply g_we); first
  | ((with_reducible apply we_own))
  | ((with_reducible apply we_pure))
  | ((with_reducible apply we_tup))
  | ((with_reducible apply we_lst))
  | ((with_reducible apply we_b))
  | ((with_reducible apply we_bin))
  | ((with_reducible apply we_binP))
  | ((with_reducible apply we_un))
  | ((with_reducible apply we_dict0))
  | ((with_reducible apply we_if))
  | ((with_reducible apply we_and))
  | ((with_reducible apply we_or))
  | ((with_reducible apply we_inF))
  | ((with_reducible apply we_inT))
  | ((with_reducible apply we_inAny))
  | ((with_reducible apply we_chain))
  | ((with_reducible apply we_sm))
  | ((with_reducible apply we_slN))
  | ((with_reducible apply we_sl))
  | ((with_reducible apply we_rev))
  | ((with_reducible apply we_lc))
  | ((with_reducible apply we_take); (· rfl); (· (first | rfl | assumption | exact nl_tup (by assumption) | (with_reducible apply nl_tup; ((repeat' (first | assumption | with_reducible exact nls_ints _ | with_reducible exact nls_strs _ | with_reducible exact pD_nls _ | with_reducible rfl | with_reducible apply nls_cons | with_reducible apply nls_app | with_reducible exact nls_nil | with_reducible apply nl_tup | with_reducible exact nl_int | with_reducible exact nl_str)); done)))))
  | ((with_reducible apply we_takeL); (· rfl); (· rfl))
  | ((with_reducible apply we_ixN); (· rfl))
  | ((with_reducible apply we_append); (· rfl))
  | ((with_reducible apply we_lmut); (· rfl))
  | (with_reducible refine we_call ?_ (by decide))
  | ((with_reducible apply we_lmutI); (· rfl))
  | ((with_reducible apply we_slM))
  | ((with_reducible apply we_rgL1))
  | ((with_reducible apply we_rgT1))
  | ((with_reducible apply we_rgL2))
  | ((with_reducible apply we_lcWt); (· rfl); (· (first | rfl | assumption | with_reducible exact nls_ints _ | with_reducible exact nls_strs _ | with_reducible exact pD_nls _ | ((repeat' (first | assumption | with_reducible exact nls_ints _ | with_reducible exact nls_strs _ | with_reducible exact pD_nls _ | with_reducible rfl | with_reducible apply nls_cons | with_reducible apply nls_app | with_reducible exact nls_nil | with_reducible apply nl_tup | with_reducible exact nl_int | with_reducible exact nl_str)); done))); (· (first | omega | assumption | (simp only [List.length_map, List.length_append, List.length_cons, List.length_nil]; omega))))
  | ((with_reducible apply we_lcWl); (· rfl); (· (first | rfl | assumption | with_reducible exact nls_ints _ | with_reducible exact nls_strs _ | with_reducible exact pD_nls _ | ((repeat' (first | assumption | with_reducible exact nls_ints _ | with_reducible exact nls_strs _ | with_reducible exact pD_nls _ | with_reducible rfl | with_reducible apply nls_cons | with_reducible apply nls_app | with_reducible exact nls_nil | with_reducible apply nl_tup | with_reducible exact nl_int | with_reducible exact nl_str)); done))); (· (first | omega | assumption | (simp only [List.length_map, List.length_append, List.length_cons, List.length_nil]; omega))))
  | ((with_reducible apply we_lcWf); (· rfl); (· (first | rfl | assumption | with_reducible exact nls_ints _ | with_reducible exact nls_strs _ | with_reducible exact pD_nls _ | ((repeat' (first | assumption | with_reducible exact nls_ints _ | with_reducible exact nls_strs _ | with_reducible exact pD_nls _ | with_reducible rfl | with_reducible apply nls_cons | with_reducible apply nls_app | with_reducible exact nls_nil | with_reducible apply nl_tup | with_reducible exact nl_int | with_reducible exact nl_str)); done))); (· (first | omega | assumption | (simp only [List.length_map, List.length_append, List.length_cons, List.length_nil]; omega))))
  | fail))
local macro_rules | `(tactic| decreasing_trivial_pre_omega) => `(tactic| ((with_reducible apply g_ws); first
  | ((with_reducible apply ws_seq))
  | ((with_reducible apply ws_set))
  | ((with_reducible apply ws_ret))
  | ((with_reducible apply ws_retN))
  | ((with_reducible apply ws_if))
  | ((with_reducible apply ws_expr))
  | ((with_reducible apply ws_nil))
  | ((with_reducible apply ws_break))
  | ((with_reducible apply ws_cont))
  | ((with_reducible apply ws_setAny))
  | ((with_reducible apply ws_par))
  | ((with_reducible apply ws_asg))
  | ((with_reducible apply ws_for))
  | ((with_reducible apply ws_forS); (· rfl))
  | ((with_reducible apply ws_forBt); (· rfl); (· (first | rfl | assumption | with_reducible exact nls_ints _ | with_reducible exact nls_strs _ | with_reducible exact pD_nls _ | ((repeat' (first | assumption | with_reducible exact nls_ints _ | with_reducible exact nls_strs _ | with_reducible exact pD_nls _ | with_reducible rfl | with_reducible apply nls_cons | with_reducible apply nls_app | with_reducible exact nls_nil | with_reducible apply nl_tup | with_reducible exact nl_int | with_reducible exact nl_str)); done))))
  | ((with_reducible apply ws_forBl); (· rfl); (· (first | rfl | assumption | with_reducible exact nls_ints _ | with_reducible exact nls_strs _ | with_reducible exact pD_nls _ | ((repeat' (first | assumption | with_reducible exact nls_ints _ | with_reducible exact nls_strs _ | with_reducible exact pD_nls _ | with_reducible rfl | with_reducible apply nls_cons | with_reducible apply nls_app | with_reducible exact nls_nil | with_reducible apply nl_tup | with_reducible exact nl_int | with_reducible exact nl_str)); done))))
  | ((with_reducible apply ws_forBs); (· rfl))
  | ((with_reducible apply ws_forBf); (· rfl); (· (first | rfl | assumption | with_reducible exact nls_ints _ | with_reducible exact nls_strs _ | with_reducible exact pD_nls _ | ((repeat' (first | assumption | with_reducible exact nls_ints _ | with_reducible exact nls_strs _ | with_reducible exact pD_nls _ | with_reducible rfl | with_reducible apply nls_cons | with_reducible apply nls_app | with_reducible exact nls_nil | with_reducible apply nl_tup | with_reducible exact nl_int | with_reducible exact nl_str)); done))))
  | ((with_reducible apply ws_fz); (· rfl))
  | ((with_reducible apply ws_augIx))
  | ((with_reducible apply ws_aug))
  | fail))
set_option hygiene true
theorem wo_getC {cs : List Int} {i x : Int} {Q : D → Prop} (h0 : 0 ≤ i) (h1 : i.toNat < cs.length) (e : cs.getD i.toNat 0 = x) (q : Q (.int x)) : WO (getD (.lst (cs.map D.int)) (.int i)) Q := wo_getL (by rw [at_ints h0 h1, e]) q
theorem w_ticks_of {ds : List D} {kvs : List (Key × D)} {Q : D → List D → Prop} (hy : Lay ds) (hl : ds.length ≤ 40) (vo : VOK kvs) (ha : Has kvs ds) (q : Q (.lst ((tks (rowOf kvs) ds 12).map D.int)) [.tup ds, .dic kvs, .int 12]) : WF m__law_ticks_of [.tup ds, .dic kvs, .int 12] Q := by
  refine Bv.unbox ?_
  simp (disch := (
    refine Bv.idP ?_
    with_unfolding_all (
  have hn := hy.nls
  refine wf_mk ?_
  (repeat' decreasing_trivial_pre_omega)
  refine wc_map (fun _ => .int 0) (fun d m => ?_) ?_
  · (repeat' decreasing_trivial_pre_omega)
    refine ⟨rfl, ?_⟩
    (repeat' decreasing_trivial_pre_omega)
  rw [show (ds.map fun _ => D.int 0) = (ds.map fun _ => (0 : Int)).map D.int by rw [List.map_map]; rfl]
  (repeat' decreasing_trivial_pre_omega)
  refine wl_inv (fun t ρ => ∃ (cs : List Int) (a b c d e : Option D), ρ = [some (.tup ds), some (.dic kvs), some (.int 12), some (.lst (cs.map D.int)), some (.lst ((tks (rowOf kvs) ds t).map D.int)), a, b, c, d, e] ∧ cs.length = ds.length ∧ ∀ i, i < ds.length → cs.getD i 0 = cntB (thr (rowOf kvs) (ds.take i)) t)
    ⟨ds.map fun _ => (0 : Int), _, _, _, _, _, rfl, by simp, fun i hi => ?_⟩ ?_ ?_
  · rw [List.getD_eq_getElem?_getD, List.getElem?_map, List.getElem?_eq_getElem hi]
    rfl
  · rintro t d ρ hk ⟨cs, a, b, c, d', e', rfl, hcl, hcs⟩
    obtain ⟨hk', rfl⟩ := numsD_at hk
    have hfl := tks_len (rowOf kvs) ds t
    simp only [Int.zero_add]
    (repeat' decreasing_trivial_pre_omega)
    refine wl_inv (fun i ρ => ∃ (cs : List Int) (c d e : Option D), ρ = [some (.tup ds), some (.dic kvs), some (.int 12), some (.lst (cs.map D.int)), some (.lst ((tks (rowOf kvs) ds t).map D.int)), some (.int t), some (.bl (thr (rowOf kvs) (ds.take i) t)), c, d, e] ∧ cs.length = ds.length ∧ ∀ j, j < ds.length → cs.getD j 0 = cntB (thr (rowOf kvs) (ds.take j)) (if j < i then t + 1 else t))
      ⟨cs, c, d', e', rfl, hcl, fun j hj => by rw [if_neg (by omega)]; exact hcs j hj⟩ ?_ ?_
    · rintro i d ρ hk ⟨cs, c, d', e', rfl, hcl, hcs⟩
      obtain ⟨hi, rfl⟩ := numsD_at hk
      simp only [Int.zero_add]
      have hil : i < ds.length := by omega
      have hd : ds[i]? = some ds[i] := List.getElem?_eq_getElem hil
      have ht := thr_take (V := rowOf kvs) hd
      have htt : thr (rowOf kvs) (ds.take (i + 1)) t = (thr (rowOf kvs) (ds.take i) t && pas (rowOf kvs) ds[i] (cntB (thr (rowOf kvs) (ds.take i)) t) t) := by rw [ht]; rfl
      have hci := hcs i hil
      rw [if_neg (by omega)] at hci
      have hci' : cs.getD ((i : Int)).toNat 0 = cntB (thr (rowOf kvs) (ds.take i)) t := hci
      have hcn : cntB (thr (rowOf kvs) (ds.take i)) (t + 1) = if thr (rowOf kvs) (ds.take i) t = true then cntB (thr (rowOf kvs) (ds.take i)) t + 1 else cntB (thr (rowOf kvs) (ds.take i)) t := rfl
      have hd' : ds[((i : Int)).toNat]? = some ds[i] := hd
      have md := List.getElem_mem hil
      have fin2 : thr (rowOf kvs) (ds.take i) t = true → (cs.set i (cntB (thr (rowOf kvs) (ds.take i)) t + 1)).length = ds.length ∧ ∀ j, j < ds.length → (cs.set i (cntB (thr (rowOf kvs) (ds.take i)) t + 1)).getD j 0 = cntB (thr (rowOf kvs) (ds.take j)) (if j < i + 1 then t + 1 else t) := fun h => by
        refine ⟨by rw [List.length_set]; exact hcl, fun j hj => ?_⟩
        rw [if_pos h] at hcn
        by_cases ej : i = j
        · subst ej
          rw [getD_set_eq (by omega), if_pos (by omega), hcn]
        · rw [getD_set_ne ej, hcs j hj]
          by_cases hji : j < i
          · rw [if_pos hji, if_pos (by omega)]
          · rw [if_neg hji, if_neg (by omega)]
      have fin3 : thr (rowOf kvs) (ds.take i) t = false → ∀ j, j < ds.length → cs.getD j 0 = cntB (thr (rowOf kvs) (ds.take j)) (if j < i + 1 then t + 1 else t) := fun h j hj => by
        rw [h, if_neg Bool.false_ne_true] at hcn
        by_cases ej : j = i
        · subst ej
          rw [if_pos (by omega), hcn]
          exact hci
        · rw [hcs j hj]
          by_cases hji : j < i
          · rw [if_pos hji, if_pos (by omega)]
          · rw [if_neg hji, if_neg (by omega)]
      generalize thr (rowOf kvs) (ds.take (i + 1)) t = B at *
      rcases hy _ md with hdd | hdd
      · have hdn := hdd.nl
        obtain ⟨n, k, x, e, h1, h2, h3, hx⟩ := hdd
        rw [e] at htt hd' hdn
        (repeat' (first | ((with_reducible apply wo_getTZ); (· (first | omega | (simp only [List.length_cons, List.length_nil, List.length_map, List.length_append]; omega))); (· assumption)) | ((with_reducible apply wo_getC); (· (first | omega | (simp only [List.length_cons, List.length_nil, List.length_map, List.length_append]; omega))); (· (first | omega | (simp only [List.length_cons, List.length_nil, List.length_map, List.length_append]; omega))); (· assumption)) | ((with_reducible apply wo_getTxt); (· assumption)) | ((with_reducible apply wo_getF); (· (first | omega | (simp only [List.length_cons, List.length_nil, List.length_map, List.length_append]; omega))); (· assumption)) | ((with_reducible apply wo_eqSm); (· assumption); (· assumption)) | decreasing_trivial_pre_omega))
        · have hT : thr (rowOf kvs) (ds.take i) t = true := by assumption
          have hk : k ≤ cntB (thr (rowOf kvs) (ds.take i)) t := by assumption
          have hB : B = decide ((cntB (thr (rowOf kvs) (ds.take i)) t - k) % n = 0) := by
            rw [htt, hT]
            show (true && (decide _ && decide _)) = _
            rw [decide_eq_true hk, Bool.true_and, Bool.true_and]
          exact ⟨_, _, _, _, by rw [hB, Int.toNat_natCast, ← List.map_set], fin2 hT⟩
        · have hT : thr (rowOf kvs) (ds.take i) t = true := by assumption
          have hk : ¬ k ≤ cntB (thr (rowOf kvs) (ds.take i)) t := by assumption
          have hB : B = false := by
            rw [htt, hT]
            show (true && (decide _ && decide _)) = _
            rw [decide_eq_false hk]; rfl
          exact ⟨_, _, _, _, by rw [hB, Int.toNat_natCast, ← List.map_set], fin2 hT⟩
        · have hF : thr (rowOf kvs) (ds.take i) t = false := by assumption
          have hB : B = false := by rw [htt, hF]; rfl
          exact ⟨cs, _, _, _, by rw [hB, hF], hcl, fin3 hF⟩
      · have hdn := hdd.nl
        obtain ⟨nm, v, e, h1, h2, h3⟩ := hdd
        have hh := ha nm v (by rw [← e]; exact md)
        obtain ⟨hrow, hrl, hrn, hrs⟩ := row_ok vo hh
        rw [e] at htt hd' hdn
        have htl : t < (rowOf kvs nm).length := by rw [hrl]; exact hk'
        have hx : (rowOf kvs nm)[((t : Int)).toNat]? = some ((rowOf kvs nm).getD t .non) := by
          rw [Int.toNat_natCast, List.getD_eq_getElem?_getD, List.getElem?_eq_getElem htl]; rfl
        have hsm1 : smB 60 ((rowOf kvs nm).getD t .non) = true := smB_up _ 50 60 (by decide) (smsB_mem hrs (List.mem_of_getElem? hx))
        have hsm2 : smB 60 v = true := smB_up _ 50 60 (by decide) h3
        (repeat' (first | ((with_reducible apply wo_getTZ); (· (first | omega | (simp only [List.length_cons, List.length_nil, List.length_map, List.length_append]; omega))); (· assumption)) | ((with_reducible apply wo_getC); (· (first | omega | (simp only [List.length_cons, List.length_nil, List.length_map, List.length_append]; omega))); (· (first | omega | (simp only [List.length_cons, List.length_nil, List.length_map, List.length_append]; omega))); (· assumption)) | ((with_reducible apply wo_getTxt); (· assumption)) | ((with_reducible apply wo_getF); (· (first | omega | (simp only [List.length_cons, List.length_nil, List.length_map, List.length_append]; omega))); (· assumption)) | ((with_reducible apply wo_eqSm); (· assumption); (· assumption)) | decreasing_trivial_pre_omega))
        · have hT : thr (rowOf kvs) (ds.take i) t = true := by assumption
          have hB : B = eqP ((rowOf kvs nm).getD t .non = v) := by rw [htt, hT]; rfl
          exact ⟨_, _, _, _, by rw [hB, Int.toNat_natCast, ← List.map_set], fin2 hT⟩
        · have hF : thr (rowOf kvs) (ds.take i) t = false := by assumption
          have hB : B = false := by rw [htt, hF]; rfl
          exact ⟨cs, _, _, _, by rw [hB, hF], hcl, fin3 hF⟩
    · rintro ρ ⟨cs, c, d', e', rfl, hcl, hcs⟩
      rw [numsD_len] at hcs ⊢
      rw [show ((ds.length : Int)).toNat = ds.length by omega] at hcs ⊢
      rw [List.take_length]
      have hff := tks_next (V := rowOf kvs) (ds := ds) (t := t)
      have fin : ∀ i, i < ds.length → cs.getD i 0 = cntB (thr (rowOf kvs) (ds.take i)) (t + 1) := fun i hi => by
        rw [hcs i hi, if_pos hi]
      have hk12 : t < 12 := hk'
      (repeat' decreasing_trivial_pre_omega)
      · have hT : thr (rowOf kvs) ds t = true := by assumption
        rw [if_pos hT] at hff
        exact ⟨cs, _, _, _, _, _, by rw [hff, List.map_append]; rfl, hcl, fin⟩
      · have hF : thr (rowOf kvs) ds t = false := by assumption
        rw [hF, if_neg Bool.false_ne_true] at hff
        exact ⟨cs, _, _, _, _, _, by rw [hff], hcl, fin⟩
  · rintro ρ ⟨cs, a, b, c, d, e, rfl, hcl, hcs⟩
    rw [numsD_len, show ((12 : Int)).toNat = 12 from rfl]
    (repeat' decreasing_trivial_pre_omega)))) only [↓Bv.boxT]
theorem btext (b : Bool) : WO (reprD [.bl b]) (fun d => d = .str (toPy (.bl b)).shown) := ⟨_, by
  unfold reprD
  cases b <;> exact if_pos (by decide +kernel), rfl⟩
theorem wo_reprB {b : Bool} {Q : D → Prop} (q : Q (.str (toPy (.bl b)).shown)) : WO (reprD [.bl b]) Q := by
  obtain ⟨d, e, rfl⟩ := btext b
  exact ⟨_, e, q⟩
/-- three clocks -/
def Cl (n : Nat) (cs : List D) : Prop := ∀ d ∈ cs, ∃ ds, d = .tup ds ∧ Lay ds ∧ ds.length ≤ n
theorem Cl.nls {n : Nat} {cs : List D} (h : Cl n cs) : noLists cs = true := nls_of fun d m => by
  obtain ⟨ds, rfl, hy, _⟩ := h d m
  exact hy.nls
theorem wo_lastL {ds : List D} {d : D} {Q : D → Prop} (q : Q d) : WO (getD (.lst (ds ++ [d])) (.int (-1))) Q := ⟨d, by
  show atI (ds ++ [d]) (-1) = some d
  unfold atI ixN
  rw [if_neg (by decide), List.length_append, List.length_singleton]
  rw [if_pos (by omega)]
  show (ds ++ [d])[(-1 + ((ds.length + 1 : Nat) : Int)).toNat]? = some d
  rw [show (-1 + ((ds.length + 1 : Nat) : Int)).toNat = ds.length by omega, List.getElem?_append_right (Nat.le_refl _), Nat.sub_self]
  rfl, q⟩
theorem ints_sm (ns : List Int) : smsB 59 (ns.map D.int) = true := smsB_of fun d m => by
  obtain ⟨n, _, rfl⟩ := List.mem_map.mp m
  rfl
theorem wo_neInts {a b : List Int} {Q : D → Prop} (q : Q (.bl (!eqP (D.lst (a.map D.int) = D.lst (b.map D.int))))) : WO (neD (.lst (a.map D.int)) (.lst (b.map D.int))) Q := wo_neSm (a := .lst _) (b := .lst _) (ints_sm a) (ints_sm b) q
theorem w_law {ns : List Int} (hl : ns.length ≤ 63) : WF m_law [.frz (ns.map D.int)] (fun r _ => r = .bl true) := by
  refine Bv.unbox ?_
  simp (disch := (
    refine Bv.idP ?_
    with_unfolding_all (
  refine wf_mk ?_
  (repeat' decreasing_trivial_pre_omega)
  refine w_begin hl (fun L v => ?_)
  (repeat' (first | ((with_reducible apply w_draw); (· (first | assumption | exact ⟨_, _, _, _, _, rfl, by omega, by first | omega | exact hi_nn _⟩)); (· (first | omega | (simp only [List.length_cons, List.length_nil, List.length_map, List.length_append]; omega))); (· (first | omega | (simp only [List.length_cons, List.length_nil, List.length_map, List.length_append]; omega))); intro r L' v hr1 hr2) | decreasing_trivial_pre_omega))
  refine w_beat_clock v (fun ds1 L' v hy1 hl1 => ?_)
  have hn1 := hy1.nls
  (repeat' (first | ((with_reducible apply w_draw); (· (first | assumption | exact ⟨_, _, _, _, _, rfl, by omega, by first | omega | exact hi_nn _⟩)); (· (first | omega | (simp only [List.length_cons, List.length_nil, List.length_map, List.length_append]; omega))); (· (first | omega | (simp only [List.length_cons, List.length_nil, List.length_map, List.length_append]; omega))); intro r L' v hr1 hr2) | decreasing_trivial_pre_omega))
  refine wl_inv (fun k ρ => ∃ (L cs last : List D) (c3 c4 c5 : Option D), ρ = [some (.frz (ns.map D.int)), some (.lst L), some (.lst (cs ++ [.tup last])), c3, c4, c5, none, none, none] ∧ VD L ∧ Cl (6 + 7 * k) (cs ++ [.tup last]) ∧ cs.length = k) ⟨_, [], ds1, _, _, _, rfl, v, fun d m => ⟨ds1, List.mem_singleton.mp m, hy1, hl1⟩, rfl⟩ ?_ ?_
  · rintro k d ρ hk ⟨L, cs, last, c3, c4, c5, rfl, v, hcl, hcn⟩
    obtain ⟨hk', rfl⟩ := numsD_at hk
    obtain ⟨ds2, e2, hy2, hl2⟩ := hcl _ (List.mem_append_right _ (List.mem_singleton.mpr rfl))
    cases e2
    have hn2 := hy2.nls
    have hcnn := hcl.nls
    have hk01 : k = 0 ∨ k = 1 := by
      have : k < 2 := hk'
      omega
    have hkr : ∀ r : Int, 0 ≤ r → r < 2 → 0 ≤ (0 + (k : Int)) * (1 + r) ∧ (0 + (k : Int)) * (1 + r) ≤ 2 := fun r h0 h1 => by
      rcases hk01 with rfl | rfl
      · simp
      · rw [show (0 + ((1 : Nat) : Int)) = 1 by omega, Int.one_mul]; omega
    (repeat' (first | ((with_reducible apply w_draw); (· (first | assumption | exact ⟨_, _, _, _, _, rfl, by omega, by first | omega | exact hi_nn _⟩)); (· (first | omega | (simp only [List.length_cons, List.length_nil, List.length_map, List.length_append]; omega))); (· (first | omega | (simp only [List.length_cons, List.length_nil, List.length_map, List.length_append]; omega))); intro r L' v hr1 hr2) | ((with_reducible apply wo_lastL)) | decreasing_trivial_pre_omega))
    have hkr' := hkr r hr1 hr2
    generalize (0 + (k : Int)) * (1 + r) = m at *
    refine rg_ (by omega) (by omega) ?_
    refine wl_inv (fun j ρ => ∃ (L cur : List D) (c5 : Option D), ρ = [some (.frz (ns.map D.int)), some (.lst L), some (.lst (cs ++ [.tup last])), some (.int (0 + (k : Int))), some (.tup cur), c5, none, none, none] ∧ VD L ∧ Lay cur ∧ cur.length ≤ 6 + 7 * k + j) ⟨_, _, _, rfl, v, hy2, hl2⟩ ?_ ?_
    · rintro j d ρ hkj ⟨L, cur, c5, rfl, v, hy, hyl⟩
      obtain ⟨hkj', rfl⟩ := numsD_at hkj
      have hyn := hy.nls
      (repeat' (first | (refine w_kept (by assumption) (by assumption) (by omega) (fun ds' L' v hy' hl' => ?_)) | (refine w_bent (by assumption) (by assumption) (by omega) (fun ds' L' v hy' hl' => ?_)) | ((with_reducible apply wo_reprB)) | decreasing_trivial_pre_omega))
      have hyn' := hy'.nls
      (repeat' (first | (refine w_kept (by assumption) (by assumption) (by omega) (fun ds' L' v hy' hl' => ?_)) | (refine w_bent (by assumption) (by assumption) (by omega) (fun ds' L' v hy' hl' => ?_)) | ((with_reducible apply wo_reprB)) | decreasing_trivial_pre_omega))
      exact ⟨_, _, _, rfl, v, hy', by omega⟩
    · rintro ρ ⟨L, cur, c5, rfl, v, hy, hyl⟩
      rw [numsD_len] at hyl
      have hyn := hy.nls
      (repeat' (first | ((with_reducible apply w_draw); (· (first | assumption | exact ⟨_, _, _, _, _, rfl, by omega, by first | omega | exact hi_nn _⟩)); (· (first | omega | (simp only [List.length_cons, List.length_nil, List.length_map, List.length_append]; omega))); (· (first | omega | (simp only [List.length_cons, List.length_nil, List.length_map, List.length_append]; omega))); intro r L' v hr1 hr2) | decreasing_trivial_pre_omega))
      refine wl_inv (fun j ρ => ∃ (L cur : List D) (c5 : Option D), ρ = [some (.frz (ns.map D.int)), some (.lst L), some (.lst (cs ++ [.tup last])), some (.int (0 + (k : Int))), some (.tup cur), c5, none, none, none] ∧ VD L ∧ Lay cur ∧ cur.length ≤ 6 + 7 * k + 2 + j) ⟨_, _, _, rfl, v, hy, by omega⟩ ?_ ?_
      · rintro j d ρ hkj ⟨L, cur, c5, rfl, v, hy, hyl⟩
        obtain ⟨hkj', rfl⟩ := numsD_at hkj
        have hyn := hy.nls
        (repeat' (first | (refine w_kept (by assumption) (by assumption) (by omega) (fun ds' L' v hy' hl' => ?_)) | (refine w_bent (by assumption) (by assumption) (by omega) (fun ds' L' v hy' hl' => ?_)) | ((with_reducible apply wo_reprB)) | decreasing_trivial_pre_omega))
        have hyn' := hy'.nls
        (repeat' (first | (refine w_kept (by assumption) (by assumption) (by omega) (fun ds' L' v hy' hl' => ?_)) | (refine w_bent (by assumption) (by assumption) (by omega) (fun ds' L' v hy' hl' => ?_)) | ((with_reducible apply wo_reprB)) | decreasing_trivial_pre_omega))
        exact ⟨_, _, _, rfl, v, hy', by omega⟩
      · rintro ρ ⟨L, cur, c5, rfl, v, hy, hyl⟩
        rw [numsD_len] at hyl
        have hyn := hy.nls
        (repeat' (first | ((with_reducible apply w_draw); (· (first | assumption | exact ⟨_, _, _, _, _, rfl, by omega, by first | omega | exact hi_nn _⟩)); (· (first | omega | (simp only [List.length_cons, List.length_nil, List.length_map, List.length_append]; omega))); (· (first | omega | (simp only [List.length_cons, List.length_nil, List.length_map, List.length_append]; omega))); intro r L' v hr1 hr2) | decreasing_trivial_pre_omega))
        refine ⟨_, cs ++ [.tup last], cur, _, _, _, rfl, v, fun d m => ?_, by rw [List.length_append, hcn]; rfl⟩
        rcases List.mem_append.mp m with m | m
        · obtain ⟨ds, e, h1, h2⟩ := hcl d m
          exact ⟨ds, e, h1, by omega⟩
        · exact ⟨cur, List.mem_singleton.mp m, hy, by omega⟩
  · rintro ρ ⟨L, cs, last, c3, c4, c5, rfl, v, hcl, hcn⟩
    rw [numsD_len] at hcl
    have hcl : Cl 20 (cs ++ [.tup last]) := hcl
    have hnn := hcl.nls
    generalize cs ++ [D.tup last] = CS at *
    (repeat' decreasing_trivial_pre_omega)
    refine wli_inv hnn (fun k ρ => ∃ (L : List D) (c4 c6 c7 c8 : Option D), ρ = [some (.frz (ns.map D.int)), some (.lst L), some (.lst CS), c3, c4, c5, c6, c7, c8] ∧ VD L) (fun k ρ h => by obtain ⟨L, _, _, _, _, rfl, _⟩ := h; rfl) ⟨_, _, _, _, _, rfl, v⟩ ?_ ?_
    · rintro k d ρ hk ⟨L, c4, c6, c7, c8, rfl, v⟩
      obtain ⟨a, rfl, hya, hla⟩ := hcl d (List.mem_of_getElem? hk)
      have hna := hya.nls
      (repeat' decreasing_trivial_pre_omega)
      refine wli_inv hnn (fun k ρ => ∃ (L : List D) (c6 c7 c8 : Option D), ρ = [some (.frz (ns.map D.int)), some (.lst L), some (.lst CS), c3, some (.tup a), c5, c6, c7, c8] ∧ VD L) (fun k ρ h => by obtain ⟨L, _, _, _, rfl, _⟩ := h; rfl) ⟨_, _, _, _, rfl, v⟩ ?_ ?_
      · rintro k2 d ρ hk2 ⟨L, c6, c7, c8, rfl, v⟩
        obtain ⟨b, rfl, hyb, hlb⟩ := hcl d (List.mem_of_getElem? hk2)
        have hnb := hyb.nls
        (repeat' (first | ((with_reducible apply wo_neInts)) | ((with_reducible apply wo_reprB)) | (refine w_beat_due (by assumption) (by assumption) (by omega) (by omega) (fun r1 hr1 => ?_)) | (refine w_one_beat (by assumption) (by assumption) (by omega) (by omega) (fun r2 hr2 => ?_)) | (refine w_values (by assumption) (by assumption) (by assumption) (by omega) (by omega) (fun kvs L' v vo hk1 hk2 => ?_)) | (refine w_ticks_of (by assumption) (by omega) (by assumption) (by assumption) ?_) | decreasing_trivial_pre_omega))
        all_goals first
          | exact ⟨_, _, _, _, rfl, by assumption⟩
          | (exfalso
             have hd : Due (seg a) (seg b) := hr1.mp (by assumption)
             have he := due_thr (V := rowOf kvs) hya hyb hd
             refine absurd ?_ (by assumption : ¬ D.lst _ = D.lst _)
             unfold tks
             rw [he])
          | (exfalso
             have he : r1 = r2 := by
               cases r1 with
               | true => exact (hr2.mpr (hr1.mp rfl)).symm
               | false =>
                 cases r2 with
                 | true => exact hr1.mpr (hr2.mp rfl)
                 | false => rfl
             subst he
             contradiction)
      · rintro ρ ⟨L, c6, c7, c8, rfl, v⟩
        (repeat' decreasing_trivial_pre_omega)
        exact ⟨_, _, _, _, _, rfl, v⟩
    · rintro ρ ⟨L, c4, c6, c7, c8, rfl, v⟩
      (repeat' decreasing_trivial_pre_omega)))) only [↓Bv.boxT]
theorem plain : ∀ ns : List Int, ns.length ≤ 63 → ∃ ds', m_law [.frz (ns.map D.int)] = some (.bl true, ds') := fun ns hl => by
  obtain ⟨r, ds', e, rfl⟩ := w_law hl
  exact ⟨ds', e⟩
end G_k26


namespace G_k26
open PySem PySem.Spec PyProof.Rows L2 Bv
abbrev R : PySem.W.OpenRow := PySem.W.OpenLaw.row PySem.Challenge.rw_keepsgoing_k26_whole_one_beat
abbrev hkD : PySem.W.Hook := hookX 4 fa fn cs ts
def obsD (s : PySem.W.SharedT) : AlX := obsXG 4 fa fn cs ts (HandSHeadRun.getT s)
theorem obsD_eq (s : PySem.W.SharedT) : obsD s = hkD.obs s.abs := obsXG_eq (HandSHeadRun.getT_eq s)
def looseN : List PySem.Str := (["closed_up", "one_beat", "_law_begin", "_law_mixed", "_law_draw", "_law_draw_digit", "_law_pick", "_law_rate", "_law_is_layer", "_law_passed", "_law_product", "_law_rate_due", "_law_beat_clock", "_law_parted", "_law_kept", "_law_bent", "_law_gaps", "_law_beat_due", "_law_ticks_of", "_law_values"] : List PySem.Str)
theorem runDb (b : Bool) (w : World) : HandSHeadRun.RunEq R (PySem.W.view R.prog [22]) hkD obsD 4000 looseN (w.withFollow "special-get-raises" b) := by
  intro os
  cases b <;> kernel_rfl
theorem runD (w : World) : HandSHeadRun.RunEq R (PySem.W.view R.prog [22]) hkD obsD 4000 looseN w := by
  have h := runDb (w.params.followText "special-get-raises") w
  rwa [World.withFollow_self] at h
theorem factsD {P : Program} {w : World} {K : PySem.W.Frag} {h : Heap} {mg : Str → Option Value} {f : Addr} (Y : K.In h) (G : h.Ns mainGlobals mg) (hfa : mg ("law" : Str) = some (.ref f)) (ccx : obsX fa fn cs ts K = valX fn ts w) :
    ∃ fd : FuncData, (∀ (s : Shared) (v : Value), BindsTo s fd ⟨[v], []⟩ [("_law_script", v)]) ∧ ∀ base : Heap, K.In base → base.Ns mainGlobals mg → FnG P w K mg base f fd ["_law_script"] (spM K 1 m_law) := by
  have cc := TxT.fst ccx
  have c := TxC.fst cc
  have TC : TxC cs K mg ∧ TxT w ts K mg := ⟨TxC.mk' Y G cc, TxT.mk' Y G ccx⟩
  obtain ⟨fd, F⟩ := c.def_ 20 (d := dOf "law" s_law) rfl
  have F1 : Fun K "law" "law" s_law (He.ga K "law") fd := fun_of F
  have T := Tx.mk' Y G c
  have b := FunD.bindsA (ps := ["_law_script"]) F fun _ _ _ _ _ _ us hl => match us, hl with | [_], _ => rfl
  have e := hfa.symm.trans (T.glo (T.says.fact 20 rfl))
  cases e
  exact ⟨fd, fun s v => b s [v] rfl, fun base _ _ => fok_law T TC F1⟩
end G_k26
open PySem PySem.W PySem.Calls PyProof.Rows
theorem PySem.Challenge.cw_keepsgoing_k26_whole_one_beat_holds : PySem.Challenge.rw_keepsgoing_k26_whole_one_beat.Holds := by
  w_on; o_law
  refine HandSHeadRun.head_any (r := OpenLaw.row PySem.Challenge.rw_keepsgoing_k26_whole_one_beat) (q := view (OpenLaw.row PySem.Challenge.rw_keepsgoing_k26_whole_one_beat).prog [22]) (H := G_k26.hkD) (ob := G_k26.obsD) (M := 4000) (loose := G_k26.looseN) (d := HandSHeadRun.topDef (OpenLaw.row PySem.Challenge.rw_keepsgoing_k26_whole_one_beat).prog 22) (kwd := []) G_k26.obsD_eq
    (by kernel_rfl) (fun s => by kernel_rfl) G_k26.runD (by kernel_rfl) (by kernel_rfl) (by kernel_rfl) (by rfl) (by first | assumption | decide +kernel) (by decide +kernel) ⟨rfl, rfl, rfl, rfl, rfl, by decide +kernel⟩ ?hw ?hc
  case hw => w_witness2
  case hc =>
    refine Bv.walk_ofG (l := PySem.Challenge.rw_keepsgoing_k26_whole_one_beat) (n := 63) (x := "_law_script") rfl (by decide) (by kernel_rfl) ?F
    intro w mg fa h Y G hmg0
    obtain ⟨K, KX, c⟩ := Y
    have hmg : mg ("law" : PySem.Str) = some (.ref fa) := by
      have e : (HandSHeadRun.topDef (OpenLaw.row PySem.Challenge.rw_keepsgoing_k26_whole_one_beat).prog 22).name = ("law" : PySem.Str) := by kernel_rfl
      rw [← e]
      exact hmg0
    obtain ⟨fd, hb, hF⟩ := G_k26.factsD (P := (PySem.Challenge.rw_keepsgoing_k26_whole_one_beat).prog) (w := w) KX G hmg c
    exact ⟨K, fd, Bv.spM K 1 G_k26.m_law, KX, hb, fun H a ns hl hO hS => Bv.law_end (n := 63) G_k26.plain H a ns hl hO hS, hF⟩

