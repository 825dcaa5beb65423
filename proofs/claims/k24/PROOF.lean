import PyProof.Rows.All
import HandS.ForMost
import HandS.ForExc
import HandS.Zip
import HandS.TupAny
import HandS.TupMul
import HandS.WideBits
import HandS.Wide
import HandS.Flow
import HandS.IsInst
import HandS.Style
import HandS.SortInts
import HandS.ExcInit
import PyProof.ReprRoads
import KE.DataMinMax
import KE.GoesZip
import KE.GoesEnum
import KE.KRevSl
import KE.KDictZip
import KE.KItemsList
import HandS.Text
import HandS.More
import KE.KDictPairs
import HandS.EndBits
import KE.SortData
import PySem.Challenge.RW_onewindow_k24_one_phase_over_many_repeat
set_option Elab.async false
set_option linter.all false
set_option maxRecDepth 100000
set_option maxHeartbeats 4000000
namespace Ow
open PySem PySem.Spec PyProof.Rows L2

/-! ### data -/
inductive D where
  | non | bl (b : Bool) | int (i : Int) | str (s : Str) | tup (l : List D) | lst (l : List D) | ref (a : Addr) | scr (ns : List Int) | dct (ks : List Key) (l : List D)
/-- what may change, at its address -/
inductive MO where
  | lst (l : List D) | ins (C : Str) (fs : List (Str × D)) | dic (kvs : List (Key × D))
abbrev Mp := Addr → Option MO
def Mp.upd (M : Mp) (a : Addr) (o : MO) : Mp := fun b => if b = a then some o else M b
def Mp.del (M : Mp) (a : Addr) : Mp := fun b => if b = a then none else M b
@[simp] theorem Mp.upd_same {M : Mp} {a : Addr} {o : MO} : M.upd a o a = some o := if_pos rfl
theorem Mp.upd_ne {M : Mp} {a b : Addr} {o : MO} (h : b ≠ a) : M.upd a o b = M b := if_neg h
theorem Mp.upd_upd {M : Mp} {a : Addr} {o u : MO} : (M.upd a o).upd a u = M.upd a u := by
  funext b; unfold Mp.upd; split <;> rfl
theorem Mp.del_same {M : Mp} {a : Addr} : M.del a a = none := if_pos rfl
theorem Mp.del_ne {M : Mp} {a b : Addr} (h : b ≠ a) : M.del a b = M b := if_neg h
theorem Mp.del_upd {M : Mp} {a : Addr} {o : MO} (h : M a = none) : (M.upd a o).del a = M := by
  funext b
  by_cases e : b = a
  · rw [e, Mp.del_same, h]
  · rw [Mp.del_ne e, Mp.upd_ne e]
theorem Mp.upd_id {M : Mp} {a : Addr} {o : MO} (h : M a = some o) : M.upd a o = M := by
  funext b; unfold Mp.upd; split
  · rename_i e; rw [e, h]
  · rfl
structure Wd where
  K : PySem.W.Frag
  mg : Str → Option Value
abbrev wd (X : Cx) : Wd := ⟨X.K, X.mg⟩
/-- a list that is never written: locked, or of the written part -/
def ScrL (K : PySem.W.Frag) (H : Hp) (a : Addr) (xs : List V) : Prop :=
  (∃ o, H a = some (.frz o (.lst xs))) ∨
    ∃ (o : Obj) (its : Array Value) (n : Nat), K.lookup a = some o ∧ o.cls = .type "list" ∧ o.dict = none ∧ o.data = .seq its n ∧ its.size ≤ sizeLine ∧ Vals xs its.toList
theorem ScrL.seq {K : PySem.W.Frag} {H : Hp} {a : Addr} {xs : List V} (h : ScrL K H a xs) : SqL K H a xs := by
  rcases h with ⟨o, h⟩ | h
  · exact .inl (.inr ⟨o, h⟩)
  · exact .inr h
mutual
def Rep (W : Wd) (M : Mp) (H : Hp) : D → V → Prop
  | .non, v => v = .non
  | .bl b, v => v = .bl b
  | .int i, v => v = .int i
  | .str s, v => v = .str s
  | .tup l, v => ∃ a xs, v = .ref a ∧ SqT W.K H a xs ∧ Reps W M H l xs
  | .lst l, v => ∃ a xs, v = .ref a ∧ M a = none ∧ H a = some (.lst xs) ∧ Reps W M H l xs
  | .ref a, v => v = .ref a
  | .scr ns, v => ∃ a, v = .ref a ∧ ScrL W.K H a (ns.map V.int)
  | .dct ks l, v => ∃ a xs, v = .ref a ∧ M a = none ∧ H a = some (.dK (ks.zip xs)) ∧ ks.length = xs.length ∧ Reps W M H l xs
def Reps (W : Wd) (M : Mp) (H : Hp) : List D → List V → Prop
  | [], vs => vs = []
  | d :: ds, vs => ∃ v r, vs = v :: r ∧ Rep W M H d v ∧ Reps W M H ds r
end
def RepO (W : Wd) (M : Mp) (H : Hp) (a : Addr) : MO → Prop
  | .lst l => ∃ xs, H a = some (.lst xs) ∧ Reps W M H l xs
  | .ins C fs => ∃ (c dx : Addr) (ns : List Str) (vs : List V), W.mg C = some (.ref c) ∧ H a = some (.ins c dx (ns.zip vs)) ∧ fs = ns.zip (fs.map (·.2)) ∧ ns.length = vs.length ∧ Reps W M H (fs.map (·.2)) vs
  | .dic kvs => ∃ vs : List V, H a = some (.dK ((kvs.map (·.1)).zip vs)) ∧ Reps W M H (kvs.map (·.2)) vs
def AbsM (W : Wd) (M : Mp) (H : Hp) : Prop := ∀ a o, M a = some o → RepO W M H a o
abbrev DSt := List (Option D)
def AbsS (W : Wd) (M : Mp) (H : Hp) (ρ : DSt) (σ : L2.St) : Prop :=
  ρ.length = σ.length ∧ ∀ (i : Nat) (d : D), ρ[i]? = some (some d) → ∃ v, σ[i]? = some (some v) ∧ Rep W M H d v
def HO.isTbl : HO → Bool
  | .tbl _ => true
  | _ => false
/-- how the state may grow -/
structure Ext (W : Wd) (M : Mp) (H : Hp) (M' : Mp) (H' : Hp) : Prop where
  tup : ∀ a xs, SqT W.K H a xs → SqT W.K H' a xs
  lst : ∀ a o, M a = none → H a = some o → HO.isTbl o = false → H' a = some o
  frz : ∀ a o u, H a = some (.frz o u) → H' a = some (.frz o u)
  new : ∀ a, M a = none → M' a ≠ none → H a = none
  old : ∀ a, H a ≠ none → H' a ≠ none
abbrev QE := D → Mp → Prop
abbrev DTE := DSt → Mp → QE → Prop

section
variable {W : Wd} {M M' M1 M2 : Mp} {H H' H1 H2 : Hp} {a p : Addr} {d : D} {ds : List D} {v : V} {vs : List V}
theorem Rd.ne {u : HO} (h : Rd H a u) : H a ≠ none := by
  rcases h with h | ⟨o, h⟩ <;> rw [h] <;> simp
theorem Ext.refl : Ext W M H M H := ⟨fun _ _ h => h, fun _ _ _ h _ => h, fun _ _ _ h => h, fun _ h h' => absurd h h', fun _ h => h⟩
theorem Ext.trans (e : Ext W M H M1 H1) (f : Ext W M1 H1 M2 H2) : Ext W M H M2 H2 := by
  refine ⟨fun a xs h => f.tup a xs (e.tup a xs h), fun a xs n h hb => ?_, fun a o u h => f.frz a o u (e.frz a o u h), fun a n n2 => ?_, fun a h => f.old a (e.old a h)⟩
  · refine f.lst a xs ?_ (e.lst a xs n h hb) hb
    cases q : M1 a with
    | none => rfl
    | some o => exact absurd (e.new a n (by rw [q]; simp)) (by rw [h]; simp)
  · cases q : M1 a with
    | none =>
      have z := f.new a q n2
      cases r : H a with
      | none => rfl
      | some o => exact absurd z (e.old a (by rw [r]; simp))
    | some o => exact e.new a n (by rw [q]; simp)
mutual
theorem Rep.ext (e : Ext W M H M1 H1) : ∀ {d : D} {v : V}, Rep W M H d v → Rep W M1 H1 d v
  | .non, _, h => h
  | .bl _, _, h => h
  | .int _, _, h => h
  | .str _, _, h => h
  | .tup l, _, h => by
    obtain ⟨a, xs, rfl, s, r⟩ := h
    exact ⟨a, xs, rfl, e.tup a xs s, Reps.ext e r⟩
  | .lst l, _, h => by
    obtain ⟨a, xs, rfl, n, s, r⟩ := h
    refine ⟨a, xs, rfl, ?_, e.lst a _ n s rfl, Reps.ext e r⟩
    cases q : M1 a with
    | none => rfl
    | some o => exact absurd (e.new a n (by rw [q]; simp)) (by rw [s]; simp)
  | .ref _, _, h => h
  | .scr ns, _, h => by
    obtain ⟨a, rfl, h⟩ := h
    refine ⟨a, rfl, ?_⟩
    rcases h with ⟨o, h⟩ | h
    · exact .inl ⟨o, e.frz _ _ _ h⟩
    · exact .inr h
  | .dct ks l, _, h => by
    obtain ⟨a, xs, rfl, n, s, hl, r⟩ := h
    refine ⟨a, xs, rfl, ?_, e.lst a _ n s rfl, hl, Reps.ext e r⟩
    cases q : M1 a with
    | none => rfl
    | some o => exact absurd (e.new a n (by rw [q]; simp)) (by rw [s]; simp)
theorem Reps.ext (e : Ext W M H M1 H1) : ∀ {ds : List D} {vs : List V}, Reps W M H ds vs → Reps W M1 H1 ds vs
  | [], _, h => h
  | _ :: _, _, h => by
    obtain ⟨v, r, rfl, h1, h2⟩ := h
    exact ⟨v, r, rfl, Rep.ext e h1, Reps.ext e h2⟩
end
theorem AbsS.ext {ρ : DSt} {σ : L2.St} (e : Ext W M H M1 H1) (h : AbsS W M H ρ σ) : AbsS W M1 H1 ρ σ :=
  ⟨h.1, fun i d q => let ⟨v, h1, h2⟩ := h.2 i d q; ⟨v, h1, h2.ext e⟩⟩
theorem Reps.length : ∀ {ds : List D} {vs : List V}, Reps W M H ds vs → ds.length = vs.length
  | [], _, h => by rw [show _ = _ from h]; rfl
  | d :: ds, _, h => by
    obtain ⟨v, r, rfl, _, h2⟩ := h
    rw [List.length_cons, List.length_cons, Reps.length h2]
theorem Reps.get : ∀ {ds : List D} {vs : List V} {i : Nat} {d : D}, Reps W M H ds vs → ds[i]? = some d → ∃ v, vs[i]? = some v ∧ Rep W M H d v
  | [], _, _, _, _, h => by simp at h
  | x :: ds, _, 0, d, r, h => by
    obtain ⟨v, r, rfl, h1, _⟩ := r
    simp at h; subst h; exact ⟨v, rfl, h1⟩
  | x :: ds, _, i + 1, d, r, h => by
    obtain ⟨v, r, rfl, _, h2⟩ := r
    obtain ⟨u, g1, g2⟩ := Reps.get (i := i) h2 (by simpa using h)
    exact ⟨u, by simpa using g1, g2⟩
theorem Reps.append : ∀ {ds es : List D} {vs us : List V}, Reps W M H ds vs → Reps W M H es us → Reps W M H (ds ++ es) (vs ++ us)
  | [], _, _, _, h, k => by rw [show _ = _ from h]; exact k
  | _ :: _, _, _, _, h, k => by
    obtain ⟨v, r, rfl, h1, h2⟩ := h
    exact ⟨v, r ++ _, rfl, h1, Reps.append h2 k⟩
theorem Reps.set : ∀ {ds : List D} {vs : List V} {i : Nat} {d : D} {v : V}, Reps W M H ds vs → Rep W M H d v → Reps W M H (ds.set i d) (vs.set i v)
  | [], _, _, _, _, h, _ => by rw [show _ = _ from h]; rfl
  | x :: ds, _, 0, d, v, h, k => by
    obtain ⟨u, r, rfl, _, h2⟩ := h
    exact ⟨v, r, rfl, k, h2⟩
  | x :: ds, _, i + 1, d, v, h, k => by
    obtain ⟨u, r, rfl, h1, h2⟩ := h
    exact ⟨u, r.set i v, rfl, h1, Reps.set h2 k⟩
theorem Reps.drop : ∀ {ds : List D} {vs : List V} (n : Nat), Reps W M H ds vs → Reps W M H (ds.drop n) (vs.drop n)
  | _, _, 0, h => h
  | [], _, n + 1, h => by rw [show _ = _ from h]; rfl
  | _ :: _, _, n + 1, h => by
    obtain ⟨u, r, rfl, _, h2⟩ := h
    exact Reps.drop n h2
theorem Reps.take : ∀ {ds : List D} {vs : List V} (n : Nat), Reps W M H ds vs → Reps W M H (ds.take n) (vs.take n)
  | _, _, 0, h => by rw [List.take_zero, List.take_zero]; rfl
  | [], _, n + 1, h => by rw [show _ = _ from h]; rfl
  | _ :: _, _, n + 1, h => by
    obtain ⟨u, r, rfl, h1, h2⟩ := h
    exact ⟨u, r.take n, rfl, h1, Reps.take n h2⟩
theorem Reps.reverse : ∀ {ds : List D} {vs : List V}, Reps W M H ds vs → Reps W M H ds.reverse vs.reverse
  | [], _, h => by rw [show _ = _ from h]; rfl
  | _ :: _, _, h => by
    obtain ⟨u, r, rfl, h1, h2⟩ := h
    rw [List.reverse_cons, List.reverse_cons]
    exact Reps.append (Reps.reverse h2) ⟨u, [], rfl, h1, rfl⟩
theorem Reps.flat : ∀ (k : Nat), Reps W M H ds vs → Reps W M H (List.replicate k ds).flatten (List.replicate k vs).flatten
  | 0, _ => rfl
  | k + 1, h => by
    rw [List.replicate_succ, List.replicate_succ, List.flatten_cons, List.flatten_cons]
    exact Reps.append h (Reps.flat k h)
theorem RepO.ext {o : MO} (e : Ext W M H M1 H1) (hh : H1 a = H a) : RepO W M H a o → RepO W M1 H1 a o := by
  cases o with
  | lst l => rintro ⟨xs, h1, h2⟩; exact ⟨xs, hh.trans h1, h2.ext e⟩
  | ins C fs => rintro ⟨c, dx, ns, vs, h1, h2, h3, h4, h5⟩; exact ⟨c, dx, ns, vs, h1, hh.trans h2, h3, h4, h5.ext e⟩
  | dic kvs => rintro ⟨vs, h1, h4⟩; exact ⟨vs, hh.trans h1, h4.ext e⟩
theorem RepO.ne {o : MO} : RepO W M H a o → H a ≠ none := by
  cases o with
  | lst l => rintro ⟨xs, h1, _⟩; rw [h1]; simp
  | ins C fs => rintro ⟨c, dx, ns, vs, _, h2, _⟩; rw [h2]; simp
  | dic kvs => rintro ⟨vs, h1, _⟩; rw [h1]; simp
theorem RepO.notTup {o : MO} {xs : List V} : RepO W M H a o → ¬ Rd H a (.tup xs) := by
  cases o with
  | lst l => rintro ⟨xs, h1, _⟩ (h | ⟨o, h⟩) <;> rw [h1] at h <;> cases h
  | ins C fs => rintro ⟨c, dx, ns, vs, _, h2, _⟩ (h | ⟨o, h⟩) <;> rw [h2] at h <;> cases h
  | dic kvs => rintro ⟨vs, h1, _⟩ (h | ⟨o, h⟩) <;> rw [h1] at h <;> cases h
theorem RepO.notFrz {o : MO} {b : Obj} {u : HO} : RepO W M H a o → H a ≠ some (.frz b u) := by
  cases o with
  | lst l => rintro ⟨xs, h1, _⟩ h; rw [h1] at h; cases h
  | ins C fs => rintro ⟨c, dx, ns, vs, _, h2, _⟩ h; rw [h2] at h; cases h
  | dic kvs => rintro ⟨vs, h1, _⟩ h; rw [h1] at h; cases h
theorem AbsM.free (A : AbsM W M H) (h : H p = none) : M p = none := by
  cases q : M p with
  | none => rfl
  | some o => exact absurd h (A p o q).ne
/-- something new, not tracked in M -/
theorem Ext.fresh {o : HO} (h : H p = none) : Ext W M H M (upd H p o) := by
  have ne : ∀ a, H a ≠ none → a ≠ p := fun a n e => n (e ▸ h)
  refine ⟨fun a xs s => ?_, fun a xs n s _ => ?_, fun a o u s => ?_, fun a n n2 => absurd n n2, fun a n => by rw [L2.upd_ne (ne a n)]; exact n⟩
  · rcases s with s | s
    · refine .inl ?_
      have := ne a (Rd.ne s)
      rcases s with s | ⟨o, s⟩
      · exact .inl (by rw [L2.upd_ne this]; exact s)
      · exact .inr ⟨o, by rw [L2.upd_ne this]; exact s⟩
    · exact .inr s
  · rw [L2.upd_ne (ne a (by rw [s]; simp))]; exact s
  · rw [L2.upd_ne (ne a (by rw [s]; simp))]; exact s
theorem AbsM.fresh {o : HO} (A : AbsM W M H) (h : H p = none) : AbsM W M (upd H p o) := fun a u q =>
  (A a u q).ext (Ext.fresh h) (L2.upd_ne fun e => absurd h (e ▸ (A a u q).ne))
/-- something new, tracked -/
theorem Ext.freshM {o : HO} {u : MO} (A : AbsM W M H) (h : H p = none) : Ext W M H (M.upd p u) (upd H p o) := by
  have f := Ext.fresh (W := W) (M := M) (o := o) h
  refine ⟨f.tup, f.lst, f.frz, fun a n n2 => ?_, f.old⟩
  by_cases e : a = p
  · rw [e]; exact h
  · rw [Mp.upd_ne e] at n2; exact absurd n n2
theorem AbsM.freshM {o : HO} {u : MO} (A : AbsM W M H) (h : H p = none) (r : RepO W (M.upd p u) (upd H p o) p u) : AbsM W (M.upd p u) (upd H p o) := fun a w q => by
  by_cases e : a = p
  · subst e; rw [Mp.upd_same] at q; cases q; exact r
  · rw [Mp.upd_ne e] at q
    exact (A a w q).ext (Ext.freshM A h) (L2.upd_ne e)
/-- a change of what is tracked -/
theorem Ext.write {o : HO} {u w : MO} (A : AbsM W M H) (h : M p = some u) : Ext W M H (M.upd p w) (upd H p o) := by
  have hr := A p u h
  refine ⟨fun a xs s => ?_, fun a xs n s _ => ?_, fun a o u s => ?_, fun a n n2 => ?_, fun a n => ?_⟩
  · rcases s with s | s
    · have ne : a ≠ p := fun e => hr.notTup (e ▸ s)
      rcases s with s | ⟨o, s⟩
      · exact .inl (.inl (by rw [L2.upd_ne ne]; exact s))
      · exact .inl (.inr ⟨o, by rw [L2.upd_ne ne]; exact s⟩)
    · exact .inr s
  · rw [L2.upd_ne (fun e => by rw [e, h] at n; cases n)]; exact s
  · have ne : a ≠ p := fun e => hr.notFrz (e ▸ s)
    rw [L2.upd_ne ne]; exact s
  · by_cases e : a = p
    · rw [e, h] at n; cases n
    · rw [Mp.upd_ne e] at n2; exact absurd n n2
  · by_cases e : a = p
    · rw [e, upd_same]; simp
    · rw [L2.upd_ne e]; exact n
theorem AbsM.write {o : HO} {u w : MO} (A : AbsM W M H) (h : M p = some u) (r : RepO W (M.upd p w) (upd H p o) p w) : AbsM W (M.upd p w) (upd H p o) := fun a x q => by
  by_cases e : a = p
  · subst e; rw [Mp.upd_same] at q; cases q; exact r
  · rw [Mp.upd_ne e] at q
    exact (A a x q).ext (Ext.write A h) (L2.upd_ne e)
/-- forgetting -/
def Mp.Sub (M' M : Mp) : Prop := ∀ a o, M' a = some o → M a = some o
theorem Ext.forget (s : M'.Sub M) : Ext W M H M' H := by
  refine ⟨fun _ _ h => h, fun _ _ _ h _ => h, fun _ _ _ h => h, fun a n n2 => ?_, fun _ h => h⟩
  cases q : M' a with
  | none => exact absurd q n2
  | some o => rw [s a o q] at n; cases n
theorem AbsM.forget (A : AbsM W M H) (s : M'.Sub M) : AbsM W M' H := fun a o q => (A a o (s a o q)).ext (Ext.forget s) rfl
theorem Mp.Sub.refl : M.Sub M := fun _ _ h => h
theorem Mp.Sub.trans (a : M.Sub M1) (b : M1.Sub M2) : M.Sub M2 := fun x o h => b x o (a x o h)
theorem Mp.sub_upd {o : MO} (h : M p = none) : M.Sub (M.upd p o) := fun a u q => by
  rw [Mp.upd_ne]; exact q
  intro e; rw [e, h] at q; cases q
theorem Mp.sub_del : (M.del p).Sub M := fun a o q => by
  unfold Mp.del at q; split at q
  · cases q
  · exact q
theorem sqT_of (h : Rep W M H (.tup ds) v) : ∃ a xs, v = .ref a ∧ SqT W.K H a xs ∧ Reps W M H ds xs := h
/-- a new tuple, a new frozen list -/
theorem Rep.newT (r : Reps W M H ds vs) (h : H p = none) : Rep W M (upd H p (.tup vs)) (.tup ds) (.ref p) :=
  ⟨p, vs, rfl, SqT.of upd_same, r.ext (Ext.fresh h)⟩
theorem Rep.newL (A : AbsM W M H) (r : Reps W M H ds vs) (h : H p = none) : Rep W M (upd H p (.lst vs)) (.lst ds) (.ref p) :=
  ⟨p, vs, rfl, A.free h, upd_same, r.ext (Ext.fresh h)⟩
end
end Ow

namespace Ow
open PySem PySem.Spec PyProof.Rows L2

/-! ### the judgement for an expression, at the data's level -/
def lft (W : Wd) (M : Mp) (H : Hp) (Q : QE) : VK := fun v H' => ∃ d M', Ext W M H M' H' ∧ Rep W M' H' d v ∧ AbsM W M' H' ∧ Q d M'
def cT (X : Cx) (e : Expr) : TE := fun σ H Q => ∀ (pins : List (Addr × Obj)) (s : Shared), Inv X pins σ H s → wpAny (model X.prog X.w) X.A (eval e X.env) (EP X pins σ Q) X.xe s
theorem pe_cT {X : Cx} {e : Expr} : PE X e (cT X e) := ⟨fun pins s σ H Q I h => h pins s I⟩
structure DE (X : Cx) (e : Expr) (t : DTE) : Prop where
  to : ∀ (σ : L2.St) (H : Hp) (ρ : DSt) (M : Mp) (Q : QE), AbsS (wd X) M H ρ σ → AbsM (wd X) M H → t ρ M Q → cT X e σ H (lft (wd X) M H Q)
section
variable {X : Cx} {e a b c : Expr} {t ta tb tc : DTE} {σ : L2.St} {H H1 : Hp} {ρ : DSt} {M M1 : Mp} {Q P : QE} {R : VK} {v : V}
theorem cT_mono {e : Expr} {Q Q' : VK} (h : cT X e σ H Q) (m : ∀ v H', Q v H' → Q' v H') : cT X e σ H Q' := fun pins s I =>
  thn (h pins s I) fun _ _ ⟨v, H', I', r, q⟩ => ⟨v, H', I', r, m v H' q⟩
theorem lft.trans {W : Wd} (x : Ext W M H M1 H1) {v : V} {H2 : Hp} (h : lft W M1 H1 Q v H2) : lft W M H Q v H2 :=
  let ⟨d, M2, y, r, A, q⟩ := h; ⟨d, M2, x.trans y, r, A, q⟩
theorem lft.mono {W : Wd} {v : V} {H2 : Hp} (h : lft W M H Q v H2) (m : ∀ d M', Q d M' → P d M') : lft W M H P v H2 :=
  let ⟨d, M2, y, r, A, q⟩ := h; ⟨d, M2, y, r, A, m _ _ q⟩
theorem DE.of {e : Expr} {t : DTE} {t' : TE} (h : PE X e t') (q : ∀ (σ : L2.St) (H : Hp) (ρ : DSt) (M : Mp) (Q : QE), AbsS (wd X) M H ρ σ → AbsM (wd X) M H → t ρ M Q → t' σ H (lft (wd X) M H Q)) : DE X e t :=
  ⟨fun σ H ρ M Q S A z pins s I => h.run pins s σ H _ I (q σ H ρ M Q S A z)⟩
/-- first this expression, then .. -/
theorem DE.bind {e : Expr} {t : DTE} (h : DE X e t) (S : AbsS (wd X) M H ρ σ) (A : AbsM (wd X) M H) (q : t ρ M P)
    (k : ∀ v d M1 H1, Ext (wd X) M H M1 H1 → Rep (wd X) M1 H1 d v → AbsM (wd X) M1 H1 → AbsS (wd X) M1 H1 ρ σ → P d M1 → R v H1) : cT X e σ H R :=
  cT_mono (h.to σ H ρ M P S A q) fun v H' ⟨d, M', x, r, A', p⟩ => k v d M' H' x r A' (S.ext x) p
/-- an answer, nothing changed -/
theorem lft.pure {W : Wd} {d : D} {v : V} (A : AbsM W M H) (r : Rep W M H d v) (q : Q d M) : lft W M H Q v H := ⟨d, M, Ext.refl, r, A, q⟩
theorem lft.int {W : Wd} {i : Int} (A : AbsM W M H) (q : Q (.int i) M) : lft W M H Q (.int i) H := lft.pure A (d := .int i) rfl q
theorem lft.bl {W : Wd} {i : Bool} (A : AbsM W M H) (q : Q (.bl i) M) : lft W M H Q (.bl i) H := lft.pure A (d := .bl i) rfl q
theorem lft.str {W : Wd} {i : Str} (A : AbsM W M H) (q : Q (.str i) M) : lft W M H Q (.str i) H := lft.pure A (d := .str i) rfl q
theorem lft.non {W : Wd} (A : AbsM W M H) (q : Q .non M) : lft W M H Q .non H := lft.pure A (d := .non) rfl q
theorem lft.newT {W : Wd} {ds : List D} {vs : List V} {p : Addr} (A : AbsM W M H) (r : Reps W M H ds vs) (h : H p = none) (q : Q (.tup ds) M) : lft W M H Q (.ref p) (upd H p (.tup vs)) :=
  ⟨_, M, Ext.fresh h, Rep.newT r h, A.fresh h, q⟩
theorem lft.newL {W : Wd} {ds : List D} {vs : List V} {p : Addr} (A : AbsM W M H) (r : Reps W M H ds vs) (h : H p = none) (q : Q (.lst ds) M) : lft W M H Q (.ref p) (upd H p (.lst vs)) :=
  ⟨_, M, Ext.fresh h, Rep.newL A r h, A.fresh h, q⟩
theorem lft.newM {W : Wd} {ds : List D} {vs : List V} {p : Addr} (A : AbsM W M H) (r : Reps W M H ds vs) (h : H p = none) (q : M p = none → Q (.ref p) (M.upd p (.lst ds))) : lft W M H Q (.ref p) (upd H p (.lst vs)) := by
  have x : Ext W M H (M.upd p (.lst ds)) (upd H p (.lst vs)) := Ext.freshM A h
  exact ⟨.ref p, _, x, rfl, AbsM.freshM A h ⟨vs, upd_same, r.ext x⟩, q (A.free h)⟩

/-! ### data as the library's data -/
def keyPy : Key → PyData
  | .inl i => .int i
  | .inr x => .str x
mutual
def D.py : D → PyData
  | .non => .none | .bl b => .bool b | .int i => .int i | .str s => .str s
  | .tup l => .tuple (D.pys l) | .lst l => .list (D.pys l) | .ref _ => .none | .scr _ => .none
  | .dct ks l => .dict ((ks.map keyPy).zip (D.pys l))
def D.pys : List D → List PyData
  | [] => [] | d :: ds => D.py d :: D.pys ds
end
mutual
/-- no address in it -/
def D.flat : D → Bool
  | .non => true | .bl b => true | .int i => true | .str s => true
  | .tup l => D.flats l | .lst l => D.flats l | .ref _ => false | .scr _ => false | .dct _ _ => false
def D.flats : List D → Bool
  | [] => true | d :: ds => D.flat d && D.flats ds
end
mutual
theorem Rep.dp {W : Wd} : ∀ {d : D} {v : V}, d.flat = true → Rep W M H d v → Dp W.K H v d.py
  | .non, _, _, h => by rw [show _ = _ from h]; exact .non
  | .bl b, _, _, h => by rw [show _ = _ from h]; exact .bl b
  | .int i, _, _, h => by rw [show _ = _ from h]; exact .int i
  | .str s, _, _, h => by rw [show _ = _ from h]; exact .str s
  | .tup l, _, f, h => by
    obtain ⟨a, xs, rfl, s, r⟩ := h
    exact .tup s (Reps.dp f r)
  | .lst l, _, f, h => by
    obtain ⟨a, xs, rfl, _, s, r⟩ := h
    exact .lst (SqL.of s) (Reps.dp f r)
  | .ref _, _, f, _ => by cases f
  | .scr _, _, f, _ => by cases f
  | .dct _ _, _, f, _ => by cases f
theorem Reps.dp {W : Wd} : ∀ {ds : List D} {vs : List V}, D.flats ds = true → Reps W M H ds vs → DpAll W.K H vs (D.pys ds)
  | [], _, _, h => by rw [show _ = _ from h]; exact .nil
  | d :: ds, _, f, h => by
    obtain ⟨v, r, rfl, h1, h2⟩ := h
    have f' : (d.flat && D.flats ds) = true := f
    rw [Bool.and_eq_true] at f'
    exact .cons (Rep.dp f'.1 h1) (Reps.dp f'.2 h2)
end
mutual
/-- no address in it, dicts allowed -/
def D.flx : D → Bool
  | .non => true | .bl _ => true | .int _ => true | .str _ => true
  | .tup l => D.flxs l | .lst l => D.flxs l | .ref _ => false | .scr _ => false | .dct ks l => decide (ks.length = l.length) && D.flxs l
def D.flxs : List D → Bool
  | [] => true | d :: ds => D.flx d && D.flxs ds
end
def D.ok (d : D) : Prop := d.flat = true ∧ SeqAt.shaped d.py = true
/-! ### the meaning of operators -/
def MulOk (i j : Int) : Prop := CMul i j ∨ CMulX i j
def repOk (n : Nat) (k : Int) : Prop := -(2 ^ 62) < k ∧ k ≤ 1000 ∧ n ≤ 1000
def listIn (M : Mp) (d : D) : Option (List D) := match d with
  | .lst l => some l
  | .ref a => match M a with
    | some (.lst l) => some l
    | _ => none
  | _ => none
/-- + (fz: a new list is not to be changed) -/
@[simp] def addD (fz : Bool) (x y : D) (M : Mp) (Q : QE) : Prop := match x, y with
  | .int i, .int j => Q (.int (i + j)) M
  | .str i, .str j => i.length + j.length ≤ sizeLine ∧ Q (.str (i ++ j)) M
  | .tup l, .tup r => l.length + r.length ≤ sizeLine ∧ Q (.tup (l ++ r)) M
  | x, y => match listIn M x, listIn M y with
    | some l, some r => l.length + r.length ≤ sizeLine ∧ if fz = true then Q (.lst (l ++ r)) M else ∀ p, M p = none → Q (.ref p) (M.upd p (.lst (l ++ r)))
    | _, _ => False
@[simp] def subD (x y : D) (M : Mp) (Q : QE) : Prop := match x, y with
  | .int i, .int j => Q (.int (i - j)) M
  | _, _ => False
@[simp] def mulD (fz : Bool) (x y : D) (M : Mp) (Q : QE) : Prop := match x, y with
  | .int i, .int j => MulOk i j ∧ Q (.int (i * j)) M
  | .tup l, .int k => repOk l.length k ∧ Q (.tup (List.replicate k.toNat l).flatten) M
  | .lst l, .int k => repOk l.length k ∧ if fz = true then Q (.lst (List.replicate k.toNat l).flatten) M else ∀ p, M p = none → Q (.ref p) (M.upd p (.lst (List.replicate k.toNat l).flatten))
  | _, _ => False
def DivOk (j : Int) : Prop := 0 < j ∧ j.natAbs.log2 < 9000
@[simp] def divD (x y : D) (M : Mp) (Q : QE) : Prop := match x, y with
  | .int i, .int j => DivOk j ∧ Q (.int (i / j)) M
  | _, _ => False
@[simp] def modD (x y : D) (M : Mp) (Q : QE) : Prop := match x, y with
  | .int i, .int j => 0 < j ∧ Q (.int (i % j)) M
  | _, _ => False
def PowOk (i j : Int) : Prop := 0 ≤ j ∧ (Builtin.Int.intBits i : Int) * j ≤ 2 ^ 27
@[simp] def powD (x y : D) (M : Mp) (Q : QE) : Prop := match x, y with
  | .int i, .int j => PowOk i j ∧ Q (.int (i ^ j.toNat)) M
  | _, _ => False
@[simp] def shlD (x y : D) (M : Mp) (Q : QE) : Prop := match x, y with
  | .int i, .int j => CShl i j ∧ Q (.int (i * 2 ^ j.toNat)) M
  | _, _ => False
def binD (op : Operator) (fz : Bool) : D → D → Mp → QE → Prop := match op with
  | .Add => addD fz | .Sub => subD | .Mult => mulD fz | .FloorDiv => divD | .Mod => modD | .Pow => powD | .LShift => shlD
  | _ => fun _ _ _ _ => False
/-- an operation on two values keeps to its meaning -/
def OpD (X : Cx) (f : Value → Value → Sem Value) (g : D → D → Mp → QE → Prop) : Prop :=
  ∃ r : R2, OpR X f r ∧ ∀ (d1 d2 : D) (x y : V) (M : Mp) (H : Hp) (Q : QE), AbsM (wd X) M H → Rep (wd X) M H d1 x → Rep (wd X) M H d2 y → g d1 d2 M Q → r x y H (lft (wd X) M H Q)
theorem Rep.int_inv {W : Wd} {i : Int} {x : V} (h : Rep W M H (.int i) x) : x = .int i := h
theorem listIn_rep {W : Wd} (A : AbsM W M H) {d : D} {x : V} {l : List D} (h : Rep W M H d x) (e : listIn M d = some l) : ∃ a xs, x = .ref a ∧ H a = some (.lst xs) ∧ Reps W M H l xs := by
  cases d with
  | lst l' =>
    cases e
    obtain ⟨a, xs, rfl, _, s, r⟩ := h
    exact ⟨a, xs, rfl, s, r⟩
  | ref a =>
    have h' : x = .ref a := h
    unfold listIn at e
    simp only at e
    split at e
    · rename_i l' q
      cases e
      obtain ⟨xs, h1, h2⟩ := A a _ q
      exact ⟨a, xs, h', h1, h2⟩
    · cases e
  | _ => cases e
/-! ### dicts -/
def keyD : D → Option Key
  | .int i => some (.inl i)
  | .str s => some (.inr s)
  | _ => none
theorem keyD_rep {W : Wd} {d : D} {x : V} {k : Key} (h : Rep W M H d x) (e : keyD d = some k) : x = kV k := by
  cases d <;> cases e <;> exact h
def valD (kvs : List (Key × D)) (k : Key) : Option D := (kvs.find? fun kv => decide (kv.1 = k)).map (·.2)
def putD (kvs : List (Key × D)) (k : Key) (d : D) : List (Key × D) :=
  if (kvs.any fun kv => decide (kv.1 = k)) = true then kvs.map (fun kv => if kv.1 = k then (kv.1, d) else kv) else kvs ++ [(k, d)]
theorem val_rep {W : Wd} {k : Key} : ∀ {kvs : List (Key × D)} {vs : List V}, Reps W M H (kvs.map (·.2)) vs →
    (valD kvs k = none → valV ((kvs.map (·.1)).zip vs) k = none) ∧ ∀ d, valD kvs k = some d → ∃ v, valV ((kvs.map (·.1)).zip vs) k = some v ∧ Rep W M H d v
  | [], _, r => by rw [show _ = _ from r]; exact ⟨fun _ => rfl, fun d h => by cases h⟩
  | kv :: kvs, _, r => by
    obtain ⟨v, w, rfl, h1, h2⟩ := r
    obtain ⟨i1, i2⟩ := val_rep (k := k) h2
    rw [List.map_cons, List.zip_cons_cons]
    by_cases e : kv.1 = k
    · refine ⟨fun z => ?_, fun d z => ?_⟩
      · simp [valD, List.find?_cons, e] at z
      · simp [valD, List.find?_cons, e] at z
        subst z
        exact ⟨v, by rw [valV_pos e], h1⟩
    · refine ⟨fun z => ?_, fun d z => ?_⟩
      · rw [valV_neg e]
        exact i1 (by simpa [valD, List.find?_cons, e] using z)
      · rw [valV_neg e]
        exact i2 d (by simpa [valD, List.find?_cons, e] using z)
theorem any_zip {k : Key} : ∀ {kvs : List (Key × D)} {vs : List V}, kvs.length = vs.length → (((kvs.map (·.1)).zip vs).any fun kv => decide (kv.1 = k)) = kvs.any fun kv => decide (kv.1 = k)
  | [], _, _ => rfl
  | _ :: _, [], h => by cases h
  | kv :: kvs, v :: vs, h => by
    rw [List.map_cons, List.zip_cons_cons, List.any_cons, List.any_cons, any_zip (by simpa using h)]
theorem map_put {W : Wd} {k : Key} {d : D} {y : V} (ry : Rep W M H d y) : ∀ {kvs : List (Key × D)} {vs : List V}, Reps W M H (kvs.map (·.2)) vs →
    ∃ vs', ((kvs.map (·.1)).zip vs).map (fun kv => if kv.1 = k then (kv.1, y) else kv) = ((kvs.map fun kv => if kv.1 = k then (kv.1, d) else kv).map (·.1)).zip vs' ∧ Reps W M H ((kvs.map fun kv => if kv.1 = k then (kv.1, d) else kv).map (·.2)) vs'
  | [], _, r => by rw [show _ = _ from r]; exact ⟨[], rfl, rfl⟩
  | kv :: kvs, _, r => by
    obtain ⟨v, w, rfl, h1, h2⟩ := r
    obtain ⟨vs', e1, e2⟩ := map_put ry (k := k) h2
    by_cases e : kv.1 = k
    · refine ⟨y :: vs', ?_, y, vs', ?_, ?_, e2⟩
      · simp only [List.map_cons, List.zip_cons_cons, e1, e, if_true]
      · rfl
      · show Rep W M H (if kv.1 = k then (kv.1, d) else kv).2 y
        rw [if_pos e]; exact ry
    · refine ⟨v :: vs', ?_, v, vs', rfl, ?_, e2⟩
      · simp only [List.map_cons, List.zip_cons_cons, e1, e, if_false]
      · show Rep W M H (if kv.1 = k then (kv.1, d) else kv).2 v
        rw [if_neg e]; exact h1
theorem put_rep {W : Wd} {k : Key} {d : D} {y : V} {kvs : List (Key × D)} {vs : List V} (ry : Rep W M H d y) (r : Reps W M H (kvs.map (·.2)) vs) :
    ∃ vs', putK ((kvs.map (·.1)).zip vs) k y = ((putD kvs k d).map (·.1)).zip vs' ∧ Reps W M H ((putD kvs k d).map (·.2)) vs' := by
  have hl : kvs.length = vs.length := by have := r.length; simpa using this
  unfold putK putD
  rw [any_zip hl]
  by_cases q : (kvs.any fun kv => decide (kv.1 = k)) = true
  · rw [if_pos q, if_pos q]
    exact map_put ry r
  · rw [if_neg q, if_neg q]
    refine ⟨vs ++ [y], ?_, ?_⟩
    · rw [List.map_append, List.zip_append (by simpa using hl)]; rfl
    · rw [List.map_append]
      exact r.append ⟨y, [], rfl, ry, rfl⟩
/-- the dict at a value -/
def dicIn (M : Mp) (x : D) : Option (List (Key × D)) := match x with
  | .dct ks l => if ks.length = l.length then some (ks.zip l) else none
  | .ref a => match M a with
    | some (.dic kvs) => some kvs
    | _ => none
  | _ => none
theorem zip_12 : ∀ {ks : List Key} {l : List D}, ks.length = l.length → (ks.zip l).map (·.1) = ks ∧ (ks.zip l).map (·.2) = l := fun h =>
  ⟨List.map_fst_zip (Nat.le_of_eq h), List.map_snd_zip (Nat.le_of_eq h.symm)⟩
theorem dicIn_rep {W : Wd} (A : AbsM W M H) {d : D} {x : V} {kvs : List (Key × D)} (h : Rep W M H d x) (e : dicIn M d = some kvs) : ∃ a vs, x = .ref a ∧ H a = some (.dK ((kvs.map (·.1)).zip vs)) ∧ Reps W M H (kvs.map (·.2)) vs := by
  cases d with
  | dct ks l =>
    unfold dicIn at e
    simp only at e
    split at e
    · rename_i hl
      cases e
      obtain ⟨a, xs, rfl, _, s, hl2, r⟩ := h
      obtain ⟨e1, e2⟩ := zip_12 hl
      exact ⟨a, xs, rfl, by rw [e1]; exact s, by rw [e2]; exact r⟩
    · cases e
  | ref a =>
    have h' : x = .ref a := h
    unfold dicIn at e
    simp only at e
    split at e
    · rename_i l' q
      cases e
      obtain ⟨vs, h1, h2⟩ := A a _ q
      exact ⟨a, vs, h', h1, h2⟩
    · cases e
  | _ => cases e
/-- what a dict holds at a key -/
def getDic (M : Mp) (x i : D) : Option (Option D) := match dicIn M x, keyD i with
  | some kvs, some k => some (valD kvs k)
  | _, _ => none
theorem getDic_rep {W : Wd} (A : AbsM W M H) {d i : D} {x y : V} {o : Option D} (h : Rep W M H d x) (hi : Rep W M H i y) (e : getDic M d i = some o) : ∃ a r, x = .ref a ∧ DGet H a y r ∧ (o = none → r = none) ∧ ∀ d', o = some d' → ∃ v, r = some v ∧ Rep W M H d' v := by
  unfold getDic at e
  split at e
  · rename_i kvs k e1 e2
    cases e
    obtain ⟨a, vs, rfl, h1, h2⟩ := dicIn_rep A h e1
    obtain ⟨i1, i2⟩ := val_rep (k := k) h2
    have hy := keyD_rep hi e2
    subst hy
    exact ⟨a, _, rfl, DGet.k h1, i1, i2⟩
  · cases e
end
/-- a sequence's items -/
def seqIn (M : Mp) (d : D) : Option (List D) := match d with
  | .tup l => some l
  | .scr ns => some (ns.map D.int)
  | d => listIn M d
theorem reps_ints {W : Wd} {M : Mp} {H : Hp} (ns : List Int) : Reps W M H (ns.map D.int) (ns.map V.int) := by
  induction ns with
  | nil => rfl
  | cons i r ih => exact ⟨_, _, rfl, rfl, ih⟩
theorem seqIn_rep {W : Wd} {M : Mp} {H : Hp} (A : AbsM W M H) {d : D} {x : V} {l : List D} (h : Rep W M H d x) (e : seqIn M d = some l) :
    ∃ a xs, x = .ref a ∧ (SqL W.K H a xs ∨ SqT W.K H a xs) ∧ Reps W M H l xs := by
  cases d with
  | tup l' =>
    cases e
    obtain ⟨a, xs, rfl, s, r⟩ := h
    exact ⟨a, xs, rfl, .inr s, r⟩
  | scr ns =>
    cases e
    obtain ⟨a, rfl, s⟩ := h
    exact ⟨a, _, rfl, .inl s.seq, reps_ints ns⟩
  | lst l' =>
    obtain ⟨a, xs, rfl, s, r⟩ := listIn_rep A h e
    exact ⟨a, xs, rfl, .inl (SqL.of s), r⟩
  | ref b =>
    obtain ⟨a, xs, rfl, s, r⟩ := listIn_rep A h e
    exact ⟨a, xs, rfl, .inl (SqL.of s), r⟩
  | _ => cases e
end Ow

namespace Ow
open PySem PySem.Spec PyProof.Rows L2
theorem tuple_mul1 (l : Addr) (items : Array Value) (n : Nat) (dd : Option Addr) (sl : Array (Option Value)) (x : Int) (u : Tok) (c0 : (decide (x < -(2 ^ 63)) || decide (x ≥ 2 ^ 63)) = false) (c1 : (items.isEmpty || x == 1) = true) :
    Meets (Builtin.«tuple.__mul__» ⟨[.ref l, .int x u], []⟩) (fun _ R s => s.heap.get? l = some { cls := .type "tuple", dict := dd, data := .seq items n, slots := sl } ∧ R (.ok (.ret (Value.ref l))) s) :=
  .of_wp fun prog w A R s h => by
    obtain ⟨hp, g, d, tk, os⟩ := s
    obtain ⟨hl, h⟩ := h
    have f1 := AutoSeq1.idx_int
    wp_walk using wpAny_loadPart' hl
    simp only [c0, Bool.false_eq_true, if_false]
    wp_walk using wpAny_loadPart' hl
    exact ⟨_, rfl, h⟩
theorem tuple_mul0 (l : Addr) (items : Array Value) (n : Nat) (dd : Option Addr) (sl : Array (Option Value)) (x : Int) (u : Tok) (c0 : (decide (x < -(2 ^ 63)) || decide (x ≥ 2 ^ 63)) = false) (c1 : (items.isEmpty || x == 1) = false) (c2 : (decide (x ≤ 0) || items.isEmpty) = true) :
    Meets (Builtin.«tuple.__mul__» ⟨[.ref l, .int x u], []⟩) (fun _ R s => s.heap.get? l = some { cls := .type "tuple", dict := dd, data := .seq items n, slots := sl } ∧
      R (.ok (.ret (Value.ref s.heap.objs.size))) { s with heap := s.heap.push { cls := Value.type "tuple", data := Data.seq #[] }, toks := s.toks }) :=
  .of_wp fun prog w A R s h => by
    obtain ⟨hp, g, d, tk, os⟩ := s
    obtain ⟨hl, h⟩ := h
    have f1 := AutoSeq1.idx_int
    wp_walk using wpAny_loadPart' hl
    simp only [c0, Bool.false_eq_true, if_false]
    wp_walk using wpAny_loadPart' hl
    exact ⟨_, rfl, h⟩
/-- t * k, for any t and k that are not great -/
theorem op_mulT {X : Cx} : OpR X (binaryOp .Mult) (fun x y H Q => ∃ l k xs, x = .ref l ∧ y = .int k ∧ SqT X.K H l xs ∧ -(2 ^ 62) < k ∧ k ≤ 1000 ∧ xs.length ≤ 1000 ∧
    (xs = [] ∨ k = 1 → Q (.ref l) H) ∧ (xs ≠ [] → k ≠ 1 → ∀ p, H p = none → Q (.ref p) (upd H p (.tup (List.replicate k.toNat xs).flatten)))) := by
  intro pins s σ H x y v u Q I rx ry h
  obtain ⟨l, k, xs, rfl, rfl, hT, h0, h1, hz, q1, q2⟩ := h
  by_cases hne : xs ≠ [] ∧ 2 ≤ k
  · exact op_repT pins s σ H _ _ v u Q I rx ry ⟨l, k, xs, rfl, rfl, hT, hne.1, hne.2, h1, hz, q2 hne.1 (by omega)⟩
  · have rx' : v = Value.ref l := rx
    subst rx'
    obtain ⟨t, rfl⟩ := ry
    obtain ⟨its, r, ⟨⟨cls, dd, data, sl⟩, ho, hc, n, hd⟩, hs⟩ := I.tuple hT
    have hc' : cls = .type "tuple" := hc
    have hd' : data = .seq its.toArray n := hd
    subst hc' hd'
    have len : its.length = xs.length := r.length.symm
    have emp : its.toArray.isEmpty = xs.isEmpty := by
      cases its <;> cases xs <;> simp_all
    have c0 : (decide (k < -(2 ^ 63)) || decide (k ≥ 2 ^ 63)) = false := by
      rw [decide_eq_false (by omega), decide_eq_false (by omega)]; rfl
    by_cases e1 : xs = [] ∨ k = 1
    · have c1 : (its.toArray.isEmpty || k == 1) = true := by
        rw [emp]
        rcases e1 with e | e
        · subst e; rfl
        · subst e; simp
      exact wpAny_binaryOp_repeat_ref (T := "tuple") (U := "int") (by decide) ⟨_, ho, rfl⟩ (fun s' => typeIs_int s' k t) noFill_tuple_mul F.fills_int_mul F.slot_int_rmul repeat_tuple F.slot_int_index.lookup
        (call_meets F.slot_int_rmul (typeIs_int s k t) F.entry_int_rmul (F.args_int_rmul_2 _ _) (int_rmul_tuple k t l its.toArray n dd sl)
          ⟨ho, rfl, ⟨_, ho, rfl⟩, call_meets F.slot_tuple_mul ⟨_, ho, rfl⟩ F.entry_tuple_mul (F.args_tuple_mul_2 _ _) (tuple_mul1 l its.toArray n dd sl k t c0 c1) ⟨ho, ⟨.ref l, H, I, rfl, q1 e1⟩⟩⟩)
    · have hx : xs ≠ [] := fun e => e1 (.inl e)
      have hk : k ≠ 1 := fun e => e1 (.inr e)
      have hk0 : k ≤ 0 := by
        have : ¬ 2 ≤ k := fun z => hne ⟨hx, z⟩
        omega
      have ex : xs.isEmpty = false := by
        cases xs with
        | nil => exact absurd rfl hx
        | cons _ _ => rfl
      have c1 : (its.toArray.isEmpty || k == 1) = false := by
        rw [emp, ex, Bool.false_or]
        exact beq_eq_false_iff_ne.mpr hk
      have c2 : (decide (k ≤ 0) || its.toArray.isEmpty) = true := by
        rw [decide_eq_true hk0]; rfl
      have z : k.toNat = 0 := by omega
      have q3 := q2 hx hk s.heap.objs.size (I.hok.fresh (Nat.le_refl _))
      rw [z] at q3
      refine wpAny_binaryOp_repeat_ref (T := "tuple") (U := "int") (by decide) ⟨_, ho, rfl⟩ (fun s' => typeIs_int s' k t) noFill_tuple_mul F.fills_int_mul F.slot_int_rmul repeat_tuple F.slot_int_index.lookup
        (call_meets F.slot_int_rmul (typeIs_int s k t) F.entry_int_rmul (F.args_int_rmul_2 _ _) (int_rmul_tuple k t l its.toArray n dd sl)
          ⟨ho, rfl, ⟨_, ho, rfl⟩, call_meets F.slot_tuple_mul ⟨_, ho, rfl⟩ F.entry_tuple_mul (F.args_tuple_mul_2 _ _) (tuple_mul0 l its.toArray n dd sl k t c0 c1 c2) ⟨ho, ?_⟩⟩)
      refine ⟨.ref s.heap.objs.size, _, I.laid (t' := s.toks) (o := .tup []) (fun b ob q => Heap.get?_push_of_some _ q) (Nat.le_refl _) ⟨Nat.zero_le _, [], .nil, IsTup.new _ _⟩, rfl, q3⟩
section
variable {X : Cx} {fz : Bool}
/-- an int operation by its rule -/
theorem opD_int {f : Value → Value → Sem Value} {C : Int → Int → Prop} {g : Int → Int → Int} {gD : D → D → Mp → QE → Prop} (h : OpR X f (rI C fun i j => .int (g i j)))
    (hg : ∀ d1 d2 M Q, gD d1 d2 M Q → ∃ i j, d1 = .int i ∧ d2 = .int j ∧ C i j ∧ Q (.int (g i j)) M) : OpD X f gD := by
  refine ⟨_, h, fun d1 d2 x y M H Q A r1 r2 z => ?_⟩
  obtain ⟨i, j, rfl, rfl, c, q⟩ := hg _ _ _ _ z
  exact ⟨i, j, r1, r2, c, lft.int A q⟩
theorem op_subD : OpD X (binaryOp .Sub) subD := by
  refine opD_int (C := fun _ _ => True) (g := fun i j => i - j) (fun pins s σ H x y v u Q I rx ry ⟨i, j, e1, e2, _, q⟩ => op_sub pins s σ H x y v u Q I rx ry ⟨i, j, e1, e2, q⟩) fun d1 d2 M Q z => ?_
  unfold subD at z; split at z
  · exact ⟨_, _, rfl, rfl, trivial, z⟩
  · exact z.elim
theorem op_divD : OpD X (binaryOp .FloorDiv) divD := by
  refine opD_int op_fdivW fun d1 d2 M Q z => ?_
  unfold divD at z; split at z
  · exact ⟨_, _, rfl, rfl, z.1, z.2⟩
  · exact z.elim
theorem op_modD : OpD X (binaryOp .Mod) modD := by
  refine opD_int op_mod fun d1 d2 M Q z => ?_
  unfold modD at z; split at z
  · exact ⟨_, _, rfl, rfl, z.1, z.2⟩
  · exact z.elim
theorem op_powW : OpR X (binaryOp .Pow) (rI PowOk fun i j => .int (i ^ j.toNat)) := opI fun _ _ _ _ _ _ _ hc q => pow_int hc.1 hc.2 q
theorem op_powD : OpD X (binaryOp .Pow) powD := by
  refine opD_int op_powW fun d1 d2 M Q z => ?_
  unfold powD at z; split at z
  · exact ⟨_, _, rfl, rfl, z.1, z.2⟩
  · exact z.elim
theorem op_shlD : OpD X (binaryOp .LShift) shlD := by
  refine opD_int op_shlW fun d1 d2 M Q z => ?_
  unfold shlD at z; split at z
  · exact ⟨_, _, rfl, rfl, z.1, z.2⟩
  · exact z.elim
theorem MulOk.ok {i j : Int} (h : MulOk i j) : IntMulOk i j := h.elim CMul.ok CMulX.ok
theorem op_mulA : OpR X (binaryOp .Mult) (rI MulOk fun i j => .int (i * j)) := opI fun _ _ _ _ _ _ _ hc q => mul_int q hc.ok
/-- two lists -/
theorem rCat_of {d1 d2 : D} {x y : V} {M : Mp} {H : Hp} {Q : QE} {l r : List D} (A : AbsM (wd X) M H) (r1 : Rep (wd X) M H d1 x) (r2 : Rep (wd X) M H d2 y) (e1 : listIn M d1 = some l) (e2 : listIn M d2 = some r)
    (z : l.length + r.length ≤ sizeLine ∧ if fz = true then Q (.lst (l ++ r)) M else ∀ p, M p = none → Q (.ref p) (M.upd p (.lst (l ++ r)))) : rCat x y H (lft (wd X) M H Q) := by
  obtain ⟨a, xs, rfl, ha, ra⟩ := listIn_rep A r1 e1
  obtain ⟨b, ys, rfl, hb, rb⟩ := listIn_rep A r2 e2
  refine ⟨a, b, xs, ys, rfl, rfl, ha, hb, by rw [← ra.length, ← rb.length]; exact z.1, fun p hp => ?_⟩
  cases fz with
  | true => exact lft.newL A (ra.append rb) hp z.2
  | false => exact lft.newM A (ra.append rb) hp (z.2 p)
theorem op_addD : OpD X (binaryOp .Add) (addD fz) := by
  refine ⟨_, OpR.or op_add (OpR.or op_add_str (OpR.or op_catA op_cat)), fun d1 d2 x y M H Q A r1 r2 z => ?_⟩
  unfold addD at z; split at z
  · exact .inl ⟨_, _, r1, r2, lft.int A z⟩
  · exact .inr (.inl ⟨_, _, r1, r2, z.1, lft.str A z.2⟩)
  · rename_i l r
    obtain ⟨a, xs, rfl, sa, ra⟩ := r1
    obtain ⟨b, ys, rfl, sb, rb⟩ := r2
    refine .inr (.inr (.inl ⟨a, b, xs, ys, rfl, rfl, sa, sb, by rw [← ra.length, ← rb.length]; exact z.1, fun e => ?_, fun _ e => ?_, fun _ _ p hp => lft.newT A (ra.append rb) hp z.2⟩))
    · have e' : l = [] := List.eq_nil_of_length_eq_zero (by rw [ra.length, e]; rfl)
      subst e'
      exact lft.pure A (d := .tup r) ⟨b, ys, rfl, sb, rb⟩ z.2
    · have e' : r = [] := List.eq_nil_of_length_eq_zero (by rw [rb.length, e]; rfl)
      subst e'
      refine lft.pure A (d := .tup (l ++ [])) ⟨a, xs, rfl, sa, ?_⟩ z.2
      rw [List.append_nil]; exact ra
  · split at z
    · rename_i l r e1 e2
      exact .inr (.inr (.inr (rCat_of A r1 r2 e1 e2 z)))
    · exact z.elim
theorem op_mulD : OpD X (binaryOp .Mult) (mulD fz) := by
  refine ⟨_, OpR.or op_mulA (OpR.or op_mulT op_rep), fun d1 d2 x y M H Q A r1 r2 z => ?_⟩
  unfold mulD at z; split at z
  · exact .inl ⟨_, _, r1, r2, z.1, lft.int A z.2⟩
  · rename_i l k
    obtain ⟨a, xs, rfl, sa, ra⟩ := r1
    obtain ⟨⟨k0, k1, k2⟩, q⟩ := z
    refine .inr (.inl ⟨a, k, xs, rfl, r2, sa, k0, k1, by rw [← ra.length]; exact k2, fun e => ?_, fun _ _ p hp => lft.newT A (ra.flat _) hp q⟩)
    have e' : (List.replicate k.toNat l).flatten = l := by
      rcases e with e | e
      · have : l = [] := List.eq_nil_of_length_eq_zero (by rw [ra.length, e]; rfl)
        subst this
        induction k.toNat with
        | zero => rfl
        | succ n ih => rw [List.replicate_succ, List.flatten_cons, ih]; rfl
      · subst e; simp
    rw [e'] at q
    exact lft.pure A (d := .tup l) ⟨a, xs, rfl, sa, ra⟩ q
  · rename_i l k
    obtain ⟨a, xs, rfl, _, sa, ra⟩ := r1
    obtain ⟨⟨k0, k1, k2⟩, q⟩ := z
    refine .inr (.inr ⟨a, k, xs, rfl, r2, sa, by omega, by omega, ?_, fun p hp => ?_⟩)
    · rw [← ra.length]
      have : l.length * k.toNat ≤ 1000 * 1000 := Nat.mul_le_mul k2 (by omega)
      exact Nat.le_trans this (by decide)
    · cases fz with
      | true => exact lft.newL A (ra.flat _) hp q
      | false => exact lft.newM A (ra.flat _) hp (q p)
  · exact z.elim
theorem op_binD (op : Operator) : OpD X (binaryOp op) (binD op fz) := by
  cases op with
  | Add => exact op_addD
  | Sub => exact op_subD
  | Mult => exact op_mulD
  | FloorDiv => exact op_divD
  | Mod => exact op_modD
  | Pow => exact op_powD
  | LShift => exact op_shlD
  | _ => exact ⟨fun _ _ _ _ => False, fun _ _ _ _ _ _ _ _ _ _ _ _ h => h.elim, fun _ _ _ _ _ _ _ _ _ _ h => h⟩
end
end Ow

namespace Ow
open PySem PySem.Spec PyProof.Rows L2
def D.isNon : D → Bool | .non => true | _ => false
def ordD (p : Int → Int → Bool) (x y : D) (M : Mp) (Q : QE) : Prop := match x, y with
  | .int i, .int j => Q (.bl (p i j)) M
  | _, _ => False
def eqB (a b : D) : Bool := PyData.eqv a.py b.py
/-- == and != (neg) -/
def eqD (neg : Bool) (x y : D) (M : Mp) (Q : QE) : Prop := match x, y with
  | .int i, .int j => Q (.bl (neg ^^ decide (i = j))) M
  | .str i, .str j => Q (.bl (neg ^^ decide (i = j))) M
  | .bl i, .bl j => Q (.bl (neg ^^ decide (i = j))) M
  | .ref a, .lst [] => (match M a with
    | some (.lst l) => Q (.bl (neg ^^ l.isEmpty)) M
    | _ => False)
  | x, y => x.ok ∧ y.ok ∧ Q (.bl (neg ^^ eqB x y)) M
def isD (neg : Bool) (x y : D) (M : Mp) (Q : QE) : Prop := match x, y with
  | .bl a, .bl b => Q (.bl (neg ^^ decide (a = b))) M
  | x, .non => Q (.bl (neg ^^ x.isNon)) M
  | _, _ => False
def scalar : D → Bool
  | .non => true | .bl _ => true | .int _ => true | .str _ => true | _ => false
def strIn (i j : Str) : Bool := !(Builtin.Str.occurrences j i 0 j.length 1).isEmpty
/-- == of scalars -/
def eqS : D → D → Bool
  | .non, .non => true
  | .bl a, .bl b => a == b
  | .bl a, .int b => (if a then 1 else 0) == b
  | .int a, .bl b => a == (if b then 1 else 0)
  | .int a, .int b => a == b
  | .str a, .str b => a == b
  | _, _ => false
def inD (neg : Bool) (x y : D) (M : Mp) (Q : QE) : Prop := match y with
  | .str j => (match x with
    | .str i => Q (.bl (neg ^^ strIn i j)) M
    | _ => False)
  | y => (match getDic M y x with
    | some o => Q (.bl (neg ^^ o.isSome)) M
    | none => (match seqIn M y with
      | some l => scalar x = true ∧ l.all scalar = true ∧ Q (.bl (neg ^^ l.any fun z => eqS z x)) M
      | none => False))
def cmpD (op : CmpOp) : D → D → Mp → QE → Prop := match op with
  | .Lt => ordD fun i j => decide (i < j)
  | .LtE => ordD fun i j => decide (i ≤ j)
  | .Gt => ordD fun i j => decide (j < i)
  | .GtE => ordD fun i j => decide (j ≤ i)
  | .Eq => eqD false
  | .NotEq => eqD true
  | .Is => isD false
  | .IsNot => isD true
  | .In => inD false
  | .NotIn => inD true
section
variable {X : Cx}
theorem ord_of {f : Value → Value → Sem Value} {p : Int → Int → Bool} (h : OpR X f (rI0 fun i j => .bl (p i j))) : OpD X f (ordD p) := by
  refine ⟨_, h, fun d1 d2 x y M H Q A r1 r2 z => ?_⟩
  unfold ordD at z; split at z
  · exact ⟨_, _, r1, r2, lft.bl A z⟩
  · exact z.elim
/-- a list of anything against the empty one -/
def rEqE (neg : Bool) : R2 := fun x y H Q => ∃ (a b : Addr) (xs : List V), x = .ref a ∧ y = .ref b ∧ H a = some (.lst xs) ∧ H b = some (.lst []) ∧ Q (.bl (neg ^^ xs.isEmpty)) H
theorem op_eqE (hu : X.A.units + 64 < cLine) : OpR X (compareOp .Eq) (rEqE false) := by
  intro pins s σ H x y v u Q I rx ry h
  obtain ⟨a, b, xs, rfl, rfl, ha, hb, q⟩ := h
  cases rx
  cases ry
  obtain ⟨us, r1, p1, _⟩ := I.list (.inl (.inl ha))
  obtain ⟨ws, r2, p2, _⟩ := I.list (.inl (.inl hb))
  cases r2
  cases xs with
  | nil =>
    cases r1
    exact SeqAt.RcAt.lists (e := fun _ => true) p1.isList p2.isList rfl (by omega) (fun j h1 h2 => absurd h1 (by simp)) X.prog X.w _ _ ⟨.bl true, H, I, rfl, q⟩
  | cons z zs =>
    cases r1
    exact SeqAt.RcAt.lists_lengths p1.isList p2.isList (by simp) (by omega) X.prog X.w _ _ ⟨.bl false, H, I, rfl, q⟩
theorem op_neE (hu : X.A.units + 64 < cLine) : OpR X (compareOp .NotEq) (rEqE true) := by
  intro pins s σ H x y v u Q I rx ry h
  obtain ⟨a, b, xs, rfl, rfl, ha, hb, q⟩ := h
  cases rx
  cases ry
  obtain ⟨us, r1, p1, _⟩ := I.list (.inl (.inl ha))
  obtain ⟨ws, r2, p2, _⟩ := I.list (.inl (.inl hb))
  cases r2
  cases xs with
  | nil =>
    cases r1
    exact SeqAt.RcNeAt.lists (e := fun _ => true) p1.isList p2.isList rfl (by omega) (fun j h1 h2 => absurd h1 (by simp)) X.prog X.w _ _ ⟨.bl false, H, I, rfl, q⟩
  | cons z zs =>
    cases r1
    exact SeqAt.RcNeAt.lists_lengths p1.isList p2.isList (by simp) (by omega) X.prog X.w _ _ ⟨.bl true, H, I, rfl, q⟩
theorem op_eqD' (hu : X.A.units + 64 < cLine) : OpD X (compareOp .Eq) (eqD false) := by
  refine ⟨_, OpR.or op_eq (OpR.or (op_eqE hu) (op_eqD hu)), fun d1 d2 x y M H Q A r1 r2 z => ?_⟩
  unfold eqD at z; split at z
  · refine .inl ?_
    rename_i i j
    have r1' : x = .int i := r1
    have r2' : y = .int j := r2
    subst r1' r2'
    exact ⟨rfl, lft.bl A (by rw [Bool.false_xor] at z; simpa using z)⟩
  · refine .inl ?_
    rename_i i j
    have r1' : x = .str i := r1
    have r2' : y = .str j := r2
    subst r1' r2'
    exact ⟨rfl, lft.bl A (by rw [Bool.false_xor] at z; simpa using z)⟩
  · refine .inl ?_
    rename_i i j
    have r1' : x = .bl i := r1
    have r2' : y = .bl j := r2
    subst r1' r2'
    exact ⟨rfl, lft.bl A (by rw [Bool.false_xor] at z; simpa using z)⟩
  · rename_i a
    split at z
    · rename_i l hl
      obtain ⟨xs, h1, h2⟩ := A a _ hl
      obtain ⟨b, ys, rfl, _, h3, h4⟩ := r2
      cases (show ys = [] from h4)
      cases (show x = .ref a from r1)
      have he : xs.isEmpty = l.isEmpty := by
        have := h2.length
        cases l <;> cases xs <;> first | rfl | (simp at this)
      exact .inr (.inl ⟨a, b, xs, rfl, rfl, h1, h3, lft.bl A (by rw [he]; exact z)⟩)
    · exact z.elim
  · obtain ⟨h1, h2, q⟩ := z
    exact .inr (.inr ⟨_, _, Rep.dp h1.1 r1, Rep.dp h2.1 r2, h1.2, h2.2, lft.bl A (by rw [Bool.false_xor] at q; exact q)⟩)
theorem op_neD' (hu : X.A.units + 64 < cLine) : OpD X (compareOp .NotEq) (eqD true) := by
  refine ⟨_, OpR.or op_ne (OpR.or (op_neE hu) (op_neD hu)), fun d1 d2 x y M H Q A r1 r2 z => ?_⟩
  unfold eqD at z; split at z
  · refine .inl ?_
    rename_i i j
    have r1' : x = .int i := r1
    have r2' : y = .int j := r2
    subst r1' r2'
    exact ⟨rfl, lft.bl A (by rw [Bool.true_xor] at z; simpa using z)⟩
  · refine .inl ?_
    rename_i i j
    have r1' : x = .str i := r1
    have r2' : y = .str j := r2
    subst r1' r2'
    exact ⟨rfl, lft.bl A (by rw [Bool.true_xor] at z; simpa using z)⟩
  · refine .inl ?_
    rename_i i j
    have r1' : x = .bl i := r1
    have r2' : y = .bl j := r2
    subst r1' r2'
    exact ⟨rfl, lft.bl A (by rw [Bool.true_xor] at z; simpa using z)⟩
  · rename_i a
    split at z
    · rename_i l hl
      obtain ⟨xs, h1, h2⟩ := A a _ hl
      obtain ⟨b, ys, rfl, _, h3, h4⟩ := r2
      cases (show ys = [] from h4)
      cases (show x = .ref a from r1)
      have he : xs.isEmpty = l.isEmpty := by
        have := h2.length
        cases l <;> cases xs <;> first | rfl | (simp at this)
      exact .inr (.inl ⟨a, b, xs, rfl, rfl, h1, h3, lft.bl A (by rw [he]; exact z)⟩)
    · exact z.elim
  · obtain ⟨h1, h2, q⟩ := z
    exact .inr (.inr ⟨_, _, Rep.dp h1.1 r1, Rep.dp h2.1 r2, h1.2, h2.2, lft.bl A (by rw [Bool.true_xor] at q; exact q)⟩)
theorem isNon_rep {W : Wd} {M : Mp} {H : Hp} {d : D} {x : V} (h : Rep W M H d x) : decide (x = .non) = d.isNon := by
  cases d with
  | tup l => obtain ⟨a, xs, rfl, _⟩ := h; rfl
  | lst l => obtain ⟨a, xs, rfl, _⟩ := h; rfl
  | scr l => obtain ⟨a, rfl, _⟩ := h; rfl
  | dct ks l => obtain ⟨a, xs, rfl, _⟩ := h; rfl
  | _ => rw [show x = _ from h]; rfl
theorem op_isD : OpD X (compareOp .Is) (isD false) := by
  refine ⟨_, OpR.or op_isBl op_isN, fun d1 d2 x y M H Q A r1 r2 z => ?_⟩
  unfold isD at z; split at z
  · exact .inl ⟨_, _, r1, r2, lft.bl A (by rw [Bool.false_xor] at z; exact z)⟩
  · refine .inr ⟨r2, lft.bl A ?_⟩
    rw [isNon_rep r1]; rw [Bool.false_xor] at z; exact z
  · exact z.elim
theorem op_isntD : OpD X (compareOp .IsNot) (isD true) := by
  refine ⟨_, OpR.or op_notBl op_notN, fun d1 d2 x y M H Q A r1 r2 z => ?_⟩
  unfold isD at z; split at z
  · exact .inl ⟨_, _, r1, r2, lft.bl A (by rw [Bool.true_xor] at z; exact z)⟩
  · refine .inr ⟨r2, lft.bl A ?_⟩
    rw [isNon_rep r1]; rw [Bool.true_xor] at z; exact z
  · exact z.elim
theorem scalar_rep {W : Wd} {M : Mp} {H : Hp} {d : D} {x : V} (h : Rep W M H d x) (s : scalar d = true) : flatV x = true := by
  cases d <;> first | (cases s; done) | (rw [show x = _ from h]; rfl)
theorem eqS_rep {W : Wd} {M : Mp} {H : Hp} {d e : D} {x y : V} (h : Rep W M H d x) (h' : Rep W M H e y) (s : scalar d = true) (s' : scalar e = true) : eqV x y = eqS d e := by
  cases d <;> first | (cases s; done) | (rw [show x = _ from h]; cases e <;> first | (cases s'; done) | (rw [show y = _ from h']; rfl))
theorem scalars_rep {W : Wd} {M : Mp} {H : Hp} : ∀ {ds : List D} {xs : List V}, Reps W M H ds xs → ds.all scalar = true → xs.all flatV = true
  | [], _, r, _ => by rw [show _ = _ from r]; rfl
  | d :: ds, _, r, s => by
    obtain ⟨v, w, rfl, h1, h2⟩ := r
    rw [List.all_cons, Bool.and_eq_true] at s
    rw [List.all_cons, scalar_rep h1 s.1, scalars_rep h2 s.2]; rfl
theorem inV_rep {W : Wd} {M : Mp} {H : Hp} {d : D} {x : V} (h : Rep W M H d x) (s : scalar d = true) : ∀ {ds : List D} {xs : List V}, Reps W M H ds xs → ds.all scalar = true → inV x xs = ds.any fun z => eqS z d
  | [], _, r, _ => by rw [show _ = _ from r]; rfl
  | e :: ds, _, r, s' => by
    obtain ⟨v, w, rfl, h1, h2⟩ := r
    rw [List.all_cons, Bool.and_eq_true] at s'
    have ih := inV_rep h s h2 s'.2
    unfold inV at ih ⊢
    rw [List.any_cons, List.any_cons, eqS_rep h1 h s'.1 s, ih]
/-- in, of a dict -/
theorem op_in_dic (hu : X.A.units + 1 < cLine) : OpR X (compareOp .In) (fun x y H Q => ∃ a r, y = .ref a ∧ DGet H a x r ∧ Q (.bl r.isSome) H) := by
  intro pins s σ H x y v u Q I rx ry h
  obtain ⟨a, r, rfl, g, q⟩ := h
  cases ry
  exact d_in hu I g rx fun s3 I3 => ⟨.bl r.isSome, H, I3, rfl, q⟩
theorem op_notIn_dic (hu : X.A.units + 1 < cLine) : OpR X (compareOp .NotIn) (fun x y H Q => ∃ a r, y = .ref a ∧ DGet H a x r ∧ Q (.bl (!r.isSome)) H) := by
  intro pins s σ H x y v u Q I rx ry h
  obtain ⟨a, r, rfl, g, q⟩ := h
  cases ry
  exact d_notIn hu I g rx fun s3 I3 => ⟨.bl (!r.isSome), H, I3, rfl, q⟩
theorem op_inD (hu : X.A.units + 1 < cLine) : OpD X (compareOp .In) (inD false) := by
  refine ⟨_, OpR.or op_in_str (OpR.or (op_in_dic hu) op_in_seq), fun d1 d2 x y M H Q A r1 r2 z => ?_⟩
  unfold inD at z
  split at z
  · rename_i j
    split at z
    · rename_i i
      exact .inl ⟨i, j, r1, r2, lft.bl A (by rw [Bool.false_xor] at z; exact z)⟩
    · exact z.elim
  · split at z
    · rename_i o e
      obtain ⟨a, r, rfl, g, n1, n2⟩ := getDic_rep A r2 r1 e
      refine .inr (.inl ⟨a, r, rfl, g, lft.bl A ?_⟩)
      rw [Bool.false_xor] at z
      have : r.isSome = o.isSome := by
        cases o with
        | none => rw [n1 rfl]; rfl
        | some d' => obtain ⟨v, e2, _⟩ := n2 d' rfl; rw [e2]; rfl
      rw [this]; exact z
    · split at z
      · rename_i l e
        obtain ⟨a, xs, rfl, s, rs⟩ := seqIn_rep A r2 e
        obtain ⟨s1, s2, z⟩ := z
        refine .inr (.inr ⟨a, xs, rfl, s, scalar_rep r1 s1, scalars_rep rs s2, lft.bl A ?_⟩)
        rw [if_neg Bool.false_ne_true] at *
        rw [Bool.false_xor] at z
        rw [inV_rep r1 s1 rs s2]; exact z
      · exact z.elim
theorem op_notInD (hu : X.A.units + 1 < cLine) : OpD X (compareOp .NotIn) (inD true) := by
  refine ⟨_, OpR.or op_notIn_str (OpR.or (op_notIn_dic hu) op_notIn_seq), fun d1 d2 x y M H Q A r1 r2 z => ?_⟩
  unfold inD at z
  split at z
  · rename_i j
    split at z
    · rename_i i
      exact .inl ⟨i, j, r1, r2, lft.bl A (by rw [Bool.true_xor] at z; exact z)⟩
    · exact z.elim
  · split at z
    · rename_i o e
      obtain ⟨a, r, rfl, g, n1, n2⟩ := getDic_rep A r2 r1 e
      refine .inr (.inl ⟨a, r, rfl, g, lft.bl A ?_⟩)
      rw [Bool.true_xor] at z
      have : r.isSome = o.isSome := by
        cases o with
        | none => rw [n1 rfl]; rfl
        | some d' => obtain ⟨v, e2, _⟩ := n2 d' rfl; rw [e2]; rfl
      rw [this]; exact z
    · split at z
      · rename_i l e
        obtain ⟨a, xs, rfl, s, rs⟩ := seqIn_rep A r2 e
        obtain ⟨s1, s2, z⟩ := z
        refine .inr (.inr ⟨a, xs, rfl, s, scalar_rep r1 s1, scalars_rep rs s2, lft.bl A ?_⟩)
        rw [if_pos rfl] at *
        rw [Bool.true_xor] at z
        rw [inV_rep r1 s1 rs s2]; exact z
      · exact z.elim
theorem op_cmpD (hu : X.A.units + 64 < cLine) (op : CmpOp) : OpD X (compareOp op) (cmpD op) := by
  cases op with
  | Lt => exact ord_of op_lt
  | LtE => exact ord_of op_le
  | Gt => exact ord_of op_gt
  | GtE => exact ord_of op_ge
  | Eq => exact op_eqD' hu
  | NotEq => exact op_neD' hu
  | Is => exact op_isD
  | IsNot => exact op_isntD
  | In => exact op_inD (by omega)
  | NotIn => exact op_notInD (by omega)
/-! ### truth -/
@[simp] def truD (d : D) (M : Mp) (Q : Bool → Prop) : Prop := match d with
  | .non => Q false
  | .bl b => Q b
  | .int i => Q (i != 0)
  | .str s => s.length ≤ sizeLine ∧ Q ((s.length : Int) != 0)
  | .tup l => Q (!l.isEmpty)
  | .lst l => Q (!l.isEmpty)
  | _ => False
theorem isEmpty_reps {W : Wd} {M : Mp} {H : Hp} {ds : List D} {xs : List V} (r : Reps W M H ds xs) : ds.isEmpty = xs.isEmpty := by
  have := r.length
  cases ds <;> cases xs <;> simp_all
theorem tru_rep {W : Wd} {M : Mp} {H : Hp} {d : D} {x : V} {Q : Bool → Prop} (h : Rep W M H d x) (z : truD d M Q) : ∃ k, TruV W.K x H k ∧ Q k := by
  cases d with
  | non => rw [show x = _ from h]; exact ⟨_, rfl, z⟩
  | bl b => rw [show x = _ from h]; exact ⟨_, rfl, z⟩
  | int i => rw [show x = _ from h]; exact ⟨_, rfl, z⟩
  | str i => rw [show x = _ from h]; exact ⟨_, ⟨z.1, rfl⟩, z.2⟩
  | tup l =>
    obtain ⟨a, xs, rfl, s, r⟩ := h
    exact ⟨_, .inr (.inl ⟨xs, s, by rw [← isEmpty_reps r]⟩), z⟩
  | lst l =>
    obtain ⟨a, xs, rfl, _, s, r⟩ := h
    exact ⟨_, .inl ⟨xs, SqL.of s, by rw [← isEmpty_reps r]⟩, z⟩
  | _ => exact z.elim
theorem truD_mono {d : D} {M : Mp} {Q Q' : Bool → Prop} (h : truD d M Q) (m : ∀ k, Q k → Q' k) : truD d M Q' := by
  cases d with
  | str s => exact ⟨h.1, m _ h.2⟩
  | ref a => exact h
  | scr a => exact h
  | dct ks l => exact h
  | _ => exact m _ h
end
end Ow

namespace Ow
open PySem PySem.Spec PyProof.Rows L2
def intsOf : List D → Option (List Int)
  | [] => some []
  | .int i :: r => (intsOf r).map (i :: ·)
  | _ :: _ => none
def boolsOf : List D → Option (List Bool)
  | [] => some []
  | .bl i :: r => (boolsOf r).map (i :: ·)
  | _ :: _ => none
theorem intsOf_map (l : List Int) : intsOf (l.map D.int) = some l := by
  induction l with
  | nil => rfl
  | cons i r ih => show (intsOf (r.map D.int)).map (i :: ·) = _; rw [ih]; rfl
theorem boolsOf_map (l : List Bool) : boolsOf (l.map D.bl) = some l := by
  induction l with
  | nil => rfl
  | cons i r ih => show (boolsOf (r.map D.bl)).map (i :: ·) = _; rw [ih]; rfl
theorem intsOf_rep {W : Wd} {M : Mp} {H : Hp} : ∀ {ds : List D} {xs : List V} {ns : List Int}, Reps W M H ds xs → intsOf ds = some ns → xs = ns.map V.int
  | [], _, _, r, e => by cases e; exact r
  | .int i :: ds, _, ns, r, e => by
    obtain ⟨v, vs, rfl, h1, h2⟩ := r
    unfold intsOf at e
    cases q : intsOf ds with
    | none => rw [q] at e; cases e
    | some ms =>
      rw [q] at e; cases e
      rw [intsOf_rep h2 q, show v = .int i from h1]; rfl
  | .non :: _, _, _, _, e => by cases e
  | .bl _ :: _, _, _, _, e => by cases e
  | .str _ :: _, _, _, _, e => by cases e
  | .tup _ :: _, _, _, _, e => by cases e
  | .lst _ :: _, _, _, _, e => by cases e
  | .ref _ :: _, _, _, _, e => by cases e
  | .scr _ :: _, _, _, _, e => by cases e
  | .dct _ _ :: _, _, _, _, e => by cases e
theorem boolsOf_rep {W : Wd} {M : Mp} {H : Hp} : ∀ {ds : List D} {xs : List V} {ns : List Bool}, Reps W M H ds xs → boolsOf ds = some ns → xs = ns.map V.bl
  | [], _, _, r, e => by cases e; exact r
  | .bl i :: ds, _, ns, r, e => by
    obtain ⟨v, vs, rfl, h1, h2⟩ := r
    unfold boolsOf at e
    cases q : boolsOf ds with
    | none => rw [q] at e; cases e
    | some ms =>
      rw [q] at e; cases e
      rw [boolsOf_rep h2 q, show v = .bl i from h1]; rfl
  | .non :: _, _, _, _, e => by cases e
  | .int _ :: _, _, _, _, e => by cases e
  | .str _ :: _, _, _, _, e => by cases e
  | .tup _ :: _, _, _, _, e => by cases e
  | .lst _ :: _, _, _, _, e => by cases e
  | .ref _ :: _, _, _, _, e => by cases e
  | .scr _ :: _, _, _, _, e => by cases e
  | .dct _ _ :: _, _, _, _, e => by cases e
def maxL : List Int → Int
  | [] => 0
  | i :: r => r.foldl (fun a b => if a < b then b else a) i
def minL : List Int → Int
  | [] => 0
  | i :: r => r.foldl (fun a b => if b < a then b else a) i
theorem foldmax (r : List Int) : ∀ i : Int, (r.foldl (fun a b => if a < b then b else a) i = i ∨ r.foldl (fun a b => if a < b then b else a) i ∈ r) ∧ i ≤ r.foldl (fun a b => if a < b then b else a) i ∧ ∀ y ∈ r, y ≤ r.foldl (fun a b => if a < b then b else a) i := by
  induction r with
  | nil => exact fun i => ⟨.inl rfl, Int.le_refl _, fun _ h => nomatch h⟩
  | cons j r ih =>
    intro i
    obtain ⟨h1, h2, h3⟩ := ih (if i < j then j else i)
    rw [List.foldl_cons]
    refine ⟨?_, ?_, fun y hy => ?_⟩
    · rcases h1 with h1 | h1
      · rw [h1]
        by_cases c : i < j
        · rw [if_pos c]; exact .inr List.mem_cons_self
        · rw [if_neg c]; exact .inl rfl
      · exact .inr (List.mem_cons_of_mem _ h1)
    · refine Int.le_trans ?_ h2
      split <;> omega
    · rcases List.mem_cons.mp hy with e | e
      · subst e; refine Int.le_trans ?_ h2; split <;> omega
      · exact h3 y e
theorem maxL_spec {ns : List Int} (h : ns ≠ []) : maxL ns ∈ ns ∧ ∀ y ∈ ns, y ≤ maxL ns := by
  cases ns with
  | nil => exact absurd rfl h
  | cons i r =>
    obtain ⟨h1, h2, h3⟩ := foldmax r i
    refine ⟨?_, fun y hy => ?_⟩
    · rcases h1 with h1 | h1
      · show r.foldl _ i ∈ _; rw [h1]; exact List.mem_cons_self
      · exact List.mem_cons_of_mem _ h1
    · rcases List.mem_cons.mp hy with e | e
      · subst e; exact h2
      · exact h3 y e
theorem foldmin (r : List Int) : ∀ i : Int, (r.foldl (fun a b => if b < a then b else a) i = i ∨ r.foldl (fun a b => if b < a then b else a) i ∈ r) ∧ r.foldl (fun a b => if b < a then b else a) i ≤ i ∧ ∀ y ∈ r, r.foldl (fun a b => if b < a then b else a) i ≤ y := by
  induction r with
  | nil => exact fun i => ⟨.inl rfl, Int.le_refl _, fun _ h => nomatch h⟩
  | cons j r ih =>
    intro i
    obtain ⟨h1, h2, h3⟩ := ih (if j < i then j else i)
    rw [List.foldl_cons]
    refine ⟨?_, ?_, fun y hy => ?_⟩
    · rcases h1 with h1 | h1
      · rw [h1]
        by_cases c : j < i
        · rw [if_pos c]; exact .inr List.mem_cons_self
        · rw [if_neg c]; exact .inl rfl
      · exact .inr (List.mem_cons_of_mem _ h1)
    · refine Int.le_trans h2 ?_
      split <;> omega
    · rcases List.mem_cons.mp hy with e | e
      · subst e; refine Int.le_trans h2 ?_; split <;> omega
      · exact h3 y e
theorem minL_spec {ns : List Int} (h : ns ≠ []) : minL ns ∈ ns ∧ ∀ y ∈ ns, minL ns ≤ y := by
  cases ns with
  | nil => exact absurd rfl h
  | cons i r =>
    obtain ⟨h1, h2, h3⟩ := foldmin r i
    refine ⟨?_, fun y hy => ?_⟩
    · rcases h1 with h1 | h1
      · show r.foldl _ i ∈ _; rw [h1]; exact List.mem_cons_self
      · exact List.mem_cons_of_mem _ h1
    · rcases List.mem_cons.mp hy with e | e
      · subst e; exact h2
      · exact h3 y e

inductive Blt where
  | len | abs | max | min | sum | all | any | repr | divmod | tuple | list | int | str | bool
def Blt.name : Blt → Str
  | len => "len" | abs => "abs" | max => "max" | min => "min" | sum => "sum" | all => "all" | any => "any" | repr => "repr" | divmod => "divmod"
  | tuple => "tuple" | list => "list" | int => "int" | str => "str" | bool => "bool"
def Blt.val : Blt → Value
  | len => .builtin "len" | abs => .builtin "abs" | max => .builtin "max" | min => .builtin "min" | sum => .builtin "sum" | all => .builtin "all" | any => .builtin "any" | repr => .builtin "repr" | divmod => .builtin "divmod"
  | tuple => .type "tuple" | list => .type "list" | int => .type "int" | str => .type "str" | bool => .type "bool"
/-- what may be shown by repr -/
def ShowOk (d : D) : Prop := d.flx = true ∧ d.py.showable = true ∧ d.py.depth ≤ 64 ∧ d.py.shown.length ≤ sizeLine
def lenD (x : D) (M : Mp) (Q : QE) : Prop := match x with
  | .str s => s.length ≤ sizeLine ∧ Q (.int s.length) M
  | x => match seqIn M x with
    | some l => Q (.int l.length) M
    | none => False
/-- data whose items may be compared -/
def bestOk (l : List D) : Prop := D.flxs l = true ∧ PySem.W.AlikeAll (D.pys l) ∧ PyData.depthAll (D.pys l) ≤ 8
/-- the least of the items of a list; the greatest -/
def minDat (x : D) (M : Mp) (Q : QE) : Prop := ∃ d r, listIn M x = some (d :: r) ∧ bestOk (d :: r) ∧ ∀ e ∈ d :: r, e.py = PySem.W.minD d.py (D.pys r) → Q e M
def maxDat (x : D) (M : Mp) (Q : QE) : Prop := ∃ d r, listIn M x = some (d :: r) ∧ bestOk (d :: r) ∧ ∀ e ∈ d :: r, e.py = PySem.W.maxD d.py (D.pys r) → Q e M
@[simp] def bltD (b : Blt) (fz : Bool) (ds : List D) (M : Mp) (Q : QE) : Prop := match b, ds with
  | .len, [x] => lenD x M Q
  | .abs, [.int i] => Q (.int (if i < 0 then -i else i)) M
  | .max, [.int i, .int j] => Q (.int (if j > i then j else i)) M
  | .min, [.int i, .int j] => Q (.int (if j < i then j else i)) M
  | .max, [x] => match (listIn M x).bind intsOf with
    | some ns => ns ≠ [] ∧ Q (.int (maxL ns)) M
    | none => maxDat x M Q
  | .min, [x] => match (listIn M x).bind intsOf with
    | some ns => ns ≠ [] ∧ Q (.int (minL ns)) M
    | none => minDat x M Q
  | .sum, [x] => match (listIn M x).bind intsOf with
    | some ns => Q (.int ns.sum) M
    | none => False
  | .all, [x] => match (listIn M x).bind boolsOf with
    | some bs => Q (.bl (bs.all id)) M
    | none => False
  | .any, [x] => match (listIn M x).bind boolsOf with
    | some bs => Q (.bl (bs.any id)) M
    | none => False
  | .repr, [x] => ShowOk x ∧ Q (.str x.py.shown) M
  | .divmod, [.int i, .int j] => DivOk j ∧ j.natAbs < 1073741824 ∧ Q (.tup [.int (i / j), .int (i % j)]) M
  | .tuple, [x] => match seqIn M x with
    | some l => Q (.tup l) M
    | none => False
  | .list, [x] => match seqIn M x with
    | some l => if fz = true then Q (.lst l) M else ∀ p, M p = none → Q (.ref p) (M.upd p (.lst l))
    | none => False
  | .int, [.int i] => Q (.int i) M
  | .int, [.bl b] => Q (.int (if b then 1 else 0)) M
  | .str, [.int i] => i.natAbs.log2 < 1920 ∧ Q (.str (toString i)) M
  | .bool, [.bl b] => Q (.bl b) M
  | .bool, [.int i] => Q (.bl (i != 0)) M
  | _, _ => False
/-- a call of a value keeps to its meaning -/
def CallD (X : Cx) (f : Value) (g : List D → Mp → QE → Prop) : Prop :=
  ∃ r : List V → Hp → VK → Prop, CallR X f r ∧ ∀ (ds : List D) (vs : List V) (M : Mp) (H : Hp) (Q : QE), AbsM (wd X) M H → Reps (wd X) M H ds vs → g ds M Q → r vs H (lft (wd X) M H Q)
section
variable {X : Cx} {fz : Bool} {W : Wd} {M : Mp} {H : Hp}
theorem reps1 {d : D} {vs : List V} (r : Reps W M H [d] vs) : ∃ v, vs = [v] ∧ Rep W M H d v := by
  obtain ⟨v, r, rfl, h1, h2⟩ := r
  exact ⟨v, by rw [show r = [] from h2], h1⟩
theorem reps2 {d e : D} {vs : List V} (r : Reps W M H [d, e] vs) : ∃ v u, vs = [v, u] ∧ Rep W M H d v ∧ Rep W M H e u := by
  obtain ⟨v, r, rfl, h1, h2⟩ := r
  obtain ⟨u, rfl, h3⟩ := reps1 h2
  exact ⟨v, u, rfl, h1, h3⟩
theorem ints_seq (A : AbsM W M H) {x : D} {v : V} {ns : List Int} (r : Rep W M H x v) (e : (listIn M x).bind intsOf = some ns) : ∃ a, v = .ref a ∧ SqL W.K H a (ns.map V.int) := by
  cases q : listIn M x with
  | none => rw [q] at e; cases e
  | some l =>
    rw [q] at e
    obtain ⟨a, xs, rfl, h, r'⟩ := listIn_rep A r q
    exact ⟨a, rfl, by rw [← intsOf_rep r' e]; exact SqL.of h⟩
theorem bools_seq (A : AbsM W M H) {x : D} {v : V} {ns : List Bool} (r : Rep W M H x v) (e : (listIn M x).bind boolsOf = some ns) : ∃ a, v = .ref a ∧ SqL W.K H a (ns.map V.bl) := by
  cases q : listIn M x with
  | none => rw [q] at e; cases e
  | some l =>
    rw [q] at e
    obtain ⟨a, xs, rfl, h, r'⟩ := listIn_rep A r q
    exact ⟨a, rfl, by rw [← boolsOf_rep r' e]; exact SqL.of h⟩
/-- data, read off the heap -/
theorem reads_key {k : Key} {v : Value} {h : Heap} (e : keyIs k v = true) : Reads h v (keyPy k) [] := by
  rcases keyIs_shape e with ⟨i, t, rfl, rfl⟩ | ⟨x, t, rfl, rfl⟩
  · exact .int i t
  · exact .str x t
theorem reads_keys {P : Program} {w : World} {h : Heap} : ∀ {es : List DictEntry} {kvs : List (Key × Value)}, Pairs (mixKind P w) es kvs → ReadsAll h (es.map (·.key)) (kvs.map fun kv => keyPy kv.1) []
  | _, _, .nil => .nil
  | _, _, .cons h1 _ t => by
    have := ReadsAll.cons (reads_key (h := h) h1) (reads_keys t)
    simpa using this
theorem pairs_vals {P : Program} {w : World} : ∀ {es : List DictEntry} {kvs : List (Key × Value)}, Pairs (mixKind P w) es kvs → es.map (·.val) = kvs.map (·.2)
  | _, _, .nil => rfl
  | _, _, .cons _ h2 t => by rw [List.map_cons, List.map_cons, h2, pairs_vals t]
theorem kv_zip : ∀ {ks : List Key} {xs : List V} {kvs : List (Key × Value)}, ks.length = xs.length → L2.KV (ks.zip xs) kvs → kvs.map (·.1) = ks ∧ Vals xs (kvs.map (·.2))
  | [], [], _, _, h => by
    have h : L2.KV [] _ := h
    cases h; exact ⟨rfl, .nil⟩
  | [], _ :: _, _, h, _ => by cases h
  | _ :: _, [], _, h, _ => by cases h
  | k :: ks, x :: xs, _, hl, h => by
    rw [List.zip_cons_cons] at h
    cases h with
    | cons r t =>
      obtain ⟨e1, e2⟩ := kv_zip (by simpa using hl) t
      exact ⟨by rw [List.map_cons, e1, ← r.1], .cons r.2 e2⟩
mutual
theorem Rep.reads {pins : List (Addr × Obj)} {σ : L2.St} {s : Shared} (I : Inv X pins σ H s) (hm : H sysModules = none) : ∀ (d : D) {v : V} {u : Value}, d.flx = true → Rep (wd X) M H d v → L2.RelV v u → ∃ as, Reads s.heap u d.py as ∧ sysModules ∉ as
  | .non, _, _, _, h, r => by rw [show _ = _ from h] at r; cases r; exact ⟨[], .none, by simp⟩
  | .bl b, _, _, _, h, r => by rw [show _ = _ from h] at r; cases r; exact ⟨[], .bool b, by simp⟩
  | .int i, _, _, _, h, r => by rw [show _ = _ from h] at r; obtain ⟨t, rfl⟩ := r; exact ⟨[], .int i t, by simp⟩
  | .str x, _, _, _, h, r => by rw [show _ = _ from h] at r; obtain ⟨t, rfl⟩ := r; exact ⟨[], .str x t, by simp⟩
  | .tup l, _, _, f, h, r => by
    obtain ⟨a, xs, rfl, s, rs⟩ := h
    cases r
    obtain ⟨its, rv, ⟨o, h1, h2, n, h3⟩, _⟩ := I.tuple s
    obtain ⟨as, q, qm⟩ := Reps.reads I hm l f rs rv
    exact ⟨as, .tuple h1 h2 h3 q, qm⟩
  | .lst l, _, _, f, h, r => by
    obtain ⟨a, xs, rfl, _, e, rs⟩ := h
    cases r
    obtain ⟨its, rv, pl, _⟩ := I.list (SqL.of e)
    obtain ⟨o, n, ho, hc, hd, hdat⟩ := pl
    obtain ⟨as, q, qm⟩ := Reps.reads I hm l f rs rv
    refine ⟨a :: as, .list ho hc hdat q, fun z => ?_⟩
    rcases List.mem_cons.mp z with z | z
    · rw [z, e] at hm; cases hm
    · exact qm z
  | .dct ks l, _, _, f, h, r => by
    obtain ⟨a, xs, rfl, _, e, hl, rs⟩ := h
    cases r
    obtain ⟨_, hsm, vs, rel, o, es, ep, ho, hx, hd, _, hp, _⟩ := dk_of I.hok e
    obtain ⟨e1, e2⟩ := kv_zip hl rel
    have f' : (decide (ks.length = l.length) && D.flxs l) = true := f
    rw [Bool.and_eq_true] at f'
    obtain ⟨as, q, qm⟩ := Reps.reads I hm l f'.2 rs e2
    have hkl : (ks.map keyPy).length = (D.pys l).length := by
      have : ∀ l : List D, (D.pys l).length = l.length := by
        intro l
        induction l with
        | nil => rfl
        | cons d r ih => show (D.pys r).length + 1 = _; rw [ih]; rfl
      rw [List.length_map, this]; exact of_decide_eq_true f'.1
    refine ⟨a :: [] ++ as, .dict ho hx.1 hd ?_ ?_, fun z => ?_⟩
    · rw [List.map_fst_zip (Nat.le_of_eq hkl)]
      have z := reads_keys (h := s.heap) hp
      rw [show (vs.map fun kv => keyPy kv.1) = ks.map keyPy by rw [← e1, List.map_map]; rfl] at z
      exact z
    · rw [List.map_snd_zip (Nat.le_of_eq hkl.symm), pairs_vals hp]
      exact q
    · rcases List.mem_cons.mp z with z | z
      · rw [← z] at hsm; simp at hsm
      · exact qm z
  | .ref _, _, _, f, _, _ => by cases f
  | .scr _, _, _, f, _, _ => by cases f
theorem Reps.reads {pins : List (Addr × Obj)} {σ : L2.St} {s : Shared} (I : Inv X pins σ H s) (hm : H sysModules = none) : ∀ (ds : List D) {vs : List V} {us : List Value}, D.flxs ds = true → Reps (wd X) M H ds vs → Vals vs us → ∃ as, ReadsAll s.heap us (D.pys ds) as ∧ sysModules ∉ as
  | [], _, _, _, h, r => by rw [show _ = _ from h] at r; cases r; exact ⟨[], .nil, by simp⟩
  | d :: ds, _, _, f, h, r => by
    obtain ⟨v, w, rfl, h1, h2⟩ := h
    have f' : (d.flx && D.flxs ds) = true := f
    rw [Bool.and_eq_true] at f'
    cases r with
    | cons r1 r2 =>
      obtain ⟨as, q1, m1⟩ := Rep.reads I hm d f'.1 h1 r1
      obtain ⟨bs, q2, m2⟩ := Reps.reads I hm ds f'.2 h2 r2
      exact ⟨as ++ bs, .cons q1 q2, fun z => (List.mem_append.mp z).elim m1 m2⟩
end
/-- the system's modules stand in the base -/
def SysB (base : Heap) : Prop := ∃ o, base.get? sysModules = some o
theorem sys_none {pins : List (Addr × Obj)} {σ : L2.St} {s : Shared} (I : Inv X pins σ H s) (k : SysB X.base) : H sysModules = none := by
  obtain ⟨o, e⟩ := k
  exact (I.bs _ _ e).2
/-- repr of data -/
theorem call_reprD (hg : X.A.guards = some []) (hu : X.A.units + 80 < cLine) (hk : SysB X.base) : CallR X (.builtin "repr") (fun xs H Q => ∃ x d M, xs = [x] ∧ Rep (wd X) M H d x ∧ ShowOk d ∧ Q (.str d.py.shown) H) := by
  intro pins s σ H xs us Q I r h
  obtain ⟨x, d, M, rfl, hd, ⟨hf, h1, h3, h4⟩, q⟩ := h
  obtain ⟨u, rfl, ru⟩ := vals1 r
  obtain ⟨as, rd, hm⟩ := Rep.reads I (sys_none I hk) d hf hd ru
  have big : ∀ a, u = .ref a → wpAny (model X.prog X.w) X.A (call (.builtin "repr") [u]) (EP X pins σ Q) X.xe s := by
    rintro a rfl
    exact repr_of_reads' rd h1 (fun _ => hm) hg (by omega) (fun _ _ z => z) (fun h' u tk hk => ⟨.str _, H, I.kept hk, ⟨_, rfl⟩, q⟩) h4
  cases d with
  | non => rw [show x = _ from hd] at ru; cases ru; exact PySem.P.repr_of_none ⟨.str _, H, I.tok _, ⟨_, rfl⟩, q⟩
  | bl b => rw [show x = _ from hd] at ru; cases ru; exact PySem.P.repr_of_bool ⟨.str _, H, I.tok _, ⟨_, rfl⟩, q⟩
  | int i =>
    rw [show x = _ from hd] at ru
    obtain ⟨t, rfl⟩ := ru
    exact PySem.P.repr_of_int (of_decide_eq_true h1) ⟨.str _, H, I.tok _, ⟨_, rfl⟩, q⟩
  | str i => rw [show x = _ from hd] at ru; obtain ⟨t, rfl⟩ := ru; exact PySem.P.repr_of_str ⟨.str _, H, I.tok _, ⟨_, rfl⟩, q⟩ h4
  | lst l => obtain ⟨a, xs, rfl, _⟩ := hd; cases ru; exact big a rfl
  | tup l => obtain ⟨a, xs, rfl, _⟩ := hd; cases ru; exact big a rfl
  | dct ks l => obtain ⟨a, xs, rfl, _⟩ := hd; cases ru; exact big a rfl
  | ref a => cases hf
  | scr a => cases hf
theorem vals_get : ∀ {ws : List V} {us : List Value} (i : Nat) {v : Value}, Vals ws us → us[i]? = some v → ∃ w, ws[i]? = some w ∧ L2.RelV w v
  | _, _, 0, _, .cons r1 _, h => by simp at h; subst h; exact ⟨_, rfl, r1⟩
  | _, _, i + 1, _, .cons _ r2, h => by
    obtain ⟨w, h1, h2⟩ := vals_get i r2 (by simpa using h)
    exact ⟨w, by simpa using h1, h2⟩
  | _, _, i, _, .nil, h => by simp at h
theorem reps_get {W : Wd} {M : Mp} {H : Hp} : ∀ {l : List D} {ws : List V} (i : Nat) {w : V}, Reps W M H l ws → D.flxs l = true → ws[i]? = some w → ∃ e ∈ l, Rep W M H e w ∧ e.flx = true
  | [], _, i, w, h, _, hw => by rw [show _ = _ from h] at hw; simp at hw
  | d :: l, _, i, w, h, f, hw => by
    obtain ⟨v, r, rfl, h1, h2⟩ := h
    have f' : (d.flx && D.flxs l) = true := f
    rw [Bool.and_eq_true] at f'
    cases i with
    | zero => simp at hw; subst hw; exact ⟨d, List.mem_cons_self, h1, f'.1⟩
    | succ i =>
      obtain ⟨e, he, r1, r2⟩ := reps_get i h2 f'.2 (by simpa using hw)
      exact ⟨e, List.mem_cons_of_mem _ he, r1, r2⟩
theorem call_minD (hc : X.calm = true) (hu : X.A.units + 80 < cLine) (hk : SysB X.base) : CallR X (.builtin "min") (fun xs H Q => ∃ a ws M d r, xs = [.ref a] ∧ SqL X.K H a ws ∧ Reps (wd X) M H (d :: r) ws ∧ bestOk (d :: r) ∧ ∀ w, ∀ e ∈ d :: r, Rep (wd X) M H e w → e.py = PySem.W.minD d.py (D.pys r) → Q w H) := by
  intro pins s σ H xs us Q I rel h
  obtain ⟨a, ws, M, d, r, rfl, hs, hr, ⟨hf, ha, hd⟩, q⟩ := h
  obtain ⟨its, rv, hl, _⟩ := I.list hs
  obtain ⟨as, rd, _⟩ := Reps.reads I (sys_none I hk) (d :: r) hf hr rv
  rw [Vals.ref1 rel]
  have e0 : D.pys (d :: r) = d.py :: D.pys r := by simp only [D.pys]
  rw [e0] at rd ha hd
  refine PySem.W.min_list_data (vs := its.toArray) (I.ok.hd hc) hl.isList (by simpa using rd) ha (by omega) fun i v h' tk bs hv hm hk' => ?_
  obtain ⟨w, hw, rw'⟩ := vals_get i rv (by simpa using hv)
  obtain ⟨e, he, re, fe⟩ := reps_get i hr hf hw
  obtain ⟨as2, r2, _⟩ := Rep.reads I (sys_none I hk) e fe re rw'
  exact ⟨w, H, I.kept hk', rw', q w e he re (PyProof.Rows.reads_det (fun b o e _ => hk' b o e) r2 hm).1.symm⟩
theorem call_maxD (hc : X.calm = true) (hu : X.A.units + 80 < cLine) (hk : SysB X.base) : CallR X (.builtin "max") (fun xs H Q => ∃ a ws M d r, xs = [.ref a] ∧ SqL X.K H a ws ∧ Reps (wd X) M H (d :: r) ws ∧ bestOk (d :: r) ∧ ∀ w, ∀ e ∈ d :: r, Rep (wd X) M H e w → e.py = PySem.W.maxD d.py (D.pys r) → Q w H) := by
  intro pins s σ H xs us Q I rel h
  obtain ⟨a, ws, M, d, r, rfl, hs, hr, ⟨hf, ha, hd⟩, q⟩ := h
  obtain ⟨its, rv, hl, _⟩ := I.list hs
  obtain ⟨as, rd, _⟩ := Reps.reads I (sys_none I hk) (d :: r) hf hr rv
  rw [Vals.ref1 rel]
  have e0 : D.pys (d :: r) = d.py :: D.pys r := by simp only [D.pys]
  rw [e0] at rd ha hd
  refine PySem.W.max_list_data (vs := its.toArray) (I.ok.hd hc) hl.isList (by simpa using rd) ha (by omega) fun i v h' tk bs hv hm hk' => ?_
  obtain ⟨w, hw, rw'⟩ := vals_get i rv (by simpa using hv)
  obtain ⟨e, he, re, fe⟩ := reps_get i hr hf hw
  obtain ⟨as2, r2, _⟩ := Rep.reads I (sys_none I hk) e fe re rw'
  exact ⟨w, H, I.kept hk', rw', q w e he re (PyProof.Rows.reads_det (fun b o e _ => hk' b o e) r2 hm).1.symm⟩
theorem CallD.bad {f : Value} {g : List D → Mp → QE → Prop} (h : ∀ ds M Q, ¬ g ds M Q) : CallD X f g := ⟨fun _ _ _ => False, fun _ _ _ _ _ _ _ _ _ h => h.elim, fun ds _ M _ Q _ _ z => (h ds M Q z).elim⟩
theorem lenV_rep (A : AbsM (wd X) M H) {d : D} {x : V} {Q : QE} (r : Rep (wd X) M H d x) (z : lenD d M Q) : ∃ n, LenV X.K x H n ∧ Q (.int n) M := by
  unfold lenD at z; split at z
  · rw [show x = _ from r]
    exact ⟨_, ⟨z.1, rfl⟩, z.2⟩
  · split at z
    · rename_i l e
      obtain ⟨a, xs, rfl, s, r'⟩ := seqIn_rep A r e
      refine ⟨l.length, ?_, z⟩
      rcases s with s | s
      · exact .inl ⟨xs, s, r'.length⟩
      · exact .inr ⟨xs, s, r'.length⟩
    · exact z.elim
theorem bltD_ok (hc : X.calm = true) (hg : X.A.guards = some []) (hu : X.A.units + 80 < cLine) (hk : SysB X.base) (b : Blt) : CallD X b.val (bltD b fz) := by
  cases b with
  | len =>
    refine ⟨_, call_len, fun ds vs M H Q A r z => ?_⟩
    unfold bltD at z; split at z <;> rename_i e1 <;> first | (cases e1; done) | skip
    all_goals first | exact z.elim | skip
    obtain ⟨v, rfl, r1⟩ := reps1 r
    obtain ⟨n, h1, h2⟩ := lenV_rep A r1 z
    exact ⟨v, n, rfl, h1, lft.int A h2⟩
  | abs =>
    refine ⟨_, call_abs, fun ds vs M H Q A r z => ?_⟩
    unfold bltD at z; split at z <;> rename_i e1 <;> first | (cases e1; done) | skip
    all_goals first | exact z.elim | skip
    obtain ⟨v, rfl, r1⟩ := reps1 r
    exact ⟨_, by rw [show v = _ from r1], lft.int A z⟩
  | max =>
    refine ⟨_, CallR.or (call_max2 hc) (CallR.or (cr_max hc) (call_maxD hc hu hk)), fun ds vs M H Q A r z => ?_⟩
    unfold bltD at z; split at z <;> rename_i e1 <;> first | (cases e1; done) | skip
    all_goals first | exact z.elim | skip
    · obtain ⟨v, u, rfl, r1, r2⟩ := reps2 r
      exact .inl ⟨_, _, by rw [show v = _ from r1, show u = _ from r2], lft.int A z⟩
    · obtain ⟨v, rfl, r1⟩ := reps1 r
      split at z
      · rename_i ns e
        obtain ⟨a, rfl, hs⟩ := ints_seq A r1 e
        refine .inr (.inl ⟨a, ns, rfl, hs, List.length_pos_iff.mpr z.1, fun m hm hy => ?_⟩)
        have := maxL_spec z.1
        have e : m = maxL ns := Int.le_antisymm (this.2 m hm) (hy _ this.1)
        rw [e]; exact lft.int A z.2
      · obtain ⟨d0, r0, el, hb, z⟩ := z
        obtain ⟨a, ws, rfl, h, r'⟩ := listIn_rep A r1 el
        exact .inr (.inr ⟨a, ws, M, d0, r0, rfl, SqL.of h, r', hb, fun w e he re ee => lft.pure A re (z e he ee)⟩)
  | min =>
    refine ⟨_, CallR.or (call_min2 hc) (CallR.or (cr_min hc) (call_minD hc hu hk)), fun ds vs M H Q A r z => ?_⟩
    unfold bltD at z; split at z <;> rename_i e1 <;> first | (cases e1; done) | skip
    all_goals first | exact z.elim | skip
    · obtain ⟨v, u, rfl, r1, r2⟩ := reps2 r
      exact .inl ⟨_, _, by rw [show v = _ from r1, show u = _ from r2], lft.int A z⟩
    · obtain ⟨v, rfl, r1⟩ := reps1 r
      split at z
      · rename_i ns e
        obtain ⟨a, rfl, hs⟩ := ints_seq A r1 e
        refine .inr (.inl ⟨a, ns, rfl, hs, List.length_pos_iff.mpr z.1, fun m hm hy => ?_⟩)
        have := minL_spec z.1
        have e : m = minL ns := Int.le_antisymm (hy _ this.1) (this.2 m hm)
        rw [e]; exact lft.int A z.2
      · obtain ⟨d0, r0, el, hb, z⟩ := z
        obtain ⟨a, ws, rfl, h, r'⟩ := listIn_rep A r1 el
        exact .inr (.inr ⟨a, ws, M, d0, r0, rfl, SqL.of h, r', hb, fun w e he re ee => lft.pure A re (z e he ee)⟩)
  | sum =>
    refine ⟨_, cr_sum hc, fun ds vs M H Q A r z => ?_⟩
    unfold bltD at z; split at z <;> rename_i e1 <;> first | (cases e1; done) | skip
    all_goals first | exact z.elim | skip
    obtain ⟨v, rfl, r1⟩ := reps1 r
    split at z
    · rename_i ns e
      obtain ⟨a, rfl, hs⟩ := ints_seq A r1 e
      exact ⟨a, ns, rfl, hs, lft.int A z⟩
    · exact z.elim
  | all =>
    refine ⟨_, cr_all hc, fun ds vs M H Q A r z => ?_⟩
    unfold bltD at z; split at z <;> rename_i e1 <;> first | (cases e1; done) | skip
    all_goals first | exact z.elim | skip
    obtain ⟨v, rfl, r1⟩ := reps1 r
    split at z
    · rename_i ns e
      obtain ⟨a, rfl, hs⟩ := bools_seq A r1 e
      exact ⟨a, ns, rfl, hs, lft.bl A z⟩
    · exact z.elim
  | any =>
    refine ⟨_, cr_any hc, fun ds vs M H Q A r z => ?_⟩
    unfold bltD at z; split at z <;> rename_i e1 <;> first | (cases e1; done) | skip
    all_goals first | exact z.elim | skip
    obtain ⟨v, rfl, r1⟩ := reps1 r
    split at z
    · rename_i ns e
      obtain ⟨a, rfl, hs⟩ := bools_seq A r1 e
      exact ⟨a, ns, rfl, hs, lft.bl A z⟩
    · exact z.elim
  | repr =>
    refine ⟨_, call_reprD hg hu hk, fun ds vs M H Q A r z => ?_⟩
    unfold bltD at z; split at z <;> rename_i e1 <;> first | (cases e1; done) | skip
    all_goals first | exact z.elim | skip
    obtain ⟨v, rfl, r1⟩ := reps1 r
    exact ⟨v, _, M, rfl, r1, z.1, lft.str A z.2⟩
  | divmod =>
    refine ⟨_, call_divmod, fun ds vs M H Q A r z => ?_⟩
    unfold bltD at z; split at z <;> rename_i e1 <;> first | (cases e1; done) | skip
    all_goals first | exact z.elim | skip
    rename_i i j
    obtain ⟨v, u, rfl, r1, r2⟩ := reps2 r
    obtain ⟨⟨h0, _⟩, h1, q⟩ := z
    exact ⟨i, j, by rw [show v = _ from r1, show u = _ from r2], ⟨h0, by omega⟩, fun p hp => lft.newT A (ds := [.int (i / j), .int (i % j)]) ⟨_, _, rfl, rfl, _, _, rfl, rfl, rfl⟩ hp q⟩
  | tuple =>
    refine ⟨_, call_tuple_of, fun ds vs M H Q A r z => ?_⟩
    unfold bltD at z; split at z <;> rename_i e1 <;> first | (cases e1; done) | skip
    all_goals first | exact z.elim | skip
    obtain ⟨v, rfl, r1⟩ := reps1 r
    split at z
    · rename_i l e
      obtain ⟨a, xs, rfl, s, r'⟩ := seqIn_rep A r1 e
      refine ⟨a, xs, rfl, ?_⟩
      rcases s with s | s
      · exact .inl ⟨s, fun p hp => lft.newT A r' hp z⟩
      · exact .inr ⟨s, lft.pure A (d := .tup l) ⟨a, xs, rfl, s, r'⟩ z⟩
    · exact z.elim
  | list =>
    refine ⟨_, call_list_of, fun ds vs M H Q A r z => ?_⟩
    unfold bltD at z; split at z <;> rename_i e1 <;> first | (cases e1; done) | skip
    all_goals first | exact z.elim | skip
    obtain ⟨v, rfl, r1⟩ := reps1 r
    split at z
    · rename_i l e
      obtain ⟨a, xs, rfl, s, r'⟩ := seqIn_rep A r1 e
      refine ⟨a, xs, rfl, s, fun p hp => ?_⟩
      cases fz with
      | true => exact lft.newL A r' hp z
      | false => exact lft.newM A r' hp (z p)
    · exact z.elim
  | int =>
    refine ⟨_, call_int1, fun ds vs M H Q A r z => ?_⟩
    unfold bltD at z; split at z <;> rename_i e1 <;> first | (cases e1; done) | skip
    all_goals first | exact z.elim | skip
    · obtain ⟨v, rfl, r1⟩ := reps1 r
      exact .inl ⟨_, by rw [show v = _ from r1], lft.int A z⟩
    · obtain ⟨v, rfl, r1⟩ := reps1 r
      exact .inr ⟨_, by rw [show v = _ from r1], lft.int A z⟩
  | str =>
    refine ⟨_, call_str_int, fun ds vs M H Q A r z => ?_⟩
    unfold bltD at z; split at z <;> rename_i e1 <;> first | (cases e1; done) | skip
    all_goals first | exact z.elim | skip
    obtain ⟨v, rfl, r1⟩ := reps1 r
    exact ⟨_, by rw [show v = _ from r1], z.1, lft.str A z.2⟩
  | bool =>
    refine ⟨_, call_bool1, fun ds vs M H Q A r z => ?_⟩
    unfold bltD at z; split at z <;> rename_i e1 <;> first | (cases e1; done) | skip
    all_goals first | exact z.elim | skip
    · obtain ⟨v, rfl, r1⟩ := reps1 r
      exact .inr ⟨_, by rw [show v = _ from r1], lft.bl A z⟩
    · obtain ⟨v, rfl, r1⟩ := reps1 r
      exact .inl ⟨_, by rw [show v = _ from r1], lft.bl A z⟩
end
end Ow

namespace Ow
open PySem PySem.Spec PyProof.Rows L2
/-! ### arguments -/
def notStar (e : Expr) : Bool := match e with | .Starred .. => false | _ => true
theorem star_cons {e : Expr} {es : List Expr} {env : Env} (h : notStar e = true) : starEach (e :: es) env = (false, eval e env) :: starEach es env := by
  cases e <;> first | rfl | cases h
theorem star_none {pos : Pos} {env : Env} : ∀ {es : List Expr}, es.all notStar = true → (backTo pos (starEach es env)).any (·.1) = false
  | [], _ => rfl
  | e :: es, h => by
    rw [List.all_cons, Bool.and_eq_true] at h
    rw [star_cons h.1]
    show ((false : Bool) || (backTo pos (starEach es env)).any (·.1)) = false
    rw [star_none h.2]; rfl
abbrev QA := List D → Mp → Prop
abbrev DTA := DSt → Mp → QA → Prop
def lftA (W : Wd) (M : Mp) (H : Hp) (Q : QA) (vs : List V) (H' : Hp) : Prop := ∃ ds M', Ext W M H M' H' ∧ Reps W M' H' ds vs ∧ AbsM W M' H' ∧ Q ds M'
structure DA (X : Cx) (es : List Expr) (t : DTA) : Prop where
  to : ∀ (σ : L2.St) (H : Hp) (ρ : DSt) (M : Mp) (Q : QA), AbsS (wd X) M H ρ σ → AbsM (wd X) M H → t ρ M Q →
    ∀ (pos : Pos) (pins : List (Addr × Obj)) (s : Shared), Inv X pins σ H s → wpAny (model X.prog X.w) X.A (spliced (backTo pos (starEach es X.env))) (AP X pins σ (lftA (wd X) M H Q)) X.xe s
/-- the arguments, as one transformer -/
def cA (X : Cx) (es : List Expr) : TA := fun σ H Q => ∀ (pos : Pos) (pins : List (Addr × Obj)) (s : Shared), Inv X pins σ H s → wpAny (model X.prog X.w) X.A (spliced (backTo pos (starEach es X.env))) (AP X pins σ Q) X.xe s
theorem pa_cA {X : Cx} {es : List Expr} : PA X es (cA X es) := ⟨fun pos pins s σ H Q I h => h pos pins s I⟩
section
variable {X : Cx} {e : Expr} {es : List Expr} {te : DTE} {t : DTA} {σ : L2.St} {H : Hp} {ρ : DSt} {M : Mp} {Q P : QA}
theorem cA_mono {Q Q' : List V → Hp → Prop} (h : cA X es σ H Q) (m : ∀ v H', Q v H' → Q' v H') : cA X es σ H Q' := fun pos pins s I =>
  thn (h pos pins s I) fun _ _ ⟨v, H', I', r, q⟩ => ⟨v, H', I', r, m v H' q⟩
theorem DA.nil : DA X [] (fun _ M Q => Q [] M) := ⟨fun σ H ρ M Q S A z pos pins s I =>
  pa_nil.run pos pins s σ H _ I ⟨[], M, Ext.refl, rfl, A, z⟩⟩
theorem DA.cons (h : DE X e te) (k : DA X es t) (hs : notStar e = true) : DA X (e :: es) (fun ρ M Q => te ρ M fun d M1 => t ρ M1 fun ds M2 => Q (d :: ds) M2) := by
  refine ⟨fun σ H ρ M Q S A z pos pins s I => ?_⟩
  refine (pa_cons pe_cT pa_cA (star_cons hs)).run pos pins s σ H _ I ?_
  refine h.bind S A z fun v d M1 H1 x r A1 S1 q => ?_
  refine cA_mono (Q := lftA (wd X) M1 H1 _) (fun pos pins s I => k.to σ H1 ρ M1 _ S1 A1 q pos pins s I) fun vs H2 ⟨ds, M2, x2, r2, A2, q2⟩ => ?_
  exact ⟨d :: ds, M2, x.trans x2, ⟨_, _, rfl, r.ext x2, r2⟩, A2, q2⟩
theorem DA.bind (h : DA X es t) (S : AbsS (wd X) M H ρ σ) (A : AbsM (wd X) M H) (q : t ρ M P) {R : List V → Hp → Prop}
    (k : ∀ vs ds M1 H1, Ext (wd X) M H M1 H1 → Reps (wd X) M1 H1 ds vs → AbsM (wd X) M1 H1 → AbsS (wd X) M1 H1 ρ σ → P ds M1 → R vs H1) : cA X es σ H R :=
  cA_mono (fun pos pins s I => h.to σ H ρ M P S A q pos pins s I) fun vs H' ⟨ds, M', x, r, A', p⟩ => k vs ds M' H' x r A' (S.ext x) p
end
/-! ### what is walked -/
def piT (X : Cx) (tg iter : Expr) : TI := fun σ H R => ∀ (pins : List (Addr × Obj)) (s : Shared), Inv X pins σ H s → wpAny (model X.prog X.w) X.A (eval iter X.env) (fun v s1 => wpAny (model X.prog X.w) X.A (pyIter v) (PIE X pins σ tg R) X.xe s1) X.xe s
theorem pi_piT {X : Cx} {tg iter : Expr} : PI X tg iter (piT X tg iter) := ⟨fun pins s σ H R I h => h pins s I⟩
theorem piT_of {X : Cx} {tg iter : Expr} {wi : TI} (h : PI X tg iter wi) {σ : L2.St} {H : Hp} {R : It → Hp → Prop} (q : wi σ H R) : piT X tg iter σ H R := fun pins s I => h.run pins s σ H R I q
/-- J yields the items l, wherever ok stands -/
def GoodIt (W : Wd) (J : It) (l : List D) (ok : Mp → Prop) (M1 : Mp) (H1 : Hp) : Prop := ∀ M H, Ext W M1 H1 M H → AbsM W M H → ok M → ∀ i : Nat,
  (∀ d, l[i]? = some d → J.go i H ∧ ∀ x H', J.yld i H x H' → Ext W M H M H' ∧ AbsM W M H' ∧ Rep W M H' d x) ∧ (i = l.length → J.stop i H)
abbrev DTI := DSt → Mp → (List D → (Mp → Prop) → Mp → Prop) → Prop
structure DI (X : Cx) (tg iter : Expr) (t : DTI) : Prop where
  to : ∀ (σ : L2.St) (H : Hp) (ρ : DSt) (M : Mp) (Q : List D → (Mp → Prop) → Mp → Prop), AbsS (wd X) M H ρ σ → AbsM (wd X) M H → t ρ M Q →
    piT X tg iter σ H (fun J H1 => ∃ l ok M1, Ext (wd X) M H M1 H1 ∧ AbsM (wd X) M1 H1 ∧ GoodIt (wd X) J l ok M1 H1 ∧ Q l ok M1)
/-- the lists that are walked stand as they stood -/
def still (M0 : Mp) : List D → Mp → Prop
  | [], _ => True
  | .ref a :: r, M => M a = M0 a ∧ still M0 r M
  | .non :: r, M => still M0 r M
  | .bl _ :: r, M => still M0 r M
  | .int _ :: r, M => still M0 r M
  | .str _ :: r, M => still M0 r M
  | .tup _ :: r, M => still M0 r M
  | .lst _ :: r, M => still M0 r M
  | .scr _ :: r, M => still M0 r M
  | .dct _ _ :: r, M => still M0 r M
def enumD (l : List D) : List D := l.zipIdx.map fun p => D.tup [.int (p.2 : Int), p.1]
def rngOk (i : Int) : Prop := -(2 ^ 62) ≤ i ∧ i < 2 ^ 62
inductive IK where
  | seq | rng1 | rng2 | zip2 | zip3 | enum
def itD (k : IK) (ds : List D) (M1 : Mp) (Q : List D → (Mp → Prop) → Mp → Prop) : Prop := match k, ds with
  | .seq, [d] => (match seqIn M1 d with
    | some l => Q l (still M1 [d]) M1
    | none => False)
  | .rng1, [.int j] => rngOk j ∧ Q ((List.range j.toNat).map fun (i : Nat) => D.int (0 + (i : Int))) (fun _ => True) M1
  | .rng2, [.int i, .int j] => rngOk i ∧ rngOk j ∧ Q ((List.range (j - i).toNat).map fun (k : Nat) => D.int (i + (k : Int))) (fun _ => True) M1
  | .zip2, [d1, d2] => (match seqIn M1 d1, seqIn M1 d2 with
    | some l1, some l2 => Q ((l1.zip l2).map fun p => D.tup [p.1, p.2]) (still M1 [d1, d2]) M1
    | _, _ => False)
  | .zip3, [d1, d2, d3] => (match seqIn M1 d1, seqIn M1 d2, seqIn M1 d3 with
    | some l1, some l2, some l3 => Q ((l1.zip (l2.zip l3)).map fun p => D.tup [p.1, p.2.1, p.2.2]) (still M1 [d1, d2, d3]) M1
    | _, _, _ => False)
  | .enum, [d] => (match seqIn M1 d with
    | some l => Q (enumD l) (still M1 [d]) M1
    | none => False)
  | _, _ => False

theorem itD_seq {ds : List D} {M1 : Mp} {Q : List D → (Mp → Prop) → Mp → Prop} (z : itD .seq ds M1 Q) : ∃ d l, ds = [d] ∧ seqIn M1 d = some l ∧ Q l (still M1 [d]) M1 := by
  unfold itD at z; split at z <;> rename_i e1 <;> first | (cases e1; done) | skip
  all_goals first | exact z.elim | skip
  rename_i d _
  split at z
  · rename_i l e; exact ⟨_, l, rfl, e, z⟩
  · exact z.elim
theorem itD_rng1 {ds : List D} {M1 : Mp} {Q : List D → (Mp → Prop) → Mp → Prop} (z : itD .rng1 ds M1 Q) : ∃ j, ds = [.int j] ∧ rngOk j ∧ Q ((List.range j.toNat).map fun (i : Nat) => D.int (0 + (i : Int))) (fun _ => True) M1 := by
  unfold itD at z; split at z <;> rename_i e1 <;> first | (cases e1; done) | skip
  all_goals first | exact z.elim | skip
  exact ⟨_, rfl, z⟩
theorem itD_rng2 {ds : List D} {M1 : Mp} {Q : List D → (Mp → Prop) → Mp → Prop} (z : itD .rng2 ds M1 Q) : ∃ i j, ds = [.int i, .int j] ∧ rngOk i ∧ rngOk j ∧ Q ((List.range (j - i).toNat).map fun (k : Nat) => D.int (i + (k : Int))) (fun _ => True) M1 := by
  unfold itD at z; split at z <;> rename_i e1 <;> first | (cases e1; done) | skip
  all_goals first | exact z.elim | skip
  exact ⟨_, _, rfl, z⟩
theorem itD_zip2 {ds : List D} {M1 : Mp} {Q : List D → (Mp → Prop) → Mp → Prop} (z : itD .zip2 ds M1 Q) : ∃ d1 d2 l1 l2, ds = [d1, d2] ∧ seqIn M1 d1 = some l1 ∧ seqIn M1 d2 = some l2 ∧ Q ((l1.zip l2).map fun p => D.tup [p.1, p.2]) (still M1 [d1, d2]) M1 := by
  unfold itD at z; split at z <;> rename_i e1 <;> first | (cases e1; done) | skip
  all_goals first | exact z.elim | skip
  split at z
  · rename_i l1 l2 g1 g2; exact ⟨_, _, l1, l2, rfl, g1, g2, z⟩
  · exact z.elim
theorem itD_zip3 {ds : List D} {M1 : Mp} {Q : List D → (Mp → Prop) → Mp → Prop} (z : itD .zip3 ds M1 Q) : ∃ d1 d2 d3 l1 l2 l3, ds = [d1, d2, d3] ∧ seqIn M1 d1 = some l1 ∧ seqIn M1 d2 = some l2 ∧ seqIn M1 d3 = some l3 ∧ Q ((l1.zip (l2.zip l3)).map fun p => D.tup [p.1, p.2.1, p.2.2]) (still M1 [d1, d2, d3]) M1 := by
  unfold itD at z; split at z <;> rename_i e1 <;> first | (cases e1; done) | skip
  all_goals first | exact z.elim | skip
  split at z
  · rename_i l1 l2 l3 g1 g2 g3; exact ⟨_, _, _, l1, l2, l3, rfl, g1, g2, g3, z⟩
  · exact z.elim
theorem itD_enum {ds : List D} {M1 : Mp} {Q : List D → (Mp → Prop) → Mp → Prop} (z : itD .enum ds M1 Q) : ∃ d l, ds = [d] ∧ seqIn M1 d = some l ∧ Q (enumD l) (still M1 [d]) M1 := by
  unfold itD at z; split at z <;> rename_i e1 <;> first | (cases e1; done) | skip
  all_goals first | exact z.elim | skip
  split at z
  · rename_i l e; exact ⟨_, l, rfl, e, z⟩
  · exact z.elim
section
variable {X : Cx} {W : Wd} {M M1 : Mp} {H H1 : Hp}
theorem seqIn_still {d : D} {r : List D} (h : still M1 (d :: r) M) : seqIn M d = seqIn M1 d := by
  cases d with
  | ref a =>
    have e : M a = M1 a := h.1
    show listIn M (.ref a) = listIn M1 (.ref a)
    unfold listIn; simp only [e]
  | _ => rfl
theorem still_tail {d : D} {r : List D} (h : still M1 (d :: r) M) : still M1 r M := by
  cases d <;> first | exact h.2 | exact h
theorem stays {d : D} {v : V} {l : List D} (r : Rep W M1 H1 d v) (e : seqIn M1 d = some l) (x : Ext W M1 H1 M H) (A : AbsM W M H) (s : seqIn M d = seqIn M1 d) :
    ∃ a xs, v = .ref a ∧ (SqL W.K H a xs ∨ SqT W.K H a xs) ∧ Reps W M H l xs := seqIn_rep A (r.ext x) (s.trans e)
theorem good_list {a : Addr} {d : D} {l : List D} (r : Rep W M1 H1 d (.ref a)) (e : seqIn M1 d = some l) (uniq : ∀ M H, Ext W M1 H1 M H → AbsM W M H → seqIn M d = seqIn M1 d → ∃ xs, SqL W.K H a xs ∧ Reps W M H l xs) :
    GoodIt W (Itl W.K a) l (still M1 [d]) M1 H1 := by
  intro M H x A ok i
  have s := seqIn_still ok
  obtain ⟨xs, hs, rs⟩ := uniq M H x A s
  refine ⟨fun d' hd => ?_, fun hi => ⟨xs, hs, by rw [← rs.length, hi]; exact Nat.le_refl _⟩⟩
  obtain ⟨v, h1, h2⟩ := rs.get hd
  refine ⟨⟨xs, v, hs, h1⟩, fun y H' hy => ?_⟩
  obtain ⟨rfl, hy⟩ := hy
  have := hy xs hs
  rw [h1] at this; cases this
  exact ⟨Ext.refl, A, h2⟩
theorem good_tup {a : Addr} {l : List D} (r : Rep W M1 H1 (.tup l) (.ref a)) : GoodIt W (Itt W.K a) l (still M1 [.tup l]) M1 H1 := by
  intro M H x A ok i
  obtain ⟨b, xs, e, hs, rs⟩ := r.ext x
  cases e
  refine ⟨fun d' hd => ?_, fun hi => ⟨xs, hs, by rw [← rs.length, hi]; exact Nat.le_refl _⟩⟩
  obtain ⟨v, h1, h2⟩ := rs.get hd
  refine ⟨⟨xs, v, hs, h1⟩, fun y H' hy => ?_⟩
  obtain ⟨rfl, hy⟩ := hy
  have := hy xs hs
  rw [h1] at this; cases this
  exact ⟨Ext.refl, A, h2⟩
theorem good_rng (lo : Int) (n : Nat) : GoodIt W (Itr lo n) ((List.range n).map fun (i : Nat) => D.int (lo + (i : Int))) (fun _ => True) M1 H1 := by
  intro M H x A ok i
  refine ⟨fun d hd => ?_, fun hi => ?_⟩
  · rw [List.getElem?_map] at hd
    by_cases h : i < n
    · rw [List.getElem?_range h] at hd
      cases hd
      exact ⟨h, fun y H' ⟨e1, e2⟩ => ⟨e1 ▸ Ext.refl, e1 ▸ A, e2⟩⟩
    · rw [List.getElem?_eq_none (by rw [List.length_range]; omega)] at hd; cases hd
  · rw [List.length_map, List.length_range] at hi; exact Nat.le_of_eq hi.symm
/-- a list at an address, by its data -/
def isTup : D → Bool | .tup _ => true | _ => false
theorem list_uniq {d : D} {a : Addr} {l : List D} (ht : isTup d = false) (r : Rep W M1 H1 d (.ref a)) (e : seqIn M1 d = some l) :
    ∀ M H, Ext W M1 H1 M H → AbsM W M H → seqIn M d = seqIn M1 d → ∃ xs, SqL W.K H a xs ∧ Reps W M H l xs := by
  intro M H x A s
  have r' := r.ext x
  cases d with
  | tup l' => cases ht
  | scr ns =>
    cases e
    obtain ⟨b, eb, s⟩ := r'
    cases eb
    exact ⟨_, s.seq, reps_ints ns⟩
  | lst l' =>
    obtain ⟨b, xs, eb, h, q⟩ := listIn_rep A r' (s.trans e)
    cases eb
    exact ⟨xs, SqL.of h, q⟩
  | ref b =>
    obtain ⟨b, xs, eb, h, q⟩ := listIn_rep A r' (s.trans e)
    cases eb
    exact ⟨xs, SqL.of h, q⟩
  | _ => cases e
theorem iter_list {pins : List (Addr × Obj)} {σ : L2.St} {s : Shared} {tg : Expr} {R : It → Hp → Prop} {a : Addr} {xs : List V} (I : Inv X pins σ H s) (hs : SqL X.K H a xs) (q : R (Itl X.K a) H) :
    wpAny (model X.prog X.w) X.A (pyIter (.ref a)) (PIE X pins σ tg R) X.xe s := by
  obtain ⟨its, _, pl, _⟩ := I.list hs
  refine wpAny_pyIter_list pl.isList ⟨s.heap.objs.size, [s.heap.objs.size], _, _, H, rfl, I.kept (t' := s.toks) (fun b o z => Heap.get?_push_of_some _ z), turn_list a _, ⟨_, Heap.get?_push_size _ rfl, rfl, rfl⟩, fun b hb => ?_, q⟩
  obtain rfl : b = s.heap.objs.size := List.mem_singleton.mp hb
  exact I.fpOk (Nat.le_refl _) (I.hok.fresh (Nat.le_refl _))
theorem iter_tup {pins : List (Addr × Obj)} {σ : L2.St} {s : Shared} {tg : Expr} {R : It → Hp → Prop} {a : Addr} {xs : List V} (I : Inv X pins σ H s) (hs : SqT X.K H a xs) (q : R (Itt X.K a) H) :
    wpAny (model X.prog X.w) X.A (pyIter (.ref a)) (PIE X pins σ tg R) X.xe s := by
  obtain ⟨its, _, pl, _⟩ := I.tuple hs
  refine wpAny_pyIter_tuple (show s.heap.IsTuple a its.toArray from pl) ⟨s.heap.objs.size, [s.heap.objs.size], _, _, H, rfl, I.kept (t' := s.toks) (fun b o z => Heap.get?_push_of_some _ z), turn_tuple a _, ⟨_, Heap.get?_push_size _ rfl, rfl, rfl⟩, fun b hb => ?_, q⟩
  obtain rfl : b = s.heap.objs.size := List.mem_singleton.mp hb
  exact I.fpOk (Nat.le_refl _) (I.hok.fresh (Nat.le_refl _))
/-- over a sequence -/
theorem DI.seq {tg e : Expr} {t : DTA} (h : DA X [e] t) (hs : notStar e = true) (he : ∃ te : DTE, DE X e te ∧ ∀ ρ M Q, t ρ M Q → te ρ M fun d M1 => Q [d] M1) : DI X tg e (fun ρ M Q => t ρ M fun ds M1 => itD .seq ds M1 Q) := by
  obtain ⟨te, he, ht⟩ := he
  refine ⟨fun σ H ρ M Q S A z pins s I => ?_⟩
  refine thn (he.to σ H ρ M _ S A (ht _ _ _ z) pins s I) fun u s1 ⟨v, H1, I1, rv, d, M1, x, r, A1, q⟩ => ?_
  obtain ⟨d', l, ed, e, q⟩ := itD_seq q
  cases ed
  cases hd : isTup d with
  | true =>
    cases d with
    | tup l' =>
      cases e
      obtain ⟨a, xs, rfl, hs, rs⟩ := id r
      cases rv
      exact iter_tup I1 hs ⟨_, _, M1, x, A1, good_tup r, q⟩
    | _ => cases hd
  | false =>
    obtain ⟨a, xs, rfl, _⟩ := seqIn_rep A1 r e
    cases rv
    have g := good_list r e (list_uniq hd r e)
    obtain ⟨xs, hs, _⟩ := list_uniq hd r e M1 H1 Ext.refl A1 rfl
    exact iter_list I1 hs ⟨_, _, M1, x, A1, g, q⟩
theorem DI.rng1 {tg a : Expr} {t : DTA} {p pos : Pos} (hg : Gl X "range") (hm : X.mg "range" = none) (h : DA X [a] t) (hs : notStar a = true) :
    DI X tg (.Call (.Name "range" p) [a] [] pos) (fun ρ M Q => t ρ M fun ds M1 => itD .rng1 ds M1 Q) := by
  refine ⟨fun σ H ρ M Q S A z => ?_⟩
  refine piT_of (pi_range1 hg hm pa_cA (star_cons hs)) ?_
  refine h.bind S A z fun vs ds M1 H1 x r A1 S1 q => ?_
  obtain ⟨j, rfl, rk, q⟩ := itD_rng1 q
  obtain ⟨v, rfl, r1⟩ := reps1 r
  exact ⟨j, by rw [show v = _ from r1], rk.1, rk.2, _, _, M1, x, A1, good_rng 0 _, q⟩
theorem DI.rng2 {tg a b : Expr} {t : DTA} {p pos : Pos} (hg : Gl X "range") (hm : X.mg "range" = none) (h : DA X [a, b] t) (hs : notStar a = true) (hs2 : notStar b = true) :
    DI X tg (.Call (.Name "range" p) [a, b] [] pos) (fun ρ M Q => t ρ M fun ds M1 => itD .rng2 ds M1 Q) := by
  refine ⟨fun σ H ρ M Q S A z => ?_⟩
  refine piT_of (pi_range2 hg hm pa_cA ((star_cons hs).trans (by rw [star_cons hs2]; rfl)) (star_cons hs2)) ?_
  refine h.bind S A z fun vs ds M1 H1 x r A1 S1 q => ?_
  obtain ⟨i, j, rfl, r1, r2, q⟩ := itD_rng2 q
  obtain ⟨v, u, rfl, w1, w2⟩ := reps2 r
  exact ⟨i, j, by rw [show v = _ from w1, show u = _ from w2], ⟨r1.1, r1.2, r2.1, r2.2⟩, _, _, M1, x, A1, good_rng i _, q⟩
end
end Ow

namespace Ow
open PySem PySem.Spec PyProof.Rows L2
/-! ### zip and enumerate over lists and tuples in any mix -/
def SqK (k : Bool) (K : PySem.W.Frag) (H : Hp) (a : Addr) (xs : List V) : Prop := match k with | true => SqT K H a xs | false => SqL K H a xs
def IterK (k : Bool) (h : Heap) (it a : Addr) (i : Nat) : Prop := match k with | true => h.IsTupleIter it a i | false => h.IsListIter it a i
def iterO (k : Bool) (a : Addr) : Obj := match k with
  | true => { cls := .type "tuple_iterator", data := .fields #[.ref a, .int 0 0] }
  | false => { cls := .type "list_iterator", data := .fields #[.ref a, .int 0 0] }
/-! ### enumerate(v) -/
theorem enum_new1 {v : Value} {o : Obj} {P : Heap → Prop} (B : Begins v o P) :
    Meets (Builtin.«enumerate.__new__» ⟨[.type "enumerate", v], []⟩) (fun _ R s => P s.heap ∧
      R (.ok (.ret (.ref (s.heap.push o).objs.size))) { s with heap := (s.heap.push o).push { cls := .type "enumerate", data := .fields #[.none, .bool false, .ref s.heap.objs.size, rawInt 0, .none, .none] } }) :=
  .of_wp fun prog w A R s hR => by
    obtain ⟨hp, gs, dr, tk, os⟩ := s
    obtain ⟨hP, hR⟩ := hR
    have sub1 := sub_enumerate
    have step : ∀ {A1 : Around} {E : Value → Shared → Prop} {Q : Value → Shared → Prop}, Q (.ref hp.objs.size) ⟨hp.push o, gs, dr, tk, os⟩ → wpAny (model prog w) A1 (pyIter v) Q E ⟨hp, gs, dr, tk, os⟩ := fun q => B.iter prog w _ _ _ _ hP q
    wp_walk using step
    refine wpAny_stack_any fun st => wpAny_pure ?_
    split
    · rename_i c _ _ _ _ _
      cases (c == Value.type "enumerate") <;> (wp_walk using step; exact ⟨_, rfl, hR⟩)
    · wp_walk using step
      exact ⟨_, rfl, hR⟩
theorem enum_call1 {prog : Program} {w : World} {A : Around} {E : Value → Shared → Prop} {s : Shared} {v : Value} {o : Obj} {P : Heap → Prop} {Q : Value → Shared → Prop} (B : Begins v o P) (hP : P s.heap)
    (hQ : ∀ h1, IsEnum h1 (s.heap.objs.size + 1) s.heap.objs.size 0 .none → h1.get? s.heap.objs.size = some o → (∀ b u, s.heap.get? b = some u → h1.get? b = some u) → Q (.ref (s.heap.objs.size + 1)) { s with heap := h1 }) :
    wpAny (model prog w) A (call (.type "enumerate") [v]) Q E s := by
  have sz : (s.heap.push o).objs.size = s.heap.objs.size + 1 := Heap.size_push ..
  refine callType_new F.called_enumerate (by decide) (F.typeCall_enumerate_1 _) (F.newCall_enumerate_1 _) (fun z => F.args_object_init_2 z _) F.entry_enumerate_new (enum_new1 B) ⟨hP, ?_⟩
  have top := Heap.get?_push_size (s.heap.push o) (o := { cls := .type "enumerate", data := .fields #[.none, .bool false, .ref s.heap.objs.size, rawInt 0, .none, .none] }) rfl
  show _ ∧ _
  rw [sz] at top ⊢
  exact ⟨⟨_, top, rfl⟩, hQ _ top (Heap.get?_push_of_some _ (Heap.get?_push_size _ B.free)) fun b u q => Heap.get?_push_of_some _ (Heap.get?_push_of_some _ q)⟩
section
variable {X : Cx} {pins : List (Addr × Obj)} {σ : L2.St} {H : Hp} {s : Shared} {k : Bool} {a it : Addr} {xs ys : List V} {i : Nat}
theorem SqK.inj (I : Inv X pins σ H s) (h : SqK k X.K H a xs) (h' : SqK k X.K H a ys) : xs = ys := by
  cases k with
  | true => exact I.tuple_inj h h'
  | false => exact I.list_inj h h'
theorem IterK.obj {h : Heap} (q : IterK k h it a i) : ∃ o, h.get? it = some o ∧ ∀ v, o.data ≠ .cell v := by
  cases k with
  | true => obtain ⟨o, e, _, d⟩ := q; exact ⟨o, e, fun v z => by rw [d] at z; cases z⟩
  | false => obtain ⟨o, e, _, d⟩ := q; exact ⟨o, e, fun v z => by rw [d] at z; cases z⟩
theorem IterK.at {h h' : Heap} (q : IterK k h it a i) (e : ∀ o, h.get? it = some o → h'.get? it = some o) : IterK k h' it a i := by
  cases k with
  | true => obtain ⟨o, e1, r⟩ := q; exact ⟨o, e _ e1, r⟩
  | false => obtain ⟨o, e1, r⟩ := q; exact ⟨o, e _ e1, r⟩
theorem IterK.new {h : Heap} (e : h.get? it = some (iterO k a)) : IterK k h it a 0 := by
  cases k with
  | true => exact ⟨_, e, rfl, rfl⟩
  | false => exact ⟨_, e, rfl, rfl⟩
theorem SqK.lt (I : Inv X pins σ H s) (h : SqK k X.K H a xs) : a < s.heap.objs.size := by
  cases k with
  | true => obtain ⟨_, _, p, _⟩ := I.tuple h; exact p.lt
  | false => obtain ⟨_, _, p, _⟩ := I.list h; exact p.lt
/-- what the iterator draws -/
theorem drawsK (I : Inv X pins σ H s) (hh : X.A.handled = none) (h : SqK k X.K H a xs) (q : IterK k s.heap it a i) (hne : a ≠ it) :
    ∃ (its : List Value) (St : Nat → Heap → Prop), Vals xs its ∧ Draws X.prog X.w X.A.in1 it [it, a] its.length (fun i v => its[i]? = some v) St ∧ St i s.heap ∧ ∀ j h, St j h → IterK k h it a j := by
  cases k with
  | true =>
    obtain ⟨its, rv, p, _⟩ := I.tuple h
    have D := Draws.tuple (prog := X.prog) (w := X.w) (A := X.A.in1) hh it a hne its.toArray
    refine ⟨its, fun i h => h.IsTupleIter it a i ∧ h.IsTuple a its.toArray, rv, ?_, ⟨q, p⟩, fun j h z => z.1⟩
    simpa using D
  | false =>
    obtain ⟨its, rv, p, _⟩ := I.list h
    have D := Draws.list (prog := X.prog) (w := X.w) (A := X.A.in1) hh it a hne its.toArray
    refine ⟨its, fun i h => h.IsListIter it a i ∧ h.IsList a its.toArray, rv, ?_, ⟨q, p.isList⟩, fun j h z => z.1⟩
    simpa using D
/-- the walk's own records have turned -/
theorem _root_.L2.Inv.spent {ch : List Addr} {h' : Heap} {t' : Nat} (I : Inv X pins σ H s) (hf : ∀ b ∈ ch, FpOk X pins H b) (hk : ∀ b o, b ∉ ch → s.heap.get? b = some o → h'.get? b = some o) : Inv X pins σ H { s with heap := h', toks := t' } := by
  refine I.step (g' := s.gens) (d' := s.drawn) (ch := ch) (fun c hc => ⟨(hf c hc).2.2.2.1, (hf c hc).2.1, (hf c hc).2.2.2.2.1, (hf c hc).2.2.2.2.2⟩) (fun b o _ _ hn e _ => hk b o hn e) (fun b o _ _ hn e _ => ⟨o.slots, hk b o hn e⟩)
    (fun _ _ _ _ n => n) (fun b o hn e => ⟨o, hk b o hn e⟩) (fun _ _ e => e) (fun _ _ _ e => e) (fun b ps e => ⟨#[], by rw [e]; simp⟩) (fun m hm => ?_) (fun b u e => ?_) I.bare
  · obtain ⟨o, es, ep, ho, r⟩ := hm
    exact ⟨o, es, ep, hk _ o (fun q => (hf _ q).2.1 rfl) ho, r⟩
  · refine (I.hok b u e).stay (fun c v hc q => hk c v (fun z => ?_) q) (fun _ q => q) fun _ _ q => q
    have n := (hf c z).1
    rcases hc with rfl | hc
    · rw [e] at n; cases n
    · rw [hc] at n; cases n
def Itz2 (K : PySem.W.Frag) (k1 k2 : Bool) (a b : Addr) : It :=
  ⟨fun i H => ∃ (xs ys : List V) (x y : V), SqK k1 K H a xs ∧ SqK k2 K H b ys ∧ xs[i]? = some x ∧ ys[i]? = some y,
    fun i H v H' => ∃ T x y, v = .ref T ∧ H T = none ∧ H' = upd H T (.tup [x, y]) ∧ (∀ xs, SqK k1 K H a xs → xs[i]? = some x) ∧ ∀ ys, SqK k2 K H b ys → ys[i]? = some y,
    fun i H => ∃ xs ys : List V, SqK k1 K H a xs ∧ SqK k2 K H b ys ∧ i = min xs.length ys.length⟩
theorem turn_zip2 {P : Program} {w : World} {K : PySem.W.Frag} {elts : List Expr} {kk : Nat} {tpos : Pos} {k1 k2 : Bool} {a b z TI TO i1 i2 : Addr} (D : ZipSep2 z TI TO i1 i2 [i1, a] [i2, b]) (n1 : a ≠ i1) (n2 : b ≠ i2) :
    Turn P w K (.Tuple elts kk tpos) (Itz2 K k1 k2 a b) [z, TI, TO, i1, i2] z (fun i h => IsZip h z TI TO .none ∧ IsTupOf2 h TI (.ref i1) (.ref i2) ∧ (∃ x y, IsTupOf2 h TO x y) ∧ IterK k1 h i1 a i ∧ IterK k2 h i2 b i) where
  mem := List.mem_cons_self
  obj := fun i h st c hc => by
    obtain ⟨hz, hTI, ⟨x, y, hTO⟩, h1, h2⟩ := st
    simp only [List.mem_cons, List.not_mem_nil, or_false] at hc
    rcases hc with rfl | rfl | rfl | rfl | rfl
    · exact ⟨_, hz, fun v q => nomatch q⟩
    · exact ⟨_, hTI, fun v q => nomatch q⟩
    · exact ⟨_, hTO, fun v q => nomatch q⟩
    · exact h1.obj
    · exact h2.obj
  keep := fun i h h' st kp => by
    obtain ⟨hz, hTI, ⟨x, y, hTO⟩, h1, h2⟩ := st
    exact ⟨kp z (by simp) _ hz, kp TI (by simp) _ hTI, ⟨x, y, kp TO (by simp) _ hTO⟩, h1.at fun o q => kp i1 (by simp) o q, h2.at fun o q => kp i2 (by simp) o q⟩
  item := by
    intro X hP hw hK hc i pins s σ H E I hf st hg
    subst hP hw hK
    obtain ⟨hz, hTI, ⟨x0, y0, hTO⟩, h1, h2⟩ := st
    obtain ⟨xs, ys, x, y, sx, sy, gx, gy⟩ := hg
    obtain ⟨its1, St1, v1, D1, s1, t1⟩ := drawsK I (I.ok.hd hc) sx h1 n1
    obtain ⟨its2, St2, v2, D2, s2, t2⟩ := drawsK I (I.ok.hd hc) sy h2 n2
    obtain ⟨u1, e1, r1⟩ := v1.get gx
    obtain ⟨u2, e2, r2⟩ := v2.get gy
    have l1 : i < its1.length := (List.getElem?_eq_some_iff.mp e1).1
    have l2 : i < its2.length := (List.getElem?_eq_some_iff.mp e2).1
    have hzl : z < s.heap.objs.size := Heap.lt_size hz
    refine wpAny_pyNext_zipD2_item D D1 D2 hz hTI hTO s1 s2 l1 l2 fun y1 y2 h' tk p1 p2 z' TO' st1 st2 hT hsz hk => ?_
    rw [e1] at p1; cases p1
    rw [e2] at p2; cases p2
    refine ⟨_, rfl, wpAny_letOwnedTupleGo_zip (s := { s with heap := h', toks := tk }) z' fun h'' z'' sb => ?_⟩
    have hT2 : h''.get? s.heap.objs.size = some { cls := .type "tuple", data := .seq #[u1, u2] } := (sb.2 _ (Nat.ne_of_gt hzl)).trans hT
    have new : ObjOk X.prog X.w (upd H s.heap.objs.size (.tup [x, y])) h'' s.heap.objs.size (.tup [x, y]) :=
      ⟨by show 2 ≤ sizeLine; decide, [u1, u2], .cons r1 (.cons r2 .nil), ⟨_, hT2, rfl, _, rfl⟩⟩
    have I1 : Inv X pins σ (upd H s.heap.objs.size (.tup [x, y])) { s with heap := h'', toks := tk } :=
      I.turnedNew (ch := [z, TI, TO, i1, i2]) (fun c o nc q => (sb.2 c fun e => nc (by simp [e])).trans (hk c o (fun e => nc (by simp [e])) (fun e => nc (by simp [e])) (fun e => nc (by simp [e])) (fun e => nc (by simp [e])) q)) hf (Nat.le_refl _) new
    refine ⟨.ref s.heap.objs.size, _, I1, rfl, ⟨_, x, y, rfl, I.hok.fresh (Nat.le_refl _), rfl, fun l hl => by rw [SqK.inj I hl sx]; exact gx, fun l hl => by rw [SqK.inj I hl sy]; exact gy⟩, ⟨z'', ?_, ⟨u1, u2, ?_⟩, ?_, ?_⟩, fun c hcm => ?_⟩
    · exact (sb.2 _ D.TIz).trans (hk _ _ D.TIz D.TITO D.TIi1 D.TIi2 hTI)
    · exact (sb.2 _ D.TOz).trans TO'
    · exact (t1 _ _ st1).at fun o q => (sb.2 _ (Ne.symm D.zi1)).trans q
    · exact (t2 _ _ st2).at fun o q => (sb.2 _ (Ne.symm D.zi2)).trans q
    · obtain ⟨o, ho⟩ : ∃ o, s.heap.get? c = some o := by
        simp only [List.mem_cons, List.not_mem_nil, or_false] at hcm
        rcases hcm with rfl | rfl | rfl | rfl | rfl
        · exact ⟨_, hz⟩
        · exact ⟨_, hTI⟩
        · exact ⟨_, hTO⟩
        · exact let ⟨o, q, _⟩ := h1.obj; ⟨o, q⟩
        · exact let ⟨o, q, _⟩ := h2.obj; ⟨o, q⟩
      rw [L2.upd_ne (Nat.ne_of_lt (Heap.lt_size ho))]
      exact (hf c hcm).1
  done := by
    intro X hP hw hK hc i pins s σ H E I hf st hg
    subst hP hw hK
    obtain ⟨hz, hTI, ⟨x0, y0, hTO⟩, h1, h2⟩ := st
    obtain ⟨xs, ys, sx, sy, hi⟩ := hg
    obtain ⟨its1, St1, v1, D1, s1, t1⟩ := drawsK I (I.ok.hd hc) sx h1 n1
    obtain ⟨its2, St2, v2, D2, s2, t2⟩ := drawsK I (I.ok.hd hc) sy h2 n2
    have e1 := v1.length
    have e2 := v2.length
    refine wpAny_pyNext_zipD2_end D D1 D2 hz hTI hTO s1 s2 (by omega) (by omega) (by omega) fun h' tk hk => ⟨rfl, ?_⟩
    exact I.spent hf fun c o nc q => hk c o (fun e => nc (by simp [e])) (fun e => nc (by simp [e])) (fun e => nc (by simp [e])) (fun e => nc (by simp [e])) q
  self := fun A i s Q E st h => wpAny_pyIter_zip st.1 h

def Itz3 (K : PySem.W.Frag) (k1 k2 k3 : Bool) (a b c : Addr) : It :=
  ⟨fun i H => ∃ (xs ys zs : List V) (x y z : V), SqK k1 K H a xs ∧ SqK k2 K H b ys ∧ SqK k3 K H c zs ∧ xs[i]? = some x ∧ ys[i]? = some y ∧ zs[i]? = some z,
    fun i H v H' => ∃ T x y z, v = .ref T ∧ H T = none ∧ H' = upd H T (.tup [x, y, z]) ∧ (∀ xs, SqK k1 K H a xs → xs[i]? = some x) ∧ (∀ ys, SqK k2 K H b ys → ys[i]? = some y) ∧ ∀ zs, SqK k3 K H c zs → zs[i]? = some z,
    fun i H => ∃ xs ys zs : List V, SqK k1 K H a xs ∧ SqK k2 K H b ys ∧ SqK k3 K H c zs ∧ i = min (min xs.length ys.length) zs.length⟩
theorem turn_zip3 {P : Program} {w : World} {K : PySem.W.Frag} {elts : List Expr} {kk : Nat} {tpos : Pos} {k1 k2 k3 : Bool} {a b c z TI TO i1 i2 i3 : Addr} (D : ZipSep3 z TI TO i1 i2 i3 [i1, a] [i2, b] [i3, c]) (n1 : a ≠ i1) (n2 : b ≠ i2) (n3 : c ≠ i3) :
    Turn P w K (.Tuple elts kk tpos) (Itz3 K k1 k2 k3 a b c) [z, TI, TO, i1, i2, i3] z (fun i h => IsZip h z TI TO .none ∧ IsTupOf3 h TI (.ref i1) (.ref i2) (.ref i3) ∧ (∃ x y z, IsTupOf3 h TO x y z) ∧ IterK k1 h i1 a i ∧ IterK k2 h i2 b i ∧ IterK k3 h i3 c i) where
  mem := List.mem_cons_self
  obj := fun i h st c hc => by
    obtain ⟨hz, hTI, ⟨x, y, w, hTO⟩, h1, h2, h3⟩ := st
    simp only [List.mem_cons, List.not_mem_nil, or_false] at hc
    rcases hc with rfl | rfl | rfl | rfl | rfl | rfl
    · exact ⟨_, hz, fun v q => nomatch q⟩
    · exact ⟨_, hTI, fun v q => nomatch q⟩
    · exact ⟨_, hTO, fun v q => nomatch q⟩
    · exact h1.obj
    · exact h2.obj
    · exact h3.obj
  keep := fun i h h' st kp => by
    obtain ⟨hz, hTI, ⟨x, y, w, hTO⟩, h1, h2, h3⟩ := st
    exact ⟨kp z (by simp) _ hz, kp TI (by simp) _ hTI, ⟨x, y, w, kp TO (by simp) _ hTO⟩, h1.at fun o q => kp i1 (by simp) o q, h2.at fun o q => kp i2 (by simp) o q, h3.at fun o q => kp i3 (by simp) o q⟩
  item := by
    intro X hP hw hK hc i pins s σ H E I hf st hg
    subst hP hw hK
    obtain ⟨hz, hTI, ⟨x0, y0, w0, hTO⟩, h1, h2, h3⟩ := st
    obtain ⟨xs, ys, zs, x, y, w, sx, sy, sz, gx, gy, gz⟩ := hg
    obtain ⟨its1, St1, v1, D1, s1, t1⟩ := drawsK I (I.ok.hd hc) sx h1 n1
    obtain ⟨its2, St2, v2, D2, s2, t2⟩ := drawsK I (I.ok.hd hc) sy h2 n2
    obtain ⟨its3, St3, v3, D3, s3, t3⟩ := drawsK I (I.ok.hd hc) sz h3 n3
    obtain ⟨u1, e1, r1⟩ := v1.get gx
    obtain ⟨u2, e2, r2⟩ := v2.get gy
    obtain ⟨u3, e3, r3⟩ := v3.get gz
    have l1 : i < its1.length := (List.getElem?_eq_some_iff.mp e1).1
    have l2 : i < its2.length := (List.getElem?_eq_some_iff.mp e2).1
    have l3 : i < its3.length := (List.getElem?_eq_some_iff.mp e3).1
    have hzl : z < s.heap.objs.size := Heap.lt_size hz
    refine wpAny_pyNext_zipD3_item D D1 D2 D3 hz hTI hTO s1 s2 s3 l1 l2 l3 fun y1 y2 y3 h' tk p1 p2 p3 z' TO' st1 st2 st3 hT hsz hk => ?_
    rw [e1] at p1; cases p1
    rw [e2] at p2; cases p2
    rw [e3] at p3; cases p3
    refine ⟨_, rfl, wpAny_letOwnedTupleGo_zip (s := { s with heap := h', toks := tk }) z' fun h'' z'' sb => ?_⟩
    have hT2 : h''.get? s.heap.objs.size = some { cls := .type "tuple", data := .seq #[u1, u2, u3] } := (sb.2 _ (Nat.ne_of_gt hzl)).trans hT
    have new : ObjOk X.prog X.w (upd H s.heap.objs.size (.tup [x, y, w])) h'' s.heap.objs.size (.tup [x, y, w]) :=
      ⟨by show 3 ≤ sizeLine; decide, [u1, u2, u3], .cons r1 (.cons r2 (.cons r3 .nil)), ⟨_, hT2, rfl, _, rfl⟩⟩
    have I1 : Inv X pins σ (upd H s.heap.objs.size (.tup [x, y, w])) { s with heap := h'', toks := tk } :=
      I.turnedNew (ch := [z, TI, TO, i1, i2, i3]) (fun c o nc q => (sb.2 c fun e => nc (by simp [e])).trans (hk c o (fun e => nc (by simp [e])) (fun e => nc (by simp [e])) (fun e => nc (by simp [e])) (fun e => nc (by simp [e])) (fun e => nc (by simp [e])) q)) hf (Nat.le_refl _) new
    refine ⟨.ref s.heap.objs.size, _, I1, rfl, ⟨_, x, y, w, rfl, I.hok.fresh (Nat.le_refl _), rfl, fun l hl => by rw [SqK.inj I hl sx]; exact gx, fun l hl => by rw [SqK.inj I hl sy]; exact gy, fun l hl => by rw [SqK.inj I hl sz]; exact gz⟩, ⟨z'', ?_, ⟨u1, u2, u3, ?_⟩, ?_, ?_, ?_⟩, fun c hcm => ?_⟩
    · exact (sb.2 _ D.TIz).trans (hk _ _ D.TIz D.TITO D.TIi1 D.TIi2 D.TIi3 hTI)
    · exact (sb.2 _ D.TOz).trans TO'
    · exact (t1 _ _ st1).at fun o q => (sb.2 _ (Ne.symm D.zi1)).trans q
    · exact (t2 _ _ st2).at fun o q => (sb.2 _ (Ne.symm D.zi2)).trans q
    · exact (t3 _ _ st3).at fun o q => (sb.2 _ (Ne.symm D.zi3)).trans q
    · obtain ⟨o, ho⟩ : ∃ o, s.heap.get? c = some o := by
        simp only [List.mem_cons, List.not_mem_nil, or_false] at hcm
        rcases hcm with rfl | rfl | rfl | rfl | rfl | rfl
        · exact ⟨_, hz⟩
        · exact ⟨_, hTI⟩
        · exact ⟨_, hTO⟩
        · exact let ⟨o, q, _⟩ := h1.obj; ⟨o, q⟩
        · exact let ⟨o, q, _⟩ := h2.obj; ⟨o, q⟩
        · exact let ⟨o, q, _⟩ := h3.obj; ⟨o, q⟩
      rw [L2.upd_ne (Nat.ne_of_lt (Heap.lt_size ho))]
      exact (hf c hcm).1
  done := by
    intro X hP hw hK hc i pins s σ H E I hf st hg
    subst hP hw hK
    obtain ⟨hz, hTI, ⟨x0, y0, w0, hTO⟩, h1, h2, h3⟩ := st
    obtain ⟨xs, ys, zs, sx, sy, sz, hi⟩ := hg
    obtain ⟨its1, St1, v1, D1, s1, t1⟩ := drawsK I (I.ok.hd hc) sx h1 n1
    obtain ⟨its2, St2, v2, D2, s2, t2⟩ := drawsK I (I.ok.hd hc) sy h2 n2
    obtain ⟨its3, St3, v3, D3, s3, t3⟩ := drawsK I (I.ok.hd hc) sz h3 n3
    have e1 := v1.length
    have e2 := v2.length
    have e3 := v3.length
    refine wpAny_pyNext_zipD3_end D D1 D2 D3 hz hTI hTO s1 s2 s3 (by omega) (by omega) (by omega) (by omega) fun h' tk hk => ⟨rfl, ?_⟩
    exact I.spent hf fun c o nc q => hk c o (fun e => nc (by simp [e])) (fun e => nc (by simp [e])) (fun e => nc (by simp [e])) (fun e => nc (by simp [e])) (fun e => nc (by simp [e])) q
  self := fun A i s Q E st h => wpAny_pyIter_zip st.1 h
/-- enumerate -/
def IteK (K : PySem.W.Frag) (k : Bool) (a : Addr) : It :=
  ⟨fun i H => ∃ (xs : List V) (x : V), SqK k K H a xs ∧ xs[i]? = some x,
    fun i H v H' => ∃ T x, v = .ref T ∧ H T = none ∧ H' = upd H T (.tup [.int (i : Nat), x]) ∧ ∀ xs, SqK k K H a xs → xs[i]? = some x,
    fun i H => ∃ xs : List V, SqK k K H a xs ∧ i = xs.length⟩
theorem turn_enumK {P : Program} {w : World} {K : PySem.W.Frag} {elts : List Expr} {kk : Nat} {tpos : Pos} {k : Bool} {a e it : Addr} (n1 : a ≠ it) (n2 : e ≠ it) (n3 : e ≠ a) :
    Turn P w K (.Tuple elts kk tpos) (IteK K k a) [e, it] e (fun i h => (∃ old, IsEnum h e it ((i : Nat) : Int) old) ∧ IterK k h it a i) where
  mem := List.mem_cons_self
  obj := fun i h st c hc => by
    obtain ⟨⟨old, he⟩, h1⟩ := st
    simp only [List.mem_cons, List.not_mem_nil, or_false] at hc
    rcases hc with rfl | rfl
    · exact ⟨_, he, fun v q => nomatch q⟩
    · exact h1.obj
  keep := fun i h h' st kp => by
    obtain ⟨⟨old, he⟩, h1⟩ := st
    exact ⟨⟨old, kp e (by simp) _ he⟩, h1.at fun o q => kp it (by simp) o q⟩
  item := by
    intro X hP hw hK hc i pins s σ H E I hf st hg
    subst hP hw hK
    obtain ⟨⟨old, he⟩, h1⟩ := st
    obtain ⟨xs, x, sx, gx⟩ := hg
    obtain ⟨its1, St1, v1, D1, s1, t1⟩ := drawsK I (I.ok.hd hc) sx h1 n1
    obtain ⟨u1, e1, r1⟩ := v1.get gx
    have l1 : i < its1.length := (List.getElem?_eq_some_iff.mp e1).1
    have hel : e < s.heap.objs.size := Heap.lt_size he
    refine wpAny_pyNext_enum_itemC D1 he s1 l1 n2 (by simp [n2, n3]) fun y1 h' tk p1 ho st1 hT hsz hk => ?_
    rw [e1] at p1; cases p1
    refine ⟨_, rfl, wpAny_letOwnedTupleGo_enum (s := { s with heap := h', toks := tk + 1 }) ho fun h'' he' sb => ?_⟩
    have hT2 : h''.get? s.heap.objs.size = some { cls := .type "tuple", data := .seq #[.int (i : Int) tk, u1] } := (sb.2 _ (Nat.ne_of_gt hel)).trans hT
    have new : ObjOk X.prog X.w (upd H s.heap.objs.size (.tup [.int (i : Nat), x])) h'' s.heap.objs.size (.tup [.int (i : Nat), x]) :=
      ⟨by show 2 ≤ sizeLine; decide, [.int (i : Int) tk, u1], .cons ⟨_, rfl⟩ (.cons r1 .nil), ⟨_, hT2, rfl, _, rfl⟩⟩
    have I1 : Inv X pins σ (upd H s.heap.objs.size (.tup [.int (i : Nat), x])) { s with heap := h'', toks := tk + 1 } :=
      I.turnedNew (ch := [e, it]) (fun c o nc q => (sb.2 c fun z => nc (by simp [z])).trans (hk c o (fun z => nc (by simp [z])) (fun z => nc (by simp [z])) q)) hf (Nat.le_refl _) new
    refine ⟨.ref s.heap.objs.size, _, I1, rfl, ⟨_, x, rfl, I.hok.fresh (Nat.le_refl _), rfl, fun l hl => by rw [SqK.inj I hl sx]; exact gx⟩, ⟨⟨u1, ?_⟩, ?_⟩, fun c hcm => ?_⟩
    · have z : ((i + 1 : Nat) : Int) = (i : Int) + 1 := by omega
      rw [z]; exact he'
    · exact (t1 _ _ st1).at fun o q => (sb.2 _ (Ne.symm n2)).trans q
    · obtain ⟨o, ho⟩ : ∃ o, s.heap.get? c = some o := by
        simp only [List.mem_cons, List.not_mem_nil, or_false] at hcm
        rcases hcm with rfl | rfl
        · exact ⟨_, he⟩
        · exact let ⟨o, q, _⟩ := h1.obj; ⟨o, q⟩
      rw [L2.upd_ne (Nat.ne_of_lt (Heap.lt_size ho))]
      exact (hf c hcm).1
  done := by
    intro X hP hw hK hc i pins s σ H E I hf st hg
    subst hP hw hK
    obtain ⟨⟨old, he⟩, h1⟩ := st
    obtain ⟨xs, sx, hi⟩ := hg
    obtain ⟨its1, St1, v1, D1, s1, t1⟩ := drawsK I (I.ok.hd hc) sx h1 n1
    have e1 := v1.length
    rw [hi, e1] at s1
    refine wpAny_pyNext_enum_endD D1 he s1 fun h' hk => ⟨rfl, ?_⟩
    exact I.spent (t' := s.toks) hf fun c o nc q => hk c o (fun z => nc (by simp [z])) q
  self := fun A i s Q E st h => let ⟨⟨_, he⟩, _⟩ := st; wpAny_pyIter_enum he h

/-! ### .. at the data's level -/
variable {W : Wd} {M M1 : Mp} {H1 : Hp}
theorem seq_kind (A : AbsM W M H) {d : D} {v : V} {l : List D} (r : Rep W M H d v) (e : seqIn M d = some l) : ∃ a xs, v = .ref a ∧ SqK (isTup d) W.K H a xs ∧ Reps W M H l xs := by
  cases hd : isTup d with
  | true =>
    cases d with
    | tup l' => cases e; exact r
    | _ => cases hd
  | false =>
    obtain ⟨a, xs, rfl, _⟩ := seqIn_rep A r e
    obtain ⟨xs, h1, h2⟩ := list_uniq hd r e M H Ext.refl A rfl
    exact ⟨a, xs, rfl, h1, h2⟩
theorem kind_stays {d : D} {a : Addr} {l : List D} (r : Rep W M1 H1 d (.ref a)) (e : seqIn M1 d = some l) (x : Ext W M1 H1 M H) (A : AbsM W M H) (s : seqIn M d = seqIn M1 d) : ∃ xs, SqK (isTup d) W.K H a xs ∧ Reps W M H l xs := by
  obtain ⟨b, xs, eb, h1, h2⟩ := seq_kind A (r.ext x) (s.trans e)
  cases eb
  exact ⟨xs, h1, h2⟩
theorem get_zip {l1 l2 : List D} {i : Nat} {d : D} (h : ((l1.zip l2).map fun p => D.tup [p.1, p.2])[i]? = some d) : ∃ x y, l1[i]? = some x ∧ l2[i]? = some y ∧ d = .tup [x, y] := by
  rw [List.getElem?_map] at h
  cases q : (l1.zip l2)[i]? with
  | none => rw [q] at h; cases h
  | some p =>
    rw [q] at h; cases h
    obtain ⟨h1, h2⟩ := List.getElem?_zip_eq_some.mp q
    exact ⟨p.1, p.2, h1, h2, rfl⟩
theorem rep_pair {d1 d2 : D} {x y : V} {T : Addr} (A : AbsM W M H) (r1 : Rep W M H d1 x) (r2 : Rep W M H d2 y) (n : H T = none) :
    Ext W M H M (upd H T (.tup [x, y])) ∧ AbsM W M (upd H T (.tup [x, y])) ∧ Rep W M (upd H T (.tup [x, y])) (.tup [d1, d2]) (.ref T) :=
  ⟨Ext.fresh n, A.fresh n, Rep.newT (ds := [d1, d2]) ⟨_, _, rfl, r1, _, _, rfl, r2, rfl⟩ n⟩
theorem rep_three {d1 d2 d3 : D} {x y z : V} {T : Addr} (A : AbsM W M H) (r1 : Rep W M H d1 x) (r2 : Rep W M H d2 y) (r3 : Rep W M H d3 z) (n : H T = none) :
    Ext W M H M (upd H T (.tup [x, y, z])) ∧ AbsM W M (upd H T (.tup [x, y, z])) ∧ Rep W M (upd H T (.tup [x, y, z])) (.tup [d1, d2, d3]) (.ref T) :=
  ⟨Ext.fresh n, A.fresh n, Rep.newT (ds := [d1, d2, d3]) ⟨_, _, rfl, r1, _, _, rfl, r2, _, _, rfl, r3, rfl⟩ n⟩
theorem good_zip2 {d1 d2 : D} {a b : Addr} {l1 l2 : List D} (r1 : Rep W M1 H1 d1 (.ref a)) (e1 : seqIn M1 d1 = some l1) (r2 : Rep W M1 H1 d2 (.ref b)) (e2 : seqIn M1 d2 = some l2) :
    GoodIt W (Itz2 W.K (isTup d1) (isTup d2) a b) ((l1.zip l2).map fun p => D.tup [p.1, p.2]) (still M1 [d1, d2]) M1 H1 := by
  intro M H x A ok i
  obtain ⟨xs, sx, rx⟩ := kind_stays r1 e1 x A (seqIn_still ok)
  obtain ⟨ys, sy, ry⟩ := kind_stays r2 e2 x A (seqIn_still (still_tail ok))
  refine ⟨fun d hd => ?_, fun hi => ⟨xs, ys, sx, sy, by rw [hi, List.length_map, List.length_zip, rx.length, ry.length]⟩⟩
  obtain ⟨d1', d2', g1, g2, rfl⟩ := get_zip hd
  obtain ⟨v1, h1, q1⟩ := rx.get g1
  obtain ⟨v2, h2, q2⟩ := ry.get g2
  refine ⟨⟨xs, ys, v1, v2, sx, sy, h1, h2⟩, fun y H' hy => ?_⟩
  obtain ⟨T, x', y', rfl, nT, rfl, f1, f2⟩ := hy
  have z1 := f1 xs sx; rw [h1] at z1; cases z1
  have z2 := f2 ys sy; rw [h2] at z2; cases z2
  exact rep_pair A q1 q2 nT
theorem good_zip3 {d1 d2 d3 : D} {a b c : Addr} {l1 l2 l3 : List D} (r1 : Rep W M1 H1 d1 (.ref a)) (e1 : seqIn M1 d1 = some l1) (r2 : Rep W M1 H1 d2 (.ref b)) (e2 : seqIn M1 d2 = some l2) (r3 : Rep W M1 H1 d3 (.ref c)) (e3 : seqIn M1 d3 = some l3) :
    GoodIt W (Itz3 W.K (isTup d1) (isTup d2) (isTup d3) a b c) ((l1.zip (l2.zip l3)).map fun p => D.tup [p.1, p.2.1, p.2.2]) (still M1 [d1, d2, d3]) M1 H1 := by
  intro M H x A ok i
  obtain ⟨xs, sx, rx⟩ := kind_stays r1 e1 x A (seqIn_still ok)
  obtain ⟨ys, sy, ry⟩ := kind_stays r2 e2 x A (seqIn_still (still_tail ok))
  obtain ⟨zs, sz, rz⟩ := kind_stays r3 e3 x A (seqIn_still (still_tail (still_tail ok)))
  refine ⟨fun d hd => ?_, fun hi => ⟨xs, ys, zs, sx, sy, sz, by rw [hi, List.length_map, List.length_zip, List.length_zip, rx.length, ry.length, rz.length]; omega⟩⟩
  rw [List.getElem?_map] at hd
  cases q : (l1.zip (l2.zip l3))[i]? with
  | none => rw [q] at hd; cases hd
  | some p =>
    rw [q] at hd; cases hd
    obtain ⟨g1, g23⟩ := List.getElem?_zip_eq_some.mp q
    obtain ⟨g2, g3⟩ := List.getElem?_zip_eq_some.mp g23
    obtain ⟨v1, h1, q1⟩ := rx.get g1
    obtain ⟨v2, h2, q2⟩ := ry.get g2
    obtain ⟨v3, h3, q3⟩ := rz.get g3
    refine ⟨⟨xs, ys, zs, v1, v2, v3, sx, sy, sz, h1, h2, h3⟩, fun y H' hy => ?_⟩
    obtain ⟨T, x', y', z', rfl, nT, rfl, f1, f2, f3⟩ := hy
    have z1 := f1 xs sx; rw [h1] at z1; cases z1
    have z2 := f2 ys sy; rw [h2] at z2; cases z2
    have z3 := f3 zs sz; rw [h3] at z3; cases z3
    exact rep_three A q1 q2 q3 nT
theorem good_enum {d1 : D} {a : Addr} {l1 : List D} (r1 : Rep W M1 H1 d1 (.ref a)) (e1 : seqIn M1 d1 = some l1) :
    GoodIt W (IteK W.K (isTup d1) a) (enumD l1) (still M1 [d1]) M1 H1 := by
  intro M H x A ok i
  obtain ⟨xs, sx, rx⟩ := kind_stays r1 e1 x A (seqIn_still ok)
  refine ⟨fun d hd => ?_, fun hi => ⟨xs, sx, by rw [hi]; unfold enumD; rw [List.length_map, List.length_zipIdx, rx.length]⟩⟩
  unfold enumD at hd
  rw [List.getElem?_map, List.getElem?_zipIdx] at hd
  cases q : l1[i]? with
  | none => rw [q] at hd; cases hd
  | some p =>
    rw [q] at hd
    have hd' : D.tup [.int ((0 + i : Nat) : Int), p] = d := Option.some.inj hd
    rw [Nat.zero_add] at hd'
    subst hd'
    obtain ⟨v1, h1, q1⟩ := rx.get q
    refine ⟨⟨xs, v1, sx, h1⟩, fun y H' hy => ?_⟩
    obtain ⟨T, x', rfl, nT, rfl, f1⟩ := hy
    have z1 := f1 xs sx; rw [h1] at z1; cases z1
    exact rep_pair A (d1 := .int (i : Int)) rfl q1 nT
theorem reps3 {d e f : D} {vs : List V} (r : Reps W M H [d, e, f] vs) : ∃ v u w, vs = [v, u, w] ∧ Rep W M H d v ∧ Rep W M H e u ∧ Rep W M H f w := by
  obtain ⟨v, r, rfl, h1, h2⟩ := r
  obtain ⟨u, w, rfl, h3, h4⟩ := reps2 h2
  exact ⟨v, u, w, rfl, h1, h3, h4⟩
theorem kind_begins (I : Inv X pins σ H s) (h : SqK k X.K H a xs) : ∃ P : Heap → Prop, Begins (.ref a) (iterO k a) P ∧ P s.heap := by
  cases k with
  | true => obtain ⟨its, _, p, _⟩ := I.tuple h; exact ⟨_, begins_tuple a its.toArray, p⟩
  | false => obtain ⟨its, _, p, _⟩ := I.list h; exact ⟨_, begins_list a its.toArray, p.isList⟩
theorem DI.zip2 {e e2 : Expr} {t : DTA} {p pos tpos : Pos} {elts : List Expr} {kk : Nat} (hg : Gl X "zip") (hm : X.mg "zip" = none) (h : DA X [e, e2] t) (hs : notStar e = true) (hs2 : notStar e2 = true) :
    DI X (.Tuple elts kk tpos) (.Call (.Name "zip" p) [e, e2] [] pos) (fun ρ M Q => t ρ M fun ds M1 => itD .zip2 ds M1 Q) := by
  refine ⟨fun σ H ρ M Q S A z pins s I => ?_⟩
  refine Call_ (ld_blt I hg hm PyProof.Rows.boot_zip (PyProof.Rows.callWith_type1 (thn (h.to σ H ρ M _ S A z pos pins s I) fun us s1 ⟨vs, H1, I1, rv, ds, M1, x, r, A1, q⟩ => ?_) (star_cons hs) (star_none (by rw [List.all_cons, hs2]; rfl))))
  obtain ⟨d1, d2, l1, l2, rfl, e1, e2, q⟩ := itD_zip2 q
  obtain ⟨v1, v2, rfl, r1, r2⟩ := reps2 r
  obtain ⟨a, xs, rfl, sx, _⟩ := seq_kind A1 r1 e1
  obtain ⟨b, ys, rfl, sy, _⟩ := seq_kind A1 r2 e2
  obtain ⟨u1, u2, rfl, w1, w2⟩ := vals2 rv
  cases w1; cases w2
  obtain ⟨P1, B1, p1⟩ := kind_begins I1 sx
  obtain ⟨P2, B2, p2⟩ := kind_begins I1 sy
  have la := SqK.lt I1 sx
  have lb := SqK.lt I1 sy
  refine zip_begins2 B1 B2 p1 p2 fun h' hz hTI hTO h1 h2 hsz hk => wpAny_pyIter_zip hz ?_
  have I2 : Inv X pins σ H1 { s1 with heap := h' } := I1.kept (t' := s1.toks) hk
  refine ⟨_, [s1.heap.objs.size + 4, s1.heap.objs.size + 2, s1.heap.objs.size + 3, s1.heap.objs.size, s1.heap.objs.size + 1], _, _, H1, rfl, I2,
    turn_zip2 (zip_sep2 (fp1 := [a]) (fp2 := [b]) (by simpa using la) (by simpa using lb)) (Nat.ne_of_lt la) (Nat.ne_of_lt (Nat.lt_succ_of_lt lb)), ⟨hz, hTI, ⟨_, _, hTO⟩, IterK.new h1, IterK.new h2⟩, fun c hc => ?_,
    _, _, M1, x, A1, good_zip2 r1 e1 r2 e2, q⟩
  have hle : s1.heap.objs.size ≤ c := by
    simp only [List.mem_cons, List.not_mem_nil, or_false] at hc
    rcases hc with e | e | e | e | e <;> rw [e] <;> first | exact Nat.le_refl _ | exact Nat.le_add_right _ _
  exact I1.fpOk hle (I1.hok.fresh hle)
theorem DI.zip3 {e e2 e3 : Expr} {t : DTA} {p pos tpos : Pos} {elts : List Expr} {kk : Nat} (hg : Gl X "zip") (hm : X.mg "zip" = none) (h : DA X [e, e2, e3] t) (hs : notStar e = true) (hs2 : notStar e2 = true) (hs3 : notStar e3 = true) :
    DI X (.Tuple elts kk tpos) (.Call (.Name "zip" p) [e, e2, e3] [] pos) (fun ρ M Q => t ρ M fun ds M1 => itD .zip3 ds M1 Q) := by
  refine ⟨fun σ H ρ M Q S A z pins s I => ?_⟩
  refine Call_ (ld_blt I hg hm PyProof.Rows.boot_zip (PyProof.Rows.callWith_type1 (thn (h.to σ H ρ M _ S A z pos pins s I) fun us s1 ⟨vs, H1, I1, rv, ds, M1, x, r, A1, q⟩ => ?_) (star_cons hs) (star_none (by rw [List.all_cons, List.all_cons, hs2, hs3]; rfl))))
  obtain ⟨d1, d2, d3, l1, l2, l3, rfl, e1, e2, e3, q⟩ := itD_zip3 q
  obtain ⟨v1, v2, v3, rfl, r1, r2, r3⟩ := reps3 r
  obtain ⟨a, xs, rfl, sx, _⟩ := seq_kind A1 r1 e1
  obtain ⟨b, ys, rfl, sy, _⟩ := seq_kind A1 r2 e2
  obtain ⟨c, zs, rfl, sz, _⟩ := seq_kind A1 r3 e3
  cases rv with
  | cons w1 rv =>
    obtain ⟨u2, u3, rfl, w2, w3⟩ := vals2 rv
    cases w1; cases w2; cases w3
    obtain ⟨P1, B1, p1⟩ := kind_begins I1 sx
    obtain ⟨P2, B2, p2⟩ := kind_begins I1 sy
    obtain ⟨P3, B3, p3⟩ := kind_begins I1 sz
    have la := SqK.lt I1 sx
    have lb := SqK.lt I1 sy
    have lc := SqK.lt I1 sz
    refine zip_begins3 B1 B2 B3 p1 p2 p3 fun h' hz hTI hTO h1 h2 h3 hsz hk => wpAny_pyIter_zip hz ?_
    have I2 : Inv X pins σ H1 { s1 with heap := h' } := I1.kept (t' := s1.toks) hk
    refine ⟨_, [s1.heap.objs.size + 5, s1.heap.objs.size + 3, s1.heap.objs.size + 4, s1.heap.objs.size, s1.heap.objs.size + 1, s1.heap.objs.size + 2], _, _, H1, rfl, I2,
      turn_zip3 (zip_sep3 (fp1 := [a]) (fp2 := [b]) (fp3 := [c]) (by simpa using la) (by simpa using lb) (by simpa using lc)) (Nat.ne_of_lt la) (Nat.ne_of_lt (Nat.lt_succ_of_lt lb)) (Nat.ne_of_lt (Nat.lt_succ_of_lt (Nat.lt_succ_of_lt lc))), ⟨hz, hTI, ⟨_, _, _, hTO⟩, IterK.new h1, IterK.new h2, IterK.new h3⟩, fun c hc => ?_,
      _, _, M1, x, A1, good_zip3 r1 e1 r2 e2 r3 e3, q⟩
    have hle : s1.heap.objs.size ≤ c := by
      simp only [List.mem_cons, List.not_mem_nil, or_false] at hc
      rcases hc with e | e | e | e | e | e <;> rw [e] <;> first | exact Nat.le_refl _ | exact Nat.le_add_right _ _
    exact I1.fpOk hle (I1.hok.fresh hle)
theorem DI.enum {e : Expr} {t : DTA} {p pos tpos : Pos} {elts : List Expr} {kk : Nat} (hg : Gl X "enumerate") (hm : X.mg "enumerate" = none) (h : DA X [e] t) (hs : notStar e = true) :
    DI X (.Tuple elts kk tpos) (.Call (.Name "enumerate" p) [e] [] pos) (fun ρ M Q => t ρ M fun ds M1 => itD .enum ds M1 Q) := by
  refine ⟨fun σ H ρ M Q S A z pins s I => ?_⟩
  refine Call_ (ld_blt I hg hm boot_enumerate (PyProof.Rows.callWith_type1 (thn (h.to σ H ρ M _ S A z pos pins s I) fun us s1 ⟨vs, H1, I1, rv, ds, M1, x, r, A1, q⟩ => ?_) (star_cons hs) rfl))
  obtain ⟨d1, l1, rfl, e1, q⟩ := itD_enum q
  obtain ⟨v1, rfl, r1⟩ := reps1 r
  obtain ⟨a, xs, rfl, sx, _⟩ := seq_kind A1 r1 e1
  obtain ⟨u1, rfl, w1⟩ := vals1 rv
  cases w1
  obtain ⟨P1, B1, p1⟩ := kind_begins I1 sx
  have la := SqK.lt I1 sx
  refine enum_call1 B1 p1 fun h' he h1 hk => wpAny_pyIter_enum he ?_
  have I2 : Inv X pins σ H1 { s1 with heap := h' } := I1.kept (t' := s1.toks) hk
  refine ⟨_, [s1.heap.objs.size + 1, s1.heap.objs.size], _, _, H1, rfl, I2, turn_enumK (Nat.ne_of_lt la) (Nat.succ_ne_self _) (Nat.ne_of_gt (Nat.lt_succ_of_lt la)), ⟨⟨.none, he⟩, IterK.new h1⟩, fun c hc => ?_,
    _, _, M1, x, A1, good_enum r1 e1, q⟩
  have hle : s1.heap.objs.size ≤ c := by
    simp only [List.mem_cons, List.not_mem_nil, or_false] at hc
    rcases hc with e | e <;> rw [e] <;> first | exact Nat.le_refl _ | exact Nat.le_add_right _ _
  exact I1.fpOk hle (I1.hok.fresh hle)
end
end Ow

namespace Ow
open PySem PySem.Spec PyProof.Rows L2
/-! ### exceptions at the data's level -/
structure XD where
  cls : Str
  fs : List (Str × D)
def RepX (W : Wd) (M : Mp) (H : Hp) (x : XD) (cls : Value) (d : Option Addr) : Prop :=
  ∃ C, W.mg x.cls = some (.ref C) ∧ cls = .ref C ∧ ((x.fs = [] ∧ d = none) ∨
    ∃ (dx : Addr) (ns : List Str) (vs : List V), d = some dx ∧ H dx = some (.xd (ns.zip vs)) ∧ x.fs = ns.zip (x.fs.map (·.2)) ∧ ns.length = vs.length ∧ Reps W M H (x.fs.map (·.2)) vs)
abbrev EX := XD → DSt → Mp → Prop
def upW (W : Wd) (E : EX) : WX := fun cls d σ H => ∃ x ρ M, AbsS W M H ρ σ ∧ AbsM W M H ∧ RepX W M H x cls d ∧ E x ρ M
def lftX (W : Wd) (E : XD → Mp → Prop) : XK := fun cls d H' => ∃ x M', AbsM W M' H' ∧ RepX W M' H' x cls d ∧ E x M'
/-! what an exception leaves of the slots: all but frozen lists -/
mutual
def D.nl : D → Bool
  | .lst _ => false
  | .dct _ _ => false
  | .tup l => D.nls l
  | _ => true
def D.nls : List D → Bool
  | [] => true
  | d :: r => d.nl && D.nls r
end
structure ExtW (H H' : Hp) : Prop where
  tup : ∀ b xs, H b = some (.tup xs) → H' b = some (.tup xs)
  frz : ∀ b o xs, H b = some (.frz o xs) → H' b = some (.frz o xs)
mutual
theorem Rep.extW {W : Wd} {M M' : Mp} {H H' : Hp} (e : ExtW H H') : ∀ {d : D} {v : V}, d.nl = true → Rep W M H d v → Rep W M' H' d v
  | .non, _, _, h => h
  | .bl _, _, _, h => h
  | .int _, _, _, h => h
  | .str _, _, _, h => h
  | .tup l, _, n, h => by
    obtain ⟨a, xs, rfl, s, r⟩ := h
    refine ⟨a, xs, rfl, ?_, Reps.extW e (by unfold D.nl at n; exact n) r⟩
    rcases s with (s | ⟨o, s⟩) | s
    · exact .inl (.inl (e.tup _ _ s))
    · exact .inl (.inr ⟨o, e.frz _ _ _ s⟩)
    · exact .inr s
  | .lst _, _, n, _ => by unfold D.nl at n; cases n
  | .dct _ _, _, n, _ => by unfold D.nl at n; cases n
  | .ref _, _, _, h => h
  | .scr ns, _, _, h => by
    obtain ⟨a, rfl, h⟩ := h
    refine ⟨a, rfl, ?_⟩
    rcases h with ⟨o, h⟩ | h
    · exact .inl ⟨o, e.frz _ _ _ h⟩
    · exact .inr h
theorem Reps.extW {W : Wd} {M M' : Mp} {H H' : Hp} (e : ExtW H H') : ∀ {ds : List D} {vs : List V}, D.nls ds = true → Reps W M H ds vs → Reps W M' H' ds vs
  | [], _, _, h => h
  | d :: r, _, n, h => by
    obtain ⟨v, w, rfl, h1, h2⟩ := h
    unfold D.nls at n
    rw [Bool.and_eq_true] at n
    exact ⟨v, w, rfl, Rep.extW e n.1 h1, Reps.extW e n.2 h2⟩
end
def wk1 : Option D → Option D
  | some d => if d.nl = true then some d else none
  | none => none
def wk (ρ : DSt) : DSt := ρ.map wk1
theorem AbsS.wk {W : Wd} {M M' : Mp} {H H' : Hp} {ρ : DSt} {σ : L2.St} (h : AbsS W M H ρ σ) (e : ExtW H H') : AbsS W M' H' (wk ρ) σ := by
  refine ⟨by rw [Ow.wk, List.length_map]; exact h.1, fun i d q => ?_⟩
  rw [Ow.wk, List.getElem?_map] at q
  cases z : ρ[i]? with
  | none => rw [z] at q; cases q
  | some o =>
    rw [z] at q
    have q := Option.some.inj q
    cases o with
    | none => cases q
    | some d0 =>
      unfold wk1 at q
      by_cases hn : d0.nl = true
      · simp only [hn, if_true] at q
        cases q
        obtain ⟨v, h1, h2⟩ := h.2 i _ z
        exact ⟨v, h1, h2.extW e hn⟩
      · simp only [hn] at q
        cases q
/-- no exception -/
def noX : EX := fun _ _ _ => False
theorem takes_no {X : Cx} : Takes X (upW (wd X) noX) := fun u s' ⟨_, _, _, _, _, _, _, _, _, _, _, _, _, _, _, _, ⟨_, _, _, _, _, _, h⟩⟩ => h.elim
/-! ### what a def promises -/
abbrev DSp := List D → Mp → QE → (XD → Mp → Prop) → Prop
structure FnG (P : Program) (w : World) (K : PySem.W.Frag) (mg : Str → Option Value) (base : Heap) (k : Nat) (f : Addr) (fd : FuncData) (ps : List Str) (sp : DSp) : Prop where
  len : ∀ ds M Q E, sp ds M Q E → ds.length = ps.length
  run : ∀ (A : Around) (outer : List Env) (s : Shared) (H : Hp) (args : Args) (us : List Value) (vs : List V) (ds : List D) (M : Mp) (Q : QE) (E : XD → Mp → Prop), Room k A → A.guards = some [] → Env0 P w K mg base A outer s H → BindsTo s fd args (ps.zip us) → Vals vs us →
    AbsM ⟨K, mg⟩ M H → Reps ⟨K, mg⟩ M H ds vs → sp ds M Q E → codeAny (model P w) A (.call (.ref f) args) (CR (CX P w) outer P w H s (lft ⟨K, mg⟩ M H Q) (lftX ⟨K, mg⟩ E)) s
structure FI where
  name : Str
  n : Nat
  sp : DSp
/-- the promise of a class: its __init__'s, on a new instance -/
def mkSp (c : Str) (spI : DSp) : DSp := fun ds M Q E => ∀ x, M x = none → spI (.ref x :: ds) (M.upd x (.ins c [])) (fun d M' => d = .non ∧ Q (.ref x) M') E
/-- a call of f keeps the promise: f a def, or a class with its __init__ -/
def RunV (X : Cx) (f : Addr) (sp : DSp) : Prop :=
  (∃ (fd : FuncData) (ps : List Str) (k : Nat), FnG X.prog X.w X.K X.mg X.base k f fd ps sp ∧ Room k X.A ∧ Binds X.K fd ps []) ∨
  (∃ (c : Str) (fI : Addr) (fd : FuncData) (ps : List Str) (k : Nat) (spI : DSp), X.mg c = some (.ref f) ∧ Mk X.K f fI ∧ FnG X.prog X.w X.K X.mg X.base k fI fd ps spI ∧ Room (k + 1) X.A ∧ Binds X.K fd ps [] ∧ ∀ ds M Q E, sp ds M Q E → mkSp c spI ds M Q E)
/-- what is named fi.name stands and keeps its promise -/
def FOk (X : Cx) (fi : FI) : Prop := ∃ f : Addr, X.mg fi.name = some (.ref f) ∧ PySem.W.keepIn X.K (.ref f) = true ∧ RunV X f fi.sp
section
variable {X : Cx} {E : EX} {fi : FI} {es : List Expr} {t : DTA} {p pos : Pos}
theorem run_G {f : Addr} {fd : FuncData} {ps : List Str} {k : Nat} {sp : DSp} {pins : List (Addr × Obj)} {σ : L2.St} {H : Hp} {s : Shared} {ρ : DSt} {M : Mp} {ds : List D} {vs : List V} {us : List Value} {Q : QE} (tk : Takes X (upW (wd X) E))
    (F : FnG X.prog X.w X.K X.mg X.base k f fd ps sp) (hr : Room k X.A) (hg : X.A.guards = some []) (hb : Binds X.K fd ps []) (I : Inv X pins σ H s) (S : AbsS (wd X) M H ρ σ) (A : AbsM (wd X) M H) (rv : Vals vs us) (r : Reps (wd X) M H ds vs)
    (q : sp ds M Q (fun x M' => E x (wk ρ) M')) : wpAny (model X.prog X.w) X.A (call (.ref f) us) (EP X pins σ (lft (wd X) M H Q)) X.xe s := by
  have hl : us.length = ps.length := by rw [← rv.length, ← r.length]; exact F.len _ _ _ _ q
  have hbd : BindsTo s fd ⟨us, []⟩ (ps.zip us) := by simpa using hb s us I.kIn (by simpa using hl)
  refine wpAny_call (codeAny_mono (F.run X.A X.stack s H ⟨us, []⟩ us vs ds M Q _ hr hg I.env0 hbd rv A r q) fun res s' z => ?_)
  match res, z with
  | .ok (.ret u), z => exact I.after z
  | .ok .next, z => exact z.elim
  | .ok .brk, z => exact z.elim
  | .ok .cont, z => exact z.elim
  | .error e, z =>
    obtain ⟨a, B, H', cls, d, e1, e2, e3, ub, e5, e6, e7, ⟨x, M', A', rx, ex⟩⟩ := z
    exact tk e s' (XE.of_call I (E := fun cls d H' => ∃ x M', ExtW H H' ∧ AbsM (wd X) M' H' ∧ RepX (wd X) M' H' x cls d ∧ E x (Ow.wk ρ) M') (fun cls d H' ⟨x, M', xt, A', rx, ex⟩ => ⟨x, Ow.wk ρ, M', S.wk xt, A', rx, ex⟩)
      ⟨a, B, H', cls, d, e1, e2, e3, ub, e5, e6, e7, x, M', ⟨ub.tups, ub.frzs⟩, A', rx, ex⟩)
theorem run_make' {pins : List (Addr × Obj)} {σ : L2.St} {H : Hp} {s : Shared} {ρ : DSt} {M : Mp} {ds : List D} {vs : List V} {us : List Value} {Q : QE} {C fI : Addr} {c : Str} {fd : FuncData} {ps : List Str} {k : Nat} {spI : DSp} (hm : X.mg c = some (.ref C)) (Mk0 : Mk X.K C fI) (F : FnG X.prog X.w X.K X.mg X.base k fI fd ps spI) (hr : Room (k + 1) X.A) (hb : Binds X.K fd ps []) (tk : Takes X (upW (wd X) E)) (gd : X.A.guards = some []) (I : Inv X pins σ H s) (S : AbsS (wd X) M H ρ σ) (A : AbsM (wd X) M H) (rv : Vals vs us) (r : Reps (wd X) M H ds vs) (q : mkSp c spI ds M Q (fun x M' => E x (wk ρ) M')) :
    wpAny (model X.prog X.w) X.A (call (.ref C) us) (EP X pins σ (lft (wd X) M H Q)) X.xe s := by
  have e1 : H s.heap.objs.size = none := I.hok.fresh (Nat.le_refl _)
  have e2 : H (s.heap.objs.size + 1) = none := I.hok.fresh (Nat.le_succ _)
  have I2 := Inv.made (C := C) I
  have ne : s.heap.objs.size ≠ s.heap.objs.size + 1 := Nat.ne_of_lt (Nat.lt_succ_self _)
  have A1 : AbsM (wd X) M (upd H s.heap.objs.size (.own (s.heap.objs.size + 1))) := A.fresh e1
  have x1 : Ext (wd X) M H M (upd H s.heap.objs.size (.own (s.heap.objs.size + 1))) := Ext.fresh e1
  have e3 : upd H s.heap.objs.size (.own (s.heap.objs.size + 1)) (s.heap.objs.size + 1) = none := by rw [upd_ne ne.symm]; exact e2
  have hMx : M (s.heap.objs.size + 1) = none := A.free e2
  have x2 : Ext (wd X) M (upd H s.heap.objs.size (.own (s.heap.objs.size + 1))) (M.upd (s.heap.objs.size + 1) (.ins c [])) (upd (upd H s.heap.objs.size (.own (s.heap.objs.size + 1))) (s.heap.objs.size + 1) (.ins C s.heap.objs.size [])) := Ext.freshM A1 e3
  have A2 : AbsM (wd X) (M.upd (s.heap.objs.size + 1) (.ins c [])) (upd (upd H s.heap.objs.size (.own (s.heap.objs.size + 1))) (s.heap.objs.size + 1) (.ins C s.heap.objs.size [])) := AbsM.freshM A1 e3 ⟨C, s.heap.objs.size, [], [], hm, upd_same, rfl, rfl, rfl⟩
  have q' := q _ hMx
  have S2 := (S.ext x1).ext x2
  have hl : (Value.ref (s.heap.objs.size + 1) :: us).length = ps.length := by
    rw [List.length_cons, ← rv.length, ← r.length]
    exact F.len _ _ _ _ q'
  have gd' : (X.A.under (.builtin "type.__call__" ⟨.ref C :: us, []⟩)).guards = some [] := by
    first | exact gd | (simpa [Around.under] using gd)
  refine wpAny_call (make_map (f := fI) I.kIn Mk0.makes Mk0.init (beq_iff_eq.mp Mk0.fn) (codeAny_mono (F.run _ X.stack _ _ ⟨Value.ref (s.heap.objs.size + 1) :: us, []⟩ (Value.ref (s.heap.objs.size + 1) :: us) (V.ref (s.heap.objs.size + 1) :: vs) (.ref (s.heap.objs.size + 1) :: ds) (M.upd (s.heap.objs.size + 1) (.ins c [])) _ _ (hr.make C us []) gd' (I2.env0.make C us []) (by simpa using hb _ (Value.ref (s.heap.objs.size + 1) :: us) I2.kIn (by simpa using hl)) (.cons rfl rv) A2 ⟨_, _, rfl, rfl, (r.ext x1).ext x2⟩ q') fun res s' z => ?_))
  match res, z with
  | .ok (.ret u), z =>
    obtain ⟨v, H', I3, rv', d, M', xt, rd, A', hd, hq⟩ := I2.after z
    subst hd
    cases rd
    refine ⟨rv', V.ref (s.heap.objs.size + 1), H', I3, rfl, .ref (s.heap.objs.size + 1), M', (x1.trans x2).trans xt, rfl, A', hq⟩
  | .ok .next, z => exact z.elim
  | .ok .brk, z => exact z.elim
  | .ok .cont, z => exact z.elim
  | .error e, z =>
    obtain ⟨a, B, H', cls, d, e1, e2, e3, ub, e5, e6, e7, ⟨x, M', A', rx, ex⟩⟩ := z
    exact tk e s' (XE.of_call I2 (E := fun cls d H' => ∃ x M', ExtW _ H' ∧ AbsM (wd X) M' H' ∧ RepX (wd X) M' H' x cls d ∧ E x (Ow.wk ρ) M') (fun cls d H' ⟨x, M', xt, A', rx, ex⟩ => ⟨x, Ow.wk ρ, M', S2.wk xt, A', rx, ex⟩)
      ⟨a, B, H', cls, d, e1, e2, e3, ub, e5, e6, e7, x, M', ⟨ub.tups, ub.frzs⟩, A', rx, ex⟩)
theorem RunV.fn {f : Addr} {fd : FuncData} {ps : List Str} {k : Nat} {sp : DSp} (F : FnG X.prog X.w X.K X.mg X.base k f fd ps sp) (hr : Room k X.A) (hb : Binds X.K fd ps []) : RunV X f sp := .inl ⟨fd, ps, k, F, hr, hb⟩
theorem RunV.go {f : Addr} {sp : DSp} (R : RunV X f sp) (E : EX) (pins : List (Addr × Obj)) (σ : L2.St) (H : Hp) (s : Shared) (ρ : DSt) (M : Mp) (ds : List D) (vs : List V) (us : List Value) (Q : QE) (tk : Takes X (upW (wd X) E)) (gd : X.A.guards = some []) (I : Inv X pins σ H s) (S : AbsS (wd X) M H ρ σ) (A : AbsM (wd X) M H) (rv : Vals vs us) (r : Reps (wd X) M H ds vs)
    (q : sp ds M Q (fun x M' => E x (wk ρ) M')) : wpAny (model X.prog X.w) X.A (call (.ref f) us) (EP X pins σ (lft (wd X) M H Q)) X.xe s := by
  rcases R with ⟨fd, ps, k, F, hr, hb⟩ | ⟨c, fI, fd, ps, k, spI, hm, m, F, hr, hb, h⟩
  · exact run_G tk F hr gd hb I S A rv r q
  · exact run_make' hm m F hr hb tk gd I S A rv r (h _ _ _ _ q)
theorem DE.call0 {x : Str} (tk : Takes X (upW (wd X) E)) (F : FOk X fi) (hx : fi.name = x) (gd : X.A.guards = some []) (hg : Gl X x) (hd : (x == ("__debug__" : Str)) = false) :
    DE X (.Call (.Name x p) [] [] pos) (fun ρ M Q => fi.sp [] M Q (fun x M' => E x (wk ρ) M')) := by
  subst hx
  refine ⟨fun σ H ρ M Q S A z pins s I => ?_⟩
  obtain ⟨f, hm, kp, G⟩ := F
  refine wpAny_Call_Name_kw (ld_glob I hg hm ?_ hd)
  exact PySem.W.callWith_K0 I.kIn kp (G.go E pins σ H s ρ M [] [] [] Q tk gd I S A .nil rfl z)
theorem DE.call {x : Str} {e : Expr} (tk : Takes X (upW (wd X) E)) (F : FOk X fi) (hx : fi.name = x) (gd : X.A.guards = some []) (hg : Gl X x) (hd : (x == ("__debug__" : Str)) = false) (h : DA X (e :: es) t) (hs : (e :: es).all notStar = true) :
    DE X (.Call (.Name x p) (e :: es) [] pos) (fun ρ M Q => t ρ M fun ds M1 => fi.sp ds M1 Q (fun x M' => E x (wk ρ) M')) := by
  subst hx
  refine ⟨fun σ H ρ M Q S A z pins s I => ?_⟩
  obtain ⟨f, hm, kp, G⟩ := F
  refine wpAny_Call_Name_kw (ld_glob I hg hm ?_ hd)
  rw [List.all_cons, Bool.and_eq_true] at hs
  refine PySem.W.callWith_K (h₀ := X.base) I.ok.mod.kin kp (thn (h.to σ H ρ M _ S A z pos pins s I) fun us s1 ⟨vs, H1, I1, rv, ds, M1, xt, r, A1, q⟩ => ⟨I1.kIn, ?_⟩) (star_cons hs.1) (star_none hs.2)
  exact thn (G.go E pins σ H1 s1 ρ M1 ds vs us Q tk gd I1 (S.ext xt) A1 rv r q) fun u s2 ⟨v, H2, I2, rv2, q2⟩ => ⟨v, H2, I2, rv2, q2.trans xt⟩
/-- a call, an operator, as one transformer of values -/
def cC (X : Cx) (f : Value) : List V → Hp → VK → Prop := fun xs H Q => ∀ (pins : List (Addr × Obj)) (s : Shared) (σ : L2.St) (us : List Value), Inv X pins σ H s → Vals xs us → wpAny (model X.prog X.w) X.A (call f us) (EP X pins σ Q) X.xe s
theorem cr_cC {f : Value} : CallR X f (cC X f) := fun pins s σ H xs us Q I r h => h pins s σ us I r
theorem cC_mono {f : Value} {xs : List V} {H : Hp} {Q Q' : VK} (h : cC X f xs H Q) (m : ∀ v H', Q v H' → Q' v H') : cC X f xs H Q' := fun pins s σ us I r =>
  thn (h pins s σ us I r) fun _ _ ⟨v, H', I', rv, q⟩ => ⟨v, H', I', rv, m v H' q⟩
theorem CallD.to {f : Value} {g : List D → Mp → QE → Prop} (h : CallD X f g) {ds : List D} {vs : List V} {M : Mp} {H : Hp} {Q : QE} (A : AbsM (wd X) M H) (r : Reps (wd X) M H ds vs) (z : g ds M Q) : cC X f vs H (lft (wd X) M H Q) :=
  let ⟨_, h1, h2⟩ := h
  fun pins s σ us I rv => h1 pins s σ H vs us _ I rv (h2 ds vs M H Q A r z)
def cO (X : Cx) (f : Value → Value → Sem Value) : R2 := fun x y H Q => ∀ (pins : List (Addr × Obj)) (s : Shared) (σ : L2.St) (v u : Value), Inv X pins σ H s → RelV x v → RelV y u → wpAny (model X.prog X.w) X.A (f v u) (EP X pins σ Q) X.xe s
theorem or_cO {f : Value → Value → Sem Value} : OpR X f (cO X f) := fun pins s σ H x y v u Q I r1 r2 h => h pins s σ v u I r1 r2
theorem cO_mono {f : Value → Value → Sem Value} {x y : V} {H : Hp} {Q Q' : VK} (h : cO X f x y H Q) (m : ∀ v H', Q v H' → Q' v H') : cO X f x y H Q' := fun pins s σ v u I r1 r2 =>
  thn (h pins s σ v u I r1 r2) fun _ _ ⟨v, H', I', rv, q⟩ => ⟨v, H', I', rv, m v H' q⟩
theorem OpD.to {f : Value → Value → Sem Value} {g : D → D → Mp → QE → Prop} (h : OpD X f g) {d1 d2 : D} {x y : V} {M : Mp} {H : Hp} {Q : QE} (A : AbsM (wd X) M H) (r1 : Rep (wd X) M H d1 x) (r2 : Rep (wd X) M H d2 y) (z : g d1 d2 M Q) : cO X f x y H (lft (wd X) M H Q) :=
  let ⟨_, h1, h2⟩ := h
  fun pins s σ v u I w1 w2 => h1 pins s σ H x y v u _ I w1 w2 (h2 d1 d2 x y M H Q A r1 r2 z)
/-- a built-in, by its name -/
theorem DE.blt {x : Str} {f : Value} {g : List D → Mp → QE → Prop} {e : Expr} (hc : CallD X f g) (hf : (∃ n, f = .builtin n) ∨ ∃ n, f = .type n) (hg : Gl X x) (hm : X.mg x = none) (hv : bootBuiltins x = some f) (hn : x ≠ "__name__") (hd : (x == ("__debug__" : Str)) = false)
    (h : DA X (e :: es) t) (hs : (e :: es).all notStar = true) : DE X (.Call (.Name x p) (e :: es) [] pos) (fun ρ M Q => t ρ M fun ds M1 => g ds M1 Q) := by
  rw [List.all_cons, Bool.and_eq_true] at hs
  have key : ∀ (σ : L2.St) (H : Hp) (ρ : DSt) (M : Mp) (Q : QE), AbsS (wd X) M H ρ σ → AbsM (wd X) M H → (t ρ M fun ds M1 => g ds M1 Q) → cA X (e :: es) σ H fun vs H1 => cC X f vs H1 (lft (wd X) M H Q) :=
    fun σ H ρ M Q S A z => h.bind S A z fun vs ds M1 H1 x rp A1 S1 q => cC_mono (hc.to A1 rp q) fun v H' q' => q'.trans x
  rcases hf with ⟨n, rfl⟩ | ⟨n, rfl⟩
  · exact DE.of (pe_callB cr_cC hg hm hv pa_cA hn hd (star_cons hs.1) (star_none hs.2)) key
  · exact DE.of (pe_callTy cr_cC hg hm hv pa_cA hn hd (star_cons hs.1) (star_none hs.2)) key
section
variable {a b c : Expr} {ta tb tc : DTE}
theorem DE.bin {op : Operator} {g : D → D → Mp → QE → Prop} (ho : OpD X (binaryOp op) g) (ha : DE X a ta) (hb : DE X b tb) :
    DE X (.BinOp a op b pos) (fun ρ M Q => ta ρ M fun d1 M1 => tb ρ M1 fun d2 M2 => g d1 d2 M2 Q) := by
  refine DE.of (pe_op or_cO pe_cT pe_cT) fun σ H ρ M Q S A z => ?_
  exact ha.bind S A z fun v d M1 H1 x r A1 S1 q => hb.bind S1 A1 q fun u d2 M2 H2 x2 r2 A2 S2 q2 => cO_mono (ho.to A2 (r.ext x2) r2 q2) fun _ _ q' => (q'.trans x2).trans x
theorem DE.cmp {op : CmpOp} {g : D → D → Mp → QE → Prop} (ho : OpD X (compareOp op) g) (ha : DE X a ta) (hb : DE X b tb) (hm : behindInMarks op b = false) :
    DE X (.Compare a [op] [b] pos) (fun ρ M Q => ta ρ M fun d1 M1 => tb ρ M1 fun d2 M2 => g d1 d2 M2 Q) := by
  refine DE.of (pe_cmpR or_cO pe_cT pe_cT hm) fun σ H ρ M Q S A z => ?_
  exact ha.bind S A z fun v d M1 H1 x r A1 S1 q => hb.bind S1 A1 q fun u d2 M2 H2 x2 r2 A2 S2 q2 => cO_mono (ho.to A2 (r.ext x2) r2 q2) fun _ _ q' => (q'.trans x2).trans x
/-- a op b op' c -/
@[simp] def chnD (tc : Mp → QE → Prop) (g' : D → D → Mp → QE → Prop) (d2 : D) (Q : QE) (d : D) (M : Mp) : Prop := match d with
  | .bl true => tc M fun d3 M3 => g' d2 d3 M3 Q
  | .bl false => Q (.bl false) M
  | _ => False
theorem DE.chn {op op' : CmpOp} {g g' : D → D → Mp → QE → Prop} (ho : OpD X (compareOp op) g) (ho' : OpD X (compareOp op') g') (ha : DE X a ta) (hb : DE X b tb) (hc : DE X c tc) (hm : lastMarks [op, op'] [b, c] = false) :
    DE X (.Compare a [op, op'] [b, c] pos) (fun ρ M Q => ta ρ M fun d1 M1 => tb ρ M1 fun d2 M2 => g d1 d2 M2 (chnD (tc ρ) g' d2 Q)) := by
  refine DE.of (pe_chain or_cO or_cO pe_cT pe_cT pe_cT hm) fun σ H ρ M Q S A z => ?_
  refine ha.bind S A z fun v d M1 H1 x r A1 S1 q => hb.bind S1 A1 q fun u d2 M2 H2 x2 r2 A2 S2 q2 => cO_mono (ho.to A2 (r.ext x2) r2 q2) ?_
  rintro w H3 ⟨d3, M3, x3, r3, A3, q3⟩
  unfold chnD at q3
  split at q3
  · refine ⟨true, r3, ?_⟩
    rw [if_pos rfl]
    exact hc.bind (S2.ext x3) A3 q3 fun y d4 M4 H4 x4 r4 A4 S4 q4 => cO_mono (ho'.to A4 ((r2.ext x3).ext x4) r4 q4) fun _ _ q' => (((q'.trans x4).trans x3).trans x2).trans x
  · refine ⟨false, r3, ?_⟩
    rw [if_neg Bool.false_ne_true]
    exact ⟨.bl false, M3, ((x.trans x2).trans x3), rfl, A3, q3⟩
  · exact q3.elim
end
end
/-! ### targets -/
inductive CT where
  | nm (i : Nat) | tup (l : List CT)
mutual
def CT.g (K : PySem.W.Frag) : CT → TG
  | .nm i => gName i
  | .tup l => gTup K l.length (CT.gs K l)
def CT.gs (K : PySem.W.Frag) : List CT → TGs
  | [] => gNil
  | t :: ts => gCons (CT.g K t) (CT.gs K ts)
end
mutual
/-- the slots that a target stores -/
def CT.at : CT → List Nat
  | .nm i => [i]
  | .tup l => CT.ats l
def CT.ats : List CT → List Nat
  | [] => []
  | t :: ts => CT.at t ++ CT.ats ts
end
mutual
@[simp] def bindT : CT → D → DSt → (DSt → Prop) → Prop
  | .nm i, d, ρ, K => K (ρ.set i (some d))
  | .tup ts, d, ρ, K => match d with
    | .tup l => bindTs ts l ρ K
    | _ => False
@[simp] def bindTs : List CT → List D → DSt → (DSt → Prop) → Prop
  | [], l, ρ, K => match l with
    | [] => K ρ
    | _ :: _ => False
  | t :: ts, l, ρ, K => match l with
    | [] => False
    | d :: ds => bindT t d ρ fun ρ' => bindTs ts ds ρ' K
end
end Ow

namespace Ow
open PySem PySem.Spec PyProof.Rows L2
section
variable {X : Cx} {a b c : Expr} {es : List Expr} {ta tb tc : DTE} {t : DTA} {p pos : Pos}
theorem DE.imp {e : Expr} {t t' : DTE} (h : DE X e t) (m : ∀ ρ M Q, t' ρ M Q → t ρ M Q) : DE X e t' := ⟨fun σ H ρ M Q S A z => h.to σ H ρ M Q S A (m ρ M Q z)⟩
/-! ### names and constants -/
theorem DE.var {i : Nat} {x : Str} (hN : X.N[i]? = some x) (hv : Vis X.env.scope x) (hd : (x == ("__debug__" : Str)) = false) (hcd : (x == ("__classdict__" : Str)) = false) :
    DE X (.Name x p) (fun ρ M Q => match ρ[i]? with
      | some (some d) => Q d M
      | _ => False) := by
  refine DE.of (pe_var hN hv hd hcd) fun σ H ρ M Q S A z => ?_
  split at z
  · rename_i d e
    obtain ⟨v, h1, h2⟩ := S.2 i d e
    exact ⟨v, h1, lft.pure A h2 z⟩
  · exact z.elim
theorem DE.int {i : Int} {j : Nat} : DE X (.Constant (.int i) j p) (fun _ M Q => Q (.int i) M) := DE.of pe_int fun σ H ρ M Q S A z => lft.int A z
theorem DE.bl {i : Bool} {j : Nat} : DE X (.Constant (.bool i) j p) (fun _ M Q => Q (.bl i) M) := DE.of pe_bl fun σ H ρ M Q S A z => lft.bl A z
theorem DE.non {j : Nat} : DE X (.Constant .none j p) (fun _ M Q => Q .non M) := DE.of pe_non fun σ H ρ M Q S A z => lft.non A z
theorem DE.str {i : Str} {j : Nat} : DE X (.Constant (.str i) j p) (fun _ M Q => Q (.str i) M) := DE.of pe_str fun σ H ρ M Q S A z => lft.str A z
/-- a constant of the module -/
theorem DE.glb {x : Str} {d : D} {v : V} {u : Value} (hg : Gl X x) (hm : X.mg x = some u) (rv : RelV v u) (r : ∀ M H, AbsM (wd X) M H → Rep (wd X) M H d v) (hd : (x == ("__debug__" : Str)) = false) : DE X (.Name x p) (fun _ M Q => Q d M) :=
  DE.of (pe_glob hg hm rv hd) fun σ H ρ M Q S A z => lft.pure A (r M H A) z
theorem DE.neg (ha : DE X a ta) : DE X (.UnaryOp .USub a pos) (fun ρ M Q => ta ρ M fun d M1 => match d with
    | .int i => Q (.int (-i)) M1
    | _ => False) := by
  refine DE.of (pe_un un_neg pe_cT) fun σ H ρ M Q S A z => ha.bind S A z fun v d M1 H1 x r A1 S1 q => ?_
  split at q
  · exact ⟨_, r, (lft.int A1 q).trans x⟩
  · exact q.elim
/-! ### displays, subscripts -/
theorem DE.tup {k : Nat} (h : DA X es t) : DE X (.Tuple es k pos) (fun ρ M Q => t ρ M fun ds M1 => ds.length ≤ sizeLine ∧ Q (.tup ds) M1) := by
  refine DE.of (pe_tup pa_cA) fun σ H ρ M Q S A z => h.bind S A z fun vs ds M1 H1 x r A1 S1 q => ?_
  exact ⟨by rw [← r.length]; exact q.1, fun p hp => (lft.newT A1 r hp q.2).trans x⟩
theorem DE.lst (h : DA X es t) : DE X (.List es pos) (fun ρ M Q => t ρ M fun ds M1 => ds.length ≤ sizeLine ∧ Q (.lst ds) M1) := by
  refine DE.of (pe_lst pa_cA) fun σ H ρ M Q S A z => h.bind S A z fun vs ds M1 H1 x r A1 S1 q => ?_
  exact ⟨by rw [← r.length]; exact q.1, fun p hp => (lft.newL A1 r hp q.2).trans x⟩
theorem DE.lstM (h : DA X es t) : DE X (.List es pos) (fun ρ M Q => t ρ M fun ds M1 => ds.length ≤ sizeLine ∧ ∀ p, M1 p = none → Q (.ref p) (M1.upd p (.lst ds))) := by
  refine DE.of (pe_lst pa_cA) fun σ H ρ M Q S A z => h.bind S A z fun vs ds M1 H1 x r A1 S1 q => ?_
  exact ⟨by rw [← r.length]; exact q.1, fun p hp => (lft.newM A1 r hp (q.2 p)).trans x⟩
/-- x[i] -/
def dgetD (x i : D) (M : Mp) (Q : QE) : Prop := match getDic M x i with
  | some (some d) => Q d M
  | _ => False
def ixD (x i : D) (M : Mp) (Q : QE) : Prop := match x, i with
  | .str s, .int k => s.length ≤ sizeLine ∧ (match atI s.cps.toList k with
    | some c => Q (.str ⟨#[c]⟩) M
    | none => False)
  | x, .int k => match seqIn M x with
    | some l => (match atI l k with
      | some d => Q d M
      | none => False)
    | none => dgetD x (.int k) M Q
  | x, i => dgetD x i M Q
theorem ix_dict {X : Cx} (hu : X.A.units + 1 < cLine) : IxR X (fun x y H Q => ∃ a v, x = .ref a ∧ DGet H a y (some v) ∧ Q v H) := by
  intro value slice pins s σ H x y v u Q I rx ry h hs
  obtain ⟨a, d, rfl, g, q⟩ := h
  cases rx
  have hT := dict_typeIs I g
  unfold subscriptTail
  refine wpAny_bind ?_
  rw [getitemInPython_of_ne hT.not_modules]
  refine wpAny_bind (wpAny_specialOf hT PySem.F.slot_dict_getitem.lookup ?_)
  have fin : wpAny (model X.prog X.w) X.A (subscripted slice false (.ref a) u) (fun r s₃ => wpAny (model X.prog X.w) X.A (letTemporaryGo value (.ref a) r >>= fun _ => pure r) (EP X pins σ Q) X.xe s₃) X.xe s := by
    rw [hs]
    exact wpAny_operating (d_getItem hu I g ry fun w' s3 I3 rw' => wpAny_bind (wpAny_letTemporaryGo (wpAny_pure ⟨d, H, I3, rw', q⟩)))
  first
    | exact wpAny_pure (wpAny_bind fin)
    | exact wpAny_bind (wpAny_pure (wpAny_bind fin))
    | exact wpAny_bind fin
theorem atI_reps {W : Wd} {M : Mp} {H : Hp} {l : List D} {xs : List V} {k : Int} {d : D} (r : Reps W M H l xs) (h : atI l k = some d) : ∃ v, atI xs k = some v ∧ Rep W M H d v := by
  unfold atI at h ⊢
  rw [← r.length]
  cases q : ixN l.length k with
  | none => rw [q] at h; cases h
  | some j =>
    rw [q] at h
    exact r.get h
def notSlice (e : Expr) : Bool := match e with | .Slice .. => false | _ => true
theorem plain_ix {e : Expr} (h : notSlice e = true) : PlainIx e := by
  intro o i
  cases e <;> first | rfl | cases h
theorem DE.ix (hu : X.A.units + 1 < cLine) (ha : DE X a ta) (hb : DE X b tb) (hs : notSlice b = true) : DE X (.Subscript a b pos) (fun ρ M Q => ta ρ M fun d1 M1 => tb ρ M1 fun d2 M2 => ixD d1 d2 M2 Q) := by
  refine DE.of (pe_ix (IxR.or ix_seq (ix_dict hu)) pe_cT pe_cT (plain_ix hs)) fun σ H ρ M Q S A z => ?_
  refine ha.bind S A z fun v d M1 H1 x r A1 S1 q => hb.bind S1 A1 q fun u d2 M2 H2 x2 r2 A2 S2 q2 => ?_
  have r' := r.ext x2
  have dic : ∀ {i : D}, Rep (wd X) M2 H2 i u → dgetD d i M2 Q → (∃ a w, v = V.ref a ∧ DGet H2 a u (some w) ∧ lft (wd X) M H Q w H2) := by
    intro i ri z
    unfold dgetD at z
    split at z
    · rename_i d' e
      obtain ⟨a, r, rfl, g, _, n2⟩ := getDic_rep A2 r' ri e
      obtain ⟨w, rfl, rw'⟩ := n2 d' rfl
      exact ⟨a, w, rfl, g, ((lft.pure A2 rw' z).trans x2).trans x⟩
    · exact z.elim
  unfold ixD at q2
  split at q2
  · rename_i s k
    obtain ⟨hz, q2⟩ := q2
    split at q2
    · rename_i c hc
      exact .inl (.inr (.inr ⟨s, k, c, r', r2, hz, hc, ((lft.str A2 q2).trans x2).trans x⟩))
    · exact q2.elim
  · rename_i k hn
    split at q2
    · rename_i l e
      split at q2
      · rename_i d' hd
        obtain ⟨p, xs, rfl, s, rs⟩ := seqIn_rep A2 r' e
        obtain ⟨w, h1, h2⟩ := atI_reps rs hd
        have fin := ((lft.pure A2 h2 q2).trans x2).trans x
        rcases s with s | s
        · exact .inl (.inl ⟨p, xs, k, w, rfl, r2, s, h1, fin⟩)
        · exact .inl (.inr (.inl ⟨p, xs, k, w, rfl, r2, s, h1, fin⟩))
      · exact q2.elim
    · exact .inr (dic r2 q2)
  · exact .inr (dic r2 q2)
/-- x[lo:hi] -/
def cutD (l : List D) (lo hi : Option Int) : List D := (l.drop (HT.sIx l.length 0 lo)).take (HT.sIx l.length l.length hi - HT.sIx l.length 0 lo)
def slD (fz : Bool) (x : D) (lo hi : Option Int) (M : Mp) (Q : QE) : Prop := match x with
  | .str s => s.length ≤ sizeLine ∧ Q (.str (cutS s lo hi)) M
  | .tup l => Q (.tup (cutD l lo hi)) M
  | x => match listIn M x with
    | some l => if fz = true then Q (.lst (cutD l lo hi)) M else ∀ p, M p = none → Q (.ref p) (M.upd p (.lst (cutD l lo hi)))
    | none => False
theorem cut_reps {W : Wd} {M : Mp} {H : Hp} {l : List D} {xs : List V} {lo hi : Option Int} (r : Reps W M H l xs) : Reps W M H (cutD l lo hi) (cutV xs lo hi) := by
  unfold cutD cutV
  rw [r.length]
  exact (r.drop _).take _
theorem cut_all {l : List D} {lo hi : Option Int} (h1 : HT.sIx l.length 0 lo = 0) (h2 : HT.sIx l.length l.length hi = l.length) : cutD l lo hi = l := by
  unfold cutD
  rw [h1, h2, List.drop_zero, Nat.sub_zero, List.take_length]
/-- a bound of a slice, as data -/
structure DP (X : Cx) (e : Option Expr) (t : DSt → Mp → (Option Int → Mp → Prop) → Prop) : Prop where
  to : ∃ tp : L2.TO, PO X e tp ∧ ∀ (σ : L2.St) (H : Hp) (ρ : DSt) (M : Mp) (Q : Option Int → Mp → Prop) (R : Option Int → Hp → Prop), AbsS (wd X) M H ρ σ → AbsM (wd X) M H → t ρ M Q →
    (∀ o M1 H1, Ext (wd X) M H M1 H1 → AbsM (wd X) M1 H1 → Q o M1 → R o H1) → tp σ H R
theorem DP.none : DP X none (fun _ M Q => Q none M) := ⟨_, po_none, fun σ H ρ M Q R S A z k => k Option.none M H Ext.refl A z⟩
theorem DP.some (ha : DE X a ta) : DP X (some a) (fun ρ M Q => ta ρ M fun d M1 => match d with
    | .int i => Q (some i) M1
    | _ => False) := by
  refine ⟨_, po_some pe_cT, fun σ H ρ M Q R S A z k => ?_⟩
  refine ha.bind S A z fun v d M1 H1 x r A1 S1 q => ?_
  split at q
  · exact ⟨_, r, k _ _ _ x A1 q⟩
  · exact q.elim
theorem DE.sl {fz : Bool} {lo hi : Option Expr} {tl th : DSt → Mp → (Option Int → Mp → Prop) → Prop} {p2 : Pos} (ha : DE X a ta) (hl : DP X lo tl) (hh : DP X hi th) :
    DE X (.Subscript a (.Slice lo hi none p2) pos) (fun ρ M Q => ta ρ M fun d M1 => tl ρ M1 fun l M2 => th ρ M2 fun h M3 => slD fz d l h M3 Q) := by
  obtain ⟨tp1, o1, f1⟩ := hl.to
  obtain ⟨tp2, o2, f2⟩ := hh.to
  refine DE.of (pe_slice (SlR.or sl_str (SlR.or sl_tupA sl_list)) pe_cT o1 o2) fun σ H ρ M Q S A z => ?_
  refine ha.bind S A z fun v d M1 H1 x r A1 S1 q => f1 _ _ _ _ _ _ S1 A1 q fun l M2 H2 x2 A2 q2 => f2 _ _ _ _ _ _ (S1.ext x2) A2 q2 fun h M3 H3 x3 A3 q3 => ?_
  have r' := (r.ext x2).ext x3
  have up : ∀ {w : V} {H4 : Hp}, lft (wd X) M3 H3 Q w H4 → lft (wd X) M H Q w H4 := fun q => ((q.trans x3).trans x2).trans x
  unfold slD at q3
  split at q3
  · exact .inl ⟨_, r', q3.1, up (lft.str A3 q3.2)⟩
  · rename_i l'
    obtain ⟨p, xs, rfl, s, rs⟩ := r'
    refine .inr (.inl ⟨p, xs, rfl, s, fun ⟨c1, c2⟩ => ?_, fun _ p hp => up (lft.newT A3 (cut_reps rs) hp q3)⟩)
    rw [← rs.length] at c1 c2
    rw [cut_all c1 c2] at q3
    exact up (lft.pure A3 (d := .tup l') ⟨p, xs, rfl, s, rs⟩ q3)
  · split at q3
    · rename_i l' e
      obtain ⟨p, xs, rfl, s, rs⟩ := listIn_rep A3 r' e
      refine .inr (.inr ⟨p, xs, rfl, SqL.of s, fun p hp => up ?_⟩)
      cases fz with
      | true => exact lft.newL A3 (cut_reps rs) hp q3
      | false => exact lft.newM A3 (cut_reps rs) hp (q3 p)
    · exact q3.elim
/-! ### tests -/
abbrev DTT := DSt → Mp → (Bool → Mp → Prop) → Prop
structure DC (X : Cx) (e : Expr) (t : DTT) : Prop where
  to : ∃ tt : TT, PT X e tt ∧ ∀ (σ : L2.St) (H : Hp) (ρ : DSt) (M : Mp) (Q : Bool → Mp → Prop) (R : Bool → Hp → Prop), AbsS (wd X) M H ρ σ → AbsM (wd X) M H → t ρ M Q →
    (∀ k M1 H1, Ext (wd X) M H M1 H1 → AbsM (wd X) M1 H1 → Q k M1 → R k H1) → tt σ H R
/-- .. whatever the whole is (and, or) -/
structure DW (X : Cx) (e : Expr) (t : DTT) : Prop where
  to : ∃ tt : TT, PW X e tt ∧ ∀ (σ : L2.St) (H : Hp) (ρ : DSt) (M : Mp) (Q : Bool → Mp → Prop) (R : Bool → Hp → Prop), AbsS (wd X) M H ρ σ → AbsM (wd X) M H → t ρ M Q →
    (∀ k M1 H1, Ext (wd X) M H M1 H1 → AbsM (wd X) M1 H1 → Q k M1 → R k H1) → tt σ H R
theorem DW.dc {e : Expr} {t : DTT} (h : DW X e t) : DC X e t := let ⟨tt, h1, h2⟩ := h.to; ⟨tt, h1.pt, h2⟩
/-- by the value's truth -/
def testD (t : DTE) : DTT := fun ρ M Q => t ρ M fun d M1 => truD d M1 fun k => Q k M1
def simpleTest (e : Expr) : Bool := match e with | .UnaryOp .. => false | .BoolOp .. => false | .IfExp .. => false | .Compare .. => false | _ => true
theorem DC.truth (ha : DE X a ta) (hs : simpleTest a = true) : DC X a (testD ta) := by
  refine ⟨_, pt_truth pe_cT (fun whole => by cases a <;> first | rfl | cases hs), fun σ H ρ M Q R S A z k => ?_⟩
  refine ha.bind S A z fun v d M1 H1 x r A1 S1 q => ?_
  obtain ⟨b, h1, h2⟩ := tru_rep r q
  exact ⟨b, h1, k b M1 H1 x A1 h2⟩
theorem DC.cmp {op : CmpOp} {g : D → D → Mp → QE → Prop} (ho : OpD X (compareOp op) g) (ha : DE X a ta) (hb : DE X b tb) (hm : behindInMarks op b = false) (bl : ∀ d1 d2 M Q, g d1 d2 M Q → g d1 d2 M fun d M' => (∃ k, d = .bl k) ∧ Q d M') :
    DC X (.Compare a [op] [b] pos) (testD fun ρ M Q => ta ρ M fun d1 M1 => tb ρ M1 fun d2 M2 => g d1 d2 M2 Q) := by
  refine ⟨_, pt_cmpR or_cO pe_cT pe_cT hm, fun σ H ρ M Q R S A z k => ?_⟩
  refine ha.bind S A z fun v d M1 H1 x r A1 S1 q => hb.bind S1 A1 q fun u d2 M2 H2 x2 r2 A2 S2 q2 => cO_mono (ho.to A2 (r.ext x2) r2 (bl _ _ _ _ q2)) ?_
  rintro w H3 ⟨d3, M3, x3, r3, A3, ⟨kk, rfl⟩, q3⟩
  exact ⟨kk, r3, k kk M3 H3 ((x.trans x2).trans x3) A3 q3⟩
theorem DC.chn {op op' : CmpOp} {g g' : D → D → Mp → QE → Prop} (ho : OpD X (compareOp op) g) (ho' : OpD X (compareOp op') g') (ha : DE X a ta) (hb : DE X b tb) (hc : DE X c tc) (hm : lastMarks [op, op'] [b, c] = false)
    (bl' : ∀ d1 d2 M Q, g' d1 d2 M Q → g' d1 d2 M fun d M' => (∃ k, d = .bl k) ∧ Q d M') :
    DC X (.Compare a [op, op'] [b, c] pos) (testD fun ρ M Q => ta ρ M fun d1 M1 => tb ρ M1 fun d2 M2 => g d1 d2 M2 (chnD (tc ρ) g' d2 Q)) := by
  refine ⟨_, pt_chain or_cO or_cO pe_cT pe_cT pe_cT hm, fun σ H ρ M Q R S A z k => ?_⟩
  refine ha.bind S A z fun v d M1 H1 x r A1 S1 q => hb.bind S1 A1 q fun u d2 M2 H2 x2 r2 A2 S2 q2 => cO_mono (ho.to A2 (r.ext x2) r2 q2) ?_
  rintro w H3 ⟨d3, M3, x3, r3, A3, q3⟩
  unfold chnD at q3
  split at q3
  · refine ⟨true, r3, ?_⟩
    rw [if_pos rfl]
    refine hc.bind (S2.ext x3) A3 q3 fun y d4 M4 H4 x4 r4 A4 S4 q4 => cO_mono (ho'.to A4 ((r2.ext x3).ext x4) r4 (bl' _ _ _ _ q4)) ?_
    rintro w H5 ⟨d5, M5, x5, r5, A5, ⟨kk, rfl⟩, q5⟩
    exact ⟨kk, r5, k kk M5 H5 ((((x.trans x2).trans x3).trans x4).trans x5) A5 q5⟩
  · refine ⟨false, r3, ?_⟩
    rw [if_neg Bool.false_ne_true]
    exact ⟨false, rfl, k false M3 H3 ((x.trans x2).trans x3) A3 q3⟩
  · exact q3.elim
theorem DC.imp {e : Expr} {t t' : DTT} (h : DC X e t) (m : ∀ ρ M Q, t' ρ M Q → t ρ M Q) : DC X e t' := let ⟨tt, h1, h2⟩ := h.to; ⟨tt, h1, fun σ H ρ M Q R S A z k => h2 σ H ρ M Q R S A (m ρ M Q z) k⟩
theorem DW.imp {e : Expr} {t t' : DTT} (h : DW X e t) (m : ∀ ρ M Q, t' ρ M Q → t ρ M Q) : DW X e t' := let ⟨tt, h1, h2⟩ := h.to; ⟨tt, h1, fun σ H ρ M Q R S A z k => h2 σ H ρ M Q R S A (m ρ M Q z) k⟩
theorem DC.never {e : Expr} : DC X e (fun _ _ _ => False) := ⟨fun _ _ _ => False, ⟨fun _ _ _ _ _ _ h => h.elim⟩, fun _ _ _ _ _ _ _ _ z _ => z⟩
theorem DC.not {ta : DTT} (ha : DC X a ta) : DC X (.UnaryOp .Not a pos) (fun ρ M Q => ta ρ M fun k M1 => Q (!k) M1) := by
  obtain ⟨tt, h1, h2⟩ := ha.to
  exact ⟨_, pt_not h1, fun σ H ρ M Q R S A z k => h2 σ H ρ M _ _ S A z fun b M1 H1 x A1 q => k _ M1 H1 x A1 q⟩
theorem DE.not (ha : DE X a ta) : DE X (.UnaryOp .Not a pos) (fun ρ M Q => ta ρ M fun d M1 => truD d M1 fun k => Q (.bl (!k)) M1) := by
  refine DE.of (pe_notT pe_cT) fun σ H ρ M Q S A z => ha.bind S A z fun v d M1 H1 x r A1 S1 q => ?_
  obtain ⟨k, h1, h2⟩ := tru_rep r q
  exact ⟨k, h1, (lft.bl A1 h2).trans x⟩
theorem DE.one {op : BoolOp} (ha : DE X a ta) : DE X (.BoolOp op [a] pos) ta := DE.of (pe_one pe_cT) fun σ H ρ M Q S A z => ha.to σ H ρ M Q S A z
theorem DE.and (ha : DE X a ta) (hb : DE X (.BoolOp .And (b :: es) pos) tb) : DE X (.BoolOp .And (a :: b :: es) pos) (fun ρ M Q => ta ρ M fun d M1 => truD d M1 fun k => if k = true then tb ρ M1 Q else Q d M1) := by
  refine DE.of (pe_andT pe_cT pe_cT) fun σ H ρ M Q S A z => ha.bind S A z fun v d M1 H1 x r A1 S1 q => ?_
  obtain ⟨k, h1, h2⟩ := tru_rep r q
  refine ⟨k, h1, ?_⟩
  cases k with
  | true => exact cT_mono (hb.to σ H1 ρ M1 Q S1 A1 h2) fun _ _ q' => q'.trans x
  | false => exact (lft.pure A1 r h2).trans x
theorem DE.or (ha : DE X a ta) (hb : DE X (.BoolOp .Or (b :: es) pos) tb) : DE X (.BoolOp .Or (a :: b :: es) pos) (fun ρ M Q => ta ρ M fun d M1 => truD d M1 fun k => if k = true then Q d M1 else tb ρ M1 Q) := by
  refine DE.of (pe_orT pe_cT pe_cT) fun σ H ρ M Q S A z => ha.bind S A z fun v d M1 H1 x r A1 S1 q => ?_
  obtain ⟨k, h1, h2⟩ := tru_rep r q
  refine ⟨k, h1, ?_⟩
  cases k with
  | false => exact cT_mono (hb.to σ H1 ρ M1 Q S1 A1 h2) fun _ _ q' => q'.trans x
  | true => exact (lft.pure A1 r h2).trans x
theorem DW.one {op : BoolOp} {ta : DTT} (ha : DC X a ta) : DW X (.BoolOp op [a] pos) ta := by
  obtain ⟨tt, h1, h2⟩ := ha.to
  cases op with
  | And => exact ⟨_, pw_and1 h1, h2⟩
  | Or => exact ⟨_, pw_or1 h1, h2⟩
theorem DW.and {ta tb : DTT} (ha : DC X a ta) (hb : DW X (.BoolOp .And (b :: es) pos) tb) : DW X (.BoolOp .And (a :: b :: es) pos) (fun ρ M Q => ta ρ M fun k M1 => if k = true then tb ρ M1 Q else Q false M1) := by
  obtain ⟨tt, h1, h2⟩ := ha.to
  obtain ⟨tu, g1, g2⟩ := hb.to
  refine ⟨_, pw_and h1 g1, fun σ H ρ M Q R S A z k => h2 σ H ρ M _ _ S A z fun b M1 H1 x A1 q => ?_⟩
  cases b with
  | true => exact g2 σ H1 ρ M1 Q R (S.ext x) A1 q fun k2 M2 H2 x2 A2 q2 => k k2 M2 H2 (x.trans x2) A2 q2
  | false => exact k false M1 H1 x A1 q
theorem DW.or {ta tb : DTT} (ha : DC X a ta) (hb : DW X (.BoolOp .Or (b :: es) pos) tb) : DW X (.BoolOp .Or (a :: b :: es) pos) (fun ρ M Q => ta ρ M fun k M1 => if k = true then Q true M1 else tb ρ M1 Q) := by
  obtain ⟨tt, h1, h2⟩ := ha.to
  obtain ⟨tu, g1, g2⟩ := hb.to
  refine ⟨_, pw_or h1 g1, fun σ H ρ M Q R S A z k => h2 σ H ρ M _ _ S A z fun b M1 H1 x A1 q => ?_⟩
  cases b with
  | false => exact g2 σ H1 ρ M1 Q R (S.ext x) A1 q fun k2 M2 H2 x2 A2 q2 => k k2 M2 H2 (x.trans x2) A2 q2
  | true => exact k true M1 H1 x A1 q
theorem DE.ife {tc : DTT} (hc : DC X c tc) (ha : DE X a ta) (hb : DE X b tb) : DE X (.IfExp c a b pos) (fun ρ M Q => tc ρ M fun k M1 => if k = true then ta ρ M1 Q else tb ρ M1 Q) := by
  obtain ⟨tt, h1, h2⟩ := hc.to
  refine DE.of (pe_ifExp h1 pe_cT pe_cT) fun σ H ρ M Q S A z => h2 σ H ρ M _ _ S A z fun k M1 H1 x A1 q => ?_
  cases k with
  | true => exact cT_mono (ha.to σ H1 ρ M1 Q (S.ext x) A1 q) fun _ _ q' => q'.trans x
  | false => exact cT_mono (hb.to σ H1 ρ M1 Q (S.ext x) A1 q) fun _ _ q' => q'.trans x
end
/-! ### isinstance, of a built-in type -/
inductive Ty where
  | int | bool | str | tuple | list | dict
def Ty.nm : Ty → Str
  | .int => "int" | .bool => "bool" | .str => "str" | .tuple => "tuple" | .list => "list" | .dict => "dict"
def Ty.ty : Ty → String
  | .int => "int" | .bool => "bool" | .str => "str" | .tuple => "tuple" | .list => "list" | .dict => "dict"
def tyD (M : Mp) : D → Option String
  | .non => some "NoneType" | .bl _ => some "bool" | .int _ => some "int" | .str _ => some "str" | .tup _ => some "tuple" | .lst _ => some "list" | .scr _ => some "list" | .dct _ _ => some "dict"
  | .ref a => match M a with
    | some (.lst _) => some "list"
    | some (.dic _) => some "dict"
    | _ => none
def isTy (t : Ty) (n : String) : Bool := n == t.ty || (n == "bool" && t.ty == "int")
def isiD (t : Ty) (d : D) (M : Mp) (Q : QE) : Prop := match tyD M d with
  | some n => Q (.bl (isTy t n)) M
  | none => False
def tyNames : List String := ["NoneType", "bool", "int", "str", "tuple", "list", "dict"]
theorem kit_tab (K : PySem.W.Frag) (t : Ty) {n : String} (h : n ∈ tyNames) : PySem.W.kitOne K (.type n) (.type t.ty) = some (isTy t n) := by
  simp only [tyNames, List.mem_cons, List.mem_nil_iff, or_false] at h
  rcases h with rfl | rfl | rfl | rfl | rfl | rfl | rfl <;> cases t <;> rfl
theorem ty_rep {W : Wd} {M : Mp} {H : Hp} {d : D} {x : V} {n : String} (A : AbsM W M H) (r : Rep W M H d x) (e : tyD M d = some n) : TyX W.K H x (.type n) ∧ n ∈ tyNames := by
  cases d with
  | non => cases e; rw [show x = _ from r]; exact ⟨.base .non, by simp [tyNames]⟩
  | bl b => cases e; rw [show x = _ from r]; exact ⟨.base (.bl b), by simp [tyNames]⟩
  | int i => cases e; rw [show x = _ from r]; exact ⟨.base (.int i), by simp [tyNames]⟩
  | str i => cases e; rw [show x = _ from r]; exact ⟨.base (.str i), by simp [tyNames]⟩
  | tup l =>
    cases e
    obtain ⟨a, xs, rfl, s, _⟩ := r
    refine ⟨?_, by simp [tyNames]⟩
    rcases s with (s | ⟨o, s⟩) | ⟨o, its, m, s, c, _⟩
    · exact .base (.tup s)
    · exact .fTuple s
    · exact .kTuple s c
  | lst l =>
    cases e
    obtain ⟨a, xs, rfl, _, s, _⟩ := r
    exact ⟨.base (.lst s), by simp [tyNames]⟩
  | dct ks l =>
    cases e
    obtain ⟨a, xs, rfl, _, s, _⟩ := r
    exact ⟨.base (.dK s), by simp [tyNames]⟩
  | scr ns =>
    cases e
    obtain ⟨a, rfl, s⟩ := r
    refine ⟨?_, by simp [tyNames]⟩
    rcases s with ⟨o, s⟩ | ⟨o, its, m, s, c, _⟩
    · exact .base (.frz s)
    · exact .kList s c
  | ref a =>
    rw [show x = _ from r]
    unfold tyD at e
    simp only at e
    split at e
    · rename_i l q
      cases e
      obtain ⟨xs, h, _⟩ := A a _ q
      exact ⟨.base (.lst h), by simp [tyNames]⟩
    · rename_i l q
      cases e
      obtain ⟨vs, h, _⟩ := A a _ q
      exact ⟨.base (.dK h), by simp [tyNames]⟩
    · cases e
theorem ty_boot (t : Ty) : bootBuiltins t.nm = some (.type t.ty) := by cases t <;> decide +kernel
theorem ty_nm (t : Ty) : t.nm ≠ "__name__" ∧ (t.nm == ("__debug__" : Str)) = false := by cases t <;> decide +kernel
theorem DE.isi {X : Cx} {e : Expr} {te : DTE} {p p2 pos : Pos} {x z : Str} (t : Ty) (he : DE X e te) (hx : x = "isinstance") (hz : z = t.nm) (hg : Gl X x) (hm : X.mg x = none) (hg2 : Gl X z) (hm2 : X.mg z = none) (hs : notStar e = true) :
    DE X (.Call (.Name x p) [e, .Name z p2] [] pos) (fun ρ M Q => te ρ M fun d M1 => isiD t d M1 Q) := by
  subst hx hz
  refine DE.of (pe_callB (id := "isinstance") call_isi hg hm (by decide +kernel) (pa_cons pe_cT (pa_cons (pe_bltn hg2 hm2 (ty_boot t) (v := .ty t.ty) rfl (ty_nm t).1 (ty_nm t).2) pa_nil) (star_cons hs)) (by decide +kernel) (by decide +kernel) (star_cons hs) (star_none rfl)) fun σ H ρ M Q S A z => ?_
  refine he.bind S A z fun v d M1 H1 x r A1 S1 q => ?_
  unfold isiD at q
  split at q
  · rename_i n hn
    obtain ⟨h1, h2⟩ := ty_rep A1 r hn
    exact ⟨v, .ty t.ty, .type n, .type t.ty, _, rfl, .ty _, h1, kit_tab _ t h2, lft.trans x (lft.bl A1 q)⟩
  · exact q.elim
/-! ### x[::-1] -/
section
variable {prog : Program} {w : World} {A : Around} {E : Value → Shared → Prop} {s : Shared}
theorem applied_rev {sl : Addr} {vl vu vs : Value} {n : Nat} {Q : Int × Int × Nat → Shared → Prop} (hs : s.heap.IsSliceOf sl vl vu vs) (pl : IsPart vl none) (pu : IsPart vu none) (ps : IsPart vs (some (-1)))
    (h : Q ((n : Int) - 1, -1, n) s) : wpAny (model prog w) A (Builtin.Slice.sliceApplied (.ref sl) (pure (n : Int))) Q E s := by
  obtain ⟨os, h1, h2, h3⟩ := id hs
  unfold Builtin.Slice.sliceApplied Builtin.Slice.sliceFields
  refine wpAny_bind (wpAny_bind (wpAny_field h1 h3 (x := vl) rfl (wpAny_bind (wpAny_field h1 h3 (x := vu) rfl (wpAny_bind (wpAny_field h1 h3 (x := vs) rfl (wpAny_pure ?_)))))))
  refine wpAny_bind (HT.slicePart_ ps ?_)
  show wpAny _ _ (if ((-1 : Int) == 0) = true then _ else _) _ _ s
  rw [if_neg (by decide)]
  refine wpAny_bind (HT.slicePart_ pl (wpAny_bind (HT.slicePart_ pu (wpAny_bind (wpAny_pure ?_)))))
  show wpAny _ _ (match Builtin.Slice.sliceAdjust none none (-1) (n : Int) with | (lo, hi) => pure (lo, (-1 : Int), Builtin.Slice.slicePlaces lo hi (-1))) _ _ s
  have e1 : Builtin.Slice.sliceAdjust none none (-1) (n : Int) = ((n : Int) - 1, -1) := by
    unfold Builtin.Slice.sliceAdjust
    simp
  have e2 : Builtin.Slice.slicePlaces ((n : Int) - 1) (-1) (-1) = n := by
    unfold Builtin.Slice.slicePlaces
    simp
    split <;> omega
  rw [e1]
  show wpAny _ _ (pure ((n : Int) - 1, (-1 : Int), Builtin.Slice.slicePlaces ((n : Int) - 1) (-1) (-1))) _ _ s
  rw [e2]
  exact wpAny_pure h
theorem fm_congr {α β : Type} {f g : α → Option β} : ∀ {l : List α}, (∀ x ∈ l, f x = g x) → l.filterMap f = l.filterMap g
  | [], _ => rfl
  | x :: l, h => by
    rw [List.filterMap_cons, List.filterMap_cons, h x List.mem_cons_self, fm_congr fun y hy => h y (List.mem_cons_of_mem _ hy)]
theorem pick_rev (xs : Array Value) : ((List.range xs.size).filterMap fun (m : Nat) => xs[(((xs.size : Int) - 1) + (m : Int) * (-1)).toNat]?).toArray = xs.toList.reverse.toArray := by
  have z := PySem.W.krv_pick xs
  unfold slicePick at z
  rw [PySem.W.krv_bounds] at z
  rw [← z]
  show _ = ((sliceRange ((xs.size : Int) - 1) (-1) (-1)).filterMap (xs[·]?)).toArray
  rw [PySem.W.krv_sliceRange, List.filterMap_map]
  refine congrArg List.toArray (fm_congr fun m hm => ?_)
  rw [List.mem_range] at hm
  simp only [Function.comp]
  congr 1
  omega
theorem tuple_rev {t sl : Addr} {items : Array Value} {vl vu vs : Value} {Q : Value → Shared → Prop} (ht : IsTup s.heap t items) (hs : s.heap.IsSliceOf sl vl vu vs) (pl : IsPart vl none) (pu : IsPart vu none) (ps : IsPart vs (some (-1)))
    (h : Q (.ref s.heap.objs.size) { s with heap := s.heap.push { cls := .type "tuple", data := .seq items.toList.reverse.toArray } }) (hsz : items.size ≤ sizeLine) : wpAny (model prog w) A (getItem (.ref t) (.ref sl)) Q E s := by
  have hok : sizeOk (.seq items.toList.reverse.toArray) := by
    show items.toList.reverse.toArray.size ≤ sizeLine
    simpa using hsz
  obtain ⟨os, hos, hcs, hds⟩ := id hs
  have hT : s.TypeIs (.ref sl) "slice" := ⟨os, hos, hcs⟩
  unfold getItem
  try with_reducible refine wpAny_holding ?_
  first | refine wpAny_bind (wpAny_pure ?_) | skip
  refine wpAny_bind (wpAny_sequenceKey ht.typeIs (by decide) ?_)
  refine wpAny_bind (wpAny_callSpecial?_slot (name := Str.ofString "__getitem__") ht.typeIs slot_tuple_getitem (wpAny_call_entry slot_tuple_getitem ht.typeIs entry_tuple_getitem ?_ (args_tuple_getitem _ _)))
  show wpAny _ _ (Builtin.Tuple.tupleItemsOf (.ref t) >>= _) _ _ s
  refine wpAny_bind (tupleItemsOf_ ht ?_)
  refine wpAny_bind (wpAny_typeOf hT ?_)
  rw [if_pos (by decide)]
  refine wpAny_bind (applied_rev hs pl pu ps ?_)
  have no : ¬ ((((items.size : Int) - 1 == 0 && (-1 : Int) == 1 && items.size == items.size) = true)) := by
    intro q
    rw [Bool.and_eq_true, Bool.and_eq_true] at q
    exact absurd q.1.2 (by decide)
  show wpAny _ _ (if ((items.size : Int) - 1 == 0 && (-1 : Int) == 1 && items.size == items.size) = true then _ else _) _ _ s
  rw [if_neg no, pick_rev]
  first
    | exact wpAny_bind (m := Builtin.Tuple.tupleExact _) (wpAny_newObj_type (wpAny_pure ⟨_, rfl, wpAny_pure h⟩) hok)
    | exact wpAny_bind (m := Builtin.Tuple.tupleExact _) (wpAny_newObj_type (wpAny_bind (wpAny_pure (wpAny_pure ⟨_, rfl, wpAny_pure h⟩))) hok)
    | exact wpAny_bind (wpAny_bind (m := Builtin.Tuple.tupleExact _) (wpAny_newObj_type (wpAny_pure (wpAny_pure ⟨_, rfl, wpAny_pure h⟩)) hok))
    | exact wpAny_bind (wpAny_bind (m := Builtin.Tuple.tupleExact _) (wpAny_newObj_type (wpAny_pure ⟨_, rfl, wpAny_pure h⟩) hok))
end
def tRevA (K : PySem.W.Frag) (te : TE) : TE := fun σ H Q => te σ H fun x H1 => ∃ a xs, x = .ref a ∧ ((SqL K H1 a xs ∧ ∀ p, H1 p = none → Q (.ref p) (upd H1 p (.lst xs.reverse))) ∨ (SqT K H1 a xs ∧ ∀ p, H1 p = none → Q (.ref p) (upd H1 p (.tup xs.reverse))))
theorem pe_revA {X : Cx} {e : Expr} {te : TE} {k : Nat} {p1 p2 p3 pos : Pos} (he : PE X e te) : PE X (.Subscript e (.Slice none none (some (.UnaryOp .USub (.Constant (.int 1) k p1) p2)) p3) pos) (tRevA X.K te) := by
  refine ⟨fun pins s σ H Q I h => ?_⟩
  refine Subscript_ (thn (he.run pins s σ H _ I h) fun v s1 ⟨x, H1, I1, r1, a, xs, ex, q⟩ => ?_)
  subst ex
  cases r1
  have hst : PO X (some (.UnaryOp .USub (.Constant (.int 1) k p1) p2)) (tPart (tUn (rU fun i => .int (-i)) (tC (.int 1)))) := po_some (pe_un un_neg pe_int)
  refine wpAny_Slice (thn (po_none.run pins s1 σ H1 (fun o G => o = none ∧ G = H1) I1 ⟨rfl, rfl⟩) fun vl s2 ⟨l, G2, I2, pl, el, e2⟩ => ?_)
  subst el e2
  refine thn (po_none.run pins s2 σ G2 (fun o G => o = none ∧ G = G2) I2 ⟨rfl, rfl⟩) fun vu s3 ⟨u, G3, I3, pu, eu, e3⟩ => ?_
  subst eu e3
  refine thn (hst.run pins s3 σ G3 (fun o G => o = some (-1) ∧ G = G3) I3 ⟨1, rfl, -1, rfl, rfl, rfl⟩) fun vs s4 ⟨o, G4, I4, ps, eo, e4⟩ => ?_
  subst eo e4
  have I5 : Inv X pins σ G4 { s4 with heap := s4.heap.push { cls := .type "slice", data := .fields #[vl, vu, vs] } } := I4.kept (t' := s4.toks) fun b ob z => Heap.get?_push_of_some _ z
  show wpAny (model X.prog X.w) X.A (subscriptTail e (.Slice none none (some (.UnaryOp .USub (.Constant (.int 1) k p1) p2)) p3) (.ref a) (.ref s4.heap.objs.size)) (EP X pins σ Q) X.xe { s4 with heap := s4.heap.push { cls := .type "slice", data := .fields #[vl, vu, vs] } }
  rcases q with ⟨hx, q⟩ | ⟨hx, q⟩
  · obtain ⟨its, r, ht, hz⟩ := I5.list hx
    have hlen := r.length
    refine tail_any (ops := [.ref a, .ref s4.heap.objs.size]) ht.isList.typeIs (PySem.slot_list_getitem.lookup) ?_ (by with_unfolding_all rfl)
    refine wpAny_getItem_list_slice ht.isList (Heap.IsSliceOf.new _ vl vu vs) pl pu ps (by decide) ?_ (by rw [List.size_toArray]; omega)
    rw [PySem.W.krv_pick]
    refine ⟨.ref _, _, I5.laid (t' := s4.toks) (o := .lst xs.reverse) (fun b ob z => Heap.get?_push_of_some _ z) (Nat.le_refl _) ?_, rfl, q _ (I5.hok.fresh (Nat.le_refl _))⟩
    exact ⟨by rw [List.length_reverse]; exact hz, _, 0, r.reverse, Heap.get?_push_size _ rfl⟩
  · obtain ⟨its, r, ht, hz⟩ := I5.tuple hx
    have hlen := r.length
    refine tail_any (ops := [.ref a, .ref s4.heap.objs.size]) ht.typeIs slot_tuple_getitem.lookup ?_ (by with_unfolding_all rfl)
    refine tuple_rev ht (Heap.IsSliceOf.new _ vl vu vs) pl pu ps ?_ (by rw [List.size_toArray]; omega)
    refine ⟨.ref _, _, I5.laid (t' := s4.toks) (o := .tup xs.reverse) (fun b ob z => Heap.get?_push_of_some _ z) (Nat.le_refl _) ?_, rfl, q _ (I5.hok.fresh (Nat.le_refl _))⟩
    exact ⟨by rw [List.length_reverse]; exact hz, _, r.reverse, IsTup.new _ _⟩
/-- x[::-1] -/
def revD (fz : Bool) (x : D) (M : Mp) (Q : QE) : Prop := match x with
  | .tup l => Q (.tup l.reverse) M
  | x => match listIn M x with
    | some l => if fz = true then Q (.lst l.reverse) M else ∀ p, M p = none → Q (.ref p) (M.upd p (.lst l.reverse))
    | none => False
theorem DE.rev {X : Cx} {e : Expr} {te : DTE} {fz : Bool} {k : Nat} {p1 p2 p3 pos : Pos} (he : DE X e te) : DE X (.Subscript e (.Slice none none (some (.UnaryOp .USub (.Constant (.int 1) k p1) p2)) p3) pos) (fun ρ M Q => te ρ M fun d M1 => revD fz d M1 Q) := by
  refine DE.of (pe_revA pe_cT) fun σ H ρ M Q S A z => ?_
  refine he.bind S A z fun v d M1 H1 x r A1 S1 q => ?_
  unfold revD at q
  split at q
  · rename_i l
    obtain ⟨a, xs, rfl, s, rs⟩ := r
    exact ⟨a, xs, rfl, .inr ⟨s, fun p hp => lft.trans x (lft.newT A1 rs.reverse hp q)⟩⟩
  · split at q
    · rename_i l e
      obtain ⟨a, xs, rfl, s, rs⟩ := listIn_rep A1 r e
      refine ⟨a, xs, rfl, .inl ⟨SqL.of s, fun p hp => lft.trans x ?_⟩⟩
      cases fz with
      | true => exact lft.newL A1 rs.reverse hp q
      | false => exact lft.newM A1 rs.reverse hp (q p)
    · exact q.elim
end Ow

set_option maxHeartbeats 1000000
namespace Ow
open PySem PySem.Spec PyProof.Rows L2
section
variable {prog : Program} {w : World} {A : Around} {E : Value → Shared → Prop} {s : Shared} {z TI TO i1 i2 i3 : Addr} {fp1 fp2 fp3 : List Addr} {n1 n2 n3 i : Nat} {P1 P2 P3 : Nat → Value → Prop} {St1 St2 St3 : Nat → Heap → Prop} {T : Addr} {f : Bool} {oT : Obj}
theorem held2_item {Q : Value → Shared → Prop} (S : ZipSep2 z TI TO i1 i2 fp1 fp2) (D1 : Draws prog w A i1 fp1 n1 P1 St1) (D2 : Draws prog w A i2 fp2 n2 P2 St2)
    (hz : PySem.IsZipHeld s.heap z TI TO T f) (hT : s.heap.get? T = some oT) (hTI : IsTupOf2 s.heap TI (.ref i1) (.ref i2)) (st1 : St1 i s.heap) (st2 : St2 i s.heap) (l1 : i < n1) (l2 : i < n2)
    (hQ : ∀ x1 x2 h' tk, P1 i x1 → P2 i x2 → PySem.IsZipHeld h' z TI TO T true → St1 (i + 1) h' → St2 (i + 1) h' → IsTupOf2 h' s.heap.objs.size x1 x2 → h'.objs.size = s.heap.objs.size + 1 →
      (∀ c o, c ≠ z → c ≠ i1 → c ≠ i2 → s.heap.get? c = some o → h'.get? c = some o) → Q (.ref s.heap.objs.size) { s with heap := h', toks := tk }) :
    wpAny (model prog w) A (Builtin.«zip.__next__» ⟨[.ref z], []⟩) (fun fin s' => ∃ v, fin = .done (.ret v) ∧ Q v s') E s := by
  obtain ⟨hp, g, d, tk0, os⟩ := s
  show wpAny _ _ (field (.ref z) 2 >>= _) _ _ _
  refine wpAny_bind (wpAny_field hz rfl (x := .bool false) rfl ?_)
  show wpAny _ _ (field (.ref z) 3 >>= _) _ _ _
  refine wpAny_bind (wpAny_field hz rfl (x := .ref TI) rfl ?_)
  refine wpAny_bind (wpAny_seqItems hTI rfl ?_)
  show wpAny _ _ (Builtin.SmallTypes.ownedTupleIsFree (.ref z) >>= _) _ _ _
  refine wpAny_bind (PySem.wpAny_tupleHeld_zip hz hT fun g0 hz0 hs0 => ?_)
  replace hs0 : Heap.SameBut z hp g0 := hs0
  simp only [Bool.false_eq_true, if_false]
  refine wpAny_bind ?_
  rw [← Array.forIn_toList]
  simp only [List.forIn_cons, List.forIn_nil]
  refine wpAny_bind (wpAny_bind (wpAny_holding ?_))
  show wpAny _ _ (Builtin.SmallTypes.nextOf (.ref i1) >>= _) _ _ ⟨g0, g, d, tk0, os⟩
  refine wpAny_bind (D1.item i _ _ _ l1 (D1.over st1 hs0 S.zf1) fun x1 p1 tk1 hx1 sn1 hp1 => wpAny_pure ?_)
  replace hp1 : Heap.SameBut i1 g0 p1 := hp1
  refine wpAny_pure ?_
  refine wpAny_bind (wpAny_bind (wpAny_holding ?_))
  show wpAny _ _ (Builtin.SmallTypes.nextOf (.ref i2) >>= _) _ _ ⟨p1, g, d, tk1, os⟩
  refine wpAny_bind (D2.item i _ _ _ l2 (D2.over (D2.over st2 hs0 S.zf2) hp1 S.sep1_2) fun x2 p2 tk2 hx2 sn2 hp2 => wpAny_pure ?_)
  replace hp2 : Heap.SameBut i2 p1 p2 := hp2
  refine wpAny_pure (wpAny_pure ?_)
  show wpAny _ _ (newTuple [x1, x2] >>= _) _ _ ⟨p2, g, d, tk2, os⟩
  refine wpAny_bind (wpAny_newTuple ?_)
  have hsz : p2.objs.size = hp.objs.size := by rw [hp2.1, hp1.1, hs0.1]
  have hz2 : PySem.IsZipHeld p2 z TI TO T true := hp2.extBut _ _ S.zi2 (hp1.extBut _ _ S.zi1 hz0)
  have hk : ∀ c o, c ≠ z → c ≠ i1 → c ≠ i2 → hp.get? c = some o → p2.get? c = some o := fun c o c1 c2 c3 e => hp2.extBut _ _ c3 (hp1.extBut _ _ c2 (hs0.extBut _ _ c1 e))
  refine wpAny_pure ⟨_, rfl, ?_⟩
  have hpair : IsTupOf2 (p2.push { cls := .type "tuple", data := .seq #[x1, x2] }) p2.objs.size x1 x2 := Heap.get?_push_size _ rfl
  have hz4 : (p2.push { cls := .type "tuple", data := .seq #[x1, x2] }).objs.size = p2.objs.size + 1 := Heap.size_push ..
  show Q (.ref p2.objs.size) _
  rw [hsz] at hpair hz4 ⊢
  exact hQ x1 x2 _ tk2 hx1 hx2 (Heap.get?_push_of_some _ hz2) (D1.frame _ _ _ (D1.over sn1 hp2 S.sep2_1) fun b _ o e => Heap.get?_push_of_some _ e) (D2.frame _ _ _ sn2 fun b _ o e => Heap.get?_push_of_some _ e) hpair hz4
    fun c o c1 c2 c3 e => Heap.get?_push_of_some _ (hk c o c1 c2 c3 e)
theorem held3_item {Q : Value → Shared → Prop} (S : ZipSep3 z TI TO i1 i2 i3 fp1 fp2 fp3) (D1 : Draws prog w A i1 fp1 n1 P1 St1) (D2 : Draws prog w A i2 fp2 n2 P2 St2) (D3 : Draws prog w A i3 fp3 n3 P3 St3)
    (hz : PySem.IsZipHeld s.heap z TI TO T f) (hT : s.heap.get? T = some oT) (hTI : IsTupOf3 s.heap TI (.ref i1) (.ref i2) (.ref i3)) (st1 : St1 i s.heap) (st2 : St2 i s.heap) (st3 : St3 i s.heap) (l1 : i < n1) (l2 : i < n2) (l3 : i < n3)
    (hQ : ∀ x1 x2 x3 h' tk, P1 i x1 → P2 i x2 → P3 i x3 → PySem.IsZipHeld h' z TI TO T true → St1 (i + 1) h' → St2 (i + 1) h' → St3 (i + 1) h' → IsTupOf3 h' s.heap.objs.size x1 x2 x3 → h'.objs.size = s.heap.objs.size + 1 →
      (∀ c o, c ≠ z → c ≠ i1 → c ≠ i2 → c ≠ i3 → s.heap.get? c = some o → h'.get? c = some o) → Q (.ref s.heap.objs.size) { s with heap := h', toks := tk }) :
    wpAny (model prog w) A (Builtin.«zip.__next__» ⟨[.ref z], []⟩) (fun fin s' => ∃ v, fin = .done (.ret v) ∧ Q v s') E s := by
  obtain ⟨hp, g, d, tk0, os⟩ := s
  show wpAny _ _ (field (.ref z) 2 >>= _) _ _ _
  refine wpAny_bind (wpAny_field hz rfl (x := .bool false) rfl ?_)
  show wpAny _ _ (field (.ref z) 3 >>= _) _ _ _
  refine wpAny_bind (wpAny_field hz rfl (x := .ref TI) rfl ?_)
  refine wpAny_bind (wpAny_seqItems hTI rfl ?_)
  show wpAny _ _ (Builtin.SmallTypes.ownedTupleIsFree (.ref z) >>= _) _ _ _
  refine wpAny_bind (PySem.wpAny_tupleHeld_zip hz hT fun g0 hz0 hs0 => ?_)
  replace hs0 : Heap.SameBut z hp g0 := hs0
  simp only [Bool.false_eq_true, if_false]
  refine wpAny_bind ?_
  rw [← Array.forIn_toList]
  simp only [List.forIn_cons, List.forIn_nil]
  refine wpAny_bind (wpAny_bind (wpAny_holding ?_))
  show wpAny _ _ (Builtin.SmallTypes.nextOf (.ref i1) >>= _) _ _ ⟨g0, g, d, tk0, os⟩
  refine wpAny_bind (D1.item i _ _ _ l1 (D1.over st1 hs0 S.zf1) fun x1 p1 tk1 hx1 sn1 hp1 => wpAny_pure ?_)
  replace hp1 : Heap.SameBut i1 g0 p1 := hp1
  refine wpAny_pure ?_
  refine wpAny_bind (wpAny_bind (wpAny_holding ?_))
  show wpAny _ _ (Builtin.SmallTypes.nextOf (.ref i2) >>= _) _ _ ⟨p1, g, d, tk1, os⟩
  refine wpAny_bind (D2.item i _ _ _ l2 (D2.over (D2.over st2 hs0 S.zf2) hp1 S.sep1_2) fun x2 p2 tk2 hx2 sn2 hp2 => wpAny_pure ?_)
  replace hp2 : Heap.SameBut i2 p1 p2 := hp2
  refine wpAny_pure ?_
  refine wpAny_bind (wpAny_bind (wpAny_holding ?_))
  show wpAny _ _ (Builtin.SmallTypes.nextOf (.ref i3) >>= _) _ _ ⟨p2, g, d, tk2, os⟩
  refine wpAny_bind (D3.item i _ _ _ l3 (D3.over (D3.over (D3.over st3 hs0 S.zf3) hp1 S.sep1_3) hp2 S.sep2_3) fun x3 p3 tk3 hx3 sn3 hp3 => wpAny_pure ?_)
  replace hp3 : Heap.SameBut i3 p2 p3 := hp3
  refine wpAny_pure (wpAny_pure ?_)
  show wpAny _ _ (newTuple [x1, x2, x3] >>= _) _ _ ⟨p3, g, d, tk3, os⟩
  refine wpAny_bind (wpAny_newTuple ?_)
  have hsz : p3.objs.size = hp.objs.size := by rw [hp3.1, hp2.1, hp1.1, hs0.1]
  have hz2 : PySem.IsZipHeld p3 z TI TO T true := hp3.extBut _ _ S.zi3 (hp2.extBut _ _ S.zi2 (hp1.extBut _ _ S.zi1 hz0))
  have hk : ∀ c o, c ≠ z → c ≠ i1 → c ≠ i2 → c ≠ i3 → hp.get? c = some o → p3.get? c = some o := fun c o c1 c2 c3 c4 e => hp3.extBut _ _ c4 (hp2.extBut _ _ c3 (hp1.extBut _ _ c2 (hs0.extBut _ _ c1 e)))
  refine wpAny_pure ⟨_, rfl, ?_⟩
  have hpair : IsTupOf3 (p3.push { cls := .type "tuple", data := .seq #[x1, x2, x3] }) p3.objs.size x1 x2 x3 := Heap.get?_push_size _ rfl
  have hz4 : (p3.push { cls := .type "tuple", data := .seq #[x1, x2, x3] }).objs.size = p3.objs.size + 1 := Heap.size_push ..
  show Q (.ref p3.objs.size) _
  rw [hsz] at hpair hz4 ⊢
  exact hQ x1 x2 x3 _ tk3 hx1 hx2 hx3 (Heap.get?_push_of_some _ hz2) (D1.frame _ _ _ (D1.over (D1.over sn1 hp2 S.sep2_1) hp3 S.sep3_1) fun b _ o e => Heap.get?_push_of_some _ e) (D2.frame _ _ _ (D2.over sn2 hp3 S.sep3_2) fun b _ o e => Heap.get?_push_of_some _ e)
    (D3.frame _ _ _ sn3 fun b _ o e => Heap.get?_push_of_some _ e) hpair hz4 fun c o c1 c2 c3 c4 e => Heap.get?_push_of_some _ (hk c o c1 c2 c3 c4 e)
theorem held2_end {Q : Fin → Shared → Prop} (S : ZipSep2 z TI TO i1 i2 fp1 fp2) (D1 : Draws prog w A i1 fp1 n1 P1 St1) (D2 : Draws prog w A i2 fp2 n2 P2 St2)
    (hz : PySem.IsZipHeld s.heap z TI TO T f) (hT : s.heap.get? T = some oT) (hTI : IsTupOf2 s.heap TI (.ref i1) (.ref i2)) (st1 : St1 i s.heap) (st2 : St2 i s.heap) (l1 : i ≤ n1) (l2 : i ≤ n2) (le : i = n1 ∨ i = n2)
    (hE : ∀ h' tk e, (∀ c o, c ≠ z → c ≠ i1 → c ≠ i2 → s.heap.get? c = some o → h'.get? c = some o) → (∃ o, h'.get? e = some o ∧ o.cls = .type "StopIteration") → E (.ref e) { s with heap := h', toks := tk }) :
    wpAny (model prog w) A (Builtin.«zip.__next__» ⟨[.ref z], []⟩) Q E s := by
  obtain ⟨hp, g, d, tk0, os⟩ := s
  show wpAny _ _ (field (.ref z) 2 >>= _) _ _ _
  refine wpAny_bind (wpAny_field hz rfl (x := .bool false) rfl ?_)
  show wpAny _ _ (field (.ref z) 3 >>= _) _ _ _
  refine wpAny_bind (wpAny_field hz rfl (x := .ref TI) rfl ?_)
  refine wpAny_bind (wpAny_seqItems hTI rfl ?_)
  show wpAny _ _ (Builtin.SmallTypes.ownedTupleIsFree (.ref z) >>= _) _ _ _
  refine wpAny_bind (PySem.wpAny_tupleHeld_zip hz hT fun g0 hz0 hs0 => ?_)
  replace hs0 : Heap.SameBut z hp g0 := hs0
  simp only [Bool.false_eq_true, if_false]
  refine wpAny_bind ?_
  rw [← Array.forIn_toList]
  simp only [List.forIn_cons, List.forIn_nil]
  refine wpAny_bind (wpAny_bind (wpAny_holding ?_))
  show wpAny _ _ (Builtin.SmallTypes.nextOf (.ref i1) >>= _) _ _ ⟨g0, g, d, tk0, os⟩
  have a1 : St1 i g0 := D1.over st1 hs0 S.zf1
  by_cases h1 : i = n1
  · rw [h1] at a1
    refine wpAny_bind (D1.done _ _ _ a1 fun h' e hx he => ?_)
    exact hE h' tk0 e (fun c o c1 c2 _ x => hx _ _ c2 (hs0.extBut _ _ c1 x)) he
  · have h2 : i = n2 := le.resolve_left h1
    refine wpAny_bind (D1.item i _ _ _ (by omega) a1 fun x1 p1 tk1 hx1 sn1 hp1 => wpAny_pure ?_)
    replace hp1 : Heap.SameBut i1 g0 p1 := hp1
    refine wpAny_pure ?_
    refine wpAny_bind (wpAny_bind (wpAny_holding ?_))
    show wpAny _ _ (Builtin.SmallTypes.nextOf (.ref i2) >>= _) _ _ ⟨p1, g, d, tk1, os⟩
    have a2 : St2 i p1 := D2.over (D2.over st2 hs0 S.zf2) hp1 S.sep1_2
    rw [h2] at a2
    refine wpAny_bind (D2.done _ _ _ a2 fun h' e hx he => ?_)
    exact hE h' tk1 e (fun c o c1 c2 c3 x => hx _ _ c3 (hp1.extBut _ _ c2 (hs0.extBut _ _ c1 x))) he
theorem held3_end {Q : Fin → Shared → Prop} (S : ZipSep3 z TI TO i1 i2 i3 fp1 fp2 fp3) (D1 : Draws prog w A i1 fp1 n1 P1 St1) (D2 : Draws prog w A i2 fp2 n2 P2 St2) (D3 : Draws prog w A i3 fp3 n3 P3 St3)
    (hz : PySem.IsZipHeld s.heap z TI TO T f) (hT : s.heap.get? T = some oT) (hTI : IsTupOf3 s.heap TI (.ref i1) (.ref i2) (.ref i3)) (st1 : St1 i s.heap) (st2 : St2 i s.heap) (st3 : St3 i s.heap) (l1 : i ≤ n1) (l2 : i ≤ n2) (l3 : i ≤ n3) (le : i = n1 ∨ i = n2 ∨ i = n3)
    (hE : ∀ h' tk e, (∀ c o, c ≠ z → c ≠ i1 → c ≠ i2 → c ≠ i3 → s.heap.get? c = some o → h'.get? c = some o) → (∃ o, h'.get? e = some o ∧ o.cls = .type "StopIteration") → E (.ref e) { s with heap := h', toks := tk }) :
    wpAny (model prog w) A (Builtin.«zip.__next__» ⟨[.ref z], []⟩) Q E s := by
  obtain ⟨hp, g, d, tk0, os⟩ := s
  show wpAny _ _ (field (.ref z) 2 >>= _) _ _ _
  refine wpAny_bind (wpAny_field hz rfl (x := .bool false) rfl ?_)
  show wpAny _ _ (field (.ref z) 3 >>= _) _ _ _
  refine wpAny_bind (wpAny_field hz rfl (x := .ref TI) rfl ?_)
  refine wpAny_bind (wpAny_seqItems hTI rfl ?_)
  show wpAny _ _ (Builtin.SmallTypes.ownedTupleIsFree (.ref z) >>= _) _ _ _
  refine wpAny_bind (PySem.wpAny_tupleHeld_zip hz hT fun g0 hz0 hs0 => ?_)
  replace hs0 : Heap.SameBut z hp g0 := hs0
  simp only [Bool.false_eq_true, if_false]
  refine wpAny_bind ?_
  rw [← Array.forIn_toList]
  simp only [List.forIn_cons, List.forIn_nil]
  refine wpAny_bind (wpAny_bind (wpAny_holding ?_))
  show wpAny _ _ (Builtin.SmallTypes.nextOf (.ref i1) >>= _) _ _ ⟨g0, g, d, tk0, os⟩
  have a1 : St1 i g0 := D1.over st1 hs0 S.zf1
  by_cases h1 : i = n1
  · rw [h1] at a1
    refine wpAny_bind (D1.done _ _ _ a1 fun h' e hx he => ?_)
    exact hE h' tk0 e (fun c o c1 c2 _ _ x => hx _ _ c2 (hs0.extBut _ _ c1 x)) he
  · refine wpAny_bind (D1.item i _ _ _ (by omega) a1 fun x1 p1 tk1 hx1 sn1 hp1 => wpAny_pure ?_)
    replace hp1 : Heap.SameBut i1 g0 p1 := hp1
    refine wpAny_pure ?_
    refine wpAny_bind (wpAny_bind (wpAny_holding ?_))
    show wpAny _ _ (Builtin.SmallTypes.nextOf (.ref i2) >>= _) _ _ ⟨p1, g, d, tk1, os⟩
    have a2 : St2 i p1 := D2.over (D2.over st2 hs0 S.zf2) hp1 S.sep1_2
    by_cases h2 : i = n2
    · rw [h2] at a2
      refine wpAny_bind (D2.done _ _ _ a2 fun h' e hx he => ?_)
      exact hE h' tk1 e (fun c o c1 c2 c3 _ x => hx _ _ c3 (hp1.extBut _ _ c2 (hs0.extBut _ _ c1 x))) he
    · have h3 : i = n3 := (le.resolve_left h1).resolve_left h2
      refine wpAny_bind (D2.item i _ _ _ (by omega) a2 fun x2 p2 tk2 hx2 sn2 hp2 => wpAny_pure ?_)
      replace hp2 : Heap.SameBut i2 p1 p2 := hp2
      refine wpAny_pure ?_
      refine wpAny_bind (wpAny_bind (wpAny_holding ?_))
      show wpAny _ _ (Builtin.SmallTypes.nextOf (.ref i3) >>= _) _ _ ⟨p2, g, d, tk2, os⟩
      have a3 : St3 i p2 := D3.over (D3.over (D3.over st3 hs0 S.zf3) hp1 S.sep1_3) hp2 S.sep2_3
      rw [h3] at a3
      refine wpAny_bind (D3.done _ _ _ a3 fun h' e hx he => ?_)
      exact hE h' tk2 e (fun c o c1 c2 c3 c4 x => hx _ _ c4 (hp2.extBut _ _ c3 (hp1.extBut _ _ c2 (hs0.extBut _ _ c1 x)))) he
end
/-- what hands out new tuples, one a draw; S: a list that is written between the draws -/
structure TSrc (prog : Program) (w : World) (A : Around) (z S : Addr) (n : Nat) (row : Nat → List Value) (wr : List Addr) (St : Nat → Heap → Prop) : Prop where
  frame : ∀ i h h', St i h → (∀ b o, b ≠ S → h.get? b = some o → h'.get? b = some o) → St i h'
  item : ∀ i (s : Shared) (Q : Option Value → Shared → Prop) (E : Value → Shared → Prop), i < n → St i s.heap → S < s.heap.objs.size →
    (∀ h' tk, St (i + 1) h' → h'.get? s.heap.objs.size = some { cls := .type "tuple", data := .seq (row i).toArray } → h'.objs.size = s.heap.objs.size + 1 → (∀ c o, c ∉ wr → s.heap.get? c = some o → h'.get? c = some o) → Q (some (.ref s.heap.objs.size)) { s with heap := h', toks := tk }) →
    wpAny (model prog w) A (pyNext (.ref z)) Q E s
  done : ∀ (s : Shared) (Q : Option Value → Shared → Prop) (E : Value → Shared → Prop), St n s.heap → (∀ h' tk, (∀ c o, c ∉ wr → s.heap.get? c = some o → h'.get? c = some o) → Q none { s with heap := h', toks := tk }) →
    wpAny (model prog w) A (pyNext (.ref z)) Q E s
/-- the tuples that a list has taken -/
structure Took (row : Nat → List Value) (lo : Addr) (wr : List Addr) (h : Heap) (as : List Addr) : Prop where
  above : ∀ a ∈ as, lo < a ∧ a ∉ wr
  rows : ∀ (j : Nat) (a : Addr), as[j]? = some a → h.get? a = some { cls := .type "tuple", data := .seq (row j).toArray }
theorem src_loop {prog : Program} {w : World} {A : Around} {s : Shared} {R : Result → Shared → Prop} {z S : Addr} {n : Nat} {row : Nat → List Value} {wr : List Addr} {St : Nat → Heap → Prop} (W : TSrc prog w A.in1 z S n row wr St) (hSw : S ∉ wr) (hn : n ≤ sizeLine) (res : Value) {h0 : Heap} (hwr : ∀ b ∈ wr, b < h0.objs.size)
    (hR : ∀ h' tk acc c as, (∀ b o, b ≠ S → b ∉ wr → h0.get? b = some o → h'.get? b = some o) → h'.get? S = some { cls := .type "list", dict := none, data := .seq acc c, slots := #[] } → as.length = n → Took row S wr h' as → acc.toList = as.map Value.ref → R (.ok (.ret res)) { s with heap := h', toks := tk }) :
    ∀ (k i : Nat) (h : Heap) (tk c : Nat) (acc : Array Value) (as : List Addr), n - i = k → i ≤ n → St i h → (∀ b o, b ≠ S → b ∉ wr → h0.get? b = some o → h.get? b = some o) → h0.objs.size ≤ h.objs.size →
      h.get? S = some { cls := .type "list", dict := none, data := .seq acc c, slots := #[] } → acc.toList = as.map Value.ref → as.length = i → Took row S wr h as →
      codeAny (model prog w) A (.builtin "list.extend.loop" ⟨[.ref S, .ref z, res], []⟩) R { s with heap := h, toks := tk } := by
  intro k
  induction k with
  | zero =>
    intro i h tk c acc as hk hi hst hkeep hsz0 hS hacc hal hG
    have hin : i = n := by omega
    subst hin
    refine codeAny_builtin PySem.F.entry_extend_loop ?_
    rw [Around.under_plainId PySem.F.plain_extend_loop _]
    show wpAny _ A.in1 (pyNext (.ref z) >>= _) _ _ _
    refine wpAny_bind (W.done { s with heap := h, toks := tk } _ _ hst fun h' tk' he => ?_)
    exact wpAny_pure (hR h' tk' acc c as (fun b o h1 h2 e => he b o h2 (hkeep b o h1 h2 e)) (he S _ hSw hS) hal ⟨hG.above, fun j a hj => he a _ (hG.above a (List.mem_of_getElem? hj)).2 (hG.rows j a hj)⟩ hacc)
  | succ k ih =>
    intro i h tk c acc as hk hi hst hkeep hsz0 hS hacc hal hG
    have hSl : S < h.objs.size := Heap.lt_size hS
    have hsz : acc.size = i := by rw [← Array.length_toList, hacc, List.length_map, hal]
    refine codeAny_builtin PySem.F.entry_extend_loop ?_
    rw [Around.under_plainId PySem.F.plain_extend_loop _]
    show wpAny _ A.in1 (pyNext (.ref z) >>= _) _ _ _
    refine wpAny_bind (W.item i { s with heap := h, toks := tk } _ _ (by omega) hst hSl fun h' tk' hst' ht hz hkp => ?_)
    dsimp only at ht hz hkp ⊢
    have hS' := hkp S _ hSw hS
    have up : ∀ b o, b ≠ S → h'.get? b = some o → (h'.update S (Obj.mapSeq (·.push (Value.ref h.objs.size)))).get? b = some o := fun b o hb e => (Heap.get?_update_other _ _ (Ne.symm hb)).trans e
    show wpAny _ A.in1 (updateSeq S (·.push (Value.ref h.objs.size)) >>= _) _ _ _
    refine wpAny_bind ?_
    refine wpAny_updateSeq hS' rfl (wpAny_pure ⟨plainId_quiet PySem.F.plain_extend_loop _, ih (i + 1) _ tk' _ (acc.push (Value.ref h.objs.size)) (as ++ [h.objs.size]) (by omega) (by omega) (W.frame _ _ _ hst' up)
      (fun b o h1 h2 e => up b o h1 (hkp b o h2 (hkeep b o h1 h2 e))) ?_ (Heap.get?_update_self _ hS' rfl) (by rw [Array.toList_push, hacc, List.map_append]; rfl) (by rw [List.length_append, hal]; rfl) ⟨?_, ?_⟩⟩) (by rw [hsz]; omega) (by show (acc.push (Value.ref h.objs.size)).size ≤ sizeLine + 1; rw [Array.size_push, hsz]; omega)
    · have e := Heap.lt_size (up _ _ (Nat.ne_of_gt hSl) ht)
      exact Nat.le_trans hsz0 (Nat.le_of_lt e)
    · intro a ha
      rcases List.mem_append.mp ha with ha | ha
      · exact hG.above a ha
      · rw [List.mem_singleton.mp ha]
        exact ⟨hSl, fun q => absurd (hwr h.objs.size q) (Nat.not_lt.mpr hsz0)⟩
    · intro j b hj
      by_cases h1 : j < as.length
      · rw [List.getElem?_append_left h1] at hj
        have hb := hG.above b (List.mem_of_getElem? hj)
        exact up b _ (Nat.ne_of_gt hb.1) (hkp b _ hb.2 (hG.rows j b hj))
      · by_cases h2 : j = as.length
        · subst h2
          have hb : h.objs.size = b := by simpa using hj
          subst hb
          rw [hal]
          exact up _ _ (Nat.ne_of_gt hSl) ht
        · rw [List.getElem?_eq_none (by rw [List.length_append, List.length_singleton]; omega)] at hj
          cases hj
theorem zip_no_len : typeLookup (.type "zip") "__len__" = pure none := by rw [typeLookup_type, builtinLookup_eq_fast]; kernel_rfl
theorem zip_no_hint : typeLookup (.type "zip") "__length_hint__" = pure none := by rw [typeLookup_type, builtinLookup_eq_fast]; kernel_rfl
theorem src_extend {prog : Program} {w : World} {A : Around} {s : Shared} {R : Result → Shared → Prop} {z S : Addr} {n : Nat} {row : Nat → List Value} {wr : List Addr} {St : Nat → Heap → Prop} (W : TSrc prog w A.in1 z S n row wr St) (hSw : S ∉ wr) (hn : n ≤ sizeLine) (res : Value) (hwr : ∀ b ∈ wr, b < s.heap.objs.size)
    (hz : s.TypeIs (.ref z) "zip") (hne : S ≠ z) (self : ∀ (Q : Value → Shared → Prop) (E : Value → Shared → Prop), Q (.ref z) s → wpAny (model prog w) A.in1 (pyIter (.ref z)) Q E s) (st : St 0 s.heap) (c0 : Nat) (hS : s.heap.get? S = some { cls := .type "list", data := .seq #[] c0 })
    (hR : ∀ h' tk acc c as, (∀ b o, b ≠ S → b ∉ wr → s.heap.get? b = some o → h'.get? b = some o) → h'.get? S = some { cls := .type "list", dict := none, data := .seq acc c, slots := #[] } → as.length = n → Took row S wr h' as → acc.toList = as.map Value.ref → R (.ok (.ret res)) { s with heap := h', toks := tk }) :
    wpAny (model prog w) A.in1 (Builtin.List.listExtendWith (.ref S) (.ref z) res)
      (fun fin s' => match fin with | .done f => R (.ok f) s' | .again c' => c'.quiet = true ∧ codeAny (model prog w) A c' R s') (fun e s' => R (.error e) s') s := by
  unfold Builtin.List.listExtendWith
  refine wpAny_bind (wpAny_typeOf hz ?_)
  have h1 : Builtin.List.listSameRef (.ref S) (.ref z) = false := by simp [Builtin.List.listSameRef, hne]
  have h2 : (Value.type "zip" == Value.type "list") = false := by decide
  have h3 : (Value.type "zip" == Value.type "tuple") = false := by decide
  simp only [h1, h2, h3, Bool.or_false, Bool.false_eq_true, if_false]
  refine wpAny_bind (self _ _ ?_)
  refine wpAny_bind (wpAny_holding ?_)
  unfold Builtin.List.listLengthHint
  refine wpAny_bind (wpAny_specialOf hz zip_no_len ?_)
  show wpAny _ A.in1 (specialOf (Value.ref z) (Str.ofString "__length_hint__") >>= _) _ _ _
  refine wpAny_bind (wpAny_specialOf hz zip_no_hint ?_)
  refine wpAny_pure ?_
  show wpAny _ A.in1 (rule "list.extend.makes-room" >>= fun _ => Builtin.List.listTouch (.ref S) >>= fun _ => again (.builtin "list.extend.loop" ⟨[.ref S, .ref z, res], []⟩)) _ _ _
  refine wpAny_bind (wpAny_rule ?_)
  refine wpAny_bind ?_
  show wpAny _ A.in1 (updateSeq S (·.push .none) >>= fun _ => updateSeq S (·.pop)) _ _ _
  refine wpAny_bind (wpAny_updateSeq hS rfl ?_)
  have hS2 := Heap.get?_update_self (Obj.mapSeq (·.push Value.none)) hS rfl
  refine wpAny_updateSeq (hz := by seq_fits) hS2 rfl ?_
  have hS3 := Heap.get?_update_self (Obj.mapSeq (·.pop)) hS2 rfl
  have oth : ∀ b o, b ≠ S → s.heap.get? b = some o → ((s.heap.update S (Obj.mapSeq (·.push Value.none))).update S (Obj.mapSeq (·.pop))).get? b = some o :=
    fun b o hb e => (Heap.get?_update_other _ _ (Ne.symm hb)).trans ((Heap.get?_update_other _ _ (Ne.symm hb)).trans e)
  refine wpAny_pure ⟨plainId_quiet PySem.F.plain_extend_loop _, src_loop (s := s) W hSw hn res hwr hR n 0 _ s.toks _ #[] [] (Nat.sub_zero _) (Nat.zero_le _) (W.frame _ _ _ st oth) (fun b o hb _ e => oth b o hb e) ?_ hS3 rfl rfl ⟨fun a h => (by cases h), fun j a h => (by simp at h)⟩⟩
  simp
theorem src_init {prog : Program} {w : World} {A : Around} {s : Shared} {R : Result → Shared → Prop} {z S : Addr} {n : Nat} {row : Nat → List Value} {wr : List Addr} {St : Nat → Heap → Prop} (W : TSrc prog w A.in1 z S n row wr St) (hSw : S ∉ wr) (hn : n ≤ sizeLine) (hwr : ∀ b ∈ wr, b < s.heap.objs.size)
    (hz : s.TypeIs (.ref z) "zip") (hne : S ≠ z) (self : ∀ (s : Shared) (Q : Value → Shared → Prop) (E : Value → Shared → Prop), St 0 s.heap → Q (.ref z) s → wpAny (model prog w) A.in1 (pyIter (.ref z)) Q E s) (st : St 0 s.heap) (hS : s.heap.get? S = some { cls := .type "list", data := .seq #[] })
    (hR : ∀ h' tk acc c as, (∀ b o, b ≠ S → b ∉ wr → s.heap.get? b = some o → h'.get? b = some o) → h'.get? S = some { cls := .type "list", dict := none, data := .seq acc c, slots := #[] } → as.length = n → Took row S wr h' as → acc.toList = as.map Value.ref → R (.ok (.ret .none)) { s with heap := h', toks := tk }) :
    wpAny (model prog w) A.in1 (Builtin.«list.__init__» ⟨[.ref S, .ref z], []⟩)
      (fun fin s' => match fin with | .done f => R (.ok f) s' | .again c' => c'.quiet = true ∧ codeAny (model prog w) A c' R s') (fun e s' => R (.error e) s') s := by
  show wpAny _ A.in1 (do let old ← Builtin.List.listItems (.ref S); Builtin.List.listUpdate (.ref S) (fun _ => #[]); letGo old.toList.reverse; Builtin.List.listExtendWith (.ref S) (.ref z) .none) _ _ s
  refine wpAny_bind ?_
  unfold Builtin.List.listItems
  refine wpAny_bind (wpAny_seqItems hS rfl (wpAny_pure ?_))
  show wpAny _ A.in1 (updateSeq S (fun _ => #[]) >>= fun _ => letGo (#[] : Array Value).toList.reverse >>= fun _ => Builtin.List.listExtendWith (.ref S) (.ref z) .none) _ _ s
  refine wpAny_bind (wpAny_updateSeq hS rfl ?_)
  have hS2 := Heap.get?_update_self (Obj.mapSeq (fun _ => (#[] : Array Value))) hS rfl
  have oth : ∀ b o, b ≠ S → s.heap.get? b = some o → (s.heap.update S (Obj.mapSeq (fun _ => (#[] : Array Value)))).get? b = some o :=
    fun b o hb e => (Heap.get?_update_other _ _ (Ne.symm hb)).trans e
  have hst := W.frame _ _ _ st oth
  refine wpAny_bind (wpAny_letGo ?_)
  obtain ⟨oz, hoz, hcz⟩ := hz
  refine src_extend (s := { s with heap := s.heap.update S (Obj.mapSeq (fun _ => (#[] : Array Value))) }) W hSw hn .none (fun b hb => by simpa using hwr b hb) ⟨oz, oth z oz (Ne.symm hne) hoz, hcz⟩ hne (fun Q E q => self _ Q E hst q) hst _ hS2 fun h' tk acc c as hk hS' hl hG hacc => ?_
  exact hR h' tk acc c as (fun b o hb hb2 e => hk b o hb hb2 (oth b o hb e)) hS' hl hG hacc
theorem src_call {prog : Program} {w : World} {A : Around} {E : Value → Shared → Prop} {s : Shared} {Q : Value → Shared → Prop} {z : Addr} {n : Nat} {row : Nat → List Value} {wr : List Addr} {St : Nat → Heap → Prop} (W : TSrc prog w A.in1.in1 z s.heap.objs.size n row wr St) (hn : n ≤ sizeLine) (hwr : ∀ b ∈ wr, b < s.heap.objs.size)
    (hz : s.TypeIs (.ref z) "zip") (self : ∀ (s : Shared) (Q : Value → Shared → Prop) (E : Value → Shared → Prop), St 0 s.heap → Q (.ref z) s → wpAny (model prog w) A.in1.in1 (pyIter (.ref z)) Q E s) (st : St 0 s.heap)
    (hQ : ∀ h' tk acc c as, (∀ b o, b ∉ wr → s.heap.get? b = some o → h'.get? b = some o) → h'.get? s.heap.objs.size = some { cls := .type "list", dict := none, data := .seq acc c, slots := #[] } → as.length = n → Took row s.heap.objs.size wr h' as → acc.toList = as.map Value.ref → Q (.ref s.heap.objs.size) { s with heap := h', toks := tk }) :
    wpAny (model prog w) A (call (.type "list") [.ref z]) Q E s := by
  refine callType_codes (Q₁ := fun obj s₁ => obj = .ref s.heap.objs.size ∧ s₁ = { s with heap := s.heap.push { cls := .type "list", data := .seq #[] } }) PySem.F.called_list (PySem.F.typeCall_list_1 _) PySem.F.entry_list_init
    (code_list_new _ ⟨rfl, rfl⟩) fun obj s₁ h₁ => ?_
  obtain ⟨rfl, rfl⟩ := h₁
  have hS : (s.heap.push { cls := .type "list", data := .seq #[] }).get? s.heap.objs.size = some { cls := .type "list", data := .seq #[] } := Heap.get?_push_size _ rfl
  obtain ⟨oz, hoz, hcz⟩ := hz
  have hSw : s.heap.objs.size ∉ wr := fun q => Nat.lt_irrefl _ (hwr _ q)
  refine ⟨⟨_, hS, rfl⟩, PySem.F.args_list_init_2 _ _, src_init (A := A.in1) (s := { s with heap := s.heap.push { cls := .type "list", data := .seq #[] } }) W hSw hn (fun b hb => Nat.lt_of_lt_of_le (hwr b hb) (by rw [Heap.size_push]; exact Nat.le_succ _)) ⟨oz, Heap.get?_push_of_some _ hoz, hcz⟩ (Nat.ne_of_gt (Heap.lt_size hoz)) self
    (W.frame _ _ _ st fun b o _ e => Heap.get?_push_of_some _ e) hS fun h' tk acc c as hk hS' hl hG hacc => ?_⟩
  exact ⟨rfl, hQ h' tk acc c as (fun b o hb e => hk b o (Nat.ne_of_lt (Heap.lt_size e)) hb (Heap.get?_push_of_some _ e)) hS' hl hG hacc⟩
/-- how far a zip is: at its start, or its first tuple out -/
def ZipAt (z TI TO S : Addr) (its : List Addr) (i : Nat) (h : Heap) : Prop :=
  (i = 0 ∧ IsZip h z TI TO .none) ∨ ∃ (T : Addr) (f : Bool) (oT : Obj), PySem.IsZipHeld h z TI TO T f ∧ h.get? T = some oT ∧ T ≠ S ∧ T ≠ z ∧ T ≠ TO ∧ T ∉ its
theorem ZipAt.frame {z TI TO S : Addr} {its : List Addr} {i : Nat} {h h' : Heap} (q : ZipAt z TI TO S its i h) (n : z ≠ S) (k : ∀ b o, b ≠ S → h.get? b = some o → h'.get? b = some o) : ZipAt z TI TO S its i h' := by
  rcases q with ⟨e, q⟩ | ⟨T, f, oT, q, hT, nS, r⟩
  · exact .inl ⟨e, k _ _ n q⟩
  · exact .inr ⟨T, f, oT, k _ _ n q, k _ _ nS hT, nS, r⟩
theorem tsrc2 {prog : Program} {w : World} {A : Around} {z TI TO i1 i2 S : Addr} {fp1 fp2 : List Addr} {xs ys : List Value} {St1 St2 : Nat → Heap → Prop} (Z : ZipSep2 z TI TO i1 i2 fp1 fp2)
    (D1 : Draws prog w A.in1 i1 fp1 xs.length (fun i v => xs[i]? = some v) St1) (D2 : Draws prog w A.in1 i2 fp2 ys.length (fun i v => ys[i]? = some v) St2) (nz : z ≠ S) (nI : TI ≠ S) (nO : TO ≠ S) (f1 : S ∉ fp1) (f2 : S ∉ fp2) :
    TSrc prog w A z S (min xs.length ys.length) (fun i => [xs.getD i .none, ys.getD i .none]) [z, TO, i1, i2]
      (fun i h => ZipAt z TI TO S [i1, i2] i h ∧ IsTupOf2 h TI (.ref i1) (.ref i2) ∧ (∃ x y, IsTupOf2 h TO x y) ∧ St1 i h ∧ St2 i h) where
  frame := fun i h h' ⟨q1, q2, ⟨x, y, q3⟩, q4, q5⟩ k => ⟨q1.frame nz k, k _ _ nI q2, ⟨x, y, k _ _ nO q3⟩, D1.frame _ _ _ q4 fun b hb o e => k b o (fun e => f1 (e ▸ hb)) e, D2.frame _ _ _ q5 fun b hb o e => k b o (fun e => f2 (e ▸ hb)) e⟩
  item := by
    rintro i s Q E hi ⟨q1, q2, ⟨x, y, q3⟩, q4, q5⟩ hS hQ
    have lt : ∀ {a : Addr} {o : Obj}, s.heap.get? a = some o → a ≠ s.heap.objs.size := fun e => Nat.ne_of_lt (Heap.lt_size e)
    obtain ⟨o1, e1⟩ := D1.live _ _ q4
    obtain ⟨o2, e2⟩ := D2.live _ _ q5
    have rows : ∀ x1 x2, xs[i]? = some x1 → ys[i]? = some x2 → [x1, x2] = [xs.getD i .none, ys.getD i .none] := fun x1 x2 h1 h2 => by
      simp [List.getD_eq_getElem?_getD, h1, h2]
    rcases q1 with ⟨rfl, qz⟩ | ⟨T, f, oT, qz, hT, nS, nz2, nO2, nit⟩
    · refine wpAny_pyNext_zipD2_item Z D1 D2 qz q2 q3 q4 q5 (by omega) (by omega) fun x1 x2 h' tk p1 p2 z' TO' s1 s2 t' hsz hk => ?_
      refine hQ h' tk ⟨.inr ⟨_, false, _, z', t', Nat.ne_of_gt hS, (lt qz).symm, (lt q3).symm, ?_⟩, hk _ _ Z.TIz Z.TITO Z.TIi1 Z.TIi2 q2, ⟨x1, x2, TO'⟩, s1, s2⟩ (by rw [← rows x1 x2 p1 p2]; exact t') hsz fun c o hc e => ?_
      · intro hm
        simp at hm
        rcases hm with e | e
        · exact lt e1 e.symm
        · exact lt e2 e.symm
      · simp at hc
        exact hk c o hc.1 hc.2.1 hc.2.2.1 hc.2.2.2 e
    · have hTy : s.TypeIs (.ref z) "zip" := ⟨_, qz, rfl⟩
      unfold pyNext
      refine wpAny_bind (wpAny_attempt (wpAny_callSpecial?_slot (name := Str.ofString "__next__") hTy PySem.F.slot_zip_next (wpAny_call_entry PySem.F.slot_zip_next hTy PySem.F.entry_zip_next
        (held2_item Z D1 D2 qz hT q2 q4 q5 (by omega) (by omega) fun x1 x2 h' tk p1 p2 z' s1 s2 t' hsz hk => wpAny_pure ?_) (PySem.F.args_zip_next_1 _))))
      simp at nit
      refine hQ h' tk ⟨.inr ⟨T, true, oT, z', hk _ _ nz2 nit.1 nit.2 hT, nS, nz2, nO2, by simpa using nit⟩, hk _ _ Z.TIz Z.TIi1 Z.TIi2 q2, ⟨x, y, hk _ _ Z.TOz Z.Ti1 Z.Ti2 q3⟩, s1, s2⟩ (by rw [← rows x1 x2 p1 p2]; exact t') hsz fun c o hc e => ?_
      simp at hc
      exact hk c o hc.1 hc.2.2.1 hc.2.2.2 e
  done := by
    rintro s Q E ⟨q1, q2, ⟨x, y, q3⟩, q4, q5⟩ hQ
    rcases q1 with ⟨e, qz⟩ | ⟨T, f, oT, qz, hT, nS, nz2, nO2, nit⟩
    · refine wpAny_pyNext_zipD2_end Z D1 D2 qz q2 q3 q4 q5 (by omega) (by omega) (by omega) fun h' tk hk => hQ h' tk fun c o hc e => ?_
      simp at hc
      exact hk c o hc.1 hc.2.1 hc.2.2.1 hc.2.2.2 e
    · have hTy : s.TypeIs (.ref z) "zip" := ⟨_, qz, rfl⟩
      unfold pyNext
      refine wpAny_bind (wpAny_attempt (wpAny_callSpecial?_slot (name := Str.ofString "__next__") hTy PySem.F.slot_zip_next (wpAny_call_entry PySem.F.slot_zip_next hTy PySem.F.entry_zip_next
        (held2_end Z D1 D2 qz hT q2 q4 q5 (by omega) (by omega) (by omega) fun h' tk e hk he => ?_) (PySem.F.args_zip_next_1 _))))
      obtain ⟨o, ho, hc⟩ := he
      refine wpAny_bind (wpAny_isInstance (T := "StopIteration") (b := true) ⟨o, ho, hc⟩ isSubtype_stop ?_)
      refine wpAny_pure (hQ h' tk fun c o hc e => ?_)
      simp at hc
      exact hk c o hc.1 hc.2.2.1 hc.2.2.2 e
theorem tsrc3 {prog : Program} {w : World} {A : Around} {z TI TO i1 i2 i3 S : Addr} {fp1 fp2 fp3 : List Addr} {xs ys zs : List Value} {St1 St2 St3 : Nat → Heap → Prop} (Z : ZipSep3 z TI TO i1 i2 i3 fp1 fp2 fp3)
    (D1 : Draws prog w A.in1 i1 fp1 xs.length (fun i v => xs[i]? = some v) St1) (D2 : Draws prog w A.in1 i2 fp2 ys.length (fun i v => ys[i]? = some v) St2) (D3 : Draws prog w A.in1 i3 fp3 zs.length (fun i v => zs[i]? = some v) St3) (nz : z ≠ S) (nI : TI ≠ S) (nO : TO ≠ S) (f1 : S ∉ fp1) (f2 : S ∉ fp2) (f3 : S ∉ fp3) :
    TSrc prog w A z S (min xs.length (min ys.length zs.length)) (fun i => [xs.getD i .none, ys.getD i .none, zs.getD i .none]) [z, TO, i1, i2, i3]
      (fun i h => ZipAt z TI TO S [i1, i2, i3] i h ∧ IsTupOf3 h TI (.ref i1) (.ref i2) (.ref i3) ∧ (∃ x y u, IsTupOf3 h TO x y u) ∧ St1 i h ∧ St2 i h ∧ St3 i h) where
  frame := fun i h h' ⟨q1, q2, ⟨x, y, u, q3⟩, q4, q5, q6⟩ k => ⟨q1.frame nz k, k _ _ nI q2, ⟨x, y, u, k _ _ nO q3⟩, D1.frame _ _ _ q4 fun b hb o e => k b o (fun e => f1 (e ▸ hb)) e, D2.frame _ _ _ q5 fun b hb o e => k b o (fun e => f2 (e ▸ hb)) e, D3.frame _ _ _ q6 fun b hb o e => k b o (fun e => f3 (e ▸ hb)) e⟩
  item := by
    rintro i s Q E hi ⟨q1, q2, ⟨x, y, u, q3⟩, q4, q5, q6⟩ hS hQ
    have lt : ∀ {a : Addr} {o : Obj}, s.heap.get? a = some o → a ≠ s.heap.objs.size := fun e => Nat.ne_of_lt (Heap.lt_size e)
    obtain ⟨o1, e1⟩ := D1.live _ _ q4
    obtain ⟨o2, e2⟩ := D2.live _ _ q5
    obtain ⟨o3, e3⟩ := D3.live _ _ q6
    have rows : ∀ x1 x2 x3, xs[i]? = some x1 → ys[i]? = some x2 → zs[i]? = some x3 → [x1, x2, x3] = [xs.getD i .none, ys.getD i .none, zs.getD i .none] := fun x1 x2 x3 h1 h2 h3 => by
      simp [List.getD_eq_getElem?_getD, h1, h2, h3]
    rcases q1 with ⟨rfl, qz⟩ | ⟨T, f, oT, qz, hT, nS, nz2, nO2, nit⟩
    · refine wpAny_pyNext_zipD3_item Z D1 D2 D3 qz q2 q3 q4 q5 q6 (by omega) (by omega) (by omega) fun x1 x2 x3 h' tk p1 p2 p3 z' TO' s1 s2 s3 t' hsz hk => ?_
      refine hQ h' tk ⟨.inr ⟨_, false, _, z', t', Nat.ne_of_gt hS, (lt qz).symm, (lt q3).symm, ?_⟩, hk _ _ Z.TIz Z.TITO Z.TIi1 Z.TIi2 Z.TIi3 q2, ⟨x1, x2, x3, TO'⟩, s1, s2, s3⟩ (by rw [← rows x1 x2 x3 p1 p2 p3]; exact t') hsz fun c o hc e => ?_
      · intro hm
        simp at hm
        rcases hm with e | e | e
        · exact lt e1 e.symm
        · exact lt e2 e.symm
        · exact lt e3 e.symm
      · simp at hc
        exact hk c o hc.1 hc.2.1 hc.2.2.1 hc.2.2.2.1 hc.2.2.2.2 e
    · have hTy : s.TypeIs (.ref z) "zip" := ⟨_, qz, rfl⟩
      unfold pyNext
      refine wpAny_bind (wpAny_attempt (wpAny_callSpecial?_slot (name := Str.ofString "__next__") hTy PySem.F.slot_zip_next (wpAny_call_entry PySem.F.slot_zip_next hTy PySem.F.entry_zip_next
        (held3_item Z D1 D2 D3 qz hT q2 q4 q5 q6 (by omega) (by omega) (by omega) fun x1 x2 x3 h' tk p1 p2 p3 z' s1 s2 s3 t' hsz hk => wpAny_pure ?_) (PySem.F.args_zip_next_1 _))))
      simp at nit
      refine hQ h' tk ⟨.inr ⟨T, true, oT, z', hk _ _ nz2 nit.1 nit.2.1 nit.2.2 hT, nS, nz2, nO2, by simpa using nit⟩, hk _ _ Z.TIz Z.TIi1 Z.TIi2 Z.TIi3 q2, ⟨x, y, u, hk _ _ Z.TOz Z.Ti1 Z.Ti2 Z.Ti3 q3⟩, s1, s2, s3⟩ (by rw [← rows x1 x2 x3 p1 p2 p3]; exact t') hsz fun c o hc e => ?_
      simp at hc
      exact hk c o hc.1 hc.2.2.1 hc.2.2.2.1 hc.2.2.2.2 e
  done := by
    rintro s Q E ⟨q1, q2, ⟨x, y, u, q3⟩, q4, q5, q6⟩ hQ
    rcases q1 with ⟨e, qz⟩ | ⟨T, f, oT, qz, hT, nS, nz2, nO2, nit⟩
    · refine wpAny_pyNext_zipD3_end Z D1 D2 D3 qz q2 q3 q4 q5 q6 (by omega) (by omega) (by omega) (by omega) fun h' tk hk => hQ h' tk fun c o hc e => ?_
      simp at hc
      exact hk c o hc.1 hc.2.1 hc.2.2.1 hc.2.2.2.1 hc.2.2.2.2 e
    · have hTy : s.TypeIs (.ref z) "zip" := ⟨_, qz, rfl⟩
      unfold pyNext
      refine wpAny_bind (wpAny_attempt (wpAny_callSpecial?_slot (name := Str.ofString "__next__") hTy PySem.F.slot_zip_next (wpAny_call_entry PySem.F.slot_zip_next hTy PySem.F.entry_zip_next
        (held3_end Z D1 D2 D3 qz hT q2 q4 q5 q6 (by omega) (by omega) (by omega) (by omega) fun h' tk e hk he => ?_) (PySem.F.args_zip_next_1 _))))
      obtain ⟨o, ho, hc⟩ := he
      refine wpAny_bind (wpAny_isInstance (T := "StopIteration") (b := true) ⟨o, ho, hc⟩ isSubtype_stop ?_)
      refine wpAny_pure (hQ h' tk fun c o hc e => ?_)
      simp at hc
      exact hk c o hc.1 hc.2.2.1 hc.2.2.2.1 hc.2.2.2.2 e
/-- many things laid at once -/
theorem laidAll {X : Cx} {pins : List (Addr × Obj)} {σ : L2.St} {H H' : Hp} {s : Shared} {h' : Heap} {t' : Nat} (I : Inv X pins σ H s) (k : ∀ b u, s.heap.get? b = some u → h'.get? b = some u) (low : ∀ b, b < s.heap.objs.size → H' b = H b)
    (new : ∀ b u, s.heap.objs.size ≤ b → H' b = some u → ObjOk X.prog X.w H' h' b u) : Inv X pins σ H' { s with heap := h', toks := t' } := by
  have lt : ∀ b u, H b = some u → b < s.heap.objs.size := fun b u e => by
    refine Nat.lt_of_not_le fun z => ?_
    rw [I.hok.fresh z] at e; cases e
  have up : ∀ b u, H b = some u → H' b = some u := fun b u e => (low b (lt b u e)).trans e
  refine I.un ⟨fun b u q _ _ _ => k b u q, fun b u q _ _ _ => ⟨u.slots, k b u q⟩, fun b u q n _ => (low b (Heap.lt_size q)).trans n, fun b u q _ => ⟨u, k b u q⟩, fun b xs q => up b _ q, fun b u xs q => up b _ q, fun b ps q => ⟨#[], by rw [up b _ q]; simp⟩⟩ fun b u e => ?_
  by_cases hb : b < s.heap.objs.size
  · rw [low b hb] at e
    exact (I.hok b u e).stay (fun c v _ q => k c v q) (fun c q => up c _ q) fun c xs q => up c _ q
  · exact new b u (Nat.le_of_not_lt hb) e
end Ow

set_option maxHeartbeats 1000000
namespace Ow
open PySem PySem.Spec PyProof.Rows L2
/-- the heap behind: the list at S, its tuples at as -/
def tookH (H : Hp) (N : Nat) (S : Addr) (as : List Addr) (rowV : Nat → List V) : Hp := fun b =>
  if b < N then H b else if b = S then some (.lst (as.map V.ref)) else if b ∈ as then some (.tup (rowV (as.idxOf b))) else none
theorem took_inv {X : Cx} {pins : List (Addr × Obj)} {σ : L2.St} {H : Hp} {s : Shared} {h' : Heap} {t' : Nat} {S : Addr} {as : List Addr} {row : Nat → List Value} {rowV : Nat → List V} {wr : List Addr} {acc : Array Value} {c : Nat} {n : Nat} (I : Inv X pins σ H s)
    (k : ∀ b u, s.heap.get? b = some u → h'.get? b = some u) (hS : s.heap.objs.size ≤ S) (hl : h'.get? S = some { cls := .type "list", dict := none, data := .seq acc c, slots := #[] }) (ha : acc.toList = as.map Value.ref) (hn : as.length = n) (hz : n ≤ sizeLine)
    (T : Took row S wr h' as) (rv : ∀ j, j < n → Vals (rowV j) (row j) ∧ (rowV j).length ≤ sizeLine) : Inv X pins σ (tookH H s.heap.objs.size S as rowV) { s with heap := h', toks := t' } := by
  have ok : ∀ b, b ∈ as → ∃ j, j < n ∧ as.idxOf b = j ∧ as[j]? = some b := fun b hb => by
    have h1 := List.idxOf_lt_length_of_mem hb
    exact ⟨_, by omega, rfl, by rw [List.getElem?_eq_getElem h1, List.getElem_idxOf h1]⟩
  refine laidAll I k (fun b hb => if_pos hb) fun b u hb e => ?_
  unfold tookH at e
  rw [if_neg (Nat.not_lt.mpr hb)] at e
  by_cases h1 : b = S
  · rw [if_pos h1] at e
    cases e
    subst h1
    refine ⟨by rw [List.length_map]; omega, acc.toList, c, ?_, by simpa using hl⟩
    rw [ha]
    clear ha hl T ok rv hn
    induction as with
    | nil => exact .nil
    | cons a r ih => exact .cons rfl ih
  · rw [if_neg h1] at e
    by_cases h2 : b ∈ as
    · rw [if_pos h2] at e
      cases e
      obtain ⟨j, hj, e1, e2⟩ := ok b h2
      rw [e1]
      exact ⟨(rv j hj).2, row j, (rv j hj).1, ⟨_, T.rows j b e2, rfl, _, rfl⟩⟩
    · rw [if_neg h2] at e; cases e
end Ow

set_option maxHeartbeats 1000000
namespace Ow
open PySem PySem.Spec PyProof.Rows L2
theorem relV_inj {v v' : V} {u : Value} (h : RelV v u) (h' : RelV v' u) : v = v' := by
  cases v <;> cases v' <;> simp only [L2.RelV] at h h' <;> (try (obtain ⟨t, rfl⟩ := h)) <;> (try subst h) <;> simp_all
theorem vals_inj : ∀ {xs ys : List V} {us : List Value}, Vals xs us → Vals ys us → xs = ys
  | _, _, _, .nil, .nil => rfl
  | _, _, _, .cons r h, .cons r' h' => by rw [relV_inj r r', vals_inj h h']
/-- what the iterator draws, at any depth -/
theorem drawsA {X : Cx} {pins : List (Addr × Obj)} {σ : L2.St} {H : Hp} {s : Shared} {prog : Program} {w : World} {A : Around} {k : Bool} {a it : Addr} {xs : List V} (I : Inv X pins σ H s) (hh : A.handled = none) (h : SqK k X.K H a xs) (hne : a ≠ it) :
    ∃ (its : List Value) (St : Nat → Heap → Prop), Vals xs its ∧ Draws prog w A it [it, a] its.length (fun i v => its[i]? = some v) St ∧ (IterK k s.heap it a 0 → St 0 s.heap) := by
  cases k with
  | true =>
    obtain ⟨its, rv, p, _⟩ := I.tuple h
    have D := Draws.tuple (prog := prog) (w := w) (A := A) hh it a hne its.toArray
    exact ⟨its, fun i h => h.IsTupleIter it a i ∧ h.IsTuple a its.toArray, rv, by simpa using D, fun q => ⟨q, p⟩⟩
  | false =>
    obtain ⟨its, rv, p, _⟩ := I.list h
    have D := Draws.list (prog := prog) (w := w) (A := A) hh it a hne its.toArray
    exact ⟨its, fun i h => h.IsListIter it a i ∧ h.IsList a its.toArray, rv, by simpa using D, fun q => ⟨q, p.isList⟩⟩
theorem Ext.low {W : Wd} {M : Mp} {H H' : Hp} (h : ∀ b, H b ≠ none → H' b = H b) : Ext W M H M H' := by
  refine ⟨fun a xs s => ?_, fun a xs n s _ => ?_, fun a o u s => ?_, fun a n n2 => absurd n n2, fun a n => by rw [h a n]; exact n⟩
  · rcases s with s | s
    · refine .inl ?_
      rcases s with s | ⟨o, s⟩
      · exact .inl (by rw [h a (by rw [s]; simp)]; exact s)
      · exact .inr ⟨o, by rw [h a (by rw [s]; simp)]; exact s⟩
    · exact .inr s
  · rw [h a (by rw [s]; simp)]; exact s
  · rw [h a (by rw [s]; simp)]; exact s
theorem AbsM.low {W : Wd} {M : Mp} {H H' : Hp} (A : AbsM W M H) (h : ∀ b, H b ≠ none → H' b = H b) : AbsM W M H' := fun a u q =>
  (A a u q).ext (Ext.low h) (h a (A a u q).ne)
theorem reps_rows {W : Wd} {M : Mp} {H : Hp} : ∀ {l : List (List D)} {as : List Addr}, l.length = as.length → (∀ (j : Nat) (a : Addr) (ds : List D), as[j]? = some a → l[j]? = some ds → ∃ xs, H a = some (.tup xs) ∧ Reps W M H ds xs) → Reps W M H (l.map .tup) (as.map V.ref)
  | [], [], _, _ => rfl
  | [], _ :: _, h, _ => by cases h
  | _ :: _, [], h, _ => by cases h
  | ds :: l, a :: as, h, k => by
    obtain ⟨xs, h1, h2⟩ := k 0 a ds rfl rfl
    exact ⟨_, _, rfl, ⟨a, xs, rfl, SqT.of h1, h2⟩, reps_rows (by simpa using h) fun j b es e1 e2 => k (j + 1) b es (by simpa using e1) (by simpa using e2)⟩
theorem took_end {X : Cx} {pins : List (Addr × Obj)} {σ : L2.St} {H : Hp} {s : Shared} {h' : Heap} {t' : Nat} {S : Addr} {as : List Addr} {row : Nat → List Value} {rowV : Nat → List V} {wr : List Addr} {acc : Array Value} {c : Nat} {n : Nat} {M : Mp} {fz : Bool} {Q : QE} {l : List (List D)} (I : Inv X pins σ H s)
    (k : ∀ b u, s.heap.get? b = some u → h'.get? b = some u) (hS : s.heap.objs.size ≤ S) (hl : h'.get? S = some { cls := .type "list", dict := none, data := .seq acc c, slots := #[] }) (ha : acc.toList = as.map Value.ref) (hn : as.length = n) (hz : n ≤ sizeLine)
    (T : Took row S wr h' as) (rv : ∀ j, j < n → Vals (rowV j) (row j) ∧ (rowV j).length ≤ sizeLine) (A : AbsM (wd X) M H) (len : l.length = n) (hrow : ∀ j ds, l[j]? = some ds → Reps (wd X) M H ds (rowV j))
    (q : if fz = true then Q (.lst (l.map .tup)) M else ∀ p, M p = none → Q (.ref p) (M.upd p (.lst (l.map .tup)))) : EP X pins σ (lft (wd X) M H Q) (.ref S) { s with heap := h', toks := t' } := by
  have I' := took_inv (t' := t') I k hS hl ha hn hz T rv
  obtain ⟨H', hH'⟩ : ∃ H', H' = tookH H s.heap.objs.size S as rowV := ⟨_, rfl⟩
  rw [← hH'] at I'
  have lt : ∀ b, H b ≠ none → b < s.heap.objs.size := fun b e => by
    refine Nat.lt_of_not_le fun z => ?_
    exact e (I.hok.fresh z)
  have low : ∀ b, H b ≠ none → H' b = H b := fun b e => by rw [hH']; exact if_pos (lt b e)
  have eS : H' S = some (.lst (as.map V.ref)) := by
    rw [hH']; unfold tookH; rw [if_neg (Nat.not_lt.mpr hS), if_pos rfl]
  have x1 : Ext (wd X) M H M H' := Ext.low low
  have A1 : AbsM (wd X) M H' := A.low low
  have hSn : H S = none := I.hok.fresh hS
  have rr : ∀ M', Ext (wd X) M H M' H' → Reps (wd X) M' H' (l.map .tup) (as.map V.ref) := by
    intro M' x
    refine reps_rows (len.trans hn.symm) fun j a ds e1 e2 => ⟨rowV j, ?_, (hrow j ds e2).ext x⟩
    have hj : j < n := by
      rw [← hn]; exact (List.getElem?_eq_some_iff.mp e1).1
    have hm : a ∈ as := List.mem_of_getElem? e1
    obtain ⟨h1, _⟩ := T.above a hm
    rw [hH']; unfold tookH
    rw [if_neg (Nat.not_lt.mpr (Nat.le_trans hS (Nat.le_of_lt h1))), if_neg (Nat.ne_of_gt h1), if_pos hm]
    have hi := List.idxOf_lt_length_of_mem hm
    have ei : as[as.idxOf a]? = some a := by rw [List.getElem?_eq_getElem hi, List.getElem_idxOf hi]
    have r1 := T.rows _ _ e1
    have r2 := T.rows _ _ ei
    rw [r1] at r2
    have r3 : row j = row (as.idxOf a) := by
      have := Option.some.inj r2
      simpa using this
    have v1 := (rv j hj).1
    rw [r3] at v1
    rw [vals_inj (rv _ (by omega)).1 v1]
  cases fz with
  | true =>
    rw [if_pos rfl] at q
    exact ⟨.ref S, H', I', rfl, .lst (l.map .tup), M, x1, ⟨S, _, rfl, A.free hSn, eS, rr M x1⟩, A1, q⟩
  | false =>
    rw [if_neg Bool.false_ne_true] at q
    have x2 : Ext (wd X) M H (M.upd S (.lst (l.map .tup))) H' := ⟨x1.tup, x1.lst, x1.frz, fun a n n2 => by
      by_cases e : a = S
      · rw [e]; exact hSn
      · rw [Mp.upd_ne e] at n2; exact absurd n n2, x1.old⟩
    refine ⟨.ref S, H', I', rfl, .ref S, _, x2, rfl, fun a w qa => ?_, q S (A.free hSn)⟩
    by_cases e : a = S
    · subst e
      rw [Mp.upd_same] at qa; cases qa
      exact ⟨_, eS, rr _ x2⟩
    · rw [Mp.upd_ne e] at qa
      exact (A a w qa).ext x2 (low a (A a w qa).ne)

theorem wpAny_iter_ziplike {prog : Program} {w : World} {A : Around} {E : Value → Shared → Prop} {s : Shared} {z : Addr} {Q : Value → Shared → Prop} (hT : s.TypeIs (.ref z) "zip") (h : Q (.ref z) s) : wpAny (model prog w) A (pyIter (.ref z)) Q E s := by
  refine wpAny_pyIter_slot hT F.slot_zip_iter (wpAny_call_entry F.slot_zip_iter hT F.entry_zip_iter ?_ (F.args_zip_iter_1 _))
  show wpAny _ _ (ret (.ref z)) _ _ s
  exact wpAny_pure ⟨_, rfl, "zip", _, hT, F.slot_zip_next.lookup, h⟩
theorem ZipAt.ty {z TI TO S : Addr} {its : List Addr} {i : Nat} {s : Shared} (h : ZipAt z TI TO S its i s.heap) : s.TypeIs (.ref z) "zip" := by
  rcases h with ⟨_, h⟩ | ⟨T, f, oT, h, _⟩
  · exact ⟨_, h, rfl⟩
  · exact ⟨_, h, rfl⟩
theorem zmap2 (l1 l2 : List D) : ((l1.zip l2).map fun p => D.tup [p.1, p.2]) = ((l1.zip l2).map fun p => [p.1, p.2]).map .tup := by rw [List.map_map]; rfl
theorem zmap3 (l1 l2 l3 : List D) : ((l1.zip (l2.zip l3)).map fun p => D.tup [p.1, p.2.1, p.2.2]) = ((l1.zip (l2.zip l3)).map fun p => [p.1, p.2.1, p.2.2]).map .tup := by rw [List.map_map]; rfl
theorem getV {xs : List V} {its : List Value} {j : Nat} (h : Vals xs its) (hj : j < its.length) : L2.RelV (xs.getD j .non) (its.getD j .none) := by
  have hj' : j < xs.length := by rw [h.length]; exact hj
  obtain ⟨u, e1, e2⟩ := h.get (List.getElem?_eq_getElem hj')
  rw [List.getD_eq_getElem?_getD, List.getD_eq_getElem?_getD, e1, List.getElem?_eq_getElem hj']
  exact e2
theorem thenE {X : Cx} {pins : List (Addr × Obj)} {σ : L2.St} {M M1 : Mp} {H H1 : Hp} {Q : QE} {u : Value} {s : Shared} (x : Ext (wd X) M H M1 H1) (h : EP X pins σ (lft (wd X) M1 H1 Q) u s) : EP X pins σ (lft (wd X) M H Q) u s := by
  obtain ⟨v, H', I', rv', d, M', x', r', A', q'⟩ := h
  exact ⟨v, H', I', rv', d, M', x.trans x', r', A', q'⟩
theorem two_le : (2 : Nat) ≤ sizeLine := by decide
theorem three_le : (3 : Nat) ≤ sizeLine := by decide
theorem DE.lzip2 {X : Cx} {e e2 : Expr} {t : DTA} {p p0 pos pos0 : Pos} {fz : Bool} (hgl : Gl X "list") (hml : X.mg "list" = none) (hg : Gl X "zip") (hm : X.mg "zip" = none) (h : DA X [e, e2] t) (hs : notStar e = true) (hs2 : notStar e2 = true) (hh : X.A.handled = none) :
    DE X (.Call (.Name "list" p0) [.Call (.Name "zip" p) [e, e2] [] pos] [] pos0) (fun ρ M Q => t ρ M fun ds M1 => itD .zip2 ds M1 fun l _ M2 => l.length ≤ sizeLine ∧ if fz = true then Q (.lst l) M2 else ∀ p, M2 p = none → Q (.ref p) (M2.upd p (.lst l))) := by
  refine ⟨fun σ H ρ M Q S A z pins s I => ?_⟩
  refine wpAny_Call_Name_kw (ld_blt I hgl hml (by decide +kernel : bootBuiltins "list" = some (.type "list")) (PyProof.Rows.callWith_type1 (Calls.spliced_cons ?_) rfl rfl))
  refine Call_ (ld_blt I hg hm PyProof.Rows.boot_zip (PyProof.Rows.callWith_type1 (thn (h.to σ H ρ M _ S A z pos pins s I) fun us s1 ⟨vs, H1, I1, rv, ds, M1, x, r, A1, q⟩ => ?_) (star_cons hs) (star_none (by rw [List.all_cons, hs2]; rfl))))
  obtain ⟨d1, d2, l1, l2, rfl, e1, e2, q⟩ := itD_zip2 q
  obtain ⟨v1, v2, rfl, r1, r2⟩ := reps2 r
  obtain ⟨a, xs, rfl, sx, rx⟩ := seq_kind A1 r1 e1
  obtain ⟨b, ys, rfl, sy, ry⟩ := seq_kind A1 r2 e2
  obtain ⟨u1, u2, rfl, w1, w2⟩ := vals2 rv
  cases w1; cases w2
  obtain ⟨P1, B1, p1⟩ := kind_begins I1 sx
  obtain ⟨P2, B2, p2⟩ := kind_begins I1 sy
  have la := SqK.lt I1 sx
  have lb := SqK.lt I1 sy
  refine zip_begins2 B1 B2 p1 p2 fun h' hz hTI hTO h1 h2 hsz hk => ?_
  have I2 : Inv X pins σ H1 { s1 with heap := h' } := I1.kept (t' := s1.toks) hk
  have Z := zip_sep2 (fp1 := [a]) (fp2 := [b]) (by simpa using la) (by simpa using lb)
  obtain ⟨its1, St1, vx, D1, s10⟩ := drawsA (prog := X.prog) (w := X.w) (A := X.A.in1.in1.in1) I2 hh sx (Nat.ne_of_lt la)
  obtain ⟨its2, St2, vy, D2, s20⟩ := drawsA (prog := X.prog) (w := X.w) (A := X.A.in1.in1.in1) I2 hh sy (Nat.ne_of_lt (Nat.lt_succ_of_lt lb))
  have ne : ∀ c : Nat, c < s1.heap.objs.size + 5 → c ≠ h'.objs.size := fun c hc e => by rw [e, hsz] at hc; exact Nat.lt_irrefl _ hc
  have W := tsrc2 (S := h'.objs.size) Z D1 D2 (ne _ (by omega)) (ne _ (by omega)) (ne _ (by omega)) (fun hm => by
    simp at hm
    rcases hm with e | e
    · exact ne _ (by omega) e.symm
    · exact ne a (Nat.lt_of_lt_of_le la (Nat.le_add_right _ _)) e.symm) (fun hm => by
    simp at hm
    rcases hm with e | e
    · exact ne _ (by omega) e.symm
    · exact ne b (Nat.lt_of_lt_of_le lb (Nat.le_add_right _ _)) e.symm)
  refine Calls.spliced_nil ?_
  have xl := vx.length
  have yl := vy.length
  have ll1 := rx.length
  have ll2 := ry.length
  have lz : ((l1.zip l2).map fun p => D.tup [p.1, p.2]).length ≤ sizeLine := q.1
  have hn : min its1.length its2.length ≤ sizeLine := by rw [List.length_map, List.length_zip] at lz; omega
  refine src_call (s := { s1 with heap := h' }) W hn (fun c hc => ?_) ⟨_, hz, rfl⟩ (fun s Q E st h => wpAny_iter_ziplike st.1.ty h) ⟨.inl ⟨rfl, hz⟩, hTI, ⟨_, _, hTO⟩, s10 (IterK.new h1), s20 (IterK.new h2)⟩ fun h2' tk acc c as hk2 hl hal T hacc => ?_
  · simp at hc
    have key : ∀ m : Nat, m < s1.heap.objs.size + 5 → m < h'.objs.size := fun m hm => by rw [hsz]; exact hm
    show c < h'.objs.size
    rcases hc with rfl | rfl | rfl | rfl <;> exact key _ (by omega)
  · refine thenE x (took_end (s := s1) (t' := tk) (fz := fz) (Q := Q) (M := M1) (l := (l1.zip l2).map fun p => [p.1, p.2]) (rowV := fun j => [xs.getD j .non, ys.getD j .non]) I1 (fun b' u hb => ?_) (by show s1.heap.objs.size ≤ h'.objs.size; omega) hl hacc hal hn T
      (fun j hj => ⟨.cons (getV vx (by omega)) (.cons (getV vy (by omega)) .nil), two_le⟩) A1 (by simp; omega) (fun j ds hds => ?_) (by rw [← zmap2]; exact q.2))
    · have hlt : b' < s1.heap.objs.size := Heap.lt_size hb
      refine hk2 b' u (fun hc => ?_) (hk b' u hb)
      simp at hc
      rcases hc with rfl | rfl | rfl | rfl <;> first | exact Nat.not_lt.mpr (Nat.le_add_right _ _) hlt | exact Nat.lt_irrefl _ hlt
    · rw [List.getElem?_map] at hds
      cases qd : (l1.zip l2)[j]? with
      | none => rw [qd] at hds; cases hds
      | some pr =>
        rw [qd] at hds; cases hds
        obtain ⟨g1, g2⟩ := List.getElem?_zip_eq_some.mp qd
        obtain ⟨x1, f1, f2⟩ := rx.get g1
        obtain ⟨x2, f3, f4⟩ := ry.get g2
        refine ⟨_, _, by rw [List.getD_eq_getElem?_getD, List.getD_eq_getElem?_getD, f1, f3]; rfl, f2, _, _, rfl, f4, rfl⟩
theorem DE.lzip3 {X : Cx} {e e2 e3 : Expr} {t : DTA} {p p0 pos pos0 : Pos} {fz : Bool} (hgl : Gl X "list") (hml : X.mg "list" = none) (hg : Gl X "zip") (hm : X.mg "zip" = none) (h : DA X [e, e2, e3] t) (hs : notStar e = true) (hs2 : notStar e2 = true) (hs3 : notStar e3 = true) (hh : X.A.handled = none) :
    DE X (.Call (.Name "list" p0) [.Call (.Name "zip" p) [e, e2, e3] [] pos] [] pos0) (fun ρ M Q => t ρ M fun ds M1 => itD .zip3 ds M1 fun l _ M2 => l.length ≤ sizeLine ∧ if fz = true then Q (.lst l) M2 else ∀ p, M2 p = none → Q (.ref p) (M2.upd p (.lst l))) := by
  refine ⟨fun σ H ρ M Q S A z pins s I => ?_⟩
  refine wpAny_Call_Name_kw (ld_blt I hgl hml (by decide +kernel : bootBuiltins "list" = some (.type "list")) (PyProof.Rows.callWith_type1 (Calls.spliced_cons ?_) rfl rfl))
  refine Call_ (ld_blt I hg hm PyProof.Rows.boot_zip (PyProof.Rows.callWith_type1 (thn (h.to σ H ρ M _ S A z pos pins s I) fun us s1 ⟨vs, H1, I1, rv, ds, M1, x, r, A1, q⟩ => ?_) (star_cons hs) (star_none (by rw [List.all_cons, List.all_cons, hs2, hs3]; rfl))))
  obtain ⟨d1, d2, d3, l1, l2, l3, rfl, e1, e2, e3, q⟩ := itD_zip3 q
  obtain ⟨v1, v2, v3, rfl, r1, r2, r3⟩ := reps3 r
  obtain ⟨a, xs, rfl, sx, rx⟩ := seq_kind A1 r1 e1
  obtain ⟨b, ys, rfl, sy, ry⟩ := seq_kind A1 r2 e2
  obtain ⟨c3, zs, rfl, sz, rz⟩ := seq_kind A1 r3 e3
  cases rv with
  | cons w1 rv =>
  obtain ⟨u2, u3, rfl, w2, w3⟩ := vals2 rv
  cases w1; cases w2; cases w3
  obtain ⟨P1, B1, p1⟩ := kind_begins I1 sx
  obtain ⟨P2, B2, p2⟩ := kind_begins I1 sy
  obtain ⟨P3, B3, p3⟩ := kind_begins I1 sz
  have la := SqK.lt I1 sx
  have lb := SqK.lt I1 sy
  have lc := SqK.lt I1 sz
  refine zip_begins3 B1 B2 B3 p1 p2 p3 fun h' hz hTI hTO h1 h2 h3 hsz hk => ?_
  have I2 : Inv X pins σ H1 { s1 with heap := h' } := I1.kept (t' := s1.toks) hk
  have Z := zip_sep3 (fp1 := [a]) (fp2 := [b]) (fp3 := [c3]) (by simpa using la) (by simpa using lb) (by simpa using lc)
  obtain ⟨its1, St1, vx, D1, s10⟩ := drawsA (prog := X.prog) (w := X.w) (A := X.A.in1.in1.in1) I2 hh sx (Nat.ne_of_lt la)
  obtain ⟨its2, St2, vy, D2, s20⟩ := drawsA (prog := X.prog) (w := X.w) (A := X.A.in1.in1.in1) I2 hh sy (Nat.ne_of_lt (Nat.lt_succ_of_lt lb))
  obtain ⟨its3, St3, vz, D3, s30⟩ := drawsA (prog := X.prog) (w := X.w) (A := X.A.in1.in1.in1) I2 hh sz (Nat.ne_of_lt (Nat.lt_succ_of_lt (Nat.lt_succ_of_lt lc)))
  have ne : ∀ c : Nat, c < s1.heap.objs.size + 6 → c ≠ h'.objs.size := fun c hc e => by rw [e, hsz] at hc; exact Nat.lt_irrefl _ hc
  have W := tsrc3 (S := h'.objs.size) Z D1 D2 D3 (ne _ (by omega)) (ne _ (by omega)) (ne _ (by omega)) (fun hm => by
    simp at hm
    rcases hm with e | e
    · exact ne _ (by omega) e.symm
    · exact ne a (Nat.lt_of_lt_of_le la (Nat.le_add_right _ _)) e.symm) (fun hm => by
    simp at hm
    rcases hm with e | e
    · exact ne _ (by omega) e.symm
    · exact ne b (Nat.lt_of_lt_of_le lb (Nat.le_add_right _ _)) e.symm) (fun hm => by
    simp at hm
    rcases hm with e | e
    · exact ne _ (by omega) e.symm
    · exact ne c3 (Nat.lt_of_lt_of_le lc (Nat.le_add_right _ _)) e.symm)
  refine Calls.spliced_nil ?_
  have xl := vx.length
  have yl := vy.length
  have zl := vz.length
  have ll1 := rx.length
  have ll2 := ry.length
  have ll3 := rz.length
  have lz : ((l1.zip (l2.zip l3)).map fun p => D.tup [p.1, p.2.1, p.2.2]).length ≤ sizeLine := q.1
  have hn : min its1.length (min its2.length its3.length) ≤ sizeLine := by rw [List.length_map, List.length_zip, List.length_zip] at lz; omega
  refine src_call (s := { s1 with heap := h' }) W hn (fun c hc => ?_) ⟨_, hz, rfl⟩ (fun s Q E st h => wpAny_iter_ziplike st.1.ty h) ⟨.inl ⟨rfl, hz⟩, hTI, ⟨_, _, _, hTO⟩, s10 (IterK.new h1), s20 (IterK.new h2), s30 (IterK.new h3)⟩ fun h2' tk acc c as hk2 hl hal T hacc => ?_
  · simp at hc
    have key : ∀ m : Nat, m < s1.heap.objs.size + 6 → m < h'.objs.size := fun m hm => by rw [hsz]; exact hm
    show c < h'.objs.size
    rcases hc with rfl | rfl | rfl | rfl | rfl <;> exact key _ (by omega)
  · refine thenE x (took_end (s := s1) (t' := tk) (fz := fz) (Q := Q) (M := M1) (l := (l1.zip (l2.zip l3)).map fun p => [p.1, p.2.1, p.2.2]) (rowV := fun j => [xs.getD j .non, ys.getD j .non, zs.getD j .non]) I1 (fun b' u hb => ?_) (by show s1.heap.objs.size ≤ h'.objs.size; omega) hl hacc hal hn T
      (fun j hj => ⟨.cons (getV vx (by omega)) (.cons (getV vy (by omega)) (.cons (getV vz (by omega)) .nil)), three_le⟩) A1 (by simp; omega) (fun j ds hds => ?_) (by rw [← zmap3]; exact q.2))
    · have hlt : b' < s1.heap.objs.size := Heap.lt_size hb
      refine hk2 b' u (fun hc => ?_) (hk b' u hb)
      simp at hc
      rcases hc with rfl | rfl | rfl | rfl | rfl <;> first | exact Nat.not_lt.mpr (Nat.le_add_right _ _) hlt | exact Nat.lt_irrefl _ hlt
    · rw [List.getElem?_map] at hds
      cases qd : (l1.zip (l2.zip l3))[j]? with
      | none => rw [qd] at hds; cases hds
      | some pr =>
        rw [qd] at hds; cases hds
        obtain ⟨g1, g23⟩ := List.getElem?_zip_eq_some.mp qd
        obtain ⟨g2, g3⟩ := List.getElem?_zip_eq_some.mp g23
        obtain ⟨x1, f1, f2⟩ := rx.get g1
        obtain ⟨x2, f3, f4⟩ := ry.get g2
        obtain ⟨x3, f5, f6⟩ := rz.get g3
        refine ⟨_, _, by rw [List.getD_eq_getElem?_getD, List.getD_eq_getElem?_getD, List.getD_eq_getElem?_getD, f1, f3, f5]; rfl, f2, _, _, rfl, f4, _, _, rfl, f6, rfl⟩
end Ow

namespace Ow
open PySem PySem.Spec PyProof.Rows L2
/-! ### the slots of a block -/
def wipeD (ρ : DSt) : List Nat → DSt
  | [] => ρ
  | v :: vs => (wipeD ρ vs).set v none
section
variable {W : Wd} {M : Mp} {H : Hp} {ρ : DSt} {σ : L2.St}
theorem AbsS.set (S : AbsS W M H ρ σ) {i : Nat} {d : D} {v : V} (r : Rep W M H d v) : AbsS W M H (ρ.set i (some d)) (σ.set i (some v)) := by
  refine ⟨by rw [List.length_set, List.length_set]; exact S.1, fun j e h => ?_⟩
  by_cases hj : i = j
  · subst hj
    rw [List.getElem?_set] at h
    simp only [if_true] at h
    split at h
    · rename_i hl
      cases h
      exact ⟨v, by rw [List.getElem?_set]; simp only [if_true]; rw [if_pos (by rw [← S.1]; exact hl)], r⟩
    · cases h
  · rw [List.getElem?_set_ne hj] at h
    rw [List.getElem?_set_ne hj]
    exact S.2 j e h
theorem AbsS.unset (S : AbsS W M H ρ σ) {i : Nat} : AbsS W M H (ρ.set i none) (σ.set i none) := by
  refine ⟨by rw [List.length_set, List.length_set]; exact S.1, fun j e h => ?_⟩
  by_cases hj : i = j
  · subst hj
    rw [List.getElem?_set] at h
    simp only [if_true] at h
    split at h <;> cases h
  · rw [List.getElem?_set_ne hj] at h
    rw [List.getElem?_set_ne hj]
    exact S.2 j e h
theorem AbsS.wipe (S : AbsS W M H ρ σ) : ∀ vs, AbsS W M H (wipeD ρ vs) (L2.wipe σ vs)
  | [] => S
  | v :: vs => (AbsS.wipe S vs).unset
theorem wipe_set_set {σ : L2.St} {i : Nat} {x : Option V} : ∀ vs : List Nat, (L2.wipe (σ.set i x) vs).set i none = (L2.wipe σ vs).set i none
  | [] => by show (σ.set i x).set i none = σ.set i none; rw [List.set_set]
  | v :: vs => by
    show ((L2.wipe (σ.set i x) vs).set v none).set i none = ((L2.wipe σ vs).set v none).set i none
    by_cases h : v = i
    · subst h
      rw [List.set_set, List.set_set, wipe_set_set vs]
    · rw [List.set_comm _ _ h, List.set_comm _ _ h, wipe_set_set vs]
theorem wipe_set {σ : L2.St} {i : Nat} {x : Option V} : ∀ {vs : List Nat}, i ∈ vs → L2.wipe (σ.set i x) vs = L2.wipe σ vs
  | v :: vs, h => by
    show (L2.wipe (σ.set i x) vs).set v none = (L2.wipe σ vs).set v none
    by_cases e : i = v
    · subst e; exact wipe_set_set vs
    · rw [wipe_set ((List.mem_cons.mp h).resolve_left e)]
theorem wipe_wipe {σ : L2.St} (vs : List Nat) : ∀ us : List Nat, (∀ u ∈ us, u ∈ vs) → L2.wipe (L2.wipe σ us) vs = L2.wipe σ vs
  | [], _ => rfl
  | u :: us, h => by
    show L2.wipe ((L2.wipe σ us).set u none) vs = _
    rw [wipe_set (h u List.mem_cons_self)]
    exact wipe_wipe vs us fun x hx => h x (List.mem_cons_of_mem _ hx)
/-! ### what a target does -/
mutual
theorem bindT_g {K : PySem.W.Frag} (hK : W.K = K) : ∀ (ct : CT) {d : D} {v : V} {ρ : DSt} {σ : L2.St} {Kd : DSt → Prop} {R : L2.St → Hp → Prop} {vs : List Nat}, (∀ i ∈ ct.at, i ∈ vs) → AbsS W M H ρ σ → Rep W M H d v → bindT ct d ρ Kd →
    (∀ ρ' σ', AbsS W M H ρ' σ' → L2.wipe σ' vs = L2.wipe σ vs → Kd ρ' → R σ' H) → ct.g K v σ H R
  | .nm i, d, v, ρ, σ, Kd, R, vs, hi, S, r, z, k => k _ _ (S.set r) (wipe_set (hi i (List.mem_singleton.mpr rfl))) z
  | .tup ts, d, v, ρ, σ, Kd, R, vs, hi, S, r, z, k => by
    cases d with
    | tup l =>
      obtain ⟨a, xs, rfl, s, rs⟩ := r
      have z' : bindTs ts l ρ Kd := z
      obtain ⟨h1, h2⟩ := bindTs_g hK ts (R := R) (vs := vs) hi S rs z' k
      exact ⟨a, xs, rfl, hK ▸ s, h1, h2⟩
    | _ => exact z.elim
theorem bindTs_g {K : PySem.W.Frag} (hK : W.K = K) : ∀ (ts : List CT) {l : List D} {xs : List V} {ρ : DSt} {σ : L2.St} {Kd : DSt → Prop} {R : L2.St → Hp → Prop} {vs : List Nat}, (∀ i ∈ CT.ats ts, i ∈ vs) → AbsS W M H ρ σ → Reps W M H l xs → bindTs ts l ρ Kd →
    (∀ ρ' σ', AbsS W M H ρ' σ' → L2.wipe σ' vs = L2.wipe σ vs → Kd ρ' → R σ' H) → xs.length = ts.length ∧ CT.gs K ts xs σ H R
  | [], l, xs, ρ, σ, Kd, R, vs, hi, S, r, z, k => by
    cases l with
    | nil => rw [show xs = [] from r]; exact ⟨rfl, rfl, k ρ σ S rfl z⟩
    | cons _ _ => exact z.elim
  | t :: ts, l, xs, ρ, σ, Kd, R, vs, hi, S, r, z, k => by
    cases l with
    | nil => exact z.elim
    | cons d ds =>
      obtain ⟨v, vr, rfl, r1, r2⟩ := r
      have hl : ds.length = vr.length := r2.length
      have z' : bindT t d ρ fun ρ' => bindTs ts ds ρ' Kd := z
      have len : ts.length = ds.length := by
        have : ∀ (ts : List CT) (ds : List D) (ρ : DSt) (K : DSt → Prop), bindTs ts ds ρ K → ts.length = ds.length := bindTs_len
        exact bindT_len t d ρ _ _ z' fun ρ' h => this ts ds ρ' Kd h
      refine ⟨by rw [List.length_cons, List.length_cons, len, hl], v, vr, rfl, ?_⟩
      refine bindT_g hK t (vs := vs) (fun i hi' => hi i (List.mem_append_left _ hi')) S r1 z' fun ρ' σ' S' w' z2 => ?_
      exact (bindTs_g hK ts (vs := vs) (fun i hi' => hi i (List.mem_append_right _ hi')) S' r2 z2 fun ρ2 σ2 S2 w2 z3 => k ρ2 σ2 S2 (w2.trans w') z3).2
theorem bindT_len : ∀ (t : CT) (d : D) (ρ : DSt) (K : DSt → Prop) (P : Prop), bindT t d ρ K → (∀ ρ', K ρ' → P) → P
  | .nm i, d, ρ, K, P, z, k => k _ z
  | .tup ts, d, ρ, K, P, z, k => by
    cases d with
    | tup l => exact bindTs_P ts l ρ K P z k
    | _ => exact z.elim
theorem bindTs_P : ∀ (ts : List CT) (l : List D) (ρ : DSt) (K : DSt → Prop) (P : Prop), bindTs ts l ρ K → (∀ ρ', K ρ' → P) → P
  | [], l, ρ, K, P, z, k => by
    cases l with
    | nil => exact k _ z
    | cons _ _ => exact z.elim
  | t :: ts, l, ρ, K, P, z, k => by
    cases l with
    | nil => exact z.elim
    | cons d ds => exact bindT_len t d ρ _ P z fun ρ' h => bindTs_P ts ds ρ' K P h k
theorem bindTs_len : ∀ (ts : List CT) (ds : List D) (ρ : DSt) (K : DSt → Prop), bindTs ts ds ρ K → ts.length = ds.length
  | [], ds, ρ, K, z => by
    cases ds with
    | nil => rfl
    | cons _ _ => exact z.elim
  | t :: ts, ds, ρ, K, z => by
    cases ds with
    | nil => exact z.elim
    | cons d ds =>
      rw [List.length_cons, List.length_cons]
      exact congrArg (· + 1) (bindT_len t d ρ _ _ z fun ρ' h => bindTs_len ts ds ρ' K h)
end
end
/-! ### comprehensions -/
def upT (W : Wd) (t : DTE) : TE := fun σ H Q => ∃ ρ M Qd, AbsS W M H ρ σ ∧ AbsM W M H ∧ t ρ M Qd ∧ ∀ v H', lft W M H Qd v H' → Q v H'
theorem pe_upT {X : Cx} {e : Expr} {t : DTE} (h : DE X e t) : PE X e (upT (wd X) t) := ⟨fun pins s σ H Q I ⟨ρ, M, Qd, S, A, z, k⟩ => cT_mono (h.to σ H ρ M Qd S A z) k pins s I⟩
def upC (W : Wd) (t : DTT) : TT := fun σ H R => ∃ ρ M Q, AbsS W M H ρ σ ∧ AbsM W M H ∧ t ρ M Q ∧ ∀ k M1 H1, Ext W M H M1 H1 → AbsM W M1 H1 → Q k M1 → R k H1
theorem pt_upC {X : Cx} {e : Expr} {t : DTT} (h : DC X e t) : PT X e (upC (wd X) t) := ⟨fun pins s σ H R I ⟨ρ, M, Q, S, A, z, k⟩ => let ⟨tt, h1, h2⟩ := h.to; h1.run pins s σ H R I (h2 σ H ρ M Q R S A z k)⟩
theorem piT_mono {X : Cx} {tg iter : Expr} {σ : L2.St} {H : Hp} {R R' : It → Hp → Prop} (h : piT X tg iter σ H R) (m : ∀ J H1, R J H1 → R' J H1) : piT X tg iter σ H R' := fun pins s I =>
  thn (h pins s I) fun v s1 h1 => thn h1 fun itv s2 ⟨it, fp, tn, J, H', e, I', tu, t0, hf, r⟩ => ⟨it, fp, tn, J, H', e, I', tu, t0, hf, m J H' r⟩
/-- one turn: the target, the test, the item -/
def turnC (ct : CT) (own : List Nat) (tt : DTT) (te : DTE) (ρ : DSt) (x : D) (M : Mp) (add : QE) (skip : Mp → Prop) : Prop :=
  bindT ct x (wipeD ρ own) fun ρ' => tt ρ' M fun k M1 => if k = true then te ρ' M1 add else skip M1
/-- the items that come, the new list at p -/
def cmpL (fz : Bool) (ok : Mp → Prop) (turn : D → Mp → QE → (Mp → Prop) → Prop) (p : Addr) (Q : QE) : List D → Mp → Prop
  | [], M => ok M ∧ (match M p with
    | some (.lst acc) => if fz = true then Q (.lst acc) (M.del p) else Q (.ref p) M
    | _ => False)
  | x :: r, M => ok M ∧ turn x M (fun d M' => match M' p with
      | some (.lst acc) => acc.length < sizeLine ∧ cmpL fz ok turn p Q r (M'.upd p (.lst (acc ++ [d])))
      | _ => False) (fun M' => cmpL fz ok turn p Q r M')
theorem cmpL_ok {fz : Bool} {ok : Mp → Prop} {turn : D → Mp → QE → (Mp → Prop) → Prop} {p : Addr} {Q : QE} {l : List D} {M : Mp} (h : cmpL fz ok turn p Q l M) : ok M := by
  cases l <;> exact h.1
theorem Rep.thaw {W : Wd} {M : Mp} {H : Hp} {a : Addr} {l : List D} (A : AbsM W M H) (h : M a = some (.lst l)) : Rep W (M.del a) H (.lst l) (.ref a) := by
  obtain ⟨xs, h1, h2⟩ := A a _ h
  exact ⟨a, xs, rfl, Mp.del_same, h1, h2.ext (Ext.forget Mp.sub_del)⟩
@[simp] def yesD : DTT := fun _ M Q => Q true M
theorem comp_core {X : Cx} {tg iter : Expr} {ct : CT} {own : List (Str × Nat)} {ti : DTI} {te : DTE} {tt : DTT} {fz : Bool} {σ : L2.St} {H : Hp} {ρ : DSt} {M : Mp} {Q : QE} {R : VK} (hi : DI X tg iter ti) (hat : ∀ i ∈ ct.at, i ∈ own.map (·.2))
    (S : AbsS (wd X) M H ρ σ) (A : AbsM (wd X) M H) (z : ti ρ M fun l okM M1 => ∀ p, M1 p = none → cmpL fz okM (turnC ct (own.map (·.2)) tt te ρ) p Q l (M1.upd p (.lst []))) (out : ∀ v H', lft (wd X) M H Q v H' → R v H') :
    tLc (piT X tg iter) (ct.g X.K) (upC (wd X) tt) (upT (wd X) te) (own.map (·.2)) σ H R := by
  refine piT_mono (hi.to σ H ρ M _ S A z) fun J H1 ⟨l, okM, M1, x, A1, G, q⟩ D hD => ?_
  have q0 := q D (A1.free hD)
  have x0 : Ext (wd X) M1 H1 (M1.upd D (.lst [])) (upd H1 D (.lst [])) := Ext.freshM A1 hD
  have A0 : AbsM (wd X) (M1.upd D (.lst [])) (upd H1 D (.lst [])) := AbsM.freshM A1 hD ⟨[], upd_same, rfl⟩
  refine ⟨fun i m H2 => ∃ M2, Ext (wd X) M1 H1 M2 H2 ∧ AbsM (wd X) M2 H2 ∧ i + m = l.length ∧ cmpL fz okM (turnC ct (own.map (·.2)) tt te ρ) D Q (l.drop i) M2, ⟨l.length, _, x0, A0, Nat.zero_add _, q0⟩, fun i m H2 hW => ?_⟩
  obtain ⟨M2, x2, A2, em, w⟩ := hW
  have g := G M2 H2 x2 A2 (cmpL_ok w) i
  by_cases hlt : i < l.length
  · refine .inr ?_
    have e : l[i]? = some l[i] := List.getElem?_eq_getElem hlt
    obtain ⟨go, yl⟩ := g.1 _ e
    rw [List.drop_eq_getElem_cons hlt] at w
    obtain ⟨_, w⟩ := w
    refine ⟨go, fun H' => ∃ M', Ext (wd X) M1 H1 M' H' ∧ AbsM (wd X) M' H' ∧ cmpL fz okM (turnC ct (own.map (·.2)) tt te ρ) D Q (l.drop (i + 1)) M', fun H' ⟨M', h1, h2, h3⟩ => ⟨m - 1, by omega, M', h1, h2, by omega, h3⟩, fun v H' hy => ?_⟩
    obtain ⟨x3, A3, r3⟩ := yl v H' hy
    have S3 : AbsS (wd X) M2 H' (wipeD ρ (own.map (·.2))) (L2.wipe σ (own.map (·.2))) := (S.ext ((x.trans x2).trans x3)).wipe _
    refine bindT_g rfl ct hat S3 r3 w fun ρ' σ' S' w' z' => ⟨?_, ρ', M2, _, S', A3, z', fun k M4 H4 x4 A4 z4 => ?_⟩
    · rw [w', wipe_wipe _ _ fun u h => h]
    · cases k with
      | false =>
        rw [if_neg Bool.false_ne_true] at z4 ⊢
        exact ⟨M4, (x2.trans x3).trans x4, A4, z4⟩
      | true =>
        rw [if_pos rfl] at z4 ⊢
        refine ⟨ρ', M4, _, S'.ext x4, A4, z4, fun y H5 ⟨d, M5, x5, r5, A5, q5⟩ => ?_⟩
        dsimp only at q5
        split at q5
        · rename_i acc hacc
          obtain ⟨vs, hH, rs⟩ := A5 D _ hacc
          have xw : Ext (wd X) M5 H5 (M5.upd D (.lst (acc ++ [d]))) (upd H5 D (.lst (vs ++ [y]))) := Ext.write A5 hacc
          refine ⟨vs, hH, by rw [← rs.length]; exact q5.1, _, (((x2.trans x3).trans x4).trans x5).trans xw, AbsM.write A5 hacc ⟨_, upd_same, ?_⟩, q5.2⟩
          exact (rs.ext xw).append ⟨y, [], rfl, r5.ext xw, rfl⟩
        · exact q5.elim
  · refine .inl ?_
    have hi' : i = l.length := by omega
    refine ⟨g.2 hi', ?_⟩
    rw [hi', List.drop_length] at w
    obtain ⟨_, w⟩ := w
    split at w
    · rename_i acc hacc
      cases fz with
      | true => exact out _ _ ⟨.lst acc, M2.del D, (x.trans x2).trans (Ext.forget Mp.sub_del), Rep.thaw A2 hacc, A2.forget Mp.sub_del, w⟩
      | false => exact out _ _ ⟨.ref D, M2, x.trans x2, rfl, A2, w⟩
    · exact w.elim
theorem DE.comp {X : Cx} {elt tg iter : Expr} {ifs : List Expr} {scope : Scope} {pos : Pos} {ct : CT} {own : List (Str × Nat)} {ti : DTI} {te : DTE} {tt : DTT} {fz : Bool} (hc : X.calm = true) (hN : X.N.Nodup) (hi : DI X tg iter ti) (ok : BlkOk X.N X.env.scope scope own)
    (hg : ∀ (s : Shared) (H : Hp) (C : Addr) (cl : List (Str × Addr)) (fp : List Addr), PG (X.blk s H scope (compEnvC scope cl C X.env) fp) tg (ct.g X.K))
    (ht : ∀ (s : Shared) (H : Hp) (C : Addr) (cl : List (Str × Addr)) (fp : List Addr), PTs (X.blk s H scope (compEnvC scope cl C X.env) fp) ifs (upC (wd X) tt))
    (he : ∀ (s : Shared) (H : Hp) (C : Addr) (cl : List (Str × Addr)) (fp : List Addr), DE (X.blk s H scope (compEnvC scope cl C X.env) fp) elt te)
    (hs : ∀ x, foldedSetIterable iter X.env x = pure x) (hat : ∀ i ∈ ct.at, i ∈ own.map (·.2)) :
    DE X (.ListComp elt [⟨tg, iter, ifs, 0⟩] scope pos) (fun ρ M Q => ti ρ M fun l okM M1 => ∀ p, M1 p = none → cmpL fz okM (turnC ct (own.map (·.2)) tt te ρ) p Q l (M1.upd p (.lst []))) := by
  refine DE.of (pe_lc (te := upT (wd X) te) hc hN pi_piT ok hg ht (fun s H C cl fp => pe_upT (he s H C cl fp)) hs) fun σ H ρ M Q S A z => comp_core hi hat S A z fun _ _ h => h
end Ow

namespace Ow
open PySem PySem.Spec PyProof.Rows L2
/-! ### statements -/
structure DEnds where
  nx : DSt → Mp → Prop
  rt : QE
  bk : DSt → Mp → Prop
  ct : DSt → Mp → Prop
abbrev DTS := DEnds → DSt → Mp → Prop
/-- what the data's ends say of the ends, from the state M, H on -/
structure EOk (W : Wd) (M : Mp) (H : Hp) (D : DEnds) (De : Ends) : Prop where
  nx : ∀ (ρ : DSt) (σ : L2.St) (M' : Mp) (H' : Hp), Ext W M H M' H' → AbsM W M' H' → AbsS W M' H' ρ σ → D.nx ρ M' → De.nx σ H'
  rt : ∀ v H', lft W M H D.rt v H' → De.rt v H'
  bk : ∀ (ρ : DSt) (σ : L2.St) (M' : Mp) (H' : Hp), Ext W M H M' H' → AbsM W M' H' → AbsS W M' H' ρ σ → D.bk ρ M' → De.bk σ H'
  ct : ∀ (ρ : DSt) (σ : L2.St) (M' : Mp) (H' : Hp), Ext W M H M' H' → AbsM W M' H' → AbsS W M' H' ρ σ → D.ct ρ M' → De.ct σ H'
theorem EOk.ext {W : Wd} {M M1 : Mp} {H H1 : Hp} {D : DEnds} {De : Ends} (e : EOk W M H D De) (x : Ext W M H M1 H1) : EOk W M1 H1 D De :=
  ⟨fun ρ σ M' H' y => e.nx ρ σ M' H' (x.trans y), fun v H' q => e.rt v H' (q.trans x), fun ρ σ M' H' y => e.bk ρ σ M' H' (x.trans y), fun ρ σ M' H' y => e.ct ρ σ M' H' (x.trans y)⟩
def cS (X : Cx) (st : Stmt) : TS := fun D σ H => ∀ (pins : List (Addr × Obj)) (s : Shared), Inv X pins σ H s → wpAny (model X.prog X.w) X.A (exec st X.env) (SP X pins D) X.xe s
def cB (X : Cx) (sts : List Stmt) : TS := fun D σ H => ∀ (pins : List (Addr × Obj)) (s : Shared), Inv X pins σ H s → wpAny (model X.prog X.w) X.A (execs sts X.env) (SP X pins D) X.xe s
theorem ps_cS {X : Cx} {st : Stmt} : PS X st (cS X st) := ⟨fun pins s σ H D I h => h pins s I⟩
theorem pss_cB {X : Cx} {sts : List Stmt} : PSs X sts (cB X sts) := ⟨fun pins s σ H D I h => h pins s I⟩
structure DS (X : Cx) (st : Stmt) (t : DTS) : Prop where
  to : ∀ (σ : L2.St) (H : Hp) (ρ : DSt) (M : Mp) (D : DEnds) (De : Ends), AbsS (wd X) M H ρ σ → AbsM (wd X) M H → t D ρ M → EOk (wd X) M H D De → cS X st De σ H
structure DB (X : Cx) (sts : List Stmt) (t : DTS) : Prop where
  to : ∀ (σ : L2.St) (H : Hp) (ρ : DSt) (M : Mp) (D : DEnds) (De : Ends), AbsS (wd X) M H ρ σ → AbsM (wd X) M H → t D ρ M → EOk (wd X) M H D De → cB X sts De σ H
section
variable {X : Cx} {st : Stmt} {sts : List Stmt} {t u : DTS} {e a b c : Expr} {te ta tb : DTE} {tc : DTT} {pos : Pos}
theorem DS.of {t' : TS} (h : PS X st t') (q : ∀ (σ : L2.St) (H : Hp) (ρ : DSt) (M : Mp) (D : DEnds) (De : Ends), AbsS (wd X) M H ρ σ → AbsM (wd X) M H → t D ρ M → EOk (wd X) M H D De → t' De σ H) : DS X st t :=
  ⟨fun σ H ρ M D De S A z k pins s I => h.run pins s σ H De I (q σ H ρ M D De S A z k)⟩
theorem DB.of {t' : TS} (h : PSs X sts t') (q : ∀ (σ : L2.St) (H : Hp) (ρ : DSt) (M : Mp) (D : DEnds) (De : Ends), AbsS (wd X) M H ρ σ → AbsM (wd X) M H → t D ρ M → EOk (wd X) M H D De → t' De σ H) : DB X sts t :=
  ⟨fun σ H ρ M D De S A z k pins s I => h.run pins s σ H De I (q σ H ρ M D De S A z k)⟩
theorem DB.nil : DB X [] (fun D ρ M => D.nx ρ M) := DB.of pss_nil fun σ H ρ M D De S A z k => k.nx ρ σ M H Ext.refl A S z
def seqS (t u : DTS) : DTS := fun D ρ M => t { D with nx := fun ρ' M' => u D ρ' M' } ρ M
theorem DB.cons (h : DS X st t) (k : DB X sts u) : DB X (st :: sts) (seqS t u) := by
  refine DB.of (pss_cons ps_cS pss_cB) fun σ H ρ M D De S A z q => ?_
  refine h.to σ H ρ M _ _ S A z ⟨fun ρ' σ' M' H' x A' S' z' => ?_, q.rt, q.bk, q.ct⟩
  exact k.to σ' H' ρ' M' D De S' A' z' (q.ext x)
theorem DS.pass : DS X (.Pass pos) (fun D ρ M => D.nx ρ M) := DS.of ps_pass fun σ H ρ M D De S A z k => k.nx ρ σ M H Ext.refl A S z
theorem DS.brk : DS X (.Break pos) (fun D ρ M => D.bk ρ M) := DS.of ps_break fun σ H ρ M D De S A z k => k.bk ρ σ M H Ext.refl A S z
theorem DS.cont : DS X (.Continue pos) (fun D ρ M => D.ct ρ M) := DS.of ps_continue fun σ H ρ M D De S A z k => k.ct ρ σ M H Ext.refl A S z
theorem DS.expr (he : DE X e te) (hs : swapsWith e none pos.line X.env = pure false) : DS X (.Expr e pos) (fun D ρ M => te ρ M fun _ M1 => D.nx ρ M1) :=
  DS.of (ps_expr pe_cT hs) fun σ H ρ M D De S A z k => he.bind S A z fun v d M1 H1 x r A1 S1 q => k.nx ρ σ M1 H1 x A1 S1 q
theorem DS.ret (he : DE X e te) : DS X (.Return (some e) pos) (fun D ρ M => te ρ M D.rt) :=
  DS.of (ps_ret pe_cT) fun σ H ρ M D De S A z k => cT_mono (he.to σ H ρ M _ S A z) k.rt
theorem DS.retN : DS X (.Return none pos) (fun D _ M => D.rt .non M) :=
  DS.of ps_retN fun σ H ρ M D De S A z k => k.rt _ _ (lft.non A z)
theorem DS.ifs {sa sb : List Stmt} (hc : DC X c tc) (ha : DB X sa t) (hb : DB X sb u) : DS X (.If c sa sb pos) (fun D ρ M => tc ρ M fun k M1 => if k = true then t D ρ M1 else u D ρ M1) := by
  obtain ⟨tt, h1, h2⟩ := hc.to
  refine DS.of (ps_if h1 pss_cB pss_cB) fun σ H ρ M D De S A z k => h2 σ H ρ M _ _ S A z fun b M1 H1 x A1 q => ?_
  cases b with
  | true => exact ha.to σ H1 ρ M1 D De (S.ext x) A1 q (k.ext x)
  | false => exact hb.to σ H1 ρ M1 D De (S.ext x) A1 q (k.ext x)
/-- name = e -/
theorem DS.set {i : Nat} {x : Str} {px : Pos} (hN : X.N.Nodup) (hi : X.N[i]? = some x) (hx : Loc X.env.scope x) (hf : X.fn x = true ∨ X.env.scope.names.lookup x = some .local) (he : DE X e te) (hs : swapsWith e (some (.Name x px)) pos.line X.env = pure false) :
    DS X (.Assign [.Name x px] e pos) (fun D ρ M => te ρ M fun d M1 => D.nx (ρ.set i (some d)) M1) :=
  DS.of (ps_set hN hi hx pe_cT hs hf) fun σ H ρ M D De S A z k => he.bind S A z fun v d M1 H1 x r A1 S1 q => k.nx _ _ M1 H1 x A1 (S1.set r) q
/-- target = e -/
theorem assign_one {tg : Expr} {env : Env} (h : notStar tg = true) : (assignEach [tg] env).map (·.2) = [assign tg env] := by
  cases tg <;> first | rfl | cases h
theorem DS.asg {tg : Expr} {ct : CT} (hst : notStar tg = true) (he : DE X e te) (hg : PG X tg (ct.g X.K)) (hs : swapsWithSole [tg] e pos.line X.env = pure false) (hw : swappedStores [tg] e X.env = pure none) :
    DS X (.Assign [tg] e pos) (fun D ρ M => te ρ M fun d M1 => bindT ct d ρ fun ρ' => D.nx ρ' M1) :=
  DS.of (ps_asg pe_cT hg hs hw (h1 := assign_one hst)) fun σ H ρ M D De S A z k => he.bind S A z fun v d M1 H1 x r A1 S1 q => bindT_g rfl ct (vs := ct.at) (fun _ h => h) S1 r q fun ρ' σ' S' _ z' => k.nx ρ' σ' M1 H1 x A1 S' z'
theorem swap2 (env : Env) (x y : Str) (px py pt pt2 : Pos) (a b : Expr) (kt k2 : Nat) (h1 : env.kindOf x = some .local) (h2 : env.kindOf y = some .local) (hb : env.blockKind = .function) (hl : py.line = px.line) (hxy : x ≠ y)
  (ha : notStar a = true) (hb' : notStar b = true) (hf : [a,b].all (foldedForSure 8) = false) (hc : [a,b].all (constantsAlone 8) = false) :
  swappedStores [.Tuple [.Name x px, .Name y py] kt pt] (.Tuple [a, b] k2 pt2) env = pure (some [x, y]) := by
  have hs : ([a, b].any fun | .Starred .. => true | _ => false) = false := by
    cases a <;> first | (cases ha; done) | (cases b <;> first | rfl | (cases hb'; done))
  have e1 : (Expr.Name x px).pos = px := rfl
  have fm : ([Expr.Name x px, Expr.Name y py].filterMap fun
    | .Name id pos => if env.kindOf id == some .local && pos.line == px.line then some id else none
    | _ => none) = [x, y] := by
    simp [List.filterMap_cons, h1, h2, hl]
  have ed : [x, y].eraseDups = [x, y] := by
    rw [List.eraseDups_cons]
    have : (y == x) = false := beq_eq_false_iff_ne.mpr (Ne.symm hxy)
    simp [List.filter_cons, this, List.eraseDups_cons]
  unfold swappedStores
  simp only [List.head?_cons, Option.map_some, Option.getD_some, e1, hb]
  refine (if_neg (by simp)).trans ?_
  refine (if_neg (fun h => by have h' := hs.symm.trans h; cases h')).trans ?_
  refine (if_neg (fun h => ?_)).trans ?_
  · have h' : (([x, y].length != 2) || ([x, y].eraseDups.length != [x, y].length)) = true := by rw [← fm]; exact h
    rw [ed] at h'
    simp at h'
  · refine (if_neg (fun h => by have h' := hf.symm.trans h; cases h')).trans ?_
    refine (if_neg (fun h => by have h' := hc.symm.trans h; cases h')).trans ?_
    exact congrArg (fun l => pure (some l)) fm
theorem swap3 (env : Env) (x y z : Str) (px py pz pt pt2 : Pos) (a b c : Expr) (kt k2 : Nat) (h1 : env.kindOf x = some .local) (h2 : env.kindOf y = some .local) (h3 : env.kindOf z = some .local) (hb : env.blockKind = .function) (hl : py.line = px.line) (hl3 : pz.line = px.line) (hxy : x ≠ y) (hxz : x ≠ z) (hyz : y ≠ z)
  (ha : notStar a = true) (hb' : notStar b = true) (hc' : notStar c = true) (hf : [a,b,c].all (foldedForSure 8) = false) (hc : [a,b,c].all (constantsAlone 8) = false) :
  swappedStores [.Tuple [.Name x px, .Name y py, .Name z pz] kt pt] (.Tuple [a, b, c] k2 pt2) env = pure (some [x, y, z]) := by
  have st : ∀ e : Expr, notStar e = true → (match e with | .Starred .. => true | _ => false) = false := by
    intro e h
    cases e <;> first | rfl | (cases h; done)
  have hs : ([a, b, c].any fun | .Starred .. => true | _ => false) = false := by
    simp only [List.any_cons, List.any_nil, st a ha, st b hb', st c hc', Bool.or_false]
  have e1 : (Expr.Name x px).pos = px := rfl
  have fm : ([Expr.Name x px, Expr.Name y py, Expr.Name z pz].filterMap fun
    | .Name id pos => if env.kindOf id == some .local && pos.line == px.line then some id else none
    | _ => none) = [x, y, z] := by
    simp [List.filterMap_cons, h1, h2, h3, hl, hl3]
  have ed : [x, y, z].eraseDups = [x, y, z] := by
    have n1 : (y == x) = false := beq_eq_false_iff_ne.mpr (Ne.symm hxy)
    have n2 : (z == x) = false := beq_eq_false_iff_ne.mpr (Ne.symm hxz)
    have n3 : (z == y) = false := beq_eq_false_iff_ne.mpr (Ne.symm hyz)
    simp [List.eraseDups_cons, List.filter_cons, n1, n2, n3]
  unfold swappedStores
  simp only [List.head?_cons, Option.map_some, Option.getD_some, e1, hb]
  refine (if_neg (by simp)).trans ?_
  refine (if_neg (fun h => by have h' := hs.symm.trans h; cases h')).trans ?_
  refine (if_neg (fun h => ?_)).trans ?_
  · have h' : (([x, y, z].length != 3) || ([x, y, z].eraseDups.length != [x, y, z].length)) = true := by rw [← fm]; exact h
    rw [ed] at h'
    simp at h'
  · refine (if_neg (fun h => by have h' := hf.symm.trans h; cases h')).trans ?_
    refine (if_neg (fun h => by have h' := hc.symm.trans h; cases h')).trans ?_
    exact congrArg (fun l => pure (some l)) fm
theorem swapNo (env : Env) (ts vs : List Expr) (kt k2 : Nat) (pt pt2 : Pos) (h : (!(ts.length == 2 || ts.length == 3) || vs.length != ts.length || vs.all (foldedForSure 8)) = true) :
  swappedStores [.Tuple ts kt pt] (.Tuple vs k2 pt2) env = pure none := by
  unfold swappedStores
  simp only [Bool.or_eq_true] at h
  rcases h with (h | h) | h
  · simp only [h, Bool.true_or, if_true]
  · simp only [h, Bool.or_true, Bool.true_or, if_true]
  · simp only [h, if_true]
    split <;> first | rfl | (split <;> first | rfl | (split <;> rfl))
def notLocE (env : Env) : Expr → Bool
  | .Name x _ => !(env.kindOf x == some .local)
  | _ => true
theorem names_lt (env : Env) (l : Nat) : ∀ ts : List Expr, ts.any (notLocE env) = true → (ts.filterMap fun
    | .Name id pos => if env.kindOf id == some .local && pos.line == l then some id else none
    | _ => none).length < ts.length := by
  have le : ∀ ts : List Expr, (ts.filterMap fun
    | .Name id pos => if env.kindOf id == some .local && pos.line == l then some id else none
    | _ => none).length ≤ ts.length := fun ts => List.length_filterMap_le _ _
  intro ts
  induction ts with
  | nil => intro h; cases h
  | cons t ts ih =>
    intro h
    rw [List.any_cons] at h
    have le' := le ts
    have key : notLocE env t = true → (match t with
      | .Name id pos => if env.kindOf id == some .local && pos.line == l then some id else none
      | _ => none) = none := by
      intro hn
      cases t with
      | Name x p =>
        have hn' : (!(env.kindOf x == some .local)) = true := hn
        rw [Bool.not_eq_true'] at hn'
        simp only [hn', Bool.false_and, Bool.false_eq_true, if_false]
      | _ => rfl
    rw [List.filterMap_cons]
    cases hn : notLocE env t with
    | true =>
      rw [key hn]
      simp only [List.length_cons]
      omega
    | false =>
      rw [hn, Bool.false_or] at h
      have := ih h
      split
      · simp only [List.length_cons]; omega
      · simp only [List.length_cons]; omega
theorem swapNo2 (env : Env) (ts vs : List Expr) (kt k2 : Nat) (pt pt2 : Pos) (h : ts.any (notLocE env) = true) :
  swappedStores [.Tuple ts kt pt] (.Tuple vs k2 pt2) env = pure none := by
  unfold swappedStores
  simp only
  have hl := names_lt env ((ts.head?.map (·.pos.line)).getD 0) ts h
  split
  · rfl
  · split
    · rfl
    · have hne : (List.filterMap (fun
    | .Name id pos => if env.kindOf id == some .local && pos.line == ((ts.head?.map (·.pos.line)).getD 0) then some id else none
    | _ => none) ts).length != ts.length := by
        rw [bne_iff_ne]; omega
      refine (if_pos ?_)
      rw [Bool.or_eq_true]
      exact .inl hne
/-- .. -/
theorem DS.par {i j : Nat} {x y : Str} {ta : DTA} {px py pt : Pos} {kt k2 : Nat} {pt2 : Pos} (hc : X.calm = true) (hN : X.N.Nodup) (hi : X.N[i]? = some x) (hj : X.N[j]? = some y) (hij : i ≠ j) (hx : X.env.scope.names.lookup x = some .local) (hy : X.env.scope.names.lookup y = some .local)
    (ha : DA X [a, b] ta) (hw : swappedStores [.Tuple [.Name x px, .Name y py] kt pt] (.Tuple [a, b] k2 pt2) X.env = pure (some [x, y])) (hs : swapsWithSole [.Tuple [.Name x px, .Name y py] kt pt] (.Tuple [a, b] k2 pt2) pos.line X.env = pure false)
    (hsa : notStar a = true) (hsb : notStar b = true) :
    DS X (.Assign [.Tuple [.Name x px, .Name y py] kt pt] (.Tuple [a, b] k2 pt2) pos) (fun D ρ M => ta ρ M fun ds M1 => match ds with
      | [d1, d2] => D.nx ((ρ.set i (some d1)).set j (some d2)) M1
      | _ => False) := by
  refine DS.of (ps_par hc hN hi hj hij hx hy pa_cA hw hs) fun σ H ρ M D De S A z k => ha.bind S A z fun vs ds M1 H1 x r A1 S1 q => ?_
  split at q
  · obtain ⟨v, w, rfl, r1, r2⟩ := reps2 r
    exact ⟨v, w, rfl, k.nx _ _ M1 H1 x A1 ((S1.set r1).set r2) q⟩
  · exact q.elim
theorem DS.par3 {i j l : Nat} {x y z : Str} {ta : DTA} {px py pz pt : Pos} {kt k2 : Nat} {pt2 : Pos} (hc : X.calm = true) (hN : X.N.Nodup) (hi : X.N[i]? = some x) (hj : X.N[j]? = some y) (hl : X.N[l]? = some z) (hij : i ≠ j) (hil : i ≠ l) (hjl : j ≠ l)
    (hx : X.env.scope.names.lookup x = some .local) (hy : X.env.scope.names.lookup y = some .local) (hz : X.env.scope.names.lookup z = some .local)
    (ha : DA X [a, b, c] ta) (hw : swappedStores [.Tuple [.Name x px, .Name y py, .Name z pz] kt pt] (.Tuple [a, b, c] k2 pt2) X.env = pure (some [x, y, z])) (hs : swapsWithSole [.Tuple [.Name x px, .Name y py, .Name z pz] kt pt] (.Tuple [a, b, c] k2 pt2) pos.line X.env = pure false) :
    DS X (.Assign [.Tuple [.Name x px, .Name y py, .Name z pz] kt pt] (.Tuple [a, b, c] k2 pt2) pos) (fun D ρ M => ta ρ M fun ds M1 => match ds with
      | [d1, d2, d3] => D.nx (((ρ.set i (some d1)).set j (some d2)).set l (some d3)) M1
      | _ => False) := by
  refine DS.of (ps_par3 hc hN hi hj hl hij hil hjl hx hy hz pa_cA hw hs) fun σ H ρ M D De S A zz k => ha.bind S A zz fun vs ds M1 H1 x r A1 S1 q => ?_
  split at q
  · obtain ⟨v, w, u, rfl, r1, r2, r3⟩ := reps3 r
    exact ⟨v, w, u, rfl, k.nx _ _ M1 H1 x A1 (((S1.set r1).set r2).set r3) q⟩
  · exact q.elim
/-- name op= e -/
@[simp] def augD (op : Operator) (x y : D) (M : Mp) (Q : QE) : Prop := match op, x, y with
  | .Add, .int i, .int j => Q (.int (i + j)) M
  | .Sub, .int i, .int j => Q (.int (i - j)) M
  | .Mult, .int i, .int j => MulOk i j ∧ Q (.int (i * j)) M
  | _, _, _ => False
theorem iop_mulA : OpR X (inplaceOp .Mult) (rI MulOk fun i j => .int (i * j)) := opI fun _ _ _ _ _ _ _ hc q => imul_int q hc.ok
theorem op_augD (op : Operator) : OpD X (inplaceOp op) (augD op) := by
  cases op with
  | Add =>
    refine opD_int (C := fun _ _ => True) (g := fun i j => i + j) (fun pins s σ H x y v u Q I rx ry ⟨i, j, e1, e2, _, q⟩ => iop_add pins s σ H x y v u Q I rx ry ⟨i, j, e1, e2, q⟩) fun d1 d2 M Q z => ?_
    unfold augD at z; split at z <;> first | exact ⟨_, _, rfl, rfl, trivial, z⟩ | exact z.elim | (rename_i h; cases h)
  | Sub =>
    refine opD_int (C := fun _ _ => True) (g := fun i j => i - j) (fun pins s σ H x y v u Q I rx ry ⟨i, j, e1, e2, _, q⟩ => iop_sub pins s σ H x y v u Q I rx ry ⟨i, j, e1, e2, q⟩) fun d1 d2 M Q z => ?_
    unfold augD at z; split at z <;> first | exact ⟨_, _, rfl, rfl, trivial, z⟩ | exact z.elim | (rename_i h; cases h)
  | Mult =>
    refine opD_int iop_mulA fun d1 d2 M Q z => ?_
    unfold augD at z; split at z <;> first | exact ⟨_, _, rfl, rfl, z.1, z.2⟩ | exact z.elim | (rename_i h; cases h)
  | _ => exact ⟨fun _ _ _ _ => False, fun _ _ _ _ _ _ _ _ _ _ _ _ h => h.elim, fun _ _ _ _ _ _ _ _ _ _ h => h⟩
theorem DS.aug {i : Nat} {x : Str} {px : Pos} {op : Operator} (hN : X.N.Nodup) (hi : X.N[i]? = some x) (hx : Loc X.env.scope x) (hf : X.fn x = true ∨ X.env.scope.names.lookup x = some .local) (he : DE X e te) :
    DS X (.AugAssign (.Name x px) op e pos) (fun D ρ M => match ρ[i]? with
      | some (some d) => te ρ M fun d2 M1 => augD op d d2 M1 fun d3 M2 => D.nx (ρ.set i (some d3)) M2
      | _ => False) := by
  refine DS.of (ps_aug (ti := cO X (inplaceOp op)) hN hi hx pe_cT or_cO hf) fun σ H ρ M D De S A z k => ?_
  split at z
  · rename_i d hd
    obtain ⟨v, h1, h2⟩ := S.2 i d hd
    refine ⟨v, h1, he.bind S A z fun v2 d2 M1 H1 x r A1 S1 q => cO_mono ((op_augD op).to A1 (h2.ext x) r q) ?_⟩
    rintro w H2 ⟨d3, M2, x2, r2, A2, q2⟩
    exact k.nx _ _ M2 H2 (x.trans x2) A2 ((S1.ext x2).set r2) q2
  · exact z.elim
/-- o[i] = e -/
@[simp] def setD (o i d : D) (M : Mp) (K : Mp → Prop) : Prop := match o with
  | .ref p => (match M p with
    | some (.lst l) => (match i with
      | .int k => (match ixN l.length k with
        | some j => K (M.upd p (.lst (l.set j d)))
        | none => False)
      | _ => False)
    | some (.dic kvs) => (match keyD i with
      | some k => kvs.length < sizeLine ∧ K (M.upd p (.dic (putD kvs k d)))
      | none => False)
    | _ => False)
  | _ => False
theorem PSet.or {t t' : TSet} (h : PSet X t) (h' : PSet X t') : PSet X (fun o i v H Q => t o i v H Q ∨ t' o i v H Q) := by
  intro pins s σ H o i v ov iv u Q I ro ri rv q
  rcases q with q | q
  · exact h pins s σ H o i v ov iv u Q I ro ri rv q
  · exact h' pins s σ H o i v ov iv u Q I ro ri rv q
theorem set_dict (hu : X.A.units + 1 < cLine) : PSet X (fun o i v H Q => ∃ a H', o = .ref a ∧ DPut H a i v H' ∧ Q H') := by
  intro pins s σ H o i v ov iv u Q I ro ri rv h
  obtain ⟨a, H', rfl, g, q⟩ := h
  cases ro
  exact d_setItem hu I g ri rv fun s4 I4 => ⟨H', I4, q⟩
theorem DS.setix {o i : Expr} {to ti : DTE} {p1 : Pos} (hu : X.A.units + 1 < cLine) (he : DE X e te) (ho : DE X o to) (hi : DE X i ti) (hsl : notSlice i = true) (hs : swapsWithSole [.Subscript o i p1] e pos.line X.env = pure false) (hw : swappedStores [.Subscript o i p1] e X.env = pure none) :
    DS X (.Assign [.Subscript o i p1] e pos) (fun D ρ M => te ρ M fun d M1 => to ρ M1 fun d2 M2 => ti ρ M2 fun d3 M3 => setD d2 d3 d M3 fun M4 => D.nx ρ M4) := by
  have ha : ∀ v, assign (.Subscript o i p1) X.env v = (do
      let ov ← holding [v] (eval o X.env)
      let iv ← holding [v, ov] (eval i X.env)
      standAt p1
      holding [v, ov, iv] (setItem ov iv v)
      release [v, ov, iv] []) := by
    intro v
    cases i <;> first | rfl | cases hsl
  refine DS.of (ps_asg pe_cT (pg_sub pe_cT pe_cT (PSet.or set_list (set_dict hu)) ha) hs hw) fun σ H ρ M D De S A z k => ?_
  refine he.bind S A z fun v d M1 H1 x1 r1 A1 S1 q1 => ho.bind S1 A1 q1 fun v2 d2 M2 H2 x2 r2 A2 S2 q2 => hi.bind S2 A2 q2 fun v3 d3 M3 H3 x3 r3 A3 S3 q3 => ?_
  unfold setD at q3
  split at q3
  · rename_i p
    split at q3
    · rename_i l hl
      split at q3
      · rename_i kk
        split at q3
        · rename_i j hj
          obtain ⟨xs, h1, h2⟩ := A3 p _ hl
          have xw : Ext (wd X) M3 H3 (M3.upd p (.lst (l.set j d))) (upd H3 p (.lst (xs.set j v))) := Ext.write A3 hl
          refine .inl ⟨p, xs, kk, j, r2.ext x3, r3, h1, by rw [← h2.length]; exact hj, ?_⟩
          exact k.nx _ _ _ _ (((x1.trans x2).trans x3).trans xw) (AbsM.write A3 hl ⟨_, upd_same, (h2.ext xw).set (((r1.ext x2).ext x3).ext xw)⟩) (S3.ext xw) q3
        · exact q3.elim
      · exact q3.elim
    · rename_i kvs hl
      split at q3
      · rename_i kk hk
        obtain ⟨vs, h1, h2⟩ := A3 p _ hl
        obtain ⟨vs', e1, e2⟩ := put_rep (k := kk) ((r1.ext x2).ext x3) h2
        have xw : Ext (wd X) M3 H3 (M3.upd p (.dic (putD kvs kk d))) (upd H3 p (.dK (((putD kvs kk d).map (·.1)).zip vs'))) := Ext.write A3 hl
        have hy := keyD_rep r3 hk
        subst hy
        have hlen := h2.length
        refine .inr ⟨p, _, r2.ext x3, DPut.k (v := v) h1 (by rw [List.length_zip]; simp at hlen ⊢; omega), ?_⟩
        rw [e1]
        exact k.nx _ _ _ _ (((x1.trans x2).trans x3).trans xw) (AbsM.write A3 hl ⟨_, upd_same, e2.ext xw⟩) (S3.ext xw) q3.2
      · exact q3.elim
    · exact q3.elim
  · exact q3.elim
/-! ### loops -/
def whileD (tc : DTT) (tb : DTS) (D : DEnds) : Nat → DSt → Mp → Prop
  | 0, _, _ => False
  | n + 1, ρ, M => tc ρ M fun k M1 => if k = true then tb { D with nx := whileD tc tb D n, ct := whileD tc tb D n, bk := D.nx } ρ M1 else D.nx ρ M1
theorem DS.whl {body : List Stmt} (hp : PassesOwn (model X.prog X.w) X.A X.env X.xe) (hc : DC X c tc) (hb : DB X body t) : DS X (.While c body [] pos) (fun D ρ M => ∃ n, whileD tc t D n ρ M) := by
  obtain ⟨tt, h1, h2⟩ := hc.to
  refine DS.of (ps_while hp h1 pss_cB) fun σ H ρ M D De S A ⟨n, z⟩ k => ?_
  refine ⟨fun m σ' H' => ∃ ρ' M', Ext (wd X) M H M' H' ∧ AbsM (wd X) M' H' ∧ AbsS (wd X) M' H' ρ' σ' ∧ whileD tc t D m ρ' M', ⟨n, ρ, M, Ext.refl, A, S, z⟩, fun m σ' H' ⟨ρ', M', x, A', S', z'⟩ => ?_⟩
  cases m with
  | zero => exact z'.elim
  | succ m =>
    refine h2 σ' H' ρ' M' _ _ S' A' z' fun b M1 H1 x1 A1 q => ?_
    cases b with
    | false => exact k.nx ρ' σ' M1 H1 (x.trans x1) A1 (S'.ext x1) q
    | true =>
      have nxt : ∀ (ρ2 : DSt) (σ2 : L2.St) (M2 : Mp) (H2 : Hp), Ext (wd X) M1 H1 M2 H2 → AbsM (wd X) M2 H2 → AbsS (wd X) M2 H2 ρ2 σ2 → whileD tc t D m ρ2 M2 → ∃ ρ' M', Ext (wd X) M H M' H2 ∧ AbsM (wd X) M' H2 ∧ AbsS (wd X) M' H2 ρ' σ2 ∧ whileD tc t D m ρ' M' :=
        fun ρ2 σ2 M2 H2 x2 A2 S2 z2 => ⟨ρ2, M2, (x.trans x1).trans x2, A2, S2, z2⟩
      refine ⟨fun σ2 H2 => ∃ ρ' M', Ext (wd X) M H M' H2 ∧ AbsM (wd X) M' H2 ∧ AbsS (wd X) M' H2 ρ' σ2 ∧ whileD tc t D m ρ' M', fun σ2 H2 h => ⟨m, Nat.lt_succ_self m, h⟩, ?_⟩
      exact hb.to σ' H1 ρ' M1 _ _ (S'.ext x1) A1 q ⟨nxt, (k.ext (x.trans x1)).rt, (k.ext (x.trans x1)).nx, nxt⟩
def forD (ct : CT) (ok : Mp → Prop) (tb : DTS) (B : DEnds) : List D → DSt → Mp → Prop
  | [], ρ, M => ok M ∧ B.nx ρ M
  | x :: r, ρ, M => ok M ∧ bindT ct x ρ fun ρ' => tb { B with nx := forD ct ok tb B r, ct := forD ct ok tb B r, bk := B.nx } ρ' M
theorem forD_ok {ct : CT} {ok : Mp → Prop} {tb : DTS} {B : DEnds} {l : List D} {ρ : DSt} {M : Mp} (h : forD ct ok tb B l ρ M) : ok M := by
  cases l <;> exact h.1
theorem DS.for {tg iter : Expr} {body : List Stmt} {ct : CT} {ti : DTI} (hp : PassesOwn (model X.prog X.w) X.A X.env X.xe) (hc : X.calm = true) (hi : DI X tg iter ti) (hg : PG X tg (ct.g X.K)) (hb : DB X body t) (hs : ∀ x, foldedSetIterable iter X.env x = pure x) :
    DS X (.For tg iter body [] pos) (fun D ρ M => ti ρ M fun l okM M1 => forD ct okM t D l ρ M1) := by
  refine DS.of (ps_for hp hc pi_piT hg pss_cB hs) fun σ H ρ M D De S A z k => ?_
  refine piT_mono (hi.to σ H ρ M _ S A z) fun J H1 ⟨l, okM, M1, x, A1, G, q⟩ => ?_
  refine ⟨fun i m σ2 H2 => ∃ ρ2 M2, Ext (wd X) M1 H1 M2 H2 ∧ AbsM (wd X) M2 H2 ∧ AbsS (wd X) M2 H2 ρ2 σ2 ∧ i + m = l.length ∧ forD ct okM t D (l.drop i) ρ2 M2, ⟨l.length, ρ, M1, Ext.refl, A1, S.ext x, Nat.zero_add _, q⟩, fun i m σ2 H2 ⟨ρ2, M2, x2, A2, S2, em, w⟩ => ?_⟩
  have g := G M2 H2 x2 A2 (forD_ok w) i
  by_cases hlt : i < l.length
  · refine .inr ?_
    obtain ⟨go, yl⟩ := g.1 _ (List.getElem?_eq_getElem hlt)
    rw [List.drop_eq_getElem_cons hlt] at w
    obtain ⟨_, w⟩ := w
    refine ⟨go, fun σ3 H3 => ∃ ρ3 M3, Ext (wd X) M1 H1 M3 H3 ∧ AbsM (wd X) M3 H3 ∧ AbsS (wd X) M3 H3 ρ3 σ3 ∧ forD ct okM t D (l.drop (i + 1)) ρ3 M3, fun σ3 H3 ⟨ρ3, M3, h1, h2, h3, h4⟩ => ⟨m - 1, by omega, ρ3, M3, h1, h2, h3, by omega, h4⟩, fun v H3 hy => ?_⟩
    obtain ⟨x3, A3, r3⟩ := yl v H3 hy
    refine bindT_g rfl ct (vs := ct.at) (fun _ h => h) (S2.ext x3) r3 w fun ρ' σ' S' _ z' => ?_
    have xx := x2.trans x3
    have nxt : ∀ (ρ4 : DSt) (σ4 : L2.St) (M4 : Mp) (H4 : Hp), Ext (wd X) M2 H3 M4 H4 → AbsM (wd X) M4 H4 → AbsS (wd X) M4 H4 ρ4 σ4 → forD ct okM t D (l.drop (i + 1)) ρ4 M4 → ∃ ρ3 M3, Ext (wd X) M1 H1 M3 H4 ∧ AbsM (wd X) M3 H4 ∧ AbsS (wd X) M3 H4 ρ3 σ4 ∧ forD ct okM t D (l.drop (i + 1)) ρ3 M3 :=
      fun ρ4 σ4 M4 H4 x4 A4 S4 z4 => ⟨ρ4, M4, xx.trans x4, A4, S4, z4⟩
    have kk := k.ext (x.trans xx)
    exact hb.to σ' H3 ρ' M2 _ _ S' A3 z' ⟨nxt, kk.rt, kk.nx, nxt⟩
  · refine .inl ?_
    have hi' : i = l.length := by omega
    rw [hi', List.drop_length] at w
    exact ⟨g.2 hi', k.nx ρ2 σ2 M2 H2 (x.trans x2) A2 S2 w.2⟩
/-- name = [..], the name stored within the comprehension -/
theorem DS.setLc {elt tg iter : Expr} {ifs : List Expr} {scope : Scope} {cpos : Pos} {ct : CT} {own : List (Str × Nat)} {ti : DTI} {te : DTE} {tt : DTT} {fz : Bool} {i : Nat} {y : Str} {py : Pos} (hc : X.calm = true) (hN : X.N.Nodup) (hy : X.N[i]? = some y) (hyl : X.env.scope.names.lookup y = some .local)
    (hsw : swapsWith (.ListComp elt [⟨tg, iter, ifs, 0⟩] scope cpos) (some (.Name y py)) pos.line X.env = pure true) (hi : DI X tg iter ti) (ok : BlkOk X.N X.env.scope scope own)
    (hg : ∀ (s : Shared) (H : Hp) (C : Addr) (cl : List (Str × Addr)) (fp : List Addr), PG (X.blk s H scope (compEnvC scope cl C X.env) fp) tg (ct.g X.K))
    (ht : ∀ (s : Shared) (H : Hp) (C : Addr) (cl : List (Str × Addr)) (fp : List Addr), PTs (X.blk s H scope (compEnvC scope cl C X.env) fp) ifs (upC (wd X) tt))
    (he : ∀ (s : Shared) (H : Hp) (C : Addr) (cl : List (Str × Addr)) (fp : List Addr), DE (X.blk s H scope (compEnvC scope cl C X.env) fp) elt te)
    (hs : ∀ x, foldedSetIterable iter X.env x = pure x) (hat : ∀ i ∈ ct.at, i ∈ own.map (·.2)) :
    DS X (.Assign [.Name y py] (.ListComp elt [⟨tg, iter, ifs, 0⟩] scope cpos) pos) (fun D ρ M => ti ρ M fun l okM M1 => ∀ p, M1 p = none → cmpL fz okM (turnC ct (own.map (·.2)) tt te ρ) p (fun d M2 => D.nx (ρ.set i (some d)) M2) l (M1.upd p (.lst []))) :=
  DS.of (ps_setLc (te := upT (wd X) te) hc hN hy hyl hsw pi_piT ok hg ht (fun s H C cl fp => pe_upT (he s H C cl fp)) hs) fun σ H ρ M D De S A z k =>
    comp_core hi hat S A z fun v H' ⟨d, M', x, r, A', q⟩ => k.nx _ _ M' H' x A' ((S.ext x).set r) q
end
end Ow

namespace Ow
open PySem PySem.Spec PyProof.Rows L2
/-! ### methods of built-in types -/
def plainBase (e : Expr) : Bool := match e with | .Call _ [] [] _ => false | _ => true
theorem base_of {e : Expr} {f : Str} {env : Env} (h : plainBase e = true) : attributeBase e f env (eval e env) = eval e env := by
  unfold attributeBase
  split
  · cases h
  · rfl
inductive Meth where
  | get | pop | insert | split | join | startswith
def Meth.name : Meth → Str
  | .get => "get" | .pop => "pop" | .insert => "insert" | .split => "split" | .join => "join" | .startswith => "startswith"
def Meth.id : Meth → String
  | .get => "dict.get" | .pop => "list.pop" | .insert => "list.insert" | .split => "str.split" | .join => "str.join" | .startswith => "str.startswith"
def Meth.T : Meth → String
  | .get => "dict" | .pop => "list" | .insert => "list" | .split => "str" | .join => "str" | .startswith => "str"
def D.isStr : D → Bool
  | .str _ => true
  | _ => false
def rcvD (m : Meth) (d : D) (M : Mp) : Prop := match m with
  | .get => (dicIn M d).isSome = true
  | .pop => (listIn M d).isSome = true
  | .insert => (listIn M d).isSome = true
  | .split => d.isStr = true
  | .join => d.isStr = true
  | .startswith => d.isStr = true
def strsOf : List D → Option (List Str)
  | [] => some []
  | .str i :: r => (strsOf r).map (i :: ·)
  | _ :: _ => none
theorem strsOf_rep {W : Wd} {M : Mp} {H : Hp} : ∀ {ds : List D} {xs : List V} {ns : List Str}, Reps W M H ds xs → strsOf ds = some ns → xs = ns.map V.str
  | [], _, _, r, e => by cases e; exact r
  | .str i :: ds, _, ns, r, e => by
    obtain ⟨v, vs, rfl, h1, h2⟩ := r
    unfold strsOf at e
    cases q : strsOf ds with
    | none => rw [q] at e; cases e
    | some ms =>
      rw [q] at e; cases e
      rw [strsOf_rep h2 q, show v = .str i from h1]; rfl
  | .non :: _, _, _, _, e => by cases e
  | .int _ :: _, _, _, _, e => by cases e
  | .bl _ :: _, _, _, _, e => by cases e
  | .tup _ :: _, _, _, _, e => by cases e
  | .lst _ :: _, _, _, _, e => by cases e
  | .ref _ :: _, _, _, _, e => by cases e
  | .scr _ :: _, _, _, _, e => by cases e
  | .dct _ _ :: _, _, _, _, e => by cases e
theorem strsOf_map (l : List Str) : strsOf (l.map D.str) = some l := by
  induction l with
  | nil => rfl
  | cons i r ih => show (strsOf (r.map D.str)).map (i :: ·) = _; rw [ih]; rfl
theorem reps_strs {W : Wd} {M : Mp} {H : Hp} (ns : List Str) : Reps W M H (ns.map D.str) (ns.map V.str) := by
  induction ns with
  | nil => rfl
  | cons i r ih => exact ⟨_, _, rfl, rfl, ih⟩
@[simp] def methD (m : Meth) (d : D) (ds : List D) (M : Mp) (Q : QE) : Prop := match m, ds with
  | .get, [k] => (match getDic M d k with
    | some o => Q (o.getD .non) M
    | none => False)
  | .get, [k, x] => (match getDic M d k with
    | some o => Q (o.getD x) M
    | none => False)
  | .pop, [] => (match d with
    | .ref a => (match M a with
      | some (.lst l) => (match l[l.length - 1]? with
        | some y => Q y (M.upd a (.lst l.dropLast))
        | none => False)
      | _ => False)
    | _ => False)
  | .pop, [.int i] => (match d with
    | .ref a => (match M a with
      | some (.lst l) => 0 ≤ i ∧ i < 2 ^ 62 ∧ (match l[i.toNat]? with
        | some y => Q y (M.upd a (.lst (l.eraseIdx i.toNat)))
        | none => False)
      | _ => False)
    | _ => False)
  | .insert, [.int i, y] => (match d with
    | .ref a => (match M a with
      | some (.lst l) => 0 ≤ i ∧ i < 2 ^ 62 ∧ l.length < sizeLine ∧ Q .non (M.upd a (.lst (l.take i.toNat ++ [y] ++ l.drop i.toNat)))
      | _ => False)
    | _ => False)
  | .split, [.str b] => (match d with
    | .str a => b.length ≠ 0 ∧ a.length + 2 ≤ sizeLine ∧ Q (.lst ((Txt.split a b).map D.str)) M
    | _ => False)
  | .join, [x] => (match d, (seqIn M x).bind strsOf with
    | .str a, some ys => (ys.map (·.length)).sum + ys.length * a.length ≤ 16777216 ∧ Q (.str (Txt.join a ys)) M
    | _, _ => False)
  | .startswith, [.str b] => (match d with
    | .str a => Q (.bl (Txt.startswith a b)) M
    | _ => False)
  | _, _ => False
theorem Reps.dropLast {W : Wd} {M : Mp} {H : Hp} {ds : List D} {vs : List V} (h : Reps W M H ds vs) : Reps W M H ds.dropLast vs.dropLast := by
  rw [List.dropLast_eq_take, List.dropLast_eq_take, ← h.length]
  exact h.take _
theorem Reps.erase {W : Wd} {M : Mp} {H : Hp} {ds : List D} {vs : List V} (h : Reps W M H ds vs) (i : Nat) : Reps W M H (ds.eraseIdx i) (vs.eraseIdx i) := by
  rw [List.eraseIdx_eq_take_drop_succ, List.eraseIdx_eq_take_drop_succ]
  exact (h.take i).append (h.drop (i + 1))
section
variable {X : Cx} {o : Expr} {es : List Expr} {to : DTE} {t : DTA} {apos pos : Pos}
theorem mt_get (hu : X.A.units + 1 < cLine) : MtR X "dict.get" (fun x xs H Q => ∃ a y r, x = .ref a ∧ DGet H a y r ∧ ((xs = [y] ∧ Q (r.getD .non) H) ∨ ∃ z, xs = [y, z] ∧ Q (r.getD z) H)) := by
  intro pins s σ H x xs v us Q I rx rs h
  obtain ⟨a, y, r, rfl, g, h⟩ := h
  cases rx
  rcases h with ⟨rfl, q⟩ | ⟨z, rfl, q⟩
  · obtain ⟨u, rfl, ru⟩ := vals1 rs
    exact d_get1 hu I g ru fun w' s3 I3 rw' => ⟨_, H, I3, rw', q⟩
  · obtain ⟨u, w, rfl, ru, rw⟩ := vals2 rs
    exact d_get2 hu I g ru rw fun w' s3 I3 rw' => ⟨_, H, I3, rw', q⟩
theorem meth_ok (hu : X.A.units + 1 < cLine) (m : Meth) : ∃ r, MtR X m.id r ∧ ∀ (d : D) (ds : List D) (x : V) (xs : List V) (M : Mp) (H : Hp) (Q : QE), AbsM (wd X) M H → Rep (wd X) M H d x → Reps (wd X) M H ds xs → methD m d ds M Q → r x xs H (lft (wd X) M H Q) := by
  cases m with
  | get =>
    refine ⟨_, mt_get hu, fun d ds x xs M H Q A r rs z => ?_⟩
    unfold methD at z; split at z <;> rename_i e1 <;> first | (cases e1; done) | skip
    all_goals first | exact z.elim | skip
    · rename_i k
      split at z
      · rename_i o e
        obtain ⟨v, rfl, r1⟩ := reps1 rs
        obtain ⟨a, w, rfl, g, n1, n2⟩ := getDic_rep A r r1 e
        refine ⟨a, v, w, rfl, g, .inl ⟨rfl, ?_⟩⟩
        cases o with
        | none => rw [n1 rfl]; exact lft.non A z
        | some d' => obtain ⟨u, e2, r2⟩ := n2 d' rfl; rw [e2]; exact lft.pure A r2 z
      · exact z.elim
    · rename_i k y
      split at z
      · rename_i o e
        obtain ⟨v, v2, rfl, r1, rr⟩ := reps2 rs
        obtain ⟨a, w, rfl, g, n1, n2⟩ := getDic_rep A r r1 e
        refine ⟨a, v, w, rfl, g, .inr ⟨v2, rfl, ?_⟩⟩
        cases o with
        | none => rw [n1 rfl]; exact lft.pure A rr z
        | some d' => obtain ⟨u, e2, r2⟩ := n2 d' rfl; rw [e2]; exact lft.pure A r2 z
      · exact z.elim
  | pop =>
    refine ⟨_, MtR.or mt_pop mt_popAt, fun d ds x xs M H Q A r rs z => ?_⟩
    unfold methD at z; split at z <;> rename_i e1 <;> first | (cases e1; done) | skip
    all_goals first | exact z.elim | skip
    · split at z
      · rename_i a
        split at z
        · rename_i l hl
          split at z
          · rename_i y hy
            obtain ⟨vs, h1, h2⟩ := A a _ hl
            have xw : Ext (wd X) M H (M.upd a (.lst l.dropLast)) (upd H a (.lst vs.dropLast)) := Ext.write A hl
            obtain ⟨v, h3, h4⟩ := h2.get hy
            refine .inl ⟨a, vs, v, r, rs, h1, by rw [← h2.length]; exact h3, y, _, xw, h4.ext xw, AbsM.write A hl ⟨_, upd_same, h2.dropLast.ext xw⟩, z⟩
          · exact z.elim
        · exact z.elim
      · exact z.elim
    · rename_i i
      split at z
      · rename_i a
        split at z
        · rename_i l hl
          obtain ⟨z0, z1, z⟩ := z
          split at z
          · rename_i y hy
            obtain ⟨vs, h1, h2⟩ := A a _ hl
            have xw : Ext (wd X) M H (M.upd a (.lst (l.eraseIdx i.toNat))) (upd H a (.lst (vs.eraseIdx i.toNat))) := Ext.write A hl
            obtain ⟨v, h3, h4⟩ := h2.get hy
            obtain ⟨w, rfl, rw⟩ := reps1 rs
            have hlt := (List.getElem?_eq_some_iff.mp h3).1
            refine .inr ⟨a, vs, i, i.toNat, v, r, by rw [show w = _ from rw], h1, by omega, by omega, ?_, h3, y, _, xw, h4.ext xw, AbsM.write A hl ⟨_, upd_same, (h2.erase _).ext xw⟩, z⟩
            exact seqIndex_of z0 (by omega)
          · exact z.elim
        · exact z.elim
      · exact z.elim
  | insert =>
    refine ⟨_, mt_insert, fun d ds x xs M H Q A r rs z => ?_⟩
    unfold methD at z; split at z <;> rename_i e1 <;> first | (cases e1; done) | skip
    all_goals first | exact z.elim | skip
    rename_i i y
    split at z
    · rename_i a
      split at z
      · rename_i l hl
        obtain ⟨z0, z1, z2, z⟩ := z
        obtain ⟨vs, h1, h2⟩ := A a _ hl
        obtain ⟨w, w2, rfl, rw, r2⟩ := reps2 rs
        have xw : Ext (wd X) M H (M.upd a (.lst (l.take i.toNat ++ [y] ++ l.drop i.toNat))) (upd H a (.lst (vs.take i.toNat ++ [w2] ++ vs.drop i.toNat))) := Ext.write A hl
        refine ⟨a, vs, i, w2, r, by rw [show w = _ from rw], h1, by rw [← h2.length]; exact z2, z0, by omega, .non, _, xw, rfl, AbsM.write A hl ⟨_, upd_same, ?_⟩, z⟩
        exact ((((h2.take _).append (show Reps (wd X) M H [y] [w2] from ⟨w2, [], rfl, r2, rfl⟩))).append (h2.drop _)).ext xw
      · exact z.elim
    · exact z.elim
  | split =>
    refine ⟨_, mt_split, fun d ds x xs M H Q A r rs z => ?_⟩
    unfold methD at z; split at z <;> rename_i e1 <;> first | (cases e1; done) | skip
    all_goals first | exact z.elim | skip
    rename_i b
    split at z
    · rename_i a
      obtain ⟨w, rfl, rw⟩ := reps1 rs
      exact ⟨a, b, r, by rw [show w = _ from rw], by simpa using z.1, z.2.1, fun p hp => lft.newL A (reps_strs _) hp z.2.2⟩
    · exact z.elim
  | join =>
    refine ⟨_, mt_join, fun d ds x xs M H Q A r rs z => ?_⟩
    unfold methD at z; split at z <;> rename_i e1 <;> first | (cases e1; done) | skip
    all_goals first | exact z.elim | skip
    rename_i y
    split at z
    · rename_i a ys e
      obtain ⟨w, rfl, rw⟩ := reps1 rs
      cases q : seqIn M y with
      | none => rw [q] at e; cases e
      | some l =>
        rw [q] at e
        obtain ⟨p, vs, rfl, s, r2⟩ := seqIn_rep A rw q
        have ev := strsOf_rep r2 e
        subst ev
        exact ⟨a, p, ys, r, rfl, s, z.1, lft.str A z.2⟩
    · exact z.elim
  | startswith =>
    refine ⟨_, mt_startswith, fun d ds x xs M H Q A r rs z => ?_⟩
    unfold methD at z; split at z <;> rename_i e1 <;> first | (cases e1; done) | skip
    all_goals first | exact z.elim | skip
    rename_i b
    split at z
    · rename_i a
      obtain ⟨w, rfl, rw⟩ := reps1 rs
      exact ⟨a, b, r, by rw [show w = _ from rw], lft.bl A z⟩
    · exact z.elim
/-- a method's call, as one transformer -/
def cM (X : Cx) (id : String) : V → List V → Hp → VK → Prop := fun x xs H Q => ∀ (pins : List (Addr × Obj)) (s : Shared) (σ : L2.St) (v : Value) (us : List Value), Inv X pins σ H s → L2.RelV x v → Vals xs us → wpAny (model X.prog X.w) X.A (call (.builtin id) (v :: us)) (EP X pins σ Q) X.xe s
theorem mt_cM {id : String} : MtR X id (cM X id) := fun pins s σ H x xs v us Q I r rs h => h pins s σ v us I r rs
theorem cM_mono {id : String} {x : V} {xs : List V} {H : Hp} {Q Q' : VK} (h : cM X id x xs H Q) (m : ∀ v H', Q v H' → Q' v H') : cM X id x xs H Q' := fun pins s σ v us I r rs =>
  thn (h pins s σ v us I r rs) fun _ _ ⟨v, H', I', rv, q⟩ => ⟨v, H', I', rv, m v H' q⟩
theorem meth_cM (hu : X.A.units + 1 < cLine) (m : Meth) {d : D} {ds : List D} {x : V} {xs : List V} {M : Mp} {H : Hp} {Q : QE} (A : AbsM (wd X) M H) (r : Rep (wd X) M H d x) (rs : Reps (wd X) M H ds xs) (z : methD m d ds M Q) : cM X m.id x xs H (lft (wd X) M H Q) := by
  obtain ⟨r', h1, h2⟩ := meth_ok hu m
  exact fun pins s σ v us I w1 w2 => h1 pins s σ H x xs v us _ I w1 w2 (h2 d ds x xs M H Q A r rs z)
theorem Meth.pa (m : Meth) : PlainAttrs m.T := by
  cases m
  · exact PySem.F.plainAttrs_dict
  · exact PySem.F.plainAttrs_list
  · exact PySem.F.plainAttrs_list
  · exact PySem.F.plainAttrs_str
  · exact PySem.F.plainAttrs_str
  · exact PySem.F.plainAttrs_str
theorem Meth.sl (m : Meth) : Slot m.T m.name m.id := by
  cases m
  · exact PySem.F.slot_dict_get
  · exact PySem.F.slot_list_pop
  · exact PySem.F.slot_list_insert
  · exact PySem.F.slot_str_split
  · exact PySem.F.slot_str_join
  · exact PySem.F.slot_str_startswith
theorem Meth.ty (m : Meth) : typeOf (.builtin m.id) = pure (.type "method_descriptor") := by
  cases m
  · exact PySem.F.type_dict_get
  · exact PySem.F.type_list_pop
  · exact PySem.F.type_list_insert
  · exact PySem.F.type_str_split
  · exact PySem.F.type_str_join
  · exact PySem.F.type_str_startswith
theorem tyV_list {W : Wd} {M : Mp} {H : Hp} {d : D} {x : V} (A : AbsM W M H) (r : Rep W M H d x) (h : (listIn M d).isSome = true) : tyV W.K "list" x H := by
  cases q : listIn M d with
  | none => rw [q] at h; cases h
  | some l =>
    obtain ⟨a, xs, rfl, s, _⟩ := listIn_rep A r q
    exact .inl ⟨rfl, xs, SqL.of s⟩
theorem rcv_ty {M : Mp} {H : Hp} (A : AbsM (wd X) M H) (m : Meth) {d : D} {x : V} (r : Rep (wd X) M H d x) (h : rcvD m d M) : tyV X.K m.T x H := by
  have str : d.isStr = true → tyV X.K "str" x H := by
    intro h
    cases d <;> first | (cases h; done) | skip
    rw [show x = _ from r]; exact rfl
  cases m with
  | get =>
    have h' : (dicIn M d).isSome = true := h
    cases q : dicIn M d with
    | none => rw [q] at h'; cases h'
    | some l =>
      obtain ⟨a, xs, rfl, s, _⟩ := dicIn_rep A r q
      exact .inr (.inr (.inl ⟨rfl, .inl ⟨_, s⟩⟩))
  | pop => exact tyV_list A r h
  | insert => exact tyV_list A r h
  | split => exact str h
  | join => exact str h
  | startswith => exact str h
theorem few_all {es : List Expr} {env : Env} {cpos : Pos} (h : es.all notStar = true) (hl : es.length < 29) : ((backTo cpos (starEach es env)).all (fun x => !x.1) && (backToKw cpos (keywordEach [] env)).all (fun x => x.1.isSome)
      && decide (es.length + ([] : List Keyword).length + (if ([] : List Keyword).isEmpty then 0 else 1) < 30)) = true := by
  have h1 : (backTo cpos (starEach es env)).all (fun x => !x.1) = true := by
    have := star_none (pos := cpos) (env := env) h
    rw [List.any_eq_false] at this
    rw [List.all_eq_true]
    intro x hx
    have := this x hx
    simpa using this
  have h2 : (backToKw cpos (keywordEach [] env)).all (fun x => x.1.isSome) = true := rfl
  rw [h1, h2]
  simp
  omega
theorem DE.meth (hu : X.A.units + 1 < cLine) (m : Meth) (ho : DE X o to) (h : DA X es t) (hb : plainBase o = true) (hl : (apos.endLine == pos.line) = true) (hs : es.all notStar = true) (hn : es.length < 29) (hnil : es = [] → ∀ ρ M Q, t ρ M Q → Q [] M) :
    DE X (.Call (.Attribute o m.name apos) es [] pos) (fun ρ M Q => to ρ M fun d M1 => rcvD m d M1 ∧ t ρ M1 fun ds M2 => methD m d ds M2 Q) := by
  cases es with
  | nil =>
    refine DE.of (pe_bm0 m.pa m.sl m.ty mt_cM pe_cT (base_of hb) hl) fun σ H ρ M Q S A z => ?_
    exact ho.bind S A z fun v d M1 H1 x r1 A1 S1 q => ⟨rcv_ty A1 m r1 q.1, cM_mono (meth_cM (ds := []) (xs := []) hu m A1 r1 rfl (hnil rfl _ _ _ q.2)) fun _ _ q' => q'.trans x⟩
  | cons e es =>
    have hs' := hs
    rw [List.all_cons, Bool.and_eq_true] at hs
    refine DE.of (pe_bm m.pa m.sl m.ty mt_cM pe_cT pa_cA (base_of hb) (few_all hs' hn) hl (star_cons hs.1) (star_none hs.2)) fun σ H ρ M Q S A z => ?_
    refine ho.bind S A z fun v d M1 H1 x r1 A1 S1 q => ⟨rcv_ty A1 m r1 q.1, h.bind S1 A1 q.2 fun vs ds M2 H2 x2 rs A2 S2 q2 => ?_⟩
    exact cM_mono (meth_cM hu m A2 (r1.ext x2) rs q2) fun _ _ q' => (q'.trans x2).trans x
end
end Ow

namespace Ow
open PySem PySem.Spec PyProof.Rows L2
/-! ### dict(zip(a, b)) -/
theorem drawsB {X : Cx} {pins : List (Addr × Obj)} {σ : L2.St} {H : Hp} {s : Shared} {prog : Program} {w : World} {k : Bool} {a it : Addr} {xs : List V} (I : Inv X pins σ H s) (h : SqK k X.K H a xs) (hne : a ≠ it) :
    ∃ (its : List Value) (St : Nat → Heap → Prop), Vals xs its ∧ (∀ A : Around, A.handled = none → Draws prog w A it [it, a] its.length (fun i v => its[i]? = some v) St) ∧ (IterK k s.heap it a 0 → St 0 s.heap) ∧ ∃ o, s.heap.get? a = some o := by
  cases k with
  | true =>
    obtain ⟨its, rv, p, _⟩ := I.tuple h
    refine ⟨its, fun i h => h.IsTupleIter it a i ∧ h.IsTuple a its.toArray, rv, fun A hh => ?_, fun q => ⟨q, p⟩, ?_⟩
    · have D := Draws.tuple (prog := prog) (w := w) (A := A) hh it a hne its.toArray
      simpa using D
    · obtain ⟨o, ho, _⟩ := p; exact ⟨o, ho⟩
  | false =>
    obtain ⟨its, rv, p, _⟩ := I.list h
    refine ⟨its, fun i h => h.IsListIter it a i ∧ h.IsList a its.toArray, rv, fun A hh => ?_, fun q => ⟨q, p.isList⟩, ?_⟩
    · have D := Draws.list (prog := prog) (w := w) (A := A) hh it a hne its.toArray
      simpa using D
    · obtain ⟨o, n, ho, _⟩ := p; exact ⟨o, ho⟩
theorem pairarg2 {prog : Program} {w : World} {z TI TO i1 i2 l1 l2 : Addr} {xs ys : List Value} {St1 St2 : Nat → Heap → Prop} (Z : ZipSep2 z TI TO i1 i2 [i1, l1] [i2, l2])
    (D1 : ∀ A : Around, A.handled = none → Draws prog w A i1 [i1, l1] xs.length (fun i v => xs[i]? = some v) St1) (D2 : ∀ A : Around, A.handled = none → Draws prog w A i2 [i2, l2] ys.length (fun i v => ys[i]? = some v) St2) :
    PairArg prog w "zip" z [z, TI, TO, i1, i2, l1, l2] [z, TO, i1, i2] (min xs.length ys.length) (fun i k v => xs[i]? = some k ∧ ys[i]? = some v)
      (fun h => IsZip h z TI TO .none ∧ IsTupOf2 h TI (.ref i1) (.ref i2) ∧ (∃ x y, IsTupOf2 h TO x y) ∧ St1 0 h ∧ St2 0 h ∧ (∃ o, h.get? i1 = some o) ∧ (∃ o, h.get? i2 = some o) ∧ (∃ o, h.get? l1 = some o) ∧ ∃ o, h.get? l2 = some o) where
  type := fun s ok => ⟨_, ok.1, rfl⟩
  notDict := by decide
  keep := fun h h' ⟨q1, q2, ⟨x, y, q3⟩, q4, q5, ⟨o1, e1⟩, ⟨o2, e2⟩, ⟨o3, e3⟩, ⟨o4, e4⟩⟩ hk =>
    ⟨hk _ _ q1, hk _ _ q2, ⟨x, y, hk _ _ q3⟩, (D1 callerA rfl).frame _ _ _ q4 fun b _ o e => hk b o e, (D2 callerA rfl).frame _ _ _ q5 fun b _ o e => hk b o e, ⟨o1, hk _ _ e1⟩, ⟨o2, hk _ _ e2⟩, ⟨o3, hk _ _ e3⟩, ⟨o4, hk _ _ e4⟩⟩
  there := fun h ⟨q1, q2, ⟨x, y, q3⟩, q4, q5, e1, e2, e3, e4⟩ b hb => by
    simp only [List.mem_cons, List.not_mem_nil, or_false] at hb
    rcases hb with rfl | rfl | rfl | rfl | rfl | rfl | rfl
    · exact ⟨_, q1⟩
    · exact ⟨_, q2⟩
    · exact ⟨_, q3⟩
    · exact e1
    · exact e2
    · exact e3
    · exact e4
  sub := fun b hb => by simp at hb ⊢; rcases hb with rfl | rfl | rfl | rfl <;> simp
  noKeys := fun A s Q E hA ok h => getAttrOr_miss_zip ok.1 rfl rfl rfl zip_no_keys (by decide +kernel) hA h
  iter := fun A s d Q E hA ok hd hdf h => by
    obtain ⟨q1, q2, q3, q4, q5, _⟩ := ok
    simp only [List.mem_cons, List.not_mem_nil, or_false, not_or] at hdf
    obtain ⟨dz, dTI, dTO, di1, di2, dl1, dl2⟩ := hdf
    have W := tsrc2 (A := A) (S := d) Z (D1 A.in1 hA) (D2 A.in1 hA) (Ne.symm dz) (Ne.symm dTI) (Ne.symm dTO) (by simp; exact ⟨di1, dl1⟩) (by simp; exact ⟨di2, dl2⟩)
    refine wpAny_pyIter_zip q1 (h z [z, TO, i1, i2] (fun i h => ZipAt z TI TO d [i1, i2] i h ∧ IsTupOf2 h TI (.ref i1) (.ref i2) ∧ (∃ x y, IsTupOf2 h TO x y) ∧ St1 i h ∧ St2 i h) s.heap s.toks ?_ ⟨.inl ⟨rfl, q1⟩, q2, q3, q4, q5⟩ (fun _ _ e => e) fun b hb => .inl hb)
    exact {
      off := fun hm => by
        simp only [List.mem_cons, List.not_mem_nil, or_false] at hm
        rcases hm with e | e | e | e
        · exact dz e
        · exact dTO e
        · exact di1 e
        · exact di2 e
      frame := W.frame
      item := fun i s₁ Q₁ E₁ hi st hds hQ => by
        refine W.item i s₁ Q₁ E₁ hi st hds fun h' tk st' ht _ hk => ?_
        have hi1 : i < xs.length := by omega
        have hi2 : i < ys.length := by omega
        have er : [xs.getD i Value.none, ys.getD i Value.none] = [xs[i], ys[i]] := by
          simp [List.getD_eq_getElem?_getD, List.getElem?_eq_getElem hi1, List.getElem?_eq_getElem hi2]
        have ht' : h'.get? s₁.heap.objs.size = some { cls := .type "tuple", data := .seq [xs[i], ys[i]].toArray } := by rw [← er]; exact ht
        exact hQ _ _ _ h' tk ⟨List.getElem?_eq_getElem hi1, List.getElem?_eq_getElem hi2⟩ (.inl ⟨_, ht', rfl, 0, rfl⟩) st' hk
      done := W.done }
def mergeD (kvs more : List (Key × D)) : List (Key × D) := more.foldl (fun acc kv => putD acc kv.1 kv.2) kvs
theorem merge_rep {W : Wd} {M : Mp} {H : Hp} : ∀ {more : List (Key × D)} {us : List V} {kvs : List (Key × D)} {vs : List V}, Reps W M H (more.map (·.2)) us → Reps W M H (kvs.map (·.2)) vs →
    ∃ vs', mergeK ((kvs.map (·.1)).zip vs) ((more.map (·.1)).zip us) = ((mergeD kvs more).map (·.1)).zip vs' ∧ Reps W M H ((mergeD kvs more).map (·.2)) vs'
  | [], _, kvs, vs, r, r0 => by rw [show _ = _ from r]; exact ⟨vs, rfl, r0⟩
  | kv :: more, _, kvs, vs, r, r0 => by
    obtain ⟨u, w, rfl, h1, h2⟩ := r
    obtain ⟨vs1, e1, r1⟩ := put_rep (k := kv.1) h1 r0
    obtain ⟨vs2, e2, r2⟩ := merge_rep h2 r1
    refine ⟨vs2, ?_, r2⟩
    rw [← e1] at e2
    exact e2
def keysD : List D → Option (List Key)
  | [] => some []
  | d :: r => match keyD d, keysD r with
    | some k, some ks => some (k :: ks)
    | _, _ => none
theorem keysD_rep {W : Wd} {M : Mp} {H : Hp} : ∀ {l : List D} {xs : List V} {ks : List Key}, Reps W M H l xs → keysD l = some ks → xs = ks.map kV
  | [], _, _, r, e => by cases e; exact r
  | d :: l, _, ks, r, e => by
    obtain ⟨v, w, rfl, h1, h2⟩ := r
    unfold keysD at e
    split at e
    · rename_i k ks' e1 e2
      cases e
      rw [keyD_rep h1 e1, keysD_rep h2 e2]; rfl
    · cases e
theorem zip_reps {W : Wd} {M : Mp} {H : Hp} : ∀ {ks : List Key} {l : List D} {xs : List V}, Reps W M H l xs → (ks.zip l).map (·.1) = (ks.zip xs).map (·.1) ∧ Reps W M H ((ks.zip l).map (·.2)) ((ks.zip xs).map (·.2))
  | [], _, _, _ => ⟨rfl, rfl⟩
  | _ :: _, [], _, r => by rw [show _ = _ from r]; exact ⟨rfl, rfl⟩
  | k :: ks, d :: l, _, r => by
    obtain ⟨v, w, rfl, h1, h2⟩ := r
    obtain ⟨e1, e2⟩ := zip_reps (ks := ks) h2
    exact ⟨by rw [List.zip_cons_cons, List.zip_cons_cons, List.map_cons, List.map_cons, e1], _, _, rfl, h1, e2⟩
theorem zip_self {α β : Type} : ∀ l : List (α × β), (l.map (·.1)).zip (l.map (·.2)) = l
  | [] => rfl
  | p :: l => by rw [List.map_cons, List.map_cons, List.zip_cons_cons, zip_self l]
theorem zip_kv : ∀ {ks : List Key} {xs : List V} {us : List Value}, Vals xs us → L2.KV (ks.zip xs) (ks.zip us)
  | [], _, _, _ => .nil
  | _ :: _, _, _, .nil => .nil
  | k :: ks, _, _, .cons r t => .cons ⟨rfl, r⟩ (zip_kv t)
theorem DE.dzip {X : Cx} {e e2 : Expr} {t : DTA} {p p0 pos pos0 : Pos} (hgl : Gl X "dict") (hml : X.mg "dict" = none) (hg : Gl X "zip") (hm : X.mg "zip" = none) (h : DA X [e, e2] t) (hs : notStar e = true) (hs2 : notStar e2 = true) (hh : X.A.handled = none) :
    DE X (.Call (.Name "dict" p0) [.Call (.Name "zip" p) [e, e2] [] pos] [] pos0) (fun ρ M Q => t ρ M fun ds M1 => ∃ d1 d2 l1 l2 ks, ds = [d1, d2] ∧ seqIn M1 d1 = some l1 ∧ seqIn M1 d2 = some l2 ∧ keysD l1 = some ks ∧ l1.length ≤ sizeLine ∧ ∀ p, M1 p = none → Q (.ref p) (M1.upd p (.dic (mergeD [] (ks.zip l2))))) := by
  refine ⟨fun σ H ρ M Q S A z pins s I => ?_⟩
  refine wpAny_Call_Name_kw (ld_blt I hgl hml (by decide +kernel : bootBuiltins "dict" = some (.type "dict")) (PyProof.Rows.callWith_type1 (Calls.spliced_cons ?_) rfl rfl))
  refine Call_ (ld_blt I hg hm PyProof.Rows.boot_zip (PyProof.Rows.callWith_type1 (thn (h.to σ H ρ M _ S A z pos pins s I) fun us s1 ⟨vs, H1, I1, rv, ds, M1, x, r, A1, q⟩ => ?_) (star_cons hs) (star_none (by rw [List.all_cons, hs2]; rfl))))
  obtain ⟨d1, d2, l1, l2, ks, rfl, e1, e2, ek, hlen, q⟩ := q
  obtain ⟨v1, v2, rfl, r1, r2⟩ := reps2 r
  obtain ⟨a, xs, rfl, sx, rx⟩ := seq_kind A1 r1 e1
  obtain ⟨b, ys, rfl, sy, ry⟩ := seq_kind A1 r2 e2
  obtain ⟨u1, u2, rfl, w1, w2⟩ := vals2 rv
  cases w1; cases w2
  obtain ⟨P1, B1, p1⟩ := kind_begins I1 sx
  obtain ⟨P2, B2, p2⟩ := kind_begins I1 sy
  have la := SqK.lt I1 sx
  have lb := SqK.lt I1 sy
  refine zip_begins2 B1 B2 p1 p2 fun h' hz hTI hTO h1 h2 hsz hk => ?_
  have I2 : Inv X pins σ H1 { s1 with heap := h' } := I1.kept (t' := s1.toks) hk
  have Z := zip_sep2 (fp1 := [a]) (fp2 := [b]) (by simpa using la) (by simpa using lb)
  obtain ⟨its1, St1, vx, D1, s10, ex⟩ := drawsB (prog := X.prog) (w := X.w) I2 sx (Nat.ne_of_lt la)
  obtain ⟨its2, St2, vy, D2, s20, ey⟩ := drawsB (prog := X.prog) (w := X.w) I2 sy (Nat.ne_of_lt (Nat.lt_succ_of_lt lb))
  have P := pairarg2 Z D1 D2
  refine Calls.spliced_nil ?_
  have xl := vx.length
  have yl := vy.length
  have ll1 := rx.length
  have ll2 := ry.length
  have exs := keysD_rep rx ek
  have lk : ks.length = l1.length := by rw [ll1, exs, List.length_map]
  have it1 : ∃ o, h'.get? s1.heap.objs.size = some o := (D1 callerA rfl).live _ _ (s10 (IterK.new h1))
  have it2 : ∃ o, h'.get? (s1.heap.objs.size + 1) = some o := (D2 callerA rfl).live _ _ (s20 (IterK.new h2))
  obtain ⟨er, rr⟩ := zip_reps (ks := ks) ry
  obtain ⟨vs', em, rm⟩ := merge_rep (kvs := []) (vs := []) rr rfl
  rw [er, zip_self] at em
  have em' : mergeK [] (ks.zip ys) = ((mergeD [] (ks.zip l2)).map (·.1)).zip vs' := em
  have kv := zip_kv (ks := ks) vy
  have hl1 : its1.length = ks.length := by rw [← xl, exs, List.length_map]
  refine PySem.call_dict_pairs (knd := mixKind X.prog X.w) (kvs := ks.zip its2) (s := { s1 with heap := h' }) P hh ⟨hz, hTI, ⟨_, _, hTO⟩, s10 (IterK.new h1), s20 (IterK.new h2), it1, it2, ex, ey⟩ ⟨?_, fun i key v hr => ?_⟩ ?_ fun h2' tk hd' hk2 => ?_
  · rw [List.length_zip, hl1]
  · obtain ⟨g1, g2⟩ := hr
    have hi : i < ks.length := by rw [← hl1]; exact (List.getElem?_eq_some_iff.mp g1).1
    refine ⟨ks[i], List.getElem?_zip_eq_some.mpr ⟨List.getElem?_eq_getElem hi, g2⟩, ?_⟩
    obtain ⟨u, e3, e4⟩ := vx.get (show xs[i]? = some (kV ks[i]) by rw [exs, List.getElem?_map, List.getElem?_eq_getElem hi]; rfl)
    rw [g1] at e3
    cases e3
    exact kV_is e4
  · have : its1.length ≤ sizeLine := by rw [hl1, lk]; exact hlen
    omega
  · have hk3 : ∀ b' u, s1.heap.get? b' = some u → h2'.get? b' = some u := fun b' u hb => by
      have hlt : b' < s1.heap.objs.size := Heap.lt_size hb
      refine hk2 b' u (fun hc => ?_) (hk b' u hb)
      simp at hc
      rcases hc with rfl | rfl | rfl | rfl <;> first | exact Nat.not_lt.mpr (Nat.le_add_right _ _) hlt | exact Nat.lt_irrefl _ hlt
    have hsz2 : s1.heap.objs.size ≤ h'.objs.size := by rw [hsz]; exact Nat.le_add_right _ _
    have hm2 : (h'.objs.size == sysModules) = false := beq_eq_false_iff_ne.mpr (Nat.ne_of_gt (Nat.lt_of_lt_of_le I1.big hsz2))
    have hn := I1.hok.fresh hsz2
    have hz2 : (mergeK [] (ks.zip ys)).length ≤ sizeLine := by
      refine Nat.le_trans (length_mergeK _ []) ?_
      rw [List.length_nil, Nat.zero_add, List.length_zip, lk]
      omega
    have x2 : Ext (wd X) M1 H1 (M1.upd h'.objs.size (.dic (mergeD [] (ks.zip l2)))) (upd H1 h'.objs.size (.dK (mergeK [] (ks.zip ys)))) := Ext.freshM A1 hn
    refine ⟨.ref h'.objs.size, upd H1 h'.objs.size (.dK (mergeK [] (ks.zip ys))), I1.laid (t' := tk) hk3 hsz2 (show ObjOk X.prog X.w _ _ _ (.dK (mergeK [] (ks.zip ys))) from ⟨hz2, hm2, merged [] (ks.zip its2), KV.merge kv .nil, hd'⟩), rfl, .ref h'.objs.size, _, x.trans x2, rfl, AbsM.freshM A1 hn ⟨vs', ?_, rm.ext x2⟩, q _ (A1.free hn)⟩
    rw [upd_same, em']
end Ow

namespace Ow
open PySem PySem.Spec PyProof.Rows L2
/-! ### operations on arguments that are evaluated one after another -/
def DEs (X : Cx) : List Expr → List DTE → Prop
  | [], [] => True
  | e :: es, t :: ts => DE X e t ∧ DEs X es ts
  | _, _ => False
@[simp] def seqT : List DTE → DTA
  | [], _, M, Q => Q [] M
  | t :: ts, ρ, M, Q => t ρ M fun d M1 => seqT ts ρ M1 fun ds M2 => Q (d :: ds) M2
theorem DEs.da {X : Cx} : ∀ {es : List Expr} {ts : List DTE}, DEs X es ts → es.all notStar = true → DA X es (seqT ts)
  | [], [], _, _ => ⟨fun σ H ρ M Q S A z => DA.nil.to σ H ρ M Q S A z⟩
  | e :: es, t :: ts, h, s => by
    rw [List.all_cons, Bool.and_eq_true] at s
    exact ⟨fun σ H ρ M Q S A z => (DA.cons h.1 (DEs.da h.2 s.2) s.1).to σ H ρ M Q S A z⟩
inductive Op where
  | lzip2 (fz : Bool) | lzip3 (fz : Bool) | dzip | dnew | dnil
@[simp] def opD (k : Op) (ds : List D) (M : Mp) (Q : QE) : Prop := match k with
  | .lzip2 fz => itD .zip2 ds M fun l _ M2 => l.length ≤ sizeLine ∧ if fz = true then Q (.lst l) M2 else ∀ p, M2 p = none → Q (.ref p) (M2.upd p (.lst l))
  | .lzip3 fz => itD .zip3 ds M fun l _ M2 => l.length ≤ sizeLine ∧ if fz = true then Q (.lst l) M2 else ∀ p, M2 p = none → Q (.ref p) (M2.upd p (.lst l))
  | .dzip => ∃ d1 d2 l1 l2 ks, ds = [d1, d2] ∧ seqIn M d1 = some l1 ∧ seqIn M d2 = some l2 ∧ keysD l1 = some ks ∧ l1.length ≤ sizeLine ∧ ∀ p, M p = none → Q (.ref p) (M.upd p (.dic (mergeD [] (ks.zip l2))))
  | .dnew => ∀ p, M p = none → Q (.ref p) (M.upd p (.dic []))
  | .dnil => Q (.dct [] []) M
def glB (sc : Scope) (x : Str) : Bool := match sc.names.lookup x with | some .globalImplicit => true | _ => false
/-- the arguments, where the expression is of that form -/
def opArgs (sc : Scope) (k : Op) (e : Expr) : Option (List Expr) := match k, e with
  | .lzip2 _, .Call (.Name f _) [.Call (.Name g _) [a, b] [] _] [] _ => if decide (f = "list") && decide (g = "zip") && glB sc f && glB sc g then some [a, b] else none
  | .lzip3 _, .Call (.Name f _) [.Call (.Name g _) [a, b, c] [] _] [] _ => if decide (f = "list") && decide (g = "zip") && glB sc f && glB sc g then some [a, b, c] else none
  | .dzip, .Call (.Name f _) [.Call (.Name g _) [a, b] [] _] [] _ => if decide (f = "dict") && decide (g = "zip") && glB sc f && glB sc g then some [a, b] else none
  | .dnew, .Dict [] [] _ => some []
  | .dnil, .Dict [] [] _ => some []
  | _, _ => none
theorem Inv.hn {X : Cx} {pins : List (Addr × Obj)} {σ : L2.St} {H : Hp} {s : Shared} (I : Inv X pins σ H s) (hc : X.calm = true) : X.A.handled = none := I.ok.hd hc
theorem DE.hn {X : Cx} {e : Expr} {t : DTE} (hc : X.calm = true) (h : X.A.handled = none → DE X e t) : DE X e t :=
  ⟨fun σ H ρ M Q S A z pins s I => (h (I.ok.hd hc)).to σ H ρ M Q S A z pins s I⟩
theorem DE.dnew {X : Cx} {pos : Pos} : DE X (.Dict [] [] pos) (fun _ M Q => ∀ p, M p = none → Q (.ref p) (M.upd p (.dic []))) := by
  refine DE.of pe_dnewK fun σ H ρ M Q S A z p hp => ?_
  have x : Ext (wd X) M H (M.upd p (.dic [])) (upd H p (.dK [])) := Ext.freshM A hp
  exact ⟨.ref p, _, x, rfl, AbsM.freshM A hp ⟨[], upd_same, rfl⟩, z p (A.free hp)⟩
theorem DE.dnil {X : Cx} {pos : Pos} : DE X (.Dict [] [] pos) (fun _ M Q => Q (.dct [] []) M) :=
  DE.of pe_dnewK fun σ H ρ M Q S A z p hp => ⟨.dct [] [], M, Ext.fresh hp, ⟨p, [], rfl, A.free hp, upd_same, rfl, rfl⟩, A.fresh hp, z⟩
theorem opArgs_simple {sc : Scope} {k : Op} {e : Expr} {as : List Expr} (h : opArgs sc k e = some as) : simpleTest e = true := by
  unfold opArgs at h
  split at h <;> first | rfl | (cases h; done)
theorem op_ok {X : Cx} {sc : Scope} (hgl : ∀ {x}, glB sc x = true → Gl X x) (hbl : ∀ {x}, (x = "list" ∨ x = "zip" ∨ x = "dict") → X.mg x = none) (hc : X.calm = true) (k : Op) {e : Expr} {as : List Expr} {ts : List DTE} (h : opArgs sc k e = some as) (hd : DEs X as ts) (hs : as.all notStar = true) :
    DE X e (fun ρ M Q => seqT ts ρ M fun ds M1 => opD k ds M1 Q) := by
  have hD := hd.da hs
  unfold opArgs at h
  split at h
  · split at h
    · rename_i hh
      simp only [Bool.and_eq_true, decide_eq_true_eq] at hh
      obtain ⟨⟨⟨rfl, rfl⟩, g1⟩, g2⟩ := hh
      cases h
      rw [List.all_cons, List.all_cons, Bool.and_eq_true, Bool.and_eq_true] at hs
      exact DE.hn hc fun hn => DE.lzip2 (hgl g1) (hbl (.inl rfl)) (hgl g2) (hbl (.inr (.inl rfl))) hD hs.1 hs.2.1 hn
    · cases h
  · split at h
    · rename_i hh
      simp only [Bool.and_eq_true, decide_eq_true_eq] at hh
      obtain ⟨⟨⟨rfl, rfl⟩, g1⟩, g2⟩ := hh
      cases h
      rw [List.all_cons, List.all_cons, List.all_cons, Bool.and_eq_true, Bool.and_eq_true, Bool.and_eq_true] at hs
      exact DE.hn hc fun hn => DE.lzip3 (hgl g1) (hbl (.inl rfl)) (hgl g2) (hbl (.inr (.inl rfl))) hD hs.1 hs.2.1 hs.2.2.1 hn
    · cases h
  · split at h
    · rename_i hh
      simp only [Bool.and_eq_true, decide_eq_true_eq] at hh
      obtain ⟨⟨⟨rfl, rfl⟩, g1⟩, g2⟩ := hh
      cases h
      rw [List.all_cons, List.all_cons, Bool.and_eq_true, Bool.and_eq_true] at hs
      exact DE.hn hc fun hn => DE.dzip (hgl g1) (hbl (.inr (.inr rfl))) (hgl g2) (hbl (.inr (.inl rfl))) hD hs.1 hs.2.1 hn
    · cases h
  · cases h
    cases ts with
    | nil => exact DE.dnew
    | cons _ _ => exact hd.elim
  · cases h
    cases ts with
    | nil => exact DE.dnil
    | cons _ _ => exact hd.elim
  · cases h
/-! ### a dict display with written keys -/
def keyE : Expr → Option Key
  | .Constant (.int i) _ _ => some (.inl i)
  | .Constant (.str s) _ _ => some (.inr s)
  | _ => none
def keysE : List (Option Expr) → Option (List Key)
  | [] => some []
  | some e :: r => match keyE e, keysE r with
    | some k, some ks => some (k :: ks)
    | _, _ => none
  | none :: _ => none
def upP (W : Wd) : List (Key × DTE) → List (TE × TE)
  | [] => []
  | (k, t) :: r => (tC (kV k), upT W t) :: upP W r
theorem pe_key {X : Cx} {e : Expr} {k : Key} (h : keyE e = some k) : PE X e (tC (kV k)) := by
  unfold keyE at h
  split at h
  · cases h; exact pe_int
  · cases h; exact pe_str
  · cases h
theorem pps_disp {X : Cx} {pos : Pos} : ∀ {keys : List (Option Expr)} {vals : List Expr} {ks : List Key} {ts : List DTE}, keysE keys = some ks → DEs X vals ts → ks.length = ts.length → PPs X pos keys vals (upP (wd X) (ks.zip ts))
  | [], vals, _, ts, h, hd, hl => by
    cases h
    cases ts with
    | nil => cases vals with
      | nil => exact pps_nil
      | cons _ _ => exact hd.elim
    | cons _ _ => cases hl
  | some e :: keys, vals, _, ts, h, hd, hl => by
    unfold keysE at h
    split at h
    · rename_i k ks e1 e2
      cases h
      cases ts with
      | nil => cases hl
      | cons t ts => cases vals with
        | nil => exact hd.elim
        | cons v vals => exact pps_cons (pe_key e1) (pe_upT hd.1) (pps_disp e2 hd.2 (by simpa using hl))
    · cases h
  | none :: keys, _, _, _, h, _, _ => by cases h
theorem tPairs_up {X : Cx} {σ : L2.St} : ∀ {ks : List Key} {ts : List DTE} {ρ : DSt} {M : Mp} {H : Hp} {Q : List D → Mp → Prop} {R : List (V × V) → Hp → Prop}, ks.length = ts.length → AbsS (wd X) M H ρ σ → AbsM (wd X) M H → seqT ts ρ M Q →
    (∀ ds vs M1 H1, Ext (wd X) M H M1 H1 → AbsM (wd X) M1 H1 → Reps (wd X) M1 H1 ds vs → Q ds M1 → R ((ks.map kV).zip vs) H1) → tPairs (upP (wd X) (ks.zip ts)) σ H R
  | [], [], ρ, M, H, Q, R, _, S, A, z, k => k [] [] M H Ext.refl A rfl z
  | [], _ :: _, _, _, _, _, _, h, _, _, _, _ => by cases h
  | _ :: _, [], _, _, _, _, _, h, _, _, _, _ => by cases h
  | k0 :: ks, t :: ts, ρ, M, H, Q, R, h, S, A, z, k => by
    show tC (kV k0) σ H fun x H1 => upT (wd X) t σ H1 fun y H2 => tPairs (upP (wd X) (ks.zip ts)) σ H2 fun ps H3 => R ((x, y) :: ps) H3
    refine ⟨ρ, M, _, S, A, z, fun v H1 ⟨d, M1, x, r, A1, q⟩ => ?_⟩
    refine tPairs_up (by simpa using h) (S.ext x) A1 q fun ds vs M2 H2 x2 A2 rs q2 => ?_
    exact k (d :: ds) (v :: vs) M2 H2 (x.trans x2) A2 ⟨v, vs, rfl, r.ext x2, rs⟩ q2
theorem merge_id : ∀ {ks : List Key} {vs : List V} {acc : List (Key × V)}, ks.length = vs.length → ks.Nodup → (∀ k ∈ ks, ∀ p ∈ acc, p.1 ≠ k) → mergeK acc (ks.zip vs) = acc ++ ks.zip vs
  | [], _, acc, _, _, _ => by show acc = acc ++ []; rw [List.append_nil]
  | _ :: _, [], _, h, _, _ => by cases h
  | k :: ks, v :: vs, acc, h, hn, ha => by
    rw [List.nodup_cons] at hn
    have e : putK acc k v = acc ++ [(k, v)] := by
      unfold putK
      rw [if_neg]
      rw [List.any_eq_true]
      rintro ⟨p, hp, e⟩
      exact ha k List.mem_cons_self p hp (of_decide_eq_true e)
    rw [List.zip_cons_cons]
    show mergeK (putK acc k v) (ks.zip vs) = _
    rw [e, merge_id (by simpa using h) hn.2 fun k' hk' p hp => ?_]
    · simp
    · rcases List.mem_append.mp hp with hp | hp
      · exact ha k' (List.mem_cons_of_mem _ hk') p hp
      · rw [List.mem_singleton] at hp
        subst hp
        intro e
        have e' : k = k' := e
        exact hn.1 (e' ▸ hk')
theorem pairs_inj : ∀ {ks : List Key} {vs : List V} {kvs : List (Key × V)}, ks.length = vs.length → (ks.map kV).zip vs = kvs.map (fun kv => (kV kv.1, kv.2)) → kvs = ks.zip vs
  | [], _, kvs, _, h => by
    cases kvs with
    | nil => rfl
    | cons _ _ => cases h
  | _ :: _, [], _, h, _ => by cases h
  | k :: ks, v :: vs, kvs, hl, h => by
    cases kvs with
    | nil => cases h
    | cons p kvs =>
      rw [List.map_cons, List.zip_cons_cons, List.map_cons] at h
      injection h with h1 h2
      injection h1 with h3 h4
      have : k = p.1 := by
        cases k <;> cases hp : p.1 <;> rw [hp] at h3 <;> first | (cases h3; rfl) | cases h3
      rw [List.zip_cons_cons, ← pairs_inj (by simpa using hl) h2, this, h4]
theorem DE.disp {X : Cx} {keys : List (Option Expr)} {vals : List Expr} {ks : List Key} {ts : List DTE} {pos : Pos} {fz : Bool} (hk : keysE keys = some ks) (hd : DEs X vals ts) (hl : ks.length = ts.length) (hl2 : keys.length = vals.length) (hn : ks.Nodup) (h0 : keys ≠ []) (h15 : keys.length ≤ 15) (hall : keys.all (·.isSome) = true) (hks : ks.length ≤ 15) :
    DE X (.Dict keys vals pos) (fun ρ M Q => ∀ p, M p = none → seqT ts ρ (M.upd p (.dic [])) fun ds M2 => M2 p = some (.dic []) ∧ ds.length = ks.length ∧ if fz = true then Q (.dct ks ds) (M2.del p) else Q (.ref p) (M2.upd p (.dic (ks.zip ds)))) := by
  refine DE.of (pe_disp (pps_disp hk hd hl) hall hl2 h0 h15) fun σ H ρ M Q S A z p hp => ?_
  have x : Ext (wd X) M H (M.upd p (.dic [])) (upd H p (.dK [])) := Ext.freshM A hp
  have A1 : AbsM (wd X) (M.upd p (.dic [])) (upd H p (.dK [])) := AbsM.freshM A hp ⟨[], upd_same, rfl⟩
  refine tPairs_up hl (S.ext x) A1 (z p (A.free hp)) fun ds vs M2 H2 x2 A2 rs q => ?_
  obtain ⟨e2, el, q⟩ := q
  obtain ⟨vs0, h1, h2⟩ := A2 p _ e2
  have lens : ks.length = vs.length := by rw [← rs.length, el]
  have ez : (ks.map kV).zip vs = (ks.zip vs).map (fun kv => (kV kv.1, kv.2)) := by
    rw [List.zip_map_left]; rfl
  have em : mergeK [] (ks.zip vs) = ks.zip vs := merge_id lens hn (fun _ _ p hp => by cases hp)
  refine ⟨h1, ks.zip vs, ez, by rw [List.length_zip]; omega, ?_⟩
  rw [em]
  obtain ⟨e3, e4⟩ := zip_12 (ks := ks) (l := ds) el.symm
  have xw : Ext (wd X) M2 H2 (M2.upd p (.dic (ks.zip ds))) (upd H2 p (.dK (ks.zip vs))) := Ext.write A2 e2
  have Aw : AbsM (wd X) (M2.upd p (.dic (ks.zip ds))) (upd H2 p (.dK (ks.zip vs))) := AbsM.write A2 e2 ⟨vs, by rw [upd_same, e3], by rw [e4]; exact rs.ext xw⟩
  cases fz with
  | true =>
    rw [if_pos rfl] at q
    have ed : (M2.upd p (.dic (ks.zip ds))).del p = M2.del p := by
      funext b
      by_cases e : b = p
      · rw [e, Mp.del_same, Mp.del_same]
      · rw [Mp.del_ne e, Mp.del_ne e, Mp.upd_ne e]
    have xf : Ext (wd X) (M2.upd p (.dic (ks.zip ds))) (upd H2 p (.dK (ks.zip vs))) (M2.del p) (upd H2 p (.dK (ks.zip vs))) := by rw [← ed]; exact Ext.forget Mp.sub_del
    refine ⟨.dct ks ds, M2.del p, ((x.trans x2).trans xw).trans xf, ⟨p, vs, rfl, Mp.del_same, upd_same, lens, (rs.ext xw).ext xf⟩, ?_, q⟩
    rw [← ed]; exact Aw.forget Mp.sub_del
  | false =>
    rw [if_neg Bool.false_ne_true] at q
    exact ⟨.ref p, _, (x.trans x2).trans xw, rfl, Aw, q⟩
end Ow

namespace Ow
open PySem PySem.Spec PyProof.Rows L2
/-! ### instances: reading and writing what they hold -/
/-- the name of what is held, the classes that may hold it -/
structure AI where
  f : Str
  cs : List Str
def AOk (X : Cx) (a : AI) : Prop := ∀ c ∈ a.cs, ∃ C, X.mg c = some (.ref C) ∧ Cls X.K C ∧ NoAttr X.K C a.f
def putFD (f : Str) (d : D) : List (Str × D) → List (Str × D)
  | [] => [(f, d)]
  | (g, x) :: r => if g = f then (g, d) :: r else (g, x) :: putFD f d r
def insD (a : AI) (d : D) (M : Mp) : Option (Addr × Str × List (Str × D)) := match d with
  | .ref p => match M p with
    | some (.ins c fs) => if c ∈ a.cs then some (p, c, fs) else none
    | _ => none
  | _ => none
def attD (a : AI) (d : D) (M : Mp) (Q : QE) : Prop := match insD a d M with
  | some (_, _, fs) => (match fs.lookup a.f with
    | some x => Q x M
    | none => False)
  | none => False
def satD (a : AI) (d x : D) (M : Mp) (Q : Mp → Prop) : Prop := match insD a d M with
  | some (p, c, fs) => fs.length < 1000 ∧ Q (M.upd p (.ins c (putFD a.f x fs)))
  | none => False
section
variable {W : Wd} {M : Mp} {H : Hp}
theorem look_rep {f : Str} : ∀ {fs : List (Str × D)} {ns : List Str} {vs : List V}, fs = ns.zip (fs.map (·.2)) → ns.length = vs.length → Reps W M H (fs.map (·.2)) vs →
    (fs.lookup f = none → (ns.zip vs).lookup f = none) ∧ ∀ d, fs.lookup f = some d → ∃ v, (ns.zip vs).lookup f = some v ∧ Rep W M H d v
  | [], ns, vs, e, hl, r => by
    rw [show vs = [] from r] at hl ⊢
    rw [List.zip_nil_right]
    exact ⟨fun _ => rfl, fun d h => (by cases h)⟩
  | (g, x) :: fs, [], vs, e, hl, r => by cases e
  | (g, x) :: fs, n :: ns, vs, e, hl, r => by
    obtain ⟨v, w, rfl, h1, h2⟩ := r
    rw [List.map_cons, List.zip_cons_cons] at e
    obtain ⟨e1, e2⟩ := List.cons.inj e
    have e3 : g = n := congrArg Prod.fst e1
    subst e3
    obtain ⟨i1, i2⟩ := look_rep (f := f) (fs := fs) (ns := ns) (vs := w) e2 (by simpa using hl) h2
    rw [List.zip_cons_cons, List.lookup_cons, List.lookup_cons]
    cases hb : (f == g) with
    | true => exact ⟨fun h => (by cases h), fun d h => (by cases h; exact ⟨v, rfl, h1⟩)⟩
    | false => exact ⟨i1, i2⟩
theorem put_ins {f : Str} {d : D} {v : V} (hd : Rep W M H d v) : ∀ {fs : List (Str × D)} {ns : List Str} {vs : List V}, fs = ns.zip (fs.map (·.2)) → ns.length = vs.length → Reps W M H (fs.map (·.2)) vs →
    ∃ (ns' : List Str) (vs' : List V), putF f v (ns.zip vs) = ns'.zip vs' ∧ putFD f d fs = ns'.zip ((putFD f d fs).map (·.2)) ∧ ns'.length = vs'.length ∧ Reps W M H ((putFD f d fs).map (·.2)) vs'
  | [], ns, vs, e, hl, r => by
    rw [show vs = [] from r] at hl ⊢
    have : ns = [] := List.length_eq_zero_iff.mp hl
    subst this
    exact ⟨[f], [v], rfl, rfl, rfl, ⟨v, [], rfl, hd, rfl⟩⟩
  | (g, x) :: fs, [], vs, e, hl, r => by cases e
  | (g, x) :: fs, n :: ns, vs, e, hl, r => by
    obtain ⟨u, w, rfl, h1, h2⟩ := r
    rw [List.map_cons, List.zip_cons_cons] at e
    obtain ⟨e1, e2⟩ := List.cons.inj e
    have e3 : g = n := congrArg Prod.fst e1
    subst e3
    rw [List.zip_cons_cons]
    show ∃ (ns' : List Str) (vs' : List V), (if g = f then (g, v) :: ns.zip w else (g, u) :: putF f v (ns.zip w)) = ns'.zip vs' ∧ (if g = f then (g, d) :: fs else (g, x) :: putFD f d fs) = ns'.zip ((if g = f then (g, d) :: fs else (g, x) :: putFD f d fs).map (·.2)) ∧ ns'.length = vs'.length ∧ Reps W M H ((if g = f then (g, d) :: fs else (g, x) :: putFD f d fs).map (·.2)) vs'
    by_cases hg : g = f
    · rw [if_pos hg, if_pos hg]
      refine ⟨g :: ns, v :: w, rfl, ?_, by simpa using hl, ⟨v, w, rfl, hd, h2⟩⟩
      rw [List.map_cons, List.zip_cons_cons, ← e2]
    · rw [if_neg hg, if_neg hg]
      obtain ⟨ns', vs', i1, i2, i3, i4⟩ := put_ins (f := f) hd (fs := fs) (ns := ns) (vs := w) e2 (by simpa using hl) h2
      refine ⟨g :: ns', u :: vs', by rw [i1]; rfl, ?_, by simpa using i3, ⟨u, vs', rfl, h1, i4⟩⟩
      rw [List.map_cons, List.zip_cons_cons, ← i2]
theorem insD_rep {a : AI} {d : D} {v : V} {p : Addr} {c : Str} {fs : List (Str × D)} (A : AbsM W M H) (r : Rep W M H d v) (e : insD a d M = some (p, c, fs)) : d = .ref p ∧ v = .ref p ∧ c ∈ a.cs ∧ M p = some (.ins c fs) ∧ RepO W M H p (.ins c fs) := by
  unfold insD at e
  split at e
  · split at e
    · rename_i hM
      split at e
      · cases e
        rename_i hc
        exact ⟨rfl, r, hc, hM, A _ _ hM⟩
      · cases e
    · cases e
  · cases e
theorem zip_len_of {fs : List (Str × D)} {ns : List Str} {vs : List V} (e : fs = ns.zip (fs.map (·.2))) (h : ns.length = vs.length) (r : Reps W M H (fs.map (·.2)) vs) : (ns.zip vs).length = fs.length := by
  have h1 := r.length
  rw [List.length_map] at h1
  rw [List.length_zip]; omega
end
section
variable {X : Cx} {o e : Expr} {pos p1 : Pos} {to te : DTE} {a : AI}
theorem DE.att (hA : AOk X a) (ho : DE X o to) (hb : plainBase o = true) : DE X (.Attribute o a.f pos) (fun ρ M Q => to ρ M fun d M1 => attD a d M1 Q) := by
  refine DE.of (pe_fld pe_cT (base_of hb)) fun σ H ρ M Q S A z => ?_
  refine ho.bind S A z fun v d M1 H1 x r1 A1 S1 q => ?_
  unfold attD at q
  split at q
  · rename_i p c fs hi
    split at q
    · rename_i y hy
      obtain ⟨rfl, rfl, hc, hM, C, dx, ns, vs, h1, h2, h3, h4, h5⟩ := insD_rep A1 r1 hi
      obtain ⟨C', h1', hcls, hno⟩ := hA c hc
      have eC : Value.ref C = .ref C' := Option.some.inj (h1.symm.trans h1')
      cases eC
      obtain ⟨u, hu, ru⟩ := (look_rep h3 h4 h5).2 _ hy
      exact ⟨p, C, dx, _, u, rfl, h2, hcls, hno, hu, y, M1, x, ru, A1, q⟩
    · exact q.elim
  · exact q.elim
theorem DS.sat (hA : AOk X a) (he : DE X e te) (ho : DE X o to) (hs : swapsWith e (some (.Attribute o a.f p1)) pos.line X.env = pure false) :
    DS X (.Assign [.Attribute o a.f p1] e pos) (fun D ρ M => te ρ M fun x M1 => to ρ M1 fun d M2 => satD a d x M2 fun M3 => D.nx ρ M3) := by
  refine DS.of (ps_fld pe_cT pe_cT hs) fun σ H ρ M D De S A z k => ?_
  refine he.bind S A z fun v d M1 H1 x1 r1 A1 S1 q1 => ho.bind S1 A1 q1 fun v2 d2 M2 H2 x2 r2 A2 S2 q2 => ?_
  unfold satD at q2
  split at q2
  · rename_i p c fs hi
    obtain ⟨rfl, rfl, hc, hM, C, dx, ns, vs, h1, h2, h3, h4, h5⟩ := insD_rep A2 r2 hi
    obtain ⟨C', h1', hcls, hno⟩ := hA c hc
    have eC : Value.ref C = .ref C' := Option.some.inj (h1.symm.trans h1')
    cases eC
    obtain ⟨ns', vs', i1, i2, i3, i4⟩ := put_ins (f := a.f) (r1.ext x2) h3 h4 h5
    have xw : Ext (wd X) M2 H2 (M2.upd p (.ins c (putFD a.f d fs))) (upd H2 p (.ins C dx (ns'.zip vs'))) := Ext.write A2 hM
    refine ⟨p, C, dx, _, rfl, h2, hcls, hno, by rw [zip_len_of h3 h4 h5]; exact q2.1, ?_⟩
    rw [i1]
    exact k.nx _ _ _ _ ((x1.trans x2).trans xw) (AbsM.write A2 hM ⟨C, dx, ns', vs', h1, upd_same, i2, i3, i4.ext xw⟩) (S2.ext xw) q2.2
  · exact q2.elim
end
/-! ### methods of own classes -/
theorem mcall_eq {o : Expr} {m : Str} {apos pos : Pos} {es : List Expr} {env : Env} (hb : plainBase o = true) (hfew : methodCallForm (es.length + ([] : List Keyword).length) (backTo pos (starEach es env)) (backToKw pos (keywordEach [] env)) = true) (hline : (apos.endLine == pos.line) = true) :
    eval (.Call (.Attribute o m apos) es [] pos) env = (do
      let ov ← eval o env
      standAt apos.atName
      let (f, first) ← holding [ov] (getMethod ov m (do return (← importBound o env).getD true))
      callWith pos f first (backTo pos (starEach es env)) (backToKw pos (keywordEach [] env))) := by
  rw [arm_eval_Call, base_of hb]
  unfold methodCall calleeOf methodCallPos
  rw [hfew, hline]
  rfl
structure MI where
  cls : Str
  name : Str
  n : Nat
  sp : DSp
def MOk (X : Cx) (mi : MI) : Prop := ∃ C f, X.mg mi.cls = some (.ref C) ∧ Cls X.K C ∧ L2.Meth X.K C mi.name f ∧ RunV X f mi.sp
/-- an instance of the class, its dict without the name -/
def isIns (c m : Str) (d : D) (M : Mp) : Prop := ∃ p fs, d = .ref p ∧ M p = some (.ins c fs) ∧ fs.lookup m = none
section
variable {X : Cx} {E : EX} {o : Expr} {es : List Expr} {pos apos : Pos} {to : DTE} {t : DTA} {mi : MI}
theorem DE.mcl (tk : Takes X (upW (wd X) E)) (hM : MOk X mi) (gd : X.A.guards = some []) (ho : DE X o to) (h : DA X es t) (hb : plainBase o = true) (hl : (apos.endLine == pos.line) = true) (hs : es.all notStar = true) (hn : es.length < 29) (hnil : es = [] → ∀ ρ M Q, t ρ M Q → Q [] M) :
    DE X (.Call (.Attribute o mi.name apos) es [] pos) (fun ρ M Q => to ρ M fun d M1 => isIns mi.cls mi.name d M1 ∧ t ρ M1 fun ds M2 => mi.sp (d :: ds) M2 Q (fun x M' => E x (wk ρ) M')) := by
  obtain ⟨C, f, h1, hc, hm, G⟩ := hM
  refine ⟨fun σ H ρ M Q S A z pins s I => ?_⟩
  refine PySem.W.methodCall_KW (thn (ho.to σ H ρ M _ S A z pins s I) fun u s1 ⟨v, H1, I1, rv, d, M1, xt, r, A1, hi, q⟩ => ?_) (mcall_eq hb (few_all hs hn) hl)
  obtain ⟨p, fs, rfl, hMp, hlk⟩ := hi
  cases r
  obtain rfl : u = Value.ref p := rv
  obtain ⟨C', dx, ns, vs, k1, k2, k3, k4, k5⟩ := A1 p _ hMp
  have eC : Value.ref C' = .ref C := Option.some.inj (k1.symm.trans h1)
  cases eC
  refine getmeth_ok I1 k2 hc hm ((look_rep k3 k4 k5).1 hlk) ?_
  cases es with
  | nil =>
    have q0 := hnil rfl _ _ _ q
    exact PySem.W.callWith_K0 (first := [.ref p]) I1.kIn hm.kp (thn (G.go E pins σ H1 s1 ρ M1 [.ref p] [.ref p] [.ref p] Q tk gd I1 (S.ext xt) A1 (.cons rfl .nil) ⟨_, _, rfl, rfl, rfl⟩ q0) fun u s2 ⟨v, H2, I2, rv2, q2⟩ => ⟨v, H2, I2, rv2, q2.trans xt⟩)
  | cons e es =>
    rw [List.all_cons, Bool.and_eq_true] at hs
    refine PySem.W.callWith_K (first := [.ref p]) (h₀ := X.base) I.ok.mod.kin hm.kp (thn (h.to σ H1 ρ M1 _ (S.ext xt) A1 q pos pins s1 I1) fun us s2 ⟨ws, H2, I2, rvs, ds, M2, xt2, r2, A2, q2⟩ => ⟨I2.kIn, ?_⟩) (star_cons hs.1) (star_none hs.2)
    exact thn (G.go E pins σ H2 s2 ρ M2 (.ref p :: ds) (.ref p :: ws) (.ref p :: us) Q tk gd I2 ((S.ext xt).ext xt2) A2 (.cons rfl rvs) ⟨_, _, rfl, rfl, r2⟩ q2) fun u s3 ⟨v, H3, I3, rv3, q3⟩ => ⟨v, H3, I3, rv3, (q3.trans xt2).trans xt⟩
end
end Ow

namespace Ow
open PySem PySem.Spec PyProof.Rows L2
/-! ### the small syntax -/
inductive Mth where
  | append | extend
inductive CE where
  | var (i : Nat) | int (i : Int) | bl (b : Bool) | non | str (s : Str) | glb (i : Nat)
  | bin (op : Operator) (fz : Bool) (a b : CE)
  | neg (a : CE) | not (a : CE) | one (a : CE) | and (a b : CE) | or (a b : CE)
  | cmp (op : CmpOp) (a b : CE) | chn (op op' : CmpOp) (a b c : CE)
  | ife (c a b : CE)
  | tup (es : List CE) | lst (fz : Bool) (es : List CE)
  | ix (a i : CE) | sl (fz : Bool) (a lo hi : CE) | slL (fz : Bool) (a lo : CE) | slH (fz : Bool) (a hi : CE)
  | call (f : Nat) (es : List CE)
  | blt (b : Blt) (fz : Bool) (es : List CE)
  | mth (m : Mth) (o e : CE) | bitlen (o : CE) | bad | isi (t : Ty) (o : CE) | rev (fz : Bool) (a : CE)
  | att (k : Nat) (o : CE) | mcl (k : Nat) (o : CE) (es : List CE)
  | op (k : Op) (es : List CE) | meth (m : Meth) (o : CE) (es : List CE) | disp (fz : Bool) (ks : List Key) (es : List CE)
  | comp (fz : Bool) (elt : CE) (tg : CT) (k : IK) (its : List CE) (own : List Nat)
  | compIf (fz : Bool) (elt cond : CE) (tg : CT) (k : IK) (its : List CE) (own : List Nat)
inductive CS where
  | set (i : Nat) (e : CE) | setLc (i : Nat) (e : CE) | asg (t : CT) (e : CE) | par (i j : Nat) (a b : CE) | par3 (i j l : Nat) (a b c : CE) | setix (o i e : CE) | aug (i : Nat) (op : Operator) (e : CE)
  | frz (i : Nat) | bad | sat (k : Nat) (o e : CE)
  | expr (e : CE) | ret (e : CE) | retN | pass | brk | cont
  | ifs (c : CE) (a b : List CS) | whl (c : CE) (b : List CS) | for (t : CT) (k : IK) (its : List CE) (b : List CS)
/-! ### its meaning -/
structure GI where
  name : Str
  d : D
structure MC where
  N : List Str
  fns : List Str
  gns : List Str
  ats : List AI
  mts : List (Str × Str)
structure Ctx where
  fs : List FI
  gs : List GI
  as : List AI
  ms : List MI
@[simp] def mthD (m : Mth) (o x : D) (M : Mp) (Q : QE) : Prop := match m, o with
  | .append, .ref a => (match M a with
    | some (.lst l) => l.length < sizeLine ∧ Q .non (M.upd a (.lst (l ++ [x])))
    | _ => False)
  | .extend, .ref a => (match M a, listIn M x with
    | some (.lst l), some r => l.length + r.length ≤ sizeLine ∧ Q .non (M.upd a (.lst (l ++ r)))
    | _, _ => False)
  | _, _ => False
@[simp] def partD (d : D) (M : Mp) (Q : Option Int → Mp → Prop) : Prop := match d with
  | .int i => Q (some i) M
  | _ => False
mutual
@[simp] def wpE (C : Ctx) : CE → EX → DSt → Mp → QE → Prop
  | .var i, _, ρ, M, Q => match ρ[i]? with
    | some (some d) => Q d M
    | _ => False
  | .int i, _, _, M, Q => Q (.int i) M
  | .bl b, _, _, M, Q => Q (.bl b) M
  | .non, _, _, M, Q => Q .non M
  | .str s, _, _, M, Q => Q (.str s) M
  | .glb i, _, _, M, Q => match C.gs[i]? with
    | some g => Q g.d M
    | none => False
  | .bin op fz a b, E, ρ, M, Q => wpE C a E ρ M fun d1 M1 => wpE C b E ρ M1 fun d2 M2 => binD op fz d1 d2 M2 Q
  | .neg a, E, ρ, M, Q => wpE C a E ρ M fun d M1 => match d with
    | .int i => Q (.int (-i)) M1
    | _ => False
  | .not a, E, ρ, M, Q => wpE C a E ρ M fun d M1 => truD d M1 fun k => Q (.bl (!k)) M1
  | .one a, E, ρ, M, Q => wpE C a E ρ M Q
  | .and a b, E, ρ, M, Q => wpE C a E ρ M fun d M1 => truD d M1 fun k => if k = true then wpE C b E ρ M1 Q else Q d M1
  | .or a b, E, ρ, M, Q => wpE C a E ρ M fun d M1 => truD d M1 fun k => if k = true then Q d M1 else wpE C b E ρ M1 Q
  | .cmp op a b, E, ρ, M, Q => wpE C a E ρ M fun d1 M1 => wpE C b E ρ M1 fun d2 M2 => cmpD op d1 d2 M2 Q
  | .chn op op' a b c, E, ρ, M, Q => wpE C a E ρ M fun d1 M1 => wpE C b E ρ M1 fun d2 M2 => cmpD op d1 d2 M2 (chnD (wpE C c E ρ) (cmpD op') d2 Q)
  | .ife c a b, E, ρ, M, Q => wpC C c E ρ M fun k M1 => if k = true then wpE C a E ρ M1 Q else wpE C b E ρ M1 Q
  | .tup es, E, ρ, M, Q => wpEs C es E ρ M fun ds M1 => ds.length ≤ sizeLine ∧ Q (.tup ds) M1
  | .lst fz es, E, ρ, M, Q => wpEs C es E ρ M fun ds M1 => ds.length ≤ sizeLine ∧ (if fz = true then Q (.lst ds) M1 else ∀ p, M1 p = none → Q (.ref p) (M1.upd p (.lst ds)))
  | .ix a b, E, ρ, M, Q => wpE C a E ρ M fun d1 M1 => wpE C b E ρ M1 fun d2 M2 => ixD d1 d2 M2 Q
  | .sl fz a lo hi, E, ρ, M, Q => wpE C a E ρ M fun d M1 => wpE C lo E ρ M1 fun d2 M2 => partD d2 M2 fun l M2 => wpE C hi E ρ M2 fun d3 M3 => partD d3 M3 fun h M3 => slD fz d l h M3 Q
  | .slL fz a lo, E, ρ, M, Q => wpE C a E ρ M fun d M1 => wpE C lo E ρ M1 fun d2 M2 => partD d2 M2 fun l M2 => slD fz d l none M2 Q
  | .slH fz a hi, E, ρ, M, Q => wpE C a E ρ M fun d M1 => wpE C hi E ρ M1 fun d2 M2 => partD d2 M2 fun h M2 => slD fz d none h M2 Q
  | .call f es, E, ρ, M, Q => wpEs C es E ρ M fun ds M1 => match C.fs[f]? with
    | some fi => fi.sp ds M1 Q fun x M2 => E x (wk ρ) M2
    | none => False
  | .blt b fz es, E, ρ, M, Q => wpEs C es E ρ M fun ds M1 => bltD b fz ds M1 Q
  | .mth m o e, E, ρ, M, Q => wpE C o E ρ M fun d M1 => (listIn M1 d).isSome = true ∧ wpE C e E ρ M1 fun d2 M2 => mthD m d d2 M2 Q
  | .bitlen o, E, ρ, M, Q => wpE C o E ρ M fun d M1 => match d with
    | .int i => Q (.int (Builtin.Int.intBits i : Nat)) M1
    | _ => False
  | .bad, _, _, _, _ => False
  | .isi t o, E, ρ, M, Q => wpE C o E ρ M fun d M1 => isiD t d M1 Q
  | .rev fz a, E, ρ, M, Q => wpE C a E ρ M fun d M1 => revD fz d M1 Q
  | .op k es, E, ρ, M, Q => wpEs C es E ρ M fun ds M1 => opD k ds M1 Q
  | .meth m o es, E, ρ, M, Q => wpE C o E ρ M fun d M1 => rcvD m d M1 ∧ wpEs C es E ρ M1 fun ds M2 => methD m d ds M2 Q
  | .att k o, E, ρ, M, Q => wpE C o E ρ M fun d M1 => match C.as[k]? with
    | some a => attD a d M1 Q
    | none => False
  | .mcl k o es, E, ρ, M, Q => match C.ms[k]? with
    | some mi => wpE C o E ρ M fun d M1 => isIns mi.cls mi.name d M1 ∧ wpEs C es E ρ M1 fun ds M2 => mi.sp (d :: ds) M2 Q fun x M3 => E x (wk ρ) M3
    | none => False
  | .disp fz ks es, E, ρ, M, Q => ∀ p, M p = none → wpEs C es E ρ (M.upd p (.dic [])) fun ds M2 => M2 p = some (.dic []) ∧ ds.length = ks.length ∧ if fz = true then Q (.dct ks ds) (M2.del p) else Q (.ref p) (M2.upd p (.dic (ks.zip ds)))
  | .comp fz elt tg k its own, E, ρ, M, Q => wpEs C its E ρ M fun ds M1 => itD k ds M1 fun l ok M2 => ∀ p, M2 p = none →
      cmpL fz ok (turnC tg own yesD (wpE C elt noX) ρ) p Q l (M2.upd p (.lst []))
  | .compIf fz elt cond tg k its own, E, ρ, M, Q => wpEs C its E ρ M fun ds M1 => itD k ds M1 fun l ok M2 => ∀ p, M2 p = none →
      cmpL fz ok (turnC tg own (wpC C cond noX) (wpE C elt noX) ρ) p Q l (M2.upd p (.lst []))
@[simp] def wpC (C : Ctx) : CE → EX → DSt → Mp → (Bool → Mp → Prop) → Prop
  | .not a, E, ρ, M, Q => wpC C a E ρ M fun k M1 => Q (!k) M1
  | .one a, E, ρ, M, Q => wpC C a E ρ M Q
  | .and a b, E, ρ, M, Q => wpC C a E ρ M fun k M1 => if k = true then wpC C b E ρ M1 Q else Q false M1
  | .or a b, E, ρ, M, Q => wpC C a E ρ M fun k M1 => if k = true then Q true M1 else wpC C b E ρ M1 Q
  | .ife _ _ _, _, _, _, _ => False
  | .cmp op a b, E, ρ, M, Q => wpE C a E ρ M fun d1 M1 => wpE C b E ρ M1 fun d2 M2 => cmpD op d1 d2 M2 fun d M3 => truD d M3 fun k => Q k M3
  | .chn op op' a b c, E, ρ, M, Q => wpE C a E ρ M fun d1 M1 => wpE C b E ρ M1 fun d2 M2 => cmpD op d1 d2 M2 (chnD (wpE C c E ρ) (cmpD op') d2 fun d M3 => truD d M3 fun k => Q k M3)
  | .var i, E, ρ, M, Q => match ρ[i]? with
    | some (some d) => truD d M fun k => Q k M
    | _ => False
  | .call f es, E, ρ, M, Q => wpEs C es E ρ M fun ds M1 => match C.fs[f]? with
    | some fi => fi.sp ds M1 (fun d M3 => truD d M3 fun k => Q k M3) fun x M2 => E x (wk ρ) M2
    | none => False
  | .blt b fz es, E, ρ, M, Q => wpEs C es E ρ M fun ds M1 => bltD b fz ds M1 fun d M3 => truD d M3 fun k => Q k M3
  | .bl b, _, _, M, Q => Q b M
  | .isi t o, E, ρ, M, Q => wpE C o E ρ M fun d M1 => isiD t d M1 fun d M3 => truD d M3 fun k => Q k M3
  | .op k es, E, ρ, M, Q => wpEs C es E ρ M fun ds M1 => opD k ds M1 fun d M3 => truD d M3 fun k => Q k M3
  | .meth m o es, E, ρ, M, Q => wpE C o E ρ M fun d M1 => rcvD m d M1 ∧ wpEs C es E ρ M1 fun ds M2 => methD m d ds M2 fun d M3 => truD d M3 fun k => Q k M3
  | .att k o, E, ρ, M, Q => wpE C o E ρ M fun d M1 => match C.as[k]? with
    | some a => attD a d M1 fun d M3 => truD d M3 fun k => Q k M3
    | none => False
  | .mcl k o es, E, ρ, M, Q => match C.ms[k]? with
    | some mi => wpE C o E ρ M fun d M1 => isIns mi.cls mi.name d M1 ∧ wpEs C es E ρ M1 fun ds M2 => mi.sp (d :: ds) M2 (fun d M3 => truD d M3 fun k => Q k M3) fun x M3 => E x (wk ρ) M3
    | none => False
  | .ix a b, E, ρ, M, Q => wpE C a E ρ M fun d1 M1 => wpE C b E ρ M1 fun d2 M2 => ixD d1 d2 M2 fun d M3 => truD d M3 fun k => Q k M3
  | _, _, _, _, _ => False
@[simp] def wpEs (C : Ctx) : List CE → EX → DSt → Mp → QA → Prop
  | [], _, _, M, Q => Q [] M
  | e :: es, E, ρ, M, Q => wpE C e E ρ M fun d M1 => wpEs C es E ρ M1 fun ds M2 => Q (d :: ds) M2
end
mutual
@[simp] def wpS (C : Ctx) (E : EX) : CS → DEnds → DSt → Mp → Prop
  | .set i e, B, ρ, M => wpE C e E ρ M fun d M1 => B.nx (ρ.set i (some d)) M1
  | .setLc i e, B, ρ, M => wpE C e E ρ M fun d M1 => B.nx (ρ.set i (some d)) M1
  | .asg t e, B, ρ, M => wpE C e E ρ M fun d M1 => bindT t d ρ fun ρ' => B.nx ρ' M1
  | .par i j a b, B, ρ, M => wpE C a E ρ M fun d1 M1 => wpE C b E ρ M1 fun d2 M2 => B.nx ((ρ.set i (some d1)).set j (some d2)) M2
  | .par3 i j l a b c, B, ρ, M => wpE C a E ρ M fun d1 M1 => wpE C b E ρ M1 fun d2 M2 => wpE C c E ρ M2 fun d3 M3 => B.nx (((ρ.set i (some d1)).set j (some d2)).set l (some d3)) M3
  | .setix o i e, B, ρ, M => wpE C e E ρ M fun d M1 => wpE C o E ρ M1 fun d2 M2 => wpE C i E ρ M2 fun d3 M3 => setD d2 d3 d M3 fun M4 => B.nx ρ M4
  | .aug i op e, B, ρ, M => match ρ[i]? with
    | some (some d) => wpE C e E ρ M fun d2 M1 => augD op d d2 M1 fun d3 M2 => B.nx (ρ.set i (some d3)) M2
    | _ => False
  | .expr e, B, ρ, M => wpE C e E ρ M fun _ M1 => B.nx ρ M1
  | .ret e, B, ρ, M => wpE C e E ρ M B.rt
  | .retN, B, _, M => B.rt .non M
  | .pass, B, ρ, M => B.nx ρ M
  | .bad, _, _, _ => False
  | .sat k o e, B, ρ, M => match C.as[k]? with
    | some a => wpE C e E ρ M fun x M1 => wpE C o E ρ M1 fun d M2 => satD a d x M2 fun M3 => B.nx ρ M3
    | none => False
  | .frz i, B, ρ, M => match ρ[i]? with
    | some (some (.ref a)) => (match M a with
      | some (.lst l) => B.nx (ρ.set i (some (.lst l))) (M.del a)
      | _ => False)
    | _ => False
  | .brk, B, ρ, M => B.bk ρ M
  | .cont, B, ρ, M => B.ct ρ M
  | .ifs c a b, B, ρ, M => wpC C c E ρ M fun k M1 => if k = true then wpB C E a B ρ M1 else wpB C E b B ρ M1
  | .whl c b, B, ρ, M => ∃ n, whileD (wpC C c E) (wpB C E b) B n ρ M
  | .for t k its b, B, ρ, M => wpEs C its E ρ M fun ds M1 => itD k ds M1 fun l ok M2 => forD t ok (wpB C E b) B l ρ M2
def wpB (C : Ctx) (E : EX) : List CS → DEnds → DSt → Mp → Prop
  | [], B, ρ, M => B.nx ρ M
  | s :: r, B, ρ, M => wpS C E s { B with nx := fun ρ' M' => wpB C E r B ρ' M' } ρ M
end
end Ow

namespace Ow
open PySem PySem.Spec PyProof.Rows L2
/-! ### the small syntax against the program's -/
def visB (sc : Scope) (x : Str) : Bool := match sc.names.lookup x with | some .local => true | some .cell => true | some .free => true | _ => false
def locB (sc : Scope) (x : Str) : Bool := match sc.names.lookup x with | some .local => true | some .cell => true | _ => false
def plainB (sc : Scope) (x : Str) : Bool := match sc.names.lookup x with | some .local => true | _ => false

def okName (x : Str) : Bool := !(x == ("__debug__" : Str)) && !(x == ("__classdict__" : Str)) && !(x == ("__name__" : Str))
def notSet (e : Expr) : Bool := match e with | .Set .. => false | _ => true
def isTupE (e : Expr) : Bool := match e with | .Tuple .. => true | _ => false
def Mth.name : Mth → Str
  | .append => "append" | .extend => "extend"
mutual
def mtT (C : MC) (sc : Scope) : CT → Expr → Bool
  | .nm i, e => match e with
    | .Name x _ => decide (C.N[i]? = some x) && locB sc x
    | _ => false
  | .tup ts, e => match e with
    | .Tuple es _ _ => mtTs C sc ts es
    | _ => false
def mtTs (C : MC) (sc : Scope) : List CT → List Expr → Bool
  | [], es => match es with
    | [] => true
    | _ :: _ => false
  | t :: ts, es => match es with
    | [] => false
    | e :: es => notStar e && mtT C sc t e && mtTs C sc ts es
end
mutual
def mtE (C : MC) : Scope → CE → Expr → Bool
  | sc, .var i, e => match e with
    | .Name x _ => decide (C.N[i]? = some x) && visB sc x && okName x
    | _ => false
  | sc, .int i, e => match e with
    | .Constant (.int j) _ _ => decide (i = j)
    | _ => false
  | sc, .bl i, e => match e with
    | .Constant (.bool j) _ _ => decide (i = j)
    | _ => false
  | sc, .non, e => match e with
    | .Constant .none _ _ => true
    | _ => false
  | sc, .str i, e => match e with
    | .Constant (.str j) _ _ => decide (i = j)
    | _ => false
  | sc, .glb i, e => match e with
    | .Name x _ => decide (C.gns[i]? = some x) && glB sc x && okName x
    | _ => false
  | sc, .bin op _ a b, e => match e with
    | .BinOp x op' y _ => decide (op = op') && mtE C sc a x && mtE C sc b y
    | _ => false
  | sc, .neg a, e => match e with
    | .UnaryOp .USub x _ => mtE C sc a x
    | _ => false
  | sc, .not a, e => match e with
    | .UnaryOp .Not x _ => mtE C sc a x
    | _ => false
  | sc, .one a, e => match e with
    | .BoolOp _ [x] _ => mtE C sc a x
    | _ => false
  | sc, .and a b, e => match e with
    | .BoolOp .And (x :: y :: r) p => mtE C sc a x && mtE C sc b (.BoolOp .And (y :: r) p)
    | _ => false
  | sc, .or a b, e => match e with
    | .BoolOp .Or (x :: y :: r) p => mtE C sc a x && mtE C sc b (.BoolOp .Or (y :: r) p)
    | _ => false
  | sc, .cmp op a b, e => match e with
    | .Compare x [op'] [y] _ => decide (op = op') && notSet y && mtE C sc a x && mtE C sc b y
    | _ => false
  | sc, .chn op op2 a b c, e => match e with
    | .Compare x [o1, o2] [y, z] _ => decide (op = o1) && decide (op2 = o2) && notSet z && mtE C sc a x && mtE C sc b y && mtE C sc c z
    | _ => false
  | sc, .ife c a b, e => match e with
    | .IfExp x y z _ => mtE C sc c x && mtE C sc a y && mtE C sc b z
    | _ => false
  | sc, .tup es, e => match e with
    | .Tuple xs _ _ => mtEs C sc es xs
    | _ => false
  | sc, .lst _ es, e => match e with
    | .List xs _ => mtEs C sc es xs
    | _ => false
  | sc, .ix a b, e => match e with
    | .Subscript x y _ => notSlice y && mtE C sc a x && mtE C sc b y
    | _ => false
  | sc, .sl _ a lo hi, e => match e with
    | .Subscript x (.Slice (some l) (some h) none _) _ => mtE C sc a x && mtE C sc lo l && mtE C sc hi h
    | _ => false
  | sc, .slL _ a lo, e => match e with
    | .Subscript x (.Slice (some l) none none _) _ => mtE C sc a x && mtE C sc lo l
    | _ => false
  | sc, .slH _ a hi, e => match e with
    | .Subscript x (.Slice none (some h) none _) _ => mtE C sc a x && mtE C sc hi h
    | _ => false
  | sc, .call f es, e => match e with
    | .Call (.Name x _) xs [] _ => decide (C.fns[f]? = some x) && glB sc x && okName x && mtEs C sc es xs
    | _ => false
  | sc, .blt b _ es, e => match e with
    | .Call (.Name x _) (y :: ys) [] _ => decide (b.name = x) && glB sc x && mtEs C sc es (y :: ys)
    | _ => false
  | sc, .mth m o x, e => match e with
    | .Call (.Attribute y nm apos) [z] [] pos => decide (nm = m.name) && plainBase y && (apos.endLine == pos.line) && notStar z && mtE C sc o y && mtE C sc x z
    | _ => false
  | _, .bad, _ => true
  | sc, .rev _ a, e => match e with
    | .Subscript x (.Slice none none (some (.UnaryOp .USub (.Constant (.int 1) _ _) _)) _) _ => mtE C sc a x
    | _ => false
  | sc, .isi t o, e => match e with
    | .Call (.Name x _) [y, .Name z _] [] _ => decide (x = "isinstance") && glB sc x && decide (z = t.nm) && glB sc z && notStar y && mtE C sc o y
    | _ => false
  | sc, .op k es, e => match opArgs sc k e with
    | some xs => mtEs C sc es xs
    | none => false
  | sc, .meth m o es, e => match e with
    | .Call (.Attribute y nm apos) xs [] pos => decide (nm = m.name) && plainBase y && (apos.endLine == pos.line) && decide (xs.length < 29) && mtE C sc o y && mtEs C sc es xs
    | _ => false
  | sc, .att k o, e => match e with
    | .Attribute y nm _ => decide (C.ats[k]?.map AI.f = some nm) && plainBase y && mtE C sc o y
    | _ => false
  | sc, .mcl k o es, e => match e with
    | .Call (.Attribute y nm apos) xs [] pos => decide (C.mts[k]?.map (·.2) = some nm) && plainBase y && (apos.endLine == pos.line) && decide (xs.length < 29) && mtE C sc o y && mtEs C sc es xs
    | _ => false
  | sc, .disp _ ks es, e => match e with
    | .Dict keys vals _ => decide (keysE keys = some ks) && decide (keys.length = vals.length) && decide ks.Nodup && !keys.isEmpty && decide (keys.length ≤ 15) && decide (ks.length ≤ 15) && decide (ks.length = es.length) && keys.all (·.isSome) && mtEs C sc es vals
    | _ => false
  | sc, .bitlen o, e => match e with
    | .Call (.Attribute y nm apos) [] [] pos => decide (nm = "bit_length") && plainBase y && (apos.endLine == pos.line) && mtE C sc o y
    | _ => false
  | sc, .comp _ elt tg k its own, e => match e with
    | .ListComp x [⟨t, it, [], 0⟩] scope _ => mtT C scope tg t && mtE C scope elt x && blkC C.N sc scope (own.map fun i => (C.N.getD i "", i)) && tg.at.all (fun i => own.contains i) && notSet it &&
      (match k, it with
        | .seq, it => mtEs C sc its [it]
        | .rng1, .Call (.Name f _) [a] [] _ => decide (f = "range") && glB sc f && mtEs C sc its [a]
        | .rng2, .Call (.Name f _) [a, b] [] _ => decide (f = "range") && glB sc f && mtEs C sc its [a, b]
        | .zip2, .Call (.Name f _) [a, b] [] _ => decide (f = "zip") && glB sc f && isTupE t && mtEs C sc its [a, b]
        | .zip3, .Call (.Name f _) [a, b, c] [] _ => decide (f = "zip") && glB sc f && isTupE t && mtEs C sc its [a, b, c]
        | .enum, .Call (.Name f _) [a] [] _ => decide (f = "enumerate") && glB sc f && isTupE t && mtEs C sc its [a]
        | _, _ => false)
    | _ => false
  | sc, .compIf _ elt cond tg k its own, e => match e with
    | .ListComp x [⟨t, it, [c], 0⟩] scope _ => mtT C scope tg t && mtE C scope elt x && mtE C scope cond c && blkC C.N sc scope (own.map fun i => (C.N.getD i "", i)) && tg.at.all (fun i => own.contains i) && notSet it &&
      (match k, it with
        | .seq, it => mtEs C sc its [it]
        | .rng1, .Call (.Name f _) [a] [] _ => decide (f = "range") && glB sc f && mtEs C sc its [a]
        | .rng2, .Call (.Name f _) [a, b] [] _ => decide (f = "range") && glB sc f && mtEs C sc its [a, b]
        | .zip2, .Call (.Name f _) [a, b] [] _ => decide (f = "zip") && glB sc f && isTupE t && mtEs C sc its [a, b]
        | .zip3, .Call (.Name f _) [a, b, c] [] _ => decide (f = "zip") && glB sc f && isTupE t && mtEs C sc its [a, b, c]
        | .enum, .Call (.Name f _) [a] [] _ => decide (f = "enumerate") && glB sc f && isTupE t && mtEs C sc its [a]
        | _, _ => false)
    | _ => false
def mtEs (C : MC) : Scope → List CE → List Expr → Bool
  | _, [], es => match es with
    | [] => true
    | _ :: _ => false
  | sc, c :: cs, es => match es with
    | [] => false
    | e :: es => notStar e && mtE C sc c e && mtEs C sc cs es
end
/-- what is walked -/
def mtI (C : MC) (sc : Scope) (k : IK) (its : List CE) (t it : Expr) : Bool := match k, it with
  | .seq, it => mtEs C sc its [it]
  | .rng1, .Call (.Name f _) [a] [] _ => decide (f = "range") && glB sc f && mtEs C sc its [a]
  | .rng2, .Call (.Name f _) [a, b] [] _ => decide (f = "range") && glB sc f && mtEs C sc its [a, b]
  | .zip2, .Call (.Name f _) [a, b] [] _ => decide (f = "zip") && glB sc f && isTupE t && mtEs C sc its [a, b]
  | .zip3, .Call (.Name f _) [a, b, c] [] _ => decide (f = "zip") && glB sc f && isTupE t && mtEs C sc its [a, b, c]
  | .enum, .Call (.Name f _) [a] [] _ => decide (f = "enumerate") && glB sc f && isTupE t && mtEs C sc its [a]
  | _, _ => false
/-! ### a context that fits -/
def GOk (X : Cx) (g : GI) : Prop := ∃ v u, X.mg g.name = some u ∧ RelV v u ∧ ∀ M H, AbsM (wd X) M H → Rep (wd X) M H g.d v
def bltNames : List Str := ["len", "abs", "max", "min", "sum", "all", "any", "repr", "divmod", "tuple", "list", "int", "str", "bool", "range", "zip", "enumerate", "isinstance", "dict", "sorted", "set", "reversed"]
structure Cok (mc : MC) (C : Ctx) (sc : Scope) (X : Cx) : Prop where
  hN : X.N = mc.N
  nd : X.N.Nodup
  calm : X.calm = true
  gd : X.A.guards = some []
  un : X.A.units + 80 < cLine
  sk : SysB X.base
  rel : ∀ x k, sc.names.lookup x = some k → (k ≠ .free → X.env.scope.names.lookup x = some k) ∧ (k = .free → X.env.scope.names.lookup x = some .cell ∨ X.env.scope.names.lookup x = some .free)
  fnl : ∀ x, sc.names.lookup x = some .cell → X.fn x = true
  blt : ∀ x ∈ bltNames, X.mg x = none
  fns : C.fs.map FI.name = mc.fns
  gns : C.gs.map GI.name = mc.gns
  ats : C.as = mc.ats
  mts : C.ms.map (fun m => (m.cls, m.name)) = mc.mts
  fok : ∀ fi ∈ C.fs, FOk X fi
  gok : ∀ g ∈ C.gs, GOk X g
  aok : ∀ a ∈ C.as, AOk X a
  mok : ∀ m ∈ C.ms, MOk X m
section
variable {mc : MC} {C : Ctx} {sc : Scope} {X : Cx} {x : Str}
theorem Cok.vis (c : Cok mc C sc X) (h : visB sc x = true) : Vis X.env.scope x := by
  unfold visB at h
  split at h
  · rename_i e; exact .inl ((c.rel x _ e).1 (by decide))
  · rename_i e; exact .inr (.inl ((c.rel x _ e).1 (by decide)))
  · rename_i e
    rcases (c.rel x _ e).2 rfl with z | z
    · exact .inr (.inl z)
    · exact .inr (.inr z)
  · cases h
theorem Cok.loc (c : Cok mc C sc X) (h : locB sc x = true) : Loc X.env.scope x ∧ (X.fn x = true ∨ X.env.scope.names.lookup x = some .local) := by
  unfold locB at h
  split at h
  · rename_i e; exact ⟨.inl ((c.rel x _ e).1 (by decide)), .inr ((c.rel x _ e).1 (by decide))⟩
  · rename_i e; exact ⟨.inr ((c.rel x _ e).1 (by decide)), .inl (c.fnl x e)⟩
  · cases h
theorem Cok.plain (c : Cok mc C sc X) (h : plainB sc x = true) : X.env.scope.names.lookup x = some .local := by
  unfold plainB at h
  split at h
  · rename_i e; exact (c.rel x _ e).1 (by decide)
  · cases h
theorem Cok.gl (c : Cok mc C sc X) (h : glB sc x = true) : Gl X x := by
  unfold glB at h
  split at h
  · rename_i e; exact (c.rel x _ e).1 (by decide)
  · cases h
theorem okName_spec (h : okName x = true) : (x == ("__debug__" : Str)) = false ∧ (x == ("__classdict__" : Str)) = false ∧ x ≠ "__name__" := by
  unfold okName at h
  simp only [Bool.and_eq_true, Bool.not_eq_true'] at h
  exact ⟨h.1.1, h.1.2, fun e => by rw [e] at h; simp at h⟩
theorem rel_relabel {env : Env} : ∀ {names : List (Str × NameKind)} {x : Str} {k : NameKind}, names.lookup x = some k →
    ((k ≠ .free → (names.map fun (n, k) => if (k == NameKind.free && env.scope.kind == .function && env.kindOf n == some .cell) then (n, NameKind.cell) else (n, k)).lookup x = some k) ∧
     (k = .free → (names.map fun (n, k) => if (k == NameKind.free && env.scope.kind == .function && env.kindOf n == some .cell) then (n, NameKind.cell) else (n, k)).lookup x = some .cell ∨
        (names.map fun (n, k) => if (k == NameKind.free && env.scope.kind == .function && env.kindOf n == some .cell) then (n, NameKind.cell) else (n, k)).lookup x = some .free))
  | [], x, k, h => by cases h
  | (n, k0) :: r, x, k, h => by
    rw [List.map_cons]
    rw [List.lookup_cons] at h
    cases hx : x == n with
    | true =>
      rw [hx] at h
      have h' : k0 = k := Option.some.inj h
      subst h'
      cases hc : (k0 == NameKind.free && env.scope.kind == .function && env.kindOf n == some .cell) with
      | true =>
        have hf : k0 = .free := by
          simp only [Bool.and_eq_true, beq_iff_eq] at hc
          exact hc.1.1
        subst hf
        refine ⟨fun z => absurd rfl z, fun _ => .inl ?_⟩
        simp only [hc, if_true, List.lookup_cons, hx]
      | false =>
        refine ⟨fun _ => ?_, fun z => .inr ?_⟩
        · simp only [hc, Bool.false_eq_true, if_false, List.lookup_cons, hx]
        · subst z
          simp only [hc, Bool.false_eq_true, if_false, List.lookup_cons, hx]
    | false =>
      rw [hx] at h
      have ih := rel_relabel (env := env) (names := r) h
      have hd : ∀ (c : Bool), ((if c = true then (n, NameKind.cell) else (n, k0)) :: (r.map fun (n, k) => if (k == NameKind.free && env.scope.kind == .function && env.kindOf n == some .cell) then (n, NameKind.cell) else (n, k))).lookup x =
          (r.map fun (n, k) => if (k == NameKind.free && env.scope.kind == .function && env.kindOf n == some .cell) then (n, NameKind.cell) else (n, k)).lookup x := by
        intro c
        cases c
        · simp only [Bool.false_eq_true, if_false, List.lookup_cons, hx]
        · simp only [if_true, List.lookup_cons, hx]
      refine ⟨fun z => ?_, fun z => ?_⟩
      · exact (hd _).trans (ih.1 z)
      · rcases ih.2 z with q | q
        · exact .inl ((hd _).trans q)
        · exact .inr ((hd _).trans q)
theorem Cok.blk (c : Cok mc C sc X) (s : Shared) (H : Hp) (scope : Scope) (Ca : Addr) (cl : List (Str × Addr)) (fp : List Addr) : Cok mc C scope (X.blk s H scope (compEnvC scope cl Ca X.env) fp) where
  hN := c.hN
  nd := c.nd
  calm := c.calm
  gd := c.gd
  un := c.un
  sk := c.sk
  rel := fun x k h => rel_relabel h
  fnl := fun x h => by show (scope.names.lookup x == some NameKind.cell) = true; rw [h]; rfl
  blt := c.blt
  fns := c.fns
  gns := c.gns
  ats := c.ats
  mts := c.mts
  fok := c.fok
  gok := c.gok
  aok := c.aok
  mok := c.mok
theorem blkOk_rel (c : Cok mc C sc X) {scope : Scope} {own : List (Str × Nat)} (h : blkC mc.N sc scope own = true) : BlkOk X.N X.env.scope scope own := by
  have b := blkOk_by h
  rw [c.hN]
  refine ⟨b.kind, b.uniq, b.ix, fun y hy e => ?_, b.own⟩
  rcases b.free y hy e with z | z
  · exact .inl ((c.rel _ _ z).1 (by decide))
  · exact (c.rel _ _ z).2 rfl
end
end Ow

namespace Ow
open PySem PySem.Spec PyProof.Rows L2
theorem blt_boot (b : Blt) : bootBuiltins b.name = some b.val := by cases b <;> decide +kernel
theorem blt_kind (b : Blt) : (∃ n, b.val = .builtin n) ∨ ∃ n, b.val = .type n := by
  cases b <;> first | exact .inl ⟨_, rfl⟩ | exact .inr ⟨_, rfl⟩
theorem blt_mem (b : Blt) : b.name ∈ bltNames := by cases b <;> decide +kernel
theorem blt_nm (b : Blt) : b.name ≠ "__name__" ∧ (b.name == ("__debug__" : Str)) = false := by cases b <;> decide +kernel
theorem nomark_of {op : CmpOp} {e : Expr} (h : notSet e = true) : behindInMarks op e = false := by cases e <;> first | rfl | cases h
/-- a comparison answers with a truth value -/
theorem cmpD_bl (op : CmpOp) : ∀ d1 d2 M Q, cmpD op d1 d2 M Q → cmpD op d1 d2 M fun d M' => (∃ k, d = .bl k) ∧ Q d M' := by
  intro d1 d2 M Q z
  have ord : ∀ p, ordD p d1 d2 M Q → ordD p d1 d2 M fun d M' => (∃ k, d = .bl k) ∧ Q d M' := by
    intro p z
    unfold ordD at z ⊢
    split at z
    · exact ⟨⟨_, rfl⟩, z⟩
    · exact z.elim
  have eq : ∀ n, eqD n d1 d2 M Q → eqD n d1 d2 M fun d M' => (∃ k, d = .bl k) ∧ Q d M' := by
    intro n z
    unfold eqD at z ⊢
    split at z
    · exact ⟨⟨_, rfl⟩, z⟩
    · exact ⟨⟨_, rfl⟩, z⟩
    · exact ⟨⟨_, rfl⟩, z⟩
    · split at z
      · exact ⟨⟨_, rfl⟩, z⟩
      · exact z.elim
    · exact ⟨z.1, z.2.1, ⟨_, rfl⟩, z.2.2⟩
  have iss : ∀ n, isD n d1 d2 M Q → isD n d1 d2 M fun d M' => (∃ k, d = .bl k) ∧ Q d M' := by
    intro n z
    unfold isD at z ⊢
    split at z
    · exact ⟨⟨_, rfl⟩, z⟩
    · exact ⟨⟨_, rfl⟩, z⟩
    · exact z.elim
  have inn : ∀ n, inD n d1 d2 M Q → inD n d1 d2 M fun d M' => (∃ k, d = .bl k) ∧ Q d M' := by
    intro n z
    have gen : ∀ y : D, (match getDic M y d1 with
        | some o => Q (.bl (n ^^ o.isSome)) M
        | none => (match seqIn M y with
          | some l => scalar d1 = true ∧ l.all scalar = true ∧ Q (.bl (n ^^ l.any fun z => eqS z d1)) M
          | none => False)) → (match getDic M y d1 with
        | some o => (∃ k, D.bl (n ^^ o.isSome) = .bl k) ∧ Q (.bl (n ^^ o.isSome)) M
        | none => (match seqIn M y with
          | some l => scalar d1 = true ∧ l.all scalar = true ∧ (∃ k, D.bl (n ^^ l.any fun z => eqS z d1) = .bl k) ∧ Q (.bl (n ^^ l.any fun z => eqS z d1)) M
          | none => False)) := by
      intro y z
      split at z
      · exact ⟨⟨_, rfl⟩, z⟩
      · split at z
        · exact ⟨z.1, z.2.1, ⟨_, rfl⟩, z.2.2⟩
        · exact z.elim
    cases d2 with
    | str j =>
      cases d1 with
      | str i => exact ⟨⟨_, rfl⟩, z⟩
      | _ => exact z.elim
    | non => exact gen .non z
    | bl b => exact gen (.bl b) z
    | int b => exact gen (.int b) z
    | tup b => exact gen (.tup b) z
    | lst b => exact gen (.lst b) z
    | ref b => exact gen (.ref b) z
    | scr b => exact gen (.scr b) z
    | dct b c => exact gen (.dct b c) z
  cases op with
  | Lt => exact ord _ z
  | LtE => exact ord _ z
  | Gt => exact ord _ z
  | GtE => exact ord _ z
  | Eq => exact eq _ z
  | NotEq => exact eq _ z
  | Is => exact iss _ z
  | IsNot => exact iss _ z
  | In => exact inn _ z
  | NotIn => exact inn _ z
section
variable {X : Cx} {o e : Expr} {to te : DTE} {apos pos : Pos}
theorem few_one {e : Expr} {env : Env} {cpos : Pos} (h : notStar e = true) : ((backTo cpos (starEach [e] env)).all (fun x => !x.1) && (backToKw cpos (keywordEach [] env)).all (fun x => x.1.isSome)
      && decide ([e].length + ([] : List Keyword).length + (if ([] : List Keyword).isEmpty then 0 else 1) < 30)) = true := by
  rw [star_cons h]; rfl
def listD (M : Mp) (d : D) : Prop := (listIn M d).isSome = true
theorem DE.mth (m : Mth) (ho : DE X o to) (he : DE X e te) (hb : plainBase o = true) (hl : (apos.endLine == pos.line) = true) (hs : notStar e = true) :
    DE X (.Call (.Attribute o m.name apos) [e] [] pos) (fun ρ M Q => to ρ M fun d M1 => (listIn M1 d).isSome = true ∧ te ρ M1 fun d2 M2 => mthD m d d2 M2 Q) := by
  cases m with
  | append =>
    refine DE.of (pe_bm PySem.F.plainAttrs_list PySem.F.slot_list_append PySem.F.type_list_append mt_append pe_cT (pa_cons pe_cT pa_nil (star_cons hs)) (base_of hb) (few_one hs) hl (star_cons hs) rfl) fun σ H ρ M Q S A z => ?_
    refine ho.bind S A z fun v d M1 H1 x r A1 S1 q => ⟨tyV_list A1 r q.1, he.bind S1 A1 q.2 fun u d2 M2 H2 x2 r2 A2 S2 q2 => ?_⟩
    unfold mthD at q2
    split at q2
    · rename_i a _
      split at q2
      · rename_i l hl'
        obtain ⟨xs, h1, h2⟩ := A2 _ _ hl'
        have xw : Ext (wd X) M2 H2 (M2.upd a (.lst (l ++ [d2]))) (upd H2 a (.lst (xs ++ [u]))) := Ext.write A2 hl'
        refine ⟨a, xs, u, r, rfl, h1, by rw [← h2.length]; exact q2.1, .non, _, ((x.trans x2).trans xw), rfl, AbsM.write A2 hl' ⟨_, upd_same, (h2.ext xw).append ⟨u, [], rfl, r2.ext xw, rfl⟩⟩, q2.2⟩
      · exact q2.elim
    · rename_i e1; cases e1
    · exact q2.elim
  | extend =>
    refine DE.of (pe_bm PySem.F.plainAttrs_list PySem.F.slot_list_extend PySem.F.type_list_extend mt_extend pe_cT (pa_cons pe_cT pa_nil (star_cons hs)) (base_of hb) (few_one hs) hl (star_cons hs) rfl) fun σ H ρ M Q S A z => ?_
    refine ho.bind S A z fun v d M1 H1 x r A1 S1 q => ⟨tyV_list A1 r q.1, he.bind S1 A1 q.2 fun u d2 M2 H2 x2 r2 A2 S2 q2 => ?_⟩
    unfold mthD at q2
    split at q2
    · rename_i e1; cases e1
    · rename_i a _
      split at q2
      · rename_i l l2 hl' hl2
        obtain ⟨xs, h1, h2⟩ := A2 _ _ hl'
        obtain ⟨b, ys, rfl, h3, h4⟩ := listIn_rep A2 r2 hl2
        have xw : Ext (wd X) M2 H2 (M2.upd a (.lst (l ++ l2))) (upd H2 a (.lst (xs ++ ys))) := Ext.write A2 hl'
        refine ⟨a, b, xs, ys, r, rfl, h1, h3, by rw [← h2.length, ← h4.length]; exact q2.1, .non, _, ((x.trans x2).trans xw), rfl, AbsM.write A2 hl' ⟨_, upd_same, (h2.ext xw).append (h4.ext xw)⟩, q2.2⟩
      · exact q2.elim
    · exact q2.elim
theorem DE.bitlen (ho : DE X o to) (hb : plainBase o = true) (hl : (apos.endLine == pos.line) = true) : DE X (.Call (.Attribute o "bit_length" apos) [] [] pos) (fun ρ M Q => to ρ M fun d M1 => match d with
    | .int i => Q (.int (Builtin.Int.intBits i : Nat)) M1
    | _ => False) := by
  refine DE.of (pe_bits pe_cT (base_of hb) hl) fun σ H ρ M Q S A z => ho.bind S A z fun v d M1 H1 x r A1 S1 q => ?_
  split at q
  · exact ⟨_, r, (lft.int A1 q).trans x⟩
  · exact q.elim
theorem notSet_spec {it : Expr} {env : Env} (h : notSet it = true) : ∀ x, foldedSetIterable it env x = pure x := by
  intro x
  cases it <;> first | rfl | cases h
end
/-! ### what matches is what it means -/
section
variable {mc : MC} {C : Ctx}
mutual
theorem sndT {sc : Scope} {X : Cx} (c : Cok mc C sc X) : ∀ (ct : CT) (e : Expr), mtT mc sc ct e = true → PG X e (ct.g X.K)
  | .nm i, e, h => by
    unfold mtT at h
    split at h
    · simp only [Bool.and_eq_true, decide_eq_true_eq] at h
      obtain ⟨l1, l2⟩ := c.loc h.2
      exact pg_name c.nd (by rw [c.hN]; exact h.1) l1 l2
    · cases h
  | .tup ts, e, h => by
    unfold mtT at h
    split at h
    · rename_i es k p
      obtain ⟨g1, g2, g3⟩ := sndTs c ts es h
      exact pg_tup c.calm g1 g2 g3
    · cases h
theorem sndTs {sc : Scope} {X : Cx} (c : Cok mc C sc X) : ∀ (ts : List CT) (es : List Expr), mtTs mc sc ts es = true → PGs X es (CT.gs X.K ts) ∧ (assignEach es X.env).length = ts.length ∧ (assignEach es X.env).findIdx? (·.1) = none
  | [], es, h => by
    unfold mtTs at h
    split at h
    · exact ⟨pgs_nil, rfl, rfl⟩
    · cases h
  | t :: ts, es, h => by
    unfold mtTs at h
    split at h
    · cases h
    · rename_i e es
      simp only [Bool.and_eq_true] at h
      have hd : assignEach (e :: es) X.env = (false, assign e X.env) :: assignEach es X.env := by
        cases e <;> first | rfl | cases h.1.1
      obtain ⟨g1, g2, g3⟩ := sndTs c ts es h.2
      refine ⟨pgs_cons (sndT c t e h.1.2) g1 (by rw [hd]; rfl), by rw [hd, List.length_cons, List.length_cons, g2], ?_⟩
      rw [hd, List.findIdx?_cons, g3]
      rfl
end
/-- a walk, from its arguments -/
theorem sndI {sc : Scope} {X : Cx} {E : EX} (c : Cok mc C sc X) {k : IK} {its : List CE} {t it : Expr} (h : mtI mc sc k its t it = true)
    (args' : ∀ es, mtEs mc sc its es = true → DA X es (wpEs C its E) ∧ ∀ ce e, its = [ce] → es = [e] → DE X e (wpE C ce E)) : DI X t it (fun ρ M Q => wpEs C its E ρ M fun ds M1 => itD k ds M1 Q) := by
  have args := fun es h => (args' es h).1
  have star1 : ∀ {a : Expr}, mtEs mc sc its [a] = true → notStar a = true ∧ ∃ ce, its = [ce] ∧ mtE mc sc ce a = true := by
    intro a ha
    cases its with
    | nil => unfold mtEs at ha; cases ha
    | cons ce cs =>
      unfold mtEs at ha
      simp only [Bool.and_eq_true] at ha
      cases cs with
      | nil => exact ⟨ha.1.1, ce, rfl, ha.1.2⟩
      | cons _ _ => have := ha.2; unfold mtEs at this; cases this
  have star2 : ∀ {a b : Expr}, mtEs mc sc its [a, b] = true → notStar a = true ∧ notStar b = true := by
    intro a b ha
    cases its with
    | nil => unfold mtEs at ha; cases ha
    | cons ce cs =>
      unfold mtEs at ha
      simp only [Bool.and_eq_true] at ha
      cases cs with
      | nil => have := ha.2; unfold mtEs at this; cases this
      | cons c2 cs2 =>
        have := ha.2
        unfold mtEs at this
        simp only [Bool.and_eq_true] at this
        exact ⟨ha.1.1, this.1.1⟩
  have star3 : ∀ {a b d : Expr}, mtEs mc sc its [a, b, d] = true → notStar a = true ∧ notStar b = true ∧ notStar d = true := by
    intro a b d ha
    cases its with
    | nil => unfold mtEs at ha; cases ha
    | cons ce cs =>
      unfold mtEs at ha
      simp only [Bool.and_eq_true] at ha
      cases cs with
      | nil => have := ha.2; unfold mtEs at this; cases this
      | cons c2 cs2 =>
        have h2 := ha.2
        unfold mtEs at h2
        simp only [Bool.and_eq_true] at h2
        cases cs2 with
        | nil => have := h2.2; unfold mtEs at this; cases this
        | cons c3 cs3 =>
          have h3 := h2.2
          unfold mtEs at h3
          simp only [Bool.and_eq_true] at h3
          exact ⟨ha.1.1, h2.1.1, h3.1.1⟩
  unfold mtI at h
  split at h
  · obtain ⟨s1, ce, rfl, m1⟩ := star1 h
    refine DI.seq (args _ h) s1 ⟨_, (args' _ h).2 ce _ rfl rfl, fun ρ M Q z => ?_⟩
    unfold wpEs wpEs at z
    exact z
  · simp only [Bool.and_eq_true, decide_eq_true_eq] at h
    obtain ⟨⟨rfl, h2⟩, h3⟩ := h
    exact DI.rng1 (c.gl h2) (c.blt _ (by decide +kernel)) (args _ h3) (star1 h3).1
  · simp only [Bool.and_eq_true, decide_eq_true_eq] at h
    obtain ⟨⟨rfl, h2⟩, h3⟩ := h
    exact DI.rng2 (c.gl h2) (c.blt _ (by decide +kernel)) (args _ h3) (star2 h3).1 (star2 h3).2
  · simp only [Bool.and_eq_true, decide_eq_true_eq] at h
    obtain ⟨⟨⟨rfl, h2⟩, ht⟩, h3⟩ := h
    cases t <;> first | (exact DI.zip2 (c.gl h2) (c.blt _ (by decide +kernel)) (args _ h3) (star2 h3).1 (star2 h3).2) | (cases ht; done)
  · simp only [Bool.and_eq_true, decide_eq_true_eq] at h
    obtain ⟨⟨⟨rfl, h2⟩, ht⟩, h3⟩ := h
    cases t <;> first | (exact DI.zip3 (c.gl h2) (c.blt _ (by decide +kernel)) (args _ h3) (star3 h3).1 (star3 h3).2.1 (star3 h3).2.2) | (cases ht; done)
  · simp only [Bool.and_eq_true, decide_eq_true_eq] at h
    obtain ⟨⟨⟨rfl, h2⟩, ht⟩, h3⟩ := h
    cases t <;> first | (exact DI.enum (c.gl h2) (c.blt _ (by decide +kernel)) (args _ h3) (star1 h3).1) | (cases ht; done)
  · cases h
end
end Ow

namespace Ow
open PySem PySem.Spec PyProof.Rows L2
section
variable {mc : MC} {C : Ctx}
theorem mtEs_star {sc : Scope} : ∀ {cs : List CE} {es : List Expr}, mtEs mc sc cs es = true → es.all notStar = true
  | [], es, h => by
    unfold mtEs at h
    split at h
    · rfl
    · cases h
  | c :: cs, es, h => by
    unfold mtEs at h
    split at h
    · cases h
    · simp only [Bool.and_eq_true] at h
      rw [List.all_cons, h.1.1, mtEs_star h.2]; rfl
theorem mapget {α β : Type} {l : List α} {f : α → β} {i : Nat} {y : β} {l' : List β} (h : l.map f = l') (e : l'[i]? = some y) : ∃ x, l[i]? = some x ∧ f x = y ∧ x ∈ l := by
  subst h
  rw [List.getElem?_map] at e
  cases q : l[i]? with
  | none => rw [q] at e; cases e
  | some x =>
    rw [q] at e
    exact ⟨x, rfl, Option.some.inj e, List.mem_of_getElem? q⟩
theorem pts_yes {X : Cx} {W : Wd} : PTs X [] (upC W yesD) := ⟨fun pins s σ H R I ⟨ρ, M, Q, S, A, z, k⟩ => pts_nil.run pins s σ H R I (k true M H Ext.refl A z)⟩
theorem own_at {N : List Str} {own : List Nat} {ct : CT} (h : ct.at.all (fun i => own.contains i) = true) : ∀ i ∈ ct.at, i ∈ (own.map fun i => (N.getD i "", i)).map (·.2) := by
  intro i hi
  rw [List.map_map]
  have := List.all_eq_true.mp h i hi
  simp only [List.contains_iff_mem] at this
  exact List.mem_map.mpr ⟨i, this, rfl⟩
theorem own_map {N : List Str} {own : List Nat} : (own.map fun i => (N.getD i "", i)).map (·.2) = own := by
  rw [List.map_map]
  exact List.map_id own
theorem wpEs_eq {E : EX} : ∀ (cs : List CE), wpEs C cs E = seqT (cs.map fun c => wpE C c E)
  | [] => by funext ρ M Q; unfold wpEs; rfl
  | c :: cs => by
    funext ρ M Q
    unfold wpEs
    rw [wpEs_eq cs]; rfl
theorem wpEs_seq {E : EX} {cs : List CE} {ρ : DSt} {M : Mp} {Q : QA} (z : wpEs C cs E ρ M Q) : seqT (cs.map fun c => wpE C c E) ρ M Q := by rw [← wpEs_eq]; exact z
theorem DW.never {X : Cx} {e : Expr} : DW X e (fun _ _ _ => False) := ⟨fun _ _ _ => False, ⟨fun _ _ _ _ _ _ _ h => h.elim⟩, fun _ _ _ _ _ _ _ _ z _ => z⟩
mutual
theorem sndE : ∀ (ce : CE) {sc : Scope} {X : Cx} {E : EX} {e : Expr}, Cok mc C sc X → Takes X (upW (wd X) E) → mtE mc sc ce e = true → DE X e (wpE C ce E)
  | .var i, sc, X, E, e, c, tk, h => by
    unfold mtE at h
    split at h
    · simp only [Bool.and_eq_true, decide_eq_true_eq] at h
      obtain ⟨⟨h1, h2⟩, h3⟩ := h
      obtain ⟨n1, n2, n3⟩ := okName_spec h3
      refine (DE.var (by rw [c.hN]; exact h1) (c.vis h2) n1 n2).imp fun ρ M Q z => ?_
      unfold wpE at z; exact z
    · cases h
  | .int i, sc, X, E, e, c, tk, h => by
    unfold mtE at h
    split at h
    · cases of_decide_eq_true h
      exact DE.int.imp fun ρ M Q z => by unfold wpE at z; exact z
    · cases h
  | .bl i, sc, X, E, e, c, tk, h => by
    unfold mtE at h
    split at h
    · cases of_decide_eq_true h
      exact DE.bl.imp fun ρ M Q z => by unfold wpE at z; exact z
    · cases h
  | .non, sc, X, E, e, c, tk, h => by
    unfold mtE at h
    split at h
    · exact DE.non.imp fun ρ M Q z => by unfold wpE at z; exact z
    · cases h
  | .str i, sc, X, E, e, c, tk, h => by
    unfold mtE at h
    split at h
    · cases of_decide_eq_true h
      exact DE.str.imp fun ρ M Q z => by unfold wpE at z; exact z
    · cases h
  | .glb i, sc, X, E, e, c, tk, h => by
    unfold mtE at h
    split at h
    · simp only [Bool.and_eq_true, decide_eq_true_eq] at h
      obtain ⟨⟨h1, h2⟩, h3⟩ := h
      obtain ⟨n1, n2, n3⟩ := okName_spec h3
      obtain ⟨g, e1, e2, e3⟩ := mapget c.gns h1
      obtain ⟨v, u, m, r, rp⟩ := c.gok g e3
      rw [e2] at m
      refine (DE.glb (c.gl h2) m r rp n1).imp fun ρ M Q z => ?_
      unfold wpE at z
      rw [e1] at z; exact z
    · cases h
  | .bin op fz a b, sc, X, E, e, c, tk, h => by
    unfold mtE at h
    split at h
    · simp only [Bool.and_eq_true, decide_eq_true_eq] at h
      obtain ⟨⟨rfl, h2⟩, h3⟩ := h
      exact (DE.bin (op_binD (fz := fz) op) (sndE a c tk h2) (sndE b c tk h3)).imp fun ρ M Q z => by unfold wpE at z; exact z
    · cases h
  | .neg a, sc, X, E, e, c, tk, h => by
    unfold mtE at h
    split at h
    · exact (DE.neg (sndE a c tk h)).imp fun ρ M Q z => by unfold wpE at z; exact z
    · cases h
  | .not a, sc, X, E, e, c, tk, h => by
    unfold mtE at h
    split at h
    · exact (DE.not (sndE a c tk h)).imp fun ρ M Q z => by unfold wpE at z; exact z
    · cases h
  | .one a, sc, X, E, e, c, tk, h => by
    unfold mtE at h
    split at h
    · exact (DE.one (sndE a c tk h)).imp fun ρ M Q z => by unfold wpE at z; exact z
    · cases h
  | .and a b, sc, X, E, e, c, tk, h => by
    unfold mtE at h
    split at h
    · simp only [Bool.and_eq_true] at h
      exact (DE.and (sndE a c tk h.1) (sndE b c tk h.2)).imp fun ρ M Q z => by unfold wpE at z; exact z
    · cases h
  | .or a b, sc, X, E, e, c, tk, h => by
    unfold mtE at h
    split at h
    · simp only [Bool.and_eq_true] at h
      exact (DE.or (sndE a c tk h.1) (sndE b c tk h.2)).imp fun ρ M Q z => by unfold wpE at z; exact z
    · cases h
  | .cmp op a b, sc, X, E, e, c, tk, h => by
    unfold mtE at h
    split at h
    · simp only [Bool.and_eq_true, decide_eq_true_eq] at h
      obtain ⟨⟨⟨rfl, h1⟩, h2⟩, h3⟩ := h
      exact (DE.cmp (op_cmpD (by have := c.un; omega) op) (sndE a c tk h2) (sndE b c tk h3) (nomark_of h1)).imp fun ρ M Q z => by unfold wpE at z; exact z
    · cases h
  | .chn op op2 a b d, sc, X, E, e, c, tk, h => by
    unfold mtE at h
    split at h
    · simp only [Bool.and_eq_true, decide_eq_true_eq] at h
      obtain ⟨⟨⟨⟨⟨rfl, rfl⟩, h1⟩, h2⟩, h3⟩, h4⟩ := h
      exact (DE.chn (op_cmpD (by have := c.un; omega) op) (op_cmpD (by have := c.un; omega) op2) (sndE a c tk h2) (sndE b c tk h3) (sndE d c tk h4) (nomark_of h1)).imp fun ρ M Q z => by unfold wpE at z; exact z
    · cases h
  | .ife d a b, sc, X, E, e, c, tk, h => by
    unfold mtE at h
    split at h
    · simp only [Bool.and_eq_true] at h
      exact (DE.ife (sndC d c tk h.1.1) (sndE a c tk h.1.2) (sndE b c tk h.2)).imp fun ρ M Q z => by unfold wpE at z; exact z
    · cases h
  | .tup es, sc, X, E, e, c, tk, h => by
    unfold mtE at h
    split at h
    · exact (DE.tup (sndEs es c tk h).1).imp fun ρ M Q z => by unfold wpE at z; exact z
    · cases h
  | .lst true es, sc, X, E, e, c, tk, h => by
    unfold mtE at h
    split at h
    · exact (DE.lst (sndEs es c tk h).1).imp fun ρ M Q z => by unfold wpE at z; simpa only [if_true] using z
    · cases h
  | .lst false es, sc, X, E, e, c, tk, h => by
    unfold mtE at h
    split at h
    · exact (DE.lstM (sndEs es c tk h).1).imp fun ρ M Q z => by unfold wpE at z; simpa only [Bool.false_eq_true, if_false] using z
    · cases h
  | .ix a b, sc, X, E, e, c, tk, h => by
    unfold mtE at h
    split at h
    · simp only [Bool.and_eq_true] at h
      exact (DE.ix (by have := c.un; omega) (sndE a c tk h.1.2) (sndE b c tk h.2) h.1.1).imp fun ρ M Q z => by unfold wpE at z; exact z
    · cases h
  | .sl fz a lo hi, sc, X, E, e, c, tk, h => by
    unfold mtE at h
    split at h
    · simp only [Bool.and_eq_true] at h
      exact (DE.sl (fz := fz) (sndE a c tk h.1.1) (DP.some (sndE lo c tk h.1.2)) (DP.some (sndE hi c tk h.2))).imp fun ρ M Q z => by unfold wpE at z; exact z
    · cases h
  | .slL fz a lo, sc, X, E, e, c, tk, h => by
    unfold mtE at h
    split at h
    · simp only [Bool.and_eq_true] at h
      exact (DE.sl (fz := fz) (sndE a c tk h.1) (DP.some (sndE lo c tk h.2)) DP.none).imp fun ρ M Q z => by unfold wpE at z; exact z
    · cases h
  | .slH fz a hi, sc, X, E, e, c, tk, h => by
    unfold mtE at h
    split at h
    · simp only [Bool.and_eq_true] at h
      exact (DE.sl (fz := fz) (sndE a c tk h.1) DP.none (DP.some (sndE hi c tk h.2))).imp fun ρ M Q z => by unfold wpE at z; exact z
    · cases h
  | .call f es, sc, X, E, e, c, tk, h => by
    unfold mtE at h
    split at h
    · simp only [Bool.and_eq_true, decide_eq_true_eq] at h
      obtain ⟨⟨⟨h1, h2⟩, h3⟩, h4⟩ := h
      obtain ⟨n1, n2, n3⟩ := okName_spec h3
      obtain ⟨fi, e1, e2, e3⟩ := mapget c.fns h1
      have F := c.fok fi e3
      rename_i x p xs pos
      cases xs with
      | nil =>
        have e0 : es = [] := by
          cases es with
          | nil => rfl
          | cons _ _ => unfold mtEs at h4; cases h4
        subst e0
        refine (DE.call0 tk F e2 c.gd (c.gl h2) n1).imp fun ρ M Q z => ?_
        unfold wpE wpEs at z
        rw [e1] at z; exact z
      | cons y ys =>
        refine (DE.call tk F e2 c.gd (c.gl h2) n1 (sndEs es c tk h4).1 (mtEs_star h4)).imp fun ρ M Q z => ?_
        unfold wpE at z
        rw [e1] at z; exact z
    · cases h
  | .blt b fz es, sc, X, E, e, c, tk, h => by
    unfold mtE at h
    split at h
    · simp only [Bool.and_eq_true, decide_eq_true_eq] at h
      obtain ⟨⟨rfl, h2⟩, h3⟩ := h
      exact (DE.blt (bltD_ok (fz := fz) c.calm c.gd c.un c.sk b) (blt_kind b) (c.gl h2) (c.blt _ (blt_mem b)) (blt_boot b) (blt_nm b).1 (blt_nm b).2 (sndEs es c tk h3).1 (mtEs_star h3)).imp fun ρ M Q z => by unfold wpE at z; exact z
    · cases h
  | .mth m o x, sc, X, E, e, c, tk, h => by
    unfold mtE at h
    split at h
    · simp only [Bool.and_eq_true, decide_eq_true_eq] at h
      obtain ⟨⟨⟨⟨⟨rfl, h1⟩, h2⟩, h3⟩, h4⟩, h5⟩ := h
      exact (DE.mth m (sndE o c tk h4) (sndE x c tk h5) h1 h2 h3).imp fun ρ M Q z => by unfold wpE at z; exact z
    · cases h
  | .isi t o, sc, X, E, e, c, tk, h => by
    unfold mtE at h
    split at h
    · simp only [Bool.and_eq_true, decide_eq_true_eq] at h
      obtain ⟨⟨⟨⟨⟨h1, h2⟩, h3⟩, h4⟩, h5⟩, h6⟩ := h
      have b1 : ("isinstance" : Str) ∈ bltNames := by decide +kernel
      have b2 : t.nm ∈ bltNames := by cases t <;> decide +kernel
      exact (DE.isi t (sndE o c tk h6) h1 h3 (c.gl h2) (h1 ▸ c.blt _ b1) (c.gl h4) (h3 ▸ c.blt _ b2) h5).imp fun ρ M Q z => by unfold wpE at z; exact z
    · cases h
  | .rev fz a, sc, X, E, e, c, tk, h => by
    unfold mtE at h
    split at h
    · exact (DE.rev (fz := fz) (sndE a c tk h)).imp fun ρ M Q z => by unfold wpE at z; exact z
    · cases h
  | .op k es, sc, X, E, e, c, tk, h => by
    unfold mtE at h
    split at h
    · rename_i xs hx
      refine (op_ok (fun h => c.gl h) (fun h => c.blt _ (by rcases h with rfl | rfl | rfl <;> decide +kernel)) c.calm k hx (sndEs es c tk h).2.2 (mtEs_star h)).imp fun ρ M Q z => ?_
      unfold wpE at z
      exact wpEs_seq z
    · cases h
  | .meth m o es, sc, X, E, e, c, tk, h => by
    unfold mtE at h
    split at h
    · simp only [Bool.and_eq_true, decide_eq_true_eq] at h
      obtain ⟨⟨⟨⟨⟨rfl, h1⟩, h2⟩, h3⟩, h4⟩, h5⟩ := h
      refine (DE.meth (by have := c.un; omega) m (sndE o c tk h4) (sndEs es c tk h5).1 h1 h2 (mtEs_star h5) h3 ?_).imp fun ρ M Q z => by unfold wpE at z; exact z
      intro he ρ M Q z
      subst he
      cases es with
      | nil => unfold wpEs at z; exact z
      | cons _ _ => unfold mtEs at h5; cases h5
    · cases h
  | .att k o, sc, X, E, e, c, tk, h => by
    unfold mtE at h
    split at h
    · simp only [Bool.and_eq_true, decide_eq_true_eq] at h
      obtain ⟨⟨h1, h2⟩, h3⟩ := h
      rw [← c.ats] at h1
      cases ha : C.as[k]? with
      | none => rw [ha] at h1; cases h1
      | some a =>
        rw [ha] at h1
        have e1 := Option.some.inj h1
        subst e1
        refine (DE.att (c.aok a (List.mem_of_getElem? ha)) (sndE o c tk h3) h2).imp fun ρ M Q z => ?_
        unfold wpE at z
        rw [ha] at z
        exact z
    · cases h
  | .mcl k o es, sc, X, E, e, c, tk, h => by
    unfold mtE at h
    split at h
    · simp only [Bool.and_eq_true, decide_eq_true_eq] at h
      obtain ⟨⟨⟨⟨⟨h1, h2⟩, h3⟩, h4⟩, h5⟩, h6⟩ := h
      rw [← c.mts, List.getElem?_map] at h1
      cases hm : C.ms[k]? with
      | none => rw [hm] at h1; cases h1
      | some mi =>
        rw [hm] at h1
        have e1 := Option.some.inj h1
        have e2 : mi.name = _ := e1
        subst e2
        refine (DE.mcl tk (c.mok mi (List.mem_of_getElem? hm)) c.gd (sndE o c tk h5) (sndEs es c tk h6).1 h2 h3 (mtEs_star h6) h4 ?_).imp fun ρ M Q z => ?_
        · intro he ρ M Q z
          subst he
          cases es with
          | nil => unfold wpEs at z; exact z
          | cons _ _ => unfold mtEs at h6; cases h6
        · unfold wpE at z
          rw [hm] at z
          exact z
    · cases h
  | .disp fz ks es, sc, X, E, e, c, tk, h => by
    unfold mtE at h
    split at h
    · simp only [Bool.and_eq_true, decide_eq_true_eq, Bool.not_eq_true'] at h
      obtain ⟨⟨⟨⟨⟨⟨⟨⟨h1, h2⟩, h3⟩, h4⟩, h5⟩, h6⟩, h7⟩, h8⟩, h9⟩ := h
      refine (DE.disp (fz := fz) h1 (sndEs es c tk h9).2.2 (by rw [List.length_map]; exact h7) h2 h3 (fun e => by rw [e] at h4; cases h4) h5 h8 h6).imp fun ρ M Q z p hp => ?_
      unfold wpE at z
      exact wpEs_seq (z p hp)
    · cases h
  | .bad, _, _, _, _, _, _, _ => ⟨fun _ _ _ _ _ _ _ z => by unfold wpE at z; exact z.elim⟩
  | .bitlen o, sc, X, E, e, c, tk, h => by
    unfold mtE at h
    split at h
    · simp only [Bool.and_eq_true, decide_eq_true_eq] at h
      obtain ⟨⟨⟨rfl, h1⟩, h2⟩, h3⟩ := h
      exact (DE.bitlen (sndE o c tk h3) h1 h2).imp fun ρ M Q z => by unfold wpE at z; exact z
    · cases h
  | .comp fz elt tg k its own, sc, X, E, e, c, tk, h => by
    unfold mtE at h
    split at h
    · rename_i x t it scope pos
      have h' : (mtT mc scope tg t && mtE mc scope elt x && blkC mc.N sc scope (own.map fun i => (mc.N.getD i "", i)) && tg.at.all (fun i => own.contains i) && notSet it && mtI mc sc k its t it) = true := h
      simp only [Bool.and_eq_true] at h'
      obtain ⟨⟨⟨⟨⟨h1, h2⟩, h3⟩, h4⟩, h5⟩, h6⟩ := h'
      refine (DE.comp (fz := fz) c.calm c.nd (sndI c h6 (fun es hes => ⟨(sndEs its c tk hes).1, (sndEs its c tk hes).2.1⟩)) (blkOk_rel c h3)
        (fun s H Ca cl fp => sndT (c.blk s H scope Ca cl fp) tg t h1) (fun s H Ca cl fp => pts_yes) (fun s H Ca cl fp => sndE elt (c.blk s H scope Ca cl fp) takes_no h2) (notSet_spec h5) (own_at h4)).imp fun ρ M Q z => ?_
      unfold wpE at z
      rw [own_map]
      exact z
    · cases h
  | .compIf fz elt cond tg k its own, sc, X, E, e, c, tk, h => by
    unfold mtE at h
    split at h
    · rename_i x t it cn scope pos
      have h' : (mtT mc scope tg t && mtE mc scope elt x && mtE mc scope cond cn && blkC mc.N sc scope (own.map fun i => (mc.N.getD i "", i)) && tg.at.all (fun i => own.contains i) && notSet it && mtI mc sc k its t it) = true := h
      simp only [Bool.and_eq_true] at h'
      obtain ⟨⟨⟨⟨⟨⟨h1, h2⟩, h2c⟩, h3⟩, h4⟩, h5⟩, h6⟩ := h'
      refine (DE.comp (fz := fz) c.calm c.nd (sndI c h6 (fun es hes => ⟨(sndEs its c tk hes).1, (sndEs its c tk hes).2.1⟩)) (blkOk_rel c h3)
        (fun s H Ca cl fp => sndT (c.blk s H scope Ca cl fp) tg t h1) (fun s H Ca cl fp => pts_one (pt_upC (sndC cond (c.blk s H scope Ca cl fp) takes_no h2c))) (fun s H Ca cl fp => sndE elt (c.blk s H scope Ca cl fp) takes_no h2) (notSet_spec h5) (own_at h4)).imp fun ρ M Q z => ?_
      unfold wpE at z
      rw [own_map]
      exact z
    · cases h
theorem sndC : ∀ (ce : CE) {sc : Scope} {X : Cx} {E : EX} {e : Expr}, Cok mc C sc X → Takes X (upW (wd X) E) → mtE mc sc ce e = true → DC X e (wpC C ce E)
  | .not a, sc, X, E, e, c, tk, h => by
    unfold mtE at h
    split at h
    · exact (DC.not (sndC a c tk h)).imp fun ρ M Q z => by unfold wpC at z; exact z
    · cases h
  | .one a, sc, X, E, e, c, tk, h => by
    unfold mtE at h
    split at h
    · exact (DW.one (sndC a c tk h)).dc.imp fun ρ M Q z => by unfold wpC at z; exact z
    · cases h
  | .and a b, sc, X, E, e, c, tk, h => by
    unfold mtE at h
    split at h
    · simp only [Bool.and_eq_true] at h
      exact (DW.and (sndC a c tk h.1) (sndW b c tk ⟨_, _, _, rfl⟩ h.2)).dc.imp fun ρ M Q z => by unfold wpC at z; exact z
    · cases h
  | .or a b, sc, X, E, e, c, tk, h => by
    unfold mtE at h
    split at h
    · simp only [Bool.and_eq_true] at h
      exact (DW.or (sndC a c tk h.1) (sndW b c tk ⟨_, _, _, rfl⟩ h.2)).dc.imp fun ρ M Q z => by unfold wpC at z; exact z
    · cases h
  | .cmp op a b, sc, X, E, e, c, tk, h => by
    unfold mtE at h
    split at h
    · simp only [Bool.and_eq_true, decide_eq_true_eq] at h
      obtain ⟨⟨⟨rfl, h1⟩, h2⟩, h3⟩ := h
      exact (DC.cmp (op_cmpD (by have := c.un; omega) op) (sndE a c tk h2) (sndE b c tk h3) (nomark_of h1) (cmpD_bl op)).imp fun ρ M Q z => by unfold wpC at z; exact z
    · cases h
  | .chn op op2 a b d, sc, X, E, e, c, tk, h => by
    unfold mtE at h
    split at h
    · simp only [Bool.and_eq_true, decide_eq_true_eq] at h
      obtain ⟨⟨⟨⟨⟨rfl, rfl⟩, h1⟩, h2⟩, h3⟩, h4⟩ := h
      exact (DC.chn (op_cmpD (by have := c.un; omega) op) (op_cmpD (by have := c.un; omega) op2) (sndE a c tk h2) (sndE b c tk h3) (sndE d c tk h4) (nomark_of h1) (cmpD_bl op2)).imp fun ρ M Q z => by unfold wpC at z; exact z
    · cases h
  | .var i, sc, X, E, e, c, tk, h => by
    have hs : simpleTest e = true := by
      unfold mtE at h
      split at h
      · rfl
      · cases h
    exact (DC.truth (sndE (.var i) c tk h) hs).imp fun ρ M Q z => by
      unfold testD wpE
      unfold wpC at z
      exact z
  | .call f es, sc, X, E, e, c, tk, h => by
    have hs : simpleTest e = true := by
      unfold mtE at h
      split at h
      · rfl
      · cases h
    exact (DC.truth (sndE (.call f es) c tk h) hs).imp fun ρ M Q z => by unfold testD wpE; unfold wpC at z; exact z
  | .blt b fz es, sc, X, E, e, c, tk, h => by
    have hs : simpleTest e = true := by
      unfold mtE at h
      split at h
      · rfl
      · cases h
    exact (DC.truth (sndE (.blt b fz es) c tk h) hs).imp fun ρ M Q z => by unfold testD wpE; unfold wpC at z; exact z
  | .bl b, sc, X, E, e, c, tk, h => by
    have hs : simpleTest e = true := by
      unfold mtE at h
      split at h
      · rfl
      · cases h
    exact (DC.truth (sndE (.bl b) c tk h) hs).imp fun ρ M Q z => by unfold testD wpE truD; unfold wpC at z; exact z
  | .int _, _, _, _, _, _, _, _ => DC.never.imp fun ρ M Q z => by unfold wpC at z; exact z
  | .non, _, _, _, _, _, _, _ => DC.never.imp fun ρ M Q z => by unfold wpC at z; exact z
  | .str _, _, _, _, _, _, _, _ => DC.never.imp fun ρ M Q z => by unfold wpC at z; exact z
  | .glb _, _, _, _, _, _, _, _ => DC.never.imp fun ρ M Q z => by unfold wpC at z; exact z
  | .bin _ _ _ _, _, _, _, _, _, _, _ => DC.never.imp fun ρ M Q z => by unfold wpC at z; exact z
  | .neg _, _, _, _, _, _, _, _ => DC.never.imp fun ρ M Q z => by unfold wpC at z; exact z
  | .ife _ _ _, _, _, _, _, _, _, _ => DC.never.imp fun ρ M Q z => by unfold wpC at z; exact z
  | .tup _, _, _, _, _, _, _, _ => DC.never.imp fun ρ M Q z => by unfold wpC at z; exact z
  | .lst _ _, _, _, _, _, _, _, _ => DC.never.imp fun ρ M Q z => by unfold wpC at z; exact z
  | .ix a b, sc, X, E, e, c, tk, h => by
    have hs : simpleTest e = true := by
      unfold mtE at h
      split at h
      · rfl
      · cases h
    exact (DC.truth (sndE (.ix a b) c tk h) hs).imp fun ρ M Q z => by unfold testD wpE; unfold wpC at z; exact z
  | .op k es, sc, X, E, e, c, tk, h => by
    have hs : simpleTest e = true := by
      unfold mtE at h
      split at h
      · rename_i hx; exact opArgs_simple hx
      · cases h
    exact (DC.truth (sndE (.op k es) c tk h) hs).imp fun ρ M Q z => by unfold testD wpE; unfold wpC at z; exact z
  | .meth m o es, sc, X, E, e, c, tk, h => by
    have hs : simpleTest e = true := by
      unfold mtE at h
      split at h
      · rfl
      · cases h
    exact (DC.truth (sndE (.meth m o es) c tk h) hs).imp fun ρ M Q z => by unfold testD wpE; unfold wpC at z; exact z
  | .att k o, sc, X, E, e, c, tk, h => by
    have hs : simpleTest e = true := by
      unfold mtE at h
      split at h
      · rfl
      · cases h
    refine (DC.truth (sndE (.att k o) c tk h) hs).imp fun ρ M Q z => ?_
    unfold testD wpE
    unfold wpC at z
    cases ha : C.as[k]? with
    | none => rw [ha] at z; exact z
    | some a => rw [ha] at z; exact z
  | .mcl k o es, sc, X, E, e, c, tk, h => by
    have hs : simpleTest e = true := by
      unfold mtE at h
      split at h
      · rfl
      · cases h
    refine (DC.truth (sndE (.mcl k o es) c tk h) hs).imp fun ρ M Q z => ?_
    unfold testD wpE
    unfold wpC at z
    cases ha : C.ms[k]? with
    | none => rw [ha] at z; exact z.elim
    | some mi => rw [ha] at z; exact z
  | .disp _ _ _, _, _, _, _, _, _, _ => DC.never.imp fun ρ M Q z => by unfold wpC at z; exact z
  | .sl _ _ _ _, _, _, _, _, _, _, _ => DC.never.imp fun ρ M Q z => by unfold wpC at z; exact z
  | .slL _ _ _, _, _, _, _, _, _, _ => DC.never.imp fun ρ M Q z => by unfold wpC at z; exact z
  | .slH _ _ _, _, _, _, _, _, _, _ => DC.never.imp fun ρ M Q z => by unfold wpC at z; exact z
  | .mth _ _ _, _, _, _, _, _, _, _ => DC.never.imp fun ρ M Q z => by unfold wpC at z; exact z
  | .isi t o, sc, X, E, e, c, tk, h => by
    have hs : simpleTest e = true := by
      unfold mtE at h
      split at h
      · rfl
      · cases h
    exact (DC.truth (sndE (.isi t o) c tk h) hs).imp fun ρ M Q z => by unfold testD wpE; unfold wpC at z; exact z
  | .rev _ _, _, _, _, _, _, _, _ => DC.never.imp fun ρ M Q z => by unfold wpC at z; exact z
  | .bad, _, _, _, _, _, _, _ => DC.never.imp fun ρ M Q z => by unfold wpC at z; exact z
  | .bitlen _, _, _, _, _, _, _, _ => DC.never.imp fun ρ M Q z => by unfold wpC at z; exact z
  | .comp _ _ _ _ _ _, _, _, _, _, _, _, _ => DC.never.imp fun ρ M Q z => by unfold wpC at z; exact z
  | .compIf _ _ _ _ _ _ _, _, _, _, _, _, _, _ => DC.never.imp fun ρ M Q z => by unfold wpC at z; exact z
theorem sndW : ∀ (ce : CE) {sc : Scope} {X : Cx} {E : EX} {e : Expr}, Cok mc C sc X → Takes X (upW (wd X) E) → (∃ op xs p, e = .BoolOp op xs p) → mtE mc sc ce e = true → DW X e (wpC C ce E)
  | .one a, sc, X, E, e, c, tk, _, h => by
    unfold mtE at h
    split at h
    · exact (DW.one (sndC a c tk h)).imp fun ρ M Q z => by unfold wpC at z; exact z
    · cases h
  | .and a b, sc, X, E, e, c, tk, _, h => by
    unfold mtE at h
    split at h
    · simp only [Bool.and_eq_true] at h
      exact (DW.and (sndC a c tk h.1) (sndW b c tk ⟨_, _, _, rfl⟩ h.2)).imp fun ρ M Q z => by unfold wpC at z; exact z
    · cases h
  | .or a b, sc, X, E, e, c, tk, _, h => by
    unfold mtE at h
    split at h
    · simp only [Bool.and_eq_true] at h
      exact (DW.or (sndC a c tk h.1) (sndW b c tk ⟨_, _, _, rfl⟩ h.2)).imp fun ρ M Q z => by unfold wpC at z; exact z
    · cases h
  | .isi _ _, _, _, _, _, _, _, ⟨_, _, _, e⟩, h => by subst e; unfold mtE at h; cases h
  | .rev _ _, _, _, _, _, _, _, ⟨_, _, _, e⟩, h => by subst e; unfold mtE at h; cases h
  | .bad, _, _, _, _, _, _, _, _ => DW.never.imp fun ρ M Q z => by unfold wpC at z; exact z
  | .int _, _, _, _, _, _, _, ⟨_, _, _, e⟩, h => by subst e; unfold mtE at h; cases h
  | .non, _, _, _, _, _, _, ⟨_, _, _, e⟩, h => by subst e; unfold mtE at h; cases h
  | .str _, _, _, _, _, _, _, ⟨_, _, _, e⟩, h => by subst e; unfold mtE at h; cases h
  | .glb _, _, _, _, _, _, _, ⟨_, _, _, e⟩, h => by subst e; unfold mtE at h; cases h
  | .bin _ _ _ _, _, _, _, _, _, _, ⟨_, _, _, e⟩, h => by subst e; unfold mtE at h; cases h
  | .neg _, _, _, _, _, _, _, ⟨_, _, _, e⟩, h => by subst e; unfold mtE at h; cases h
  | .ife _ _ _, _, _, _, _, _, _, ⟨_, _, _, e⟩, h => by subst e; unfold mtE at h; cases h
  | .tup _, _, _, _, _, _, _, ⟨_, _, _, e⟩, h => by subst e; unfold mtE at h; cases h
  | .lst _ _, _, _, _, _, _, _, ⟨_, _, _, e⟩, h => by subst e; unfold mtE at h; cases h
  | .ix _ _, _, _, _, _, _, _, ⟨_, _, _, e⟩, h => by subst e; unfold mtE at h; cases h
  | .op k _, sc, _, _, _, _, _, ⟨_, _, _, e⟩, h => by
    subst e; unfold mtE at h
    have : ∀ a b c, opArgs sc k (.BoolOp a b c) = none := fun a b c => by unfold opArgs; cases k <;> rfl
    rw [this] at h; cases h
  | .meth _ _ _, _, _, _, _, _, _, ⟨_, _, _, e⟩, h => by subst e; unfold mtE at h; cases h
  | .att _ _, _, _, _, _, _, _, ⟨_, _, _, e⟩, h => by subst e; unfold mtE at h; cases h
  | .mcl _ _ _, _, _, _, _, _, _, ⟨_, _, _, e⟩, h => by subst e; unfold mtE at h; cases h
  | .disp _ _ _, _, _, _, _, _, _, ⟨_, _, _, e⟩, h => by subst e; unfold mtE at h; cases h
  | .sl _ _ _ _, _, _, _, _, _, _, ⟨_, _, _, e⟩, h => by subst e; unfold mtE at h; cases h
  | .slL _ _ _, _, _, _, _, _, _, ⟨_, _, _, e⟩, h => by subst e; unfold mtE at h; cases h
  | .slH _ _ _, _, _, _, _, _, _, ⟨_, _, _, e⟩, h => by subst e; unfold mtE at h; cases h
  | .mth _ _ _, _, _, _, _, _, _, ⟨_, _, _, e⟩, h => by subst e; unfold mtE at h; cases h
  | .bitlen _, _, _, _, _, _, _, ⟨_, _, _, e⟩, h => by subst e; unfold mtE at h; cases h
  | .comp _ _ _ _ _ _, _, _, _, _, _, _, ⟨_, _, _, e⟩, h => by subst e; unfold mtE at h; cases h
  | .compIf _ _ _ _ _ _ _, _, _, _, _, _, _, ⟨_, _, _, e⟩, h => by subst e; unfold mtE at h; cases h
  | .var _, _, _, _, _, _, _, ⟨_, _, _, e⟩, h => by subst e; unfold mtE at h; cases h
  | .bl _, _, _, _, _, _, _, ⟨_, _, _, e⟩, h => by subst e; unfold mtE at h; cases h
  | .not _, _, _, _, _, _, _, ⟨_, _, _, e⟩, h => by subst e; unfold mtE at h; cases h
  | .cmp _ _ _, _, _, _, _, _, _, ⟨_, _, _, e⟩, h => by subst e; unfold mtE at h; cases h
  | .chn _ _ _ _ _, _, _, _, _, _, _, ⟨_, _, _, e⟩, h => by subst e; unfold mtE at h; cases h
  | .call _ _, _, _, _, _, _, _, ⟨_, _, _, e⟩, h => by subst e; unfold mtE at h; cases h
  | .blt _ _ _, _, _, _, _, _, _, ⟨_, _, _, e⟩, h => by subst e; unfold mtE at h; cases h
theorem sndEs : ∀ (cs : List CE) {sc : Scope} {X : Cx} {E : EX} {es : List Expr}, Cok mc C sc X → Takes X (upW (wd X) E) → mtEs mc sc cs es = true → DA X es (wpEs C cs E) ∧ (∀ ce e, cs = [ce] → es = [e] → DE X e (wpE C ce E)) ∧ DEs X es (cs.map fun c => wpE C c E)
  | [], sc, X, E, es, c, tk, h => by
    unfold mtEs at h
    split at h
    · refine ⟨⟨fun σ H ρ M Q S A z => ?_⟩, fun _ _ e => (nomatch e), trivial⟩
      unfold wpEs at z
      exact DA.nil.to σ H ρ M Q S A z
    · cases h
  | ce :: cs, sc, X, E, es, c, tk, h => by
    unfold mtEs at h
    split at h
    · cases h
    · simp only [Bool.and_eq_true] at h
      have h1 := sndE ce c tk h.1.2
      obtain ⟨g1, g2, g3⟩ := sndEs cs c tk h.2
      refine ⟨⟨fun σ H ρ M Q S A z => ?_⟩, fun ce' e' q1 q2 => ?_, h1, g3⟩
      · unfold wpEs at z
        exact (DA.cons h1 g1 h.1.1).to σ H ρ M Q S A z
      · cases q1; cases q2; exact h1
end
end
end Ow

namespace Ow
open PySem PySem.Spec PyProof.Rows L2
def notComp (e : Expr) : Bool := match e with | .ListComp .. => false | .SetComp .. => false | .DictComp .. => false | _ => true
theorem noSwap {e : Expr} {t : Option Expr} {l : Nat} {env : Env} (h : notComp e = true) : swapsWith e t l env = pure false := by
  cases e <;> first | rfl | cases h
/-- a stored comprehension that is not stored within -/
def outComp (sc : Scope) (x : Str) (px : Pos) (e : Expr) : Bool := match e with
  | .ListComp _ _ s p => !plainB sc x || !(px.line == p.line)
  | _ => notComp e
def inComp (sc : Scope) (x : Str) (px : Pos) (e : Expr) : Bool := match e with
  | .ListComp _ _ s p => plainB sc x && (px.line == p.line) && !(s.names.any fun (n, k) => n == x && (k == .local || k == .cell))
  | _ => false
def notPlainE (sc : Scope) : Expr → Bool
  | .Name x _ => !plainB sc x
  | .Tuple .. => true
  | _ => false
mutual
def mtS (C : MC) (sc : Scope) : CS → Stmt → Bool
  | .set i e, st => match st with
    | .Assign [.Name x px] v _ => decide (C.N[i]? = some x) && locB sc x && outComp sc x px v && mtE C sc e v
    | _ => false
  | .setLc i e, st => match st with
    | .Assign [.Name x px] v _ => decide (C.N[i]? = some x) && inComp sc x px v && mtE C sc e v
    | _ => false
  | .asg t e, st => match st with
    | .Assign [.Tuple ts _ _] v _ => mtT C sc t (.Tuple ts 0 ⟨0, 0, 0, 0⟩) && mtE C sc e v && (match v with
      | .Tuple vs _ _ => !(ts.length == 2 || ts.length == 3) || vs.length != ts.length || vs.all (foldedForSure 8) || ts.any (notPlainE sc)
      | _ => true)
    | _ => false
  | .par i j a b, st => match st with
    | .Assign [.Tuple [.Name x px, .Name y py] _ _] (.Tuple [v, w] _ _) _ => decide (C.N[i]? = some x) && decide (C.N[j]? = some y) && decide (i ≠ j) && decide (x ≠ y) && plainB sc x && plainB sc y && decide (py.line = px.line) &&
      !([v, w].all (foldedForSure 8)) && !([v, w].all (constantsAlone 8)) && notStar v && notStar w && mtE C sc a v && mtE C sc b w
    | _ => false
  | .par3 i j l a b c, st => match st with
    | .Assign [.Tuple [.Name x px, .Name y py, .Name z pz] _ _] (.Tuple [v, w, u] _ _) _ => decide (C.N[i]? = some x) && decide (C.N[j]? = some y) && decide (C.N[l]? = some z) && decide (i ≠ j) && decide (i ≠ l) && decide (j ≠ l) && decide (x ≠ y) && decide (x ≠ z) && decide (y ≠ z) &&
      plainB sc x && plainB sc y && plainB sc z && decide (py.line = px.line) && decide (pz.line = px.line) &&
      !([v, w, u].all (foldedForSure 8)) && !([v, w, u].all (constantsAlone 8)) && notStar v && notStar w && notStar u && mtE C sc a v && mtE C sc b w && mtE C sc c u
    | _ => false
  | .sat k o e, st => match st with
    | .Assign [.Attribute y nm _] v _ => decide (C.ats[k]?.map AI.f = some nm) && notComp v && mtE C sc o y && mtE C sc e v
    | _ => false
  | .setix o i e, st => match st with
    | .Assign [.Subscript x y _] v _ => notSlice y && notComp v && mtE C sc o x && mtE C sc i y && mtE C sc e v
    | _ => false
  | .aug i op e, st => match st with
    | .AugAssign (.Name x _) op' v _ => decide (op = op') && decide (C.N[i]? = some x) && locB sc x && mtE C sc e v
    | _ => false
  | .expr e, st => match st with
    | .Expr v _ => notComp v && mtE C sc e v
    | _ => false
  | .ret e, st => match st with
    | .Return (some v) _ => mtE C sc e v
    | _ => false
  | .retN, st => match st with
    | .Return none _ => true
    | _ => false
  | .frz _, _ => false
  | .bad, _ => true
  | .pass, st => match st with
    | .Pass _ => true
    | _ => false
  | .brk, st => match st with
    | .Break _ => true
    | _ => false
  | .cont, st => match st with
    | .Continue _ => true
    | _ => false
  | .ifs c a b, st => match st with
    | .If v x y _ => mtE C sc c v && mtB C sc a x && mtB C sc b y
    | _ => false
  | .whl c b, st => match st with
    | .While v x [] _ => mtE C sc c v && mtB C sc b x
    | _ => false
  | .for t k its b, st => match st with
    | .For tg it x [] _ => mtT C sc t tg && notSet it && mtI C sc k its tg it && mtB C sc b x
    | _ => false
def mtB (C : MC) (sc : Scope) : List CS → List Stmt → Bool
  | [], sts => match sts with
    | [] => true
    | _ :: _ => false
  | c :: cs, sts => match c with
    | .frz _ => mtB C sc cs sts
    | c => match sts with
      | [] => false
      | s :: ss => mtS C sc c s && mtB C sc cs ss
end
theorem frz_abs {W : Wd} {M : Mp} {H : Hp} {ρ : DSt} {σ : L2.St} {i : Nat} {a : Addr} {l : List D} (S : AbsS W M H ρ σ) (A : AbsM W M H) (hi : ρ[i]? = some (some (.ref a))) (ha : M a = some (.lst l)) :
    AbsS W (M.del a) H (ρ.set i (some (.lst l))) σ ∧ AbsM W (M.del a) H ∧ Ext W M H (M.del a) H := by
  have x : Ext W M H (M.del a) H := Ext.forget Mp.sub_del
  refine ⟨⟨by rw [List.length_set]; exact S.1, fun j d h => ?_⟩, A.forget Mp.sub_del, x⟩
  by_cases hj : i = j
  · subst hj
    rw [List.getElem?_set] at h
    simp only [if_true] at h
    split at h
    · cases h
      obtain ⟨v, h1, h2⟩ := S.2 i _ hi
      have h2' : v = .ref a := h2
      subst h2'
      obtain ⟨xs, h3, h4⟩ := A a _ ha
      exact ⟨_, h1, a, xs, rfl, Mp.del_same, h3, h4.ext x⟩
    · cases h
  · rw [List.getElem?_set_ne hj] at h
    obtain ⟨v, h1, h2⟩ := S.2 j d h
    exact ⟨v, h1, h2.ext x⟩
structure CokS (mc : MC) (C : Ctx) (sc : Scope) (X : Cx) (E : EX) : Prop extends Cok mc C sc X where
  fk : X.env.scope.kind = .function
  tk : Takes X (upW (wd X) E)
  hp : PassesOwn (model X.prog X.w) X.A X.env X.xe
theorem mtE_comp {C : MC} {sc : Scope} {fz : Bool} {elt : CE} {tg : CT} {k : IK} {its : List CE} {own : List Nat} {e : Expr} (h : mtE C sc (.comp fz elt tg k its own) e = true) : ∃ x t it scope pos, e = .ListComp x [⟨t, it, [], 0⟩] scope pos ∧
    (mtT C scope tg t && mtE C scope elt x && blkC C.N sc scope (own.map fun i => (C.N.getD i "", i)) && tg.at.all (fun i => own.contains i) && notSet it && mtI C sc k its t it) = true := by
  unfold mtE at h
  split at h
  · exact ⟨_, _, _, _, _, rfl, h⟩
  · cases h
theorem mtE_compIf {C : MC} {sc : Scope} {fz : Bool} {elt cond : CE} {tg : CT} {k : IK} {its : List CE} {own : List Nat} {e : Expr} (h : mtE C sc (.compIf fz elt cond tg k its own) e = true) : ∃ x t it cn scope pos, e = .ListComp x [⟨t, it, [cn], 0⟩] scope pos ∧
    (mtT C scope tg t && mtE C scope elt x && mtE C scope cond cn && blkC C.N sc scope (own.map fun i => (C.N.getD i "", i)) && tg.at.all (fun i => own.contains i) && notSet it && mtI C sc k its t it) = true := by
  unfold mtE at h
  split at h
  · exact ⟨_, _, _, _, _, _, rfl, h⟩
  · cases h
theorem mtTs_loc {C : MC} {sc : Scope} {x : Str} {p : Pos} : ∀ {ts : List CT} {es : List Expr}, mtTs C sc ts es = true → Expr.Name x p ∈ es → locB sc x = true
  | [], es, h, hm => by
    unfold mtTs at h
    split at h
    · cases hm
    · cases h
  | t :: ts, es, h, hm => by
    unfold mtTs at h
    split at h
    · cases h
    · simp only [Bool.and_eq_true] at h
      rcases List.mem_cons.mp hm with e | hm
      · have h1 := h.1.2
        rw [← e] at h1
        cases t with
        | nm i =>
          unfold mtT at h1
          simp only [Bool.and_eq_true] at h1
          exact h1.2
        | tup l => unfold mtT at h1; cases h1
      · exact mtTs_loc h.2 hm
theorem mtT_loc {C : MC} {sc : Scope} {x : Str} {p : Pos} {t : CT} {ts : List Expr} {k : Nat} {q : Pos} (h : mtT C sc t (.Tuple ts k q) = true) (hm : Expr.Name x p ∈ ts) : locB sc x = true := by
  cases t with
  | nm i => unfold mtT at h; cases h
  | tup l => unfold mtT at h; exact mtTs_loc h hm
section
variable {mc : MC} {C : Ctx} {sc : Scope} {X : Cx} {E : EX}
theorem CokS.bk (c : CokS mc C sc X E) : X.env.blockKind = .function := by
  unfold Env.blockKind
  rw [c.fk]; rfl
theorem out_swap (c : CokS mc C sc X E) {x : Str} {px : Pos} {e : Expr} {l : Nat} (h : outComp sc x px e = true) (hl : locB sc x = true) : swapsWith e (some (.Name x px)) l X.env = pure false := by
  unfold outComp at h
  split at h
  · rename_i el gs s p
    unfold swapsWith
    simp only
    have : (X.env.blockKind == .function && X.env.kindOf x == some .local && px.line == (Expr.ListComp el gs s p).pos.line && !(s.names.any fun (n, k) => n == x && (k == .local || k == .cell))) = false := by
      rw [Bool.or_eq_true] at h
      rcases h with h | h
      · have hk : X.env.kindOf x = some .cell := by
          unfold plainB at h
          unfold locB at hl
          split at hl
          · rename_i e; rw [e] at h; cases h
          · rename_i e; exact (c.rel x _ e).1 (by decide)
          · cases hl
        rw [hk]; simp
      · have : (px.line == (Expr.ListComp el gs s p).pos.line) = false := by
          have h' : (!(px.line == p.line)) = true := h
          show (px.line == p.line) = false
          simpa using h'
        rw [this]; simp
    exact congrArg pure this
  · exact noSwap h
mutual
theorem sndS (c : CokS mc C sc X E) : ∀ (cs : CS) (st : Stmt), mtS mc sc cs st = true → DS X st (wpS C E cs)
  | .set i e, st, h => by
    unfold mtS at h
    split at h
    · simp only [Bool.and_eq_true, decide_eq_true_eq] at h
      obtain ⟨⟨⟨h1, h2⟩, h3⟩, h4⟩ := h
      obtain ⟨l1, l2⟩ := c.loc h2
      have r := DS.set (pos := by assumption) c.nd (by rw [c.hN]; exact h1) l1 l2 (sndE e c.toCok c.tk h4) (out_swap c h3 h2)
      exact ⟨fun σ H ρ M D De S A z k => r.to σ H ρ M D De S A (by unfold wpS at z; exact z) k⟩
    · cases h
  | .setLc i e, st, h => by
    unfold mtS at h
    split at h
    · rename_i x px v pos
      simp only [Bool.and_eq_true, decide_eq_true_eq] at h
      obtain ⟨⟨h1, h3⟩, h4⟩ := h
      cases e with
      | comp fz elt tg k its own =>
        obtain ⟨x', t, it, scope, pos', rfl, h'⟩ := mtE_comp h4
        have h3 : (plainB sc x && (px.line == pos'.line) && !(scope.names.any fun (n, k) => n == x && (k == .local || k == .cell))) = true := h3
        simp only [Bool.and_eq_true, Bool.not_eq_true'] at h3 h'
        obtain ⟨⟨h2, hl⟩, ha⟩ := h3
        obtain ⟨⟨⟨⟨⟨h1', h2'⟩, h3'⟩, h4'⟩, h5'⟩, h6'⟩ := h'
        have hyl := c.plain h2
        have r := DS.setLc (pos := pos) (fz := fz) c.calm c.nd (by rw [c.hN]; exact h1) hyl (sw_true c.fk hyl hl ha) (sndI c.toCok h6' (fun es hes => ⟨(sndEs its c.toCok c.tk hes).1, (sndEs its c.toCok c.tk hes).2.1⟩)) (blkOk_rel c.toCok h3')
          (fun s H Ca cl fp => sndT (c.toCok.blk s H scope Ca cl fp) tg t h1') (fun s H Ca cl fp => pts_yes) (fun s H Ca cl fp => sndE elt (c.toCok.blk s H scope Ca cl fp) takes_no h2') (notSet_spec h5') (own_at h4')
        refine ⟨fun σ H ρ M D De S A z k => r.to σ H ρ M D De S A ?_ k⟩
        unfold wpS wpE at z
        rw [own_map]; exact z
      | compIf fz elt cond tg k its own =>
        obtain ⟨x', t, it, cn, scope, pos', rfl, h'⟩ := mtE_compIf h4
        have h3 : (plainB sc x && (px.line == pos'.line) && !(scope.names.any fun (n, k) => n == x && (k == .local || k == .cell))) = true := h3
        simp only [Bool.and_eq_true, Bool.not_eq_true'] at h3 h'
        obtain ⟨⟨h2, hl⟩, ha⟩ := h3
        obtain ⟨⟨⟨⟨⟨⟨h1', h2'⟩, h2c⟩, h3'⟩, h4'⟩, h5'⟩, h6'⟩ := h'
        have hyl := c.plain h2
        have r := DS.setLc (pos := pos) (fz := fz) c.calm c.nd (by rw [c.hN]; exact h1) hyl (sw_true c.fk hyl hl ha) (sndI c.toCok h6' (fun es hes => ⟨(sndEs its c.toCok c.tk hes).1, (sndEs its c.toCok c.tk hes).2.1⟩)) (blkOk_rel c.toCok h3')
          (fun s H Ca cl fp => sndT (c.toCok.blk s H scope Ca cl fp) tg t h1') (fun s H Ca cl fp => pts_one (pt_upC (sndC cond (c.toCok.blk s H scope Ca cl fp) takes_no h2c))) (fun s H Ca cl fp => sndE elt (c.toCok.blk s H scope Ca cl fp) takes_no h2') (notSet_spec h5') (own_at h4')
        refine ⟨fun σ H ρ M D De S A z k => r.to σ H ρ M D De S A ?_ k⟩
        unfold wpS wpE at z
        rw [own_map]; exact z
      | bad => exact ⟨fun _ _ _ _ _ _ _ _ z _ => by unfold wpS wpE at z; exact z.elim⟩
      | op k es =>
        exfalso
        unfold inComp at h3
        split at h3
        · rename_i a b c d
          unfold mtE at h4
          have : opArgs sc k (.ListComp a b c d) = none := by unfold opArgs; cases k <;> rfl
          rw [this] at h4; cases h4
        · cases h3
      | _ => 
        unfold inComp at h3
        split at h3
        · unfold mtE at h4; cases h4
        · cases h3
    · cases h
  | .asg t e, st, h => by
    unfold mtS at h
    split at h
    · rename_i ts kt pt v pos
      simp only [Bool.and_eq_true] at h
      obtain ⟨⟨h1, h2⟩, h3⟩ := h
      have g : PG X (.Tuple ts kt pt) (t.g X.K) := sndT c.toCok t _ (by
        cases t with
        | nm i => unfold mtT at h1; cases h1
        | tup l => unfold mtT at h1 ⊢; exact h1)
      have hw : swappedStores [.Tuple ts kt pt] v X.env = pure none := by
        split at h3
        · rw [Bool.or_eq_true] at h3
          rcases h3 with h3 | h3
          · exact swapNo _ _ _ _ _ _ _ h3
          · refine swapNo2 _ _ _ _ _ _ _ ?_
            rw [List.any_eq_true] at h3 ⊢
            obtain ⟨y, hy, hp⟩ := h3
            refine ⟨y, hy, ?_⟩
            cases y with
            | Name x px =>
              have hl := mtT_loc h1 hy
              have hp' : (!plainB sc x) = true := hp
              have hk : X.env.kindOf x = some .cell := by
                unfold plainB at hp'
                unfold locB at hl
                split at hl
                · rename_i e; rw [e] at hp'; cases hp'
                · rename_i e; exact (c.rel x _ e).1 (by decide)
                · cases hl
              show (!(X.env.kindOf x == some .local)) = true
              rw [hk]; rfl
            | _ => rfl
        · rename_i hn
          unfold swappedStores
          cases v <;> first | rfl | exact absurd rfl (hn _ _ _)
      have hs : swapsWithSole [.Tuple ts kt pt] v pos.line X.env = pure false := by
        unfold swapsWithSole
        cases v <;> rfl
      have r := DS.asg (pos := pos) rfl (sndE e c.toCok c.tk h2) g hs hw
      exact ⟨fun σ H ρ M D De S A z k => r.to σ H ρ M D De S A (by unfold wpS at z; exact z) k⟩
    · cases h
  | .par i j a b, st, h => by
    unfold mtS at h
    split at h
    · rename_i x px y py kt pt v w k2 pt2 pos
      simp only [Bool.and_eq_true, decide_eq_true_eq, Bool.not_eq_true'] at h
      obtain ⟨⟨⟨⟨⟨⟨⟨⟨⟨⟨⟨⟨h1, h2⟩, h3⟩, h4⟩, h5⟩, h6⟩, h7⟩, h8⟩, h9⟩, h10⟩, h11⟩, h12⟩, h13⟩ := h
      have p1 := c.plain h5
      have p2 := c.plain h6
      have r := DS.par (pos := pos) (kt := kt) (k2 := k2) (pt := pt) (pt2 := pt2) c.calm c.nd (by rw [c.hN]; exact h1) (by rw [c.hN]; exact h2) h3 p1 p2 (DA.cons (sndE a c.toCok c.tk h12) (DA.cons (sndE b c.toCok c.tk h13) DA.nil h11) h10)
        (swap2 _ _ _ _ _ _ _ _ _ _ _ p1 p2 c.bk h7 h4 h10 h11 h8 h9) rfl h10 h11
      exact ⟨fun σ H ρ M D De S A z k => r.to σ H ρ M D De S A (by unfold wpS at z; exact z) k⟩
    · cases h
  | .par3 i j l a b d, st, h => by
    unfold mtS at h
    split at h
    · rename_i x px y py z pz kt pt v w u k2 pt2 pos
      simp only [Bool.and_eq_true, decide_eq_true_eq, Bool.not_eq_true'] at h
      obtain ⟨⟨⟨⟨⟨⟨⟨⟨⟨⟨⟨⟨⟨⟨⟨⟨⟨⟨⟨⟨⟨h1, h2⟩, h3⟩, n1⟩, n2⟩, n3⟩, m1⟩, m2⟩, m3⟩, l1⟩, l2⟩, l3⟩, q1⟩, q2⟩, h8⟩, h9⟩, s1⟩, s2⟩, s3⟩, e1⟩, e2⟩, e3⟩ := h
      have p1 := c.plain l1
      have p2 := c.plain l2
      have p3 := c.plain l3
      have r := DS.par3 (pos := pos) (kt := kt) (k2 := k2) (pt := pt) (pt2 := pt2) c.calm c.nd (by rw [c.hN]; exact h1) (by rw [c.hN]; exact h2) (by rw [c.hN]; exact h3) n1 n2 n3 p1 p2 p3
        (DA.cons (sndE a c.toCok c.tk e1) (DA.cons (sndE b c.toCok c.tk e2) (DA.cons (sndE d c.toCok c.tk e3) DA.nil s3) s2) s1)
        (swap3 _ _ _ _ _ _ _ _ _ _ _ _ _ _ p1 p2 p3 c.bk q1 q2 m1 m2 m3 s1 s2 s3 h8 h9) rfl
      exact ⟨fun σ H ρ M D De S A z k => r.to σ H ρ M D De S A (by unfold wpS at z; exact z) k⟩
    · cases h
  | .sat k o e, st, h => by
    unfold mtS at h
    split at h
    · rename_i y nm p v pos
      simp only [Bool.and_eq_true, decide_eq_true_eq] at h
      obtain ⟨⟨⟨h1, h2⟩, h3⟩, h4⟩ := h
      rw [← c.ats] at h1
      cases ha : C.as[k]? with
      | none => rw [ha] at h1; cases h1
      | some a =>
        rw [ha] at h1
        have e1 := Option.some.inj h1
        subst e1
        have r := DS.sat (pos := pos) (p1 := p) (c.aok a (List.mem_of_getElem? ha)) (sndE e c.toCok c.tk h4) (sndE o c.toCok c.tk h3) (noSwap h2)
        refine ⟨fun σ H ρ M D De S A z k => r.to σ H ρ M D De S A ?_ k⟩
        unfold wpS at z
        rw [ha] at z
        exact z
    · cases h
  | .setix o i e, st, h => by
    unfold mtS at h
    split at h
    · rename_i x y p v pos
      simp only [Bool.and_eq_true] at h
      obtain ⟨⟨⟨⟨h1, h2⟩, h3⟩, h4⟩, h5⟩ := h
      have r := DS.setix (pos := pos) (p1 := p) (by have := c.un; omega) (sndE e c.toCok c.tk h5) (sndE o c.toCok c.tk h3) (sndE i c.toCok c.tk h4) h1 (by unfold swapsWithSole; exact noSwap h2) (by unfold swappedStores; rfl)
      exact ⟨fun σ H ρ M D De S A z k => r.to σ H ρ M D De S A (by unfold wpS at z; exact z) k⟩
    · cases h
  | .aug i op e, st, h => by
    unfold mtS at h
    split at h
    · rename_i x px op' v pos
      simp only [Bool.and_eq_true, decide_eq_true_eq] at h
      obtain ⟨⟨⟨rfl, h1⟩, h2⟩, h3⟩ := h
      obtain ⟨l1, l2⟩ := c.loc h2
      have r := DS.aug (pos := pos) (px := px) (op := op) c.nd (by rw [c.hN]; exact h1) l1 l2 (sndE e c.toCok c.tk h3)
      exact ⟨fun σ H ρ M D De S A z k => r.to σ H ρ M D De S A (by unfold wpS at z; exact z) k⟩
    · cases h
  | .expr e, st, h => by
    unfold mtS at h
    split at h
    · rename_i v pos
      simp only [Bool.and_eq_true] at h
      have r := DS.expr (pos := pos) (sndE e c.toCok c.tk h.2) (noSwap h.1)
      exact ⟨fun σ H ρ M D De S A z k => r.to σ H ρ M D De S A (by unfold wpS at z; exact z) k⟩
    · cases h
  | .ret e, st, h => by
    unfold mtS at h
    split at h
    · rename_i v pos
      have r := DS.ret (pos := pos) (sndE e c.toCok c.tk h)
      exact ⟨fun σ H ρ M D De S A z k => r.to σ H ρ M D De S A (by unfold wpS at z; exact z) k⟩
    · cases h
  | .retN, st, h => by
    unfold mtS at h
    split at h
    · rename_i pos
      have r := DS.retN (X := X) (pos := pos)
      exact ⟨fun σ H ρ M D De S A z k => r.to σ H ρ M D De S A (by unfold wpS at z; exact z) k⟩
    · cases h
  | .bad, st, h => ⟨fun _ _ _ _ _ _ _ _ z _ => by unfold wpS at z; exact z.elim⟩
  | .frz _, st, h => by
    unfold mtS at h
    cases h
  | .pass, st, h => by
    unfold mtS at h
    split at h
    · rename_i pos
      have r := DS.pass (X := X) (pos := pos)
      exact ⟨fun σ H ρ M D De S A z k => r.to σ H ρ M D De S A (by unfold wpS at z; exact z) k⟩
    · cases h
  | .brk, st, h => by
    unfold mtS at h
    split at h
    · rename_i pos
      have r := DS.brk (X := X) (pos := pos)
      exact ⟨fun σ H ρ M D De S A z k => r.to σ H ρ M D De S A (by unfold wpS at z; exact z) k⟩
    · cases h
  | .cont, st, h => by
    unfold mtS at h
    split at h
    · rename_i pos
      have r := DS.cont (X := X) (pos := pos)
      exact ⟨fun σ H ρ M D De S A z k => r.to σ H ρ M D De S A (by unfold wpS at z; exact z) k⟩
    · cases h
  | .ifs d a b, st, h => by
    unfold mtS at h
    split at h
    · rename_i v x y pos
      simp only [Bool.and_eq_true] at h
      have r := DS.ifs (pos := pos) (sndC d c.toCok c.tk h.1.1) (sndB c a x h.1.2) (sndB c b y h.2)
      exact ⟨fun σ H ρ M D De S A z k => r.to σ H ρ M D De S A (by unfold wpS at z; exact z) k⟩
    · cases h
  | .whl d b, st, h => by
    unfold mtS at h
    split at h
    · rename_i v x pos
      simp only [Bool.and_eq_true] at h
      have r := DS.whl (pos := pos) c.hp (sndC d c.toCok c.tk h.1) (sndB c b x h.2)
      exact ⟨fun σ H ρ M D De S A z k => r.to σ H ρ M D De S A (by unfold wpS at z; exact z) k⟩
    · cases h
  | .for t k its b, st, h => by
    unfold mtS at h
    split at h
    · rename_i tg it x pos
      simp only [Bool.and_eq_true] at h
      obtain ⟨⟨⟨h1, h2⟩, h3⟩, h4⟩ := h
      have r := DS.for (pos := pos) c.hp c.calm (sndI c.toCok h3 (fun es hes => ⟨(sndEs its c.toCok c.tk hes).1, (sndEs its c.toCok c.tk hes).2.1⟩)) (sndT c.toCok t tg h1) (sndB c b x h4) (notSet_spec h2)
      exact ⟨fun σ H ρ M D De S A z k => r.to σ H ρ M D De S A (by unfold wpS at z; exact z) k⟩
    · cases h
theorem sndB (c : CokS mc C sc X E) : ∀ (cs : List CS) (sts : List Stmt), mtB mc sc cs sts = true → DB X sts (wpB C E cs)
  | [], sts, h => by
    unfold mtB at h
    split at h
    · have r := DB.nil (X := X)
      exact ⟨fun σ H ρ M D De S A z k => r.to σ H ρ M D De S A (by unfold wpB at z; exact z) k⟩
    · cases h
  | s :: ss, sts, h => by
    unfold mtB at h
    split at h
    · have r := sndB c ss _ h
      refine ⟨fun σ H ρ M D De S A z k => ?_⟩
      unfold wpB wpS at z
      split at z
      · rename_i a hi
        split at z
        · rename_i l ha
          obtain ⟨S', A', x⟩ := frz_abs S A hi ha
          exact r.to σ H _ _ D De S' A' z (k.ext x)
        · exact z.elim
      · exact z.elim
    · split at h
      · cases h
      · simp only [Bool.and_eq_true] at h
        have r := DB.cons (sndS c s _ h.1) (sndB c ss _ h.2)
        exact ⟨fun σ H ρ M D De S A z k => r.to σ H ρ M D De S A (by unfold wpB at z; exact z) k⟩
end
end
end Ow

namespace Ow
open PySem PySem.Spec PyProof.Rows L2
/-! ### a def keeps its promise -/
/-- the def named fi.name stands in the module and keeps its promise -/
def FnM (P : Program) (w : World) (K : PySem.W.Frag) (mg : Str → Option Value) (base : Heap) (k : Nat) (fi : FI) : Prop :=
  ∃ (f : Addr) (fd : FuncData) (ps : List Str), mg fi.name = some (.ref f) ∧ PySem.W.keepIn K (.ref f) = true ∧ FnG P w K mg base k f fd ps fi.sp ∧ Binds K fd ps [] ∧ ps.length = fi.n
def GM (K : PySem.W.Frag) (mg : Str → Option Value) (g : GI) : Prop := ∃ v u, mg g.name = some u ∧ RelV v u ∧ ∀ M H, AbsM ⟨K, mg⟩ M H → Rep ⟨K, mg⟩ M H g.d v
/-- a def's place -/
structure DefM (K : PySem.W.Frag) (mg : Str → Option Value) (x : Str) (st : Stmt) (ps : List Str) : Prop where
  ex : ∃ f fd, Fun K x x st f fd ∧ mg x = some (.ref f) ∧ Binds K fd ps []
def startD (N : List Str) (ds : List D) : DSt := ds.map some ++ List.replicate (N.length - ds.length) none
theorem absS_start {W : Wd} {M : Mp} {H : Hp} {N : List Str} {ds : List D} {vs : List V} (r : Reps W M H ds vs) : AbsS W M H (startD N ds) (start N vs) := by
  have hl := r.length
  refine ⟨by simp [startD, L2.start, hl], fun i d q => ?_⟩
  unfold startD at q
  by_cases hi : i < ds.length
  · rw [List.getElem?_append_left (by simpa using hi), List.getElem?_map] at q
    cases e : ds[i]? with
    | none => rw [e] at q; cases q
    | some d0 =>
      rw [e] at q
      cases q
      obtain ⟨v, h1, h2⟩ := Reps.get r e
      refine ⟨v, ?_, h2⟩
      unfold L2.start
      rw [List.getElem?_append_left (by simpa [← hl] using hi), List.getElem?_map, h1]; rfl
  · rw [List.getElem?_append_right (by simpa using hi), List.getElem?_replicate] at q
    split at q <;> cases q
theorem FnM.mono {P : Program} {w : World} {K : PySem.W.Frag} {mg : Str → Option Value} {base : Heap} {j k : Nat} {fi : FI} (h : FnM P w K mg base j fi) (l : j ≤ k) : FnM P w K mg base k fi := by
  obtain ⟨f, fd, ps, h1, h2, h3, h4, h5⟩ := h
  exact ⟨f, fd, ps, h1, h2, ⟨h3.len, fun A outer s H args us vs ds M Q E hr => h3.run A outer s H args us vs ds M Q E (hr.mono l)⟩, h4, h5⟩
/-- a weaker promise -/
theorem FnM.imp {P : Program} {w : World} {K : PySem.W.Frag} {mg : Str → Option Value} {base : Heap} {k : Nat} {fi fj : FI} (h : FnM P w K mg base k fi) (e : fi.name = fj.name) (e2 : fi.n = fj.n) (i : ∀ ds M Q E, fj.sp ds M Q E → fi.sp ds M Q E) : FnM P w K mg base k fj := by
  obtain ⟨f, fd, ps, h1, h2, h3, h4, h5⟩ := h
  exact ⟨f, fd, ps, e ▸ h1, h2, ⟨fun ds M Q E q => h3.len ds M Q E (i _ _ _ _ q), fun A outer s H args us vs ds M Q E hr g e0 b v a r q => h3.run A outer s H args us vs ds M Q E hr g e0 b v a r (i _ _ _ _ q)⟩, h4, e2 ▸ h5⟩

mutual
inductive FrzD (M M' : Mp) : D → D → Prop
  | rfl (d : D) : FrzD M M' d d
  | deep {a : Addr} {l l' : List D} (h : M a = some (.lst l)) (h' : M' a = none) (k : FrzDs M M' l l') : FrzD M M' (.ref a) (.lst l')
  | tup {l l' : List D} (k : FrzDs M M' l l') : FrzD M M' (.tup l) (.tup l')
inductive FrzDs (M M' : Mp) : List D → List D → Prop
  | nil : FrzDs M M' [] []
  | cons {d d' : D} {l l' : List D} (h : FrzD M M' d d') (k : FrzDs M M' l l') : FrzDs M M' (d :: l) (d' :: l')
end
theorem FrzDs.refl {M M' : Mp} : ∀ l : List D, FrzDs M M' l l
  | [] => .nil
  | d :: l => .cons (.rfl d) (FrzDs.refl l)
mutual
theorem FrzD.rep {W : Wd} {M M' : Mp} {H : Hp} (A : AbsM W M H) (s : M'.Sub M) : ∀ {d d' : D} {v : V}, FrzD M M' d d' → Rep W M H d v → Rep W M' H d' v
  | _, _, _, .rfl d, r => r.ext (Ext.forget s)
  | _, _, _, .deep h h' k, r => by
    obtain ⟨xs, h3, h4⟩ := A _ _ h
    exact ⟨_, xs, r, h', h3, FrzDs.rep A s k h4⟩
  | _, _, _, .tup k, r => by
    obtain ⟨a, xs, rfl, h1, h2⟩ := r
    exact ⟨a, xs, rfl, h1, FrzDs.rep A s k h2⟩
theorem FrzDs.rep {W : Wd} {M M' : Mp} {H : Hp} (A : AbsM W M H) (s : M'.Sub M) : ∀ {l l' : List D} {vs : List V}, FrzDs M M' l l' → Reps W M H l vs → Reps W M' H l' vs
  | _, _, _, .nil, r => r
  | _, _, _, .cons h k, r => by
    obtain ⟨v, u, rfl, h1, h2⟩ := r
    exact ⟨v, u, rfl, FrzD.rep A s h h1, FrzDs.rep A s k h2⟩
end
/-- how a def may end: its cells forgotten, what it hands back frozen -/
def Fin (Q : QE) : QE := fun d M => ∃ d' M', M'.Sub M ∧ FrzD M M' d d' ∧ Q d' M'
theorem Fin.same {Q : QE} {d : D} {M : Mp} (h : Q d M) : Fin Q d M := ⟨d, M, Mp.Sub.refl, .rfl d, h⟩
theorem Fin.sub {Q : QE} {d : D} {M M' : Mp} (s : M'.Sub M) (h : Q d M') : Fin Q d M := ⟨d, M', s, .rfl d, h⟩
theorem Fin.lst {Q : QE} {a : Addr} {l : List D} {M : Mp} (e : M a = some (.lst l)) (h : Q (.lst l) (M.del a)) : Fin Q (.ref a) M := ⟨_, _, Mp.sub_del, .deep e Mp.del_same (FrzDs.refl l), h⟩
theorem Fin.lft {W : Wd} {M : Mp} {H H1 : Hp} {Q : QE} {v : V} (h : lft W M H (Fin Q) v H1) : lft W M H Q v H1 := by
  obtain ⟨d, M', x, r, A, d', M2, s, f, q⟩ := h
  exact ⟨d', M2, x.trans (Ext.forget s), FrzD.rep A s f r, A.forget s, q⟩
/-- the ends of a def's body -/
def endsD (Q : QE) : DEnds := ⟨fun _ M => Fin Q .non M, Fin Q, fun _ _ => False, fun _ _ => False⟩
/-- a class stands in the module, its __init__ keeps its promise -/
def FnK (P : Program) (w : World) (K : PySem.W.Frag) (mg : Str → Option Value) (base : Heap) (k : Nat) (fi : FI) : Prop :=
  ∃ (C fI : Addr) (fd : FuncData) (ps : List Str) (spI : DSp), mg fi.name = some (.ref C) ∧ Mk K C fI ∧ FnG P w K mg base k fI fd ps spI ∧ Binds K fd ps [] ∧ ∀ ds M Q E, fi.sp ds M Q E → mkSp fi.name spI ds M Q E
/-- what may be called by its name, from a body with room for k + 1 -/
def FnC (P : Program) (w : World) (K : PySem.W.Frag) (mg : Str → Option Value) (base : Heap) (k : Nat) (fi : FI) : Prop := FnM P w K mg base k fi ∨ ∃ j, j + 1 ≤ k ∧ FnK P w K mg base j fi
/-- a method keeps its promise -/
def MtM (P : Program) (w : World) (K : PySem.W.Frag) (mg : Str → Option Value) (base : Heap) (k : Nat) (mi : MI) : Prop :=
  ∃ (C f : Addr) (fd : FuncData) (ps : List Str), mg mi.cls = some (.ref C) ∧ Cls K C ∧ L2.Meth K C mi.name f ∧ FnG P w K mg base k f fd ps mi.sp ∧ Binds K fd ps []
/-- what instances of the classes may hold -/
def AtM (K : PySem.W.Frag) (mg : Str → Option Value) (a : AI) : Prop := ∀ c ∈ a.cs, ∃ C, mg c = some (.ref C) ∧ Cls K C ∧ NoAttr K C a.f
structure ModOk (P : Program) (w : World) (K : PySem.W.Frag) (mg : Str → Option Value) (base : Heap) (k : Nat) (mc : MC) (C : Ctx) : Prop where
  fns : C.fs.map FI.name = mc.fns
  gns : C.gs.map GI.name = mc.gns
  ats : C.as = mc.ats
  mts : C.ms.map (fun m => (m.cls, m.name)) = mc.mts
  blt : ∀ x ∈ bltNames, mg x = none
  sk : SysB base
  fok : ∀ fi ∈ C.fs, FnC P w K mg base k fi
  gok : ∀ g ∈ C.gs, GM K mg g
  aok : ∀ a ∈ C.as, AtM K mg a
  mok : ∀ m ∈ C.ms, MtM P w K mg base k m
theorem fnG_ok {P : Program} {w : World} {K : PySem.W.Frag} {mg : Str → Option Value} {base : Heap} {k : Nat} {mc : MC} {C : Ctx} {x qual : Str} {n : Nat} {sp : DSp} {st : Stmt} {ps : List Str} {b : List CS} {f : Addr} {fd : FuncData}
    (Mo : ModOk P w K mg base k mc C) (F : Fun K x qual st f fd) (S : FnScope mc.N ps (defScope st)) (hn : ps.length = n) (m : mtB mc (defScope st) b (defBody st) = true)
    (len : ∀ ds M Q E, sp ds M Q E → ds.length = n)
    (h : ∀ ds M Q E, sp ds M Q E → wpB C (fun x _ M => E x M) b (endsD Q) (startD mc.N ds) M) : FnG P w K mg base (k + 1) f fd ps sp := by
  refine ⟨fun ds M Q E q => by rw [hn]; exact len ds M Q E q, fun A outer s H args us vs ds M Q E hr hg e0 hbd rv am r q => ?_⟩
  obtain ⟨oc, od, kV, doc, pm, an, cdv, ct, osl, rfl, lk, hcd⟩ := F.ex
  have hl : vs.length = ps.length := by rw [← r.length, hn]; exact len ds M Q E q
  have KX : K.In s.heap := e0.mod.kin.keeps fun b o e => (e0.bs b o e).1
  have hkind : ∀ y ∈ ps.zip us, (defScope st).names.lookup y.1 = some .local ∨ ((defScope st).names.lookup y.1 = some .cell ∧ ((cellsFrom (s.heap.objs.size + 1) (defScope st).names []).lookup y.1).isSome = true) := by
    rintro ⟨n, v⟩ hy
    rcases S.par n (List.of_mem_zip hy).1 with z | z
    · exact .inl z
    · exact .inr ⟨z, PySem.W.cellsFrom_some _ _ _ (.inl z)⟩
  refine codeAny_call_function hr.depth (KX _ _ lk) rfl S.co S.gen rfl (PySem.W.codeRec_of KX hcd) (hbd _ _ _ _ ?_)
  refine wpAny_newFunctionEnv_cells S.kind hkind fun env he s1 x => ?_
  subst he
  refine ⟨(e0.mod.nolimit.keeps fun b o e => (e0.bs b o e).1).keeps x.toInCall.keep, codeAny_func ?_⟩
  obtain ⟨X, hX⟩ : ∃ X, X = cxOf (L2.CX P w) P w K mg base mc.N qual (defScope st) f cdv A outer s H (lftX ⟨K, mg⟩ E) := ⟨_, rfl⟩
  have I : Inv X [] (start mc.N vs) H s1 := by rw [hX]; exact inv_start S hr.hd e0 hl rv x
  have hr' : Room k X.A := by rw [hX]; exact hr.deeper _
  have ck : CokS mc C (defScope st) X (fun x _ M => E x M) := by
    subst hX
    refine ⟨⟨rfl, S.nd, rfl, hg, ?_, Mo.sk, fun x kk hk => ⟨fun _ => hk, fun z => absurd z (S.nofree _ (PySem.mem_of_lookup hk))⟩, fun _ _ => rfl, Mo.blt, Mo.fns, Mo.gns, Mo.ats, Mo.mts, fun g hg' => ?_, fun g hg' => Mo.gok g hg', fun a ha => Mo.aok a ha, fun mi hmi => ?_⟩, S.kind, ?_, passes_of rfl⟩
    · have := hr'.un; omega
    · rcases Mo.fok g hg' with ⟨f', fd', ps', h1, h2, h3, h4, h5⟩ | ⟨j, hj, Ca, fI, fd', ps', spI, h1, h2, h3, h4, h5⟩
      · exact ⟨f', h1, h2, .fn h3 hr' h4⟩
      · exact ⟨Ca, h1, h2.kp, .inr ⟨g.name, fI, fd', ps', j, spI, h1, h2, h3, hr'.mono hj, h4, h5⟩⟩
    · obtain ⟨Ca, f', fd', ps', h1, h2, h3, h4, h5⟩ := Mo.mok mi hmi
      exact ⟨Ca, f', h1, h2, h3, .fn h4 hr' h5⟩
    · exact (takes_of rfl rfl rfl rfl).imp fun c d σ H' ⟨x, ρ, M', _, a, rx, ex⟩ => ⟨x, M', a, rx, ex⟩
  have hW : wd X = ⟨K, mg⟩ := by rw [hX]; rfl
  have z := (sndB ck b (defBody st) m).to (start mc.N vs) H (startD mc.N ds) M (endsD Q) { nx := fun _ H' => lft ⟨K, mg⟩ M H Q .non H', rt := lft ⟨K, mg⟩ M H (Fin Q), bk := fun _ _ => False, ct := fun _ _ => False }
    (by rw [hW]; exact absS_start r) (by rw [hW]; exact am) (h ds M Q E q) (by
      rw [hW]
      exact ⟨fun ρ σ M' H' xt a _ z => Fin.lft (v := .non) (H1 := H') ⟨.non, M', xt, rfl, a, z⟩, fun v H' z => z, fun _ _ _ _ _ _ _ z => z, fun _ _ _ _ _ _ _ z => z⟩) [] s1 I
  subst hX
  refine wpAny_mono z (fun fl s' hs => ?_) fun e s' hs => hs
  cases fl with
  | ret u =>
    obtain ⟨v, σ', H', J, rv', q'⟩ := hs
    exact ⟨v, H', J.os, J.bare, J.base, J.hok, rv', Fin.lft q'⟩
  | next =>
    obtain ⟨σ', H', J, q'⟩ := hs
    exact ⟨.non, H', J.os, J.bare, J.base, J.hok, rfl, q'⟩
  | brk =>
    obtain ⟨_, _, _, q'⟩ := hs
    exact q'.elim
  | cont =>
    obtain ⟨_, _, _, q'⟩ := hs
    exact q'.elim
theorem def_ok {P : Program} {w : World} {K : PySem.W.Frag} {mg : Str → Option Value} {base : Heap} {k : Nat} {mc : MC} {C : Ctx} {fi : FI} {st : Stmt} {ps : List Str} {b : List CS}
    (Mo : ModOk P w K mg base k mc C) (F : DefM K mg fi.name st ps) (S : FnScope mc.N ps (defScope st)) (hn : ps.length = fi.n) (m : mtB mc (defScope st) b (defBody st) = true)
    (len : ∀ ds M Q E, fi.sp ds M Q E → ds.length = fi.n)
    (h : ∀ ds M Q E, fi.sp ds M Q E → wpB C (fun x _ M => E x M) b (endsD Q) (startD mc.N ds) M) : FnM P w K mg base (k + 1) fi := by
  obtain ⟨f, fd, F, hm, hb⟩ := F.ex
  exact ⟨f, fd, ps, hm, F.kp, fnG_ok Mo F S hn m len h, hb, hn⟩
/-- a method's place -/
structure DefT (K : PySem.W.Frag) (mg : Str → Option Value) (c x q : Str) (st : Stmt) (ps : List Str) : Prop where
  ex : ∃ (C f : Addr) (fd : FuncData), mg c = some (.ref C) ∧ Cls K C ∧ L2.Meth K C x f ∧ Fun K x q st f fd ∧ Binds K fd ps []
theorem met_ok {P : Program} {w : World} {K : PySem.W.Frag} {mg : Str → Option Value} {base : Heap} {k : Nat} {mc : MC} {C : Ctx} {mi : MI} {q : Str} {st : Stmt} {ps : List Str} {b : List CS}
    (Mo : ModOk P w K mg base k mc C) (F : DefT K mg mi.cls mi.name q st ps) (S : FnScope mc.N ps (defScope st)) (hn : ps.length = mi.n) (m : mtB mc (defScope st) b (defBody st) = true)
    (len : ∀ ds M Q E, mi.sp ds M Q E → ds.length = mi.n)
    (h : ∀ ds M Q E, mi.sp ds M Q E → wpB C (fun x _ M => E x M) b (endsD Q) (startD mc.N ds) M) : MtM P w K mg base (k + 1) mi := by
  obtain ⟨Ca, f, fd, h1, h2, h3, F, hb⟩ := F.ex
  exact ⟨Ca, f, fd, ps, h1, h2, h3, fnG_ok Mo F S hn m len h, hb⟩
/-- a class's place: its __init__ -/
structure DefK (K : PySem.W.Frag) (mg : Str → Option Value) (c q : Str) (st : Stmt) (ps : List Str) : Prop where
  ex : ∃ (C f : Addr) (fd : FuncData), mg c = some (.ref C) ∧ Mk K C f ∧ Fun K "__init__" q st f fd ∧ Binds K fd ps []
theorem cls_ok {P : Program} {w : World} {K : PySem.W.Frag} {mg : Str → Option Value} {base : Heap} {k n : Nat} {mc : MC} {C : Ctx} {fi : FI} {spI : DSp} {q : Str} {st : Stmt} {ps : List Str} {b : List CS}
    (Mo : ModOk P w K mg base k mc C) (F : DefK K mg fi.name q st ps) (S : FnScope mc.N ps (defScope st)) (hn : ps.length = n) (m : mtB mc (defScope st) b (defBody st) = true)
    (len : ∀ ds M Q E, spI ds M Q E → ds.length = n)
    (h : ∀ ds M Q E, spI ds M Q E → wpB C (fun x _ M => E x M) b (endsD Q) (startD mc.N ds) M) (imp : ∀ ds M Q E, fi.sp ds M Q E → mkSp fi.name spI ds M Q E) : FnK P w K mg base (k + 1) fi := by
  obtain ⟨Ca, f, fd, h1, h2, F, hb⟩ := F.ex
  exact ⟨Ca, f, fd, ps, spI, h1, h2, fnG_ok Mo F S hn m len h, hb, imp⟩
theorem FnG.mono {P : Program} {w : World} {K : PySem.W.Frag} {mg : Str → Option Value} {base : Heap} {j k : Nat} {f : Addr} {fd : FuncData} {ps : List Str} {sp : DSp} (h : FnG P w K mg base j f fd ps sp) (l : j ≤ k) : FnG P w K mg base k f fd ps sp :=
  ⟨h.len, fun A outer s H args us vs ds M Q E hr => h.run A outer s H args us vs ds M Q E (hr.mono l)⟩
theorem FnK.up {P : Program} {w : World} {K : PySem.W.Frag} {mg : Str → Option Value} {base : Heap} {j k : Nat} {fi : FI} (h : FnK P w K mg base j fi) (l : j + 1 ≤ k) : FnC P w K mg base k fi := .inr ⟨j, l, h⟩
theorem MtM.mono {P : Program} {w : World} {K : PySem.W.Frag} {mg : Str → Option Value} {base : Heap} {j k : Nat} {mi : MI} (h : MtM P w K mg base j mi) (l : j ≤ k) : MtM P w K mg base k mi := by
  obtain ⟨Ca, f, fd, ps, h1, h2, h3, h4, h5⟩ := h
  exact ⟨Ca, f, fd, ps, h1, h2, h3, h4.mono l, h5⟩
end Ow

namespace Ow
open PySem PySem.Spec PyProof.Rows L2
/-! ### the end of a law -/
theorem law_back {P : Program} {w : World} {h : Heap} {a : Addr} {H : Hp} {s1 s2 : Shared} {r : Result} {W : Wd} (hH : ∀ b u, H b = some u → ∃ o xs, u = .frz o (.lst xs)) (ok : HOk P w H s1.heap)
    (z : CR (L2.CX P w) [] P w H s1 (lft W (fun _ => none) H fun v _ => v = .bl true) (lftX W fun _ _ => False) r s2) :
    r = .ok (.ret (.bool true)) ∧ OldK s1.heap s2.heap ∧ s2.os = s1.os ∧ AllBare s2.gens := by
  match r, z with
  | .ok (.ret u), ⟨v, H', os, bare, un, ok2, rv, d, M', xt, rd, am, hd⟩ =>
    have hd' : d = .bl true := hd
    subst hd'
    have hv : v = .bl true := rd
    subst hv
    obtain rfl : u = Value.bool true := rv
    refine ⟨rfl, OldK.of_keep fun b o e => ?_, os, bare⟩
    cases q : H b with
    | none => exact un.keep b o e q (fun z => by cases z) (fun z => by cases z)
    | some u =>
      obtain ⟨o1, xs, rfl⟩ := hH b u q
      have e1 := (ok b _ q).1
      have e2 := (ok2 b _ (un.frzs b o1 _ q)).1
      rw [show o = o1 from Option.some.inj (e.symm.trans e1)]
      exact e2
  | .ok .next, z => exact z.elim
  | .ok .brk, z => exact z.elim
  | .ok .cont, z => exact z.elim
  | .error e, z =>
    obtain ⟨_, _, _, _, _, _, _, _, _, _, _, _, x, M', _, _, f⟩ := z
    exact f.elim
theorem law_callD {P : Program} {w : World} {K : PySem.W.Frag} {mg mb : Str → Option Value} {k : Nat} {fa a : Addr} {x : Str} {sp : DSp} {s1 : Shared} {vs : List Value} {ns : List Int}
    (KX : K.In s1.heap) (hns : s1.heap.Ns mainGlobals mg) (hb : s1.heap.Ns builtinsNs mb) (hbb : ∀ x : Str, x ≠ "__name__" → mb x = bootBuiltins x) (hlim : s1.heap.NoLimit) (hg : s1.gens = #[])
    (ha : s1.heap.get? a = some { cls := .type "list", data := .seq vs.toArray }) (hi : IntsAre vs ns) (hl : ns.length ≤ sizeLine) (hr : Room k callerA) (hgu : callerA.guards = some [])
    (hsys : ∃ o es ep, s1.heap.get? sysModules = some o ∧ o.data = .dict es ep) (F : ∀ base : Heap, SysB base → FnM P w K mg base k ⟨x, 1, sp⟩) (hmg : mg x = some (.ref fa))
    (hsp : sp [.scr ns] (fun _ => none) (fun v _ => v = .bl true) fun _ _ => False) :
    codeAny (model P w) callerA (.call (.ref fa) ⟨[.ref a], []⟩) (fun r s' => r = .ok (.ret (.bool true)) ∧ OldK s1.heap s'.heap ∧ s'.os = s1.os ∧ AllBare s'.gens) s1 := by
  have rv := vals_ints hi
  obtain ⟨H, hH⟩ : ∃ H : Hp, H = (if (K.lookup a).isSome = true then (fun _ => none) else fun b => if b = a then some (.frz { cls := .type "list", data := .seq vs.toArray } (.lst (ns.map V.int))) else none : Hp) := ⟨_, rfl⟩
  have h1 : ∀ b u, H b = some u → b = a ∧ K.lookup a = none ∧ u = .frz { cls := .type "list", data := .seq vs.toArray } (.lst (ns.map V.int)) := by
    intro b u e
    rw [hH] at e
    cases hk : K.lookup a with
    | some o => simp [hk] at e
    | none =>
      simp only [hk, Option.isSome_none, Bool.false_eq_true, if_false] at e
      by_cases hb' : b = a
      · rw [if_pos hb'] at e
        exact ⟨hb', rfl, (Option.some.inj e).symm⟩
      · rw [if_neg hb'] at e; cases e
  have sc : ScrL K H a (ns.map V.int) := by
    cases hk : K.lookup a with
    | some o =>
      have e := KX a o hk
      rw [ha] at e
      cases e
      exact .inr ⟨_, vs.toArray, _, hk, rfl, rfl, rfl, by rw [List.size_toArray, hi.length]; exact hl, rv⟩
    | none => exact .inl ⟨_, by rw [hH]; simp [hk]; rfl⟩
  have ok : HOk P w H s1.heap := by
    intro b u e
    obtain ⟨rfl, _, rfl⟩ := h1 b u e
    exact ⟨ha, by rw [List.length_map]; exact hl, vs, _, rv, ha⟩
  have nsK : ∀ {b : Addr} {m : Str → Option Value}, s1.heap.Ns b m → (hidT s1.heap H).Ns b m := by
    rintro b m ⟨o, es, ep, e, d, r⟩
    refine ⟨o, es, ep, hidT_get e ?_, d, r⟩
    cases q : H b with
    | none => rfl
    | some u =>
      obtain ⟨rfl, _, _⟩ := h1 b u q
      rw [ha] at e
      cases e
      have d' : Data.seq vs.toArray _ = Data.dict es ep := d
      cases d'
  have hKb : K.In (hidT s1.heap H) := by
    intro b o e
    refine hidT_get (KX b o e) ?_
    cases q : H b with
    | none => rfl
    | some u =>
      obtain ⟨rfl, z, _⟩ := h1 b u q
      rw [z] at e; cases e
  obtain ⟨mc, l1, l2⟩ := hlim
  have e0 : Env0 P w K mg (hidT s1.heap H) callerA [] s1 H :=
    ⟨rfl, ⟨hKb, nsK hns, ⟨mb, nsK hb, hbb⟩, ⟨mc, nsK l1, l2⟩⟩, fun b o e => of_hidT e, Nat.le_of_eq (hidT_size _ _), trivial, (fun b z => by cases z), ok, .of_eq hg⟩
  have hsb : SysB (hidT s1.heap H) := by
    obtain ⟨o, es, ep, ho, hc⟩ := hsys
    refine ⟨o, hidT_get ho ?_⟩
    cases q : H sysModules with
    | none => rfl
    | some u =>
      obtain ⟨e1, _, _⟩ := h1 _ u q
      rw [e1, ha] at ho
      cases ho
      have hc' : Data.seq vs.toArray _ = Data.dict es ep := hc
      cases hc'
  obtain ⟨f', fd, ps, m1, _, G, bd, hps⟩ := F (hidT s1.heap H) hsb
  obtain rfl : fa = f' := by rw [hmg] at m1; exact (by cases m1; rfl)
  exact codeAny_mono (G.run callerA [] s1 H ⟨[.ref a], []⟩ [.ref a] [.ref a] [.scr ns] (fun _ => none) _ _ hr hgu e0 (by simpa using bd s1 [.ref a] KX (by simpa using hps.symm)) (.cons rfl .nil) (fun b o e => by cases e) ⟨_, _, rfl, ⟨a, rfl, sc⟩, rfl⟩ hsp)
    fun r s' z => law_back (W := ⟨K, mg⟩) (a := a) (h := s1.heap) (fun b u e => by obtain ⟨_, _, q⟩ := h1 b u e; exact ⟨_, _, q⟩) ok z
theorem walk_ofD {l : PySem.W.OpenLaw} {n k : Nat} {q : Program} {loose : List Str} {XP : (Str → Option Value) → Heap → Prop} {YP : World → Heap → Prop} {d : DefRec} {K : Params → PySem.W.Frag} {sp : DSp}
    (hn : l.most = some n) (hn2 : n ≤ sizeLine) (hdf : d.params.defaults = []) (hr : Room k callerA) (hgu : callerA.guards = some [])
    (hi : importsNone q = true) (hY : ∀ (w : World) (h : Heap), YP w h → (K w.params).In h)
    (F : ∀ (w : World) (mg : Str → Option Value) (h : Heap), (K w.params).In h → h.Ns mainGlobals mg → ∀ base : Heap, SysB base → FnM l.prog w (K w.params) mg base k ⟨d.name, 1, sp⟩)
    (hsp : ∀ (ns : List Int), ns.length ≤ n → (∀ z ∈ ns, Builtin.Int.intBits z ≤ 1048576) → sp [.scr ns] (fun _ => none) (fun v _ => v = .bl true) fun _ _ => False) :
    PySem.W.WalkO q loose XP YP l.row.toRowW d [] (fun f vs => PySem.call f vs) := by
  refine Att.attach_callB hn hdf fun w s0 s1 mg mb fa o pm cd doc a vs ns G Y ho hd hcd hmg hobj hints hlen hbits hg => ?_
  have KX := hY w _ Y
  exact law_callD KX G.T.g G.T.b G.T.builtins G.T.nolimit hg hobj hints (Nat.le_trans hlen hn2) hr hgu (by obtain ⟨mm, ⟨o, es, ep, ho, hd, _⟩, _⟩ := (G.T.seer hi).mods; exact ⟨o, es, ep, ho, hd⟩) (F w mg _ KX G.T.g) hmg (hsp ns hlen hbits)
end Ow

namespace Ow
open PySem PySem.Spec PyProof.Rows L2
/-! ### loops, by what holds at each turn -/
theorem forD_ind {ct : CT} {ok : Mp → Prop} {tb : DTS} {B : DEnds} (I : List D → DSt → Mp → Prop) (hok : ∀ l ρ M, I l ρ M → ok M)
    (step : ∀ x r ρ M, I (x :: r) ρ M → ∀ nx : DSt → Mp → Prop, (∀ ρ' M', I r ρ' M' → nx ρ' M') → bindT ct x ρ fun ρ' => tb { B with nx := nx, ct := nx, bk := B.nx } ρ' M)
    (fin : ∀ ρ M, I [] ρ M → B.nx ρ M) : ∀ l ρ M, I l ρ M → forD ct ok tb B l ρ M
  | [], ρ, M, h => ⟨hok _ _ _ h, fin ρ M h⟩
  | x :: r, ρ, M, h => ⟨hok _ _ _ h, step x r ρ M h _ fun ρ' M' h' => forD_ind I hok step fin r ρ' M' h'⟩
theorem whileD_ind {tc : DTT} {tb : DTS} {B : DEnds} (I : Nat → DSt → Mp → Prop)
    (step : ∀ n ρ M, I n ρ M → ∀ nx : DSt → Mp → Prop, (∀ m ρ' M', m < n → I m ρ' M' → nx ρ' M') → tc ρ M fun k M1 => if k = true then tb { B with nx := nx, ct := nx, bk := B.nx } ρ M1 else B.nx ρ M1) :
    ∀ n ρ M, I n ρ M → ∃ k, whileD tc tb B k ρ M := by
  suffices h : ∀ n N ρ M, n < N → I n ρ M → whileD tc tb B N ρ M from fun n ρ M i => ⟨n + 1, h n (n + 1) ρ M (Nat.lt_succ_self n) i⟩
  intro n
  induction n using Nat.strongRecOn with
  | ind n ih =>
    intro N ρ M hN i
    cases N with
    | zero => omega
    | succ N => exact step n ρ M i _ fun m ρ' M' hm i' => ih m hm N ρ' M' (by omega) i'
theorem cmpL_ind {fz : Bool} {ok : Mp → Prop} {turn : D → Mp → QE → (Mp → Prop) → Prop} {p : Addr} {Q : QE} (I : List D → List D → Mp → Prop) (hok : ∀ l acc M, I l acc M → ok M ∧ M p = some (.lst acc))
    (step : ∀ x r acc M, I (x :: r) acc M → ∀ (add : QE) (skip : Mp → Prop), (∀ d M', M' p = some (.lst acc) → acc.length < sizeLine → I r (acc ++ [d]) (M'.upd p (.lst (acc ++ [d]))) → add d M') → (∀ M', I r acc M' → skip M') → turn x M add skip)
    (fin : ∀ acc M, I [] acc M → if fz = true then Q (.lst acc) (M.del p) else Q (.ref p) M) : ∀ l acc M, I l acc M → cmpL fz ok turn p Q l M
  | [], acc, M, h => by
    obtain ⟨h1, h2⟩ := hok _ _ _ h
    exact ⟨h1, by rw [h2]; exact fin acc M h⟩
  | x :: r, acc, M, h => by
    obtain ⟨h1, h2⟩ := hok _ _ _ h
    refine ⟨h1, step x r acc M h _ _ (fun d M' e hl i => ?_) fun M' i => cmpL_ind I hok step fin r acc M' i⟩
    simp only [e]
    exact ⟨hl, cmpL_ind I hok step fin r (acc ++ [d]) _ i⟩
/-- elements that change nothing -/
theorem cmpL_map {ok : Mp → Prop} {turn : D → Mp → QE → (Mp → Prop) → Prop} {p : Addr} {Q : QE} (g : D → D) {l : List D} {M : Mp} (hp : M p = none) (hl : l.length ≤ sizeLine) (hok : ∀ acc, ok (M.upd p (.lst acc)))
    (h : ∀ x ∈ l, ∀ acc (add : QE) (skip : Mp → Prop), add (g x) (M.upd p (.lst acc)) → turn x (M.upd p (.lst acc)) add skip) (q : Q (.lst (l.map g)) M) : cmpL true ok turn p Q l (M.upd p (.lst [])) := by
  have step : ∀ (x : D) (r acc : List D) (M' : Mp), (M' = M.upd p (.lst acc) ∧ acc ++ (x :: r).map g = l.map g ∧ ∀ y ∈ x :: r, y ∈ l) → ∀ (add : QE) (skip : Mp → Prop),
      (∀ d M'', M'' p = some (.lst acc) → acc.length < sizeLine → (M''.upd p (.lst (acc ++ [d])) = M.upd p (.lst (acc ++ [d])) ∧ (acc ++ [d]) ++ r.map g = l.map g ∧ ∀ y ∈ r, y ∈ l) → add d M'') →
      (∀ M'', (M'' = M.upd p (.lst acc) ∧ acc ++ r.map g = l.map g ∧ ∀ y ∈ r, y ∈ l) → skip M'') → turn x M' add skip := by
    rintro x r acc M' ⟨e, e2, e3⟩ add skip ha hs
    subst e
    refine h x (e3 x List.mem_cons_self) acc add skip (ha _ _ Mp.upd_same ?_ ⟨Mp.upd_upd, by simpa using e2, fun y hy => e3 y (List.mem_cons_of_mem _ hy)⟩)
    have := congrArg List.length e2
    simp at this; omega
  refine cmpL_ind (fun r acc M' => M' = M.upd p (.lst acc) ∧ acc ++ r.map g = l.map g ∧ ∀ y ∈ r, y ∈ l) (fun r acc M' z => by rw [z.1]; exact ⟨hok acc, Mp.upd_same⟩) step (fun acc M' z => ?_) l [] _ ⟨rfl, rfl, fun x h => h⟩
  obtain ⟨e, e2, _⟩ := z
  subst e
  rw [if_pos rfl, Mp.del_upd hp]
  simp at e2; rw [e2]; exact q
/-! ### steps of the reading -/
section
variable {C : Ctx} {E : EX} {ρ : DSt} {M : Mp} {Q : QE} {B : DEnds} {a b c : CE} {i j k : Int} {l : List D} {u : Addr} {d : D}
@[simp] theorem listIn_ref : listIn M (.ref u) = (match M u with | some (.lst l) => some l | _ => none) := rfl
@[simp] theorem listIn_lst : listIn M (.lst l) = some l := rfl
@[simp] theorem listIn_tup : listIn M (.tup l) = none := rfl
@[simp] theorem seqIn_ref : seqIn M (.ref u) = (match M u with | some (.lst l) => some l | _ => none) := rfl
@[simp] theorem seqIn_lst : seqIn M (.lst l) = some l := rfl
@[simp] theorem seqIn_tup : seqIn M (.tup l) = some l := rfl
@[simp] theorem seqIn_scr {ns : List Int} : seqIn M (.scr ns) = some (ns.map D.int) := rfl
@[simp] theorem len_tup : lenD (.tup l) M Q = Q (.int l.length) M := rfl
@[simp] theorem len_lst : lenD (.lst l) M Q = Q (.int l.length) M := rfl
@[simp] theorem len_scr {ns : List Int} : lenD (.scr ns) M Q = Q (.int ns.length) M := by show Q (.int ((ns.map D.int).length : Nat)) M = _; rw [List.length_map]
@[simp] theorem ix_scr {ns : List Int} : ixD (.scr ns) (.int k) M Q = (match atI (ns.map D.int) k with | some d => Q d M | none => False) := rfl
@[simp] theorem binD_add {fz : Bool} : binD .Add fz = addD fz := rfl
@[simp] theorem binD_sub {fz : Bool} : binD .Sub fz = subD := rfl
@[simp] theorem binD_mul {fz : Bool} : binD .Mult fz = mulD fz := rfl
@[simp] theorem binD_div {fz : Bool} : binD .FloorDiv fz = divD := rfl
@[simp] theorem binD_mod {fz : Bool} : binD .Mod fz = modD := rfl
@[simp] theorem binD_pow {fz : Bool} : binD .Pow fz = powD := rfl
@[simp] theorem binD_shl {fz : Bool} : binD .LShift fz = shlD := rfl
@[simp] theorem cmp_lt : cmpD .Lt (.int i) (.int j) M Q = Q (.bl (decide (i < j))) M := rfl
@[simp] theorem cmp_le : cmpD .LtE (.int i) (.int j) M Q = Q (.bl (decide (i ≤ j))) M := rfl
@[simp] theorem cmp_gt : cmpD .Gt (.int i) (.int j) M Q = Q (.bl (decide (j < i))) M := rfl
@[simp] theorem cmp_ge : cmpD .GtE (.int i) (.int j) M Q = Q (.bl (decide (j ≤ i))) M := rfl
@[simp] theorem cmp_eqi : cmpD .Eq (.int i) (.int j) M Q = Q (.bl (decide (i = j))) M := by show Q (.bl (false ^^ decide (i = j))) M = _; rw [Bool.false_xor]
@[simp] theorem cmp_nei : cmpD .NotEq (.int i) (.int j) M Q = Q (.bl (!decide (i = j))) M := by show Q (.bl (true ^^ decide (i = j))) M = _; rw [Bool.true_xor]
@[simp] theorem cmp_eqs {i j : Str} : cmpD .Eq (.str i) (.str j) M Q = Q (.bl (decide (i = j))) M := by show Q (.bl (false ^^ decide (i = j))) M = _; rw [Bool.false_xor]
@[simp] theorem cmp_nes {i j : Str} : cmpD .NotEq (.str i) (.str j) M Q = Q (.bl (!decide (i = j))) M := by show Q (.bl (true ^^ decide (i = j))) M = _; rw [Bool.true_xor]
@[simp] theorem ix_ref : ixD (.ref u) (.int k) M Q = (match M u with | some (.lst l) => (match atI l k with | some d => Q d M | none => False) | some (.dic kvs) => (match valD kvs (.inl k) with | some d => Q d M | none => False) | _ => False) := by
  unfold ixD dgetD getDic dicIn
  simp only [seqIn_ref, keyD]
  cases h : M u with
  | none => rfl
  | some o =>
    cases o with
    | dic kvs => simp only []; cases valD kvs (.inl k) <;> rfl
    | _ => rfl
@[simp] theorem ix_refS {s : Str} : ixD (.ref u) (.str s) M Q = (match M u with | some (.dic kvs) => (match valD kvs (.inr s) with | some d => Q d M | none => False) | _ => False) := by
  unfold ixD dgetD getDic dicIn
  simp only [keyD]
  cases h : M u with
  | none => rfl
  | some o =>
    cases o with
    | dic kvs => simp only []; cases valD kvs (.inr s) <;> rfl
    | _ => rfl
@[simp] theorem cmp_in {x y : D} : cmpD .In x y M Q = inD false x y M Q := rfl
@[simp] theorem cmp_nin {x y : D} : cmpD .NotIn x y M Q = inD true x y M Q := rfl
@[simp] theorem in_tup {n : Bool} {x : D} : inD n x (.tup l) M Q = (scalar x = true ∧ l.all scalar = true ∧ Q (.bl (n ^^ l.any fun z => eqS z x)) M) := rfl
@[simp] theorem in_lst {n : Bool} {x : D} : inD n x (.lst l) M Q = (scalar x = true ∧ l.all scalar = true ∧ Q (.bl (n ^^ l.any fun z => eqS z x)) M) := rfl
theorem in_dic {n : Bool} {x : D} {kvs : List (Key × D)} {kk : Key} (h : M u = some (.dic kvs)) (e : keyD x = some kk) : inD n x (.ref u) M Q = Q (.bl (n ^^ (valD kvs kk).isSome)) M := by
  unfold inD getDic dicIn
  simp only [h, e]
@[simp] theorem ix_tup : ixD (.tup l) (.int k) M Q = (match atI l k with | some d => Q d M | none => False) := rfl
@[simp] theorem ix_lst : ixD (.lst l) (.int k) M Q = (match atI l k with | some d => Q d M | none => False) := rfl
@[simp] theorem atI_z {x : D} : atI (x :: l) 0 = some x := by simp [atI, ixN]
theorem atI_nat {n : Nat} (h : n < l.length) : atI l (n : Int) = some l[n] := by simp [atI, ixN, h]
theorem atI_int (h0 : 0 ≤ k) (h : k < l.length) : ∃ n, ∃ hn : n < l.length, (n : Int) = k ∧ atI l k = some l[n] := by
  obtain ⟨n, rfl⟩ := Int.eq_ofNat_of_zero_le h0
  exact ⟨n, by omega, rfl, atI_nat (by omega)⟩
theorem MulOk.r (h : -(2 ^ 64) < j) (h2 : j < 2 ^ 64) : MulOk i j := .inl (.inr ⟨h, h2⟩)
theorem MulOk.lf (h : -(2 ^ 64) < i) (h2 : i < 2 ^ 64) : MulOk i j := .inl (.inl ⟨h, h2⟩)
@[simp] theorem ends_rt : (endsD Q).rt d M = Fin Q d M := rfl
@[simp] theorem ends_nx : (endsD Q).nx ρ M = Fin Q .non M := rfl
theorem DivOk.of (h0 : 0 < j) (h : j < 10 ^ 60) : DivOk j := by
  refine ⟨h0, ?_⟩
  have h2 : j.natAbs < 2 ^ 200 := by omega
  have h3 : j.natAbs ≠ 0 := by omega
  have := (Nat.log2_lt h3).mpr h2
  omega
@[simp] theorem divOk_89 : DivOk 89 := .of (by decide) (by decide)
@[simp] theorem divOk_2 : DivOk 2 := .of (by decide) (by decide)
theorem PowOk.of (h0 : 0 ≤ j) (m : Nat) (h : i.natAbs < 2 ^ m) (h2 : (m : Int) * j ≤ 2 ^ 27) : PowOk i j :=
  ⟨h0, Int.le_trans (Int.mul_le_mul_of_nonneg_right (Int.ofNat_le.mpr (intBits_le_iff.mpr h)) h0) h2⟩
end
theorem sz {n : Nat} (h : n ≤ 16777216) : n ≤ sizeLine := by
  have : sizeLine = 16777216 := by decide
  omega
@[simp] theorem rev_tup {fz : Bool} {l : List D} {M : Mp} {Q : QE} : revD fz (.tup l) M Q = Q (.tup l.reverse) M := rfl
@[simp] theorem rev_lst {l : List D} {M : Mp} {Q : QE} : revD true (.lst l) M Q = Q (.lst l.reverse) M := rfl
/-! ### isinstance -/
section
variable {t : Ty} {M : Mp} {Q : QE}
@[simp] theorem isi_int {i : Int} : isiD t (.int i) M Q = Q (.bl (isTy t "int")) M := rfl
@[simp] theorem isi_bl {i : Bool} : isiD t (.bl i) M Q = Q (.bl (isTy t "bool")) M := rfl
@[simp] theorem isi_str {i : Str} : isiD t (.str i) M Q = Q (.bl (isTy t "str")) M := rfl
@[simp] theorem isi_non : isiD t .non M Q = Q (.bl (isTy t "NoneType")) M := rfl
@[simp] theorem isi_tup {l : List D} : isiD t (.tup l) M Q = Q (.bl (isTy t "tuple")) M := rfl
@[simp] theorem isi_lst {l : List D} : isiD t (.lst l) M Q = Q (.bl (isTy t "list")) M := rfl
@[simp] theorem is_ii : isTy .int "int" = true := rfl
@[simp] theorem is_ib : isTy .int "bool" = true := rfl
@[simp] theorem is_it : isTy .int "tuple" = false := rfl
@[simp] theorem is_bb : isTy .bool "bool" = true := rfl
@[simp] theorem is_bi : isTy .bool "int" = false := rfl
@[simp] theorem is_tt : isTy .tuple "tuple" = true := rfl
@[simp] theorem is_ti : isTy .tuple "int" = false := rfl
@[simp] theorem is_tl : isTy .tuple "list" = false := rfl
@[simp] theorem is_ll : isTy .list "list" = true := rfl
@[simp] theorem is_ss : isTy .str "str" = true := rfl
end
/-! ### the urn -/
def urnO (g x t : Int) : MO := .lst [.int g, .int x, .int t]
def Urn (M : Mp) (u : Addr) (n : Nat) : Prop := ∃ g x t : Int, M u = some (urnO g x t) ∧ 0 ≤ x ∧ x < 2305843009213693952 ∧ 0 ≤ t ∧ t ≤ n
def Only (M M' : Mp) (u : Addr) : Prop := ∀ a, a ≠ u → M' a = M a
theorem Only.refl {M : Mp} {u : Addr} : Only M M u := fun _ _ => rfl
theorem Only.trans {M M1 M2 : Mp} {u : Addr} (h : Only M M1 u) (k : Only M1 M2 u) : Only M M2 u := fun a e => (k a e).trans (h a e)
theorem Only.upd {M : Mp} {u : Addr} {o : MO} : Only M (M.upd u o) u := fun a e => Mp.upd_ne e
def mc_take : MC := ⟨["_law_urn_here", "_law_many", "_law_turn", "_law_prime", "_law_mixed", "_law_drawn", "_law_digit"], [], [], [], []⟩
def b_take : List CS := [.ifs (.cmp .Gt (.ix (.var 0) (.int 0)) (.int 0)) [.set 6 (.bin .Mod true (.ix (.var 0) (.int 0)) (.var 1)), .setix (.var 0) (.int 0) (.bin .FloorDiv true (.ix (.var 0) (.int 0)) (.var 1)), .ret (.var 6)] [],
    .set 2 (.bin .Add true (.ix (.var 0) (.int 2)) (.int 1)),
    .setix (.var 0) (.int 2) (.var 2),
    .set 3 (.ix (.lst true [.int 2147483647, .int 2147483629, .int 2147483587, .int 2147483579, .int 2147483563, .int 2147483549]) (.bin .Mod true (.var 2) (.int 6))),
    .set 4 (.bin .Mod true (.bin .Pow true (.bin .Add true (.bin .Add true (.ix (.var 0) (.int 1)) (.bin .Mult true (.bin .Mult true (.int 69997) (.var 2)) (.var 2))) (.bin .Mult true (.int 23) (.var 2))) (.int 3)) (.var 3)),
    .set 5 (.bin .FloorDiv true (.bin .Mod true (.bin .Mult true (.var 4) (.bin .Add true (.bin .Mod true (.var 4) (.int 10007)) (.bin .Mult true (.int 17) (.var 2)))) (.int 2305843009213693907)) (.int 89)),
    .ret (.bin .Mod true (.ife (.cmp .Gt (.var 1) (.bin .Pow true (.int 10) (.int 6))) (.bin .Add true (.bin .Mult true (.bin .Mult true (.var 5) (.var 5)) (.var 5)) (.var 5)) (.var 5)) (.var 1))]
def spTake : DSp := fun ds M Q _ => ∃ u many n, ds = [.ref u, .int many] ∧ 0 < many ∧ many < 10 ^ 60 ∧ Urn M u n ∧ n < 2 ^ 60 ∧ ∀ (r : Int) M', 0 ≤ r → r < many → Urn M' u (n + 1) → Only M M' u → Q (.int r) M'
theorem wp_take {C : Ctx} {E : EX} {ds : List D} {M : Mp} {Q : QE} {E' : XD → Mp → Prop} (h : spTake ds M Q E') : wpB C E b_take (endsD Q) (startD mc_take.N ds) M := by
  obtain ⟨u, many, n, rfl, h1, h2, ⟨g, x, t, hM, hx, hx2, ht, htn⟩, hn, q⟩ := h
  have e0 : startD mc_take.N [.ref u, .int many] = [some (.ref u), some (.int many), none, none, none, none, none] := rfl
  rw [e0]
  unfold urnO at hM
  rw [b_take, wpB]
  simp [hM, atI, ixN]
  by_cases hg : 0 < g
  · rw [if_pos hg, wpB]
    simp [hM, h1, atI, ixN]
    rw [wpB]
    simp [hM, h1, atI, ixN, DivOk.of h1 h2]
    rw [wpB]
    simp
    refine Fin.same (q _ _ (Int.emod_nonneg _ (by omega)) (Int.emod_lt_of_pos _ h1) ⟨_, _, _, Mp.upd_same, hx, hx2, ht, by omega⟩ Only.upd)
  · rw [if_neg hg, wpB]
    simp only
    rw [wpB]
    simp [hM, atI, ixN]
    rw [wpB]
    simp [hM, atI, ixN]
    obtain ⟨T, hT⟩ : ∃ T, T = t + 1 := ⟨_, rfl⟩
    rw [← hT]
    rw [wpB]
    simp
    refine ⟨by decide, ?_⟩
    obtain ⟨j, hj, e1, e2⟩ := atI_int (l := [D.int 2147483647, D.int 2147483629, D.int 2147483587, D.int 2147483579, D.int 2147483563, D.int 2147483549]) (k := T % 6) (Int.emod_nonneg _ (by decide)) (Int.emod_lt_of_pos _ (by decide))
    rw [e2]
    have hp : ∃ p : Int, [D.int 2147483647, D.int 2147483629, D.int 2147483587, D.int 2147483579, D.int 2147483563, D.int 2147483549][j] = .int p ∧ 0 < p ∧ p < 2147483648 := by
      have hj' : j < 6 := hj
      match j, hj' with
      | 0, _ => exact ⟨_, rfl, by decide, by decide⟩
      | 1, _ => exact ⟨_, rfl, by decide, by decide⟩
      | 2, _ => exact ⟨_, rfl, by decide, by decide⟩
      | 3, _ => exact ⟨_, rfl, by decide, by decide⟩
      | 4, _ => exact ⟨_, rfl, by decide, by decide⟩
      | 5, _ => exact ⟨_, rfl, by decide, by decide⟩
    obtain ⟨p, ep, hp0, hp1⟩ := hp
    rw [ep]
    simp only
    have hT0 : 0 ≤ T := by omega
    have hT1 : T ≤ 2 ^ 60 := by omega
    have s1 : 0 ≤ 69997 * T * T := Int.mul_nonneg (by omega) hT0
    have s2 : 69997 * T * T ≤ 69997 * 2 ^ 60 * 2 ^ 60 := Int.mul_le_mul (by omega) hT1 hT0 (by decide)
    rw [wpB]
    simp [hM, atI, ixN]
    refine ⟨.r (by omega) (by omega), .r (by omega) (by omega), .r (by omega) (by omega), .of (by decide) 200 (by omega) (by decide), hp0, ?_⟩
    obtain ⟨m, hm⟩ : ∃ m, m = (x + 69997 * T * T + 23 * T) ^ 3 % p := ⟨_, rfl⟩
    have hm0 : 0 ≤ m := by rw [hm]; exact Int.emod_nonneg _ (by omega)
    have hm1 : m < 2147483648 := by rw [hm]; exact Int.lt_trans (Int.emod_lt_of_pos _ hp0) hp1
    rw [← hm]
    rw [wpB]
    simp
    refine ⟨.r (by omega) (by omega), .lf (by omega) (by omega), ?_⟩
    obtain ⟨w, hw⟩ : ∃ w, w = m * (m % 10007 + 17 * T) % 2305843009213693907 / 89 := ⟨_, rfl⟩
    have hw0 : 0 ≤ w := by omega
    have hw1 : w < 2305843009213693907 := by omega
    rw [← hw]
    rw [wpB]
    simp
    refine ⟨.of (by decide) 4 (by decide) (by decide), ?_⟩
    have fin : ∀ y : Int, Fin Q (.int (y % many)) (M.upd u (.lst [.int g, .int x, .int T])) := fun y =>
      Fin.same (q _ _ (Int.emod_nonneg _ (by omega)) (Int.emod_lt_of_pos _ h1) ⟨_, _, _, Mp.upd_same, hx, hx2, hT0, by omega⟩ Only.upd)
    split
    · exact ⟨.r (by omega) (by omega), .r (by omega) (by omega), h1, fin _⟩
    · exact ⟨h1, fin _⟩
def fi_take : FI := ⟨"_law_take", 2, spTake⟩
@[simp] theorem fi_take_sp : fi_take.sp = spTake := rfl
theorem Urn.mono {M : Mp} {u : Addr} {n m : Nat} (h : Urn M u n) (hm : n ≤ m) : Urn M u m := by
  obtain ⟨g, x, t, h1, h2, h3, h4, h5⟩ := h
  exact ⟨g, x, t, h1, h2, h3, h4, by omega⟩
theorem Urn.other {M M' : Mp} {u p : Addr} {n : Nat} (h : Urn M u n) (o : Only M M' p) (hp : p ≠ u) : Urn M' u n := by
  obtain ⟨g, x, t, h1, h2, h3, h4, h5⟩ := h
  exact ⟨g, x, t, (o u fun e => hp e.symm).trans h1, h2, h3, h4, h5⟩
theorem Urn.upd {M : Mp} {u p : Addr} {n : Nat} {o : MO} (h : Urn M u n) (hp : p ≠ u) : Urn (M.upd p o) u n := h.other Only.upd hp
theorem Urn.del {M : Mp} {u p : Addr} {n : Nat} (h : Urn M u n) (hp : p ≠ u) : Urn (M.del p) u n := by
  obtain ⟨g, x, t, h1, h2, h3, h4, h5⟩ := h
  exact ⟨g, x, t, (Mp.del_ne fun e => hp e.symm).trans h1, h2, h3, h4, h5⟩
theorem Urn.ne {M : Mp} {u p : Addr} {n : Nat} (h : Urn M u n) (hp : M p = none) : p ≠ u := by
  obtain ⟨g, x, t, h1, _⟩ := h
  rintro rfl
  rw [h1] at hp; cases hp
def mc_urn : MC := ⟨["_law_script", "_law_k", "_law_cell", "_law_great"], [], [], [], []⟩
def b_urn : List CS := [.set 2 (.ife (.cmp .Lt (.var 1) (.blt .len true [.var 0])) (.ix (.var 0) (.var 1)) (.bin .Add true (.bin .Mult true (.int 13) (.var 1)) (.int 6))),
    .set 3 (.bin .Mult true (.bin .Mod true (.blt .abs true [.var 2]) (.bin .Pow true (.bin .Pow true (.int 10) (.int 60)) (.int 5))) (.blt .int true [.cmp .GtE (.blt .abs true [.var 2]) (.bin .Pow true (.int 10) (.int 18))])),
    .ret (.lst false [.var 3, .bin .Mod true (.bin .Mult true (.bin .Add true (.bin .Add true (.bin .Mod true (.var 2) (.int 2305843009213693951)) (.bin .Mult true (.bin .Mult true (.int 7919) (.var 1)) (.var 1))) (.int 71)) (.int 48271)) (.int 2305843009213693921), .int 0])]
def spUrn : DSp := fun ds M Q _ => ∃ (ns : List Int) (k : Int), ds = [.scr ns, .int k] ∧ 0 ≤ k ∧ k < 2 ^ 60 ∧ ∀ u M', M u = none → Urn M' u 0 → Only M M' u → Q (.ref u) M'
def fi_urn : FI := ⟨"_law_urn", 2, spUrn⟩
@[simp] theorem fi_urn_sp : fi_urn.sp = spUrn := rfl
theorem wp_urn {C : Ctx} {E : EX} {ds : List D} {M : Mp} {Q : QE} {E' : XD → Mp → Prop} (h : spUrn ds M Q E') : wpB C E b_urn (endsD Q) (startD mc_urn.N ds) M := by
  obtain ⟨ns, k, rfl, h1, h2, q⟩ := h
  have e0 : startD mc_urn.N [.scr ns, .int k] = [some (.scr ns), some (.int k), none, none] := rfl
  rw [e0]
  have rest : ∀ c : Int, wpB C E (b_urn.drop 1) (endsD Q) [some (.scr ns), some (.int k), some (.int c), none] M := by
    intro c
    show wpB C E [_, _] _ _ _
    rw [wpB]
    simp
    refine ⟨.of (by decide) 4 (by decide) (by decide), .of (by decide) 200 (by decide) (by decide), .of (by decide) 4 (by decide) (by decide), ?_, ?_⟩
    · split <;> (refine .r ?_ ?_ <;> split <;> decide)
    · rw [wpB]
      simp
      refine ⟨.r (by omega) (by omega), .r (by omega) (by omega), .r (by omega) (by omega), by decide, fun p hp => Fin.same (q p _ hp ⟨_, _, _, Mp.upd_same, Int.emod_nonneg _ (by omega), Int.lt_trans (Int.emod_lt_of_pos _ (by omega)) (by omega), by omega, by omega⟩ Only.upd)⟩
  rw [show b_urn = b_urn.head (by decide) :: b_urn.drop 1 from rfl, wpB]
  simp [b_urn] at rest ⊢
  split
  · rename_i hk
    obtain ⟨j, hj, e1, e2⟩ := atI_int (l := ns.map D.int) h1 (by simpa using hk)
    rw [e2]
    simp
    exact rest _
  · exact ⟨.r (by omega) (by omega), rest _⟩
def mc_pick : MC := ⟨["_law_urn_here", "_law_items"], ["_law_take"], [], [], []⟩
def b_pick : List CS := [.ret (.ix (.var 1) (.call 0 [.var 0, .blt .len true [.var 1]]))]
def cx_pick : Ctx := ⟨[fi_take], [], [], []⟩
@[simp] theorem cx_pick_0 : cx_pick.fs[0]? = some fi_take := rfl
def spPick : DSp := fun ds M Q _ => ∃ u it l n, ds = [.ref u, it] ∧ (it = .lst l ∨ it = .tup l) ∧ l ≠ [] ∧ (l.length : Int) < 10 ^ 60 ∧ Urn M u n ∧ n < 2 ^ 60 ∧ ∀ d M', d ∈ l → Urn M' u (n + 1) → Only M M' u → Q d M'
def fi_pick : FI := ⟨"_law_pick", 2, spPick⟩
@[simp] theorem fi_pick_sp : fi_pick.sp = spPick := rfl
theorem wp_pick {E : EX} {ds : List D} {M : Mp} {Q : QE} {E' : XD → Mp → Prop} (h : spPick ds M Q E') : wpB cx_pick E b_pick (endsD Q) (startD mc_pick.N ds) M := by
  obtain ⟨u, it, l, n, rfl, hit, hne, hl, hU, hn, q⟩ := h
  have e0 : startD mc_pick.N [.ref u, it] = [some (.ref u), some it] := rfl
  rw [e0, b_pick, wpB]
  have hpos : 0 < l.length := List.length_pos_iff.mpr hne
  have key : spTake [.ref u, .int l.length] M (fun d M' => match d with | .int k => (match atI l k with | some d => Fin Q d M' | none => False) | _ => False) fun x M' => E x (wk [some (.ref u), some it]) M' := by
    refine ⟨u, l.length, n, rfl, by omega, hl, hU, hn, fun r M' r0 r1 hU' ho => ?_⟩
    obtain ⟨j, hj, e1, e2⟩ := atI_int (l := l) r0 r1
    simp only [e2]
    exact Fin.same (q _ _ (List.getElem_mem hj) hU' ho)
  have imp : ∀ (Q1 Q2 : QE) E1, (∀ k M', Q1 (.int k) M' → Q2 (.int k) M') → spTake [.ref u, .int l.length] M Q1 E1 → spTake [.ref u, .int l.length] M Q2 E1 := by
    rintro Q1 Q2 E1 m ⟨u', many, n', e, z1, z2, z3, z4, z5⟩
    exact ⟨u', many, n', e, z1, z2, z3, z4, fun r M' a b c d => m _ _ (z5 r M' a b c d)⟩
  rcases hit with rfl | rfl
  · simp
    exact imp _ _ _ (fun k M' z => by simpa using z) key
  · simp
    exact imp _ _ _ (fun k M' z => by simpa using z) key
/-! ### points, boxes, logs -/
abbrev ils (p : List Int) : List D := p.map D.int
abbrev pt (p : List Int) : D := .tup (ils p)
abbrev lg (l : List (List Int)) : D := .tup (l.map pt)
def All2 {α β : Type} (R : α → β → Prop) : List α → List β → Prop
  | [], [] => True
  | x :: xs, y :: ys => R x y ∧ All2 R xs ys
  | _, _ => False
theorem All2.length {α β : Type} {R : α → β → Prop} : ∀ {l : List α} {k : List β}, All2 R l k → l.length = k.length
  | [], [], _ => rfl
  | _ :: _, _ :: _, h => congrArg (· + 1) (All2.length h.2)
theorem All2.snoc {α β : Type} {R : α → β → Prop} : ∀ {l : List α} {k : List β} {x : α} {y : β}, All2 R l k → R x y → All2 R (l ++ [x]) (k ++ [y])
  | [], [], _, _, _, r => ⟨r, trivial⟩
  | _ :: _, _ :: _, _, _, h, r => ⟨h.1, All2.snoc h.2 r⟩
theorem All2.mem {α β : Type} {R : α → β → Prop} : ∀ {l : List α} {k : List β}, All2 R l k → ∀ y ∈ k, ∃ x ∈ l, R x y
  | [], [], _, y, hy => by cases hy
  | _ :: _, _ :: _, h, y, hy => by
    rcases List.mem_cons.mp hy with rfl | hy
    · exact ⟨_, List.mem_cons_self, h.1⟩
    · obtain ⟨x, hx, r⟩ := All2.mem h.2 y hy
      exact ⟨x, List.mem_cons_of_mem _ hx, r⟩
theorem All2.imp {α β : Type} {R S : α → β → Prop} (m : ∀ x y, R x y → S x y) : ∀ {l : List α} {k : List β}, All2 R l k → All2 S l k
  | [], [], _ => trivial
  | _ :: _, _ :: _, h => ⟨m _ _ h.1, All2.imp m h.2⟩
/-- but for the urn and one new cell -/
def Loc (M0 M : Mp) (u p : Addr) : Prop := ∀ a, a ≠ u → a ≠ p → M a = M0 a
theorem Loc.new {M : Mp} {u p : Addr} {o : MO} : Loc M (M.upd p o) u p := fun a _ h => Mp.upd_ne h
theorem Loc.upd {M0 M : Mp} {u p : Addr} {o : MO} (h : Loc M0 M u p) : Loc M0 (M.upd p o) u p := fun a h1 h2 => (Mp.upd_ne h2).trans (h a h1 h2)
theorem Loc.draw {M0 M M' : Mp} {u p : Addr} (h : Loc M0 M u p) (o : Only M M' u) : Loc M0 M' u p := fun a h1 h2 => (o a h1).trans (h a h1 h2)
theorem Loc.del {M0 M : Mp} {u p : Addr} (h : Loc M0 M u p) (hp : M0 p = none) : Only M0 (M.del p) u := fun a h1 => by
  by_cases e : a = p
  · rw [e, Mp.del_same, hp]
  · rw [Mp.del_ne e, h a h1 e]
/-- a list of draws -/
theorem cmpL_urn {ok : Mp → Prop} {turn : D → Mp → QE → (Mp → Prop) → Prop} {p u : Addr} {Q : QE} {M : Mp} {n c : Nat} {l : List D} (P : D → D → Prop) (hp : M p = none) (hU : Urn M u n) (hok : ∀ M', ok M') (hl : l.length ≤ sizeLine)
    (h : ∀ x ∈ l, ∀ M1 m, Urn M1 u m → m ≤ n + c * l.length → Loc M M1 u p → ∀ (add : QE) (skip : Mp → Prop), (∀ d M', P x d → Urn M' u (m + c) → Only M1 M' u → add d M') → turn x M1 add skip)
    (q : ∀ ds M', All2 P l ds → Urn M' u (n + c * l.length) → Only M M' u → Q (.lst ds) M') : cmpL true ok turn p Q l (M.upd p (.lst [])) := by
  have hpu := hU.ne hp
  have step : ∀ (x : D) (r acc : List D) (M1 : Mp), (M1 p = some (.lst acc) ∧ Urn M1 u (n + c * acc.length) ∧ Loc M M1 u p ∧ ∃ l1, l1 ++ x :: r = l ∧ All2 P l1 acc) → ∀ (add : QE) (skip : Mp → Prop),
      (∀ d M', M' p = some (.lst acc) → acc.length < sizeLine → ((M'.upd p (.lst (acc ++ [d]))) p = some (.lst (acc ++ [d])) ∧ Urn (M'.upd p (.lst (acc ++ [d]))) u (n + c * (acc ++ [d]).length) ∧ Loc M (M'.upd p (.lst (acc ++ [d]))) u p ∧ ∃ l1, l1 ++ r = l ∧ All2 P l1 (acc ++ [d])) → add d M') →
      (∀ M', (M' p = some (.lst acc) ∧ Urn M' u (n + c * acc.length) ∧ Loc M M' u p ∧ ∃ l1, l1 ++ r = l ∧ All2 P l1 acc) → skip M') → turn x M1 add skip := by
    rintro x r acc M1 ⟨e1, e2, e3, l1, e4, e5⟩ add skip ha hs
    have hlen := congrArg List.length e4
    rw [List.length_append, List.length_cons, e5.length] at hlen
    refine h x (e4 ▸ List.mem_append_right _ List.mem_cons_self) M1 _ e2 (Nat.add_le_add_left (Nat.mul_le_mul_left c (by omega)) n) e3 add skip fun d M' hP hU' ho => ?_
    refine ha d M' ((ho p hpu).trans e1) (by omega) ⟨Mp.upd_same, ?_, (e3.draw ho).upd, l1 ++ [x], by rw [List.append_assoc]; exact e4, e5.snoc hP⟩
    refine (hU'.upd hpu).mono ?_
    rw [List.length_append, Nat.mul_add, List.length_singleton]
    omega
  refine cmpL_ind (fun r acc M1 => M1 p = some (.lst acc) ∧ Urn M1 u (n + c * acc.length) ∧ Loc M M1 u p ∧ ∃ l1, l1 ++ r = l ∧ All2 P l1 acc) (fun r acc M1 z => ⟨hok M1, z.1⟩) step (fun acc M1 z => ?_) l [] _ ⟨Mp.upd_same, (hU.upd hpu).mono (Nat.le_add_right _ _), Loc.new, [], rfl, trivial⟩
  obtain ⟨e1, e2, e3, l1, e4, e5⟩ := z
  rw [if_pos rfl]
  rw [List.append_nil] at e4
  subst e4
  refine q acc _ e5 ?_ (e3.del hp)
  rw [e5.length]
  exact e2.del hpu
def mc_box : MC := ⟨["_law_urn_here", "_law_axes", "_law_most", "_law_found", "_law_axis"], ["_law_take", "_law_pick"], [], [], []⟩
def b_box : List CS := [.set 3 (.lst false []),
    .for (.nm 4) .rng1 [.bin .Add true (.int 1) (.call 0 [.var 0, .var 1])] [.expr (.mth .append (.var 3) (.call 1 [.var 0, .lst true [.bin .Add true (.int 1) (.call 0 [.var 0, .var 2]), .bin .Add true (.int 1) (.call 0 [.var 0, .var 2]), .int 1, .var 2]]))],
    .ret (.blt .tuple true [.var 3])]
def cx_box : Ctx := ⟨[fi_take, fi_pick], [], [], []⟩
@[simp] theorem cx_box_0 : cx_box.fs[0]? = some fi_take := rfl
@[simp] theorem cx_box_1 : cx_box.fs[1]? = some fi_pick := rfl
def spBox : DSp := fun ds M Q _ => ∃ (u : Addr) (axes most : Int) (n : Nat), ds = [.ref u, .int axes, .int most] ∧ 1 ≤ axes ∧ axes ≤ 1000 ∧ 1 ≤ most ∧ most < 10 ^ 59 ∧ Urn M u n ∧ n < 2 ^ 59 ∧
  ∀ (bs : List Int) M', bs ≠ [] → (bs.length : Int) ≤ axes → (∀ b ∈ bs, 1 ≤ b ∧ b ≤ most) → Urn M' u (n + 4000) → Only M M' u → Q (pt bs) M'
def fi_box : FI := ⟨"_law_box", 3, spBox⟩
@[simp] theorem fi_box_sp : fi_box.sp = spBox := rfl
theorem wp_box {E : EX} {ds : List D} {M : Mp} {Q : QE} {E' : XD → Mp → Prop} (h : spBox ds M Q E') : wpB cx_box E b_box (endsD Q) (startD mc_box.N ds) M := by
  obtain ⟨u, axes, most, n, rfl, h1, h2, h3, h4, hU, hn, q⟩ := h
  have e0 : startD mc_box.N [.ref u, .int axes, .int most] = [some (.ref u), some (.int axes), some (.int most), none, none] := rfl
  rw [e0, b_box, wpB]
  simp
  intro p hp
  have hpu := hU.ne hp
  rw [wpB]
  simp [itD]
  refine ⟨u, axes, n, rfl, by omega, by omega, hU.upd hpu, by omega, fun r M1 r0 r1 hU1 ho => ?_⟩
  refine ⟨⟨by omega, by omega⟩, ?_⟩
  have hM1 : M1 p = some (.lst []) := (ho p hpu).trans Mp.upd_same
  refine forD_ind (fun rest ρ M2 => ∃ (ss : List Int) (x4 : Option D), ρ = [some (.ref u), some (.int axes), some (.int most), some (.ref p), x4] ∧ M2 p = some (.lst (ils ss)) ∧ Urn M2 u (n + 1 + 3 * ss.length) ∧ Loc M M2 u p ∧ (∀ b ∈ ss, 1 ≤ b ∧ b ≤ most) ∧ ss.length + rest.length = (1 + r).toNat)
    (fun _ _ _ _ => trivial) (fun x rest ρ M2 hI nx hnx => ?_) (fun ρ M2 hI => ?_) _ _ _ ⟨[], none, rfl, hM1, hU1, Loc.new.draw ho, by simp, by simp⟩
  · obtain ⟨ss, x4, rfl, g1, g2, g3, g4, g5⟩ := hI
    rw [List.length_cons] at g5
    simp
    rw [wpB]
    simp [g1]
    refine ⟨u, most, _, rfl, by omega, by omega, g2, by omega, fun a M3 a0 a1 hU3 ho3 => ?_⟩
    refine ⟨u, most, _, rfl, by omega, by omega, hU3, by omega, fun b M4 b0 b1 hU4 ho4 => ⟨by decide, ?_⟩⟩
    refine ⟨u, _, _, _, rfl, .inl rfl, by simp, by simp, hU4, by omega, fun d M5 hd hU5 ho5 => ?_⟩
    have hd' : ∃ s, d = .int s ∧ 1 ≤ s ∧ s ≤ most := by
      simp at hd
      rcases hd with rfl | rfl | rfl | rfl
      · exact ⟨_, rfl, by omega, by omega⟩
      · exact ⟨_, rfl, by omega, by omega⟩
      · exact ⟨_, rfl, by omega, by omega⟩
      · exact ⟨_, rfl, by omega, by omega⟩
    obtain ⟨s, rfl, s0, s1⟩ := hd'
    have e5 : M5 p = some (.lst (ils ss)) := (ho5 p hpu).trans ((ho4 p hpu).trans ((ho3 p hpu).trans g1))
    simp only [e5]
    refine ⟨by rw [List.length_map]; have : sizeLine = 16777216 := by decide
               omega, ?_⟩
    rw [wpB]
    refine hnx _ _ ⟨ss ++ [s], some x, rfl, by simp [ils], (hU5.upd hpu).mono (by rw [List.length_append, List.length_singleton]; omega), (((g3.draw ho3).draw ho4).draw ho5).upd, ?_, by rw [List.length_append, List.length_singleton]; omega⟩
    intro b' hb'
    rcases List.mem_append.mp hb' with z | z
    · exact g4 _ z
    · rw [List.mem_singleton] at z; subst z; exact ⟨s0, s1⟩
  · obtain ⟨ss, x4, rfl, g1, g2, g3, g4, g5⟩ := hI
    simp at g5
    show wpB _ _ _ _ _ _
    rw [wpB]
    simp [g1]
    refine Fin.sub Mp.sub_del (q ss _ (fun e => ?_) (by omega) g4 ((g2.del hpu).mono (by omega)) (g3.del hp))
    rw [e] at g5; simp at g5; omega
/-! ### what repr may be asked of -/
structure Shw (m : Nat) (d : D) (k b : Nat) : Prop where
  flat : d.flx = true
  sh : d.py.showable = true
  dp : d.py.depth ≤ k
  lv : d.py.leavesShort (m + 1) = true
  bk : d.py.bulk ≤ b
theorem Shw.ok {m : Nat} {d : D} {k b : Nat} (h : Shw m d k b) (hm : 7 ≤ m) (hk : k ≤ 64) (hb : (m + 3) * b + m + 1 ≤ 16777216) : ShowOk d := by
  refine ⟨h.flat, h.sh, Nat.le_trans h.dp hk, ?_⟩
  have z := PyData.shown_le_bulk (m + 1) (by omega) d.py h.lv
  have z2 : (m + 1 + 2) * d.py.bulk ≤ (m + 3) * b := Nat.mul_le_mul (by omega) h.bk
  have : sizeLine = 16777216 := by decide
  omega
theorem Shw.int {m : Nat} {i : Int} (hm : 0 < m) (h : i.natAbs < 10 ^ m) (h2 : m ≤ 400) : Shw m (.int i) 0 0 := by
  have hl : i.natAbs.log2 < 1920 := by
    by_cases e : i.natAbs = 0
    · rw [e]; decide
    · have : i.natAbs < 2 ^ (4 * m) := by
        rw [Nat.pow_mul]
        exact Nat.lt_of_lt_of_le h (Nat.pow_le_pow_left (by decide) m)
      have := (Nat.log2_lt e).mpr this
      omega
  refine ⟨rfl, ?_, by simp only [D.py, PyData.depth]; omega, ?_, by simp only [D.py, PyData.bulk]; omega⟩
  · simp only [D.py, PyData.showable, decide_eq_true_eq]; omega
  · have z := int_text_length_le10 hm h
    simp only [D.py, PyData.leavesShort, PyData.shown]
    refine decide_eq_true (Nat.le_trans (Nat.le_of_eq ?_) z)
    exact PySem.ofString_length _
theorem Shw.bl {m : Nat} {i : Bool} : Shw m (.bl i) 0 0 := by
  refine ⟨rfl, by simp only [D.py, PyData.showable], by simp only [D.py, PyData.depth]; omega, by simp only [D.py, PyData.leavesShort], by simp only [D.py, PyData.bulk]; omega⟩
theorem Shw.mono {m : Nat} {d : D} {k b k' b' : Nat} (h : Shw m d k b) (hk : k ≤ k') (hb : b ≤ b') : Shw m d k' b' := ⟨h.flat, h.sh, Nat.le_trans h.dp hk, h.lv, Nat.le_trans h.bk hb⟩
theorem Shw.alls {m k b : Nat} : ∀ {l : List D}, (∀ d ∈ l, Shw m d k b) → D.flxs l = true ∧ PyData.showableAll (D.pys l) = true ∧ PyData.depthAll (D.pys l) ≤ k ∧ PyData.leavesShortAll (m + 1) (D.pys l) = true ∧ PyData.bulkAll (D.pys l) ≤ l.length * (b + 1)
  | [], _ => ⟨rfl, by simp only [D.pys, PyData.showableAll], by simp only [D.pys, PyData.depthAll]; omega, by simp only [D.pys, PyData.leavesShortAll], by simp only [D.pys, PyData.bulkAll]; omega⟩
  | d :: l, h => by
    obtain ⟨a1, a2, a4, a5, a6⟩ := Shw.alls (l := l) fun x hx => h x (List.mem_cons_of_mem _ hx)
    have hd := h d List.mem_cons_self
    refine ⟨?_, ?_, ?_, ?_, ?_⟩
    · show (d.flx && D.flxs l) = true; rw [hd.flat, a1]; rfl
    · simp only [D.pys, PyData.showableAll, hd.sh, a2]; rfl
    · simp only [D.pys, PyData.depthAll]; exact Nat.max_le.mpr ⟨hd.dp, a4⟩
    · simp only [D.pys, PyData.leavesShortAll, hd.lv, a5]; rfl
    · simp only [D.pys, PyData.bulkAll, List.length_cons, Nat.add_mul]
      have := hd.bk
      omega
theorem Shw.tup {m k b n : Nat} {l : List D} (h : ∀ d ∈ l, Shw m d k b) (hn : l.length ≤ n) : Shw m (.tup l) (k + 1) (n * (b + 1)) := by
  obtain ⟨a1, a2, a4, a5, a6⟩ := Shw.alls h
  refine ⟨a1, by simp only [D.py, PyData.showable]; exact a2, by simp only [D.py, PyData.depth]; omega, by simp only [D.py, PyData.leavesShort]; exact a5, ?_⟩
  simp only [D.py, PyData.bulk]
  exact Nat.le_trans a6 (Nat.mul_le_mul_right _ hn)
theorem Shw.lst {m k b n : Nat} {l : List D} (h : ∀ d ∈ l, Shw m d k b) (hn : l.length ≤ n) : Shw m (.lst l) (k + 1) (n * (b + 1)) := by
  obtain ⟨a1, a2, a4, a5, a6⟩ := Shw.alls h
  refine ⟨a1, by simp only [D.py, PyData.showable]; exact a2, by simp only [D.py, PyData.depth]; omega, by simp only [D.py, PyData.leavesShort]; exact a5, ?_⟩
  simp only [D.py, PyData.bulk]
  exact Nat.le_trans a6 (Nat.mul_le_mul_right _ hn)
theorem Shw.ils {m : Nat} {p : List Int} (hm : 0 < m) (h2 : m ≤ 400) (h : ∀ i ∈ p, i.natAbs < 10 ^ m) : ∀ d ∈ ils p, Shw m d 0 0 := by
  intro d hd
  obtain ⟨i, hi, rfl⟩ := List.mem_map.mp hd
  exact .int hm (h i hi) h2
theorem ShowOk.int {i : Int} (h : i.natAbs < 10 ^ 200) : ShowOk (.int i) := (Shw.int (m := 200) (by decide) h (by decide)).ok (by decide) (by decide) (by decide)
theorem ShowOk.bl {i : Bool} : ShowOk (.bl i) := (Shw.bl (m := 200)).ok (by decide) (by decide) (by decide)
/-! ### the module's defs, as the head gives them -/
theorem defM_mk {K : PySem.W.Frag} {h : Heap} {mg : Str → Option Value} {x : Str} {st : Stmt} {ps : List Str} {f : Addr} {oc : Value} {od an : Option Addr} {sl : Array (Option Value)} {kV doc pm cd ct : Value} (X : K.In h) (G : h.Ns mainGlobals mg)
    (a : PySem.W.nsIn K mainGlobals x = some (some (.ref f))) (l : K.lookup f = some ⟨oc, od, .func (PySem.W.fnOf x x (defArgs st) (defBody st) (defScope st) .none kV doc pm an cd ct), sl⟩) (c : PySem.W.codeIn K cd x = true) (k : PySem.W.keepIn K (.ref f) = true)
    (b : ∀ (kV doc pm : Value) (an : Option Addr) (cdv ct : Value) (us : List Value), us.length = ps.length → bindArgs (PySem.W.fnOf x x (defArgs st) (defBody st) (defScope st) .none kV doc pm an cdv ct) ⟨us, []⟩ = pure (ps.zip us)) : DefM K mg x st ps :=
  ⟨f, _, fun_mk l c k, PySem.W.mg_of X G a, (fun_mk l c k).binds b⟩
theorem blt_mk {K : PySem.W.Frag} {h : Heap} {mg : Str → Option Value} (X : K.In h) (G : h.Ns mainGlobals mg)
    (z0 : PySem.W.nsIn K mainGlobals "len" = some none) (z1 : PySem.W.nsIn K mainGlobals "abs" = some none) (z2 : PySem.W.nsIn K mainGlobals "max" = some none) (z3 : PySem.W.nsIn K mainGlobals "min" = some none) (z4 : PySem.W.nsIn K mainGlobals "sum" = some none)
    (z5 : PySem.W.nsIn K mainGlobals "all" = some none) (z6 : PySem.W.nsIn K mainGlobals "any" = some none) (z7 : PySem.W.nsIn K mainGlobals "repr" = some none) (z8 : PySem.W.nsIn K mainGlobals "divmod" = some none) (z9 : PySem.W.nsIn K mainGlobals "tuple" = some none)
    (z10 : PySem.W.nsIn K mainGlobals "list" = some none) (z11 : PySem.W.nsIn K mainGlobals "int" = some none) (z12 : PySem.W.nsIn K mainGlobals "str" = some none) (z13 : PySem.W.nsIn K mainGlobals "bool" = some none) (z14 : PySem.W.nsIn K mainGlobals "range" = some none)
    (z15 : PySem.W.nsIn K mainGlobals "zip" = some none) (z16 : PySem.W.nsIn K mainGlobals "enumerate" = some none) (z17 : PySem.W.nsIn K mainGlobals "isinstance" = some none) (z18 : PySem.W.nsIn K mainGlobals "dict" = some none)
    (z19 : PySem.W.nsIn K mainGlobals "sorted" = some none) (z20 : PySem.W.nsIn K mainGlobals "set" = some none) (z21 : PySem.W.nsIn K mainGlobals "reversed" = some none) : ∀ x ∈ bltNames, mg x = none := by
  have n := fun {x : Str} (z : PySem.W.nsIn K mainGlobals x = some none) => PySem.W.mg_none_of X G z
  intro x hx
  simp only [bltNames, List.mem_cons, List.mem_nil_iff, or_false] at hx
  rcases hx with rfl | rfl | rfl | rfl | rfl | rfl | rfl | rfl | rfl | rfl | rfl | rfl | rfl | rfl | rfl | rfl | rfl | rfl | rfl | rfl | rfl | rfl
  all_goals first
    | exact n z0
    | exact n z1
    | exact n z2
    | exact n z3
    | exact n z4
    | exact n z5
    | exact n z6
    | exact n z7
    | exact n z8
    | exact n z9
    | exact n z10
    | exact n z11
    | exact n z12
    | exact n z13
    | exact n z14
    | exact n z15
    | exact n z16
    | exact n z17
    | exact n z18
    | exact n z19
    | exact n z20
    | exact n z21
theorem fok_nil {P : Program} {w : World} {K : PySem.W.Frag} {mg : Str → Option Value} {base : Heap} {k : Nat} : ∀ fi ∈ ([] : List FI), FnC P w K mg base k fi := fun _ h => by cases h
theorem gok_nil {K : PySem.W.Frag} {mg : Str → Option Value} : ∀ g ∈ ([] : List GI), GM K mg g := fun _ h => by cases h
theorem gint_mk {K : PySem.W.Frag} {h : Heap} {mg : Str → Option Value} {x : Str} {i : Int} {t : Tok} (X : K.In h) (G : h.Ns mainGlobals mg) (a : PySem.W.nsIn K mainGlobals x = some (some (.int i t))) : GM K mg ⟨x, .int i⟩ :=
  ⟨.int i, .int i t, PySem.W.mg_of X G a, ⟨t, rfl⟩, fun _ _ _ => rfl⟩
theorem gok_cons {K : PySem.W.Frag} {mg : Str → Option Value} {g : GI} {l : List GI} (h : GM K mg g) (t : ∀ fi ∈ l, GM K mg fi) : ∀ fi ∈ g :: l, GM K mg fi := fun fi hm =>
  (List.mem_cons.mp hm).elim (fun e => e ▸ h) (t fi)
theorem fok_cons {P : Program} {w : World} {K : PySem.W.Frag} {mg : Str → Option Value} {base : Heap} {k : Nat} {f : FI} {l : List FI} (h : FnM P w K mg base k f) (t : ∀ fi ∈ l, FnC P w K mg base k fi) : ∀ fi ∈ f :: l, FnC P w K mg base k fi := fun fi hm =>
  (List.mem_cons.mp hm).elim (fun e => e ▸ .inl h) (t fi)
theorem fok_consK {P : Program} {w : World} {K : PySem.W.Frag} {mg : Str → Option Value} {base : Heap} {k : Nat} {f : FI} {l : List FI} (h : FnC P w K mg base k f) (t : ∀ fi ∈ l, FnC P w K mg base k fi) : ∀ fi ∈ f :: l, FnC P w K mg base k fi := fun fi hm =>
  (List.mem_cons.mp hm).elim (fun e => e ▸ h) (t fi)
/-! ### own classes, as the head gives them -/
def clsBody : Stmt → List Stmt
  | .ClassDef _ _ _ b .. => b
  | _ => []
theorem defT_mk {K : PySem.W.Frag} {h : Heap} {mg : Str → Option Value} {c x q : Str} {st : Stmt} {ps : List Str} {C f : Addr} {oc : Value} {od an : Option Addr} {sl : Array (Option Value)} {kV doc pm cd ct : Value} (X : K.In h) (G : h.Ns mainGlobals mg)
    (hc : PySem.W.nsIn K mainGlobals c = some (some (.ref C))) (pg : PySem.W.plainGet K C Str.empty = true) (hd : PySem.W.hasDictIn K C = true) (po : PySem.W.plainOver K C = true) (sa : PySem.W.findIn K (.ref C) "__setattr__" = some (some (.builtin "object.__setattr__")))
    (at_ : PySem.W.findIn K (.ref C) x = some (some (.ref f))) (fn : PySem.W.isFn K (.ref f) = true) (kp : PySem.W.keepIn K (.ref f) = true)
    (l : K.lookup f = some ⟨oc, od, .func (PySem.W.fnOf x q (defArgs st) (defBody st) (defScope st) .none kV doc pm an cd ct), sl⟩) (hcd : PySem.W.codeIn K cd q = true)
    (b : ∀ (kV doc pm : Value) (an : Option Addr) (cdv ct : Value) (us : List Value), us.length = ps.length → bindArgs (PySem.W.fnOf x q (defArgs st) (defBody st) (defScope st) .none kV doc pm an cdv ct) ⟨us, []⟩ = pure (ps.zip us)) : DefT K mg c x q st ps :=
  ⟨C, f, _, PySem.W.mg_of X G hc, ⟨pg, hd, po, sa⟩, ⟨at_, fn, kp⟩, fun_mk l hcd kp, (fun_mk l hcd kp).binds b⟩
theorem defK_mk {K : PySem.W.Frag} {h : Heap} {mg : Str → Option Value} {c q : Str} {st : Stmt} {ps : List Str} {C f : Addr} {oc : Value} {od an : Option Addr} {sl : Array (Option Value)} {kV doc pm cd ct : Value} (X : K.In h) (G : h.Ns mainGlobals mg)
    (hc : PySem.W.nsIn K mainGlobals c = some (some (.ref C))) (mk : PySem.W.makesIn K C = true) (ini : PySem.W.findIn K (.ref C) "__init__" = some (some (.ref f))) (fn : PySem.W.isFn K (.ref f) = true) (kp : PySem.W.keepIn K (.ref C) = true)
    (l : K.lookup f = some ⟨oc, od, .func (PySem.W.fnOf "__init__" q (defArgs st) (defBody st) (defScope st) .none kV doc pm an cd ct), sl⟩) (hcd : PySem.W.codeIn K cd q = true) (kf : PySem.W.keepIn K (.ref f) = true)
    (b : ∀ (kV doc pm : Value) (an : Option Addr) (cdv ct : Value) (us : List Value), us.length = ps.length → bindArgs (PySem.W.fnOf "__init__" q (defArgs st) (defBody st) (defScope st) .none kV doc pm an cdv ct) ⟨us, []⟩ = pure (ps.zip us)) : DefK K mg c q st ps :=
  ⟨C, f, _, PySem.W.mg_of X G hc, ⟨mk, ini, fn, kp⟩, fun_mk l hcd kf, (fun_mk l hcd kf).binds b⟩
theorem atM_nil {K : PySem.W.Frag} {mg : Str → Option Value} {f : Str} : AtM K mg ⟨f, []⟩ := fun _ h => by cases h
theorem atM_cons {K : PySem.W.Frag} {h : Heap} {mg : Str → Option Value} {c f : Str} {cs : List Str} {C : Addr} (X : K.In h) (G : h.Ns mainGlobals mg) (hc : PySem.W.nsIn K mainGlobals c = some (some (.ref C))) (pg : PySem.W.plainGet K C Str.empty = true) (hd : PySem.W.hasDictIn K C = true)
    (po : PySem.W.plainOver K C = true) (sa : PySem.W.findIn K (.ref C) "__setattr__" = some (some (.builtin "object.__setattr__"))) (no : PySem.W.findIn K (.ref C) f = some none) (t : AtM K mg ⟨f, cs⟩) : AtM K mg ⟨f, c :: cs⟩ := fun x hx =>
  (List.mem_cons.mp hx).elim (fun e => ⟨C, e ▸ PySem.W.mg_of X G hc, ⟨pg, hd, po, sa⟩, no⟩) (t x)
theorem aok_nil {K : PySem.W.Frag} {mg : Str → Option Value} : ∀ a ∈ ([] : List AI), AtM K mg a := fun _ h => by cases h
theorem aok_cons {K : PySem.W.Frag} {mg : Str → Option Value} {g : AI} {l : List AI} (h : AtM K mg g) (t : ∀ a ∈ l, AtM K mg a) : ∀ a ∈ g :: l, AtM K mg a := fun a hm =>
  (List.mem_cons.mp hm).elim (fun e => e ▸ h) (t a)
theorem mok_nil {P : Program} {w : World} {K : PySem.W.Frag} {mg : Str → Option Value} {base : Heap} {k : Nat} : ∀ m ∈ ([] : List MI), MtM P w K mg base k m := fun _ h => by cases h
theorem mok_cons {P : Program} {w : World} {K : PySem.W.Frag} {mg : Str → Option Value} {base : Heap} {k : Nat} {f : MI} {l : List MI} (h : MtM P w K mg base k f) (t : ∀ m ∈ l, MtM P w K mg base k m) : ∀ m ∈ f :: l, MtM P w K mg base k m := fun m hm =>
  (List.mem_cons.mp hm).elim (fun e => e ▸ h) (t m)
/-! ### lists of ints -/
@[simp] theorem intsOf_ils (p : List Int) : intsOf (ils p) = some p := intsOf_map p
@[simp] theorem intsOf_fn {α : Type} (f : α → Int) (p : List α) : intsOf (p.map fun n => D.int (f n)) = some (p.map f) := by
  rw [← intsOf_map (p.map f), List.map_map]; rfl
@[simp] theorem intsOf_cmp {α : Type} (f : α → Int) (p : List α) : intsOf (p.map (D.int ∘ f)) = some (p.map f) := intsOf_fn f p
@[simp] theorem boolsOf_fn {α : Type} (f : α → Bool) (p : List α) : boolsOf (p.map fun n => D.bl (f n)) = some (p.map f) := by
  rw [← boolsOf_map (p.map f), List.map_map]; rfl
@[simp] theorem boolsOf_cmp {α : Type} (f : α → Bool) (p : List α) : boolsOf (p.map (D.bl ∘ f)) = some (p.map f) := boolsOf_fn f p
@[simp] theorem boolsOf_bls (p : List Bool) : boolsOf (p.map D.bl) = some p := boolsOf_map p
/-! ### bits -/
abbrev ib (i : Int) : Int := (Builtin.Int.intBits i : Nat)
theorem ib_half {a : Int} (h : 1 < a) : ib (a / 2) = ib a - 1 := by
  have e1 : (a == 0) = false := by simp; omega
  have e2 : (a / 2 == 0) = false := by simp; omega
  have e3 : (a / 2).natAbs = a.natAbs / 2 := by omega
  unfold ib Builtin.Int.intBits
  simp only [e1, e2, Bool.false_eq_true, if_false, e3]
  have : a.natAbs.log2 = (a.natAbs / 2).log2 + 1 := by
    rw [Nat.log2_def]
    simp only [show a.natAbs ≥ 2 by omega, if_true]
  omega
theorem ib_one : ib 1 = 1 := by decide
theorem ib_le {a : Int} {m : Nat} (h : a.natAbs < 2 ^ m) : ib a ≤ m := Int.ofNat_le.mpr (intBits_le_iff.mpr h)
theorem ib_nn {a : Int} : 0 ≤ ib a := Int.ofNat_nonneg _
def mc_bits : MC := ⟨["number"], [], [], [], []⟩
def b_bits : List CS := [.ret (.bin .Sub true (.bitlen (.var 0)) (.int 1))]
def spBits : DSp := fun ds M Q _ => ∃ i, ds = [.int i] ∧ Q (.int (ib i - 1)) M
def fi_bits : FI := ⟨"bits", 1, spBits⟩
@[simp] theorem fi_bits_sp : fi_bits.sp = spBits := rfl
theorem wp_bits {C : Ctx} {E : EX} {ds : List D} {M : Mp} {Q : QE} {E' : XD → Mp → Prop} (h : spBits ds M Q E') : wpB C E b_bits (endsD Q) (startD mc_bits.N ds) M := by
  obtain ⟨i, rfl, q⟩ := h
  rw [show startD mc_bits.N [.int i] = [some (.int i)] from rfl, b_bits, wpB]
  simp
  exact Fin.same q
def mc_value_of : MC := ⟨["slack", "number"], ["bits"], [], [], []⟩
def b_value_of : List CS := [.ret (.blt .sum true [.comp true (.call 0 [.var 1]) (.nm 1) .seq [.var 0] [1]])]
def cx_value_of : Ctx := ⟨[fi_bits], [], [], []⟩
@[simp] theorem cx_value_of_0 : cx_value_of.fs[0]? = some fi_bits := rfl
def valueOf (ns : List Int) : Int := (ns.map fun n => ib n - 1).sum
def spValue : DSp := fun ds M Q _ => ∃ d ns, ds = [d] ∧ (d = .tup (ils ns) ∨ d = .lst (ils ns)) ∧ ns.length ≤ sizeLine ∧ Q (.int (valueOf ns)) M
def fi_value_of : FI := ⟨"value_of", 1, spValue⟩
@[simp] theorem fi_value_of_sp : fi_value_of.sp = spValue := rfl
theorem wp_value_of {E : EX} {ds : List D} {M : Mp} {Q : QE} {E' : XD → Mp → Prop} (h : spValue ds M Q E') : wpB cx_value_of E b_value_of (endsD Q) (startD mc_value_of.N ds) M := by
  obtain ⟨d, ns, rfl, hd, hl, q⟩ := h
  rw [show startD mc_value_of.N [d] = [some d, none] from rfl, b_value_of, wpB]
  have hs : seqIn M d = some (ils ns) := by rcases hd with rfl | rfl <;> rfl
  have hst : ∀ M', still M [d] M' := fun M' => by rcases hd with rfl | rfl <;> trivial
  simp [itD, hs]
  intro p hp
  refine cmpL_map (fun d => match d with | .int n => .int (ib n - 1) | _ => .non) hp (by simpa using hl) (fun acc => hst _) (fun x hx acc add skip ha => ?_) ?_
  · obtain ⟨n, _, rfl⟩ := List.mem_map.mp hx
    simp [turnC, wipeD, spBits]
    exact ha
  · have e : (ils ns).map (fun d => match d with | .int n => D.int (ib n - 1) | _ => .non) = ils (ns.map fun n => ib n - 1) := by simp [ils]
    rw [e]
    simp
    exact Fin.same q
def mc_bound : MC := ⟨["box"], ["value_of"], [], [], []⟩
def b_bound : List CS := [.ret (.bin .Add true (.int 1) (.call 0 [.var 0]))]
def cx_bound : Ctx := ⟨[fi_value_of], [], [], []⟩
@[simp] theorem cx_bound_0 : cx_bound.fs[0]? = some fi_value_of := rfl
def spBound : DSp := fun ds M Q _ => ∃ ns, ds = [pt ns] ∧ ns.length ≤ sizeLine ∧ Q (.int (1 + valueOf ns)) M
def fi_bound : FI := ⟨"bound", 1, spBound⟩
@[simp] theorem fi_bound_sp : fi_bound.sp = spBound := rfl
theorem wp_bound {E : EX} {ds : List D} {M : Mp} {Q : QE} {E' : XD → Mp → Prop} (h : spBound ds M Q E') : wpB cx_bound E b_bound (endsD Q) (startD mc_bound.N ds) M := by
  obtain ⟨ns, rfl, hl, q⟩ := h
  rw [show startD mc_bound.N [pt ns] = [some (pt ns)] from rfl, b_bound, wpB]
  simp
  exact ⟨_, ns, rfl, .inl rfl, hl, Fin.same q⟩
def mc_q_bits : MC := ⟨["_law_number", "_law_found"], [], [], [], []⟩
def b_q_bits : List CS := [.set 1 (.int 0),
    .whl (.cmp .Gt (.var 0) (.int 1)) [.set 0 (.bin .FloorDiv true (.var 0) (.int 2)), .set 1 (.bin .Add true (.var 1) (.int 1))],
    .ret (.var 1)]
def spQBits : DSp := fun ds M Q _ => ∃ i, ds = [.int i] ∧ 1 ≤ i ∧ Q (.int (ib i - 1)) M
def fi_q_bits : FI := ⟨"_law_bits", 1, spQBits⟩
@[simp] theorem fi_q_bits_sp : fi_q_bits.sp = spQBits := rfl
theorem wp_q_bits {C : Ctx} {E : EX} {ds : List D} {M : Mp} {Q : QE} {E' : XD → Mp → Prop} (h : spQBits ds M Q E') : wpB C E b_q_bits (endsD Q) (startD mc_q_bits.N ds) M := by
  obtain ⟨i, rfl, hi, q⟩ := h
  rw [show startD mc_q_bits.N [.int i] = [some (.int i), none] from rfl, b_q_bits, wpB]
  simp
  rw [wpB]
  simp
  refine whileD_ind (fun n ρ M' => M' = M ∧ ∃ a f : Int, ρ = [some (.int a), some (.int f)] ∧ 1 ≤ a ∧ f + (ib a - 1) = ib i - 1 ∧ n = a.toNat) (fun n ρ M' hI nx hnx => ?_) i.toNat _ _ ⟨rfl, i, 0, rfl, hi, by omega, rfl⟩
  obtain ⟨rfl, a, f, rfl, ha, he, rfl⟩ := hI
  simp
  split
  · rename_i h1
    rw [wpB]
    simp
    rw [wpB]
    simp
    rw [wpB]
    exact hnx (a / 2).toNat _ _ (by omega) ⟨rfl, a / 2, f + 1, rfl, by omega, by rw [ib_half h1]; omega, rfl⟩
  · rename_i h1
    have e1 : a = 1 := by omega
    subst e1
    rw [ib_one] at he
    rw [wpB]
    simp
    rw [show f = ib i - 1 by omega]
    exact Fin.same q
/-! ### near, log -/
def mc_q_near : MC := ⟨["_law_urn_here", "_law_box_here", "_law_centre", "_law_reach", "_law_found", "_law_middle", "_law_size", "_law_far"], ["_law_pick", "_law_take"], [], [], []⟩
def b_q_near : List CS := [.set 4 (.lst false []),
    .for (.tup [.nm 5, .nm 6]) .zip2 [.var 2, .var 1] [.set 7 (.call 0 [.var 0, .lst true [.call 1 [.var 0, .bin .Add true (.bin .Mult true (.var 3) (.var 6)) (.int 1)], .var 6, .bin .Sub true (.var 6) (.int 1), .int 0]]), .expr (.mth .append (.var 4) (.bin .Add true (.var 5) (.bin .Mult true (.var 7) (.bin .Sub true (.int 1) (.bin .Mult true (.int 2) (.call 1 [.var 0, .int 2]))))))],
    .ret (.blt .tuple true [.var 4])]
def cx_q_near : Ctx := ⟨[fi_pick, fi_take], [], [], []⟩
@[simp] theorem cx_q_near_0 : cx_q_near.fs[0]? = some fi_pick := rfl
@[simp] theorem cx_q_near_1 : cx_q_near.fs[1]? = some fi_take := rfl
/-- each number within reach sizes of the centre -/
def Near (reach : Int) : List Int → List Int → List Int → Prop
  | c :: cs, b :: bs, p :: ps => (p - c).natAbs ≤ reach * b ∧ Near reach cs bs ps
  | [], [], [] => True
  | _, _, _ => False
theorem Near.snoc {r : Int} : ∀ {cs bs ps : List Int} {c b p : Int}, Near r cs bs ps → cs.length = bs.length → (p - c).natAbs ≤ r * b → Near r (cs ++ [c]) (bs ++ [b]) (ps ++ [p])
  | [], [], [], _, _, _, _, _, h => ⟨h, trivial⟩
  | _ :: _, _ :: _, _ :: _, _, _, _, h, hl, h2 => ⟨h.1, Near.snoc h.2 (by simpa using hl) h2⟩
theorem Near.length {r : Int} : ∀ {cs bs ps : List Int}, Near r cs bs ps → cs.length = bs.length → ps.length = bs.length
  | [], [], [], _, _ => rfl
  | _ :: _, _ :: _, _ :: _, h, hl => by rw [List.length_cons, List.length_cons, Near.length h.2 (by simpa using hl)]
theorem Near.bound {r A B : Int} (hr : 0 ≤ r) : ∀ {cs bs ps : List Int}, Near r cs bs ps → (∀ c ∈ cs, (c.natAbs : Int) ≤ A) → (∀ b ∈ bs, b ≤ B) → ∀ p ∈ ps, (p.natAbs : Int) ≤ A + r * B
  | [], [], [], _, _, _, x, hx => by cases hx
  | c :: cs, b :: bs, p :: ps, h, hc, hb, x, hx => by
    rcases List.mem_cons.mp hx with rfl | hx
    · have h1 := hc c List.mem_cons_self
      have h2 : r * b ≤ r * B := Int.mul_le_mul_of_nonneg_left (hb b List.mem_cons_self) hr
      have h3 := h.1
      omega
    · exact Near.bound hr h.2 (fun c z => hc c (List.mem_cons_of_mem _ z)) (fun b z => hb b (List.mem_cons_of_mem _ z)) x hx
def spNear : DSp := fun ds M Q _ => ∃ (u : Addr) (bs cs : List Int) (reach : Int) (n : Nat), ds = [.ref u, pt bs, pt cs, .int reach] ∧ cs.length = bs.length ∧ bs.length ≤ 1000 ∧ (∀ b ∈ bs, 1 ≤ b ∧ b ≤ 10 ^ 50) ∧ 1 ≤ reach ∧ reach ≤ 1000 ∧ Urn M u n ∧ n < 2 ^ 59 ∧
  ∀ (ps : List Int) M', Near reach cs bs ps → Urn M' u (n + 3 * bs.length) → Only M M' u → Q (pt ps) M'
def fi_q_near : FI := ⟨"_law_near", 4, spNear⟩
@[simp] theorem fi_q_near_sp : fi_q_near.sp = spNear := rfl
theorem zip_ils (a b : List Int) : ((ils a).zip (ils b)).map (fun p => D.tup [p.1, p.2]) = (a.zip b).map fun p => D.tup [.int p.1, .int p.2] := by
  rw [ils, ils, List.zip_map, List.map_map]; rfl
theorem wp_q_near {E : EX} {ds : List D} {M : Mp} {Q : QE} {E' : XD → Mp → Prop} (h : spNear ds M Q E') : wpB cx_q_near E b_q_near (endsD Q) (startD mc_q_near.N ds) M := by
  obtain ⟨u, bs, cs, reach, n, rfl, hlen, hbl, hbs, r1, r2, hU, hn, q⟩ := h
  rw [show startD mc_q_near.N [.ref u, pt bs, pt cs, .int reach] = [some (.ref u), some (pt bs), some (pt cs), some (.int reach), none, none, none, none] from rfl, b_q_near, wpB]
  simp
  intro p hp
  have hpu := hU.ne hp
  rw [wpB]
  simp [itD]
  rw [show (List.zip (List.map D.int cs) (List.map D.int bs)) = (ils cs).zip (ils bs) from rfl, zip_ils]
  refine forD_ind (fun rest ρ M2 => ∃ (x5 x6 x7 : Option D) (cs1 bs1 cs2 bs2 ps : List Int), ρ = [some (.ref u), some (pt bs), some (pt cs), some (.int reach), some (.ref p), x5, x6, x7] ∧ cs1 ++ cs2 = cs ∧ bs1 ++ bs2 = bs ∧ cs1.length = bs1.length ∧ cs2.length = bs2.length ∧
      rest = (cs2.zip bs2).map (fun p => D.tup [.int p.1, .int p.2]) ∧ Near reach cs1 bs1 ps ∧ M2 p = some (.lst (ils ps)) ∧ Urn M2 u (n + 3 * bs1.length) ∧ Loc M M2 u p)
    (fun _ _ _ _ => trivial) (fun x rest ρ M2 hI nx hnx => ?_) (fun ρ M2 hI => ?_) _ _ _ ⟨none, none, none, [], [], cs, bs, [], rfl, rfl, rfl, rfl, hlen, rfl, trivial, Mp.upd_same, (hU.upd hpu).mono (by omega), Loc.new⟩
  · obtain ⟨x5, x6, x7, cs1, bs1, cs2, bs2, ps, rfl, e1, e2, e3, e4, e5, hN, g1, g2, g3⟩ := hI
    cases cs2 with
    | nil => simp at e5
    | cons c cs2 => cases bs2 with
      | nil => simp at e4
      | cons b bs2 =>
        simp at e5
        obtain ⟨rfl, rfl⟩ := e5
        have hb := hbs b (by rw [← e2]; simp)
        have hlb : bs1.length < 1000 := by have := congrArg List.length e2; simp at this; omega
        simp
        rw [wpB]
        simp
        have hm0 : 0 ≤ reach * b := Int.mul_nonneg (by omega) (by omega)
        have hm1 : reach * b ≤ 1000 * 10 ^ 50 := Int.mul_le_mul r2 hb.2 (by omega) (by omega)
        have hm2 : b ≤ reach * b := by
          have := Int.mul_le_mul_of_nonneg_right r1 (show (0:Int) ≤ b by omega)
          omega
        refine ⟨.lf (by omega) (by omega), u, _, _, rfl, by omega, by omega, g2, by omega, fun f M3 f0 f1 hU3 ho3 => ⟨by decide, ?_⟩⟩
        refine ⟨u, _, _, _, rfl, .inl rfl, by simp, by simp, hU3, by omega, fun d M4 hd hU4 ho4 => ?_⟩
        obtain ⟨far, rfl, fa0, fa1⟩ : ∃ far : Int, d = .int far ∧ 0 ≤ far ∧ far ≤ reach * b := by
          simp at hd
          rcases hd with rfl | rfl | rfl | rfl
          · exact ⟨_, rfl, by omega, by omega⟩
          · exact ⟨_, rfl, by omega, by omega⟩
          · exact ⟨_, rfl, by omega, by omega⟩
          · exact ⟨_, rfl, by omega, by omega⟩
        try dsimp only
        rw [wpB]
        have e4' : M4 p = some (.lst (ils ps)) := (ho4 p hpu).trans ((ho3 p hpu).trans g1)
        simp [e4']
        refine ⟨u, 2, _, rfl, by decide, by decide, hU4, by omega, fun s M5 s0 s1 hU5 ho5 => ?_⟩
        have e5' : M5 p = some (.lst (ils ps)) := (ho5 p hpu).trans e4'
        refine ⟨.lf (by decide) (by decide), .r (by omega) (by omega), ?_⟩
        simp [e5']
        have hps := hN.length e3
        refine ⟨by have := sz (n := ps.length + 1) (by omega); omega, ?_⟩
        rw [wpB]
        refine hnx _ _ ⟨_, _, _, cs1 ++ [c], bs1 ++ [b], cs2, bs2, ps ++ [c + far * (1 - 2 * s)], rfl, by simpa using e1, by simpa using e2, by simp [e3], by simpa using e4, rfl, hN.snoc e3 ?_, by simp [ils], (hU5.upd hpu).mono (by simp; omega), (((g3.draw ho3).draw ho4).draw ho5).upd⟩
        have hs : s = 0 ∨ s = 1 := by omega
        rcases hs with rfl | rfl
        · rw [show c + far * (1 - 2 * 0) - c = far by omega]; omega
        · rw [show c + far * (1 - 2 * 1) - c = -far by omega]; omega
  · obtain ⟨x5, x6, x7, cs1, bs1, cs2, bs2, ps, rfl, e1, e2, e3, e4, e5, hN, g1, g2, g3⟩ := hI
    have hz : cs2 = [] ∧ bs2 = [] := by
      cases cs2 with
      | nil => cases bs2 with
        | nil => exact ⟨rfl, rfl⟩
        | cons => simp at e4
      | cons c r => cases bs2 with
        | nil => simp at e4
        | cons => simp at e5
    obtain ⟨rfl, rfl⟩ := hz
    simp at e1 e2
    subst e1 e2
    show wpB _ _ _ _ _ _
    rw [wpB]
    simp [g1]
    exact Fin.sub Mp.sub_del (q ps _ hN (g2.del hpu) (g3.del hp))
def mc_q_log : MC := ⟨["_law_urn_here", "_law_box_here", "_law_most", "_law_turn", "_law_centre", "_law_found", "_law_size"], ["_law_pick", "_law_take", "_law_near"], [], [], []⟩
def b_q_log : List CS := [.par 4 5 (.blt .tuple true [.comp true (.call 0 [.var 0, .lst true [.int 0, .int 7, .neg (.int 40), .bin .Pow true (.int 10) (.int 11)]]) (.nm 6) .seq [.var 1] [6]]) (.lst false []),
    .for (.nm 3) .rng1 [.call 1 [.var 0, .bin .Add true (.var 2) (.int 1)]] [.ifs (.cmp .Eq (.call 1 [.var 0, .int 6]) (.int 0)) [.set 4 (.call 2 [.var 0, .var 1, .var 4, .int 2])] [], .expr (.mth .append (.var 5) (.call 2 [.var 0, .var 1, .var 4, .int 1]))],
    .ret (.blt .tuple true [.var 5])]
def cx_q_log : Ctx := ⟨[fi_pick, fi_take, fi_q_near], [], [], []⟩
@[simp] theorem cx_q_log_0 : cx_q_log.fs[0]? = some fi_pick := rfl
@[simp] theorem cx_q_log_1 : cx_q_log.fs[1]? = some fi_take := rfl
@[simp] theorem cx_q_log_2 : cx_q_log.fs[2]? = some fi_q_near := rfl
/-- a log over a box of that many axes, its numbers bounded -/
def LogOk (a : Nat) (A : Int) (l : List (List Int)) : Prop := ∀ p ∈ l, p.length = a ∧ ∀ x ∈ p, (x.natAbs : Int) ≤ A
theorem LogOk.mono {a : Nat} {A B : Int} {l : List (List Int)} (h : LogOk a A l) (hb : A ≤ B) : LogOk a B l := fun p hp => ⟨(h p hp).1, fun x hx => Int.le_trans ((h p hp).2 x hx) hb⟩
/-- bounded by the greatest size -/
def LogB (bs : List Int) (most : Int) (l : List (List Int)) : Prop := ∀ B : Int, 1 ≤ B → (∀ b ∈ bs, b ≤ B) → LogOk bs.length (10 ^ 11 + 2 * B * (most + 1)) l
def spLog : DSp := fun ds M Q _ => ∃ (u : Addr) (bs : List Int) (most : Int) (n : Nat), ds = [.ref u, pt bs, .int most] ∧ bs.length ≤ 10 ∧ (∀ b ∈ bs, 1 ≤ b ∧ b ≤ 10 ^ 10) ∧ 0 ≤ most ∧ most ≤ 10000 ∧ Urn M u n ∧ n < 2 ^ 58 ∧
  ∀ (l : List (List Int)) M', LogB bs most l → (l.length : Int) ≤ most → Urn M' u (n + 1000000) → Only M M' u → Q (lg l) M'
def fi_q_log : FI := ⟨"_law_log", 3, spLog⟩
@[simp] theorem fi_q_log_sp : fi_q_log.sp = spLog := rfl
/-- draws of ints -/
theorem ints_of {P : Int → Prop} {α : Type} {l : List α} {ds : List D} (h : All2 (fun _ d => ∃ k : Int, d = .int k ∧ P k) l ds) : ∃ ks : List Int, ds = ils ks ∧ (∀ k ∈ ks, P k) ∧ ks.length = l.length := by
  induction l generalizing ds with
  | nil =>
    cases ds with
    | nil => exact ⟨[], rfl, by simp, rfl⟩
    | cons => exact h.elim
  | cons x r ih =>
    cases ds with
    | nil => exact h.elim
    | cons d ds =>
      obtain ⟨ks, e, h1, h2⟩ := ih h.2
      obtain ⟨k, rfl, hk⟩ := h.1
      exact ⟨k :: ks, by rw [e]; rfl, fun y hy => (List.mem_cons.mp hy).elim (fun z => z ▸ hk) (h1 y), by rw [List.length_cons, List.length_cons, h2]⟩
theorem wp_q_log {E : EX} {ds : List D} {M : Mp} {Q : QE} {E' : XD → Mp → Prop} (h : spLog ds M Q E') : wpB cx_q_log E b_q_log (endsD Q) (startD mc_q_log.N ds) M := by
  obtain ⟨u, bs, most, n, rfl, hbl, hbs, m0, m1, hU, hn, q⟩ := h
  rw [show startD mc_q_log.N [.ref u, pt bs, .int most] = [some (.ref u), some (pt bs), some (.int most), none, none, none, none] from rfl, b_q_log, wpB]
  simp [itD]
  intro p hp
  refine cmpL_urn (c := 1) (u := u) (fun _ d => ∃ k : Int, d = .int k ∧ (k.natAbs : Int) ≤ 10 ^ 11) hp hU (fun _ => trivial) (sz (by simp; omega)) (fun x hx M1 m hU1 hm1 hlo add skip ha => ?_) (fun ds M1 hds hU1 ho1 => ?_)
  · simp [turnC, wipeD]
    simp at hm1
    refine ⟨.of (by decide) 4 (by decide) (by decide), by decide, u, _, _, m, rfl, .inl rfl, by simp, by simp, hU1, by omega, fun d M2 hd hU2 ho2 => ha d M2 ?_ hU2 ho2⟩
    simp at hd
    rcases hd with rfl | rfl | rfl | rfl <;> exact ⟨_, rfl, by decide⟩
  obtain ⟨cs, rfl, hcs, hcl⟩ := ints_of hds
  simp at hcl hU1
  try dsimp only
  simp
  intro p2 hp2
  have hpu := hU1.ne hp2
  rw [wpB]
  simp [itD]
  refine ⟨u, _, _, rfl, by omega, by omega, hU1.upd hpu, by omega, fun r M2 r0 r1 hU2 ho2 => ⟨⟨by omega, by omega⟩, ?_⟩⟩
  have hp3 : M2 p2 = some (.lst []) := (ho2 p2 hpu).trans Mp.upd_same
  refine forD_ind (fun rest ρ M3 => ∃ (x3 x6 : Option D) (cs : List Int) (l : List (List Int)), ρ = [some (.ref u), some (pt bs), some (.int most), x3, some (pt cs), some (.ref p2), x6] ∧ cs.length = bs.length ∧ (∀ B : Int, 1 ≤ B → (∀ b ∈ bs, b ≤ B) → ∀ c ∈ cs, (c.natAbs : Int) ≤ 10 ^ 11 + 2 * B * l.length) ∧
      LogB bs most l ∧ l.length + rest.length = r.toNat ∧ M3 p2 = some (.lst (l.map pt)) ∧ Urn M3 u (n + 20 + 70 * l.length) ∧ Loc M M3 u p2)
    (fun _ _ _ _ => trivial) (fun x rest ρ M3 hI nx hnx => ?_) (fun ρ M3 hI => ?_) _ _ _ ⟨none, none, cs, [], rfl, hcl, fun B _ _ c hc => (by have := hcs c hc; simp; omega), (fun B _ _ p hp => by cases hp), by simp, hp3, hU2.mono (by simp; omega), (Loc.draw (fun a h1 h2 => (Mp.upd_ne h2).trans (ho1 a h1)) ho2)⟩
  · obtain ⟨x3, x6, cs, l, rfl, hcl, hcs, hl, hlen, g1, g2, g3⟩ := hI
    rw [List.length_cons] at hlen
    have hbs' : ∀ b ∈ bs, 1 ≤ b ∧ b ≤ 10 ^ 50 := fun b hb => ⟨(hbs b hb).1, by have := (hbs b hb).2; omega⟩
    have tail : ∀ (cs' : List Int) (M4 : Mp), cs'.length = bs.length → (∀ B : Int, 1 ≤ B → (∀ b ∈ bs, b ≤ B) → ∀ c ∈ cs', (c.natAbs : Int) ≤ 10 ^ 11 + 2 * B * ((l.length : Int) + 1)) → M4 p2 = some (.lst (l.map pt)) → Urn M4 u (n + 20 + 70 * l.length + 31) → Loc M M4 u p2 →
        wpB cx_q_log E [.expr (.mth .append (.var 5) (.call 2 [.var 0, .var 1, .var 4, .int 1]))] { nx := nx, rt := (endsD Q).rt, bk := (endsD Q).bk, ct := nx } [some (.ref u), some (pt bs), some (.int most), some x, some (pt cs'), some (.ref p2), x6] M4 := by
      intro cs' M4 c1 c2 k1 k2 k3
      rw [wpB]
      simp [k1]
      refine ⟨u, bs, cs', 1, _, rfl, c1, by omega, hbs', by decide, by decide, k2, by omega, fun ps M5 hN hU5 ho5 => ?_⟩
      have e5 : M5 p2 = some (.lst (l.map pt)) := (ho5 p2 hpu).trans k1
      simp [e5]
      refine ⟨by have := sz (n := l.length + 1) (by omega); omega, ?_⟩
      rw [wpB]
      refine hnx _ _ ⟨some x, x6, cs', l ++ [ps], rfl, c1, fun B b1 b2 c hc => by have := c2 B b1 b2 c hc; simpa using this, ?_, by simp; omega, by simp, (hU5.upd hpu).mono (by simp; omega), (k3.draw ho5).upd⟩
      intro B b1 b2 q' hq'
      rcases List.mem_append.mp hq' with z | z
      · exact hl B b1 b2 q' z
      · rw [List.mem_singleton] at z
        subst z
        refine ⟨hN.length c1, fun y hy => ?_⟩
        have := hN.bound (by decide) (c2 B b1 b2) b2 y hy
        have h7 : (l.length : Int) + 1 ≤ most := by omega
        have h8 : 2 * B * ((l.length : Int) + 1) ≤ 2 * B * most := Int.mul_le_mul_of_nonneg_left h7 (by omega)
        have h9 : 2 * B * (most + 1) = 2 * B * most + 2 * B := by rw [Int.mul_add, Int.mul_one]
        omega
    simp
    rw [wpB]
    simp
    refine ⟨u, 6, _, rfl, by decide, by decide, g2, by omega, fun r' M4 r0' r1' hU4 ho4 => ?_⟩
    have e4 : M4 p2 = some (.lst (l.map pt)) := (ho4 p2 hpu).trans g1
    simp
    split
    · rw [wpB]
      simp
      refine ⟨u, bs, cs, 2, _, rfl, hcl, by omega, hbs', by decide, by decide, hU4, by omega, fun ps M5 hN hU5 ho5 => ?_⟩
      try dsimp only
      rw [wpB]
      refine tail ps M5 (hN.length hcl) (fun B b1 b2 c hc => ?_) ((ho5 p2 hpu).trans e4) (hU5.mono (by omega)) ((g3.draw ho4).draw ho5)
      have := hN.bound (by decide) (hcs B b1 b2) b2 c hc
      have h9 : 2 * B * ((l.length : Int) + 1) = 2 * B * l.length + 2 * B := by rw [Int.mul_add, Int.mul_one]
      omega
    · rw [wpB]
      exact tail cs M4 hcl (fun B b1 b2 c hc => by have := hcs B b1 b2 c hc; have h9 : 2 * B * ((l.length : Int) + 1) = 2 * B * l.length + 2 * B := (by rw [Int.mul_add, Int.mul_one]); omega) e4 (hU4.mono (by omega)) (g3.draw ho4)
  · obtain ⟨x3, x6, cs, l, rfl, hcl, hcs, hl, hlen, g1, g2, g3⟩ := hI
    show wpB _ _ _ _ _ _
    rw [wpB]
    simp [g1]
    simp at hlen
    exact Fin.sub Mp.sub_del (q l _ hl (by omega) ((g2.del hpu).mono (by omega)) (g3.del ((ho1 p2 hpu).symm.trans hp2)))
/-! ### the law's end: all of the urns -/
theorem cmpL_keep {ok : Mp → Prop} {turn : D → Mp → QE → (Mp → Prop) → Prop} {p : Addr} {Q : QE} {M : Mp} {l : List D} (P : D → D → Prop) (hok : ∀ M', ok M') (hl : l.length ≤ sizeLine)
    (h : ∀ x ∈ l, ∀ M1 acc, M1 p = some (.lst acc) → ∀ (add : QE) (skip : Mp → Prop), (∀ d M', P x d → M' p = M1 p → add d M') → turn x M1 add skip)
    (q : ∀ ds M', All2 P l ds → Q (.lst ds) M') : cmpL true ok turn p Q l (M.upd p (.lst [])) := by
  have step : ∀ (x : D) (r acc : List D) (M1 : Mp), (M1 p = some (.lst acc) ∧ ∃ l1, l1 ++ x :: r = l ∧ All2 P l1 acc) → ∀ (add : QE) (skip : Mp → Prop),
      (∀ d M', M' p = some (.lst acc) → acc.length < sizeLine → ((M'.upd p (.lst (acc ++ [d]))) p = some (.lst (acc ++ [d])) ∧ ∃ l1, l1 ++ r = l ∧ All2 P l1 (acc ++ [d])) → add d M') →
      (∀ M', (M' p = some (.lst acc) ∧ ∃ l1, l1 ++ r = l ∧ All2 P l1 acc) → skip M') → turn x M1 add skip := by
    rintro x r acc M1 ⟨e1, l1, e4, e5⟩ add skip ha hs
    have hlen := congrArg List.length e4
    rw [List.length_append, List.length_cons, e5.length] at hlen
    exact h x (e4 ▸ List.mem_append_right _ List.mem_cons_self) M1 _ e1 add skip fun d M' hP he => ha d M' (he.trans e1) (by omega) ⟨Mp.upd_same, l1 ++ [x], by rw [List.append_assoc]; exact e4, e5.snoc hP⟩
  refine cmpL_ind (fun r acc M1 => M1 p = some (.lst acc) ∧ ∃ l1, l1 ++ r = l ∧ All2 P l1 acc) (fun r acc M1 z => ⟨hok M1, z.1⟩) step (fun acc M1 z => ?_) l [] _ ⟨Mp.upd_same, [], rfl, trivial⟩
  obtain ⟨e1, l1, e4, e5⟩ := z
  rw [if_pos rfl]
  rw [List.append_nil] at e4
  subst e4
  exact q acc _ e5
end Ow

namespace Ow
open PySem PySem.Spec PyProof.Rows L2
/-! ### elements that change nothing, over a mapped list -/
theorem cmpL_mapf {α : Type} {ok : Mp → Prop} {turn : D → Mp → QE → (Mp → Prop) → Prop} {p : Addr} {Q : QE} (f g : α → D) {L : List α} {M : Mp} (hp : M p = none) (hl : L.length ≤ 16777216) (hok : ∀ M', ok M')
    (h : ∀ x ∈ L, ∀ acc (add : QE) (skip : Mp → Prop), add (g x) (M.upd p (.lst acc)) → turn (f x) (M.upd p (.lst acc)) add skip) (q : Q (.lst (L.map g)) M) : cmpL true ok turn p Q (L.map f) (M.upd p (.lst [])) := by
  have step : ∀ (x : D) (r acc : List D) (M' : Mp), (M' = M.upd p (.lst acc) ∧ ∃ L1 L2, L1 ++ L2 = L ∧ x :: r = L2.map f ∧ acc = L1.map g) → ∀ (add : QE) (skip : Mp → Prop),
      (∀ d M'', M'' p = some (.lst acc) → acc.length < sizeLine → (M''.upd p (.lst (acc ++ [d])) = M.upd p (.lst (acc ++ [d])) ∧ ∃ L1 L2, L1 ++ L2 = L ∧ r = L2.map f ∧ acc ++ [d] = L1.map g) → add d M'') →
      (∀ M'', (M'' = M.upd p (.lst acc) ∧ ∃ L1 L2, L1 ++ L2 = L ∧ r = L2.map f ∧ acc = L1.map g) → skip M'') → turn x M' add skip := by
    rintro x r acc M' ⟨e, L1, L2, e2, e3, e4⟩ add skip ha hs
    subst e
    cases L2 with
    | nil => cases e3
    | cons y L2 =>
      rw [List.map_cons] at e3
      obtain ⟨rfl, rfl⟩ := List.cons.inj e3
      subst e2
      have hz : acc.length < sizeLine := by
        rw [e4, List.length_map]
        rw [List.length_append, List.length_cons] at hl
        have := sz (n := L1.length + 1) (by omega)
        omega
      exact h y (List.mem_append_right _ List.mem_cons_self) acc add skip (ha _ _ Mp.upd_same hz ⟨Mp.upd_upd, L1 ++ [y], L2, by simp, rfl, by simp [e4]⟩)
  refine cmpL_ind (fun r acc M' => M' = M.upd p (.lst acc) ∧ ∃ L1 L2, L1 ++ L2 = L ∧ r = L2.map f ∧ acc = L1.map g) (fun r acc M' z => by rw [z.1]; exact ⟨hok _, Mp.upd_same⟩) step (fun acc M' z => ?_) _ [] _ ⟨rfl, [], L, rfl, rfl, rfl⟩
  obtain ⟨e, L1, L2, e2, e3, e4⟩ := z
  subst e
  have e5 : L2 = [] := by
    cases L2 with
    | nil => rfl
    | cons => cases e3
  rw [e5, List.append_nil] at e2
  rw [if_pos rfl, Mp.del_upd hp, e4, e2]
  exact q
@[simp] theorem chn_bl {tc : Mp → QE → Prop} {g' : D → D → Mp → QE → Prop} {d2 : D} {Q : QE} {b : Bool} {M : Mp} : chnD tc g' d2 Q (.bl b) M = if b = true then tc M fun d3 M3 => g' d2 d3 M3 Q else Q (.bl false) M := by
  cases b <;> simp
theorem zip3_ils (a b c : List Int) : ((ils a).zip ((ils b).zip (ils c))).map (fun p => D.tup [p.1, p.2.1, p.2.2]) = (a.zip (b.zip c)).map fun p => D.tup [.int p.1, .int p.2.1, .int p.2.2] := by
  rw [ils, ils, ils, List.zip_map, List.zip_map, List.map_map]; rfl
/-! ### all that was there is there, but for the urn -/
def Keep (M M' : Mp) (u : Addr) : Prop := ∀ a o, a ≠ u → M a = some o → M' a = some o
theorem Keep.refl {M : Mp} {u : Addr} : Keep M M u := fun _ _ _ h => h
theorem Keep.trans {M M1 M2 : Mp} {u : Addr} (h : Keep M M1 u) (k : Keep M1 M2 u) : Keep M M2 u := fun a o e z => k a o e (h a o e z)
theorem Only.keep {M M' : Mp} {u : Addr} (h : Only M M' u) : Keep M M' u := fun a o e z => (h a e).trans z
theorem Loc.keep {M M' : Mp} {u p : Addr} (h : Loc M M' u p) (hp : M p = none) : Keep M M' u := fun a o e z => (h a e (fun q => by rw [q, hp] at z; cases z)).trans z
def back (M M' : Mp) (u : Addr) : Mp := fun a => if a = u then M' a else M a
theorem back_sub {M M' : Mp} {u : Addr} (h : Keep M M' u) : (back M M' u).Sub M' := fun a o z => by
  unfold back at z
  split at z
  · exact z
  · rename_i e; exact h a o e z
theorem back_only {M M' : Mp} {u : Addr} : Only M (back M M' u) u := fun a e => if_neg e
theorem Urn.back {M M' : Mp} {u : Addr} {n : Nat} (h : Urn M' u n) : Urn (back M M' u) u n := by
  obtain ⟨g, x, t, h1, h2⟩ := h
  exact ⟨g, x, t, (if_pos rfl).trans h1, h2⟩
theorem Fin.keep {Q : QE} {d : D} {M M' : Mp} {u : Addr} (h : Keep M M' u) (q : Q d (back M M' u)) : Fin Q d M' := Fin.sub (back_sub h) q
/-! ### covers -/
def mc_covers : MC := ⟨["box", "place", "position", "low", "number", "size"], [], [], [], []⟩
def b_covers : List CS := [.ret (.blt .all true [.comp true (.chn .LtE .Lt (.var 3) (.var 4) (.bin .Add true (.var 3) (.var 5))) (.tup [.nm 3, .nm 4, .nm 5]) .zip3 [.var 1, .var 2, .var 0] [3, 4, 5]])]
def coversB (bs pl po : List Int) : Bool := (pl.zip (po.zip bs)).all fun t => decide (t.1 ≤ t.2.1) && decide (t.2.1 < t.1 + t.2.2)
def spCovers : DSp := fun ds M Q _ => ∃ bs pl po : List Int, ds = [pt bs, pt pl, pt po] ∧ pl.length ≤ 1000 ∧ Q (.bl (coversB bs pl po)) M
def fi_covers : FI := ⟨"covers", 3, spCovers⟩
@[simp] theorem fi_covers_sp : fi_covers.sp = spCovers := rfl
theorem wp_covers {C : Ctx} {E : EX} {ds : List D} {M : Mp} {Q : QE} {E' : XD → Mp → Prop} (h : spCovers ds M Q E') : wpB C E b_covers (endsD Q) (startD mc_covers.N ds) M := by
  obtain ⟨bs, pl, po, rfl, hl, q⟩ := h
  rw [show startD mc_covers.N [pt bs, pt pl, pt po] = [some (pt bs), some (pt pl), some (pt po), none, none, none] from rfl, b_covers, wpB]
  simp [itD]
  intro p hp
  rw [show (List.zip (List.map D.int pl) (List.zip (List.map D.int po) (List.map D.int bs))) = (ils pl).zip ((ils po).zip (ils bs)) from rfl, zip3_ils]
  refine cmpL_mapf _ (fun t => .bl (decide (t.1 ≤ t.2.1) && decide (t.2.1 < t.1 + t.2.2))) hp (by simp; omega) (fun _ => by trivial) (fun t ht acc add skip ha => ?_) ?_
  · simp [turnC, wipeD]
    by_cases h1 : t.1 ≤ t.2.1
    · simp [h1] at ha ⊢; exact ha
    · simp [h1] at ha ⊢; exact ha
  · simp
    exact Fin.same (by simpa [coversB, List.all_map] using q)
theorem all_true {l : List D} {ds : List D} (h : All2 (fun _ d => d = .bl true) l ds) : ∃ bs : List Bool, ds = bs.map D.bl ∧ bs.all id = true := by
  have hm := h.mem
  clear h
  induction ds with
  | nil => exact ⟨[], rfl, rfl⟩
  | cons d r ih =>
    obtain ⟨bs, e1, e2⟩ := ih fun y hy => hm y (List.mem_cons_of_mem _ hy)
    obtain ⟨_, _, e⟩ := hm d List.mem_cons_self
    exact ⟨true :: bs, by rw [e, e1]; rfl, by simpa using e2⟩
/-! ### the law: right at each of the first three urns -/
def mc_lawA : MC := ⟨["_law_script", "_law_k"], ["_law_right", "_law_urn"], [], [], []⟩
def b_lawA : List CS := [.ret (.blt .all true [.comp true (.call 0 [.call 1 [.var 0, .var 1]]) (.nm 1) .rng1 [.blt .max true [.int 1, .blt .min true [.int 3, .blt .len true [.var 0]]]] [1]])]
def spRight : DSp := fun ds M Q _ => ∃ u, ds = [.ref u] ∧ Urn M u 0 ∧ ∀ M', Only M M' u → Q (.bl true) M'
def fi_q_right : FI := ⟨"_law_right", 1, spRight⟩
@[simp] theorem fi_q_right_sp : fi_q_right.sp = spRight := rfl
def spLaw : DSp := fun ds M Q _ => ∃ ns : List Int, ds = [.scr ns] ∧ ns.length ≤ 63 ∧ ∀ M', Q (.bl true) M'
def fi_law : FI := ⟨"law", 1, spLaw⟩
@[simp] theorem fi_law_sp : fi_law.sp = spLaw := rfl
def cx_lawA : Ctx := ⟨[fi_q_right, fi_urn], [], [], []⟩
@[simp] theorem cx_lawA_0 : cx_lawA.fs[0]? = some fi_q_right := rfl
@[simp] theorem cx_lawA_1 : cx_lawA.fs[1]? = some fi_urn := rfl
abbrev fi_lawA : FI := fi_law
theorem law_sp (ns : List Int) (h : ns.length ≤ 63) : spLaw [.scr ns] (fun _ => none) (fun v _ => v = .bl true) fun _ _ => False := ⟨ns, rfl, h, fun _ => rfl⟩
theorem wp_lawA {E : EX} {ds : List D} {M : Mp} {Q : QE} {E' : XD → Mp → Prop} (h : spLaw ds M Q E') : wpB cx_lawA E b_lawA (endsD Q) (startD mc_lawA.N ds) M := by
  obtain ⟨ns, rfl, hl, q⟩ := h
  rw [show startD mc_lawA.N [.scr ns] = [some (.scr ns), none] from rfl, b_lawA, wpB]
  simp [itD]
  refine ⟨⟨by split <;> (try split) <;> omega, by split <;> (try split) <;> omega⟩, fun p hp => ?_⟩
  refine cmpL_keep (fun _ d => d = .bl true) (fun _ => trivial) (sz ?_) (fun x hx M1 acc e add skip ha => ?_) (fun ds M' hds => ?_)
  · simp
    split <;> (try split) <;> omega
  · obtain ⟨j, hj, rfl⟩ := List.mem_map.mp hx
    rw [List.mem_range] at hj
    have hj' : j < 100 := by
      split at hj <;> (try split at hj) <;> omega
    simp [turnC, wipeD]
    refine ⟨ns, j, rfl, by omega, by omega, fun u M2 hu hU ho => ⟨u, rfl, hU, fun M3 ho3 => ha _ _ rfl ?_⟩⟩
    have hpu : p ≠ u := fun z => by rw [← z, e] at hu; cases hu
    exact (ho3 p hpu).trans (ho p hpu)
  · obtain ⟨bs, rfl, h2⟩ := all_true hds
    simp [h2]
    exact Fin.same (q _)
/-! ### hulls -/
abbrev pr (t : Int × Int) : D := .tup [.int t.1, .int t.2]
abbrev hu (h : List (Int × Int)) : D := .tup (h.map pr)
def mn (a b : Int) : Int := if b < a then b else a
def mx (a b : Int) : Int := if a < b then b else a
def hullP (p : List Int) : List (Int × Int) := p.map fun n => (n, n)
def joinH (h : List (Int × Int)) (p : List Int) : List (Int × Int) := (h.zip p).map fun t => (mn t.1.1 t.2, mx t.1.2 t.2)
def fitsH (bs : List Int) (h : List (Int × Int)) : Bool := (h.zip bs).all fun t => decide (t.1.2 - t.1.1 < t.2)
def wideH : List (List Int) → List (Int × Int)
  | [] => []
  | p :: r => r.foldl joinH (hullP p)
theorem wideH_snoc {l : List (List Int)} {p : List Int} (h : l ≠ []) : wideH (l ++ [p]) = joinH (wideH l) p := by
  cases l with
  | nil => exact absurd rfl h
  | cons x r => simp [wideH, List.foldl_append]
theorem hullP_len {p : List Int} : (hullP p).length = p.length := by simp [hullP]
theorem joinH_len {h : List (Int × Int)} {p : List Int} : (joinH h p).length = min h.length p.length := by simp [joinH]
theorem wideH_len {a : Nat} : ∀ {l : List (List Int)}, (∀ p ∈ l, p.length = a) → (wideH l).length ≤ a := by
  have key : ∀ (r : List (List Int)) (h : List (Int × Int)), h.length ≤ a → (r.foldl joinH h).length ≤ a := by
    intro r
    induction r with
    | nil => exact fun h z => z
    | cons p r ih => exact fun h z => ih _ (by rw [joinH_len]; omega)
  intro l hl
  cases l with
  | nil => exact Nat.zero_le _
  | cons p r => exact key r _ (by rw [hullP_len, hl p List.mem_cons_self]; exact Nat.le_refl _)
def mc_hull_of_position : MC := ⟨["position", "number"], [], [], [], []⟩
def b_hull_of_position : List CS := [.ret (.blt .tuple true [.comp true (.tup [.var 1, .var 1]) (.nm 1) .seq [.var 0] [1]])]
def spHullP : DSp := fun ds M Q _ => ∃ p : List Int, ds = [pt p] ∧ p.length ≤ 1000 ∧ Q (hu (hullP p)) M
def fi_hull_of_position : FI := ⟨"hull_of_position", 1, spHullP⟩
@[simp] theorem fi_hull_of_position_sp : fi_hull_of_position.sp = spHullP := rfl
theorem wp_hull_of_position {C : Ctx} {E : EX} {ds : List D} {M : Mp} {Q : QE} {E' : XD → Mp → Prop} (h : spHullP ds M Q E') : wpB C E b_hull_of_position (endsD Q) (startD mc_hull_of_position.N ds) M := by
  obtain ⟨p, rfl, hl, q⟩ := h
  rw [show startD mc_hull_of_position.N [pt p] = [some (pt p), none] from rfl, b_hull_of_position, wpB]
  simp [itD]
  intro c hc
  refine cmpL_mapf D.int (fun n => .tup [.int n, .int n]) hc (by omega) (fun _ => by trivial) (fun n hn acc add skip ha => ?_) ?_
  · simp [turnC, wipeD]
    exact ⟨by decide, ha⟩
  · simp
    refine Fin.same ?_
    have e : hu (hullP p) = .tup (p.map fun n => D.tup [.int n, .int n]) := by simp [hullP]
    rw [e] at q
    exact q
theorem zip_hu {β : Type} (h : List (Int × Int)) (f : β → D) (b : List β) : ((h.map pr).zip (b.map f)).map (fun p => D.tup [p.1, p.2]) = (h.zip b).map fun t => D.tup [pr t.1, f t.2] := by
  rw [List.zip_map, List.map_map]; rfl
def mc_joined : MC := ⟨["hull", "position", "number", "least", "greatest"], [], [], [], []⟩
def b_joined : List CS := [.ret (.blt .tuple true [.comp true (.tup [.blt .min true [.var 3, .var 2], .blt .max true [.var 4, .var 2]]) (.tup [.tup [.nm 3, .nm 4], .nm 2]) .zip2 [.var 0, .var 1] [2, 3, 4]])]
def spJoined : DSp := fun ds M Q _ => ∃ (h : List (Int × Int)) (p : List Int), ds = [hu h, pt p] ∧ p.length ≤ 1000 ∧ Q (hu (joinH h p)) M
def fi_joined : FI := ⟨"joined", 2, spJoined⟩
@[simp] theorem fi_joined_sp : fi_joined.sp = spJoined := rfl
theorem wp_joined {C : Ctx} {E : EX} {ds : List D} {M : Mp} {Q : QE} {E' : XD → Mp → Prop} (h : spJoined ds M Q E') : wpB C E b_joined (endsD Q) (startD mc_joined.N ds) M := by
  obtain ⟨h, p, rfl, hl, q⟩ := h
  rw [show startD mc_joined.N [hu h, pt p] = [some (hu h), some (pt p), none, none, none] from rfl, b_joined, wpB]
  simp [itD]
  intro c hc
  rw [show ((h.map pr).zip (p.map D.int)) = (h.map pr).zip (ils p) from rfl, zip_hu]
  refine cmpL_mapf _ (fun t => pr (mn t.1.1 t.2, mx t.1.2 t.2)) hc (by simp; omega) (fun _ => by trivial) (fun n hn acc add skip ha => ?_) ?_
  · simp [turnC, wipeD]
    exact ⟨by decide, ha⟩
  · simp
    refine Fin.same ?_
    have e : hu (joinH h p) = .tup ((h.zip p).map fun t => pr (mn t.1.1 t.2, mx t.1.2 t.2)) := by simp [joinH]
    rw [e] at q
    exact q
def mc_fits : MC := ⟨["box", "hull", "size", "least", "greatest"], [], [], [], []⟩
def b_fits : List CS := [.ret (.blt .all true [.comp true (.cmp .Lt (.bin .Sub true (.var 4) (.var 3)) (.var 2)) (.tup [.tup [.nm 3, .nm 4], .nm 2]) .zip2 [.var 1, .var 0] [2, 3, 4]])]
def spFits : DSp := fun ds M Q _ => ∃ (bs : List Int) (h : List (Int × Int)), ds = [pt bs, hu h] ∧ bs.length ≤ 1000 ∧ Q (.bl (fitsH bs h)) M
def fi_fits : FI := ⟨"fits", 2, spFits⟩
@[simp] theorem fi_fits_sp : fi_fits.sp = spFits := rfl
theorem wp_fits {C : Ctx} {E : EX} {ds : List D} {M : Mp} {Q : QE} {E' : XD → Mp → Prop} (h : spFits ds M Q E') : wpB C E b_fits (endsD Q) (startD mc_fits.N ds) M := by
  obtain ⟨bs, h, rfl, hl, q⟩ := h
  rw [show startD mc_fits.N [pt bs, hu h] = [some (pt bs), some (hu h), none, none, none] from rfl, b_fits, wpB]
  simp [itD]
  intro c hc
  rw [show ((h.map pr).zip (bs.map D.int)) = (h.map pr).zip (ils bs) from rfl, zip_hu]
  refine cmpL_mapf _ (fun t => .bl (decide (t.1.2 - t.1.1 < t.2))) hc (by simp; omega) (fun _ => by trivial) (fun n hn acc add skip ha => ?_) ?_
  · simp [turnC, wipeD]
    exact ha
  · simp
    exact Fin.same (by simpa [fitsH, List.all_map] using q)
/-! ### phases -/
def stF (bs : List Int) : List (List Int) → Nat → List (List Int) → List Int
  | _, _, [] => []
  | seg, k, p :: r => if k ≠ 0 ∧ fitsH bs (wideH (seg ++ [p])) = true then stF bs (seg ++ [p]) (k + 1) r else (k : Int) :: stF bs [p] (k + 1) r
def starts (bs : List Int) (log : List (List Int)) : List Int := stF bs [] 0 log
theorem enum_lg (k : Nat) : ∀ l : List (List Int), ((l.map pt).zipIdx k).map (fun p => D.tup [.int (p.2 : Int), p.1]) = (l.zipIdx k).map fun t => D.tup [.int (t.2 : Int), pt t.1]
  | [] => rfl
  | p :: l => by
    have := enum_lg (k + 1) l
    simp [List.zipIdx_cons] at this ⊢
    exact this
def mc_phase_starts : MC := ⟨["box", "log", "starts", "hull", "number", "position", "wider"], ["joined", "fits", "hull_of_position"], [], [], []⟩
def b_phase_starts : List CS := [.par 2 3 (.lst false []) (.tup []),
    .for (.tup [.nm 4, .nm 5]) .enum [.var 1] [.set 6 (.call 0 [.var 3, .var 5]), .ifs (.or (.cmp .Eq (.var 4) (.int 0)) (.one (.not (.call 1 [.var 0, .var 6])))) [.expr (.mth .append (.var 2) (.var 4)), .set 6 (.call 2 [.var 5])] [], .set 3 (.var 6)],
    .ret (.blt .tuple true [.var 2])]
def cx_phase_starts : Ctx := ⟨[fi_joined, fi_fits, fi_hull_of_position], [], [], []⟩
@[simp] theorem cx_phase_starts_0 : cx_phase_starts.fs[0]? = some fi_joined := rfl
@[simp] theorem cx_phase_starts_1 : cx_phase_starts.fs[1]? = some fi_fits := rfl
@[simp] theorem cx_phase_starts_2 : cx_phase_starts.fs[2]? = some fi_hull_of_position := rfl
def spPhases : DSp := fun ds M Q _ => ∃ (bs : List Int) (log : List (List Int)), ds = [pt bs, lg log] ∧ bs.length ≤ 1000 ∧ log.length ≤ 100000 ∧ (∀ p ∈ log, p.length ≤ 1000) ∧ Q (pt (starts bs log)) M
def fi_phase_starts : FI := ⟨"phase_starts", 2, spPhases⟩
@[simp] theorem fi_phase_starts_sp : fi_phase_starts.sp = spPhases := rfl
theorem wp_phase_starts {E : EX} {ds : List D} {M : Mp} {Q : QE} {E' : XD → Mp → Prop} (h : spPhases ds M Q E') : wpB cx_phase_starts E b_phase_starts (endsD Q) (startD mc_phase_starts.N ds) M := by
  obtain ⟨bs, log, rfl, hbl, hll, hpl, q⟩ := h
  rw [show startD mc_phase_starts.N [pt bs, lg log] = [some (pt bs), some (lg log), none, none, none, none, none] from rfl, b_phase_starts, wpB]
  simp
  intro c hc
  rw [wpB]
  simp [itD, enumD]
  refine forD_ind (fun rest ρ M2 => ∃ (x4 x5 x6 : Option D) (acc : List Int) (seg : List (List Int)) (k : Nat) (r : List (List Int)), ρ = [some (pt bs), some (lg log), some (.ref c), some (hu (wideH seg)), x4, x5, x6] ∧ rest = (r.zipIdx k).map (fun t => D.tup [.int (t.2 : Int), pt t.1]) ∧
      (seg = [] → k = 0) ∧ acc ++ stF bs seg k r = starts bs log ∧ (∀ p ∈ r, p.length ≤ 1000) ∧ acc.length + r.length ≤ 100000 ∧ M2 = M.upd c (.lst (ils acc)))
    (fun _ _ _ _ => by trivial) (fun x rest ρ M2 hI nx hnx => ?_) (fun ρ M2 hI => ?_) _ _ _ ⟨none, none, none, [], [], 0, log, rfl, (by rw [← enum_lg]), fun _ => rfl, rfl, hpl, by simpa using hll, rfl⟩
  · obtain ⟨x4, x5, x6, acc, seg, k, r, rfl, e1, e2, e3, e4, e5, rfl⟩ := hI
    cases r with
    | nil => cases e1
    | cons p r =>
      rw [List.zipIdx_cons, List.map_cons] at e1
      obtain ⟨rfl, rfl⟩ := List.cons.inj e1
      rw [List.length_cons] at e5
      have hp := e4 p List.mem_cons_self
      have e4' : ∀ p ∈ r, p.length ≤ 1000 := fun x hx => e4 x (List.mem_cons_of_mem _ hx)
      simp
      rw [wpB]
      simp
      refine ⟨wideH seg, p, rfl, hp, ?_⟩
      try dsimp only
      rw [wpB]
      have new : acc ++ stF bs seg k (p :: r) = starts bs log → ¬ (k ≠ 0 ∧ fitsH bs (wideH (seg ++ [p])) = true) → wpB cx_phase_starts E [.expr (.mth .append (.var 2) (.var 4)), .set 6 (.call 2 [.var 5])] { nx := fun ρ' M' => wpB cx_phase_starts E [.set 3 (.var 6)] { nx := nx, rt := (endsD Q).rt, bk := fun ρ' M' => wpB cx_phase_starts E [.ret (.blt .tuple true [.var 2])] (endsD Q) ρ' M', ct := nx } ρ' M', rt := (endsD Q).rt, bk := fun ρ' M' => wpB cx_phase_starts E [.ret (.blt .tuple true [.var 2])] (endsD Q) ρ' M', ct := nx } [some (pt bs), some (lg log), some (.ref c), some (hu (wideH seg)), some (.int k), some (pt p), some (hu (joinH (wideH seg) p))] (M.upd c (.lst (ils acc))) := by
        intro z1 z2
        rw [wpB]
        simp
        refine ⟨by have := sz (n := acc.length + 1) (by omega); omega, ?_⟩
        rw [wpB]
        simp
        refine ⟨p, rfl, hp, ?_⟩
        try dsimp only
        rw [wpB]
        try dsimp only
        rw [wpB]
        simp
        rw [wpB]
        refine hnx _ _ ⟨_, _, _, acc ++ [(k : Int)], [p], k + 1, r, rfl, rfl, (fun z => by cases z), ?_, e4', by simp; omega, by rw [Mp.upd_upd]; simp [ils]⟩
        rw [← z1, stF, if_neg z2]
        simp
      simp
      by_cases hk : k = 0
      · rw [if_pos hk]
        exact new e3 fun z => z.1 hk
      · rw [if_neg hk]
        have hseg : seg ≠ [] := fun z => hk (e2 z)
        rw [wideH_snoc hseg] at new
        refine ⟨bs, _, rfl, hbl, ?_⟩
        by_cases hf : fitsH bs (joinH (wideH seg) p) = true
        · simp [hf]
          rw [wpB]
          try dsimp only
          rw [wpB]
          simp
          rw [wpB]
          refine hnx _ _ ⟨_, _, _, acc, seg ++ [p], k + 1, r, by rw [wideH_snoc hseg], rfl, (fun z => by simp at z), ?_, e4', by omega, rfl⟩
          rw [← e3, stF, if_pos ⟨hk, by rw [wideH_snoc hseg]; exact hf⟩]
        · simp [hf]
          exact new e3 fun z => hf z.2
  · obtain ⟨x4, x5, x6, acc, seg, k, r, rfl, e1, e2, e3, e4, e5, rfl⟩ := hI
    have : r = [] := by
      cases r with
      | nil => rfl
      | cons => cases e1
    subst this
    simp [stF] at e3
    show wpB _ _ _ _ _ _
    rw [wpB]
    simp
    refine Fin.sub (M' := M) (Mp.sub_upd hc) ?_
    rw [e3]
    exact q
/-! ### the law's own way to a log's width -/
def col (j : Nat) (l : List (List Int)) : List Int := l.map fun p => p.getD j 0
theorem foldl_join : ∀ (r : List (List Int)) (h : List (Int × Int)), (∀ q ∈ r, q.length = h.length) →
    r.foldl joinH h = (List.range h.length).map fun j => ((col j r).foldl mn (h.getD j (0, 0)).1, (col j r).foldl mx (h.getD j (0, 0)).2)
  | [], h, _ => by
    refine List.ext_getElem (by simp) fun i h1 h2 => ?_
    have h3 : i < h.length := h1
    simp [col, List.getD_eq_getElem?_getD, List.getElem?_eq_getElem h3]
  | q :: r, h, hq => by
    have hl := hq q List.mem_cons_self
    have e : (joinH h q).length = h.length := by rw [joinH_len, hl, Nat.min_self]
    rw [List.foldl_cons, foldl_join r _ fun x hx => by rw [e]; exact hq x (List.mem_cons_of_mem _ hx), e]
    refine List.map_congr_left fun j hj => ?_
    rw [List.mem_range] at hj
    have e2 : (joinH h q).getD j (0, 0) = (mn (h.getD j (0, 0)).1 (q.getD j 0), mx (h.getD j (0, 0)).2 (q.getD j 0)) := by
      have h3 : j < (joinH h q).length := by rw [e]; exact hj
      have h4 : j < q.length := by omega
      rw [List.getD_eq_getElem?_getD, List.getD_eq_getElem?_getD, List.getD_eq_getElem?_getD, List.getElem?_eq_getElem h3, List.getElem?_eq_getElem hj, List.getElem?_eq_getElem h4]
      simp [joinH]
    rw [e2]; rfl
theorem wideH_cols {a : Nat} {l : List (List Int)} (h0 : l ≠ []) (h : ∀ p ∈ l, p.length = a) : wideH l = (List.range a).map fun j => (minL (col j l), maxL (col j l)) := by
  cases l with
  | nil => exact absurd rfl h0
  | cons p r =>
    have hp := h p List.mem_cons_self
    have e := foldl_join r (hullP p) fun q hq => by rw [hullP_len, hp]; exact h q (List.mem_cons_of_mem _ hq)
    rw [hullP_len, hp] at e
    rw [show wideH (p :: r) = r.foldl joinH (hullP p) from rfl, e]
    refine List.map_congr_left fun j hj => ?_
    rw [List.mem_range] at hj
    have e2 : (hullP p).getD j (0, 0) = (p.getD j 0, p.getD j 0) := by
      simp [hullP, List.getD_eq_getElem?_getD, List.getElem?_eq_getElem (show j < p.length by omega)]
    rw [e2]; rfl
def mc_q_wide : MC := ⟨["_law_log_here", "_law_found", "_law_axis", "_law_line", "_law_one"], [], [], [], []⟩
def b_q_wide : List CS := [.set 1 (.lst false []),
    .for (.nm 2) .rng1 [.blt .len true [.ix (.var 0) (.int 0)]] [.setLc 3 (.comp true (.ix (.var 4) (.var 2)) (.nm 4) .seq [.var 0] [4]), .expr (.mth .append (.var 1) (.tup [.blt .min true [.var 3], .blt .max true [.var 3]]))],
    .ret (.var 1)]
def spWide : DSp := fun ds M Q _ => ∃ (log : List (List Int)) (a : Nat), ds = [lg log] ∧ log ≠ [] ∧ log.length ≤ 100000 ∧ a ≤ 1000 ∧ (∀ p ∈ log, p.length = a) ∧ Q (.lst ((wideH log).map pr)) M
def fi_q_wide : FI := ⟨"_law_wide", 1, spWide⟩
@[simp] theorem fi_q_wide_sp : fi_q_wide.sp = spWide := rfl
theorem wp_q_wide {C : Ctx} {E : EX} {ds : List D} {M : Mp} {Q : QE} {E' : XD → Mp → Prop} (h : spWide ds M Q E') : wpB C E b_q_wide (endsD Q) (startD mc_q_wide.N ds) M := by
  obtain ⟨log, a, rfl, h0, hl, ha, hp, q⟩ := h
  rw [show startD mc_q_wide.N [lg log] = [some (lg log), none, none, none, none] from rfl, b_q_wide, wpB]
  simp
  intro c hc
  rw [wpB]
  obtain ⟨p0, r0, e0⟩ : ∃ p0 r0, log = p0 :: r0 := by
    cases log with
    | nil => exact absurd rfl h0
    | cons p r => exact ⟨p, r, rfl⟩
  have hp0 : p0.length = a := hp p0 (by rw [e0]; exact List.mem_cons_self)
  have e1 : atI (log.map pt) 0 = some (pt p0) := by rw [e0]; exact atI_z
  simp [itD, e1, hp0]
  refine ⟨⟨by omega, by omega⟩, ?_⟩
  refine forD_ind (fun rest ρ M2 => ∃ (x2 x3 x4 : Option D) (L1 L2 : List Nat), ρ = [some (lg log), some (.ref c), x2, x3, x4] ∧ L1 ++ L2 = List.range a ∧ rest = L2.map (fun (i : Nat) => D.int (i : Int)) ∧ M2 = M.upd c (.lst (L1.map fun j => pr (minL (col j log), maxL (col j log)))))
    (fun _ _ _ _ => by trivial) (fun x rest ρ M2 hI nx hnx => ?_) (fun ρ M2 hI => ?_) _ _ _ ⟨none, none, none, [], List.range a, rfl, rfl, rfl, rfl⟩
  · obtain ⟨x2, x3, x4, L1, L2, rfl, e2, e3, rfl⟩ := hI
    cases L2 with
    | nil => cases e3
    | cons j L2 =>
      rw [List.map_cons] at e3
      obtain ⟨rfl, rfl⟩ := List.cons.inj e3
      have hj : j < a := by
        have : j ∈ List.range a := by rw [← e2]; simp
        exact List.mem_range.mp this
      have hL : L1.length + (L2.length + 1) = a := by have := congrArg List.length e2; simpa using this
      simp
      rw [wpB]
      simp [itD]
      intro c2 hc2
      refine cmpL_mapf pt (fun p => .int (p.getD j 0)) hc2 (by omega) (fun _ => by trivial) (fun p hpm acc add skip hadd => ?_) ?_
      · have hpl := hp p hpm
        simp [turnC, wipeD]
        rw [atI_nat (by simpa [hpl] using hj)]
        simpa [List.getD_eq_getElem?_getD, List.getElem?_eq_getElem (show j < p.length by omega)] using hadd
      · rw [show log.map (fun p => D.int (p.getD j 0)) = ils (col j log) by simp [col, ils]]
        try dsimp only
        rw [wpB]
        have hne : col j log ≠ [] := by rw [e0]; simp [col]
        simp [hne]
        refine ⟨by decide, by have := sz (n := L1.length + 1) (by omega); omega, ?_⟩
        rw [wpB]
        refine hnx _ _ ⟨_, _, _, L1 ++ [j], L2, rfl, by simpa using e2, rfl, by rw [Mp.upd_upd]; simp⟩
  · obtain ⟨x2, x3, x4, L1, L2, rfl, e2, e3, rfl⟩ := hI
    have : L2 = [] := by
      cases L2 with
      | nil => rfl
      | cons => cases e3
    subst this
    rw [List.append_nil] at e2
    subst e2
    show wpB _ _ _ _ _ _
    rw [wpB]
    simp
    refine Fin.lst Mp.upd_same ?_
    rw [Mp.del_upd hc]
    rw [wideH_cols h0 hp, List.map_map] at q
    exact q
def mc_q_fit : MC := ⟨["_law_box_here", "_law_log_here", "_law_size", "_law_pair"], ["_law_wide"], [], [], []⟩
def b_q_fit : List CS := [.for (.tup [.nm 2, .nm 3]) .zip2 [.var 0, .call 0 [.var 1]] [.ifs (.cmp .GtE (.bin .Sub true (.ix (.var 3) (.int 1)) (.ix (.var 3) (.int 0))) (.var 2)) [.ret (.bl false)] []],
    .ret (.bl true)]
def cx_q_fit : Ctx := ⟨[fi_q_wide], [], [], []⟩
@[simp] theorem cx_q_fit_0 : cx_q_fit.fs[0]? = some fi_q_wide := rfl
def spFit : DSp := fun ds M Q _ => ∃ (bs : List Int) (log : List (List Int)), ds = [pt bs, lg log] ∧ log ≠ [] ∧ log.length ≤ 100000 ∧ bs.length ≤ 1000 ∧ (∀ p ∈ log, p.length = bs.length) ∧ Q (.bl (fitsH bs (wideH log))) M
def fi_q_fit : FI := ⟨"_law_fit", 2, spFit⟩
@[simp] theorem fi_q_fit_sp : fi_q_fit.sp = spFit := rfl
theorem wp_q_fit {E : EX} {ds : List D} {M : Mp} {Q : QE} {E' : XD → Mp → Prop} (h : spFit ds M Q E') : wpB cx_q_fit E b_q_fit (endsD Q) (startD mc_q_fit.N ds) M := by
  obtain ⟨bs, log, rfl, h0, hl, hb, hp, q⟩ := h
  rw [show startD mc_q_fit.N [pt bs, lg log] = [some (pt bs), some (lg log), none, none] from rfl, b_q_fit, wpB]
  simp
  refine ⟨log, bs.length, rfl, h0, hl, hb, hp, ?_⟩
  simp [itD]
  refine forD_ind (fun rest ρ M2 => ∃ (x2 x3 : Option D) (b2 : List Int) (h2 : List (Int × Int)), ρ = [some (pt bs), some (lg log), x2, x3] ∧ rest = (b2.zip h2).map (fun t => D.tup [.int t.1, pr t.2]) ∧ fitsH b2 h2 = fitsH bs (wideH log) ∧ M2 = M)
    (fun _ _ _ _ => by trivial) (fun x rest ρ M2 hI nx hnx => ?_) (fun ρ M2 hI => ?_) _ _ _ ⟨none, none, bs, wideH log, rfl, ?_, rfl, rfl⟩
  · obtain ⟨x2, x3, b2, h2, rfl, e1, e2, rfl⟩ := hI
    cases b2 with
    | nil => cases e1
    | cons b b2 => cases h2 with
      | nil => cases e1
      | cons t h2 =>
        rw [List.zip_cons_cons, List.map_cons] at e1
        obtain ⟨rfl, rfl⟩ := List.cons.inj e1
        have e3 : fitsH (b :: b2) (t :: h2) = (decide (t.2 - t.1 < b) && fitsH b2 h2) := rfl
        simp
        rw [wpB]
        simp [atI, ixN]
        split
        · rename_i hb'
          rw [wpB]
          simp
          have : fitsH bs (wideH log) = false := by rw [← e2, e3]; simp; intro z; omega
          rw [this] at q
          exact Fin.same q
        · rename_i hb'
          rw [wpB]
          try dsimp only
          rw [wpB]
          refine hnx _ _ ⟨_, _, b2, h2, rfl, rfl, ?_, rfl⟩
          rw [← e2, e3]
          simp
          intro _; omega
  · obtain ⟨x2, x3, b2, h2, rfl, e1, e2, rfl⟩ := hI
    have e3 : fitsH b2 h2 = true := by
      cases b2 with
      | nil => simp [fitsH]
      | cons b b2 => cases h2 with
        | nil => rfl
        | cons t h2 => cases e1
    show wpB _ _ _ _ _ _
    rw [wpB]
    simp
    rw [← e2, e3] at q
    exact Fin.same q
  · rw [ils, List.zip_map, List.map_map]; rfl
def mc_q_phases : MC := ⟨["_law_box_here", "_law_log_here", "_law_starts", "_law_number"], ["_law_fit"], [], [], []⟩
def b_q_phases : List CS := [.set 2 (.lst false []),
    .for (.nm 3) .rng1 [.blt .len true [.var 1]] [.ifs (.or (.cmp .Eq (.var 3) (.int 0)) (.one (.not (.call 0 [.var 0, .sl true (.var 1) (.ix (.var 2) (.neg (.int 1))) (.bin .Add true (.var 3) (.int 1))])))) [.expr (.mth .append (.var 2) (.var 3))] []],
    .ret (.var 2)]
def cx_q_phases : Ctx := ⟨[fi_q_fit], [], [], []⟩
@[simp] theorem cx_q_phases_0 : cx_q_phases.fs[0]? = some fi_q_fit := rfl
def spQPhases : DSp := fun ds M Q _ => ∃ (bs : List Int) (log : List (List Int)), ds = [pt bs, lg log] ∧ log.length ≤ 100000 ∧ bs.length ≤ 1000 ∧ (∀ p ∈ log, p.length = bs.length) ∧ Q (.lst (ils (starts bs log))) M
def fi_q_phases : FI := ⟨"_law_phases", 2, spQPhases⟩
@[simp] theorem fi_q_phases_sp : fi_q_phases.sp = spQPhases := rfl
theorem cutD_nat {l : List D} {i j : Nat} (hi : i ≤ l.length) (hj : j ≤ l.length) : cutD l (some (i : Int)) (some (j : Int)) = (l.drop i).take (j - i) := by
  unfold cutD
  rw [HT.sIx_nat, HT.sIx_nat, Nat.min_eq_left hi, Nat.min_eq_left hj]
@[simp] theorem sl_tup {fz : Bool} {l : List D} {lo hi : Option Int} {M : Mp} {Q : QE} : slD fz (.tup l) lo hi M Q = Q (.tup (cutD l lo hi)) M := rfl
@[simp] theorem sl_lst {l : List D} {lo hi : Option Int} {M : Mp} {Q : QE} : slD true (.lst l) lo hi M Q = Q (.lst (cutD l lo hi)) M := rfl
theorem atI_last {l : List D} {d : D} : atI (l ++ [d]) (-1) = some d := by
  have h : ((l ++ [d]).length : Int) = l.length + 1 := by simp
  unfold atI ixN
  rw [h, if_neg (by omega), if_pos (by omega)]
  simp
  rw [show (-1 + ((l.length : Int) + 1)).toNat = l.length by omega]
  simp
theorem wp_q_phases {E : EX} {ds : List D} {M : Mp} {Q : QE} {E' : XD → Mp → Prop} (h : spQPhases ds M Q E') : wpB cx_q_phases E b_q_phases (endsD Q) (startD mc_q_phases.N ds) M := by
  obtain ⟨bs, log, rfl, hl, hb, hp, q⟩ := h
  rw [show startD mc_q_phases.N [pt bs, lg log] = [some (pt bs), some (lg log), none, none] from rfl, b_q_phases, wpB]
  simp
  intro c hc
  rw [wpB]
  simp [itD]
  refine ⟨⟨by omega, by omega⟩, ?_⟩
  refine forD_ind (fun rest ρ M2 => ∃ (x3 : Option D) (acc : List Int) (pre seg r : List (List Int)), ρ = [some (pt bs), some (lg log), some (.ref c), x3] ∧ rest = (List.range' (pre.length + seg.length) r.length).map (fun (i : Nat) => D.int (i : Int)) ∧
      pre ++ seg ++ r = log ∧ (seg = [] → pre = []) ∧ (seg ≠ [] → ∃ a0, acc = a0 ++ [(pre.length : Int)]) ∧ acc ++ stF bs seg (pre.length + seg.length) r = starts bs log ∧ acc.length ≤ pre.length + seg.length ∧ M2 = M.upd c (.lst (ils acc)))
    (fun _ _ _ _ => by trivial) (fun x rest ρ M2 hI nx hnx => ?_) (fun ρ M2 hI => ?_) _ _ _ ⟨none, [], [], [], log, rfl, by simp [List.range_eq_range'], rfl, fun _ => rfl, fun z => absurd rfl z, rfl, Nat.zero_le _, rfl⟩
  · obtain ⟨x3, acc, pre, seg, r, rfl, e1, e2, e3, e4, e5, e6, rfl⟩ := hI
    cases r with
    | nil => cases e1
    | cons p r =>
      rw [List.length_cons, List.range'_succ, List.map_cons] at e1
      obtain ⟨rfl, rfl⟩ := List.cons.inj e1
      obtain ⟨k, hk⟩ : ∃ k, k = pre.length + seg.length := ⟨_, rfl⟩
      rw [← hk] at e5 e6 ⊢
      have hlen : k + (r.length + 1) = log.length := by rw [← e2, hk]; simp; omega
      have new : ¬ (k ≠ 0 ∧ fitsH bs (wideH (seg ++ [p])) = true) → wpB cx_q_phases E [.expr (.mth .append (.var 2) (.var 3))] { nx := fun ρ' M' => wpB cx_q_phases E [] { nx := nx, rt := (endsD Q).rt, bk := fun ρ' M' => wpB cx_q_phases E [.ret (.var 2)] (endsD Q) ρ' M', ct := nx } ρ' M', rt := (endsD Q).rt, bk := fun ρ' M' => wpB cx_q_phases E [.ret (.var 2)] (endsD Q) ρ' M', ct := nx } [some (pt bs), some (lg log), some (.ref c), some (.int k)] (M.upd c (.lst (ils acc))) := by
        intro z2
        rw [wpB]
        simp
        refine ⟨by have := sz (n := acc.length + 1) (by omega); omega, ?_⟩
        rw [wpB]
        try dsimp only
        rw [wpB]
        refine hnx _ _ ⟨_, acc ++ [(k : Int)], pre ++ seg, [p], r, rfl, by simp [hk], by simpa using e2, (fun z => by cases z), fun _ => ⟨acc, by simp [hk]⟩, ?_, by simp; omega, by rw [Mp.upd_upd]; simp [ils]⟩
        rw [← e5, stF, if_neg z2]
        simp [hk]
      simp
      rw [wpB]
      simp
      by_cases hk0 : k = 0
      · rw [if_pos hk0]
        exact new fun z => z.1 hk0
      · rw [if_neg hk0]
        have hseg : seg ≠ [] := fun z => hk0 (by rw [hk, z, e3 z]; rfl)
        obtain ⟨a0, ha0⟩ := e4 hseg
        rw [ha0]
        simp [atI_last]
        rw [show ((k : Int) + 1) = ((k + 1 : Nat) : Int) from rfl, cutD_nat (by simp; omega) (by simp; omega)]
        have hcut : ((log.map pt).drop pre.length).take (k + 1 - pre.length) = (seg ++ [p]).map pt := by
          rw [← List.map_drop, ← List.map_take, ← e2, List.append_assoc, List.drop_left]
          rw [show k + 1 - pre.length = (seg ++ [p]).length by rw [hk]; simp; omega]
          rw [show seg ++ p :: r = (seg ++ [p]) ++ r by simp, List.take_left]
        rw [hcut]
        refine ⟨bs, seg ++ [p], rfl, by simp, by simp; omega, hb, fun x hx => hp x (by rw [← e2]; simp at hx ⊢; rcases hx with h | h <;> simp [h]), ?_⟩
        by_cases hf : fitsH bs (wideH (seg ++ [p])) = true
        · simp [hf]
          rw [wpB]
          try dsimp only
          rw [wpB]
          refine hnx _ _ ⟨_, acc, pre, seg ++ [p], r, rfl, by simp [hk, Nat.add_assoc], by simpa using e2, (fun z => by simp at z), fun _ => ⟨a0, ha0⟩, ?_, by simp; omega, by rw [ha0]; simp [ils]⟩
          rw [← e5, stF, if_pos ⟨hk0, hf⟩]
          simp [hk, Nat.add_assoc]
        · simp [hf]
          have z := new fun z => hf z.2
          rw [ha0] at z
          simpa using z
  · obtain ⟨x3, acc, pre, seg, r, rfl, e1, e2, e3, e4, e5, e6, rfl⟩ := hI
    have : r = [] := by
      cases r with
      | nil => rfl
      | cons => cases e1
    subst this
    simp [stF] at e5
    show wpB _ _ _ _ _ _
    rw [wpB]
    simp
    refine Fin.lst Mp.upd_same ?_
    rw [Mp.del_upd hc, e5]
    exact q
/-! ### points told apart -/
theorem lay_ils : ∀ a : List Int, PyData.canLayAll0 (D.pys (ils a)) = true ∧ PyData.depthAll (D.pys (ils a)) = 0 ∧ D.flats (ils a) = true
  | [] => ⟨by simp only [ils, List.map_nil, D.pys, PyData.canLayAll0], by simp only [ils, List.map_nil, D.pys, PyData.depthAll], rfl⟩
  | x :: r => by
    obtain ⟨h1, h2, h3⟩ := lay_ils r
    refine ⟨?_, ?_, ?_⟩
    · simp only [ils, List.map_cons, D.pys, D.py, PyData.canLayAll0, PyData.canLay0, Bool.true_and]; exact h1
    · simp only [ils, List.map_cons, D.pys, D.py, PyData.depthAll, PyData.depth]; rw [show PyData.depthAll (D.pys (r.map D.int)) = 0 from h2]; rfl
    · show (true && D.flats (ils r)) = true; rw [h3]; rfl
theorem lay_pt (a : List Int) : (pt a).py.canLay0 = true := by
  simp only [pt, D.py, PyData.canLay0]; exact (lay_ils a).1
theorem ok_pt (a : List Int) : (pt a).ok := by
  refine ⟨(lay_ils a).2.2, ?_⟩
  unfold SeqAt.shaped
  rw [lay_pt a]
  simp only [pt, D.py, PyData.depth, Bool.true_and]
  rw [(lay_ils a).2.1]; rfl
theorem eq_pt (a : List Int) : eqB (pt a) (pt a) = true := PySem.SeqAt.eqv_refl _ (lay_pt a)
theorem cmp_nept {a b : List Int} {M : Mp} {Q : QE} (h : a = b) (q : Q (.bl false) M) : cmpD .NotEq (pt a) (pt b) M Q := by
  subst h
  refine ⟨ok_pt a, ok_pt a, ?_⟩
  rw [eq_pt]; exact q
theorem cmp_eqpt {a b : List Int} {M : Mp} {Q : QE} (h : a = b) (q : Q (.bl true) M) : cmpD .Eq (pt a) (pt b) M Q := by
  subst h
  refine ⟨ok_pt a, ok_pt a, ?_⟩
  rw [eq_pt]; exact q
end Ow

namespace Ow
open PySem PySem.Spec PyProof.Rows L2
/-! ### loops over typed lists -/
@[simp] theorem upd_upd' {M : Mp} {a : Addr} {o u : MO} : (M.upd a o).upd a u = M.upd a u := Mp.upd_upd
theorem wpB_cons {C : Ctx} {E : EX} {s : CS} {r : List CS} {B : DEnds} {ρ : DSt} {M : Mp} : wpB C E (s :: r) B ρ M = wpS C E s { B with nx := fun ρ' M' => wpB C E r B ρ' M' } ρ M := by rw [wpB]
theorem wpB_nil {C : Ctx} {E : EX} {B : DEnds} {ρ : DSt} {M : Mp} : wpB C E [] B ρ M = B.nx ρ M := by rw [wpB]
/-- what holds of the part that is done -/
theorem forD_pre {α : Type} {ct : CT} {ok : Mp → Prop} {tb : DTS} {B : DEnds} (f : α → D) {L : List α} (I : List α → DSt → Mp → Prop) (hok : ∀ M, ok M)
    (step : ∀ pre a post ρ M, pre ++ a :: post = L → I pre ρ M → ∀ nx : DSt → Mp → Prop, (∀ ρ' M', I (pre ++ [a]) ρ' M' → nx ρ' M') → bindT ct (f a) ρ fun ρ' => tb { B with nx := nx, ct := nx, bk := B.nx } ρ' M)
    (fin : ∀ ρ M, I L ρ M → B.nx ρ M) {ρ : DSt} {M : Mp} (h : I [] ρ M) : forD ct ok tb B (L.map f) ρ M := by
  have key : ∀ post pre, pre ++ post = L → ∀ ρ M, I pre ρ M → forD ct ok tb B (post.map f) ρ M := by
    intro post
    induction post with
    | nil => intro pre e ρ M h; rw [List.append_nil] at e; subst e; exact ⟨hok _, fin ρ M h⟩
    | cons a post ih =>
      intro pre e ρ M h
      refine ⟨hok _, step pre a post ρ M e h _ fun ρ' M' h' => ih (pre ++ [a]) (by simpa using e) ρ' M' h'⟩
  exact key L [] rfl ρ M h
/-- nothing but the slots changes -/
theorem forD_keep {α : Type} {ct : CT} {ok : Mp → Prop} {tb : DTS} {B : DEnds} (f : α → D) {L : List α} (S : DSt → Prop) (hok : ∀ M, ok M) {ρ : DSt} {M : Mp}
    (step : ∀ a ∈ L, ∀ ρ, S ρ → ∀ nx : DSt → Mp → Prop, (∀ ρ', S ρ' → nx ρ' M) → bindT ct (f a) ρ fun ρ' => tb { B with nx := nx, ct := nx, bk := B.nx } ρ' M)
    (fin : ∀ ρ, S ρ → B.nx ρ M) (h : S ρ) : forD ct ok tb B (L.map f) ρ M :=
  forD_pre f (fun _ ρ' M' => S ρ' ∧ M' = M) hok (fun pre a post ρ' M' e hI nx hnx => by
    obtain ⟨hS, rfl⟩ := hI
    exact step a (by rw [← e]; simp) ρ' hS nx fun ρ2 h2 => hnx ρ2 _ ⟨h2, rfl⟩) (fun ρ' M' hI => by obtain ⟨hS, rfl⟩ := hI; exact fin ρ' hS) ⟨h, rfl⟩
/-- a list is filled, nothing else changes -/
theorem forD_map {α : Type} {ct : CT} {ok : Mp → Prop} {tb : DTS} {B : DEnds} (f g : α → D) {L : List α} (S : DSt → Prop) (hok : ∀ M, ok M) {ρ : DSt} {M : Mp} {p : Addr}
    (step : ∀ a ∈ L, ∀ acc ρ, acc.length < L.length → S ρ → ∀ nx : DSt → Mp → Prop, (∀ ρ', S ρ' → nx ρ' (M.upd p (.lst (acc ++ [g a])))) → bindT ct (f a) ρ fun ρ' => tb { B with nx := nx, ct := nx, bk := B.nx } ρ' (M.upd p (.lst acc)))
    (fin : ∀ ρ, S ρ → B.nx ρ (M.upd p (.lst (L.map g)))) (h : S ρ) : forD ct ok tb B (L.map f) ρ (M.upd p (.lst [])) :=
  forD_pre f (fun pre ρ' M' => S ρ' ∧ M' = M.upd p (.lst (pre.map g))) hok (fun pre a post ρ' M' e hI nx hnx => by
    obtain ⟨hS, rfl⟩ := hI
    refine step a (by rw [← e]; simp) _ ρ' (by rw [← e]; simp) hS nx fun ρ2 h2 => hnx ρ2 _ ⟨h2, by simp⟩) (fun ρ' M' hI => by obtain ⟨hS, rfl⟩ := hI; exact fin ρ' hS) ⟨h, rfl⟩
/-- a list is filled by draws -/
theorem forD_draw {α β : Type} {ct : CT} {ok : Mp → Prop} {tb : DTS} {B : DEnds} {p u : Addr} {M0 M : Mp} {n c : Nat} {ρ : DSt} (f : α → D) (g : β → D) (R : α → β → Prop) (S : DSt → Prop) {L : List α} (hok : ∀ M', ok M')
    (hS : S ρ) (hp : M p = some (.lst [])) (hU : Urn M u n) (hL : Loc M0 M u p)
    (step : ∀ a ∈ L, ∀ (ys : List β) (ρ1 : DSt) (M1 : Mp) (m : Nat), S ρ1 → M1 p = some (.lst (ys.map g)) → ys.length < L.length → Urn M1 u m → m + c ≤ n + c * L.length → Loc M0 M1 u p → ∀ nx : DSt → Mp → Prop,
      (∀ (y : β) (ρ2 : DSt) (M2 : Mp), R a y → S ρ2 → M2 p = some (.lst (ys.map g ++ [g y])) → Urn M2 u (m + c) → Loc M0 M2 u p → nx ρ2 M2) → bindT ct (f a) ρ1 fun ρ' => tb { B with nx := nx, ct := nx, bk := B.nx } ρ' M1)
    (fin : ∀ (ys : List β) (ρ2 : DSt) (M2 : Mp), All2 R L ys → S ρ2 → M2 p = some (.lst (ys.map g)) → Urn M2 u (n + c * L.length) → Loc M0 M2 u p → B.nx ρ2 M2) : forD ct ok tb B (L.map f) ρ M := by
  refine forD_pre f (fun pre ρ' M' => ∃ ys : List β, All2 R pre ys ∧ S ρ' ∧ M' p = some (.lst (ys.map g)) ∧ Urn M' u (n + c * pre.length) ∧ Loc M0 M' u p) hok (fun pre a post ρ' M' e hI nx hnx => ?_) (fun ρ' M' hI => ?_) ⟨[], trivial, hS, hp, hU, hL⟩
  · obtain ⟨ys, h1, h2, h3, h4, h5⟩ := hI
    have hl : pre.length < L.length := by rw [← e]; simp
    have hm : c * pre.length + c ≤ c * L.length := by
      have := Nat.mul_le_mul_left c (show pre.length + 1 ≤ L.length by omega)
      rw [Nat.mul_add, Nat.mul_one] at this
      exact this
    refine step a (by rw [← e]; simp) ys ρ' M' _ h2 h3 (by rw [← h1.length]; exact hl) h4 (by omega) h5 nx fun y ρ2 M2 r1 r2 r3 r4 r5 => ?_
    exact hnx ρ2 M2 ⟨ys ++ [y], h1.snoc r1, r2, by simpa using r3, r4.mono (by rw [List.length_append, List.length_singleton, Nat.mul_add, Nat.mul_one]; omega), r5⟩
  · obtain ⟨ys, h1, h2, h3, h4, h5⟩ := hI
    exact fin ys ρ' M' h1 h2 h3 h4 h5
/-- a list of draws, typed -/
theorem cmpL_pre {α : Type} {ok : Mp → Prop} {turn : D → Mp → QE → (Mp → Prop) → Prop} {p : Addr} {Q : QE} (f : α → D) {L : List α} (I : List α → List D → Mp → Prop) (hok : ∀ M, ok M) (hIp : ∀ pre acc M, I pre acc M → M p = some (.lst acc)) (hsz : ∀ pre acc M, I pre acc M → acc.length ≤ pre.length) (hl : L.length ≤ 16777216)
    (step : ∀ pre a post acc M, pre ++ a :: post = L → I pre acc M → ∀ (add : QE) (skip : Mp → Prop), (∀ d M', M' p = some (.lst acc) → I (pre ++ [a]) (acc ++ [d]) (M'.upd p (.lst (acc ++ [d]))) → add d M') → (∀ M', I (pre ++ [a]) acc M' → skip M') → turn (f a) M add skip)
    (fin : ∀ acc M, I L acc M → Q (.lst acc) (M.del p)) {M : Mp} (h : I [] [] M) : cmpL true ok turn p Q (L.map f) M := by
  refine cmpL_ind (fun r acc M' => ∃ pre post, pre ++ post = L ∧ r = post.map f ∧ I pre acc M') (fun r acc M' z => by obtain ⟨_, _, _, _, z⟩ := z; exact ⟨hok _, hIp _ _ _ z⟩) (fun x r acc M' z add skip ha hs => ?_) (fun acc M' z => ?_) _ [] _ ⟨[], L, rfl, rfl, h⟩
  · obtain ⟨pre, post, e1, e2, z⟩ := z
    cases post with
    | nil => cases e2
    | cons a post =>
      rw [List.map_cons] at e2
      obtain ⟨rfl, rfl⟩ := List.cons.inj e2
      refine step pre a post acc M' e1 z add skip (fun d M2 e3 h2 => ha d M2 e3 ?_ ⟨pre ++ [a], post, by simpa using e1, rfl, h2⟩) fun M2 h2 => hs M2 ⟨pre ++ [a], post, by simpa using e1, rfl, h2⟩
      have h1 := hsz _ _ _ z
      have h2 := congrArg List.length e1
      rw [List.length_append, List.length_cons] at h2
      have := sz (n := pre.length + 1) (by omega)
      omega
  · obtain ⟨pre, post, e1, e2, z⟩ := z
    have : post = [] := by
      cases post with
      | nil => rfl
      | cons => cases e2
    subst this
    rw [List.append_nil] at e1
    subst e1
    rw [if_pos rfl]
    exact fin acc M' z
theorem cmpL_draw {α β : Type} {ok : Mp → Prop} {turn : D → Mp → QE → (Mp → Prop) → Prop} {p u : Addr} {Q : QE} {M : Mp} {n c : Nat} (f : α → D) (g : β → D) (R : α → β → Prop) {L : List α} (hp : M p = none) (hU : Urn M u n) (hok : ∀ M', ok M') (hl : L.length ≤ 16777216)
    (h : ∀ a ∈ L, ∀ M1 m, Urn M1 u m → m + c ≤ n + c * L.length → Loc M M1 u p → ∀ (add : QE) (skip : Mp → Prop), (∀ y M', R a y → Urn M' u (m + c) → Only M1 M' u → add (g y) M') → turn (f a) M1 add skip)
    (q : ∀ ys M', All2 R L ys → Urn M' u (n + c * L.length) → Only M M' u → Q (.lst (ys.map g)) M') : cmpL true ok turn p Q (L.map f) (M.upd p (.lst [])) := by
  have hpu := hU.ne hp
  refine cmpL_pre f (fun pre acc M' => M' p = some (.lst acc) ∧ Urn M' u (n + c * pre.length) ∧ Loc M M' u p ∧ ∃ ys, acc = ys.map g ∧ All2 R pre ys) hok (fun _ _ _ z => z.1) (fun pre acc M' z => by obtain ⟨_, _, _, ys, rfl, z⟩ := z; rw [List.length_map, z.length]; exact Nat.le_refl _) hl (fun pre a post acc M1 e hI add skip ha _ => ?_) (fun acc M1 hI => ?_) ⟨Mp.upd_same, hU.upd hpu, Loc.new, [], rfl, trivial⟩
  · obtain ⟨h1, h2, h3, ys, rfl, h4⟩ := hI
    have hl : pre.length < L.length := by rw [← e]; simp
    have hm : c * pre.length + c ≤ c * L.length := by
      have := Nat.mul_le_mul_left c (show pre.length + 1 ≤ L.length by omega)
      rw [Nat.mul_add, Nat.mul_one] at this
      exact this
    refine h a (by rw [← e]; simp) M1 _ h2 (by omega) h3 add skip fun y M' r1 r2 r3 => ha _ _ ((r3 p hpu).trans h1) ⟨Mp.upd_same, (r2.upd hpu).mono (by rw [List.length_append, List.length_singleton, Nat.mul_add, Nat.mul_one]; omega), (h3.draw r3).upd, ys ++ [y], by simp, h4.snoc r1⟩
  · obtain ⟨h1, h2, h3, ys, rfl, h4⟩ := hI
    exact q ys _ h4 (h2.del hpu) (h3.del hp)
theorem All2.map_left {α β γ : Type} {R : β → γ → Prop} {f : α → β} : ∀ {l : List α} {k : List γ}, All2 R (l.map f) k → All2 (fun a c => R (f a) c) l k
  | [], [], _ => trivial
  | _ :: _, _ :: _, h => ⟨h.1, All2.map_left h.2⟩
theorem All2.zip {α β : Type} {R : α → β → Prop} : ∀ {l : List α} {k : List β}, All2 R l k → ∀ t ∈ l.zip k, R t.1 t.2
  | [], [], _, t, h => by cases h
  | _ :: _, _ :: _, h, t, ht => by
    rcases List.mem_cons.mp ht with rfl | ht
    · exact h.1
    · exact All2.zip h.2 t ht
theorem All2.get {α β : Type} {R : α → β → Prop} : ∀ {l : List α} {k : List β} {i : Nat} (h : All2 R l k) (h1 : i < l.length) (h2 : i < k.length), R l[i] k[i]
  | _ :: _, _ :: _, 0, h, _, _ => h.1
  | _ :: _, _ :: _, i + 1, h, h1, h2 => All2.get (i := i) h.2 (by simpa using h1) (by simpa using h2)
theorem All2.left {α β : Type} {R : α → β → Prop} : ∀ {l : List α} {k : List β}, All2 R l k → ∀ x ∈ l, ∃ y ∈ k, R x y
  | [], [], _, x, hx => by cases hx
  | _ :: _, _ :: _, h, x, hx => by
    rcases List.mem_cons.mp hx with rfl | hx
    · exact ⟨_, List.mem_cons_self, h.1⟩
    · obtain ⟨y, hy, r⟩ := All2.left h.2 x hx
      exact ⟨y, List.mem_cons_of_mem _ hy, r⟩
end Ow

namespace Ow
open PySem PySem.Spec PyProof.Rows L2
/-! ### hulls that fit: slacks, places -/
def placesP (bs : List Int) (h : List (Int × Int)) : List (Int × Int) := (h.zip bs).map fun t => (t.1.2 - t.2 + 1, t.1.1)
def slackP (bs : List Int) (h : List (Int × Int)) : List Int := (h.zip bs).map fun t => t.2 - (t.1.2 - t.1.1)
def halvingP (bs : List Int) (h : List (Int × Int)) : List Int := (placesP bs h).map fun t => t.1 + (t.2 - t.1) / 2
def mc_check_fits : MC := ⟨["box", "hull"], ["fits"], [], [], []⟩
def b_check_fits : List CS := [.ifs (.not (.call 0 [.var 0, .var 1])) [.bad] []]
def cx_check_fits : Ctx := ⟨[fi_fits], [], [], []⟩
@[simp] theorem cx_check_fits_0 : cx_check_fits.fs[0]? = some fi_fits := rfl
def spCheck : DSp := fun ds M Q _ => ∃ (bs : List Int) (h : List (Int × Int)), ds = [pt bs, hu h] ∧ bs.length ≤ 1000 ∧ fitsH bs h = true ∧ Q .non M
def fi_check_fits : FI := ⟨"check_fits", 2, spCheck⟩
@[simp] theorem fi_check_fits_sp : fi_check_fits.sp = spCheck := rfl
theorem wp_check_fits {E : EX} {ds : List D} {M : Mp} {Q : QE} {E' : XD → Mp → Prop} (h : spCheck ds M Q E') : wpB cx_check_fits E b_check_fits (endsD Q) (startD mc_check_fits.N ds) M := by
  obtain ⟨bs, h, rfl, hl, hf, q⟩ := h
  rw [show startD mc_check_fits.N [pt bs, hu h] = [some (pt bs), some (hu h)] from rfl, b_check_fits, wpB_cons]
  simp
  refine ⟨bs, h, rfl, hl, ?_⟩
  simp [hf, wpB_nil]
  exact Fin.same q
def mc_places_of : MC := ⟨["box", "hull", "size", "least", "greatest"], ["check_fits"], [], [], []⟩
def b_places_of : List CS := [.expr (.call 0 [.var 0, .var 1]),
    .ret (.blt .tuple true [.comp true (.tup [.bin .Add true (.bin .Sub true (.var 4) (.var 2)) (.int 1), .var 3]) (.tup [.tup [.nm 3, .nm 4], .nm 2]) .zip2 [.var 1, .var 0] [2, 3, 4]])]
def cx_places_of : Ctx := ⟨[fi_check_fits], [], [], []⟩
@[simp] theorem cx_places_of_0 : cx_places_of.fs[0]? = some fi_check_fits := rfl
def spPlaces : DSp := fun ds M Q _ => ∃ (bs : List Int) (h : List (Int × Int)), ds = [pt bs, hu h] ∧ bs.length ≤ 1000 ∧ fitsH bs h = true ∧ Q (hu (placesP bs h)) M
def fi_places_of : FI := ⟨"places_of", 2, spPlaces⟩
@[simp] theorem fi_places_of_sp : fi_places_of.sp = spPlaces := rfl
theorem wp_places_of {E : EX} {ds : List D} {M : Mp} {Q : QE} {E' : XD → Mp → Prop} (h : spPlaces ds M Q E') : wpB cx_places_of E b_places_of (endsD Q) (startD mc_places_of.N ds) M := by
  obtain ⟨bs, h, rfl, hl, hf, q⟩ := h
  rw [show startD mc_places_of.N [pt bs, hu h] = [some (pt bs), some (hu h), none, none, none] from rfl, b_places_of, wpB_cons]
  simp
  refine ⟨bs, h, rfl, hl, hf, ?_⟩
  simp [wpB_cons, itD]
  intro c hc
  rw [show ((h.map pr).zip (bs.map D.int)) = (h.map pr).zip (ils bs) from rfl, zip_hu]
  refine cmpL_mapf _ (fun t => pr (t.1.2 - t.2 + 1, t.1.1)) hc (by simp; omega) (fun _ => True.intro) (fun n hn acc add skip ha => ?_) ?_
  · simp [turnC, wipeD]
    exact ⟨by decide, ha⟩
  · simp
    refine Fin.same ?_
    have e : hu (placesP bs h) = .tup ((h.zip bs).map fun t => pr (t.1.2 - t.2 + 1, t.1.1)) := by simp [placesP]
    rw [e] at q
    exact q
def mc_slack_of : MC := ⟨["box", "hull", "size", "least", "greatest"], ["check_fits"], [], [], []⟩
def b_slack_of : List CS := [.expr (.call 0 [.var 0, .var 1]),
    .ret (.blt .tuple true [.comp true (.bin .Sub true (.var 2) (.bin .Sub true (.var 4) (.var 3))) (.tup [.tup [.nm 3, .nm 4], .nm 2]) .zip2 [.var 1, .var 0] [2, 3, 4]])]
def cx_slack_of : Ctx := ⟨[fi_check_fits], [], [], []⟩
@[simp] theorem cx_slack_of_0 : cx_slack_of.fs[0]? = some fi_check_fits := rfl
def spSlack : DSp := fun ds M Q _ => ∃ (bs : List Int) (h : List (Int × Int)), ds = [pt bs, hu h] ∧ bs.length ≤ 1000 ∧ fitsH bs h = true ∧ Q (pt (slackP bs h)) M
def fi_slack_of : FI := ⟨"slack_of", 2, spSlack⟩
@[simp] theorem fi_slack_of_sp : fi_slack_of.sp = spSlack := rfl
theorem wp_slack_of {E : EX} {ds : List D} {M : Mp} {Q : QE} {E' : XD → Mp → Prop} (h : spSlack ds M Q E') : wpB cx_slack_of E b_slack_of (endsD Q) (startD mc_slack_of.N ds) M := by
  obtain ⟨bs, h, rfl, hl, hf, q⟩ := h
  rw [show startD mc_slack_of.N [pt bs, hu h] = [some (pt bs), some (hu h), none, none, none] from rfl, b_slack_of, wpB_cons]
  simp
  refine ⟨bs, h, rfl, hl, hf, ?_⟩
  simp [wpB_cons, itD]
  intro c hc
  rw [show ((h.map pr).zip (bs.map D.int)) = (h.map pr).zip (ils bs) from rfl, zip_hu]
  refine cmpL_mapf _ (fun t => D.int (t.2 - (t.1.2 - t.1.1))) hc (by simp; omega) (fun _ => True.intro) (fun n hn acc add skip ha => ?_) ?_
  · simp [turnC, wipeD]
    exact ha
  · simp
    refine Fin.same ?_
    have e : pt (slackP bs h) = .tup ((h.zip bs).map fun t => D.int (t.2 - (t.1.2 - t.1.1))) := by simp [slackP, ils]
    rw [e] at q
    exact q
def mc_halving_place : MC := ⟨["box", "hull", "first", "last"], ["places_of"], [], [], []⟩
def b_halving_place : List CS := [.ret (.blt .tuple true [.comp true (.bin .Add true (.var 2) (.bin .FloorDiv true (.bin .Sub true (.var 3) (.var 2)) (.int 2))) (.tup [.nm 2, .nm 3]) .seq [.call 0 [.var 0, .var 1]] [2, 3]])]
def cx_halving_place : Ctx := ⟨[fi_places_of], [], [], []⟩
@[simp] theorem cx_halving_place_0 : cx_halving_place.fs[0]? = some fi_places_of := rfl
def spHalving : DSp := fun ds M Q _ => ∃ (bs : List Int) (h : List (Int × Int)), ds = [pt bs, hu h] ∧ bs.length ≤ 1000 ∧ fitsH bs h = true ∧ Q (pt (halvingP bs h)) M
def fi_halving_place : FI := ⟨"halving_place", 2, spHalving⟩
@[simp] theorem fi_halving_place_sp : fi_halving_place.sp = spHalving := rfl
theorem placesP_len (bs h) : (placesP bs h).length ≤ bs.length := by simp [placesP]; omega
theorem wp_halving_place {E : EX} {ds : List D} {M : Mp} {Q : QE} {E' : XD → Mp → Prop} (h : spHalving ds M Q E') : wpB cx_halving_place E b_halving_place (endsD Q) (startD mc_halving_place.N ds) M := by
  obtain ⟨bs, h, rfl, hl, hf, q⟩ := h
  rw [show startD mc_halving_place.N [pt bs, hu h] = [some (pt bs), some (hu h), none, none] from rfl, b_halving_place, wpB_cons]
  simp
  refine ⟨bs, h, rfl, hl, hf, ?_⟩
  simp [itD]
  intro c hc
  have hpl := placesP_len bs h
  refine cmpL_mapf pr (fun t => D.int (t.1 + (t.2 - t.1) / 2)) hc (by omega) (fun _ => True.intro) (fun n hn acc add skip ha => ?_) ?_
  · simp [turnC, wipeD]
    exact ha
  · simp
    refine Fin.same ?_
    have e : pt (halvingP bs h) = .tup ((placesP bs h).map fun t => D.int (t.1 + (t.2 - t.1) / 2)) := by simp [halvingP, ils]
    rw [e] at q
    exact q
def goodP (bs : List Int) (h : List (Int × Int)) : List (Int × Int) := (placesP bs h).map fun t => (t.2 - (2 ^ (Builtin.Int.intBits (t.2 - t.1 + 1) - 1) - 1), t.1 + (2 ^ (Builtin.Int.intBits (t.2 - t.1 + 1) - 1) - 1))
def mc_good_places : MC := ⟨["box", "hull", "found", "first", "last", "most"], ["places_of", "bits"], [], [], []⟩
def b_good_places : List CS := [.set 2 (.lst false []),
    .for (.tup [.nm 3, .nm 4]) .seq [.call 0 [.var 0, .var 1]] [.set 5 (.bin .Sub true (.bin .LShift true (.int 1) (.call 1 [.bin .Add true (.bin .Sub true (.var 4) (.var 3)) (.int 1)])) (.int 1)), .expr (.mth .append (.var 2) (.tup [.bin .Sub true (.var 4) (.var 5), .bin .Add true (.var 3) (.var 5)]))],
    .ret (.blt .tuple true [.var 2])]
def cx_good_places : Ctx := ⟨[fi_places_of, fi_bits], [], [], []⟩
@[simp] theorem cx_good_places_0 : cx_good_places.fs[0]? = some fi_places_of := rfl
@[simp] theorem cx_good_places_1 : cx_good_places.fs[1]? = some fi_bits := rfl
/-- each place counts: at least one, and not too many -/
def RoomOk (bs : List Int) (h : List (Int × Int)) : Prop := ∀ t ∈ placesP bs h, t.1 ≤ t.2 ∧ t.2 - t.1 < 10 ^ 15
def spGood : DSp := fun ds M Q _ => ∃ (bs : List Int) (h : List (Int × Int)), ds = [pt bs, hu h] ∧ bs.length ≤ 1000 ∧ fitsH bs h = true ∧ RoomOk bs h ∧ Q (hu (goodP bs h)) M
def fi_good_places : FI := ⟨"good_places", 2, spGood⟩
@[simp] theorem fi_good_places_sp : fi_good_places.sp = spGood := rfl
theorem ib_pos {a : Int} (h : 1 ≤ a) : 1 ≤ ib a := by
  by_cases h1 : a = 1
  · subst h1; decide
  · have h2 : ib (a / 2) = ib a - 1 := ib_half (by omega)
    have h3 : 0 ≤ ib (a / 2) := ib_nn
    omega
theorem wp_good_places {E : EX} {ds : List D} {M : Mp} {Q : QE} {E' : XD → Mp → Prop} (h : spGood ds M Q E') : wpB cx_good_places E b_good_places (endsD Q) (startD mc_good_places.N ds) M := by
  obtain ⟨bs, h, rfl, hl, hf, hr, q⟩ := h
  rw [show startD mc_good_places.N [pt bs, hu h] = [some (pt bs), some (hu h), none, none, none, none] from rfl, b_good_places, wpB_cons]
  simp
  intro c hc
  simp [wpB_cons]
  refine ⟨bs, h, rfl, hl, hf, ?_⟩
  simp [itD]
  have hpl := placesP_len bs h
  refine forD_map pr (fun t => pr (t.2 - (2 ^ (Builtin.Int.intBits (t.2 - t.1 + 1) - 1) - 1), t.1 + (2 ^ (Builtin.Int.intBits (t.2 - t.1 + 1) - 1) - 1))) (fun ρ => ∃ x3 x4 x5, ρ = [some (pt bs), some (hu h), some (.ref c), x3, x4, x5]) (fun _ => True.intro) (fun t ht acc ρ hacc hS nx hnx => ?_) (fun ρ hS => ?_) ⟨_, _, _, rfl⟩
  · obtain ⟨x3, x4, x5, rfl⟩ := hS
    obtain ⟨h1, h2⟩ := hr t ht
    have h3 : ib (t.2 - t.1 + 1) ≤ 60 := ib_le (m := 60) (by omega)
    have h4 : 1 ≤ ib (t.2 - t.1 + 1) := ib_pos (by omega)
    simp [wpB_cons, wpB_nil]
    refine ⟨_, rfl, ?_⟩
    simp
    refine ⟨⟨by omega, by have : (Builtin.Int.intBits 1 : Int) = 1 := (by decide); omega⟩, ?_⟩
    try simp
    refine ⟨by decide, by have := sz (n := acc.length + 1) (by omega); omega, ?_⟩
    exact hnx _ ⟨_, _, _, rfl⟩
  · obtain ⟨x3, x4, x5, rfl⟩ := hS
    simp [wpB_cons]
    have e : hu (goodP bs h) = .tup ((placesP bs h).map fun t => pr (t.2 - (2 ^ (Builtin.Int.intBits (t.2 - t.1 + 1) - 1) - 1), t.1 + (2 ^ (Builtin.Int.intBits (t.2 - t.1 + 1) - 1) - 1))) := by simp [goodP]
    rw [e] at q
    exact Fin.sub (M' := M) (Mp.sub_upd hc) q
end Ow

namespace Ow
open PySem PySem.Spec PyProof.Rows L2
def mc_q_covers : MC := ⟨["_law_box_here", "_law_place", "_law_position", "_law_low", "_law_one", "_law_size"], [], [], [], []⟩
def b_q_covers : List CS := [.ret (.blt .all true [.comp true (.chn .LtE .Lt (.var 3) (.var 4) (.bin .Add true (.var 3) (.var 5))) (.tup [.nm 3, .nm 4, .nm 5]) .zip3 [.var 1, .var 2, .var 0] [3, 4, 5]])]
def mc_q_hull : MC := ⟨["_law_urn_here", "_law_box_here", "_law_found", "_law_size", "_law_wide", "_law_near", "_law_least"], ["_law_pick", "_law_take"], [], [], []⟩
def b_q_hull : List CS := [.set 2 (.lst false []),
    .for (.nm 3) .seq [.var 1] [.set 4 (.call 0 [.var 0, .lst true [.call 1 [.var 0, .var 3], .int 0, .bin .Sub true (.var 3) (.int 1), .bin .FloorDiv true (.var 3) (.int 2)]]), .set 5 (.lst true [.call 1 [.var 0, .int 7], .bin .Sub true (.call 1 [.var 0, .int 7]) (.int 3), .bin .Sub true (.int 5) (.var 4), .bin .Pow true (.int 10) (.int 11), .bin .Sub true (.bin .Pow true (.int 10) (.int 12)) (.var 4), .neg (.bin .Pow true (.int 10) (.int 12))]), .set 6 (.call 0 [.var 0, .var 5]), .expr (.mth .append (.var 2) (.tup [.var 6, .bin .Add true (.var 6) (.var 4)]))],
    .ret (.blt .tuple true [.var 2])]
def mc_q_starts : MC := ⟨["_law_box_here", "_law_hull_here", "_law_size", "_law_low", "_law_high"], [], [], [], []⟩
def b_q_starts : List CS := [.ret (.comp true (.tup [.bin .Sub true (.var 2) (.bin .Sub true (.var 4) (.var 3)), .bin .Add true (.bin .Sub true (.var 4) (.var 2)) (.int 1)]) (.tup [.nm 2, .tup [.nm 3, .nm 4]]) .seq [.op (.lzip2 true) [.var 0, .var 1]] [2, 3, 4])]
/-! ### bits -/
theorem bits_bd {a : Int} (h : 1 ≤ a) : (2 : Int) ^ (Builtin.Int.intBits a - 1) ≤ a ∧ a < 2 * (2 : Int) ^ (Builtin.Int.intBits a - 1) := by
  have e1 : (a == 0) = false := by simp; omega
  have h0 : a.natAbs ≠ 0 := by omega
  have e2 : Builtin.Int.intBits a = a.natAbs.log2 + 1 := by
    unfold Builtin.Int.intBits
    simp only [e1, Bool.false_eq_true, if_false]
  rw [e2, Nat.add_sub_cancel]
  have h1 := Nat.log2_self_le h0
  have h2 := Nat.lt_log2_self (n := a.natAbs)
  rw [Nat.pow_succ] at h2
  have e3 : ((2 ^ a.natAbs.log2 : Nat) : Int) = (2 : Int) ^ a.natAbs.log2 := by simp
  omega
/-! ### hulls that are drawn -/
theorem wp_q_covers {C : Ctx} {E : EX} {ds : List D} {M : Mp} {Q : QE} {E' : XD → Mp → Prop} (h : spCovers ds M Q E') : wpB C E b_q_covers (endsD Q) (startD mc_q_covers.N ds) M := wp_covers h
def fi_q_covers : FI := ⟨"_law_covers", 3, spCovers⟩
@[simp] theorem fi_q_covers_sp : fi_q_covers.sp = spCovers := rfl
/-- a hull that fits, of bounded numbers -/
def HullR (b : Int) (t : Int × Int) : Prop := 0 ≤ t.2 - t.1 ∧ t.2 - t.1 < b ∧ (t.1.natAbs : Int) ≤ 2 * 10 ^ 12
def spHull : DSp := fun ds M Q _ => ∃ (u : Addr) (bs : List Int) (n : Nat), ds = [.ref u, pt bs] ∧ bs.length ≤ 10 ∧ (∀ b ∈ bs, 1 ≤ b ∧ b ≤ 10 ^ 10) ∧ Urn M u n ∧ n < 2 ^ 58 ∧
  ∀ (h : List (Int × Int)) M', All2 HullR bs h → Urn M' u (n + 5 * bs.length) → Only M M' u → Q (hu h) M'
def fi_q_hull : FI := ⟨"_law_hull", 2, spHull⟩
@[simp] theorem fi_q_hull_sp : fi_q_hull.sp = spHull := rfl
def cx_q_hull : Ctx := ⟨[fi_pick, fi_take], [], [], []⟩
@[simp] theorem cx_q_hull_0 : cx_q_hull.fs[0]? = some fi_pick := rfl
@[simp] theorem cx_q_hull_1 : cx_q_hull.fs[1]? = some fi_take := rfl
theorem wp_q_hull {E : EX} {ds : List D} {M : Mp} {Q : QE} {E' : XD → Mp → Prop} (h : spHull ds M Q E') : wpB cx_q_hull E b_q_hull (endsD Q) (startD mc_q_hull.N ds) M := by
  obtain ⟨u, bs, n, rfl, hbl, hbs, hU, hn, q⟩ := h
  rw [show startD mc_q_hull.N [.ref u, pt bs] = [some (.ref u), some (pt bs), none, none, none, none, none] from rfl, b_q_hull, wpB_cons]
  simp
  intro p hp
  have hpu := hU.ne hp
  simp [wpB_cons, itD]
  refine forD_draw (c := 5) (n := n) (M0 := M) (u := u) (p := p) D.int pr HullR (fun ρ => ∃ x3 x4 x5 x6, ρ = [some (.ref u), some (pt bs), some (.ref p), x3, x4, x5, x6]) (fun _ => True.intro) ⟨_, _, _, _, rfl⟩ Mp.upd_same (hU.upd hpu) Loc.new (fun b hb ys ρ1 M1 m hS hp1 hyl hU1 hm hL1 nx hnx => ?_) (fun ys ρ2 M2 hR hS hp2 hU2 hL2 => ?_)
  · obtain ⟨x3, x4, x5, x6, rfl⟩ := hS
    obtain ⟨hb1, hb2⟩ := hbs b hb
    simp [wpB_cons, wpB_nil]
    refine ⟨u, b, m, rfl, by omega, by omega, hU1, by omega, fun w M3 w0 w1 hU3 ho3 => ⟨by decide, ?_⟩⟩
    refine ⟨u, _, _, _, rfl, .inl rfl, by simp, by simp, hU3, by omega, fun d M4 hd hU4 ho4 => ?_⟩
    obtain ⟨wd, rfl, wd0, wd1⟩ : ∃ wd : Int, d = .int wd ∧ 0 ≤ wd ∧ wd < b := by
      simp at hd
      rcases hd with rfl | rfl | rfl | rfl
      · exact ⟨_, rfl, by omega, by omega⟩
      · exact ⟨_, rfl, by omega, by omega⟩
      · exact ⟨_, rfl, by omega, by omega⟩
      · exact ⟨_, rfl, by omega, by omega⟩
    try dsimp only
    try simp
    refine ⟨u, 7, _, rfl, by decide, by decide, hU4, by omega, fun r1 M5 r10 r11 hU5 ho5 => ?_⟩
    refine ⟨u, 7, _, rfl, by decide, by decide, hU5, by omega, fun r2 M6 r20 r21 hU6 ho6 => ?_⟩
    refine ⟨.of (by decide) 4 (by decide) (by decide), .of (by decide) 4 (by decide) (by decide), by decide, ?_⟩
    refine ⟨u, _, _, _, rfl, .inl rfl, by simp, by simp, hU6, by omega, fun d M7 hd hU7 ho7 => ?_⟩
    obtain ⟨lo, rfl, hlo⟩ : ∃ lo : Int, d = .int lo ∧ (lo.natAbs : Int) ≤ 2 * 10 ^ 12 := by
      simp at hd
      rcases hd with rfl | rfl | rfl | rfl | rfl | rfl <;> exact ⟨_, rfl, by omega⟩
    try dsimp only
    have e7 : M7 p = some (.lst (ys.map pr)) := by rw [ho7 p hpu, ho6 p hpu, ho5 p hpu, ho4 p hpu, ho3 p hpu]; exact hp1
    simp [e7]
    refine ⟨by decide, by have := sz (n := ys.length + 1) (by omega); omega, ?_⟩
    refine hnx (lo, lo + wd) _ _ ⟨by simp; omega, by simp; omega, hlo⟩ ⟨_, _, _, _, rfl⟩ ?_ (hU7.upd hpu) (((((hL1.draw ho3).draw ho4).draw ho5).draw ho6).draw ho7).upd
    simp
  · obtain ⟨x3, x4, x5, x6, rfl⟩ := hS
    simp [wpB_cons, hp2]
    exact Fin.sub Mp.sub_del (q ys _ hR (hU2.del hpu) (hL2.del hp))
/-! ### the law's own reckoning -/
def startsP (bs : List Int) (h : List (Int × Int)) : List (Int × Int) := (bs.zip h).map fun t => (t.1 - (t.2.2 - t.2.1), t.2.2 - t.1 + 1)
def spStarts : DSp := fun ds M Q _ => ∃ (bs : List Int) (h : List (Int × Int)), ds = [pt bs, hu h] ∧ bs.length ≤ 1000 ∧ Q (.lst ((startsP bs h).map pr)) M
def fi_q_starts : FI := ⟨"_law_starts", 2, spStarts⟩
@[simp] theorem fi_q_starts_sp : fi_q_starts.sp = spStarts := rfl
theorem zip_bh (bs : List Int) (h : List (Int × Int)) : ((bs.map D.int).zip (h.map pr)).map (fun p => D.tup [p.1, p.2]) = (bs.zip h).map fun t => D.tup [.int t.1, pr t.2] := by
  rw [List.zip_map, List.map_map]; rfl
theorem wp_q_starts {C : Ctx} {E : EX} {ds : List D} {M : Mp} {Q : QE} {E' : XD → Mp → Prop} (h : spStarts ds M Q E') : wpB C E b_q_starts (endsD Q) (startD mc_q_starts.N ds) M := by
  obtain ⟨bs, h, rfl, hl, q⟩ := h
  rw [show startD mc_q_starts.N [pt bs, hu h] = [some (pt bs), some (hu h), none, none, none] from rfl, b_q_starts, wpB_cons]
  simp [itD]
  rw [zip_bh]
  refine ⟨sz (by omega), fun c hc => ?_⟩
  refine cmpL_mapf _ (fun t => pr (t.1 - (t.2.2 - t.2.1), t.2.2 - t.1 + 1)) hc (by simp; omega) (fun _ => True.intro) (fun t ht acc add skip ha => ?_) ?_
  · simp [turnC, wipeD]
    exact ⟨by decide, ha⟩
  · refine Fin.same ?_
    have e : D.lst ((startsP bs h).map pr) = .lst ((bs.zip h).map fun t => pr (t.1 - (t.2.2 - t.2.1), t.2.2 - t.1 + 1)) := by simp [startsP]
    rw [e] at q
    exact q
theorem zip_swap' {α β : Type} : ∀ (a : List α) (b : List β), a.zip b = (b.zip a).map fun t => (t.2, t.1)
  | [], [] => rfl
  | [], _ :: _ => rfl
  | _ :: _, [] => rfl
  | x :: a, y :: b => by rw [List.zip_cons_cons, List.zip_cons_cons, List.map_cons, zip_swap' a b]
theorem placesZ (bs : List Int) (h : List (Int × Int)) : placesP bs h = (bs.zip h).map fun t => (t.2.2 - t.1 + 1, t.2.1) := by
  unfold placesP; rw [zip_swap' h bs, List.map_map]; rfl
theorem halvingZ (bs : List Int) (h : List (Int × Int)) : halvingP bs h = (bs.zip h).map fun t => (t.2.2 - t.1 + 1) + (t.2.1 - (t.2.2 - t.1 + 1)) / 2 := by
  unfold halvingP; rw [placesZ, List.map_map]; rfl
theorem goodZ (bs : List Int) (h : List (Int × Int)) : goodP bs h = (bs.zip h).map fun t => (t.2.1 - (2 ^ (Builtin.Int.intBits (t.2.1 - (t.2.2 - t.1 + 1) + 1) - 1) - 1), (t.2.2 - t.1 + 1) + (2 ^ (Builtin.Int.intBits (t.2.1 - (t.2.2 - t.1 + 1) + 1) - 1) - 1)) := by
  unfold goodP; rw [placesZ, List.map_map]; rfl
theorem fits_all2 {bs : List Int} {h : List (Int × Int)} (hR : All2 HullR bs h) : fitsH bs h = true := by
  unfold fitsH
  rw [zip_swap' h bs, List.all_map, List.all_eq_true]
  intro t ht
  have := All2.zip hR t ht
  simp
  exact this.2.1
theorem room_all2 {bs : List Int} {h : List (Int × Int)} (hb : ∀ b ∈ bs, 1 ≤ b ∧ b ≤ 10 ^ 10) (hR : All2 HullR bs h) : RoomOk bs h := by
  intro t ht
  rw [placesZ] at ht
  obtain ⟨z, hz, rfl⟩ := List.mem_map.mp ht
  obtain ⟨h1, h2, h3⟩ := All2.zip hR z hz
  have := hb z.1 (List.of_mem_zip hz).1
  simp
  omega
theorem show_bh {bs : List Int} {h : List (Int × Int)} (hl : bs.length ≤ 10) (hb : ∀ b ∈ bs, 1 ≤ b ∧ b ≤ 10 ^ 10) (hR : All2 HullR bs h) : ShowOk (.tup [pt bs, hu h]) := by
  have h1 : Shw 20 (pt bs) 2 11000 := (Shw.tup (n := 10) (Shw.ils (by decide) (by decide) fun i hi => by have := hb i hi; omega) (by simpa using hl)).mono (by decide) (by decide)
  have hlen := hR.length
  have h2 : Shw 20 (hu h) 2 11000 := by
    refine (Shw.tup (n := 10) (k := 1) (b := 10) (fun d hd => ?_) (by simp; omega)).mono (by decide) (by decide)
    obtain ⟨t, ht, rfl⟩ := List.mem_map.mp hd
    obtain ⟨b, hb', h3, h4, h5⟩ := All2.mem hR t ht
    have := hb b hb'
    have e : pr t = pt [t.1, t.2] := rfl
    rw [e]
    exact (Shw.tup (n := 2) (Shw.ils (by decide) (by decide) fun i hi => by simp at hi; rcases hi with rfl | rfl <;> omega) (by simp)).mono (by decide) (by decide)
  exact (Shw.tup (n := 2) (fun d hd => by simp at hd; rcases hd with rfl | rfl; exact h1; exact h2) (by simp)).ok (by decide) (by decide) (by decide)
theorem ls_tup {α : Type} (f : α → Int) (l : List α) : D.tup (l.map (D.int ∘ f)) = pt (l.map f) := by simp [ils]
/-! ### a law: so many turns at each of the first three urns -/
def b_lawT (i : Int) : List CS := [.for (.nm 1) .rng1 [.blt .max true [.int 1, .blt .min true [.int 3, .blt .len true [.var 0]]]] [.set 2 (.call 0 [.var 0, .var 1]), .ifs (.not (.blt .all true [.comp true (.call 1 [.var 2]) (.nm 3) .rng1 [.int i] [3]])) [.ret (.bl false)] []],
    .ret (.bl true)]
/-- what each turn promises -/
def RightP (fr : FI) : Prop := ∀ (u : Addr) (M : Mp) (n : Nat) (Q : QE) (E : XD → Mp → Prop), Urn M u n → n < 2 ^ 50 → (∀ M', Urn M' u (n + 10000000) → Only M M' u → Q (.bl true) M') → fr.sp [.ref u] M Q E
theorem rng3 (n : Nat) : (if (1 : Int) < if (n : Int) < 3 then (n : Int) else 3 then if (n : Int) < 3 then (n : Int) else 3 else 1) ≤ 3 ∧ 1 ≤ (if (1 : Int) < if (n : Int) < 3 then (n : Int) else 3 then if (n : Int) < 3 then (n : Int) else 3 else 1) := by
  constructor <;> (split <;> (try split) <;> omega)
theorem wp_lawT {E : EX} {ds : List D} {M : Mp} {Q : QE} {E' : XD → Mp → Prop} {fr : FI} {i : Int} (hr : RightP fr) (h0 : 0 ≤ i) (h1 : i ≤ 1000) (h : spLaw ds M Q E') : wpB ⟨[fi_urn, fr], [], [], []⟩ E (b_lawT i) (endsD Q) (startD ["_law_script", "_law_k", "_law_urn_here", "_law_turn"] ds) M := by
  obtain ⟨ns, rfl, hl, q⟩ := h
  rw [show startD ["_law_script", "_law_k", "_law_urn_here", "_law_turn"] [.scr ns] = [some (.scr ns), none, none, none] from rfl, b_lawT, wpB_cons]
  simp [itD]
  have hr3 := rng3 ns.length
  refine ⟨⟨by omega, by omega⟩, ?_⟩
  refine forD_pre (fun (i : Nat) => D.int (i : Int)) (fun _ ρ _ => ∃ x1 x2 x3, ρ = [some (.scr ns), x1, x2, x3]) (fun _ => True.intro) (fun pre j post ρ M1 e hI nx hnx => ?_) (fun ρ M1 hI => ?_) ⟨_, _, _, rfl⟩
  · obtain ⟨x1, x2, x3, rfl⟩ := hI
    have hj : j < 100 := by
      have this : j ∈ pre ++ j :: post := by simp
      rw [e, List.mem_range] at this
      omega
    simp [wpB_cons]
    refine ⟨ns, j, rfl, by omega, by omega, fun u M2 hu hU ho => ?_⟩
    simp [wpB_cons, itD]
    refine ⟨⟨by omega, by omega⟩, fun p hp => ?_⟩
    refine cmpL_draw (α := Nat) (β := Bool) (c := 10000000) (u := u) (fun (i : Nat) => D.int (i : Int)) D.bl (fun _ b => b = true) hp hU (fun _ => True.intro) (by simp; omega) (fun a ha M3 m hU3 hm hL3 add skip hadd => ?_) (fun ys M3 hR hU3 ho3 => ?_)
    · simp [turnC, wipeD]
      simp at hm
      have hm2 : m < 2 ^ 50 := by
        have : 10000000 * i.toNat ≤ 10000000 * 1000 := Nat.mul_le_mul_left _ (by omega)
        omega
      exact hr u M3 m _ _ hU3 hm2 fun M4 hU4 ho4 => hadd true M4 rfl hU4 ho4
    · have hall : false ∉ ys := fun hy => by
        obtain ⟨_, _, e⟩ := All2.mem hR _ hy
        cases e
      simp [hall, wpB_nil]
      exact hnx _ _ ⟨_, _, _, rfl⟩
  · obtain ⟨x1, x2, x3, rfl⟩ := hI
    simp [wpB_cons]
    exact Fin.same (q _)
/-! ### comprehensions with a test -/
theorem cmpL_filt {α : Type} {ok : Mp → Prop} {turn : D → Mp → QE → (Mp → Prop) → Prop} {p : Addr} {Q : QE} (f g : α → D) (c : α → Bool) {L : List α} {M : Mp} (hp : M p = none) (hl : L.length ≤ 16777216) (hok : ∀ M', ok M')
    (h : ∀ x ∈ L, ∀ acc (add : QE) (skip : Mp → Prop), (c x = true → add (g x) (M.upd p (.lst acc))) → (c x = false → skip (M.upd p (.lst acc))) → turn (f x) (M.upd p (.lst acc)) add skip) (q : Q (.lst ((L.filter c).map g)) M) : cmpL true ok turn p Q (L.map f) (M.upd p (.lst [])) := by
  refine cmpL_pre f (fun pre acc M' => M' = M.upd p (.lst acc) ∧ acc = (pre.filter c).map g) hok (fun _ _ _ z => by rw [z.1]; exact Mp.upd_same) (fun pre acc M' z => by rw [z.2, List.length_map]; exact List.length_filter_le _ _) hl (fun pre a post acc M1 e hI add skip ha hs => ?_) (fun acc M1 hI => ?_) ⟨rfl, rfl⟩
  · obtain ⟨rfl, rfl⟩ := hI
    refine h a (by rw [← e]; simp) _ add skip (fun hc => ha _ _ Mp.upd_same ⟨by rw [Mp.upd_upd], by simp [hc]⟩) fun hc => hs _ ⟨rfl, by simp [hc]⟩
  · obtain ⟨rfl, rfl⟩ := hI
    rw [Mp.del_upd hp]
    exact q
end Ow

namespace Ow
open PySem PySem.Spec PyProof.Rows L2
/-! ### the game's outcome -/
def overB (bs : List Int) (h : List (Int × Int)) (pl : List Int) : Bool := coversB bs pl (h.map (·.1)) && coversB bs pl (h.map (·.2))
def mc_covers_hull : MC := ⟨["box", "place", "hull", "least", "greatest", "low", "high"], ["covers"], [], [], []⟩
def b_covers_hull : List CS := [.par 3 4 (.blt .tuple true [.comp true (.var 5) (.tup [.nm 5, .nm 6]) .seq [.var 2] [5, 6]]) (.blt .tuple true [.comp true (.var 6) (.tup [.nm 5, .nm 6]) .seq [.var 2] [5, 6]]),
    .ret (.and (.call 0 [.var 0, .var 1, .var 3]) (.one (.call 0 [.var 0, .var 1, .var 4])))]
def cx_covers_hull : Ctx := ⟨[fi_covers], [], [], []⟩
@[simp] theorem cx_covers_hull_0 : cx_covers_hull.fs[0]? = some fi_covers := rfl
def spOver : DSp := fun ds M Q _ => ∃ (bs pl : List Int) (h : List (Int × Int)), ds = [pt bs, pt pl, hu h] ∧ pl.length ≤ 1000 ∧ h.length ≤ 1000 ∧ Q (.bl (overB bs h pl)) M
def fi_covers_hull : FI := ⟨"covers_hull", 3, spOver⟩
@[simp] theorem fi_covers_hull_sp : fi_covers_hull.sp = spOver := rfl
theorem wp_covers_hull {E : EX} {ds : List D} {M : Mp} {Q : QE} {E' : XD → Mp → Prop} (h : spOver ds M Q E') : wpB cx_covers_hull E b_covers_hull (endsD Q) (startD mc_covers_hull.N ds) M := by
  obtain ⟨bs, pl, h, rfl, hl, hh, q⟩ := h
  rw [show startD mc_covers_hull.N [pt bs, pt pl, hu h] = [some (pt bs), some (pt pl), some (hu h), none, none, none, none] from rfl, b_covers_hull, wpB_cons]
  simp [itD]
  intro c hc
  refine cmpL_mapf pr (fun t => D.int t.1) hc (by omega) (fun _ => True.intro) (fun t ht acc add skip ha => ?_) ?_
  · simp [turnC, wipeD]; exact ha
  simp [itD]
  intro c2 hc2
  refine cmpL_mapf pr (fun t => D.int t.2) hc2 (by omega) (fun _ => True.intro) (fun t ht acc add skip ha => ?_) ?_
  · simp [turnC, wipeD]; exact ha
  simp [wpB_cons]
  refine ⟨bs, pl, h.map (·.1), by simp [ils], by omega, ?_⟩
  by_cases c1 : coversB bs pl (h.map (·.1)) = true
  · simp [c1]
    refine ⟨bs, pl, h.map (·.2), by simp [ils], by omega, ?_⟩
    have : overB bs h pl = coversB bs pl (h.map (·.2)) := by unfold overB; rw [c1, Bool.true_and]
    rw [← this]
    exact Fin.same q
  · simp [c1]
    have : overB bs h pl = false := by unfold overB; simp [c1]
    rw [← this]
    exact Fin.same q
def mc_remaining : MC := ⟨["place", "first", "last"], [], [], [], []⟩
def b_remaining : List CS := [.ret (.tup [.bin .Sub true (.var 0) (.var 1), .bin .Sub true (.var 2) (.var 0)])]
def spRemain : DSp := fun ds M Q _ => ∃ a b c : Int, ds = [.int a, .int b, .int c] ∧ Q (.tup [.int (a - b), .int (c - a)]) M
def fi_remaining : FI := ⟨"remaining", 3, spRemain⟩
@[simp] theorem fi_remaining_sp : fi_remaining.sp = spRemain := rfl
theorem wp_remaining {C : Ctx} {E : EX} {ds : List D} {M : Mp} {Q : QE} {E' : XD → Mp → Prop} (h : spRemain ds M Q E') : wpB C E b_remaining (endsD Q) (startD mc_remaining.N ds) M := by
  obtain ⟨a, b, c, rfl, q⟩ := h
  rw [show startD mc_remaining.N [.int a, .int b, .int c] = [some (.int a), some (.int b), some (.int c)] from rfl, b_remaining, wpB_cons]
  simp
  exact ⟨by decide, Fin.same q⟩
def roomsP (t : Int × (Int × Int)) : List Int := [t.1 - t.2.1, t.2.2 - t.1].filter fun l => decide (0 < l)
def outsP (v : Int) (t : Int × (Int × Int)) : List Int := (roomsP t).map fun l => 1 + (v - (ib (t.2.2 - t.2.1 + 1) - 1)) + (ib l - 1)
def forcedL (v : Int) (l : List (Int × (Int × Int))) : List Int := 0 :: l.flatMap (outsP v)
def forcedP (bs : List Int) (h : List (Int × Int)) (pl : List Int) : Int := if overB bs h pl = true then maxL (forcedL (valueOf (slackP bs h)) (pl.zip (placesP bs h))) else 1 + valueOf (slackP bs h)
theorem outs_len (v : Int) (t : Int × (Int × Int)) : (outsP v t).length ≤ 2 := by
  unfold outsP roomsP
  rw [List.length_map]
  exact List.length_filter_le _ _
theorem forcedL_len (v : Int) : ∀ l : List (Int × (Int × Int)), (forcedL v l).length ≤ 1 + 2 * l.length
  | [] => Nat.le_refl _
  | t :: l => by
    have h1 := forcedL_len v l
    have h2 := outs_len v t
    unfold forcedL at h1 ⊢
    rw [List.length_cons] at h1
    rw [List.length_cons, List.flatMap_cons, List.length_append, List.length_cons]
    omega
def mc_forced : MC := ⟨["box", "hull", "place", "value", "outcomes", "start", "without_axis", "first", "last", "left"], ["value_of", "slack_of", "covers_hull", "places_of", "bits", "remaining"], [], [], []⟩
def b_forced : List CS := [.set 3 (.call 0 [.call 1 [.var 0, .var 1]]),
    .ifs (.not (.call 2 [.var 0, .var 2, .var 1])) [.ret (.bin .Add true (.int 1) (.var 3))] [],
    .set 4 (.lst false [.int 0]),
    .for (.tup [.nm 5, .tup [.nm 7, .nm 8]]) .zip2 [.var 2, .call 3 [.var 0, .var 1]] [.set 6 (.bin .Sub true (.var 3) (.call 4 [.bin .Add true (.bin .Sub true (.var 8) (.var 7)) (.int 1)])), .expr (.mth .extend (.var 4) (.compIf true (.bin .Add true (.bin .Add true (.int 1) (.var 6)) (.call 4 [.var 9])) (.cmp .Gt (.var 9) (.int 0)) (.nm 9) .seq [.call 5 [.var 5, .var 7, .var 8]] [9]))],
    .ret (.blt .max true [.var 4])]
def cx_forced : Ctx := ⟨[fi_value_of, fi_slack_of, fi_covers_hull, fi_places_of, fi_bits, fi_remaining], [], [], []⟩
@[simp] theorem cx_forced_0 : cx_forced.fs[0]? = some fi_value_of := rfl
@[simp] theorem cx_forced_1 : cx_forced.fs[1]? = some fi_slack_of := rfl
@[simp] theorem cx_forced_2 : cx_forced.fs[2]? = some fi_covers_hull := rfl
@[simp] theorem cx_forced_3 : cx_forced.fs[3]? = some fi_places_of := rfl
@[simp] theorem cx_forced_4 : cx_forced.fs[4]? = some fi_bits := rfl
@[simp] theorem cx_forced_5 : cx_forced.fs[5]? = some fi_remaining := rfl
def spForced : DSp := fun ds M Q _ => ∃ (bs : List Int) (h : List (Int × Int)) (pl : List Int), ds = [pt bs, hu h, pt pl] ∧ bs.length ≤ 1000 ∧ h.length ≤ 1000 ∧ pl.length ≤ 1000 ∧ fitsH bs h = true ∧ Q (.int (forcedP bs h pl)) M
def fi_forced : FI := ⟨"forced", 3, spForced⟩
@[simp] theorem fi_forced_sp : fi_forced.sp = spForced := rfl
theorem zip_ph (pl : List Int) (l : List (Int × Int)) : ((pl.map D.int).zip (l.map pr)).map (fun p => D.tup [p.1, p.2]) = (pl.zip l).map fun t => D.tup [.int t.1, pr t.2] := by
  rw [List.zip_map, List.map_map]; rfl
theorem slackP_len (bs h) : (slackP bs h).length ≤ bs.length := by simp [slackP]; omega
theorem wp_forced {E : EX} {ds : List D} {M : Mp} {Q : QE} {E' : XD → Mp → Prop} (h : spForced ds M Q E') : wpB cx_forced E b_forced (endsD Q) (startD mc_forced.N ds) M := by
  obtain ⟨bs, h, pl, rfl, hbl, hhl, hpl, hf, q⟩ := h
  rw [show startD mc_forced.N [pt bs, hu h, pt pl] = [some (pt bs), some (hu h), some (pt pl), none, none, none, none, none, none, none] from rfl, b_forced, wpB_cons]
  simp
  refine ⟨bs, h, rfl, hbl, hf, ?_⟩
  have hsl := slackP_len bs h
  refine ⟨_, slackP bs h, rfl, .inl rfl, sz (by omega), ?_⟩
  simp [wpB_cons]
  refine ⟨bs, pl, h, rfl, hpl, hhl, ?_⟩
  obtain ⟨v, hv⟩ : ∃ v, v = valueOf (slackP bs h) := ⟨_, rfl⟩
  by_cases ho : overB bs h pl = true
  · simp [ho, wpB_nil]
    refine ⟨by decide, fun p hp => ?_⟩
    refine ⟨bs, h, rfl, hbl, hf, ?_⟩
    simp [itD]
    rw [zip_ph, ← hv]
    have hzl : (pl.zip (placesP bs h)).length ≤ 1000 := by simp; omega
    refine forD_pre (fun t : Int × (Int × Int) => D.tup [.int t.1, pr t.2]) (fun pre ρ M' => (∃ x5 x6 x7 x8 x9, ρ = [some (pt bs), some (hu h), some (pt pl), some (.int v), some (.ref p), x5, x6, x7, x8, x9]) ∧ M' = M.upd p (.lst (ils (forcedL v pre)))) (fun _ => True.intro) (fun pre t post ρ M1 e hI nx hnx => ?_) (fun ρ M1 hI => ?_) ⟨⟨_, _, _, _, _, rfl⟩, rfl⟩
    · obtain ⟨⟨x5, x6, x7, x8, x9, rfl⟩, rfl⟩ := hI
      have hpre := forcedL_len v pre
      have hlen := congrArg List.length e
      simp only [List.length_append, List.length_cons] at hlen
      simp [wpB_cons]
      refine ⟨_, rfl, ?_⟩
      simp [wpB_cons]
      refine ⟨_, _, _, rfl, ?_⟩
      simp [itD]
      intro c hc
      refine cmpL_filt (L := [t.1 - t.2.1, t.2.2 - t.1]) D.int (fun l => D.int (1 + (v - (ib (t.2.2 - t.2.1 + 1) - 1)) + (ib l - 1))) (fun l => decide (0 < l)) hc (Nat.le_of_ble_eq_true rfl) (fun _ => True.intro) (fun l hl acc add skip ha hs => ?_) ?_
      · simp [turnC, wipeD]
        by_cases h0 : 0 < l
        · rw [if_pos h0]
          exact ⟨_, rfl, ha (by simpa using h0)⟩
        · rw [if_neg h0]
          exact hs (by simpa using h0)
      · have ho := outs_len v t
        have eo : (List.filter (fun l => decide (0 < l)) [t.1 - t.2.1, t.2.2 - t.1]).map (fun l => D.int (1 + (v - (ib (t.2.2 - t.2.1 + 1) - 1)) + (ib l - 1))) = ils (outsP v t) := by
          simp [outsP, roomsP, ils]
        rw [eo]
        have hcp : c ≠ p := fun z => by rw [z, Mp.upd_same] at hc; cases hc
        simp
        refine ⟨by have := sz (n := (forcedL v pre).length + (outsP v t).length) (by omega); simpa using this, ?_⟩
        rw [wpB_nil]
        refine hnx _ _ ⟨⟨_, _, _, _, _, rfl⟩, ?_⟩
        simp [ils, forcedL]
    · obtain ⟨⟨x5, x6, x7, x8, x9, rfl⟩, rfl⟩ := hI
      have e1 : forcedP bs h pl = maxL (forcedL v (pl.zip (placesP bs h))) := by unfold forcedP; rw [if_pos ho, hv]
      simp [wpB_cons]
      refine ⟨by simp [forcedL], ?_⟩
      rw [← e1]
      exact Fin.sub (M' := M) (Mp.sub_upd hp) q
  · have e1 : forcedP bs h pl = 1 + valueOf (slackP bs h) := by unfold forcedP; rw [if_neg ho]
    simp [ho, wpB_cons]
    rw [← e1]
    exact Fin.same q
end Ow

namespace Ow
open PySem PySem.Spec PyProof.Rows L2
/-- place, size and hull, axis by axis -/
abbrev T3 := Int × (Int × (Int × Int))
def T3.ok (t : T3) : Bool := decide (t.2.2.2 - t.2.1 + 1 ≤ t.1) && decide (t.1 ≤ t.2.2.1)
def T3.pl (t : T3) : Int × (Int × Int) := (t.1, (t.2.2.2 - t.2.1 + 1, t.2.2.1))
def T3.st (t : T3) : Int × (Int × Int) := (t.1, (t.2.1 - (t.2.2.2 - t.2.2.1), t.2.2.2 - t.2.1 + 1))
theorem zip_pl (bs : List Int) (h : List (Int × Int)) (pl : List Int) : pl.zip (placesP bs h) = (pl.zip (bs.zip h)).map T3.pl := by
  rw [placesZ, List.zip_map_right]; rfl
theorem zip_st (bs : List Int) (h : List (Int × Int)) (pl : List Int) : pl.zip (startsP bs h) = (pl.zip (bs.zip h)).map T3.st := by
  rw [startsP, List.zip_map_right]; rfl
theorem over_T {bs : List Int} {h : List (Int × Int)} {pl : List Int} (hR : All2 HullR bs h) : overB bs h pl = (pl.zip (bs.zip h)).all T3.ok := by
  have e1 : ∀ f : Int × Int → Int, pl.zip ((h.map f).zip bs) = (pl.zip (bs.zip h)).map fun t => (t.1, (f t.2.2, t.2.1)) := fun f => by
    have e : (h.map f).zip bs = (bs.zip h).map fun t => (f t.2, t.1) := by
      rw [zip_swap' (h.map f) bs, List.zip_map_right, List.map_map]; rfl
    rw [e, List.zip_map_right]; rfl
  unfold overB coversB
  rw [e1, e1, List.all_map, List.all_map]
  have hm : ∀ t ∈ pl.zip (bs.zip h), HullR t.2.1 t.2.2 := fun t ht => All2.zip hR t.2 (List.of_mem_zip ht).2
  revert hm
  generalize pl.zip (bs.zip h) = l
  intro hm
  induction l with
  | nil => rfl
  | cons t l ih =>
    have ih := ih fun x hx => hm x (List.mem_cons_of_mem _ hx)
    obtain ⟨h1, h2, h3⟩ := hm t List.mem_cons_self
    rw [List.all_cons, List.all_cons, List.all_cons, ← ih]
    have : T3.ok t = ((decide (t.1 ≤ t.2.2.1) && decide (t.2.2.1 < t.1 + t.2.1)) && (decide (t.1 ≤ t.2.2.2) && decide (t.2.2.2 < t.1 + t.2.1))) := by
      unfold T3.ok
      by_cases c1 : t.1 ≤ t.2.2.1
      · by_cases c2 : t.2.2.2 < t.1 + t.2.1
        · rw [decide_eq_true c1, decide_eq_true c2, decide_eq_true (show t.2.2.2 - t.2.1 + 1 ≤ t.1 by omega), decide_eq_true (show t.2.2.1 < t.1 + t.2.1 by omega), decide_eq_true (show t.1 ≤ t.2.2.2 by omega)]; rfl
        · rw [decide_eq_false c2, decide_eq_false (show ¬ t.2.2.2 - t.2.1 + 1 ≤ t.1 by omega)]; simp
      · rw [decide_eq_false c1]; simp
    rw [this]
    simp only [Function.comp]
    cases decide (t.1 ≤ t.2.2.1) <;> cases decide (t.2.2.1 < t.1 + t.2.1) <;> cases decide (t.1 ≤ t.2.2.2) <;> cases decide (t.2.2.2 < t.1 + t.2.1) <;> simp
theorem slackZ (bs : List Int) (h : List (Int × Int)) : slackP bs h = (startsP bs h).map (·.1) := by
  unfold slackP startsP; rw [zip_swap' h bs, List.map_map, List.map_map]; rfl
theorem sum_bd {m : Int} (hm : 0 ≤ m) : ∀ {l : List Int}, (∀ x ∈ l, 0 ≤ x ∧ x ≤ m) → 0 ≤ l.sum ∧ l.sum ≤ m * l.length
  | [], _ => by simp
  | x :: l, h => by
    obtain ⟨h1, h2⟩ := sum_bd hm (l := l) fun y hy => h y (List.mem_cons_of_mem _ hy)
    obtain ⟨h3, h4⟩ := h x List.mem_cons_self
    rw [List.sum_cons, List.length_cons]
    have : m * ((l.length + 1 : Nat) : Int) = m * l.length + m := by rw [Int.natCast_add, Int.mul_add]; simp
    omega
@[simp] theorem cmp_neb {i j : Bool} {M : Mp} {Q : QE} : cmpD .NotEq (.bl i) (.bl j) M Q = Q (.bl (i ^^ j)) M := by
  show Q (.bl (true ^^ decide (i = j))) M = _
  rw [show (true ^^ decide (i = j)) = (i ^^ j) by cases i <;> cases j <;> rfl]
@[simp] theorem cmp_eqb {i j : Bool} {M : Mp} {Q : QE} : cmpD .Eq (.bl i) (.bl j) M Q = Q (.bl (i == j)) M := by
  show Q (.bl (false ^^ decide (i = j))) M = _
  rw [show (false ^^ decide (i = j)) = (i == j) by cases i <;> cases j <;> rfl]
theorem ib_ge {a : Int} {k : Nat} (h : (2 : Int) ^ k ≤ a) : (k : Int) + 1 ≤ ib a := by
  have h0 : (0 : Int) < 2 ^ k := Int.pow_pos (by decide)
  have h1 := (bits_bd (a := a) (by omega)).2
  have hp := ib_pos (a := a) (by omega)
  have hq : ib a = (Builtin.Int.intBits a : Int) := rfl
  rcases Int.lt_or_le (ib a) ((k : Int) + 1) with h2 | h2
  · exfalso
    have h3 : Builtin.Int.intBits a - 1 + 1 ≤ k := by omega
    have h4 : (2 : Nat) ^ (Builtin.Int.intBits a - 1 + 1) ≤ 2 ^ k := Nat.pow_le_pow_right (by decide) h3
    rw [Nat.pow_succ] at h4
    have e1 : ((2 ^ (Builtin.Int.intBits a - 1) : Nat) : Int) = (2 : Int) ^ (Builtin.Int.intBits a - 1) := by simp
    have e2 : ((2 ^ k : Nat) : Int) = (2 : Int) ^ k := by simp
    omega
  · exact h2
theorem ib_mono {a b : Int} (h0 : 1 ≤ a) (h : a ≤ b) : ib a ≤ ib b := by
  have h1 := (bits_bd h0).1
  have hp := ib_pos h0
  have hq : ib a = (Builtin.Int.intBits a : Int) := rfl
  have := ib_ge (a := b) (k := Builtin.Int.intBits a - 1) (by omega)
  omega
/-- fewer bits: fewer than the power -/
theorem ib_lt {l n : Int} (hl : 1 ≤ l) (hn : 1 ≤ n) : ib l ≤ ib n - 1 ↔ l ≤ 2 ^ (Builtin.Int.intBits n - 1) - 1 := by
  have hp := ib_pos hn
  have hq : ib n = (Builtin.Int.intBits n : Int) := rfl
  constructor
  · intro h
    rcases Int.lt_or_le l (2 ^ (Builtin.Int.intBits n - 1)) with h2 | h2
    · omega
    · have := ib_ge h2; omega
  · intro h
    have e1 : ((2 ^ (Builtin.Int.intBits n - 1) : Nat) : Int) = (2 : Int) ^ (Builtin.Int.intBits n - 1) := by simp
    have := ib_le (a := l) (m := Builtin.Int.intBits n - 1) (by omega)
    omega
end Ow

namespace Ow
open PySem PySem.Spec PyProof.Rows L2
/-! ### data of points -/
theorem lay_lg : ∀ l : List (List Int), PyData.canLayAll0 (D.pys (l.map pt)) = true ∧ PyData.depthAll (D.pys (l.map pt)) ≤ 1 ∧ D.flats (l.map pt) = true
  | [] => ⟨by simp only [List.map_nil, D.pys, PyData.canLayAll0], by simp only [List.map_nil, D.pys, PyData.depthAll]; omega, rfl⟩
  | x :: r => by
    obtain ⟨h1, h2, h3⟩ := lay_lg r
    obtain ⟨i1, i2, i3⟩ := lay_ils x
    refine ⟨?_, ?_, ?_⟩
    · simp only [List.map_cons, D.pys, PyData.canLayAll0]; rw [lay_pt, h1]; rfl
    · simp only [List.map_cons, D.pys, D.py, PyData.depthAll, PyData.depth]; rw [i2]; omega
    · show (D.flats (ils x) && D.flats (r.map pt)) = true; rw [i3, h3]; rfl
theorem ok_lg (l : List (List Int)) : (lg l).ok := by
  obtain ⟨h1, h2, h3⟩ := lay_lg l
  refine ⟨h3, ?_⟩
  have e1 : (lg l).py.canLay0 = true := by simp only [D.py, PyData.canLay0]; exact h1
  unfold SeqAt.shaped
  rw [e1]
  simp only [D.py, PyData.depth, Bool.true_and]
  exact decide_eq_true (by omega)
theorem eq_lgnil {l : List (List Int)} (h : l ≠ []) : eqB (lg l) (.tup []) = false := by
  cases l with
  | nil => exact absurd rfl h
  | cons x r => simp [eqB, D.py, D.pys, PyData.eqv, PyData.eqvAll]
theorem cmp_lgnil {l : List (List Int)} {M : Mp} {Q : QE} (h : l ≠ []) (q : Q (.bl false) M) : cmpD .Eq (lg l) (.tup []) M Q :=
  ⟨ok_lg l, ok_pt [], by rw [eq_lgnil h]; exact q⟩
/-! ### hulls of logs -/
def mc_hull_of : MC := ⟨["box", "log", "lines", "axis", "position", "line"], [], [], [], []⟩
def b_hull_of : List CS := [.ifs (.cmp .Eq (.var 1) (.tup [])) [.bad] [],
    .setLc 2 (.comp true (.comp true (.ix (.var 4) (.var 3)) (.nm 4) .seq [.var 1] [4]) (.nm 3) .rng1 [.blt .len true [.var 0]] [3]),
    .ret (.blt .tuple true [.comp true (.tup [.blt .min true [.var 5], .blt .max true [.var 5]]) (.nm 5) .seq [.var 2] [5]])]
def spHullOf : DSp := fun ds M Q _ => ∃ (bs : List Int) (log : List (List Int)), ds = [pt bs, lg log] ∧ log ≠ [] ∧ log.length ≤ 100000 ∧ bs.length ≤ 1000 ∧ (∀ p ∈ log, p.length = bs.length) ∧ Q (hu (wideH log)) M
def fi_hull_of : FI := ⟨"hull_of", 2, spHullOf⟩
@[simp] theorem fi_hull_of_sp : fi_hull_of.sp = spHullOf := rfl
theorem wp_hull_of {C : Ctx} {E : EX} {ds : List D} {M : Mp} {Q : QE} {E' : XD → Mp → Prop} (h : spHullOf ds M Q E') : wpB C E b_hull_of (endsD Q) (startD mc_hull_of.N ds) M := by
  obtain ⟨bs, log, rfl, h0, hl, hbl, hp, q⟩ := h
  rw [show startD mc_hull_of.N [pt bs, lg log] = [some (pt bs), some (lg log), none, none, none, none] from rfl, b_hull_of, wpB_cons]
  simp
  refine cmp_lgnil h0 ?_
  simp [wpB_nil, wpB_cons, itD]
  refine ⟨⟨by omega, by omega⟩, fun c hc => ?_⟩
  refine cmpL_mapf (fun (i : Nat) => D.int (i : Int)) (fun i => D.lst (ils (col i log))) hc (by simp; omega) (fun _ => True.intro) (fun i hi acc add skip ha => ?_) ?_
  · rw [List.mem_range] at hi
    simp [turnC, wipeD, itD]
    intro c2 hc2
    refine cmpL_mapf pt (fun p => D.int (p.getD i 0)) hc2 (by omega) (fun _ => True.intro) (fun p hpm acc2 add2 skip2 ha2 => ?_) ?_
    · have hpl := hp p hpm
      simp [turnC, wipeD]
      rw [atI_nat (by simp; omega)]
      simp
      rw [show p[i]'(by omega) = p.getD i 0 by rw [List.getD_eq_getElem?_getD, List.getElem?_eq_getElem (by omega)]; rfl]
      exact ha2
    · simp
      have e : (log.map fun p => D.int (p[i]?.getD 0)) = ils (col i log) := by simp [col, ils]
      rw [e]
      exact ha
  simp [wpB_cons, itD]
  have hc0 : ∀ i, col i log ≠ [] := fun i z => h0 (by simpa [col] using z)
  intro c3 hc3
  refine cmpL_mapf (fun i => D.lst (ils (col i log))) (fun i => pr (minL (col i log), maxL (col i log))) hc3 (by simp; omega) (fun _ => True.intro) (fun i hi acc add skip ha => ?_) ?_
  · simp [turnC, wipeD, hc0]
    exact ⟨by decide, ha⟩
  · simp
    refine Fin.same ?_
    have e : hu (wideH log) = .tup ((List.range bs.length).map fun i => pr (minL (col i log), maxL (col i log))) := by rw [wideH_cols h0 hp]; simp
    rw [e] at q
    exact q
/-! ### stretches -/
def pieces (log : List (List Int)) : List Int → List (List (List Int))
  | [] => []
  | [b] => [log.drop b.toNat]
  | b :: e :: r => (log.drop b.toNat).take (e.toNat - b.toNat) :: pieces log (e :: r)
theorem pieces_len (log) : ∀ l, (pieces log l).length = l.length
  | [] => rfl
  | [_] => rfl
  | _ :: e :: r => by rw [pieces, List.length_cons, pieces_len log (e :: r)]; rfl
/-- the pairs of begin and end -/
def ends (n : Nat) (l : List Int) : List (Int × Int) := l.zip (l.drop 1 ++ [(n : Int)])
theorem pieces_ends (log : List (List Int)) : ∀ {l : List Int}, (∀ x ∈ l, 0 ≤ x ∧ x < log.length) → (ends log.length l).map (fun t => (log.drop t.1.toNat).take (t.2.toNat - t.1.toNat)) = pieces log l
  | [], _ => rfl
  | [b], _ => by simp only [ends, pieces, List.drop_succ_cons, List.drop_zero, List.nil_append, List.zip_cons_cons, List.zip_nil_left, List.map_cons, List.map_nil]; rw [List.take_of_length_le (by simp)]
  | b :: e :: r, h => by
    have ih := pieces_ends log (l := e :: r) fun x hx => h x (List.mem_cons_of_mem _ hx)
    rw [pieces, ← ih]
    rfl
theorem ends_mem {n : Nat} {l : List Int} (h : ∀ x ∈ l, 0 ≤ x ∧ x < n) : ∀ t ∈ ends n l, (0 ≤ t.1 ∧ t.1 < n) ∧ 0 ≤ t.2 ∧ t.2 ≤ n := fun t ht => by
  obtain ⟨h1, h2⟩ := List.of_mem_zip ht
  refine ⟨h _ h1, ?_⟩
  rcases List.mem_append.mp h2 with z | z
  · have := h _ (List.mem_of_mem_drop z); omega
  · rw [List.mem_singleton] at z; omega
def mc_stretches : MC := ⟨["box", "log", "starts", "begin", "end"], ["phase_starts"], [], [], []⟩
def b_stretches : List CS := [.set 2 (.call 0 [.var 0, .var 1]),
    .ret (.comp true (.sl true (.var 1) (.var 3) (.var 4)) (.tup [.nm 3, .nm 4]) .zip2 [.var 2, .bin .Add true (.slL true (.var 2) (.int 1)) (.tup [.blt .len true [.var 1]])] [3, 4])]
def cx_stretches : Ctx := ⟨[fi_phase_starts], [], [], []⟩
@[simp] theorem cx_stretches_0 : cx_stretches.fs[0]? = some fi_phase_starts := rfl
def spStretches : DSp := fun ds M Q _ => ∃ (bs : List Int) (log : List (List Int)), ds = [pt bs, lg log] ∧ log.length ≤ 100000 ∧ bs.length ≤ 1000 ∧ (∀ p ∈ log, p.length ≤ 1000) ∧ Q (.lst ((pieces log (starts bs log)).map lg)) M
def fi_stretches : FI := ⟨"stretches", 2, spStretches⟩
@[simp] theorem fi_stretches_sp : fi_stretches.sp = spStretches := rfl
/-- phases of logs -/
theorem starts_bound (bs : List Int) : ∀ (r seg : List (List Int)) (k : Nat), (stF bs seg k r).length ≤ r.length ∧ ∀ x ∈ stF bs seg k r, (k : Int) ≤ x ∧ x < k + r.length
  | [], _, _ => ⟨Nat.le_refl _, fun x h => by cases h⟩
  | p :: r, seg, k => by
    rw [stF, List.length_cons]
    split
    · obtain ⟨h1, h2⟩ := starts_bound bs r (seg ++ [p]) (k + 1)
      exact ⟨by omega, fun x hx => by have := h2 x hx; omega⟩
    · obtain ⟨h1, h2⟩ := starts_bound bs r [p] (k + 1)
      refine ⟨by rw [List.length_cons]; omega, fun x hx => ?_⟩
      rcases List.mem_cons.mp hx with rfl | hx
      · omega
      · have := h2 x hx; omega
theorem starts_lt {bs : List Int} {log : List (List Int)} : (starts bs log).length ≤ log.length ∧ ∀ x ∈ starts bs log, 0 ≤ x ∧ x < log.length := by
  obtain ⟨h1, h2⟩ := starts_bound bs log [] 0
  exact ⟨h1, fun x hx => by have := h2 x hx; omega⟩
theorem cut_from1 {l : List D} : cutD l (some 1) none = l.drop 1 := by
  unfold cutD
  rw [show HT.sIx l.length 0 (some 1) = min 1 l.length from HT.sIx_nat l.length 0 1, HT.sIx_none]
  cases l with
  | nil => rfl
  | cons x r =>
    rw [show min 1 (x :: r).length = 1 by rw [List.length_cons]; omega]
    exact List.take_length
theorem wp_stretches {E : EX} {ds : List D} {M : Mp} {Q : QE} {E' : XD → Mp → Prop} (h : spStretches ds M Q E') : wpB cx_stretches E b_stretches (endsD Q) (startD mc_stretches.N ds) M := by
  obtain ⟨bs, log, rfl, hl, hbl, hp, q⟩ := h
  rw [show startD mc_stretches.N [pt bs, lg log] = [some (pt bs), some (lg log), none, none, none] from rfl, b_stretches, wpB_cons]
  simp
  refine ⟨bs, log, rfl, hbl, hl, hp, ?_⟩
  obtain ⟨h1, h2⟩ := starts_lt (bs := bs) (log := log)
  simp [wpB_cons, itD]
  rw [cut_from1, ← List.map_drop]
  refine ⟨by decide, by have := sz (n := (starts bs log).length - 1 + 1) (by omega); simpa using this, fun c hc => ?_⟩
  have e : (((starts bs log).map D.int).zip (((starts bs log).drop 1).map D.int ++ [D.int (log.length : Int)])).map (fun p => D.tup [p.1, p.2]) = (ends log.length (starts bs log)).map fun t => D.tup [.int t.1, .int t.2] := by
    rw [show ((starts bs log).drop 1).map D.int ++ [D.int (log.length : Int)] = ils ((starts bs log).drop 1 ++ [(log.length : Int)]) by simp [ils], show (starts bs log).map D.int = ils (starts bs log) from rfl, zip_ils]
    rfl
  rw [e]
  refine cmpL_mapf _ (fun t => lg ((log.drop t.1.toNat).take (t.2.toNat - t.1.toNat))) hc (by simp [ends]; omega) (fun _ => True.intro) (fun t ht acc add skip ha => ?_) ?_
  · obtain ⟨⟨k1, k2⟩, k3, k4⟩ := ends_mem h2 t ht
    simp [turnC, wipeD]
    have ec := cutD_nat (l := log.map pt) (i := t.1.toNat) (j := t.2.toNat) (by simp; omega) (by simp; omega)
    rw [Int.toNat_of_nonneg k1, Int.toNat_of_nonneg k3] at ec
    rw [ec, ← List.map_drop, ← List.map_take]
    exact ha
  · refine Fin.same ?_
    rw [← pieces_ends log h2, List.map_map] at q
    exact q
def mc_fewest_loads : MC := ⟨["box", "log"], ["phase_starts"], [], [], []⟩
def b_fewest_loads : List CS := [.ret (.blt .len true [.call 0 [.var 0, .var 1]])]
def cx_fewest_loads : Ctx := ⟨[fi_phase_starts], [], [], []⟩
@[simp] theorem cx_fewest_loads_0 : cx_fewest_loads.fs[0]? = some fi_phase_starts := rfl
def spFewest : DSp := fun ds M Q _ => ∃ (bs : List Int) (log : List (List Int)), ds = [pt bs, lg log] ∧ log.length ≤ 100000 ∧ bs.length ≤ 1000 ∧ (∀ p ∈ log, p.length ≤ 1000) ∧ Q (.int (starts bs log).length) M
def fi_fewest_loads : FI := ⟨"fewest_loads", 2, spFewest⟩
@[simp] theorem fi_fewest_loads_sp : fi_fewest_loads.sp = spFewest := rfl
theorem wp_fewest_loads {E : EX} {ds : List D} {M : Mp} {Q : QE} {E' : XD → Mp → Prop} (h : spFewest ds M Q E') : wpB cx_fewest_loads E b_fewest_loads (endsD Q) (startD mc_fewest_loads.N ds) M := by
  obtain ⟨bs, log, rfl, hl, hbl, hp, q⟩ := h
  rw [show startD mc_fewest_loads.N [pt bs, lg log] = [some (pt bs), some (lg log)] from rfl, b_fewest_loads, wpB_cons]
  simp
  refine ⟨bs, log, rfl, hbl, hl, hp, ?_⟩
  simp
  exact Fin.same q
/-! ### the best plan -/
/-- the windows at the first places -/
def firstsP (bs : List Int) (seg : List (List Int)) : List Int := (placesP bs (wideH seg)).map (·.1)
def bestPl (bs : List Int) (log : List (List Int)) : List (List Int) := (pieces log (starts bs log)).map (firstsP bs)
def mc_best_plan : MC := ⟨["box", "log", "places", "stretch", "first", "last"], ["stretches", "places_of", "hull_of", "phase_starts"], [], [], []⟩
def b_best_plan : List CS := [.set 2 (.lst false []),
    .for (.nm 3) .seq [.call 0 [.var 0, .var 1]] [.expr (.mth .append (.var 2) (.blt .tuple true [.comp true (.var 4) (.tup [.nm 4, .nm 5]) .seq [.call 1 [.var 0, .call 2 [.var 0, .var 3]]] [4, 5]]))],
    .ret (.tup [.call 3 [.var 0, .var 1], .blt .tuple true [.var 2]])]
def cx_best_plan : Ctx := ⟨[fi_stretches, fi_places_of, fi_hull_of, fi_phase_starts], [], [], []⟩
@[simp] theorem cx_best_plan_0 : cx_best_plan.fs[0]? = some fi_stretches := rfl
@[simp] theorem cx_best_plan_1 : cx_best_plan.fs[1]? = some fi_places_of := rfl
@[simp] theorem cx_best_plan_2 : cx_best_plan.fs[2]? = some fi_hull_of := rfl
@[simp] theorem cx_best_plan_3 : cx_best_plan.fs[3]? = some fi_phase_starts := rfl
/-- pieces by which the phases run -/
theorem pieces_ok (bs : List Int) : ∀ (r seg : List (List Int)) (pre : List (List Int)), seg ≠ [] → fitsH bs (wideH seg) = true → (∀ p ∈ r, fitsH bs (wideH [p]) = true) →
    ∀ s ∈ pieces (pre ++ seg ++ r) ((pre.length : Int) :: stF bs seg (pre.length + seg.length) r), s ≠ [] ∧ fitsH bs (wideH s) = true ∧ ∀ p ∈ s, p ∈ seg ++ r
  | [], seg, pre, h0, hf, _ => by
    intro s hs
    rw [stF, pieces, List.mem_singleton] at hs
    rw [hs, List.append_nil, show ((pre.length : Int)).toNat = pre.length from rfl, List.drop_left]
    exact ⟨h0, hf, fun p hp => by simpa using hp⟩
  | p :: r, seg, pre, h0, hf, hr => by
    have hl : pre.length + seg.length ≠ 0 := by have := List.length_pos_iff.mpr h0; omega
    rw [stF]
    split
    · rename_i hc
      have ih := pieces_ok bs r (seg ++ [p]) pre (by simp) hc.2 fun x hx => hr x (List.mem_cons_of_mem _ hx)
      rw [show (seg ++ [p]).length = seg.length + 1 by simp, show pre ++ (seg ++ [p]) ++ r = pre ++ seg ++ p :: r by simp] at ih
      intro s hs
      obtain ⟨i1, i2, i3⟩ := ih s (by rw [← Nat.add_assoc]; exact hs)
      exact ⟨i1, i2, fun x hx => by simpa using i3 x hx⟩
    · have ih := pieces_ok bs r [p] (pre ++ seg) (by simp) (hr p List.mem_cons_self) fun x hx => hr x (List.mem_cons_of_mem _ hx)
      rw [show (pre ++ seg).length = pre.length + seg.length by simp, show pre ++ seg ++ [p] ++ r = pre ++ seg ++ p :: r by simp] at ih
      intro s hs
      rw [pieces] at hs
      rcases List.mem_cons.mp hs with rfl | hs
      · rw [show (((pre.length + seg.length : Nat) : Int)).toNat - ((pre.length : Int)).toNat = seg.length by omega, show ((pre.length : Int)).toNat = pre.length from rfl, List.append_assoc, List.drop_left, List.take_left]
        exact ⟨h0, hf, fun x hx => List.mem_append_left _ hx⟩
      · obtain ⟨i1, i2, i3⟩ := ih s hs
        exact ⟨i1, i2, fun x hx => List.mem_append_right _ (by simpa using i3 x hx)⟩
theorem fits_one {bs p : List Int} (hb : ∀ b ∈ bs, 1 ≤ b) : fitsH bs (wideH [p]) = true := by
  unfold fitsH
  rw [List.all_eq_true]
  intro t ht
  obtain ⟨h1, h2⟩ := List.of_mem_zip ht
  obtain ⟨x, hx, e⟩ := List.mem_map.mp h1
  have := hb _ h2
  rw [← e]
  simp; omega
theorem stretch_ok {bs : List Int} {log : List (List Int)} (hb : ∀ b ∈ bs, 1 ≤ b) : ∀ s ∈ pieces log (starts bs log), s ≠ [] ∧ fitsH bs (wideH s) = true ∧ ∀ p ∈ s, p ∈ log := by
  cases log with
  | nil => intro s hs; cases hs
  | cons p r =>
    have e : starts bs (p :: r) = 0 :: stF bs [p] 1 r := by
      show stF bs [] 0 (p :: r) = _
      rw [stF, if_neg (fun z => z.1 rfl)]; rfl
    rw [e]
    exact pieces_ok bs r [p] [] (by simp) (fits_one hb) fun x _ => fits_one hb
theorem pieces_small (log : List (List Int)) : ∀ l, ∀ s ∈ pieces log l, s.length ≤ log.length
  | [], s, hs => by cases hs
  | [b], s, hs => by rw [pieces, List.mem_singleton] at hs; rw [hs]; simp
  | b :: e :: r, s, hs => by
    rw [pieces] at hs
    rcases List.mem_cons.mp hs with rfl | hs
    · simp; omega
    · exact pieces_small log (e :: r) s hs
def spBest : DSp := fun ds M Q _ => ∃ (bs : List Int) (log : List (List Int)), ds = [pt bs, lg log] ∧ log.length ≤ 100000 ∧ bs.length ≤ 1000 ∧ (∀ b ∈ bs, 1 ≤ b) ∧ (∀ p ∈ log, p.length = bs.length) ∧ Q (.tup [pt (starts bs log), lg (bestPl bs log)]) M
def fi_best_plan : FI := ⟨"best_plan", 2, spBest⟩
@[simp] theorem fi_best_plan_sp : fi_best_plan.sp = spBest := rfl
theorem wp_best_plan {E : EX} {ds : List D} {M : Mp} {Q : QE} {E' : XD → Mp → Prop} (h : spBest ds M Q E') : wpB cx_best_plan E b_best_plan (endsD Q) (startD mc_best_plan.N ds) M := by
  obtain ⟨bs, log, rfl, hl, hbl, hb, hp, q⟩ := h
  rw [show startD mc_best_plan.N [pt bs, lg log] = [some (pt bs), some (lg log), none, none, none, none] from rfl, b_best_plan, wpB_cons]
  have hp' : ∀ p ∈ log, p.length ≤ 1000 := fun p h => by rw [hp p h]; exact hbl
  obtain ⟨h1, h2⟩ := starts_lt (bs := bs) (log := log)
  simp
  intro c hc
  simp [wpB_cons, itD]
  refine ⟨bs, log, rfl, hl, hbl, hp', ?_⟩
  simp
  refine forD_map lg (fun s => pt (firstsP bs s)) (fun ρ => ∃ x3 x4 x5, ρ = [some (pt bs), some (lg log), some (.ref c), x3, x4, x5]) (fun _ => True.intro) (fun s hs acc ρ hacc hS nx hnx => ?_) (fun ρ hS => ?_) ⟨_, _, _, rfl⟩
  · obtain ⟨x3, x4, x5, rfl⟩ := hS
    obtain ⟨s0, sf, sm⟩ := stretch_ok hb s hs
    have hsl := pieces_small log _ s hs
    rw [pieces_len] at hacc
    simp [wpB_cons, itD]
    refine ⟨bs, s, rfl, s0, by omega, hbl, fun p h => hp p (sm p h), ?_⟩
    refine ⟨bs, wideH s, rfl, hbl, sf, ?_⟩
    have hpl := placesP_len bs (wideH s)
    simp [itD]
    intro c2 hc2
    refine cmpL_mapf pr (fun t => D.int t.1) hc2 (by omega) (fun _ => True.intro) (fun t ht acc add skip ha => ?_) ?_
    · simp [turnC, wipeD]; exact ha
    have hcc : c2 ≠ c := fun z => by rw [z, Mp.upd_same] at hc2; cases hc2
    simp [wpB_nil]
    refine ⟨by have := sz (n := acc.length + 1) (by omega); omega, ?_⟩
    have e : D.tup ((placesP bs (wideH s)).map fun t => D.int t.1) = pt (firstsP bs s) := by simp [firstsP, ils]
    rw [e]
    exact hnx _ ⟨_, _, _, rfl⟩
  · obtain ⟨x3, x4, x5, rfl⟩ := hS
    simp [wpB_cons]
    refine ⟨bs, log, rfl, hbl, hl, hp', ?_⟩
    simp
    refine ⟨by decide, ?_⟩
    have e : lg (bestPl bs log) = .tup ((pieces log (starts bs log)).map fun s => pt (firstsP bs s)) := by simp [bestPl]
    rw [e] at q
    exact Fin.sub (M' := M) (Mp.sub_upd hc) q
/-! ### spans -/
theorem zipIdx_split {α : Type} {l : List α} {pre post : List (α × Nat)} {t : α × Nat} (e : pre ++ t :: post = l.zipIdx) : t.2 = pre.length ∧ l[pre.length]? = some t.1 := by
  have h := congrArg (fun z => z[pre.length]?) e
  simp at h
  cases e2 : l[pre.length]? with
  | none => rw [e2] at h; cases h
  | some a => rw [e2] at h; cases h; exact ⟨rfl, rfl⟩
theorem abs_eq (x : Int) : (if x < 0 then -x else x) = (x.natAbs : Int) := by split <;> omega
def farAx (bs one other : List Int) : Option Nat := bs.zipIdx.findSome? fun t => if t.1 ≤ ((one.getD t.2 0 - other.getD t.2 0).natAbs : Int) then some t.2 else none
def oi : Option Nat → D
  | none => .non
  | some k => .int (k : Int)
def mc_far_axis : MC := ⟨["box", "one", "other", "axis", "size"], [], [], [], []⟩
def b_far_axis : List CS := [.for (.tup [.nm 3, .nm 4]) .enum [.var 0] [.ifs (.cmp .GtE (.blt .abs true [.bin .Sub true (.ix (.var 1) (.var 3)) (.ix (.var 2) (.var 3))]) (.var 4)) [.ret (.var 3)] []],
    .ret (.non)]
def spFar : DSp := fun ds M Q _ => ∃ bs one other : List Int, ds = [pt bs, pt one, pt other] ∧ one.length = bs.length ∧ other.length = bs.length ∧ bs.length ≤ 1000 ∧ Q (oi (farAx bs one other)) M
def fi_far_axis : FI := ⟨"far_axis", 3, spFar⟩
@[simp] theorem fi_far_axis_sp : fi_far_axis.sp = spFar := rfl
theorem enum_ils (k : Nat) : ∀ l : List Int, ((ils l).zipIdx k).map (fun p => D.tup [.int (p.2 : Int), p.1]) = (l.zipIdx k).map fun t => D.tup [.int (t.2 : Int), .int t.1]
  | [] => rfl
  | p :: l => by
    have := enum_ils (k + 1) l
    simp [List.zipIdx_cons] at this ⊢
    exact this
theorem wp_far_axis {C : Ctx} {E : EX} {ds : List D} {M : Mp} {Q : QE} {E' : XD → Mp → Prop} (h : spFar ds M Q E') : wpB C E b_far_axis (endsD Q) (startD mc_far_axis.N ds) M := by
  obtain ⟨bs, one, other, rfl, h1, h2, h3, q⟩ := h
  rw [show startD mc_far_axis.N [pt bs, pt one, pt other] = [some (pt bs), some (pt one), some (pt other), none, none] from rfl, b_far_axis, wpB_cons]
  simp [itD, enumD]
  rw [enum_ils]
  refine forD_pre (fun t : Int × Nat => D.tup [.int (t.2 : Int), .int t.1]) (fun pre ρ M' => M' = M ∧ pre.findSome? (fun t => if t.1 ≤ ((one.getD t.2 0 - other.getD t.2 0).natAbs : Int) then some t.2 else none) = none ∧ ∃ x3 x4, ρ = [some (pt bs), some (pt one), some (pt other), x3, x4]) (fun _ => True.intro) (fun pre t post ρ M1 e hI nx hnx => ?_) (fun ρ M1 hI => ?_) ⟨rfl, rfl, _, _, rfl⟩
  · obtain ⟨rfl, hn, x3, x4, rfl⟩ := hI
    obtain ⟨e1, e2⟩ := zipIdx_split e
    have hlt : t.2 < bs.length := by rw [e1]; exact (List.getElem?_eq_some_iff.mp e2).1
    simp [wpB_cons]
    rw [atI_nat (by simp; omega), atI_nat (by simp; omega)]
    try simp
    have g1 : one[t.2]'(by omega) = one.getD t.2 0 := by rw [List.getD_eq_getElem?_getD, List.getElem?_eq_getElem (by omega)]; rfl
    have g2 : other[t.2]'(by omega) = other.getD t.2 0 := by rw [List.getD_eq_getElem?_getD, List.getElem?_eq_getElem (by omega)]; rfl
    rw [g1, g2, abs_eq]
    by_cases c : t.1 ≤ ((one.getD t.2 0 - other.getD t.2 0).natAbs : Int)
    · rw [if_pos c]
      try simp [wpB_cons]
      have : farAx bs one other = some t.2 := by
        unfold farAx
        rw [← e, List.findSome?_append, hn, List.findSome?_cons, if_pos c]; rfl
      rw [this] at q
      exact Fin.same q
    · rw [if_neg c]
      simp [wpB_nil]
      refine hnx _ _ ⟨rfl, ?_, _, _, rfl⟩
      rw [List.findSome?_append, hn, List.findSome?_cons, if_neg c]; rfl
  · obtain ⟨rfl, hn, x3, x4, rfl⟩ := hI
    simp [wpB_cons]
    rw [show farAx bs one other = none from hn] at q
    exact Fin.same q
/-- requests that do not fit together -/
def spanTo (bs : List Int) (log : List (List Int)) (b n : Nat) : Option (Nat × Nat) := (List.range (n - b)).findSome? fun k => (farAx bs (log.getD (b + k) []) (log.getD n [])).map fun a => (b + k, a)
def mc_span_to : MC := ⟨["box", "log", "begin", "number", "earlier", "axis"], ["far_axis"], [], [], []⟩
def b_span_to : List CS := [.for (.nm 4) .rng2 [.var 2, .var 3] [.set 5 (.call 0 [.var 0, .ix (.var 1) (.var 4), .ix (.var 1) (.var 3)]), .ifs (.cmp .IsNot (.var 5) (.non)) [.ret (.tup [.var 4, .var 3, .var 5])] []],
    .ret (.non)]
def cx_span_to : Ctx := ⟨[fi_far_axis], [], [], []⟩
@[simp] theorem cx_span_to_0 : cx_span_to.fs[0]? = some fi_far_axis := rfl
def spSpanTo : DSp := fun ds M Q _ => ∃ (bs : List Int) (log : List (List Int)) (b n : Nat), ds = [pt bs, lg log, .int b, .int n] ∧ bs.length ≤ 1000 ∧ log.length ≤ 100000 ∧ b ≤ n ∧ n < log.length ∧ (∀ p ∈ log, p.length = bs.length) ∧ ∃ t, spanTo bs log b n = some t ∧ Q (.tup [.int t.1, .int n, .int t.2]) M
def fi_span_to : FI := ⟨"span_to", 4, spSpanTo⟩
@[simp] theorem fi_span_to_sp : fi_span_to.sp = spSpanTo := rfl
theorem lg_at {log : List (List Int)} {k : Nat} (h : k < log.length) : atI (log.map pt) (k : Int) = some (pt (log.getD k [])) := by
  rw [atI_nat (by simpa using h)]
  simp [h]
theorem log_at {a : Nat} {log : List (List Int)} {k : Nat} (hp : ∀ p ∈ log, p.length = a) (h : k < log.length) : (log.getD k []).length = a := by
  rw [List.getD_eq_getElem?_getD, List.getElem?_eq_getElem h]
  exact hp _ (List.getElem_mem h)
theorem wp_span_to {E : EX} {ds : List D} {M : Mp} {Q : QE} {E' : XD → Mp → Prop} (h : spSpanTo ds M Q E') : wpB cx_span_to E b_span_to (endsD Q) (startD mc_span_to.N ds) M := by
  obtain ⟨bs, log, b, n, rfl, hbl, hl, hbn, hn, hp, t, ht, q⟩ := h
  rw [show startD mc_span_to.N [pt bs, lg log, .int b, .int n] = [some (pt bs), some (lg log), some (.int b), some (.int n), none, none] from rfl, b_span_to, wpB_cons]
  simp [itD]
  refine ⟨⟨by omega, by omega⟩, ⟨by omega, by omega⟩, ?_⟩
  refine forD_pre (fun k : Nat => D.int ((b : Int) + (k : Int))) (fun pre ρ M' => M' = M ∧ pre.findSome? (fun k => (farAx bs (log.getD (b + k) []) (log.getD n [])).map fun a => (b + k, a)) = none ∧ ∃ x3 x4, ρ = [some (pt bs), some (lg log), some (.int b), some (.int n), x3, x4]) (fun _ => True.intro) (fun pre k post ρ M1 e hI nx hnx => ?_) (fun ρ M1 hI => ?_) ⟨rfl, rfl, _, _, rfl⟩
  · obtain ⟨rfl, hno, x3, x4, rfl⟩ := hI
    have hk : k < n - b := by have : k ∈ pre ++ k :: post := by simp
                              rw [e, List.mem_range] at this; exact this
    simp [wpB_cons]
    rw [show ((b : Int) + (k : Int)) = ((b + k : Nat) : Int) from rfl, lg_at (by omega), lg_at hn]
    simp only []
    refine ⟨bs, log.getD (b + k) [], log.getD n [], rfl, log_at hp (by omega), log_at hp hn, hbl, ?_⟩
    cases hf : farAx bs (log.getD (b + k) []) (log.getD n []) with
    | none =>
      simp [oi, wpB_nil, isD, D.isNon]
      refine hnx _ _ ⟨rfl, ?_, _, _, rfl⟩
      rw [List.findSome?_append, hno, List.findSome?_cons, hf]; rfl
    | some a =>
      simp [oi, wpB_cons, isD, D.isNon]
      have : spanTo bs log b n = some (b + k, a) := by
        unfold spanTo
        rw [← e, List.findSome?_append, hno, List.findSome?_cons, hf]; rfl
      rw [this] at ht
      cases ht
      exact ⟨by decide, Fin.same q⟩
  · obtain ⟨rfl, hno, x3, x4, rfl⟩ := hI
    rw [show spanTo bs log b n = none from hno] at ht
    cases ht
/-- phases, one behind the other -/
def PairOk (bs : List Int) (log : List (List Int)) (t : Int × Int) : Prop := ∃ (pre seg r : List (List Int)) (p : List Int), log = pre ++ seg ++ p :: r ∧ t = ((pre.length : Int), ((pre.length + seg.length : Nat) : Int)) ∧ seg ≠ [] ∧ fitsH bs (wideH seg) = true ∧ fitsH bs (wideH (seg ++ [p])) = false
theorem pairs_ok (bs : List Int) (hb : ∀ b ∈ bs, 1 ≤ b) : ∀ (r seg pre : List (List Int)), seg ≠ [] → fitsH bs (wideH seg) = true → ∀ log, log = pre ++ seg ++ r →
    ∀ t ∈ ((pre.length : Int) :: stF bs seg (pre.length + seg.length) r).zip (stF bs seg (pre.length + seg.length) r), PairOk bs log t
  | [], seg, pre, _, _, _, _ => fun t h => by simp [stF] at h
  | p :: r, seg, pre, h0, hf, log, e => by
    have hl : pre.length + seg.length ≠ 0 := by have := List.length_pos_iff.mpr h0; omega
    rw [stF]
    split
    · rename_i hc
      have ih := pairs_ok bs hb r (seg ++ [p]) pre (by simp) hc.2 log (by rw [e]; simp)
      rw [show pre.length + (seg ++ [p]).length = pre.length + seg.length + 1 by simp; omega] at ih
      exact ih
    · rename_i hc
      have ih := pairs_ok bs hb r [p] (pre ++ seg) (by simp) (fits_one hb) log (by rw [e]; simp)
      rw [show (pre ++ seg).length = pre.length + seg.length by simp] at ih
      intro t ht
      rw [List.zip_cons_cons] at ht
      rcases List.mem_cons.mp ht with rfl | ht
      · refine ⟨pre, seg, r, p, e, rfl, h0, hf, ?_⟩
        rw [Bool.eq_false_iff]
        exact fun z => hc ⟨hl, z⟩
      · exact ih t ht
theorem starts_pairs {bs : List Int} {log : List (List Int)} (hb : ∀ b ∈ bs, 1 ≤ b) : ∀ t ∈ (starts bs log).zip ((starts bs log).drop 1), PairOk bs log t := by
  cases log with
  | nil => intro t ht; cases ht
  | cons p r =>
    have e : starts bs (p :: r) = 0 :: stF bs [p] 1 r := by
      show stF bs [] 0 (p :: r) = _
      rw [stF, if_neg (fun z => z.1 rfl)]; rfl
    rw [e]
    exact pairs_ok bs hb r [p] [] (by simp) (fits_one hb) _ rfl
/-- two requests far apart -/
theorem far_ex {bs : List Int} {seg : List (List Int)} {p : List Int} (hb : ∀ b ∈ bs, 1 ≤ b) (h0 : seg ≠ []) (hs : ∀ q ∈ seg, q.length = bs.length) (hp : p.length = bs.length) (f1 : fitsH bs (wideH seg) = true) (f2 : fitsH bs (wideH (seg ++ [p])) = false) :
    ∃ q ∈ seg, ∃ j, j < bs.length ∧ bs.getD j 0 ≤ ((q.getD j 0 - p.getD j 0).natAbs : Int) := by
  have hs2 : ∀ q ∈ seg ++ [p], q.length = bs.length := fun q hq => (List.mem_append.mp hq).elim (hs q) fun z => by rw [List.mem_singleton.mp z]; exact hp
  rw [wideH_cols h0 hs] at f1
  rw [wideH_cols (by simp) hs2] at f2
  unfold fitsH at f1 f2
  rw [List.all_eq_true] at f1
  rw [Bool.eq_false_iff, ne_eq, List.all_eq_true] at f2
  have f2 := Classical.not_forall.mp f2
  obtain ⟨t, ht⟩ := f2
  obtain ⟨hm, hd⟩ := Classical.not_imp.mp ht
  obtain ⟨j, hj, e⟩ := List.mem_iff_getElem.mp hm
  have hj2 : j < bs.length := by simp at hj; omega
  have hbj : bs.getD j 0 = bs[j] := by rw [List.getD_eq_getElem?_getD, List.getElem?_eq_getElem hj2]; rfl
  have hb1 := hb _ (List.getElem_mem hj2)
  have e1 : t = ((minL (col j (seg ++ [p])), maxL (col j (seg ++ [p]))), bs[j]) := by rw [← e]; simp
  have f1 := f1 ((minL (col j seg), maxL (col j seg)), bs[j]) (by rw [List.mem_iff_getElem]; exact ⟨j, by simp; omega, by simp⟩)
  rw [e1] at hd
  simp at f1 hd
  have c0 : col j seg ≠ [] := fun z => h0 (by simpa [col] using z)
  have c1 : col j (seg ++ [p]) ≠ [] := by simp [col]
  obtain ⟨a1, a2⟩ := minL_spec c0
  obtain ⟨a3, a4⟩ := maxL_spec c0
  obtain ⟨b1, b2⟩ := minL_spec c1
  obtain ⟨b3, b4⟩ := maxL_spec c1
  have ec : col j (seg ++ [p]) = col j seg ++ [p.getD j 0] := by simp [col]
  have mem : ∀ x, x ∈ col j (seg ++ [p]) → x = p.getD j 0 ∨ x ∈ col j seg := fun x hx => by
    rw [ec] at hx
    rcases List.mem_append.mp hx with z | z
    · exact .inr z
    · exact .inl (List.mem_singleton.mp z)
  have fin : ∀ x ∈ col j seg, bs[j] ≤ ((x - p.getD j 0).natAbs : Int) → ∃ q ∈ seg, ∃ j, j < bs.length ∧ bs.getD j 0 ≤ ((q.getD j 0 - p.getD j 0).natAbs : Int) := fun x hx hd => by
    obtain ⟨q, hq, rfl⟩ := List.mem_map.mp hx
    exact ⟨q, hq, j, hj2, by rw [hbj]; exact hd⟩
  rcases mem _ b1 with z1 | z1
  · rcases mem _ b3 with z2 | z2
    · omega
    · exact fin _ z2 (by omega)
  · rcases mem _ b3 with z2 | z2
    · exact fin _ z1 (by omega)
    · have := a2 _ z1
      have := a4 _ z2
      omega
/-- what a span is -/
def SpanR (bs : List Int) (log : List (List Int)) (t : Int × Int) (s : Int × (Int × Int)) : Prop :=
  t.1 ≤ s.1 ∧ s.1 < t.2 ∧ s.2.1 = t.2 ∧ 0 ≤ t.1 ∧ t.2 < log.length ∧ 0 ≤ s.2.2 ∧ s.2.2 < bs.length ∧ bs.getD s.2.2.toNat 0 ≤ (((log.getD s.1.toNat []).getD s.2.2.toNat 0 - (log.getD s.2.1.toNat []).getD s.2.2.toNat 0).natAbs : Int)
theorem farAx_some {bs one other : List Int} {a : Nat} (h : farAx bs one other = some a) : a < bs.length ∧ bs.getD a 0 ≤ ((one.getD a 0 - other.getD a 0).natAbs : Int) := by
  unfold farAx at h
  obtain ⟨t, ht, e⟩ := List.exists_of_findSome?_eq_some h
  split at e
  · rename_i c
    cases e
    have h1 := List.mem_zipIdx ht
    obtain ⟨_, h2, h3⟩ := h1
    have h2' : t.2 < bs.length := by omega
    refine ⟨h2', ?_⟩
    rw [List.getD_eq_getElem?_getD, List.getElem?_eq_getElem h2']
    have h3' : t.1 = bs[t.2] := by simpa using h3
    rw [← h3']
    exact c
  · cases e
theorem farAx_ex {bs one other : List Int} {j : Nat} (hj : j < bs.length) (h : bs.getD j 0 ≤ ((one.getD j 0 - other.getD j 0).natAbs : Int)) : ∃ a, farAx bs one other = some a := by
  cases e : farAx bs one other with
  | some a => exact ⟨a, rfl⟩
  | none =>
    unfold farAx at e
    rw [List.findSome?_eq_none_iff] at e
    have h1 := e (bs[j], j) (by rw [List.mem_iff_getElem]; exact ⟨j, by simpa using hj, by simp⟩)
    rw [List.getD_eq_getElem?_getD, List.getElem?_eq_getElem hj] at h
    have h' : (bs[j], j).1 ≤ ((one.getD (bs[j], j).2 0 - other.getD (bs[j], j).2 0).natAbs : Int) := h
    rw [if_pos h'] at h1
    cases h1
theorem span_ex {bs : List Int} {log : List (List Int)} (hb : ∀ b ∈ bs, 1 ≤ b) (hp : ∀ p ∈ log, p.length = bs.length) {t : Int × Int} (h : PairOk bs log t) :
    ∃ (b n : Nat) (s : Nat × Nat), t = ((b : Int), (n : Int)) ∧ b ≤ n ∧ n < log.length ∧ spanTo bs log b n = some s ∧ SpanR bs log t ((s.1 : Int), ((n : Int), (s.2 : Int))) := by
  obtain ⟨pre, seg, r, p, rfl, rfl, h0, f1, f2⟩ := h
  have hs : ∀ q ∈ seg, q.length = bs.length := fun q hq => hp q (by simp [hq])
  have hpp : p.length = bs.length := hp p (by simp)
  obtain ⟨q, hq, j, hj, hd⟩ := far_ex hb h0 hs hpp f1 f2
  obtain ⟨k, hk, e⟩ := List.mem_iff_getElem.mp hq
  have eq1 : (pre ++ seg ++ p :: r).getD (pre.length + k) [] = q := by
    rw [List.getD_eq_getElem?_getD, List.append_assoc, List.getElem?_append_right (by omega), Nat.add_sub_cancel_left, List.getElem?_append_left hk, List.getElem?_eq_getElem hk, e]; rfl
  have eq2 : (pre ++ seg ++ p :: r).getD (pre.length + seg.length) [] = p := by
    rw [show pre.length + seg.length = (pre ++ seg).length by simp]
    simp
  have hn : pre.length + seg.length < (pre ++ seg ++ p :: r).length := by rw [List.length_append, List.length_append, List.length_cons]; omega
  cases es : spanTo bs (pre ++ seg ++ p :: r) pre.length (pre.length + seg.length) with
  | none =>
    exfalso
    unfold spanTo at es
    rw [List.findSome?_eq_none_iff] at es
    have h1 := es k (by rw [List.mem_range]; omega)
    rw [eq1, eq2] at h1
    obtain ⟨a, ha⟩ := farAx_ex hj hd
    rw [ha] at h1
    cases h1
  | some s =>
    refine ⟨_, _, s, rfl, by omega, hn, es, ?_⟩
    unfold spanTo at es
    obtain ⟨i, hi, e2⟩ := List.exists_of_findSome?_eq_some es
    rw [List.mem_range] at hi
    cases hf : farAx bs ((pre ++ seg ++ p :: r).getD (pre.length + i) []) ((pre ++ seg ++ p :: r).getD (pre.length + seg.length) []) with
    | none => rw [hf] at e2; cases e2
    | some a =>
      rw [hf] at e2
      cases e2
      obtain ⟨g1, g2⟩ := farAx_some hf
      refine ⟨by simp only []; omega, by simp only []; omega, rfl, by simp only []; omega, by simp only []; omega, by simp only []; omega, by simp only []; omega, ?_⟩
      exact g2
def tr3 (s : Int × (Int × Int)) : D := .tup [.int s.1, .int s.2.1, .int s.2.2]
/-- the spans between the phases -/
def spanI (bs : List Int) (log : List (List Int)) (t : Int × Int) : Int × (Int × Int) := match spanTo bs log t.1.toNat t.2.toNat with
  | some s => ((s.1 : Int), (t.2, (s.2 : Int)))
  | none => (0, (0, 0))
def spansL (bs : List Int) (log : List (List Int)) : List (Int × (Int × Int)) := ((starts bs log).zip ((starts bs log).drop 1)).map (spanI bs log)
theorem spansL_ok {bs : List Int} {log : List (List Int)} (hb : ∀ b ∈ bs, 1 ≤ b) (hp : ∀ p ∈ log, p.length = bs.length) : ∀ t ∈ (starts bs log).zip ((starts bs log).drop 1), SpanR bs log t (spanI bs log t) := fun t ht => by
  obtain ⟨b, n, s, rfl, h1, h2, h3, h4⟩ := span_ex hb hp (starts_pairs hb t ht)
  unfold spanI
  simp only [Int.toNat_natCast]
  rw [h3]
  exact h4
def mc_spans : MC := ⟨["box", "log", "starts", "begin", "number"], ["phase_starts", "span_to"], [], [], []⟩
def b_spans : List CS := [.set 2 (.call 0 [.var 0, .var 1]),
    .ret (.blt .tuple true [.comp true (.call 1 [.var 0, .var 1, .var 3, .var 4]) (.tup [.nm 3, .nm 4]) .zip2 [.var 2, .slL true (.var 2) (.int 1)] [3, 4]])]
def cx_spans : Ctx := ⟨[fi_phase_starts, fi_span_to], [], [], []⟩
@[simp] theorem cx_spans_0 : cx_spans.fs[0]? = some fi_phase_starts := rfl
@[simp] theorem cx_spans_1 : cx_spans.fs[1]? = some fi_span_to := rfl
def spSpans : DSp := fun ds M Q _ => ∃ (bs : List Int) (log : List (List Int)), ds = [pt bs, lg log] ∧ bs.length ≤ 1000 ∧ log.length ≤ 100000 ∧ (∀ b ∈ bs, 1 ≤ b) ∧ (∀ p ∈ log, p.length = bs.length) ∧ Q (.tup ((spansL bs log).map tr3)) M
def fi_spans : FI := ⟨"spans", 2, spSpans⟩
@[simp] theorem fi_spans_sp : fi_spans.sp = spSpans := rfl
theorem wp_spans {E : EX} {ds : List D} {M : Mp} {Q : QE} {E' : XD → Mp → Prop} (h : spSpans ds M Q E') : wpB cx_spans E b_spans (endsD Q) (startD mc_spans.N ds) M := by
  obtain ⟨bs, log, rfl, hbl, hl, hb, hp, q⟩ := h
  rw [show startD mc_spans.N [pt bs, lg log] = [some (pt bs), some (lg log), none, none, none] from rfl, b_spans, wpB_cons]
  have hp' : ∀ p ∈ log, p.length ≤ 1000 := fun p h => by rw [hp p h]; exact hbl
  obtain ⟨h1, h2⟩ := starts_lt (bs := bs) (log := log)
  simp
  refine ⟨bs, log, rfl, hbl, hl, hp', ?_⟩
  simp [wpB_cons, itD]
  intro c hc
  rw [cut_from1, ← List.map_drop, show ((starts bs log).drop 1).map D.int = ils ((starts bs log).drop 1) from rfl, zip_ils]
  refine cmpL_mapf _ (fun t => tr3 (spanI bs log t)) hc (by simp; omega) (fun _ => True.intro) (fun t ht acc add skip ha => ?_) ?_
  · obtain ⟨b, n, s, rfl, k1, k2, k3, k4⟩ := span_ex hb hp (starts_pairs hb t ht)
    simp [turnC, wipeD]
    refine ⟨bs, log, b, n, rfl, hbl, hl, k1, k2, hp, s, k3, ?_⟩
    have e : tr3 (spanI bs log ((b : Int), (n : Int))) = .tup [.int s.1, .int n, .int s.2] := by
      unfold spanI
      simp only [Int.toNat_natCast]
      rw [k3]; rfl
    rw [e] at ha
    exact ha
  · simp
    refine Fin.same ?_
    rw [spansL, List.map_map, List.drop_one] at q
    exact q
end Ow

namespace Ow
open PySem PySem.Spec PyProof.Rows L2
/-! ### checks of any data -/
@[simp] theorem isi_int_non  {M : Mp} {Q : QE} : isiD .int .non M Q = Q (.bl false) M := by show Q (.bl (isTy .int "NoneType")) M = _; rw [show isTy .int "NoneType" = false by decide]
@[simp] theorem isi_int_bl {b : Bool} {M : Mp} {Q : QE} : isiD .int (.bl b) M Q = Q (.bl true) M := by show Q (.bl (isTy .int "bool")) M = _; rw [show isTy .int "bool" = true by decide]
@[simp] theorem isi_int_int {b : Int} {M : Mp} {Q : QE} : isiD .int (.int b) M Q = Q (.bl true) M := by show Q (.bl (isTy .int "int")) M = _; rw [show isTy .int "int" = true by decide]
@[simp] theorem isi_int_str {b : Str} {M : Mp} {Q : QE} : isiD .int (.str b) M Q = Q (.bl false) M := by show Q (.bl (isTy .int "str")) M = _; rw [show isTy .int "str" = false by decide]
@[simp] theorem isi_int_tup {b : List D} {M : Mp} {Q : QE} : isiD .int (.tup b) M Q = Q (.bl false) M := by show Q (.bl (isTy .int "tuple")) M = _; rw [show isTy .int "tuple" = false by decide]
@[simp] theorem isi_int_lst {b : List D} {M : Mp} {Q : QE} : isiD .int (.lst b) M Q = Q (.bl false) M := by show Q (.bl (isTy .int "list")) M = _; rw [show isTy .int "list" = false by decide]
@[simp] theorem isi_int_scr {b : List Int} {M : Mp} {Q : QE} : isiD .int (.scr b) M Q = Q (.bl false) M := by show Q (.bl (isTy .int "list")) M = _; rw [show isTy .int "list" = false by decide]
@[simp] theorem isi_int_dct {a : List Key} {b : List D} {M : Mp} {Q : QE} : isiD .int (.dct a b) M Q = Q (.bl false) M := by show Q (.bl (isTy .int "dict")) M = _; rw [show isTy .int "dict" = false by decide]
@[simp] theorem isi_bool_non  {M : Mp} {Q : QE} : isiD .bool .non M Q = Q (.bl false) M := by show Q (.bl (isTy .bool "NoneType")) M = _; rw [show isTy .bool "NoneType" = false by decide]
@[simp] theorem isi_bool_bl {b : Bool} {M : Mp} {Q : QE} : isiD .bool (.bl b) M Q = Q (.bl true) M := by show Q (.bl (isTy .bool "bool")) M = _; rw [show isTy .bool "bool" = true by decide]
@[simp] theorem isi_bool_int {b : Int} {M : Mp} {Q : QE} : isiD .bool (.int b) M Q = Q (.bl false) M := by show Q (.bl (isTy .bool "int")) M = _; rw [show isTy .bool "int" = false by decide]
@[simp] theorem isi_bool_str {b : Str} {M : Mp} {Q : QE} : isiD .bool (.str b) M Q = Q (.bl false) M := by show Q (.bl (isTy .bool "str")) M = _; rw [show isTy .bool "str" = false by decide]
@[simp] theorem isi_bool_tup {b : List D} {M : Mp} {Q : QE} : isiD .bool (.tup b) M Q = Q (.bl false) M := by show Q (.bl (isTy .bool "tuple")) M = _; rw [show isTy .bool "tuple" = false by decide]
@[simp] theorem isi_bool_lst {b : List D} {M : Mp} {Q : QE} : isiD .bool (.lst b) M Q = Q (.bl false) M := by show Q (.bl (isTy .bool "list")) M = _; rw [show isTy .bool "list" = false by decide]
@[simp] theorem isi_bool_scr {b : List Int} {M : Mp} {Q : QE} : isiD .bool (.scr b) M Q = Q (.bl false) M := by show Q (.bl (isTy .bool "list")) M = _; rw [show isTy .bool "list" = false by decide]
@[simp] theorem isi_bool_dct {a : List Key} {b : List D} {M : Mp} {Q : QE} : isiD .bool (.dct a b) M Q = Q (.bl false) M := by show Q (.bl (isTy .bool "dict")) M = _; rw [show isTy .bool "dict" = false by decide]
@[simp] theorem isi_str_non  {M : Mp} {Q : QE} : isiD .str .non M Q = Q (.bl false) M := by show Q (.bl (isTy .str "NoneType")) M = _; rw [show isTy .str "NoneType" = false by decide]
@[simp] theorem isi_str_bl {b : Bool} {M : Mp} {Q : QE} : isiD .str (.bl b) M Q = Q (.bl false) M := by show Q (.bl (isTy .str "bool")) M = _; rw [show isTy .str "bool" = false by decide]
@[simp] theorem isi_str_int {b : Int} {M : Mp} {Q : QE} : isiD .str (.int b) M Q = Q (.bl false) M := by show Q (.bl (isTy .str "int")) M = _; rw [show isTy .str "int" = false by decide]
@[simp] theorem isi_str_str {b : Str} {M : Mp} {Q : QE} : isiD .str (.str b) M Q = Q (.bl true) M := by show Q (.bl (isTy .str "str")) M = _; rw [show isTy .str "str" = true by decide]
@[simp] theorem isi_str_tup {b : List D} {M : Mp} {Q : QE} : isiD .str (.tup b) M Q = Q (.bl false) M := by show Q (.bl (isTy .str "tuple")) M = _; rw [show isTy .str "tuple" = false by decide]
@[simp] theorem isi_str_lst {b : List D} {M : Mp} {Q : QE} : isiD .str (.lst b) M Q = Q (.bl false) M := by show Q (.bl (isTy .str "list")) M = _; rw [show isTy .str "list" = false by decide]
@[simp] theorem isi_str_scr {b : List Int} {M : Mp} {Q : QE} : isiD .str (.scr b) M Q = Q (.bl false) M := by show Q (.bl (isTy .str "list")) M = _; rw [show isTy .str "list" = false by decide]
@[simp] theorem isi_str_dct {a : List Key} {b : List D} {M : Mp} {Q : QE} : isiD .str (.dct a b) M Q = Q (.bl false) M := by show Q (.bl (isTy .str "dict")) M = _; rw [show isTy .str "dict" = false by decide]
@[simp] theorem isi_tuple_non  {M : Mp} {Q : QE} : isiD .tuple .non M Q = Q (.bl false) M := by show Q (.bl (isTy .tuple "NoneType")) M = _; rw [show isTy .tuple "NoneType" = false by decide]
@[simp] theorem isi_tuple_bl {b : Bool} {M : Mp} {Q : QE} : isiD .tuple (.bl b) M Q = Q (.bl false) M := by show Q (.bl (isTy .tuple "bool")) M = _; rw [show isTy .tuple "bool" = false by decide]
@[simp] theorem isi_tuple_int {b : Int} {M : Mp} {Q : QE} : isiD .tuple (.int b) M Q = Q (.bl false) M := by show Q (.bl (isTy .tuple "int")) M = _; rw [show isTy .tuple "int" = false by decide]
@[simp] theorem isi_tuple_str {b : Str} {M : Mp} {Q : QE} : isiD .tuple (.str b) M Q = Q (.bl false) M := by show Q (.bl (isTy .tuple "str")) M = _; rw [show isTy .tuple "str" = false by decide]
@[simp] theorem isi_tuple_tup {b : List D} {M : Mp} {Q : QE} : isiD .tuple (.tup b) M Q = Q (.bl true) M := by show Q (.bl (isTy .tuple "tuple")) M = _; rw [show isTy .tuple "tuple" = true by decide]
@[simp] theorem isi_tuple_lst {b : List D} {M : Mp} {Q : QE} : isiD .tuple (.lst b) M Q = Q (.bl false) M := by show Q (.bl (isTy .tuple "list")) M = _; rw [show isTy .tuple "list" = false by decide]
@[simp] theorem isi_tuple_scr {b : List Int} {M : Mp} {Q : QE} : isiD .tuple (.scr b) M Q = Q (.bl false) M := by show Q (.bl (isTy .tuple "list")) M = _; rw [show isTy .tuple "list" = false by decide]
@[simp] theorem isi_tuple_dct {a : List Key} {b : List D} {M : Mp} {Q : QE} : isiD .tuple (.dct a b) M Q = Q (.bl false) M := by show Q (.bl (isTy .tuple "dict")) M = _; rw [show isTy .tuple "dict" = false by decide]
@[simp] theorem isi_list_non  {M : Mp} {Q : QE} : isiD .list .non M Q = Q (.bl false) M := by show Q (.bl (isTy .list "NoneType")) M = _; rw [show isTy .list "NoneType" = false by decide]
@[simp] theorem isi_list_bl {b : Bool} {M : Mp} {Q : QE} : isiD .list (.bl b) M Q = Q (.bl false) M := by show Q (.bl (isTy .list "bool")) M = _; rw [show isTy .list "bool" = false by decide]
@[simp] theorem isi_list_int {b : Int} {M : Mp} {Q : QE} : isiD .list (.int b) M Q = Q (.bl false) M := by show Q (.bl (isTy .list "int")) M = _; rw [show isTy .list "int" = false by decide]
@[simp] theorem isi_list_str {b : Str} {M : Mp} {Q : QE} : isiD .list (.str b) M Q = Q (.bl false) M := by show Q (.bl (isTy .list "str")) M = _; rw [show isTy .list "str" = false by decide]
@[simp] theorem isi_list_tup {b : List D} {M : Mp} {Q : QE} : isiD .list (.tup b) M Q = Q (.bl false) M := by show Q (.bl (isTy .list "tuple")) M = _; rw [show isTy .list "tuple" = false by decide]
@[simp] theorem isi_list_lst {b : List D} {M : Mp} {Q : QE} : isiD .list (.lst b) M Q = Q (.bl true) M := by show Q (.bl (isTy .list "list")) M = _; rw [show isTy .list "list" = true by decide]
@[simp] theorem isi_list_scr {b : List Int} {M : Mp} {Q : QE} : isiD .list (.scr b) M Q = Q (.bl true) M := by show Q (.bl (isTy .list "list")) M = _; rw [show isTy .list "list" = true by decide]
@[simp] theorem isi_list_dct {a : List Key} {b : List D} {M : Mp} {Q : QE} : isiD .list (.dct a b) M Q = Q (.bl false) M := by show Q (.bl (isTy .list "dict")) M = _; rw [show isTy .list "dict" = false by decide]
def isIntB (lo hi : Int) : D → Bool
  | .int i => decide (lo ≤ i) && decide (i ≤ hi)
  | _ => false
theorem flx_ty {M : Mp} {d : D} (h : d.flx = true) : ∃ n, tyD M d = some n := by
  cases d <;> first | exact ⟨_, rfl⟩ | (exact absurd h (by simp [D.flx]))
theorem isIntB_int {lo hi i : Int} : isIntB lo hi (.int i) = (decide (lo ≤ i) && decide (i ≤ hi)) := rfl
def mc_is_integer : MC := ⟨["value", "least", "greatest"], [], [], [], []⟩
def b_is_integer : List CS := [.ret (.and (.isi .int (.var 0)) (.and (.not (.isi .bool (.var 0))) (.one (.chn .LtE .LtE (.var 1) (.var 0) (.var 2)))))]
def spIsInteger : DSp := fun ds M Q _ => ∃ (d : D) (lo hi : Int), ds = [d, .int lo, .int hi] ∧ d.flx = true ∧ Q (.bl (isIntB lo hi d)) M
def fi_is_integer : FI := ⟨"is_integer", 3, spIsInteger⟩
@[simp] theorem fi_is_integer_sp : fi_is_integer.sp = spIsInteger := rfl
theorem wp_is_integer {C : Ctx} {E : EX} {ds : List D} {M : Mp} {Q : QE} {E' : XD → Mp → Prop} (h : spIsInteger ds M Q E') : wpB C E b_is_integer (endsD Q) (startD mc_is_integer.N ds) M := by
  obtain ⟨d, lo, hi, rfl, hf, q⟩ := h
  rw [show startD mc_is_integer.N [d, .int lo, .int hi] = [some d, some (.int lo), some (.int hi)] from rfl, b_is_integer, wpB_cons]
  cases d with
  | int i =>
    simp
    by_cases h1 : lo ≤ i
    · rw [decide_eq_true h1]
      have : isIntB lo hi (.int i) = decide (i ≤ hi) := by simp [isIntB, h1]
      rw [this] at q
      exact Fin.same q
    · rw [decide_eq_false h1]
      have : isIntB lo hi (.int i) = false := by simp [isIntB, h1]
      rw [this] at q
      exact Fin.same q
  | non => simp; exact Fin.same q
  | bl b => simp; exact Fin.same q
  | str s => simp; exact Fin.same q
  | tup l => simp; exact Fin.same q
  | lst l => simp; exact Fin.same q
  | ref a => cases hf
  | scr a => cases hf
  | dct a b => simp; exact Fin.same q
@[simp] theorem cmp_is_non {x : D} {M : Mp} {Q : QE} : cmpD .Is x .non M Q = Q (.bl x.isNon) M := by cases x <;> rfl
@[simp] theorem cmp_isnot_non {x : D} {M : Mp} {Q : QE} : cmpD .IsNot x .non M Q = Q (.bl (!x.isNon)) M := by cases x <;> rfl
@[simp] theorem cmp_isb {a b : Bool} {M : Mp} {Q : QE} : cmpD .Is (.bl a) (.bl b) M Q = Q (.bl (a == b)) M := by cases a <;> cases b <;> rfl
@[simp] theorem cmp_isnotb {a b : Bool} {M : Mp} {Q : QE} : cmpD .IsNot (.bl a) (.bl b) M Q = Q (.bl (a ^^ b)) M := by cases a <;> cases b <;> rfl
@[simp] theorem isNon_pt {p : List Int} : (pt p).isNon = false := rfl
@[simp] theorem isNon_non : D.non.isNon = true := rfl
@[simp] theorem isNon_int {i : Int} : (D.int i).isNon = false := rfl
@[simp] theorem isNon_tup {l : List D} : (D.tup l).isNon = false := rfl
@[simp] theorem isNon_lst {l : List D} : (D.lst l).isNon = false := rfl
theorem flxs_mem : ∀ {l : List D}, D.flxs l = true → ∀ d ∈ l, d.flx = true
  | [], _, d, h => by cases h
  | x :: r, hf, d, h => by
    have : (x.flx && D.flxs r) = true := hf
    rw [Bool.and_eq_true] at this
    rcases List.mem_cons.mp h with rfl | h
    · exact this.1
    · exact flxs_mem this.2 d h
theorem flxs_of : ∀ {l : List D}, (∀ d ∈ l, d.flx = true) → D.flxs l = true
  | [], _ => rfl
  | x :: r, h => by
    show (x.flx && D.flxs r) = true
    rw [h x List.mem_cons_self, flxs_of fun d hd => h d (List.mem_cons_of_mem _ hd)]; rfl
theorem flx_tup {l : List D} (h : (D.tup l).flx = true) : ∀ d ∈ l, d.flx = true := flxs_mem h
theorem flx_ils (l : List Int) : (pt l).flx = true := flxs_of fun d hd => by obtain ⟨i, _, rfl⟩ := List.mem_map.mp hd; rfl
theorem flx_lg (l : List (List Int)) : (lg l).flx = true := flxs_of fun d hd => by obtain ⟨i, _, rfl⟩ := List.mem_map.mp hd; exact flx_ils i
/-- a row of whole numbers of that many -/
def pointB (n : Nat) (far : Int) : D → Bool
  | .tup l => decide (l.length = n) && l.all (isIntB (-far) far)
  | _ => false
def mc_is_point : MC := ⟨["box", "value", "farthest", "number"], ["is_integer"], [], [], []⟩
def b_is_point : List CS := [.ifs (.or (.not (.isi .tuple (.var 1))) (.one (.cmp .NotEq (.blt .len true [.var 1]) (.blt .len true [.var 0])))) [.ret (.bl false)] [],
    .ret (.blt .all true [.comp true (.call 0 [.var 3, .neg (.var 2), .var 2]) (.nm 3) .seq [.var 1] [3]])]
def cx_is_point : Ctx := ⟨[fi_is_integer], [], [], []⟩
@[simp] theorem cx_is_point_0 : cx_is_point.fs[0]? = some fi_is_integer := rfl
def spIsPoint : DSp := fun ds M Q _ => ∃ (d : D) (bs : List Int) (far : Int), ds = [pt bs, d, .int far] ∧ d.flx = true ∧ bs.length ≤ 1000 ∧ Q (.bl (pointB bs.length far d)) M
def fi_is_point : FI := ⟨"is_point", 3, spIsPoint⟩
@[simp] theorem fi_is_point_sp : fi_is_point.sp = spIsPoint := rfl
theorem cmpL_plain {ok : Mp → Prop} {turn : D → Mp → QE → (Mp → Prop) → Prop} {p : Addr} {Q : QE} (g : D → D) {L : List D} {M : Mp} (hp : M p = none) (hl : L.length ≤ 16777216) (hok : ∀ M', ok M')
    (h : ∀ x ∈ L, ∀ acc (add : QE) (skip : Mp → Prop), add (g x) (M.upd p (.lst acc)) → turn x (M.upd p (.lst acc)) add skip) (q : Q (.lst (L.map g)) M) : cmpL true ok turn p Q L (M.upd p (.lst [])) := by
  have := cmpL_mapf (fun d : D => d) g hp hl hok h q
  rwa [List.map_id'] at this
theorem wp_is_point {E : EX} {ds : List D} {M : Mp} {Q : QE} {E' : XD → Mp → Prop} (h : spIsPoint ds M Q E') : wpB cx_is_point E b_is_point (endsD Q) (startD mc_is_point.N ds) M := by
  obtain ⟨d, bs, far, rfl, hf, hbl, q⟩ := h
  rw [show startD mc_is_point.N [pt bs, d, .int far] = [some (pt bs), some d, some (.int far), none] from rfl, b_is_point, wpB_cons]
  cases d with
  | tup l =>
    simp [wpB_cons]
    by_cases hl : l.length = bs.length
    · rw [if_pos (by omega)]
      simp [wpB_nil, wpB_cons, itD]
      intro c hc
      refine cmpL_plain (fun x => .bl (isIntB (-far) far x)) hc (by omega) (fun _ => True.intro) (fun x hx acc add skip ha => ?_) ?_
      · simp [turnC, wipeD]
        exact ⟨x, -far, far, rfl, flx_tup hf x hx, ha⟩
      · simp
        have : pointB bs.length far (.tup l) = l.all (isIntB (-far) far) := by simp [pointB, hl]
        rw [this] at q
        exact Fin.same (by simpa [List.all_map] using q)
    · rw [if_neg (by omega)]
      have : pointB bs.length far (.tup l) = false := by simp [pointB, hl]
      rw [this] at q
      try simp [wpB_cons]
      exact Fin.same q
  | non => simp [wpB_cons]; exact Fin.same q
  | bl b => simp [wpB_cons]; exact Fin.same q
  | int b => simp [wpB_cons]; exact Fin.same q
  | str s => simp [wpB_cons]; exact Fin.same q
  | lst l => simp [wpB_cons]; exact Fin.same q
  | ref a => cases hf
  | scr a => cases hf
  | dct a b => simp [wpB_cons]; exact Fin.same q
def gi_FARTHEST_PLACE : GI := ⟨"FARTHEST_PLACE", .int 2000000000000⟩
@[simp] theorem gi_FARTHEST_PLACE_d : gi_FARTHEST_PLACE.d = .int 2000000000000 := rfl
def mc_is_place : MC := ⟨["box", "value"], ["is_point"], ["FARTHEST_PLACE"], [], []⟩
def b_is_place : List CS := [.ret (.call 0 [.var 0, .var 1, .glb 0])]
def cx_is_place : Ctx := ⟨[fi_is_point], [gi_FARTHEST_PLACE], [], []⟩
@[simp] theorem cx_is_place_g0 : cx_is_place.gs[0]? = some gi_FARTHEST_PLACE := rfl
@[simp] theorem cx_is_place_0 : cx_is_place.fs[0]? = some fi_is_point := rfl
def spIsPlace : DSp := fun ds M Q _ => ∃ (d : D) (bs : List Int), ds = [pt bs, d] ∧ d.flx = true ∧ bs.length ≤ 1000 ∧ Q (.bl (pointB bs.length 2000000000000 d)) M
def fi_is_place : FI := ⟨"is_place", 2, spIsPlace⟩
@[simp] theorem fi_is_place_sp : fi_is_place.sp = spIsPlace := rfl
theorem wp_is_place {E : EX} {ds : List D} {M : Mp} {Q : QE} {E' : XD → Mp → Prop} (h : spIsPlace ds M Q E') : wpB cx_is_place E b_is_place (endsD Q) (startD mc_is_place.N ds) M := by
  obtain ⟨d, bs, rfl, hf, hbl, q⟩ := h
  rw [show startD mc_is_place.N [pt bs, d] = [some (pt bs), some d] from rfl, b_is_place, wpB_cons]
  simp
  exact ⟨d, bs, _, rfl, hf, hbl, Fin.same q⟩
/-- numbers in order, each below the count -/
def ascL (l : List Int) : Bool := (l.zip (l.drop 1)).all fun t => decide (t.1 < t.2)
def ascB (n : Int) : D → Bool
  | .tup l => l.all (isIntB 0 (n - 1)) && (match intsOf l with | some ns => ascL ns | none => false)
  | _ => false
theorem ints_all {lo hi : Int} : ∀ {l : List D}, l.all (isIntB lo hi) = true → ∃ ns, l = ils ns ∧ ∀ x ∈ ns, lo ≤ x ∧ x ≤ hi
  | [], _ => ⟨[], rfl, fun x h => by cases h⟩
  | d :: r, h => by
    rw [List.all_cons, Bool.and_eq_true] at h
    obtain ⟨ns, e, hn⟩ := ints_all h.2
    obtain ⟨i, rfl⟩ : ∃ i, d = .int i := by
      cases d with
      | int i => exact ⟨i, rfl⟩
      | _ => exact absurd h.1 (by simp [isIntB])
    have h1 := h.1
    unfold isIntB at h1
    rw [Bool.and_eq_true, decide_eq_true_iff, decide_eq_true_iff] at h1
    exact ⟨i :: ns, by rw [e]; rfl, fun x hx => by
      rcases List.mem_cons.mp hx with rfl | hx
      · exact h1
      · exact hn x hx⟩
def mc_are_ascending : MC := ⟨["value", "count", "one", "other", "number"], ["is_integer"], [], [], []⟩
def b_are_ascending : List CS := [.ifs (.or (.not (.isi .tuple (.var 0))) (.one (.not (.blt .all true [.comp true (.call 0 [.var 4, .int 0, .bin .Sub true (.var 1) (.int 1)]) (.nm 4) .seq [.var 0] [4]])))) [.ret (.bl false)] [],
    .ret (.blt .all true [.comp true (.cmp .Lt (.var 2) (.var 3)) (.tup [.nm 2, .nm 3]) .zip2 [.var 0, .slL true (.var 0) (.int 1)] [2, 3]])]
def cx_are_ascending : Ctx := ⟨[fi_is_integer], [], [], []⟩
@[simp] theorem cx_are_ascending_0 : cx_are_ascending.fs[0]? = some fi_is_integer := rfl
def spAsc : DSp := fun ds M Q _ => ∃ (d : D) (n : Int), ds = [d, .int n] ∧ d.flx = true ∧ (∀ l, d = .tup l → l.length ≤ 100000) ∧ Q (.bl (ascB n d)) M
def fi_are_ascending : FI := ⟨"are_ascending", 2, spAsc⟩
@[simp] theorem fi_are_ascending_sp : fi_are_ascending.sp = spAsc := rfl
theorem wp_are_ascending {E : EX} {ds : List D} {M : Mp} {Q : QE} {E' : XD → Mp → Prop} (h : spAsc ds M Q E') : wpB cx_are_ascending E b_are_ascending (endsD Q) (startD mc_are_ascending.N ds) M := by
  obtain ⟨d, n, rfl, hf, hl, q⟩ := h
  rw [show startD mc_are_ascending.N [d, .int n] = [some d, some (.int n), none, none, none] from rfl, b_are_ascending, wpB_cons]
  cases d with
  | tup l =>
    have hl := hl l rfl
    simp [wpB_cons, itD]
    intro c hc
    refine cmpL_plain (fun x => .bl (isIntB 0 (n - 1) x)) hc (by omega) (fun _ => True.intro) (fun x hx acc add skip ha => ?_) ?_
    · simp [turnC, wipeD]
      exact ⟨x, 0, n - 1, rfl, flx_tup hf x hx, ha⟩
    simp [List.all_map]
    by_cases ha : l.all (isIntB 0 (n - 1)) = true
    · obtain ⟨ns, rfl, hns⟩ := ints_all ha
      have e : ascB n (.tup (ils ns)) = ascL ns := by
        show ((ils ns).all (isIntB 0 (n - 1)) && _) = _
        rw [ha, intsOf_ils]; rfl
      rw [e] at q
      simp at hl
      rw [if_neg (by rintro ⟨a, ha1, ha2⟩; rw [List.all_eq_true] at ha; rw [ha a ha1] at ha2; cases ha2)]
      simp [wpB_nil]
      intro c2 hc2
      rw [cut_from1, show (ils ns).drop 1 = ils (ns.drop 1) by simp [ils], zip_ils]
      refine cmpL_mapf _ (fun t => .bl (decide (t.1 < t.2))) hc2 (by simp; omega) (fun _ => True.intro) (fun t ht acc add skip ha => ?_) ?_
      · simp [turnC, wipeD]
        exact ha
      · simp
        unfold ascL at q
        exact Fin.same (by simpa [List.all_map] using q)
    · have e : ascB n (.tup l) = false := by
        show (l.all (isIntB 0 (n - 1)) && _) = _
        rw [Bool.not_eq_true] at ha
        rw [ha]; rfl
      rw [e] at q
      rw [if_pos (by simpa using ha)]
      exact Fin.same q
  | non => simp [wpB_cons]; exact Fin.same q
  | bl b => simp [wpB_cons]; exact Fin.same q
  | int b => simp [wpB_cons]; exact Fin.same q
  | str s => simp [wpB_cons]; exact Fin.same q
  | lst l => simp [wpB_cons]; exact Fin.same q
  | ref a => cases hf
  | scr a => cases hf
  | dct a b => simp [wpB_cons]; exact Fin.same q
/-! ### plans -/
def gi_PARTS : GI := ⟨"PARTS", .int 2⟩
@[simp] theorem gi_PARTS_d : gi_PARTS.d = .int 2 := rfl
def gi_SPAN_PARTS : GI := ⟨"SPAN_PARTS", .int 3⟩
@[simp] theorem gi_SPAN_PARTS_d : gi_SPAN_PARTS.d = .int 3 := rfl
def planFormB (bs : List Int) (n : Nat) : D → Bool
  | .tup [.tup l, .tup k] => ascB n (.tup l) && decide (k.length = l.length) && k.all (pointB bs.length 2000000000000)
  | _ => false
/-- short enough -/
def Short (d : D) : Prop := ∀ l, d = .tup l → l.length ≤ 100000
def Short2 (d : D) : Prop := ∀ a b, d = .tup [a, b] → Short a ∧ Short b
def mc_has_plan_form : MC := ⟨["box", "log", "value", "place"], ["are_ascending", "is_place"], ["PARTS"], [], []⟩
def b_has_plan_form : List CS := [.ifs (.or (.not (.isi .tuple (.var 2))) (.or (.cmp .NotEq (.blt .len true [.var 2]) (.glb 0)) (.one (.not (.call 0 [.ix (.var 2) (.int 0), .blt .len true [.var 1]]))))) [.ret (.bl false)] [],
    .ifs (.or (.not (.isi .tuple (.ix (.var 2) (.int 1)))) (.one (.cmp .NotEq (.blt .len true [.ix (.var 2) (.int 1)]) (.blt .len true [.ix (.var 2) (.int 0)])))) [.ret (.bl false)] [],
    .ret (.blt .all true [.comp true (.call 1 [.var 0, .var 3]) (.nm 3) .seq [.ix (.var 2) (.int 1)] [3]])]
def cx_has_plan_form : Ctx := ⟨[fi_are_ascending, fi_is_place], [gi_PARTS], [], []⟩
@[simp] theorem cx_has_plan_form_g0 : cx_has_plan_form.gs[0]? = some gi_PARTS := rfl
@[simp] theorem cx_has_plan_form_0 : cx_has_plan_form.fs[0]? = some fi_are_ascending := rfl
@[simp] theorem cx_has_plan_form_1 : cx_has_plan_form.fs[1]? = some fi_is_place := rfl
def spForm : DSp := fun ds M Q _ => ∃ (d : D) (bs : List Int) (log : List (List Int)), ds = [pt bs, lg log, d] ∧ d.flx = true ∧ Short2 d ∧ bs.length ≤ 1000 ∧ Q (.bl (planFormB bs log.length d)) M
def fi_has_plan_form : FI := ⟨"has_plan_form", 3, spForm⟩
@[simp] theorem fi_has_plan_form_sp : fi_has_plan_form.sp = spForm := rfl
@[simp] theorem atI_1 {x y : D} {l : List D} : atI (x :: y :: l) 1 = some y := atI_nat (l := x :: y :: l) (n := 1) (by simp)
@[simp] theorem atI_2 {x y z : D} {l : List D} : atI (x :: y :: z :: l) 2 = some z := atI_nat (l := x :: y :: z :: l) (n := 2) (by simp)
theorem asc_tup {n : Nat} {a : D} (h : ascB n a = true) : ∃ ns : List Int, a = pt ns ∧ (∀ x ∈ ns, 0 ≤ x ∧ x < n) ∧ ascL ns = true := by
  cases a with
  | tup l =>
    have h' : (l.all (isIntB 0 ((n : Int) - 1)) && (match intsOf l with | some ns => ascL ns | none => false)) = true := h
    rw [Bool.and_eq_true] at h'
    obtain ⟨ns, rfl, hn⟩ := ints_all h'.1
    refine ⟨ns, rfl, fun x hx => by have := hn x hx; omega, ?_⟩
    have := h'.2
    rwa [intsOf_ils] at this
  | _ => exact absurd h (by simp [ascB])
theorem wp_has_plan_form {E : EX} {ds : List D} {M : Mp} {Q : QE} {E' : XD → Mp → Prop} (h : spForm ds M Q E') : wpB cx_has_plan_form E b_has_plan_form (endsD Q) (startD mc_has_plan_form.N ds) M := by
  obtain ⟨d, bs, log, rfl, hf, hs, hbl, q⟩ := h
  rw [show startD mc_has_plan_form.N [pt bs, lg log, d] = [some (pt bs), some (lg log), some d, none] from rfl, b_has_plan_form, wpB_cons]
  have no : ∀ l : List D, l.length ≠ 2 → planFormB bs log.length (.tup l) = false := fun l hl => by
    unfold planFormB
    split
    · rename_i e
      cases e
      exact absurd rfl hl
    · rfl
  cases d with
  | tup l =>
    by_cases hl : l.length = 2
    · obtain ⟨a, b, rfl⟩ : ∃ a b, l = [a, b] := by
        match l, hl with
        | [a, b], _ => exact ⟨a, b, rfl⟩
      obtain ⟨s1, s2⟩ := hs a b rfl
      have f1 := flx_tup hf a (by simp)
      have f2 := flx_tup hf b (by simp)
      simp
      refine ⟨a, log.length, rfl, f1, s1, ?_⟩
      by_cases hasc : ascB log.length a = true
      · obtain ⟨ns, rfl, hn1, hn2⟩ := asc_tup hasc
        simp [hasc, wpB_nil]
        rw [wpB_cons]
        cases b with
        | tup k =>
          have hk := s2 k rfl
          simp
          by_cases hkl : k.length = ns.length
          · rw [if_pos (by omega)]
            simp [wpB_nil, wpB_cons, itD]
            intro c hc
            refine cmpL_plain (fun x => .bl (pointB bs.length 2000000000000 x)) hc (by omega) (fun _ => True.intro) (fun x hx acc add skip ha => ?_) ?_
            · simp [turnC, wipeD]
              exact ⟨x, bs, rfl, flx_tup f2 x hx, hbl, ha⟩
            · simp
              have e : planFormB bs log.length (.tup [pt ns, .tup k]) = k.all (pointB bs.length 2000000000000) := by
                show (ascB log.length (pt ns) && decide (k.length = (ils ns).length) && _) = _
                rw [hasc, decide_eq_true (by simpa using hkl)]; rfl
              rw [e] at q
              exact Fin.same (by simpa [List.all_map] using q)
          · rw [if_neg (by omega)]
            have e : planFormB bs log.length (.tup [pt ns, .tup k]) = false := by
              show (ascB log.length (pt ns) && decide (k.length = (ils ns).length) && _) = _
              rw [decide_eq_false (by simpa using hkl)]; simp
            rw [e] at q
            try simp [wpB_cons]
            exact Fin.same q
        | non => simp [wpB_cons]; exact Fin.same q
        | bl b => simp [wpB_cons]; exact Fin.same q
        | int b => simp [wpB_cons]; exact Fin.same q
        | str s => simp [wpB_cons]; exact Fin.same q
        | lst l => simp [wpB_cons]; exact Fin.same q
        | ref a => cases f2
        | scr a => cases f2
        | dct a b => simp [wpB_cons]; exact Fin.same q
      · have e : planFormB bs log.length (.tup [a, b]) = false := by
          unfold planFormB
          split
          · rename_i e2
            simp at e2
            obtain ⟨e2, e3⟩ := e2
            rw [← e2]
            rw [Bool.not_eq_true] at hasc
            rw [hasc]; rfl
          · rfl
        rw [e] at q
        simp [hasc, wpB_cons]
        exact Fin.same q
    · rw [no l hl] at q
      simp
      rw [if_neg (by omega)]
      simp [wpB_cons]
      exact Fin.same q
  | non => simp [wpB_cons]; exact Fin.same q
  | bl b => simp [wpB_cons]; exact Fin.same q
  | int b => simp [wpB_cons]; exact Fin.same q
  | str s => simp [wpB_cons]; exact Fin.same q
  | lst l => simp [wpB_cons]; exact Fin.same q
  | ref a => cases hf
  | scr a => cases hf
  | dct a b => simp [wpB_cons]; exact Fin.same q
/-! ### dictionaries of distinct keys -/
theorem valD_cons {a : Key} {x : D} {r : List (Key × D)} {k : Key} : valD ((a, x) :: r) k = if a = k then some x else valD r k := by
  unfold valD
  rw [List.find?_cons]
  by_cases h : a = k
  · simp [h]
  · simp [h]
theorem valD_map {k k' : Key} {d : D} (hk : k' ≠ k) : ∀ kvs : List (Key × D), valD (kvs.map fun kv => if kv.1 = k then (kv.1, d) else kv) k' = valD kvs k'
  | [] => rfl
  | (a, x) :: r => by
    rw [List.map_cons, valD_cons]
    by_cases h : a = k
    · rw [if_pos h, valD_cons, if_neg (by rw [h]; exact fun z => hk z.symm), if_neg (by rw [h]; exact fun z => hk z.symm), valD_map hk r]
    · rw [if_neg h, valD_cons, valD_map hk r]
theorem valD_mapk {k : Key} {d : D} : ∀ kvs : List (Key × D), (kvs.any fun kv => decide (kv.1 = k)) = true → valD (kvs.map fun kv => if kv.1 = k then (kv.1, d) else kv) k = some d
  | [], h => by cases h
  | (a, x) :: r, h => by
    rw [List.map_cons]
    by_cases h2 : a = k
    · rw [if_pos h2, valD_cons, if_pos h2]
    · rw [if_neg h2, valD_cons, if_neg h2]
      rw [List.any_cons, decide_eq_false h2, Bool.false_or] at h
      exact valD_mapk r h
theorem valD_snoc {k k' : Key} {d : D} : ∀ kvs : List (Key × D), (k' = k → (kvs.any fun kv => decide (kv.1 = k)) = false) → valD (kvs ++ [(k, d)]) k' = if k = k' then some d else valD kvs k'
  | [], _ => by rw [List.nil_append, valD_cons]
  | (a, x) :: r, h => by
    have ih := valD_snoc (k := k) (k' := k') (d := d) r fun e => by have := h e; rw [List.any_cons, Bool.or_eq_false_iff] at this; exact this.2
    rw [List.cons_append, valD_cons, valD_cons, ih]
    by_cases h2 : a = k'
    · rw [if_pos h2, if_pos h2]
      by_cases h3 : k = k'
      · have := h h3.symm
        rw [List.any_cons, Bool.or_eq_false_iff, decide_eq_false_iff_not] at this
        exact absurd (h2.trans h3.symm) this.1
      · rw [if_neg h3]
    · rw [if_neg h2, if_neg h2]
theorem valD_put {kvs : List (Key × D)} {k k' : Key} {d : D} : valD (putD kvs k d) k' = if k = k' then some d else valD kvs k' := by
  unfold putD
  split
  · rename_i h
    by_cases h2 : k = k'
    · rw [if_pos h2, ← h2, valD_mapk _ h]
    · rw [if_neg h2, valD_map (fun z => h2 z.symm)]
  · rename_i h
    rw [Bool.not_eq_true] at h
    exact valD_snoc kvs fun _ => h
theorem valD_none {k : Key} : ∀ {L : List (Key × D)}, k ∉ L.map (·.1) → valD L k = none
  | [], _ => rfl
  | (a, x) :: r, h => by
    rw [List.map_cons, List.mem_cons, not_or] at h
    rw [valD_cons, if_neg (fun z => h.1 z.symm), valD_none h.2]
theorem valD_merge {k : Key} : ∀ {L kvs : List (Key × D)}, (L.map (·.1)).Nodup → valD (mergeD kvs L) k = (valD L k).or (valD kvs k)
  | [], kvs, _ => rfl
  | (a, x) :: r, kvs, h => by
    rw [List.map_cons, List.nodup_cons] at h
    show valD (mergeD (putD kvs a x) r) k = _
    rw [valD_merge h.2, valD_put, valD_cons]
    by_cases h2 : a = k
    · rw [if_pos h2, if_pos h2, valD_none (by rw [← h2]; exact h.1)]; rfl
    · rw [if_neg h2, if_neg h2]
def lookF (ns : List Int) (pls : List (List Int)) (k : Int) : Option (List Int) := ((ns.zip pls).find? fun t => decide (t.1 = k)).map (·.2)
theorem valD_look {k : Int} : ∀ {ns : List Int} {pls : List (List Int)}, valD ((ns.map Sum.inl).zip (pls.map pt)) (.inl k) = (lookF ns pls k).map pt
  | [], _ => rfl
  | _ :: _, [] => rfl
  | n :: ns, p :: pls => by
    have ih := valD_look (k := k) (ns := ns) (pls := pls)
    rw [List.map_cons, List.map_cons, List.zip_cons_cons, valD_cons]
    unfold lookF at ih ⊢
    rw [List.zip_cons_cons, List.find?_cons]
    by_cases h : n = k
    · simp [h]
    · rw [if_neg (fun z => h (Sum.inl.inj z)), ih]
      simp [h]
theorem asc_lt : ∀ {ns : List Int}, ascL ns = true → ns.Pairwise (· < ·)
  | [], _ => .nil
  | [a], _ => by simp
  | a :: b :: r, h => by
    have h' : (decide (a < b) && ascL (b :: r)) = true := h
    rw [Bool.and_eq_true, decide_eq_true_iff] at h'
    have ih := asc_lt h'.2
    refine .cons (fun x hx => ?_) ih
    rcases List.mem_cons.mp hx with rfl | hx
    · exact h'.1
    · have := (List.pairwise_cons.mp ih).1 x hx
      omega
theorem keysD_ils : ∀ ns : List Int, keysD (ils ns) = some (ns.map Sum.inl)
  | [] => rfl
  | n :: ns => by
    show (match keyD (.int n), keysD (ils ns) with | some k, some ks => some (k :: ks) | _, _ => none) = _
    rw [keysD_ils ns]; rfl
theorem zip_keys {α β : Type} : ∀ {a : List α} {b : List β}, ((a.zip b).map (·.1)).Sublist a
  | [], _ => by simp
  | _ :: _, [] => by simp
  | x :: a, y :: b => by rw [List.zip_cons_cons, List.map_cons]; exact zip_keys.cons_cons x
theorem dict_look {ns : List Int} {pls : List (List Int)} (h : ascL ns = true) (k : Int) : valD (mergeD [] ((ns.map Sum.inl).zip (pls.map pt))) (.inl k) = (lookF ns pls k).map pt := by
  rw [valD_merge, valD_look]
  · cases (lookF ns pls k).map pt <;> rfl
  · refine List.Nodup.sublist zip_keys ?_
    have := asc_lt h
    rw [List.Nodup, List.pairwise_map]
    exact this.imp fun {a b} hab z => by have := Sum.inl.inj z; omega
/-! ### plans that cover -/
def planGo (bs : List Int) (f : Int → Option (List Int)) : Int → Option (List Int) → List (List Int) → Bool
  | _, _, [] => true
  | k, c, p :: r => match (f k).or c with
    | none => false
    | some w => coversB bs w p && planGo bs f (k + 1) (some w) r
def ptsOf : List D → Option (List (List Int))
  | [] => some []
  | .tup l :: r => match intsOf l, ptsOf r with
    | some p, some ps => some (p :: ps)
    | _, _ => none
  | _ :: _ => none
theorem ptsOf_map : ∀ l : List (List Int), ptsOf (l.map pt) = some l
  | [] => rfl
  | p :: l => by
    show (match intsOf (ils p), ptsOf (l.map pt) with | some p, some ps => some (p :: ps) | _, _ => none) = _
    rw [intsOf_ils, ptsOf_map l]
theorem pts_all {n : Nat} {far : Int} : ∀ {k : List D}, k.all (pointB n far) = true → ∃ pls : List (List Int), k = pls.map pt ∧ ∀ p ∈ pls, p.length = n ∧ ∀ x ∈ p, -far ≤ x ∧ x ≤ far
  | [], _ => ⟨[], rfl, fun x h => by cases h⟩
  | d :: r, h => by
    rw [List.all_cons, Bool.and_eq_true] at h
    obtain ⟨pls, e, hn⟩ := pts_all h.2
    have h1 := h.1
    cases d with
    | tup l =>
      unfold pointB at h1
      rw [Bool.and_eq_true, decide_eq_true_iff] at h1
      obtain ⟨ns, rfl, hns⟩ := ints_all h1.2
      refine ⟨ns :: pls, by rw [e]; rfl, fun x hx => ?_⟩
      rcases List.mem_cons.mp hx with rfl | hx
      · exact ⟨by simpa using h1.1, hns⟩
      · exact hn x hx
    | _ => cases h1
def planB (bs : List Int) (log : List (List Int)) (d : D) : Bool := planFormB bs log.length d && match d with
  | .tup [.tup l, .tup k] => (match intsOf l, ptsOf k with
    | some ns, some pls => planGo bs (lookF ns pls) 0 none log
    | _, _ => false)
  | _ => false
def mc_is_plan : MC := ⟨["box", "log", "value", "place_at", "place", "number", "position"], ["has_plan_form", "covers"], [], [], []⟩
def b_is_plan : List CS := [.ifs (.not (.call 0 [.var 0, .var 1, .var 2])) [.ret (.bl false)] [],
    .par 3 4 (.op .dzip [.ix (.var 2) (.int 0), .ix (.var 2) (.int 1)]) (.non),
    .for (.tup [.nm 5, .nm 6]) .enum [.var 1] [.set 4 (.meth .get (.var 3) [.var 5, .var 4]), .ifs (.or (.cmp .Is (.var 4) (.non)) (.one (.not (.call 1 [.var 0, .var 4, .var 6])))) [.ret (.bl false)] []],
    .ret (.bl true)]
def cx_is_plan : Ctx := ⟨[fi_has_plan_form, fi_covers], [], [], []⟩
@[simp] theorem cx_is_plan_0 : cx_is_plan.fs[0]? = some fi_has_plan_form := rfl
@[simp] theorem cx_is_plan_1 : cx_is_plan.fs[1]? = some fi_covers := rfl
def spIsPlan : DSp := fun ds M Q _ => ∃ (d : D) (bs : List Int) (log : List (List Int)), ds = [pt bs, lg log, d] ∧ d.flx = true ∧ Short2 d ∧ bs.length ≤ 1000 ∧ log.length ≤ 100000 ∧ Q (.bl (planB bs log d)) M
def fi_is_plan : FI := ⟨"is_plan", 3, spIsPlan⟩
@[simp] theorem fi_is_plan_sp : fi_is_plan.sp = spIsPlan := rfl
def opt : Option (List Int) → D
  | none => .non
  | some p => pt p
theorem wp_is_plan {E : EX} {ds : List D} {M : Mp} {Q : QE} {E' : XD → Mp → Prop} (h : spIsPlan ds M Q E') : wpB cx_is_plan E b_is_plan (endsD Q) (startD mc_is_plan.N ds) M := by
  obtain ⟨d, bs, log, rfl, hf, hs, hbl, hll, q⟩ := h
  rw [show startD mc_is_plan.N [pt bs, lg log, d] = [some (pt bs), some (lg log), some d, none, none, none, none] from rfl, b_is_plan, wpB_cons]
  simp
  refine ⟨d, bs, log, rfl, hf, hs, hbl, ?_⟩
  by_cases hform : planFormB bs log.length d = true
  · have hform2 := hform
    unfold planFormB at hform
    split at hform
    · rename_i l k
      rw [Bool.and_eq_true, Bool.and_eq_true, decide_eq_true_iff] at hform
      obtain ⟨⟨h1, h2⟩, h3⟩ := hform
      obtain ⟨ns, e1, hns, hasc⟩ := asc_tup h1
      cases e1
      obtain ⟨pls, rfl, hpls⟩ := pts_all h3
      have sns := (hs _ _ rfl).1 _ rfl
      simp at h2 sns
      rw [hform2]
      have e : planB bs log (.tup [.tup (ils ns), .tup (pls.map pt)]) = planGo bs (lookF ns pls) 0 none log := by
        unfold planB
        rw [hform2, Bool.true_and]
        show (match intsOf (ils ns), ptsOf (pls.map pt) with | some ns, some pls => planGo bs (lookF ns pls) 0 none log | _, _ => false) = _
        rw [intsOf_ils, ptsOf_map]
      rw [e] at q
      simp [wpB_nil]
      rw [wpB_cons]
      simp
      refine ⟨_, _, ⟨rfl, rfl⟩, _, rfl, _, rfl, _, keysD_ils ns, by simpa using sz (by omega), fun c hc => ?_⟩
      have hM : (M.upd c (.dic (mergeD [] ((ns.map Sum.inl).zip (pls.map pt))))) c = some (.dic (mergeD [] ((ns.map Sum.inl).zip (pls.map pt)))) := Mp.upd_same
      obtain ⟨M1, hM1⟩ : ∃ M1, M1 = M.upd c (.dic (mergeD [] ((ns.map Sum.inl).zip (pls.map pt)))) := ⟨_, rfl⟩
      rw [← hM1] at hM ⊢
      rw [wpB_cons]
      simp [itD, enumD]
      rw [enum_lg]
      refine forD_pre (fun t : List Int × Nat => D.tup [.int (t.2 : Int), pt t.1]) (fun pre ρ M' => M' = M1 ∧ ∃ (cur : Option (List Int)), (∀ w, cur = some w → w.length = bs.length) ∧ planGo bs (lookF ns pls) 0 none log = planGo bs (lookF ns pls) pre.length cur (log.drop pre.length) ∧ ∃ x5 x6, ρ = [some (pt bs), some (lg log), some (D.tup [D.tup (ils ns), D.tup (pls.map pt)]), some (.ref c), some (opt cur), x5, x6]) (fun _ => True.intro) (fun pre t post ρ M' e hI nx hnx => ?_) (fun ρ M' hI => ?_) ⟨rfl, none, (fun w z => by cases z), rfl, _, _, rfl⟩
      · obtain ⟨rfl, cur, hcur, hgo, x5, x6, rfl⟩ := hI
        obtain ⟨e1, e2⟩ := zipIdx_split e
        obtain ⟨hlt, e3⟩ := List.getElem?_eq_some_iff.mp e2
        rw [List.drop_eq_getElem_cons hlt, e3, planGo] at hgo
        simp
        rw [wpB_cons]
        have hg : getDic M' (.ref c) (.int (t.2 : Int)) = some ((lookF ns pls t.2).map pt) := by
          unfold getDic
          simp only [dicIn, hM, keyD]
          rw [dict_look hasc]
        have eg : ((lookF ns pls t.2).map pt).getD (opt cur) = opt ((lookF ns pls t.2).or cur) := by
          cases lookF ns pls t.2 <;> rfl
        simp [hg]
        rw [eg]
        rw [← e1] at hgo
        have hlook : ∀ w, (lookF ns pls t.2).or cur = some w → w.length = bs.length := fun w hw => by
          cases hl : lookF ns pls t.2 with
          | none => rw [hl] at hw; exact hcur w hw
          | some v =>
            rw [hl] at hw
            cases hw
            unfold lookF at hl
            obtain ⟨y, hy, rfl⟩ := Option.map_eq_some_iff.mp hl
            exact (hpls _ (List.of_mem_zip (List.mem_of_find?_eq_some hy)).2).1
        rw [wpB_cons]
        cases ho : (lookF ns pls t.2).or cur with
        | none =>
          rw [ho] at hgo
          have hgo' : planGo bs (lookF ns pls) 0 none log = false := hgo
          rw [hgo'] at q
          simp [opt, wpB_cons, rcvD, hM]
          rw [hM1] at hM ⊢
          refine ⟨by simp only [dicIn, hM]; rfl, ?_⟩
          exact Fin.sub (M' := M) (Mp.sub_upd hc) q
        | some w =>
          rw [ho] at hgo
          have hgo' : planGo bs (lookF ns pls) 0 none log = (coversB bs w t.1 && planGo bs (lookF ns pls) ((t.2 : Int) + 1) (some w) (log.drop (t.2 + 1))) := hgo
          simp [opt, rcvD, hM]
          refine ⟨by simp only [dicIn, hM]; rfl, bs, w, t.1, rfl, by rw [hlook w ho]; exact hbl, ?_⟩
          by_cases hcv : coversB bs w t.1 = true
          · simp [hcv, wpB_nil]
            refine hnx _ _ ⟨rfl, some w, fun v z => by cases z; exact hlook w ho, ?_, _, _, rfl⟩
            rw [hgo', hcv, Bool.true_and, e1]
            simp
          · rw [Bool.not_eq_true] at hcv
            rw [hgo', hcv, Bool.false_and] at q
            simp [hcv, wpB_cons]
            rw [hM1]
            exact Fin.sub (M' := M) (Mp.sub_upd hc) q
      · obtain ⟨rfl, cur, hcur, hgo, x5, x6, rfl⟩ := hI
        have hgo' : planGo bs (lookF ns pls) 0 none log = true := by
          rw [hgo, List.length_zipIdx, List.drop_length]; rfl
        rw [hgo'] at q
        simp [wpB_cons]
        rw [hM1]
        exact Fin.sub (M' := M) (Mp.sub_upd hc) q
    · cases hform
  · have e : planB bs log d = false := by unfold planB; rw [Bool.not_eq_true] at hform; rw [hform]; rfl
    rw [e] at q
    simp [hform, wpB_cons]
    exact Fin.same q
/-! ### spans of any data -/
def spanB (bs : List Int) (log : List (List Int)) : D → Bool
  | .tup [a, b, c] => ascB log.length (.tup [a, b]) && isIntB 0 ((bs.length : Int) - 1) c && (match a, b, c with
    | .int i, .int j, .int x => decide (bs.getD x.toNat 0 ≤ (((log.getD i.toNat []).getD x.toNat 0 - (log.getD j.toNat []).getD x.toNat 0).natAbs : Int))
    | _, _, _ => false)
  | _ => false
theorem spanB_tr {bs : List Int} {log : List (List Int)} {d : D} (h : spanB bs log d = true) : ∃ t : Int × (Int × Int), d = tr3 t ∧ 0 ≤ t.1 ∧ t.1 < t.2.1 ∧ t.2.1 < log.length ∧ 0 ≤ t.2.2 ∧ t.2.2 < bs.length ∧ bs.getD t.2.2.toNat 0 ≤ (((log.getD t.1.toNat []).getD t.2.2.toNat 0 - (log.getD t.2.1.toNat []).getD t.2.2.toNat 0).natAbs : Int) := by
  unfold spanB at h
  split at h
  · rename_i a b c
    rw [Bool.and_eq_true, Bool.and_eq_true] at h
    obtain ⟨⟨h1, h2⟩, h3⟩ := h
    obtain ⟨ns, e, hn, ha⟩ := asc_tup h1
    split at h3
    · rename_i i j x
      rw [decide_eq_true_iff] at h3
      have e' : [D.int i, D.int j] = ils ns := by injection e
      have : ns = [i, j] := by
        match ns, e' with
        | [a, b], e' =>
          have e2 : [D.int i, D.int j] = [D.int a, D.int b] := e'
          cases e2; rfl
      subst this
      have a1 := hn i (by simp)
      have a2 := hn j (by simp)
      have a3 : (decide (i < j) && true) = true := ha
      rw [Bool.and_true, decide_eq_true_iff] at a3
      unfold isIntB at h2
      rw [Bool.and_eq_true, decide_eq_true_iff, decide_eq_true_iff] at h2
      exact ⟨(i, (j, x)), rfl, a1.1, a3, a2.2, h2.1, by simp only []; omega, h3⟩
    · cases h3
  · cases h
theorem tr_spanB {bs : List Int} {log : List (List Int)} {t : Int × (Int × Int)} (h1 : 0 ≤ t.1) (h2 : t.1 < t.2.1) (h3 : t.2.1 < log.length) (h4 : 0 ≤ t.2.2) (h5 : t.2.2 < bs.length)
    (h6 : bs.getD t.2.2.toNat 0 ≤ (((log.getD t.1.toNat []).getD t.2.2.toNat 0 - (log.getD t.2.1.toNat []).getD t.2.2.toNat 0).natAbs : Int)) : spanB bs log (tr3 t) = true := by
  show (ascB log.length (.tup [.int t.1, .int t.2.1]) && isIntB 0 ((bs.length : Int) - 1) (.int t.2.2) && decide _) = true
  rw [decide_eq_true h6, Bool.and_true, isIntB_int]
  rw [decide_eq_true h4, decide_eq_true (by omega), Bool.true_and, Bool.and_true]
  show ((isIntB 0 ((log.length : Int) - 1) (.int t.1) && (isIntB 0 ((log.length : Int) - 1) (.int t.2.1) && true)) && (decide (t.1 < t.2.1) && true)) = true
  rw [isIntB_int, isIntB_int, decide_eq_true h1, decide_eq_true (by omega), decide_eq_true (by omega), decide_eq_true (by omega), decide_eq_true h2]
  rfl
def mc_is_span : MC := ⟨["box", "log", "value", "one", "other", "axis"], ["is_integer", "are_ascending"], ["SPAN_PARTS"], [], []⟩
def b_is_span : List CS := [.ifs (.or (.not (.isi .tuple (.var 2))) (.one (.cmp .NotEq (.blt .len true [.var 2]) (.glb 0)))) [.ret (.bl false)] [],
    .asg (.tup [.nm 3, .nm 4, .nm 5]) (.var 2),
    .ifs (.or (.not (.call 1 [.tup [.var 3, .var 4], .blt .len true [.var 1]])) (.one (.not (.call 0 [.var 5, .int 0, .bin .Sub true (.blt .len true [.var 0]) (.int 1)])))) [.ret (.bl false)] [],
    .ret (.cmp .GtE (.blt .abs true [.bin .Sub true (.ix (.ix (.var 1) (.var 3)) (.var 5)) (.ix (.ix (.var 1) (.var 4)) (.var 5))]) (.ix (.var 0) (.var 5)))]
def cx_is_span : Ctx := ⟨[fi_is_integer, fi_are_ascending], [gi_SPAN_PARTS], [], []⟩
@[simp] theorem cx_is_span_g0 : cx_is_span.gs[0]? = some gi_SPAN_PARTS := rfl
@[simp] theorem cx_is_span_0 : cx_is_span.fs[0]? = some fi_is_integer := rfl
@[simp] theorem cx_is_span_1 : cx_is_span.fs[1]? = some fi_are_ascending := rfl
def spIsSpan : DSp := fun ds M Q _ => ∃ (d : D) (bs : List Int) (log : List (List Int)), ds = [pt bs, lg log, d] ∧ d.flx = true ∧ bs.length ≤ 1000 ∧ log.length ≤ 100000 ∧ (∀ p ∈ log, p.length = bs.length) ∧ Q (.bl (spanB bs log d)) M
def fi_is_span : FI := ⟨"is_span", 3, spIsSpan⟩
@[simp] theorem fi_is_span_sp : fi_is_span.sp = spIsSpan := rfl
theorem pt_at {p : List Int} {k : Nat} (h : k < p.length) : atI (p.map D.int) (k : Int) = some (.int (p.getD k 0)) := by
  rw [atI_nat (by simpa using h)]
  simp [h]
theorem wp_is_span {E : EX} {ds : List D} {M : Mp} {Q : QE} {E' : XD → Mp → Prop} (h : spIsSpan ds M Q E') : wpB cx_is_span E b_is_span (endsD Q) (startD mc_is_span.N ds) M := by
  obtain ⟨d, bs, log, rfl, hf, hbl, hll, hp, q⟩ := h
  rw [show startD mc_is_span.N [pt bs, lg log, d] = [some (pt bs), some (lg log), some d, none, none, none] from rfl, b_is_span, wpB_cons]
  cases d with
  | tup l =>
    by_cases hl : l.length = 3
    · obtain ⟨a, b, c, rfl⟩ : ∃ a b c, l = [a, b, c] := by
        match l, hl with
        | [a, b, c], _ => exact ⟨a, b, c, rfl⟩
      have f1 := flx_tup hf a (by simp)
      have f2 := flx_tup hf b (by simp)
      have f3 := flx_tup hf c (by simp)
      have fab : (D.tup [a, b]).flx = true := flxs_of fun d hd => by simp at hd; rcases hd with rfl | rfl <;> assumption
      simp [wpB_nil]
      rw [wpB_cons]
      simp
      rw [wpB_cons]
      simp
      refine ⟨by decide, .tup [a, b], log.length, rfl, fab, fun l hl => (by cases hl; simp), ?_⟩
      by_cases h1 : ascB log.length (.tup [a, b]) = true
      · simp [h1]
        refine ⟨c, 0, (bs.length : Int) - 1, rfl, f3, ?_⟩
        by_cases h2 : isIntB 0 ((bs.length : Int) - 1) c = true
        · obtain ⟨ns, e, hn, ha⟩ := asc_tup h1
          have e' : [a, b] = ils ns := by injection e
          obtain ⟨i, j, rfl⟩ : ∃ i j, ns = [i, j] := by
            match ns, e' with
            | [i, j], _ => exact ⟨i, j, rfl⟩
          have e2 : [a, b] = [D.int i, D.int j] := e'
          cases e2
          obtain ⟨x, rfl⟩ : ∃ x, c = .int x := by
            cases c with
            | int x => exact ⟨x, rfl⟩
            | _ => cases h2
          have h2' := h2
          unfold isIntB at h2'
          rw [Bool.and_eq_true, decide_eq_true_iff, decide_eq_true_iff] at h2'
          have i1 := hn i (by simp)
          have j1 := hn j (by simp)
          simp [h2, wpB_nil, wpB_cons]
          obtain ⟨i, rfl⟩ := Int.eq_ofNat_of_zero_le i1.1
          obtain ⟨j, rfl⟩ := Int.eq_ofNat_of_zero_le j1.1
          obtain ⟨x, rfl⟩ := Int.eq_ofNat_of_zero_le h2'.1
          have li := log_at hp (k := i) (by omega)
          have lj := log_at hp (k := j) (by omega)
          rw [lg_at (by omega), lg_at (by omega)]
          simp only [ix_tup]
          rw [pt_at (by omega), pt_at (by omega), pt_at (by omega)]
          simp
          rw [abs_eq]
          have e : spanB bs log (.tup [.int (i : Int), .int (j : Int), .int (x : Int)]) = decide (bs.getD x 0 ≤ (((log.getD i []).getD x 0 - (log.getD j []).getD x 0).natAbs : Int)) := by
            show (ascB log.length (.tup [.int (i : Int), .int (j : Int)]) && isIntB 0 ((bs.length : Int) - 1) (.int (x : Int)) && _) = _
            rw [h1, h2]; rfl
          rw [e] at q
          refine Fin.same ?_
          simpa [List.getD_eq_getElem?_getD] using q
        · rw [Bool.not_eq_true] at h2
          have e : spanB bs log (.tup [a, b, c]) = false := by
            show (ascB log.length (.tup [a, b]) && isIntB 0 ((bs.length : Int) - 1) c && _) = _
            rw [h2, Bool.and_false]; rfl
          rw [e] at q
          simp [h2, wpB_cons]
          exact Fin.same q
      · rw [Bool.not_eq_true] at h1
        have e : spanB bs log (.tup [a, b, c]) = false := by
          show (ascB log.length (.tup [a, b]) && isIntB 0 ((bs.length : Int) - 1) c && _) = _
          rw [h1, Bool.false_and]; rfl
        rw [e] at q
        simp [h1, wpB_cons]
        exact Fin.same q
    · have e : spanB bs log (.tup l) = false := by
        unfold spanB
        split
        · rename_i e
          cases e
          exact absurd rfl hl
        · rfl
      rw [e] at q
      simp
      rw [if_neg (by omega)]
      try simp [wpB_cons]
      exact Fin.same q
  | non => simp [wpB_cons]; exact Fin.same q
  | bl b => simp [wpB_cons]; exact Fin.same q
  | int b => simp [wpB_cons]; exact Fin.same q
  | str s => simp [wpB_cons]; exact Fin.same q
  | lst l => simp [wpB_cons]; exact Fin.same q
  | ref a => cases hf
  | scr a => cases hf
  | dct a b => simp [wpB_cons]; exact Fin.same q
def endI : D → Int
  | .tup [_, .int j, _] => j
  | _ => 0
def begI : D → Int
  | .tup [.int i, _, _] => i
  | _ => 0
def spansB (bs : List Int) (log : List (List Int)) : D → Bool
  | .tup l => l.all (spanB bs log) && (l.zip (l.drop 1)).all fun t => decide (endI t.1 ≤ begI t.2)
  | _ => false
theorem trs_of {bs : List Int} {log : List (List Int)} : ∀ {l : List D}, l.all (spanB bs log) = true → ∃ L : List (Int × (Int × Int)), l = L.map tr3
  | [], _ => ⟨[], rfl⟩
  | d :: r, h => by
    rw [List.all_cons, Bool.and_eq_true] at h
    obtain ⟨L, e⟩ := trs_of h.2
    obtain ⟨t, e2, _⟩ := spanB_tr h.1
    exact ⟨t :: L, by rw [e, e2]; rfl⟩
def mc_are_spans : MC := ⟨["box", "log", "value", "before", "later", "span"], ["is_span"], [], [], []⟩
def b_are_spans : List CS := [.ifs (.or (.not (.isi .tuple (.var 2))) (.one (.not (.blt .all true [.comp true (.call 0 [.var 0, .var 1, .var 5]) (.nm 5) .seq [.var 2] [5]])))) [.ret (.bl false)] [],
    .ret (.blt .all true [.comp true (.cmp .LtE (.ix (.var 3) (.int 1)) (.ix (.var 4) (.int 0))) (.tup [.nm 3, .nm 4]) .zip2 [.var 2, .slL true (.var 2) (.int 1)] [3, 4]])]
def cx_are_spans : Ctx := ⟨[fi_is_span], [], [], []⟩
@[simp] theorem cx_are_spans_0 : cx_are_spans.fs[0]? = some fi_is_span := rfl
def spAreSpans : DSp := fun ds M Q _ => ∃ (d : D) (bs : List Int) (log : List (List Int)), ds = [pt bs, lg log, d] ∧ d.flx = true ∧ Short d ∧ bs.length ≤ 1000 ∧ log.length ≤ 100000 ∧ (∀ p ∈ log, p.length = bs.length) ∧ Q (.bl (spansB bs log d)) M
def fi_are_spans : FI := ⟨"are_spans", 3, spAreSpans⟩
@[simp] theorem fi_are_spans_sp : fi_are_spans.sp = spAreSpans := rfl
theorem wp_are_spans {E : EX} {ds : List D} {M : Mp} {Q : QE} {E' : XD → Mp → Prop} (h : spAreSpans ds M Q E') : wpB cx_are_spans E b_are_spans (endsD Q) (startD mc_are_spans.N ds) M := by
  obtain ⟨d, bs, log, rfl, hf, hs, hbl, hll, hp, q⟩ := h
  rw [show startD mc_are_spans.N [pt bs, lg log, d] = [some (pt bs), some (lg log), some d, none, none, none] from rfl, b_are_spans, wpB_cons]
  cases d with
  | tup l =>
    have hl := hs l rfl
    simp [wpB_cons, itD]
    intro c hc
    refine cmpL_plain (fun x => .bl (spanB bs log x)) hc (by omega) (fun _ => True.intro) (fun x hx acc add skip ha => ?_) ?_
    · simp [turnC, wipeD]
      exact ⟨x, bs, log, rfl, flx_tup hf x hx, hbl, hll, hp, ha⟩
    simp [List.all_map]
    by_cases ha : l.all (spanB bs log) = true
    · obtain ⟨L, rfl⟩ := trs_of ha
      have e : spansB bs log (.tup (L.map tr3)) = (L.zip (L.drop 1)).all fun t => decide (t.1.2.1 ≤ t.2.1) := by
        show ((L.map tr3).all (spanB bs log) && _) = _
        rw [ha, Bool.true_and, ← List.map_drop, List.zip_map, List.all_map]
        rfl
      rw [e] at q
      simp at hl
      rw [if_neg (by rintro ⟨a, ha1, ha2⟩; rw [List.all_eq_true] at ha; rw [ha a ha1] at ha2; cases ha2)]
      simp [wpB_nil]
      intro c2 hc2
      rw [cut_from1, ← List.map_drop]
      have ez : ((L.map tr3).zip ((L.drop 1).map tr3)).map (fun p => D.tup [p.1, p.2]) = (L.zip (L.drop 1)).map fun t => D.tup [tr3 t.1, tr3 t.2] := by
        rw [List.zip_map, List.map_map]; rfl
      rw [ez]
      refine cmpL_mapf _ (fun t => .bl (decide (t.1.2.1 ≤ t.2.1))) hc2 (by simp; omega) (fun _ => True.intro) (fun t ht acc add skip ha => ?_) ?_
      · simp [turnC, wipeD, tr3]
        exact ha
      · simp
        exact Fin.same (by simpa [List.all_map] using q)
    · have e : spansB bs log (.tup l) = false := by
        show (l.all (spanB bs log) && _) = _
        rw [Bool.not_eq_true] at ha
        rw [ha]; rfl
      rw [e] at q
      rw [if_pos (by simpa using ha)]
      exact Fin.same q
  | non => simp [wpB_cons]; exact Fin.same q
  | bl b => simp [wpB_cons]; exact Fin.same q
  | int b => simp [wpB_cons]; exact Fin.same q
  | str s => simp [wpB_cons]; exact Fin.same q
  | lst l => simp [wpB_cons]; exact Fin.same q
  | ref a => cases hf
  | scr a => cases hf
  | dct a b => simp [wpB_cons]; exact Fin.same q
/-! ### plans with their spans -/
def planN : D → Nat
  | .tup [.tup l, _] => l.length
  | _ => 0
def showsB (bs : List Int) (log : List (List Int)) : D → Bool
  | .tup [p, s] => planB bs log p && spansB bs log s && (match s with | .tup k => decide ((k.length : Int) = mx 0 ((planN p : Int) - 1)) | _ => false)
  | _ => false
def mc_shows_fewest : MC := ⟨["box", "log", "value", "plan", "some"], ["are_spans", "is_plan"], ["PARTS"], [], []⟩
def b_shows_fewest : List CS := [.ifs (.or (.not (.isi .tuple (.var 2))) (.one (.cmp .NotEq (.blt .len true [.var 2]) (.glb 0)))) [.ret (.bl false)] [],
    .asg (.tup [.nm 3, .nm 4]) (.var 2),
    .ifs (.or (.not (.call 1 [.var 0, .var 1, .var 3])) (.one (.not (.call 0 [.var 0, .var 1, .var 4])))) [.ret (.bl false)] [],
    .ret (.cmp .Eq (.blt .len true [.var 4]) (.blt .max true [.int 0, .bin .Sub true (.blt .len true [.ix (.var 3) (.int 0)]) (.int 1)]))]
def cx_shows_fewest : Ctx := ⟨[fi_are_spans, fi_is_plan], [gi_PARTS], [], []⟩
@[simp] theorem cx_shows_fewest_g0 : cx_shows_fewest.gs[0]? = some gi_PARTS := rfl
@[simp] theorem cx_shows_fewest_0 : cx_shows_fewest.fs[0]? = some fi_are_spans := rfl
@[simp] theorem cx_shows_fewest_1 : cx_shows_fewest.fs[1]? = some fi_is_plan := rfl
def Short3 (d : D) : Prop := ∀ a b, d = .tup [a, b] → Short2 a ∧ Short b
def spShows : DSp := fun ds M Q _ => ∃ (d : D) (bs : List Int) (log : List (List Int)), ds = [pt bs, lg log, d] ∧ d.flx = true ∧ Short3 d ∧ bs.length ≤ 1000 ∧ log.length ≤ 100000 ∧ (∀ p ∈ log, p.length = bs.length) ∧ Q (.bl (showsB bs log d)) M
def fi_shows_fewest : FI := ⟨"shows_fewest", 3, spShows⟩
@[simp] theorem fi_shows_fewest_sp : fi_shows_fewest.sp = spShows := rfl
theorem planB_tup {bs : List Int} {log : List (List Int)} {d : D} (h : planB bs log d = true) : ∃ ns pls, d = .tup [pt ns, lg pls] ∧ ascL ns = true ∧ (∀ x ∈ ns, 0 ≤ x ∧ x < log.length) ∧ pls.length = ns.length ∧ (∀ p ∈ pls, p.length = bs.length ∧ ∀ x ∈ p, -2000000000000 ≤ x ∧ x ≤ 2000000000000) ∧ planGo bs (lookF ns pls) 0 none log = true := by
  unfold planB at h
  rw [Bool.and_eq_true] at h
  obtain ⟨hform, hgo⟩ := h
  unfold planFormB at hform
  split at hform
  · rename_i l k
    rw [Bool.and_eq_true, Bool.and_eq_true, decide_eq_true_iff] at hform
    obtain ⟨⟨h1, h2⟩, h3⟩ := hform
    obtain ⟨ns, e1, hns, hasc⟩ := asc_tup h1
    cases e1
    obtain ⟨pls, rfl, hpls⟩ := pts_all h3
    have hgo' : (match intsOf (ils ns), ptsOf (pls.map pt) with | some ns, some pls => planGo bs (lookF ns pls) 0 none log | _, _ => false) = true := hgo
    rw [intsOf_ils, ptsOf_map] at hgo'
    exact ⟨ns, pls, rfl, hasc, hns, by simpa using h2, hpls, hgo'⟩
  · cases hform
theorem wp_shows_fewest {E : EX} {ds : List D} {M : Mp} {Q : QE} {E' : XD → Mp → Prop} (h : spShows ds M Q E') : wpB cx_shows_fewest E b_shows_fewest (endsD Q) (startD mc_shows_fewest.N ds) M := by
  obtain ⟨d, bs, log, rfl, hf, hs, hbl, hll, hp, q⟩ := h
  rw [show startD mc_shows_fewest.N [pt bs, lg log, d] = [some (pt bs), some (lg log), some d, none, none] from rfl, b_shows_fewest, wpB_cons]
  cases d with
  | tup l =>
    by_cases hl : l.length = 2
    · obtain ⟨a, b, rfl⟩ : ∃ a b, l = [a, b] := by
        match l, hl with
        | [a, b], _ => exact ⟨a, b, rfl⟩
      obtain ⟨s1, s2⟩ := hs a b rfl
      have f1 := flx_tup hf a (by simp)
      have f2 := flx_tup hf b (by simp)
      simp [wpB_nil]
      rw [wpB_cons]
      simp
      rw [wpB_cons]
      simp
      refine ⟨a, bs, log, rfl, f1, s1, hbl, hll, ?_⟩
      by_cases h1 : planB bs log a = true
      · obtain ⟨ns, pls, rfl, hasc, hn, hlp, hpls, hgo⟩ := planB_tup h1
        simp [h1]
        refine ⟨b, bs, log, rfl, f2, s2, hbl, hll, hp, ?_⟩
        by_cases h2 : spansB bs log b = true
        · obtain ⟨k, rfl⟩ : ∃ k, b = .tup k := by
            cases b with
            | tup k => exact ⟨k, rfl⟩
            | _ => cases h2
          simp [h2, wpB_nil, wpB_cons]
          have e : showsB bs log (.tup [.tup [pt ns, lg pls], .tup k]) = decide ((k.length : Int) = mx 0 ((ns.length : Int) - 1)) := by
            show (planB bs log (.tup [pt ns, lg pls]) && spansB bs log (.tup k) && decide ((k.length : Int) = mx 0 (((ils ns).length : Int) - 1))) = _
            rw [h1, h2, List.length_map]; rfl
          rw [e, show mx 0 ((ns.length : Int) - 1) = if 1 < (ns.length : Int) then (ns.length : Int) - 1 else 0 by unfold mx; split <;> split <;> omega] at q
          exact Fin.same q
        · rw [Bool.not_eq_true] at h2
          have e : showsB bs log (.tup [.tup [pt ns, lg pls], b]) = false := by
            show (_ && spansB bs log b && _) = _
            rw [h2, Bool.and_false]; rfl
          rw [e] at q
          simp [h2, wpB_cons]
          exact Fin.same q
      · rw [Bool.not_eq_true] at h1
        have e : showsB bs log (.tup [a, b]) = false := by
          show (planB bs log a && _ && _) = _
          rw [h1]; rfl
        rw [e] at q
        simp [h1, wpB_cons]
        exact Fin.same q
    · have e : showsB bs log (.tup l) = false := by
        unfold showsB
        split
        · rename_i e
          cases e
          exact absurd rfl hl
        · rfl
      rw [e] at q
      simp
      rw [if_neg (by omega)]
      try simp [wpB_cons]
      exact Fin.same q
  | non => simp [wpB_cons]; exact Fin.same q
  | bl b => simp [wpB_cons]; exact Fin.same q
  | int b => simp [wpB_cons]; exact Fin.same q
  | str s => simp [wpB_cons]; exact Fin.same q
  | lst l => simp [wpB_cons]; exact Fin.same q
  | ref a => cases hf
  | scr a => cases hf
  | dct a b => simp [wpB_cons]; exact Fin.same q
end Ow

namespace Ow
open PySem PySem.Spec PyProof.Rows L2
/-! ### the best plan is a plan, its spans show it -/
theorem stF_asc (bs : List Int) : ∀ (r seg : List (List Int)) (k : Nat), (stF bs seg k r).Pairwise (· < ·)
  | [], _, _ => .nil
  | p :: r, seg, k => by
    rw [stF]
    split
    · exact stF_asc bs r _ _
    · refine .cons (fun x hx => ?_) (stF_asc bs r _ _)
      have := (starts_bound bs r [p] (k + 1)).2 x hx
      omega
theorem asc_of : ∀ {ns : List Int}, ns.Pairwise (· < ·) → ascL ns = true
  | [], _ => rfl
  | [_], _ => rfl
  | a :: b :: r, h => by
    rw [List.pairwise_cons] at h
    show (decide (a < b) && ascL (b :: r)) = true
    rw [decide_eq_true (h.1 b List.mem_cons_self), asc_of h.2]; rfl
theorem look_none {ns : List Int} {pls : List (List Int)} {x : Int} (h : x ∉ ns) : lookF ns pls x = none := by
  unfold lookF
  rw [Option.map_eq_none_iff, List.find?_eq_none]
  intro t ht e
  rw [decide_eq_true_iff] at e
  exact h (e ▸ (List.of_mem_zip ht).1)
theorem look_some : ∀ {ns : List Int} {pls : List (List Int)}, ns.Pairwise (· < ·) → ∀ t ∈ ns.zip pls, lookF ns pls t.1 = some t.2
  | [], _, _, t, ht => by cases ht
  | _ :: _, [], _, t, ht => by cases ht
  | n :: ns, p :: pls, h, t, ht => by
    rw [List.pairwise_cons] at h
    rw [List.zip_cons_cons] at ht
    unfold lookF
    rw [List.zip_cons_cons, List.find?_cons]
    rcases List.mem_cons.mp ht with rfl | ht
    · simp
    · have h1 := h.1 t.1 (List.of_mem_zip ht).1
      rw [decide_eq_false (by omega)]
      exact look_some h.2 t ht
theorem go_seg (bs : List Int) (f : Int → Option (List Int)) (w : List Int) (r : List (List Int)) : ∀ (seg : List (List Int)) (k : Int), (∀ j : Nat, j < seg.length → f (k + j) = none) → (∀ p ∈ seg, coversB bs w p = true) →
    planGo bs f k (some w) (seg ++ r) = planGo bs f (k + seg.length) (some w) r
  | [], k, _, _ => by simp
  | p :: seg, k, hf, hc => by
    have h0 := hf 0 (by simp)
    rw [show k + ((0 : Nat) : Int) = k by omega] at h0
    have ih := go_seg bs f w r seg (k + 1) (fun j hj => by have := hf (j + 1) (by simpa using hj); rwa [show k + ((j + 1 : Nat) : Int) = k + 1 + (j : Int) by omega] at this) fun x hx => hc x (List.mem_cons_of_mem _ hx)
    rw [List.cons_append, planGo, h0]
    show (coversB bs w p && planGo bs f (k + 1) (some w) (seg ++ r)) = _
    rw [hc p List.mem_cons_self, Bool.true_and, ih]
    rw [show k + 1 + (seg.length : Int) = k + ((p :: seg).length : Int) by simp; omega]
theorem go_start (bs : List Int) (f : Int → Option (List Int)) (c : Option (List Int)) (w : List Int) (r seg : List (List Int)) (k : Int) (h0 : seg ≠ []) (hk : f k = some w) (hf : ∀ j : Nat, 0 < j → j < seg.length → f (k + j) = none) (hc : ∀ p ∈ seg, coversB bs w p = true) :
    planGo bs f k c (seg ++ r) = planGo bs f (k + seg.length) (some w) r := by
  cases seg with
  | nil => exact absurd rfl h0
  | cons p seg =>
    rw [List.cons_append, planGo, hk]
    show (coversB bs w p && planGo bs f (k + 1) (some w) (seg ++ r)) = _
    rw [hc p List.mem_cons_self, Bool.true_and, go_seg bs f w r seg (k + 1) (fun j hj => by have := hf (j + 1) (by omega) (by simpa using hj); rwa [show k + ((j + 1 : Nat) : Int) = k + 1 + (j : Int) by omega] at this) fun x hx => hc x (List.mem_cons_of_mem _ hx)]
    rw [show k + 1 + (seg.length : Int) = k + ((p :: seg).length : Int) by simp; omega]
/-- windows that cover their stretches make a plan -/
theorem go_pieces (bs : List Int) (log : List (List Int)) (f : Int → Option (List Int)) : ∀ (l : List Int) (pls : List (List Int)) (b : Int) (c : Option (List Int)), (b :: l).Pairwise (· < ·) → (∀ x ∈ b :: l, 0 ≤ x ∧ x < log.length) → pls.length = (b :: l).length →
    (∀ t ∈ (b :: l).zip pls, f t.1 = some t.2) → (∀ x, b ≤ x → x ∉ b :: l → f x = none) → (∀ t ∈ (pieces log (b :: l)).zip pls, ∀ p ∈ t.1, coversB bs t.2 p = true) → planGo bs f b c (log.drop b.toNat) = true
  | [], [], b, c, _, _, hl, _, _, _ => by cases hl
  | _ :: _, [], b, c, _, _, hl, _, _, _ => by cases hl
  | [], w :: pls, b, c, ha, hb, hl, h1, h2, h3 => by
    have hb0 := hb b List.mem_cons_self
    have := go_start bs f c w [] (log.drop b.toNat) b (fun z => by rw [List.drop_eq_nil_iff] at z; omega) (h1 (b, w) (by simp)) (fun j j0 _ => h2 _ (by omega) (by simp; omega)) (h3 (log.drop b.toNat, w) (by simp [pieces]))
    rw [List.append_nil] at this
    rw [this]; rfl
  | e :: r, w :: pls, b, c, ha, hb, hl, h1, h2, h3 => by
    rw [List.pairwise_cons] at ha
    have hbe := ha.1 e List.mem_cons_self
    have hb0 := hb b List.mem_cons_self
    have he0 := hb e (List.mem_cons_of_mem _ List.mem_cons_self)
    have hlen : ((log.drop b.toNat).take (e.toNat - b.toNat)).length = e.toNat - b.toNat := by simp; omega
    have es : log.drop b.toNat = (log.drop b.toNat).take (e.toNat - b.toNat) ++ log.drop e.toNat := by
      rw [show log.drop e.toNat = (log.drop b.toNat).drop (e.toNat - b.toNat) by rw [List.drop_drop]; congr 1; omega, List.take_append_drop]
    have := go_start bs f c w (log.drop e.toNat) ((log.drop b.toNat).take (e.toNat - b.toNat)) b (fun z => by rw [z] at hlen; simp at hlen; omega) (h1 (b, w) (by simp)) (fun j j0 j1 => by
      rw [hlen] at j1
      refine h2 _ (by omega) fun z => ?_
      rcases List.mem_cons.mp z with z | z
      · omega
      · rcases List.mem_cons.mp z with z | z
        · omega
        · have := (List.pairwise_cons.mp ha.2).1 _ z; omega) (h3 (_, w) (by simp [pieces]))
    rw [es, this, hlen, show b + ((e.toNat - b.toNat : Nat) : Int) = e by omega]
    refine go_pieces bs log f r pls e (some w) ha.2 (fun x hx => hb x (List.mem_cons_of_mem _ hx)) (by simpa using hl) (fun t ht => h1 t (by rw [List.zip_cons_cons]; exact List.mem_cons_of_mem _ ht)) (fun x hx hn => h2 x (by omega) fun z => ?_) (fun t ht => h3 t (by rw [pieces, List.zip_cons_cons]; exact List.mem_cons_of_mem _ ht))
    rcases List.mem_cons.mp z with z | z
    · omega
    · exact hn z
theorem wide_at {a j : Nat} {s : List (List Int)} (h0 : s ≠ []) (hs : ∀ p ∈ s, p.length = a) (hj : j < a) : (wideH s)[j]? = some (minL (col j s), maxL (col j s)) := by
  rw [wideH_cols h0 hs]
  simp [hj]
theorem wide_len {a : Nat} {s : List (List Int)} (h0 : s ≠ []) (hs : ∀ p ∈ s, p.length = a) : (wideH s).length = a := by rw [wideH_cols h0 hs]; simp
/-- the first place covers the stretch -/
theorem firsts_cover {bs : List Int} {s : List (List Int)} (h0 : s ≠ []) (hs : ∀ p ∈ s, p.length = bs.length) (hf : fitsH bs (wideH s) = true) : ∀ p ∈ s, coversB bs (firstsP bs s) p = true := by
  intro p hp
  unfold coversB
  rw [List.all_eq_true]
  intro t ht
  obtain ⟨j, hj, e⟩ := List.mem_iff_getElem.mp ht
  have hwl := wide_len h0 hs
  have hpl := hs p hp
  have hj2 : j < bs.length := by simp [firstsP, placesP] at hj; omega
  have hw := wide_at h0 hs hj2
  have hfl : (firstsP bs s)[j]? = some (maxL (col j s) - bs[j] + 1) := by
    unfold firstsP placesP
    have hz : ((wideH s).zip bs)[j]? = some ((minL (col j s), maxL (col j s)), bs[j]) := List.getElem?_zip_eq_some.mpr ⟨hw, List.getElem?_eq_getElem hj2⟩
    rw [List.map_map, List.getElem?_map, hz]; rfl
  have et : t = (maxL (col j s) - bs[j] + 1, (p[j]'(by omega), bs[j])) := by
    have : ((firstsP bs s).zip (p.zip bs))[j]? = some (maxL (col j s) - bs[j] + 1, (p[j]'(by omega), bs[j])) := List.getElem?_zip_eq_some.mpr ⟨hfl, List.getElem?_zip_eq_some.mpr ⟨List.getElem?_eq_getElem (by omega), List.getElem?_eq_getElem hj2⟩⟩
    rw [List.getElem?_eq_getElem hj, e] at this
    exact Option.some.inj this
  have c0 : col j s ≠ [] := fun z => h0 (by simpa [col] using z)
  have hm : p[j]'(by omega) ∈ col j s := List.mem_map.mpr ⟨p, hp, by rw [List.getD_eq_getElem?_getD, List.getElem?_eq_getElem (by omega)]; rfl⟩
  have a1 := (minL_spec c0).2 _ hm
  have a2 := (maxL_spec c0).2 _ hm
  unfold fitsH at hf
  rw [List.all_eq_true] at hf
  have hff := hf ((minL (col j s), maxL (col j s)), bs[j]) (List.mem_iff_getElem?.mpr ⟨j, List.getElem?_zip_eq_some.mpr ⟨hw, List.getElem?_eq_getElem hj2⟩⟩)
  rw [decide_eq_true_iff] at hff
  simp at hff
  rw [et]
  rw [decide_eq_true (by simp only []; omega), decide_eq_true (by simp only []; omega)]; rfl
theorem firsts_bound {bs : List Int} {s : List (List Int)} {A : Int} (h0 : s ≠ []) (hs : ∀ p ∈ s, p.length = bs.length) (hA : ∀ p ∈ s, ∀ x ∈ p, (x.natAbs : Int) ≤ A) (hb : ∀ b ∈ bs, 1 ≤ b ∧ b ≤ 10 ^ 10) :
    (firstsP bs s).length = bs.length ∧ ∀ x ∈ firstsP bs s, (x.natAbs : Int) ≤ A + 10 ^ 10 := by
  have hwl := wide_len h0 hs
  refine ⟨by simp [firstsP, placesP, hwl], fun x hx => ?_⟩
  unfold firstsP placesP at hx
  rw [List.map_map] at hx
  obtain ⟨t, ht, rfl⟩ := List.mem_map.mp hx
  obtain ⟨j, hj, e⟩ := List.mem_iff_getElem.mp ht
  have hj2 : j < bs.length := by simp at hj; omega
  have hw := wide_at h0 hs hj2
  have et : t = ((minL (col j s), maxL (col j s)), bs[j]) := by
    have : ((wideH s).zip bs)[j]? = some ((minL (col j s), maxL (col j s)), bs[j]) := List.getElem?_zip_eq_some.mpr ⟨hw, List.getElem?_eq_getElem hj2⟩
    rw [List.getElem?_eq_getElem hj, e] at this
    exact Option.some.inj this
  have c0 : col j s ≠ [] := fun z => h0 (by simpa [col] using z)
  obtain ⟨p, hp, e2⟩ := List.mem_map.mp (maxL_spec c0).1
  have hpj : j < p.length := by rw [hs p hp]; exact hj2
  have hx := hA p hp (p[j]) (List.getElem_mem hpj)
  rw [List.getD_eq_getElem?_getD, List.getElem?_eq_getElem hpj] at e2
  have e3 : p[j] = maxL (col j s) := e2
  rw [e3] at hx
  have := hb _ (List.getElem_mem hj2)
  rw [et]
  simp only [Function.comp]
  omega
theorem best_plan_ok {bs : List Int} {log : List (List Int)} (hb : ∀ b ∈ bs, 1 ≤ b ∧ b ≤ 10 ^ 10) (hl : LogOk bs.length (10 ^ 12) log) : planB bs log (.tup [pt (starts bs log), lg (bestPl bs log)]) = true := by
  obtain ⟨h1, h2⟩ := starts_lt (bs := bs) (log := log)
  have hst := stretch_ok (log := log) fun b h => (hb b h).1
  have hasc : (starts bs log).Pairwise (· < ·) := stF_asc bs log [] 0
  have hA : ascB log.length (pt (starts bs log)) = true := by
    show ((ils (starts bs log)).all (isIntB 0 ((log.length : Int) - 1)) && (match intsOf (ils (starts bs log)) with | some ns => ascL ns | none => false)) = true
    rw [intsOf_ils, Bool.and_eq_true]
    refine ⟨List.all_eq_true.mpr fun d hd => ?_, asc_of hasc⟩
    obtain ⟨i, hi, rfl⟩ := List.mem_map.mp hd
    have := h2 i hi
    rw [isIntB_int, decide_eq_true (by omega), decide_eq_true (by omega)]; rfl
  have hlen : (bestPl bs log).length = (starts bs log).length := by rw [bestPl, List.length_map, pieces_len]
  have hform : planFormB bs log.length (.tup [pt (starts bs log), lg (bestPl bs log)]) = true := by
    show (ascB log.length (pt (starts bs log)) && decide (((bestPl bs log).map pt).length = (ils (starts bs log)).length) && ((bestPl bs log).map pt).all (pointB bs.length 2000000000000)) = true
    rw [hA, decide_eq_true (by simpa using hlen), Bool.true_and, Bool.true_and, List.all_eq_true]
    intro d hd
    obtain ⟨w, hw, rfl⟩ := List.mem_map.mp hd
    obtain ⟨s, hs, rfl⟩ := List.mem_map.mp hw
    obtain ⟨s0, sf, sm⟩ := hst s hs
    obtain ⟨f1, f2⟩ := firsts_bound (A := 10 ^ 12) s0 (fun p hp => (hl p (sm p hp)).1) (fun p hp => (hl p (sm p hp)).2) hb
    show (decide ((ils (firstsP bs s)).length = bs.length) && (ils (firstsP bs s)).all (isIntB (-2000000000000) 2000000000000)) = true
    rw [decide_eq_true (by simpa using f1), Bool.true_and, List.all_eq_true]
    intro d hd
    obtain ⟨i, hi, rfl⟩ := List.mem_map.mp hd
    have := f2 i hi
    rw [isIntB_int, decide_eq_true (by omega), decide_eq_true (by omega)]; rfl
  unfold planB
  rw [hform, Bool.true_and]
  show (match intsOf (ils (starts bs log)), ptsOf ((bestPl bs log).map pt) with | some ns, some pls => planGo bs (lookF ns pls) 0 none log | _, _ => false) = true
  rw [intsOf_ils, ptsOf_map]
  show planGo bs (lookF (starts bs log) (bestPl bs log)) 0 none log = true
  cases log with
  | nil => rfl
  | cons p r =>
    have e : starts bs (p :: r) = 0 :: stF bs [p] 1 r := by
      show stF bs [] 0 (p :: r) = _
      rw [stF, if_neg (fun z => z.1 rfl)]; rfl
    have := go_pieces bs (p :: r) (lookF (starts bs (p :: r)) (bestPl bs (p :: r))) (stF bs [p] 1 r) (bestPl bs (p :: r)) 0 none (by rw [← e]; exact hasc) (by rw [← e]; exact h2) (by rw [← e]; exact hlen) (by rw [← e]; exact look_some hasc) (fun x _ hx => by rw [← e] at hx; exact look_none hx) (by
      rw [← e]
      intro t ht q hq
      have hz : ∀ t ∈ (pieces (p :: r) (starts bs (p :: r))).zip (bestPl bs (p :: r)), t.1 ∈ pieces (p :: r) (starts bs (p :: r)) ∧ t.2 = firstsP bs t.1 := by
        unfold bestPl
        intro t ht
        have h3 := (List.of_mem_zip ht).1
        refine ⟨h3, ?_⟩
        obtain ⟨i, hi, e⟩ := List.mem_iff_getElem.mp ht
        rw [← e]
        simp
      obtain ⟨z1, z2⟩ := hz t ht
      obtain ⟨s0, sf, sm⟩ := hst t.1 z1
      rw [z2]
      exact firsts_cover s0 (fun x hx => (hl x (sm x hx)).1) sf q hq)
    exact this
theorem chain_ok {g : Int × Int → Int × (Int × Int)} : ∀ {l : List Int}, (∀ t ∈ l.zip (l.drop 1), t.1 ≤ (g t).1 ∧ (g t).2.1 = t.2) → ((((l.zip (l.drop 1)).map g).zip (((l.zip (l.drop 1)).map g).drop 1)).all fun t => decide (t.1.2.1 ≤ t.2.1)) = true
  | [], _ => rfl
  | [_], _ => rfl
  | [_, _], _ => rfl
  | a :: b :: c :: r, h => by
    have ih := chain_ok (g := g) (l := b :: c :: r) fun t ht => h t (by
      rw [List.drop_succ_cons, List.drop_zero] at ht ⊢
      rw [List.zip_cons_cons]
      exact List.mem_cons_of_mem _ ht)
    have h1 := h (a, b) (by simp)
    have h2 := h (b, c) (by simp)
    show (decide ((g (a, b)).2.1 ≤ (g (b, c)).1) && _) = true
    rw [decide_eq_true (by simp only [] at h1 h2; omega)]
    exact ih
theorem spansL_all {bs : List Int} {log : List (List Int)} (hb : ∀ b ∈ bs, 1 ≤ b) (hp : ∀ p ∈ log, p.length = bs.length) : spansB bs log (.tup ((spansL bs log).map tr3)) = true := by
  have hok := spansL_ok hb hp
  show (((spansL bs log).map tr3).all (spanB bs log) && _) = true
  rw [Bool.and_eq_true]
  refine ⟨List.all_eq_true.mpr fun d hd => ?_, ?_⟩
  · obtain ⟨s, hs, rfl⟩ := List.mem_map.mp hd
    obtain ⟨t, ht, rfl⟩ := List.mem_map.mp hs
    obtain ⟨k1, k2, k3, k4, k5, k6, k7, k8⟩ := hok t ht
    exact tr_spanB (by omega) (by omega) (by omega) k6 k7 k8
  · rw [← List.map_drop, List.zip_map, List.all_map]
    exact chain_ok (g := spanI bs log) fun t ht => ⟨(hok t ht).1, (hok t ht).2.2.1⟩
theorem spansL_len (bs : List Int) (log : List (List Int)) : ((spansL bs log).length : Int) = mx 0 (((starts bs log).length : Int) - 1) := by
  unfold spansL mx
  rw [List.length_map, List.length_zip, List.length_drop]
  split <;> omega
theorem best_shows {bs : List Int} {log : List (List Int)} (hb : ∀ b ∈ bs, 1 ≤ b ∧ b ≤ 10 ^ 10) (hl : LogOk bs.length (10 ^ 12) log) : showsB bs log (.tup [.tup [pt (starts bs log), lg (bestPl bs log)], .tup ((spansL bs log).map tr3)]) = true := by
  show (planB bs log (.tup [pt (starts bs log), lg (bestPl bs log)]) && spansB bs log (.tup ((spansL bs log).map tr3)) && decide ((((spansL bs log).map tr3).length : Int) = mx 0 (((ils (starts bs log)).length : Int) - 1))) = true
  rw [best_plan_ok hb hl, spansL_all (fun b h => (hb b h).1) fun p hp => (hl p hp).1, decide_eq_true (by simpa using spansL_len bs log)]
  rfl
end Ow

namespace Ow
open PySem PySem.Spec PyProof.Rows L2
/-! ### any plan has more loads than there are spans -/
theorem go_at {bs : List Int} {f : Int → Option (List Int)} {k : Int} {c : Option (List Int)} {p : List Int} {r : List (List Int)} (h : planGo bs f k c (p :: r) = true) : ∃ w, (f k).or c = some w ∧ coversB bs w p = true ∧ planGo bs f (k + 1) (some w) r = true := by
  rw [planGo] at h
  cases e : (f k).or c with
  | none => rw [e] at h; cases h
  | some w =>
    rw [e] at h
    have h' : (coversB bs w p && planGo bs f (k + 1) (some w) r) = true := h
    rw [Bool.and_eq_true] at h'
    exact ⟨w, rfl, h'.1, h'.2⟩
theorem go_keep {bs : List Int} {f : Int → Option (List Int)} {w q : List Int} {r : List (List Int)} : ∀ {seg : List (List Int)} {k : Int}, planGo bs f k (some w) (seg ++ q :: r) = true → (∀ j : Nat, j ≤ seg.length → f (k + j) = none) → coversB bs w q = true
  | [], k, h, hf => by
    obtain ⟨w', e, h1, _⟩ := go_at h
    have h0 := hf 0 (by simp)
    rw [show k + ((0 : Nat) : Int) = k by omega] at h0
    rw [h0] at e
    cases e
    exact h1
  | p :: seg, k, h, hf => by
    obtain ⟨w', e, _, h2⟩ := go_at h
    have h0 := hf 0 (by simp)
    rw [show k + ((0 : Nat) : Int) = k by omega] at h0
    rw [h0] at e
    cases e
    exact go_keep (seg := seg) h2 fun j hj => by
      have := hf (j + 1) (by simpa using hj)
      rwa [show k + ((j + 1 : Nat) : Int) = k + 1 + (j : Int) by omega] at this
theorem go_drop {bs : List Int} {f : Int → Option (List Int)} {P : List Int → Prop} (hP : ∀ n w, f n = some w → P w) {y : List (List Int)} : ∀ {x : List (List Int)} {k : Int} {c : Option (List Int)}, (∀ w, c = some w → P w) → planGo bs f k c (x ++ y) = true → ∃ c', (∀ w, c' = some w → P w) ∧ planGo bs f (k + x.length) c' y = true
  | [], k, c, hc, h => ⟨c, hc, by simpa using h⟩
  | p :: x, k, c, hc, h => by
    obtain ⟨w, e, _, h2⟩ := go_at h
    have hw : P w := by
      cases ef : f k with
      | none => rw [ef] at e; exact hc w e
      | some v => rw [ef] at e; cases e; exact hP k _ ef
    obtain ⟨c', h3, h4⟩ := go_drop hP (x := x) (k := k + 1) (c := some w) (fun v z => by cases z; exact hw) h2
    exact ⟨c', h3, by rwa [show k + 1 + (x.length : Int) = k + ((p :: x).length : Int) by simp; omega] at h4⟩
theorem covers_at {bs w p : List Int} {j : Nat} (h : coversB bs w p = true) (hw : w.length = bs.length) (hp : p.length = bs.length) (hj : j < bs.length) : w.getD j 0 ≤ p.getD j 0 ∧ p.getD j 0 < w.getD j 0 + bs.getD j 0 := by
  unfold coversB at h
  rw [List.all_eq_true] at h
  have e1 : w[j]? = some (w.getD j 0) := by rw [List.getD_eq_getElem?_getD, List.getElem?_eq_getElem (by omega)]; rfl
  have e2 : p[j]? = some (p.getD j 0) := by rw [List.getD_eq_getElem?_getD, List.getElem?_eq_getElem (by omega)]; rfl
  have e3 : bs[j]? = some (bs.getD j 0) := by rw [List.getD_eq_getElem?_getD, List.getElem?_eq_getElem (by omega)]; rfl
  have := h (w.getD j 0, (p.getD j 0, bs.getD j 0)) (List.mem_iff_getElem?.mpr ⟨j, List.getElem?_zip_eq_some.mpr ⟨e1, List.getElem?_zip_eq_some.mpr ⟨e2, e3⟩⟩⟩)
  rw [Bool.and_eq_true, decide_eq_true_iff, decide_eq_true_iff] at this
  exact this
/-- between the ends of a span there is a load -/
theorem load_between {bs : List Int} {log : List (List Int)} {ns : List Int} {pls : List (List Int)} (hgo : planGo bs (lookF ns pls) 0 none log = true) (hpl : ∀ p ∈ pls, p.length = bs.length) (hlog : ∀ p ∈ log, p.length = bs.length) {t : Int × (Int × Int)} (ht : spanB bs log (tr3 t) = true) : ∃ n ∈ ns, t.1 < n ∧ n ≤ t.2.1 := by
  obtain ⟨t', e, h0, h1, h2, h3, h4, h5⟩ := spanB_tr ht
  have : t' = t := by
    obtain ⟨a, b, c⟩ := t
    obtain ⟨a', b', c'⟩ := t'
    have e2 : D.tup [.int a, .int b, .int c] = D.tup [.int a', .int b', .int c'] := e
    cases e2; rfl
  subst this
  obtain ⟨a, ha⟩ := Int.eq_ofNat_of_zero_le h0
  obtain ⟨b, hb⟩ := Int.eq_ofNat_of_zero_le (show 0 ≤ t'.2.1 by omega)
  obtain ⟨j, hj⟩ := Int.eq_ofNat_of_zero_le h3
  rw [ha, hb, hj] at h5
  rw [ha, hb] at h1
  rw [hb] at h2
  rw [hj] at h4
  rw [ha, hb]
  simp only [Int.toNat_natCast] at h5
  have hal : a < log.length := by omega
  have hbl : b < log.length := by omega
  have hx : log = log.take a ++ log[a] :: (((log.drop (a + 1)).take (b - (a + 1))) ++ log[b] :: log.drop (b + 1)) := by
    have e1 : log.drop (a + 1) = (log.drop (a + 1)).take (b - (a + 1)) ++ log.drop b := by
      rw [show log.drop b = (log.drop (a + 1)).drop (b - (a + 1)) by rw [List.drop_drop]; congr 1; omega, List.take_append_drop]
    have e2 : log.drop b = log[b] :: log.drop (b + 1) := List.drop_eq_getElem_cons hbl
    have e3 : log.drop a = log[a] :: log.drop (a + 1) := List.drop_eq_getElem_cons hal
    rw [← e2, ← e1, ← e3, List.take_append_drop]
  have hf : ∀ n w, lookF ns pls n = some w → w.length = bs.length := fun n w h => by
    unfold lookF at h
    obtain ⟨y, hy, rfl⟩ := Option.map_eq_some_iff.mp h
    exact hpl _ (List.of_mem_zip (List.mem_of_find?_eq_some hy)).2
  rw [hx] at hgo
  obtain ⟨c', hc', hgo2⟩ := go_drop (P := fun w => w.length = bs.length) hf (fun w z => by cases z) hgo
  rw [List.length_take, Nat.min_eq_left (by omega)] at hgo2
  obtain ⟨w, ew, hcw, hgo3⟩ := go_at hgo2
  have hw : w.length = bs.length := by
    cases ef : lookF ns pls (0 + (a : Int)) with
    | none => rw [ef] at ew; exact hc' w ew
    | some v => rw [ef] at ew; cases ew; exact hf _ _ ef
  refine Classical.byContradiction fun hno => ?_
  have hnone : ∀ i : Nat, i ≤ ((log.drop (a + 1)).take (b - (a + 1))).length → lookF ns pls (0 + (a : Int) + 1 + (i : Int)) = none := fun i hi => by
    rw [List.length_take, List.length_drop] at hi
    exact look_none fun hm => hno ⟨_, hm, by omega, by omega⟩
  have hq := go_keep hgo3 hnone
  have ga : log.getD a [] = log[a] := by rw [List.getD_eq_getElem?_getD, List.getElem?_eq_getElem hal]; rfl
  have gb : log.getD b [] = log[b] := by rw [List.getD_eq_getElem?_getD, List.getElem?_eq_getElem hbl]; rfl
  rw [ga, gb] at h5
  have c1 := covers_at hcw hw (hlog _ (List.getElem_mem hal)) (j := j) (by omega)
  have c2 := covers_at hq hw (hlog _ (List.getElem_mem hbl)) (j := j) (by omega)
  omega
theorem count_more {v b : Int} (hvb : v ≤ b) : ∀ {ns : List Int}, (ns.filter fun x => decide (b < x)).length ≤ (ns.filter fun x => decide (v < x)).length ∧ ((∃ n ∈ ns, v < n ∧ n ≤ b) → (ns.filter fun x => decide (b < x)).length + 1 ≤ (ns.filter fun x => decide (v < x)).length)
  | [] => ⟨Nat.le_refl _, fun h => by obtain ⟨_, h, _⟩ := h; cases h⟩
  | x :: ns => by
    obtain ⟨i1, i2⟩ := count_more hvb (ns := ns)
    rw [List.filter_cons, List.filter_cons]
    by_cases h1 : b < x
    · rw [if_pos (by simpa using h1), if_pos (by simp; omega)]
      rw [List.length_cons, List.length_cons]
      refine ⟨by omega, fun h => ?_⟩
      obtain ⟨n, hn, h2, h3⟩ := h
      rcases List.mem_cons.mp hn with rfl | hn
      · omega
      · have := i2 ⟨n, hn, h2, h3⟩; omega
    · rw [if_neg (by simpa using h1)]
      by_cases h2 : v < x
      · rw [if_pos (by simpa using h2), List.length_cons]
        exact ⟨by omega, fun _ => by omega⟩
      · rw [if_neg (by simpa using h2)]
        refine ⟨i1, fun h => ?_⟩
        obtain ⟨n, hn, h3, h4⟩ := h
        rcases List.mem_cons.mp hn with rfl | hn
        · omega
        · exact i2 ⟨n, hn, h3, h4⟩
theorem spans_count {bs : List Int} {log : List (List Int)} {ns : List Int} {pls : List (List Int)} (hgo : planGo bs (lookF ns pls) 0 none log = true) (hpl : ∀ p ∈ pls, p.length = bs.length) (hlog : ∀ p ∈ log, p.length = bs.length) :
    ∀ {L : List (Int × (Int × Int))} {v : Int}, (∀ t ∈ L, spanB bs log (tr3 t) = true) → (L.zip (L.drop 1)).all (fun t => decide (t.1.2.1 ≤ t.2.1)) = true → (∀ t, L.head? = some t → v ≤ t.1) → L.length ≤ (ns.filter fun x => decide (v < x)).length
  | [], v, _, _, _ => Nat.zero_le _
  | t :: L, v, h1, h2, h3 => by
    obtain ⟨n, hn, k1, k2⟩ := load_between hgo hpl hlog (h1 t List.mem_cons_self)
    have hv := h3 t rfl
    have ih := spans_count hgo hpl hlog (L := L) (v := t.2.1) (fun x hx => h1 x (List.mem_cons_of_mem _ hx)) (by
      cases L with
      | nil => rfl
      | cons y L =>
        have h2' : (decide (t.2.1 ≤ y.1) && ((y :: L).zip L).all fun t => decide (t.1.2.1 ≤ t.2.1)) = true := h2
        rw [Bool.and_eq_true] at h2'
        exact h2'.2) (fun x hx => by
      cases L with
      | nil => cases hx
      | cons y L =>
        cases hx
        have h2' : (decide (t.2.1 ≤ x.1) && ((x :: L).zip L).all fun t => decide (t.1.2.1 ≤ t.2.1)) = true := h2
        rw [Bool.and_eq_true, decide_eq_true_iff] at h2'
        exact h2'.1)
    have := (count_more (v := v) (b := t.2.1) (by omega) (ns := ns)).2 ⟨n, hn, by omega, k2⟩
    rw [List.length_cons]
    omega
/-- a plan has more loads than a row of spans has spans -/
theorem loads_ge {bs : List Int} {log : List (List Int)} {ns : List Int} {pls : List (List Int)} (hgo : planGo bs (lookF ns pls) 0 none log = true) (hpl : ∀ p ∈ pls, p.length = bs.length) (hlog : ∀ p ∈ log, p.length = bs.length) (h0 : log ≠ [])
    {L : List (Int × (Int × Int))} (hL : spansB bs log (.tup (L.map tr3)) = true) : L.length + 1 ≤ ns.length := by
  have hL' : ((L.map tr3).all (spanB bs log) && ((L.map tr3).zip ((L.map tr3).drop 1)).all fun t => decide (endI t.1 ≤ begI t.2)) = true := hL
  rw [Bool.and_eq_true, List.all_eq_true] at hL'
  obtain ⟨a1, a2⟩ := hL'
  rw [← List.map_drop, List.zip_map, List.all_map] at a2
  have b1 : ∀ t ∈ L, spanB bs log (tr3 t) = true := fun t ht => a1 _ (List.mem_map.mpr ⟨t, ht, rfl⟩)
  have hc := spans_count hgo hpl hlog (L := L) (v := 0) b1 a2 fun t ht => by
    obtain ⟨t', e, z, _⟩ := spanB_tr (b1 t (List.mem_of_mem_head? ht))
    obtain ⟨a, b, c⟩ := t
    obtain ⟨a', b', c'⟩ := t'
    have e2 : D.tup [.int a, .int b, .int c] = D.tup [.int a', .int b', .int c'] := e
    cases e2; exact z
  have hz : (0 : Int) ∈ ns := by
    cases log with
    | nil => exact absurd rfl h0
    | cons p r =>
      obtain ⟨w, e, _⟩ := go_at hgo
      refine Classical.byContradiction fun hn => ?_
      rw [look_none hn] at e
      cases e
  have h1 := (count_more (v := -1) (b := 0) (by omega) (ns := ns)).2 ⟨0, hz, by omega, by omega⟩
  have h2 := List.length_filter_le (fun x : Int => decide (-1 < x)) ns
  omega
end Ow

namespace Ow
open PySem PySem.Spec PyProof.Rows L2
/-! ### moments -/
structure Mom where
  pos : List Int
  hull : List (Int × Int)
  place : List Int
  begins : Bool
  load : Bool
def momF (m : Mom) : List (Str × D) := [("position", pt m.pos), ("phase_hull", hu m.hull), ("present_place", pt m.place), ("begins_phase", .bl m.begins), ("is_load", .bl m.load)]
def ai_moments : AI := ⟨"moments", ["Viewer"]⟩
def ai_sizes : AI := ⟨"sizes", ["Viewer"]⟩
def ai_is_load : AI := ⟨"is_load", ["Moment"]⟩
def ai_begins_phase : AI := ⟨"begins_phase", ["Moment"]⟩
def ai_present_place : AI := ⟨"present_place", ["Moment"]⟩
def ai_phase_hull : AI := ⟨"phase_hull", ["Moment"]⟩
def ai_position : AI := ⟨"position", ["Moment"]⟩
theorem att_ins {a : AI} {p : Addr} {c : Str} {fs : List (Str × D)} {d : D} {M : Mp} {Q : QE} (h : M p = some (.ins c fs)) (hc : c ∈ a.cs) (hl : fs.lookup a.f = some d) (q : Q d M) : attD a (.ref p) M Q := by
  unfold attD insD
  simp only [h, if_pos hc, hl]
  exact q
theorem sat_ins {a : AI} {p : Addr} {c : Str} {fs : List (Str × D)} {d : D} {M : Mp} {Q : Mp → Prop} (h : M p = some (.ins c fs)) (hc : c ∈ a.cs) (hl : fs.length < 1000) (q : Q (M.upd p (.ins c (putFD a.f d fs)))) : satD a (.ref p) d M Q := by
  unfold satD insD
  simp only [h, if_pos hc]
  exact ⟨hl, q⟩
def mc_Moment_init : MC := ⟨["self", "position", "phase_hull", "present_place", "begins_phase", "is_load"], [], [], [⟨"position", ["Moment"]⟩, ⟨"phase_hull", ["Moment"]⟩, ⟨"present_place", ["Moment"]⟩, ⟨"begins_phase", ["Moment"]⟩, ⟨"is_load", ["Moment"]⟩], []⟩
def b_Moment_init : List CS := [.sat 0 (.var 0) (.var 1),
    .sat 1 (.var 0) (.var 2),
    .sat 2 (.var 0) (.var 3),
    .sat 3 (.var 0) (.var 4),
    .sat 4 (.var 0) (.var 5)]
def cx_Moment_init : Ctx := ⟨[], [], [ai_position, ai_phase_hull, ai_present_place, ai_begins_phase, ai_is_load], []⟩
@[simp] theorem cx_Moment_init_a0 : cx_Moment_init.as[0]? = some ai_position := rfl
@[simp] theorem cx_Moment_init_a1 : cx_Moment_init.as[1]? = some ai_phase_hull := rfl
@[simp] theorem cx_Moment_init_a2 : cx_Moment_init.as[2]? = some ai_present_place := rfl
@[simp] theorem cx_Moment_init_a3 : cx_Moment_init.as[3]? = some ai_begins_phase := rfl
@[simp] theorem cx_Moment_init_a4 : cx_Moment_init.as[4]? = some ai_is_load := rfl
def spI_Moment : DSp := fun ds M Q _ => ∃ (x : Addr) (m : Mom), ds = [.ref x, pt m.pos, hu m.hull, pt m.place, .bl m.begins, .bl m.load] ∧ M x = some (.ins "Moment" []) ∧ Q .non (M.upd x (.ins "Moment" (momF m)))
def spMoment : DSp := fun ds M Q _ => ∃ m : Mom, ds = [pt m.pos, hu m.hull, pt m.place, .bl m.begins, .bl m.load] ∧ ∀ x, M x = none → Q (.ref x) (M.upd x (.ins "Moment" (momF m)))
def fi_Moment : FI := ⟨"Moment", 5, spMoment⟩
@[simp] theorem fi_Moment_sp : fi_Moment.sp = spMoment := rfl
theorem mk_Moment : ∀ ds M Q E, fi_Moment.sp ds M Q E → mkSp "Moment" spI_Moment ds M Q E := fun ds M Q E h x hx => by
  obtain ⟨m, rfl, q⟩ := h
  exact ⟨x, m, rfl, Mp.upd_same, rfl, by rw [Mp.upd_upd]; exact q x hx⟩
theorem wp_Moment_init {E : EX} {ds : List D} {M : Mp} {Q : QE} {E' : XD → Mp → Prop} (h : spI_Moment ds M Q E') : wpB cx_Moment_init E b_Moment_init (endsD Q) (startD mc_Moment_init.N ds) M := by
  obtain ⟨x, m, rfl, hx, q⟩ := h
  rw [show startD mc_Moment_init.N [.ref x, pt m.pos, hu m.hull, pt m.place, .bl m.begins, .bl m.load] = [some (.ref x), some (pt m.pos), some (hu m.hull), some (pt m.place), some (.bl m.begins), some (.bl m.load)] from rfl, b_Moment_init, wpB_cons]
  simp
  refine sat_ins hx (by decide) (by decide) ?_
  rw [wpB_cons]
  simp
  refine sat_ins Mp.upd_same (by decide) (Nat.le_of_ble_eq_true rfl) ?_
  rw [wpB_cons]
  simp
  refine sat_ins Mp.upd_same (by decide) (Nat.le_of_ble_eq_true rfl) ?_
  rw [wpB_cons]
  simp
  refine sat_ins Mp.upd_same (by decide) (Nat.le_of_ble_eq_true rfl) ?_
  rw [wpB_cons]
  simp
  refine sat_ins Mp.upd_same (by decide) (Nat.le_of_ble_eq_true rfl) ?_
  simp [wpB_nil]
  exact Fin.same q
def mc_first_moment : MC := ⟨["box", "position", "own", "one"], ["Moment", "halving_place"], [], [], []⟩
def b_first_moment : List CS := [.set 2 (.blt .tuple true [.comp true (.tup [.var 3, .var 3]) (.nm 3) .seq [.var 1] [3]]),
    .ret (.call 0 [.var 1, .var 2, .call 1 [.var 0, .var 2], .bl true, .bl true])]
def cx_first_moment : Ctx := ⟨[fi_Moment, fi_halving_place], [], [], []⟩
@[simp] theorem cx_first_moment_0 : cx_first_moment.fs[0]? = some fi_Moment := rfl
@[simp] theorem cx_first_moment_1 : cx_first_moment.fs[1]? = some fi_halving_place := rfl
/-- the first moment at a position -/
def firstM (bs p : List Int) : Mom := ⟨p, hullP p, halvingP bs (hullP p), true, true⟩
def spFirstM : DSp := fun ds M Q _ => ∃ bs p : List Int, ds = [pt bs, pt p] ∧ p.length = bs.length ∧ bs.length ≤ 1000 ∧ (∀ b ∈ bs, 1 ≤ b) ∧ ∀ x, M x = none → Q (.ref x) (M.upd x (.ins "Moment" (momF (firstM bs p))))
def fi_first_moment : FI := ⟨"first_moment", 2, spFirstM⟩
@[simp] theorem fi_first_moment_sp : fi_first_moment.sp = spFirstM := rfl
theorem fits_hullP {bs p : List Int} (hb : ∀ b ∈ bs, 1 ≤ b) : fitsH bs (hullP p) = true := fits_one (p := p) hb
theorem wp_first_moment {E : EX} {ds : List D} {M : Mp} {Q : QE} {E' : XD → Mp → Prop} (h : spFirstM ds M Q E') : wpB cx_first_moment E b_first_moment (endsD Q) (startD mc_first_moment.N ds) M := by
  obtain ⟨bs, p, rfl, hp, hbl, hb, q⟩ := h
  rw [show startD mc_first_moment.N [pt bs, pt p] = [some (pt bs), some (pt p), none, none] from rfl, b_first_moment, wpB_cons]
  simp [itD]
  intro c hc
  refine cmpL_mapf D.int (fun n => pr (n, n)) hc (by omega) (fun _ => True.intro) (fun n hn acc add skip ha => ?_) ?_
  · simp [turnC, wipeD]
    exact ⟨by decide, ha⟩
  have e : D.tup (p.map fun n => pr (n, n)) = hu (hullP p) := by simp [hullP]
  simp
  rw [e]
  simp [wpB_cons]
  refine ⟨bs, hullP p, rfl, hbl, fits_hullP hb, ?_⟩
  exact ⟨firstM bs p, rfl, fun x hx => Fin.same (q x hx)⟩
def mc_next_moment : MC := ⟨["box", "before", "position", "wider", "begins_phase", "one"], ["joined", "fits", "covers", "Moment", "halving_place"], [], [⟨"phase_hull", ["Moment"]⟩, ⟨"present_place", ["Moment"]⟩], []⟩
def b_next_moment : List CS := [.set 3 (.call 0 [.att 0 (.var 1), .var 2]),
    .set 4 (.not (.call 1 [.var 0, .var 3])),
    .ifs (.var 4) [.set 3 (.blt .tuple true [.comp true (.tup [.var 5, .var 5]) (.nm 5) .seq [.var 2] [5]])] [],
    .ifs (.call 2 [.var 0, .att 1 (.var 1), .var 2]) [.ret (.call 3 [.var 2, .var 3, .att 1 (.var 1), .var 4, .bl false])] [],
    .ret (.call 3 [.var 2, .var 3, .call 4 [.var 0, .var 3], .var 4, .bl true])]
def cx_next_moment : Ctx := ⟨[fi_joined, fi_fits, fi_covers, fi_Moment, fi_halving_place], [], [ai_phase_hull, ai_present_place], []⟩
@[simp] theorem cx_next_moment_a0 : cx_next_moment.as[0]? = some ai_phase_hull := rfl
@[simp] theorem cx_next_moment_a1 : cx_next_moment.as[1]? = some ai_present_place := rfl
@[simp] theorem cx_next_moment_0 : cx_next_moment.fs[0]? = some fi_joined := rfl
@[simp] theorem cx_next_moment_1 : cx_next_moment.fs[1]? = some fi_fits := rfl
@[simp] theorem cx_next_moment_2 : cx_next_moment.fs[2]? = some fi_covers := rfl
@[simp] theorem cx_next_moment_3 : cx_next_moment.fs[3]? = some fi_Moment := rfl
@[simp] theorem cx_next_moment_4 : cx_next_moment.fs[4]? = some fi_halving_place := rfl
/-- the hull of the phase after a request -/
def nextHull (bs : List Int) (h : List (Int × Int)) (p : List Int) : List (Int × Int) := if fitsH bs (joinH h p) = true then joinH h p else hullP p
def nextM (bs : List Int) (m : Mom) (p : List Int) : Mom :=
  if coversB bs m.place p = true then ⟨p, nextHull bs m.hull p, m.place, !fitsH bs (joinH m.hull p), false⟩ else ⟨p, nextHull bs m.hull p, halvingP bs (nextHull bs m.hull p), !fitsH bs (joinH m.hull p), true⟩
theorem fits_next {bs : List Int} {h : List (Int × Int)} {p : List Int} (hb : ∀ b ∈ bs, 1 ≤ b) : fitsH bs (nextHull bs h p) = true := by
  unfold nextHull
  split
  · assumption
  · exact fits_hullP hb
def spNextM : DSp := fun ds M Q _ => ∃ (bs p : List Int) (a : Addr) (m : Mom), ds = [pt bs, .ref a, pt p] ∧ M a = some (.ins "Moment" (momF m)) ∧ p.length = bs.length ∧ m.place.length = bs.length ∧ bs.length ≤ 1000 ∧ (∀ b ∈ bs, 1 ≤ b) ∧ ∀ x, M x = none → Q (.ref x) (M.upd x (.ins "Moment" (momF (nextM bs m p))))
def fi_next_moment : FI := ⟨"next_moment", 3, spNextM⟩
@[simp] theorem fi_next_moment_sp : fi_next_moment.sp = spNextM := rfl
theorem wp_next_moment {E : EX} {ds : List D} {M : Mp} {Q : QE} {E' : XD → Mp → Prop} (h : spNextM ds M Q E') : wpB cx_next_moment E b_next_moment (endsD Q) (startD mc_next_moment.N ds) M := by
  obtain ⟨bs, p, a, m, rfl, hM, hp, hpl, hbl, hb, q⟩ := h
  rw [show startD mc_next_moment.N [pt bs, .ref a, pt p] = [some (pt bs), some (.ref a), some (pt p), none, none, none] from rfl, b_next_moment, wpB_cons]
  simp
  refine att_ins (d := hu m.hull) hM (by decide) rfl ?_
  refine ⟨m.hull, p, rfl, by omega, ?_⟩
  simp
  rw [wpB_cons]
  simp
  refine ⟨bs, _, rfl, hbl, ?_⟩
  simp
  have tail : ∀ x5, wpB cx_next_moment E [.ifs (.call 2 [.var 0, .att 1 (.var 1), .var 2]) [.ret (.call 3 [.var 2, .var 3, .att 1 (.var 1), .var 4, .bl false])] [], .ret (.call 3 [.var 2, .var 3, .call 4 [.var 0, .var 3], .var 4, .bl true])] (endsD Q)
      [some (pt bs), some (.ref a), some (pt p), some (hu (nextHull bs m.hull p)), some (.bl (!fitsH bs (joinH m.hull p))), x5] M := fun x5 => by
    rw [wpB_cons]
    simp
    refine att_ins (d := pt m.place) hM (by decide) rfl ?_
    refine ⟨bs, m.place, p, rfl, by omega, ?_⟩
    by_cases hc : coversB bs m.place p = true
    · simp [hc, wpB_cons]
      refine att_ins (d := pt m.place) hM (by decide) rfl ?_
      refine ⟨nextM bs m p, by unfold nextM; rw [if_pos hc], fun x hx => Fin.same (q x hx)⟩
    · simp [hc, wpB_cons, wpB_nil]
      refine ⟨bs, nextHull bs m.hull p, rfl, hbl, fits_next hb, ?_⟩
      refine ⟨nextM bs m p, by unfold nextM; rw [if_neg hc], fun x hx => Fin.same (q x hx)⟩
  rw [wpB_cons]
  by_cases hf : fitsH bs (joinH m.hull p) = true
  · have e : nextHull bs m.hull p = joinH m.hull p := by unfold nextHull; rw [if_pos hf]
    have t := tail none
    rw [e] at t
    simp [hf, wpB_nil] at t ⊢
    exact t
  · have e : nextHull bs m.hull p = hullP p := by unfold nextHull; rw [if_neg hf]
    have t := tail none
    rw [e] at t
    simp [hf]
    rw [wpB_cons]
    simp [itD]
    intro c hc
    refine cmpL_mapf D.int (fun n => pr (n, n)) hc (by omega) (fun _ => True.intro) (fun n hn acc add skip ha => ?_) ?_
    · simp [turnC, wipeD]
      exact ⟨by decide, ha⟩
    have e2 : D.tup (p.map fun n => pr (n, n)) = hu (hullP p) := by simp [hullP]
    rw [Bool.not_eq_true] at hf
    rw [hf] at t
    try dsimp only
    simp only [seqIn_lst]
    rw [e2, wpB_nil]
    exact t
/-! ### boxes, positions -/
def gi_MOST_AXES : GI := ⟨"MOST_AXES", .int 3⟩
@[simp] theorem gi_MOST_AXES_d : gi_MOST_AXES.d = .int 3 := rfl
def gi_MOST_SIZE : GI := ⟨"MOST_SIZE", .int 1000000000⟩
@[simp] theorem gi_MOST_SIZE_d : gi_MOST_SIZE.d = .int 1000000000 := rfl
def gi_FARTHEST_POSITION : GI := ⟨"FARTHEST_POSITION", .int 1000000000000⟩
@[simp] theorem gi_FARTHEST_POSITION_d : gi_FARTHEST_POSITION.d = .int 1000000000000 := rfl
def gi_MOST_REQUESTS : GI := ⟨"MOST_REQUESTS", .int 400⟩
@[simp] theorem gi_MOST_REQUESTS_d : gi_MOST_REQUESTS.d = .int 400 := rfl
def mc_is_box : MC := ⟨["value", "size"], ["is_integer"], ["MOST_AXES", "MOST_SIZE"], [], []⟩
def b_is_box : List CS := [.ifs (.or (.not (.isi .tuple (.var 0))) (.one (.not (.chn .LtE .LtE (.int 1) (.blt .len true [.var 0]) (.glb 0))))) [.ret (.bl false)] [],
    .ret (.blt .all true [.comp true (.call 0 [.var 1, .int 1, .glb 1]) (.nm 1) .seq [.var 0] [1]])]
def cx_is_box : Ctx := ⟨[fi_is_integer], [gi_MOST_AXES, gi_MOST_SIZE], [], []⟩
@[simp] theorem cx_is_box_g0 : cx_is_box.gs[0]? = some gi_MOST_AXES := rfl
@[simp] theorem cx_is_box_g1 : cx_is_box.gs[1]? = some gi_MOST_SIZE := rfl
@[simp] theorem cx_is_box_0 : cx_is_box.fs[0]? = some fi_is_integer := rfl
def boxB (bs : List Int) : Bool := decide (1 ≤ bs.length) && decide (bs.length ≤ 3) && bs.all fun b => decide (1 ≤ b) && decide (b ≤ 1000000000)
/-- of rows of whole numbers -/
def spIsBox : DSp := fun ds M Q _ => ∃ bs : List Int, ds = [pt bs] ∧ bs.length ≤ 1000 ∧ Q (.bl (boxB bs)) M
def fi_is_box : FI := ⟨"is_box", 1, spIsBox⟩
@[simp] theorem fi_is_box_sp : fi_is_box.sp = spIsBox := rfl
theorem wp_is_box {E : EX} {ds : List D} {M : Mp} {Q : QE} {E' : XD → Mp → Prop} (h : spIsBox ds M Q E') : wpB cx_is_box E b_is_box (endsD Q) (startD mc_is_box.N ds) M := by
  obtain ⟨bs, rfl, hl, q⟩ := h
  rw [show startD mc_is_box.N [pt bs] = [some (pt bs), none] from rfl, b_is_box, wpB_cons]
  simp
  by_cases h1 : (1 : Int) ≤ (bs.length : Int)
  · rw [decide_eq_true h1]
    dsimp only
    by_cases h2 : (bs.length : Int) ≤ 3
    · simp [h2, wpB_nil, wpB_cons, itD]
      intro c hc
      refine cmpL_mapf D.int (fun b => .bl (isIntB 1 1000000000 (.int b))) hc (by omega) (fun _ => True.intro) (fun b hb acc add skip ha => ?_) ?_
      · simp [turnC, wipeD]
        exact ⟨.int b, 1, 1000000000, rfl, rfl, ha⟩
      · simp
        have e : boxB bs = bs.all fun n => isIntB 1 1000000000 (.int n) := by
          unfold boxB
          rw [decide_eq_true (by omega), decide_eq_true (by omega), Bool.true_and, Bool.true_and]
          rfl
        rw [e] at q
        exact Fin.same q
    · have e : boxB bs = false := by unfold boxB; rw [decide_eq_false (by omega : ¬ bs.length ≤ 3)]; simp
      rw [e] at q
      simp [h2, wpB_cons]
      exact Fin.same q
  · have e : boxB bs = false := by unfold boxB; rw [decide_eq_false (by omega : ¬ 1 ≤ bs.length)]; simp
    rw [e] at q
    rw [decide_eq_false h1]
    simp [wpB_cons]
    exact Fin.same q
def mc_is_position : MC := ⟨["box", "value"], ["is_point"], ["FARTHEST_POSITION"], [], []⟩
def b_is_position : List CS := [.ret (.call 0 [.var 0, .var 1, .glb 0])]
def cx_is_position : Ctx := ⟨[fi_is_point], [gi_FARTHEST_POSITION], [], []⟩
@[simp] theorem cx_is_position_g0 : cx_is_position.gs[0]? = some gi_FARTHEST_POSITION := rfl
@[simp] theorem cx_is_position_0 : cx_is_position.fs[0]? = some fi_is_point := rfl
def spIsPosition : DSp := fun ds M Q _ => ∃ (d : D) (bs : List Int), ds = [pt bs, d] ∧ d.flx = true ∧ bs.length ≤ 1000 ∧ Q (.bl (pointB bs.length 1000000000000 d)) M
def fi_is_position : FI := ⟨"is_position", 2, spIsPosition⟩
@[simp] theorem fi_is_position_sp : fi_is_position.sp = spIsPosition := rfl
theorem wp_is_position {E : EX} {ds : List D} {M : Mp} {Q : QE} {E' : XD → Mp → Prop} (h : spIsPosition ds M Q E') : wpB cx_is_position E b_is_position (endsD Q) (startD mc_is_position.N ds) M := by
  obtain ⟨d, bs, rfl, hf, hbl, q⟩ := h
  rw [show startD mc_is_position.N [pt bs, d] = [some (pt bs), some d] from rfl, b_is_position, wpB_cons]
  simp
  exact ⟨d, bs, _, rfl, hf, hbl, Fin.same q⟩
/-! ### viewers -/
def viewF (bs : List Int) (q : Addr) : List (Str × D) := [("sizes", pt bs), ("moments", .ref q)]
def mc_Viewer_init : MC := ⟨["self", "box"], ["is_box"], [], [⟨"sizes", ["Viewer"]⟩, ⟨"moments", ["Viewer"]⟩], []⟩
def b_Viewer_init : List CS := [.ifs (.not (.call 0 [.var 1])) [.bad] [],
    .sat 0 (.var 0) (.var 1),
    .sat 1 (.var 0) (.lst false [])]
def cx_Viewer_init : Ctx := ⟨[fi_is_box], [], [ai_sizes, ai_moments], []⟩
@[simp] theorem cx_Viewer_init_a0 : cx_Viewer_init.as[0]? = some ai_sizes := rfl
@[simp] theorem cx_Viewer_init_a1 : cx_Viewer_init.as[1]? = some ai_moments := rfl
@[simp] theorem cx_Viewer_init_0 : cx_Viewer_init.fs[0]? = some fi_is_box := rfl
def spI_Viewer : DSp := fun ds M Q _ => ∃ (x : Addr) (bs : List Int), ds = [.ref x, pt bs] ∧ M x = some (.ins "Viewer" []) ∧ boxB bs = true ∧ ∀ q, M q = none → Q .non ((M.upd q (.lst [])).upd x (.ins "Viewer" (viewF bs q)))
def spViewer : DSp := fun ds M Q _ => ∃ bs : List Int, ds = [pt bs] ∧ boxB bs = true ∧ ∀ x q, M x = none → M q = none → x ≠ q → Q (.ref x) ((M.upd q (.lst [])).upd x (.ins "Viewer" (viewF bs q)))
def fi_Viewer : FI := ⟨"Viewer", 1, spViewer⟩
@[simp] theorem fi_Viewer_sp : fi_Viewer.sp = spViewer := rfl
theorem Mp.upd_comm {M : Mp} {a b : Addr} {o u : MO} (h : a ≠ b) : (M.upd a o).upd b u = (M.upd b u).upd a o := by
  funext c; unfold Mp.upd
  by_cases h1 : c = a
  · subst h1; simp [h]
  · simp [h1]
theorem mk_Viewer : ∀ ds M Q E, fi_Viewer.sp ds M Q E → mkSp "Viewer" spI_Viewer ds M Q E := fun ds M Q E h x hx => by
  obtain ⟨bs, rfl, hb, q⟩ := h
  refine ⟨x, bs, rfl, Mp.upd_same, hb, fun p hp => ⟨rfl, ?_⟩⟩
  have hne : x ≠ p := fun z => by rw [← z, Mp.upd_same] at hp; cases hp
  rw [Mp.upd_ne (fun z => hne z.symm)] at hp
  rw [Mp.upd_comm hne, Mp.upd_upd]
  exact q x p hx hp hne
theorem box_len {bs : List Int} (h : boxB bs = true) : 1 ≤ bs.length ∧ bs.length ≤ 3 ∧ ∀ b ∈ bs, 1 ≤ b ∧ b ≤ 1000000000 := by
  unfold boxB at h
  rw [Bool.and_eq_true, Bool.and_eq_true, decide_eq_true_iff, decide_eq_true_iff, List.all_eq_true] at h
  refine ⟨h.1.1, h.1.2, fun b hb => ?_⟩
  have := h.2 b hb
  rw [Bool.and_eq_true, decide_eq_true_iff, decide_eq_true_iff] at this
  exact this
theorem wp_Viewer_init {E : EX} {ds : List D} {M : Mp} {Q : QE} {E' : XD → Mp → Prop} (h : spI_Viewer ds M Q E') : wpB cx_Viewer_init E b_Viewer_init (endsD Q) (startD mc_Viewer_init.N ds) M := by
  obtain ⟨x, bs, rfl, hx, hb, q⟩ := h
  have hl := (box_len hb).2.1
  rw [show startD mc_Viewer_init.N [.ref x, pt bs] = [some (.ref x), some (pt bs)] from rfl, b_Viewer_init, wpB_cons]
  simp
  refine ⟨bs, rfl, by omega, ?_⟩
  simp [hb, wpB_nil]
  rw [wpB_cons]
  simp
  refine sat_ins hx (by decide) (by decide) ?_
  rw [wpB_cons]
  simp
  intro p hp
  have hpx : x ≠ p := fun z => by rw [← z, Mp.upd_same] at hp; cases hp
  have hp' : M p = none := by rwa [Mp.upd_ne (fun z => hpx z.symm)] at hp
  refine sat_ins (by rw [Mp.upd_ne hpx]; exact Mp.upd_same) (by decide) (Nat.le_of_ble_eq_true rfl) ?_
  simp [wpB_nil]
  rw [Mp.upd_comm hpx, Mp.upd_upd]
  exact Fin.same (q p hp')
/-- the viewer at v: its box, its moments -/
def MomsR (M : Mp) (as : List Addr) (l : List Mom) : Prop := All2 (fun a m => M a = some (.ins "Moment" (momF m))) as l
def ViewR (M : Mp) (v : Addr) (bs : List Int) (l : List Mom) : Prop := ∃ (q : Addr) (as : List Addr), M v = some (.ins "Viewer" (viewF bs q)) ∧ M q = some (.lst (as.map D.ref)) ∧ MomsR M as l
theorem cmp_refnil {q : Addr} {l : List D} {M : Mp} {Q : QE} (h : M q = some (.lst l)) (z : Q (.bl l.isEmpty) M) : cmpD .Eq (.ref q) (.lst []) M Q := by
  show (match M q with | some (.lst l) => Q (.bl (false ^^ l.isEmpty)) M | _ => False)
  rw [h]
  show Q (.bl (false ^^ l.isEmpty)) M
  rw [Bool.false_xor]; exact z
def stepM (bs : List Int) (l : List Mom) (p : List Int) : Mom := match l.getLast? with
  | none => firstM bs p
  | some m => nextM bs m p
def resM (m : Mom) : D := if m.load = true then pt m.place else .non
def mc_Viewer_request : MC := ⟨["self", "position", "moment"], ["is_position", "first_moment", "next_moment"], ["MOST_REQUESTS"], [⟨"sizes", ["Viewer"]⟩, ⟨"moments", ["Viewer"]⟩, ⟨"is_load", ["Moment"]⟩, ⟨"present_place", ["Moment"]⟩], []⟩
def b_Viewer_request : List CS := [.ifs (.not (.call 0 [.att 0 (.var 0), .var 1])) [.bad] [],
    .ifs (.cmp .GtE (.blt .len true [.att 1 (.var 0)]) (.glb 0)) [.bad] [],
    .ifs (.cmp .Eq (.att 1 (.var 0)) (.lst true [])) [.set 2 (.call 1 [.att 0 (.var 0), .var 1])] [.set 2 (.call 2 [.att 0 (.var 0), .ix (.att 1 (.var 0)) (.neg (.int 1)), .var 1])],
    .expr (.mth .append (.att 1 (.var 0)) (.var 2)),
    .ret (.ife (.att 2 (.var 2)) (.att 3 (.var 2)) (.non))]
def cx_Viewer_request : Ctx := ⟨[fi_is_position, fi_first_moment, fi_next_moment], [gi_MOST_REQUESTS], [ai_sizes, ai_moments, ai_is_load, ai_present_place], []⟩
@[simp] theorem cx_Viewer_request_a0 : cx_Viewer_request.as[0]? = some ai_sizes := rfl
@[simp] theorem cx_Viewer_request_a1 : cx_Viewer_request.as[1]? = some ai_moments := rfl
@[simp] theorem cx_Viewer_request_a2 : cx_Viewer_request.as[2]? = some ai_is_load := rfl
@[simp] theorem cx_Viewer_request_a3 : cx_Viewer_request.as[3]? = some ai_present_place := rfl
@[simp] theorem cx_Viewer_request_g0 : cx_Viewer_request.gs[0]? = some gi_MOST_REQUESTS := rfl
@[simp] theorem cx_Viewer_request_0 : cx_Viewer_request.fs[0]? = some fi_is_position := rfl
@[simp] theorem cx_Viewer_request_1 : cx_Viewer_request.fs[1]? = some fi_first_moment := rfl
@[simp] theorem cx_Viewer_request_2 : cx_Viewer_request.fs[2]? = some fi_next_moment := rfl
def spRequest : DSp := fun ds M Q _ => ∃ (v q : Addr) (as : List Addr) (bs p : List Int) (l : List Mom), ds = [.ref v, pt p] ∧ M v = some (.ins "Viewer" (viewF bs q)) ∧ M q = some (.lst (as.map D.ref)) ∧ MomsR M as l ∧ boxB bs = true ∧ p.length = bs.length ∧ (∀ x ∈ p, (x.natAbs : Int) ≤ 10 ^ 12) ∧
  (∀ m ∈ l, m.place.length = bs.length) ∧ l.length < 400 ∧ ∀ x, M x = none → Q (resM (stepM bs l p)) ((M.upd x (.ins "Moment" (momF (stepM bs l p)))).upd q (.lst ((as ++ [x]).map D.ref)))
def mi_Viewer_request : MI := ⟨"Viewer", "request", 2, spRequest⟩
@[simp] theorem mi_Viewer_request_sp : mi_Viewer_request.sp = spRequest := rfl
@[simp] theorem mi_Viewer_request_cls : mi_Viewer_request.cls = "Viewer" := rfl
@[simp] theorem mi_Viewer_request_name : mi_Viewer_request.name = "request" := rfl
theorem wp_Viewer_request {E : EX} {ds : List D} {M : Mp} {Q : QE} {E' : XD → Mp → Prop} (h : spRequest ds M Q E') : wpB cx_Viewer_request E b_Viewer_request (endsD Q) (startD mc_Viewer_request.N ds) M := by
  obtain ⟨v, q, as, bs, p, l, rfl, hv, hq, hm, hb, hp, hpx, hpl, hl, qq⟩ := h
  obtain ⟨hb0, hb3, hb1⟩ := box_len hb
  have hlen := hm.length
  have hpos : pointB bs.length 1000000000000 (pt p) = true := by
    show (decide ((ils p).length = bs.length) && (ils p).all (isIntB (-1000000000000) 1000000000000)) = true
    rw [decide_eq_true (by simpa using hp), Bool.true_and, List.all_eq_true]
    intro d hd
    obtain ⟨i, hi, rfl⟩ := List.mem_map.mp hd
    have := hpx i hi
    rw [isIntB_int, decide_eq_true (by omega), decide_eq_true (by omega)]; rfl
  rw [show startD mc_Viewer_request.N [.ref v, pt p] = [some (.ref v), some (pt p), none] from rfl, b_Viewer_request, wpB_cons]
  simp
  refine att_ins (d := pt bs) hv (by decide) rfl ?_
  refine ⟨pt p, bs, rfl, flx_ils p, by omega, ?_⟩
  rw [hpos]
  simp [wpB_nil]
  rw [wpB_cons]
  simp
  refine att_ins (d := .ref q) hv (by decide) rfl ?_
  have hln : ∀ Q' : QE, lenD (.ref q) M Q' = Q' (.int (as.length : Int)) M := fun Q' => by simp [lenD, hq]
  rw [hln]
  simp
  rw [if_neg (by omega), wpB_nil]
  try dsimp only
  rw [wpB_cons]
  simp
  refine att_ins (d := .ref q) hv (by decide) rfl ?_
  refine cmp_refnil hq ?_
  have tail : ∀ m x, M x = none → m = stepM bs l p → wpB cx_Viewer_request E [.expr (.mth .append (.att 1 (.var 0)) (.var 2)), .ret (.ife (.att 2 (.var 2)) (.att 3 (.var 2)) (.non))] (endsD Q) [some (.ref v), some (pt p), some (.ref x)] (M.upd x (.ins "Moment" (momF m))) := by
    intro m x hx hmm
    have hvx : v ≠ x := fun z => by rw [z, hx] at hv; cases hv
    have hqx : q ≠ x := fun z => by rw [z, hx] at hq; cases hq
    rw [wpB_cons]
    simp
    refine att_ins (d := .ref q) ((Mp.upd_ne hvx).trans hv) (by decide) rfl ?_
    have hq1 : (M.upd x (.ins "Moment" (momF m))) q = some (.lst (as.map D.ref)) := (Mp.upd_ne hqx).trans hq
    simp [hq1]
    refine ⟨by have := sz (n := as.length + 1) (by omega); omega, ?_⟩
    rw [wpB_cons]
    simp
    have hx2 : ((M.upd x (.ins "Moment" (momF m))).upd q (.lst (as.map D.ref ++ [.ref x]))) x = some (.ins "Moment" (momF m)) := (Mp.upd_ne (fun z => hqx z.symm)).trans Mp.upd_same
    refine att_ins (d := .bl m.load) hx2 (by decide) rfl ?_
    have q' := qq x hx
    rw [← hmm] at q'
    unfold resM at q'
    rw [List.map_append] at q'
    by_cases hld : m.load = true
    · simp [hld] at q' ⊢
      refine att_ins (d := pt m.place) hx2 (by decide) rfl ?_
      exact Fin.same q'
    · simp [hld] at q' ⊢
      exact Fin.same q'
  try dsimp only
  rcases List.eq_nil_or_concat l with h0 | ⟨l0, m, h0⟩
  · subst h0
    have ha : as = [] := List.length_eq_zero_iff.mp (by simpa using hlen)
    rw [ha]
    simp
    rw [wpB_cons]
    simp
    refine att_ins (d := pt bs) hv (by decide) rfl ?_
    refine ⟨bs, p, rfl, hp, by omega, fun b hb' => (hb1 b hb').1, fun x hx => ?_⟩
    simp [wpB_nil]
    exact tail _ x hx rfl
  · rcases List.eq_nil_or_concat as with h1 | ⟨as0, a, h1⟩
    · rw [h1, h0] at hlen; simp at hlen
    · rw [List.concat_eq_append] at h0 h1
      subst h0 h1
      have hl2 : as0.length = l0.length := by simpa using hlen
      have hma : M a = some (.ins "Moment" (momF m)) := by
        have := All2.get hm (i := as0.length) (by simp) (by simp; omega)
        simp [hl2] at this
        simpa [← hl2] using this
      have hmp := hpl m (by simp)
      rw [show ((as0 ++ [a]).map D.ref).isEmpty = false by simp]
      simp
      rw [wpB_cons]
      simp
      refine att_ins (d := pt bs) hv (by decide) rfl ?_
      refine att_ins (d := .ref q) hv (by decide) rfl ?_
      have hq' : M q = some (.lst (as0.map D.ref ++ [.ref a])) := by simpa using hq
      simp [hq', atI_last]
      refine ⟨bs, p, a, m, rfl, hma, hp, hmp, by omega, fun b hb' => (hb1 b hb').1, fun x hx => ?_⟩
      simp [wpB_nil]
      have e : nextM bs m p = stepM bs (l0 ++ [m]) p := by simp [stepM]
      exact tail _ x hx e
theorem cmp_refnilN {q : Addr} {l : List D} {M : Mp} {Q : QE} (h : M q = some (.lst l)) (z : Q (.bl (!l.isEmpty)) M) : cmpD .NotEq (.ref q) (.lst []) M Q := by
  show (match M q with | some (.lst l) => Q (.bl (true ^^ l.isEmpty)) M | _ => False)
  rw [h]
  show Q (.bl (true ^^ l.isEmpty)) M
  rw [Bool.true_xor]; exact z
def lastD (f : Mom → D) (l : List Mom) : D := match l.getLast? with
  | none => .non
  | some m => f m
/-- what stands at the last moment -/
def spLastV (f : Mom → D) : DSp := fun ds M Q _ => ∃ (v q : Addr) (as : List Addr) (bs : List Int) (l : List Mom), ds = [.ref v] ∧ M v = some (.ins "Viewer" (viewF bs q)) ∧ M q = some (.lst (as.map D.ref)) ∧ MomsR M as l ∧ Q (lastD f l) M
theorem moms_last {M : Mp} {as : List Addr} {l : List Mom} (h : MomsR M as l) : (as = [] ∧ l = []) ∨ ∃ as0 a l0 m, as = as0 ++ [a] ∧ l = l0 ++ [m] ∧ M a = some (.ins "Moment" (momF m)) := by
  have hlen := h.length
  rcases List.eq_nil_or_concat l with h0 | ⟨l0, m, h0⟩
  · subst h0
    exact .inl ⟨List.length_eq_zero_iff.mp (by simpa using hlen), rfl⟩
  · rcases List.eq_nil_or_concat as with h1 | ⟨as0, a, h1⟩
    · rw [h1, h0] at hlen; simp at hlen
    · rw [List.concat_eq_append] at h0 h1
      subst h0 h1
      have hl2 : as0.length = l0.length := by simpa using hlen
      refine .inr ⟨as0, a, l0, m, rfl, rfl, ?_⟩
      have := All2.get h (i := as0.length) (by simp) (by simp; omega)
      simp [hl2] at this
      simpa [← hl2] using this
def mc_Viewer_place : MC := ⟨["self"], [], [], [⟨"moments", ["Viewer"]⟩, ⟨"present_place", ["Moment"]⟩], []⟩
def b_Viewer_place : List CS := [.ret (.ife (.cmp .NotEq (.att 0 (.var 0)) (.lst true [])) (.att 1 (.ix (.att 0 (.var 0)) (.neg (.int 1)))) (.non))]
def cx_Viewer_place : Ctx := ⟨[], [], [ai_moments, ai_present_place], []⟩
@[simp] theorem cx_Viewer_place_a0 : cx_Viewer_place.as[0]? = some ai_moments := rfl
@[simp] theorem cx_Viewer_place_a1 : cx_Viewer_place.as[1]? = some ai_present_place := rfl
def mi_Viewer_place : MI := ⟨"Viewer", "place", 1, (spLastV fun m => pt m.place)⟩
@[simp] theorem mi_Viewer_place_sp : mi_Viewer_place.sp = (spLastV fun m => pt m.place) := rfl
@[simp] theorem mi_Viewer_place_cls : mi_Viewer_place.cls = "Viewer" := rfl
@[simp] theorem mi_Viewer_place_name : mi_Viewer_place.name = "place" := rfl
theorem wp_last {ai : AI} {g : Mom → D} {C : Ctx} {E : EX} {ds : List D} {M : Mp} {Q : QE} {E' : XD → Mp → Prop} (hC0 : C.as[0]? = some ai_moments) (hC1 : C.as[1]? = some ai) (hg : ∀ m, (momF m).lookup ai.f = some (g m)) (hc : ("Moment" : Str) ∈ ai.cs) (h : spLastV g ds M Q E') : wpB C E b_Viewer_place (endsD Q) (startD ["self"] ds) M := by
  obtain ⟨v, q, as, bs, l, rfl, hv, hq, hm, z⟩ := h
  rw [show startD ["self"] [.ref v] = [some (.ref v)] from rfl, b_Viewer_place, wpB_cons]
  simp [hC0, hC1]
  refine att_ins (d := .ref q) hv (by decide) rfl ?_
  refine cmp_refnilN hq ?_
  rcases moms_last hm with ⟨rfl, rfl⟩ | ⟨as0, a, l0, m, rfl, rfl, ha⟩
  · simp
    exact Fin.same z
  · rw [show ((as0 ++ [a]).map D.ref).isEmpty = false by simp]
    simp
    refine att_ins (d := .ref q) hv (by decide) rfl ?_
    have hq' : M q = some (.lst (as0.map D.ref ++ [.ref a])) := by simpa using hq
    simp [hq', atI_last]
    refine att_ins (d := g m) ha hc (hg m) ?_
    have e : lastD g (l0 ++ [m]) = g m := by simp [lastD]
    rw [e] at z
    exact Fin.same z
theorem wp_Viewer_place {E : EX} {ds : List D} {M : Mp} {Q : QE} {E' : XD → Mp → Prop} (h : spLastV (fun m => pt m.place) ds M Q E') : wpB cx_Viewer_place E b_Viewer_place (endsD Q) (startD mc_Viewer_place.N ds) M :=
  wp_last (ai := ai_present_place) rfl rfl (fun _ => rfl) (by decide) h
def mc_Viewer_present_hull : MC := ⟨["self"], [], [], [⟨"moments", ["Viewer"]⟩, ⟨"phase_hull", ["Moment"]⟩], []⟩
def b_Viewer_present_hull : List CS := [.ret (.ife (.cmp .NotEq (.att 0 (.var 0)) (.lst true [])) (.att 1 (.ix (.att 0 (.var 0)) (.neg (.int 1)))) (.non))]
def cx_Viewer_present_hull : Ctx := ⟨[], [], [ai_moments, ai_phase_hull], []⟩
@[simp] theorem cx_Viewer_present_hull_a0 : cx_Viewer_present_hull.as[0]? = some ai_moments := rfl
@[simp] theorem cx_Viewer_present_hull_a1 : cx_Viewer_present_hull.as[1]? = some ai_phase_hull := rfl
def mi_Viewer_present_hull : MI := ⟨"Viewer", "present_hull", 1, (spLastV fun m => hu m.hull)⟩
@[simp] theorem mi_Viewer_present_hull_sp : mi_Viewer_present_hull.sp = (spLastV fun m => hu m.hull) := rfl
@[simp] theorem mi_Viewer_present_hull_cls : mi_Viewer_present_hull.cls = "Viewer" := rfl
@[simp] theorem mi_Viewer_present_hull_name : mi_Viewer_present_hull.name = "present_hull" := rfl
theorem wp_Viewer_present_hull {E : EX} {ds : List D} {M : Mp} {Q : QE} {E' : XD → Mp → Prop} (h : spLastV (fun m => hu m.hull) ds M Q E') : wpB cx_Viewer_present_hull E b_Viewer_present_hull (endsD Q) (startD mc_Viewer_present_hull.N ds) M :=
  wp_last (ai := ai_phase_hull) rfl rfl (fun _ => rfl) (by decide) h
def mc_Viewer_left : MC := ⟨["self"], ["forced"], [], [⟨"moments", ["Viewer"]⟩, ⟨"sizes", ["Viewer"]⟩], [("Viewer", "present_hull"), ("Viewer", "place")]⟩
def b_Viewer_left : List CS := [.ifs (.cmp .Eq (.att 0 (.var 0)) (.lst true [])) [.ret (.non)] [],
    .ret (.call 0 [.att 1 (.var 0), .mcl 0 (.var 0) [], .mcl 1 (.var 0) []])]
def cx_Viewer_left : Ctx := ⟨[fi_forced], [], [ai_moments, ai_sizes], [mi_Viewer_present_hull, mi_Viewer_place]⟩
@[simp] theorem cx_Viewer_left_a0 : cx_Viewer_left.as[0]? = some ai_moments := rfl
@[simp] theorem cx_Viewer_left_a1 : cx_Viewer_left.as[1]? = some ai_sizes := rfl
@[simp] theorem cx_Viewer_left_m0 : cx_Viewer_left.ms[0]? = some mi_Viewer_present_hull := rfl
@[simp] theorem cx_Viewer_left_m1 : cx_Viewer_left.ms[1]? = some mi_Viewer_place := rfl
@[simp] theorem cx_Viewer_left_0 : cx_Viewer_left.fs[0]? = some fi_forced := rfl
/-- a moment of a box: its hull fits, its place has as many numbers -/
def MomOk (bs : List Int) (m : Mom) : Prop := m.hull.length = bs.length ∧ m.place.length = bs.length ∧ fitsH bs m.hull = true
def spLeft : DSp := fun ds M Q _ => ∃ (v q : Addr) (as : List Addr) (bs : List Int) (l : List Mom), ds = [.ref v] ∧ M v = some (.ins "Viewer" (viewF bs q)) ∧ M q = some (.lst (as.map D.ref)) ∧ MomsR M as l ∧ bs.length ≤ 1000 ∧ (∀ m ∈ l, MomOk bs m) ∧ Q (lastD (fun m => .int (forcedP bs m.hull m.place)) l) M
def mi_Viewer_left : MI := ⟨"Viewer", "left", 1, spLeft⟩
@[simp] theorem mi_Viewer_left_sp : mi_Viewer_left.sp = spLeft := rfl
@[simp] theorem mi_Viewer_left_cls : mi_Viewer_left.cls = "Viewer" := rfl
@[simp] theorem mi_Viewer_left_name : mi_Viewer_left.name = "left" := rfl
theorem wp_Viewer_left {E : EX} {ds : List D} {M : Mp} {Q : QE} {E' : XD → Mp → Prop} (h : spLeft ds M Q E') : wpB cx_Viewer_left E b_Viewer_left (endsD Q) (startD mc_Viewer_left.N ds) M := by
  obtain ⟨v, q, as, bs, l, rfl, hv, hq, hm, hbl, hok, z⟩ := h
  rw [show startD mc_Viewer_left.N [.ref v] = [some (.ref v)] from rfl, b_Viewer_left, wpB_cons]
  simp
  refine att_ins (d := .ref q) hv (by decide) rfl ?_
  refine cmp_refnil hq ?_
  have hm' := hm
  rcases moms_last hm with ⟨rfl, rfl⟩ | ⟨as0, a, l0, m, rfl, rfl, ha⟩
  · simp [wpB_cons]
    exact Fin.same z
  · rw [show ((as0 ++ [a]).map D.ref).isEmpty = false by simp]
    simp [wpB_nil, wpB_cons]
    obtain ⟨o1, o2, o3⟩ := hok m (by simp)
    have e1 : ∀ g : Mom → D, lastD g (l0 ++ [m]) = g m := fun g => by simp [lastD]
    refine att_ins (d := pt bs) hv (by decide) rfl ?_
    refine ⟨⟨v, viewF bs q, rfl, hv, rfl⟩, ?_⟩
    refine ⟨v, q, as0 ++ [a], bs, l0 ++ [m], rfl, hv, hq, hm', ?_⟩
    rw [e1]
    refine ⟨⟨v, viewF bs q, rfl, hv, rfl⟩, ?_⟩
    refine ⟨v, q, as0 ++ [a], bs, l0 ++ [m], rfl, hv, hq, hm', ?_⟩
    rw [e1]
    rw [e1] at z
    exact ⟨bs, m.hull, m.place, rfl, hbl, by omega, by omega, o3, Fin.same z⟩
def mc_Viewer_log : MC := ⟨["self", "moment"], [], [], [⟨"moments", ["Viewer"]⟩, ⟨"position", ["Moment"]⟩], []⟩
def b_Viewer_log : List CS := [.ret (.blt .tuple true [.comp true (.att 1 (.var 1)) (.nm 1) .seq [.att 0 (.var 0)] [1]])]
def cx_Viewer_log : Ctx := ⟨[], [], [ai_moments, ai_position], []⟩
@[simp] theorem cx_Viewer_log_a0 : cx_Viewer_log.as[0]? = some ai_moments := rfl
@[simp] theorem cx_Viewer_log_a1 : cx_Viewer_log.as[1]? = some ai_position := rfl
def spLogV : DSp := fun ds M Q _ => ∃ (v q : Addr) (as : List Addr) (bs : List Int) (l : List Mom), ds = [.ref v] ∧ M v = some (.ins "Viewer" (viewF bs q)) ∧ M q = some (.lst (as.map D.ref)) ∧ MomsR M as l ∧ l.length ≤ 1000 ∧ Q (lg (l.map (·.pos))) M
def mi_Viewer_log : MI := ⟨"Viewer", "log", 1, spLogV⟩
@[simp] theorem mi_Viewer_log_sp : mi_Viewer_log.sp = spLogV := rfl
@[simp] theorem mi_Viewer_log_cls : mi_Viewer_log.cls = "Viewer" := rfl
@[simp] theorem mi_Viewer_log_name : mi_Viewer_log.name = "log" := rfl
/-- what a moment's address holds under a name -/
def heldD (M : Mp) (f : Str) : D → D
  | .ref a => (match M a with
    | some (.ins _ fs) => (fs.lookup f).getD .non
    | _ => .non)
  | _ => .non
theorem held_map {M : Mp} {f : Str} {g : Mom → D} (hg : ∀ m, (momF m).lookup f = some (g m)) : ∀ {as : List Addr} {l : List Mom}, MomsR M as l → (as.map D.ref).map (heldD M f) = l.map g
  | [], [], _ => rfl
  | a :: as, m :: l, h => by
    have h1 : M a = some (.ins "Moment" (momF m)) := h.1
    rw [List.map_cons, List.map_cons, List.map_cons, held_map hg h.2]
    have e : heldD M f (.ref a) = g m := by
      show (match M a with | some (.ins _ fs) => (fs.lookup f).getD .non | _ => .non) = _
      rw [h1]
      show ((momF m).lookup f).getD .non = _
      rw [hg]; rfl
    rw [e]
theorem wp_Viewer_log {E : EX} {ds : List D} {M : Mp} {Q : QE} {E' : XD → Mp → Prop} (h : spLogV ds M Q E') : wpB cx_Viewer_log E b_Viewer_log (endsD Q) (startD mc_Viewer_log.N ds) M := by
  obtain ⟨v, q, as, bs, l, rfl, hv, hq, hm, hl, z⟩ := h
  have hlen := hm.length
  rw [show startD mc_Viewer_log.N [.ref v] = [some (.ref v), none] from rfl, b_Viewer_log, wpB_cons]
  simp [itD]
  refine att_ins (d := .ref q) hv (by decide) rfl ?_
  simp [hq]
  intro p hp
  have hqp : q ≠ p := fun e => by rw [e, hp] at hq; cases hq
  refine cmpL_map (heldD M "position") hp (by have := sz (n := as.length) (by omega); simpa using this) (fun acc => ?_) (fun x hx acc add skip ha => ?_) ?_
  · exact ⟨Mp.upd_ne hqp, trivial⟩
  · obtain ⟨a, haa, rfl⟩ := List.mem_map.mp hx
    obtain ⟨m, hml, hma⟩ := All2.left hm a haa
    have hap : a ≠ p := fun e => by rw [e, hp] at hma; cases hma
    have e : heldD M "position" (.ref a) = pt m.pos := by
      unfold heldD
      dsimp only
      rw [hma]; rfl
    rw [e] at ha
    simp [turnC, wipeD]
    exact att_ins (d := pt m.pos) ((Mp.upd_ne hap).trans hma) (by decide) rfl ha
  · rw [held_map (g := fun m => pt m.pos) (fun _ => rfl) hm]
    simp
    have e : lg (l.map (·.pos)) = .tup (l.map fun m => pt m.pos) := by simp
    rw [e] at z
    exact Fin.same z
/-- a comprehension with a test, over a list that is read from memory -/
theorem cmpL_filtD {ok : Mp → Prop} {turn : D → Mp → QE → (Mp → Prop) → Prop} {p : Addr} {Q : QE} (g : D → D) (c : D → Bool) {l : List D} {M : Mp} (hp : M p = none) (hl : l.length ≤ 16777216) (hok : ∀ acc, ok (M.upd p (.lst acc)))
    (h : ∀ x ∈ l, ∀ acc (add : QE) (skip : Mp → Prop), (c x = true → add (g x) (M.upd p (.lst acc))) → (c x = false → skip (M.upd p (.lst acc))) → turn x (M.upd p (.lst acc)) add skip) (q : Q (.lst ((l.filter c).map g)) M) : cmpL true ok turn p Q l (M.upd p (.lst [])) := by
  refine cmpL_ind (fun r acc M' => M' = M.upd p (.lst acc) ∧ ∃ l1, l1 ++ r = l ∧ acc = (l1.filter c).map g) (fun r acc M' z => by rw [z.1]; exact ⟨hok _, Mp.upd_same⟩) (fun x r acc M' z add skip ha hs => ?_) (fun acc M' z => ?_) _ [] _ ⟨rfl, [], rfl, rfl⟩
  · obtain ⟨rfl, l1, e1, rfl⟩ := z
    have hlen := congrArg List.length e1
    rw [List.length_append, List.length_cons] at hlen
    have hfl := List.length_filter_le c l1
    refine h x (by rw [← e1]; simp) _ add skip (fun hc => ha _ _ Mp.upd_same ?_ ⟨Mp.upd_upd, l1 ++ [x], by simpa using e1, by simp [hc]⟩) fun hc => hs _ ⟨rfl, l1 ++ [x], by simpa using e1, by simp [hc]⟩
    rw [List.length_map]
    have := sz (n := l1.length + 1) (by omega)
    omega
  · obtain ⟨rfl, l1, e1, rfl⟩ := z
    rw [List.append_nil] at e1
    subst e1
    rw [if_pos rfl, Mp.del_upd hp]
    exact q
def tagB (M : Mp) (f : Str) : D → Bool
  | .tup [_, d] => (match heldD M f d with
    | .bl b => b
    | _ => false)
  | _ => false
def fstD : D → D
  | .tup [i, _] => i
  | _ => .non
/-- the numbers of the moments of a kind -/
def numsL (b : Mom → Bool) (l : List Mom) (k : Nat) : List Int := ((l.zipIdx k).filter fun t => b t.1).map fun t => (t.2 : Int)
theorem tag_map {M : Mp} {f : Str} {b : Mom → Bool} (hg : ∀ m, (momF m).lookup f = some (.bl (b m))) : ∀ {as : List Addr} {l : List Mom} (k : Nat), MomsR M as l → ((((as.map D.ref).zipIdx k).map fun p => D.tup [.int (p.2 : Int), p.1]).filter (tagB M f)).map fstD = ils (numsL b l k)
  | [], [], k, _ => rfl
  | a :: as, m :: l, k, h => by
    have h1 : M a = some (.ins "Moment" (momF m)) := h.1
    have ih := tag_map hg (as := as) (l := l) (k + 1) h.2
    have e : tagB M f (.tup [.int (k : Int), .ref a]) = b m := by
      unfold tagB heldD
      dsimp only
      rw [h1]
      dsimp only
      rw [hg]
      rfl
    rw [List.map_cons, List.zipIdx_cons, List.map_cons, List.filter_cons, e]
    unfold numsL at ih ⊢
    rw [List.zipIdx_cons, List.filter_cons]
    cases hb : b m with
    | true => simp [hb, fstD] at ih ⊢; exact ih
    | false => simp [hb] at ih ⊢; exact ih
def mc_Viewer_phases : MC := ⟨["self", "number", "moment"], [], [], [⟨"moments", ["Viewer"]⟩, ⟨"begins_phase", ["Moment"]⟩], []⟩
def b_Viewer_phases : List CS := [.ret (.blt .tuple true [.compIf true (.var 1) (.att 1 (.var 2)) (.tup [.nm 1, .nm 2]) .enum [.att 0 (.var 0)] [1, 2]])]
def cx_Viewer_phases : Ctx := ⟨[], [], [ai_moments, ai_begins_phase], []⟩
@[simp] theorem cx_Viewer_phases_a0 : cx_Viewer_phases.as[0]? = some ai_moments := rfl
@[simp] theorem cx_Viewer_phases_a1 : cx_Viewer_phases.as[1]? = some ai_begins_phase := rfl
def spNums (b : Mom → Bool) : DSp := fun ds M Q _ => ∃ (v q : Addr) (as : List Addr) (bs : List Int) (l : List Mom), ds = [.ref v] ∧ M v = some (.ins "Viewer" (viewF bs q)) ∧ M q = some (.lst (as.map D.ref)) ∧ MomsR M as l ∧ l.length ≤ 1000 ∧ Q (pt (numsL b l 0)) M
def mi_Viewer_phases : MI := ⟨"Viewer", "phases", 1, (spNums Mom.begins)⟩
@[simp] theorem mi_Viewer_phases_sp : mi_Viewer_phases.sp = (spNums Mom.begins) := rfl
@[simp] theorem mi_Viewer_phases_cls : mi_Viewer_phases.cls = "Viewer" := rfl
@[simp] theorem mi_Viewer_phases_name : mi_Viewer_phases.name = "phases" := rfl
theorem wp_nums {ai : AI} {b : Mom → Bool} {C : Ctx} {E : EX} {ds : List D} {M : Mp} {Q : QE} {E' : XD → Mp → Prop} (hC0 : C.as[0]? = some ai_moments) (hC1 : C.as[1]? = some ai) (hg : ∀ m, (momF m).lookup ai.f = some (.bl (b m))) (hc : ("Moment" : Str) ∈ ai.cs) (h : spNums b ds M Q E') : wpB C E b_Viewer_phases (endsD Q) (startD ["self", "number", "moment"] ds) M := by
  obtain ⟨v, q, as, bs, l, rfl, hv, hq, hm, hl, z⟩ := h
  have hlen := hm.length
  rw [show startD ["self", "number", "moment"] [.ref v] = [some (.ref v), none, none] from rfl, b_Viewer_phases, wpB_cons]
  simp [itD, hC0, hC1]
  refine att_ins (d := .ref q) hv (by decide) rfl ?_
  simp [hq, enumD]
  intro p hp
  have hqp : q ≠ p := fun e => by rw [e, hp] at hq; cases hq
  refine cmpL_filtD fstD (tagB M ai.f) hp (by simp; omega) (fun acc => ⟨Mp.upd_ne hqp, trivial⟩) (fun x hx acc add skip ha hs => ?_) ?_
  · obtain ⟨t, ht, rfl⟩ := List.mem_map.mp hx
    have h1 := (List.mem_zipIdx ht).2.2
    have h2 : t.1 ∈ as.map D.ref := by rw [h1]; exact List.getElem_mem _
    obtain ⟨a, haa, e⟩ := List.mem_map.mp h2
    obtain ⟨m, hml, hma⟩ := All2.left hm a haa
    have hap : a ≠ p := fun e => by rw [e, hp] at hma; cases hma
    have et : tagB M ai.f (.tup [.int (t.2 : Int), t.1]) = b m := by
      rw [← e]
      unfold tagB heldD
      dsimp only
      rw [hma]
      dsimp only
      rw [hg]
      rfl
    rw [et] at ha hs
    simp [turnC, wipeD, hC1, ← e]
    refine att_ins (d := .bl (b m)) ((Mp.upd_ne hap).trans hma) hc (hg m) ?_
    cases hbm : b m with
    | true => simpa [fstD] using ha hbm
    | false => simpa using hs hbm
  · rw [tag_map hg 0 hm]
    simp
    exact Fin.same (by simpa using z)
theorem wp_Viewer_phases {E : EX} {ds : List D} {M : Mp} {Q : QE} {E' : XD → Mp → Prop} (h : spNums Mom.begins ds M Q E') : wpB cx_Viewer_phases E b_Viewer_phases (endsD Q) (startD mc_Viewer_phases.N ds) M :=
  wp_nums (ai := ai_begins_phase) rfl rfl (fun _ => rfl) (by decide) h
def mc_Viewer_loads : MC := ⟨["self", "number", "moment"], [], [], [⟨"moments", ["Viewer"]⟩, ⟨"is_load", ["Moment"]⟩], []⟩
def b_Viewer_loads : List CS := [.ret (.blt .tuple true [.compIf true (.var 1) (.att 1 (.var 2)) (.tup [.nm 1, .nm 2]) .enum [.att 0 (.var 0)] [1, 2]])]
def cx_Viewer_loads : Ctx := ⟨[], [], [ai_moments, ai_is_load], []⟩
@[simp] theorem cx_Viewer_loads_a0 : cx_Viewer_loads.as[0]? = some ai_moments := rfl
@[simp] theorem cx_Viewer_loads_a1 : cx_Viewer_loads.as[1]? = some ai_is_load := rfl
def mi_Viewer_loads : MI := ⟨"Viewer", "loads", 1, (spNums Mom.load)⟩
@[simp] theorem mi_Viewer_loads_sp : mi_Viewer_loads.sp = (spNums Mom.load) := rfl
@[simp] theorem mi_Viewer_loads_cls : mi_Viewer_loads.cls = "Viewer" := rfl
@[simp] theorem mi_Viewer_loads_name : mi_Viewer_loads.name = "loads" := rfl
theorem wp_Viewer_loads {E : EX} {ds : List D} {M : Mp} {Q : QE} {E' : XD → Mp → Prop} (h : spNums Mom.load ds M Q E') : wpB cx_Viewer_loads E b_Viewer_loads (endsD Q) (startD mc_Viewer_loads.N ds) M :=
  wp_nums (ai := ai_is_load) rfl rfl (fun _ => rfl) (by decide) h
end Ow

namespace Ow
open PySem PySem.Spec PyProof.Rows L2
/-! ### the law's own look at hulls and outcomes -/
def mc_q_span_of : MC := ⟨["_law_log", "_law_found", "_law_axis", "_law_line", "_law_one"], [], [], [], []⟩
def b_q_span_of : List CS := [.set 1 (.lst false []),
    .for (.nm 2) .rng1 [.blt .len true [.ix (.var 0) (.int 0)]] [.setLc 3 (.comp true (.ix (.var 4) (.var 2)) (.nm 4) .seq [.var 0] [4]), .expr (.mth .append (.var 1) (.tup [.blt .min true [.var 3], .blt .max true [.var 3]]))],
    .ret (.blt .tuple true [.var 1])]
def spSpanOf : DSp := fun ds M Q _ => ∃ (log : List (List Int)) (a : Nat), ds = [lg log] ∧ log ≠ [] ∧ log.length ≤ 100000 ∧ a ≤ 1000 ∧ (∀ p ∈ log, p.length = a) ∧ Q (hu (wideH log)) M
def fi_q_span_of : FI := ⟨"_law_span_of", 1, spSpanOf⟩
@[simp] theorem fi_q_span_of_sp : fi_q_span_of.sp = spSpanOf := rfl
theorem wp_q_span_of {C : Ctx} {E : EX} {ds : List D} {M : Mp} {Q : QE} {E' : XD → Mp → Prop} (h : spSpanOf ds M Q E') : wpB C E b_q_span_of (endsD Q) (startD mc_q_span_of.N ds) M := by
  obtain ⟨log, a, rfl, h0, hl, ha, hp, q⟩ := h
  rw [show startD mc_q_span_of.N [lg log] = [some (lg log), none, none, none, none] from rfl, b_q_span_of, wpB_cons]
  simp
  intro c hc
  rw [wpB_cons]
  obtain ⟨p0, r0, e0⟩ : ∃ p0 r0, log = p0 :: r0 := by
    cases log with
    | nil => exact absurd rfl h0
    | cons p r => exact ⟨p, r, rfl⟩
  have hp0 : p0.length = a := hp p0 (by rw [e0]; exact List.mem_cons_self)
  have e1 : atI (log.map pt) 0 = some (pt p0) := by rw [e0]; exact atI_z
  simp [itD, e1, hp0]
  refine ⟨⟨by omega, by omega⟩, ?_⟩
  refine forD_map (fun (i : Nat) => D.int (i : Int)) (fun j => pr (minL (col j log), maxL (col j log))) (fun ρ => ∃ x2 x3 x4, ρ = [some (lg log), some (.ref c), x2, x3, x4]) (fun _ => True.intro) (fun j hj acc ρ hacc hS nx hnx => ?_) (fun ρ hS => ?_) ⟨_, _, _, rfl⟩
  · obtain ⟨x2, x3, x4, rfl⟩ := hS
    rw [List.mem_range] at hj
    rw [List.length_range] at hacc
    simp [wpB_cons, itD]
    intro c2 hc2
    refine cmpL_mapf pt (fun p => .int (p.getD j 0)) hc2 (by omega) (fun _ => True.intro) (fun p hpm acc2 add skip hadd => ?_) ?_
    · have hpl := hp p hpm
      simp [turnC, wipeD]
      rw [atI_nat (by simpa [hpl] using hj)]
      simpa [List.getD_eq_getElem?_getD, List.getElem?_eq_getElem (show j < p.length by omega)] using hadd
    · rw [show log.map (fun p => D.int (p.getD j 0)) = ils (col j log) by simp [col, ils]]
      have hne : col j log ≠ [] := by rw [e0]; simp [col]
      simp [hne, wpB_nil]
      exact ⟨by decide, by have := sz (n := acc.length + 1) (by omega); omega, hnx _ ⟨_, _, _, rfl⟩⟩
  · obtain ⟨x2, x3, x4, rfl⟩ := hS
    simp [wpB_cons]
    rw [wideH_cols h0 hp] at q
    have eh : hu ((List.range a).map fun j => (minL (col j log), maxL (col j log))) = .tup ((List.range a).map fun j => pr (minL (col j log), maxL (col j log))) := by simp
    rw [eh] at q
    exact Fin.sub (M' := M) (Mp.sub_upd hc) q
theorem zip3_bhp (bs : List Int) (h : List (Int × Int)) (pl : List Int) : ((bs.map D.int).zip ((h.map pr).zip (pl.map D.int))).map (fun p => D.tup [p.1, p.2.1, p.2.2]) = (bs.zip (h.zip pl)).map fun t => D.tup [.int t.1, pr t.2.1, .int t.2.2] := by
  rw [List.zip_map, List.zip_map, List.map_map]; rfl
theorem zip_turn {α β γ : Type} : ∀ (a : List α) (b : List β) (c : List γ), c.zip (a.zip b) = (a.zip (b.zip c)).map fun t => (t.2.2, (t.1, t.2.1))
  | [], _, c => by simp
  | _ :: _, [], c => by simp
  | _ :: _, _ :: _, [] => by simp
  | x :: a, y :: b, z :: c => by
    rw [List.zip_cons_cons, List.zip_cons_cons, List.zip_cons_cons, List.zip_cons_cons, List.map_cons, zip_turn a b c]
theorem fits_zip {bs : List Int} {h : List (Int × Int)} (hf : fitsH bs h = true) : ∀ t ∈ bs.zip h, t.2.2 - t.2.1 < t.1 := fun t ht => by
  unfold fitsH at hf
  rw [zip_swap' h bs, List.all_map, List.all_eq_true] at hf
  simpa using hf t ht
theorem value_zip (bs : List Int) (h : List (Int × Int)) : valueOf (slackP bs h) = ((bs.zip h).map fun t => ib (t.1 - (t.2.2 - t.2.1)) - 1).sum := by
  unfold valueOf slackP
  rw [zip_swap' h bs, List.map_map, List.map_map]; rfl
/-- the outcome at a place that covers the hull -/
def leftL (bs : List Int) (h : List (Int × Int)) (pl : List Int) : Int := maxL (forcedL (valueOf (slackP bs h)) (pl.zip (placesP bs h)))
theorem forced_left {bs : List Int} {h : List (Int × Int)} {pl : List Int} (ho : overB bs h pl = true) : forcedP bs h pl = leftL bs h pl := by
  unfold forcedP; rw [if_pos ho]; rfl
theorem maxL_app : ∀ (l r : List Int) (x : Int), maxL (x :: (l ++ r)) = maxL (maxL (x :: l) :: r) := by
  intro l r x
  show List.foldl _ _ _ = List.foldl _ (List.foldl _ _ _) _
  rw [List.foldl_append]
def mc_q_left : MC := ⟨["_law_box_here", "_law_hull", "_law_place", "_law_best", "_law_value", "_law_size", "_law_here", "_law_rest", "_law_side", "_law_low", "_law_high"], ["_law_bits"], [], [], []⟩
def b_q_left : List CS := [.asg (.tup [.nm 3, .nm 4]) (.tup [.int 0, .int 0]),
    .for (.tup [.nm 5, .tup [.nm 9, .nm 10]]) .zip2 [.var 0, .var 1] [.set 4 (.bin .Add true (.var 4) (.call 0 [.bin .Add true (.bin .Sub true (.var 5) (.var 10)) (.var 9)]))],
    .for (.tup [.nm 5, .tup [.nm 9, .nm 10], .nm 6]) .zip3 [.var 0, .var 1, .var 2] [.set 7 (.bin .Sub true (.var 4) (.call 0 [.bin .Add true (.bin .Sub true (.var 5) (.var 10)) (.var 9)])), .for (.nm 8) .seq [.tup [.bin .Sub true (.bin .Add true (.bin .Sub true (.var 6) (.var 10)) (.var 5)) (.int 1), .bin .Sub true (.var 9) (.var 6)]] [.ifs (.cmp .Gt (.var 8) (.int 0)) [.set 3 (.blt .max true [.var 3, .bin .Add true (.bin .Add true (.int 1) (.var 7)) (.call 0 [.var 8])])] []]],
    .ret (.var 3)]
def cx_q_left : Ctx := ⟨[fi_q_bits], [], [], []⟩
@[simp] theorem cx_q_left_0 : cx_q_left.fs[0]? = some fi_q_bits := rfl
def spLeftQ : DSp := fun ds M Q _ => ∃ (bs : List Int) (h : List (Int × Int)) (pl : List Int), ds = [pt bs, hu h, pt pl] ∧ bs.length ≤ 1000 ∧ fitsH bs h = true ∧ Q (.int (leftL bs h pl)) M
def fi_q_left : FI := ⟨"_law_left", 3, spLeftQ⟩
@[simp] theorem fi_q_left_sp : fi_q_left.sp = spLeftQ := rfl
theorem wp_q_left {E : EX} {ds : List D} {M : Mp} {Q : QE} {E' : XD → Mp → Prop} (h : spLeftQ ds M Q E') : wpB cx_q_left E b_q_left (endsD Q) (startD mc_q_left.N ds) M := by
  obtain ⟨bs, h, pl, rfl, hbl, hf, q⟩ := h
  have hfz := fits_zip hf
  rw [show startD mc_q_left.N [pt bs, hu h, pt pl] = some (pt bs) :: some (hu h) :: some (pt pl) :: List.replicate 8 none from rfl, b_q_left, wpB_cons]
  simp
  rw [wpB_cons]
  simp [itD]
  rw [zip_bh]
  refine ⟨by decide, ?_⟩
  obtain ⟨V, hV⟩ : ∃ V, V = valueOf (slackP bs h) := ⟨_, rfl⟩
  refine forD_pre (fun t : Int × (Int × Int) => D.tup [.int t.1, pr t.2]) (fun pre ρ M' => (∃ x5 x6 x7 x8 x9 x10, ρ = [some (pt bs), some (hu h), some (pt pl), some (.int 0), some (.int ((pre.map fun t => ib (t.1 - (t.2.2 - t.2.1)) - 1).sum)), x5, x6, x7, x8, x9, x10]) ∧ M' = M) (fun _ => True.intro) (fun pre t post ρ M1 e hI nx hnx => ?_) (fun ρ M1 hI => ?_) ⟨⟨_, _, _, _, _, _, rfl⟩, rfl⟩
  · obtain ⟨⟨x5, x6, x7, x8, x9, x10, rfl⟩, rfl⟩ := hI
    have ht := hfz t (by rw [← e]; simp)
    simp [wpB_cons, wpB_nil]
    refine ⟨_, rfl, by omega, ?_⟩
    rw [List.map_append, List.sum_append] at hnx
    simp at hnx
    rw [show t.1 - t.2.2 + t.2.1 = t.1 - (t.2.2 - t.2.1) by omega]
    exact hnx _ _ _ _ _ _ _ _ rfl rfl
  · obtain ⟨⟨x5, x6, x7, x8, x9, x10, rfl⟩, rfl⟩ := hI
    rw [← value_zip, ← hV]
    simp [wpB_cons, itD]
    rw [zip3_bhp]
    refine forD_pre (fun t : Int × ((Int × Int) × Int) => D.tup [.int t.1, pr t.2.1, .int t.2.2]) (fun pre ρ M' => (∃ x5 x6 x7 x8 x9 x10, ρ = [some (pt bs), some (hu h), some (pt pl), some (.int (maxL (forcedL V (pre.map fun t => T3.pl (t.2.2, (t.1, t.2.1)))))), some (.int V), x5, x6, x7, x8, x9, x10]) ∧ M' = M1) (fun _ => True.intro) (fun pre t post ρ M2 e hI nx hnx => ?_) (fun ρ M2 hI => ?_) ⟨⟨_, _, _, _, _, _, rfl⟩, rfl⟩
    · obtain ⟨⟨x5, x6, x7, x8, x9, x10, rfl⟩, rfl⟩ := hI
      have htm : t ∈ bs.zip (h.zip pl) := by rw [← e]; simp
      have ht := hfz (t.1, t.2.1) (by
        have h1 : (t.2.2, (t.1, t.2.1)) ∈ pl.zip (bs.zip h) := by rw [zip_turn]; exact List.mem_map.mpr ⟨t, htm, rfl⟩
        exact (List.of_mem_zip h1).2)
      dsimp only at ht
      simp [wpB_cons]
      refine ⟨_, rfl, by omega, ?_⟩
      simp [itD]
      rw [show t.1 - t.2.1.2 + t.2.1.1 = t.1 - (t.2.1.2 - t.2.1.1) by omega]
      obtain ⟨r1, hr1⟩ : ∃ r, r = t.2.2 - t.2.1.2 + t.1 - 1 := ⟨_, rfl⟩
      obtain ⟨r2, hr2⟩ : ∃ r, r = t.2.1.1 - t.2.2 := ⟨_, rfl⟩
      obtain ⟨R, hRr⟩ : ∃ R, R = V - (ib (t.1 - (t.2.1.2 - t.2.1.1)) - 1) := ⟨_, rfl⟩
      rw [← hr1, ← hr2, ← hRr]
      have hg : outsP V (T3.pl (t.2.2, (t.1, t.2.1))) = ([r1, r2].filter fun l => decide (0 < l)).map fun l => 1 + R + (ib l - 1) := by
        unfold outsP roomsP T3.pl
        dsimp only
        rw [show t.2.2 - (t.2.1.2 - t.1 + 1) = r1 by omega, ← hr2, show t.2.1.1 - (t.2.1.2 - t.1 + 1) + 1 = t.1 - (t.2.1.2 - t.2.1.1) by omega, ← hRr]
      obtain ⟨m, hm⟩ : ∃ m, m = maxL (forcedL V (pre.map fun t => T3.pl (t.2.2, (t.1, t.2.1)))) := ⟨_, rfl⟩
      rw [← hm]
      refine ⟨by decide, ?_⟩
      refine forD_pre (L := [r1, r2]) D.int (fun pr2 ρ M' => (∃ x8, ρ = [some (pt bs), some (hu h), some (pt pl), some (.int (maxL (m :: ((pr2.filter fun l => decide (0 < l)).map fun l => 1 + R + (ib l - 1))))), some (.int V), some (.int t.1), some (.int t.2.2), some (.int R), x8, some (.int t.2.1.1), some (.int t.2.1.2)]) ∧ M' = M2) (fun _ => True.intro) (fun pr2 l po2 ρ M3 e2 hI2 nx2 hnx2 => ?_) (fun ρ M3 hI2 => ?_) ⟨⟨_, rfl⟩, rfl⟩
      · obtain ⟨⟨x8', rfl⟩, rfl⟩ := hI2
        simp [wpB_cons]
        by_cases h0 : 0 < l
        · rw [if_pos h0]
          refine ⟨l, rfl, by omega, ?_⟩
          simp [wpB_nil]
          have es : maxL (m :: (((pr2 ++ [l]).filter fun l => decide (0 < l)).map fun l => 1 + R + (ib l - 1))) = maxL [maxL (m :: ((pr2.filter fun l => decide (0 < l)).map fun l => 1 + R + (ib l - 1))), 1 + R + (ib l - 1)] := by
            rw [List.filter_append, List.map_append, maxL_app]
            simp [h0]
          exact hnx2 _ _ ⟨⟨_, by rw [es]; rfl⟩, rfl⟩
        · rw [if_neg h0, wpB_nil]
          try dsimp only
          rw [wpB_nil]
          exact hnx2 _ _ ⟨⟨some (.int l), by simp [h0]⟩, rfl⟩
      · obtain ⟨⟨x8', rfl⟩, rfl⟩ := hI2
        rw [← hg]
        dsimp only
        rw [wpB_nil]
        have es : maxL (forcedL V ((pre ++ [t]).map fun t => T3.pl (t.2.2, (t.1, t.2.1)))) = maxL (m :: outsP V (T3.pl (t.2.2, (t.1, t.2.1)))) := by
          rw [hm]
          unfold forcedL
          rw [← maxL_app]
          simp
        exact hnx _ _ ⟨⟨_, _, _, _, _, _, by rw [es]⟩, rfl⟩
    · obtain ⟨⟨x5, x6, x7, x8, x9, x10, rfl⟩, rfl⟩ := hI
      simp [wpB_cons]
      refine Fin.same ?_
      have e : leftL bs h pl = maxL (forcedL V ((bs.zip (h.zip pl)).map fun t => T3.pl (t.2.2, (t.1, t.2.1)))) := by
        unfold leftL
        rw [zip_pl, zip_turn bs h pl, List.map_map, ← hV]
        rfl
      rw [← e]
      exact q
/-! ### moments that keep the rules -/
def HullV (b : Int) (t : Int × Int) : Prop := 0 ≤ t.2 - t.1 ∧ t.2 - t.1 < b ∧ (t.1.natAbs : Int) ≤ 10 ^ 12 ∧ (t.2.natAbs : Int) ≤ 10 ^ 12
def PosOk (p : List Int) : Prop := ∀ x ∈ p, (x.natAbs : Int) ≤ 10 ^ 12
def MomV (bs : List Int) (m : Mom) : Prop := All2 HullV bs m.hull ∧ m.place.length = bs.length ∧ overB bs m.hull m.place = true
theorem HullV.r {b : Int} {t : Int × Int} (h : HullV b t) : HullR b t := ⟨h.1, h.2.1, by have := h.2.2.1; omega⟩
theorem all2_r {bs : List Int} {h : List (Int × Int)} (hV : All2 HullV bs h) : All2 HullR bs h := All2.imp (fun _ _ => HullV.r) hV
theorem MomV.ok {bs : List Int} {m : Mom} (h : MomV bs m) : MomOk bs m := ⟨h.1.length.symm, h.2.1, fits_all2 (all2_r h.1)⟩
theorem hullV_one : ∀ {bs p : List Int}, p.length = bs.length → (∀ b ∈ bs, 1 ≤ b) → PosOk p → All2 HullV bs (hullP p)
  | [], [], _, _, _ => trivial
  | b :: bs, x :: p, hl, hb, hp => by
    have h1 := hb b List.mem_cons_self
    have h2 := hp x List.mem_cons_self
    exact ⟨⟨by simp, by simp; omega, h2, h2⟩, hullV_one (by simpa using hl) (fun b h => hb b (List.mem_cons_of_mem _ h)) fun x h => hp x (List.mem_cons_of_mem _ h)⟩
theorem hullV_join : ∀ {bs p : List Int} {h : List (Int × Int)}, All2 HullV bs h → p.length = bs.length → PosOk p → fitsH bs (joinH h p) = true → All2 HullV bs (joinH h p)
  | [], [], [], _, _, _, _ => trivial
  | b :: bs, x :: p, t :: h, hV, hl, hp, hf => by
    have h2 := hp x List.mem_cons_self
    obtain ⟨⟨a1, a2, a3, a4⟩, hV⟩ := hV
    have hf' : (decide (mx t.2 x - mn t.1 x < b) && fitsH bs (joinH h p)) = true := hf
    rw [Bool.and_eq_true, decide_eq_true_iff] at hf'
    refine ⟨⟨?_, hf'.1, ?_, ?_⟩, hullV_join hV (by simpa using hl) (fun x h => hp x (List.mem_cons_of_mem _ h)) hf'.2⟩
    · simp only [mn, mx]; split <;> split <;> omega
    · simp only [mn]; split <;> omega
    · simp only [mx]; split <;> omega
theorem hullV_next {bs p : List Int} {h : List (Int × Int)} (hb : ∀ b ∈ bs, 1 ≤ b) (hV : All2 HullV bs h) (hl : p.length = bs.length) (hp : PosOk p) : All2 HullV bs (nextHull bs h p) := by
  unfold nextHull
  split
  · rename_i hf
    exact hullV_join hV hl hp hf
  · exact hullV_one hl hb hp
theorem covers_cons (b l x : Int) (bs pl p : List Int) : coversB (b :: bs) (l :: pl) (x :: p) = ((decide (l ≤ x) && decide (x < l + b)) && coversB bs pl p) := rfl
theorem over_join : ∀ {bs pl p : List Int} {h : List (Int × Int)}, overB bs h pl = true → coversB bs pl p = true → h.length = bs.length → pl.length = bs.length → p.length = bs.length → overB bs (joinH h p) pl = true
  | [], [], [], [], _, _, _, _, _ => rfl
  | b :: bs, l :: pl, x :: p, t :: h, h1, h2, a1, a2, a3 => by
    have h1' : (coversB (b :: bs) (l :: pl) (t.1 :: h.map (·.1)) && coversB (b :: bs) (l :: pl) (t.2 :: h.map (·.2))) = true := h1
    show (coversB (b :: bs) (l :: pl) (mn t.1 x :: (joinH h p).map (·.1)) && coversB (b :: bs) (l :: pl) (mx t.2 x :: (joinH h p).map (·.2))) = true
    rw [covers_cons] at h1' h2 ⊢
    rw [covers_cons] at h1' ⊢
    simp only [Bool.and_eq_true, decide_eq_true_iff] at h1' h2 ⊢
    have ih := over_join (bs := bs) (pl := pl) (p := p) (h := h) (by unfold overB; rw [h1'.1.2, h1'.2.2]; rfl) h2.2 (by simpa using a1) (by simpa using a2) (by simpa using a3)
    unfold overB at ih
    rw [Bool.and_eq_true] at ih
    refine ⟨⟨⟨?_, ?_⟩, ih.1⟩, ⟨?_, ?_⟩, ih.2⟩
    · simp only [mn]; split <;> omega
    · simp only [mn]; split <;> omega
    · simp only [mx]; split <;> omega
    · simp only [mx]; split <;> omega
theorem over_one {bs pl p : List Int} (h : coversB bs pl p = true) : overB bs (hullP p) pl = true := by
  unfold overB hullP
  rw [List.map_map, List.map_map, show p.map ((fun x : Int × Int => x.1) ∘ fun n => (n, n)) = p from List.map_id _, show p.map ((fun x : Int × Int => x.2) ∘ fun n => (n, n)) = p from List.map_id _, h]
  rfl
theorem over_halving {bs : List Int} {h : List (Int × Int)} (hR : All2 HullR bs h) : overB bs h (halvingP bs h) = true := by
  rw [over_T hR, halvingZ, List.all_eq_true]
  intro t ht
  obtain ⟨i, hi⟩ := List.mem_iff_getElem?.mp ht
  obtain ⟨h1, h2⟩ := List.getElem?_zip_eq_some.mp hi
  rw [List.getElem?_map, h2] at h1
  have h3 := All2.zip hR t.2 (List.mem_iff_getElem?.mpr ⟨i, h2⟩)
  obtain ⟨a1, a2, a3⟩ := h3
  simp at h1
  unfold T3.ok
  rw [← h1, decide_eq_true (by omega), decide_eq_true (by omega)]
  rfl
theorem halving_len {bs : List Int} {h : List (Int × Int)} (hl : h.length = bs.length) : (halvingP bs h).length = bs.length := by
  rw [halvingZ]; simp; omega
theorem firstM_v {bs p : List Int} (hb : ∀ b ∈ bs, 1 ≤ b) (hl : p.length = bs.length) (hp : PosOk p) : MomV bs (firstM bs p) := by
  have hV := hullV_one hl hb hp
  exact ⟨hV, halving_len hV.length.symm, over_halving (all2_r hV)⟩
theorem nextM_v {bs p : List Int} {m : Mom} (hb : ∀ b ∈ bs, 1 ≤ b) (hm : MomV bs m) (hl : p.length = bs.length) (hp : PosOk p) : MomV bs (nextM bs m p) := by
  have hV := hullV_next hb hm.1 hl hp
  unfold nextM
  split
  · rename_i hc
    refine ⟨hV, hm.2.1, ?_⟩
    show overB bs (nextHull bs m.hull p) m.place = true
    unfold nextHull
    split
    · exact over_join hm.2.2 hc hm.1.length.symm hm.2.1 hl
    · exact over_one hc
  · exact ⟨hV, halving_len hV.length.symm, over_halving (all2_r hV)⟩
theorem stepM_v {bs p : List Int} {l : List Mom} (hb : ∀ b ∈ bs, 1 ≤ b) (hm : ∀ m ∈ l, MomV bs m) (hl : p.length = bs.length) (hp : PosOk p) : MomV bs (stepM bs l p) := by
  unfold stepM
  split
  · exact firstM_v hb hl hp
  · rename_i m e
    exact nextM_v hb (hm m (List.mem_of_getLast? e)) hl hp
theorem nextM_hull (bs : List Int) (m : Mom) (p : List Int) : (nextM bs m p).hull = nextHull bs m.hull p := by unfold nextM; split <;> rfl
theorem nextM_pos (bs : List Int) (m : Mom) (p : List Int) : (nextM bs m p).pos = p := by unfold nextM; split <;> rfl
theorem nextM_begins (bs : List Int) (m : Mom) (p : List Int) : (nextM bs m p).begins = !fitsH bs (joinH m.hull p) := by unfold nextM; split <;> rfl
theorem nextM_load (bs : List Int) (m : Mom) (p : List Int) : (nextM bs m p).load = !coversB bs m.place p := by unfold nextM; split <;> simp_all
theorem nextM_place (bs : List Int) (m : Mom) (p : List Int) : (nextM bs m p).place = if coversB bs m.place p = true then m.place else halvingP bs (nextHull bs m.hull p) := by unfold nextM; split <;> rfl
theorem stepM_pos (bs : List Int) (l : List Mom) (p : List Int) : (stepM bs l p).pos = p := by
  unfold stepM
  split
  · rfl
  · exact nextM_pos _ _ _
theorem stepM_load {bs : List Int} {l : List Mom} {p : List Int} (h : (stepM bs l p).load = true) : (stepM bs l p).place = halvingP bs (stepM bs l p).hull := by
  unfold stepM at h ⊢
  split at h
  · rfl
  · rw [nextM_load] at h
    rw [nextM_place, nextM_hull, if_neg (by simpa using h)]
theorem numsL_snoc (b : Mom → Bool) (l : List Mom) (m : Mom) : numsL b (l ++ [m]) 0 = numsL b l 0 ++ (if b m = true then [(l.length : Int)] else []) := by
  unfold numsL
  rw [List.zipIdx_append, List.filter_append, List.map_append]
  congr 1
  by_cases h : b m = true <;> simp [h]
/-! ### outcomes, bounded -/
theorem forced_show {bs : List Int} {h : List (Int × Int)} {pl : List Int} (hl : bs.length ≤ 10) (hb : ∀ b ∈ bs, 1 ≤ b ∧ b ≤ 10 ^ 10) (hR : All2 HullR bs h) (hp : ∀ x ∈ pl, (x.natAbs : Int) ≤ 10 ^ 14) : (forcedP bs h pl).natAbs < 10 ^ 200 := by
  have hs : ∀ x ∈ slackP bs h, 1 ≤ x ∧ x ≤ 10 ^ 10 := fun x hx => by
    rw [slackZ] at hx
    obtain ⟨t, ht, rfl⟩ := List.mem_map.mp hx
    obtain ⟨z, hz, rfl⟩ := List.mem_map.mp ht
    obtain ⟨h1, h2, h3⟩ := All2.zip hR z hz
    have := hb z.1 (List.of_mem_zip hz).1
    simp; omega
  have hv : 0 ≤ valueOf (slackP bs h) ∧ valueOf (slackP bs h) ≤ 100000 := by
    unfold valueOf
    have := sum_bd (m := 60) (by decide) (l := (slackP bs h).map fun n => ib n - 1) fun x hx => by
      obtain ⟨y, hy, rfl⟩ := List.mem_map.mp hx
      have h1 := hs y hy
      have h2 : 1 ≤ ib y := ib_pos h1.1
      have h3 : ib y ≤ 60 := ib_le (m := 60) (by omega)
      omega
    rw [List.length_map] at this
    have hl2 := slackP_len bs h
    omega
  obtain ⟨v, hv'⟩ : ∃ v, v = valueOf (slackP bs h) := ⟨_, rfl⟩
  rw [← hv'] at hv
  unfold forcedP
  rw [← hv']
  split
  · have hm := (maxL_spec (ns := forcedL v (pl.zip (placesP bs h))) (by simp [forcedL])).1
    have : ∀ x ∈ forcedL v (pl.zip (placesP bs h)), x.natAbs < 10 ^ 200 := by
      intro x hx
      unfold forcedL at hx
      rcases List.mem_cons.mp hx with rfl | hx
      · decide
      · obtain ⟨t, ht, hx⟩ := List.mem_flatMap.mp hx
        unfold outsP at hx
        obtain ⟨l, hl, rfl⟩ := List.mem_map.mp hx
        have hl' := (List.mem_filter.mp hl).1
        rw [zip_pl] at ht
        obtain ⟨z, hz, rfl⟩ := List.mem_map.mp ht
        obtain ⟨h1, h2, h3⟩ := All2.zip hR z.2 (List.of_mem_zip hz).2
        have hb' := hb z.2.1 (List.of_mem_zip (List.of_mem_zip hz).2).1
        have hp' := hp z.1 (List.of_mem_zip hz).1
        have k1 : l.natAbs < 2 ^ 60 := by
          simp [T3.pl] at hl'
          rcases hl' with rfl | rfl <;> omega
        have k2 := ib_le k1
        have k3 : 0 ≤ ib l := ib_nn
        have k4 : ib (z.pl.2.2 - z.pl.2.1 + 1) ≤ 60 := ib_le (m := 60) (by simp [T3.pl]; omega)
        have k5 : 0 ≤ ib (z.pl.2.2 - z.pl.2.1 + 1) := ib_nn
        omega
    exact this _ hm
  · omega
theorem over_mem {bs : List Int} {h : List (Int × Int)} {pl : List Int} (hV : All2 HullV bs h) (hb : ∀ b ∈ bs, 1 ≤ b ∧ b ≤ 10 ^ 9) (ho : overB bs h pl = true) (hl : pl.length = bs.length) : ∀ x ∈ pl, (x.natAbs : Int) ≤ 10 ^ 14 := by
  rw [over_T (all2_r hV), List.all_eq_true] at ho
  intro x hx
  obtain ⟨i, hi, rfl⟩ := List.mem_iff_getElem.mp hx
  have hlen := hV.length
  have hz : (pl[i], (bs[i]'(by omega), h[i]'(by omega))) ∈ pl.zip (bs.zip h) := List.mem_iff_getElem?.mpr ⟨i, by simp [List.getElem?_zip_eq_some, hi, show i < bs.length by omega, show i < h.length by omega]⟩
  have h1 := ho _ hz
  have h2 := All2.zip hV _ (List.of_mem_zip hz).2
  have h3 := hb _ (List.getElem_mem (show i < bs.length by omega))
  unfold T3.ok at h1
  rw [Bool.and_eq_true, decide_eq_true_iff, decide_eq_true_iff] at h1
  obtain ⟨a1, a2, a3, a4⟩ := h2
  dsimp only at h1 a1 a2 a3 a4
  omega
theorem momv_show {bs : List Int} {m : Mom} (hb : boxB bs = true) (hm : MomV bs m) : (forcedP bs m.hull m.place).natAbs < 10 ^ 200 := by
  obtain ⟨b0, b1, b2⟩ := box_len hb
  exact forced_show (by omega) (fun b h => ⟨(b2 b h).1, by have := (b2 b h).2; omega⟩) (all2_r hm.1) (over_mem hm.1 (fun b h => by have := b2 b h; omega) hm.2.2 hm.2.1)
/-- every step at a place that covers the hull, and its side -/
theorem leftL_le {bs : List Int} {h : List (Int × Int)} {pl : List Int} {B : Int} (h0 : 0 ≤ B) (hB : ∀ t ∈ pl.zip (bs.zip h), ∀ l : Int, 0 < l → (l = t.1 - (t.2.2.2 - t.2.1 + 1) ∨ l = t.2.2.1 - t.1) → 1 + (valueOf (slackP bs h) - (ib (t.2.1 - (t.2.2.2 - t.2.2.1)) - 1)) + (ib l - 1) ≤ B) : leftL bs h pl ≤ B := by
  have hm := (maxL_spec (ns := forcedL (valueOf (slackP bs h)) (pl.zip (placesP bs h))) (by simp [forcedL])).1
  have : ∀ x ∈ forcedL (valueOf (slackP bs h)) (pl.zip (placesP bs h)), x ≤ B := by
    intro x hx
    unfold forcedL at hx
    rcases List.mem_cons.mp hx with rfl | hx
    · exact h0
    · obtain ⟨t, ht, hx⟩ := List.mem_flatMap.mp hx
      unfold outsP at hx
      obtain ⟨l, hl, rfl⟩ := List.mem_map.mp hx
      obtain ⟨hl1, hl2⟩ := List.mem_filter.mp hl
      rw [zip_pl] at ht
      obtain ⟨z, hz, rfl⟩ := List.mem_map.mp ht
      have := hB z hz l (by simpa using hl2) (by simpa [T3.pl] using hl1)
      simp only [T3.pl]
      rw [show z.2.2.1 - (z.2.2.2 - z.2.1 + 1) + 1 = z.2.1 - (z.2.2.2 - z.2.2.1) by omega]
      exact this
  exact this _ hm
theorem leftL_nn (bs : List Int) (h : List (Int × Int)) (pl : List Int) : 0 ≤ leftL bs h pl := (maxL_spec (ns := forcedL (valueOf (slackP bs h)) (pl.zip (placesP bs h))) (by simp [forcedL])).2 0 (by simp [forcedL])
theorem value_nn {bs : List Int} {h : List (Int × Int)} (hR : All2 HullR bs h) : 0 ≤ valueOf (slackP bs h) := by
  rw [value_zip]
  have : ∀ l : List (Int × (Int × Int)), (∀ t ∈ l, HullR t.1 t.2) → 0 ≤ (l.map fun t => ib (t.1 - (t.2.2 - t.2.1)) - 1).sum := by
    intro l
    induction l with
    | nil => intro _; simp
    | cons t l ih =>
      intro hl
      have h1 := ih fun x hx => hl x (List.mem_cons_of_mem _ hx)
      obtain ⟨a1, a2, a3⟩ := hl t List.mem_cons_self
      have h2 : 1 ≤ ib (t.1 - (t.2.2 - t.2.1)) := ib_pos (by omega)
      rw [List.map_cons, List.sum_cons]
      omega
  exact this _ fun t ht => All2.zip hR t ht
/-- behind a load at most the slack's value -/
theorem left_halving {bs : List Int} {h : List (Int × Int)} (hR : All2 HullR bs h) : leftL bs h (halvingP bs h) ≤ valueOf (slackP bs h) := by
  refine leftL_le (value_nn hR) fun t ht l h0 hl => ?_
  rw [halvingZ] at ht
  obtain ⟨i, hi⟩ := List.mem_iff_getElem?.mp ht
  obtain ⟨h1, h2⟩ := List.getElem?_zip_eq_some.mp hi
  rw [List.getElem?_map, h2] at h1
  obtain ⟨a1, a2, a3⟩ := All2.zip hR t.2 (List.mem_iff_getElem?.mpr ⟨i, h2⟩)
  simp at h1
  rw [← h1] at hl
  have hn : 1 < t.2.1 - (t.2.2.2 - t.2.2.1) := by omega
  have h3 := ib_half hn
  have h4 : ib l ≤ ib ((t.2.1 - (t.2.2.2 - t.2.2.1)) / 2) := ib_mono (by omega) (by omega)
  omega
/-- no slack: nothing is left -/
theorem value_zero {bs : List Int} {h : List (Int × Int)} (hR : All2 HullR bs h) (hv : valueOf (slackP bs h) = 0) : ∀ t ∈ bs.zip h, t.1 - (t.2.2 - t.2.1) = 1 := by
  rw [value_zip] at hv
  have : ∀ l : List (Int × (Int × Int)), (∀ t ∈ l, HullR t.1 t.2) → 0 ≤ (l.map fun t => ib (t.1 - (t.2.2 - t.2.1)) - 1).sum ∧ ((l.map fun t => ib (t.1 - (t.2.2 - t.2.1)) - 1).sum = 0 → ∀ t ∈ l, t.1 - (t.2.2 - t.2.1) = 1) := by
    intro l
    induction l with
    | nil => intro _; exact ⟨by simp, fun _ t ht => by cases ht⟩
    | cons t l ih =>
      intro hl
      obtain ⟨h1, h3⟩ := ih fun x hx => hl x (List.mem_cons_of_mem _ hx)
      obtain ⟨a1, a2, a3⟩ := hl t List.mem_cons_self
      have h2 : 1 ≤ ib (t.1 - (t.2.2 - t.2.1)) := ib_pos (by omega)
      rw [List.map_cons, List.sum_cons]
      refine ⟨by omega, fun e x hx => ?_⟩
      rcases List.mem_cons.mp hx with rfl | hx
      · have h5 : ib (x.1 - (x.2.2 - x.2.1)) = 1 := by omega
        rcases Int.lt_or_le (x.1 - (x.2.2 - x.2.1)) 2 with h6 | h6
        · omega
        · have := ib_ge (k := 1) (a := x.1 - (x.2.2 - x.2.1)) (by omega)
          omega
      · exact h3 (by omega) x hx
  exact (this _ fun t ht => All2.zip hR t ht).2 hv
theorem left_zero {bs : List Int} {h : List (Int × Int)} {pl : List Int} (hR : All2 HullR bs h) (ho : overB bs h pl = true) (hv : valueOf (slackP bs h) = 0) : leftL bs h pl = 0 := by
  have h1 := leftL_nn bs h pl
  have h2 : leftL bs h pl ≤ 0 := by
    refine leftL_le (Int.le_refl _) fun t ht l h0 hl => ?_
    exfalso
    rw [over_T hR, List.all_eq_true] at ho
    have h3 := ho t ht
    have h4 := value_zero hR hv t.2 (List.of_mem_zip ht).2
    unfold T3.ok at h3
    rw [Bool.and_eq_true, decide_eq_true_iff, decide_eq_true_iff] at h3
    omega
  omega
/-! ### a viewer in memory -/
structure VwR (M : Mp) (v q : Addr) (as : List Addr) (bs : List Int) (l : List Mom) : Prop where
  v : M v = some (.ins "Viewer" (viewF bs q))
  q : M q = some (.lst (as.map D.ref))
  m : MomsR M as l
theorem All2.impL {α β : Type} {R S : α → β → Prop} : ∀ {l : List α} {k : List β}, (∀ x y, x ∈ l → R x y → S x y) → All2 R l k → All2 S l k
  | [], [], _, _ => trivial
  | x :: l, y :: k, m, h => ⟨m _ _ List.mem_cons_self h.1, All2.impL (fun a b ha => m a b (List.mem_cons_of_mem _ ha)) h.2⟩
theorem MomsR.ne {M : Mp} {as : List Addr} {l : List Mom} {a : Addr} (h : MomsR M as l) (ha : ∀ c fs, M a ≠ some (.ins c fs)) : a ∉ as := fun hm => by
  obtain ⟨m, _, e⟩ := All2.left h a hm
  exact ha _ _ e
theorem VwR.mono {M M' : Mp} {v q : Addr} {as : List Addr} {bs : List Int} {l : List Mom} (h : VwR M v q as bs l) (k : ∀ a o, (a = v ∨ a = q ∨ a ∈ as) → M a = some o → M' a = some o) : VwR M' v q as bs l :=
  ⟨k _ _ (.inl rfl) h.v, k _ _ (.inr (.inl rfl)) h.q, All2.impL (fun a m ha e => k a _ (.inr (.inr ha)) e) h.m⟩
theorem VwR.ne {M : Mp} {v q u : Addr} {as : List Addr} {bs : List Int} {l : List Mom} (h : VwR M v q as bs l) (huq : u ≠ q) {ms : List D} (hu : M u = some (.lst ms)) : ∀ a, (a = v ∨ a = q ∨ a ∈ as) → a ≠ u := fun a ha e => by
  subst e
  rcases ha with rfl | rfl | ha
  · rw [h.v] at hu; cases hu
  · exact huq rfl
  · exact h.m.ne (fun c fs z => by rw [hu] at z; cases z) ha
theorem VwR.draw {M M' : Mp} {v q u : Addr} {as : List Addr} {bs : List Int} {l : List Mom} {n : Nat} (h : VwR M v q as bs l) (huq : u ≠ q) (hU : Urn M u n) (ho : Only M M' u) : VwR M' v q as bs l := by
  obtain ⟨g, x, t, hu, _⟩ := hU
  exact h.mono fun a o ha e => (ho a (h.ne huq hu a ha)).trans e
theorem VwR.fresh {M : Mp} {v q x : Addr} {as : List Addr} {bs : List Int} {l : List Mom} {o : MO} (h : VwR M v q as bs l) (hx : M x = none) : VwR (M.upd x o) v q as bs l :=
  h.mono fun a o' _ e => (Mp.upd_ne fun z => by rw [z, hx] at e; cases e).trans e
theorem VwR.step {M : Mp} {v q x : Addr} {as : List Addr} {bs : List Int} {l : List Mom} {m : Mom} (h : VwR M v q as bs l) (hx : M x = none) : VwR ((M.upd x (.ins "Moment" (momF m))).upd q (.lst ((as ++ [x]).map D.ref))) v q (as ++ [x]) bs (l ++ [m]) := by
  have hvq : v ≠ q := fun z => by have := h.v; rw [z, h.q] at this; cases this
  have hvx : v ≠ x := fun z => by have := h.v; rw [z, hx] at this; cases this
  have hqx : q ≠ x := fun z => by have := h.q; rw [z, hx] at this; cases this
  have hqa := h.m.ne (a := q) fun c fs z => by rw [h.q] at z; cases z
  refine ⟨?_, Mp.upd_same, ?_⟩
  · rw [Mp.upd_ne hvq, Mp.upd_ne hvx]; exact h.v
  · refine All2.snoc (All2.impL (fun a m' ha e => ?_) h.m) ?_
    · have hax : a ≠ x := fun z => by rw [z, hx] at e; cases e
      rw [Mp.upd_ne (fun z => by rw [z] at ha; exact hqa ha), Mp.upd_ne hax]; exact e
    · rw [Mp.upd_ne (Ne.symm hqx)]; exact Mp.upd_same
end Ow

namespace Ow
open PySem PySem.Spec PyProof.Rows L2
/-! ### opponents -/
theorem enum_map {α : Type} (f : α → D) (k : Nat) (l : List α) : ((l.map f).zipIdx k).map (fun p => D.tup [.int (p.2 : Int), p.1]) = (l.zipIdx k).map fun t => D.tup [.int (t.2 : Int), f t.1] := by
  rw [List.zipIdx_map, List.map_map]; rfl
theorem cutD_hi {l : List D} {i : Nat} (hi : i ≤ l.length) : cutD l none (some (i : Int)) = l.take i := by
  unfold cutD
  rw [HT.sIx_nat, Nat.min_eq_left hi, show HT.sIx l.length 0 none = 0 from rfl]
  simp
theorem cutD_lo {l : List D} {i : Nat} (hi : i ≤ l.length) : cutD l (some (i : Int)) none = l.drop i := by
  unfold cutD
  rw [HT.sIx_nat, Nat.min_eq_left hi, show HT.sIx l.length l.length none = l.length from rfl, List.take_of_length_le (by simp)]
theorem ils_set {p : List Int} {i : Nat} {x : Int} (hi : i < p.length) : (ils p).take i ++ .int x :: (ils p).drop (i + 1) = ils (p.set i x) := by
  rw [List.set_eq_take_append_cons_drop, if_pos hi]
  simp [ils]
theorem zipIdx_mem {α : Type} {l : List α} {k : Nat} {t : α × Nat} (h : t ∈ l.zipIdx k) : k ≤ t.2 ∧ t.2 < k + l.length ∧ l[t.2 - k]? = some t.1 := by
  obtain ⟨h1, h2, h3⟩ := List.mem_zipIdx h
  refine ⟨h1, h2, ?_⟩
  rw [h3, List.getElem?_eq_getElem]
abbrev leastP (h : List (Int × Int)) : List Int := h.map (·.1)
def cornersP (h : List (Int × Int)) : List (List Int) := leastP h :: h.zipIdx.map fun t => (leastP h).set t.2 t.1.2
def mc_corners : MC := ⟨["hull", "least", "found", "axis", "low", "high"], [], [], [], []⟩
def b_corners : List CS := [.set 1 (.blt .tuple true [.comp true (.var 4) (.tup [.nm 4, .nm 5]) .seq [.var 0] [4, 5]]),
    .set 2 (.lst false [.var 1]),
    .for (.tup [.nm 3, .tup [.nm 4, .nm 5]]) .enum [.var 0] [.expr (.mth .append (.var 2) (.bin .Add true (.bin .Add true (.slH true (.var 1) (.var 3)) (.tup [.var 5])) (.slL true (.var 1) (.bin .Add true (.var 3) (.int 1)))))],
    .ret (.var 2)]
def spCorners : DSp := fun ds M Q _ => ∃ h : List (Int × Int), ds = [hu h] ∧ h.length ≤ 1000 ∧ Q (.lst ((cornersP h).map pt)) M
def fi_corners : FI := ⟨"corners", 1, spCorners⟩
@[simp] theorem fi_corners_sp : fi_corners.sp = spCorners := rfl
theorem wp_corners {C : Ctx} {E : EX} {ds : List D} {M : Mp} {Q : QE} {E' : XD → Mp → Prop} (h : spCorners ds M Q E') : wpB C E b_corners (endsD Q) (startD mc_corners.N ds) M := by
  obtain ⟨h, rfl, hl, q⟩ := h
  rw [show startD mc_corners.N [hu h] = [some (hu h), none, none, none, none, none] from rfl, b_corners, wpB_cons]
  simp [itD]
  intro c hc
  refine cmpL_mapf pr (fun t => D.int t.1) hc (by omega) (fun _ => True.intro) (fun t ht acc add skip ha => ?_) ?_
  · simp [turnC, wipeD]; exact ha
  have e : h.map (fun t => D.int t.1) = ils (leastP h) := by simp [ils]
  rw [e]
  obtain ⟨least, hle⟩ : ∃ l, l = leastP h := ⟨_, rfl⟩
  have hll : least.length = h.length := by rw [hle]; simp
  rw [← hle]
  simp
  rw [wpB_cons]
  simp
  refine ⟨by decide, fun p hp => ?_⟩
  rw [wpB_cons]
  simp [itD, enumD]
  rw [enum_map]
  refine forD_pre (fun t : (Int × Int) × Nat => D.tup [.int (t.2 : Int), pr t.1]) (fun pre ρ M' => (∃ x3 x4 x5, ρ = [some (hu h), some (pt least), some (.ref p), x3, x4, x5]) ∧ M' = M.upd p (.lst ((least :: pre.map fun t => least.set t.2 t.1.2).map pt))) (fun _ => True.intro) (fun pre t post ρ M1 e hI nx hnx => ?_) (fun ρ M1 hI => ?_) ⟨⟨_, _, _, rfl⟩, rfl⟩
  · obtain ⟨⟨x3, x4, x5, rfl⟩, rfl⟩ := hI
    have ht := zipIdx_mem (k := 0) (l := h) (t := t) (by rw [← e]; simp)
    have hlen := congrArg List.length e
    simp at hlen
    have hti : t.2 < least.length := by omega
    simp [wpB_cons, wpB_nil]
    rw [show ((t.2 : Int) + 1) = ((t.2 + 1 : Nat) : Int) from rfl, cutD_hi (by simp; omega), cutD_lo (by simp; omega)]
    have hs : sizeLine = 16777216 := by decide
    refine ⟨by decide, by simp; omega, by simp; omega, by omega, ?_⟩
    refine hnx _ _ ⟨⟨_, _, _, rfl⟩, ?_⟩
    rw [List.map_append]
    simp
    rw [ils_set hti]
  · obtain ⟨⟨x3, x4, x5, rfl⟩, rfl⟩ := hI
    simp [wpB_cons]
    refine Fin.lst Mp.upd_same ?_
    rw [Mp.del_upd hp]
    have e2 : (cornersP h).map pt = (least :: h.zipIdx.map fun t => least.set t.2 t.1.2).map pt := by unfold cornersP; rw [← hle]
    rw [e2] at q
    simpa using q
/-! ### steps outside -/
abbrev nd (s : Int × List Int) : D := .tup [.int s.1, pt s.2]
def stepsAt (bs : List Int) (h : List (Int × Int)) (pl : List Int) (t : (Int × Int) × Nat) : List (Int × List Int) :=
  ([(pl.getD t.2 0 - t.1.1, pl.getD t.2 0 - 1), (t.1.2 - pl.getD t.2 0, pl.getD t.2 0 + bs.getD t.2 0)].filter fun z => decide (0 < z.1)).map fun z => ((ib (t.1.2 - t.1.1 + 1) - 1) - (ib z.1 - 1), (leastP h).set t.2 z.2)
def stepsP (bs : List Int) (h : List (Int × Int)) (pl : List Int) : List (Int × List Int) := (placesP bs h).zipIdx.flatMap (stepsAt bs h pl)
theorem steps_len (bs h pl) : ∀ l : List ((Int × Int) × Nat), (l.flatMap (stepsAt bs h pl)).length ≤ 2 * l.length
  | [] => Nat.le_refl _
  | t :: l => by
    have h1 := steps_len bs h pl l
    have h2 : (stepsAt bs h pl t).length ≤ 2 := by unfold stepsAt; rw [List.length_map]; exact List.length_filter_le _ _
    rw [List.flatMap_cons, List.length_append, List.length_cons]
    omega
def mc_steps_outside : MC := ⟨["box", "hull", "place", "found", "least", "axis", "whole", "sides", "first", "last", "left", "coordinate", "low", "high"], ["places_of", "bits"], [], [], []⟩
def b_steps_outside : List CS := [.par 3 4 (.lst false []) (.blt .tuple true [.comp true (.var 12) (.tup [.nm 12, .nm 13]) .seq [.var 1] [12, 13]]),
    .for (.tup [.nm 5, .tup [.nm 8, .nm 9]]) .enum [.call 0 [.var 0, .var 1]] [.set 6 (.call 1 [.bin .Add true (.bin .Sub true (.var 9) (.var 8)) (.int 1)]), .set 7 (.tup [.tup [.bin .Sub true (.ix (.var 2) (.var 5)) (.var 8), .bin .Sub true (.ix (.var 2) (.var 5)) (.int 1)], .tup [.bin .Sub true (.var 9) (.ix (.var 2) (.var 5)), .bin .Add true (.ix (.var 2) (.var 5)) (.ix (.var 0) (.var 5))]]), .for (.tup [.nm 10, .nm 11]) .seq [.var 7] [.ifs (.cmp .Gt (.var 10) (.int 0)) [.expr (.mth .append (.var 3) (.tup [.bin .Sub true (.var 6) (.call 1 [.var 10]), .bin .Add true (.bin .Add true (.slH true (.var 4) (.var 5)) (.tup [.var 11])) (.slL true (.var 4) (.bin .Add true (.var 5) (.int 1)))]))] []]],
    .ret (.var 3)]
def cx_steps_outside : Ctx := ⟨[fi_places_of, fi_bits], [], [], []⟩
@[simp] theorem cx_steps_outside_0 : cx_steps_outside.fs[0]? = some fi_places_of := rfl
@[simp] theorem cx_steps_outside_1 : cx_steps_outside.fs[1]? = some fi_bits := rfl
def spSteps : DSp := fun ds M Q _ => ∃ (bs : List Int) (h : List (Int × Int)) (pl : List Int), ds = [pt bs, hu h, pt pl] ∧ bs.length ≤ 1000 ∧ h.length = bs.length ∧ pl.length = bs.length ∧ fitsH bs h = true ∧ Q (.lst ((stepsP bs h pl).map nd)) M
def fi_steps_outside : FI := ⟨"steps_outside", 3, spSteps⟩
@[simp] theorem fi_steps_outside_sp : fi_steps_outside.sp = spSteps := rfl
theorem wp_steps_outside {E : EX} {ds : List D} {M : Mp} {Q : QE} {E' : XD → Mp → Prop} (h : spSteps ds M Q E') : wpB cx_steps_outside E b_steps_outside (endsD Q) (startD mc_steps_outside.N ds) M := by
  obtain ⟨bs, h, pl, rfl, hbl, hhl, hpl, hf, q⟩ := h
  rw [show startD mc_steps_outside.N [pt bs, hu h, pt pl] = some (pt bs) :: some (hu h) :: some (pt pl) :: List.replicate 11 none from rfl, b_steps_outside, wpB_cons]
  simp [itD]
  intro p hp c hc
  refine cmpL_mapf pr (fun t => D.int t.1) hc (by omega) (fun _ => True.intro) (fun t ht acc add skip ha => ?_) ?_
  · simp [turnC, wipeD]; exact ha
  have e : h.map (fun t => D.int t.1) = ils (leastP h) := by simp [ils]
  rw [e]
  have hll : (leastP h).length = bs.length := by simp [hhl]
  have hat : stepsAt bs h pl = fun t => ([(pl.getD t.2 0 - t.1.1, pl.getD t.2 0 - 1), (t.1.2 - pl.getD t.2 0, pl.getD t.2 0 + bs.getD t.2 0)].filter fun z => decide (0 < z.1)).map fun z => ((ib (t.1.2 - t.1.1 + 1) - 1) - (ib z.1 - 1), (leastP h).set t.2 z.2) := rfl
  revert hat hll
  generalize leastP h = least
  intro hll hat
  simp
  rw [wpB_cons]
  simp
  refine ⟨bs, h, rfl, hbl, hf, ?_⟩
  simp [itD, enumD]
  rw [enum_map]
  have hpp : (placesP bs h).length = bs.length := by simp [placesP, hhl]
  have hs : sizeLine = 16777216 := by decide
  refine forD_pre (fun t : (Int × Int) × Nat => D.tup [.int (t.2 : Int), pr t.1]) (fun pre ρ M' => (∃ x5 x6 x7 x8 x9 x10 x11 x12 x13, ρ = [some (pt bs), some (hu h), some (pt pl), some (.ref p), some (pt least), x5, x6, x7, x8, x9, x10, x11, x12, x13]) ∧ M' = M.upd p (.lst ((pre.flatMap (stepsAt bs h pl)).map nd))) (fun _ => True.intro) (fun pre t post ρ M1 e hI nx hnx => ?_) (fun ρ M1 hI => ?_) ⟨⟨_, _, _, _, _, _, _, _, _, rfl⟩, rfl⟩
  · obtain ⟨⟨x5, x6, x7, x8, x9, x10, x11, x12, x13, rfl⟩, rfl⟩ := hI
    have ht := zipIdx_mem (k := 0) (l := placesP bs h) (t := t) (by rw [← e]; simp)
    have hlen := congrArg List.length e
    simp at hlen
    have hsl := steps_len bs h pl pre
    have hti : t.2 < bs.length := by omega
    obtain ⟨w, hw⟩ : ∃ w, w = ib (t.1.2 - t.1.1 + 1) - 1 := ⟨_, rfl⟩
    obtain ⟨x, hx⟩ : ∃ x, x = pl.getD t.2 0 := ⟨_, rfl⟩
    obtain ⟨b, hb⟩ : ∃ b, b = bs.getD t.2 0 := ⟨_, rfl⟩
    have g1 : atI (ils pl) (t.2 : Int) = some (.int x) := by
      rw [hx, atI_nat (by simp; omega)]
      simp [List.getD_eq_getElem?_getD, List.getElem?_eq_getElem (show t.2 < pl.length by omega)]
    have g2 : atI (ils bs) (t.2 : Int) = some (.int b) := by
      rw [hb, atI_nat (by simp; omega)]
      simp [List.getD_eq_getElem?_getD, List.getElem?_eq_getElem (show t.2 < bs.length by omega)]
    simp
    rw [wpB_cons]
    simp
    refine ⟨_, rfl, ?_⟩
    simp
    rw [wpB_cons]
    simp [g1, g2]
    refine ⟨by decide, ?_⟩
    rw [wpB_cons]
    simp [itD]
    rw [← hw]
    obtain ⟨done, hd⟩ : ∃ d, d = pre.flatMap (stepsAt bs h pl) := ⟨_, rfl⟩
    refine forD_pre (L := [(x - t.1.1, x - 1), (t.1.2 - x, x + b)]) (fun z : Int × Int => D.tup [.int z.1, .int z.2]) (fun pr2 ρ M' => (∃ x10 x11, ρ = [some (pt bs), some (hu h), some (pt pl), some (.ref p), some (pt least), some (.int t.2), some (.int w), some (.tup [.tup [.int (x - t.1.1), .int (x - 1)], .tup [.int (t.1.2 - x), .int (x + b)]]), some (.int t.1.1), some (.int t.1.2), x10, x11, x12, x13]) ∧ M' = M.upd p (.lst ((done ++ (pr2.filter fun z => decide (0 < z.1)).map fun z => (w - (ib z.1 - 1), least.set t.2 z.2)).map nd))) (fun _ => True.intro) (fun pr2 z po2 ρ M1 e2 hI2 nx2 hnx2 => ?_) (fun ρ M1 hI2 => ?_) ⟨⟨x10, x11, rfl⟩, by simp [hd]⟩
    · obtain ⟨⟨y10, y11, rfl⟩, rfl⟩ := hI2
      have hl2 := congrArg List.length e2
      simp only [List.length_append, List.length_cons, List.length_nil] at hl2
      have hfl := List.length_filter_le (fun z : Int × Int => decide (0 < z.1)) pr2
      simp [wpB_cons]
      by_cases h0 : 0 < z.1
      · rw [if_pos h0]
        refine ⟨_, rfl, ?_⟩
        simp
        rw [show ((t.2 : Int) + 1) = ((t.2 + 1 : Nat) : Int) from rfl, cutD_hi (by simp; omega), cutD_lo (by simp; omega)]
        refine ⟨by decide, by simp; omega, by simp; omega, by decide, by rw [hd]; omega, ?_⟩
        simp only [wpB_nil]
        refine hnx2 _ _ ⟨⟨_, _, rfl⟩, ?_⟩
        rw [List.filter_append]
        have hli : t.2 < least.length := by omega
        simp [h0]
        rw [ils_set hli]
      · rw [if_neg h0, wpB_nil]
        try dsimp only
        rw [wpB_nil]
        exact hnx2 _ _ ⟨⟨_, _, rfl⟩, by simp [h0]⟩
    · obtain ⟨⟨y10, y11, rfl⟩, rfl⟩ := hI2
      try dsimp only
      rw [wpB_nil]
      refine hnx _ _ ⟨⟨_, _, _, _, _, _, _, _, _, rfl⟩, ?_⟩
      rw [hd, List.flatMap_append]
      simp only [List.flatMap_cons, List.flatMap_nil, List.append_nil]
      rw [hat]
      dsimp only
      rw [← hw, ← hx, ← hb]
  · obtain ⟨⟨x5, x6, x7, x8, x9, x10, x11, x12, x13, rfl⟩, rfl⟩ := hI
    simp [wpB_cons]
    refine Fin.lst Mp.upd_same ?_
    rw [Mp.del_upd hp]
    exact q
/-! ### the least of pairs -/
theorem nd_py (s : Int × List Int) : (nd s).py = .tuple [.int s.1, .tuple (D.pys (ils s.2))] := by simp only [D.py, D.pys]
theorem alike_ils : ∀ a b : List Int, PySem.W.alikeAll (D.pys (ils a)) (D.pys (ils b)) = true
  | [], _ => by simp only [ils, List.map_nil, D.pys, PySem.W.alikeAll]
  | _ :: _, [] => by simp only [ils, List.map_nil, List.map_cons, D.pys, PySem.W.alikeAll]
  | x :: a, y :: b => by
    have := alike_ils a b
    simp only [ils, List.map_cons, D.pys, D.py, PySem.W.alikeAll, PySem.W.alike, Bool.true_and] at this ⊢
    exact this
theorem alike_nd (s t : Int × List Int) : PySem.W.alike (nd s).py (nd t).py = true := by
  rw [nd_py, nd_py]
  simp only [PySem.W.alike, PySem.W.alikeAll, Bool.true_and, Bool.and_true]
  exact alike_ils _ _
theorem pys_map {α : Type} (f : α → D) : ∀ l : List α, D.pys (l.map f) = l.map fun a => (f a).py
  | [] => by simp only [List.map_nil, D.pys]
  | a :: l => by simp only [List.map_cons, D.pys]; rw [pys_map f l]
theorem best_nd (l : List (Int × List Int)) : bestOk (l.map nd) := by
  refine ⟨?_, ⟨fun x hx y hy => ?_, fun x hx => ?_⟩, ?_⟩
  · exact flxs_of fun d hd => by
      obtain ⟨s, _, rfl⟩ := List.mem_map.mp hd
      show (true && (D.flxs (ils s.2) && true)) = true
      rw [show D.flxs (ils s.2) = true from flx_ils s.2]; rfl
  · rw [pys_map] at hx hy
    obtain ⟨s, _, rfl⟩ := List.mem_map.mp hx
    obtain ⟨t, _, rfl⟩ := List.mem_map.mp hy
    exact alike_nd s t
  · rw [pys_map] at hx
    obtain ⟨s, _, rfl⟩ := List.mem_map.mp hx
    rw [nd_py]
    exact fun z => by cases z
  · have key : ∀ l : List (Int × List Int), PyData.depthAll (D.pys (l.map nd)) ≤ 2 := by
      intro l
      induction l with
      | nil => simp only [List.map_nil, D.pys, PyData.depthAll]; omega
      | cons s l ih =>
        simp only [List.map_cons, D.pys, PyData.depthAll]
        rw [nd_py]
        simp only [PyData.depthAll, PyData.depth]
        rw [(lay_ils s.2).2.1]
        omega
    exact Nat.le_trans (key l) (by decide)
theorem lt_nd (s t : Int × List Int) : (PySem.W.dataLt (nd s).py (nd t).py = true → s.1 ≤ t.1) ∧ (PySem.W.dataLt (nd s).py (nd t).py = false → t.1 ≤ s.1) := by
  rw [nd_py, nd_py, PySem.W.dataLt_pair (by simp [PySem.W.alike]) (by simp only [PySem.W.alike]; exact alike_ils _ _), PySem.W.dataLt_int]
  simp only [PyData.eqv, beq_iff_eq]
  by_cases h1 : s.1 = t.1
  · rw [if_pos h1]
    exact ⟨fun _ => by omega, fun _ => by omega⟩
  · rw [if_neg h1]
    exact ⟨fun z => by have := of_decide_eq_true z; omega, fun z => by have := of_decide_eq_false z; omega⟩
theorem minD_nd : ∀ (xs : List (Int × List Int)) (x : Int × List Int), ∃ m ∈ x :: xs, PySem.W.minD (nd x).py (D.pys (xs.map nd)) = (nd m).py ∧ ∀ y ∈ x :: xs, m.1 ≤ y.1
  | [], x => ⟨x, List.mem_cons_self, rfl, fun y hy => by rw [List.mem_singleton] at hy; rw [hy]; exact Int.le_refl _⟩
  | y :: xs, x => by
    have e : PySem.W.minD (nd x).py (D.pys ((y :: xs).map nd)) = PySem.W.minD (if PySem.W.dataLt (nd y).py (nd x).py = true then (nd y).py else (nd x).py) (D.pys (xs.map nd)) := by
      rw [List.map_cons, D.pys]; rfl
    obtain ⟨h1, h2⟩ := lt_nd y x
    cases hlt : PySem.W.dataLt (nd y).py (nd x).py with
    | true =>
      rw [hlt, if_pos rfl] at e
      obtain ⟨m, hm, e2, h3⟩ := minD_nd xs y
      have := h3 y List.mem_cons_self
      have := h1 hlt
      refine ⟨m, List.mem_cons_of_mem _ hm, e.trans e2, fun z hz => ?_⟩
      rcases List.mem_cons.mp hz with rfl | hz
      · omega
      · exact h3 z hz
    | false =>
      rw [hlt, if_neg Bool.false_ne_true] at e
      obtain ⟨m, hm, e2, h3⟩ := minD_nd xs x
      have := h3 x List.mem_cons_self
      have := h2 hlt
      refine ⟨m, ?_, e.trans e2, fun z hz => ?_⟩
      · rcases List.mem_cons.mp hm with rfl | hm
        · exact List.mem_cons_self
        · exact List.mem_cons_of_mem _ (List.mem_cons_of_mem _ hm)
      · rcases List.mem_cons.mp hz with rfl | hz
        · exact h3 z List.mem_cons_self
        · rcases List.mem_cons.mp hz with rfl | hz
          · omega
          · exact h3 z (List.mem_cons_of_mem _ hz)
/-- min of a list of pairs of a number and a point -/
theorem min_nd {l : List (Int × List Int)} {M : Mp} {Q : QE} (h0 : l ≠ []) (q : ∀ m ∈ l, (∀ y ∈ l, m.1 ≤ y.1) → Q (nd m) M) : minDat (.lst (l.map nd)) M Q := by
  cases l with
  | nil => exact absurd rfl h0
  | cons x xs =>
    refine ⟨nd x, xs.map nd, rfl, best_nd (x :: xs), fun e he ee => ?_⟩
    obtain ⟨m, hm, e2, h3⟩ := minD_nd xs x
    obtain ⟨s, hs, rfl⟩ := List.mem_map.mp (show e ∈ (x :: xs).map nd from he)
    rw [e2, nd_py, nd_py] at ee
    have e3 : s.1 = m.1 := by
      injection ee with e4
      injection e4 with e5
      injection e5
    exact q s hs fun y hy => by rw [e3]; exact h3 y hy
theorem lay_nd : ∀ l : List (Int × List Int), PyData.canLayAll0 (D.pys (l.map nd)) = true ∧ PyData.depthAll (D.pys (l.map nd)) ≤ 2 ∧ D.flats (l.map nd) = true
  | [] => ⟨by simp only [List.map_nil, D.pys, PyData.canLayAll0], by simp only [List.map_nil, D.pys, PyData.depthAll]; omega, rfl⟩
  | x :: r => by
    obtain ⟨h1, h2, h3⟩ := lay_nd r
    obtain ⟨i1, i2, i3⟩ := lay_ils x.2
    refine ⟨?_, ?_, ?_⟩
    · simp only [List.map_cons, D.pys, PyData.canLayAll0]
      rw [h1, nd_py]
      simp only [PyData.canLay0, PyData.canLayAll0, Bool.true_and, Bool.and_true]
      exact i1
    · simp only [List.map_cons, D.pys, PyData.depthAll]
      rw [nd_py]
      simp only [PyData.depthAll, PyData.depth]
      rw [i2]
      omega
    · show ((true && (D.flats (ils x.2) && true)) && D.flats (r.map nd)) = true
      rw [i3, h3]; rfl
theorem ok_lst {l : List D} (h1 : PyData.canLayAll0 (D.pys l) = true) (h2 : PyData.depthAll (D.pys l) ≤ 8) (h3 : D.flats l = true) : (D.lst l).ok := by
  refine ⟨h3, ?_⟩
  have e1 : (D.lst l).py.canLay0 = true := by simp only [D.py, PyData.canLay0]; exact h1
  unfold SeqAt.shaped
  rw [e1]
  simp only [D.py, PyData.depth, Bool.true_and]
  exact decide_eq_true (by omega)
theorem eq_lstnil {l : List D} : eqB (.lst l) (.lst []) = l.isEmpty := by
  cases l with
  | nil => simp [eqB, D.py, D.pys, PyData.eqv, PyData.eqvAll]
  | cons x r => simp [eqB, D.py, D.pys, PyData.eqv, PyData.eqvAll]
theorem cmp_nelstnil {l : List D} {M : Mp} {Q : QE} (h1 : PyData.canLayAll0 (D.pys l) = true) (h2 : PyData.depthAll (D.pys l) ≤ 8) (h3 : D.flats l = true) (q : Q (.bl (!l.isEmpty)) M) : cmpD .NotEq (.lst l) (.lst []) M Q := by
  refine ⟨ok_lst h1 h2 h3, ok_lst (l := []) rfl (by simp only [D.pys, PyData.depthAll]; omega) rfl, ?_⟩
  rw [eq_lstnil, Bool.true_xor]; exact q
def mc_next_request : MC := ⟨["box", "hull", "place", "missed", "found", "corner"], ["corners", "covers", "steps_outside"], [], [], []⟩
def b_next_request : List CS := [.setLc 3 (.compIf true (.var 5) (.not (.call 1 [.var 0, .var 2, .var 5])) (.nm 5) .seq [.call 0 [.var 1]] [5]),
    .ifs (.cmp .NotEq (.var 3) (.lst true [])) [.ret (.ix (.var 3) (.int 0))] [],
    .set 4 (.call 2 [.var 0, .var 1, .var 2]),
    .ret (.ife (.cmp .NotEq (.var 4) (.lst true [])) (.ix (.blt .min true [.var 4]) (.int 1)) (.non))]
def cx_next_request : Ctx := ⟨[fi_corners, fi_covers, fi_steps_outside], [], [], []⟩
@[simp] theorem cx_next_request_0 : cx_next_request.fs[0]? = some fi_corners := rfl
@[simp] theorem cx_next_request_1 : cx_next_request.fs[1]? = some fi_covers := rfl
@[simp] theorem cx_next_request_2 : cx_next_request.fs[2]? = some fi_steps_outside := rfl
def missedP (bs : List Int) (h : List (Int × Int)) (pl : List Int) : List (List Int) := (cornersP h).filter fun c => !coversB bs pl c
def spNextR : DSp := fun ds M Q _ => ∃ (bs : List Int) (h : List (Int × Int)) (pl : List Int), ds = [pt bs, hu h, pt pl] ∧ bs.length ≤ 1000 ∧ h.length = bs.length ∧ pl.length = bs.length ∧ fitsH bs h = true ∧
  (∀ p r, missedP bs h pl = p :: r → Q (pt p) M) ∧ (missedP bs h pl = [] → stepsP bs h pl = [] → Q .non M) ∧ (missedP bs h pl = [] → ∀ m ∈ stepsP bs h pl, (∀ y ∈ stepsP bs h pl, m.1 ≤ y.1) → Q (pt m.2) M)
def fi_next_request : FI := ⟨"next_request", 3, spNextR⟩
@[simp] theorem fi_next_request_sp : fi_next_request.sp = spNextR := rfl
theorem wp_next_request {E : EX} {ds : List D} {M : Mp} {Q : QE} {E' : XD → Mp → Prop} (h : spNextR ds M Q E') : wpB cx_next_request E b_next_request (endsD Q) (startD mc_next_request.N ds) M := by
  obtain ⟨bs, h, pl, rfl, hbl, hhl, hpl, hf, q1, q2, q3⟩ := h
  rw [show startD mc_next_request.N [pt bs, hu h, pt pl] = [some (pt bs), some (hu h), some (pt pl), none, none, none] from rfl, b_next_request, wpB_cons]
  simp [itD]
  refine ⟨h, rfl, by omega, ?_⟩
  try simp
  intro c hc
  have hcl : (cornersP h).length ≤ 1001 := by simp [cornersP]; omega
  refine cmpL_filt pt pt (fun p => !coversB bs pl p) hc (by omega) (fun _ => True.intro) (fun p hp acc add skip ha hs => ?_) ?_
  · simp [turnC, wipeD]
    refine ⟨bs, pl, p, rfl, by omega, ?_⟩
    cases hcv : coversB bs pl p with
    | true => simp [hcv] at hs ⊢; exact hs
    | false => simp [hcv] at ha ⊢; exact ha
  rw [show (cornersP h).filter (fun p => !coversB bs pl p) = missedP bs h pl from rfl]
  try dsimp only
  rw [wpB_cons]
  simp
  obtain ⟨g1, g2, g3⟩ := lay_lg (missedP bs h pl)
  refine cmp_nelstnil g1 (by omega) g3 ?_
  cases hm : missedP bs h pl with
  | cons p r =>
    simp [wpB_cons]
    exact Fin.same (q1 p r hm)
  | nil =>
    simp [wpB_nil]
    rw [wpB_cons]
    simp
    refine ⟨bs, h, pl, rfl, hbl, hhl, hpl, hf, ?_⟩
    dsimp only
    rw [wpB_cons]
    simp
    obtain ⟨g1, g2, g3⟩ := lay_nd (stepsP bs h pl)
    refine cmp_nelstnil g1 (by omega) g3 ?_
    cases hst : stepsP bs h pl with
    | nil =>
      simp
      exact Fin.same (q2 hm hst)
    | cons s r =>
      simp
      have hi : intsOf ((s :: r).map nd) = none := rfl
      rw [← List.map_cons, hi]
      dsimp only
      refine min_nd (l := s :: r) (by simp) fun m hmm hle => ?_
      simp
      exact Fin.same (q3 hm m (by rw [hst]; exact hmm) (by rw [hst]; exact hle))
/-! ### what the opponent reaches -/
theorem covers_idx : ∀ {bs pl po : List Int}, pl.length = bs.length → po.length = bs.length → (coversB bs pl po = true ↔ ∀ i, i < bs.length → pl.getD i 0 ≤ po.getD i 0 ∧ po.getD i 0 < pl.getD i 0 + bs.getD i 0)
  | [], [], [], _, _ => ⟨fun _ i hi => absurd hi (Nat.not_lt_zero i), fun _ => rfl⟩
  | b :: bs, l :: pl, x :: po, h1, h2 => by
    have ih := covers_idx (bs := bs) (pl := pl) (po := po) (by simpa using h1) (by simpa using h2)
    rw [covers_cons, Bool.and_eq_true, Bool.and_eq_true, decide_eq_true_iff, decide_eq_true_iff, ih]
    constructor
    · intro ⟨h, h3⟩ i hi
      cases i with
      | zero => simpa using h
      | succ i => simpa using h3 i (by simpa using hi)
    · intro h
      refine ⟨by simpa using h 0 (by simp), fun i hi => by simpa using h (i + 1) (by simpa using hi)⟩
theorem getD_set {l : List Int} {i j : Nat} {x d : Int} (hi : i < l.length) : (l.set i x).getD j d = if i = j then x else l.getD j d := by
  rw [List.getD_eq_getElem?_getD, List.getD_eq_getElem?_getD, List.getElem?_set]
  by_cases e : i = j
  · subst e; simp [hi]
  · simp [e]
theorem hu_get {bs : List Int} {h : List (Int × Int)} (hR : All2 HullR bs h) {i : Nat} (hi : i < bs.length) : HullR (bs.getD i 0) (h.getD i (0, 0)) := by
  have hl := hR.length
  have := All2.get hR (i := i) hi (by omega)
  simpa [List.getD_eq_getElem?_getD, List.getElem?_eq_getElem hi, List.getElem?_eq_getElem (show i < h.length by omega)] using this
/-- at each axis of a place that covers the hull -/
theorem over_idx {bs pl : List Int} {h : List (Int × Int)} (hl : h.length = bs.length) (hp : pl.length = bs.length) (ho : overB bs h pl = true) {i : Nat} (hi : i < bs.length) : pl.getD i 0 ≤ (h.getD i (0, 0)).1 ∧ (h.getD i (0, 0)).2 < pl.getD i 0 + bs.getD i 0 := by
  unfold overB at ho
  rw [Bool.and_eq_true, covers_idx hp (by simpa using hl), covers_idx hp (by simpa using hl)] at ho
  have h1 := (ho.1 i hi).1
  have h2 := (ho.2 i hi).2
  have e : ∀ f : Int × Int → Int, (h.map f).getD i 0 = f (h.getD i (0, 0)) := fun f => by simp [List.getD_eq_getElem?_getD, List.getElem?_eq_getElem (show i < h.length by omega)]
  rw [e] at h1 h2
  exact ⟨h1, h2⟩
theorem fst_get {h : List (Int × Int)} {i : Nat} (hi : i < h.length) : (leastP h).getD i 0 = (h.getD i (0, 0)).1 := by
  simp [List.getD_eq_getElem?_getD, List.getElem?_eq_getElem hi]
theorem missed_nil {bs pl : List Int} {h : List (Int × Int)} (hR : All2 HullR bs h) (hp : pl.length = bs.length) (ho : overB bs h pl = true) : missedP bs h pl = [] := by
  have hl := hR.length
  unfold missedP
  rw [List.filter_eq_nil_iff]
  have key : ∀ c : List Int, c.length = bs.length → (∀ i, i < bs.length → (h.getD i (0, 0)).1 ≤ c.getD i 0 ∧ c.getD i 0 ≤ (h.getD i (0, 0)).2) → ¬ (!coversB bs pl c) = true := by
    intro c hc hb
    have : coversB bs pl c = true := (covers_idx hp hc).mpr fun i hi => by
      have h1 := over_idx hl.symm hp ho hi
      have h2 := hb i hi
      omega
    rw [this]; simp
  intro c hc
  unfold cornersP at hc
  rcases List.mem_cons.mp hc with rfl | hc
  · refine key _ (by simp; omega) fun i hi => ?_
    rw [fst_get (by omega)]
    have := (hu_get hR hi).1
    omega
  · obtain ⟨t, ht, rfl⟩ := List.mem_map.mp hc
    obtain ⟨_, t2, t3⟩ := zipIdx_mem ht
    refine key _ (by simp; omega) fun i hi => ?_
    have h1 := (hu_get hR hi).1
    rw [getD_set (by simp; omega), fst_get (by omega)]
    split
    · rename_i e
      subst e
      have e2 : h.getD t.2 (0, 0) = t.1 := by rw [List.getD_eq_getElem?_getD]; simp at t3; rw [t3]; rfl
      rw [e2] at h1 ⊢
      omega
    · omega
theorem sum_set : ∀ {l : List Int} {i : Nat} {x : Int}, i < l.length → (l.set i x).sum = l.sum - l.getD i 0 + x
  | [], _, _, h => by cases h
  | y :: l, 0, x, _ => by simp; omega
  | y :: l, i + 1, x, h => by
    have := sum_set (l := l) (i := i) (x := x) (by simpa using h)
    rw [List.set_cons_succ, List.sum_cons, this, List.sum_cons]
    simp
    omega
/-- a step: its axis, its side -/
theorem steps_mem {bs pl : List Int} {h : List (Int × Int)} (hl : h.length = bs.length) {m : Int × List Int} (hm : m ∈ stepsP bs h pl) :
    ∃ i, i < bs.length ∧ ∃ l c : Int, 0 < l ∧ ((l = pl.getD i 0 - ((h.getD i (0, 0)).2 - bs.getD i 0 + 1) ∧ c = pl.getD i 0 - 1) ∨ (l = (h.getD i (0, 0)).1 - pl.getD i 0 ∧ c = pl.getD i 0 + bs.getD i 0)) ∧
      m = ((ib (bs.getD i 0 - ((h.getD i (0, 0)).2 - (h.getD i (0, 0)).1)) - 1) - (ib l - 1), (leastP h).set i c) := by
  obtain ⟨t, ht, hm⟩ := List.mem_flatMap.mp hm
  obtain ⟨_, t2, t3⟩ := zipIdx_mem ht
  have hpl : (placesP bs h).length = bs.length := by simp [placesP, hl]
  have hi : t.2 < bs.length := by omega
  have e : t.1 = ((h.getD t.2 (0, 0)).2 - bs.getD t.2 0 + 1, (h.getD t.2 (0, 0)).1) := by
    rw [placesZ] at t3
    rw [List.getElem?_map, Nat.sub_zero] at t3
    obtain ⟨z, z1, z2⟩ := Option.map_eq_some_iff.mp t3
    obtain ⟨z3, z4⟩ := List.getElem?_zip_eq_some.mp z1
    rw [List.getD_eq_getElem?_getD, List.getD_eq_getElem?_getD, z3, z4]
    exact z2.symm
  unfold stepsAt at hm
  obtain ⟨z, hz, rfl⟩ := List.mem_map.mp hm
  obtain ⟨hz1, hz2⟩ := List.mem_filter.mp hz
  refine ⟨t.2, hi, z.1, z.2, by simpa using hz2, ?_, ?_⟩
  · rw [e] at hz1
    simp only [List.mem_cons, List.not_mem_nil, or_false] at hz1
    rcases hz1 with rfl | rfl
    · exact .inl ⟨rfl, rfl⟩
    · exact .inr ⟨rfl, rfl⟩
  · rw [e]
    dsimp only
    rw [show (h.getD t.2 (0, 0)).1 - ((h.getD t.2 (0, 0)).2 - bs.getD t.2 0 + 1) + 1 = bs.getD t.2 0 - ((h.getD t.2 (0, 0)).2 - (h.getD t.2 (0, 0)).1) by omega]
theorem mem_steps {bs pl : List Int} {h : List (Int × Int)} (hl : h.length = bs.length) {i : Nat} (hi : i < bs.length) {l c : Int} (h0 : 0 < l)
    (hc : (l = pl.getD i 0 - ((h.getD i (0, 0)).2 - bs.getD i 0 + 1) ∧ c = pl.getD i 0 - 1) ∨ (l = (h.getD i (0, 0)).1 - pl.getD i 0 ∧ c = pl.getD i 0 + bs.getD i 0)) :
    ((ib (bs.getD i 0 - ((h.getD i (0, 0)).2 - (h.getD i (0, 0)).1)) - 1) - (ib l - 1), (leastP h).set i c) ∈ stepsP bs h pl := by
  have hpl : (placesP bs h).length = bs.length := by simp [placesP, hl]
  have e : (placesP bs h)[i]'(by omega) = ((h.getD i (0, 0)).2 - bs.getD i 0 + 1, (h.getD i (0, 0)).1) := by
    simp [placesZ, List.getD_eq_getElem?_getD, List.getElem?_eq_getElem hi, List.getElem?_eq_getElem (show i < h.length by omega)]
  refine List.mem_flatMap.mpr ⟨((placesP bs h)[i]'(by omega), i), ?_, ?_⟩
  · rw [List.mem_zipIdx_iff_getElem?]; simp
  · rw [e]
    unfold stepsAt
    refine List.mem_map.mpr ⟨(l, c), List.mem_filter.mpr ⟨?_, by simpa using h0⟩, ?_⟩
    · dsimp only
      rcases hc with ⟨rfl, rfl⟩ | ⟨rfl, rfl⟩ <;> simp
    · dsimp only
      rw [show (h.getD i (0, 0)).1 - ((h.getD i (0, 0)).2 - bs.getD i 0 + 1) + 1 = bs.getD i 0 - ((h.getD i (0, 0)).2 - (h.getD i (0, 0)).1) by omega]
/-- the outcome is one more than what the best step keeps -/
theorem left_steps {bs pl : List Int} {h : List (Int × Int)} (hl : h.length = bs.length) (hp : pl.length = bs.length) :
    (∀ m ∈ stepsP bs h pl, 1 + valueOf (slackP bs h) - m.1 ≤ leftL bs h pl) ∧ (leftL bs h pl = 0 ∨ ∃ m ∈ stepsP bs h pl, leftL bs h pl = 1 + valueOf (slackP bs h) - m.1) := by
  have hz : ∀ t ∈ pl.zip (bs.zip h), ∃ i, i < bs.length ∧ t = (pl.getD i 0, (bs.getD i 0, h.getD i (0, 0))) := by
    intro t ht
    obtain ⟨i, hi⟩ := List.mem_iff_getElem?.mp ht
    obtain ⟨h1, h2⟩ := List.getElem?_zip_eq_some.mp hi
    obtain ⟨h2, h3⟩ := List.getElem?_zip_eq_some.mp h2
    obtain ⟨hlt, _⟩ := List.getElem?_eq_some_iff.mp h2
    exact ⟨i, hlt, by simp [List.getD_eq_getElem?_getD, h1, h2, h3]⟩
  obtain ⟨hmem, hmax⟩ := maxL_spec (ns := forcedL (valueOf (slackP bs h)) (pl.zip (placesP bs h))) (by simp [forcedL])
  refine ⟨fun m hm => ?_, ?_⟩
  · obtain ⟨i, hi, l, c, h0, hc, rfl⟩ := steps_mem hl hm
    refine hmax _ (List.mem_cons_of_mem _ (List.mem_flatMap.mpr ⟨T3.pl (pl.getD i 0, (bs.getD i 0, h.getD i (0, 0))), ?_, ?_⟩))
    · rw [zip_pl]
      refine List.mem_map.mpr ⟨_, List.mem_iff_getElem?.mpr ⟨i, ?_⟩, rfl⟩
      simp [List.getElem?_zip_eq_some, List.getD_eq_getElem?_getD, List.getElem?_eq_getElem hi, List.getElem?_eq_getElem (show i < h.length by omega), List.getElem?_eq_getElem (show i < pl.length by omega)]
    · unfold outsP
      refine List.mem_map.mpr ⟨l, List.mem_filter.mpr ⟨?_, by simpa using h0⟩, ?_⟩
      · simp only [T3.pl]
        rcases hc with ⟨rfl, _⟩ | ⟨rfl, _⟩ <;> simp
      · simp only [T3.pl]
        rw [show (h.getD i (0, 0)).1 - ((h.getD i (0, 0)).2 - bs.getD i 0 + 1) + 1 = bs.getD i 0 - ((h.getD i (0, 0)).2 - (h.getD i (0, 0)).1) by omega]
        omega
  · rcases List.mem_cons.mp (show leftL bs h pl ∈ (0 : Int) :: (pl.zip (placesP bs h)).flatMap (outsP (valueOf (slackP bs h))) from hmem) with e | hm
    · exact .inl e
    · obtain ⟨t, ht, hm⟩ := List.mem_flatMap.mp hm
      rw [zip_pl] at ht
      obtain ⟨z, hzz, rfl⟩ := List.mem_map.mp ht
      obtain ⟨i, hi, rfl⟩ := hz z hzz
      unfold outsP at hm
      obtain ⟨l, hl', e⟩ := List.mem_map.mp hm
      obtain ⟨hl1, hl2⟩ := List.mem_filter.mp hl'
      have h0 : 0 < l := by simpa using hl2
      simp only [T3.pl] at hl1 e
      rw [show (h.getD i (0, 0)).1 - ((h.getD i (0, 0)).2 - bs.getD i 0 + 1) + 1 = bs.getD i 0 - ((h.getD i (0, 0)).2 - (h.getD i (0, 0)).1) by omega] at e
      simp only [List.mem_cons, List.not_mem_nil, or_false] at hl1
      rcases hl1 with e1 | e1
      · exact .inr ⟨_, mem_steps hl hi h0 (.inl ⟨e1, rfl⟩), by rw [← e]; dsimp only; omega⟩
      · exact .inr ⟨_, mem_steps hl hi h0 (.inr ⟨e1, rfl⟩), by rw [← e]; dsimp only; omega⟩
theorem fits_idx : ∀ {bs : List Int} {h : List (Int × Int)}, h.length = bs.length → (fitsH bs h = true ↔ ∀ i, i < bs.length → (h.getD i (0, 0)).2 - (h.getD i (0, 0)).1 < bs.getD i 0)
  | [], [], _ => ⟨fun _ i hi => absurd hi (Nat.not_lt_zero i), fun _ => rfl⟩
  | b :: bs, t :: h, h1 => by
    have ih := fits_idx (bs := bs) (h := h) (by simpa using h1)
    show ((decide (t.2 - t.1 < b) && fitsH bs h) = true) ↔ _
    rw [Bool.and_eq_true, decide_eq_true_iff, ih]
    constructor
    · intro ⟨h, h3⟩ i hi
      cases i with
      | zero => simpa using h
      | succ i => simpa using h3 i (by simpa using hi)
    · intro h
      exact ⟨by simpa using h 0 (by simp), fun i hi => by simpa using h (i + 1) (by simpa using hi)⟩
theorem zip_set (f : Int × (Int × Int) → Int) : ∀ {bs : List Int} {h : List (Int × Int)} {i : Nat} {t : Int × Int}, i < bs.length → h.length = bs.length → (bs.zip (h.set i t)).map f = ((bs.zip h).map f).set i (f (bs.getD i 0, t))
  | b :: bs, _ :: h, 0, t, _, _ => by simp
  | b :: bs, _ :: h, i + 1, t, h1, h2 => by
    have := zip_set f (bs := bs) (h := h) (i := i) (t := t) (by simpa using h1) (by simpa using h2)
    simp at this ⊢
    exact this
theorem zipmap_get (f : Int × (Int × Int) → Int) {bs : List Int} {h : List (Int × Int)} {i : Nat} (hi : i < bs.length) (hl : h.length = bs.length) : ((bs.zip h).map f).getD i 0 = f (bs.getD i 0, h.getD i (0, 0)) := by
  simp [List.getD_eq_getElem?_getD, List.getElem?_eq_getElem hi, List.getElem?_eq_getElem (show i < h.length by omega), List.getElem?_eq_getElem (show i < (bs.zip h).length by simp; omega)]
theorem join_set {h : List (Int × Int)} {i : Nat} {c : Int} (hi : i < h.length) (ho : ∀ j, j < h.length → (h.getD j (0, 0)).1 ≤ (h.getD j (0, 0)).2) : joinH h ((leastP h).set i c) = h.set i (mn (h.getD i (0, 0)).1 c, mx (h.getD i (0, 0)).2 c) := by
  refine List.ext_getElem (by simp [joinH]) fun j h1 h2 => ?_
  have hj : j < h.length := by simpa using h2
  have hoj := ho j hj
  rw [List.getD_eq_getElem?_getD, List.getElem?_eq_getElem hj] at hoj
  simp only [Option.getD_some] at hoj
  rw [List.getElem_set]
  simp only [joinH, List.getElem_map, List.getElem_zip]
  by_cases e : i = j
  · subst e
    rw [if_pos rfl]
    simp [List.getD_eq_getElem?_getD, List.getElem?_eq_getElem hj]
  · rw [if_neg e]
    have e2 : ((leastP h).set i c)[j]'(by simp; omega) = h[j].1 := by
      rw [List.getElem_set_ne e]; simp
    rw [e2]
    simp only [mn, mx, Int.lt_irrefl, if_false]
    rw [if_neg (by omega)]
theorem opp_stepR {bs pl : List Int} {h : List (Int × Int)} (hR : All2 HullR bs h) (hpl : pl.length = bs.length) (ho : overB bs h pl = true) {s : Int × List Int} (hs : s ∈ stepsP bs h pl) :
    s.2.length = bs.length ∧ fitsH bs (joinH h s.2) = true ∧ coversB bs pl s.2 = false ∧ valueOf (slackP bs (joinH h s.2)) = valueOf (slackP bs h) - s.1 ∧
    ∀ A : Int, (∀ b ∈ bs, b ≤ 10 ^ 9) → (∀ t ∈ h, (t.1.natAbs : Int) ≤ A ∧ (t.2.natAbs : Int) ≤ A) → ∀ x ∈ s.2, (x.natAbs : Int) ≤ A + 10 ^ 9 := by
  have hl := hR.length
  obtain ⟨i, hi, l, c, h0, hc, rfl⟩ := steps_mem hl.symm hs
  dsimp only
  have ov := over_idx hl.symm hpl ho hi
  have hu := hu_get hR hi
  obtain ⟨u1, u2, u3⟩ := hu
  have hjs := join_set (h := h) (i := i) (c := c) (by omega) fun j hj => by have := (hu_get hR (i := j) (by omega)).1; omega
  obtain ⟨t', ht'⟩ : ∃ t', t' = (mn (h.getD i (0, 0)).1 c, mx (h.getD i (0, 0)).2 c) := ⟨_, rfl⟩
  rw [← ht'] at hjs
  have ht2 : bs.getD i 0 - (t'.2 - t'.1) = l := by
    rw [ht']
    simp only [mn, mx]
    rcases hc with ⟨e1, e2⟩ | ⟨e1, e2⟩
    · rw [if_neg (by omega), if_pos (by omega)]; omega
    · rw [if_pos (by omega), if_neg (by omega)]; omega
  refine ⟨by simp; omega, ?_, ?_, ?_, ?_⟩
  · rw [hjs, fits_idx (by simp; omega)]
    intro j hj
    have e : (h.set i t').getD j (0, 0) = if i = j then t' else h.getD j (0, 0) := by
      rw [List.getD_eq_getElem?_getD, List.getD_eq_getElem?_getD, List.getElem?_set]
      by_cases e : i = j
      · subst e; simp [show i < h.length by omega]
      · simp [e]
    rw [e]
    split
    · rename_i e; subst e; omega
    · exact (hu_get hR hj).2.1
  · rw [← Bool.not_eq_true, covers_idx hpl (by simp; omega)]
    intro hcc
    have := hcc i hi
    rw [getD_set (by simp; omega), if_pos rfl] at this
    rcases hc with ⟨e1, e2⟩ | ⟨e1, e2⟩ <;> omega
  · rw [hjs, value_zip, value_zip, zip_set _ hi hl.symm, sum_set (by simp; omega), zipmap_get _ hi hl.symm]
    dsimp only
    rw [ht2]
    omega
  · intro A hb hA x hx
    obtain ⟨j, hj, rfl⟩ := List.mem_iff_getElem.mp hx
    have hj' : j < bs.length := by simp at hj; omega
    have e : ((leastP h).set i c)[j] = ((leastP h).set i c).getD j 0 := by rw [List.getD_eq_getElem?_getD, List.getElem?_eq_getElem hj]; rfl
    rw [e, getD_set (by simp; omega)]
    have hbj := hb (bs.getD j 0) (by rw [List.getD_eq_getElem?_getD, List.getElem?_eq_getElem hj']; exact List.getElem_mem _)
    have hAj := hA (h.getD j (0, 0)) (by rw [List.getD_eq_getElem?_getD, List.getElem?_eq_getElem (show j < h.length by omega)]; exact List.getElem_mem _)
    split
    · rename_i e; subst e
      rcases hc with ⟨e1, e2⟩ | ⟨e1, e2⟩ <;> omega
    · rw [fst_get (by omega)]; omega
theorem opp_step {bs : List Int} {m : Mom} (hm : MomV bs m) {s : Int × List Int} (hs : s ∈ stepsP bs m.hull m.place) :
    s.2.length = bs.length ∧ fitsH bs (joinH m.hull s.2) = true ∧ coversB bs m.place s.2 = false ∧ valueOf (slackP bs (joinH m.hull s.2)) = valueOf (slackP bs m.hull) - s.1 ∧
    ∀ A : Int, (∀ b ∈ bs, b ≤ 10 ^ 9) → (∀ t ∈ m.hull, (t.1.natAbs : Int) ≤ A ∧ (t.2.natAbs : Int) ≤ A) → ∀ x ∈ s.2, (x.natAbs : Int) ≤ A + 10 ^ 9 := opp_stepR (all2_r hm.1) hm.2.1 hm.2.2 hs
theorem value_pos {bs : List Int} {h : List (Int × Int)} (hR : All2 HullR bs h) (hv : valueOf (slackP bs h) ≠ 0) : ∃ i, i < bs.length ∧ 1 < bs.getD i 0 - ((h.getD i (0, 0)).2 - (h.getD i (0, 0)).1) := by
  refine Classical.byContradiction fun hno => hv ?_
  rw [value_zip]
  have hl := hR.length
  have : ∀ l : List Int, (∀ x ∈ l, x = 0) → l.sum = 0 := by
    intro l
    induction l with
    | nil => intro _; rfl
    | cons x l ih =>
      intro h
      rw [List.sum_cons, h x List.mem_cons_self, ih fun y hy => h y (List.mem_cons_of_mem _ hy)]; rfl
  refine this _ fun x hx => ?_
  obtain ⟨t, ht, rfl⟩ := List.mem_map.mp hx
  obtain ⟨i, hi⟩ := List.mem_iff_getElem?.mp ht
  obtain ⟨h1, h2⟩ := List.getElem?_zip_eq_some.mp hi
  obtain ⟨hlt, _⟩ := List.getElem?_eq_some_iff.mp h1
  have h3 : ¬ 1 < bs.getD i 0 - ((h.getD i (0, 0)).2 - (h.getD i (0, 0)).1) := fun z => hno ⟨i, hlt, z⟩
  rw [List.getD_eq_getElem?_getD, List.getD_eq_getElem?_getD, h1, h2] at h3
  simp only [Option.getD_some] at h3
  obtain ⟨u1, u2, _⟩ := All2.zip hR t ht
  have e : t.1 - (t.2.2 - t.2.1) = 1 := by omega
  rw [e]
  decide
theorem left_ge {bs pl : List Int} {h : List (Int × Int)} (hR : All2 HullR bs h) (hp : pl.length = bs.length) (ho : overB bs h pl = true) : valueOf (slackP bs h) ≤ leftL bs h pl := by
  by_cases hv : valueOf (slackP bs h) = 0
  · rw [hv]; exact leftL_nn _ _ _
  · obtain ⟨i, hi, h1⟩ := value_pos hR hv
    have hl := hR.length
    have ov := over_idx hl.symm hp ho hi
    obtain ⟨n, hn⟩ : ∃ n, n = bs.getD i 0 - ((h.getD i (0, 0)).2 - (h.getD i (0, 0)).1) := ⟨_, rfl⟩
    have h2 := ib_half (a := n) (by omega)
    have key : ∀ l c : Int, n / 2 ≤ l → ((l = pl.getD i 0 - ((h.getD i (0, 0)).2 - bs.getD i 0 + 1) ∧ c = pl.getD i 0 - 1) ∨ (l = (h.getD i (0, 0)).1 - pl.getD i 0 ∧ c = pl.getD i 0 + bs.getD i 0)) → valueOf (slackP bs h) ≤ leftL bs h pl := by
      intro l c hln hc
      have h3 := (left_steps hl.symm hp).1 _ (mem_steps hl.symm hi (by omega) hc)
      have h4 := ib_mono (a := n / 2) (b := l) (by omega) hln
      rw [← hn] at h3
      dsimp only at h3
      omega
    by_cases hside : n / 2 ≤ pl.getD i 0 - ((h.getD i (0, 0)).2 - bs.getD i 0 + 1)
    · exact key _ _ hside (.inl ⟨rfl, rfl⟩)
    · exact key _ _ (show n / 2 ≤ (h.getD i (0, 0)).1 - pl.getD i 0 by omega) (.inr ⟨rfl, rfl⟩)
theorem left_le1 {bs pl : List Int} {h : List (Int × Int)} (hR : All2 HullR bs h) (ho : overB bs h pl = true) : leftL bs h pl ≤ valueOf (slackP bs h) + 1 := by
  have hv := value_nn hR
  refine leftL_le (by omega) fun t ht l h0 hl => ?_
  rw [over_T hR, List.all_eq_true] at ho
  have h3 := ho t ht
  unfold T3.ok at h3
  rw [Bool.and_eq_true, decide_eq_true_iff, decide_eq_true_iff] at h3
  have := ib_mono (a := l) (b := t.2.1 - (t.2.2.2 - t.2.2.1)) (by omega) (by omega)
  omega
theorem left_half {bs : List Int} {h : List (Int × Int)} (hR : All2 HullR bs h) : leftL bs h (halvingP bs h) = valueOf (slackP bs h) := by
  have h1 := left_halving hR
  have h2 := left_ge hR (halving_len hR.length.symm) (over_halving hR)
  omega
/-- the opponent's request: a load, in the phase, one less is left -/
theorem opp_next {bs : List Int} {m : Mom} (hm : MomV bs m) {s : Int × List Int} (hs : s ∈ stepsP bs m.hull m.place) (hmin : ∀ y ∈ stepsP bs m.hull m.place, s.1 ≤ y.1) (h1 : MomV bs (nextM bs m s.2)) :
    (nextM bs m s.2).load = true ∧ (nextM bs m s.2).begins = false ∧ (nextM bs m s.2).hull = joinH m.hull s.2 ∧ leftL bs (nextM bs m s.2).hull (nextM bs m s.2).place = leftL bs m.hull m.place - 1 := by
  obtain ⟨a1, a2, a3, a4, _⟩ := opp_step hm hs
  have e1 : (nextM bs m s.2).load = true := by rw [nextM_load, a3]; rfl
  have e2 : (nextM bs m s.2).begins = false := by rw [nextM_begins, a2]; rfl
  have e3 : (nextM bs m s.2).hull = joinH m.hull s.2 := by rw [nextM_hull]; unfold nextHull; rw [if_pos a2]
  have e4 : (nextM bs m s.2).place = halvingP bs (joinH m.hull s.2) := by rw [nextM_place, a3]; unfold nextHull; rw [if_pos a2]; rfl
  refine ⟨e1, e2, e3, ?_⟩
  have hR1 := all2_r h1.1
  rw [e3] at hR1
  have hv := value_nn hR1
  rw [e3, e4, left_half hR1, a4]
  obtain ⟨l1, l2⟩ := left_steps hm.1.length.symm hm.2.1
  have l3 := l1 s hs
  rcases l2 with l2 | ⟨m', hm', l2⟩
  · omega
  · have := hmin m' hm'; omega
theorem steps_leftR {bs pl : List Int} {h : List (Int × Int)} (hR : All2 HullR bs h) (hpl : pl.length = bs.length) : stepsP bs h pl = [] ↔ leftL bs h pl = 0 := by
  obtain ⟨l1, l2⟩ := left_steps hR.length.symm hpl
  constructor
  · intro e
    rcases l2 with l2 | ⟨m', hm', _⟩
    · exact l2
    · rw [e] at hm'; cases hm'
  · intro e
    cases hst : stepsP bs h pl with
    | nil => rfl
    | cons s r =>
      exfalso
      have hs : s ∈ stepsP bs h pl := by rw [hst]; exact List.mem_cons_self
      have l3 := l1 s hs
      obtain ⟨i, hi, l, c, h0, hc, e2⟩ := steps_mem hR.length.symm hs
      obtain ⟨u1, u2, _⟩ := hu_get hR hi
      have hv : ib (bs.getD i 0 - ((h.getD i (0, 0)).2 - (h.getD i (0, 0)).1)) - 1 ≤ valueOf (slackP bs h) := by
        have h5 := value_nn hR
        rw [value_zip] at h5 ⊢
        have key : ∀ l : List Int, (∀ x ∈ l, 0 ≤ x) → ∀ x ∈ l, x ≤ l.sum := by
          intro l
          induction l with
          | nil => intro _ x hx; cases hx
          | cons y l ih =>
            intro h x hx
            have h0 : ∀ l : List Int, (∀ x ∈ l, 0 ≤ x) → 0 ≤ l.sum := by
              intro l
              induction l with
              | nil => intro _; simp
              | cons y l ih => intro h; rw [List.sum_cons]; have := h y List.mem_cons_self; have := ih fun z hz => h z (List.mem_cons_of_mem _ hz); omega
            have h1 := h0 l fun z hz => h z (List.mem_cons_of_mem _ hz)
            have h2 := h y List.mem_cons_self
            rw [List.sum_cons]
            rcases List.mem_cons.mp hx with rfl | hx
            · omega
            · have := ih (fun z hz => h z (List.mem_cons_of_mem _ hz)) x hx; omega
        refine key _ (fun x hx => ?_) _ ?_
        · obtain ⟨t, ht, rfl⟩ := List.mem_map.mp hx
          obtain ⟨v1, v2, _⟩ := All2.zip hR t ht
          have : 1 ≤ ib (t.1 - (t.2.2 - t.2.1)) := ib_pos (by omega)
          omega
        · have hl := hR.length
          refine List.mem_map.mpr ⟨(bs.getD i 0, h.getD i (0, 0)), List.mem_iff_getElem?.mpr ⟨i, ?_⟩, rfl⟩
          simp [List.getElem?_zip_eq_some, List.getD_eq_getElem?_getD, List.getElem?_eq_getElem hi, List.getElem?_eq_getElem (show i < h.length by omega)]
      have h6 : 1 ≤ ib l := ib_pos (by omega)
      rw [e2] at l3
      dsimp only at l3
      omega
theorem steps_left {bs : List Int} {m : Mom} (hb : ∀ b ∈ bs, 1 ≤ b) (hm : MomV bs m) : stepsP bs m.hull m.place = [] ↔ leftL bs m.hull m.place = 0 := steps_leftR (all2_r hm.1) hm.2.1
/-! ### a viewer is asked -/
section
variable {M : Mp} {v q : Addr} {as : List Addr} {bs : List Int} {l l0 : List Mom} {m : Mom} {Q : QE} {E : XD → Mp → Prop}
theorem VwR.ins (h : VwR M v q as bs l) {f : Str} (hf : (viewF bs q).lookup f = none) : isIns "Viewer" f (.ref v) M := ⟨v, viewF bs q, rfl, h.v, hf⟩
theorem VwR.last (h : VwR M v q as bs (l0 ++ [m])) {g : Mom → D} (z : Q (g m) M) : spLastV g [.ref v] M Q E := ⟨v, q, as, bs, _, rfl, h.v, h.q, h.m, by simpa [lastD] using z⟩
theorem VwR.left (h : VwR M v q as bs (l0 ++ [m])) (hb : bs.length ≤ 1000) (hok : ∀ x ∈ l0 ++ [m], MomV bs x) (z : Q (.int (leftL bs m.hull m.place)) M) : spLeft [.ref v] M Q E :=
  ⟨v, q, as, bs, _, rfl, h.v, h.q, h.m, hb, fun x hx => (hok x hx).ok, by
    have hm := hok m (by simp)
    rw [← forced_left hm.2.2] at z
    simpa [lastD] using z⟩
theorem VwR.nums (h : VwR M v q as bs l) (hl : l.length ≤ 1000) {b : Mom → Bool} (z : Q (pt (numsL b l 0)) M) : spNums b [.ref v] M Q E := ⟨v, q, as, bs, l, rfl, h.v, h.q, h.m, hl, z⟩
theorem VwR.logs (h : VwR M v q as bs l) (hl : l.length ≤ 1000) (z : Q (lg (l.map (·.pos))) M) : spLogV [.ref v] M Q E := ⟨v, q, as, bs, l, rfl, h.v, h.q, h.m, hl, z⟩
theorem VwR.req (h : VwR M v q as bs l) (hb : boxB bs = true) {p : List Int} (hp : p.length = bs.length) (hpx : PosOk p) (hok : ∀ x ∈ l, MomV bs x) (hl : l.length < 400)
    (z : ∀ x, M x = none → VwR ((M.upd x (.ins "Moment" (momF (stepM bs l p)))).upd q (.lst ((as ++ [x]).map D.ref))) v q (as ++ [x]) bs (l ++ [stepM bs l p]) → Q (resM (stepM bs l p)) ((M.upd x (.ins "Moment" (momF (stepM bs l p)))).upd q (.lst ((as ++ [x]).map D.ref)))) : spRequest [.ref v, pt p] M Q E :=
  ⟨v, q, as, bs, p, l, rfl, h.v, h.q, h.m, hb, hp, hpx, fun m hm => (hok m hm).2.1, hl, fun x hx => z x hx (h.step hx)⟩
end
/-- what the request leaves of the rest -/
theorem req_keep {M0 M : Mp} {u x q : Addr} {o o' : MO} {n : Nat} (hK : Keep M0 M u) (hx : M x = none) (hq : M0 q = none) (hU : Urn M u n) (hqu : q ≠ u) : Keep M0 ((M.upd x o).upd q o') u ∧ Urn ((M.upd x o).upd q o') u n := by
  refine ⟨fun a w ha hM => ?_, (hU.upd (hU.ne hx)).upd hqu⟩
  have hM4 := hK a w ha hM
  rw [Mp.upd_ne (fun y => by rw [y, hq] at hM; cases hM), Mp.upd_ne (fun y => by rw [y, hx] at hM4; cases hM4)]
  exact hM4
theorem join_near {A B : Int} (hAB : A ≤ B) : ∀ {p : List Int} {h : List (Int × Int)}, (∀ t ∈ h, (t.1.natAbs : Int) ≤ A ∧ (t.2.natAbs : Int) ≤ A) → (∀ x ∈ p, (x.natAbs : Int) ≤ B) → ∀ t ∈ joinH h p, (t.1.natAbs : Int) ≤ B ∧ (t.2.natAbs : Int) ≤ B := by
  intro p h hA hB t ht
  obtain ⟨z, hz, rfl⟩ := List.mem_map.mp ht
  have h1 := hA z.1 (List.of_mem_zip hz).1
  have h2 := hB z.2 (List.of_mem_zip hz).2
  simp only [mn, mx]
  split <;> split <;> omega
def HullN (A : Int) (h : List (Int × Int)) : Prop := ∀ t ∈ h, (t.1.natAbs : Int) ≤ A ∧ (t.2.natAbs : Int) ≤ A
theorem hullP_near {A : Int} {p : List Int} (hp : ∀ x ∈ p, (x.natAbs : Int) ≤ A) : HullN A (hullP p) := fun t ht => by
  obtain ⟨x, hx, rfl⟩ := List.mem_map.mp ht
  exact ⟨hp x hx, hp x hx⟩
theorem stepM_near {A : Int} {bs p : List Int} {l : List Mom} (hl : ∀ m ∈ l, HullN A m.hull) (hp : ∀ x ∈ p, (x.natAbs : Int) ≤ A) : HullN A (stepM bs l p).hull := by
  unfold stepM
  split
  · exact hullP_near hp
  · rename_i m e
    rw [nextM_hull]
    unfold nextHull
    split
    · exact join_near (Int.le_refl _) (hl m (List.mem_of_getLast? e)) hp
    · exact hullP_near hp
theorem stepM_last {bs p : List Int} {l0 : List Mom} {m : Mom} : stepM bs (l0 ++ [m]) p = nextM bs m p := by simp [stepM]
theorem value_le {bs : List Int} {h : List (Int × Int)} (hb : ∀ b ∈ bs, b ≤ 10 ^ 9) (hR : All2 HullR bs h) : valueOf (slackP bs h) ≤ 29 * bs.length := by
  have hs := sum_bd (m := 29) (by decide) (l := (bs.zip h).map fun t => ib (t.1 - (t.2.2 - t.2.1)) - 1) fun x hx => by
    obtain ⟨t, ht, rfl⟩ := List.mem_map.mp hx
    obtain ⟨u1, u2, _⟩ := All2.zip hR t ht
    have h1 := hb t.1 (List.of_mem_zip ht).1
    have h2 : 1 ≤ ib (t.1 - (t.2.2 - t.2.1)) := ib_pos (by omega)
    have h3 : ib (t.1 - (t.2.2 - t.2.1)) ≤ (30 : Nat) := ib_le (m := 30) (by omega)
    omega
  rw [← value_zip] at hs
  have hl := hR.length
  simp at hs
  omega
theorem box_of {bs : List Int} {k : Int} (b0 : bs ≠ []) (bl : (bs.length : Int) ≤ 3) (hk : k ≤ 1000000000) (bb : ∀ b ∈ bs, 1 ≤ b ∧ b ≤ k) : boxB bs = true := by
  unfold boxB
  have : 1 ≤ bs.length := List.length_pos_iff.mpr b0
  rw [decide_eq_true this, decide_eq_true (by omega), Bool.true_and, Bool.true_and, List.all_eq_true]
  intro b hb
  have := bb b hb
  rw [decide_eq_true (by omega), decide_eq_true (by omega)]
  rfl
end Ow

namespace Ow
open PySem PySem.Spec PyProof.Rows L2
/-! ### all places -/
def RgR (r : Int × Int) (x : Int) : Prop := r.1 ≤ x ∧ x ≤ r.2
def mc_q_all : MC := ⟨["_law_ranges", "_law_found", "_law_low", "_law_high", "_law_longer", "_law_some", "_law_one"], [], [], [], []⟩
def b_q_all : List CS := [.set 1 (.lst true [.tup []]),
    .for (.tup [.nm 2, .nm 3]) .seq [.var 0] [.set 4 (.lst false []), .for (.nm 5) .seq [.var 1] [.expr (.mth .extend (.var 4) (.comp true (.bin .Add true (.var 5) (.tup [.var 6])) (.nm 6) .rng2 [.var 2, .bin .Add true (.var 3) (.int 1)] [6]))], .frz 4, .set 1 (.var 4)],
    .ret (.var 1)]
theorem All2.unsnoc {α β : Type} {R : α → β → Prop} : ∀ {l : List α} {x : α} {k : List β}, All2 R (l ++ [x]) k → ∃ k0 y, k = k0 ++ [y] ∧ All2 R l k0 ∧ R x y
  | [], x, [], h => h.elim
  | [], x, [y], h => ⟨[], y, rfl, trivial, h.1⟩
  | [], x, _ :: _ :: _, h => h.2.elim
  | a :: l, x, [], h => h.elim
  | a :: l, x, b :: k, h => by
    obtain ⟨k0, y, rfl, h2, h3⟩ := All2.unsnoc h.2
    exact ⟨b :: k0, y, rfl, ⟨h.1, h2⟩, h3⟩
def spAll : DSp := fun ds M Q _ => ∃ rs : List (Int × Int), ds = [.lst (rs.map pr)] ∧ rs.length ≤ 3 ∧ (∀ r ∈ rs, (r.1.natAbs : Int) ≤ 10 ^ 14 ∧ (r.2.natAbs : Int) ≤ 10 ^ 14 ∧ r.2 - r.1 + 1 ≤ 20) ∧
  ∀ L : List (List Int), L.length ≤ 8000 → (∀ p, p ∈ L ↔ All2 RgR rs p) → Q (.lst (L.map pt)) M
def fi_q_all : FI := ⟨"_law_all", 1, spAll⟩
@[simp] theorem fi_q_all_sp : fi_q_all.sp = spAll := rfl
theorem wp_q_all {C : Ctx} {E : EX} {ds : List D} {M : Mp} {Q : QE} {E' : XD → Mp → Prop} (h : spAll ds M Q E') : wpB C E b_q_all (endsD Q) (startD mc_q_all.N ds) M := by
  obtain ⟨rs, rfl, hrl, hrs, q⟩ := h
  rw [show startD mc_q_all.N [.lst (rs.map pr)] = [some (.lst (rs.map pr)), none, none, none, none, none, none] from rfl, b_q_all, wpB_cons]
  simp [wpB_cons, itD]
  refine ⟨sz (n := 1) (by decide), ?_⟩
  refine forD_pre pr (fun pre ρ M' => M' = M ∧ ∃ (L : List (List Int)), L.length ≤ 20 ^ pre.length ∧ (∀ p, p ∈ L ↔ All2 RgR pre p) ∧ ∃ x2 x3 x4 x5 x6, ρ = [some (.lst (rs.map pr)), some (.lst (L.map pt)), x2, x3, x4, x5, x6]) (fun _ => True.intro) (fun pre r post ρ M1 e hI nx hnx => ?_) (fun ρ M1 hI => ?_) ⟨rfl, [[]], by simp, fun p => ⟨fun hp => by simp at hp; subst hp; exact trivial, fun hp => by cases p with | nil => simp | cons => exact hp.elim⟩, none, none, none, none, none, rfl⟩
  · obtain ⟨rfl, L, hL, hLR, x2, x3, x4, x5, x6, rfl⟩ := hI
    obtain ⟨hr1, hr2, hr3⟩ := hrs r (by rw [← e]; simp)
    have hlen := congrArg List.length e
    simp only [List.length_append, List.length_cons] at hlen
    have h20 : 20 ^ pre.length ≤ 20 ^ 2 := Nat.pow_le_pow_right (by decide) (by omega)
    simp [wpB_cons]
    intro c hc
    simp [itD]
    refine forD_pre pt (fun pre2 ρ M' => ∃ (K : List (List Int)), K.length ≤ 20 * pre2.length ∧ (∀ p, p ∈ K ↔ ∃ s0 ∈ pre2, ∃ y, p = s0 ++ [y] ∧ RgR r y) ∧ M' = M1.upd c (.lst (K.map pt)) ∧ ∃ x5 x6, ρ = [some (.lst (rs.map pr)), some (.lst (L.map pt)), some (.int r.1), some (.int r.2), some (.ref c), x5, x6]) (fun _ => True.intro) (fun pre2 s post2 ρ M2 e2 hI nx2 hnx2 => ?_) (fun ρ M2 hI => ?_) ⟨[], by simp, fun p => by simp, rfl, _, _, rfl⟩
    · obtain ⟨K, hK, hKR, rfl, x5, x6, rfl⟩ := hI
      have hs := (hLR s).mp (by rw [← e2]; simp)
      have hsl := hs.length
      have hlen2 := congrArg List.length e2
      simp only [List.length_append, List.length_cons] at hlen2
      simp [wpB_cons, itD]
      refine ⟨⟨by omega, by omega⟩, ⟨by omega, by omega⟩, fun c2 hc2 => ?_⟩
      refine cmpL_mapf (fun (k : Nat) => D.int (r.1 + (k : Int))) (fun (k : Nat) => pt (s ++ [r.1 + (k : Int)])) hc2 (by simp; omega) (fun _ => True.intro) (fun k hk acc add skip ha => ?_) ?_
      · simp [turnC, wipeD]
        refine ⟨sz (n := 1) (by decide), sz (n := s.length + 1) (by omega), ?_⟩
        rw [show D.tup (s.map D.int ++ [D.int (r.1 + (k : Int))]) = pt (s ++ [r.1 + (k : Int)]) by simp [ils]]
        exact ha
      have hcc : c2 ≠ c := fun z => by rw [z, Mp.upd_same] at hc2; cases hc2
      simp [wpB_nil]
      refine ⟨by have := sz (n := K.length + (r.2 + 1 - r.1).toNat) (by omega); simpa using this, ?_⟩
      refine hnx2 _ _ ⟨K ++ (List.range (r.2 + 1 - r.1).toNat).map (fun (k : Nat) => s ++ [r.1 + (k : Int)]), ?_, fun p => ?_, by simp; rfl, _, _, rfl⟩
      · simp; omega
      · rw [List.mem_append, hKR]
        constructor
        · rintro (⟨s0, h1, y, h2, h3⟩ | hp)
          · exact ⟨s0, List.mem_append_left _ h1, y, h2, h3⟩
          · obtain ⟨k, hk, rfl⟩ := List.mem_map.mp hp
            rw [List.mem_range] at hk
            exact ⟨s, by simp, _, rfl, by constructor <;> omega⟩
        · rintro ⟨s0, h1, y, h2, h3, h4⟩
          rcases List.mem_append.mp h1 with h1 | h1
          · exact .inl ⟨s0, h1, y, h2, h3, h4⟩
          · rw [List.mem_singleton] at h1
            subst h1
            refine .inr (List.mem_map.mpr ⟨(y - r.1).toNat, by rw [List.mem_range]; omega, ?_⟩)
            rw [h2, show r.1 + ((y - r.1).toNat : Int) = y by omega]
    · obtain ⟨K, hK, hKR, rfl, x5, x6, rfl⟩ := hI
      simp [wpB_cons, wpB_nil]
      rw [Mp.del_upd hc]
      refine hnx _ _ ⟨rfl, K, ?_, fun p => ?_, _, _, _, _, _, rfl⟩
      rotate_left
      · rw [hKR]
        constructor
        · rintro ⟨s0, h1, y, rfl, h3⟩
          exact All2.snoc ((hLR s0).mp h1) h3
        · intro hp
          obtain ⟨k0, y, h1, h2, h3⟩ := All2.unsnoc hp
          exact ⟨k0, (hLR k0).mpr h2, y, h1, h3⟩
      have := Nat.mul_le_mul_left 20 hL
      rw [List.length_append, List.length_singleton, Nat.pow_succ]
      omega
  · obtain ⟨rfl, L, hL, hLR, x2, x3, x4, x5, x6, rfl⟩ := hI
    simp [wpB_cons]
    have h20 : 20 ^ rs.length ≤ 20 ^ 3 := Nat.pow_le_pow_right (by decide) hrl
    exact Fin.same (q L (by omega) hLR)
/-! ### places near a hull -/
def mc_q_place : MC := ⟨["_law_urn_here", "_law_box", "_law_hull_here", "_law_found", "_law_size", "_law_far", "_law_low", "_law_high", "_law_first", "_law_count"], ["_law_take", "_law_pick"], [], [], []⟩
def b_q_place : List CS := [.set 3 (.lst false []),
    .for (.tup [.nm 4, .tup [.nm 6, .nm 7]]) .zip2 [.var 1, .var 2] [.par 8 9 (.bin .Add true (.bin .Sub true (.var 7) (.var 4)) (.int 1)) (.bin .Sub true (.var 4) (.bin .Sub true (.var 7) (.var 6))), .set 5 (.lst true [.call 0 [.var 0, .var 9], .int 0, .bin .Sub true (.var 9) (.int 1), .call 0 [.var 0, .var 9], .bin .FloorDiv true (.var 9) (.int 2), .bin .Sub true (.neg (.int 1)) (.call 0 [.var 0, .var 4]), .var 9]), .expr (.mth .append (.var 3) (.bin .Add true (.var 8) (.call 1 [.var 0, .var 5])))],
    .ret (.blt .tuple true [.var 3])]
def spPlace : DSp := fun ds M Q _ => ∃ (u : Addr) (bs : List Int) (h : List (Int × Int)) (n : Nat), ds = [.ref u, pt bs, hu h] ∧ bs.length ≤ 10 ∧ (∀ b ∈ bs, 1 ≤ b ∧ b ≤ 10 ^ 10) ∧ All2 HullR bs h ∧ Urn M u n ∧ n < 2 ^ 58 ∧
  ∀ (pl : List Int) M', pl.length = bs.length → (∀ x ∈ pl, (x.natAbs : Int) ≤ 10 ^ 14) → Urn M' u (n + 5 * bs.length) → Only M M' u → Q (pt pl) M'
def fi_q_place : FI := ⟨"_law_place", 3, spPlace⟩
@[simp] theorem fi_q_place_sp : fi_q_place.sp = spPlace := rfl
def cx_q_place : Ctx := ⟨[fi_take, fi_pick], [], [], []⟩
@[simp] theorem cx_q_place_0 : cx_q_place.fs[0]? = some fi_take := rfl
@[simp] theorem cx_q_place_1 : cx_q_place.fs[1]? = some fi_pick := rfl
theorem wp_q_place {E : EX} {ds : List D} {M : Mp} {Q : QE} {E' : XD → Mp → Prop} (h : spPlace ds M Q E') : wpB cx_q_place E b_q_place (endsD Q) (startD mc_q_place.N ds) M := by
  obtain ⟨u, bs, h, n, rfl, hbl, hbs, hR, hU, hn, q⟩ := h
  rw [show startD mc_q_place.N [.ref u, pt bs, hu h] = [some (.ref u), some (pt bs), some (hu h), none, none, none, none, none, none, none] from rfl, b_q_place, wpB_cons]
  simp
  intro p hp
  have hpu := hU.ne hp
  simp [wpB_cons, itD]
  rw [zip_bh]
  have hlen := hR.length
  have hz : (bs.zip h).length = bs.length := by simp; omega
  refine forD_draw (c := 5) (n := n) (M0 := M) (u := u) (p := p) (fun t : Int × (Int × Int) => D.tup [.int t.1, pr t.2]) D.int (fun _ x => (x.natAbs : Int) ≤ 10 ^ 14) (fun ρ => ∃ x4 x5 x6 x7 x8 x9, ρ = [some (.ref u), some (pt bs), some (hu h), some (.ref p), x4, x5, x6, x7, x8, x9]) (fun _ => True.intro) ⟨_, _, _, _, _, _, rfl⟩ Mp.upd_same (hU.upd hpu) Loc.new (fun t ht ys ρ1 M1 m hS hp1 hyl hU1 hm hL1 nx hnx => ?_) (fun ys ρ2 M2 hR2 hS hp2 hU2 hL2 => ?_)
  · obtain ⟨x4, x5, x6, x7, x8, x9, rfl⟩ := hS
    obtain ⟨h1, h2, h3⟩ := All2.zip hR t ht
    obtain ⟨hb1, hb2⟩ := hbs t.1 (List.of_mem_zip ht).1
    simp [wpB_cons]
    refine ⟨u, t.1 - (t.2.2 - t.2.1), m, rfl, by omega, by omega, hU1, by omega, fun a M3 a0 a1 hU3 ho3 => ?_⟩
    refine ⟨u, t.1 - (t.2.2 - t.2.1), _, rfl, by omega, by omega, hU3, by omega, fun b M4 b0 b1 hU4 ho4 => ?_⟩
    refine ⟨u, t.1, _, rfl, by omega, by omega, hU4, by omega, fun c M5 c0 c1 hU5 ho5 => ⟨by decide, ?_⟩⟩
    try simp
    have e5 : M5 p = some (.lst (ys.map D.int)) := by rw [ho5 p hpu, ho4 p hpu, ho3 p hpu]; exact hp1
    simp [e5]
    refine ⟨u, _, _, _, rfl, .inl rfl, by simp, by simp, hU5, by omega, fun d M6 hd hU6 ho6 => ?_⟩
    obtain ⟨x, rfl, hx⟩ : ∃ x : Int, d = .int x ∧ (x.natAbs : Int) ≤ 10 ^ 12 := by
      simp at hd
      rcases hd with rfl | rfl | rfl | rfl | rfl | rfl | rfl <;> exact ⟨_, rfl, by omega⟩
    have e6 : M6 p = some (.lst (ys.map D.int)) := (ho6 p hpu).trans e5
    simp [e6]
    rw [hz] at hyl
    refine ⟨by have := sz (n := ys.length + 1) (by omega); omega, ?_⟩
    rw [wpB_nil]
    refine hnx (t.2.2 - t.1 + 1 + x) _ _ (by omega) ⟨_, _, _, _, _, _, rfl⟩ (by simp) ((hU6.mono (by omega)).upd hpu) ((((hL1.draw ho3).draw ho4).draw ho5).draw ho6).upd
  · obtain ⟨x4, x5, x6, x7, x8, x9, rfl⟩ := hS
    have hl2 := hR2.length
    rw [hz] at hl2 hU2
    simp [wpB_cons, hp2]
    refine Fin.sub Mp.sub_del (q ys _ hl2.symm (fun b hb => ?_) (hU2.del hpu) (hL2.del hp))
    obtain ⟨_, _, h1⟩ := All2.mem hR2 b hb
    exact h1
/-! ### hulls joined, their values, by the law -/
def mc_q_joined : MC := ⟨["_law_hull_here", "_law_position", "_law_one", "_law_low", "_law_high"], [], [], [], []⟩
def b_q_joined : List CS := [.ret (.blt .tuple true [.comp true (.tup [.blt .min true [.var 3, .var 2], .blt .max true [.var 4, .var 2]]) (.tup [.tup [.nm 3, .nm 4], .nm 2]) .seq [.op (.lzip2 true) [.var 0, .var 1]] [2, 3, 4]])]
def spQJoined : DSp := fun ds M Q _ => ∃ (h : List (Int × Int)) (p : List Int), ds = [hu h, pt p] ∧ p.length ≤ 1000 ∧ Q (hu (joinH h p)) M
def fi_q_joined : FI := ⟨"_law_joined", 2, spQJoined⟩
@[simp] theorem fi_q_joined_sp : fi_q_joined.sp = spQJoined := rfl
theorem wp_q_joined {C : Ctx} {E : EX} {ds : List D} {M : Mp} {Q : QE} {E' : XD → Mp → Prop} (h : spQJoined ds M Q E') : wpB C E b_q_joined (endsD Q) (startD mc_q_joined.N ds) M := by
  obtain ⟨h, p, rfl, hl, q⟩ := h
  rw [show startD mc_q_joined.N [hu h, pt p] = [some (hu h), some (pt p), none, none, none] from rfl, b_q_joined, wpB_cons]
  simp [itD]
  rw [show ((h.map pr).zip (p.map D.int)) = (h.map pr).zip (ils p) from rfl, zip_hu]
  refine ⟨sz (by omega), fun c hc => ?_⟩
  refine cmpL_mapf _ (fun t => pr (mn t.1.1 t.2, mx t.1.2 t.2)) hc (by simp; omega) (fun _ => True.intro) (fun n hn acc add skip ha => ?_) ?_
  · simp [turnC, wipeD]
    exact ⟨by decide, ha⟩
  · simp
    refine Fin.same ?_
    have e : hu (joinH h p) = .tup ((h.zip p).map fun t => pr (mn t.1.1 t.2, mx t.1.2 t.2)) := by simp [joinH]
    rw [e] at q
    exact q
def mc_q_value : MC := ⟨["_law_box", "_law_hull_here", "_law_count", "_law_first"], ["_law_starts", "_law_bits"], [], [], []⟩
def b_q_value : List CS := [.ret (.blt .sum true [.comp true (.call 1 [.var 2]) (.tup [.nm 2, .nm 3]) .seq [.call 0 [.var 0, .var 1]] [2, 3]])]
def cx_q_value : Ctx := ⟨[fi_q_starts, fi_q_bits], [], [], []⟩
@[simp] theorem cx_q_value_0 : cx_q_value.fs[0]? = some fi_q_starts := rfl
@[simp] theorem cx_q_value_1 : cx_q_value.fs[1]? = some fi_q_bits := rfl
def spQValue : DSp := fun ds M Q _ => ∃ (bs : List Int) (h : List (Int × Int)), ds = [pt bs, hu h] ∧ bs.length ≤ 1000 ∧ fitsH bs h = true ∧ Q (.int (valueOf (slackP bs h))) M
def fi_q_value : FI := ⟨"_law_value", 2, spQValue⟩
@[simp] theorem fi_q_value_sp : fi_q_value.sp = spQValue := rfl
theorem wp_q_value {E : EX} {ds : List D} {M : Mp} {Q : QE} {E' : XD → Mp → Prop} (h : spQValue ds M Q E') : wpB cx_q_value E b_q_value (endsD Q) (startD mc_q_value.N ds) M := by
  obtain ⟨bs, h, rfl, hbl, hf, q⟩ := h
  have hfz := fits_zip hf
  rw [show startD mc_q_value.N [pt bs, hu h] = [some (pt bs), some (hu h), none, none] from rfl, b_q_value, wpB_cons]
  simp
  refine ⟨bs, h, rfl, hbl, ?_⟩
  simp [itD]
  intro c hc
  refine cmpL_mapf pr (fun t => D.int (ib t.1 - 1)) hc (by simp [startsP]; omega) (fun _ => True.intro) (fun t ht acc add skip ha => ?_) ?_
  · obtain ⟨z, hz, rfl⟩ := List.mem_map.mp ht
    have := hfz z hz
    simp [turnC, wipeD]
    exact ⟨_, rfl, by omega, ha⟩
  · simp
    rw [slackZ] at q
    unfold valueOf at q
    rw [List.map_map] at q
    exact Fin.same q
end Ow

namespace Ow
open PySem PySem.Spec PyProof.Rows L2
/-- nothing but the slots changes, by the part that is done -/
theorem forD_keepM {α : Type} {ct : CT} {ok : Mp → Prop} {tb : DTS} {B : DEnds} (f : α → D) {L : List α} (S : List α → DSt → Prop) (hok : ∀ M, ok M) {ρ : DSt} {M : Mp}
    (step : ∀ pre a post ρ, pre ++ a :: post = L → S pre ρ → ∀ nx : DSt → Mp → Prop, (∀ ρ', S (pre ++ [a]) ρ' → nx ρ' M) → bindT ct (f a) ρ fun ρ' => tb { B with nx := nx, ct := nx, bk := B.nx } ρ' M)
    (fin : ∀ ρ, S L ρ → B.nx ρ M) (h : S [] ρ) : forD ct ok tb B (L.map f) ρ M :=
  forD_pre f (fun pre ρ' M' => S pre ρ' ∧ M' = M) hok (fun pre a post ρ' M' e hI nx hnx => by
    obtain ⟨hS, rfl⟩ := hI
    exact step pre a post ρ' e hS nx fun ρ2 h2 => hnx ρ2 _ ⟨h2, rfl⟩) (fun ρ' M' hI => by obtain ⟨hS, rfl⟩ := hI; exact fin ρ' hS) ⟨h, rfl⟩
/-! ### the law's own ways to load -/
def mc_q_wider : MC := ⟨["_law_ranges", "_law_request", "_law_found", "_law_one", "_law_low", "_law_high"], [], [], [], []⟩
def b_q_wider : List CS := [.set 2 (.lst false []),
    .for (.tup [.tup [.nm 4, .nm 5], .nm 3]) .zip2 [.var 0, .var 1] [.expr (.mth .append (.var 2) (.tup [.blt .min true [.var 4, .var 3], .blt .max true [.var 5, .var 3]]))],
    .ret (.var 2)]
def spWider : DSp := fun ds M Q _ => ∃ (h : List (Int × Int)) (p : List Int), ds = [.lst (h.map pr), pt p] ∧ p.length ≤ 1000 ∧ Q (.lst ((joinH h p).map pr)) M
def fi_q_wider : FI := ⟨"_law_wider", 2, spWider⟩
@[simp] theorem fi_q_wider_sp : fi_q_wider.sp = spWider := rfl
theorem wp_q_wider {C : Ctx} {E : EX} {ds : List D} {M : Mp} {Q : QE} {E' : XD → Mp → Prop} (h : spWider ds M Q E') : wpB C E b_q_wider (endsD Q) (startD mc_q_wider.N ds) M := by
  obtain ⟨h, p, rfl, hl, q⟩ := h
  rw [show startD mc_q_wider.N [.lst (h.map pr), pt p] = [some (.lst (h.map pr)), some (pt p), none, none, none, none] from rfl, b_q_wider, wpB_cons]
  simp
  intro c hc
  rw [wpB_cons]
  simp [itD]
  rw [show ((h.map pr).zip (p.map D.int)) = (h.map pr).zip (ils p) from rfl, zip_hu]
  refine forD_map (L := h.zip p) (fun t : (Int × Int) × Int => D.tup [pr t.1, .int t.2]) (fun t => pr (mn t.1.1 t.2, mx t.1.2 t.2)) (fun ρ => ∃ x3 x4 x5, ρ = [some (.lst (h.map pr)), some (pt p), some (.ref c), x3, x4, x5]) (fun _ => True.intro) (fun t ht acc ρ hacc hS nx hnx => ?_) (fun ρ hS => ?_) ⟨_, _, _, rfl⟩
  · obtain ⟨x3, x4, x5, rfl⟩ := hS
    rw [List.length_zip] at hacc
    simp [wpB_cons, wpB_nil]
    exact ⟨by decide, by have := sz (n := acc.length + 1) (by omega); omega, hnx _ ⟨_, _, _, rfl⟩⟩
  · obtain ⟨x3, x4, x5, rfl⟩ := hS
    simp [wpB_cons]
    refine Fin.lst Mp.upd_same ?_
    rw [Mp.del_upd hc]
    have e : (joinH h p).map pr = (h.zip p).map fun t => pr (mn t.1.1 t.2, mx t.1.2 t.2) := by simp [joinH]
    rw [e] at q
    exact q
/-- the hull of the phase behind a request, [] ahead of the first -/
def grownP (bs : List Int) (h : List (Int × Int)) (p : List Int) : List (Int × Int) := if h = [] then hullP p else nextHull bs h p
def mc_q_grown : MC := ⟨["_law_box", "_law_ranges", "_law_request", "_law_found", "_law_size", "_law_low", "_law_high", "_law_one"], ["_law_wider"], [], [], []⟩
def b_q_grown : List CS := [.set 3 (.call 0 [.var 1, .var 2]),
    .for (.tup [.nm 4, .tup [.nm 5, .nm 6]]) .zip2 [.var 0, .var 3] [.ifs (.cmp .GtE (.bin .Sub true (.var 6) (.var 5)) (.var 4)) [.set 3 (.lst true [])] []],
    .ret (.ife (.cmp .NotEq (.var 3) (.lst true [])) (.var 3) (.comp true (.tup [.var 7, .var 7]) (.nm 7) .seq [.var 2] [7]))]
def cx_q_grown : Ctx := ⟨[fi_q_wider], [], [], []⟩
@[simp] theorem cx_q_grown_0 : cx_q_grown.fs[0]? = some fi_q_wider := rfl
theorem lay_hu : ∀ l : List (Int × Int), PyData.canLayAll0 (D.pys (l.map pr)) = true ∧ PyData.depthAll (D.pys (l.map pr)) ≤ 1 ∧ D.flats (l.map pr) = true := fun l => by
  have := lay_lg (l.map fun t => [t.1, t.2])
  rw [List.map_map] at this
  exact this
def spGrown : DSp := fun ds M Q _ => ∃ (bs : List Int) (h : List (Int × Int)) (p : List Int), ds = [pt bs, .lst (h.map pr), pt p] ∧ bs.length ≤ 1000 ∧ bs ≠ [] ∧ p.length = bs.length ∧ (h = [] ∨ h.length = bs.length) ∧ Q (.lst ((grownP bs h p).map pr)) M
def fi_q_grown : FI := ⟨"_law_grown", 3, spGrown⟩
@[simp] theorem fi_q_grown_sp : fi_q_grown.sp = spGrown := rfl
theorem wp_q_grown {E : EX} {ds : List D} {M : Mp} {Q : QE} {E' : XD → Mp → Prop} (h : spGrown ds M Q E') : wpB cx_q_grown E b_q_grown (endsD Q) (startD mc_q_grown.N ds) M := by
  obtain ⟨bs, h, p, rfl, hbl, hb0, hp, hh, q⟩ := h
  rw [show startD mc_q_grown.N [pt bs, .lst (h.map pr), pt p] = [some (pt bs), some (.lst (h.map pr)), some (pt p), none, none, none, none, none] from rfl, b_q_grown, wpB_cons]
  simp
  refine ⟨h, p, rfl, by omega, ?_⟩
  try dsimp only
  rw [wpB_cons]
  simp [itD]
  rw [zip_bh]
  obtain ⟨J, hJ⟩ : ∃ J, J = joinH h p := ⟨_, rfl⟩
  rw [← hJ]
  have hJl : J = [] ∨ J.length = bs.length := by
    rw [hJ]
    rcases hh with rfl | hh
    · exact .inl rfl
    · right; rw [joinH_len]; omega
  have hfit : fitsH bs J = (bs.zip J).all fun t => decide (t.2.2 - t.2.1 < t.1) := by
    unfold fitsH; rw [zip_swap' J bs, List.all_map]; rfl
  refine forD_keepM (fun t : Int × (Int × Int) => D.tup [.int t.1, pr t.2]) (fun pre ρ => ∃ x4 x5 x6, ρ = [some (pt bs), some (.lst (h.map pr)), some (pt p), some (.lst ((if (pre.all fun t => decide (t.2.2 - t.2.1 < t.1)) = true then J else []).map pr)), x4, x5, x6, none]) (fun _ => True.intro) (fun pre t post ρ e hS nx hnx => ?_) (fun ρ hS => ?_) ⟨_, _, _, rfl⟩
  · obtain ⟨x4, x5, x6, rfl⟩ := hS
    simp [wpB_cons]
    by_cases ht : t.2.2 - t.2.1 < t.1
    · rw [if_neg (by omega), wpB_nil]
      try dsimp only
      rw [wpB_nil]
      have es : ((pre ++ [t]).all fun t => decide (t.2.2 - t.2.1 < t.1)) = pre.all fun t => decide (t.2.2 - t.2.1 < t.1) := by rw [List.all_append, List.all_cons, decide_eq_true ht]; simp
      exact hnx _ ⟨_, _, _, by rw [es]⟩
    · rw [if_pos (by omega)]
      have es : ((pre ++ [t]).all fun t => decide (t.2.2 - t.2.1 < t.1)) = false := by rw [List.all_append, List.all_cons, decide_eq_false ht]; simp
      simp [wpB_cons, wpB_nil]
      exact hnx _ ⟨some (.int t.1), some (.int t.2.1), some (.int t.2.2), by rw [es]; rfl⟩
  · obtain ⟨x4, x5, x6, rfl⟩ := hS
    rw [← hfit]
    obtain ⟨F, hF⟩ : ∃ F, F = if fitsH bs J = true then J else [] := ⟨_, rfl⟩
    rw [← hF]
    simp [wpB_cons]
    obtain ⟨g1, g2, g3⟩ := lay_hu F
    refine cmp_nelstnil g1 (by omega) g3 ?_
    have eg : grownP bs h p = if F = [] then hullP p else F := by
      unfold grownP nextHull
      rw [hF, hJ]
      rcases hh with rfl | hh
      · rw [if_pos rfl, show joinH [] p = [] from rfl]; simp
      · have h0 : h ≠ [] := fun z => by rw [z] at hh; exact hb0 (List.length_eq_zero_iff.mp hh.symm)
        rw [if_neg h0]
        have j0 : joinH h p ≠ [] := fun z => by
          have := congrArg List.length z
          rw [joinH_len, List.length_nil] at this
          exact hb0 (List.length_eq_zero_iff.mp (by omega))
        by_cases hf : fitsH bs (joinH h p) = true
        · rw [if_pos hf, if_pos hf, if_neg j0]
        · rw [if_neg hf, if_neg hf, if_pos rfl]
    by_cases hF0 : F = []
    · rw [if_pos hF0] at eg
      rw [hF0]
      simp [itD]
      intro c hc
      refine cmpL_mapf D.int (fun n => pr (n, n)) hc (by omega) (fun _ => True.intro) (fun n hn acc add skip ha => ?_) ?_
      · simp [turnC, wipeD]
        exact ⟨by decide, ha⟩
      · have e : (hullP p).map pr = p.map fun n => pr (n, n) := by simp [hullP]
        rw [eg, e] at q
        exact Fin.same q
    · rw [if_neg hF0] at eg
      have : (F.map pr).isEmpty = false := by cases F with
        | nil => exact absurd rfl hF0
        | cons => rfl
      rw [this]
      simp
      rw [eg] at q
      exact Fin.same q
/-- where a way puts the window along an axis -/
def startF (way : Str) (b one : Int) (t : Int × Int) (here : Option Int) : Int :=
  if way = "halving" then (t.2 - b + 1) + (t.1 - (t.2 - b + 1)) / 2
  else if way = "high" then one - b + 1
  else if way = "middle" then one - (b - 1) / 2
  else match here with
    | none => one
    | some x => if way = "low" ∨ one < x then one else if one < x + b then x else one - b + 1
def hereD : Option (List Int) → D
  | none => .non
  | some x => pt x
def mc_q_start : MC := ⟨["_law_box", "_law_ranges", "_law_here", "_law_request", "_law_way", "_law_axis", "_law_size", "_law_one", "_law_earliest"], [], [], [], []⟩
def b_q_start : List CS := [.par 6 7 (.ix (.var 0) (.var 5)) (.ix (.var 3) (.var 5)),
    .ifs (.cmp .Eq (.var 4) (.str "halving")) [.set 8 (.bin .Add true (.bin .Sub true (.ix (.ix (.var 1) (.var 5)) (.int 1)) (.var 6)) (.int 1)), .ret (.bin .Add true (.var 8) (.bin .FloorDiv true (.bin .Sub true (.ix (.ix (.var 1) (.var 5)) (.int 0)) (.var 8)) (.int 2)))] [],
    .ifs (.cmp .Eq (.var 4) (.str "high")) [.ret (.bin .Add true (.bin .Sub true (.var 7) (.var 6)) (.int 1))] [],
    .ifs (.cmp .Eq (.var 4) (.str "middle")) [.ret (.bin .Sub true (.var 7) (.bin .FloorDiv true (.bin .Sub true (.var 6) (.int 1)) (.int 2)))] [],
    .ifs (.or (.cmp .Eq (.var 4) (.str "low")) (.or (.cmp .Is (.var 2) (.non)) (.one (.cmp .Lt (.var 7) (.ix (.var 2) (.var 5)))))) [.ret (.var 7)] [],
    .ret (.ife (.cmp .Lt (.var 7) (.bin .Add true (.ix (.var 2) (.var 5)) (.var 6))) (.ix (.var 2) (.var 5)) (.bin .Add true (.bin .Sub true (.var 7) (.var 6)) (.int 1)))]
def spStartQ : DSp := fun ds M Q _ => ∃ (bs : List Int) (h : List (Int × Int)) (here : Option (List Int)) (p : List Int) (way : Str) (i : Nat), ds = [pt bs, .lst (h.map pr), hereD here, pt p, .str way, .int (i : Int)] ∧ i < bs.length ∧ i < h.length ∧ i < p.length ∧ (∀ x, here = some x → i < x.length) ∧ Q (.int (startF way (bs.getD i 0) (p.getD i 0) (h.getD i (0, 0)) (here.map fun x => x.getD i 0))) M
def fi_q_start : FI := ⟨"_law_start", 6, spStartQ⟩
@[simp] theorem fi_q_start_sp : fi_q_start.sp = spStartQ := rfl
theorem atI_ils {p : List Int} {i : Nat} (hi : i < p.length) : atI (ils p) (i : Int) = some (.int (p.getD i 0)) := by
  rw [atI_nat (by simpa using hi)]
  simp [List.getD_eq_getElem?_getD, List.getElem?_eq_getElem hi]
theorem atI_hu {h : List (Int × Int)} {i : Nat} (hi : i < h.length) : atI (h.map pr) (i : Int) = some (pr (h.getD i (0, 0))) := by
  rw [atI_nat (by simpa using hi)]
  simp [List.getD_eq_getElem?_getD, List.getElem?_eq_getElem hi]
theorem atI_pr0 {t : Int × Int} : atI [D.int t.1, D.int t.2] 0 = some (.int t.1) := rfl
theorem atI_pr1 {t : Int × Int} : atI [D.int t.1, D.int t.2] 1 = some (.int t.2) := rfl
theorem wp_q_start {C : Ctx} {E : EX} {ds : List D} {M : Mp} {Q : QE} {E' : XD → Mp → Prop} (h : spStartQ ds M Q E') : wpB C E b_q_start (endsD Q) (startD mc_q_start.N ds) M := by
  obtain ⟨bs, h, here, p, way, i, rfl, hb, hh, hp, hx, q⟩ := h
  rw [show startD mc_q_start.N [pt bs, .lst (h.map pr), hereD here, pt p, .str way, .int (i : Int)] = [some (pt bs), some (.lst (h.map pr)), some (hereD here), some (pt p), some (.str way), some (.int (i : Int)), none, none, none] from rfl, b_q_start, wpB_cons]
  have g1 := atI_ils hb
  have g2 := atI_ils hp
  have g3 := atI_hu hh
  generalize bs.getD i 0 = b at g1 q
  generalize p.getD i 0 = one at g2 q
  generalize h.getD i (0, 0) = t at g3 q
  simp [g1, g2]
  rw [wpB_cons]
  simp
  by_cases w1 : way = "halving"
  · rw [if_pos w1]
    rw [wpB_cons]
    simp [g3, atI_pr1]
    rw [wpB_cons]
    simp [g3, atI_pr0]
    have e : startF way b one t (here.map fun x => x.getD i 0) = (t.2 - b + 1) + (t.1 - (t.2 - b + 1)) / 2 := by unfold startF; rw [if_pos w1]
    rw [e] at q
    exact Fin.same q
  rw [if_neg w1, wpB_nil]
  try dsimp only
  rw [wpB_cons]
  simp
  by_cases w2 : way = "high"
  · rw [if_pos w2]
    rw [wpB_cons]
    simp
    have e : startF way b one t (here.map fun x => x.getD i 0) = one - b + 1 := by unfold startF; rw [if_neg w1, if_pos w2]
    rw [e] at q
    exact Fin.same q
  rw [if_neg w2, wpB_nil]
  try dsimp only
  rw [wpB_cons]
  simp
  by_cases w3 : way = "middle"
  · rw [if_pos w3]
    rw [wpB_cons]
    simp
    have e : startF way b one t (here.map fun x => x.getD i 0) = one - (b - 1) / 2 := by unfold startF; rw [if_neg w1, if_neg w2, if_pos w3]
    rw [e] at q
    exact Fin.same q
  rw [if_neg w3, wpB_nil]
  try dsimp only
  rw [wpB_cons]
  simp
  unfold startF at q
  rw [if_neg w1, if_neg w2, if_neg w3] at q
  cases here with
  | none =>
    simp [hereD, D.isNon] at q ⊢
    rw [wpB_cons]
    simp
    exact Fin.same q
  | some x =>
    have g4 := atI_ils (hx x rfl)
    simp only [Option.map_some] at q
    generalize x.getD i 0 = y at g4 q
    by_cases w4 : way = "low"
    · rw [if_pos (.inl w4)] at q
      rw [if_pos w4, wpB_cons]; simp; exact Fin.same q
    · rw [if_neg w4]
      simp [hereD, D.isNon, g4]
      by_cases w5 : one < y
      · rw [if_pos (.inr w5)] at q
        rw [if_pos w5]
        rw [wpB_cons]
        simp
        exact Fin.same q
      · rw [if_neg (by simp [w4, w5])] at q
        rw [if_neg w5, wpB_nil]
        try dsimp only
        rw [wpB_cons]
        simp [g4]
        by_cases w6 : one < y + b
        · rw [if_pos w6] at q ⊢
          exact Fin.same q
        · rw [if_neg w6] at q ⊢
          exact Fin.same q
/-! ### the places of a way -/
structure WSt where
  hull : List (Int × Int)
  here : Option (List Int)
  out : List (List Int)
def newPl (way : Str) (bs : List Int) (h : List (Int × Int)) (here : Option (List Int)) (p : List Int) : List Int := (List.range bs.length).map fun i => startF way (bs.getD i 0) (p.getD i 0) (h.getD i (0, 0)) (here.map fun x => x.getD i 0)
def covO (bs : List Int) (here : Option (List Int)) (p : List Int) : Bool := match here with
  | none => false
  | some x => coversB bs x p
def wayStep (way : Str) (bs : List Int) (s : WSt) (p : List Int) : WSt :=
  let h := grownP bs s.hull p
  if covO bs s.here p = true then ⟨h, s.here, s.out ++ [s.here.getD []]⟩ else ⟨h, some (newPl way bs h s.here p), s.out ++ [newPl way bs h s.here p]⟩
def wayRun (way : Str) (bs : List Int) (log : List (List Int)) : WSt := log.foldl (wayStep way bs) ⟨[], none, []⟩
def mc_q_played : MC := ⟨["_law_box", "_law_requests", "_law_way", "_law_request", "_law_ranges", "_law_here", "_law_found", "_law_new", "_law_axis"], ["_law_grown", "_law_covers", "_law_start"], [], [], []⟩
def b_q_played : List CS := [.par3 4 5 6 (.lst true []) (.non) (.lst false []),
    .for (.nm 3) .seq [.var 1] [.set 4 (.call 0 [.var 0, .var 4, .var 3]), .ifs (.or (.cmp .Is (.var 5) (.non)) (.one (.not (.call 1 [.var 0, .var 5, .var 3])))) [.set 7 (.lst false []), .for (.nm 8) .rng1 [.blt .len true [.var 0]] [.expr (.mth .append (.var 7) (.call 2 [.var 0, .var 4, .var 5, .var 3, .var 2, .var 8]))], .set 5 (.blt .tuple true [.var 7])] [], .expr (.mth .append (.var 6) (.var 5))],
    .ret (.blt .tuple true [.var 6])]
def cx_q_played : Ctx := ⟨[fi_q_grown, fi_q_covers, fi_q_start], [], [], []⟩
@[simp] theorem cx_q_played_0 : cx_q_played.fs[0]? = some fi_q_grown := rfl
@[simp] theorem cx_q_played_1 : cx_q_played.fs[1]? = some fi_q_covers := rfl
@[simp] theorem cx_q_played_2 : cx_q_played.fs[2]? = some fi_q_start := rfl
def spPlayed : DSp := fun ds M Q _ => ∃ (bs : List Int) (log : List (List Int)) (way : Str), ds = [pt bs, lg log, .str way] ∧ bs.length ≤ 1000 ∧ bs ≠ [] ∧ log.length ≤ 100000 ∧ (∀ p ∈ log, p.length = bs.length) ∧ Q (lg (wayRun way bs log).out) M
def fi_q_played : FI := ⟨"_law_played", 3, spPlayed⟩
@[simp] theorem fi_q_played_sp : fi_q_played.sp = spPlayed := rfl
theorem grown_len {bs : List Int} {h : List (Int × Int)} {p : List Int} (hp : p.length = bs.length) (hh : h = [] ∨ h.length = bs.length) : (grownP bs h p).length = bs.length := by
  unfold grownP nextHull
  rcases hh with rfl | hh
  · rw [if_pos rfl, hullP_len, hp]
  · split
    · rw [hullP_len, hp]
    · split
      · rw [joinH_len]; omega
      · rw [hullP_len, hp]
theorem newPl_len {way : Str} {bs : List Int} {h : List (Int × Int)} {here : Option (List Int)} {p : List Int} : (newPl way bs h here p).length = bs.length := by simp [newPl]
structure WOk (bs : List Int) (k : Nat) (s : WSt) : Prop where
  hull : s.hull = [] ∨ s.hull.length = bs.length
  here : ∀ x, s.here = some x → x.length = bs.length
  out : s.out.length = k
theorem WOk.step {way : Str} {bs : List Int} {k : Nat} {s : WSt} {p : List Int} (h : WOk bs k s) (hp : p.length = bs.length) : WOk bs (k + 1) (wayStep way bs s p) := by
  unfold wayStep
  dsimp only
  split
  · exact ⟨.inr (grown_len hp h.hull), h.here, by simp [h.out]⟩
  · exact ⟨.inr (grown_len hp h.hull), fun x e => by cases e; exact newPl_len, by simp [h.out]⟩
theorem wp_q_played {E : EX} {ds : List D} {M : Mp} {Q : QE} {E' : XD → Mp → Prop} (h : spPlayed ds M Q E') : wpB cx_q_played E b_q_played (endsD Q) (startD mc_q_played.N ds) M := by
  obtain ⟨bs, log, way, rfl, hbl, hb0, hll, hlog, q⟩ := h
  rw [show startD mc_q_played.N [pt bs, lg log, .str way] = [some (pt bs), some (lg log), some (.str way), none, none, none, none, none, none] from rfl, b_q_played, wpB_cons]
  simp
  intro c hc
  rw [wpB_cons]
  simp [itD]
  refine forD_pre pt (fun pre ρ M' => ∃ x3 x7 x8, ρ = [some (pt bs), some (lg log), some (.str way), x3, some (.lst ((wayRun way bs pre).hull.map pr)), some (hereD (wayRun way bs pre).here), some (.ref c), x7, x8] ∧ M' c = some (.lst ((wayRun way bs pre).out.map pt)) ∧ (∀ a o, a ≠ c → M a = some o → M' a = some o) ∧ WOk bs pre.length (wayRun way bs pre))
    (fun _ => True.intro) (fun pre p post ρ M1 e hI nx hnx => ?_) (fun ρ M1 hI => ?_) ⟨_, _, _, rfl, Mp.upd_same, fun a o ha hm => (Mp.upd_ne ha).trans hm, ⟨.inl rfl, (fun x e => by cases e), rfl⟩⟩
  · obtain ⟨x3, x7, x8, rfl, hMc, hK, hok⟩ := hI
    have hp := hlog p (by rw [← e]; simp)
    have hlen := congrArg List.length e
    simp only [List.length_append, List.length_cons] at hlen
    have es : wayRun way bs (pre ++ [p]) = wayStep way bs (wayRun way bs pre) p := by unfold wayRun; rw [List.foldl_append]; rfl
    have hok' := hok.step (way := way) hp
    rw [← es] at hok'
    generalize wayRun way bs pre = s at es hMc hok ⊢
    have fin : ∀ (y7 y8 : Option D) (M2 : Mp), M2 c = some (.lst (s.out.map pt)) → (∀ a o, a ≠ c → M a = some o → M2 a = some o) → ∀ B : DEnds, B.nx = nx → ∀ d, d = hereD (wayRun way bs (pre ++ [p])).here → (wayRun way bs (pre ++ [p])).out = s.out ++ [(wayRun way bs (pre ++ [p])).here.getD []] → (wayRun way bs (pre ++ [p])).here ≠ none → (wayRun way bs (pre ++ [p])).hull = grownP bs s.hull p →
        wpB cx_q_played E [.expr (.mth .append (.var 6) (.var 5))] B [some (pt bs), some (lg log), some (.str way), some (pt p), some (.lst ((grownP bs s.hull p).map pr)), some d, some (.ref c), y7, y8] M2 := by
      rintro y7 y8 M2 k1 k2 B hB _ rfl k3 k4 k5
      rw [wpB_cons]
      simp [k1]
      refine ⟨by rw [hok.out]; have := sz (n := pre.length + 1) (by omega); omega, ?_⟩
      rw [wpB_nil, hB]
      refine hnx _ _ ⟨some (pt p), y7, y8, by rw [k5], ?_, fun a o ha hm => (Mp.upd_ne ha).trans (k2 a o ha hm), by simpa using hok'⟩
      rw [Mp.upd_same, k3]
      cases hh : (wayRun way bs (pre ++ [p])).here with
      | none => exact absurd hh k4
      | some x => simp [hereD]
    simp
    rw [wpB_cons]
    simp
    refine ⟨bs, s.hull, p, rfl, hbl, hb0, hp, hok.hull, ?_⟩
    try dsimp only
    rw [wpB_cons]
    simp
    have hgl := grown_len hp hok.hull
    have new : covO bs s.here p = false → ∀ B : DEnds, (∀ ρ' M', wpB cx_q_played E [.expr (.mth .append (.var 6) (.var 5))] { B with nx := nx } ρ' M' → B.nx ρ' M') → True := fun _ _ _ => trivial
    have ens : covO bs s.here p = false → wayRun way bs (pre ++ [p]) = ⟨grownP bs s.hull p, some (newPl way bs (grownP bs s.hull p) s.here p), s.out ++ [newPl way bs (grownP bs s.hull p) s.here p]⟩ := fun hc => by
      rw [es]; unfold wayStep; dsimp only; rw [if_neg (by rw [hc]; exact Bool.false_ne_true)]
    have load : covO bs s.here p = false → ∀ B : DEnds, B.nx = nx →
        wpB cx_q_played E [.set 7 (.lst false []), .for (.nm 8) .rng1 [.blt .len true [.var 0]] [.expr (.mth .append (.var 7) (.call 2 [.var 0, .var 4, .var 5, .var 3, .var 2, .var 8]))], .set 5 (.blt .tuple true [.var 7])] { nx := fun ρ' M' => wpB cx_q_played E [.expr (.mth .append (.var 6) (.var 5))] B ρ' M', rt := B.rt, bk := B.bk, ct := B.ct }
        [some (pt bs), some (lg log), some (.str way), some (pt p), some (.lst ((grownP bs s.hull p).map pr)), some (hereD s.here), some (.ref c), x7, x8] M1 := by
      intro hcv B hB
      have en := ens hcv
      rw [wpB_cons]
      simp
      intro c2 hc2
      have hcc : c ≠ c2 := fun z => by rw [← z, hMc] at hc2; cases hc2
      rw [wpB_cons]
      simp [itD]
      refine ⟨⟨by omega, by omega⟩, ?_⟩
      refine forD_map (fun (i : Nat) => D.int (i : Int)) (fun i => D.int (startF way (bs.getD i 0) (p.getD i 0) ((grownP bs s.hull p).getD i (0, 0)) (s.here.map fun x => x.getD i 0))) (fun ρ => ∃ x8, ρ = [some (pt bs), some (lg log), some (.str way), some (pt p), some (.lst ((grownP bs s.hull p).map pr)), some (hereD s.here), some (.ref c), some (.ref c2), x8]) (fun _ => True.intro) (fun i hi acc ρ hacc hS nx2 hnx2 => ?_) (fun ρ hS => ?_) ⟨_, rfl⟩
      · obtain ⟨y8, rfl⟩ := hS
        rw [List.mem_range] at hi
        rw [List.length_range] at hacc
        simp
        rw [wpB_cons]
        simp
        refine ⟨bs, grownP bs s.hull p, s.here, p, way, i, rfl, hi, by omega, by omega, fun x hx => by have := hok.here x hx; omega, ?_⟩
        simp
        refine ⟨by have := sz (n := acc.length + 1) (by omega); omega, ?_⟩
        rw [wpB_nil]
        exact hnx2 _ ⟨_, rfl⟩
      · obtain ⟨y8, rfl⟩ := hS
        try dsimp only
        rw [wpB_cons]
        simp
        rw [wpB_nil]
        have en2 : (List.range bs.length).map (fun i => D.int (startF way (bs.getD i 0) (p.getD i 0) ((grownP bs s.hull p).getD i (0, 0)) (s.here.map fun x => x.getD i 0))) = ils (newPl way bs (grownP bs s.hull p) s.here p) := by simp [newPl, ils]
        refine fin _ _ _ ((Mp.upd_ne hcc).trans hMc) (fun a o ha hm => ?_) B hB _ ?_ (by rw [en]; rfl) (by rw [en]; simp) (by rw [en])
        · have h1 := hK a o ha hm
          exact (Mp.upd_ne fun z => by rw [z, hc2] at h1; cases h1).trans h1
        · rw [en]
          simp [hereD, newPl, ils]
    cases hh : s.here with
    | none =>
      rw [hh] at load
      simp [hereD, D.isNon]
      exact load rfl _ rfl
    | some x =>
      rw [hh] at load
      simp [hereD, D.isNon]
      refine ⟨bs, x, p, rfl, by have := hok.here x hh; omega, ?_⟩
      cases hcv : coversB bs x p with
      | false =>
        simp
        exact load hcv _ rfl
      | true =>
        simp
        rw [wpB_nil]
        have en : wayRun way bs (pre ++ [p]) = ⟨grownP bs s.hull p, s.here, s.out ++ [s.here.getD []]⟩ := by
          rw [es]; unfold wayStep; dsimp only; rw [if_pos (by rw [hh]; exact hcv)]
        refine fin _ _ M1 hMc hK _ rfl _ ?_ (by rw [en]) (by rw [en, hh]; simp) (by rw [en])
        rw [en, hh]; rfl
  · obtain ⟨x3, x7, x8, rfl, hMc, hK, hok⟩ := hI
    try dsimp only
    rw [wpB_cons]
    simp [hMc]
    exact Fin.sub (M' := M) (fun a o hm => hK a o (fun z => by rw [z, hc] at hm; cases hm) hm) q
theorem join_getP {h : List (Int × Int)} {p : List Int} (hl : p.length = h.length) {j : Nat} (hj : j < h.length) : (joinH h p).getD j (0, 0) = (mn (h.getD j (0, 0)).1 (p.getD j 0), mx (h.getD j (0, 0)).2 (p.getD j 0)) := by
  rw [List.getD_eq_getElem?_getD, List.getD_eq_getElem?_getD, List.getD_eq_getElem?_getD, List.getElem?_eq_getElem hj, List.getElem?_eq_getElem (show j < p.length by omega), List.getElem?_eq_getElem (show j < (joinH h p).length by rw [joinH_len]; omega)]
  simp [joinH]
/-! ### the halving way is the viewer's -/
def runM (bs : List Int) (log : List (List Int)) : List Mom := log.foldl (fun l p => l ++ [stepM bs l p]) []
theorem runM_snoc (bs : List Int) (log : List (List Int)) (p : List Int) : runM bs (log ++ [p]) = runM bs log ++ [stepM bs (runM bs log) p] := by unfold runM; rw [List.foldl_append]; rfl
theorem newPl_halving {bs : List Int} {h : List (Int × Int)} {here : Option (List Int)} {p : List Int} (hl : h.length = bs.length) : newPl "halving" bs h here p = halvingP bs h := by
  rw [halvingZ]
  refine List.ext_getElem (by simp [newPl]; omega) fun i h1 h2 => ?_
  have hi : i < bs.length := by simpa [newPl] using h1
  simp only [newPl, startF, if_true, List.getElem_map, List.getElem_range, List.getElem_zip]
  simp [List.getD_eq_getElem?_getD, List.getElem?_eq_getElem hi, List.getElem?_eq_getElem (show i < h.length by omega)]
def WInv (bs : List Int) (s : WSt) (l : List Mom) : Prop := s.out = l.map (·.place) ∧ match l.getLast? with
  | none => s.hull = [] ∧ s.here = none
  | some m => s.hull = m.hull ∧ s.here = some m.place ∧ m.hull.length = bs.length ∧ m.place.length = bs.length
theorem next_len {bs p : List Int} {h : List (Int × Int)} (hp : p.length = bs.length) (hh : h.length = bs.length) : (nextHull bs h p).length = bs.length := by
  unfold nextHull
  split
  · rw [joinH_len]; omega
  · rw [hullP_len, hp]
theorem winv_step {bs : List Int} {s : WSt} {l : List Mom} {p : List Int} (hb : bs ≠ []) (hp : p.length = bs.length) (h : WInv bs s l) : WInv bs (wayStep "halving" bs s p) (l ++ [stepM bs l p]) := by
  obtain ⟨h1, h2⟩ := h
  unfold WInv
  rw [List.getLast?_concat]
  unfold stepM
  cases hl : l.getLast? with
  | none =>
    rw [hl] at h2
    obtain ⟨a1, a2⟩ := h2
    have e : wayStep "halving" bs s p = ⟨hullP p, some (halvingP bs (hullP p)), s.out ++ [halvingP bs (hullP p)]⟩ := by
      unfold wayStep grownP covO
      rw [a1, a2]
      dsimp only
      rw [if_pos rfl, if_neg Bool.false_ne_true, newPl_halving (by rw [hullP_len, hp])]
    rw [e]
    exact ⟨by rw [h1, List.map_append]; rfl, rfl, rfl, by rw [show (firstM bs p).hull = hullP p from rfl, hullP_len, hp], halving_len (by rw [hullP_len, hp])⟩
  | some m =>
    rw [hl] at h2
    obtain ⟨a1, a2, a3, a4⟩ := h2
    have g : grownP bs s.hull p = nextHull bs m.hull p := by
      unfold grownP
      rw [a1, if_neg fun z => hb (List.length_eq_zero_iff.mp (by rw [← a3, z]; rfl))]
    have gl := next_len hp a3
    dsimp only
    by_cases hc : coversB bs m.place p = true
    · have e : wayStep "halving" bs s p = ⟨nextHull bs m.hull p, some m.place, s.out ++ [m.place]⟩ := by
        unfold wayStep covO
        rw [g, a2]
        dsimp only
        rw [if_pos hc]; rfl
      rw [e]
      exact ⟨by rw [h1, List.map_append, List.map_singleton, nextM_place, if_pos hc], by rw [nextM_hull], by rw [nextM_place, if_pos hc], by rw [nextM_hull, gl], by rw [nextM_place, if_pos hc, a4]⟩
    · have e : wayStep "halving" bs s p = ⟨nextHull bs m.hull p, some (halvingP bs (nextHull bs m.hull p)), s.out ++ [halvingP bs (nextHull bs m.hull p)]⟩ := by
        unfold wayStep covO
        rw [g, a2]
        dsimp only
        rw [if_neg hc, newPl_halving gl]
      rw [e]
      exact ⟨by rw [h1, List.map_append, List.map_singleton, nextM_place, if_neg hc], by rw [nextM_hull], by rw [nextM_place, if_neg hc], by rw [nextM_hull, gl], by rw [nextM_place, if_neg hc]; exact halving_len gl⟩
theorem winv_run {bs : List Int} (hb : bs ≠ []) : ∀ (log : List (List Int)) (s : WSt) (l : List Mom), (∀ p ∈ log, p.length = bs.length) → WInv bs s l → WInv bs (log.foldl (wayStep "halving" bs) s) (log.foldl (fun l p => l ++ [stepM bs l p]) l)
  | [], _, _, _, h => h
  | p :: log, s, l, hp, h => winv_run hb log _ _ (fun x hx => hp x (List.mem_cons_of_mem _ hx)) (winv_step hb (hp p List.mem_cons_self) h)
theorem way_halving {bs : List Int} {log : List (List Int)} (hb : bs ≠ []) (hp : ∀ p ∈ log, p.length = bs.length) : (wayRun "halving" bs log).out = (runM bs log).map (·.place) :=
  (winv_run hb log ⟨[], none, []⟩ [] hp ⟨rfl, rfl, rfl⟩).1
theorem foldl_step {bs : List Int} (hb : ∀ b ∈ bs, 1 ≤ b) : ∀ (log : List (List Int)) (l : List Mom), (∀ p ∈ log, p.length = bs.length ∧ PosOk p) → (∀ m ∈ l, MomV bs m) → (∀ m ∈ log.foldl (fun l p => l ++ [stepM bs l p]) l, MomV bs m) ∧ (log.foldl (fun l p => l ++ [stepM bs l p]) l).length = l.length + log.length
  | [], l, _, h => ⟨h, rfl⟩
  | p :: log, l, hp, h => by
    obtain ⟨p1, p2⟩ := hp p List.mem_cons_self
    obtain ⟨i1, i2⟩ := foldl_step hb log (l ++ [stepM bs l p]) (fun x hx => hp x (List.mem_cons_of_mem _ hx)) fun m hm => (List.mem_append.mp hm).elim (h m) fun hm => by rw [List.mem_singleton] at hm; rw [hm]; exact stepM_v hb h p1 p2
    refine ⟨i1, ?_⟩
    rw [List.foldl_cons, i2]
    simp
    omega
theorem runM_v {bs : List Int} (hb : ∀ b ∈ bs, 1 ≤ b) {log : List (List Int)} (hp : ∀ p ∈ log, p.length = bs.length ∧ PosOk p) : (∀ m ∈ runM bs log, MomV bs m) ∧ (runM bs log).length = log.length := by
  obtain ⟨h1, h2⟩ := foldl_step hb log [] hp fun m hm => by cases hm
  exact ⟨h1, by rw [show (runM bs log).length = _ from h2]; simp⟩
/-- the new place covers the request -/
theorem over_next {bs p pl : List Int} {h : List (Int × Int)} (hV : All2 HullV bs h) (hp : p.length = bs.length) (hpl : pl.length = bs.length) (ho : overB bs (nextHull bs h p) pl = true) : coversB bs pl p = true := by
  have hl := hV.length
  refine (covers_idx hpl hp).mpr fun i hi => ?_
  have hnl := next_len hp hl.symm
  have h1 := over_idx hnl hpl ho hi
  unfold nextHull at h1
  split at h1
  · rw [join_getP (by omega) (by omega)] at h1
    simp only [mn, mx] at h1
    split at h1 <;> split at h1 <;> omega
  · have e : (hullP p).getD i (0, 0) = (p.getD i 0, p.getD i 0) := by
      simp [hullP, List.getD_eq_getElem?_getD, List.getElem?_eq_getElem (show i < p.length by omega)]
    rw [e] at h1
    exact h1
/-! ### hits -/
def hitsF : Option (List Int) → List (List Int) → List Bool
  | _, [] => []
  | b, x :: r => decide (b = some x) :: hitsF (some x) r
def hitsM (bs : List Int) (log : List (List Int)) : List Bool := (runM bs log).map fun m => !m.load
theorem hitsF_snoc : ∀ (l : List (List Int)) (b : Option (List Int)) (x : List Int), hitsF b (l ++ [x]) = hitsF b l ++ [decide ((match l.getLast? with | none => b | some y => some y) = some x)]
  | [], b, x => rfl
  | y :: l, b, x => by
    rw [List.cons_append]
    show decide (b = some y) :: hitsF (some y) (l ++ [x]) = _
    rw [hitsF_snoc l (some y) x]
    show _ = decide (b = some y) :: (hitsF (some y) l ++ _)
    cases l with
    | nil => rfl
    | cons z l =>
      rw [List.getLast?_cons_cons]
      cases hz : (z :: l).getLast? with
      | none => simp at hz
      | some w => rfl
theorem hits_foldl {bs : List Int} (hb : ∀ b ∈ bs, 1 ≤ b) : ∀ (log : List (List Int)) (l : List Mom), (∀ p ∈ log, p.length = bs.length ∧ PosOk p) → (∀ m ∈ l, MomV bs m) → hitsF none (l.map (·.place)) = l.map (fun m => !m.load) →
    hitsF none ((log.foldl (fun l p => l ++ [stepM bs l p]) l).map (·.place)) = (log.foldl (fun l p => l ++ [stepM bs l p]) l).map fun m => !m.load
  | [], l, _, _, h => h
  | p :: log, l, hp, hv, h => by
    obtain ⟨p1, p2⟩ := hp p List.mem_cons_self
    have hv' : ∀ m ∈ l ++ [stepM bs l p], MomV bs m := fun m hm => (List.mem_append.mp hm).elim (hv m) fun hm => by rw [List.mem_singleton] at hm; rw [hm]; exact stepM_v hb hv p1 p2
    refine hits_foldl hb log _ (fun x hx => hp x (List.mem_cons_of_mem _ hx)) hv' ?_
    rw [List.map_append, List.map_append, List.map_singleton, List.map_singleton, hitsF_snoc, h]
    congr 1
    congr 1
    have hn := hv' _ (List.mem_append_right _ List.mem_cons_self)
    unfold stepM at hn ⊢
    rcases List.eq_nil_or_concat l with h0 | ⟨l0, m, h0⟩
    · subst h0; rfl
    · rw [List.concat_eq_append] at h0
      subst h0
      have hm := hv m (by simp)
      rw [List.map_append, List.map_singleton, List.getLast?_concat]
      simp only [List.getLast?_concat] at hn ⊢
      rw [nextM_load, Bool.not_not]
      by_cases hc : coversB bs m.place p = true
      · rw [nextM_place, if_pos hc, hc]; simp
      · rw [nextM_place, if_neg hc]
        rw [Bool.not_eq_true] at hc
        rw [hc]
        refine decide_eq_false fun z => ?_
        have e := Option.some.inj z
        have ho := over_halving (all2_r (hullV_next hb hm.1 p1 p2))
        rw [← e] at ho
        rw [over_next hm.1 p1 hm.2.1 ho] at hc
        cases hc
theorem hits_run {bs : List Int} (hb : ∀ b ∈ bs, 1 ≤ b) {log : List (List Int)} (hp : ∀ p ∈ log, p.length = bs.length ∧ PosOk p) : hitsF none ((runM bs log).map (·.place)) = hitsM bs log :=
  hits_foldl hb log [] hp (fun m hm => by cases hm) rfl
end Ow

namespace Ow
open PySem PySem.Spec PyProof.Rows L2
/-! ### a log that goes on and on -/
def rq (log : List (List Int)) (i : Nat) : List Int := log.getD (i % log.length) []
def seg (log : List (List Int)) (f k : Nat) : List (List Int) := (List.range k).map fun i => rq log (f + i)
def gM (bs : List Int) (log : List (List Int)) (f k : Nat) : List Mom := runM bs (seg log f k)
def cbM (l : List Mom) : Nat := (l.filter Mom.begins).length
def clM (l : List Mom) : Nat := (l.filter Mom.load).length
structure LogV (bs : List Int) (log : List (List Int)) : Prop where
  b : ∀ b ∈ bs, 1 ≤ b
  b0 : bs ≠ []
  n : log ≠ []
  p : ∀ p ∈ log, p.length = bs.length ∧ PosOk p
section
variable {bs : List Int} {log : List (List Int)}
theorem LogV.pos (h : LogV bs log) : 0 < log.length := List.length_pos_iff.mpr h.n
theorem rq_mem (h : LogV bs log) (i : Nat) : rq log i ∈ log := by
  unfold rq
  rw [List.getD_eq_getElem?_getD, List.getElem?_eq_getElem (Nat.mod_lt _ h.pos)]
  exact List.getElem_mem _
theorem seg_succ (f k : Nat) : seg log f (k + 1) = seg log f k ++ [rq log (f + k)] := by unfold seg; rw [List.range_succ, List.map_append]; rfl
theorem seg_len (f k : Nat) : (seg log f k).length = k := by simp [seg]
theorem seg_ok (h : LogV bs log) (f k : Nat) : ∀ p ∈ seg log f k, p.length = bs.length ∧ PosOk p := fun p hp => by
  obtain ⟨i, _, rfl⟩ := List.mem_map.mp hp
  exact h.p _ (rq_mem h _)
theorem gM_succ (f k : Nat) : gM bs log f (k + 1) = gM bs log f k ++ [stepM bs (gM bs log f k) (rq log (f + k))] := by unfold gM; rw [seg_succ, runM_snoc]
theorem gM_zero (f : Nat) : gM bs log f 0 = [] := rfl
theorem gM_len (h : LogV bs log) (f k : Nat) : (gM bs log f k).length = k := by unfold gM; rw [(runM_v h.b (seg_ok h f k)).2, seg_len]
theorem gM_v (h : LogV bs log) (f k : Nat) : ∀ m ∈ gM bs log f k, MomV bs m := (runM_v h.b (seg_ok h f k)).1
theorem rq_mod (f i : Nat) : rq log (f % log.length + i) = rq log (f + i) := by unfold rq; rw [Nat.mod_add_mod]
theorem seg_mod (f k : Nat) : seg log (f % log.length) k = seg log f k := by unfold seg; exact List.map_congr_left fun i _ => rq_mod f i
theorem gM_mod (f k : Nat) : gM bs log (f % log.length) k = gM bs log f k := by unfold gM; rw [seg_mod]
theorem stepM_app {l0 l : List Mom} {p : List Int} (h : l ≠ []) : stepM bs (l0 ++ l) p = stepM bs l p := by
  unfold stepM
  rw [List.getLast?_append]
  cases hl : l.getLast? with
  | none => exact absurd (List.getLast?_eq_none_iff.mp hl) h
  | some m => rfl
/-- a phase that begins forgets what was -/
theorem fresh_next {m : Mom} {p : List Int} (hb : ∀ b ∈ bs, 1 ≤ b) (hm : MomV bs m) (hp : p.length = bs.length) (hbg : (nextM bs m p).begins = true) : nextM bs m p = firstM bs p := by
  rw [nextM_begins] at hbg
  have hf : fitsH bs (joinH m.hull p) = false := by simpa using hbg
  have hc : coversB bs m.place p = false := by
    cases hc : coversB bs m.place p with
    | false => rfl
    | true =>
      have hl := hm.1.length
      have ho := over_join hm.2.2 hc hl.symm hm.2.1 hp
      have hjl : (joinH m.hull p).length = bs.length := by rw [joinH_len]; omega
      have : fitsH bs (joinH m.hull p) = true := (fits_idx hjl).mpr fun i hi => by
        have := over_idx hjl hm.2.1 ho hi
        omega
      rw [this] at hf; cases hf
  unfold nextM
  rw [if_neg (by rw [hc]; exact Bool.false_ne_true)]
  have hn : nextHull bs m.hull p = hullP p := by unfold nextHull; rw [if_neg (by rw [hf]; exact Bool.false_ne_true)]
  rw [hn, hf]
  rfl
/-- a phase begins at the request with that number from the first -/
def Bd (bs : List Int) (log : List (List Int)) (f a : Nat) : Prop := (stepM bs (gM bs log f a) (rq log (f + a))).begins = true
theorem bd_zero (f : Nat) : Bd bs log f 0 := rfl
theorem step_fresh (h : LogV bs log) {f a : Nat} (hbd : Bd bs log f a) : stepM bs (gM bs log f a) (rq log (f + a)) = firstM bs (rq log (f + a)) := by
  unfold Bd at hbd
  have hv := gM_v h f a
  have hp := (h.p _ (rq_mem h (f + a))).1
  revert hbd hv
  generalize gM bs log f a = l
  intro hbd hv
  unfold stepM at hbd ⊢
  cases hl : l.getLast? with
  | none => rfl
  | some m =>
    rw [hl] at hbd
    exact fresh_next h.b (hv m (List.mem_of_getLast? hl)) hp hbd
/-- the run parts where a phase begins -/
theorem gM_split (h : LogV bs log) {f a : Nat} (hbd : Bd bs log f a) : ∀ k, gM bs log f (a + k) = gM bs log f a ++ gM bs log (f + a) k
  | 0 => by rw [gM_zero]; simp
  | k + 1 => by
    have ih := gM_split h hbd k
    rw [← Nat.add_assoc, gM_succ, ih, gM_succ, ← List.append_assoc]
    congr 1
    congr 1
    rw [← Nat.add_assoc]
    cases k with
    | zero =>
      rw [gM_zero, List.append_nil]
      exact step_fresh h hbd
    | succ k =>
      refine stepM_app fun z => ?_
      have := gM_len h (f + a) (k + 1)
      rw [z] at this; cases this
theorem bd_split (h : LogV bs log) {f a : Nat} (hbd : Bd bs log f a) (k : Nat) : Bd bs log f (a + k) ↔ Bd bs log (f + a) k := by
  cases k with
  | zero => exact ⟨fun _ => bd_zero _, fun _ => hbd⟩
  | succ k =>
    unfold Bd
    rw [gM_split h hbd (k + 1), stepM_app fun z => (by have := gM_len h (f + a) (k + 1); rw [z] at this; cases this), ← Nat.add_assoc]
theorem bd_mod (f a : Nat) : Bd bs log (f % log.length) a ↔ Bd bs log f a := by unfold Bd; rw [gM_mod, rq_mod]
theorem cb_app (l k : List Mom) : cbM (l ++ k) = cbM l + cbM k := by unfold cbM; rw [List.filter_append, List.length_append]
theorem cl_app (l k : List Mom) : clM (l ++ k) = clM l + clM k := by unfold clM; rw [List.filter_append, List.length_append]
theorem cb_le (h : LogV bs log) (f k : Nat) : cbM (gM bs log f k) ≤ k := by unfold cbM; exact Nat.le_trans (List.length_filter_le _ _) (Nat.le_of_eq (gM_len h f k))
theorem cl_le (h : LogV bs log) (f k : Nat) : clM (gM bs log f k) ≤ k := by unfold clM; exact Nat.le_trans (List.length_filter_le _ _) (Nat.le_of_eq (gM_len h f k))
/-- no phase begins inside -/
def NoB (bs : List Int) (log : List (List Int)) (f k : Nat) : Prop := ∀ a, 1 ≤ a → a < k → ¬ Bd bs log f a
theorem cb_one {f : Nat} : ∀ {k : Nat}, NoB bs log f (k + 1) → cbM (gM bs log f (k + 1)) = 1
  | 0, _ => rfl
  | k + 1, hn => by
    have ih := cb_one (k := k) fun a a1 a2 => hn a a1 (by omega)
    rw [gM_succ, cb_app, ih]
    have := hn (k + 1) (by omega) (by omega)
    unfold Bd at this
    rw [Bool.not_eq_true] at this
    unfold cbM
    simp [this]
/-- the hull inside of a phase -/
theorem hull_in (h : LogV bs log) {f : Nat} : ∀ {k : Nat}, NoB bs log f (k + 1) → ∃ m, (gM bs log f (k + 1)).getLast? = some m ∧ m.hull = wideH (seg log f (k + 1))
  | 0, _ => ⟨firstM bs (rq log (f + 0)), rfl, rfl⟩
  | k + 1, hn => by
    obtain ⟨m, h1, h2⟩ := hull_in h (k := k) fun a a1 a2 => hn a a1 (by omega)
    have hnb := hn (k + 1) (by omega) (by omega)
    have es : stepM bs (gM bs log f (k + 1)) (rq log (f + (k + 1))) = nextM bs m (rq log (f + (k + 1))) := by unfold stepM; rw [h1]
    unfold Bd at hnb
    rw [es, nextM_begins] at hnb
    have hf : fitsH bs (joinH m.hull (rq log (f + (k + 1)))) = true := by simpa using hnb
    refine ⟨nextM bs m (rq log (f + (k + 1))), by rw [gM_succ, List.getLast?_concat, es], ?_⟩
    rw [nextM_hull]
    unfold nextHull
    rw [if_pos hf, seg_succ, wideH_snoc, h2]
    intro z
    have := seg_len (log := log) f (k + 1)
    rw [z] at this; cases this
/-- a hull fits when no two coordinates are too far apart -/
theorem fits_wide {l : List (List Int)} (h0 : l ≠ []) (hl : ∀ p ∈ l, p.length = bs.length) : fitsH bs (wideH l) = true ↔ ∀ i, i < bs.length → ∀ p ∈ l, ∀ q ∈ l, p.getD i 0 - q.getD i 0 < bs.getD i 0 := by
  have hw := wideH_cols h0 hl
  have hwl : (wideH l).length = bs.length := by rw [hw]; simp
  rw [fits_idx hwl]
  have key : ∀ i, i < bs.length → (wideH l).getD i (0, 0) = (minL (col i l), maxL (col i l)) := fun i hi => by
    rw [hw, List.getD_eq_getElem?_getD]
    simp [hi]
  constructor
  · intro h i hi p hp q hq
    have h1 := h i hi
    rw [key i hi] at h1
    have hc : col i l ≠ [] := by unfold col; simpa using h0
    have h2 := (maxL_spec hc).2 (p.getD i 0) (List.mem_map.mpr ⟨p, hp, rfl⟩)
    have h3 := (minL_spec hc).2 (q.getD i 0) (List.mem_map.mpr ⟨q, hq, rfl⟩)
    dsimp only at h1
    omega
  · intro h i hi
    rw [key i hi]
    have hc : col i l ≠ [] := by unfold col; simpa using h0
    obtain ⟨p, hp, e1⟩ := List.mem_map.mp (maxL_spec hc).1
    obtain ⟨q, hq, e2⟩ := List.mem_map.mp (minL_spec hc).1
    have := h i hi p hp q hq
    dsimp only
    omega
theorem seg_all (h : LogV bs log) (f : Nat) {k : Nat} (hk : log.length ≤ k) : ∀ p ∈ log, p ∈ seg log f k := fun p hp => by
  obtain ⟨j, hj, rfl⟩ := List.mem_iff_getElem.mp hp
  have hn := h.pos
  -- a turn of the log that meets j
  refine List.mem_map.mpr ⟨(j + (log.length - f % log.length)) % log.length, List.mem_range.mpr (Nat.lt_of_lt_of_le (Nat.mod_lt _ hn) hk), ?_⟩
  have hf := Nat.mod_lt f hn
  have e : (f + (j + (log.length - f % log.length)) % log.length) % log.length = j := by
    rw [Nat.add_mod_mod, ← Nat.mod_add_mod, show f % log.length + (j + (log.length - f % log.length)) = j + log.length by omega, Nat.add_mod_right, Nat.mod_eq_of_lt hj]
  unfold rq
  rw [e, List.getD_eq_getElem?_getD, List.getElem?_eq_getElem hj]
  rfl
/-- as many requests as the log has do not fit when the log does not -/
theorem noB_lt (h : LogV bs log) (hf : fitsH bs (wideH log) = false) {f k : Nat} (hn : NoB bs log f k) : k < log.length := by
  refine Classical.byContradiction fun hk => ?_
  have hpos := h.pos
  obtain ⟨k2, hk2⟩ : ∃ k2, log.length = k2 + 1 := ⟨log.length - 1, by omega⟩
  obtain ⟨m, h1, h2⟩ := hull_in h (f := f) (k := k2) fun a a1 a2 => hn a a1 (by omega)
  have hm := gM_v h f (k2 + 1) m (List.mem_of_getLast? h1)
  have hfit := fits_all2 (all2_r hm.1)
  rw [h2] at hfit
  have hs0 : seg log f (k2 + 1) ≠ [] := fun z => by have := seg_len (log := log) f (k2 + 1); rw [z] at this; cases this
  rw [fits_wide hs0 fun p hp => (seg_ok h f _ p hp).1] at hfit
  have : fitsH bs (wideH log) = true := (fits_wide h.n fun p hp => (h.p p hp).1).mpr fun i hi p hp q hq => hfit i hi p (seg_all h f (by omega) p hp) q (seg_all h f (by omega) q hq)
  rw [this] at hf; cases hf
/-- a log that fits: one phase, however often -/
theorem noB_fit (h : LogV bs log) (hf : fitsH bs (wideH log) = true) (f : Nat) : ∀ k, NoB bs log f (k + 1)
  | 0 => fun a a1 a2 => by omega
  | k + 1 => fun a a1 a2 => by
    have ih := noB_fit h hf f k
    by_cases ha : a < k + 1
    · exact ih a a1 ha
    · have e : a = k + 1 := by omega
      subst e
      obtain ⟨m, h1, h2⟩ := hull_in h ih
      intro hbd
      unfold Bd at hbd
      have es : stepM bs (gM bs log f (k + 1)) (rq log (f + (k + 1))) = nextM bs m (rq log (f + (k + 1))) := by unfold stepM; rw [h1]
      have hs0 : seg log f (k + 1) ≠ [] := fun z => by have := seg_len (log := log) f (k + 1); rw [z] at this; cases this
      rw [es, nextM_begins, h2, ← wideH_snoc hs0, ← seg_succ] at hbd
      have hs1 : seg log f (k + 1 + 1) ≠ [] := fun z => by have := seg_len (log := log) f (k + 1 + 1); rw [z] at this; cases this
      have : fitsH bs (wideH (seg log f (k + 1 + 1))) = true := (fits_wide hs1 fun p hp => (seg_ok h f _ p hp).1).mpr fun i hi p hp q hq => by
        obtain ⟨x, _, rfl⟩ := List.mem_map.mp hp
        obtain ⟨y, _, rfl⟩ := List.mem_map.mp hq
        exact (fits_wide h.n fun p hp => (h.p p hp).1).mp hf i hi _ (rq_mem h _) _ (rq_mem h _)
      rw [this] at hbd; cases hbd
/-- a window over the whole hull covers its requests -/
theorem over_wide {l : List (List Int)} {pl : List Int} (h0 : l ≠ []) (hl : ∀ p ∈ l, p.length = bs.length) (hpl : pl.length = bs.length) (ho : overB bs (wideH l) pl = true) {p : List Int} (hp : p ∈ l) : coversB bs pl p = true := by
  have hw := wideH_cols h0 hl
  have hwl : (wideH l).length = bs.length := by rw [hw]; simp
  refine (covers_idx hpl (hl p hp)).mpr fun i hi => ?_
  have h1 := over_idx hwl hpl ho hi
  have key : (wideH l).getD i (0, 0) = (minL (col i l), maxL (col i l)) := by
    rw [hw, List.getD_eq_getElem?_getD]
    simp [hi]
  rw [key] at h1
  have hc : col i l ≠ [] := by unfold col; simpa using h0
  have h2 := (maxL_spec hc).2 (p.getD i 0) (List.mem_map.mpr ⟨p, hp, rfl⟩)
  have h3 := (minL_spec hc).2 (p.getD i 0) (List.mem_map.mpr ⟨p, hp, rfl⟩)
  dsimp only at h1
  omega
/-- behind one whole log no more loads, when it fits -/
theorem cl_fit (h : LogV bs log) (hf : fitsH bs (wideH log) = true) : ∀ j, clM (gM bs log 0 (log.length + j)) = clM (gM bs log 0 log.length)
  | 0 => rfl
  | j + 1 => by
    rw [← Nat.add_assoc, gM_succ, cl_app, cl_fit h hf j]
    have hpos := h.pos
    obtain ⟨k, hk⟩ : ∃ k, log.length + j = k + 1 := ⟨log.length + j - 1, by omega⟩
    rw [hk]
    obtain ⟨m, h1, h2⟩ := hull_in h (noB_fit h hf 0 k)
    have hm := gM_v h 0 (k + 1) m (List.mem_of_getLast? h1)
    have es : stepM bs (gM bs log 0 (k + 1)) (rq log (0 + (k + 1))) = nextM bs m (rq log (0 + (k + 1))) := by unfold stepM; rw [h1]
    have hs0 : seg log 0 (k + 1) ≠ [] := fun z => by have := seg_len (log := log) 0 (k + 1); rw [z] at this; cases this
    have ho := hm.2.2
    rw [h2] at ho
    have hc := over_wide hs0 (fun p hp => (seg_ok h 0 _ p hp).1) hm.2.1 ho (seg_all h 0 (by omega) _ (rq_mem h (0 + (k + 1))))
    have : (nextM bs m (rq log (0 + (k + 1)))).load = false := by rw [nextM_load, hc]; rfl
    rw [es]
    simp only [clM, List.filter_cons, this]
    rfl
theorem cl_fit2 (h : LogV bs log) (hf : fitsH bs (wideH log) = true) {a b : Nat} (ha : log.length ≤ a) (hb : log.length ≤ b) : clM (gM bs log 0 a) = clM (gM bs log 0 b) := by
  obtain ⟨i, rfl⟩ := Nat.exists_eq_add_of_le ha
  obtain ⟨j, rfl⟩ := Nat.exists_eq_add_of_le hb
  rw [cl_fit h hf, cl_fit h hf]
/-- rounds that are leapt over -/
theorem leap (h : LogV bs log) {N' N : Nat} (hlt : N' < N) (hb' : Bd bs log 0 N') (hb : Bd bs log 0 N) (hmod : N % log.length = N' % log.length) : ∀ k, Bd bs log 0 (N + k * (N - N')) ∧
    cbM (gM bs log 0 (N + k * (N - N'))) + k * cbM (gM bs log 0 N') = cbM (gM bs log 0 N) + k * cbM (gM bs log 0 N) ∧ clM (gM bs log 0 (N + k * (N - N'))) + k * clM (gM bs log 0 N') = clM (gM bs log 0 N) + k * clM (gM bs log 0 N) ∧ (N + k * (N - N')) % log.length = N' % log.length
  | 0 => by simp [hb, hmod]
  | k + 1 => by
    obtain ⟨i1, i2, i3, i4⟩ := leap h hlt hb' hb hmod k
    obtain ⟨d, hd⟩ : ∃ d, d = N - N' := ⟨_, rfl⟩
    rw [← hd] at i1 i2 i3 i4 ⊢
    obtain ⟨K, hK⟩ : ∃ K, K = N + k * d := ⟨_, rfl⟩
    have eK : N + (k + 1) * d = K + d := by rw [hK, Nat.succ_mul, Nat.add_assoc]
    rw [← hK] at i1 i2 i3 i4
    rw [eK]
    have eN : N = N' + d := by omega
    have g1 : gM bs log 0 N = gM bs log 0 N' ++ gM bs log (N' % log.length) d := by
      rw [eN, gM_split h hb' d, Nat.zero_add, gM_mod]
    have g2 : gM bs log 0 (K + d) = gM bs log 0 K ++ gM bs log (N' % log.length) d := by
      rw [gM_split h i1 d, Nat.zero_add, ← gM_mod K, i4]
    have b1 : Bd bs log 0 (K + d) := by
      rw [bd_split h i1, Nat.zero_add, ← bd_mod K, i4, bd_mod]
      have := hb
      rw [eN, bd_split h hb', Nat.zero_add] at this
      exact this
    have c1 := congrArg cbM g1
    have c2 := congrArg cbM g2
    have c3 := congrArg clM g1
    have c4 := congrArg clM g2
    rw [cb_app] at c1 c2
    rw [cl_app] at c3 c4
    refine ⟨b1, ?_, ?_, ?_⟩
    · rw [Nat.succ_mul, Nat.succ_mul]; omega
    · rw [Nat.succ_mul, Nat.succ_mul]; omega
    · rw [← Nat.mod_add_mod, i4, Nat.mod_add_mod, ← eN, hmod]
end
/-! ### one phase of it -/
def hullO (l : List Mom) : D := match l.getLast? with
  | none => .non
  | some m => hu m.hull
def placeO (l : List Mom) : D := match l.getLast? with
  | none => .non
  | some m => pt m.place
def mc_phase_from : MC := ⟨["box", "log", "first", "most", "step", "hull", "place", "loads", "position", "wider", "one"], ["joined", "fits", "covers", "halving_place"], [], [], []⟩
def b_phase_from : List CS := [.asg (.tup [.nm 5, .nm 6, .nm 7]) (.tup [.non, .non, .int 0]),
    .for (.nm 4) .rng1 [.var 3] [.set 8 (.ix (.var 1) (.bin .Mod true (.bin .Add true (.var 2) (.var 4)) (.blt .len true [.var 1]))), .set 9 (.ife (.cmp .IsNot (.var 5) (.non)) (.call 0 [.var 5, .var 8]) (.blt .tuple true [.comp true (.tup [.var 10, .var 10]) (.nm 10) .seq [.var 8] [10]])), .ifs (.not (.call 1 [.var 0, .var 9])) [.ret (.tup [.var 4, .var 7])] [], .set 5 (.var 9), .ifs (.or (.cmp .Is (.var 6) (.non)) (.one (.not (.call 2 [.var 0, .var 6, .var 8])))) [.set 6 (.call 3 [.var 0, .var 5]), .aug 7 .Add (.int 1)] []],
    .ret (.tup [.var 3, .var 7])]
def cx_phase_from : Ctx := ⟨[fi_joined, fi_fits, fi_covers, fi_halving_place], [], [], []⟩
@[simp] theorem cx_phase_from_0 : cx_phase_from.fs[0]? = some fi_joined := rfl
@[simp] theorem cx_phase_from_1 : cx_phase_from.fs[1]? = some fi_fits := rfl
@[simp] theorem cx_phase_from_2 : cx_phase_from.fs[2]? = some fi_covers := rfl
@[simp] theorem cx_phase_from_3 : cx_phase_from.fs[3]? = some fi_halving_place := rfl
def spPhaseFrom : DSp := fun ds M Q _ => ∃ (bs : List Int) (log : List (List Int)) (f most : Nat), ds = [pt bs, lg log, .int (f : Int), .int (most : Int)] ∧ LogV bs log ∧ bs.length ≤ 1000 ∧ log.length ≤ 100000 ∧ most ≤ 1000000 ∧
  ∀ len : Nat, len ≤ most → (0 < most → 0 < len) → NoB bs log f len → (len = most ∨ Bd bs log f len) → Q (.tup [.int (len : Int), .int (clM (gM bs log f len) : Int)]) M
def fi_phase_from : FI := ⟨"phase_from", 4, spPhaseFrom⟩
@[simp] theorem fi_phase_from_sp : fi_phase_from.sp = spPhaseFrom := rfl
def b_part : List CS := [.ifs (.not (.call 1 [.var 0, .var 9])) [.ret (.tup [.var 4, .var 7])] [], .set 5 (.var 9), .ifs (.or (.cmp .Is (.var 6) (.non)) (.one (.not (.call 2 [.var 0, .var 6, .var 8])))) [.set 6 (.call 3 [.var 0, .var 5]), .aug 7 .Add (.int 1)] []]
theorem cl_snoc (l : List Mom) (m : Mom) : clM (l ++ [m]) = clM l + if m.load = true then 1 else 0 := by
  rw [cl_app]
  unfold clM
  cases h : m.load <;> simp [h]
theorem wp_phase_from {E : EX} {ds : List D} {M : Mp} {Q : QE} {E' : XD → Mp → Prop} (h : spPhaseFrom ds M Q E') : wpB cx_phase_from E b_phase_from (endsD Q) (startD mc_phase_from.N ds) M := by
  obtain ⟨bs, log, f, most, rfl, hL, hbl, hll, hm, q⟩ := h
  have hpos := hL.pos
  rw [show startD mc_phase_from.N [pt bs, lg log, .int (f : Int), .int (most : Int)] = some (pt bs) :: some (lg log) :: some (.int (f : Int)) :: some (.int (most : Int)) :: List.replicate 7 none from rfl, b_phase_from, wpB_cons]
  simp
  rw [wpB_cons]
  simp [itD]
  refine ⟨by decide, ⟨by omega, by omega⟩, ?_⟩
  refine forD_pre (fun (i : Nat) => D.int (i : Int)) (fun pre ρ M' => (∃ x4 x8 x9 x10, ρ = [some (pt bs), some (lg log), some (.int (f : Int)), some (.int (most : Int)), x4, some (hullO (gM bs log f pre.length)), some (placeO (gM bs log f pre.length)), some (.int (clM (gM bs log f pre.length) : Int)), x8, x9, x10]) ∧ NoB bs log f pre.length ∧ M' = M)
    (fun _ => True.intro) (fun pre j post ρ M1 e hI nx hnx => ?_) (fun ρ M1 hI => ?_) ⟨⟨_, _, _, _, rfl⟩, fun a a1 a2 => absurd a2 (Nat.not_lt_zero a), rfl⟩
  · obtain ⟨⟨x4, x8, x9, x10, rfl⟩, hno, rfl⟩ := hI
    have hjk : j = pre.length ∧ pre.length < most := by
      have h1 := congrArg List.length e
      have h2 : (List.range most)[pre.length]? = some j := by rw [← e]; simp
      simp at h1
      refine ⟨?_, by omega⟩
      rw [List.getElem?_range (by omega)] at h2
      simpa using h2.symm
    obtain ⟨rfl, hlt⟩ := hjk
    obtain ⟨k, hk⟩ : ∃ k, k = pre.length := ⟨_, rfl⟩
    have hsucc : (pre ++ [pre.length]).length = k + 1 := by simp [hk]
    rw [hsucc] at hnx
    rw [← hk] at hno hlt ⊢
    obtain ⟨p, hp⟩ : ∃ p, p = rq log (f + k) := ⟨_, rfl⟩
    have hpl := hL.p p (by rw [hp]; exact rq_mem hL _)
    have g1 : atI (log.map pt) (((f : Int) + (k : Int)) % (log.length : Int)) = some (pt p) := by
      rw [show ((f : Int) + (k : Int)) % (log.length : Int) = (((f + k) % log.length : Nat) : Int) by simp, atI_nat (by simpa using Nat.mod_lt _ hpos)]
      rw [hp]
      unfold rq
      simp [List.getD_eq_getElem?_getD, List.getElem?_eq_getElem (Nat.mod_lt (f + k) hpos)]
    have hgs := gM_succ (bs := bs) (log := log) f k
    rw [← hp] at hgs
    -- the rest of the turn, by the hull that is wider
    have part : ∀ (h : List (Int × Int)) (x10 : Option D), (fitsH bs h = false → 0 < k ∧ Bd bs log f k) → (fitsH bs h = true → (1 ≤ k → ¬ Bd bs log f k) ∧ (stepM bs (gM bs log f k) p).hull = h ∧ (stepM bs (gM bs log f k) p).place = (match (gM bs log f k).getLast? with | none => halvingP bs h | some m => if coversB bs m.place p = true then m.place else halvingP bs h) ∧ (stepM bs (gM bs log f k) p).load = (match (gM bs log f k).getLast? with | none => true | some m => !coversB bs m.place p)) →
        ∀ B : DEnds, B.nx = nx → B.rt = (endsD Q).rt → wpB cx_phase_from E b_part B [some (pt bs), some (lg log), some (.int (f : Int)), some (.int (most : Int)), some (.int (k : Int)), some (hullO (gM bs log f k)), some (placeO (gM bs log f k)), some (.int (clM (gM bs log f k) : Int)), some (pt p), some (hu h), x10] M1 := by
      intro h x10 c1 c2 B hB hB2
      rw [b_part, wpB_cons]
      simp
      refine ⟨bs, h, rfl, hbl, ?_⟩
      cases hf : fitsH bs h with
      | false =>
        obtain ⟨k0, hbd⟩ := c1 hf
        simp
        rw [wpB_cons]
        simp
        rw [hB2]
        exact ⟨by decide, Fin.same (q k (by omega) (fun _ => k0) hno (.inr hbd))⟩
      | true =>
        obtain ⟨d1, d2, d3, d4⟩ := c2 hf
        have hno' : NoB bs log f (k + 1) := fun a a1 a2 hbd => by
          by_cases ha : a < k
          · exact hno a a1 ha hbd
          · have : a = k := by omega
            subst this
            exact d1 a1 hbd
        simp
        rw [wpB_nil]
        try dsimp only
        rw [wpB_cons]
        simp
        rw [wpB_cons]
        simp
        have ehu : hullO (gM bs log f (k + 1)) = hu h := by rw [hgs]; unfold hullO; rw [List.getLast?_concat, ← d2]
        have epl : placeO (gM bs log f (k + 1)) = pt (stepM bs (gM bs log f k) p).place := by rw [hgs]; unfold placeO; rw [List.getLast?_concat]
        have ecl : clM (gM bs log f (k + 1)) = clM (gM bs log f k) + if (stepM bs (gM bs log f k) p).load = true then 1 else 0 := by rw [hgs, cl_snoc]
        have fin : ∀ (y : D) (c : Int), y = placeO (gM bs log f (k + 1)) → c = (clM (gM bs log f (k + 1)) : Int) → nx [some (pt bs), some (lg log), some (.int (f : Int)), some (.int (most : Int)), some (.int (k : Int)), some (hu h), some y, some (.int c), some (pt p), some (hu h), x10] M1 := by
          rintro y c rfl rfl
          rw [← ehu]
          exact hnx _ _ ⟨⟨_, _, _, _, rfl⟩, hno', rfl⟩
        have load : (stepM bs (gM bs log f k) p).place = halvingP bs h → (stepM bs (gM bs log f k) p).load = true → ∀ B' : DEnds, B'.nx = (fun ρ' M' => wpB cx_phase_from E [] B ρ' M') → wpB cx_phase_from E [.set 6 (.call 3 [.var 0, .var 5]), .aug 7 .Add (.int 1)] B' [some (pt bs), some (lg log), some (.int (f : Int)), some (.int (most : Int)), some (.int (k : Int)), some (hu h), some (placeO (gM bs log f k)), some (.int (clM (gM bs log f k) : Int)), some (pt p), some (hu h), x10] M1 := by
          intro l1 l2 B' hB'
          rw [wpB_cons]
          simp
          refine ⟨bs, h, rfl, hbl, hf, ?_⟩
          try dsimp only
          rw [wpB_cons]
          simp
          rw [wpB_nil, hB']
          try dsimp only
          rw [wpB_nil, hB]
          exact fin _ _ (by rw [epl, l1]) (by rw [ecl, l2]; simp)
        cases hg : (gM bs log f k).getLast? with
        | none =>
          rw [hg] at d3 d4
          have e0 : placeO (gM bs log f k) = .non := by unfold placeO; rw [hg]
          rw [e0] at load ⊢
          simp [D.isNon]
          exact load d3 d4 _ rfl
        | some m =>
          rw [hg] at d3 d4
          dsimp only at d3 d4
          have e0 : placeO (gM bs log f k) = pt m.place := by unfold placeO; rw [hg]
          have hmv := gM_v hL f k m (List.mem_of_getLast? hg)
          rw [e0] at load ⊢
          simp [D.isNon]
          refine ⟨bs, m.place, p, rfl, by have := hmv.2.1; omega, ?_⟩
          cases hc : coversB bs m.place p with
          | true =>
            rw [hc] at d3 d4
            simp at d3 d4
            simp
            rw [wpB_nil]
            try dsimp only
            rw [wpB_nil, hB]
            exact fin _ _ (by rw [epl, d3]) (by rw [ecl, d4]; simp)
          | false =>
            rw [hc] at d3 d4
            simp at d3 d4
            simp
            exact load d3 d4 _ rfl
    simp
    rw [wpB_cons]
    simp
    refine ⟨by omega, ?_⟩
    rw [g1]
    try dsimp only
    rw [wpB_cons]
    simp
    cases hg : (gM bs log f k).getLast? with
    | none =>
      have hl0 := List.getLast?_eq_none_iff.mp hg
      have hk0 : k = 0 := by have := gM_len hL f k; rw [hl0] at this; simpa using this.symm
      have e0 : hullO (gM bs log f k) = .non := by unfold hullO; rw [hg]
      have es : stepM bs (gM bs log f k) p = firstM bs p := by unfold stepM; rw [hg]
      rw [e0] at part ⊢
      simp [D.isNon, itD]
      intro c hc
      refine cmpL_mapf D.int (fun n => pr (n, n)) hc (by omega) (fun _ => True.intro) (fun n hn acc add skip ha => ?_) ?_
      · simp [turnC, wipeD]
        exact ⟨by decide, ha⟩
      have e1 : D.tup (p.map fun n => pr (n, n)) = hu (hullP p) := by simp [hullP]
      simp
      rw [e1]
      refine part (hullP p) _ (fun z => ?_) (fun _ => ⟨fun z => by omega, by rw [es]; rfl, by rw [es, hg]; rfl, by rw [es, hg]; rfl⟩) _ rfl rfl
      rw [fits_hullP hL.b] at z; cases z
    | some m =>
      have hmv := gM_v hL f k m (List.mem_of_getLast? hg)
      have e0 : hullO (gM bs log f k) = hu m.hull := by unfold hullO; rw [hg]
      have es : stepM bs (gM bs log f k) p = nextM bs m p := by unfold stepM; rw [hg]
      have hk0 : 0 < k := by
        rcases Nat.eq_zero_or_pos k with z | z
        · rw [z] at hg; cases hg
        · exact z
      rw [e0] at part ⊢
      simp [D.isNon]
      refine ⟨m.hull, p, rfl, by omega, ?_⟩
      refine part (joinH m.hull p) _ (fun z => ⟨hk0, ?_⟩) (fun z => ⟨fun _ hbd => ?_, ?_, ?_, ?_⟩) _ rfl rfl
      · unfold Bd; rw [← hp, es, nextM_begins, z]; rfl
      · unfold Bd at hbd; rw [← hp, es, nextM_begins, z] at hbd; cases hbd
      · rw [es, nextM_hull]; unfold nextHull; rw [if_pos z]
      · rw [es, nextM_place, hg]; unfold nextHull; rw [if_pos z]
      · rw [es, nextM_load, hg]
  · obtain ⟨⟨x4, x8, x9, x10, rfl⟩, hno, rfl⟩ := hI
    rw [List.length_range] at hno ⊢
    try dsimp only
    rw [wpB_cons]
    simp
    exact ⟨by decide, Fin.same (q most (Nat.le_refl _) (fun z => z) hno (.inl rfl))⟩
/-! ### phases and loads of a log that is written often -/
theorem pig : ∀ (n : Nat) (l : List Nat), l.Nodup → (∀ x ∈ l, x < n) → l.length ≤ n
  | 0, l, _, h => by
    cases l with
    | nil => exact Nat.le_refl _
    | cons x l => exact absurd (h x List.mem_cons_self) (Nat.not_lt_zero x)
  | n + 1, l, hd, h => by
    by_cases hm : n ∈ l
    · have h1 := pig n (l.erase n) (hd.erase n) fun x hx => by
        obtain ⟨a, b⟩ := hd.mem_erase_iff.mp hx
        have := h x b
        omega
      rw [List.length_erase_of_mem hm] at h1
      omega
    · have := pig n l hd fun x hx => by
        have h1 := h x hx
        have h2 : x ≠ n := fun z => hm (z ▸ hx)
        omega
      omega
theorem mulx {i j : Int} (h1 : i.natAbs < 10 ^ 60) (h2 : j.natAbs < 10 ^ 60) : MulOk i j := by
  have k1 := ib_le (a := i) (m := 200) (Nat.lt_of_lt_of_le h1 (by decide))
  have k2 := ib_le (a := j) (m := 200) (Nat.lt_of_lt_of_le h2 (by decide))
  refine .inr ?_
  show (Builtin.Int.intBits i : Int) + (Builtin.Int.intBits j : Int) ≤ 134217728
  have e1 : ib i = (Builtin.Int.intBits i : Int) := rfl
  have e2 : ib j = (Builtin.Int.intBits j : Int) := rfl
  omega
def seenD (bs : List Int) (log : List (List Int)) (N : Nat) : D := .tup [.int (N : Int), .int (cbM (gM bs log 0 N) : Int), .int (clM (gM bs log 0 N) : Int)]
structure SeenOk (bs : List Int) (log : List (List Int)) (N : Nat) (kvs : List (Key × D)) : Prop where
  keys : ∃ ks : List Nat, kvs.map (·.1) = ks.map (fun (f : Nat) => (Sum.inl (f : Int) : Key)) ∧ ks.Nodup ∧ ∀ f ∈ ks, f < log.length
  vals : ∀ (f : Nat) (d : D), valD kvs (.inl (f : Int)) = some d → ∃ N', N' < N ∧ N' % log.length = f ∧ Bd bs log 0 N' ∧ d = seenD bs log N'
theorem SeenOk.len {bs : List Int} {log : List (List Int)} {N : Nat} {kvs : List (Key × D)} (h : SeenOk bs log N kvs) : kvs.length ≤ log.length := by
  obtain ⟨ks, h1, h2, h3⟩ := h.keys
  have := pig _ ks h2 h3
  have h4 := congrArg List.length h1
  rw [List.length_map, List.length_map] at h4
  omega
theorem SeenOk.nil {bs : List Int} {log : List (List Int)} {N : Nat} : SeenOk bs log N [] := ⟨⟨[], rfl, List.nodup_nil, fun f hf => by cases hf⟩, fun f d hd => by cases hd⟩
theorem SeenOk.mono {bs : List Int} {log : List (List Int)} {N N2 : Nat} {kvs : List (Key × D)} (h : SeenOk bs log N kvs) (hN : N ≤ N2) : SeenOk bs log N2 kvs := ⟨h.keys, fun f d hd => by
  obtain ⟨N', a, b⟩ := h.vals f d hd
  exact ⟨N', by omega, b⟩⟩
theorem SeenOk.put {bs : List Int} {log : List (List Int)} {N N2 : Nat} {kvs : List (Key × D)} (h : SeenOk bs log N kvs) (hn : 0 < log.length) (hN : N < N2) (hb : Bd bs log 0 N) (h0 : valD kvs (.inl ((N % log.length : Nat) : Int)) = none) :
    SeenOk bs log N2 (putD kvs (.inl ((N % log.length : Nat) : Int)) (seenD bs log N)) ∧ putD kvs (.inl ((N % log.length : Nat) : Int)) (seenD bs log N) ≠ [] := by
  have hno : (kvs.any fun kv => decide (kv.1 = .inl ((N % log.length : Nat) : Int))) = false := by
    cases hc : kvs.any fun kv => decide (kv.1 = .inl ((N % log.length : Nat) : Int)) with
    | false => rfl
    | true =>
      obtain ⟨kv, hk, e⟩ := List.any_eq_true.mp hc
      unfold valD at h0
      rw [Option.map_eq_none_iff, List.find?_eq_none] at h0
      exact absurd e (h0 kv hk)
  have e : putD kvs (.inl ((N % log.length : Nat) : Int)) (seenD bs log N) = kvs ++ [(.inl ((N % log.length : Nat) : Int), seenD bs log N)] := by unfold putD; rw [if_neg (by rw [hno]; exact Bool.false_ne_true)]
  refine ⟨⟨?_, fun f d hd => ?_⟩, by rw [e]; simp⟩
  · obtain ⟨ks, h1, h2, h3⟩ := h.keys
    refine ⟨ks ++ [N % log.length], by rw [e, List.map_append, List.map_append, h1]; rfl, ?_, fun f hf => ?_⟩
    · rw [List.nodup_append]
      refine ⟨h2, by simp, fun a ha b hb' z => ?_⟩
      rw [List.mem_singleton] at hb'
      subst z
      subst hb'
      have hm : (Sum.inl ((N % log.length : Nat) : Int) : Key) ∈ kvs.map (·.1) := by rw [h1]; exact List.mem_map.mpr ⟨_, ha, rfl⟩
      obtain ⟨kv, hk, ek⟩ := List.mem_map.mp hm
      have : (kvs.any fun kv => decide (kv.1 = .inl ((N % log.length : Nat) : Int))) = true := List.any_eq_true.mpr ⟨kv, hk, by simpa using ek⟩
      rw [this] at hno; cases hno
    · rcases List.mem_append.mp hf with hf | hf
      · exact h3 f hf
      · rw [List.mem_singleton] at hf; subst hf; exact Nat.mod_lt _ hn
  · rw [valD_put] at hd
    split at hd
    · rename_i ek
      have ef : N % log.length = f := by
        injection ek with ek
        omega
      exact ⟨N, hN, ef, hb, (Option.some.inj hd).symm⟩
    · obtain ⟨N', a, b⟩ := h.vals f d hd
      exact ⟨N', by omega, b⟩
def mc_phases_and_loads : MC := ⟨["box", "log", "times", "total", "number", "phases", "loads", "seen", "first", "rounds", "number_before", "phases_before", "loads_before", "length", "some"], ["fits", "hull_of", "phase_from"], [], [], []⟩
def b_phases_and_loads : List CS := [.set 3 (.bin .Mult true (.blt .len true [.var 1]) (.var 2)),
    .ifs (.cmp .Eq (.var 3) (.int 0)) [.ret (.tup [.int 0, .int 0])] [],
    .ifs (.call 0 [.var 0, .call 1 [.var 0, .var 1]]) [.ret (.tup [.int 1, .ix (.call 2 [.var 0, .var 1, .int 0, .blt .min true [.var 3, .bin .Mult true (.int 2) (.blt .len true [.var 1])]]) (.int 1)])] [],
    .asg (.tup [.nm 4, .nm 5, .nm 6, .nm 7]) (.tup [.int 0, .int 0, .int 0, .op .dnew []]),
    .whl (.cmp .Lt (.var 4) (.var 3)) [.set 8 (.bin .Mod true (.var 4) (.blt .len true [.var 1])), .ifs (.cmp .In (.var 8) (.var 7)) [.asg (.tup [.nm 10, .nm 11, .nm 12]) (.ix (.var 7) (.var 8)), .set 9 (.bin .FloorDiv true (.bin .Sub true (.var 3) (.var 4)) (.bin .Sub true (.var 4) (.var 10))), .aug 5 .Add (.bin .Mult true (.var 9) (.bin .Sub true (.var 5) (.var 11))), .aug 6 .Add (.bin .Mult true (.var 9) (.bin .Sub true (.var 6) (.var 12))), .aug 4 .Add (.bin .Mult true (.var 9) (.bin .Sub true (.var 4) (.var 10))), .set 7 (.op .dnew [])] [.setix (.var 7) (.var 8) (.tup [.var 4, .var 5, .var 6]), .asg (.tup [.nm 13, .nm 14]) (.call 2 [.var 0, .var 1, .var 8, .blt .min true [.bin .Sub true (.var 3) (.var 4), .blt .len true [.var 1]]]), .par3 4 5 6 (.bin .Add true (.var 4) (.var 13)) (.bin .Add true (.var 5) (.int 1)) (.bin .Add true (.var 6) (.var 14))]],
    .ret (.tup [.var 5, .var 6])]
def b_again : List CS := [.set 8 (.bin .Mod true (.var 4) (.blt .len true [.var 1])), .ifs (.cmp .In (.var 8) (.var 7)) [.asg (.tup [.nm 10, .nm 11, .nm 12]) (.ix (.var 7) (.var 8)), .set 9 (.bin .FloorDiv true (.bin .Sub true (.var 3) (.var 4)) (.bin .Sub true (.var 4) (.var 10))), .aug 5 .Add (.bin .Mult true (.var 9) (.bin .Sub true (.var 5) (.var 11))), .aug 6 .Add (.bin .Mult true (.var 9) (.bin .Sub true (.var 6) (.var 12))), .aug 4 .Add (.bin .Mult true (.var 9) (.bin .Sub true (.var 4) (.var 10))), .set 7 (.op .dnew [])] [.setix (.var 7) (.var 8) (.tup [.var 4, .var 5, .var 6]), .asg (.tup [.nm 13, .nm 14]) (.call 2 [.var 0, .var 1, .var 8, .blt .min true [.bin .Sub true (.var 3) (.var 4), .blt .len true [.var 1]]]), .par3 4 5 6 (.bin .Add true (.var 4) (.var 13)) (.bin .Add true (.var 5) (.int 1)) (.bin .Add true (.var 6) (.var 14))]]
def cx_phases_and_loads : Ctx := ⟨[fi_fits, fi_hull_of, fi_phase_from], [], [], []⟩
@[simp] theorem cx_phases_and_loads_0 : cx_phases_and_loads.fs[0]? = some fi_fits := rfl
@[simp] theorem cx_phases_and_loads_1 : cx_phases_and_loads.fs[1]? = some fi_hull_of := rfl
@[simp] theorem cx_phases_and_loads_2 : cx_phases_and_loads.fs[2]? = some fi_phase_from := rfl
structure RepOk (bs : List Int) (log : List (List Int)) : Prop where
  b : ∀ b ∈ bs, 1 ≤ b
  b0 : bs ≠ []
  bl : bs.length ≤ 1000
  ll : log.length ≤ 100000
  p : ∀ p ∈ log, p.length = bs.length ∧ PosOk p
def spPL : DSp := fun ds M Q _ => ∃ (bs : List Int) (log : List (List Int)) (times : Nat), ds = [pt bs, lg log, .int (times : Int)] ∧ RepOk bs log ∧ times ≤ 10 ^ 20 ∧ Q (.tup [.int (cbM (gM bs log 0 (log.length * times)) : Int), .int (clM (gM bs log 0 (log.length * times)) : Int)]) M
def fi_phases_and_loads : FI := ⟨"phases_and_loads", 3, spPL⟩
@[simp] theorem fi_phases_and_loads_sp : fi_phases_and_loads.sp = spPL := rfl
theorem wp_phases_and_loads {E : EX} {ds : List D} {M : Mp} {Q : QE} {E' : XD → Mp → Prop} (h : spPL ds M Q E') : wpB cx_phases_and_loads E b_phases_and_loads (endsD Q) (startD mc_phases_and_loads.N ds) M := by
  obtain ⟨bs, log, times, rfl, hR, ht, q⟩ := h
  obtain ⟨hb, hb0, hbl, hll, hp⟩ := hR
  rw [show startD mc_phases_and_loads.N [pt bs, lg log, .int (times : Int)] = some (pt bs) :: some (lg log) :: some (.int (times : Int)) :: List.replicate 12 none from rfl, b_phases_and_loads, wpB_cons]
  simp
  refine ⟨.lf (by omega) (by omega), ?_⟩
  obtain ⟨T, hT⟩ : ∃ T, T = log.length * times := ⟨_, rfl⟩
  have hTi : (log.length : Int) * (times : Int) = (T : Int) := by rw [hT]; simp
  have hTb : T ≤ 100000 * 10 ^ 20 := by rw [hT]; exact Nat.mul_le_mul hll ht
  rw [hTi]
  rw [← hT] at q
  rw [wpB_cons]
  simp
  by_cases hT0 : T = 0
  · rw [if_pos hT0, wpB_cons]
    rw [hT0, gM_zero] at q
    simp
    exact ⟨by decide, Fin.same q⟩
  rw [if_neg hT0, wpB_nil]
  have hn0 : log ≠ [] := fun z => hT0 (by rw [hT, z]; simp)
  have hL : LogV bs log := ⟨hb, hb0, hn0, hp⟩
  have hpos := hL.pos
  have hle : log.length ≤ T := by
    rw [hT]
    refine Nat.le_mul_of_pos_right _ ?_
    rcases Nat.eq_zero_or_pos times with z | z
    · exact absurd (by rw [hT, z]; rfl) hT0
    · exact z
  try dsimp only
  rw [wpB_cons]
  simp
  refine ⟨bs, log, rfl, hn0, hll, hbl, fun p h => (hp p h).1, ?_⟩
  refine ⟨bs, wideH log, rfl, hbl, ?_⟩
  cases hf : fitsH bs (wideH log) with
  | true =>
    simp
    rw [wpB_cons]
    simp
    refine ⟨.lf (by decide) (by decide), ?_⟩
    obtain ⟨mo, hmo, m1, m2⟩ : ∃ mo : Nat, (if 2 * (log.length : Int) < (T : Int) then 2 * (log.length : Int) else (T : Int)) = (mo : Int) ∧ log.length ≤ mo ∧ mo ≤ 1000000 := by
      by_cases z : 2 * (log.length : Int) < (T : Int)
      · exact ⟨2 * log.length, by rw [if_pos z]; simp, by omega, by omega⟩
      · exact ⟨T, by rw [if_neg z], hle, by omega⟩
    rw [hmo]
    refine ⟨bs, log, 0, mo, rfl, hL, hbl, hll, m2, fun len l1 l2 l3 l4 => ?_⟩
    have hlen : len = mo := by
      rcases l4 with z | z
      · exact z
      · obtain ⟨k, rfl⟩ : ∃ k, len = k + 1 := ⟨len - 1, by have := l2 (by omega); omega⟩
        exact absurd z (noB_fit hL hf 0 (k + 1) (k + 1) (by omega) (by omega))
    subst hlen
    obtain ⟨k, hk⟩ : ∃ k, T = k + 1 := ⟨T - 1, by omega⟩
    have c1 : cbM (gM bs log 0 T) = 1 := by rw [hk]; exact cb_one (noB_fit hL hf 0 k)
    have c2 := cl_fit2 hL hf m1 hle
    rw [c1, ← c2] at q
    simp
    exact ⟨by decide, Fin.same q⟩
  | false =>
    simp
    rw [wpB_nil]
    try dsimp only
    rw [wpB_cons]
    simp
    intro p0 hp0
    refine ⟨by decide, ?_⟩
    rw [wpB_cons]
    simp
    refine whileD_ind (fun ms ρ M' => ∃ (N : Nat) (kvs : List (Key × D)) (p : Addr) (x8 x9 x10 x11 x12 x13 x14 : Option D), ρ = [some (pt bs), some (lg log), some (.int (times : Int)), some (.int (T : Int)), some (.int (N : Int)), some (.int (cbM (gM bs log 0 N) : Int)), some (.int (clM (gM bs log 0 N) : Int)), some (.ref p), x8, x9, x10, x11, x12, x13, x14] ∧
        N ≤ T ∧ (N < T → Bd bs log 0 N) ∧ M' p = some (.dic kvs) ∧ M p = none ∧ M.Sub M' ∧ SeenOk bs log N kvs ∧ ms = 2 * (T - N) + if kvs = [] then 0 else 1) (fun ms ρ M1 hI nx hnx => ?_) (2 * T) _ _ ?_
    · obtain ⟨N, kvs, p, x8, x9, x10, x11, x12, x13, x14, rfl, hNT, hbd, hM1, hMp, hK, hS, rfl⟩ := hI
      simp
      by_cases hlt : N < T
      · rw [if_pos hlt, wpB_cons]
        simp
        refine ⟨by omega, ?_⟩
        try dsimp only
        rw [show ((N : Int) % (log.length : Int)) = ((N % log.length : Nat) : Int) by simp]
        rw [wpB_cons]
        simp only [wpS, wpC, wpE, List.getElem?_cons_succ, List.getElem?_cons_zero, cmp_in]
        rw [in_dic (kk := .inl ((N % log.length : Nat) : Int)) hM1 rfl]
        have hcb := cb_le hL 0 N
        have hcl := cl_le hL 0 N
        cases hv : valD kvs (.inl ((N % log.length : Nat) : Int)) with
        | some d =>
          obtain ⟨N', hlt', hmod, hbd', rfl⟩ := hS.vals _ d hv
          have hcb' := cb_le hL 0 N'
          have hcl' := cl_le hL 0 N'
          have hkv : kvs ≠ [] := fun z => by rw [z] at hv; cases hv
          simp
          rw [wpB_cons]
          simp
          try simp only [hM1]
          rw [show (((N : Int)) % (log.length : Int)) = ((N % log.length : Nat) : Int) by simp, hv]
          simp only [seenD]
          simp
          obtain ⟨R, hRd⟩ : ∃ R, R = (T - N) / (N - N') := ⟨_, rfl⟩
          have hR1 : R * (N - N') ≤ T - N := by rw [hRd]; exact Nat.div_mul_le_self _ _
          have hRT : R ≤ T := Nat.le_trans (by rw [hRd]; exact Nat.div_le_self _ _) (by omega)
          have hR2 : ((T : Int) - (N : Int)) / ((N : Int) - (N' : Int)) = (R : Int) := by
            rw [hRd, show (T : Int) - (N : Int) = ((T - N : Nat) : Int) by omega, show (N : Int) - (N' : Int) = ((N - N' : Nat) : Int) by omega]
            exact (Int.natCast_ediv _ _).symm
          obtain ⟨z1, z2, z3, z4⟩ := leap hL hlt' hbd' (hbd hlt) hmod.symm R
          rw [wpB_cons]
          simp
          refine ⟨DivOk.of (by omega) (by omega), ?_⟩
          rw [hR2]
          rw [wpB_cons]
          simp
          refine ⟨mulx (by omega) (by omega), ?_⟩
          rw [wpB_cons]
          simp
          refine ⟨mulx (by omega) (by omega), ?_⟩
          rw [wpB_cons]
          simp
          refine ⟨mulx (by omega) (by omega), ?_⟩
          rw [wpB_cons]
          simp
          intro p2 hp2
          simp only [wpB_nil]
          have e1 : (cbM (gM bs log 0 N) : Int) + (R : Int) * ((cbM (gM bs log 0 N) : Int) - (cbM (gM bs log 0 N') : Int)) = (cbM (gM bs log 0 (N + R * (N - N'))) : Int) := by
            have := congrArg (fun x : Nat => (x : Int)) z2
            simp only [Int.natCast_add, Int.natCast_mul] at this
            rw [Int.mul_sub]
            omega
          have e2 : (clM (gM bs log 0 N) : Int) + (R : Int) * ((clM (gM bs log 0 N) : Int) - (clM (gM bs log 0 N') : Int)) = (clM (gM bs log 0 (N + R * (N - N'))) : Int) := by
            have := congrArg (fun x : Nat => (x : Int)) z3
            simp only [Int.natCast_add, Int.natCast_mul] at this
            rw [Int.mul_sub]
            omega
          have e3 : (N : Int) + (R : Int) * ((N : Int) - (N' : Int)) = ((N + R * (N - N') : Nat) : Int) := by
            rw [Int.natCast_add, Int.natCast_mul, show ((N - N' : Nat) : Int) = (N : Int) - (N' : Int) by omega]
          rw [e1, e2, e3]
          refine hnx _ _ _ ?_ ⟨N + R * (N - N'), [], p2, _, _, _, _, _, _, _, rfl, by omega, fun _ => z1, Mp.upd_same, ?_, ?_, SeenOk.nil, rfl⟩
          · rw [if_neg hkv, if_pos rfl]; omega
          · cases hm : M p2 with
            | none => rfl
            | some o => rw [hK p2 o hm] at hp2; cases hp2
          · exact fun a o z => by
              have z' := hK a o z
              rw [Mp.upd_ne fun y => by rw [y, hp2] at z'; cases z']; exact z'
        | none =>
          simp
          rw [wpB_cons]
          simp only [wpS, wpE, wpEs, List.getElem?_cons_succ, List.getElem?_cons_zero]
          refine ⟨by show 3 ≤ sizeLine; decide, ?_⟩
          have ec : ((N : Int) % (log.length : Int)) = ((N % log.length : Nat) : Int) := by simp
          rw [ec]
          simp only [setD, hM1, keyD]
          refine ⟨by have := hS.len; have := sz (n := kvs.length + 1) (by omega); omega, ?_⟩
          rw [wpB_cons]
          simp
          obtain ⟨mo, hmo, m0, m1, m2⟩ : ∃ mo : Nat, (if (log.length : Int) < (T : Int) - (N : Int) then (log.length : Int) else (T : Int) - (N : Int)) = (mo : Int) ∧ 0 < mo ∧ mo ≤ log.length ∧ (mo = log.length ∨ N + mo = T) ∧ N + mo ≤ T := by
            by_cases z : (log.length : Int) < (T : Int) - (N : Int)
            · exact ⟨log.length, by rw [if_pos z], hpos, Nat.le_refl _, .inl rfl, by omega⟩
            · exact ⟨T - N, by rw [if_neg z]; omega, by omega, by omega, .inr (by omega), by omega⟩
          rw [hmo, ec]
          refine ⟨bs, log, N % log.length, mo, rfl, hL, hbl, hll, by omega, fun len l1 l2 l3 l4 => ?_⟩
          have hlen := l2 m0
          obtain ⟨k, rfl⟩ : ∃ k, len = k + 1 := ⟨len - 1, by omega⟩
          have hlt2 := noB_lt hL hf l3
          have c1 := cb_one l3
          rw [gM_mod] at c1 ⊢
          have hsp := gM_split hL (hbd hlt) (k + 1)
          rw [Nat.zero_add] at hsp
          have c2 : cbM (gM bs log 0 (N + (k + 1))) = cbM (gM bs log 0 N) + 1 := by rw [hsp, cb_app, c1]
          have c3 : clM (gM bs log 0 (N + (k + 1))) = clM (gM bs log 0 N) + clM (gM bs log N (k + 1)) := by rw [hsp, cl_app]
          simp
          rw [wpB_cons]
          simp only [wpS, wpE, List.getElem?_cons_succ, List.getElem?_cons_zero, binD_add, addD, List.set_cons_succ, List.set_cons_zero, wpB_nil]
          obtain ⟨y1, y2⟩ := hS.put (N2 := N + (k + 1)) hpos (by omega) (hbd hlt) hv
          have e1 : (cbM (gM bs log 0 N) : Int) + 1 = (cbM (gM bs log 0 (N + (k + 1))) : Int) := by rw [c2]; simp
          have e2 : (clM (gM bs log 0 N) : Int) + (clM (gM bs log N (k + 1)) : Int) = (clM (gM bs log 0 (N + (k + 1))) : Int) := by rw [c3]; simp
          have e3 : (N : Int) + ((k : Int) + 1) = ((N + (k + 1) : Nat) : Int) := by simp
          rw [e1, e2, e3]
          try rw [ec]
          refine hnx _ _ _ ?_ ⟨N + (k + 1), putD kvs (.inl ((N % log.length : Nat) : Int)) (seenD bs log N), p, _, _, _, _, _, _, _, rfl, by omega, fun hlt3 => ?_, Mp.upd_same, hMp, ?_, y1, rfl⟩
          · rw [if_neg y2]
            split <;> omega
          · rcases l4 with z | z
            · omega
            · rw [bd_mod] at z
              rw [bd_split hL (hbd hlt), Nat.zero_add]
              exact z
          · exact fun a o z => by
              have z' := hK a o z
              rw [Mp.upd_ne fun y => by rw [y, hMp] at z; cases z]; exact z'
      · rw [if_neg hlt]
        have : N = T := by omega
        subst this
        try dsimp only
        rw [wpB_cons]
        simp
        exact ⟨by decide, Fin.sub hK q⟩
    · exact ⟨0, [], p0, _, _, _, _, _, _, _, rfl, by omega, fun _ => bd_zero 0, Mp.upd_same, hp0, Mp.sub_upd hp0, SeenOk.nil, by simp⟩
def mc_repeated_loads : MC := ⟨["box", "log", "times"], ["phases_and_loads"], [], [], []⟩
def b_repeated_loads : List CS := [.ret (.ix (.call 0 [.var 0, .var 1, .var 2]) (.int 0))]
def cx_repeated_loads : Ctx := ⟨[fi_phases_and_loads], [], [], []⟩
@[simp] theorem cx_repeated_loads_0 : cx_repeated_loads.fs[0]? = some fi_phases_and_loads := rfl
def spRL : DSp := fun ds M Q _ => ∃ (bs : List Int) (log : List (List Int)) (times : Nat), ds = [pt bs, lg log, .int (times : Int)] ∧ RepOk bs log ∧ times ≤ 10 ^ 20 ∧ Q (.int (cbM (gM bs log 0 (log.length * times)) : Int)) M
def fi_repeated_loads : FI := ⟨"repeated_loads", 3, spRL⟩
@[simp] theorem fi_repeated_loads_sp : fi_repeated_loads.sp = spRL := rfl
theorem wp_repeated_loads {E : EX} {ds : List D} {M : Mp} {Q : QE} {E' : XD → Mp → Prop} (h : spRL ds M Q E') : wpB cx_repeated_loads E b_repeated_loads (endsD Q) (startD mc_repeated_loads.N ds) M := by
  obtain ⟨bs, log, times, rfl, hR, ht, q⟩ := h
  rw [show startD mc_repeated_loads.N [pt bs, lg log, .int (times : Int)] = [some (pt bs), some (lg log), some (.int (times : Int))] from rfl, b_repeated_loads, wpB_cons]
  simp
  refine ⟨bs, log, times, rfl, hR, ht, ?_⟩
  simp
  exact Fin.same q
def mc_repeated_viewer_loads : MC := ⟨["box", "log", "times"], ["phases_and_loads"], [], [], []⟩
def b_repeated_viewer_loads : List CS := [.ret (.ix (.call 0 [.var 0, .var 1, .var 2]) (.int 1))]
def cx_repeated_viewer_loads : Ctx := ⟨[fi_phases_and_loads], [], [], []⟩
@[simp] theorem cx_repeated_viewer_loads_0 : cx_repeated_viewer_loads.fs[0]? = some fi_phases_and_loads := rfl
def spRVL : DSp := fun ds M Q _ => ∃ (bs : List Int) (log : List (List Int)) (times : Nat), ds = [pt bs, lg log, .int (times : Int)] ∧ RepOk bs log ∧ times ≤ 10 ^ 20 ∧ Q (.int (clM (gM bs log 0 (log.length * times)) : Int)) M
def fi_repeated_viewer_loads : FI := ⟨"repeated_viewer_loads", 3, spRVL⟩
@[simp] theorem fi_repeated_viewer_loads_sp : fi_repeated_viewer_loads.sp = spRVL := rfl
theorem wp_repeated_viewer_loads {E : EX} {ds : List D} {M : Mp} {Q : QE} {E' : XD → Mp → Prop} (h : spRVL ds M Q E') : wpB cx_repeated_viewer_loads E b_repeated_viewer_loads (endsD Q) (startD mc_repeated_viewer_loads.N ds) M := by
  obtain ⟨bs, log, times, rfl, hR, ht, q⟩ := h
  rw [show startD mc_repeated_viewer_loads.N [pt bs, lg log, .int (times : Int)] = [some (pt bs), some (lg log), some (.int (times : Int))] from rfl, b_repeated_viewer_loads, wpB_cons]
  simp
  refine ⟨bs, log, times, rfl, hR, ht, ?_⟩
  simp
  exact Fin.same q
/-- the log that is really written -/
theorem seg_add (log : List (List Int)) (f a b : Nat) : seg log f (a + b) = seg log f a ++ seg log (f + a) b := by
  induction b with
  | zero => simp [seg]
  | succ b ih => rw [← Nat.add_assoc, seg_succ, ih, seg_succ, ← List.append_assoc, ← Nat.add_assoc]
theorem seg_self {log : List (List Int)} : seg log 0 log.length = log := by
  refine List.ext_getElem (by simp [seg]) fun i h1 h2 => ?_
  have : (seg log 0 log.length)[i] = rq log (0 + i) := by simp [seg]
  rw [this]
  unfold rq
  rw [Nat.zero_add, Nat.mod_eq_of_lt h2, List.getD_eq_getElem?_getD, List.getElem?_eq_getElem h2]
  rfl
theorem seg_flat (log : List (List Int)) : ∀ T, seg log 0 (log.length * T) = (List.replicate T log).flatten
  | 0 => by simp [seg]
  | T + 1 => by
    rw [Nat.mul_succ, seg_add, seg_flat log T, Nat.zero_add, List.replicate_succ', List.flatten_append]
    congr 1
    rw [← seg_mod, Nat.mul_mod_right, seg_self]
    simp
/-! ### the law's own run -/
def momD (m : Mom) : D := .tup [.bl m.begins, .bl m.load, pt m.place, hu m.hull]
def mc_q_run : MC := ⟨["_law_box_here", "_law_log_here", "_law_position", "_law_found", "_law_place", "_law_hull", "_law_wider", "_law_wide", "_law_begins", "_law_is_load", "_law_ends", "_law_size", "_law_one", "_law_small", "_law_large", "_law_first", "_law_last"], ["_law_covers"], [], [], []⟩
def b_q_run : List CS := [.par3 3 4 5 (.lst false []) (.tup []) (.tup []),
    .for (.nm 2) .seq [.var 1] [.set 6 (.blt .tuple true [.comp true (.tup [.blt .min true [.var 13, .var 12], .blt .max true [.var 14, .var 12]]) (.tup [.tup [.nm 13, .nm 14], .nm 12]) .zip2 [.var 5, .var 2] [12, 13, 14]]), .setLc 7 (.comp true (.cmp .GtE (.bin .Sub true (.var 14) (.var 13)) (.var 11)) (.tup [.tup [.nm 13, .nm 14], .nm 11]) .zip2 [.var 6, .var 0] [11, 13, 14]), .set 8 (.or (.cmp .Eq (.var 5) (.tup [])) (.one (.blt .any true [.var 7]))), .set 5 (.ife (.var 8) (.blt .tuple true [.comp true (.tup [.var 12, .var 12]) (.nm 12) .seq [.var 2] [12]]) (.var 6)), .set 9 (.or (.cmp .Eq (.var 4) (.tup [])) (.one (.not (.call 0 [.var 0, .var 4, .var 2])))), .ifs (.var 9) [.setLc 10 (.comp true (.tup [.bin .Add true (.bin .Sub true (.var 14) (.var 11)) (.int 1), .var 13]) (.tup [.tup [.nm 13, .nm 14], .nm 11]) .zip2 [.var 5, .var 0] [11, 13, 14]), .set 4 (.blt .tuple true [.comp true (.bin .Add true (.var 15) (.bin .FloorDiv true (.bin .Sub true (.var 16) (.var 15)) (.int 2))) (.tup [.nm 15, .nm 16]) .seq [.var 10] [15, 16]])] [], .expr (.mth .append (.var 3) (.tup [.var 8, .var 9, .var 4, .var 5]))],
    .ret (.var 3)]
def cx_q_run : Ctx := ⟨[fi_q_covers], [], [], []⟩
@[simp] theorem cx_q_run_0 : cx_q_run.fs[0]? = some fi_q_covers := rfl
def spRunQ : DSp := fun ds M Q _ => ∃ (bs : List Int) (log : List (List Int)), ds = [pt bs, lg log] ∧ RepOk bs log ∧ Q (.lst ((runM bs log).map momD)) M
def fi_q_run : FI := ⟨"_law_run", 2, spRunQ⟩
@[simp] theorem fi_q_run_sp : fi_q_run.sp = spRunQ := rfl
theorem cmp_hunil {h : List (Int × Int)} {M : Mp} {Q : QE} (q : Q (.bl h.isEmpty) M) : cmpD .Eq (hu h) (.tup []) M Q := by
  obtain ⟨h1, h2, h3⟩ := lay_hu h
  refine ⟨?_, ok_pt [], ?_⟩
  · refine ⟨h3, ?_⟩
    have e1 : (hu h).py.canLay0 = true := by simp only [D.py, PyData.canLay0]; exact h1
    unfold SeqAt.shaped
    rw [e1]
    simp only [D.py, PyData.depth, Bool.true_and]
    exact decide_eq_true (by omega)
  · have e : eqB (hu h) (.tup []) = h.isEmpty := by
      cases h <;> simp [eqB, D.py, D.pys, PyData.eqv, PyData.eqvAll]
    rw [e, Bool.false_xor]; exact q
theorem cmp_ptnil {a : List Int} {M : Mp} {Q : QE} (q : Q (.bl a.isEmpty) M) : cmpD .Eq (pt a) (.tup []) M Q := by
  refine ⟨ok_pt a, ok_pt [], ?_⟩
  have e : eqB (pt a) (.tup []) = a.isEmpty := by
    cases a <;> simp [eqB, D.py, D.pys, PyData.eqv, PyData.eqvAll]
  rw [e, Bool.false_xor]; exact q
def hullT (l : List Mom) : List (Int × Int) := match l.getLast? with
  | none => []
  | some m => m.hull
def placeT (l : List Mom) : List Int := match l.getLast? with
  | none => []
  | some m => m.place
theorem zip_hb (h : List (Int × Int)) (bs : List Int) : ((h.map pr).zip (bs.map D.int)).map (fun p => D.tup [p.1, p.2]) = (h.zip bs).map fun t => D.tup [pr t.1, .int t.2] := by
  rw [List.zip_map, List.map_map]; rfl
theorem any_not {α : Type} {f g : α → Bool} (h : ∀ t, f t = !g t) : ∀ l : List α, (l.map f).any id = !l.all g
  | [] => rfl
  | t :: l => by rw [List.map_cons, List.any_cons, List.all_cons, any_not h l, h t]; simp
def b_r5 : List CS := [.set 5 (.ife (.var 8) (.blt .tuple true [.comp true (.tup [.var 12, .var 12]) (.nm 12) .seq [.var 2] [12]]) (.var 6)), .set 9 (.or (.cmp .Eq (.var 4) (.tup [])) (.one (.not (.call 0 [.var 0, .var 4, .var 2])))), .ifs (.var 9) [.setLc 10 (.comp true (.tup [.bin .Add true (.bin .Sub true (.var 14) (.var 11)) (.int 1), .var 13]) (.tup [.tup [.nm 13, .nm 14], .nm 11]) .zip2 [.var 5, .var 0] [11, 13, 14]), .set 4 (.blt .tuple true [.comp true (.bin .Add true (.var 15) (.bin .FloorDiv true (.bin .Sub true (.var 16) (.var 15)) (.int 2))) (.tup [.nm 15, .nm 16]) .seq [.var 10] [15, 16]])] [], .expr (.mth .append (.var 3) (.tup [.var 8, .var 9, .var 4, .var 5]))]
def b_r9 : List CS := b_r5.drop 1
def b_rL : List CS := b_r5.drop 2
theorem wp_q_run {E : EX} {ds : List D} {M : Mp} {Q : QE} {E' : XD → Mp → Prop} (h : spRunQ ds M Q E') : wpB cx_q_run E b_q_run (endsD Q) (startD mc_q_run.N ds) M := by
  obtain ⟨bs, log, rfl, ⟨hb, hb0, hbl, hll, hp⟩, q⟩ := h
  have hbl0 : 0 < bs.length := List.length_pos_iff.mpr hb0
  rw [show startD mc_q_run.N [pt bs, lg log] = some (pt bs) :: some (lg log) :: List.replicate 15 none from rfl, b_q_run, wpB_cons]
  simp
  intro p hp0
  rw [wpB_cons]
  simp [itD]
  refine forD_pre pt (fun pre ρ M' => (∃ x2 x6 x7 x8 x9 x10 x11 x12 x13 x14 x15 x16, ρ = [some (pt bs), some (lg log), x2, some (.ref p), some (pt (placeT (runM bs pre))), some (hu (hullT (runM bs pre))), x6, x7, x8, x9, x10, x11, x12, x13, x14, x15, x16]) ∧ M' = M.upd p (.lst ((runM bs pre).map momD)))
    (fun _ => True.intro) (fun pre x post ρ M1 e hI nx hnx => ?_) (fun ρ M1 hI => ?_) ⟨⟨_, _, _, _, _, _, _, _, _, _, _, _, rfl⟩, rfl⟩
  · obtain ⟨⟨x2, x6, x7, x8, x9, x10, x11, x12, x13, x14, x15, x16, rfl⟩, rfl⟩ := hI
    have hx := hp x (by rw [← e]; simp)
    have hpre : ∀ y ∈ pre, y.length = bs.length ∧ PosOk y := fun y hy => hp y (by rw [← e]; exact List.mem_append_left _ hy)
    obtain ⟨hv, hln⟩ := runM_v hb hpre
    have hlen := congrArg List.length e
    simp only [List.length_append, List.length_cons] at hlen
    rw [runM_snoc] at hnx
    obtain ⟨m', hm'⟩ : ∃ m', m' = stepM bs (runM bs pre) x := ⟨_, rfl⟩
    rw [← hm'] at hnx
    -- the pure step
    have hH : m'.hull = if (hullT (runM bs pre)).isEmpty = true ∨ fitsH bs (joinH (hullT (runM bs pre)) x) = false then hullP x else joinH (hullT (runM bs pre)) x := by
      rw [hm']; unfold stepM hullT
      cases hg : (runM bs pre).getLast? with
      | none => rfl
      | some m =>
        have hmv := hv m (List.mem_of_getLast? hg)
        have : m.hull.isEmpty = false := by
          cases hh : m.hull with
          | nil => have h2 := hmv.1.length; rw [hh, List.length_nil] at h2; omega
          | cons => rfl
        dsimp only
        rw [nextM_hull]
        unfold nextHull
        by_cases hf : fitsH bs (joinH m.hull x) = true
        · rw [if_pos hf, if_neg (by rw [this, hf]; simp)]
        · rw [if_neg hf, if_pos (.inr (by simpa using hf))]
    have hB : m'.begins = ((hullT (runM bs pre)).isEmpty || !fitsH bs (joinH (hullT (runM bs pre)) x)) := by
      rw [hm']; unfold stepM hullT
      cases hg : (runM bs pre).getLast? with
      | none => rfl
      | some m =>
        have hmv := hv m (List.mem_of_getLast? hg)
        have : m.hull.isEmpty = false := by
          cases hh : m.hull with
          | nil => have h2 := hmv.1.length; rw [hh, List.length_nil] at h2; omega
          | cons => rfl
        dsimp only
        rw [nextM_begins, this, Bool.false_or]
    have hLd : m'.load = ((placeT (runM bs pre)).isEmpty || !coversB bs (placeT (runM bs pre)) x) := by
      rw [hm']; unfold stepM placeT
      cases hg : (runM bs pre).getLast? with
      | none => rfl
      | some m =>
        have hmv := hv m (List.mem_of_getLast? hg)
        have : m.place.isEmpty = false := by
          cases hh : m.place with
          | nil => have h2 := hmv.2.1; rw [hh, List.length_nil] at h2; omega
          | cons => rfl
        dsimp only
        rw [nextM_load, this, Bool.false_or]
    have hPl : m'.place = if m'.load = true then halvingP bs m'.hull else placeT (runM bs pre) := by
      rw [hm']; unfold stepM placeT
      cases hg : (runM bs pre).getLast? with
      | none => rfl
      | some m =>
        dsimp only
        rw [nextM_load, nextM_place, nextM_hull]
        cases hc : coversB bs m.place x <;> simp
    have hml : m'.hull.length = bs.length := by
      rw [hm']
      exact (stepM_v hb hv hx.1 hx.2).1.length.symm
    have hpl0 : placeT (runM bs pre) = [] ∨ (placeT (runM bs pre)).length = bs.length := by
      unfold placeT
      cases hg : (runM bs pre).getLast? with
      | none => exact .inl rfl
      | some m => exact .inr (hv m (List.mem_of_getLast? hg)).2.1
    have hhT : placeT (runM bs pre ++ [m']) = m'.place ∧ hullT (runM bs pre ++ [m']) = m'.hull := by
      unfold placeT hullT; rw [List.getLast?_concat]; exact ⟨rfl, rfl⟩
    rw [hhT.1, hhT.2] at hnx
    revert hH hB hLd hPl hpl0 hnx
    generalize hullT (runM bs pre) = h
    generalize placeT (runM bs pre) = pl
    intro hnx hH hB hLd hPl hpl0
    simp
    rw [wpB_cons]
    simp [itD]
    rw [zip_hb]
    intro c hc
    have hcp : p ≠ c := fun z => by rw [← z, Mp.upd_same] at hc; cases hc
    refine cmpL_mapf (fun t : (Int × Int) × Int => D.tup [pr t.1, .int t.2]) (fun t => pr (mn t.1.1 t.2, mx t.1.2 t.2)) hc (by simp; omega) (fun _ => True.intro) (fun n hn acc add skip ha => ?_) ?_
    · simp [turnC, wipeD]
      exact ⟨by decide, ha⟩
    obtain ⟨J, hJ⟩ : ∃ J, J = joinH h x := ⟨_, rfl⟩
    have eJ : D.tup ((h.zip x).map fun t => pr (mn t.1.1 t.2, mx t.1.2 t.2)) = hu J := by rw [hJ]; simp [joinH]
    rw [← hJ] at hH hB
    simp
    rw [eJ]
    rw [wpB_cons]
    simp [itD]
    rw [zip_hb]
    intro c2 hc2
    refine cmpL_mapf (fun t : (Int × Int) × Int => D.tup [pr t.1, .int t.2]) (fun t => D.bl (decide (t.2 ≤ t.1.2 - t.1.1))) hc2 (by simp; omega) (fun _ => True.intro) (fun n hn acc add skip ha => ?_) ?_
    · simp [turnC, wipeD]
      exact ha
    have hW : ((J.zip bs).map fun t => decide (t.2 ≤ t.1.2 - t.1.1)).any id = !fitsH bs J := by
      unfold fitsH
      refine any_not (fun t => ?_) _
      by_cases z : t.1.2 - t.1.1 < t.2
      · rw [decide_eq_true z, decide_eq_false (by omega)]; rfl
      · rw [decide_eq_false z, decide_eq_true (by omega)]; rfl
    have eW : (J.zip bs).map (fun t => D.bl (decide (t.2 ≤ t.1.2 - t.1.1))) = ((J.zip bs).map fun t => decide (t.2 ≤ t.1.2 - t.1.1)).map D.bl := by rw [List.map_map]; rfl
    rw [eW]
    revert hW
    generalize (J.zip bs).map (fun t => decide (t.2 ≤ t.1.2 - t.1.1)) = W
    intro hW
    obtain ⟨M2, hM2⟩ : ∃ M2, M2 = M.upd p (.lst ((runM bs pre).map momD)) := ⟨_, rfl⟩
    have hM2p : M2 p = some (.lst ((runM bs pre).map momD)) := by rw [hM2]; exact Mp.upd_same
    have fin : ∀ (B : DEnds) (x2 x6 x7 x10 x11 x12 x13 x14 x15 x16 : Option D), B.nx = nx → wpB cx_q_run E [.expr (.mth .append (.var 3) (.tup [.var 8, .var 9, .var 4, .var 5]))] B [some (pt bs), some (lg log), x2, some (.ref p), some (pt m'.place), some (hu m'.hull), x6, x7, some (.bl m'.begins), some (.bl m'.load), x10, x11, x12, x13, x14, x15, x16] M2 := by
      intro B x2 x6 x7 x10 x11 x12 x13 x14 x15 x16 hB
      rw [wpB_cons]
      simp [hM2p]
      refine ⟨by decide, by rw [hln]; have := sz (n := pre.length + 1) (by omega); omega, ?_⟩
      rw [wpB_nil, hB]
      refine hnx _ _ ⟨⟨_, _, _, _, _, _, _, _, _, _, _, _, rfl⟩, ?_⟩
      rw [hM2, upd_upd', List.map_append]
      rfl
    have rL : ∀ (B : DEnds) (x6 x7 x10 x11 x12 x13 x14 x15 x16 : Option D), B.nx = nx → wpB cx_q_run E b_rL B [some (pt bs), some (lg log), some (pt x), some (.ref p), some (pt pl), some (hu m'.hull), x6, x7, some (.bl m'.begins), some (.bl m'.load), x10, x11, x12, x13, x14, x15, x16] M2 := by
      intro B x6 x7 x10 x11 x12 x13 x14 x15 x16 hB
      rw [show b_rL = b_rL.head (by decide) :: [.expr (.mth .append (.var 3) (.tup [.var 8, .var 9, .var 4, .var 5]))] from rfl]
      simp only [b_rL, b_r5, List.drop_succ_cons, List.drop_zero, List.head_cons]
      rw [wpB_cons]
      simp
      cases hld : m'.load with
      | false =>
        rw [hld] at hPl fin
        simp at hPl
        rw [← hPl]
        simp [wpB_nil]
        exact fin B _ _ _ _ _ _ _ _ _ _ hB
      | true =>
        rw [hld] at hPl fin
        simp at hPl
        simp
        rw [wpB_cons]
        simp [itD]
        rw [zip_hb]
        intro c hc
        refine cmpL_mapf (fun t : (Int × Int) × Int => D.tup [pr t.1, .int t.2]) (fun t => pr (t.1.2 - t.2 + 1, t.1.1)) hc (by simp; omega) (fun _ => True.intro) (fun n hn acc add skip ha => ?_) ?_
        · simp [turnC, wipeD]
          exact ⟨by decide, ha⟩
        have eP : (m'.hull.zip bs).map (fun t => pr (t.1.2 - t.2 + 1, t.1.1)) = (placesP bs m'.hull).map pr := by simp [placesP]
        rw [eP]
        have hpl2 := placesP_len bs m'.hull
        rw [wpB_cons]
        simp [itD]
        intro c2 hc2
        refine cmpL_mapf pr (fun t => D.int (t.1 + (t.2 - t.1) / 2)) hc2 (by omega) (fun _ => True.intro) (fun n hn acc add skip ha => ?_) ?_
        · simp [turnC, wipeD]
          exact ha
        have eH : (placesP bs m'.hull).map (fun t => D.int (t.1 + (t.2 - t.1) / 2)) = ils (halvingP bs m'.hull) := by simp [halvingP, ils]
        rw [eH]
        simp
        rw [wpB_nil, ← hPl]
        exact fin B _ _ _ _ _ _ _ _ _ _ hB
    have r9 : ∀ (B : DEnds) (x6 x7 x9 x10 x11 x12 x13 x14 x15 x16 : Option D), B.nx = nx → wpB cx_q_run E b_r9 B [some (pt bs), some (lg log), some (pt x), some (.ref p), some (pt pl), some (hu m'.hull), x6, x7, some (.bl m'.begins), x9, x10, x11, x12, x13, x14, x15, x16] M2 := by
      intro B x6 x7 x9 x10 x11 x12 x13 x14 x15 x16 hB
      rw [show b_r9 = (.set 9 (.or (.cmp .Eq (.var 4) (.tup [])) (.one (.not (.call 0 [.var 0, .var 4, .var 2]))))) :: b_rL from rfl, wpB_cons]
      simp
      refine cmp_ptnil ?_
      cases hE : pl.isEmpty with
      | true =>
        rw [hE, Bool.true_or] at hLd
        rw [hLd] at rL
        simp
        exact rL B _ _ _ _ _ _ _ _ _ hB
      | false =>
        rw [hE, Bool.false_or] at hLd
        simp
        refine ⟨bs, pl, x, rfl, ?_, ?_⟩
        · rcases hpl0 with z | z
          · rw [z]; simp
          · omega
        dsimp only
        rw [← hLd]
        exact rL B _ _ _ _ _ _ _ _ _ hB
    have r5 : ∀ (B : DEnds) (x7 x9 x10 x11 x12 x13 x14 x15 x16 : Option D), B.nx = nx → wpB cx_q_run E b_r5 B [some (pt bs), some (lg log), some (pt x), some (.ref p), some (pt pl), some (hu h), some (hu J), x7, some (.bl m'.begins), x9, x10, x11, x12, x13, x14, x15, x16] M2 := by
      intro B x7 x9 x10 x11 x12 x13 x14 x15 x16 hB'
      rw [show b_r5 = (.set 5 (.ife (.var 8) (.blt .tuple true [.comp true (.tup [.var 12, .var 12]) (.nm 12) .seq [.var 2] [12]]) (.var 6))) :: b_r9 from rfl, wpB_cons]
      simp
      cases hbg : m'.begins with
      | true =>
        rw [hbg] at hB r9
        have eh : m'.hull = hullP x := by
          rw [hH, if_pos]
          cases hE : h.isEmpty with
          | true => exact .inl rfl
          | false => rw [hE] at hB; exact .inr (by simpa using hB.symm)
        simp [itD]
        intro c hc
        refine cmpL_mapf D.int (fun n => pr (n, n)) hc (by omega) (fun _ => True.intro) (fun n hn acc add skip ha => ?_) ?_
        · simp [turnC, wipeD]
          exact ⟨by decide, ha⟩
        have e1 : D.tup (x.map fun n => pr (n, n)) = hu m'.hull := by rw [eh]; simp [hullP]
        simp
        rw [e1]
        exact r9 B _ _ _ _ _ _ _ _ _ _ hB'
      | false =>
        rw [hbg] at hB r9
        have eh : m'.hull = J := by
          rw [hH, if_neg]
          cases hE : h.isEmpty with
          | true => rw [hE] at hB; cases hB
          | false =>
            rw [hE, Bool.false_or] at hB
            cases hfj : fitsH bs J with
            | true => simp
            | false => rw [hfj] at hB; cases hB
        simp
        rw [← eh]
        exact r9 B _ _ _ _ _ _ _ _ _ _ hB'
    rw [← hM2, wpB_cons]
    simp
    refine cmp_hunil ?_
    cases hE : h.isEmpty with
    | true =>
      rw [hE, Bool.true_or] at hB
      rw [hB] at r5
      simp
      exact r5 _ _ _ _ _ _ _ _ _ _ rfl
    | false =>
      rw [hE, Bool.false_or] at hB
      rw [hB, ← hW] at r5
      simp at r5 ⊢
      exact r5 _ _ _ _ _ _ _ _ _ _ rfl
  · obtain ⟨⟨x2, x6, x7, x8, x9, x10, x11, x12, x13, x14, x15, x16, rfl⟩, rfl⟩ := hI
    try dsimp only
    rw [wpB_cons]
    simp
    refine Fin.lst Mp.upd_same ?_
    rw [Mp.del_upd hp0]
    exact q
def mc_q_numbers : MC := ⟨["_law_told", "_law_nth", "_law_number", "_law_moment"], [], [], [], []⟩
def b_q_numbers : List CS := [.ret (.blt .tuple true [.compIf true (.var 2) (.ix (.var 3) (.var 1)) (.tup [.nm 2, .nm 3]) .enum [.var 0] [2, 3]])]
def spNumQ : DSp := fun ds M Q _ => ∃ (l : List Mom) (nth : Int) (b : Mom → Bool), ds = [.lst (l.map momD), .int nth] ∧ (nth = 0 ∧ b = Mom.begins ∨ nth = 1 ∧ b = Mom.load) ∧ l.length ≤ 100000 ∧ Q (pt (numsL b l 0)) M
def fi_q_numbers : FI := ⟨"_law_numbers", 2, spNumQ⟩
@[simp] theorem fi_q_numbers_sp : fi_q_numbers.sp = spNumQ := rfl
theorem wp_q_numbers {C : Ctx} {E : EX} {ds : List D} {M : Mp} {Q : QE} {E' : XD → Mp → Prop} (h : spNumQ ds M Q E') : wpB C E b_q_numbers (endsD Q) (startD mc_q_numbers.N ds) M := by
  obtain ⟨l, nth, b, rfl, hn, hl, q⟩ := h
  rw [show startD mc_q_numbers.N [.lst (l.map momD), .int nth] = [some (.lst (l.map momD)), some (.int nth), none, none] from rfl, b_q_numbers, wpB_cons]
  simp [itD, enumD]
  rw [enum_map]
  intro c hc
  refine cmpL_filt (fun t : Mom × Nat => D.tup [.int (t.2 : Int), momD t.1]) (fun t => D.int (t.2 : Int)) (fun t => b t.1) hc (by simp; omega) (fun _ => True.intro) (fun t ht acc add skip ha hs => ?_) ?_
  · have hat : atI [.bl t.1.begins, .bl t.1.load, pt t.1.place, hu t.1.hull] nth = some (.bl (b t.1)) := by
      rcases hn with ⟨rfl, rfl⟩ | ⟨rfl, rfl⟩ <;> rfl
    simp only [turnC, wipeD]
    simp [momD, hat]
    cases hb : b t.1 with
    | true => exact ha hb
    | false => exact hs hb
  · have e : ((l.zipIdx.filter fun t => b t.1).map fun t => D.int (t.2 : Int)) = ils (numsL b l 0) := by simp [numsL, ils]
    rw [e]
    simp
    exact Fin.same q
theorem nums_len (b : Mom → Bool) (l : List Mom) (k : Nat) : (numsL b l k).length = (l.filter b).length := by
  unfold numsL
  rw [List.length_map]
  induction l generalizing k with
  | nil => rfl
  | cons m l ih =>
    rw [List.zipIdx_cons, List.filter_cons, List.filter_cons]
    cases h : b m <;> simp [h, ih]
def mc_q_repeated : MC := ⟨["_law_box_here", "_law_log_here", "_law_times", "_law_told"], ["_law_run", "_law_numbers"], [], [], []⟩
def b_q_repeated : List CS := [.set 3 (.call 0 [.var 0, .bin .Mult true (.var 1) (.var 2)]),
    .ret (.lst true [.blt .len true [.call 1 [.var 3, .int 0]], .blt .len true [.call 1 [.var 3, .int 1]]])]
def cx_q_repeated : Ctx := ⟨[fi_q_run, fi_q_numbers], [], [], []⟩
@[simp] theorem cx_q_repeated_0 : cx_q_repeated.fs[0]? = some fi_q_run := rfl
@[simp] theorem cx_q_repeated_1 : cx_q_repeated.fs[1]? = some fi_q_numbers := rfl
theorem rep_ok {bs : List Int} {log : List (List Int)} {T : Nat} (h : RepOk bs log) (hl : log.length * T ≤ 100000) : RepOk bs (List.replicate T log).flatten := by
  refine ⟨h.b, h.b0, h.bl, by simpa [Nat.mul_comm] using hl, fun p hp => ?_⟩
  obtain ⟨l, hl, hp⟩ := List.mem_flatten.mp hp
  rw [(List.mem_replicate.mp hl).2] at hp
  exact h.p p hp
def spRepQ : DSp := fun ds M Q _ => ∃ (bs : List Int) (log : List (List Int)) (times : Nat), ds = [pt bs, lg log, .int (times : Int)] ∧ RepOk bs log ∧ times ≤ 1000 ∧ log.length ≤ 1000 ∧ log.length * times ≤ 100000 ∧ Q (.lst [.int (cbM (gM bs log 0 (log.length * times)) : Int), .int (clM (gM bs log 0 (log.length * times)) : Int)]) M
def fi_q_repeated : FI := ⟨"_law_repeated", 3, spRepQ⟩
@[simp] theorem fi_q_repeated_sp : fi_q_repeated.sp = spRepQ := rfl
theorem wp_q_repeated {E : EX} {ds : List D} {M : Mp} {Q : QE} {E' : XD → Mp → Prop} (h : spRepQ ds M Q E') : wpB cx_q_repeated E b_q_repeated (endsD Q) (startD mc_q_repeated.N ds) M := by
  obtain ⟨bs, log, times, rfl, hR, ht, hl, hlt, q⟩ := h
  have hR' := rep_ok (T := times) hR hlt
  have e0 : gM bs log 0 (log.length * times) = runM bs (List.replicate times log).flatten := by unfold gM; rw [seg_flat]
  rw [e0] at q
  have hlen : (runM bs (List.replicate times log).flatten).length ≤ 100000 := by rw [(runM_v hR'.b hR'.p).2]; exact hR'.ll
  rw [show startD mc_q_repeated.N [pt bs, lg log, .int (times : Int)] = [some (pt bs), some (lg log), some (.int (times : Int)), none] from rfl, b_q_repeated, wpB_cons]
  simp
  refine ⟨⟨by omega, by omega, by omega⟩, ?_⟩
  have e1 : (List.replicate times (log.map pt)).flatten = ((List.replicate times log).flatten).map pt := by rw [List.map_flatten, List.map_replicate]
  rw [e1]
  refine ⟨bs, _, rfl, hR', ?_⟩
  try dsimp only
  rw [wpB_cons]
  simp
  refine ⟨_, 0, Mom.begins, rfl, .inl ⟨rfl, rfl⟩, hlen, ?_⟩
  simp
  refine ⟨_, 1, Mom.load, rfl, .inr ⟨rfl, rfl⟩, hlen, ?_⟩
  simp
  refine ⟨by decide, ?_⟩
  rw [nums_len, nums_len]
  exact Fin.same q
end Ow

namespace Ow
open PySem PySem.Spec PyProof.Rows L2
namespace Kx
def mc_covers : MC := ⟨["box", "place", "position", "low", "number", "size"], [], [], [], []⟩
def mc_joined : MC := ⟨["hull", "position", "number", "least", "greatest"], [], [], [], []⟩
def mc_hull_of : MC := ⟨["box", "log", "lines", "axis", "position", "line"], [], [], [], []⟩
def mc_fits : MC := ⟨["box", "hull", "size", "least", "greatest"], [], [], [], []⟩
def mc_check_fits : MC := ⟨["box", "hull"], ["fits"], [], [], []⟩
def mc_places_of : MC := ⟨["box", "hull", "size", "least", "greatest"], ["check_fits"], [], [], []⟩
def mc_halving_place : MC := ⟨["box", "hull", "first", "last"], ["places_of"], [], [], []⟩
def mc_phase_from : MC := ⟨["box", "log", "first", "most", "step", "hull", "place", "loads", "position", "wider", "one"], ["joined", "fits", "covers", "halving_place"], [], [], []⟩
def mc_phases_and_loads : MC := ⟨["box", "log", "times", "total", "number", "phases", "loads", "seen", "first", "rounds", "number_before", "phases_before", "loads_before", "length", "some"], ["fits", "hull_of", "phase_from"], [], [], []⟩
def mc_repeated_loads : MC := ⟨["box", "log", "times"], ["phases_and_loads"], [], [], []⟩
def mc_repeated_viewer_loads : MC := ⟨["box", "log", "times"], ["phases_and_loads"], [], [], []⟩
def mc_q_urn : MC := ⟨["_law_script", "_law_k", "_law_cell", "_law_great"], [], [], [], []⟩
def mc_q_take : MC := ⟨["_law_urn_here", "_law_many", "_law_turn", "_law_prime", "_law_mixed", "_law_drawn", "_law_digit"], [], [], [], []⟩
def mc_q_pick : MC := ⟨["_law_urn_here", "_law_items"], ["_law_take"], [], [], []⟩
def mc_q_box : MC := ⟨["_law_urn_here", "_law_axes", "_law_most", "_law_found", "_law_axis"], ["_law_take", "_law_pick"], [], [], []⟩
def mc_q_covers : MC := ⟨["_law_box_here", "_law_place", "_law_position", "_law_low", "_law_one", "_law_size"], [], [], [], []⟩
def mc_q_run : MC := ⟨["_law_box_here", "_law_log", "_law_position", "_law_found", "_law_place", "_law_hull", "_law_wider", "_law_wide", "_law_begins", "_law_is_load", "_law_ends", "_law_size", "_law_one", "_law_small", "_law_large", "_law_first", "_law_last"], ["_law_covers"], [], [], []⟩
def mc_q_numbers : MC := ⟨["_law_told_here", "_law_nth", "_law_number", "_law_moment"], [], [], [], []⟩
def mc_q_repeated : MC := ⟨["_law_box_here", "_law_log", "_law_times", "_law_told_here"], ["_law_run", "_law_numbers"], [], [], []⟩
def mc_q_inside : MC := ⟨["_law_urn_here", "_law_size"], ["_law_pick", "_law_take"], [], [], []⟩
def b_q_inside : List CS := [.ret (.call 0 [.var 0, .lst true [.int 0, .bin .Sub true (.var 1) (.int 1), .call 1 [.var 0, .var 1]]])]
def mc_q_close : MC := ⟨["_law_urn_here", "_law_box_here", "_law_corner", "_law_found", "_law_turn", "_law_size", "_law_low"], ["_law_pick", "_law_take", "_law_inside"], [], [], []⟩
def b_q_close : List CS := [.set 2 (.blt .tuple true [.comp true (.call 0 [.var 0, .lst true [.int 0, .neg (.int 3), .bin .Pow true (.int 10) (.int 11)]]) (.nm 5) .seq [.var 1] [5]]),
    .set 3 (.lst false []),
    .for (.nm 4) .rng1 [.bin .Add true (.int 1) (.call 1 [.var 0, .int 30])] [.expr (.mth .append (.var 3) (.blt .tuple true [.comp true (.bin .Add true (.var 6) (.call 2 [.var 0, .var 5])) (.tup [.nm 6, .nm 5]) .zip2 [.var 2, .var 1] [6, 5]]))],
    .ret (.blt .tuple true [.var 3])]
def mc_q_told : MC := ⟨["_law_box_here", "_law_log", "_law_times"], ["repeated_loads", "repeated_viewer_loads"], [], [], []⟩
def b_q_told : List CS := [.ret (.lst true [.call 0 [.var 0, .var 1, .var 2], .call 1 [.var 0, .var 1, .var 2]])]
def mc_q_right : MC := ⟨["_law_urn_here", "_law_box_here", "_law_far", "_law_wider", "_law_once", "_law_times", "_law_log", "_law_great", "_law_twice", "_law_due", "_law_number", "_law_one", "_law_size"], ["_law_close", "_law_take", "_law_repeated", "_law_told"], [], [], []⟩
def b_q_right : List CS := [.par 6 7 (.call 0 [.var 0, .var 1]) (.bin .Sub true (.bin .Pow true (.int 10) (.int 18)) (.call 1 [.var 0, .int 1000])),
    .par 4 8 (.call 2 [.var 1, .var 6, .int 1]) (.call 2 [.var 1, .var 6, .int 2]),
    .for (.tup [.nm 5, .nm 9]) .seq [.tup [.tup [.int 1, .var 4], .tup [.int 2, .var 8], .tup [.int 3, .var 8], .tup [.var 7, .var 8]]] [.ifs (.cmp .NotEq (.blt .repr true [.call 3 [.var 1, .var 6, .var 5]]) (.blt .repr true [.var 9])) [.ret (.bl false)] []],
    .set 2 (.blt .tuple true [.comp true (.bin .Add true (.var 11) (.var 12)) (.tup [.nm 11, .nm 12]) .zip2 [.ix (.var 6) (.int 0), .var 1] [11, 12]]),
    .set 3 (.bin .Add true (.var 6) (.tup [.var 2])),
    .set 4 (.call 2 [.var 1, .var 3, .int 1]),
    .for (.nm 5) .seq [.tup [.int 1, .int 2, .int 3, .int 10, .var 7]] [.ifs (.cmp .NotEq (.blt .repr true [.call 3 [.var 1, .var 3, .var 5]]) (.blt .repr true [.comp true (.bin .Mult true (.var 5) (.var 10)) (.nm 10) .seq [.var 4] [10]])) [.ret (.bl false)] []],
    .ret (.cmp .Eq (.call 2 [.var 1, .var 3, .int 3]) (.comp true (.bin .Mult true (.int 3) (.var 10)) (.nm 10) .seq [.var 4] [10]))]
def mc_law : MC := ⟨["_law_script", "_law_k", "_law_urn_here", "_law_turn"], ["_law_urn", "_law_right", "_law_box", "_law_pick"], [], [], []⟩
def b_law : List CS := [.for (.nm 1) .rng1 [.blt .max true [.int 1, .blt .min true [.int 3, .blt .len true [.var 0]]]] [.set 2 (.call 0 [.var 0, .var 1]), .for (.nm 3) .rng1 [.int 6] [.ifs (.not (.call 1 [.var 2, .call 2 [.var 2, .int 3, .call 3 [.var 2, .lst true [.int 6, .int 50, .bin .Pow true (.int 10) (.int 9)]]]])) [.ret (.bl false)] []]],
    .ret (.bl true)]
/-! ### the plain law -/
theorem hull_last {bs : List Int} {log : List (List Int)} (h : LogV bs log) (f k : Nat) : ∃ m, (gM bs log f (k + 1)).getLast? = some m ∧ m.hull.length = bs.length ∧ ∀ i, i < bs.length → (m.hull.getD i (0, 0)).1 ≤ (rq log (f + k)).getD i 0 ∧ (rq log (f + k)).getD i 0 ≤ (m.hull.getD i (0, 0)).2 := by
  have hp := (h.p _ (rq_mem h (f + k))).1
  have hP : ∀ i, i < bs.length → ((hullP (rq log (f + k))).getD i (0, 0)) = ((rq log (f + k)).getD i 0, (rq log (f + k)).getD i 0) := fun i hi => by
    simp [hullP, List.getD_eq_getElem?_getD, List.getElem?_eq_getElem (show i < (rq log (f + k)).length by omega)]
  refine ⟨stepM bs (gM bs log f k) (rq log (f + k)), by rw [gM_succ, List.getLast?_concat], ?_, fun i hi => ?_⟩
  · unfold stepM
    cases hg : (gM bs log f k).getLast? with
    | none => rw [show (firstM bs (rq log (f + k))).hull = hullP (rq log (f + k)) from rfl, hullP_len, hp]
    | some m =>
      dsimp only
      rw [nextM_hull]
      exact next_len hp (gM_v h f k m (List.mem_of_getLast? hg)).1.length.symm
  · unfold stepM
    cases hg : (gM bs log f k).getLast? with
    | none => rw [show (firstM bs (rq log (f + k))).hull = hullP (rq log (f + k)) from rfl, hP i hi]; exact ⟨Int.le_refl _, Int.le_refl _⟩
    | some m =>
      have hl := (gM_v h f k m (List.mem_of_getLast? hg)).1.length
      dsimp only
      rw [nextM_hull]
      unfold nextHull
      split
      · rw [join_getP (by omega) (by omega)]
        simp only [mn, mx]
        constructor <;> split <;> omega
      · rw [hP i hi]; exact ⟨Int.le_refl _, Int.le_refl _⟩
/-- a last request too far from the first one: every time begins a phase -/
theorem far_begins {bs : List Int} {log : List (List Int)} (h : LogV bs log) {far : List Int} {p0 : List Int} (hl : ∃ l, log = l ++ [far]) (h0 : log[0]? = some p0) (hfar : ∃ i, i < bs.length ∧ bs.getD i 0 ≤ far.getD i 0 - p0.getD i 0) : Bd bs log 0 log.length := by
  have hpos := h.pos
  obtain ⟨k, hk⟩ : ∃ k, log.length = k + 1 := ⟨log.length - 1, by omega⟩
  obtain ⟨m, h1, h2, h3⟩ := hull_last h 0 k
  have e1 : rq log (0 + k) = far := by
    obtain ⟨l, rfl⟩ := hl
    have : l.length = k := by simpa using hk
    unfold rq
    rw [Nat.zero_add, Nat.mod_eq_of_lt (by omega), List.getD_eq_getElem?_getD, ← this]
    simp
  have e2 : rq log (0 + log.length) = p0 := by
    unfold rq
    rw [Nat.zero_add, Nat.mod_self, List.getD_eq_getElem?_getD, h0]; rfl
  unfold Bd
  rw [e2, hk]
  unfold stepM
  rw [h1]
  dsimp only
  rw [nextM_begins]
  obtain ⟨i, hi, hb⟩ := hfar
  have h4 := (h3 i hi).2
  rw [e1] at h4
  have hp0 : p0.length = bs.length := by rw [← e2]; exact (h.p _ (rq_mem h _)).1
  cases hf : fitsH bs (joinH m.hull p0) with
  | false => rfl
  | true =>
    have := (fits_idx (by rw [joinH_len]; omega)).mp hf i hi
    rw [join_getP (by omega) (by omega)] at this
    simp only [mn, mx] at this
    split at this <;> split at this <;> omega
theorem far_counts {bs : List Int} {log : List (List Int)} (h : LogV bs log) (hb : Bd bs log 0 log.length) (T : Nat) : cbM (gM bs log 0 (log.length * T)) = T * cbM (gM bs log 0 log.length) ∧ clM (gM bs log 0 (log.length * T)) = T * clM (gM bs log 0 log.length) := by
  cases T with
  | zero => simp [gM_zero, cbM, clM]
  | succ k =>
    obtain ⟨_, h2, h3, _⟩ := leap h (N' := 0) (N := log.length) h.pos (bd_zero 0) hb (by simp) k
    rw [Nat.sub_zero] at h2 h3
    have e : log.length * (k + 1) = log.length + k * log.length := by rw [Nat.mul_succ, Nat.mul_comm, Nat.add_comm]
    have z1 : cbM (gM bs log 0 0) = 0 := rfl
    have z2 : clM (gM bs log 0 0) = 0 := rfl
    rw [z1] at h2
    rw [z2] at h3
    rw [e, Nat.succ_mul, Nat.succ_mul]
    omega
theorem one_counts {bs : List Int} {log : List (List Int)} (h : LogV bs log) (hf : fitsH bs (wideH log) = true) {T : Nat} (hT : 1 ≤ T) : cbM (gM bs log 0 (log.length * T)) = 1 ∧ clM (gM bs log 0 (log.length * T)) = clM (gM bs log 0 log.length) := by
  have hpos := h.pos
  have hle : log.length ≤ log.length * T := Nat.le_mul_of_pos_right _ hT
  obtain ⟨k, hk⟩ : ∃ k, log.length * T = k + 1 := ⟨log.length * T - 1, by omega⟩
  refine ⟨by rw [hk]; exact cb_one (noB_fit h hf 0 k), cl_fit2 h hf hle (Nat.le_refl _)⟩
/-! ### requests in one window -/
def cx_q_inside : Ctx := ⟨[fi_pick, fi_take], [], [], []⟩
@[simp] theorem cx_q_inside_0 : cx_q_inside.fs[0]? = some fi_pick := rfl
@[simp] theorem cx_q_inside_1 : cx_q_inside.fs[1]? = some fi_take := rfl
def spInside : DSp := fun ds M Q _ => ∃ (u : Addr) (s : Int) (n : Nat), ds = [.ref u, .int s] ∧ 1 ≤ s ∧ s ≤ 10 ^ 10 ∧ Urn M u n ∧ n < 2 ^ 58 ∧ ∀ (r : Int) M', 0 ≤ r → r < s → Urn M' u (n + 2) → Only M M' u → Q (.int r) M'
def fi_q_inside : FI := ⟨"_law_inside", 2, spInside⟩
@[simp] theorem fi_q_inside_sp : fi_q_inside.sp = spInside := rfl
theorem wp_q_inside {E : EX} {ds : List D} {M : Mp} {Q : QE} {E' : XD → Mp → Prop} (h : spInside ds M Q E') : wpB cx_q_inside E b_q_inside (endsD Q) (startD mc_q_inside.N ds) M := by
  obtain ⟨u, s, n, rfl, s1, s2, hU, hn, q⟩ := h
  rw [show startD mc_q_inside.N [.ref u, .int s] = [some (.ref u), some (.int s)] from rfl, b_q_inside, wpB_cons]
  simp
  refine ⟨u, s, n, rfl, by omega, by omega, hU, by omega, fun r M1 r0 r1 hU1 ho1 => ⟨by decide, ?_⟩⟩
  refine ⟨u, _, _, _, rfl, .inl rfl, by simp, by simp, hU1, by omega, fun d M2 hd hU2 ho2 => ?_⟩
  simp at hd
  rcases hd with rfl | rfl | rfl
  · exact Fin.same (q 0 _ (by omega) (by omega) hU2 (ho1.trans ho2))
  · exact Fin.same (q (s - 1) _ (by omega) (by omega) hU2 (ho1.trans ho2))
  · exact Fin.same (q r _ (by omega) (by omega) hU2 (ho1.trans ho2))
def cx_q_close : Ctx := ⟨[fi_pick, fi_take, fi_q_inside], [], [], []⟩
@[simp] theorem cx_q_close_0 : cx_q_close.fs[0]? = some fi_pick := rfl
@[simp] theorem cx_q_close_1 : cx_q_close.fs[1]? = some fi_take := rfl
@[simp] theorem cx_q_close_2 : cx_q_close.fs[2]? = some fi_q_inside := rfl
def CloseR (t : Int × Int) (x : Int) : Prop := t.1 ≤ x ∧ x < t.1 + t.2
def spClose : DSp := fun ds M Q _ => ∃ (u : Addr) (bs : List Int) (n : Nat), ds = [.ref u, pt bs] ∧ bs.length ≤ 3 ∧ (∀ b ∈ bs, 1 ≤ b ∧ b ≤ 10 ^ 9) ∧ Urn M u n ∧ n < 2 ^ 57 ∧
  ∀ (cs : List Int) (log : List (List Int)) M', cs.length = bs.length → (∀ c ∈ cs, (c.natAbs : Int) ≤ 10 ^ 11) → log ≠ [] → log.length ≤ 30 → (∀ p ∈ log, All2 CloseR (cs.zip bs) p) → Urn M' u (n + 1000) → Only M M' u → Q (lg log) M'
def fi_q_close : FI := ⟨"_law_close", 2, spClose⟩
@[simp] theorem fi_q_close_sp : fi_q_close.sp = spClose := rfl
theorem wp_q_close {E : EX} {ds : List D} {M : Mp} {Q : QE} {E' : XD → Mp → Prop} (h : spClose ds M Q E') : wpB cx_q_close E b_q_close (endsD Q) (startD mc_q_close.N ds) M := by
  obtain ⟨u, bs, n, rfl, hbl, hbs, hU, hn, q⟩ := h
  rw [show startD mc_q_close.N [.ref u, pt bs] = [some (.ref u), some (pt bs), none, none, none, none, none] from rfl, b_q_close, wpB_cons]
  simp [itD]
  intro p hp
  refine cmpL_draw (c := 1) (u := u) D.int D.int (fun _ x => (x.natAbs : Int) ≤ 10 ^ 11) hp hU (fun _ => True.intro) (by omega) (fun x hx M1 m hU1 hm hL1 add skip ha => ?_) (fun cs M1 hR hU1 ho1 => ?_)
  · simp [turnC, wipeD]
    refine ⟨.of (by decide) 4 (by decide) (by decide), by decide, u, _, _, m, rfl, .inl rfl, by simp, by simp, hU1, by omega, fun d M2 hd hU2 ho2 => ?_⟩
    simp at hd
    rcases hd with rfl | rfl | rfl
    · exact ha _ _ (by decide) hU2 ho2
    · exact ha _ _ (by decide) hU2 ho2
    · exact ha _ _ (by decide) hU2 ho2
  have hcl : cs.length = bs.length := hR.length.symm
  have hcs : ∀ x ∈ cs, (x.natAbs : Int) ≤ 10 ^ 11 := fun x hx => by
    obtain ⟨_, _, h⟩ := All2.mem hR x hx
    exact h
  simp
  rw [wpB_cons]
  simp
  intro p2 hp2
  have hpu := hU1.ne hp2
  rw [wpB_cons]
  simp [itD]
  refine ⟨u, 30, _, rfl, by decide, by decide, hU1.upd hpu, by omega, fun r M2 r0 r1 hU2 ho2 => ⟨⟨by omega, by omega⟩, ?_⟩⟩
  have hp3 : M2 p2 = some (.lst []) := (ho2 p2 hpu).trans Mp.upd_same
  refine forD_draw (c := 10) (n := n + 1 * bs.length + 1) (M0 := M1) (u := u) (p := p2) (L := List.range (1 + r).toNat) (fun (i : Nat) => D.int (i : Int)) pt (fun _ p => All2 CloseR (cs.zip bs) p) (fun ρ => ∃ x4 x5 x6, ρ = [some (.ref u), some (pt bs), some (pt cs), some (.ref p2), x4, x5, x6]) (fun _ => True.intro) ⟨_, _, _, rfl⟩ hp3 hU2 (Loc.new.draw ho2) (fun b hb ys ρ1 M3 m hS hp1 hyl hU3 hm hL3 nx hnx => ?_) (fun ys ρ2 M3 hR3 hS hp4 hU3 hL3 => ?_)
  · obtain ⟨x4, x5, x6, rfl⟩ := hS
    rw [List.length_range] at hyl hm
    simp
    rw [wpB_cons]
    simp [itD, hp1]
    rw [show ((cs.map D.int).zip (bs.map D.int)) = (ils cs).zip (ils bs) from rfl, zip_ils]
    intro p5 hp5
    refine cmpL_draw (c := 2) (u := u) (fun t : Int × Int => D.tup [.int t.1, .int t.2]) D.int CloseR hp5 hU3 (fun _ => True.intro) (by simp; omega) (fun t ht M4 m4 hU4 hm4 hL4 add skip ha => ?_) (fun xs M4 hX hU4 ho4 => ?_)
    · have hbt := hbs t.2 (List.of_mem_zip ht).2
      have hzl : (cs.zip bs).length ≤ 3 := by simp; omega
      simp [turnC, wipeD]
      refine ⟨u, t.2, m4, rfl, by omega, by omega, hU4, by omega, fun r M5 r0 r1 hU5 ho5 => ?_⟩
      simp
      exact ha _ _ ⟨by omega, by omega⟩ hU5 ho5
    · have hzl : (cs.zip bs).length ≤ 3 := by simp; omega
      have e4 : M4 p2 = some (.lst (ys.map pt)) := (ho4 p2 hpu).trans hp1
      simp [e4]
      refine ⟨by have := sz (n := ys.length + 1) (by omega); omega, ?_⟩
      rw [wpB_nil]
      exact hnx xs _ _ hX ⟨_, _, _, rfl⟩ (by simp) ((hU4.upd hpu).mono (by omega)) (hL3.draw ho4).upd
  · obtain ⟨x4, x5, x6, rfl⟩ := hS
    try dsimp only
    rw [wpB_cons]
    simp [hp4]
    have hyl := hR3.length
    rw [List.length_range] at hyl hU3
    refine Fin.sub Mp.sub_del (q cs ys _ hcl hcs (fun z => ?_) (by omega) (fun p hp => ?_) ((hU3.del hpu).mono (by omega)) (ho1.trans (hL3.del hp2)))
    · rw [z, List.length_nil] at hyl; omega
    · obtain ⟨_, _, h⟩ := All2.mem hR3 p hp
      exact h
theorem close_iff : ∀ {cs bs p : List Int}, cs.length = bs.length → All2 CloseR (cs.zip bs) p → p.length = bs.length ∧ ∀ i, i < bs.length → cs.getD i 0 ≤ p.getD i 0 ∧ p.getD i 0 < cs.getD i 0 + bs.getD i 0
  | [], [], [], _, _ => ⟨rfl, fun i hi => absurd hi (Nat.not_lt_zero i)⟩
  | [], [], _ :: _, _, h => h.elim
  | _ :: _, _ :: _, [], _, h => h.elim
  | c :: cs, b :: bs, x :: p, hl, h => by
    obtain ⟨h1, h2⟩ := close_iff (cs := cs) (bs := bs) (p := p) (by simpa using hl) h.2
    refine ⟨by simp [h1], fun i hi => ?_⟩
    cases i with
    | zero => exact h.1
    | succ i => simpa using h2 i (by simpa using hi)
def cx_q_told : Ctx := ⟨[fi_repeated_loads, fi_repeated_viewer_loads], [], [], []⟩
@[simp] theorem cx_q_told_0 : cx_q_told.fs[0]? = some fi_repeated_loads := rfl
@[simp] theorem cx_q_told_1 : cx_q_told.fs[1]? = some fi_repeated_viewer_loads := rfl
def spToldQ : DSp := fun ds M Q _ => ∃ (bs : List Int) (log : List (List Int)) (times : Nat), ds = [pt bs, lg log, .int (times : Int)] ∧ RepOk bs log ∧ times ≤ 10 ^ 20 ∧ Q (.lst [.int (cbM (gM bs log 0 (log.length * times)) : Int), .int (clM (gM bs log 0 (log.length * times)) : Int)]) M
def fi_q_told : FI := ⟨"_law_told", 3, spToldQ⟩
@[simp] theorem fi_q_told_sp : fi_q_told.sp = spToldQ := rfl
theorem wp_q_told {E : EX} {ds : List D} {M : Mp} {Q : QE} {E' : XD → Mp → Prop} (h : spToldQ ds M Q E') : wpB cx_q_told E b_q_told (endsD Q) (startD mc_q_told.N ds) M := by
  obtain ⟨bs, log, times, rfl, hR, ht, q⟩ := h
  rw [show startD mc_q_told.N [pt bs, lg log, .int (times : Int)] = [some (pt bs), some (lg log), some (.int (times : Int))] from rfl, b_q_told, wpB_cons]
  simp
  refine ⟨bs, log, times, rfl, hR, ht, ?_⟩
  refine ⟨bs, log, times, rfl, hR, ht, by decide, ?_⟩
  exact Fin.same q
theorem show_two {a b : Int} (h1 : a.natAbs < 10 ^ 25) (h2 : b.natAbs < 10 ^ 25) : ShowOk (.lst [.int a, .int b]) := by
  refine (Shw.lst (m := 25) (n := 2) (k := 0) (b := 0) (fun d hd => ?_) (by simp)).ok (by decide) (by decide) (by decide)
  simp at hd
  rcases hd with rfl | rfl
  · exact Shw.int (by decide) h1 (by decide)
  · exact Shw.int (by decide) h2 (by decide)
theorem cmp_eqlst {a b : List Int} {M : Mp} {Q : QE} (h : a = b) (q : Q (.bl true) M) : cmpD .Eq (.lst (ils a)) (.lst (ils b)) M Q := by
  subst h
  obtain ⟨h1, h2, h3⟩ := lay_ils a
  have ok : (D.lst (ils a)).ok := ok_lst h1 (by omega) h3
  have hl : (D.lst (ils a)).py.canLay0 = true := by simp only [D.py, PyData.canLay0]; exact h1
  refine ⟨ok, ok, ?_⟩
  rw [show eqB (.lst (ils a)) (.lst (ils a)) = true from PySem.SeqAt.eqv_refl _ hl]; exact q
def two (a b : Int) : D := .lst [.int a, .int b]
def cx_q_right : Ctx := ⟨[fi_q_close, fi_take, fi_q_repeated, fi_q_told], [], [], []⟩
@[simp] theorem cx_q_right_0 : cx_q_right.fs[0]? = some fi_q_close := rfl
@[simp] theorem cx_q_right_1 : cx_q_right.fs[1]? = some fi_take := rfl
@[simp] theorem cx_q_right_2 : cx_q_right.fs[2]? = some fi_q_repeated := rfl
@[simp] theorem cx_q_right_3 : cx_q_right.fs[3]? = some fi_q_told := rfl
def spR24 : DSp := fun ds M Q _ => ∃ (u : Addr) (bs : List Int) (n : Nat), ds = [.ref u, pt bs] ∧ boxB bs = true ∧ Urn M u n ∧ n < 2 ^ 55 ∧ ∀ M', Urn M' u (n + 2000) → Only M M' u → Q (.bl true) M'
def fi_q_right : FI := ⟨"_law_right", 2, spR24⟩
@[simp] theorem fi_q_right_sp : fi_q_right.sp = spR24 := rfl
def b_tail : List CS := [.set 4 (.call 2 [.var 1, .var 3, .int 1]),
    .for (.nm 5) .seq [.tup [.int 1, .int 2, .int 3, .int 10, .var 7]] [.ifs (.cmp .NotEq (.blt .repr true [.call 3 [.var 1, .var 3, .var 5]]) (.blt .repr true [.comp true (.bin .Mult true (.var 5) (.var 10)) (.nm 10) .seq [.var 4] [10]])) [.ret (.bl false)] []],
    .ret (.cmp .Eq (.call 2 [.var 1, .var 3, .int 3]) (.comp true (.bin .Mult true (.int 3) (.var 10)) (.nm 10) .seq [.var 4] [10]))]
theorem wp_tail {E : EX} {Q : QE} {bs : List Int} {log : List (List Int)} {g : Nat} {x0 x2 x4 x5 x6 x8 x9 x10 x11 x12 : Option D} {M : Mp} (hR : RepOk bs log) (hL : LogV bs log) (hl : log.length ≤ 31) (hb : Bd bs log 0 log.length) (hg : g ≤ 10 ^ 18) (q : Fin Q (.bl true) M) :
    wpB cx_q_right E b_tail (endsD Q) [x0, some (pt bs), x2, some (lg log), x4, x5, x6, some (.int (g : Int)), x8, x9, x10, x11, x12] M := by
  obtain ⟨P, hP⟩ : ∃ P, P = cbM (gM bs log 0 log.length) := ⟨_, rfl⟩
  obtain ⟨L, hL'⟩ : ∃ L, L = clM (gM bs log 0 log.length) := ⟨_, rfl⟩
  have hc : ∀ T, cbM (gM bs log 0 (log.length * T)) = T * P ∧ clM (gM bs log 0 (log.length * T)) = T * L := fun T => by rw [hP, hL']; exact far_counts hL hb T
  have hPb : P ≤ 31 := by rw [hP]; exact Nat.le_trans (cb_le hL _ _) hl
  have hLb : L ≤ 31 := by rw [hL']; exact Nat.le_trans (cl_le hL _ _) hl
  rw [b_tail, wpB_cons]
  simp
  refine ⟨bs, log, 1, rfl, hR, by decide, by omega, by omega, ?_⟩
  rw [(hc 1).1, (hc 1).2, Nat.one_mul, Nat.one_mul]
  try dsimp only
  have comp : ∀ (T : Nat) (M1 : Mp) (c : Addr) (Q' : QE) (ρ : DSt) (ok : Mp → Prop) (turn : D → Mp → QE → (Mp → Prop) → Prop), M1 c = none → (∀ M', ok M') → (∀ (n : Int) acc (add : QE) (skip : Mp → Prop), n.natAbs ≤ 31 → add (.int ((T : Int) * n)) (M1.upd c (.lst acc)) → turn (.int n) (M1.upd c (.lst acc)) add skip) → Q' (.lst [.int ((T * P : Nat) : Int), .int ((T * L : Nat) : Int)]) M1 → cmpL true ok turn c Q' [.int (P : Int), .int (L : Int)] (M1.upd c (.lst [])) := by
    intro T M1 c Q' ρ ok turn h1 h2 h3 h4
    have : [D.int (P : Int), D.int (L : Int)] = [(P : Int), (L : Int)].map D.int := rfl
    rw [this]
    refine cmpL_mapf D.int (fun n => D.int ((T : Int) * n)) h1 (by simp) h2 (fun n hn acc add skip ha => h3 n acc add skip ?_ ha) ?_
    · simp at hn
      rcases hn with rfl | rfl <;> omega
    · simp at h4 ⊢
      exact h4
  rw [wpB_cons]
  simp [itD]
  refine ⟨by decide, ?_⟩
  refine forD_keep (L := [1, 2, 3, 10, g]) (fun (t : Nat) => D.int (t : Int)) (fun ρ => ∃ x5 x10, ρ = [x0, some (pt bs), x2, some (lg log), some (.lst [.int (P : Int), .int (L : Int)]), x5, x6, some (.int (g : Int)), x8, x9, x10, x11, x12]) (fun _ => True.intro) (fun t ht ρ hS nx hnx => ?_) (fun ρ hS => ?_) ⟨_, _, rfl⟩
  · obtain ⟨x5, x10, rfl⟩ := hS
    have htb : t ≤ 10 ^ 18 := by
      simp at ht
      rcases ht with rfl | rfl | rfl | rfl | rfl <;> omega
    have b1 : t * P ≤ 10 ^ 18 * 31 := Nat.mul_le_mul htb hPb
    have b2 : t * L ≤ 10 ^ 18 * 31 := Nat.mul_le_mul htb hLb
    have hsh := show_two (a := ((t * P : Nat) : Int)) (b := ((t * L : Nat) : Int)) (by omega) (by omega)
    simp
    rw [wpB_cons]
    simp
    refine ⟨bs, log, t, rfl, hR, by omega, ?_⟩
    rw [(hc t).1, (hc t).2]
    refine ⟨hsh, ?_⟩
    simp [itD]
    intro c hc2
    refine comp t M c _ [] _ _ hc2 (fun _ => True.intro) (fun n acc add skip hn ha => ?_) ?_
    · simp [turnC, wipeD]
      exact ⟨mulx (by omega) (by omega), ha⟩
    refine ⟨hsh, ?_⟩
    simp
    rw [wpB_nil]
    try dsimp only
    rw [wpB_nil]
    exact hnx _ ⟨_, _, rfl⟩
  · obtain ⟨x5, x10, rfl⟩ := hS
    try dsimp only
    rw [wpB_cons]
    simp
    refine ⟨bs, log, 3, rfl, hR, by decide, by omega, by omega, ?_⟩
    rw [(hc 3).1, (hc 3).2]
    simp [itD]
    intro c hc2
    refine comp 3 M c _ [] _ _ hc2 (fun _ => True.intro) (fun n acc add skip hn ha => ?_) ?_
    · simp [turnC, wipeD]
      exact ⟨mulx (by omega) (by omega), ha⟩
    refine cmp_eqlst (a := [((3 * P : Nat) : Int), ((3 * L : Nat) : Int)]) (b := [((3 * P : Nat) : Int), ((3 * L : Nat) : Int)]) rfl ?_
    exact q
theorem wp_q_right {E : EX} {ds : List D} {M : Mp} {Q : QE} {E' : XD → Mp → Prop} (h : spR24 ds M Q E') : wpB cx_q_right E b_q_right (endsD Q) (startD mc_q_right.N ds) M := by
  obtain ⟨u, bs, n, rfl, hbox, hU, hn, q⟩ := h
  obtain ⟨c0, c1, c2⟩ := box_len hbox
  have hb0 : bs ≠ [] := fun z => by rw [z, List.length_nil] at c0; omega
  rw [show startD mc_q_right.N [.ref u, pt bs] = some (.ref u) :: some (pt bs) :: List.replicate 11 none from rfl, b_q_right, wpB_cons]
  simp
  refine ⟨u, bs, n, rfl, c1, fun b h => by have := c2 b h; omega, hU, by omega, fun cs log M1 hcl hcs hl0 hll hlog hU1 ho1 => ?_⟩
  refine ⟨.of (by decide) 4 (by decide) (by decide), u, 1000, _, rfl, by decide, by decide, hU1, by omega, fun r M2 r0 r1 hU2 ho2 => ?_⟩
  obtain ⟨g, hg, hg1, hg2⟩ : ∃ g : Nat, (1000000000000000000 : Int) - r = (g : Int) ∧ 1 ≤ g ∧ g ≤ 10 ^ 18 := ⟨(1000000000000000000 - r).toNat, by omega, by omega, by omega⟩
  have hbb : ∀ b ∈ bs, 1 ≤ b := fun b h => (c2 b h).1
  have hcb : ∀ i, i < bs.length → ((cs.getD i 0).natAbs : Int) ≤ 10 ^ 11 ∧ 1 ≤ bs.getD i 0 ∧ bs.getD i 0 ≤ 10 ^ 9 := fun i hi => by
    have h1 := hcs (cs.getD i 0) (by rw [List.getD_eq_getElem?_getD, List.getElem?_eq_getElem (show i < cs.length by omega)]; exact List.getElem_mem _)
    have h2 := c2 (bs.getD i 0) (by rw [List.getD_eq_getElem?_getD, List.getElem?_eq_getElem hi]; exact List.getElem_mem _)
    exact ⟨h1, by omega, by omega⟩
  have hlp : ∀ p ∈ log, p.length = bs.length ∧ ∀ i, i < bs.length → cs.getD i 0 ≤ p.getD i 0 ∧ p.getD i 0 < cs.getD i 0 + bs.getD i 0 := fun p hp => close_iff hcl (hlog p hp)
  have posok : ∀ p : List Int, p.length = bs.length → (∀ i, i < bs.length → cs.getD i 0 ≤ p.getD i 0 ∧ p.getD i 0 < cs.getD i 0 + 2 * bs.getD i 0) → PosOk p := fun p hp h x hx => by
    obtain ⟨i, hi, rfl⟩ := List.mem_iff_getElem.mp hx
    have h1 := h i (by omega)
    have h2 := hcb i (by omega)
    rw [List.getD_eq_getElem?_getD (l := p), List.getElem?_eq_getElem hi] at h1
    simp only [Option.getD_some] at h1
    omega
  have hR : RepOk bs log := ⟨hbb, hb0, by omega, by omega, fun p hp => ⟨(hlp p hp).1, posok p (hlp p hp).1 fun i hi => by have h1 := (hlp p hp).2 i hi; have h2 := hcb i hi; omega⟩⟩
  have hL : LogV bs log := ⟨hbb, hb0, hl0, hR.p⟩
  have hfit : fitsH bs (wideH log) = true := (fits_wide hl0 fun p hp => (hlp p hp).1).mpr fun i hi p hp q hq => by
    have h1 := (hlp p hp).2 i hi
    have h2 := (hlp q hq).2 i hi
    omega
  obtain ⟨L, hLc⟩ : ∃ L, L = clM (gM bs log 0 log.length) := ⟨_, rfl⟩
  have hone : ∀ T, 1 ≤ T → cbM (gM bs log 0 (log.length * T)) = 1 ∧ clM (gM bs log 0 (log.length * T)) = L := fun T hT => by rw [hLc]; exact one_counts hL hfit hT
  have hLb : L ≤ 30 := by rw [hLc]; exact Nat.le_trans (cl_le hL _ _) hll
  have fin : Fin Q (.bl true) M2 := Fin.same (q M2 (hU2.mono (by omega)) (ho1.trans ho2))
  dsimp only
  rw [hg]
  try dsimp only
  rw [wpB_cons]
  simp
  refine ⟨bs, log, 1, rfl, hR, by decide, by omega, by omega, ?_⟩
  rw [(hone 1 (by decide)).1, (hone 1 (by decide)).2]
  refine ⟨bs, log, 2, rfl, hR, by decide, by omega, by omega, ?_⟩
  rw [(hone 2 (by decide)).1, (hone 2 (by decide)).2]
  try dsimp only
  have hsh := show_two (a := ((1 : Nat) : Int)) (b := (L : Int)) (by decide) (by omega)
  rw [wpB_cons]
  simp [itD]
  refine ⟨by decide, by decide, ?_⟩
  refine forD_keep (L := [1, 2, 3, g]) (fun (t : Nat) => D.tup [.int (t : Int), .lst [.int 1, .int (L : Int)]]) (fun ρ => ∃ x5 x9, ρ = [some (.ref u), some (pt bs), none, none, some (.lst [.int 1, .int (L : Int)]), x5, some (lg log), some (.int (g : Int)), some (.lst [.int 1, .int (L : Int)]), x9, none, none, none]) (fun _ => True.intro) (fun t ht ρ hS nx hnx => ?_) (fun ρ hS => ?_) ⟨_, _, rfl⟩
  · obtain ⟨x5, x9, rfl⟩ := hS
    have htb : 1 ≤ t ∧ t ≤ 10 ^ 18 := by
      simp at ht
      rcases ht with rfl | rfl | rfl | rfl <;> omega
    simp
    rw [wpB_cons]
    simp
    refine ⟨bs, log, t, rfl, hR, by omega, ?_⟩
    rw [(hone t htb.1).1, (hone t htb.1).2]
    refine ⟨hsh, hsh, ?_⟩
    simp
    rw [wpB_nil]
    try dsimp only
    rw [wpB_nil]
    exact hnx _ ⟨_, _, rfl⟩
  · obtain ⟨x5, x9, rfl⟩ := hS
    try dsimp only
    obtain ⟨p0, r0', e0⟩ : ∃ p0 r0, log = p0 :: r0 := by
      cases hh : log with
      | nil => exact absurd hh hl0
      | cons p r => exact ⟨p, r, rfl⟩
    have hp0 := hlp p0 (by rw [e0]; exact List.mem_cons_self)
    have ea : atI (log.map pt) 0 = some (pt p0) := by rw [e0]; exact atI_z
    obtain ⟨far, hfar⟩ : ∃ far, far = (p0.zip bs).map fun t => t.1 + t.2 := ⟨_, rfl⟩
    have hfl : far.length = bs.length := by rw [hfar]; simp; omega
    have hfg : ∀ i, i < bs.length → far.getD i 0 = p0.getD i 0 + bs.getD i 0 := fun i hi => by
      rw [hfar]
      simp [List.getD_eq_getElem?_getD, List.getElem?_eq_getElem hi, List.getElem?_eq_getElem (show i < p0.length by omega), List.getElem?_eq_getElem (show i < (p0.zip bs).length by simp; omega)]
    rw [wpB_cons]
    simp [itD, ea]
    rw [show ((p0.map D.int).zip (bs.map D.int)) = (ils p0).zip (ils bs) from rfl, zip_ils]
    intro c hc
    refine cmpL_mapf (fun t : Int × Int => D.tup [.int t.1, .int t.2]) (fun t => D.int (t.1 + t.2)) hc (by simp; omega) (fun _ => True.intro) (fun t ht acc add skip ha => ?_) ?_
    · simp [turnC, wipeD]; exact ha
    have ef : (p0.zip bs).map (fun t => D.int (t.1 + t.2)) = ils far := by rw [hfar]; simp [ils]
    simp
    rw [ef, wpB_cons]
    simp
    have hs : sizeLine = 16777216 := by decide
    refine ⟨by decide, by omega, ?_⟩
    rw [show D.tup (log.map pt ++ [pt far]) = lg (log ++ [far]) by simp]
    have hR2 : RepOk bs (log ++ [far]) := ⟨hbb, hb0, by omega, by simp; omega, fun p hp => by
      rcases List.mem_append.mp hp with hp | hp
      · exact hR.p p hp
      · rw [List.mem_singleton] at hp
        rw [hp]
        exact ⟨hfl, posok far hfl fun i hi => by have h1 := hp0.2 i hi; have h2 := hcb i hi; rw [hfg i hi]; omega⟩⟩
    have hL2 : LogV bs (log ++ [far]) := ⟨hbb, hb0, by simp, hR2.p⟩
    have hBd : Bd bs (log ++ [far]) 0 (log ++ [far]).length := far_begins hL2 ⟨log, rfl⟩ (p0 := p0) (by rw [e0]; rfl) ⟨0, c0, by rw [hfg 0 c0]; omega⟩
    exact wp_tail hR2 hL2 (by simp; omega) hBd hg2 fin
def cx_law : Ctx := ⟨[fi_urn, fi_q_right, fi_box, fi_pick], [], [], []⟩
@[simp] theorem cx_law_0 : cx_law.fs[0]? = some fi_urn := rfl
@[simp] theorem cx_law_1 : cx_law.fs[1]? = some fi_q_right := rfl
@[simp] theorem cx_law_2 : cx_law.fs[2]? = some fi_box := rfl
@[simp] theorem cx_law_3 : cx_law.fs[3]? = some fi_pick := rfl
theorem wp_law {E : EX} {ds : List D} {M : Mp} {Q : QE} {E' : XD → Mp → Prop} (h : spLaw ds M Q E') : wpB cx_law E b_law (endsD Q) (startD mc_law.N ds) M := by
  obtain ⟨ns, rfl, hl, q⟩ := h
  rw [show startD mc_law.N [.scr ns] = [some (.scr ns), none, none, none] from rfl, b_law, wpB_cons]
  simp [itD]
  have hr3 := rng3 ns.length
  refine ⟨⟨by omega, by omega⟩, ?_⟩
  refine forD_pre (fun (i : Nat) => D.int (i : Int)) (fun _ ρ _ => ∃ x1 x2 x3, ρ = [some (.scr ns), x1, x2, x3]) (fun _ => True.intro) (fun pre j post ρ M1 e hI nx hnx => ?_) (fun ρ M1 hI => ?_) ⟨_, _, _, rfl⟩
  · obtain ⟨x1, x2, x3, rfl⟩ := hI
    have hj : j < 100 := by
      have this : j ∈ pre ++ j :: post := by simp
      rw [e, List.mem_range] at this
      omega
    simp
    rw [wpB_cons]
    simp
    refine ⟨ns, j, rfl, by omega, by omega, fun u M2 hu hU ho => ?_⟩
    try dsimp only
    rw [wpB_cons]
    simp [itD]
    refine ⟨⟨by omega, by omega⟩, ?_⟩
    refine forD_pre (L := List.range 6) (fun (i : Nat) => D.int (i : Int)) (fun pre ρ M' => (∃ x3, ρ = [some (.scr ns), some (.int j), some (.ref u), x3]) ∧ Urn M' u (7000 * pre.length)) (fun _ => True.intro) (fun pre i post ρ M3 e3 hI nx3 hnx3 => ?_) (fun ρ M3 hI => ?_) ⟨⟨_, rfl⟩, hU⟩
    · obtain ⟨⟨x3, rfl⟩, hU3⟩ := hI
      have hp6 : pre.length < 6 := by
        have := congrArg List.length e3
        simp at this; omega
      simp
      rw [wpB_cons]
      simp
      refine ⟨.of (by decide) 4 (by decide) (by decide), by decide, u, _, _, _, rfl, .inl rfl, by simp, by simp, hU3, by omega, fun d M4 hd hU4 ho4 => ?_⟩
      obtain ⟨mo, rfl, hm1, hm2⟩ : ∃ mo : Int, d = .int mo ∧ 1 ≤ mo ∧ mo ≤ 1000000000 := by
        simp at hd
        rcases hd with rfl | rfl | rfl <;> exact ⟨_, rfl, by decide, by decide⟩
      refine ⟨u, 3, mo, _, rfl, by decide, by decide, hm1, by omega, hU4, by omega, fun bs M5 b0 bl bb hU5 ho5 => ?_⟩
      refine ⟨u, bs, _, rfl, box_of b0 bl hm2 bb, hU5, by omega, fun M6 hU6 ho6 => ?_⟩
      simp
      rw [wpB_nil]
      try dsimp only
      rw [wpB_nil]
      exact hnx3 _ _ ⟨⟨_, rfl⟩, hU6.mono (by simp; omega)⟩
    · obtain ⟨⟨x3, rfl⟩, hU3⟩ := hI
      try dsimp only
      rw [wpB_nil]
      exact hnx _ _ ⟨_, _, _, rfl⟩
  · obtain ⟨x1, x2, x3, rfl⟩ := hI
    try dsimp only
    rw [wpB_cons]
    simp
    exact Fin.same (q _)
end Kx
end Ow

namespace Ow
open PySem PySem.Spec PyProof.Rows L2
namespace Kx
abbrev s_covers : Stmt := PySem.Challenge.pw_onewindow_k24_one_phase_over_many_repeat.main.body.getD 1 (.Pass ⟨0, 0, 0, 0⟩)
theorem m_covers : mtB mc_covers (defScope s_covers) b_covers (defBody s_covers) = true := by decide +kernel
theorem sc_covers : FnScope mc_covers.N ["box", "place", "position"] (defScope s_covers) := ⟨rfl, rfl, rfl, by decide +kernel, rfl, by decide +kernel, by decide +kernel⟩
theorem bi_covers (kV doc pm : Value) (an : Option Addr) (cdv ct : Value) (us : List Value) (hl : us.length = 3) : bindArgs (PySem.W.fnOf "covers" "covers" (defArgs s_covers) (defBody s_covers) (defScope s_covers) .none kV doc pm an cdv ct) ⟨us, []⟩ = pure ((["box", "place", "position"] : List Str).zip us) := match us, hl with | [_, _, _], _ => rfl
abbrev s_joined : Stmt := PySem.Challenge.pw_onewindow_k24_one_phase_over_many_repeat.main.body.getD 7 (.Pass ⟨0, 0, 0, 0⟩)
theorem m_joined : mtB mc_joined (defScope s_joined) b_joined (defBody s_joined) = true := by decide +kernel
theorem sc_joined : FnScope mc_joined.N ["hull", "position"] (defScope s_joined) := ⟨rfl, rfl, rfl, by decide +kernel, rfl, by decide +kernel, by decide +kernel⟩
theorem bi_joined (kV doc pm : Value) (an : Option Addr) (cdv ct : Value) (us : List Value) (hl : us.length = 2) : bindArgs (PySem.W.fnOf "joined" "joined" (defArgs s_joined) (defBody s_joined) (defScope s_joined) .none kV doc pm an cdv ct) ⟨us, []⟩ = pure ((["hull", "position"] : List Str).zip us) := match us, hl with | [_, _], _ => rfl
abbrev s_hull_of : Stmt := PySem.Challenge.pw_onewindow_k24_one_phase_over_many_repeat.main.body.getD 8 (.Pass ⟨0, 0, 0, 0⟩)
theorem m_hull_of : mtB mc_hull_of (defScope s_hull_of) b_hull_of (defBody s_hull_of) = true := by decide +kernel
theorem sc_hull_of : FnScope mc_hull_of.N ["box", "log"] (defScope s_hull_of) := ⟨rfl, rfl, rfl, by decide +kernel, rfl, by decide +kernel, by decide +kernel⟩
theorem bi_hull_of (kV doc pm : Value) (an : Option Addr) (cdv ct : Value) (us : List Value) (hl : us.length = 2) : bindArgs (PySem.W.fnOf "hull_of" "hull_of" (defArgs s_hull_of) (defBody s_hull_of) (defScope s_hull_of) .none kV doc pm an cdv ct) ⟨us, []⟩ = pure ((["box", "log"] : List Str).zip us) := match us, hl with | [_, _], _ => rfl
abbrev s_fits : Stmt := PySem.Challenge.pw_onewindow_k24_one_phase_over_many_repeat.main.body.getD 9 (.Pass ⟨0, 0, 0, 0⟩)
theorem m_fits : mtB mc_fits (defScope s_fits) b_fits (defBody s_fits) = true := by decide +kernel
theorem sc_fits : FnScope mc_fits.N ["box", "hull"] (defScope s_fits) := ⟨rfl, rfl, rfl, by decide +kernel, rfl, by decide +kernel, by decide +kernel⟩
theorem bi_fits (kV doc pm : Value) (an : Option Addr) (cdv ct : Value) (us : List Value) (hl : us.length = 2) : bindArgs (PySem.W.fnOf "fits" "fits" (defArgs s_fits) (defBody s_fits) (defScope s_fits) .none kV doc pm an cdv ct) ⟨us, []⟩ = pure ((["box", "hull"] : List Str).zip us) := match us, hl with | [_, _], _ => rfl
abbrev s_check_fits : Stmt := PySem.Challenge.pw_onewindow_k24_one_phase_over_many_repeat.main.body.getD 10 (.Pass ⟨0, 0, 0, 0⟩)
theorem m_check_fits : mtB mc_check_fits (defScope s_check_fits) b_check_fits (defBody s_check_fits) = true := by decide +kernel
theorem sc_check_fits : FnScope mc_check_fits.N ["box", "hull"] (defScope s_check_fits) := ⟨rfl, rfl, rfl, by decide +kernel, rfl, by decide +kernel, by decide +kernel⟩
theorem bi_check_fits (kV doc pm : Value) (an : Option Addr) (cdv ct : Value) (us : List Value) (hl : us.length = 2) : bindArgs (PySem.W.fnOf "check_fits" "check_fits" (defArgs s_check_fits) (defBody s_check_fits) (defScope s_check_fits) .none kV doc pm an cdv ct) ⟨us, []⟩ = pure ((["box", "hull"] : List Str).zip us) := match us, hl with | [_, _], _ => rfl
abbrev s_places_of : Stmt := PySem.Challenge.pw_onewindow_k24_one_phase_over_many_repeat.main.body.getD 11 (.Pass ⟨0, 0, 0, 0⟩)
theorem m_places_of : mtB mc_places_of (defScope s_places_of) b_places_of (defBody s_places_of) = true := by decide +kernel
theorem sc_places_of : FnScope mc_places_of.N ["box", "hull"] (defScope s_places_of) := ⟨rfl, rfl, rfl, by decide +kernel, rfl, by decide +kernel, by decide +kernel⟩
theorem bi_places_of (kV doc pm : Value) (an : Option Addr) (cdv ct : Value) (us : List Value) (hl : us.length = 2) : bindArgs (PySem.W.fnOf "places_of" "places_of" (defArgs s_places_of) (defBody s_places_of) (defScope s_places_of) .none kV doc pm an cdv ct) ⟨us, []⟩ = pure ((["box", "hull"] : List Str).zip us) := match us, hl with | [_, _], _ => rfl
abbrev s_halving_place : Stmt := PySem.Challenge.pw_onewindow_k24_one_phase_over_many_repeat.main.body.getD 13 (.Pass ⟨0, 0, 0, 0⟩)
theorem m_halving_place : mtB mc_halving_place (defScope s_halving_place) b_halving_place (defBody s_halving_place) = true := by decide +kernel
theorem sc_halving_place : FnScope mc_halving_place.N ["box", "hull"] (defScope s_halving_place) := ⟨rfl, rfl, rfl, by decide +kernel, rfl, by decide +kernel, by decide +kernel⟩
theorem bi_halving_place (kV doc pm : Value) (an : Option Addr) (cdv ct : Value) (us : List Value) (hl : us.length = 2) : bindArgs (PySem.W.fnOf "halving_place" "halving_place" (defArgs s_halving_place) (defBody s_halving_place) (defScope s_halving_place) .none kV doc pm an cdv ct) ⟨us, []⟩ = pure ((["box", "hull"] : List Str).zip us) := match us, hl with | [_, _], _ => rfl
abbrev s_phase_from : Stmt := PySem.Challenge.pw_onewindow_k24_one_phase_over_many_repeat.main.body.getD 15 (.Pass ⟨0, 0, 0, 0⟩)
theorem m_phase_from : mtB mc_phase_from (defScope s_phase_from) b_phase_from (defBody s_phase_from) = true := by decide +kernel
theorem sc_phase_from : FnScope mc_phase_from.N ["box", "log", "first", "most"] (defScope s_phase_from) := ⟨rfl, rfl, rfl, by decide +kernel, rfl, by decide +kernel, by decide +kernel⟩
theorem bi_phase_from (kV doc pm : Value) (an : Option Addr) (cdv ct : Value) (us : List Value) (hl : us.length = 4) : bindArgs (PySem.W.fnOf "phase_from" "phase_from" (defArgs s_phase_from) (defBody s_phase_from) (defScope s_phase_from) .none kV doc pm an cdv ct) ⟨us, []⟩ = pure ((["box", "log", "first", "most"] : List Str).zip us) := match us, hl with | [_, _, _, _], _ => rfl
abbrev s_phases_and_loads : Stmt := PySem.Challenge.pw_onewindow_k24_one_phase_over_many_repeat.main.body.getD 16 (.Pass ⟨0, 0, 0, 0⟩)
theorem m_phases_and_loads : mtB mc_phases_and_loads (defScope s_phases_and_loads) b_phases_and_loads (defBody s_phases_and_loads) = true := by decide +kernel
theorem sc_phases_and_loads : FnScope mc_phases_and_loads.N ["box", "log", "times"] (defScope s_phases_and_loads) := ⟨rfl, rfl, rfl, by decide +kernel, rfl, by decide +kernel, by decide +kernel⟩
theorem bi_phases_and_loads (kV doc pm : Value) (an : Option Addr) (cdv ct : Value) (us : List Value) (hl : us.length = 3) : bindArgs (PySem.W.fnOf "phases_and_loads" "phases_and_loads" (defArgs s_phases_and_loads) (defBody s_phases_and_loads) (defScope s_phases_and_loads) .none kV doc pm an cdv ct) ⟨us, []⟩ = pure ((["box", "log", "times"] : List Str).zip us) := match us, hl with | [_, _, _], _ => rfl
abbrev s_repeated_loads : Stmt := PySem.Challenge.pw_onewindow_k24_one_phase_over_many_repeat.main.body.getD 17 (.Pass ⟨0, 0, 0, 0⟩)
theorem m_repeated_loads : mtB mc_repeated_loads (defScope s_repeated_loads) b_repeated_loads (defBody s_repeated_loads) = true := by decide +kernel
theorem sc_repeated_loads : FnScope mc_repeated_loads.N ["box", "log", "times"] (defScope s_repeated_loads) := ⟨rfl, rfl, rfl, by decide +kernel, rfl, by decide +kernel, by decide +kernel⟩
theorem bi_repeated_loads (kV doc pm : Value) (an : Option Addr) (cdv ct : Value) (us : List Value) (hl : us.length = 3) : bindArgs (PySem.W.fnOf "repeated_loads" "repeated_loads" (defArgs s_repeated_loads) (defBody s_repeated_loads) (defScope s_repeated_loads) .none kV doc pm an cdv ct) ⟨us, []⟩ = pure ((["box", "log", "times"] : List Str).zip us) := match us, hl with | [_, _, _], _ => rfl
abbrev s_repeated_viewer_loads : Stmt := PySem.Challenge.pw_onewindow_k24_one_phase_over_many_repeat.main.body.getD 18 (.Pass ⟨0, 0, 0, 0⟩)
theorem m_repeated_viewer_loads : mtB mc_repeated_viewer_loads (defScope s_repeated_viewer_loads) b_repeated_viewer_loads (defBody s_repeated_viewer_loads) = true := by decide +kernel
theorem sc_repeated_viewer_loads : FnScope mc_repeated_viewer_loads.N ["box", "log", "times"] (defScope s_repeated_viewer_loads) := ⟨rfl, rfl, rfl, by decide +kernel, rfl, by decide +kernel, by decide +kernel⟩
theorem bi_repeated_viewer_loads (kV doc pm : Value) (an : Option Addr) (cdv ct : Value) (us : List Value) (hl : us.length = 3) : bindArgs (PySem.W.fnOf "repeated_viewer_loads" "repeated_viewer_loads" (defArgs s_repeated_viewer_loads) (defBody s_repeated_viewer_loads) (defScope s_repeated_viewer_loads) .none kV doc pm an cdv ct) ⟨us, []⟩ = pure ((["box", "log", "times"] : List Str).zip us) := match us, hl with | [_, _, _], _ => rfl
abbrev s_q_urn : Stmt := PySem.Challenge.pw_onewindow_k24_one_phase_over_many_repeat.main.body.getD 20 (.Pass ⟨0, 0, 0, 0⟩)
theorem m_q_urn : mtB mc_q_urn (defScope s_q_urn) b_urn (defBody s_q_urn) = true := by decide +kernel
theorem sc_q_urn : FnScope mc_q_urn.N ["_law_script", "_law_k"] (defScope s_q_urn) := ⟨rfl, rfl, rfl, by decide +kernel, rfl, by decide +kernel, by decide +kernel⟩
theorem bi_q_urn (kV doc pm : Value) (an : Option Addr) (cdv ct : Value) (us : List Value) (hl : us.length = 2) : bindArgs (PySem.W.fnOf "_law_urn" "_law_urn" (defArgs s_q_urn) (defBody s_q_urn) (defScope s_q_urn) .none kV doc pm an cdv ct) ⟨us, []⟩ = pure ((["_law_script", "_law_k"] : List Str).zip us) := match us, hl with | [_, _], _ => rfl
abbrev s_q_take : Stmt := PySem.Challenge.pw_onewindow_k24_one_phase_over_many_repeat.main.body.getD 21 (.Pass ⟨0, 0, 0, 0⟩)
theorem m_q_take : mtB mc_q_take (defScope s_q_take) b_take (defBody s_q_take) = true := by decide +kernel
theorem sc_q_take : FnScope mc_q_take.N ["_law_urn_here", "_law_many"] (defScope s_q_take) := ⟨rfl, rfl, rfl, by decide +kernel, rfl, by decide +kernel, by decide +kernel⟩
theorem bi_q_take (kV doc pm : Value) (an : Option Addr) (cdv ct : Value) (us : List Value) (hl : us.length = 2) : bindArgs (PySem.W.fnOf "_law_take" "_law_take" (defArgs s_q_take) (defBody s_q_take) (defScope s_q_take) .none kV doc pm an cdv ct) ⟨us, []⟩ = pure ((["_law_urn_here", "_law_many"] : List Str).zip us) := match us, hl with | [_, _], _ => rfl
abbrev s_q_pick : Stmt := PySem.Challenge.pw_onewindow_k24_one_phase_over_many_repeat.main.body.getD 22 (.Pass ⟨0, 0, 0, 0⟩)
theorem m_q_pick : mtB mc_q_pick (defScope s_q_pick) b_pick (defBody s_q_pick) = true := by decide +kernel
theorem sc_q_pick : FnScope mc_q_pick.N ["_law_urn_here", "_law_items"] (defScope s_q_pick) := ⟨rfl, rfl, rfl, by decide +kernel, rfl, by decide +kernel, by decide +kernel⟩
theorem bi_q_pick (kV doc pm : Value) (an : Option Addr) (cdv ct : Value) (us : List Value) (hl : us.length = 2) : bindArgs (PySem.W.fnOf "_law_pick" "_law_pick" (defArgs s_q_pick) (defBody s_q_pick) (defScope s_q_pick) .none kV doc pm an cdv ct) ⟨us, []⟩ = pure ((["_law_urn_here", "_law_items"] : List Str).zip us) := match us, hl with | [_, _], _ => rfl
abbrev s_q_box : Stmt := PySem.Challenge.pw_onewindow_k24_one_phase_over_many_repeat.main.body.getD 23 (.Pass ⟨0, 0, 0, 0⟩)
theorem m_q_box : mtB mc_q_box (defScope s_q_box) b_box (defBody s_q_box) = true := by decide +kernel
theorem sc_q_box : FnScope mc_q_box.N ["_law_urn_here", "_law_axes", "_law_most"] (defScope s_q_box) := ⟨rfl, rfl, rfl, by decide +kernel, rfl, by decide +kernel, by decide +kernel⟩
theorem bi_q_box (kV doc pm : Value) (an : Option Addr) (cdv ct : Value) (us : List Value) (hl : us.length = 3) : bindArgs (PySem.W.fnOf "_law_box" "_law_box" (defArgs s_q_box) (defBody s_q_box) (defScope s_q_box) .none kV doc pm an cdv ct) ⟨us, []⟩ = pure ((["_law_urn_here", "_law_axes", "_law_most"] : List Str).zip us) := match us, hl with | [_, _, _], _ => rfl
abbrev s_q_covers : Stmt := PySem.Challenge.pw_onewindow_k24_one_phase_over_many_repeat.main.body.getD 24 (.Pass ⟨0, 0, 0, 0⟩)
theorem m_q_covers : mtB mc_q_covers (defScope s_q_covers) b_q_covers (defBody s_q_covers) = true := by decide +kernel
theorem sc_q_covers : FnScope mc_q_covers.N ["_law_box_here", "_law_place", "_law_position"] (defScope s_q_covers) := ⟨rfl, rfl, rfl, by decide +kernel, rfl, by decide +kernel, by decide +kernel⟩
theorem bi_q_covers (kV doc pm : Value) (an : Option Addr) (cdv ct : Value) (us : List Value) (hl : us.length = 3) : bindArgs (PySem.W.fnOf "_law_covers" "_law_covers" (defArgs s_q_covers) (defBody s_q_covers) (defScope s_q_covers) .none kV doc pm an cdv ct) ⟨us, []⟩ = pure ((["_law_box_here", "_law_place", "_law_position"] : List Str).zip us) := match us, hl with | [_, _, _], _ => rfl
abbrev s_q_run : Stmt := PySem.Challenge.pw_onewindow_k24_one_phase_over_many_repeat.main.body.getD 25 (.Pass ⟨0, 0, 0, 0⟩)
theorem m_q_run : mtB mc_q_run (defScope s_q_run) b_q_run (defBody s_q_run) = true := by decide +kernel
theorem sc_q_run : FnScope mc_q_run.N ["_law_box_here", "_law_log"] (defScope s_q_run) := ⟨rfl, rfl, rfl, by decide +kernel, rfl, by decide +kernel, by decide +kernel⟩
theorem bi_q_run (kV doc pm : Value) (an : Option Addr) (cdv ct : Value) (us : List Value) (hl : us.length = 2) : bindArgs (PySem.W.fnOf "_law_run" "_law_run" (defArgs s_q_run) (defBody s_q_run) (defScope s_q_run) .none kV doc pm an cdv ct) ⟨us, []⟩ = pure ((["_law_box_here", "_law_log"] : List Str).zip us) := match us, hl with | [_, _], _ => rfl
abbrev s_q_numbers : Stmt := PySem.Challenge.pw_onewindow_k24_one_phase_over_many_repeat.main.body.getD 26 (.Pass ⟨0, 0, 0, 0⟩)
theorem m_q_numbers : mtB mc_q_numbers (defScope s_q_numbers) b_q_numbers (defBody s_q_numbers) = true := by decide +kernel
theorem sc_q_numbers : FnScope mc_q_numbers.N ["_law_told_here", "_law_nth"] (defScope s_q_numbers) := ⟨rfl, rfl, rfl, by decide +kernel, rfl, by decide +kernel, by decide +kernel⟩
theorem bi_q_numbers (kV doc pm : Value) (an : Option Addr) (cdv ct : Value) (us : List Value) (hl : us.length = 2) : bindArgs (PySem.W.fnOf "_law_numbers" "_law_numbers" (defArgs s_q_numbers) (defBody s_q_numbers) (defScope s_q_numbers) .none kV doc pm an cdv ct) ⟨us, []⟩ = pure ((["_law_told_here", "_law_nth"] : List Str).zip us) := match us, hl with | [_, _], _ => rfl
abbrev s_q_repeated : Stmt := PySem.Challenge.pw_onewindow_k24_one_phase_over_many_repeat.main.body.getD 27 (.Pass ⟨0, 0, 0, 0⟩)
theorem m_q_repeated : mtB mc_q_repeated (defScope s_q_repeated) b_q_repeated (defBody s_q_repeated) = true := by decide +kernel
theorem sc_q_repeated : FnScope mc_q_repeated.N ["_law_box_here", "_law_log", "_law_times"] (defScope s_q_repeated) := ⟨rfl, rfl, rfl, by decide +kernel, rfl, by decide +kernel, by decide +kernel⟩
theorem bi_q_repeated (kV doc pm : Value) (an : Option Addr) (cdv ct : Value) (us : List Value) (hl : us.length = 3) : bindArgs (PySem.W.fnOf "_law_repeated" "_law_repeated" (defArgs s_q_repeated) (defBody s_q_repeated) (defScope s_q_repeated) .none kV doc pm an cdv ct) ⟨us, []⟩ = pure ((["_law_box_here", "_law_log", "_law_times"] : List Str).zip us) := match us, hl with | [_, _, _], _ => rfl
abbrev s_q_inside : Stmt := PySem.Challenge.pw_onewindow_k24_one_phase_over_many_repeat.main.body.getD 28 (.Pass ⟨0, 0, 0, 0⟩)
theorem m_q_inside : mtB mc_q_inside (defScope s_q_inside) b_q_inside (defBody s_q_inside) = true := by decide +kernel
theorem sc_q_inside : FnScope mc_q_inside.N ["_law_urn_here", "_law_size"] (defScope s_q_inside) := ⟨rfl, rfl, rfl, by decide +kernel, rfl, by decide +kernel, by decide +kernel⟩
theorem bi_q_inside (kV doc pm : Value) (an : Option Addr) (cdv ct : Value) (us : List Value) (hl : us.length = 2) : bindArgs (PySem.W.fnOf "_law_inside" "_law_inside" (defArgs s_q_inside) (defBody s_q_inside) (defScope s_q_inside) .none kV doc pm an cdv ct) ⟨us, []⟩ = pure ((["_law_urn_here", "_law_size"] : List Str).zip us) := match us, hl with | [_, _], _ => rfl
abbrev s_q_close : Stmt := PySem.Challenge.pw_onewindow_k24_one_phase_over_many_repeat.main.body.getD 29 (.Pass ⟨0, 0, 0, 0⟩)
theorem m_q_close : mtB mc_q_close (defScope s_q_close) b_q_close (defBody s_q_close) = true := by decide +kernel
theorem sc_q_close : FnScope mc_q_close.N ["_law_urn_here", "_law_box_here"] (defScope s_q_close) := ⟨rfl, rfl, rfl, by decide +kernel, rfl, by decide +kernel, by decide +kernel⟩
theorem bi_q_close (kV doc pm : Value) (an : Option Addr) (cdv ct : Value) (us : List Value) (hl : us.length = 2) : bindArgs (PySem.W.fnOf "_law_close" "_law_close" (defArgs s_q_close) (defBody s_q_close) (defScope s_q_close) .none kV doc pm an cdv ct) ⟨us, []⟩ = pure ((["_law_urn_here", "_law_box_here"] : List Str).zip us) := match us, hl with | [_, _], _ => rfl
abbrev s_q_told : Stmt := PySem.Challenge.pw_onewindow_k24_one_phase_over_many_repeat.main.body.getD 30 (.Pass ⟨0, 0, 0, 0⟩)
theorem m_q_told : mtB mc_q_told (defScope s_q_told) b_q_told (defBody s_q_told) = true := by decide +kernel
theorem sc_q_told : FnScope mc_q_told.N ["_law_box_here", "_law_log", "_law_times"] (defScope s_q_told) := ⟨rfl, rfl, rfl, by decide +kernel, rfl, by decide +kernel, by decide +kernel⟩
theorem bi_q_told (kV doc pm : Value) (an : Option Addr) (cdv ct : Value) (us : List Value) (hl : us.length = 3) : bindArgs (PySem.W.fnOf "_law_told" "_law_told" (defArgs s_q_told) (defBody s_q_told) (defScope s_q_told) .none kV doc pm an cdv ct) ⟨us, []⟩ = pure ((["_law_box_here", "_law_log", "_law_times"] : List Str).zip us) := match us, hl with | [_, _, _], _ => rfl
abbrev s_q_right : Stmt := PySem.Challenge.pw_onewindow_k24_one_phase_over_many_repeat.main.body.getD 31 (.Pass ⟨0, 0, 0, 0⟩)
theorem m_q_right : mtB mc_q_right (defScope s_q_right) b_q_right (defBody s_q_right) = true := by decide +kernel
theorem sc_q_right : FnScope mc_q_right.N ["_law_urn_here", "_law_box_here"] (defScope s_q_right) := ⟨rfl, rfl, rfl, by decide +kernel, rfl, by decide +kernel, by decide +kernel⟩
theorem bi_q_right (kV doc pm : Value) (an : Option Addr) (cdv ct : Value) (us : List Value) (hl : us.length = 2) : bindArgs (PySem.W.fnOf "_law_right" "_law_right" (defArgs s_q_right) (defBody s_q_right) (defScope s_q_right) .none kV doc pm an cdv ct) ⟨us, []⟩ = pure ((["_law_urn_here", "_law_box_here"] : List Str).zip us) := match us, hl with | [_, _], _ => rfl
abbrev s_law : Stmt := PySem.Challenge.pw_onewindow_k24_one_phase_over_many_repeat.main.body.getD 32 (.Pass ⟨0, 0, 0, 0⟩)
theorem m_law : mtB mc_law (defScope s_law) b_law (defBody s_law) = true := by decide +kernel
theorem sc_law : FnScope mc_law.N ["_law_script"] (defScope s_law) := ⟨rfl, rfl, rfl, by decide +kernel, rfl, by decide +kernel, by decide +kernel⟩
theorem bi_law (kV doc pm : Value) (an : Option Addr) (cdv ct : Value) (us : List Value) (hl : us.length = 1) : bindArgs (PySem.W.fnOf "law" "law" (defArgs s_law) (defBody s_law) (defScope s_law) .none kV doc pm an cdv ct) ⟨us, []⟩ = pure ((["_law_script"] : List Str).zip us) := match us, hl with | [_], _ => rfl
structure Facts (K : PySem.W.Frag) (mg : Str → Option Value) : Prop where
  d_covers : DefM K mg "covers" s_covers ["box", "place", "position"]
  d_joined : DefM K mg "joined" s_joined ["hull", "position"]
  d_hull_of : DefM K mg "hull_of" s_hull_of ["box", "log"]
  d_fits : DefM K mg "fits" s_fits ["box", "hull"]
  d_check_fits : DefM K mg "check_fits" s_check_fits ["box", "hull"]
  d_places_of : DefM K mg "places_of" s_places_of ["box", "hull"]
  d_halving_place : DefM K mg "halving_place" s_halving_place ["box", "hull"]
  d_phase_from : DefM K mg "phase_from" s_phase_from ["box", "log", "first", "most"]
  d_phases_and_loads : DefM K mg "phases_and_loads" s_phases_and_loads ["box", "log", "times"]
  d_repeated_loads : DefM K mg "repeated_loads" s_repeated_loads ["box", "log", "times"]
  d_repeated_viewer_loads : DefM K mg "repeated_viewer_loads" s_repeated_viewer_loads ["box", "log", "times"]
  d_q_urn : DefM K mg "_law_urn" s_q_urn ["_law_script", "_law_k"]
  d_q_take : DefM K mg "_law_take" s_q_take ["_law_urn_here", "_law_many"]
  d_q_pick : DefM K mg "_law_pick" s_q_pick ["_law_urn_here", "_law_items"]
  d_q_box : DefM K mg "_law_box" s_q_box ["_law_urn_here", "_law_axes", "_law_most"]
  d_q_covers : DefM K mg "_law_covers" s_q_covers ["_law_box_here", "_law_place", "_law_position"]
  d_q_run : DefM K mg "_law_run" s_q_run ["_law_box_here", "_law_log"]
  d_q_numbers : DefM K mg "_law_numbers" s_q_numbers ["_law_told_here", "_law_nth"]
  d_q_repeated : DefM K mg "_law_repeated" s_q_repeated ["_law_box_here", "_law_log", "_law_times"]
  d_q_inside : DefM K mg "_law_inside" s_q_inside ["_law_urn_here", "_law_size"]
  d_q_close : DefM K mg "_law_close" s_q_close ["_law_urn_here", "_law_box_here"]
  d_q_told : DefM K mg "_law_told" s_q_told ["_law_box_here", "_law_log", "_law_times"]
  d_q_right : DefM K mg "_law_right" s_q_right ["_law_urn_here", "_law_box_here"]
  d_law : DefM K mg "law" s_law ["_law_script"]
  blt : ∀ x ∈ bltNames, mg x = none
section
variable {P : Program} {w : World} {K : PySem.W.Frag} {h : Heap} {mg : Str → Option Value} {base : Heap}
theorem law_fn (KX : K.In h) (F : Facts K mg) (sk : SysB base) : FnM P w K mg base 20 fi_law := by
  have f_q_urn : FnM P w K mg base 1 fi_urn := def_ok (k := 0) (mc := mc_q_urn) (C := ⟨[], [], [], []⟩) ⟨rfl, rfl, rfl, rfl, F.blt, sk, fok_nil, gok_nil, aok_nil, mok_nil⟩ F.d_q_urn sc_q_urn rfl m_q_urn (fun ds M Q E h => by first | (obtain ⟨e, _⟩ := h; subst e; rfl) | (obtain ⟨_, e, _⟩ := h; subst e; rfl) | (obtain ⟨_, _, e, _⟩ := h; subst e; rfl) | (obtain ⟨_, _, _, e, _⟩ := h; subst e; rfl) | (obtain ⟨_, _, _, _, e, _⟩ := h; subst e; rfl) | (obtain ⟨_, _, _, _, _, e, _⟩ := h; subst e; rfl) | (obtain ⟨_, _, _, _, _, _, e, _⟩ := h; subst e; rfl) | (obtain ⟨_, _, _, _, _, _, _, e, _⟩ := h; subst e; rfl) | (obtain ⟨_, _, _, _, _, _, _, _, e, _⟩ := h; subst e; rfl)) (fun ds M Q E h => wp_urn (E' := E) h)
  have f_q_take : FnM P w K mg base 1 fi_take := def_ok (k := 0) (mc := mc_q_take) (C := ⟨[], [], [], []⟩) ⟨rfl, rfl, rfl, rfl, F.blt, sk, fok_nil, gok_nil, aok_nil, mok_nil⟩ F.d_q_take sc_q_take rfl m_q_take (fun ds M Q E h => by first | (obtain ⟨e, _⟩ := h; subst e; rfl) | (obtain ⟨_, e, _⟩ := h; subst e; rfl) | (obtain ⟨_, _, e, _⟩ := h; subst e; rfl) | (obtain ⟨_, _, _, e, _⟩ := h; subst e; rfl) | (obtain ⟨_, _, _, _, e, _⟩ := h; subst e; rfl) | (obtain ⟨_, _, _, _, _, e, _⟩ := h; subst e; rfl) | (obtain ⟨_, _, _, _, _, _, e, _⟩ := h; subst e; rfl) | (obtain ⟨_, _, _, _, _, _, _, e, _⟩ := h; subst e; rfl) | (obtain ⟨_, _, _, _, _, _, _, _, e, _⟩ := h; subst e; rfl)) (fun ds M Q E h => wp_take (E' := E) h)
  have f_q_pick : FnM P w K mg base 2 fi_pick := def_ok (k := 1) (mc := mc_q_pick) (C := cx_pick) ⟨rfl, rfl, rfl, rfl, F.blt, sk, (fok_cons (f_q_take.mono (by decide)) fok_nil), gok_nil, aok_nil, mok_nil⟩ F.d_q_pick sc_q_pick rfl m_q_pick (fun ds M Q E h => by first | (obtain ⟨e, _⟩ := h; subst e; rfl) | (obtain ⟨_, e, _⟩ := h; subst e; rfl) | (obtain ⟨_, _, e, _⟩ := h; subst e; rfl) | (obtain ⟨_, _, _, e, _⟩ := h; subst e; rfl) | (obtain ⟨_, _, _, _, e, _⟩ := h; subst e; rfl) | (obtain ⟨_, _, _, _, _, e, _⟩ := h; subst e; rfl) | (obtain ⟨_, _, _, _, _, _, e, _⟩ := h; subst e; rfl) | (obtain ⟨_, _, _, _, _, _, _, e, _⟩ := h; subst e; rfl) | (obtain ⟨_, _, _, _, _, _, _, _, e, _⟩ := h; subst e; rfl)) (fun ds M Q E h => wp_pick (E' := E) h)
  have f_q_inside : FnM P w K mg base 3 fi_q_inside := def_ok (k := 2) (mc := mc_q_inside) (C := cx_q_inside) ⟨rfl, rfl, rfl, rfl, F.blt, sk, (fok_cons (f_q_pick.mono (by decide)) (fok_cons (f_q_take.mono (by decide)) fok_nil)), gok_nil, aok_nil, mok_nil⟩ F.d_q_inside sc_q_inside rfl m_q_inside (fun ds M Q E h => by first | (obtain ⟨e, _⟩ := h; subst e; rfl) | (obtain ⟨_, e, _⟩ := h; subst e; rfl) | (obtain ⟨_, _, e, _⟩ := h; subst e; rfl) | (obtain ⟨_, _, _, e, _⟩ := h; subst e; rfl) | (obtain ⟨_, _, _, _, e, _⟩ := h; subst e; rfl) | (obtain ⟨_, _, _, _, _, e, _⟩ := h; subst e; rfl) | (obtain ⟨_, _, _, _, _, _, e, _⟩ := h; subst e; rfl) | (obtain ⟨_, _, _, _, _, _, _, e, _⟩ := h; subst e; rfl) | (obtain ⟨_, _, _, _, _, _, _, _, e, _⟩ := h; subst e; rfl)) (fun ds M Q E h => wp_q_inside (E' := E) h)
  have f_q_close : FnM P w K mg base 4 fi_q_close := def_ok (k := 3) (mc := mc_q_close) (C := cx_q_close) ⟨rfl, rfl, rfl, rfl, F.blt, sk, (fok_cons (f_q_pick.mono (by decide)) (fok_cons (f_q_take.mono (by decide)) (fok_cons (f_q_inside.mono (by decide)) fok_nil))), gok_nil, aok_nil, mok_nil⟩ F.d_q_close sc_q_close rfl m_q_close (fun ds M Q E h => by first | (obtain ⟨e, _⟩ := h; subst e; rfl) | (obtain ⟨_, e, _⟩ := h; subst e; rfl) | (obtain ⟨_, _, e, _⟩ := h; subst e; rfl) | (obtain ⟨_, _, _, e, _⟩ := h; subst e; rfl) | (obtain ⟨_, _, _, _, e, _⟩ := h; subst e; rfl) | (obtain ⟨_, _, _, _, _, e, _⟩ := h; subst e; rfl) | (obtain ⟨_, _, _, _, _, _, e, _⟩ := h; subst e; rfl) | (obtain ⟨_, _, _, _, _, _, _, e, _⟩ := h; subst e; rfl) | (obtain ⟨_, _, _, _, _, _, _, _, e, _⟩ := h; subst e; rfl)) (fun ds M Q E h => wp_q_close (E' := E) h)
  have f_q_covers : FnM P w K mg base 1 fi_q_covers := def_ok (k := 0) (mc := mc_q_covers) (C := ⟨[], [], [], []⟩) ⟨rfl, rfl, rfl, rfl, F.blt, sk, fok_nil, gok_nil, aok_nil, mok_nil⟩ F.d_q_covers sc_q_covers rfl m_q_covers (fun ds M Q E h => by first | (obtain ⟨e, _⟩ := h; subst e; rfl) | (obtain ⟨_, e, _⟩ := h; subst e; rfl) | (obtain ⟨_, _, e, _⟩ := h; subst e; rfl) | (obtain ⟨_, _, _, e, _⟩ := h; subst e; rfl) | (obtain ⟨_, _, _, _, e, _⟩ := h; subst e; rfl) | (obtain ⟨_, _, _, _, _, e, _⟩ := h; subst e; rfl) | (obtain ⟨_, _, _, _, _, _, e, _⟩ := h; subst e; rfl) | (obtain ⟨_, _, _, _, _, _, _, e, _⟩ := h; subst e; rfl) | (obtain ⟨_, _, _, _, _, _, _, _, e, _⟩ := h; subst e; rfl)) (fun ds M Q E h => wp_q_covers (E' := E) h)
  have f_q_run : FnM P w K mg base 2 fi_q_run := def_ok (k := 1) (mc := mc_q_run) (C := cx_q_run) ⟨rfl, rfl, rfl, rfl, F.blt, sk, (fok_cons (f_q_covers.mono (by decide)) fok_nil), gok_nil, aok_nil, mok_nil⟩ F.d_q_run sc_q_run rfl m_q_run (fun ds M Q E h => by first | (obtain ⟨e, _⟩ := h; subst e; rfl) | (obtain ⟨_, e, _⟩ := h; subst e; rfl) | (obtain ⟨_, _, e, _⟩ := h; subst e; rfl) | (obtain ⟨_, _, _, e, _⟩ := h; subst e; rfl) | (obtain ⟨_, _, _, _, e, _⟩ := h; subst e; rfl) | (obtain ⟨_, _, _, _, _, e, _⟩ := h; subst e; rfl) | (obtain ⟨_, _, _, _, _, _, e, _⟩ := h; subst e; rfl) | (obtain ⟨_, _, _, _, _, _, _, e, _⟩ := h; subst e; rfl) | (obtain ⟨_, _, _, _, _, _, _, _, e, _⟩ := h; subst e; rfl)) (fun ds M Q E h => wp_q_run (E' := E) h)
  have f_q_numbers : FnM P w K mg base 1 fi_q_numbers := def_ok (k := 0) (mc := mc_q_numbers) (C := ⟨[], [], [], []⟩) ⟨rfl, rfl, rfl, rfl, F.blt, sk, fok_nil, gok_nil, aok_nil, mok_nil⟩ F.d_q_numbers sc_q_numbers rfl m_q_numbers (fun ds M Q E h => by first | (obtain ⟨e, _⟩ := h; subst e; rfl) | (obtain ⟨_, e, _⟩ := h; subst e; rfl) | (obtain ⟨_, _, e, _⟩ := h; subst e; rfl) | (obtain ⟨_, _, _, e, _⟩ := h; subst e; rfl) | (obtain ⟨_, _, _, _, e, _⟩ := h; subst e; rfl) | (obtain ⟨_, _, _, _, _, e, _⟩ := h; subst e; rfl) | (obtain ⟨_, _, _, _, _, _, e, _⟩ := h; subst e; rfl) | (obtain ⟨_, _, _, _, _, _, _, e, _⟩ := h; subst e; rfl) | (obtain ⟨_, _, _, _, _, _, _, _, e, _⟩ := h; subst e; rfl)) (fun ds M Q E h => wp_q_numbers (E' := E) h)
  have f_q_repeated : FnM P w K mg base 3 fi_q_repeated := def_ok (k := 2) (mc := mc_q_repeated) (C := cx_q_repeated) ⟨rfl, rfl, rfl, rfl, F.blt, sk, (fok_cons (f_q_run.mono (by decide)) (fok_cons (f_q_numbers.mono (by decide)) fok_nil)), gok_nil, aok_nil, mok_nil⟩ F.d_q_repeated sc_q_repeated rfl m_q_repeated (fun ds M Q E h => by first | (obtain ⟨e, _⟩ := h; subst e; rfl) | (obtain ⟨_, e, _⟩ := h; subst e; rfl) | (obtain ⟨_, _, e, _⟩ := h; subst e; rfl) | (obtain ⟨_, _, _, e, _⟩ := h; subst e; rfl) | (obtain ⟨_, _, _, _, e, _⟩ := h; subst e; rfl) | (obtain ⟨_, _, _, _, _, e, _⟩ := h; subst e; rfl) | (obtain ⟨_, _, _, _, _, _, e, _⟩ := h; subst e; rfl) | (obtain ⟨_, _, _, _, _, _, _, e, _⟩ := h; subst e; rfl) | (obtain ⟨_, _, _, _, _, _, _, _, e, _⟩ := h; subst e; rfl)) (fun ds M Q E h => wp_q_repeated (E' := E) h)
  have f_fits : FnM P w K mg base 1 fi_fits := def_ok (k := 0) (mc := mc_fits) (C := ⟨[], [], [], []⟩) ⟨rfl, rfl, rfl, rfl, F.blt, sk, fok_nil, gok_nil, aok_nil, mok_nil⟩ F.d_fits sc_fits rfl m_fits (fun ds M Q E h => by first | (obtain ⟨e, _⟩ := h; subst e; rfl) | (obtain ⟨_, e, _⟩ := h; subst e; rfl) | (obtain ⟨_, _, e, _⟩ := h; subst e; rfl) | (obtain ⟨_, _, _, e, _⟩ := h; subst e; rfl) | (obtain ⟨_, _, _, _, e, _⟩ := h; subst e; rfl) | (obtain ⟨_, _, _, _, _, e, _⟩ := h; subst e; rfl) | (obtain ⟨_, _, _, _, _, _, e, _⟩ := h; subst e; rfl) | (obtain ⟨_, _, _, _, _, _, _, e, _⟩ := h; subst e; rfl) | (obtain ⟨_, _, _, _, _, _, _, _, e, _⟩ := h; subst e; rfl)) (fun ds M Q E h => wp_fits (E' := E) h)
  have f_hull_of : FnM P w K mg base 1 fi_hull_of := def_ok (k := 0) (mc := mc_hull_of) (C := ⟨[], [], [], []⟩) ⟨rfl, rfl, rfl, rfl, F.blt, sk, fok_nil, gok_nil, aok_nil, mok_nil⟩ F.d_hull_of sc_hull_of rfl m_hull_of (fun ds M Q E h => by first | (obtain ⟨e, _⟩ := h; subst e; rfl) | (obtain ⟨_, e, _⟩ := h; subst e; rfl) | (obtain ⟨_, _, e, _⟩ := h; subst e; rfl) | (obtain ⟨_, _, _, e, _⟩ := h; subst e; rfl) | (obtain ⟨_, _, _, _, e, _⟩ := h; subst e; rfl) | (obtain ⟨_, _, _, _, _, e, _⟩ := h; subst e; rfl) | (obtain ⟨_, _, _, _, _, _, e, _⟩ := h; subst e; rfl) | (obtain ⟨_, _, _, _, _, _, _, e, _⟩ := h; subst e; rfl) | (obtain ⟨_, _, _, _, _, _, _, _, e, _⟩ := h; subst e; rfl)) (fun ds M Q E h => wp_hull_of (E' := E) h)
  have f_joined : FnM P w K mg base 1 fi_joined := def_ok (k := 0) (mc := mc_joined) (C := ⟨[], [], [], []⟩) ⟨rfl, rfl, rfl, rfl, F.blt, sk, fok_nil, gok_nil, aok_nil, mok_nil⟩ F.d_joined sc_joined rfl m_joined (fun ds M Q E h => by first | (obtain ⟨e, _⟩ := h; subst e; rfl) | (obtain ⟨_, e, _⟩ := h; subst e; rfl) | (obtain ⟨_, _, e, _⟩ := h; subst e; rfl) | (obtain ⟨_, _, _, e, _⟩ := h; subst e; rfl) | (obtain ⟨_, _, _, _, e, _⟩ := h; subst e; rfl) | (obtain ⟨_, _, _, _, _, e, _⟩ := h; subst e; rfl) | (obtain ⟨_, _, _, _, _, _, e, _⟩ := h; subst e; rfl) | (obtain ⟨_, _, _, _, _, _, _, e, _⟩ := h; subst e; rfl) | (obtain ⟨_, _, _, _, _, _, _, _, e, _⟩ := h; subst e; rfl)) (fun ds M Q E h => wp_joined (E' := E) h)
  have f_covers : FnM P w K mg base 1 fi_covers := def_ok (k := 0) (mc := mc_covers) (C := ⟨[], [], [], []⟩) ⟨rfl, rfl, rfl, rfl, F.blt, sk, fok_nil, gok_nil, aok_nil, mok_nil⟩ F.d_covers sc_covers rfl m_covers (fun ds M Q E h => by first | (obtain ⟨e, _⟩ := h; subst e; rfl) | (obtain ⟨_, e, _⟩ := h; subst e; rfl) | (obtain ⟨_, _, e, _⟩ := h; subst e; rfl) | (obtain ⟨_, _, _, e, _⟩ := h; subst e; rfl) | (obtain ⟨_, _, _, _, e, _⟩ := h; subst e; rfl) | (obtain ⟨_, _, _, _, _, e, _⟩ := h; subst e; rfl) | (obtain ⟨_, _, _, _, _, _, e, _⟩ := h; subst e; rfl) | (obtain ⟨_, _, _, _, _, _, _, e, _⟩ := h; subst e; rfl) | (obtain ⟨_, _, _, _, _, _, _, _, e, _⟩ := h; subst e; rfl)) (fun ds M Q E h => wp_covers (E' := E) h)
  have f_check_fits : FnM P w K mg base 2 fi_check_fits := def_ok (k := 1) (mc := mc_check_fits) (C := cx_check_fits) ⟨rfl, rfl, rfl, rfl, F.blt, sk, (fok_cons (f_fits.mono (by decide)) fok_nil), gok_nil, aok_nil, mok_nil⟩ F.d_check_fits sc_check_fits rfl m_check_fits (fun ds M Q E h => by first | (obtain ⟨e, _⟩ := h; subst e; rfl) | (obtain ⟨_, e, _⟩ := h; subst e; rfl) | (obtain ⟨_, _, e, _⟩ := h; subst e; rfl) | (obtain ⟨_, _, _, e, _⟩ := h; subst e; rfl) | (obtain ⟨_, _, _, _, e, _⟩ := h; subst e; rfl) | (obtain ⟨_, _, _, _, _, e, _⟩ := h; subst e; rfl) | (obtain ⟨_, _, _, _, _, _, e, _⟩ := h; subst e; rfl) | (obtain ⟨_, _, _, _, _, _, _, e, _⟩ := h; subst e; rfl) | (obtain ⟨_, _, _, _, _, _, _, _, e, _⟩ := h; subst e; rfl)) (fun ds M Q E h => wp_check_fits (E' := E) h)
  have f_places_of : FnM P w K mg base 3 fi_places_of := def_ok (k := 2) (mc := mc_places_of) (C := cx_places_of) ⟨rfl, rfl, rfl, rfl, F.blt, sk, (fok_cons (f_check_fits.mono (by decide)) fok_nil), gok_nil, aok_nil, mok_nil⟩ F.d_places_of sc_places_of rfl m_places_of (fun ds M Q E h => by first | (obtain ⟨e, _⟩ := h; subst e; rfl) | (obtain ⟨_, e, _⟩ := h; subst e; rfl) | (obtain ⟨_, _, e, _⟩ := h; subst e; rfl) | (obtain ⟨_, _, _, e, _⟩ := h; subst e; rfl) | (obtain ⟨_, _, _, _, e, _⟩ := h; subst e; rfl) | (obtain ⟨_, _, _, _, _, e, _⟩ := h; subst e; rfl) | (obtain ⟨_, _, _, _, _, _, e, _⟩ := h; subst e; rfl) | (obtain ⟨_, _, _, _, _, _, _, e, _⟩ := h; subst e; rfl) | (obtain ⟨_, _, _, _, _, _, _, _, e, _⟩ := h; subst e; rfl)) (fun ds M Q E h => wp_places_of (E' := E) h)
  have f_halving_place : FnM P w K mg base 4 fi_halving_place := def_ok (k := 3) (mc := mc_halving_place) (C := cx_halving_place) ⟨rfl, rfl, rfl, rfl, F.blt, sk, (fok_cons (f_places_of.mono (by decide)) fok_nil), gok_nil, aok_nil, mok_nil⟩ F.d_halving_place sc_halving_place rfl m_halving_place (fun ds M Q E h => by first | (obtain ⟨e, _⟩ := h; subst e; rfl) | (obtain ⟨_, e, _⟩ := h; subst e; rfl) | (obtain ⟨_, _, e, _⟩ := h; subst e; rfl) | (obtain ⟨_, _, _, e, _⟩ := h; subst e; rfl) | (obtain ⟨_, _, _, _, e, _⟩ := h; subst e; rfl) | (obtain ⟨_, _, _, _, _, e, _⟩ := h; subst e; rfl) | (obtain ⟨_, _, _, _, _, _, e, _⟩ := h; subst e; rfl) | (obtain ⟨_, _, _, _, _, _, _, e, _⟩ := h; subst e; rfl) | (obtain ⟨_, _, _, _, _, _, _, _, e, _⟩ := h; subst e; rfl)) (fun ds M Q E h => wp_halving_place (E' := E) h)
  have f_phase_from : FnM P w K mg base 5 fi_phase_from := def_ok (k := 4) (mc := mc_phase_from) (C := cx_phase_from) ⟨rfl, rfl, rfl, rfl, F.blt, sk, (fok_cons (f_joined.mono (by decide)) (fok_cons (f_fits.mono (by decide)) (fok_cons (f_covers.mono (by decide)) (fok_cons (f_halving_place.mono (by decide)) fok_nil)))), gok_nil, aok_nil, mok_nil⟩ F.d_phase_from sc_phase_from rfl m_phase_from (fun ds M Q E h => by first | (obtain ⟨e, _⟩ := h; subst e; rfl) | (obtain ⟨_, e, _⟩ := h; subst e; rfl) | (obtain ⟨_, _, e, _⟩ := h; subst e; rfl) | (obtain ⟨_, _, _, e, _⟩ := h; subst e; rfl) | (obtain ⟨_, _, _, _, e, _⟩ := h; subst e; rfl) | (obtain ⟨_, _, _, _, _, e, _⟩ := h; subst e; rfl) | (obtain ⟨_, _, _, _, _, _, e, _⟩ := h; subst e; rfl) | (obtain ⟨_, _, _, _, _, _, _, e, _⟩ := h; subst e; rfl) | (obtain ⟨_, _, _, _, _, _, _, _, e, _⟩ := h; subst e; rfl)) (fun ds M Q E h => wp_phase_from (E' := E) h)
  have f_phases_and_loads : FnM P w K mg base 6 fi_phases_and_loads := def_ok (k := 5) (mc := mc_phases_and_loads) (C := cx_phases_and_loads) ⟨rfl, rfl, rfl, rfl, F.blt, sk, (fok_cons (f_fits.mono (by decide)) (fok_cons (f_hull_of.mono (by decide)) (fok_cons (f_phase_from.mono (by decide)) fok_nil))), gok_nil, aok_nil, mok_nil⟩ F.d_phases_and_loads sc_phases_and_loads rfl m_phases_and_loads (fun ds M Q E h => by first | (obtain ⟨e, _⟩ := h; subst e; rfl) | (obtain ⟨_, e, _⟩ := h; subst e; rfl) | (obtain ⟨_, _, e, _⟩ := h; subst e; rfl) | (obtain ⟨_, _, _, e, _⟩ := h; subst e; rfl) | (obtain ⟨_, _, _, _, e, _⟩ := h; subst e; rfl) | (obtain ⟨_, _, _, _, _, e, _⟩ := h; subst e; rfl) | (obtain ⟨_, _, _, _, _, _, e, _⟩ := h; subst e; rfl) | (obtain ⟨_, _, _, _, _, _, _, e, _⟩ := h; subst e; rfl) | (obtain ⟨_, _, _, _, _, _, _, _, e, _⟩ := h; subst e; rfl)) (fun ds M Q E h => wp_phases_and_loads (E' := E) h)
  have f_repeated_loads : FnM P w K mg base 7 fi_repeated_loads := def_ok (k := 6) (mc := mc_repeated_loads) (C := cx_repeated_loads) ⟨rfl, rfl, rfl, rfl, F.blt, sk, (fok_cons (f_phases_and_loads.mono (by decide)) fok_nil), gok_nil, aok_nil, mok_nil⟩ F.d_repeated_loads sc_repeated_loads rfl m_repeated_loads (fun ds M Q E h => by first | (obtain ⟨e, _⟩ := h; subst e; rfl) | (obtain ⟨_, e, _⟩ := h; subst e; rfl) | (obtain ⟨_, _, e, _⟩ := h; subst e; rfl) | (obtain ⟨_, _, _, e, _⟩ := h; subst e; rfl) | (obtain ⟨_, _, _, _, e, _⟩ := h; subst e; rfl) | (obtain ⟨_, _, _, _, _, e, _⟩ := h; subst e; rfl) | (obtain ⟨_, _, _, _, _, _, e, _⟩ := h; subst e; rfl) | (obtain ⟨_, _, _, _, _, _, _, e, _⟩ := h; subst e; rfl) | (obtain ⟨_, _, _, _, _, _, _, _, e, _⟩ := h; subst e; rfl)) (fun ds M Q E h => wp_repeated_loads (E' := E) h)
  have f_repeated_viewer_loads : FnM P w K mg base 7 fi_repeated_viewer_loads := def_ok (k := 6) (mc := mc_repeated_viewer_loads) (C := cx_repeated_viewer_loads) ⟨rfl, rfl, rfl, rfl, F.blt, sk, (fok_cons (f_phases_and_loads.mono (by decide)) fok_nil), gok_nil, aok_nil, mok_nil⟩ F.d_repeated_viewer_loads sc_repeated_viewer_loads rfl m_repeated_viewer_loads (fun ds M Q E h => by first | (obtain ⟨e, _⟩ := h; subst e; rfl) | (obtain ⟨_, e, _⟩ := h; subst e; rfl) | (obtain ⟨_, _, e, _⟩ := h; subst e; rfl) | (obtain ⟨_, _, _, e, _⟩ := h; subst e; rfl) | (obtain ⟨_, _, _, _, e, _⟩ := h; subst e; rfl) | (obtain ⟨_, _, _, _, _, e, _⟩ := h; subst e; rfl) | (obtain ⟨_, _, _, _, _, _, e, _⟩ := h; subst e; rfl) | (obtain ⟨_, _, _, _, _, _, _, e, _⟩ := h; subst e; rfl) | (obtain ⟨_, _, _, _, _, _, _, _, e, _⟩ := h; subst e; rfl)) (fun ds M Q E h => wp_repeated_viewer_loads (E' := E) h)
  have f_q_told : FnM P w K mg base 8 fi_q_told := def_ok (k := 7) (mc := mc_q_told) (C := cx_q_told) ⟨rfl, rfl, rfl, rfl, F.blt, sk, (fok_cons (f_repeated_loads.mono (by decide)) (fok_cons (f_repeated_viewer_loads.mono (by decide)) fok_nil)), gok_nil, aok_nil, mok_nil⟩ F.d_q_told sc_q_told rfl m_q_told (fun ds M Q E h => by first | (obtain ⟨e, _⟩ := h; subst e; rfl) | (obtain ⟨_, e, _⟩ := h; subst e; rfl) | (obtain ⟨_, _, e, _⟩ := h; subst e; rfl) | (obtain ⟨_, _, _, e, _⟩ := h; subst e; rfl) | (obtain ⟨_, _, _, _, e, _⟩ := h; subst e; rfl) | (obtain ⟨_, _, _, _, _, e, _⟩ := h; subst e; rfl) | (obtain ⟨_, _, _, _, _, _, e, _⟩ := h; subst e; rfl) | (obtain ⟨_, _, _, _, _, _, _, e, _⟩ := h; subst e; rfl) | (obtain ⟨_, _, _, _, _, _, _, _, e, _⟩ := h; subst e; rfl)) (fun ds M Q E h => wp_q_told (E' := E) h)
  have f_q_right : FnM P w K mg base 9 fi_q_right := def_ok (k := 8) (mc := mc_q_right) (C := cx_q_right) ⟨rfl, rfl, rfl, rfl, F.blt, sk, (fok_cons (f_q_close.mono (by decide)) (fok_cons (f_q_take.mono (by decide)) (fok_cons (f_q_repeated.mono (by decide)) (fok_cons (f_q_told.mono (by decide)) fok_nil)))), gok_nil, aok_nil, mok_nil⟩ F.d_q_right sc_q_right rfl m_q_right (fun ds M Q E h => by first | (obtain ⟨e, _⟩ := h; subst e; rfl) | (obtain ⟨_, e, _⟩ := h; subst e; rfl) | (obtain ⟨_, _, e, _⟩ := h; subst e; rfl) | (obtain ⟨_, _, _, e, _⟩ := h; subst e; rfl) | (obtain ⟨_, _, _, _, e, _⟩ := h; subst e; rfl) | (obtain ⟨_, _, _, _, _, e, _⟩ := h; subst e; rfl) | (obtain ⟨_, _, _, _, _, _, e, _⟩ := h; subst e; rfl) | (obtain ⟨_, _, _, _, _, _, _, e, _⟩ := h; subst e; rfl) | (obtain ⟨_, _, _, _, _, _, _, _, e, _⟩ := h; subst e; rfl)) (fun ds M Q E h => wp_q_right (E' := E) h)
  have f_q_box : FnM P w K mg base 3 fi_box := def_ok (k := 2) (mc := mc_q_box) (C := cx_box) ⟨rfl, rfl, rfl, rfl, F.blt, sk, (fok_cons (f_q_take.mono (by decide)) (fok_cons (f_q_pick.mono (by decide)) fok_nil)), gok_nil, aok_nil, mok_nil⟩ F.d_q_box sc_q_box rfl m_q_box (fun ds M Q E h => by first | (obtain ⟨e, _⟩ := h; subst e; rfl) | (obtain ⟨_, e, _⟩ := h; subst e; rfl) | (obtain ⟨_, _, e, _⟩ := h; subst e; rfl) | (obtain ⟨_, _, _, e, _⟩ := h; subst e; rfl) | (obtain ⟨_, _, _, _, e, _⟩ := h; subst e; rfl) | (obtain ⟨_, _, _, _, _, e, _⟩ := h; subst e; rfl) | (obtain ⟨_, _, _, _, _, _, e, _⟩ := h; subst e; rfl) | (obtain ⟨_, _, _, _, _, _, _, e, _⟩ := h; subst e; rfl) | (obtain ⟨_, _, _, _, _, _, _, _, e, _⟩ := h; subst e; rfl)) (fun ds M Q E h => wp_box (E' := E) h)
  have f_law : FnM P w K mg base 10 fi_law := def_ok (k := 9) (mc := mc_law) (C := cx_law) ⟨rfl, rfl, rfl, rfl, F.blt, sk, (fok_cons (f_q_urn.mono (by decide)) (fok_cons (f_q_right.mono (by decide)) (fok_cons (f_q_box.mono (by decide)) (fok_cons (f_q_pick.mono (by decide)) fok_nil)))), gok_nil, aok_nil, mok_nil⟩ F.d_law sc_law rfl m_law (fun ds M Q E h => by first | (obtain ⟨e, _⟩ := h; subst e; rfl) | (obtain ⟨_, e, _⟩ := h; subst e; rfl) | (obtain ⟨_, _, e, _⟩ := h; subst e; rfl) | (obtain ⟨_, _, _, e, _⟩ := h; subst e; rfl) | (obtain ⟨_, _, _, _, e, _⟩ := h; subst e; rfl) | (obtain ⟨_, _, _, _, _, e, _⟩ := h; subst e; rfl) | (obtain ⟨_, _, _, _, _, _, e, _⟩ := h; subst e; rfl) | (obtain ⟨_, _, _, _, _, _, _, e, _⟩ := h; subst e; rfl) | (obtain ⟨_, _, _, _, _, _, _, _, e, _⟩ := h; subst e; rfl)) (fun ds M Q E h => wp_law (E' := E) h)
  exact f_law.mono (by decide)
theorem law_spx (ns : List Int) (h : ns.length ≤ 63) : fi_law.sp [.scr ns] (fun _ => none) (fun v _ => v = .bl true) (fun _ _ => False) := law_sp ns h
end

end Kx
end Ow

open PySem PySem.W PyProof.Rows
set_option maxHeartbeats 0 in
theorem PySem.Challenge.cw_onewindow_k24_one_phase_over_many_repeat_holds : PySem.Challenge.rw_onewindow_k24_one_phase_over_many_repeat.Holds := by
  w_on; o_law; k_head; (case hw => w_witness2)
  k_fill
  refine Ow.walk_ofD (l := PySem.Challenge.rw_onewindow_k24_one_phase_over_many_repeat) (n := 63) (k := 20) rfl (by decide) rfl ⟨rfl, by decide, by decide⟩ rfl (by decide +kernel) (fun w h Y => PySem.W.kIn_of Y) ?F (fun ns hl _ => Ow.Kx.law_spx ns hl)
  case F =>
    intro w mg h KX G base sk
    refine Ow.Kx.law_fn KX ?facts sk
    refine' ⟨Ow.defM_mk KX G ?a_covers ?l_covers ?c_covers ?k_covers Ow.Kx.bi_covers, Ow.defM_mk KX G ?a_joined ?l_joined ?c_joined ?k_joined Ow.Kx.bi_joined, Ow.defM_mk KX G ?a_hull_of ?l_hull_of ?c_hull_of ?k_hull_of Ow.Kx.bi_hull_of, Ow.defM_mk KX G ?a_fits ?l_fits ?c_fits ?k_fits Ow.Kx.bi_fits, Ow.defM_mk KX G ?a_check_fits ?l_check_fits ?c_check_fits ?k_check_fits Ow.Kx.bi_check_fits, Ow.defM_mk KX G ?a_places_of ?l_places_of ?c_places_of ?k_places_of Ow.Kx.bi_places_of, Ow.defM_mk KX G ?a_halving_place ?l_halving_place ?c_halving_place ?k_halving_place Ow.Kx.bi_halving_place, Ow.defM_mk KX G ?a_phase_from ?l_phase_from ?c_phase_from ?k_phase_from Ow.Kx.bi_phase_from, Ow.defM_mk KX G ?a_phases_and_loads ?l_phases_and_loads ?c_phases_and_loads ?k_phases_and_loads Ow.Kx.bi_phases_and_loads, Ow.defM_mk KX G ?a_repeated_loads ?l_repeated_loads ?c_repeated_loads ?k_repeated_loads Ow.Kx.bi_repeated_loads, Ow.defM_mk KX G ?a_repeated_viewer_loads ?l_repeated_viewer_loads ?c_repeated_viewer_loads ?k_repeated_viewer_loads Ow.Kx.bi_repeated_viewer_loads, Ow.defM_mk KX G ?a_q_urn ?l_q_urn ?c_q_urn ?k_q_urn Ow.Kx.bi_q_urn, Ow.defM_mk KX G ?a_q_take ?l_q_take ?c_q_take ?k_q_take Ow.Kx.bi_q_take, Ow.defM_mk KX G ?a_q_pick ?l_q_pick ?c_q_pick ?k_q_pick Ow.Kx.bi_q_pick, Ow.defM_mk KX G ?a_q_box ?l_q_box ?c_q_box ?k_q_box Ow.Kx.bi_q_box, Ow.defM_mk KX G ?a_q_covers ?l_q_covers ?c_q_covers ?k_q_covers Ow.Kx.bi_q_covers, Ow.defM_mk KX G ?a_q_run ?l_q_run ?c_q_run ?k_q_run Ow.Kx.bi_q_run, Ow.defM_mk KX G ?a_q_numbers ?l_q_numbers ?c_q_numbers ?k_q_numbers Ow.Kx.bi_q_numbers, Ow.defM_mk KX G ?a_q_repeated ?l_q_repeated ?c_q_repeated ?k_q_repeated Ow.Kx.bi_q_repeated, Ow.defM_mk KX G ?a_q_inside ?l_q_inside ?c_q_inside ?k_q_inside Ow.Kx.bi_q_inside, Ow.defM_mk KX G ?a_q_close ?l_q_close ?c_q_close ?k_q_close Ow.Kx.bi_q_close, Ow.defM_mk KX G ?a_q_told ?l_q_told ?c_q_told ?k_q_told Ow.Kx.bi_q_told, Ow.defM_mk KX G ?a_q_right ?l_q_right ?c_q_right ?k_q_right Ow.Kx.bi_q_right, Ow.defM_mk KX G ?a_law ?l_law ?c_law ?k_law Ow.Kx.bi_law, Ow.blt_mk KX G ?z0 ?z1 ?z2 ?z3 ?z4 ?z5 ?z6 ?z7 ?z8 ?z9 ?z10 ?z11 ?z12 ?z13 ?z14 ?z15 ?z16 ?z17 ?z18 ?z19 ?z20 ?z21⟩
    (case a_covers => k_is)
    (case l_covers => k_is)
    (case c_covers => k_is)
    (case k_covers => k_is)
    (case a_joined => k_is)
    (case l_joined => k_is)
    (case c_joined => k_is)
    (case k_joined => k_is)
    (case a_hull_of => k_is)
    (case l_hull_of => k_is)
    (case c_hull_of => k_is)
    (case k_hull_of => k_is)
    (case a_fits => k_is)
    (case l_fits => k_is)
    (case c_fits => k_is)
    (case k_fits => k_is)
    (case a_check_fits => k_is)
    (case l_check_fits => k_is)
    (case c_check_fits => k_is)
    (case k_check_fits => k_is)
    (case a_places_of => k_is)
    (case l_places_of => k_is)
    (case c_places_of => k_is)
    (case k_places_of => k_is)
    (case a_halving_place => k_is)
    (case l_halving_place => k_is)
    (case c_halving_place => k_is)
    (case k_halving_place => k_is)
    (case a_phase_from => k_is)
    (case l_phase_from => k_is)
    (case c_phase_from => k_is)
    (case k_phase_from => k_is)
    (case a_phases_and_loads => k_is)
    (case l_phases_and_loads => k_is)
    (case c_phases_and_loads => k_is)
    (case k_phases_and_loads => k_is)
    (case a_repeated_loads => k_is)
    (case l_repeated_loads => k_is)
    (case c_repeated_loads => k_is)
    (case k_repeated_loads => k_is)
    (case a_repeated_viewer_loads => k_is)
    (case l_repeated_viewer_loads => k_is)
    (case c_repeated_viewer_loads => k_is)
    (case k_repeated_viewer_loads => k_is)
    (case a_q_urn => k_is)
    (case l_q_urn => k_is)
    (case c_q_urn => k_is)
    (case k_q_urn => k_is)
    (case a_q_take => k_is)
    (case l_q_take => k_is)
    (case c_q_take => k_is)
    (case k_q_take => k_is)
    (case a_q_pick => k_is)
    (case l_q_pick => k_is)
    (case c_q_pick => k_is)
    (case k_q_pick => k_is)
    (case a_q_box => k_is)
    (case l_q_box => k_is)
    (case c_q_box => k_is)
    (case k_q_box => k_is)
    (case a_q_covers => k_is)
    (case l_q_covers => k_is)
    (case c_q_covers => k_is)
    (case k_q_covers => k_is)
    (case a_q_run => k_is)
    (case l_q_run => k_is)
    (case c_q_run => k_is)
    (case k_q_run => k_is)
    (case a_q_numbers => k_is)
    (case l_q_numbers => k_is)
    (case c_q_numbers => k_is)
    (case k_q_numbers => k_is)
    (case a_q_repeated => k_is)
    (case l_q_repeated => k_is)
    (case c_q_repeated => k_is)
    (case k_q_repeated => k_is)
    (case a_q_inside => k_is)
    (case l_q_inside => k_is)
    (case c_q_inside => k_is)
    (case k_q_inside => k_is)
    (case a_q_close => k_is)
    (case l_q_close => k_is)
    (case c_q_close => k_is)
    (case k_q_close => k_is)
    (case a_q_told => k_is)
    (case l_q_told => k_is)
    (case c_q_told => k_is)
    (case k_q_told => k_is)
    (case a_q_right => k_is)
    (case l_q_right => k_is)
    (case c_q_right => k_is)
    (case k_q_right => k_is)
    (case a_law => k_is)
    (case l_law => k_is)
    (case c_law => k_is)
    (case k_law => k_is)
    (case z0 => k_is)
    (case z1 => k_is)
    (case z2 => k_is)
    (case z3 => k_is)
    (case z4 => k_is)
    (case z5 => k_is)
    (case z6 => k_is)
    (case z7 => k_is)
    (case z8 => k_is)
    (case z9 => k_is)
    (case z10 => k_is)
    (case z11 => k_is)
    (case z12 => k_is)
    (case z13 => k_is)
    (case z14 => k_is)
    (case z15 => k_is)
    (case z16 => k_is)
    (case z17 => k_is)
    (case z18 => k_is)
    (case z19 => k_is)
    (case z20 => k_is)
    (case z21 => k_is)
