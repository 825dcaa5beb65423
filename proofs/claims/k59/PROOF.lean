import PyProof.Rows.All
import HandS.ForMost
import HandS.ForExc
import HandS.Zip
import HandS.TupAny
import HandS.TupMul
import HandS.WideBits
import HandS.Wide
import HandS.Flow
import HandS.IsInst
import HandS.Style
import HandS.SortInts
import HandS.ExcInit
import HandS.Nested
import HandS.NestedK
import HandS.ExcIs
import HandS.ExcField
import PyProof.ReprRoads
import PyProof.StrOps2
import HandS.Text
import KE.DataMinMax
import KE.GoesZip
import KE.GoesEnum
import KE.KRevSl
import KE.KDictZip
import KE.KItemsList
import HandS.More
import HandS.Replace
import KE.KDictPairs
import HandS.Conv
import PyProof.Rows.Range3
import PyProof.InstNe
import HandS.TryOnly
import HandS.EndBits
import HandS.EndTab
import KE.KLam
import HandS.Words
import HandS.Defaults
import HandS.Codes
import KE.IntTextText
import KE.KIntText
import PyProof.StrLawsTight
import PySem.Challenge.RW_onewindow_k59_values_that_are_no_texts
set_option Elab.async false
set_option linter.all false
set_option maxRecDepth 100000
set_option maxHeartbeats 4000000
namespace Ow
open PySem PySem.Spec PyProof.Rows L2
/-! ### data -/
inductive D where
  | non | bl (b : Bool) | int (i : Int) | str (s : Str) | tup (l : List D) | lst (l : List D) | ref (a : Addr) | scr (ns : List Int) | dct (ks : List Key) (l : List D)
/-- what may change, at its address -/
inductive MO where
  | lst (l : List D) | ins (C : Str) (fs : List (Str × D)) | dic (kvs : List (Key × D)) | exc (C : Str) (fs : List (Str × D)) | clo (k : Nat) (caps : List D) (cs : List Addr)
/-- what a function's text says -/
structure ClTxt where
  name : Str
  params : Arguments
  body : FuncBody
  scope : Scope
/-- what is fixed for a law: the tables of code objects with their code objects' name; the kinds of closures, the names that they capture -/
class Tb where
  tb : List (Addr × Str)
  cl : Nat → ClTxt → Bool
  fr : Nat → List Str
variable [Tb]
abbrev Mp := Addr → Option MO
/-- where the def's (or the try's) run began -/
class Og where
  M0 : Mp
  H0 : Hp
def Mp.upd (M : Mp) (a : Addr) (o : MO) : Mp := fun b => if b = a then some o else M b
def Mp.del (M : Mp) (a : Addr) : Mp := fun b => if b = a then none else M b
@[simp] theorem Mp.upd_same {M : Mp} {a : Addr} {o : MO} : M.upd a o a = some o := if_pos rfl
theorem Mp.upd_ne {M : Mp} {a b : Addr} {o : MO} (h : b ≠ a) : M.upd a o b = M b := if_neg h
theorem Mp.upd_upd {M : Mp} {a : Addr} {o u : MO} : (M.upd a o).upd a u = M.upd a u := by
  funext b; unfold Mp.upd; split <;> rfl
theorem Mp.del_same {M : Mp} {a : Addr} : M.del a a = none := if_pos rfl
theorem Mp.del_ne {M : Mp} {a b : Addr} (h : b ≠ a) : M.del a b = M b := if_neg h
theorem Mp.del_upd {M : Mp} {a : Addr} {o : MO} (h : M a = none) : (M.upd a o).del a = M := by
  funext b
  by_cases e : b = a
  · rw [e, Mp.del_same, h]
  · rw [Mp.del_ne e, Mp.upd_ne e]
structure Wd where
  K : PySem.W.Frag
  mg : Str → Option Value
abbrev wd (X : Cx) : Wd := ⟨X.K, X.mg⟩
/-- a list that is never written: locked, or of the written part -/
def ScrL (K : PySem.W.Frag) (H : Hp) (a : Addr) (xs : List V) : Prop :=
  (∃ o, H a = some (.frz o (.lst xs))) ∨
    ∃ (o : Obj) (its : Array Value) (n : Nat), K.lookup a = some o ∧ o.cls = .type "list" ∧ o.dict = none ∧ o.data = .seq its n ∧ its.size ≤ sizeLine ∧ Vals xs its.toList
theorem ScrL.seq {K : PySem.W.Frag} {H : Hp} {a : Addr} {xs : List V} (h : ScrL K H a xs) : SqL K H a xs := by
  rcases h with ⟨o, h⟩ | h
  · exact .inl (.inr ⟨o, h⟩)
  · exact .inr h
mutual
def Rep (W : Wd) (M : Mp) (H : Hp) : D → V → Prop
  | .non, v => v = .non
  | .bl b, v => v = .bl b
  | .int i, v => v = .int i
  | .str s, v => v = .str s
  | .tup l, v => ∃ a xs, v = .ref a ∧ SqT W.K H a xs ∧ Reps W M H l xs
  | .lst l, v => ∃ a xs, v = .ref a ∧ M a = none ∧ H a = some (.lst xs) ∧ Reps W M H l xs
  | .ref a, v => v = .ref a
  | .scr ns, v => ∃ a, v = .ref a ∧ ScrL W.K H a (ns.map V.int)
  | .dct ks l, v => ∃ a xs, v = .ref a ∧ M a = none ∧ H a = some (.dK (ks.zip xs)) ∧ ks.length = xs.length ∧ Reps W M H l xs
def Reps (W : Wd) (M : Mp) (H : Hp) : List D → List V → Prop
  | [], vs => vs = []
  | d :: ds, vs => ∃ v r, vs = v :: r ∧ Rep W M H d v ∧ Reps W M H ds r
end
/-- a code object of that name -/
def CodeNm (oc : Obj) (q : Str) : Prop := ∃ (vs : Array Value) (t : Tok), oc.data = .fields vs ∧ vs[1]? = some (.str q t)
/-- what is never written, known to the object -/
abbrev kn (o : Obj) : HO := .frz o (.own 0)
/-- cells that hold values -/
def CellsR (H : Hp) : List Addr → List V → Prop
  | [], vs => vs = []
  | c :: cs, vs => ∃ v r o u, vs = v :: r ∧ H c = some (kn o) ∧ o.data = .cell (some u) ∧ RelV v u ∧ CellsR H cs r
abbrev cloFd (T : ClTxt) (q : Str) (cl : List (Str × Addr)) (c : Addr) (doc pm ctv : Value) : FuncData :=
  { name := T.name, qualname := q, params := T.params, body := T.body, scope := T.scope, globals := mainGlobals, closure := cl, defaults := .none, kwdefaults := .none, doc := doc, pyModule := pm, annotations := none, code := .ref c, closureTuple := ctv, builtins := builtinsNs }
/-- a function made within a def: at a, of the kind k; its captured cells at cs -/
structure CloR (H : Hp) (a : Addr) (k : Nat) (cs : List Addr) (T : ClTxt) (q : Str) (cl : List (Str × Addr)) (c : Addr) : Prop where
  fn : ∃ (o : Obj) (doc pm ctv : Value), H a = some (kn o) ∧ o.cls = .type "function" ∧ o.data = .func (cloFd T q cl c doc pm ctv)
  tx : Tb.cl k T = true
  co : ∃ oc, H c = some (kn oc) ∧ CodeNm oc q
  sub : ∀ y b, cl.lookup y = some b → y ∈ Tb.fr k
  at_ : (Tb.fr k).map (fun y => cl.lookup y) = cs.map some
  nd : cs.Nodup
def RepO (W : Wd) (M : Mp) (H : Hp) (a : Addr) : MO → Prop
  | .lst l => ∃ xs, H a = some (.lst xs) ∧ Reps W M H l xs
  | .ins C fs => ∃ (c dx : Addr) (ns : List Str) (vs : List V), W.mg C = some (.ref c) ∧ H a = some (.ins c dx (ns.zip vs)) ∧ fs = ns.zip (fs.map (·.2)) ∧ ns.length = vs.length ∧ Reps W M H (fs.map (·.2)) vs
  | .dic kvs => ∃ vs : List V, H a = some (.dK ((kvs.map (·.1)).zip vs)) ∧ Reps W M H (kvs.map (·.2)) vs
  | .exc C fs => ∃ (c : Addr) (oe : Obj) (d : Option Addr), W.mg C = some (.ref c) ∧ H a = some (kn oe) ∧ Zc (.ref c) d oe ∧ (∃ vs, oe.data = .fields vs) ∧ ((fs = [] ∧ d = none) ∨
      ∃ (dx : Addr) (ns : List Str) (vs : List V), d = some dx ∧ H dx = some (.xd (ns.zip vs)) ∧ fs = ns.zip (fs.map (·.2)) ∧ ns.length = vs.length ∧ Reps W M H (fs.map (·.2)) vs)
  | .clo k caps cs => ∃ (T : ClTxt) (q : Str) (cl : List (Str × Addr)) (c : Addr) (vs : List V), CloR H a k cs T q cl c ∧ CellsR H cs vs ∧ Reps W M H caps vs
/-- the table at P: its code objects bear the name q -/
def TabQ (H : Hp) (P : Addr) (q : Str) : Prop := ∃ ps : Array Value, H P = some (.tbl ps) ∧ TriplesOk ps.toList ∧ ∀ (pos : Pos) (cv : Value), codeAmong pos ps.toList = some cv → ∃ c oc, cv = .ref c ∧ H c = some (kn oc) ∧ CodeNm oc q
def TabsT (H : Hp) : Prop := ∀ p ∈ Tb.tb, TabQ H p.1 p.2
structure AbsM (W : Wd) (M : Mp) (H : Hp) : Prop where
  ob : ∀ a o, M a = some o → RepO W M H a o
  tb : TabsT H
theorem TabQ.keep {H H' : Hp} {P : Addr} {q : Str} (t : TabQ H P q) (h1 : ∀ b ps, H b = some (.tbl ps) → H' b = some (.tbl ps)) (h2 : ∀ b o, H b = some (kn o) → H' b = some (kn o)) : TabQ H' P q := by
  obtain ⟨ps, e1, e2, e3⟩ := t
  refine ⟨ps, h1 _ _ e1, e2, fun pos cv hc => ?_⟩
  obtain ⟨c, oc, z1, z2, z3⟩ := e3 pos cv hc
  exact ⟨c, oc, z1, h2 _ _ z2, z3⟩
theorem TabsT.keep {H H' : Hp} (t : TabsT H) (h1 : ∀ b ps, H b = some (.tbl ps) → H' b = some (.tbl ps)) (h2 : ∀ b o, H b = some (kn o) → H' b = some (kn o)) : TabsT H' := fun p hp => (t p hp).keep h1 h2
theorem CellsR.keep {H H' : Hp} (h2 : ∀ b o, H b = some (kn o) → H' b = some (kn o)) : ∀ {cs : List Addr} {vs : List V}, CellsR H cs vs → CellsR H' cs vs
  | [], _, h => h
  | _ :: _, _, h => by
    obtain ⟨v, r, o, u, e, h1, h3, h4, h5⟩ := h
    exact ⟨v, r, o, u, e, h2 _ _ h1, h3, h4, CellsR.keep h2 h5⟩
theorem CellsR.length {H : Hp} : ∀ {cs : List Addr} {vs : List V}, CellsR H cs vs → cs.length = vs.length
  | [], _, h => by rw [show _ = _ from h]; rfl
  | _ :: _, _, h => by
    obtain ⟨v, r, o, u, rfl, h1, h3, h4, h5⟩ := h
    rw [List.length_cons, List.length_cons, CellsR.length h5]
theorem CloR.keep {H H' : Hp} {a c : Addr} {k : Nat} {cs : List Addr} {T : ClTxt} {q : Str} {cl : List (Str × Addr)} (h : CloR H a k cs T q cl c) (h2 : ∀ b o, H b = some (kn o) → H' b = some (kn o)) : CloR H' a k cs T q cl c := by
  obtain ⟨⟨o, d, p, t, e1, e2⟩, tx, ⟨oc, e3, e4⟩, s, at_, nd⟩ := h
  exact ⟨⟨o, d, p, t, h2 _ _ e1, e2⟩, tx, ⟨oc, h2 _ _ e3, e4⟩, s, at_, nd⟩
def HO.isLD : HO → Bool
  | .lst _ => true
  | .dK _ => true
  | _ => false
/-- how the state may grow, for what values lean on -/
structure Ext (W : Wd) (M : Mp) (H : Hp) (M' : Mp) (H' : Hp) : Prop where
  tup : ∀ a xs, SqT W.K H a xs → SqT W.K H' a xs
  lst : ∀ a o, M a = none → H a = some o → HO.isLD o = true → H' a = some o
  frz : ∀ a o xs, H a = some (.frz o (.lst xs)) → H' a = some (.frz o (.lst xs))
  new : ∀ a o, M a = none → H a = some o → HO.isLD o = true → M' a = none
abbrev DSt := List (Option D)
/-- the slots; how the state has grown since the beginning -/
structure AbsS [Og] (W : Wd) (M : Mp) (H : Hp) (ρ : DSt) (σ : L2.St) : Prop where
  len : ρ.length = σ.length
  at_ : ∀ (i : Nat) (d : D), ρ[i]? = some (some d) → ∃ v, σ[i]? = some (some v) ∧ Rep W M H d v
  og : Ext W Og.M0 Og.H0 M H
abbrev QE := D → Mp → Prop
abbrev DTE := DSt → Mp → QE → Prop
section
variable {W : Wd} {M M' M1 M2 : Mp} {H H' H1 H2 : Hp} {a p : Addr} {d : D} {ds : List D} {v : V} {vs : List V}
theorem Rd.ne {u : HO} (h : Rd H a u) : H a ≠ none := by
  rcases h with h | ⟨o, h⟩ <;> rw [h] <;> simp
theorem Ext.refl : Ext W M H M H := ⟨fun _ _ h => h, fun _ _ _ h _ => h, fun _ _ _ h => h, fun _ _ h _ _ => h⟩
theorem Ext.trans (e : Ext W M H M1 H1) (f : Ext W M1 H1 M2 H2) : Ext W M H M2 H2 :=
  ⟨fun a xs h => f.tup a xs (e.tup a xs h), fun a o n h hb => f.lst a o (e.new a o n h hb) (e.lst a o n h hb) hb, fun a o u h => f.frz a o u (e.frz a o u h), fun a o n h hb => f.new a o (e.new a o n h hb) (e.lst a o n h hb) hb⟩
mutual
theorem Rep.ext (e : Ext W M H M1 H1) : ∀ {d : D} {v : V}, Rep W M H d v → Rep W M1 H1 d v
  | .non, _, h => h
  | .bl _, _, h => h
  | .int _, _, h => h
  | .str _, _, h => h
  | .tup l, _, h => by
    obtain ⟨a, xs, rfl, s, r⟩ := h
    exact ⟨a, xs, rfl, e.tup a xs s, Reps.ext e r⟩
  | .lst l, _, h => by
    obtain ⟨a, xs, rfl, n, s, r⟩ := h
    exact ⟨a, xs, rfl, e.new a _ n s rfl, e.lst a _ n s rfl, Reps.ext e r⟩
  | .ref _, _, h => h
  | .scr ns, _, h => by
    obtain ⟨a, rfl, h⟩ := h
    refine ⟨a, rfl, ?_⟩
    rcases h with ⟨o, h⟩ | h
    · exact .inl ⟨o, e.frz _ _ _ h⟩
    · exact .inr h
  | .dct ks l, _, h => by
    obtain ⟨a, xs, rfl, n, s, hl, r⟩ := h
    exact ⟨a, xs, rfl, e.new a _ n s rfl, e.lst a _ n s rfl, hl, Reps.ext e r⟩
theorem Reps.ext (e : Ext W M H M1 H1) : ∀ {ds : List D} {vs : List V}, Reps W M H ds vs → Reps W M1 H1 ds vs
  | [], _, h => h
  | _ :: _, _, h => by
    obtain ⟨v, r, rfl, h1, h2⟩ := h
    exact ⟨v, r, rfl, Rep.ext e h1, Reps.ext e h2⟩
end
theorem AbsS.ext [Og] {ρ : DSt} {σ : L2.St} (e : Ext W M H M1 H1) (h : AbsS W M H ρ σ) : AbsS W M1 H1 ρ σ :=
  ⟨h.len, fun i d q => let ⟨v, h1, h2⟩ := h.at_ i d q; ⟨v, h1, h2.ext e⟩, h.og.trans e⟩
theorem AbsS.to {o1 o2 : Og} {ρ : DSt} {σ : L2.St} (S : @AbsS o1 W M H ρ σ) (e : Ext W o2.M0 o2.H0 M H) : @AbsS o2 W M H ρ σ := @AbsS.mk o2 _ _ _ _ _ (@AbsS.len o1 _ _ _ _ _ S) (@AbsS.at_ o1 _ _ _ _ _ S) e
theorem AbsS.og' {o1 : Og} {ρ : DSt} {σ : L2.St} (S : @AbsS o1 W M H ρ σ) : Ext W o1.M0 o1.H0 M H := @AbsS.og o1 _ _ _ _ _ S
theorem Reps.length : ∀ {ds : List D} {vs : List V}, Reps W M H ds vs → ds.length = vs.length
  | [], _, h => by rw [show _ = _ from h]; rfl
  | d :: ds, _, h => by
    obtain ⟨v, r, rfl, _, h2⟩ := h
    rw [List.length_cons, List.length_cons, Reps.length h2]
theorem Reps.get : ∀ {ds : List D} {vs : List V} {i : Nat} {d : D}, Reps W M H ds vs → ds[i]? = some d → ∃ v, vs[i]? = some v ∧ Rep W M H d v
  | [], _, _, _, _, h => by simp at h
  | x :: ds, _, 0, d, r, h => by
    obtain ⟨v, r, rfl, h1, _⟩ := r
    simp at h; subst h; exact ⟨v, rfl, h1⟩
  | x :: ds, _, i + 1, d, r, h => by
    obtain ⟨v, r, rfl, _, h2⟩ := r
    obtain ⟨u, g1, g2⟩ := Reps.get (i := i) h2 (by simpa using h)
    exact ⟨u, by simpa using g1, g2⟩
theorem Reps.append : ∀ {ds es : List D} {vs us : List V}, Reps W M H ds vs → Reps W M H es us → Reps W M H (ds ++ es) (vs ++ us)
  | [], _, _, _, h, k => by rw [show _ = _ from h]; exact k
  | _ :: _, _, _, _, h, k => by
    obtain ⟨v, r, rfl, h1, h2⟩ := h
    exact ⟨v, r ++ _, rfl, h1, Reps.append h2 k⟩
theorem Reps.set : ∀ {ds : List D} {vs : List V} {i : Nat} {d : D} {v : V}, Reps W M H ds vs → Rep W M H d v → Reps W M H (ds.set i d) (vs.set i v)
  | [], _, _, _, _, h, _ => by rw [show _ = _ from h]; rfl
  | x :: ds, _, 0, d, v, h, k => by
    obtain ⟨u, r, rfl, _, h2⟩ := h
    exact ⟨v, r, rfl, k, h2⟩
  | x :: ds, _, i + 1, d, v, h, k => by
    obtain ⟨u, r, rfl, h1, h2⟩ := h
    exact ⟨u, r.set i v, rfl, h1, Reps.set h2 k⟩
theorem Reps.drop : ∀ {ds : List D} {vs : List V} (n : Nat), Reps W M H ds vs → Reps W M H (ds.drop n) (vs.drop n)
  | _, _, 0, h => h
  | [], _, n + 1, h => by rw [show _ = _ from h]; rfl
  | _ :: _, _, n + 1, h => by
    obtain ⟨u, r, rfl, _, h2⟩ := h
    exact Reps.drop n h2
theorem Reps.take : ∀ {ds : List D} {vs : List V} (n : Nat), Reps W M H ds vs → Reps W M H (ds.take n) (vs.take n)
  | _, _, 0, h => by rw [List.take_zero, List.take_zero]; rfl
  | [], _, n + 1, h => by rw [show _ = _ from h]; rfl
  | _ :: _, _, n + 1, h => by
    obtain ⟨u, r, rfl, h1, h2⟩ := h
    exact ⟨u, r.take n, rfl, h1, Reps.take n h2⟩
theorem Reps.reverse : ∀ {ds : List D} {vs : List V}, Reps W M H ds vs → Reps W M H ds.reverse vs.reverse
  | [], _, h => by rw [show _ = _ from h]; rfl
  | _ :: _, _, h => by
    obtain ⟨u, r, rfl, h1, h2⟩ := h
    rw [List.reverse_cons, List.reverse_cons]
    exact Reps.append (Reps.reverse h2) ⟨u, [], rfl, h1, rfl⟩
theorem Reps.flat : ∀ (k : Nat), Reps W M H ds vs → Reps W M H (List.replicate k ds).flatten (List.replicate k vs).flatten
  | 0, _ => rfl
  | k + 1, h => by
    rw [List.replicate_succ, List.replicate_succ, List.flatten_cons, List.flatten_cons]
    exact Reps.append h (Reps.flat k h)
/-- what a tracked object leans on beside values -/
structure Ext2 (W : Wd) (M : Mp) (H : Hp) (M1 : Mp) (H1 : Hp) : Prop extends Ext W M H M1 H1 where
  kn : ∀ b o, H b = some (kn o) → H1 b = some (Ow.kn o)
  xd : ∀ b fs, H b = some (.xd fs) → H1 b = some (.xd fs)
theorem RepO.ext {o : MO} (e : Ext2 W M H M1 H1) (hh : H1 a = H a) : RepO W M H a o → RepO W M1 H1 a o := by
  cases o with
  | lst l => rintro ⟨xs, h1, h2⟩; exact ⟨xs, hh.trans h1, h2.ext e.toExt⟩
  | ins C fs => rintro ⟨c, dx, ns, vs, h1, h2, h3, h4, h5⟩; exact ⟨c, dx, ns, vs, h1, hh.trans h2, h3, h4, h5.ext e.toExt⟩
  | dic kvs => rintro ⟨vs, h1, h4⟩; exact ⟨vs, hh.trans h1, h4.ext e.toExt⟩
  | exc C fs =>
    rintro ⟨c, oe, d, h1, h2, h3, h4, h5⟩
    refine ⟨c, oe, d, h1, hh.trans h2, h3, h4, ?_⟩
    rcases h5 with h5 | ⟨dx, ns, vs, e1, e2, e3, e4, e5⟩
    · exact .inl h5
    · exact .inr ⟨dx, ns, vs, e1, e.xd _ _ e2, e3, e4, e5.ext e.toExt⟩
  | clo k caps cs =>
    rintro ⟨T, q, cl, c, vs, h1, h2, h3⟩
    exact ⟨T, q, cl, c, vs, h1.keep e.kn, h2.keep e.kn, h3.ext e.toExt⟩
theorem RepO.ne {o : MO} : RepO W M H a o → H a ≠ none := by
  cases o with
  | lst l => rintro ⟨xs, h1, _⟩; rw [h1]; simp
  | ins C fs => rintro ⟨c, dx, ns, vs, _, h2, _⟩; rw [h2]; simp
  | dic kvs => rintro ⟨vs, h1, _⟩; rw [h1]; simp
  | exc C fs => rintro ⟨c, oe, d, _, h2, _⟩; rw [h2]; simp
  | clo k caps cs => rintro ⟨T, q, cl, c, vs, ⟨⟨o, _, _, _, h1, _⟩, _⟩, _⟩; rw [h1]; simp
/-- what is never written again -/
def MO.still : MO → Bool
  | .exc .. => true
  | .clo .. => true
  | _ => false
theorem RepO.notTup {o : MO} {xs : List V} : RepO W M H a o → ¬ Rd H a (.tup xs) := by
  cases o with
  | lst l => rintro ⟨xs, h1, _⟩ (h | ⟨o, h⟩) <;> rw [h1] at h <;> cases h
  | ins C fs => rintro ⟨c, dx, ns, vs, _, h2, _⟩ (h | ⟨o, h⟩) <;> rw [h2] at h <;> cases h
  | dic kvs => rintro ⟨vs, h1, _⟩ (h | ⟨o, h⟩) <;> rw [h1] at h <;> cases h
  | exc C fs => rintro ⟨c, oe, d, _, h2, _⟩ (h | ⟨o, h⟩) <;> rw [h2] at h <;> cases h
  | clo k caps cs => rintro ⟨T, q, cl, c, vs, ⟨⟨o, _, _, _, h1, _⟩, _⟩, _⟩ (h | ⟨o, h⟩) <;> rw [h1] at h <;> cases h
theorem RepO.notFrz {o : MO} {b : Obj} {u : HO} (hs : o.still = false) : RepO W M H a o → H a ≠ some (.frz b u) := by
  cases o with
  | lst l => rintro ⟨xs, h1, _⟩ h; rw [h1] at h; cases h
  | ins C fs => rintro ⟨c, dx, ns, vs, _, h2, _⟩ h; rw [h2] at h; cases h
  | dic kvs => rintro ⟨vs, h1, _⟩ h; rw [h1] at h; cases h
  | _ => cases hs
theorem RepO.notXd {o : MO} {fs : List (Str × V)} : RepO W M H a o → H a ≠ some (.xd fs) := by
  cases o with
  | lst l => rintro ⟨xs, h1, _⟩ h; rw [h1] at h; cases h
  | ins C fs => rintro ⟨c, dx, ns, vs, _, h2, _⟩ h; rw [h2] at h; cases h
  | dic kvs => rintro ⟨vs, h1, _⟩ h; rw [h1] at h; cases h
  | exc C fs => rintro ⟨c, oe, d, _, h2, _⟩ h; rw [h2] at h; cases h
  | clo k caps cs => rintro ⟨T, q, cl, c, vs, ⟨⟨o, _, _, _, h1, _⟩, _⟩, _⟩ h; rw [h1] at h; cases h
theorem RepO.notTbl {o : MO} {ps : Array Value} : RepO W M H a o → H a ≠ some (.tbl ps) := by
  cases o with
  | lst l => rintro ⟨xs, h1, _⟩ h; rw [h1] at h; cases h
  | ins C fs => rintro ⟨c, dx, ns, vs, _, h2, _⟩ h; rw [h2] at h; cases h
  | dic kvs => rintro ⟨vs, h1, _⟩ h; rw [h1] at h; cases h
  | exc C fs => rintro ⟨c, oe, d, _, h2, _⟩ h; rw [h2] at h; cases h
  | clo k caps cs => rintro ⟨T, q, cl, c, vs, ⟨⟨o, _, _, _, h1, _⟩, _⟩, _⟩ h; rw [h1] at h; cases h
theorem AbsM.free (A : AbsM W M H) (h : H p = none) : M p = none := by
  cases q : M p with
  | none => rfl
  | some o => exact absurd h (A.ob p o q).ne
/-- something new, not tracked in M -/
theorem Ext2.fresh {o : HO} (h : H p = none) : Ext2 W M H M (upd H p o) := by
  have ne : ∀ a, H a ≠ none → a ≠ p := fun a n e => n (e ▸ h)
  have k : ∀ b u, H b = some u → upd H p o b = some u := fun b u s => by rw [L2.upd_ne (ne b (by rw [s]; simp))]; exact s
  refine ⟨⟨fun a xs s => ?_, fun a xs n s _ => k _ _ s, fun a o u s => k _ _ s, fun a _ n _ _ => n⟩, fun b o s => k _ _ s, fun b o s => k _ _ s⟩
  rcases s with s | s
  · refine .inl ?_
    rcases s with s | ⟨o, s⟩
    · exact .inl (k _ _ s)
    · exact .inr ⟨o, k _ _ s⟩
  · exact .inr s
theorem Ext.fresh {o : HO} (h : H p = none) : Ext W M H M (upd H p o) := (Ext2.fresh h).toExt
theorem TabsT.fresh {o : HO} (t : TabsT H) (h : H p = none) : TabsT (upd H p o) := by
  have k : ∀ b u, H b = some u → upd H p o b = some u := fun b u s => by rw [L2.upd_ne (fun e => by rw [e, h] at s; cases s)]; exact s
  exact t.keep (fun b ps s => k _ _ s) fun b o s => k _ _ s
theorem AbsM.fresh {o : HO} (A : AbsM W M H) (h : H p = none) : AbsM W M (upd H p o) := ⟨fun a u q =>
  (A.ob a u q).ext (Ext2.fresh h) (L2.upd_ne fun e => absurd h (e ▸ (A.ob a u q).ne)), A.tb.fresh h⟩
/-- something new, tracked -/
theorem Ext2.freshM {o : HO} {u : MO} (A : AbsM W M H) (h : H p = none) : Ext2 W M H (M.upd p u) (upd H p o) := by
  have f := Ext2.fresh (W := W) (M := M) (o := o) h
  refine ⟨⟨f.tup, f.lst, f.frz, fun a v n n2 _ => ?_⟩, f.kn, f.xd⟩
  rw [Mp.upd_ne]
  · exact n
  · intro e
    rw [e, h] at n2; cases n2
theorem Ext.freshM {o : HO} {u : MO} (A : AbsM W M H) (h : H p = none) : Ext W M H (M.upd p u) (upd H p o) := (Ext2.freshM A h).toExt
theorem AbsM.freshM {o : HO} {u : MO} (A : AbsM W M H) (h : H p = none) (r : RepO W (M.upd p u) (upd H p o) p u) : AbsM W (M.upd p u) (upd H p o) := ⟨fun a w q => by
  by_cases e : a = p
  · subst e; rw [Mp.upd_same] at q; cases q; exact r
  · rw [Mp.upd_ne e] at q
    exact (A.ob a w q).ext (Ext2.freshM A h) (L2.upd_ne e), A.tb.fresh h⟩
/-- a change of what is tracked -/
theorem Ext2.write {o : HO} {u w : MO} (A : AbsM W M H) (h : M p = some u) (hs : u.still = false) : Ext2 W M H (M.upd p w) (upd H p o) := by
  have hr := A.ob p u h
  refine ⟨⟨fun a xs s => ?_, fun a xs n s _ => ?_, fun a o u s => ?_, fun a v n n2 _ => ?_⟩, fun b o s => ?_, fun b o s => ?_⟩
  · rcases s with s | s
    · have ne : a ≠ p := fun e => hr.notTup (e ▸ s)
      rcases s with s | ⟨o, s⟩
      · exact .inl (.inl (by rw [L2.upd_ne ne]; exact s))
      · exact .inl (.inr ⟨o, by rw [L2.upd_ne ne]; exact s⟩)
    · exact .inr s
  · rw [L2.upd_ne (fun e => by rw [e, h] at n; cases n)]; exact s
  · have ne : a ≠ p := fun e => hr.notFrz hs (e ▸ s)
    rw [L2.upd_ne ne]; exact s
  · rw [Mp.upd_ne (fun e => by rw [e, h] at n; cases n)]; exact n
  · have ne : b ≠ p := fun e => hr.notFrz hs (e ▸ s)
    rw [L2.upd_ne ne]; exact s
  · have ne : b ≠ p := fun e => hr.notXd (e ▸ s)
    rw [L2.upd_ne ne]; exact s
theorem Ext.write {o : HO} {u w : MO} (A : AbsM W M H) (h : M p = some u) (hs : u.still = false := by rfl) : Ext W M H (M.upd p w) (upd H p o) := (Ext2.write A h hs).toExt
theorem AbsM.write {o : HO} {u w : MO} (A : AbsM W M H) (h : M p = some u) (r : RepO W (M.upd p w) (upd H p o) p w) (hs : u.still = false := by rfl) : AbsM W (M.upd p w) (upd H p o) := by
  have x := Ext2.write (o := o) (w := w) A h hs
  refine ⟨fun a v q => ?_, A.tb.keep (fun b ps s => ?_) x.kn⟩
  · by_cases e : a = p
    · subst e; rw [Mp.upd_same] at q; cases q; exact r
    · rw [Mp.upd_ne e] at q
      exact (A.ob a v q).ext x (L2.upd_ne e)
  · rw [L2.upd_ne (fun e => (A.ob p u h).notTbl (e ▸ s))]; exact s
/-- forgetting -/
def Mp.Sub (M' M : Mp) : Prop := ∀ a o, M' a = some o → M a = some o
theorem Ext2.forget (s : M'.Sub M) : Ext2 W M H M' H := by
  refine ⟨⟨fun _ _ h => h, fun _ _ _ h _ => h, fun _ _ _ h => h, fun a o n _ _ => ?_⟩, fun _ _ h => h, fun _ _ h => h⟩
  cases q : M' a with
  | none => rfl
  | some o => rw [s a o q] at n; cases n
theorem Ext.forget (s : M'.Sub M) : Ext W M H M' H := (Ext2.forget s).toExt
theorem AbsM.forget (A : AbsM W M H) (s : M'.Sub M) : AbsM W M' H := ⟨fun a o q => (A.ob a o (s a o q)).ext (Ext2.forget s) rfl, A.tb⟩
theorem Mp.Sub.refl : M.Sub M := fun _ _ h => h
theorem Mp.Sub.trans (a : M.Sub M1) (b : M1.Sub M2) : M.Sub M2 := fun x o h => b x o (a x o h)
theorem Mp.sub_del : (M.del p).Sub M := fun a o q => by
  unfold Mp.del at q; split at q
  · cases q
  · exact q
/-- a new tuple, a new frozen list -/
theorem Rep.newT (r : Reps W M H ds vs) (h : H p = none) : Rep W M (upd H p (.tup vs)) (.tup ds) (.ref p) :=
  ⟨p, vs, rfl, SqT.of upd_same, r.ext (Ext.fresh h)⟩
theorem Rep.newL (A : AbsM W M H) (r : Reps W M H ds vs) (h : H p = none) : Rep W M (upd H p (.lst vs)) (.lst ds) (.ref p) :=
  ⟨p, vs, rfl, A.free h, upd_same, r.ext (Ext.fresh h)⟩
end
end Ow
namespace Ow
open PySem PySem.Spec PyProof.Rows L2
variable [Tb] [Og]
/-! ### the judgement for an expression, at the data's level -/
def lft (W : Wd) (M : Mp) (H : Hp) (Q : QE) : VK := fun v H' => ∃ d M', Ext W M H M' H' ∧ Rep W M' H' d v ∧ AbsM W M' H' ∧ Q d M'
def cT (X : Cx) (e : Expr) : TE := fun σ H Q => ∀ (pins : List (Addr × Obj)) (s : Shared), Inv X pins σ H s → wpAny (model X.prog X.w) X.A (eval e X.env) (EP X pins σ Q) X.xe s
theorem pe_cT {X : Cx} {e : Expr} : PE X e (cT X e) := ⟨fun pins s σ H Q I h => h pins s I⟩
structure DE (X : Cx) (e : Expr) (t : DTE) : Prop where
  to : ∀ (σ : L2.St) (H : Hp) (ρ : DSt) (M : Mp) (Q : QE), AbsS (wd X) M H ρ σ → AbsM (wd X) M H → t ρ M Q → cT X e σ H (lft (wd X) M H Q)
section
variable {X : Cx} {e a b c : Expr} {t ta tb tc : DTE} {σ : L2.St} {H H1 : Hp} {ρ : DSt} {M M1 : Mp} {Q P : QE} {R : VK} {v : V}
theorem cT_mono {e : Expr} {Q Q' : VK} (h : cT X e σ H Q) (m : ∀ v H', Q v H' → Q' v H') : cT X e σ H Q' := fun pins s I =>
  thn (h pins s I) fun _ _ ⟨v, H', I', r, q⟩ => ⟨v, H', I', r, m v H' q⟩
theorem lft.trans {W : Wd} (x : Ext W M H M1 H1) {v : V} {H2 : Hp} (h : lft W M1 H1 Q v H2) : lft W M H Q v H2 :=
  let ⟨d, M2, y, r, A, q⟩ := h; ⟨d, M2, x.trans y, r, A, q⟩
theorem lft.mono {W : Wd} {v : V} {H2 : Hp} (h : lft W M H Q v H2) (m : ∀ d M', Q d M' → P d M') : lft W M H P v H2 :=
  let ⟨d, M2, y, r, A, q⟩ := h; ⟨d, M2, y, r, A, m _ _ q⟩
theorem DE.of {e : Expr} {t : DTE} {t' : TE} (h : PE X e t') (q : ∀ (σ : L2.St) (H : Hp) (ρ : DSt) (M : Mp) (Q : QE), AbsS (wd X) M H ρ σ → AbsM (wd X) M H → t ρ M Q → t' σ H (lft (wd X) M H Q)) : DE X e t :=
  ⟨fun σ H ρ M Q S A z pins s I => h.run pins s σ H _ I (q σ H ρ M Q S A z)⟩
/-- first this expression, then .. -/
theorem DE.bind {e : Expr} {t : DTE} (h : DE X e t) (S : AbsS (wd X) M H ρ σ) (A : AbsM (wd X) M H) (q : t ρ M P)
    (k : ∀ v d M1 H1, Ext (wd X) M H M1 H1 → Rep (wd X) M1 H1 d v → AbsM (wd X) M1 H1 → AbsS (wd X) M1 H1 ρ σ → P d M1 → R v H1) : cT X e σ H R :=
  cT_mono (h.to σ H ρ M P S A q) fun v H' ⟨d, M', x, r, A', p⟩ => k v d M' H' x r A' (S.ext x) p
/-- an answer, nothing changed -/
theorem lft.pure {W : Wd} {d : D} {v : V} (A : AbsM W M H) (r : Rep W M H d v) (q : Q d M) : lft W M H Q v H := ⟨d, M, Ext.refl, r, A, q⟩
theorem lft.int {W : Wd} {i : Int} (A : AbsM W M H) (q : Q (.int i) M) : lft W M H Q (.int i) H := lft.pure A (d := .int i) rfl q
theorem lft.bl {W : Wd} {i : Bool} (A : AbsM W M H) (q : Q (.bl i) M) : lft W M H Q (.bl i) H := lft.pure A (d := .bl i) rfl q
theorem lft.str {W : Wd} {i : Str} (A : AbsM W M H) (q : Q (.str i) M) : lft W M H Q (.str i) H := lft.pure A (d := .str i) rfl q
theorem lft.non {W : Wd} (A : AbsM W M H) (q : Q .non M) : lft W M H Q .non H := lft.pure A (d := .non) rfl q
theorem lft.newT {W : Wd} {ds : List D} {vs : List V} {p : Addr} (A : AbsM W M H) (r : Reps W M H ds vs) (h : H p = none) (q : Q (.tup ds) M) : lft W M H Q (.ref p) (upd H p (.tup vs)) :=
  ⟨_, M, Ext.fresh h, Rep.newT r h, A.fresh h, q⟩
theorem lft.newL {W : Wd} {ds : List D} {vs : List V} {p : Addr} (A : AbsM W M H) (r : Reps W M H ds vs) (h : H p = none) (q : Q (.lst ds) M) : lft W M H Q (.ref p) (upd H p (.lst vs)) :=
  ⟨_, M, Ext.fresh h, Rep.newL A r h, A.fresh h, q⟩
theorem lft.newM {W : Wd} {ds : List D} {vs : List V} {p : Addr} (A : AbsM W M H) (r : Reps W M H ds vs) (h : H p = none) (q : M p = none → Q (.ref p) (M.upd p (.lst ds))) : lft W M H Q (.ref p) (upd H p (.lst vs)) := by
  have x : Ext W M H (M.upd p (.lst ds)) (upd H p (.lst vs)) := Ext.freshM A h
  exact ⟨.ref p, _, x, rfl, AbsM.freshM A h ⟨vs, upd_same, r.ext x⟩, q (A.free h)⟩
/-! ### data as the library's data -/
def keyPy : Key → PyData
  | .inl i => .int i
  | .inr x => .str x
mutual
def D.py : D → PyData
  | .non => .none | .bl b => .bool b | .int i => .int i | .str s => .str s
  | .tup l => .tuple (D.pys l) | .lst l => .list (D.pys l) | .ref _ => .none | .scr _ => .none
  | .dct ks l => .dict ((ks.map keyPy).zip (D.pys l))
def D.pys : List D → List PyData
  | [] => [] | d :: ds => D.py d :: D.pys ds
end
mutual
/-- no address in it -/
def D.flat : D → Bool
  | .non => true | .bl b => true | .int i => true | .str s => true
  | .tup l => D.flats l | .lst l => D.flats l | .ref _ => false | .scr _ => false | .dct _ _ => false
def D.flats : List D → Bool
  | [] => true | d :: ds => D.flat d && D.flats ds
end
mutual
theorem Rep.dp {W : Wd} : ∀ {d : D} {v : V}, d.flat = true → Rep W M H d v → Dp W.K H v d.py
  | .non, _, _, h => by rw [show _ = _ from h]; exact .non
  | .bl b, _, _, h => by rw [show _ = _ from h]; exact .bl b
  | .int i, _, _, h => by rw [show _ = _ from h]; exact .int i
  | .str s, _, _, h => by rw [show _ = _ from h]; exact .str s
  | .tup l, _, f, h => by
    obtain ⟨a, xs, rfl, s, r⟩ := h
    exact .tup s (Reps.dp f r)
  | .lst l, _, f, h => by
    obtain ⟨a, xs, rfl, _, s, r⟩ := h
    exact .lst (SqL.of s) (Reps.dp f r)
  | .ref _, _, f, _ => by cases f
  | .scr _, _, f, _ => by cases f
  | .dct _ _, _, f, _ => by cases f
theorem Reps.dp {W : Wd} : ∀ {ds : List D} {vs : List V}, D.flats ds = true → Reps W M H ds vs → DpAll W.K H vs (D.pys ds)
  | [], _, _, h => by rw [show _ = _ from h]; exact .nil
  | d :: ds, _, f, h => by
    obtain ⟨v, r, rfl, h1, h2⟩ := h
    have f' : (d.flat && D.flats ds) = true := f
    rw [Bool.and_eq_true] at f'
    exact .cons (Rep.dp f'.1 h1) (Reps.dp f'.2 h2)
end
mutual
/-- no address in it, dicts allowed -/
def D.flx : D → Bool
  | .non => true | .bl _ => true | .int _ => true | .str _ => true
  | .tup l => D.flxs l | .lst l => D.flxs l | .ref _ => false | .scr _ => false | .dct ks l => decide (ks.length = l.length) && D.flxs l
def D.flxs : List D → Bool
  | [] => true | d :: ds => D.flx d && D.flxs ds
end
def D.ok (d : D) : Prop := d.flat = true ∧ SeqAt.shaped d.py = true
/-! ### the meaning of operators -/
def MulOk (i j : Int) : Prop := CMul i j ∨ CMulX i j
def repOk (n : Nat) (k : Int) : Prop := -(2 ^ 62) < k ∧ k ≤ 1000 ∧ n ≤ 1000
def listIn (M : Mp) (d : D) : Option (List D) := match d with
  | .lst l => some l
  | .ref a => match M a with
    | some (.lst l) => some l
    | _ => none
  | _ => none
/-- + (fz: a new list is not to be changed) -/
@[simp] def addD (fz : Bool) (x y : D) (M : Mp) (Q : QE) : Prop := match x, y with
  | .int i, .int j => Q (.int (i + j)) M
  | .str i, .str j => i.length + j.length ≤ sizeLine ∧ Q (.str (i ++ j)) M
  | .tup l, .tup r => l.length + r.length ≤ sizeLine ∧ Q (.tup (l ++ r)) M
  | x, y => match listIn M x, listIn M y with
    | some l, some r => l.length + r.length ≤ sizeLine ∧ if fz = true then Q (.lst (l ++ r)) M else ∀ p, M p = none → Q (.ref p) (M.upd p (.lst (l ++ r)))
    | _, _ => False
@[simp] def subD (x y : D) (M : Mp) (Q : QE) : Prop := match x, y with
  | .int i, .int j => Q (.int (i - j)) M
  | _, _ => False
@[simp] def mulD (fz : Bool) (x y : D) (M : Mp) (Q : QE) : Prop := match x, y with
  | .int i, .int j => MulOk i j ∧ Q (.int (i * j)) M
  | .str s, .int k => 0 < s.length ∧ 2 ≤ k ∧ s.length * k.toNat ≤ 16777216 ∧ Q (.str ⟨(List.replicate k.toNat s.cps).foldl (· ++ ·) #[]⟩) M
  | .tup l, .int k => repOk l.length k ∧ Q (.tup (List.replicate k.toNat l).flatten) M
  | .lst l, .int k => repOk l.length k ∧ if fz = true then Q (.lst (List.replicate k.toNat l).flatten) M else ∀ p, M p = none → Q (.ref p) (M.upd p (.lst (List.replicate k.toNat l).flatten))
  | _, _ => False
def DivOk (j : Int) : Prop := 0 < j ∧ j.natAbs.log2 < 9000
@[simp] def divD (x y : D) (M : Mp) (Q : QE) : Prop := match x, y with
  | .int i, .int j => DivOk j ∧ Q (.int (i / j)) M
  | _, _ => False
@[simp] def modD (x y : D) (M : Mp) (Q : QE) : Prop := match x, y with
  | .int i, .int j => 0 < j ∧ Q (.int (i % j)) M
  | _, _ => False
def PowOk (i j : Int) : Prop := 0 ≤ j ∧ (Builtin.Int.intBits i : Int) * j ≤ 2 ^ 27
@[simp] def powD (x y : D) (M : Mp) (Q : QE) : Prop := match x, y with
  | .int i, .int j => PowOk i j ∧ Q (.int (i ^ j.toNat)) M
  | _, _ => False
@[simp] def shlD (x y : D) (M : Mp) (Q : QE) : Prop := match x, y with
  | .int i, .int j => CShl i j ∧ Q (.int (i * 2 ^ j.toNat)) M
  | _, _ => False
def binD (op : Operator) (fz : Bool) : D → D → Mp → QE → Prop := match op with
  | .Add => addD fz | .Sub => subD | .Mult => mulD fz | .FloorDiv => divD | .Mod => modD | .Pow => powD | .LShift => shlD
  | _ => fun _ _ _ _ => False
/-- an operation on two values keeps to its meaning -/
def OpD (X : Cx) (f : Value → Value → Sem Value) (g : D → D → Mp → QE → Prop) : Prop :=
  ∃ r : R2, OpR X f r ∧ ∀ (d1 d2 : D) (x y : V) (M : Mp) (H : Hp) (Q : QE), AbsM (wd X) M H → Rep (wd X) M H d1 x → Rep (wd X) M H d2 y → g d1 d2 M Q → r x y H (lft (wd X) M H Q)
theorem listIn_rep {W : Wd} (A : AbsM W M H) {d : D} {x : V} {l : List D} (h : Rep W M H d x) (e : listIn M d = some l) : ∃ a xs, x = .ref a ∧ H a = some (.lst xs) ∧ Reps W M H l xs := by
  cases d with
  | lst l' =>
    cases e
    obtain ⟨a, xs, rfl, _, s, r⟩ := h
    exact ⟨a, xs, rfl, s, r⟩
  | ref a =>
    have h' : x = .ref a := h
    unfold listIn at e
    simp only at e
    split at e
    · rename_i l' q
      cases e
      obtain ⟨xs, h1, h2⟩ := A.ob a _ q
      exact ⟨a, xs, h', h1, h2⟩
    · cases e
  | _ => cases e
/-! ### dicts -/
def keyD : D → Option Key
  | .int i => some (.inl i)
  | .str s => some (.inr s)
  | _ => none
theorem keyD_rep {W : Wd} {d : D} {x : V} {k : Key} (h : Rep W M H d x) (e : keyD d = some k) : x = kV k := by
  cases d <;> cases e <;> exact h
def valD (kvs : List (Key × D)) (k : Key) : Option D := (kvs.find? fun kv => decide (kv.1 = k)).map (·.2)
def putD (kvs : List (Key × D)) (k : Key) (d : D) : List (Key × D) :=
  if (kvs.any fun kv => decide (kv.1 = k)) = true then kvs.map (fun kv => if kv.1 = k then (kv.1, d) else kv) else kvs ++ [(k, d)]
theorem val_rep {W : Wd} {k : Key} : ∀ {kvs : List (Key × D)} {vs : List V}, Reps W M H (kvs.map (·.2)) vs →
    (valD kvs k = none → valV ((kvs.map (·.1)).zip vs) k = none) ∧ ∀ d, valD kvs k = some d → ∃ v, valV ((kvs.map (·.1)).zip vs) k = some v ∧ Rep W M H d v
  | [], _, r => by rw [show _ = _ from r]; exact ⟨fun _ => rfl, fun d h => by cases h⟩
  | kv :: kvs, _, r => by
    obtain ⟨v, w, rfl, h1, h2⟩ := r
    obtain ⟨i1, i2⟩ := val_rep (k := k) h2
    rw [List.map_cons, List.zip_cons_cons]
    by_cases e : kv.1 = k
    · refine ⟨fun z => ?_, fun d z => ?_⟩
      · simp [valD, List.find?_cons, e] at z
      · simp [valD, List.find?_cons, e] at z
        subst z
        exact ⟨v, by rw [valV_pos e], h1⟩
    · refine ⟨fun z => ?_, fun d z => ?_⟩
      · rw [valV_neg e]
        exact i1 (by simpa [valD, List.find?_cons, e] using z)
      · rw [valV_neg e]
        exact i2 d (by simpa [valD, List.find?_cons, e] using z)
theorem any_zip {k : Key} : ∀ {kvs : List (Key × D)} {vs : List V}, kvs.length = vs.length → (((kvs.map (·.1)).zip vs).any fun kv => decide (kv.1 = k)) = kvs.any fun kv => decide (kv.1 = k)
  | [], _, _ => rfl
  | _ :: _, [], h => by cases h
  | kv :: kvs, v :: vs, h => by
    rw [List.map_cons, List.zip_cons_cons, List.any_cons, List.any_cons, any_zip (by simpa using h)]
theorem map_put {W : Wd} {k : Key} {d : D} {y : V} (ry : Rep W M H d y) : ∀ {kvs : List (Key × D)} {vs : List V}, Reps W M H (kvs.map (·.2)) vs →
    ∃ vs', ((kvs.map (·.1)).zip vs).map (fun kv => if kv.1 = k then (kv.1, y) else kv) = ((kvs.map fun kv => if kv.1 = k then (kv.1, d) else kv).map (·.1)).zip vs' ∧ Reps W M H ((kvs.map fun kv => if kv.1 = k then (kv.1, d) else kv).map (·.2)) vs'
  | [], _, r => by rw [show _ = _ from r]; exact ⟨[], rfl, rfl⟩
  | kv :: kvs, _, r => by
    obtain ⟨v, w, rfl, h1, h2⟩ := r
    obtain ⟨vs', e1, e2⟩ := map_put ry (k := k) h2
    by_cases e : kv.1 = k
    · refine ⟨y :: vs', ?_, y, vs', ?_, ?_, e2⟩
      · simp only [List.map_cons, List.zip_cons_cons, e1, e, if_true]
      · rfl
      · show Rep W M H (if kv.1 = k then (kv.1, d) else kv).2 y
        rw [if_pos e]; exact ry
    · refine ⟨v :: vs', ?_, v, vs', rfl, ?_, e2⟩
      · simp only [List.map_cons, List.zip_cons_cons, e1, e, if_false]
      · show Rep W M H (if kv.1 = k then (kv.1, d) else kv).2 v
        rw [if_neg e]; exact h1
theorem put_rep {W : Wd} {k : Key} {d : D} {y : V} {kvs : List (Key × D)} {vs : List V} (ry : Rep W M H d y) (r : Reps W M H (kvs.map (·.2)) vs) :
    ∃ vs', putK ((kvs.map (·.1)).zip vs) k y = ((putD kvs k d).map (·.1)).zip vs' ∧ Reps W M H ((putD kvs k d).map (·.2)) vs' := by
  have hl : kvs.length = vs.length := by have := r.length; simpa using this
  unfold putK putD
  rw [any_zip hl]
  by_cases q : (kvs.any fun kv => decide (kv.1 = k)) = true
  · rw [if_pos q, if_pos q]
    exact map_put ry r
  · rw [if_neg q, if_neg q]
    refine ⟨vs ++ [y], ?_, ?_⟩
    · rw [List.map_append, List.zip_append (by simpa using hl)]; rfl
    · rw [List.map_append]
      exact r.append ⟨y, [], rfl, ry, rfl⟩
/-- the dict at a value -/
def dicIn (M : Mp) (x : D) : Option (List (Key × D)) := match x with
  | .dct ks l => if ks.length = l.length then some (ks.zip l) else none
  | .ref a => match M a with
    | some (.dic kvs) => some kvs
    | _ => none
  | _ => none
theorem zip_12 : ∀ {ks : List Key} {l : List D}, ks.length = l.length → (ks.zip l).map (·.1) = ks ∧ (ks.zip l).map (·.2) = l := fun h =>
  ⟨List.map_fst_zip (Nat.le_of_eq h), List.map_snd_zip (Nat.le_of_eq h.symm)⟩
theorem dicIn_rep {W : Wd} (A : AbsM W M H) {d : D} {x : V} {kvs : List (Key × D)} (h : Rep W M H d x) (e : dicIn M d = some kvs) : ∃ a vs, x = .ref a ∧ H a = some (.dK ((kvs.map (·.1)).zip vs)) ∧ Reps W M H (kvs.map (·.2)) vs := by
  cases d with
  | dct ks l =>
    unfold dicIn at e
    simp only at e
    split at e
    · rename_i hl
      cases e
      obtain ⟨a, xs, rfl, _, s, hl2, r⟩ := h
      obtain ⟨e1, e2⟩ := zip_12 hl
      exact ⟨a, xs, rfl, by rw [e1]; exact s, by rw [e2]; exact r⟩
    · cases e
  | ref a =>
    have h' : x = .ref a := h
    unfold dicIn at e
    simp only at e
    split at e
    · rename_i l' q
      cases e
      obtain ⟨vs, h1, h2⟩ := A.ob a _ q
      exact ⟨a, vs, h', h1, h2⟩
    · cases e
  | _ => cases e
/-- what a dict holds at a key -/
def getDic (M : Mp) (x i : D) : Option (Option D) := match dicIn M x, keyD i with
  | some kvs, some k => some (valD kvs k)
  | _, _ => none
theorem getDic_rep {W : Wd} (A : AbsM W M H) {d i : D} {x y : V} {o : Option D} (h : Rep W M H d x) (hi : Rep W M H i y) (e : getDic M d i = some o) : ∃ a r, x = .ref a ∧ DGet H a y r ∧ (o = none → r = none) ∧ ∀ d', o = some d' → ∃ v, r = some v ∧ Rep W M H d' v := by
  unfold getDic at e
  split at e
  · rename_i kvs k e1 e2
    cases e
    obtain ⟨a, vs, rfl, h1, h2⟩ := dicIn_rep A h e1
    obtain ⟨i1, i2⟩ := val_rep (k := k) h2
    have hy := keyD_rep hi e2
    subst hy
    exact ⟨a, _, rfl, DGet.k h1, i1, i2⟩
  · cases e
end
/-- a sequence's items -/
def seqIn (M : Mp) (d : D) : Option (List D) := match d with
  | .tup l => some l
  | .scr ns => some (ns.map D.int)
  | d => listIn M d
theorem reps_ints {W : Wd} {M : Mp} {H : Hp} (ns : List Int) : Reps W M H (ns.map D.int) (ns.map V.int) := by
  induction ns with
  | nil => rfl
  | cons i r ih => exact ⟨_, _, rfl, rfl, ih⟩
theorem seqIn_rep {W : Wd} {M : Mp} {H : Hp} (A : AbsM W M H) {d : D} {x : V} {l : List D} (h : Rep W M H d x) (e : seqIn M d = some l) :
    ∃ a xs, x = .ref a ∧ (SqL W.K H a xs ∨ SqT W.K H a xs) ∧ Reps W M H l xs := by
  cases d with
  | tup l' =>
    cases e
    obtain ⟨a, xs, rfl, s, r⟩ := h
    exact ⟨a, xs, rfl, .inr s, r⟩
  | scr ns =>
    cases e
    obtain ⟨a, rfl, s⟩ := h
    exact ⟨a, _, rfl, .inl s.seq, reps_ints ns⟩
  | lst l' =>
    obtain ⟨a, xs, rfl, s, r⟩ := listIn_rep A h e
    exact ⟨a, xs, rfl, .inl (SqL.of s), r⟩
  | ref b =>
    obtain ⟨a, xs, rfl, s, r⟩ := listIn_rep A h e
    exact ⟨a, xs, rfl, .inl (SqL.of s), r⟩
  | _ => cases e
end Ow
namespace Ow
open PySem PySem.Spec PyProof.Rows L2
variable [Tb] [Og]
theorem tuple_mul1 (l : Addr) (items : Array Value) (n : Nat) (dd : Option Addr) (sl : Array (Option Value)) (x : Int) (u : Tok) (c0 : (decide (x < -(2 ^ 63)) || decide (x ≥ 2 ^ 63)) = false) (c1 : (items.isEmpty || x == 1) = true) :
    Meets (Builtin.«tuple.__mul__» ⟨[.ref l, .int x u], []⟩) (fun _ R s => s.heap.get? l = some { cls := .type "tuple", dict := dd, data := .seq items n, slots := sl } ∧ R (.ok (.ret (Value.ref l))) s) :=
  .of_wp fun prog w A R s h => by
    obtain ⟨hp, g, d, tk, os⟩ := s
    obtain ⟨hl, h⟩ := h
    have f1 := AutoSeq1.idx_int
    wp_walk using wpAny_loadPart' hl
    simp only [c0, Bool.false_eq_true, if_false]
    wp_walk using wpAny_loadPart' hl
    exact ⟨_, rfl, h⟩
theorem tuple_mul0 (l : Addr) (items : Array Value) (n : Nat) (dd : Option Addr) (sl : Array (Option Value)) (x : Int) (u : Tok) (c0 : (decide (x < -(2 ^ 63)) || decide (x ≥ 2 ^ 63)) = false) (c1 : (items.isEmpty || x == 1) = false) (c2 : (decide (x ≤ 0) || items.isEmpty) = true) :
    Meets (Builtin.«tuple.__mul__» ⟨[.ref l, .int x u], []⟩) (fun _ R s => s.heap.get? l = some { cls := .type "tuple", dict := dd, data := .seq items n, slots := sl } ∧
      R (.ok (.ret (Value.ref s.heap.objs.size))) { s with heap := s.heap.push { cls := Value.type "tuple", data := Data.seq #[] }, toks := s.toks }) :=
  .of_wp fun prog w A R s h => by
    obtain ⟨hp, g, d, tk, os⟩ := s
    obtain ⟨hl, h⟩ := h
    have f1 := AutoSeq1.idx_int
    wp_walk using wpAny_loadPart' hl
    simp only [c0, Bool.false_eq_true, if_false]
    wp_walk using wpAny_loadPart' hl
    exact ⟨_, rfl, h⟩
/-- t * k, for any t and k that are not great -/
theorem op_mulT {X : Cx} : OpR X (binaryOp .Mult) (fun x y H Q => ∃ l k xs, x = .ref l ∧ y = .int k ∧ SqT X.K H l xs ∧ -(2 ^ 62) < k ∧ k ≤ 1000 ∧ xs.length ≤ 1000 ∧
    (xs = [] ∨ k = 1 → Q (.ref l) H) ∧ (xs ≠ [] → k ≠ 1 → ∀ p, H p = none → Q (.ref p) (upd H p (.tup (List.replicate k.toNat xs).flatten)))) := by
  intro pins s σ H x y v u Q I rx ry h
  obtain ⟨l, k, xs, rfl, rfl, hT, h0, h1, hz, q1, q2⟩ := h
  by_cases hne : xs ≠ [] ∧ 2 ≤ k
  · exact op_repT pins s σ H _ _ v u Q I rx ry ⟨l, k, xs, rfl, rfl, hT, hne.1, hne.2, h1, hz, q2 hne.1 (by omega)⟩
  · have rx' : v = Value.ref l := rx
    subst rx'
    obtain ⟨t, rfl⟩ := ry
    obtain ⟨its, r, ⟨⟨cls, dd, data, sl⟩, ho, hc, n, hd⟩, hs⟩ := I.tuple hT
    have hc' : cls = .type "tuple" := hc
    have hd' : data = .seq its.toArray n := hd
    subst hc' hd'
    have len : its.length = xs.length := r.length.symm
    have emp : its.toArray.isEmpty = xs.isEmpty := by
      cases its <;> cases xs <;> simp_all
    have c0 : (decide (k < -(2 ^ 63)) || decide (k ≥ 2 ^ 63)) = false := by
      rw [decide_eq_false (by omega), decide_eq_false (by omega)]; rfl
    by_cases e1 : xs = [] ∨ k = 1
    · have c1 : (its.toArray.isEmpty || k == 1) = true := by
        rw [emp]
        rcases e1 with e | e
        · subst e; rfl
        · subst e; simp
      exact wpAny_binaryOp_repeat_ref (T := "tuple") (U := "int") (by decide) ⟨_, ho, rfl⟩ (fun s' => typeIs_int s' k t) noFill_tuple_mul F.fills_int_mul F.slot_int_rmul repeat_tuple F.slot_int_index.lookup
        (call_meets F.slot_int_rmul (typeIs_int s k t) F.entry_int_rmul (F.args_int_rmul_2 _ _) (int_rmul_tuple k t l its.toArray n dd sl)
          ⟨ho, rfl, ⟨_, ho, rfl⟩, call_meets F.slot_tuple_mul ⟨_, ho, rfl⟩ F.entry_tuple_mul (F.args_tuple_mul_2 _ _) (tuple_mul1 l its.toArray n dd sl k t c0 c1) ⟨ho, ⟨.ref l, H, I, rfl, q1 e1⟩⟩⟩)
    · have hx : xs ≠ [] := fun e => e1 (.inl e)
      have hk : k ≠ 1 := fun e => e1 (.inr e)
      have hk0 : k ≤ 0 := by
        have : ¬ 2 ≤ k := fun z => hne ⟨hx, z⟩
        omega
      have ex : xs.isEmpty = false := by
        cases xs with
        | nil => exact absurd rfl hx
        | cons _ _ => rfl
      have c1 : (its.toArray.isEmpty || k == 1) = false := by
        rw [emp, ex, Bool.false_or]
        exact beq_eq_false_iff_ne.mpr hk
      have c2 : (decide (k ≤ 0) || its.toArray.isEmpty) = true := by
        rw [decide_eq_true hk0]; rfl
      have z : k.toNat = 0 := by omega
      have q3 := q2 hx hk s.heap.objs.size (I.hok.fresh (Nat.le_refl _))
      rw [z] at q3
      refine wpAny_binaryOp_repeat_ref (T := "tuple") (U := "int") (by decide) ⟨_, ho, rfl⟩ (fun s' => typeIs_int s' k t) noFill_tuple_mul F.fills_int_mul F.slot_int_rmul repeat_tuple F.slot_int_index.lookup
        (call_meets F.slot_int_rmul (typeIs_int s k t) F.entry_int_rmul (F.args_int_rmul_2 _ _) (int_rmul_tuple k t l its.toArray n dd sl)
          ⟨ho, rfl, ⟨_, ho, rfl⟩, call_meets F.slot_tuple_mul ⟨_, ho, rfl⟩ F.entry_tuple_mul (F.args_tuple_mul_2 _ _) (tuple_mul0 l its.toArray n dd sl k t c0 c1 c2) ⟨ho, ?_⟩⟩)
      refine ⟨.ref s.heap.objs.size, _, I.laid (t' := s.toks) (o := .tup []) (fun b ob q => Heap.get?_push_of_some _ q) (Nat.le_refl _) ⟨Nat.zero_le _, [], .nil, IsTup.new _ _⟩, rfl, q3⟩
theorem rep_size (x : Array Nat) : ∀ (k : Nat) (a : Array Nat), ((List.replicate k x).foldl (· ++ ·) a).size = a.size + x.size * k
  | 0, a => by simp
  | k + 1, a => by
    rw [List.replicate_succ, List.foldl_cons, rep_size x k, Array.size_append, Nat.mul_succ]
    omega
/-- a text, written k times -/
theorem op_mulS {X : Cx} : OpR X (binaryOp .Mult) (fun x y H Q => ∃ z k, x = .str z ∧ y = .int k ∧ 0 < z.length ∧ 2 ≤ k ∧ z.length * k.toNat ≤ 16777216 ∧ Q (.str ⟨(List.replicate k.toNat z.cps).foldl (· ++ ·) #[]⟩) H) := by
  intro pins s σ H x y v u Q I rx ry h
  obtain ⟨z, k, rfl, rfl, h0, h1, h2, q⟩ := h
  obtain ⟨t, rfl⟩ := rx
  obtain ⟨t', rfl⟩ := ry
  have h3 : k.toNat ≤ 16777216 := Nat.le_trans (Nat.le_mul_of_pos_left _ h0) h2
  have h4 : z.length ≤ 16777216 := Nat.le_trans (Nat.le_mul_of_pos_right _ (by omega)) h2
  refine P.mul_str (by rw [decide_eq_false (by omega), decide_eq_false (by omega)]; rfl) (fun _ _ => ?_) (fun _ _ => ?_) ?_
  · have : (16777216 : Int) ≤ (2 ^ 63 - 1) / k := by
      rw [Int.le_ediv_iff_mul_le (by omega)]
      omega
    omega
  · unfold Builtin.Str.tooLong
    rw [decide_eq_false]
    rw [sizeLine_eq]
    omega
  · rw [if_neg (by omega), if_neg]
    · exact ⟨by show (Array.size _) ≤ _; rw [rep_size, sizeLine_eq]; show 0 + z.length * k.toNat ≤ _; omega, ⟨.str _, H, I.tok _, ⟨_, rfl⟩, q⟩⟩
    · rw [Bool.or_eq_true, beq_iff_eq, beq_iff_eq]
      omega
section
variable {X : Cx} {fz : Bool}
/-- an int operation by its rule -/
theorem opD_int {f : Value → Value → Sem Value} {C : Int → Int → Prop} {g : Int → Int → Int} {gD : D → D → Mp → QE → Prop} (h : OpR X f (rI C fun i j => .int (g i j)))
    (hg : ∀ d1 d2 M Q, gD d1 d2 M Q → ∃ i j, d1 = .int i ∧ d2 = .int j ∧ C i j ∧ Q (.int (g i j)) M) : OpD X f gD := by
  refine ⟨_, h, fun d1 d2 x y M H Q A r1 r2 z => ?_⟩
  obtain ⟨i, j, rfl, rfl, c, q⟩ := hg _ _ _ _ z
  exact ⟨i, j, r1, r2, c, lft.int A q⟩
theorem op_subD : OpD X (binaryOp .Sub) subD := by
  refine opD_int (C := fun _ _ => True) (g := fun i j => i - j) (fun pins s σ H x y v u Q I rx ry ⟨i, j, e1, e2, _, q⟩ => op_sub pins s σ H x y v u Q I rx ry ⟨i, j, e1, e2, q⟩) fun d1 d2 M Q z => ?_
  unfold subD at z; split at z
  · exact ⟨_, _, rfl, rfl, trivial, z⟩
  · exact z.elim
theorem op_divD : OpD X (binaryOp .FloorDiv) divD := by
  refine opD_int op_fdivW fun d1 d2 M Q z => ?_
  unfold divD at z; split at z
  · exact ⟨_, _, rfl, rfl, z.1, z.2⟩
  · exact z.elim
theorem op_modD : OpD X (binaryOp .Mod) modD := by
  refine opD_int op_mod fun d1 d2 M Q z => ?_
  unfold modD at z; split at z
  · exact ⟨_, _, rfl, rfl, z.1, z.2⟩
  · exact z.elim
theorem op_powW : OpR X (binaryOp .Pow) (rI PowOk fun i j => .int (i ^ j.toNat)) := opI fun _ _ _ _ _ _ _ hc q => pow_int hc.1 hc.2 q
theorem op_powD : OpD X (binaryOp .Pow) powD := by
  refine opD_int op_powW fun d1 d2 M Q z => ?_
  unfold powD at z; split at z
  · exact ⟨_, _, rfl, rfl, z.1, z.2⟩
  · exact z.elim
theorem op_shlD : OpD X (binaryOp .LShift) shlD := by
  refine opD_int op_shlW fun d1 d2 M Q z => ?_
  unfold shlD at z; split at z
  · exact ⟨_, _, rfl, rfl, z.1, z.2⟩
  · exact z.elim
theorem MulOk.ok {i j : Int} (h : MulOk i j) : IntMulOk i j := h.elim CMul.ok CMulX.ok
theorem op_mulA : OpR X (binaryOp .Mult) (rI MulOk fun i j => .int (i * j)) := opI fun _ _ _ _ _ _ _ hc q => mul_int q hc.ok
/-- two lists -/
theorem rCat_of {d1 d2 : D} {x y : V} {M : Mp} {H : Hp} {Q : QE} {l r : List D} (A : AbsM (wd X) M H) (r1 : Rep (wd X) M H d1 x) (r2 : Rep (wd X) M H d2 y) (e1 : listIn M d1 = some l) (e2 : listIn M d2 = some r)
    (z : l.length + r.length ≤ sizeLine ∧ if fz = true then Q (.lst (l ++ r)) M else ∀ p, M p = none → Q (.ref p) (M.upd p (.lst (l ++ r)))) : rCat x y H (lft (wd X) M H Q) := by
  obtain ⟨a, xs, rfl, ha, ra⟩ := listIn_rep A r1 e1
  obtain ⟨b, ys, rfl, hb, rb⟩ := listIn_rep A r2 e2
  refine ⟨a, b, xs, ys, rfl, rfl, ha, hb, by rw [← ra.length, ← rb.length]; exact z.1, fun p hp => ?_⟩
  cases fz with
  | true => exact lft.newL A (ra.append rb) hp z.2
  | false => exact lft.newM A (ra.append rb) hp (z.2 p)
theorem op_addD : OpD X (binaryOp .Add) (addD fz) := by
  refine ⟨_, OpR.or op_add (OpR.or op_add_str (OpR.or op_catA op_cat)), fun d1 d2 x y M H Q A r1 r2 z => ?_⟩
  unfold addD at z; split at z
  · exact .inl ⟨_, _, r1, r2, lft.int A z⟩
  · exact .inr (.inl ⟨_, _, r1, r2, z.1, lft.str A z.2⟩)
  · rename_i l r
    obtain ⟨a, xs, rfl, sa, ra⟩ := r1
    obtain ⟨b, ys, rfl, sb, rb⟩ := r2
    refine .inr (.inr (.inl ⟨a, b, xs, ys, rfl, rfl, sa, sb, by rw [← ra.length, ← rb.length]; exact z.1, fun e => ?_, fun _ e => ?_, fun _ _ p hp => lft.newT A (ra.append rb) hp z.2⟩))
    · have e' : l = [] := List.eq_nil_of_length_eq_zero (by rw [ra.length, e]; rfl)
      subst e'
      exact lft.pure A (d := .tup r) ⟨b, ys, rfl, sb, rb⟩ z.2
    · have e' : r = [] := List.eq_nil_of_length_eq_zero (by rw [rb.length, e]; rfl)
      subst e'
      refine lft.pure A (d := .tup (l ++ [])) ⟨a, xs, rfl, sa, ?_⟩ z.2
      rw [List.append_nil]; exact ra
  · split at z
    · rename_i l r e1 e2
      exact .inr (.inr (.inr (rCat_of A r1 r2 e1 e2 z)))
    · exact z.elim
theorem op_mulD : OpD X (binaryOp .Mult) (mulD fz) := by
  refine ⟨_, OpR.or op_mulA (OpR.or op_mulT (OpR.or op_rep op_mulS)), fun d1 d2 x y M H Q A r1 r2 z => ?_⟩
  unfold mulD at z; split at z
  · exact .inl ⟨_, _, r1, r2, z.1, lft.int A z.2⟩
  · exact .inr (.inr (.inr ⟨_, _, r1, r2, z.1, z.2.1, z.2.2.1, lft.str A z.2.2.2⟩))
  · rename_i l k
    obtain ⟨a, xs, rfl, sa, ra⟩ := r1
    obtain ⟨⟨k0, k1, k2⟩, q⟩ := z
    refine .inr (.inl ⟨a, k, xs, rfl, r2, sa, k0, k1, by rw [← ra.length]; exact k2, fun e => ?_, fun _ _ p hp => lft.newT A (ra.flat _) hp q⟩)
    have e' : (List.replicate k.toNat l).flatten = l := by
      rcases e with e | e
      · have : l = [] := List.eq_nil_of_length_eq_zero (by rw [ra.length, e]; rfl)
        subst this
        induction k.toNat with
        | zero => rfl
        | succ n ih => rw [List.replicate_succ, List.flatten_cons, ih]; rfl
      · subst e; simp
    rw [e'] at q
    exact lft.pure A (d := .tup l) ⟨a, xs, rfl, sa, ra⟩ q
  · rename_i l k
    obtain ⟨a, xs, rfl, _, sa, ra⟩ := r1
    obtain ⟨⟨k0, k1, k2⟩, q⟩ := z
    refine .inr (.inr (.inl ⟨a, k, xs, rfl, r2, sa, by omega, by omega, ?_, fun p hp => ?_⟩))
    · rw [← ra.length]
      have : l.length * k.toNat ≤ 1000 * 1000 := Nat.mul_le_mul k2 (by omega)
      exact Nat.le_trans this (by decide)
    · cases fz with
      | true => exact lft.newL A (ra.flat _) hp q
      | false => exact lft.newM A (ra.flat _) hp (q p)
  · exact z.elim
theorem op_binD (op : Operator) : OpD X (binaryOp op) (binD op fz) := by
  cases op with
  | Add => exact op_addD
  | Sub => exact op_subD
  | Mult => exact op_mulD
  | FloorDiv => exact op_divD
  | Mod => exact op_modD
  | Pow => exact op_powD
  | LShift => exact op_shlD
  | _ => exact ⟨fun _ _ _ _ => False, fun _ _ _ _ _ _ _ _ _ _ _ _ h => h.elim, fun _ _ _ _ _ _ _ _ _ _ h => h⟩
end
end Ow
namespace Ow
open PySem PySem.Spec PyProof.Rows L2
variable [Tb] [Og]
def D.isNon : D → Bool | .non => true | _ => false
def ordD (p : Int → Int → Bool) (x y : D) (M : Mp) (Q : QE) : Prop := match x, y with
  | .int i, .int j => Q (.bl (p i j)) M
  | _, _ => False
def eqB (a b : D) : Bool := PyData.eqv a.py b.py
/-- == and != (neg) -/
def eqD (neg : Bool) (x y : D) (M : Mp) (Q : QE) : Prop := match x, y with
  | .int i, .int j => Q (.bl (neg ^^ decide (i = j))) M
  | .str i, .str j => Q (.bl (neg ^^ decide (i = j))) M
  | .bl i, .bl j => Q (.bl (neg ^^ decide (i = j))) M
  | .ref a, .lst [] => (match M a with
    | some (.lst l) => Q (.bl (neg ^^ l.isEmpty)) M
    | _ => False)
  | x, y => x.ok ∧ y.ok ∧ Q (.bl (neg ^^ eqB x y)) M
def isD (neg : Bool) (x y : D) (M : Mp) (Q : QE) : Prop := match x, y with
  | .bl a, .bl b => Q (.bl (neg ^^ decide (a = b))) M
  | x, .non => Q (.bl (neg ^^ x.isNon)) M
  | _, _ => False
def scalar : D → Bool
  | .non => true | .bl _ => true | .int _ => true | .str _ => true | _ => false
def strIn (i j : Str) : Bool := !(Builtin.Str.occurrences j i 0 j.length 1).isEmpty
/-- == of scalars -/
def eqS : D → D → Bool
  | .non, .non => true
  | .bl a, .bl b => a == b
  | .bl a, .int b => (if a then 1 else 0) == b
  | .int a, .bl b => a == (if b then 1 else 0)
  | .int a, .int b => a == b
  | .str a, .str b => a == b
  | _, _ => false
def inD (neg : Bool) (x y : D) (M : Mp) (Q : QE) : Prop := match y with
  | .str j => (match x with
    | .str i => Q (.bl (neg ^^ strIn i j)) M
    | _ => False)
  | y => (match getDic M y x with
    | some o => Q (.bl (neg ^^ o.isSome)) M
    | none => (match seqIn M y with
      | some l => scalar x = true ∧ l.all scalar = true ∧ Q (.bl (neg ^^ l.any fun z => eqS z x)) M
      | none => False))
def cmpD (op : CmpOp) : D → D → Mp → QE → Prop := match op with
  | .Lt => ordD fun i j => decide (i < j)
  | .LtE => ordD fun i j => decide (i ≤ j)
  | .Gt => ordD fun i j => decide (j < i)
  | .GtE => ordD fun i j => decide (j ≤ i)
  | .Eq => eqD false
  | .NotEq => eqD true
  | .Is => isD false
  | .IsNot => isD true
  | .In => inD false
  | .NotIn => inD true
section
variable {X : Cx}
theorem ord_of {f : Value → Value → Sem Value} {p : Int → Int → Bool} (h : OpR X f (rI0 fun i j => .bl (p i j))) : OpD X f (ordD p) := by
  refine ⟨_, h, fun d1 d2 x y M H Q A r1 r2 z => ?_⟩
  unfold ordD at z; split at z
  · exact ⟨_, _, r1, r2, lft.bl A z⟩
  · exact z.elim
/-- a list of anything against the empty one -/
def rEqE (neg : Bool) : R2 := fun x y H Q => ∃ (a b : Addr) (xs : List V), x = .ref a ∧ y = .ref b ∧ H a = some (.lst xs) ∧ H b = some (.lst []) ∧ Q (.bl (neg ^^ xs.isEmpty)) H
theorem op_eqE (hu : X.A.units + 64 < cLine) : OpR X (compareOp .Eq) (rEqE false) := by
  intro pins s σ H x y v u Q I rx ry h
  obtain ⟨a, b, xs, rfl, rfl, ha, hb, q⟩ := h
  cases rx
  cases ry
  obtain ⟨us, r1, p1, _⟩ := I.list (.inl (.inl ha))
  obtain ⟨ws, r2, p2, _⟩ := I.list (.inl (.inl hb))
  cases r2
  cases xs with
  | nil =>
    cases r1
    exact SeqAt.RcAt.lists (e := fun _ => true) p1.isList p2.isList rfl (by omega) (fun j h1 h2 => absurd h1 (by simp)) X.prog X.w _ _ ⟨.bl true, H, I, rfl, q⟩
  | cons z zs =>
    cases r1
    exact SeqAt.RcAt.lists_lengths p1.isList p2.isList (by simp) (by omega) X.prog X.w _ _ ⟨.bl false, H, I, rfl, q⟩
theorem op_neE (hu : X.A.units + 64 < cLine) : OpR X (compareOp .NotEq) (rEqE true) := by
  intro pins s σ H x y v u Q I rx ry h
  obtain ⟨a, b, xs, rfl, rfl, ha, hb, q⟩ := h
  cases rx
  cases ry
  obtain ⟨us, r1, p1, _⟩ := I.list (.inl (.inl ha))
  obtain ⟨ws, r2, p2, _⟩ := I.list (.inl (.inl hb))
  cases r2
  cases xs with
  | nil =>
    cases r1
    exact SeqAt.RcNeAt.lists (e := fun _ => true) p1.isList p2.isList rfl (by omega) (fun j h1 h2 => absurd h1 (by simp)) X.prog X.w _ _ ⟨.bl false, H, I, rfl, q⟩
  | cons z zs =>
    cases r1
    exact SeqAt.RcNeAt.lists_lengths p1.isList p2.isList (by simp) (by omega) X.prog X.w _ _ ⟨.bl true, H, I, rfl, q⟩
theorem op_eqD' (hu : X.A.units + 64 < cLine) : OpD X (compareOp .Eq) (eqD false) := by
  refine ⟨_, OpR.or op_eq (OpR.or (op_eqE hu) (op_eqD hu)), fun d1 d2 x y M H Q A r1 r2 z => ?_⟩
  unfold eqD at z; split at z
  · refine .inl ?_
    rename_i i j
    have r1' : x = .int i := r1
    have r2' : y = .int j := r2
    subst r1' r2'
    exact ⟨rfl, lft.bl A (by rw [Bool.false_xor] at z; simpa using z)⟩
  · refine .inl ?_
    rename_i i j
    have r1' : x = .str i := r1
    have r2' : y = .str j := r2
    subst r1' r2'
    exact ⟨rfl, lft.bl A (by rw [Bool.false_xor] at z; simpa using z)⟩
  · refine .inl ?_
    rename_i i j
    have r1' : x = .bl i := r1
    have r2' : y = .bl j := r2
    subst r1' r2'
    exact ⟨rfl, lft.bl A (by rw [Bool.false_xor] at z; simpa using z)⟩
  · rename_i a
    split at z
    · rename_i l hl
      obtain ⟨xs, h1, h2⟩ := A.ob a _ hl
      obtain ⟨b, ys, rfl, _, h3, h4⟩ := r2
      cases (show ys = [] from h4)
      cases (show x = .ref a from r1)
      have he : xs.isEmpty = l.isEmpty := by
        have := h2.length
        cases l <;> cases xs <;> first | rfl | (simp at this)
      exact .inr (.inl ⟨a, b, xs, rfl, rfl, h1, h3, lft.bl A (by rw [he]; exact z)⟩)
    · exact z.elim
  · obtain ⟨h1, h2, q⟩ := z
    exact .inr (.inr ⟨_, _, Rep.dp h1.1 r1, Rep.dp h2.1 r2, h1.2, h2.2, lft.bl A (by rw [Bool.false_xor] at q; exact q)⟩)
theorem op_neD' (hu : X.A.units + 64 < cLine) : OpD X (compareOp .NotEq) (eqD true) := by
  refine ⟨_, OpR.or op_ne (OpR.or (op_neE hu) (op_neD hu)), fun d1 d2 x y M H Q A r1 r2 z => ?_⟩
  unfold eqD at z; split at z
  · refine .inl ?_
    rename_i i j
    have r1' : x = .int i := r1
    have r2' : y = .int j := r2
    subst r1' r2'
    exact ⟨rfl, lft.bl A (by rw [Bool.true_xor] at z; simpa using z)⟩
  · refine .inl ?_
    rename_i i j
    have r1' : x = .str i := r1
    have r2' : y = .str j := r2
    subst r1' r2'
    exact ⟨rfl, lft.bl A (by rw [Bool.true_xor] at z; simpa using z)⟩
  · refine .inl ?_
    rename_i i j
    have r1' : x = .bl i := r1
    have r2' : y = .bl j := r2
    subst r1' r2'
    exact ⟨rfl, lft.bl A (by rw [Bool.true_xor] at z; simpa using z)⟩
  · rename_i a
    split at z
    · rename_i l hl
      obtain ⟨xs, h1, h2⟩ := A.ob a _ hl
      obtain ⟨b, ys, rfl, _, h3, h4⟩ := r2
      cases (show ys = [] from h4)
      cases (show x = .ref a from r1)
      have he : xs.isEmpty = l.isEmpty := by
        have := h2.length
        cases l <;> cases xs <;> first | rfl | (simp at this)
      exact .inr (.inl ⟨a, b, xs, rfl, rfl, h1, h3, lft.bl A (by rw [he]; exact z)⟩)
    · exact z.elim
  · obtain ⟨h1, h2, q⟩ := z
    exact .inr (.inr ⟨_, _, Rep.dp h1.1 r1, Rep.dp h2.1 r2, h1.2, h2.2, lft.bl A (by rw [Bool.true_xor] at q; exact q)⟩)
theorem isNon_rep {W : Wd} {M : Mp} {H : Hp} {d : D} {x : V} (h : Rep W M H d x) : decide (x = .non) = d.isNon := by
  cases d with
  | tup l => obtain ⟨a, xs, rfl, _⟩ := h; rfl
  | lst l => obtain ⟨a, xs, rfl, _⟩ := h; rfl
  | scr l => obtain ⟨a, rfl, _⟩ := h; rfl
  | dct ks l => obtain ⟨a, xs, rfl, _⟩ := h; rfl
  | _ => rw [show x = _ from h]; rfl
theorem op_isD : OpD X (compareOp .Is) (isD false) := by
  refine ⟨_, OpR.or op_isBl op_isN, fun d1 d2 x y M H Q A r1 r2 z => ?_⟩
  unfold isD at z; split at z
  · exact .inl ⟨_, _, r1, r2, lft.bl A (by rw [Bool.false_xor] at z; exact z)⟩
  · refine .inr ⟨r2, lft.bl A ?_⟩
    rw [isNon_rep r1]; rw [Bool.false_xor] at z; exact z
  · exact z.elim
theorem op_isntD : OpD X (compareOp .IsNot) (isD true) := by
  refine ⟨_, OpR.or op_notBl op_notN, fun d1 d2 x y M H Q A r1 r2 z => ?_⟩
  unfold isD at z; split at z
  · exact .inl ⟨_, _, r1, r2, lft.bl A (by rw [Bool.true_xor] at z; exact z)⟩
  · refine .inr ⟨r2, lft.bl A ?_⟩
    rw [isNon_rep r1]; rw [Bool.true_xor] at z; exact z
  · exact z.elim
theorem scalar_rep {W : Wd} {M : Mp} {H : Hp} {d : D} {x : V} (h : Rep W M H d x) (s : scalar d = true) : flatV x = true := by
  cases d <;> first | (cases s; done) | (rw [show x = _ from h]; rfl)
theorem eqS_rep {W : Wd} {M : Mp} {H : Hp} {d e : D} {x y : V} (h : Rep W M H d x) (h' : Rep W M H e y) (s : scalar d = true) (s' : scalar e = true) : eqV x y = eqS d e := by
  cases d <;> first | (cases s; done) | (rw [show x = _ from h]; cases e <;> first | (cases s'; done) | (rw [show y = _ from h']; rfl))
theorem scalars_rep {W : Wd} {M : Mp} {H : Hp} : ∀ {ds : List D} {xs : List V}, Reps W M H ds xs → ds.all scalar = true → xs.all flatV = true
  | [], _, r, _ => by rw [show _ = _ from r]; rfl
  | d :: ds, _, r, s => by
    obtain ⟨v, w, rfl, h1, h2⟩ := r
    rw [List.all_cons, Bool.and_eq_true] at s
    rw [List.all_cons, scalar_rep h1 s.1, scalars_rep h2 s.2]; rfl
theorem inV_rep {W : Wd} {M : Mp} {H : Hp} {d : D} {x : V} (h : Rep W M H d x) (s : scalar d = true) : ∀ {ds : List D} {xs : List V}, Reps W M H ds xs → ds.all scalar = true → inV x xs = ds.any fun z => eqS z d
  | [], _, r, _ => by rw [show _ = _ from r]; rfl
  | e :: ds, _, r, s' => by
    obtain ⟨v, w, rfl, h1, h2⟩ := r
    rw [List.all_cons, Bool.and_eq_true] at s'
    have ih := inV_rep h s h2 s'.2
    unfold inV at ih ⊢
    rw [List.any_cons, List.any_cons, eqS_rep h1 h s'.1 s, ih]
/-- in, of a dict -/
theorem op_in_dic (hu : X.A.units + 1 < cLine) : OpR X (compareOp .In) (fun x y H Q => ∃ a r, y = .ref a ∧ DGet H a x r ∧ Q (.bl r.isSome) H) := by
  intro pins s σ H x y v u Q I rx ry h
  obtain ⟨a, r, rfl, g, q⟩ := h
  cases ry
  exact d_in hu I g rx fun s3 I3 => ⟨.bl r.isSome, H, I3, rfl, q⟩
theorem op_notIn_dic (hu : X.A.units + 1 < cLine) : OpR X (compareOp .NotIn) (fun x y H Q => ∃ a r, y = .ref a ∧ DGet H a x r ∧ Q (.bl (!r.isSome)) H) := by
  intro pins s σ H x y v u Q I rx ry h
  obtain ⟨a, r, rfl, g, q⟩ := h
  cases ry
  exact d_notIn hu I g rx fun s3 I3 => ⟨.bl (!r.isSome), H, I3, rfl, q⟩
theorem op_inD (hu : X.A.units + 1 < cLine) : OpD X (compareOp .In) (inD false) := by
  refine ⟨_, OpR.or op_in_str (OpR.or (op_in_dic hu) op_in_seq), fun d1 d2 x y M H Q A r1 r2 z => ?_⟩
  unfold inD at z
  split at z
  · rename_i j
    split at z
    · rename_i i
      exact .inl ⟨i, j, r1, r2, lft.bl A (by rw [Bool.false_xor] at z; exact z)⟩
    · exact z.elim
  · split at z
    · rename_i o e
      obtain ⟨a, r, rfl, g, n1, n2⟩ := getDic_rep A r2 r1 e
      refine .inr (.inl ⟨a, r, rfl, g, lft.bl A ?_⟩)
      rw [Bool.false_xor] at z
      have : r.isSome = o.isSome := by
        cases o with
        | none => rw [n1 rfl]; rfl
        | some d' => obtain ⟨v, e2, _⟩ := n2 d' rfl; rw [e2]; rfl
      rw [this]; exact z
    · split at z
      · rename_i l e
        obtain ⟨a, xs, rfl, s, rs⟩ := seqIn_rep A r2 e
        obtain ⟨s1, s2, z⟩ := z
        refine .inr (.inr ⟨a, xs, rfl, s, scalar_rep r1 s1, scalars_rep rs s2, lft.bl A ?_⟩)
        rw [if_neg Bool.false_ne_true] at *
        rw [Bool.false_xor] at z
        rw [inV_rep r1 s1 rs s2]; exact z
      · exact z.elim
theorem op_notInD (hu : X.A.units + 1 < cLine) : OpD X (compareOp .NotIn) (inD true) := by
  refine ⟨_, OpR.or op_notIn_str (OpR.or (op_notIn_dic hu) op_notIn_seq), fun d1 d2 x y M H Q A r1 r2 z => ?_⟩
  unfold inD at z
  split at z
  · rename_i j
    split at z
    · rename_i i
      exact .inl ⟨i, j, r1, r2, lft.bl A (by rw [Bool.true_xor] at z; exact z)⟩
    · exact z.elim
  · split at z
    · rename_i o e
      obtain ⟨a, r, rfl, g, n1, n2⟩ := getDic_rep A r2 r1 e
      refine .inr (.inl ⟨a, r, rfl, g, lft.bl A ?_⟩)
      rw [Bool.true_xor] at z
      have : r.isSome = o.isSome := by
        cases o with
        | none => rw [n1 rfl]; rfl
        | some d' => obtain ⟨v, e2, _⟩ := n2 d' rfl; rw [e2]; rfl
      rw [this]; exact z
    · split at z
      · rename_i l e
        obtain ⟨a, xs, rfl, s, rs⟩ := seqIn_rep A r2 e
        obtain ⟨s1, s2, z⟩ := z
        refine .inr (.inr ⟨a, xs, rfl, s, scalar_rep r1 s1, scalars_rep rs s2, lft.bl A ?_⟩)
        rw [if_pos rfl] at *
        rw [Bool.true_xor] at z
        rw [inV_rep r1 s1 rs s2]; exact z
      · exact z.elim
theorem op_cmpD (hu : X.A.units + 64 < cLine) (op : CmpOp) : OpD X (compareOp op) (cmpD op) := by
  cases op with
  | Lt => exact ord_of op_lt
  | LtE => exact ord_of op_le
  | Gt => exact ord_of op_gt
  | GtE => exact ord_of op_ge
  | Eq => exact op_eqD' hu
  | NotEq => exact op_neD' hu
  | Is => exact op_isD
  | IsNot => exact op_isntD
  | In => exact op_inD (by omega)
  | NotIn => exact op_notInD (by omega)
/-! ### truth -/
@[simp] def truD (d : D) (M : Mp) (Q : Bool → Prop) : Prop := match d with
  | .non => Q false
  | .bl b => Q b
  | .int i => Q (i != 0)
  | .str s => s.length ≤ sizeLine ∧ Q ((s.length : Int) != 0)
  | .tup l => Q (!l.isEmpty)
  | .lst l => Q (!l.isEmpty)
  | _ => False
theorem isEmpty_reps {W : Wd} {M : Mp} {H : Hp} {ds : List D} {xs : List V} (r : Reps W M H ds xs) : ds.isEmpty = xs.isEmpty := by
  have := r.length
  cases ds <;> cases xs <;> simp_all
theorem tru_rep {W : Wd} {M : Mp} {H : Hp} {d : D} {x : V} {Q : Bool → Prop} (h : Rep W M H d x) (z : truD d M Q) : ∃ k, TruV W.K x H k ∧ Q k := by
  cases d with
  | non => rw [show x = _ from h]; exact ⟨_, rfl, z⟩
  | bl b => rw [show x = _ from h]; exact ⟨_, rfl, z⟩
  | int i => rw [show x = _ from h]; exact ⟨_, rfl, z⟩
  | str i => rw [show x = _ from h]; exact ⟨_, ⟨z.1, rfl⟩, z.2⟩
  | tup l =>
    obtain ⟨a, xs, rfl, s, r⟩ := h
    exact ⟨_, .inr (.inl ⟨xs, s, by rw [← isEmpty_reps r]⟩), z⟩
  | lst l =>
    obtain ⟨a, xs, rfl, _, s, r⟩ := h
    exact ⟨_, .inl ⟨xs, SqL.of s, by rw [← isEmpty_reps r]⟩, z⟩
  | _ => exact z.elim
end
end Ow
namespace Ow
open PySem PySem.Spec PyProof.Rows L2
variable [Tb] [Og]
def intsOf : List D → Option (List Int)
  | [] => some []
  | .int i :: r => (intsOf r).map (i :: ·)
  | _ :: _ => none
def boolsOf : List D → Option (List Bool)
  | [] => some []
  | .bl i :: r => (boolsOf r).map (i :: ·)
  | _ :: _ => none
theorem intsOf_map (l : List Int) : intsOf (l.map D.int) = some l := by
  induction l with
  | nil => rfl
  | cons i r ih => show (intsOf (r.map D.int)).map (i :: ·) = _; rw [ih]; rfl
theorem boolsOf_map (l : List Bool) : boolsOf (l.map D.bl) = some l := by
  induction l with
  | nil => rfl
  | cons i r ih => show (boolsOf (r.map D.bl)).map (i :: ·) = _; rw [ih]; rfl
theorem intsOf_rep {W : Wd} {M : Mp} {H : Hp} : ∀ {ds : List D} {xs : List V} {ns : List Int}, Reps W M H ds xs → intsOf ds = some ns → xs = ns.map V.int
  | [], _, _, r, e => by cases e; exact r
  | .int i :: ds, _, ns, r, e => by
    obtain ⟨v, vs, rfl, h1, h2⟩ := r
    unfold intsOf at e
    cases q : intsOf ds with
    | none => rw [q] at e; cases e
    | some ms =>
      rw [q] at e; cases e
      rw [intsOf_rep h2 q, show v = .int i from h1]; rfl
  | .non :: _, _, _, _, e => by cases e
  | .bl _ :: _, _, _, _, e => by cases e
  | .str _ :: _, _, _, _, e => by cases e
  | .tup _ :: _, _, _, _, e => by cases e
  | .lst _ :: _, _, _, _, e => by cases e
  | .ref _ :: _, _, _, _, e => by cases e
  | .scr _ :: _, _, _, _, e => by cases e
  | .dct _ _ :: _, _, _, _, e => by cases e
theorem boolsOf_rep {W : Wd} {M : Mp} {H : Hp} : ∀ {ds : List D} {xs : List V} {ns : List Bool}, Reps W M H ds xs → boolsOf ds = some ns → xs = ns.map V.bl
  | [], _, _, r, e => by cases e; exact r
  | .bl i :: ds, _, ns, r, e => by
    obtain ⟨v, vs, rfl, h1, h2⟩ := r
    unfold boolsOf at e
    cases q : boolsOf ds with
    | none => rw [q] at e; cases e
    | some ms =>
      rw [q] at e; cases e
      rw [boolsOf_rep h2 q, show v = .bl i from h1]; rfl
  | .non :: _, _, _, _, e => by cases e
  | .int _ :: _, _, _, _, e => by cases e
  | .str _ :: _, _, _, _, e => by cases e
  | .tup _ :: _, _, _, _, e => by cases e
  | .lst _ :: _, _, _, _, e => by cases e
  | .ref _ :: _, _, _, _, e => by cases e
  | .scr _ :: _, _, _, _, e => by cases e
  | .dct _ _ :: _, _, _, _, e => by cases e
def maxL : List Int → Int
  | [] => 0
  | i :: r => r.foldl (fun a b => if a < b then b else a) i
def minL : List Int → Int
  | [] => 0
  | i :: r => r.foldl (fun a b => if b < a then b else a) i
theorem foldmax (r : List Int) : ∀ i : Int, (r.foldl (fun a b => if a < b then b else a) i = i ∨ r.foldl (fun a b => if a < b then b else a) i ∈ r) ∧ i ≤ r.foldl (fun a b => if a < b then b else a) i ∧ ∀ y ∈ r, y ≤ r.foldl (fun a b => if a < b then b else a) i := by
  induction r with
  | nil => exact fun i => ⟨.inl rfl, Int.le_refl _, fun _ h => nomatch h⟩
  | cons j r ih =>
    intro i
    obtain ⟨h1, h2, h3⟩ := ih (if i < j then j else i)
    rw [List.foldl_cons]
    refine ⟨?_, ?_, fun y hy => ?_⟩
    · rcases h1 with h1 | h1
      · rw [h1]
        by_cases c : i < j
        · rw [if_pos c]; exact .inr List.mem_cons_self
        · rw [if_neg c]; exact .inl rfl
      · exact .inr (List.mem_cons_of_mem _ h1)
    · refine Int.le_trans ?_ h2
      split <;> omega
    · rcases List.mem_cons.mp hy with e | e
      · subst e; refine Int.le_trans ?_ h2; split <;> omega
      · exact h3 y e
theorem maxL_spec {ns : List Int} (h : ns ≠ []) : maxL ns ∈ ns ∧ ∀ y ∈ ns, y ≤ maxL ns := by
  cases ns with
  | nil => exact absurd rfl h
  | cons i r =>
    obtain ⟨h1, h2, h3⟩ := foldmax r i
    refine ⟨?_, fun y hy => ?_⟩
    · rcases h1 with h1 | h1
      · show r.foldl _ i ∈ _; rw [h1]; exact List.mem_cons_self
      · exact List.mem_cons_of_mem _ h1
    · rcases List.mem_cons.mp hy with e | e
      · subst e; exact h2
      · exact h3 y e
theorem foldmin (r : List Int) : ∀ i : Int, (r.foldl (fun a b => if b < a then b else a) i = i ∨ r.foldl (fun a b => if b < a then b else a) i ∈ r) ∧ r.foldl (fun a b => if b < a then b else a) i ≤ i ∧ ∀ y ∈ r, r.foldl (fun a b => if b < a then b else a) i ≤ y := by
  induction r with
  | nil => exact fun i => ⟨.inl rfl, Int.le_refl _, fun _ h => nomatch h⟩
  | cons j r ih =>
    intro i
    obtain ⟨h1, h2, h3⟩ := ih (if j < i then j else i)
    rw [List.foldl_cons]
    refine ⟨?_, ?_, fun y hy => ?_⟩
    · rcases h1 with h1 | h1
      · rw [h1]
        by_cases c : j < i
        · rw [if_pos c]; exact .inr List.mem_cons_self
        · rw [if_neg c]; exact .inl rfl
      · exact .inr (List.mem_cons_of_mem _ h1)
    · refine Int.le_trans h2 ?_
      split <;> omega
    · rcases List.mem_cons.mp hy with e | e
      · subst e; refine Int.le_trans h2 ?_; split <;> omega
      · exact h3 y e
theorem minL_spec {ns : List Int} (h : ns ≠ []) : minL ns ∈ ns ∧ ∀ y ∈ ns, minL ns ≤ y := by
  cases ns with
  | nil => exact absurd rfl h
  | cons i r =>
    obtain ⟨h1, h2, h3⟩ := foldmin r i
    refine ⟨?_, fun y hy => ?_⟩
    · rcases h1 with h1 | h1
      · show r.foldl _ i ∈ _; rw [h1]; exact List.mem_cons_self
      · exact List.mem_cons_of_mem _ h1
    · rcases List.mem_cons.mp hy with e | e
      · subst e; exact h2
      · exact h3 y e
inductive Blt where
  | len | abs | max | min | sum | all | any | repr | divmod | tuple | list | int | str | bool
def Blt.name : Blt → Str
  | len => "len" | abs => "abs" | max => "max" | min => "min" | sum => "sum" | all => "all" | any => "any" | repr => "repr" | divmod => "divmod"
  | tuple => "tuple" | list => "list" | int => "int" | str => "str" | bool => "bool"
def Blt.val : Blt → Value
  | len => .builtin "len" | abs => .builtin "abs" | max => .builtin "max" | min => .builtin "min" | sum => .builtin "sum" | all => .builtin "all" | any => .builtin "any" | repr => .builtin "repr" | divmod => .builtin "divmod"
  | tuple => .type "tuple" | list => .type "list" | int => .type "int" | str => .type "str" | bool => .type "bool"
/-- what may be shown by repr -/
def ShowOk (d : D) : Prop := d.flx = true ∧ d.py.showable = true ∧ d.py.depth ≤ 64 ∧ d.py.shown.length ≤ sizeLine
def lenD (x : D) (M : Mp) (Q : QE) : Prop := match x with
  | .str s => s.length ≤ sizeLine ∧ Q (.int s.length) M
  | x => match seqIn M x with
    | some l => Q (.int l.length) M
    | none => False
/-- data whose items may be compared -/
def bestOk (l : List D) : Prop := D.flxs l = true ∧ PySem.W.AlikeAll (D.pys l) ∧ PyData.depthAll (D.pys l) ≤ 8
/-- the least of the items of a list; the greatest -/
def minDat (x : D) (M : Mp) (Q : QE) : Prop := ∃ d r, listIn M x = some (d :: r) ∧ bestOk (d :: r) ∧ ∀ e ∈ d :: r, e.py = PySem.W.minD d.py (D.pys r) → Q e M
def maxDat (x : D) (M : Mp) (Q : QE) : Prop := ∃ d r, listIn M x = some (d :: r) ∧ bestOk (d :: r) ∧ ∀ e ∈ d :: r, e.py = PySem.W.maxD d.py (D.pys r) → Q e M
@[simp] def bltD (b : Blt) (fz : Bool) (ds : List D) (M : Mp) (Q : QE) : Prop := match b, ds with
  | .len, [x] => lenD x M Q
  | .abs, [.int i] => Q (.int (if i < 0 then -i else i)) M
  | .max, [.int i, .int j] => Q (.int (if j > i then j else i)) M
  | .min, [.int i, .int j] => Q (.int (if j < i then j else i)) M
  | .max, [x] => match (listIn M x).bind intsOf with
    | some ns => ns ≠ [] ∧ Q (.int (maxL ns)) M
    | none => maxDat x M Q
  | .min, [x] => match (listIn M x).bind intsOf with
    | some ns => ns ≠ [] ∧ Q (.int (minL ns)) M
    | none => minDat x M Q
  | .sum, [x] => match (listIn M x).bind intsOf with
    | some ns => Q (.int ns.sum) M
    | none => False
  | .all, [x] => match (listIn M x).bind boolsOf with
    | some bs => Q (.bl (bs.all id)) M
    | none => False
  | .any, [x] => match (listIn M x).bind boolsOf with
    | some bs => Q (.bl (bs.any id)) M
    | none => False
  | .repr, [x] => ShowOk x ∧ Q (.str x.py.shown) M
  | .divmod, [.int i, .int j] => DivOk j ∧ j.natAbs < 1073741824 ∧ Q (.tup [.int (i / j), .int (i % j)]) M
  | .tuple, [x] => match seqIn M x with
    | some l => Q (.tup l) M
    | none => False
  | .list, [x] => match seqIn M x with
    | some l => if fz = true then Q (.lst l) M else ∀ p, M p = none → Q (.ref p) (M.upd p (.lst l))
    | none => False
  | .int, [.int i] => Q (.int i) M
  | .int, [.bl b] => Q (.int (if b then 1 else 0)) M
  | .int, [.str s] => s.length ≤ 640 ∧ ∃ n, PySem.intText? s = some n ∧ Q (.int n) M
  | .str, [.int i] => i.natAbs.log2 < 1920 ∧ Q (.str (toString i)) M
  | .bool, [.bl b] => Q (.bl b) M
  | .bool, [.int i] => Q (.bl (i != 0)) M
  | _, _ => False
/-- a call of a value keeps to its meaning -/
def CallD (X : Cx) (f : Value) (g : List D → Mp → QE → Prop) : Prop :=
  ∃ r : List V → Hp → VK → Prop, CallR X f r ∧ ∀ (ds : List D) (vs : List V) (M : Mp) (H : Hp) (Q : QE), AbsM (wd X) M H → Reps (wd X) M H ds vs → g ds M Q → r vs H (lft (wd X) M H Q)
section
variable {X : Cx} {fz : Bool} {W : Wd} {M : Mp} {H : Hp}
theorem reps1 {d : D} {vs : List V} (r : Reps W M H [d] vs) : ∃ v, vs = [v] ∧ Rep W M H d v := by
  obtain ⟨v, r, rfl, h1, h2⟩ := r
  exact ⟨v, by rw [show r = [] from h2], h1⟩
theorem reps2 {d e : D} {vs : List V} (r : Reps W M H [d, e] vs) : ∃ v u, vs = [v, u] ∧ Rep W M H d v ∧ Rep W M H e u := by
  obtain ⟨v, r, rfl, h1, h2⟩ := r
  obtain ⟨u, rfl, h3⟩ := reps1 h2
  exact ⟨v, u, rfl, h1, h3⟩
theorem ints_seq (A : AbsM W M H) {x : D} {v : V} {ns : List Int} (r : Rep W M H x v) (e : (listIn M x).bind intsOf = some ns) : ∃ a, v = .ref a ∧ SqL W.K H a (ns.map V.int) := by
  cases q : listIn M x with
  | none => rw [q] at e; cases e
  | some l =>
    rw [q] at e
    obtain ⟨a, xs, rfl, h, r'⟩ := listIn_rep A r q
    exact ⟨a, rfl, by rw [← intsOf_rep r' e]; exact SqL.of h⟩
theorem bools_seq (A : AbsM W M H) {x : D} {v : V} {ns : List Bool} (r : Rep W M H x v) (e : (listIn M x).bind boolsOf = some ns) : ∃ a, v = .ref a ∧ SqL W.K H a (ns.map V.bl) := by
  cases q : listIn M x with
  | none => rw [q] at e; cases e
  | some l =>
    rw [q] at e
    obtain ⟨a, xs, rfl, h, r'⟩ := listIn_rep A r q
    exact ⟨a, rfl, by rw [← boolsOf_rep r' e]; exact SqL.of h⟩
/-- data, read off the heap -/
theorem reads_key {k : Key} {v : Value} {h : Heap} (e : keyIs k v = true) : Reads h v (keyPy k) [] := by
  rcases keyIs_shape e with ⟨i, t, rfl, rfl⟩ | ⟨x, t, rfl, rfl⟩
  · exact .int i t
  · exact .str x t
theorem reads_keys {P : Program} {w : World} {h : Heap} : ∀ {es : List DictEntry} {kvs : List (Key × Value)}, Pairs (mixKind P w) es kvs → ReadsAll h (es.map (·.key)) (kvs.map fun kv => keyPy kv.1) []
  | _, _, .nil => .nil
  | _, _, .cons h1 _ t => by
    have := ReadsAll.cons (reads_key (h := h) h1) (reads_keys t)
    simpa using this
theorem pairs_vals {P : Program} {w : World} : ∀ {es : List DictEntry} {kvs : List (Key × Value)}, Pairs (mixKind P w) es kvs → es.map (·.val) = kvs.map (·.2)
  | _, _, .nil => rfl
  | _, _, .cons _ h2 t => by rw [List.map_cons, List.map_cons, h2, pairs_vals t]
theorem kv_zip : ∀ {ks : List Key} {xs : List V} {kvs : List (Key × Value)}, ks.length = xs.length → L2.KV (ks.zip xs) kvs → kvs.map (·.1) = ks ∧ Vals xs (kvs.map (·.2))
  | [], [], _, _, h => by
    have h : L2.KV [] _ := h
    cases h; exact ⟨rfl, .nil⟩
  | [], _ :: _, _, h, _ => by cases h
  | _ :: _, [], _, h, _ => by cases h
  | k :: ks, x :: xs, _, hl, h => by
    rw [List.zip_cons_cons] at h
    cases h with
    | cons r t =>
      obtain ⟨e1, e2⟩ := kv_zip (by simpa using hl) t
      exact ⟨by rw [List.map_cons, e1, ← r.1], .cons r.2 e2⟩
mutual
theorem Rep.reads {pins : List (Addr × Obj)} {σ : L2.St} {s : Shared} (I : Inv X pins σ H s) (hm : H sysModules = none) : ∀ (d : D) {v : V} {u : Value}, d.flx = true → Rep (wd X) M H d v → L2.RelV v u → ∃ as, Reads s.heap u d.py as ∧ sysModules ∉ as
  | .non, _, _, _, h, r => by rw [show _ = _ from h] at r; cases r; exact ⟨[], .none, by simp⟩
  | .bl b, _, _, _, h, r => by rw [show _ = _ from h] at r; cases r; exact ⟨[], .bool b, by simp⟩
  | .int i, _, _, _, h, r => by rw [show _ = _ from h] at r; obtain ⟨t, rfl⟩ := r; exact ⟨[], .int i t, by simp⟩
  | .str x, _, _, _, h, r => by rw [show _ = _ from h] at r; obtain ⟨t, rfl⟩ := r; exact ⟨[], .str x t, by simp⟩
  | .tup l, _, _, f, h, r => by
    obtain ⟨a, xs, rfl, s, rs⟩ := h
    cases r
    obtain ⟨its, rv, ⟨o, h1, h2, n, h3⟩, _⟩ := I.tuple s
    obtain ⟨as, q, qm⟩ := Reps.reads I hm l f rs rv
    exact ⟨as, .tuple h1 h2 h3 q, qm⟩
  | .lst l, _, _, f, h, r => by
    obtain ⟨a, xs, rfl, _, e, rs⟩ := h
    cases r
    obtain ⟨its, rv, pl, _⟩ := I.list (SqL.of e)
    obtain ⟨o, n, ho, hc, hd, hdat⟩ := pl
    obtain ⟨as, q, qm⟩ := Reps.reads I hm l f rs rv
    refine ⟨a :: as, .list ho hc hdat q, fun z => ?_⟩
    rcases List.mem_cons.mp z with z | z
    · rw [z, e] at hm; cases hm
    · exact qm z
  | .dct ks l, _, _, f, h, r => by
    obtain ⟨a, xs, rfl, _, e, hl, rs⟩ := h
    cases r
    obtain ⟨_, hsm, vs, rel, o, es, ep, ho, hx, hd, _, hp, _⟩ := dk_of I.hok e
    obtain ⟨e1, e2⟩ := kv_zip hl rel
    have f' : (decide (ks.length = l.length) && D.flxs l) = true := f
    rw [Bool.and_eq_true] at f'
    obtain ⟨as, q, qm⟩ := Reps.reads I hm l f'.2 rs e2
    have hkl : (ks.map keyPy).length = (D.pys l).length := by
      have : ∀ l : List D, (D.pys l).length = l.length := by
        intro l
        induction l with
        | nil => rfl
        | cons d r ih => show (D.pys r).length + 1 = _; rw [ih]; rfl
      rw [List.length_map, this]; exact of_decide_eq_true f'.1
    refine ⟨a :: [] ++ as, .dict ho hx.1 hd ?_ ?_, fun z => ?_⟩
    · rw [List.map_fst_zip (Nat.le_of_eq hkl)]
      have z := reads_keys (h := s.heap) hp
      rw [show (vs.map fun kv => keyPy kv.1) = ks.map keyPy by rw [← e1, List.map_map]; rfl] at z
      exact z
    · rw [List.map_snd_zip (Nat.le_of_eq hkl.symm), pairs_vals hp]
      exact q
    · rcases List.mem_cons.mp z with z | z
      · rw [← z] at hsm; simp at hsm
      · exact qm z
  | .ref _, _, _, f, _, _ => by cases f
  | .scr _, _, _, f, _, _ => by cases f
theorem Reps.reads {pins : List (Addr × Obj)} {σ : L2.St} {s : Shared} (I : Inv X pins σ H s) (hm : H sysModules = none) : ∀ (ds : List D) {vs : List V} {us : List Value}, D.flxs ds = true → Reps (wd X) M H ds vs → Vals vs us → ∃ as, ReadsAll s.heap us (D.pys ds) as ∧ sysModules ∉ as
  | [], _, _, _, h, r => by rw [show _ = _ from h] at r; cases r; exact ⟨[], .nil, by simp⟩
  | d :: ds, _, _, f, h, r => by
    obtain ⟨v, w, rfl, h1, h2⟩ := h
    have f' : (d.flx && D.flxs ds) = true := f
    rw [Bool.and_eq_true] at f'
    cases r with
    | cons r1 r2 =>
      obtain ⟨as, q1, m1⟩ := Rep.reads I hm d f'.1 h1 r1
      obtain ⟨bs, q2, m2⟩ := Reps.reads I hm ds f'.2 h2 r2
      exact ⟨as ++ bs, .cons q1 q2, fun z => (List.mem_append.mp z).elim m1 m2⟩
end
/-- the system's modules stand in the base -/
def SysB (base : Heap) : Prop := ∃ o, base.get? sysModules = some o
theorem sys_none {pins : List (Addr × Obj)} {σ : L2.St} {s : Shared} (I : Inv X pins σ H s) (k : SysB X.base) : H sysModules = none := by
  obtain ⟨o, e⟩ := k
  exact (I.bs _ _ e).2
/-- repr of data -/
theorem call_reprD (hg : X.A.guards = some []) (hu : X.A.units + 80 < cLine) (hk : SysB X.base) : CallR X (.builtin "repr") (fun xs H Q => ∃ x d M, xs = [x] ∧ Rep (wd X) M H d x ∧ ShowOk d ∧ Q (.str d.py.shown) H) := by
  intro pins s σ H xs us Q I r h
  obtain ⟨x, d, M, rfl, hd, ⟨hf, h1, h3, h4⟩, q⟩ := h
  obtain ⟨u, rfl, ru⟩ := vals1 r
  obtain ⟨as, rd, hm⟩ := Rep.reads I (sys_none I hk) d hf hd ru
  have big : ∀ a, u = .ref a → wpAny (model X.prog X.w) X.A (call (.builtin "repr") [u]) (EP X pins σ Q) X.xe s := by
    rintro a rfl
    exact repr_of_reads' rd h1 (fun _ => hm) hg (by omega) (fun _ _ z => z) (fun h' u tk hk => ⟨.str _, H, I.kept hk, ⟨_, rfl⟩, q⟩) h4
  cases d with
  | non => rw [show x = _ from hd] at ru; cases ru; exact PySem.P.repr_of_none ⟨.str _, H, I.tok _, ⟨_, rfl⟩, q⟩
  | bl b => rw [show x = _ from hd] at ru; cases ru; exact PySem.P.repr_of_bool ⟨.str _, H, I.tok _, ⟨_, rfl⟩, q⟩
  | int i =>
    rw [show x = _ from hd] at ru
    obtain ⟨t, rfl⟩ := ru
    exact PySem.P.repr_of_int (of_decide_eq_true h1) ⟨.str _, H, I.tok _, ⟨_, rfl⟩, q⟩
  | str i => rw [show x = _ from hd] at ru; obtain ⟨t, rfl⟩ := ru; exact PySem.P.repr_of_str ⟨.str _, H, I.tok _, ⟨_, rfl⟩, q⟩ h4
  | lst l => obtain ⟨a, xs, rfl, _⟩ := hd; cases ru; exact big a rfl
  | tup l => obtain ⟨a, xs, rfl, _⟩ := hd; cases ru; exact big a rfl
  | dct ks l => obtain ⟨a, xs, rfl, _⟩ := hd; cases ru; exact big a rfl
  | ref a => cases hf
  | scr a => cases hf
theorem vals_get : ∀ {ws : List V} {us : List Value} (i : Nat) {v : Value}, Vals ws us → us[i]? = some v → ∃ w, ws[i]? = some w ∧ L2.RelV w v
  | _, _, 0, _, .cons r1 _, h => by simp at h; subst h; exact ⟨_, rfl, r1⟩
  | _, _, i + 1, _, .cons _ r2, h => by
    obtain ⟨w, h1, h2⟩ := vals_get i r2 (by simpa using h)
    exact ⟨w, by simpa using h1, h2⟩
  | _, _, i, _, .nil, h => by simp at h
theorem reps_get {W : Wd} {M : Mp} {H : Hp} : ∀ {l : List D} {ws : List V} (i : Nat) {w : V}, Reps W M H l ws → D.flxs l = true → ws[i]? = some w → ∃ e ∈ l, Rep W M H e w ∧ e.flx = true
  | [], _, i, w, h, _, hw => by rw [show _ = _ from h] at hw; simp at hw
  | d :: l, _, i, w, h, f, hw => by
    obtain ⟨v, r, rfl, h1, h2⟩ := h
    have f' : (d.flx && D.flxs l) = true := f
    rw [Bool.and_eq_true] at f'
    cases i with
    | zero => simp at hw; subst hw; exact ⟨d, List.mem_cons_self, h1, f'.1⟩
    | succ i =>
      obtain ⟨e, he, r1, r2⟩ := reps_get i h2 f'.2 (by simpa using hw)
      exact ⟨e, List.mem_cons_of_mem _ he, r1, r2⟩
theorem call_minD (hc : X.calm = true) (hu : X.A.units + 80 < cLine) (hk : SysB X.base) : CallR X (.builtin "min") (fun xs H Q => ∃ a ws M d r, xs = [.ref a] ∧ SqL X.K H a ws ∧ Reps (wd X) M H (d :: r) ws ∧ bestOk (d :: r) ∧ ∀ w, ∀ e ∈ d :: r, Rep (wd X) M H e w → e.py = PySem.W.minD d.py (D.pys r) → Q w H) := by
  intro pins s σ H xs us Q I rel h
  obtain ⟨a, ws, M, d, r, rfl, hs, hr, ⟨hf, ha, hd⟩, q⟩ := h
  obtain ⟨its, rv, hl, _⟩ := I.list hs
  obtain ⟨as, rd, _⟩ := Reps.reads I (sys_none I hk) (d :: r) hf hr rv
  rw [Vals.ref1 rel]
  have e0 : D.pys (d :: r) = d.py :: D.pys r := by simp only [D.pys]
  rw [e0] at rd ha hd
  refine PySem.W.min_list_data (vs := its.toArray) (I.ok.hd hc) hl.isList (by simpa using rd) ha (by omega) fun i v h' tk bs hv hm hk' => ?_
  obtain ⟨w, hw, rw'⟩ := vals_get i rv (by simpa using hv)
  obtain ⟨e, he, re, fe⟩ := reps_get i hr hf hw
  obtain ⟨as2, r2, _⟩ := Rep.reads I (sys_none I hk) e fe re rw'
  exact ⟨w, H, I.kept hk', rw', q w e he re (PyProof.Rows.reads_det (fun b o e _ => hk' b o e) r2 hm).1.symm⟩
theorem call_maxD (hc : X.calm = true) (hu : X.A.units + 80 < cLine) (hk : SysB X.base) : CallR X (.builtin "max") (fun xs H Q => ∃ a ws M d r, xs = [.ref a] ∧ SqL X.K H a ws ∧ Reps (wd X) M H (d :: r) ws ∧ bestOk (d :: r) ∧ ∀ w, ∀ e ∈ d :: r, Rep (wd X) M H e w → e.py = PySem.W.maxD d.py (D.pys r) → Q w H) := by
  intro pins s σ H xs us Q I rel h
  obtain ⟨a, ws, M, d, r, rfl, hs, hr, ⟨hf, ha, hd⟩, q⟩ := h
  obtain ⟨its, rv, hl, _⟩ := I.list hs
  obtain ⟨as, rd, _⟩ := Reps.reads I (sys_none I hk) (d :: r) hf hr rv
  rw [Vals.ref1 rel]
  have e0 : D.pys (d :: r) = d.py :: D.pys r := by simp only [D.pys]
  rw [e0] at rd ha hd
  refine PySem.W.max_list_data (vs := its.toArray) (I.ok.hd hc) hl.isList (by simpa using rd) ha (by omega) fun i v h' tk bs hv hm hk' => ?_
  obtain ⟨w, hw, rw'⟩ := vals_get i rv (by simpa using hv)
  obtain ⟨e, he, re, fe⟩ := reps_get i hr hf hw
  obtain ⟨as2, r2, _⟩ := Rep.reads I (sys_none I hk) e fe re rw'
  exact ⟨w, H, I.kept hk', rw', q w e he re (PyProof.Rows.reads_det (fun b o e _ => hk' b o e) r2 hm).1.symm⟩
theorem CallD.bad {f : Value} {g : List D → Mp → QE → Prop} (h : ∀ ds M Q, ¬ g ds M Q) : CallD X f g := ⟨fun _ _ _ => False, fun _ _ _ _ _ _ _ _ _ h => h.elim, fun ds _ M _ Q _ _ z => (h ds M Q z).elim⟩
theorem lenV_rep (A : AbsM (wd X) M H) {d : D} {x : V} {Q : QE} (r : Rep (wd X) M H d x) (z : lenD d M Q) : ∃ n, LenV X.K x H n ∧ Q (.int n) M := by
  unfold lenD at z; split at z
  · rw [show x = _ from r]
    exact ⟨_, ⟨z.1, rfl⟩, z.2⟩
  · split at z
    · rename_i l e
      obtain ⟨a, xs, rfl, s, r'⟩ := seqIn_rep A r e
      refine ⟨l.length, ?_, z⟩
      rcases s with s | s
      · exact .inl ⟨xs, s, r'.length⟩
      · exact .inr ⟨xs, s, r'.length⟩
    · exact z.elim
theorem bltD_ok (hc : X.calm = true) (hg : X.A.guards = some []) (hu : X.A.units + 80 < cLine) (hk : SysB X.base) (b : Blt) : CallD X b.val (bltD b fz) := by
  cases b with
  | len =>
    refine ⟨_, call_len, fun ds vs M H Q A r z => ?_⟩
    unfold bltD at z; split at z <;> rename_i e1 <;> first | (cases e1; done) | skip
    all_goals first | exact z.elim | skip
    obtain ⟨v, rfl, r1⟩ := reps1 r
    obtain ⟨n, h1, h2⟩ := lenV_rep A r1 z
    exact ⟨v, n, rfl, h1, lft.int A h2⟩
  | abs =>
    refine ⟨_, call_abs, fun ds vs M H Q A r z => ?_⟩
    unfold bltD at z; split at z <;> rename_i e1 <;> first | (cases e1; done) | skip
    all_goals first | exact z.elim | skip
    obtain ⟨v, rfl, r1⟩ := reps1 r
    exact ⟨_, by rw [show v = _ from r1], lft.int A z⟩
  | max =>
    refine ⟨_, CallR.or (call_max2 hc) (CallR.or (cr_max hc) (call_maxD hc hu hk)), fun ds vs M H Q A r z => ?_⟩
    unfold bltD at z; split at z <;> rename_i e1 <;> first | (cases e1; done) | skip
    all_goals first | exact z.elim | skip
    · obtain ⟨v, u, rfl, r1, r2⟩ := reps2 r
      exact .inl ⟨_, _, by rw [show v = _ from r1, show u = _ from r2], lft.int A z⟩
    · obtain ⟨v, rfl, r1⟩ := reps1 r
      split at z
      · rename_i ns e
        obtain ⟨a, rfl, hs⟩ := ints_seq A r1 e
        refine .inr (.inl ⟨a, ns, rfl, hs, List.length_pos_iff.mpr z.1, fun m hm hy => ?_⟩)
        have := maxL_spec z.1
        have e : m = maxL ns := Int.le_antisymm (this.2 m hm) (hy _ this.1)
        rw [e]; exact lft.int A z.2
      · obtain ⟨d0, r0, el, hb, z⟩ := z
        obtain ⟨a, ws, rfl, h, r'⟩ := listIn_rep A r1 el
        exact .inr (.inr ⟨a, ws, M, d0, r0, rfl, SqL.of h, r', hb, fun w e he re ee => lft.pure A re (z e he ee)⟩)
  | min =>
    refine ⟨_, CallR.or (call_min2 hc) (CallR.or (cr_min hc) (call_minD hc hu hk)), fun ds vs M H Q A r z => ?_⟩
    unfold bltD at z; split at z <;> rename_i e1 <;> first | (cases e1; done) | skip
    all_goals first | exact z.elim | skip
    · obtain ⟨v, u, rfl, r1, r2⟩ := reps2 r
      exact .inl ⟨_, _, by rw [show v = _ from r1, show u = _ from r2], lft.int A z⟩
    · obtain ⟨v, rfl, r1⟩ := reps1 r
      split at z
      · rename_i ns e
        obtain ⟨a, rfl, hs⟩ := ints_seq A r1 e
        refine .inr (.inl ⟨a, ns, rfl, hs, List.length_pos_iff.mpr z.1, fun m hm hy => ?_⟩)
        have := minL_spec z.1
        have e : m = minL ns := Int.le_antisymm (hy _ this.1) (this.2 m hm)
        rw [e]; exact lft.int A z.2
      · obtain ⟨d0, r0, el, hb, z⟩ := z
        obtain ⟨a, ws, rfl, h, r'⟩ := listIn_rep A r1 el
        exact .inr (.inr ⟨a, ws, M, d0, r0, rfl, SqL.of h, r', hb, fun w e he re ee => lft.pure A re (z e he ee)⟩)
  | sum =>
    refine ⟨_, cr_sum hc, fun ds vs M H Q A r z => ?_⟩
    unfold bltD at z; split at z <;> rename_i e1 <;> first | (cases e1; done) | skip
    all_goals first | exact z.elim | skip
    obtain ⟨v, rfl, r1⟩ := reps1 r
    split at z
    · rename_i ns e
      obtain ⟨a, rfl, hs⟩ := ints_seq A r1 e
      exact ⟨a, ns, rfl, hs, lft.int A z⟩
    · exact z.elim
  | all =>
    refine ⟨_, cr_all hc, fun ds vs M H Q A r z => ?_⟩
    unfold bltD at z; split at z <;> rename_i e1 <;> first | (cases e1; done) | skip
    all_goals first | exact z.elim | skip
    obtain ⟨v, rfl, r1⟩ := reps1 r
    split at z
    · rename_i ns e
      obtain ⟨a, rfl, hs⟩ := bools_seq A r1 e
      exact ⟨a, ns, rfl, hs, lft.bl A z⟩
    · exact z.elim
  | any =>
    refine ⟨_, cr_any hc, fun ds vs M H Q A r z => ?_⟩
    unfold bltD at z; split at z <;> rename_i e1 <;> first | (cases e1; done) | skip
    all_goals first | exact z.elim | skip
    obtain ⟨v, rfl, r1⟩ := reps1 r
    split at z
    · rename_i ns e
      obtain ⟨a, rfl, hs⟩ := bools_seq A r1 e
      exact ⟨a, ns, rfl, hs, lft.bl A z⟩
    · exact z.elim
  | repr =>
    refine ⟨_, call_reprD hg hu hk, fun ds vs M H Q A r z => ?_⟩
    unfold bltD at z; split at z <;> rename_i e1 <;> first | (cases e1; done) | skip
    all_goals first | exact z.elim | skip
    obtain ⟨v, rfl, r1⟩ := reps1 r
    exact ⟨v, _, M, rfl, r1, z.1, lft.str A z.2⟩
  | divmod =>
    refine ⟨_, call_divmod, fun ds vs M H Q A r z => ?_⟩
    unfold bltD at z; split at z <;> rename_i e1 <;> first | (cases e1; done) | skip
    all_goals first | exact z.elim | skip
    rename_i i j
    obtain ⟨v, u, rfl, r1, r2⟩ := reps2 r
    obtain ⟨⟨h0, _⟩, h1, q⟩ := z
    exact ⟨i, j, by rw [show v = _ from r1, show u = _ from r2], ⟨h0, by omega⟩, fun p hp => lft.newT A (ds := [.int (i / j), .int (i % j)]) ⟨_, _, rfl, rfl, _, _, rfl, rfl, rfl⟩ hp q⟩
  | tuple =>
    refine ⟨_, call_tuple_of, fun ds vs M H Q A r z => ?_⟩
    unfold bltD at z; split at z <;> rename_i e1 <;> first | (cases e1; done) | skip
    all_goals first | exact z.elim | skip
    obtain ⟨v, rfl, r1⟩ := reps1 r
    split at z
    · rename_i l e
      obtain ⟨a, xs, rfl, s, r'⟩ := seqIn_rep A r1 e
      refine ⟨a, xs, rfl, ?_⟩
      rcases s with s | s
      · exact .inl ⟨s, fun p hp => lft.newT A r' hp z⟩
      · exact .inr ⟨s, lft.pure A (d := .tup l) ⟨a, xs, rfl, s, r'⟩ z⟩
    · exact z.elim
  | list =>
    refine ⟨_, call_list_of, fun ds vs M H Q A r z => ?_⟩
    unfold bltD at z; split at z <;> rename_i e1 <;> first | (cases e1; done) | skip
    all_goals first | exact z.elim | skip
    obtain ⟨v, rfl, r1⟩ := reps1 r
    split at z
    · rename_i l e
      obtain ⟨a, xs, rfl, s, r'⟩ := seqIn_rep A r1 e
      refine ⟨a, xs, rfl, s, fun p hp => ?_⟩
      cases fz with
      | true => exact lft.newL A r' hp z
      | false => exact lft.newM A r' hp (z p)
    · exact z.elim
  | int =>
    refine ⟨_, CallR.or call_int1 call_int_str, fun ds vs M H Q A r z => ?_⟩
    unfold bltD at z; split at z <;> rename_i e1 <;> first | (cases e1; done) | skip
    all_goals first | exact z.elim | skip
    · obtain ⟨v, rfl, r1⟩ := reps1 r
      exact .inl (.inl ⟨_, by rw [show v = _ from r1], lft.int A z⟩)
    · obtain ⟨v, rfl, r1⟩ := reps1 r
      exact .inl (.inr ⟨_, by rw [show v = _ from r1], lft.int A z⟩)
    · obtain ⟨v, rfl, r1⟩ := reps1 r
      obtain ⟨z1, n, z2, z3⟩ := z
      exact .inr ⟨_, n, by rw [show v = _ from r1], z2, z1, lft.int A z3⟩
  | str =>
    refine ⟨_, call_str_int, fun ds vs M H Q A r z => ?_⟩
    unfold bltD at z; split at z <;> rename_i e1 <;> first | (cases e1; done) | skip
    all_goals first | exact z.elim | skip
    obtain ⟨v, rfl, r1⟩ := reps1 r
    exact ⟨_, by rw [show v = _ from r1], z.1, lft.str A z.2⟩
  | bool =>
    refine ⟨_, call_bool1, fun ds vs M H Q A r z => ?_⟩
    unfold bltD at z; split at z <;> rename_i e1 <;> first | (cases e1; done) | skip
    all_goals first | exact z.elim | skip
    · obtain ⟨v, rfl, r1⟩ := reps1 r
      exact .inr ⟨_, by rw [show v = _ from r1], lft.bl A z⟩
    · obtain ⟨v, rfl, r1⟩ := reps1 r
      exact .inl ⟨_, by rw [show v = _ from r1], lft.bl A z⟩
end
end Ow
namespace Ow
open PySem PySem.Spec PyProof.Rows L2
variable [Tb] [Og]
/-! ### arguments -/
def notStar (e : Expr) : Bool := match e with | .Starred .. => false | _ => true
theorem star_cons {e : Expr} {es : List Expr} {env : Env} (h : notStar e = true) : starEach (e :: es) env = (false, eval e env) :: starEach es env := by
  cases e <;> first | rfl | cases h
theorem star_none {pos : Pos} {env : Env} : ∀ {es : List Expr}, es.all notStar = true → (backTo pos (starEach es env)).any (·.1) = false
  | [], _ => rfl
  | e :: es, h => by
    rw [List.all_cons, Bool.and_eq_true] at h
    rw [star_cons h.1]
    show ((false : Bool) || (backTo pos (starEach es env)).any (·.1)) = false
    rw [star_none h.2]; rfl
abbrev QA := List D → Mp → Prop
abbrev DTA := DSt → Mp → QA → Prop
def lftA (W : Wd) (M : Mp) (H : Hp) (Q : QA) (vs : List V) (H' : Hp) : Prop := ∃ ds M', Ext W M H M' H' ∧ Reps W M' H' ds vs ∧ AbsM W M' H' ∧ Q ds M'
structure DA (X : Cx) (es : List Expr) (t : DTA) : Prop where
  to : ∀ (σ : L2.St) (H : Hp) (ρ : DSt) (M : Mp) (Q : QA), AbsS (wd X) M H ρ σ → AbsM (wd X) M H → t ρ M Q →
    ∀ (pos : Pos) (pins : List (Addr × Obj)) (s : Shared), Inv X pins σ H s → wpAny (model X.prog X.w) X.A (spliced (backTo pos (starEach es X.env))) (AP X pins σ (lftA (wd X) M H Q)) X.xe s
/-- the arguments, as one transformer -/
def cA (X : Cx) (es : List Expr) : TA := fun σ H Q => ∀ (pos : Pos) (pins : List (Addr × Obj)) (s : Shared), Inv X pins σ H s → wpAny (model X.prog X.w) X.A (spliced (backTo pos (starEach es X.env))) (AP X pins σ Q) X.xe s
theorem pa_cA {X : Cx} {es : List Expr} : PA X es (cA X es) := ⟨fun pos pins s σ H Q I h => h pos pins s I⟩
section
variable {X : Cx} {e : Expr} {es : List Expr} {te : DTE} {t : DTA} {σ : L2.St} {H : Hp} {ρ : DSt} {M : Mp} {Q P : QA}
theorem cA_mono {Q Q' : List V → Hp → Prop} (h : cA X es σ H Q) (m : ∀ v H', Q v H' → Q' v H') : cA X es σ H Q' := fun pos pins s I =>
  thn (h pos pins s I) fun _ _ ⟨v, H', I', r, q⟩ => ⟨v, H', I', r, m v H' q⟩
theorem DA.nil : DA X [] (fun _ M Q => Q [] M) := ⟨fun σ H ρ M Q S A z pos pins s I =>
  pa_nil.run pos pins s σ H _ I ⟨[], M, Ext.refl, rfl, A, z⟩⟩
theorem DA.cons (h : DE X e te) (k : DA X es t) (hs : notStar e = true) : DA X (e :: es) (fun ρ M Q => te ρ M fun d M1 => t ρ M1 fun ds M2 => Q (d :: ds) M2) := by
  refine ⟨fun σ H ρ M Q S A z pos pins s I => ?_⟩
  refine (pa_cons pe_cT pa_cA (star_cons hs)).run pos pins s σ H _ I ?_
  refine h.bind S A z fun v d M1 H1 x r A1 S1 q => ?_
  refine cA_mono (Q := lftA (wd X) M1 H1 _) (fun pos pins s I => k.to σ H1 ρ M1 _ S1 A1 q pos pins s I) fun vs H2 ⟨ds, M2, x2, r2, A2, q2⟩ => ?_
  exact ⟨d :: ds, M2, x.trans x2, ⟨_, _, rfl, r.ext x2, r2⟩, A2, q2⟩
theorem DA.bind (h : DA X es t) (S : AbsS (wd X) M H ρ σ) (A : AbsM (wd X) M H) (q : t ρ M P) {R : List V → Hp → Prop}
    (k : ∀ vs ds M1 H1, Ext (wd X) M H M1 H1 → Reps (wd X) M1 H1 ds vs → AbsM (wd X) M1 H1 → AbsS (wd X) M1 H1 ρ σ → P ds M1 → R vs H1) : cA X es σ H R :=
  cA_mono (fun pos pins s I => h.to σ H ρ M P S A q pos pins s I) fun vs H' ⟨ds, M', x, r, A', p⟩ => k vs ds M' H' x r A' (S.ext x) p
end
/-! ### what is walked -/
def piT (X : Cx) (tg iter : Expr) : TI := fun σ H R => ∀ (pins : List (Addr × Obj)) (s : Shared), Inv X pins σ H s → wpAny (model X.prog X.w) X.A (eval iter X.env) (fun v s1 => wpAny (model X.prog X.w) X.A (pyIter v) (PIE X pins σ tg R) X.xe s1) X.xe s
theorem pi_piT {X : Cx} {tg iter : Expr} : PI X tg iter (piT X tg iter) := ⟨fun pins s σ H R I h => h pins s I⟩
theorem piT_of {X : Cx} {tg iter : Expr} {wi : TI} (h : PI X tg iter wi) {σ : L2.St} {H : Hp} {R : It → Hp → Prop} (q : wi σ H R) : piT X tg iter σ H R := fun pins s I => h.run pins s σ H R I q
/-- J yields the items l, wherever ok stands -/
def GoodIt (W : Wd) (J : It) (l : List D) (ok : Mp → Prop) (M1 : Mp) (H1 : Hp) : Prop := ∀ M H, Ext W M1 H1 M H → AbsM W M H → ok M → ∀ i : Nat,
  (∀ d, l[i]? = some d → J.go i H ∧ ∀ x H', J.yld i H x H' → Ext W M H M H' ∧ AbsM W M H' ∧ Rep W M H' d x) ∧ (i = l.length → J.stop i H)
abbrev DTI := DSt → Mp → (List D → (Mp → Prop) → Mp → Prop) → Prop
structure DI (X : Cx) (tg iter : Expr) (t : DTI) : Prop where
  to : ∀ (σ : L2.St) (H : Hp) (ρ : DSt) (M : Mp) (Q : List D → (Mp → Prop) → Mp → Prop), AbsS (wd X) M H ρ σ → AbsM (wd X) M H → t ρ M Q →
    piT X tg iter σ H (fun J H1 => ∃ l ok M1, Ext (wd X) M H M1 H1 ∧ AbsM (wd X) M1 H1 ∧ GoodIt (wd X) J l ok M1 H1 ∧ Q l ok M1)
/-- the lists that are walked stand as they stood -/
def still (M0 : Mp) : List D → Mp → Prop
  | [], _ => True
  | .ref a :: r, M => M a = M0 a ∧ still M0 r M
  | .non :: r, M => still M0 r M
  | .bl _ :: r, M => still M0 r M
  | .int _ :: r, M => still M0 r M
  | .str _ :: r, M => still M0 r M
  | .tup _ :: r, M => still M0 r M
  | .lst _ :: r, M => still M0 r M
  | .scr _ :: r, M => still M0 r M
  | .dct _ _ :: r, M => still M0 r M
def enumD (l : List D) : List D := l.zipIdx.map fun p => D.tup [.int (p.2 : Int), p.1]
def rngOk (i : Int) : Prop := -(2 ^ 62) ≤ i ∧ i < 2 ^ 62
inductive IK where
  | seq | rng1 | rng2 | zip2 | zip3 | enum | rng3
def itD (k : IK) (ds : List D) (M1 : Mp) (Q : List D → (Mp → Prop) → Mp → Prop) : Prop := match k, ds with
  | .seq, [d] => (match seqIn M1 d with
    | some l => Q l (still M1 [d]) M1
    | none => (match d with
      | .str s => Q (s.cps.toList.map fun c => D.str ⟨#[c]⟩) (fun _ => True) M1
      | _ => False))
  | .rng1, [.int j] => rngOk j ∧ Q ((List.range j.toNat).map fun (i : Nat) => D.int (0 + (i : Int))) (fun _ => True) M1
  | .rng2, [.int i, .int j] => rngOk i ∧ rngOk j ∧ Q ((List.range (j - i).toNat).map fun (k : Nat) => D.int (i + (k : Int))) (fun _ => True) M1
  | .zip2, [d1, d2] => (match seqIn M1 d1, seqIn M1 d2 with
    | some l1, some l2 => Q ((l1.zip l2).map fun p => D.tup [p.1, p.2]) (still M1 [d1, d2]) M1
    | _, _ => False)
  | .zip3, [d1, d2, d3] => (match seqIn M1 d1, seqIn M1 d2, seqIn M1 d3 with
    | some l1, some l2, some l3 => Q ((l1.zip (l2.zip l3)).map fun p => D.tup [p.1, p.2.1, p.2.2]) (still M1 [d1, d2, d3]) M1
    | _, _, _ => False)
  | .enum, [d] => (match seqIn M1 d with
    | some l => Q (enumD l) (still M1 [d]) M1
    | none => False)
  | .rng3, [.int i, .int j, .int c] => c = -1 ∧ rngOk i ∧ rngOk j ∧ Q ((List.range (i - j).toNat).map fun (k : Nat) => D.int (i - (k : Int))) (fun _ => True) M1
  | _, _ => False
theorem itD_seq {ds : List D} {M1 : Mp} {Q : List D → (Mp → Prop) → Mp → Prop} (z : itD .seq ds M1 Q) : (∃ d l, ds = [d] ∧ seqIn M1 d = some l ∧ Q l (still M1 [d]) M1) ∨ ∃ s, ds = [.str s] ∧ Q (s.cps.toList.map fun c => D.str ⟨#[c]⟩) (fun _ => True) M1 := by
  unfold itD at z; split at z <;> rename_i e1 <;> first | (cases e1; done) | skip
  all_goals first | exact z.elim | skip
  rename_i d _
  split at z
  · rename_i l e; exact .inl ⟨_, l, rfl, e, z⟩
  · split at z
    · exact .inr ⟨_, rfl, z⟩
    · exact z.elim
theorem itD_rng1 {ds : List D} {M1 : Mp} {Q : List D → (Mp → Prop) → Mp → Prop} (z : itD .rng1 ds M1 Q) : ∃ j, ds = [.int j] ∧ rngOk j ∧ Q ((List.range j.toNat).map fun (i : Nat) => D.int (0 + (i : Int))) (fun _ => True) M1 := by
  unfold itD at z; split at z <;> rename_i e1 <;> first | (cases e1; done) | skip
  all_goals first | exact z.elim | skip
  exact ⟨_, rfl, z⟩
theorem itD_rng2 {ds : List D} {M1 : Mp} {Q : List D → (Mp → Prop) → Mp → Prop} (z : itD .rng2 ds M1 Q) : ∃ i j, ds = [.int i, .int j] ∧ rngOk i ∧ rngOk j ∧ Q ((List.range (j - i).toNat).map fun (k : Nat) => D.int (i + (k : Int))) (fun _ => True) M1 := by
  unfold itD at z; split at z <;> rename_i e1 <;> first | (cases e1; done) | skip
  all_goals first | exact z.elim | skip
  exact ⟨_, _, rfl, z⟩
theorem itD_rng3 {ds : List D} {M1 : Mp} {Q : List D → (Mp → Prop) → Mp → Prop} (z : itD .rng3 ds M1 Q) : ∃ i j, ds = [.int i, .int j, .int (-1)] ∧ rngOk i ∧ rngOk j ∧ Q ((List.range (i - j).toNat).map fun (k : Nat) => D.int (i - (k : Int))) (fun _ => True) M1 := by
  unfold itD at z; split at z <;> rename_i e1 <;> first | (cases e1; done) | skip
  all_goals first | exact z.elim | skip
  obtain ⟨rfl, z⟩ := z
  exact ⟨_, _, rfl, z⟩
theorem itD_zip2 {ds : List D} {M1 : Mp} {Q : List D → (Mp → Prop) → Mp → Prop} (z : itD .zip2 ds M1 Q) : ∃ d1 d2 l1 l2, ds = [d1, d2] ∧ seqIn M1 d1 = some l1 ∧ seqIn M1 d2 = some l2 ∧ Q ((l1.zip l2).map fun p => D.tup [p.1, p.2]) (still M1 [d1, d2]) M1 := by
  unfold itD at z; split at z <;> rename_i e1 <;> first | (cases e1; done) | skip
  all_goals first | exact z.elim | skip
  split at z
  · rename_i l1 l2 g1 g2; exact ⟨_, _, l1, l2, rfl, g1, g2, z⟩
  · exact z.elim
theorem itD_zip3 {ds : List D} {M1 : Mp} {Q : List D → (Mp → Prop) → Mp → Prop} (z : itD .zip3 ds M1 Q) : ∃ d1 d2 d3 l1 l2 l3, ds = [d1, d2, d3] ∧ seqIn M1 d1 = some l1 ∧ seqIn M1 d2 = some l2 ∧ seqIn M1 d3 = some l3 ∧ Q ((l1.zip (l2.zip l3)).map fun p => D.tup [p.1, p.2.1, p.2.2]) (still M1 [d1, d2, d3]) M1 := by
  unfold itD at z; split at z <;> rename_i e1 <;> first | (cases e1; done) | skip
  all_goals first | exact z.elim | skip
  split at z
  · rename_i l1 l2 l3 g1 g2 g3; exact ⟨_, _, _, l1, l2, l3, rfl, g1, g2, g3, z⟩
  · exact z.elim
theorem itD_enum {ds : List D} {M1 : Mp} {Q : List D → (Mp → Prop) → Mp → Prop} (z : itD .enum ds M1 Q) : ∃ d l, ds = [d] ∧ seqIn M1 d = some l ∧ Q (enumD l) (still M1 [d]) M1 := by
  unfold itD at z; split at z <;> rename_i e1 <;> first | (cases e1; done) | skip
  all_goals first | exact z.elim | skip
  split at z
  · rename_i l e; exact ⟨_, l, rfl, e, z⟩
  · exact z.elim
section
variable {X : Cx} {W : Wd} {M M1 : Mp} {H H1 : Hp}
theorem seqIn_still {d : D} {r : List D} (h : still M1 (d :: r) M) : seqIn M d = seqIn M1 d := by
  cases d with
  | ref a =>
    have e : M a = M1 a := h.1
    show listIn M (.ref a) = listIn M1 (.ref a)
    unfold listIn; simp only [e]
  | _ => rfl
theorem still_tail {d : D} {r : List D} (h : still M1 (d :: r) M) : still M1 r M := by
  cases d <;> first | exact h.2 | exact h
theorem good_list {a : Addr} {d : D} {l : List D} (r : Rep W M1 H1 d (.ref a)) (e : seqIn M1 d = some l) (uniq : ∀ M H, Ext W M1 H1 M H → AbsM W M H → seqIn M d = seqIn M1 d → ∃ xs, SqL W.K H a xs ∧ Reps W M H l xs) :
    GoodIt W (Itl W.K a) l (still M1 [d]) M1 H1 := by
  intro M H x A ok i
  have s := seqIn_still ok
  obtain ⟨xs, hs, rs⟩ := uniq M H x A s
  refine ⟨fun d' hd => ?_, fun hi => ⟨xs, hs, by rw [← rs.length, hi]; exact Nat.le_refl _⟩⟩
  obtain ⟨v, h1, h2⟩ := rs.get hd
  refine ⟨⟨xs, v, hs, h1⟩, fun y H' hy => ?_⟩
  obtain ⟨rfl, hy⟩ := hy
  have := hy xs hs
  rw [h1] at this; cases this
  exact ⟨Ext.refl, A, h2⟩
theorem good_tup {a : Addr} {l : List D} (r : Rep W M1 H1 (.tup l) (.ref a)) : GoodIt W (Itt W.K a) l (still M1 [.tup l]) M1 H1 := by
  intro M H x A ok i
  obtain ⟨b, xs, e, hs, rs⟩ := r.ext x
  cases e
  refine ⟨fun d' hd => ?_, fun hi => ⟨xs, hs, by rw [← rs.length, hi]; exact Nat.le_refl _⟩⟩
  obtain ⟨v, h1, h2⟩ := rs.get hd
  refine ⟨⟨xs, v, hs, h1⟩, fun y H' hy => ?_⟩
  obtain ⟨rfl, hy⟩ := hy
  have := hy xs hs
  rw [h1] at this; cases this
  exact ⟨Ext.refl, A, h2⟩
theorem good_rng (lo : Int) (n : Nat) : GoodIt W (Itr lo n) ((List.range n).map fun (i : Nat) => D.int (lo + (i : Int))) (fun _ => True) M1 H1 := by
  intro M H x A ok i
  refine ⟨fun d hd => ?_, fun hi => ?_⟩
  · rw [List.getElem?_map] at hd
    by_cases h : i < n
    · rw [List.getElem?_range h] at hd
      cases hd
      exact ⟨h, fun y H' ⟨e1, e2⟩ => ⟨e1 ▸ Ext.refl, e1 ▸ A, e2⟩⟩
    · rw [List.getElem?_eq_none (by rw [List.length_range]; omega)] at hd; cases hd
  · rw [List.length_map, List.length_range] at hi; exact Nat.le_of_eq hi.symm
theorem good_rngC (lo : Int) (n : Nat) : GoodIt W (Itc lo (-1) n) ((List.range n).map fun (i : Nat) => D.int (lo - (i : Int))) (fun _ => True) M1 H1 := by
  intro M H x A ok i
  refine ⟨fun d hd => ?_, fun hi => ?_⟩
  · rw [List.getElem?_map] at hd
    by_cases h : i < n
    · rw [List.getElem?_range h] at hd
      cases hd
      exact ⟨h, fun y H' ⟨e1, e2⟩ => ⟨e1 ▸ Ext.refl, e1 ▸ A, by rw [e2]; show V.int _ = V.int _; congr 1; omega⟩⟩
    · rw [List.getElem?_eq_none (by rw [List.length_range]; omega)] at hd; cases hd
  · rw [List.length_map, List.length_range] at hi; exact Nat.le_of_eq hi.symm
/-- a list at an address, by its data -/
def isTup : D → Bool | .tup _ => true | _ => false
theorem list_uniq {d : D} {a : Addr} {l : List D} (ht : isTup d = false) (r : Rep W M1 H1 d (.ref a)) (e : seqIn M1 d = some l) :
    ∀ M H, Ext W M1 H1 M H → AbsM W M H → seqIn M d = seqIn M1 d → ∃ xs, SqL W.K H a xs ∧ Reps W M H l xs := by
  intro M H x A s
  have r' := r.ext x
  cases d with
  | tup l' => cases ht
  | scr ns =>
    cases e
    obtain ⟨b, eb, s⟩ := r'
    cases eb
    exact ⟨_, s.seq, reps_ints ns⟩
  | lst l' =>
    obtain ⟨b, xs, eb, h, q⟩ := listIn_rep A r' (s.trans e)
    cases eb
    exact ⟨xs, SqL.of h, q⟩
  | ref b =>
    obtain ⟨b, xs, eb, h, q⟩ := listIn_rep A r' (s.trans e)
    cases eb
    exact ⟨xs, SqL.of h, q⟩
  | _ => cases e
theorem iter_list {pins : List (Addr × Obj)} {σ : L2.St} {s : Shared} {tg : Expr} {R : It → Hp → Prop} {a : Addr} {xs : List V} (I : Inv X pins σ H s) (hs : SqL X.K H a xs) (q : R (Itl X.K a) H) :
    wpAny (model X.prog X.w) X.A (pyIter (.ref a)) (PIE X pins σ tg R) X.xe s := by
  obtain ⟨its, _, pl, _⟩ := I.list hs
  refine wpAny_pyIter_list pl.isList ⟨s.heap.objs.size, [s.heap.objs.size], _, _, H, rfl, I.kept (t' := s.toks) (fun b o z => Heap.get?_push_of_some _ z), turn_list a _, ⟨_, Heap.get?_push_size _ rfl, rfl, rfl⟩, fun b hb => ?_, q⟩
  obtain rfl : b = s.heap.objs.size := List.mem_singleton.mp hb
  exact I.fpOk (Nat.le_refl _) (I.hok.fresh (Nat.le_refl _))
theorem iter_tup {pins : List (Addr × Obj)} {σ : L2.St} {s : Shared} {tg : Expr} {R : It → Hp → Prop} {a : Addr} {xs : List V} (I : Inv X pins σ H s) (hs : SqT X.K H a xs) (q : R (Itt X.K a) H) :
    wpAny (model X.prog X.w) X.A (pyIter (.ref a)) (PIE X pins σ tg R) X.xe s := by
  obtain ⟨its, _, pl, _⟩ := I.tuple hs
  refine wpAny_pyIter_tuple (show s.heap.IsTuple a its.toArray from pl) ⟨s.heap.objs.size, [s.heap.objs.size], _, _, H, rfl, I.kept (t' := s.toks) (fun b o z => Heap.get?_push_of_some _ z), turn_tuple a _, ⟨_, Heap.get?_push_size _ rfl, rfl, rfl⟩, fun b hb => ?_, q⟩
  obtain rfl : b = s.heap.objs.size := List.mem_singleton.mp hb
  exact I.fpOk (Nat.le_refl _) (I.hok.fresh (Nat.le_refl _))
theorem good_str (z : Str) : GoodIt W (Its z) (z.cps.toList.map fun c => D.str ⟨#[c]⟩) (fun _ => True) M1 H1 := by
  intro M H x A ok i
  refine ⟨fun d hd => ?_, fun hi => ?_⟩
  · rw [List.getElem?_map, Array.getElem?_toList] at hd
    cases hc : z.cps[i]? with
    | none => rw [hc] at hd; cases hd
    | some c =>
      rw [hc] at hd
      cases hd
      refine ⟨(Array.getElem?_eq_some_iff.mp hc).1, ?_⟩
      rintro y H' ⟨rfl, c', e1, e2⟩
      rw [hc] at e1
      cases e1
      exact ⟨Ext.refl, A, e2⟩
  · rw [List.length_map, Array.length_toList] at hi
    exact Nat.le_of_eq hi.symm
/-- over a sequence -/
theorem DI.seq {tg e : Expr} {t : DTA} (h : DA X [e] t) (hs : notStar e = true) (he : ∃ te : DTE, DE X e te ∧ ∀ ρ M Q, t ρ M Q → te ρ M fun d M1 => Q [d] M1) : DI X tg e (fun ρ M Q => t ρ M fun ds M1 => itD .seq ds M1 Q) := by
  obtain ⟨te, he, ht⟩ := he
  refine ⟨fun σ H ρ M Q S A z pins s I => ?_⟩
  refine thn (he.to σ H ρ M _ S A (ht _ _ _ z) pins s I) fun u s1 ⟨v, H1, I1, rv, d, M1, x, r, A1, q⟩ => ?_
  rcases itD_seq q with ⟨d', l, ed, e, q⟩ | ⟨y, ed, q⟩
  case inr =>
    cases ed
    rw [show v = _ from r] at rv
    obtain ⟨t, rfl⟩ := rv
    cases ha : y.cps.all (· < 128)
    · exact wpAny_pyIter_wide ha (pi_one (tk := s1.toks) I1 _ (turn_str _ y t "str_iterator" (.inr rfl)) ⟨_, Heap.get?_push_size _ rfl, rfl, rfl⟩ ⟨_, _, M1, x, A1, good_str y, q⟩)
    · exact wpAny_pyIter_ascii ha (pi_one (tk := s1.toks) I1 _ (turn_str _ y t "str_ascii_iterator" (.inl rfl)) ⟨_, Heap.get?_push_size _ rfl, rfl, rfl⟩ ⟨_, _, M1, x, A1, good_str y, q⟩)
  cases ed
  cases hd : isTup d with
  | true =>
    cases d with
    | tup l' =>
      cases e
      obtain ⟨a, xs, rfl, hs, rs⟩ := id r
      cases rv
      exact iter_tup I1 hs ⟨_, _, M1, x, A1, good_tup r, q⟩
    | _ => cases hd
  | false =>
    obtain ⟨a, xs, rfl, _⟩ := seqIn_rep A1 r e
    cases rv
    have g := good_list r e (list_uniq hd r e)
    obtain ⟨xs, hs, _⟩ := list_uniq hd r e M1 H1 Ext.refl A1 rfl
    exact iter_list I1 hs ⟨_, _, M1, x, A1, g, q⟩
theorem DI.rng1 {tg a : Expr} {t : DTA} {p pos : Pos} (hg : Gl X "range") (hm : X.mg "range" = none) (h : DA X [a] t) (hs : notStar a = true) :
    DI X tg (.Call (.Name "range" p) [a] [] pos) (fun ρ M Q => t ρ M fun ds M1 => itD .rng1 ds M1 Q) := by
  refine ⟨fun σ H ρ M Q S A z => ?_⟩
  refine piT_of (pi_range1 hg hm pa_cA (star_cons hs)) ?_
  refine h.bind S A z fun vs ds M1 H1 x r A1 S1 q => ?_
  obtain ⟨j, rfl, rk, q⟩ := itD_rng1 q
  obtain ⟨v, rfl, r1⟩ := reps1 r
  exact ⟨j, by rw [show v = _ from r1], rk.1, rk.2, _, _, M1, x, A1, good_rng 0 _, q⟩
theorem DI.rng2 {tg a b : Expr} {t : DTA} {p pos : Pos} (hg : Gl X "range") (hm : X.mg "range" = none) (h : DA X [a, b] t) (hs : notStar a = true) (hs2 : notStar b = true) :
    DI X tg (.Call (.Name "range" p) [a, b] [] pos) (fun ρ M Q => t ρ M fun ds M1 => itD .rng2 ds M1 Q) := by
  refine ⟨fun σ H ρ M Q S A z => ?_⟩
  refine piT_of (pi_range2 hg hm pa_cA ((star_cons hs).trans (by rw [star_cons hs2]; rfl)) (star_cons hs2)) ?_
  refine h.bind S A z fun vs ds M1 H1 x r A1 S1 q => ?_
  obtain ⟨i, j, rfl, r1, r2, q⟩ := itD_rng2 q
  obtain ⟨v, u, rfl, w1, w2⟩ := reps2 r
  exact ⟨i, j, by rw [show v = _ from w1, show u = _ from w2], ⟨r1.1, r1.2, r2.1, r2.2⟩, _, _, M1, x, A1, good_rng i _, q⟩
theorem DI.rng3 {tg a b c : Expr} {t : DTA} {p pos : Pos} (hg : Gl X "range") (hm : X.mg "range" = none) (h : DA X [a, b, c] t) (hs : notStar a = true) (hs2 : notStar b = true) (hs3 : notStar c = true) :
    DI X tg (.Call (.Name "range" p) [a, b, c] [] pos) (fun ρ M Q => t ρ M fun ds M1 => itD .rng3 ds M1 Q) := by
  refine ⟨fun σ H ρ M Q S A z => ?_⟩
  refine piT_of (pi_range3 hg hm pa_cA (star_cons hs) (star_none (by rw [List.all_cons, List.all_cons, List.all_nil, hs2, hs3]; rfl))) ?_
  refine h.bind S A z fun vs ds M1 H1 x r A1 S1 q => ?_
  obtain ⟨i, j, rfl, r1, r2, q⟩ := itD_rng3 q
  obtain ⟨v, vs, rfl, w1, r⟩ := r
  obtain ⟨u, w, rfl, w2, w3⟩ := reps2 r
  exact ⟨i, j, -1, _, by rw [show v = _ from w1, show u = _ from w2, show w = _ from w3], RgC.neg r1.1 r1.2 r2.1 r2.2, _, _, M1, x, A1, good_rngC i _, q⟩
end
end Ow
namespace Ow
open PySem PySem.Spec PyProof.Rows L2
variable [Tb] [Og]
/-! ### zip and enumerate over lists and tuples in any mix -/
def SqK (k : Bool) (K : PySem.W.Frag) (H : Hp) (a : Addr) (xs : List V) : Prop := match k with | true => SqT K H a xs | false => SqL K H a xs
def IterK (k : Bool) (h : Heap) (it a : Addr) (i : Nat) : Prop := match k with | true => h.IsTupleIter it a i | false => h.IsListIter it a i
def iterO (k : Bool) (a : Addr) : Obj := match k with
  | true => { cls := .type "tuple_iterator", data := .fields #[.ref a, .int 0 0] }
  | false => { cls := .type "list_iterator", data := .fields #[.ref a, .int 0 0] }
/-! ### enumerate(v) -/
theorem enum_new1 {v : Value} {o : Obj} {P : Heap → Prop} (B : Begins v o P) :
    Meets (Builtin.«enumerate.__new__» ⟨[.type "enumerate", v], []⟩) (fun _ R s => P s.heap ∧
      R (.ok (.ret (.ref (s.heap.push o).objs.size))) { s with heap := (s.heap.push o).push { cls := .type "enumerate", data := .fields #[.none, .bool false, .ref s.heap.objs.size, rawInt 0, .none, .none] } }) :=
  .of_wp fun prog w A R s hR => by
    obtain ⟨hp, gs, dr, tk, os⟩ := s
    obtain ⟨hP, hR⟩ := hR
    have sub1 := sub_enumerate
    have step : ∀ {A1 : Around} {E : Value → Shared → Prop} {Q : Value → Shared → Prop}, Q (.ref hp.objs.size) ⟨hp.push o, gs, dr, tk, os⟩ → wpAny (model prog w) A1 (pyIter v) Q E ⟨hp, gs, dr, tk, os⟩ := fun q => B.iter prog w _ _ _ _ hP q
    wp_walk using step
    refine wpAny_stack_any fun st => wpAny_pure ?_
    split
    · rename_i c _ _ _ _ _
      cases (c == Value.type "enumerate") <;> (wp_walk using step; exact ⟨_, rfl, hR⟩)
    · wp_walk using step
      exact ⟨_, rfl, hR⟩
theorem enum_call1 {prog : Program} {w : World} {A : Around} {E : Value → Shared → Prop} {s : Shared} {v : Value} {o : Obj} {P : Heap → Prop} {Q : Value → Shared → Prop} (B : Begins v o P) (hP : P s.heap)
    (hQ : ∀ h1, IsEnum h1 (s.heap.objs.size + 1) s.heap.objs.size 0 .none → h1.get? s.heap.objs.size = some o → (∀ b u, s.heap.get? b = some u → h1.get? b = some u) → Q (.ref (s.heap.objs.size + 1)) { s with heap := h1 }) :
    wpAny (model prog w) A (call (.type "enumerate") [v]) Q E s := by
  have sz : (s.heap.push o).objs.size = s.heap.objs.size + 1 := Heap.size_push ..
  refine callType_new F.called_enumerate (by decide) (F.typeCall_enumerate_1 _) (F.newCall_enumerate_1 _) (fun z => F.args_object_init_2 z _) F.entry_enumerate_new (enum_new1 B) ⟨hP, ?_⟩
  have top := Heap.get?_push_size (s.heap.push o) (o := { cls := .type "enumerate", data := .fields #[.none, .bool false, .ref s.heap.objs.size, rawInt 0, .none, .none] }) rfl
  show _ ∧ _
  rw [sz] at top ⊢
  exact ⟨⟨_, top, rfl⟩, hQ _ top (Heap.get?_push_of_some _ (Heap.get?_push_size _ B.free)) fun b u q => Heap.get?_push_of_some _ (Heap.get?_push_of_some _ q)⟩
section
variable {X : Cx} {pins : List (Addr × Obj)} {σ : L2.St} {H : Hp} {s : Shared} {k : Bool} {a it : Addr} {xs ys : List V} {i : Nat}
theorem SqK.inj (I : Inv X pins σ H s) (h : SqK k X.K H a xs) (h' : SqK k X.K H a ys) : xs = ys := by
  cases k with
  | true => exact I.tuple_inj h h'
  | false => exact I.list_inj h h'
theorem IterK.obj {h : Heap} (q : IterK k h it a i) : ∃ o, h.get? it = some o ∧ ∀ v, o.data ≠ .cell v := by
  cases k with
  | true => obtain ⟨o, e, _, d⟩ := q; exact ⟨o, e, fun v z => by rw [d] at z; cases z⟩
  | false => obtain ⟨o, e, _, d⟩ := q; exact ⟨o, e, fun v z => by rw [d] at z; cases z⟩
theorem IterK.at {h h' : Heap} (q : IterK k h it a i) (e : ∀ o, h.get? it = some o → h'.get? it = some o) : IterK k h' it a i := by
  cases k with
  | true => obtain ⟨o, e1, r⟩ := q; exact ⟨o, e _ e1, r⟩
  | false => obtain ⟨o, e1, r⟩ := q; exact ⟨o, e _ e1, r⟩
theorem IterK.new {h : Heap} (e : h.get? it = some (iterO k a)) : IterK k h it a 0 := by
  cases k with
  | true => exact ⟨_, e, rfl, rfl⟩
  | false => exact ⟨_, e, rfl, rfl⟩
theorem SqK.lt (I : Inv X pins σ H s) (h : SqK k X.K H a xs) : a < s.heap.objs.size := by
  cases k with
  | true => obtain ⟨_, _, p, _⟩ := I.tuple h; exact p.lt
  | false => obtain ⟨_, _, p, _⟩ := I.list h; exact p.lt
/-- what the iterator draws -/
theorem drawsK (I : Inv X pins σ H s) (hh : X.A.handled = none) (h : SqK k X.K H a xs) (q : IterK k s.heap it a i) (hne : a ≠ it) :
    ∃ (its : List Value) (St : Nat → Heap → Prop), Vals xs its ∧ Draws X.prog X.w X.A.in1 it [it, a] its.length (fun i v => its[i]? = some v) St ∧ St i s.heap ∧ ∀ j h, St j h → IterK k h it a j := by
  cases k with
  | true =>
    obtain ⟨its, rv, p, _⟩ := I.tuple h
    have D := Draws.tuple (prog := X.prog) (w := X.w) (A := X.A.in1) hh it a hne its.toArray
    refine ⟨its, fun i h => h.IsTupleIter it a i ∧ h.IsTuple a its.toArray, rv, ?_, ⟨q, p⟩, fun j h z => z.1⟩
    simpa using D
  | false =>
    obtain ⟨its, rv, p, _⟩ := I.list h
    have D := Draws.list (prog := X.prog) (w := X.w) (A := X.A.in1) hh it a hne its.toArray
    refine ⟨its, fun i h => h.IsListIter it a i ∧ h.IsList a its.toArray, rv, ?_, ⟨q, p.isList⟩, fun j h z => z.1⟩
    simpa using D
/-- the walk's own records have turned -/
theorem _root_.L2.Inv.spent {ch : List Addr} {h' : Heap} {t' : Nat} (I : Inv X pins σ H s) (hf : ∀ b ∈ ch, FpOk X pins H b) (hk : ∀ b o, b ∉ ch → s.heap.get? b = some o → h'.get? b = some o) : Inv X pins σ H { s with heap := h', toks := t' } := by
  refine I.step (g' := s.gens) (d' := s.drawn) (ch := ch) (fun c hc => ⟨(hf c hc).2.2.2.1, (hf c hc).2.1, (hf c hc).2.2.2.2.1, (hf c hc).2.2.2.2.2⟩) (fun b o _ _ hn e _ => hk b o hn e) (fun b o _ _ hn e _ => ⟨o.slots, hk b o hn e⟩)
    (fun _ _ _ _ n => n) (fun b o hn e => ⟨o, hk b o hn e⟩) (fun _ _ e => e) (fun _ _ _ e => e) (fun b ps e => ⟨#[], by rw [e]; simp⟩) (fun m hm => ?_) (fun b u e => ?_) I.bare
  · obtain ⟨o, es, ep, ho, r⟩ := hm
    exact ⟨o, es, ep, hk _ o (fun q => (hf _ q).2.1 rfl) ho, r⟩
  · refine (I.hok b u e).stay (fun c v hc q => hk c v (fun z => ?_) q) (fun _ q => q) fun _ _ q => q
    have n := (hf c z).1
    rcases hc with rfl | hc
    · rw [e] at n; cases n
    · rw [hc] at n; cases n
def Itz2 (K : PySem.W.Frag) (k1 k2 : Bool) (a b : Addr) : It :=
  ⟨fun i H => ∃ (xs ys : List V) (x y : V), SqK k1 K H a xs ∧ SqK k2 K H b ys ∧ xs[i]? = some x ∧ ys[i]? = some y,
    fun i H v H' => ∃ T x y, v = .ref T ∧ H T = none ∧ H' = upd H T (.tup [x, y]) ∧ (∀ xs, SqK k1 K H a xs → xs[i]? = some x) ∧ ∀ ys, SqK k2 K H b ys → ys[i]? = some y,
    fun i H => ∃ xs ys : List V, SqK k1 K H a xs ∧ SqK k2 K H b ys ∧ i = min xs.length ys.length⟩
theorem turn_zip2 {P : Program} {w : World} {K : PySem.W.Frag} {elts : List Expr} {kk : Nat} {tpos : Pos} {k1 k2 : Bool} {a b z TI TO i1 i2 : Addr} (D : ZipSep2 z TI TO i1 i2 [i1, a] [i2, b]) (n1 : a ≠ i1) (n2 : b ≠ i2) :
    Turn P w K (.Tuple elts kk tpos) (Itz2 K k1 k2 a b) [z, TI, TO, i1, i2] z (fun i h => IsZip h z TI TO .none ∧ IsTupOf2 h TI (.ref i1) (.ref i2) ∧ (∃ x y, IsTupOf2 h TO x y) ∧ IterK k1 h i1 a i ∧ IterK k2 h i2 b i) where
  mem := List.mem_cons_self
  obj := fun i h st c hc => by
    obtain ⟨hz, hTI, ⟨x, y, hTO⟩, h1, h2⟩ := st
    simp only [List.mem_cons, List.not_mem_nil, or_false] at hc
    rcases hc with rfl | rfl | rfl | rfl | rfl
    · exact ⟨_, hz, fun v q => nomatch q⟩
    · exact ⟨_, hTI, fun v q => nomatch q⟩
    · exact ⟨_, hTO, fun v q => nomatch q⟩
    · exact h1.obj
    · exact h2.obj
  keep := fun i h h' st kp => by
    obtain ⟨hz, hTI, ⟨x, y, hTO⟩, h1, h2⟩ := st
    exact ⟨kp z (by simp) _ hz, kp TI (by simp) _ hTI, ⟨x, y, kp TO (by simp) _ hTO⟩, h1.at fun o q => kp i1 (by simp) o q, h2.at fun o q => kp i2 (by simp) o q⟩
  item := by
    intro X hP hw hK hc i pins s σ H E I hf st hg
    subst hP hw hK
    obtain ⟨hz, hTI, ⟨x0, y0, hTO⟩, h1, h2⟩ := st
    obtain ⟨xs, ys, x, y, sx, sy, gx, gy⟩ := hg
    obtain ⟨its1, St1, v1, D1, s1, t1⟩ := drawsK I (I.ok.hd hc) sx h1 n1
    obtain ⟨its2, St2, v2, D2, s2, t2⟩ := drawsK I (I.ok.hd hc) sy h2 n2
    obtain ⟨u1, e1, r1⟩ := v1.get gx
    obtain ⟨u2, e2, r2⟩ := v2.get gy
    have l1 : i < its1.length := (List.getElem?_eq_some_iff.mp e1).1
    have l2 : i < its2.length := (List.getElem?_eq_some_iff.mp e2).1
    have hzl : z < s.heap.objs.size := Heap.lt_size hz
    refine wpAny_pyNext_zipD2_item D D1 D2 hz hTI hTO s1 s2 l1 l2 fun y1 y2 h' tk p1 p2 z' TO' st1 st2 hT hsz hk => ?_
    rw [e1] at p1; cases p1
    rw [e2] at p2; cases p2
    refine ⟨_, rfl, wpAny_letOwnedTupleGo_zip (s := { s with heap := h', toks := tk }) z' fun h'' z'' sb => ?_⟩
    have hT2 : h''.get? s.heap.objs.size = some { cls := .type "tuple", data := .seq #[u1, u2] } := (sb.2 _ (Nat.ne_of_gt hzl)).trans hT
    have new : ObjOk X.prog X.w (upd H s.heap.objs.size (.tup [x, y])) h'' s.heap.objs.size (.tup [x, y]) :=
      ⟨by show 2 ≤ sizeLine; decide, [u1, u2], .cons r1 (.cons r2 .nil), ⟨_, hT2, rfl, _, rfl⟩⟩
    have I1 : Inv X pins σ (upd H s.heap.objs.size (.tup [x, y])) { s with heap := h'', toks := tk } :=
      I.turnedNew (ch := [z, TI, TO, i1, i2]) (fun c o nc q => (sb.2 c fun e => nc (by simp [e])).trans (hk c o (fun e => nc (by simp [e])) (fun e => nc (by simp [e])) (fun e => nc (by simp [e])) (fun e => nc (by simp [e])) q)) hf (Nat.le_refl _) new
    refine ⟨.ref s.heap.objs.size, _, I1, rfl, ⟨_, x, y, rfl, I.hok.fresh (Nat.le_refl _), rfl, fun l hl => by rw [SqK.inj I hl sx]; exact gx, fun l hl => by rw [SqK.inj I hl sy]; exact gy⟩, ⟨z'', ?_, ⟨u1, u2, ?_⟩, ?_, ?_⟩, fun c hcm => ?_⟩
    · exact (sb.2 _ D.TIz).trans (hk _ _ D.TIz D.TITO D.TIi1 D.TIi2 hTI)
    · exact (sb.2 _ D.TOz).trans TO'
    · exact (t1 _ _ st1).at fun o q => (sb.2 _ (Ne.symm D.zi1)).trans q
    · exact (t2 _ _ st2).at fun o q => (sb.2 _ (Ne.symm D.zi2)).trans q
    · obtain ⟨o, ho⟩ : ∃ o, s.heap.get? c = some o := by
        simp only [List.mem_cons, List.not_mem_nil, or_false] at hcm
        rcases hcm with rfl | rfl | rfl | rfl | rfl
        · exact ⟨_, hz⟩
        · exact ⟨_, hTI⟩
        · exact ⟨_, hTO⟩
        · exact let ⟨o, q, _⟩ := h1.obj; ⟨o, q⟩
        · exact let ⟨o, q, _⟩ := h2.obj; ⟨o, q⟩
      rw [L2.upd_ne (Nat.ne_of_lt (Heap.lt_size ho))]
      exact (hf c hcm).1
  done := by
    intro X hP hw hK hc i pins s σ H E I hf st hg
    subst hP hw hK
    obtain ⟨hz, hTI, ⟨x0, y0, hTO⟩, h1, h2⟩ := st
    obtain ⟨xs, ys, sx, sy, hi⟩ := hg
    obtain ⟨its1, St1, v1, D1, s1, t1⟩ := drawsK I (I.ok.hd hc) sx h1 n1
    obtain ⟨its2, St2, v2, D2, s2, t2⟩ := drawsK I (I.ok.hd hc) sy h2 n2
    have e1 := v1.length
    have e2 := v2.length
    refine wpAny_pyNext_zipD2_end D D1 D2 hz hTI hTO s1 s2 (by omega) (by omega) (by omega) fun h' tk hk => ⟨rfl, ?_⟩
    exact I.spent hf fun c o nc q => hk c o (fun e => nc (by simp [e])) (fun e => nc (by simp [e])) (fun e => nc (by simp [e])) (fun e => nc (by simp [e])) q
  self := fun A i s Q E st h => wpAny_pyIter_zip st.1 h
def Itz3 (K : PySem.W.Frag) (k1 k2 k3 : Bool) (a b c : Addr) : It :=
  ⟨fun i H => ∃ (xs ys zs : List V) (x y z : V), SqK k1 K H a xs ∧ SqK k2 K H b ys ∧ SqK k3 K H c zs ∧ xs[i]? = some x ∧ ys[i]? = some y ∧ zs[i]? = some z,
    fun i H v H' => ∃ T x y z, v = .ref T ∧ H T = none ∧ H' = upd H T (.tup [x, y, z]) ∧ (∀ xs, SqK k1 K H a xs → xs[i]? = some x) ∧ (∀ ys, SqK k2 K H b ys → ys[i]? = some y) ∧ ∀ zs, SqK k3 K H c zs → zs[i]? = some z,
    fun i H => ∃ xs ys zs : List V, SqK k1 K H a xs ∧ SqK k2 K H b ys ∧ SqK k3 K H c zs ∧ i = min (min xs.length ys.length) zs.length⟩
theorem turn_zip3 {P : Program} {w : World} {K : PySem.W.Frag} {elts : List Expr} {kk : Nat} {tpos : Pos} {k1 k2 k3 : Bool} {a b c z TI TO i1 i2 i3 : Addr} (D : ZipSep3 z TI TO i1 i2 i3 [i1, a] [i2, b] [i3, c]) (n1 : a ≠ i1) (n2 : b ≠ i2) (n3 : c ≠ i3) :
    Turn P w K (.Tuple elts kk tpos) (Itz3 K k1 k2 k3 a b c) [z, TI, TO, i1, i2, i3] z (fun i h => IsZip h z TI TO .none ∧ IsTupOf3 h TI (.ref i1) (.ref i2) (.ref i3) ∧ (∃ x y z, IsTupOf3 h TO x y z) ∧ IterK k1 h i1 a i ∧ IterK k2 h i2 b i ∧ IterK k3 h i3 c i) where
  mem := List.mem_cons_self
  obj := fun i h st c hc => by
    obtain ⟨hz, hTI, ⟨x, y, w, hTO⟩, h1, h2, h3⟩ := st
    simp only [List.mem_cons, List.not_mem_nil, or_false] at hc
    rcases hc with rfl | rfl | rfl | rfl | rfl | rfl
    · exact ⟨_, hz, fun v q => nomatch q⟩
    · exact ⟨_, hTI, fun v q => nomatch q⟩
    · exact ⟨_, hTO, fun v q => nomatch q⟩
    · exact h1.obj
    · exact h2.obj
    · exact h3.obj
  keep := fun i h h' st kp => by
    obtain ⟨hz, hTI, ⟨x, y, w, hTO⟩, h1, h2, h3⟩ := st
    exact ⟨kp z (by simp) _ hz, kp TI (by simp) _ hTI, ⟨x, y, w, kp TO (by simp) _ hTO⟩, h1.at fun o q => kp i1 (by simp) o q, h2.at fun o q => kp i2 (by simp) o q, h3.at fun o q => kp i3 (by simp) o q⟩
  item := by
    intro X hP hw hK hc i pins s σ H E I hf st hg
    subst hP hw hK
    obtain ⟨hz, hTI, ⟨x0, y0, w0, hTO⟩, h1, h2, h3⟩ := st
    obtain ⟨xs, ys, zs, x, y, w, sx, sy, sz, gx, gy, gz⟩ := hg
    obtain ⟨its1, St1, v1, D1, s1, t1⟩ := drawsK I (I.ok.hd hc) sx h1 n1
    obtain ⟨its2, St2, v2, D2, s2, t2⟩ := drawsK I (I.ok.hd hc) sy h2 n2
    obtain ⟨its3, St3, v3, D3, s3, t3⟩ := drawsK I (I.ok.hd hc) sz h3 n3
    obtain ⟨u1, e1, r1⟩ := v1.get gx
    obtain ⟨u2, e2, r2⟩ := v2.get gy
    obtain ⟨u3, e3, r3⟩ := v3.get gz
    have l1 : i < its1.length := (List.getElem?_eq_some_iff.mp e1).1
    have l2 : i < its2.length := (List.getElem?_eq_some_iff.mp e2).1
    have l3 : i < its3.length := (List.getElem?_eq_some_iff.mp e3).1
    have hzl : z < s.heap.objs.size := Heap.lt_size hz
    refine wpAny_pyNext_zipD3_item D D1 D2 D3 hz hTI hTO s1 s2 s3 l1 l2 l3 fun y1 y2 y3 h' tk p1 p2 p3 z' TO' st1 st2 st3 hT hsz hk => ?_
    rw [e1] at p1; cases p1
    rw [e2] at p2; cases p2
    rw [e3] at p3; cases p3
    refine ⟨_, rfl, wpAny_letOwnedTupleGo_zip (s := { s with heap := h', toks := tk }) z' fun h'' z'' sb => ?_⟩
    have hT2 : h''.get? s.heap.objs.size = some { cls := .type "tuple", data := .seq #[u1, u2, u3] } := (sb.2 _ (Nat.ne_of_gt hzl)).trans hT
    have new : ObjOk X.prog X.w (upd H s.heap.objs.size (.tup [x, y, w])) h'' s.heap.objs.size (.tup [x, y, w]) :=
      ⟨by show 3 ≤ sizeLine; decide, [u1, u2, u3], .cons r1 (.cons r2 (.cons r3 .nil)), ⟨_, hT2, rfl, _, rfl⟩⟩
    have I1 : Inv X pins σ (upd H s.heap.objs.size (.tup [x, y, w])) { s with heap := h'', toks := tk } :=
      I.turnedNew (ch := [z, TI, TO, i1, i2, i3]) (fun c o nc q => (sb.2 c fun e => nc (by simp [e])).trans (hk c o (fun e => nc (by simp [e])) (fun e => nc (by simp [e])) (fun e => nc (by simp [e])) (fun e => nc (by simp [e])) (fun e => nc (by simp [e])) q)) hf (Nat.le_refl _) new
    refine ⟨.ref s.heap.objs.size, _, I1, rfl, ⟨_, x, y, w, rfl, I.hok.fresh (Nat.le_refl _), rfl, fun l hl => by rw [SqK.inj I hl sx]; exact gx, fun l hl => by rw [SqK.inj I hl sy]; exact gy, fun l hl => by rw [SqK.inj I hl sz]; exact gz⟩, ⟨z'', ?_, ⟨u1, u2, u3, ?_⟩, ?_, ?_, ?_⟩, fun c hcm => ?_⟩
    · exact (sb.2 _ D.TIz).trans (hk _ _ D.TIz D.TITO D.TIi1 D.TIi2 D.TIi3 hTI)
    · exact (sb.2 _ D.TOz).trans TO'
    · exact (t1 _ _ st1).at fun o q => (sb.2 _ (Ne.symm D.zi1)).trans q
    · exact (t2 _ _ st2).at fun o q => (sb.2 _ (Ne.symm D.zi2)).trans q
    · exact (t3 _ _ st3).at fun o q => (sb.2 _ (Ne.symm D.zi3)).trans q
    · obtain ⟨o, ho⟩ : ∃ o, s.heap.get? c = some o := by
        simp only [List.mem_cons, List.not_mem_nil, or_false] at hcm
        rcases hcm with rfl | rfl | rfl | rfl | rfl | rfl
        · exact ⟨_, hz⟩
        · exact ⟨_, hTI⟩
        · exact ⟨_, hTO⟩
        · exact let ⟨o, q, _⟩ := h1.obj; ⟨o, q⟩
        · exact let ⟨o, q, _⟩ := h2.obj; ⟨o, q⟩
        · exact let ⟨o, q, _⟩ := h3.obj; ⟨o, q⟩
      rw [L2.upd_ne (Nat.ne_of_lt (Heap.lt_size ho))]
      exact (hf c hcm).1
  done := by
    intro X hP hw hK hc i pins s σ H E I hf st hg
    subst hP hw hK
    obtain ⟨hz, hTI, ⟨x0, y0, w0, hTO⟩, h1, h2, h3⟩ := st
    obtain ⟨xs, ys, zs, sx, sy, sz, hi⟩ := hg
    obtain ⟨its1, St1, v1, D1, s1, t1⟩ := drawsK I (I.ok.hd hc) sx h1 n1
    obtain ⟨its2, St2, v2, D2, s2, t2⟩ := drawsK I (I.ok.hd hc) sy h2 n2
    obtain ⟨its3, St3, v3, D3, s3, t3⟩ := drawsK I (I.ok.hd hc) sz h3 n3
    have e1 := v1.length
    have e2 := v2.length
    have e3 := v3.length
    refine wpAny_pyNext_zipD3_end D D1 D2 D3 hz hTI hTO s1 s2 s3 (by omega) (by omega) (by omega) (by omega) fun h' tk hk => ⟨rfl, ?_⟩
    exact I.spent hf fun c o nc q => hk c o (fun e => nc (by simp [e])) (fun e => nc (by simp [e])) (fun e => nc (by simp [e])) (fun e => nc (by simp [e])) (fun e => nc (by simp [e])) q
  self := fun A i s Q E st h => wpAny_pyIter_zip st.1 h
/-- enumerate -/
def IteK (K : PySem.W.Frag) (k : Bool) (a : Addr) : It :=
  ⟨fun i H => ∃ (xs : List V) (x : V), SqK k K H a xs ∧ xs[i]? = some x,
    fun i H v H' => ∃ T x, v = .ref T ∧ H T = none ∧ H' = upd H T (.tup [.int (i : Nat), x]) ∧ ∀ xs, SqK k K H a xs → xs[i]? = some x,
    fun i H => ∃ xs : List V, SqK k K H a xs ∧ i = xs.length⟩
theorem turn_enumK {P : Program} {w : World} {K : PySem.W.Frag} {elts : List Expr} {kk : Nat} {tpos : Pos} {k : Bool} {a e it : Addr} (n1 : a ≠ it) (n2 : e ≠ it) (n3 : e ≠ a) :
    Turn P w K (.Tuple elts kk tpos) (IteK K k a) [e, it] e (fun i h => (∃ old, IsEnum h e it ((i : Nat) : Int) old) ∧ IterK k h it a i) where
  mem := List.mem_cons_self
  obj := fun i h st c hc => by
    obtain ⟨⟨old, he⟩, h1⟩ := st
    simp only [List.mem_cons, List.not_mem_nil, or_false] at hc
    rcases hc with rfl | rfl
    · exact ⟨_, he, fun v q => nomatch q⟩
    · exact h1.obj
  keep := fun i h h' st kp => by
    obtain ⟨⟨old, he⟩, h1⟩ := st
    exact ⟨⟨old, kp e (by simp) _ he⟩, h1.at fun o q => kp it (by simp) o q⟩
  item := by
    intro X hP hw hK hc i pins s σ H E I hf st hg
    subst hP hw hK
    obtain ⟨⟨old, he⟩, h1⟩ := st
    obtain ⟨xs, x, sx, gx⟩ := hg
    obtain ⟨its1, St1, v1, D1, s1, t1⟩ := drawsK I (I.ok.hd hc) sx h1 n1
    obtain ⟨u1, e1, r1⟩ := v1.get gx
    have l1 : i < its1.length := (List.getElem?_eq_some_iff.mp e1).1
    have hel : e < s.heap.objs.size := Heap.lt_size he
    refine wpAny_pyNext_enum_itemC D1 he s1 l1 n2 (by simp [n2, n3]) fun y1 h' tk p1 ho st1 hT hsz hk => ?_
    rw [e1] at p1; cases p1
    refine ⟨_, rfl, wpAny_letOwnedTupleGo_enum (s := { s with heap := h', toks := tk + 1 }) ho fun h'' he' sb => ?_⟩
    have hT2 : h''.get? s.heap.objs.size = some { cls := .type "tuple", data := .seq #[.int (i : Int) tk, u1] } := (sb.2 _ (Nat.ne_of_gt hel)).trans hT
    have new : ObjOk X.prog X.w (upd H s.heap.objs.size (.tup [.int (i : Nat), x])) h'' s.heap.objs.size (.tup [.int (i : Nat), x]) :=
      ⟨by show 2 ≤ sizeLine; decide, [.int (i : Int) tk, u1], .cons ⟨_, rfl⟩ (.cons r1 .nil), ⟨_, hT2, rfl, _, rfl⟩⟩
    have I1 : Inv X pins σ (upd H s.heap.objs.size (.tup [.int (i : Nat), x])) { s with heap := h'', toks := tk + 1 } :=
      I.turnedNew (ch := [e, it]) (fun c o nc q => (sb.2 c fun z => nc (by simp [z])).trans (hk c o (fun z => nc (by simp [z])) (fun z => nc (by simp [z])) q)) hf (Nat.le_refl _) new
    refine ⟨.ref s.heap.objs.size, _, I1, rfl, ⟨_, x, rfl, I.hok.fresh (Nat.le_refl _), rfl, fun l hl => by rw [SqK.inj I hl sx]; exact gx⟩, ⟨⟨u1, ?_⟩, ?_⟩, fun c hcm => ?_⟩
    · have z : ((i + 1 : Nat) : Int) = (i : Int) + 1 := by omega
      rw [z]; exact he'
    · exact (t1 _ _ st1).at fun o q => (sb.2 _ (Ne.symm n2)).trans q
    · obtain ⟨o, ho⟩ : ∃ o, s.heap.get? c = some o := by
        simp only [List.mem_cons, List.not_mem_nil, or_false] at hcm
        rcases hcm with rfl | rfl
        · exact ⟨_, he⟩
        · exact let ⟨o, q, _⟩ := h1.obj; ⟨o, q⟩
      rw [L2.upd_ne (Nat.ne_of_lt (Heap.lt_size ho))]
      exact (hf c hcm).1
  done := by
    intro X hP hw hK hc i pins s σ H E I hf st hg
    subst hP hw hK
    obtain ⟨⟨old, he⟩, h1⟩ := st
    obtain ⟨xs, sx, hi⟩ := hg
    obtain ⟨its1, St1, v1, D1, s1, t1⟩ := drawsK I (I.ok.hd hc) sx h1 n1
    have e1 := v1.length
    rw [hi, e1] at s1
    refine wpAny_pyNext_enum_endD D1 he s1 fun h' hk => ⟨rfl, ?_⟩
    exact I.spent (t' := s.toks) hf fun c o nc q => hk c o (fun z => nc (by simp [z])) q
  self := fun A i s Q E st h => let ⟨⟨_, he⟩, _⟩ := st; wpAny_pyIter_enum he h
/-! ### .. at the data's level -/
variable {W : Wd} {M M1 : Mp} {H1 : Hp}
theorem seq_kind (A : AbsM W M H) {d : D} {v : V} {l : List D} (r : Rep W M H d v) (e : seqIn M d = some l) : ∃ a xs, v = .ref a ∧ SqK (isTup d) W.K H a xs ∧ Reps W M H l xs := by
  cases hd : isTup d with
  | true =>
    cases d with
    | tup l' => cases e; exact r
    | _ => cases hd
  | false =>
    obtain ⟨a, xs, rfl, _⟩ := seqIn_rep A r e
    obtain ⟨xs, h1, h2⟩ := list_uniq hd r e M H Ext.refl A rfl
    exact ⟨a, xs, rfl, h1, h2⟩
theorem kind_stays {d : D} {a : Addr} {l : List D} (r : Rep W M1 H1 d (.ref a)) (e : seqIn M1 d = some l) (x : Ext W M1 H1 M H) (A : AbsM W M H) (s : seqIn M d = seqIn M1 d) : ∃ xs, SqK (isTup d) W.K H a xs ∧ Reps W M H l xs := by
  obtain ⟨b, xs, eb, h1, h2⟩ := seq_kind A (r.ext x) (s.trans e)
  cases eb
  exact ⟨xs, h1, h2⟩
theorem get_zip {l1 l2 : List D} {i : Nat} {d : D} (h : ((l1.zip l2).map fun p => D.tup [p.1, p.2])[i]? = some d) : ∃ x y, l1[i]? = some x ∧ l2[i]? = some y ∧ d = .tup [x, y] := by
  rw [List.getElem?_map] at h
  cases q : (l1.zip l2)[i]? with
  | none => rw [q] at h; cases h
  | some p =>
    rw [q] at h; cases h
    obtain ⟨h1, h2⟩ := List.getElem?_zip_eq_some.mp q
    exact ⟨p.1, p.2, h1, h2, rfl⟩
theorem rep_pair {d1 d2 : D} {x y : V} {T : Addr} (A : AbsM W M H) (r1 : Rep W M H d1 x) (r2 : Rep W M H d2 y) (n : H T = none) :
    Ext W M H M (upd H T (.tup [x, y])) ∧ AbsM W M (upd H T (.tup [x, y])) ∧ Rep W M (upd H T (.tup [x, y])) (.tup [d1, d2]) (.ref T) :=
  ⟨Ext.fresh n, A.fresh n, Rep.newT (ds := [d1, d2]) ⟨_, _, rfl, r1, _, _, rfl, r2, rfl⟩ n⟩
theorem rep_three {d1 d2 d3 : D} {x y z : V} {T : Addr} (A : AbsM W M H) (r1 : Rep W M H d1 x) (r2 : Rep W M H d2 y) (r3 : Rep W M H d3 z) (n : H T = none) :
    Ext W M H M (upd H T (.tup [x, y, z])) ∧ AbsM W M (upd H T (.tup [x, y, z])) ∧ Rep W M (upd H T (.tup [x, y, z])) (.tup [d1, d2, d3]) (.ref T) :=
  ⟨Ext.fresh n, A.fresh n, Rep.newT (ds := [d1, d2, d3]) ⟨_, _, rfl, r1, _, _, rfl, r2, _, _, rfl, r3, rfl⟩ n⟩
theorem good_zip2 {d1 d2 : D} {a b : Addr} {l1 l2 : List D} (r1 : Rep W M1 H1 d1 (.ref a)) (e1 : seqIn M1 d1 = some l1) (r2 : Rep W M1 H1 d2 (.ref b)) (e2 : seqIn M1 d2 = some l2) :
    GoodIt W (Itz2 W.K (isTup d1) (isTup d2) a b) ((l1.zip l2).map fun p => D.tup [p.1, p.2]) (still M1 [d1, d2]) M1 H1 := by
  intro M H x A ok i
  obtain ⟨xs, sx, rx⟩ := kind_stays r1 e1 x A (seqIn_still ok)
  obtain ⟨ys, sy, ry⟩ := kind_stays r2 e2 x A (seqIn_still (still_tail ok))
  refine ⟨fun d hd => ?_, fun hi => ⟨xs, ys, sx, sy, by rw [hi, List.length_map, List.length_zip, rx.length, ry.length]⟩⟩
  obtain ⟨d1', d2', g1, g2, rfl⟩ := get_zip hd
  obtain ⟨v1, h1, q1⟩ := rx.get g1
  obtain ⟨v2, h2, q2⟩ := ry.get g2
  refine ⟨⟨xs, ys, v1, v2, sx, sy, h1, h2⟩, fun y H' hy => ?_⟩
  obtain ⟨T, x', y', rfl, nT, rfl, f1, f2⟩ := hy
  have z1 := f1 xs sx; rw [h1] at z1; cases z1
  have z2 := f2 ys sy; rw [h2] at z2; cases z2
  exact rep_pair A q1 q2 nT
theorem good_zip3 {d1 d2 d3 : D} {a b c : Addr} {l1 l2 l3 : List D} (r1 : Rep W M1 H1 d1 (.ref a)) (e1 : seqIn M1 d1 = some l1) (r2 : Rep W M1 H1 d2 (.ref b)) (e2 : seqIn M1 d2 = some l2) (r3 : Rep W M1 H1 d3 (.ref c)) (e3 : seqIn M1 d3 = some l3) :
    GoodIt W (Itz3 W.K (isTup d1) (isTup d2) (isTup d3) a b c) ((l1.zip (l2.zip l3)).map fun p => D.tup [p.1, p.2.1, p.2.2]) (still M1 [d1, d2, d3]) M1 H1 := by
  intro M H x A ok i
  obtain ⟨xs, sx, rx⟩ := kind_stays r1 e1 x A (seqIn_still ok)
  obtain ⟨ys, sy, ry⟩ := kind_stays r2 e2 x A (seqIn_still (still_tail ok))
  obtain ⟨zs, sz, rz⟩ := kind_stays r3 e3 x A (seqIn_still (still_tail (still_tail ok)))
  refine ⟨fun d hd => ?_, fun hi => ⟨xs, ys, zs, sx, sy, sz, by rw [hi, List.length_map, List.length_zip, List.length_zip, rx.length, ry.length, rz.length]; omega⟩⟩
  rw [List.getElem?_map] at hd
  cases q : (l1.zip (l2.zip l3))[i]? with
  | none => rw [q] at hd; cases hd
  | some p =>
    rw [q] at hd; cases hd
    obtain ⟨g1, g23⟩ := List.getElem?_zip_eq_some.mp q
    obtain ⟨g2, g3⟩ := List.getElem?_zip_eq_some.mp g23
    obtain ⟨v1, h1, q1⟩ := rx.get g1
    obtain ⟨v2, h2, q2⟩ := ry.get g2
    obtain ⟨v3, h3, q3⟩ := rz.get g3
    refine ⟨⟨xs, ys, zs, v1, v2, v3, sx, sy, sz, h1, h2, h3⟩, fun y H' hy => ?_⟩
    obtain ⟨T, x', y', z', rfl, nT, rfl, f1, f2, f3⟩ := hy
    have z1 := f1 xs sx; rw [h1] at z1; cases z1
    have z2 := f2 ys sy; rw [h2] at z2; cases z2
    have z3 := f3 zs sz; rw [h3] at z3; cases z3
    exact rep_three A q1 q2 q3 nT
theorem good_enum {d1 : D} {a : Addr} {l1 : List D} (r1 : Rep W M1 H1 d1 (.ref a)) (e1 : seqIn M1 d1 = some l1) :
    GoodIt W (IteK W.K (isTup d1) a) (enumD l1) (still M1 [d1]) M1 H1 := by
  intro M H x A ok i
  obtain ⟨xs, sx, rx⟩ := kind_stays r1 e1 x A (seqIn_still ok)
  refine ⟨fun d hd => ?_, fun hi => ⟨xs, sx, by rw [hi]; unfold enumD; rw [List.length_map, List.length_zipIdx, rx.length]⟩⟩
  unfold enumD at hd
  rw [List.getElem?_map, List.getElem?_zipIdx] at hd
  cases q : l1[i]? with
  | none => rw [q] at hd; cases hd
  | some p =>
    rw [q] at hd
    have hd' : D.tup [.int ((0 + i : Nat) : Int), p] = d := Option.some.inj hd
    rw [Nat.zero_add] at hd'
    subst hd'
    obtain ⟨v1, h1, q1⟩ := rx.get q
    refine ⟨⟨xs, v1, sx, h1⟩, fun y H' hy => ?_⟩
    obtain ⟨T, x', rfl, nT, rfl, f1⟩ := hy
    have z1 := f1 xs sx; rw [h1] at z1; cases z1
    exact rep_pair A (d1 := .int (i : Int)) rfl q1 nT
theorem reps3 {d e f : D} {vs : List V} (r : Reps W M H [d, e, f] vs) : ∃ v u w, vs = [v, u, w] ∧ Rep W M H d v ∧ Rep W M H e u ∧ Rep W M H f w := by
  obtain ⟨v, r, rfl, h1, h2⟩ := r
  obtain ⟨u, w, rfl, h3, h4⟩ := reps2 h2
  exact ⟨v, u, w, rfl, h1, h3, h4⟩
theorem kind_begins (I : Inv X pins σ H s) (h : SqK k X.K H a xs) : ∃ P : Heap → Prop, Begins (.ref a) (iterO k a) P ∧ P s.heap := by
  cases k with
  | true => obtain ⟨its, _, p, _⟩ := I.tuple h; exact ⟨_, begins_tuple a its.toArray, p⟩
  | false => obtain ⟨its, _, p, _⟩ := I.list h; exact ⟨_, begins_list a its.toArray, p.isList⟩
theorem DI.zip2 {e e2 : Expr} {t : DTA} {p pos tpos : Pos} {elts : List Expr} {kk : Nat} (hg : Gl X "zip") (hm : X.mg "zip" = none) (h : DA X [e, e2] t) (hs : notStar e = true) (hs2 : notStar e2 = true) :
    DI X (.Tuple elts kk tpos) (.Call (.Name "zip" p) [e, e2] [] pos) (fun ρ M Q => t ρ M fun ds M1 => itD .zip2 ds M1 Q) := by
  refine ⟨fun σ H ρ M Q S A z pins s I => ?_⟩
  refine Call_ (ld_blt I hg hm PyProof.Rows.boot_zip (PyProof.Rows.callWith_type1 (thn (h.to σ H ρ M _ S A z pos pins s I) fun us s1 ⟨vs, H1, I1, rv, ds, M1, x, r, A1, q⟩ => ?_) (star_cons hs) (star_none (by rw [List.all_cons, hs2]; rfl))))
  obtain ⟨d1, d2, l1, l2, rfl, e1, e2, q⟩ := itD_zip2 q
  obtain ⟨v1, v2, rfl, r1, r2⟩ := reps2 r
  obtain ⟨a, xs, rfl, sx, _⟩ := seq_kind A1 r1 e1
  obtain ⟨b, ys, rfl, sy, _⟩ := seq_kind A1 r2 e2
  obtain ⟨u1, u2, rfl, w1, w2⟩ := vals2 rv
  cases w1; cases w2
  obtain ⟨P1, B1, p1⟩ := kind_begins I1 sx
  obtain ⟨P2, B2, p2⟩ := kind_begins I1 sy
  have la := SqK.lt I1 sx
  have lb := SqK.lt I1 sy
  refine zip_begins2 B1 B2 p1 p2 fun h' hz hTI hTO h1 h2 hsz hk => wpAny_pyIter_zip hz ?_
  have I2 : Inv X pins σ H1 { s1 with heap := h' } := I1.kept (t' := s1.toks) hk
  refine ⟨_, [s1.heap.objs.size + 4, s1.heap.objs.size + 2, s1.heap.objs.size + 3, s1.heap.objs.size, s1.heap.objs.size + 1], _, _, H1, rfl, I2,
    turn_zip2 (zip_sep2 (fp1 := [a]) (fp2 := [b]) (by simpa using la) (by simpa using lb)) (Nat.ne_of_lt la) (Nat.ne_of_lt (Nat.lt_succ_of_lt lb)), ⟨hz, hTI, ⟨_, _, hTO⟩, IterK.new h1, IterK.new h2⟩, fun c hc => ?_,
    _, _, M1, x, A1, good_zip2 r1 e1 r2 e2, q⟩
  have hle : s1.heap.objs.size ≤ c := by
    simp only [List.mem_cons, List.not_mem_nil, or_false] at hc
    rcases hc with e | e | e | e | e <;> rw [e] <;> first | exact Nat.le_refl _ | exact Nat.le_add_right _ _
  exact I1.fpOk hle (I1.hok.fresh hle)
theorem DI.zip3 {e e2 e3 : Expr} {t : DTA} {p pos tpos : Pos} {elts : List Expr} {kk : Nat} (hg : Gl X "zip") (hm : X.mg "zip" = none) (h : DA X [e, e2, e3] t) (hs : notStar e = true) (hs2 : notStar e2 = true) (hs3 : notStar e3 = true) :
    DI X (.Tuple elts kk tpos) (.Call (.Name "zip" p) [e, e2, e3] [] pos) (fun ρ M Q => t ρ M fun ds M1 => itD .zip3 ds M1 Q) := by
  refine ⟨fun σ H ρ M Q S A z pins s I => ?_⟩
  refine Call_ (ld_blt I hg hm PyProof.Rows.boot_zip (PyProof.Rows.callWith_type1 (thn (h.to σ H ρ M _ S A z pos pins s I) fun us s1 ⟨vs, H1, I1, rv, ds, M1, x, r, A1, q⟩ => ?_) (star_cons hs) (star_none (by rw [List.all_cons, List.all_cons, hs2, hs3]; rfl))))
  obtain ⟨d1, d2, d3, l1, l2, l3, rfl, e1, e2, e3, q⟩ := itD_zip3 q
  obtain ⟨v1, v2, v3, rfl, r1, r2, r3⟩ := reps3 r
  obtain ⟨a, xs, rfl, sx, _⟩ := seq_kind A1 r1 e1
  obtain ⟨b, ys, rfl, sy, _⟩ := seq_kind A1 r2 e2
  obtain ⟨c, zs, rfl, sz, _⟩ := seq_kind A1 r3 e3
  cases rv with
  | cons w1 rv =>
    obtain ⟨u2, u3, rfl, w2, w3⟩ := vals2 rv
    cases w1; cases w2; cases w3
    obtain ⟨P1, B1, p1⟩ := kind_begins I1 sx
    obtain ⟨P2, B2, p2⟩ := kind_begins I1 sy
    obtain ⟨P3, B3, p3⟩ := kind_begins I1 sz
    have la := SqK.lt I1 sx
    have lb := SqK.lt I1 sy
    have lc := SqK.lt I1 sz
    refine zip_begins3 B1 B2 B3 p1 p2 p3 fun h' hz hTI hTO h1 h2 h3 hsz hk => wpAny_pyIter_zip hz ?_
    have I2 : Inv X pins σ H1 { s1 with heap := h' } := I1.kept (t' := s1.toks) hk
    refine ⟨_, [s1.heap.objs.size + 5, s1.heap.objs.size + 3, s1.heap.objs.size + 4, s1.heap.objs.size, s1.heap.objs.size + 1, s1.heap.objs.size + 2], _, _, H1, rfl, I2,
      turn_zip3 (zip_sep3 (fp1 := [a]) (fp2 := [b]) (fp3 := [c]) (by simpa using la) (by simpa using lb) (by simpa using lc)) (Nat.ne_of_lt la) (Nat.ne_of_lt (Nat.lt_succ_of_lt lb)) (Nat.ne_of_lt (Nat.lt_succ_of_lt (Nat.lt_succ_of_lt lc))), ⟨hz, hTI, ⟨_, _, _, hTO⟩, IterK.new h1, IterK.new h2, IterK.new h3⟩, fun c hc => ?_,
      _, _, M1, x, A1, good_zip3 r1 e1 r2 e2 r3 e3, q⟩
    have hle : s1.heap.objs.size ≤ c := by
      simp only [List.mem_cons, List.not_mem_nil, or_false] at hc
      rcases hc with e | e | e | e | e | e <;> rw [e] <;> first | exact Nat.le_refl _ | exact Nat.le_add_right _ _
    exact I1.fpOk hle (I1.hok.fresh hle)
theorem DI.enum {e : Expr} {t : DTA} {p pos tpos : Pos} {elts : List Expr} {kk : Nat} (hg : Gl X "enumerate") (hm : X.mg "enumerate" = none) (h : DA X [e] t) (hs : notStar e = true) :
    DI X (.Tuple elts kk tpos) (.Call (.Name "enumerate" p) [e] [] pos) (fun ρ M Q => t ρ M fun ds M1 => itD .enum ds M1 Q) := by
  refine ⟨fun σ H ρ M Q S A z pins s I => ?_⟩
  refine Call_ (ld_blt I hg hm boot_enumerate (PyProof.Rows.callWith_type1 (thn (h.to σ H ρ M _ S A z pos pins s I) fun us s1 ⟨vs, H1, I1, rv, ds, M1, x, r, A1, q⟩ => ?_) (star_cons hs) rfl))
  obtain ⟨d1, l1, rfl, e1, q⟩ := itD_enum q
  obtain ⟨v1, rfl, r1⟩ := reps1 r
  obtain ⟨a, xs, rfl, sx, _⟩ := seq_kind A1 r1 e1
  obtain ⟨u1, rfl, w1⟩ := vals1 rv
  cases w1
  obtain ⟨P1, B1, p1⟩ := kind_begins I1 sx
  have la := SqK.lt I1 sx
  refine enum_call1 B1 p1 fun h' he h1 hk => wpAny_pyIter_enum he ?_
  have I2 : Inv X pins σ H1 { s1 with heap := h' } := I1.kept (t' := s1.toks) hk
  refine ⟨_, [s1.heap.objs.size + 1, s1.heap.objs.size], _, _, H1, rfl, I2, turn_enumK (Nat.ne_of_lt la) (Nat.succ_ne_self _) (Nat.ne_of_gt (Nat.lt_succ_of_lt la)), ⟨⟨.none, he⟩, IterK.new h1⟩, fun c hc => ?_,
    _, _, M1, x, A1, good_enum r1 e1, q⟩
  have hle : s1.heap.objs.size ≤ c := by
    simp only [List.mem_cons, List.not_mem_nil, or_false] at hc
    rcases hc with e | e <;> rw [e] <;> first | exact Nat.le_refl _ | exact Nat.le_add_right _ _
  exact I1.fpOk hle (I1.hok.fresh hle)
end
end Ow
namespace Ow
open PySem PySem.Spec PyProof.Rows L2
variable [Tb] [Og]
/-! ### exceptions at the data's level -/
structure XD where
  cls : Str
  fs : List (Str × D)
def RepX (W : Wd) (M : Mp) (H : Hp) (x : XD) (cls : Value) (d : Option Addr) : Prop :=
  ∃ C, W.mg x.cls = some (.ref C) ∧ cls = .ref C ∧ ((x.fs = [] ∧ d = none) ∨
    ∃ (dx : Addr) (ns : List Str) (vs : List V), d = some dx ∧ H dx = some (.xd (ns.zip vs)) ∧ x.fs = ns.zip (x.fs.map (·.2)) ∧ ns.length = vs.length ∧ Reps W M H (x.fs.map (·.2)) vs)
abbrev EX := XD → DSt → Mp → Prop
def upW (W : Wd) (E : EX) : WX := fun cls d σ H => ∃ x ρ M, AbsS W M H ρ σ ∧ AbsM W M H ∧ RepX W M H x cls d ∧ E x ρ M
def lftX (W : Wd) (M : Mp) (H : Hp) (E : XD → Mp → Prop) : XK := fun cls d H' => ∃ x M', Ext W M H M' H' ∧ AbsM W M' H' ∧ RepX W M' H' x cls d ∧ E x M'
/-- no exception -/
def noX : EX := fun _ _ _ => False
theorem takes_no {X : Cx} : Takes X (upW (wd X) noX) := fun u s' ⟨_, _, _, _, _, _, _, _, _, _, _, _, _, _, _, _, ⟨_, _, _, _, _, _, h⟩⟩ => h.elim
/-! ### what a def promises -/
abbrev DSp := List D → Mp → QE → (XD → Mp → Prop) → Prop
structure FnG (P : Program) (w : World) (K : PySem.W.Frag) (mg : Str → Option Value) (base : Heap) (k : Nat) (f : Addr) (fd : FuncData) (ps : List Str) (sp : DSp) : Prop where
  len : ∀ ds M Q E, sp ds M Q E → ds.length = ps.length
  run : ∀ (A : Around) (outer : List Env) (s : Shared) (H : Hp) (args : Args) (us : List Value) (vs : List V) (ds : List D) (M : Mp) (Q : QE) (E : XD → Mp → Prop), Room k A → A.guards = some [] → Env0 P w K mg base A outer s H → BindsTo s fd args (ps.zip us) → Vals vs us →
    AbsM ⟨K, mg⟩ M H → Reps ⟨K, mg⟩ M H ds vs → sp ds M Q E → codeAny (model P w) A (.call (.ref f) args) (CR (CX P w) outer P w H s (lft ⟨K, mg⟩ M H Q) (lftX ⟨K, mg⟩ M H E)) s
structure FI where
  name : Str
  n : Nat
  sp : DSp
/-- the promise of a class: its __init__'s, on a new instance -/
def mkSp (c : Str) (spI : DSp) : DSp := fun ds M Q E => ∀ x, M x = none → spI (.ref x :: ds) (M.upd x (.ins c [])) (fun d M' => d = .non ∧ Q (.ref x) M') E
/-- a call of f keeps the promise: f a def, or a class with its __init__ -/
def RunV (X : Cx) (f : Addr) (sp : DSp) : Prop :=
  (∃ (fd : FuncData) (ps : List Str) (k : Nat), FnG X.prog X.w X.K X.mg X.base k f fd ps sp ∧ Room k X.A ∧ Binds X.K fd ps []) ∨
  (∃ (c : Str) (fI : Addr) (fd : FuncData) (ps : List Str) (k : Nat) (spI : DSp), X.mg c = some (.ref f) ∧ Mk X.K f fI ∧ FnG X.prog X.w X.K X.mg X.base k fI fd ps spI ∧ Room (k + 1) X.A ∧ Binds X.K fd ps [] ∧ ∀ ds M Q E, sp ds M Q E → mkSp c spI ds M Q E) ∨
  (∃ (fd : FuncData) (ps : List Str) (k : Nat) (sp0 : DSp) (dds : List D) (dV : List V) (dvs : List Value), FnG X.prog X.w X.K X.mg X.base k f fd ps sp0 ∧ Room k X.A ∧ Binds X.K fd ps dvs ∧ Vals dV dvs ∧ (∀ M H, Reps (wd X) M H dds dV) ∧ ∀ ds M Q E, sp ds M Q E → sp0 (ds ++ dds) M Q E)
/-- what is named fi.name stands and keeps its promise -/
def FOk (X : Cx) (fi : FI) : Prop := ∃ f : Addr, X.mg fi.name = some (.ref f) ∧ PySem.W.keepIn X.K (.ref f) = true ∧ RunV X f fi.sp
section
variable {X : Cx} {E : EX} {fi : FI} {es : List Expr} {t : DTA} {p pos : Pos}
theorem run_G {f : Addr} {fd : FuncData} {ps : List Str} {k : Nat} {sp : DSp} {pins : List (Addr × Obj)} {σ : L2.St} {H : Hp} {s : Shared} {ρ : DSt} {M : Mp} {ds : List D} {vs : List V} {us : List Value} {Q : QE} (tk : Takes X (upW (wd X) E))
    (F : FnG X.prog X.w X.K X.mg X.base k f fd ps sp) (hr : Room k X.A) (hg : X.A.guards = some []) (hb : Binds X.K fd ps []) (I : Inv X pins σ H s) (S : AbsS (wd X) M H ρ σ) (A : AbsM (wd X) M H) (rv : Vals vs us) (r : Reps (wd X) M H ds vs)
    (q : sp ds M Q (fun x M' => E x ρ M')) : wpAny (model X.prog X.w) X.A (call (.ref f) us) (EP X pins σ (lft (wd X) M H Q)) X.xe s := by
  have hl : us.length = ps.length := by rw [← rv.length, ← r.length]; exact F.len _ _ _ _ q
  have hbd : BindsTo s fd ⟨us, []⟩ (ps.zip us) := by simpa using hb s us I.kIn (by simpa using hl)
  refine wpAny_call (codeAny_mono (F.run X.A X.stack s H ⟨us, []⟩ us vs ds M Q _ hr hg I.env0 hbd rv A r q) fun res s' z => ?_)
  match res, z with
  | .ok (.ret u), z => exact I.after z
  | .ok .next, z => exact z.elim
  | .ok .brk, z => exact z.elim
  | .ok .cont, z => exact z.elim
  | .error e, z =>
    obtain ⟨a, B, H', cls, d, e1, e2, e3, ub, e5, e6, e7, ⟨x, M', xt, A', rx, ex⟩⟩ := z
    exact tk e s' (XE.of_call I (E := fun cls d H' => ∃ x M', Ext (wd X) M H M' H' ∧ AbsM (wd X) M' H' ∧ RepX (wd X) M' H' x cls d ∧ E x ρ M') (fun cls d H' ⟨x, M', xt, A', rx, ex⟩ => ⟨x, ρ, M', S.ext xt, A', rx, ex⟩)
      ⟨a, B, H', cls, d, e1, e2, e3, ub, e5, e6, e7, x, M', xt, A', rx, ex⟩)
theorem vals_app : ∀ {vs : List V} {us : List Value} {vs2 : List V} {us2 : List Value}, Vals vs us → Vals vs2 us2 → Vals (vs ++ vs2) (us ++ us2)
  | _, _, _, _, .nil, k => k
  | _, _, _, _, .cons h r, k => .cons h (vals_app r k)
theorem run_GD {dds : List D} {dV : List V} {dvs : List Value} {f : Addr} {fd : FuncData} {ps : List Str} {k : Nat} {sp : DSp} {pins : List (Addr × Obj)} {σ : L2.St} {H : Hp} {s : Shared} {ρ : DSt} {M : Mp} {ds : List D} {vs : List V} {us : List Value} {Q : QE} (tk : Takes X (upW (wd X) E))
    (F : FnG X.prog X.w X.K X.mg X.base k f fd ps sp) (hr : Room k X.A) (hg : X.A.guards = some []) (hb : Binds X.K fd ps dvs) (hdv : Vals dV dvs) (hdr : ∀ M H, Reps (wd X) M H dds dV) (I : Inv X pins σ H s) (S : AbsS (wd X) M H ρ σ) (A : AbsM (wd X) M H) (rv : Vals vs us) (r : Reps (wd X) M H ds vs)
    (q : sp (ds ++ dds) M Q (fun x M' => E x ρ M')) : wpAny (model X.prog X.w) X.A (call (.ref f) us) (EP X pins σ (lft (wd X) M H Q)) X.xe s := by
  have r' := Reps.append r (hdr M H)
  have rv' : Vals (vs ++ dV) (us ++ dvs) := vals_app rv hdv
  have hl : (us ++ dvs).length = ps.length := by rw [← rv'.length, ← r'.length]; exact F.len _ _ _ _ q
  have hbd : BindsTo s fd ⟨us, []⟩ (ps.zip (us ++ dvs)) := hb s us I.kIn hl
  refine wpAny_call (codeAny_mono (F.run X.A X.stack s H ⟨us, []⟩ (us ++ dvs) (vs ++ dV) (ds ++ dds) M Q _ hr hg I.env0 hbd rv' A r' q) fun res s' z => ?_)
  match res, z with
  | .ok (.ret u), z => exact I.after z
  | .ok .next, z => exact z.elim
  | .ok .brk, z => exact z.elim
  | .ok .cont, z => exact z.elim
  | .error e, z =>
    obtain ⟨a, B, H', cls, d, e1, e2, e3, ub, e5, e6, e7, ⟨x, M', xt, A', rx, ex⟩⟩ := z
    exact tk e s' (XE.of_call I (E := fun cls d H' => ∃ x M', Ext (wd X) M H M' H' ∧ AbsM (wd X) M' H' ∧ RepX (wd X) M' H' x cls d ∧ E x ρ M') (fun cls d H' ⟨x, M', xt, A', rx, ex⟩ => ⟨x, ρ, M', S.ext xt, A', rx, ex⟩)
      ⟨a, B, H', cls, d, e1, e2, e3, ub, e5, e6, e7, x, M', xt, A', rx, ex⟩)
theorem run_make' {pins : List (Addr × Obj)} {σ : L2.St} {H : Hp} {s : Shared} {ρ : DSt} {M : Mp} {ds : List D} {vs : List V} {us : List Value} {Q : QE} {C fI : Addr} {c : Str} {fd : FuncData} {ps : List Str} {k : Nat} {spI : DSp} (hm : X.mg c = some (.ref C)) (Mk0 : Mk X.K C fI) (F : FnG X.prog X.w X.K X.mg X.base k fI fd ps spI) (hr : Room (k + 1) X.A) (hb : Binds X.K fd ps []) (tk : Takes X (upW (wd X) E)) (gd : X.A.guards = some []) (I : Inv X pins σ H s) (S : AbsS (wd X) M H ρ σ) (A : AbsM (wd X) M H) (rv : Vals vs us) (r : Reps (wd X) M H ds vs) (q : mkSp c spI ds M Q (fun x M' => E x ρ M')) :
    wpAny (model X.prog X.w) X.A (call (.ref C) us) (EP X pins σ (lft (wd X) M H Q)) X.xe s := by
  have e1 : H s.heap.objs.size = none := I.hok.fresh (Nat.le_refl _)
  have e2 : H (s.heap.objs.size + 1) = none := I.hok.fresh (Nat.le_succ _)
  have I2 := Inv.made (C := C) I
  have ne : s.heap.objs.size ≠ s.heap.objs.size + 1 := Nat.ne_of_lt (Nat.lt_succ_self _)
  have A1 : AbsM (wd X) M (upd H s.heap.objs.size (.own (s.heap.objs.size + 1))) := A.fresh e1
  have x1 : Ext (wd X) M H M (upd H s.heap.objs.size (.own (s.heap.objs.size + 1))) := Ext.fresh e1
  have e3 : upd H s.heap.objs.size (.own (s.heap.objs.size + 1)) (s.heap.objs.size + 1) = none := by rw [upd_ne ne.symm]; exact e2
  have hMx : M (s.heap.objs.size + 1) = none := A.free e2
  have x2 : Ext (wd X) M (upd H s.heap.objs.size (.own (s.heap.objs.size + 1))) (M.upd (s.heap.objs.size + 1) (.ins c [])) (upd (upd H s.heap.objs.size (.own (s.heap.objs.size + 1))) (s.heap.objs.size + 1) (.ins C s.heap.objs.size [])) := Ext.freshM A1 e3
  have A2 : AbsM (wd X) (M.upd (s.heap.objs.size + 1) (.ins c [])) (upd (upd H s.heap.objs.size (.own (s.heap.objs.size + 1))) (s.heap.objs.size + 1) (.ins C s.heap.objs.size [])) := AbsM.freshM A1 e3 ⟨C, s.heap.objs.size, [], [], hm, upd_same, rfl, rfl, rfl⟩
  have q' := q _ hMx
  have S2 := (S.ext x1).ext x2
  have hl : (Value.ref (s.heap.objs.size + 1) :: us).length = ps.length := by
    rw [List.length_cons, ← rv.length, ← r.length]
    exact F.len _ _ _ _ q'
  have gd' : (X.A.under (.builtin "type.__call__" ⟨.ref C :: us, []⟩)).guards = some [] := by
    first | exact gd | (simpa [Around.under] using gd)
  refine wpAny_call (make_map (f := fI) I.kIn Mk0.makes Mk0.init (beq_iff_eq.mp Mk0.fn) (codeAny_mono (F.run _ X.stack _ _ ⟨Value.ref (s.heap.objs.size + 1) :: us, []⟩ (Value.ref (s.heap.objs.size + 1) :: us) (V.ref (s.heap.objs.size + 1) :: vs) (.ref (s.heap.objs.size + 1) :: ds) (M.upd (s.heap.objs.size + 1) (.ins c [])) _ _ (hr.make C us []) gd' (I2.env0.make C us []) (by simpa using hb _ (Value.ref (s.heap.objs.size + 1) :: us) I2.kIn (by simpa using hl)) (.cons rfl rv) A2 ⟨_, _, rfl, rfl, (r.ext x1).ext x2⟩ q') fun res s' z => ?_))
  match res, z with
  | .ok (.ret u), z =>
    obtain ⟨v, H', I3, rv', d, M', xt, rd, A', hd, hq⟩ := I2.after z
    subst hd
    cases rd
    refine ⟨rv', V.ref (s.heap.objs.size + 1), H', I3, rfl, .ref (s.heap.objs.size + 1), M', (x1.trans x2).trans xt, rfl, A', hq⟩
  | .ok .next, z => exact z.elim
  | .ok .brk, z => exact z.elim
  | .ok .cont, z => exact z.elim
  | .error e, z =>
    obtain ⟨a, B, H', cls, d, e1, e2, e3, ub, e5, e6, e7, ⟨x, M', xt, A', rx, ex⟩⟩ := z
    exact tk e s' (XE.of_call I2 (E := fun cls d H' => ∃ x M', Ext (wd X) _ _ M' H' ∧ AbsM (wd X) M' H' ∧ RepX (wd X) M' H' x cls d ∧ E x ρ M') (fun cls d H' ⟨x, M', xt, A', rx, ex⟩ => ⟨x, ρ, M', S2.ext xt, A', rx, ex⟩)
      ⟨a, B, H', cls, d, e1, e2, e3, ub, e5, e6, e7, x, M', xt, A', rx, ex⟩)
theorem RunV.fn {f : Addr} {fd : FuncData} {ps : List Str} {k : Nat} {sp : DSp} (F : FnG X.prog X.w X.K X.mg X.base k f fd ps sp) (hr : Room k X.A) (hb : Binds X.K fd ps []) : RunV X f sp := .inl ⟨fd, ps, k, F, hr, hb⟩
theorem RunV.go {f : Addr} {sp : DSp} (R : RunV X f sp) (E : EX) (pins : List (Addr × Obj)) (σ : L2.St) (H : Hp) (s : Shared) (ρ : DSt) (M : Mp) (ds : List D) (vs : List V) (us : List Value) (Q : QE) (tk : Takes X (upW (wd X) E)) (gd : X.A.guards = some []) (I : Inv X pins σ H s) (S : AbsS (wd X) M H ρ σ) (A : AbsM (wd X) M H) (rv : Vals vs us) (r : Reps (wd X) M H ds vs)
    (q : sp ds M Q (fun x M' => E x ρ M')) : wpAny (model X.prog X.w) X.A (call (.ref f) us) (EP X pins σ (lft (wd X) M H Q)) X.xe s := by
  rcases R with ⟨fd, ps, k, F, hr, hb⟩ | ⟨c, fI, fd, ps, k, spI, hm, m, F, hr, hb, h⟩ | ⟨fd, ps, k, sp0, dds, dV, dvs, F, hr, hb, hv, hd, h⟩
  · exact run_G tk F hr gd hb I S A rv r q
  · exact run_make' hm m F hr hb tk gd I S A rv r (h _ _ _ _ q)
  · exact run_GD tk F hr gd hb hv hd I S A rv r (h _ _ _ _ q)
theorem DE.call0 {x : Str} (tk : Takes X (upW (wd X) E)) (F : FOk X fi) (hx : fi.name = x) (gd : X.A.guards = some []) (hg : Gl X x) (hd : (x == ("__debug__" : Str)) = false) :
    DE X (.Call (.Name x p) [] [] pos) (fun ρ M Q => fi.sp [] M Q (fun x M' => E x ρ M')) := by
  subst hx
  refine ⟨fun σ H ρ M Q S A z pins s I => ?_⟩
  obtain ⟨f, hm, kp, G⟩ := F
  refine wpAny_Call_Name_kw (ld_glob I hg hm ?_ hd)
  exact PySem.W.callWith_K0 I.kIn kp (G.go E pins σ H s ρ M [] [] [] Q tk gd I S A .nil rfl z)
theorem DE.call {x : Str} {e : Expr} (tk : Takes X (upW (wd X) E)) (F : FOk X fi) (hx : fi.name = x) (gd : X.A.guards = some []) (hg : Gl X x) (hd : (x == ("__debug__" : Str)) = false) (h : DA X (e :: es) t) (hs : (e :: es).all notStar = true) :
    DE X (.Call (.Name x p) (e :: es) [] pos) (fun ρ M Q => t ρ M fun ds M1 => fi.sp ds M1 Q (fun x M' => E x ρ M')) := by
  subst hx
  refine ⟨fun σ H ρ M Q S A z pins s I => ?_⟩
  obtain ⟨f, hm, kp, G⟩ := F
  refine wpAny_Call_Name_kw (ld_glob I hg hm ?_ hd)
  rw [List.all_cons, Bool.and_eq_true] at hs
  refine PySem.W.callWith_K (h₀ := X.base) I.ok.mod.kin kp (thn (h.to σ H ρ M _ S A z pos pins s I) fun us s1 ⟨vs, H1, I1, rv, ds, M1, xt, r, A1, q⟩ => ⟨I1.kIn, ?_⟩) (star_cons hs.1) (star_none hs.2)
  exact thn (G.go E pins σ H1 s1 ρ M1 ds vs us Q tk gd I1 (S.ext xt) A1 rv r q) fun u s2 ⟨v, H2, I2, rv2, q2⟩ => ⟨v, H2, I2, rv2, q2.trans xt⟩
/-- a call, an operator, as one transformer of values -/
def cC (X : Cx) (f : Value) : List V → Hp → VK → Prop := fun xs H Q => ∀ (pins : List (Addr × Obj)) (s : Shared) (σ : L2.St) (us : List Value), Inv X pins σ H s → Vals xs us → wpAny (model X.prog X.w) X.A (call f us) (EP X pins σ Q) X.xe s
theorem cr_cC {f : Value} : CallR X f (cC X f) := fun pins s σ H xs us Q I r h => h pins s σ us I r
theorem cC_mono {f : Value} {xs : List V} {H : Hp} {Q Q' : VK} (h : cC X f xs H Q) (m : ∀ v H', Q v H' → Q' v H') : cC X f xs H Q' := fun pins s σ us I r =>
  thn (h pins s σ us I r) fun _ _ ⟨v, H', I', rv, q⟩ => ⟨v, H', I', rv, m v H' q⟩
theorem CallD.to {f : Value} {g : List D → Mp → QE → Prop} (h : CallD X f g) {ds : List D} {vs : List V} {M : Mp} {H : Hp} {Q : QE} (A : AbsM (wd X) M H) (r : Reps (wd X) M H ds vs) (z : g ds M Q) : cC X f vs H (lft (wd X) M H Q) :=
  let ⟨_, h1, h2⟩ := h
  fun pins s σ us I rv => h1 pins s σ H vs us _ I rv (h2 ds vs M H Q A r z)
def cO (X : Cx) (f : Value → Value → Sem Value) : R2 := fun x y H Q => ∀ (pins : List (Addr × Obj)) (s : Shared) (σ : L2.St) (v u : Value), Inv X pins σ H s → RelV x v → RelV y u → wpAny (model X.prog X.w) X.A (f v u) (EP X pins σ Q) X.xe s
theorem or_cO {f : Value → Value → Sem Value} : OpR X f (cO X f) := fun pins s σ H x y v u Q I r1 r2 h => h pins s σ v u I r1 r2
theorem cO_mono {f : Value → Value → Sem Value} {x y : V} {H : Hp} {Q Q' : VK} (h : cO X f x y H Q) (m : ∀ v H', Q v H' → Q' v H') : cO X f x y H Q' := fun pins s σ v u I r1 r2 =>
  thn (h pins s σ v u I r1 r2) fun _ _ ⟨v, H', I', rv, q⟩ => ⟨v, H', I', rv, m v H' q⟩
theorem OpD.to {f : Value → Value → Sem Value} {g : D → D → Mp → QE → Prop} (h : OpD X f g) {d1 d2 : D} {x y : V} {M : Mp} {H : Hp} {Q : QE} (A : AbsM (wd X) M H) (r1 : Rep (wd X) M H d1 x) (r2 : Rep (wd X) M H d2 y) (z : g d1 d2 M Q) : cO X f x y H (lft (wd X) M H Q) :=
  let ⟨_, h1, h2⟩ := h
  fun pins s σ v u I w1 w2 => h1 pins s σ H x y v u _ I w1 w2 (h2 d1 d2 x y M H Q A r1 r2 z)
/-- a built-in, by its name -/
theorem DE.blt {x : Str} {f : Value} {g : List D → Mp → QE → Prop} {e : Expr} (hc : CallD X f g) (hf : (∃ n, f = .builtin n) ∨ ∃ n, f = .type n) (hg : Gl X x) (hm : X.mg x = none) (hv : bootBuiltins x = some f) (hn : x ≠ "__name__") (hd : (x == ("__debug__" : Str)) = false)
    (h : DA X (e :: es) t) (hs : (e :: es).all notStar = true) : DE X (.Call (.Name x p) (e :: es) [] pos) (fun ρ M Q => t ρ M fun ds M1 => g ds M1 Q) := by
  rw [List.all_cons, Bool.and_eq_true] at hs
  have key : ∀ (σ : L2.St) (H : Hp) (ρ : DSt) (M : Mp) (Q : QE), AbsS (wd X) M H ρ σ → AbsM (wd X) M H → (t ρ M fun ds M1 => g ds M1 Q) → cA X (e :: es) σ H fun vs H1 => cC X f vs H1 (lft (wd X) M H Q) :=
    fun σ H ρ M Q S A z => h.bind S A z fun vs ds M1 H1 x rp A1 S1 q => cC_mono (hc.to A1 rp q) fun v H' q' => q'.trans x
  rcases hf with ⟨n, rfl⟩ | ⟨n, rfl⟩
  · exact DE.of (pe_callB cr_cC hg hm hv pa_cA hn hd (star_cons hs.1) (star_none hs.2)) key
  · exact DE.of (pe_callTy cr_cC hg hm hv pa_cA hn hd (star_cons hs.1) (star_none hs.2)) key
section
variable {a b c : Expr} {ta tb tc : DTE}
theorem DE.bin {op : Operator} {g : D → D → Mp → QE → Prop} (ho : OpD X (binaryOp op) g) (ha : DE X a ta) (hb : DE X b tb) :
    DE X (.BinOp a op b pos) (fun ρ M Q => ta ρ M fun d1 M1 => tb ρ M1 fun d2 M2 => g d1 d2 M2 Q) := by
  refine DE.of (pe_op or_cO pe_cT pe_cT) fun σ H ρ M Q S A z => ?_
  exact ha.bind S A z fun v d M1 H1 x r A1 S1 q => hb.bind S1 A1 q fun u d2 M2 H2 x2 r2 A2 S2 q2 => cO_mono (ho.to A2 (r.ext x2) r2 q2) fun _ _ q' => (q'.trans x2).trans x
theorem DE.cmp {op : CmpOp} {g : D → D → Mp → QE → Prop} (ho : OpD X (compareOp op) g) (ha : DE X a ta) (hb : DE X b tb) (hm : behindInMarks op b = false) :
    DE X (.Compare a [op] [b] pos) (fun ρ M Q => ta ρ M fun d1 M1 => tb ρ M1 fun d2 M2 => g d1 d2 M2 Q) := by
  refine DE.of (pe_cmpR or_cO pe_cT pe_cT hm) fun σ H ρ M Q S A z => ?_
  exact ha.bind S A z fun v d M1 H1 x r A1 S1 q => hb.bind S1 A1 q fun u d2 M2 H2 x2 r2 A2 S2 q2 => cO_mono (ho.to A2 (r.ext x2) r2 q2) fun _ _ q' => (q'.trans x2).trans x
/-- a op b op' c -/
@[simp] def chnD (tc : Mp → QE → Prop) (g' : D → D → Mp → QE → Prop) (d2 : D) (Q : QE) (d : D) (M : Mp) : Prop := match d with
  | .bl true => tc M fun d3 M3 => g' d2 d3 M3 Q
  | .bl false => Q (.bl false) M
  | _ => False
theorem DE.chn {op op' : CmpOp} {g g' : D → D → Mp → QE → Prop} (ho : OpD X (compareOp op) g) (ho' : OpD X (compareOp op') g') (ha : DE X a ta) (hb : DE X b tb) (hc : DE X c tc) (hm : lastMarks [op, op'] [b, c] = false) :
    DE X (.Compare a [op, op'] [b, c] pos) (fun ρ M Q => ta ρ M fun d1 M1 => tb ρ M1 fun d2 M2 => g d1 d2 M2 (chnD (tc ρ) g' d2 Q)) := by
  refine DE.of (pe_chain or_cO or_cO pe_cT pe_cT pe_cT hm) fun σ H ρ M Q S A z => ?_
  refine ha.bind S A z fun v d M1 H1 x r A1 S1 q => hb.bind S1 A1 q fun u d2 M2 H2 x2 r2 A2 S2 q2 => cO_mono (ho.to A2 (r.ext x2) r2 q2) ?_
  rintro w H3 ⟨d3, M3, x3, r3, A3, q3⟩
  unfold chnD at q3
  split at q3
  · refine ⟨true, r3, ?_⟩
    rw [if_pos rfl]
    exact hc.bind (S2.ext x3) A3 q3 fun y d4 M4 H4 x4 r4 A4 S4 q4 => cO_mono (ho'.to A4 ((r2.ext x3).ext x4) r4 q4) fun _ _ q' => (((q'.trans x4).trans x3).trans x2).trans x
  · refine ⟨false, r3, ?_⟩
    rw [if_neg Bool.false_ne_true]
    exact ⟨.bl false, M3, ((x.trans x2).trans x3), rfl, A3, q3⟩
  · exact q3.elim
end
end
/-! ### targets -/
inductive CT where
  | nm (i : Nat) | tup (l : List CT)
mutual
def CT.g (K : PySem.W.Frag) : CT → TG
  | .nm i => gName i
  | .tup l => gTup K l.length (CT.gs K l)
def CT.gs (K : PySem.W.Frag) : List CT → TGs
  | [] => gNil
  | t :: ts => gCons (CT.g K t) (CT.gs K ts)
end
mutual
/-- the slots that a target stores -/
def CT.at : CT → List Nat
  | .nm i => [i]
  | .tup l => CT.ats l
def CT.ats : List CT → List Nat
  | [] => []
  | t :: ts => CT.at t ++ CT.ats ts
end
mutual
@[simp] def bindT : CT → D → DSt → (DSt → Prop) → Prop
  | .nm i, d, ρ, K => K (ρ.set i (some d))
  | .tup ts, d, ρ, K => match d with
    | .tup l => bindTs ts l ρ K
    | _ => False
@[simp] def bindTs : List CT → List D → DSt → (DSt → Prop) → Prop
  | [], l, ρ, K => match l with
    | [] => K ρ
    | _ :: _ => False
  | t :: ts, l, ρ, K => match l with
    | [] => False
    | d :: ds => bindT t d ρ fun ρ' => bindTs ts ds ρ' K
end
end Ow
namespace Ow
open PySem PySem.Spec PyProof.Rows L2
variable [Tb] [Og]
section
variable {X : Cx} {a b c : Expr} {es : List Expr} {ta tb tc : DTE} {t : DTA} {p pos : Pos}
theorem DE.imp {e : Expr} {t t' : DTE} (h : DE X e t) (m : ∀ ρ M Q, t' ρ M Q → t ρ M Q) : DE X e t' := ⟨fun σ H ρ M Q S A z => h.to σ H ρ M Q S A (m ρ M Q z)⟩
/-! ### names and constants -/
theorem DE.var {i : Nat} {x : Str} (hN : X.N[i]? = some x) (hv : Vis X.env.scope x) (hd : (x == ("__debug__" : Str)) = false) (hcd : (x == ("__classdict__" : Str)) = false) :
    DE X (.Name x p) (fun ρ M Q => match ρ[i]? with
      | some (some d) => Q d M
      | _ => False) := by
  refine DE.of (pe_var hN hv hd hcd) fun σ H ρ M Q S A z => ?_
  split at z
  · rename_i d e
    obtain ⟨v, h1, h2⟩ := S.at_ i d e
    exact ⟨v, h1, lft.pure A h2 z⟩
  · exact z.elim
theorem DE.int {i : Int} {j : Nat} : DE X (.Constant (.int i) j p) (fun _ M Q => Q (.int i) M) := DE.of pe_int fun σ H ρ M Q S A z => lft.int A z
theorem DE.bl {i : Bool} {j : Nat} : DE X (.Constant (.bool i) j p) (fun _ M Q => Q (.bl i) M) := DE.of pe_bl fun σ H ρ M Q S A z => lft.bl A z
theorem DE.non {j : Nat} : DE X (.Constant .none j p) (fun _ M Q => Q .non M) := DE.of pe_non fun σ H ρ M Q S A z => lft.non A z
theorem DE.str {i : Str} {j : Nat} : DE X (.Constant (.str i) j p) (fun _ M Q => Q (.str i) M) := DE.of pe_str fun σ H ρ M Q S A z => lft.str A z
/-- a constant of the module -/
theorem DE.glb {x : Str} {d : D} {v : V} {u : Value} (hg : Gl X x) (hm : X.mg x = some u) (rv : RelV v u) (r : ∀ M H, AbsM (wd X) M H → Rep (wd X) M H d v) (hd : (x == ("__debug__" : Str)) = false) : DE X (.Name x p) (fun _ M Q => Q d M) :=
  DE.of (pe_glob hg hm rv hd) fun σ H ρ M Q S A z => lft.pure A (r M H A) z
theorem DE.neg (ha : DE X a ta) : DE X (.UnaryOp .USub a pos) (fun ρ M Q => ta ρ M fun d M1 => match d with
    | .int i => Q (.int (-i)) M1
    | _ => False) := by
  refine DE.of (pe_un un_neg pe_cT) fun σ H ρ M Q S A z => ha.bind S A z fun v d M1 H1 x r A1 S1 q => ?_
  split at q
  · exact ⟨_, r, (lft.int A1 q).trans x⟩
  · exact q.elim
/-! ### displays, subscripts -/
theorem DE.tup {k : Nat} (h : DA X es t) : DE X (.Tuple es k pos) (fun ρ M Q => t ρ M fun ds M1 => ds.length ≤ sizeLine ∧ Q (.tup ds) M1) := by
  refine DE.of (pe_tup pa_cA) fun σ H ρ M Q S A z => h.bind S A z fun vs ds M1 H1 x r A1 S1 q => ?_
  exact ⟨by rw [← r.length]; exact q.1, fun p hp => (lft.newT A1 r hp q.2).trans x⟩
theorem DE.lst (h : DA X es t) : DE X (.List es pos) (fun ρ M Q => t ρ M fun ds M1 => ds.length ≤ sizeLine ∧ Q (.lst ds) M1) := by
  refine DE.of (pe_lst pa_cA) fun σ H ρ M Q S A z => h.bind S A z fun vs ds M1 H1 x r A1 S1 q => ?_
  exact ⟨by rw [← r.length]; exact q.1, fun p hp => (lft.newL A1 r hp q.2).trans x⟩
theorem DE.lstM (h : DA X es t) : DE X (.List es pos) (fun ρ M Q => t ρ M fun ds M1 => ds.length ≤ sizeLine ∧ ∀ p, M1 p = none → Q (.ref p) (M1.upd p (.lst ds))) := by
  refine DE.of (pe_lst pa_cA) fun σ H ρ M Q S A z => h.bind S A z fun vs ds M1 H1 x r A1 S1 q => ?_
  exact ⟨by rw [← r.length]; exact q.1, fun p hp => (lft.newM A1 r hp (q.2 p)).trans x⟩
/-- x[i] -/
def dgetD (x i : D) (M : Mp) (Q : QE) : Prop := match getDic M x i with
  | some (some d) => Q d M
  | _ => False
def ixD (x i : D) (M : Mp) (Q : QE) : Prop := match x, i with
  | .str s, .int k => s.length ≤ sizeLine ∧ (match atI s.cps.toList k with
    | some c => Q (.str ⟨#[c]⟩) M
    | none => False)
  | x, .int k => match seqIn M x with
    | some l => (match atI l k with
      | some d => Q d M
      | none => False)
    | none => dgetD x (.int k) M Q
  | x, i => dgetD x i M Q
theorem ix_dict {X : Cx} (hu : X.A.units + 1 < cLine) : IxR X (fun x y H Q => ∃ a v, x = .ref a ∧ DGet H a y (some v) ∧ Q v H) := by
  intro value slice pins s σ H x y v u Q I rx ry h hs
  obtain ⟨a, d, rfl, g, q⟩ := h
  cases rx
  have hT := dict_typeIs I g
  unfold subscriptTail
  refine wpAny_bind ?_
  rw [getitemInPython_of_ne hT.not_modules]
  refine wpAny_bind (wpAny_specialOf hT PySem.F.slot_dict_getitem.lookup ?_)
  have fin : wpAny (model X.prog X.w) X.A (subscripted slice false (.ref a) u) (fun r s₃ => wpAny (model X.prog X.w) X.A (letTemporaryGo value (.ref a) r >>= fun _ => pure r) (EP X pins σ Q) X.xe s₃) X.xe s := by
    rw [hs]
    exact wpAny_operating (d_getItem hu I g ry fun w' s3 I3 rw' => wpAny_bind (wpAny_letTemporaryGo (wpAny_pure ⟨d, H, I3, rw', q⟩)))
  first
    | exact wpAny_pure (wpAny_bind fin)
    | exact wpAny_bind (wpAny_pure (wpAny_bind fin))
    | exact wpAny_bind fin
theorem atI_reps {W : Wd} {M : Mp} {H : Hp} {l : List D} {xs : List V} {k : Int} {d : D} (r : Reps W M H l xs) (h : atI l k = some d) : ∃ v, atI xs k = some v ∧ Rep W M H d v := by
  unfold atI at h ⊢
  rw [← r.length]
  cases q : ixN l.length k with
  | none => rw [q] at h; cases h
  | some j =>
    rw [q] at h
    exact r.get h
def notSlice (e : Expr) : Bool := match e with | .Slice .. => false | _ => true
theorem plain_ix {e : Expr} (h : notSlice e = true) : PlainIx e := by
  intro o i
  cases e <;> first | rfl | cases h
theorem DE.ix (hu : X.A.units + 1 < cLine) (ha : DE X a ta) (hb : DE X b tb) (hs : notSlice b = true) : DE X (.Subscript a b pos) (fun ρ M Q => ta ρ M fun d1 M1 => tb ρ M1 fun d2 M2 => ixD d1 d2 M2 Q) := by
  refine DE.of (pe_ix (IxR.or ix_seq (ix_dict hu)) pe_cT pe_cT (plain_ix hs)) fun σ H ρ M Q S A z => ?_
  refine ha.bind S A z fun v d M1 H1 x r A1 S1 q => hb.bind S1 A1 q fun u d2 M2 H2 x2 r2 A2 S2 q2 => ?_
  have r' := r.ext x2
  have dic : ∀ {i : D}, Rep (wd X) M2 H2 i u → dgetD d i M2 Q → (∃ a w, v = V.ref a ∧ DGet H2 a u (some w) ∧ lft (wd X) M H Q w H2) := by
    intro i ri z
    unfold dgetD at z
    split at z
    · rename_i d' e
      obtain ⟨a, r, rfl, g, _, n2⟩ := getDic_rep A2 r' ri e
      obtain ⟨w, rfl, rw'⟩ := n2 d' rfl
      exact ⟨a, w, rfl, g, ((lft.pure A2 rw' z).trans x2).trans x⟩
    · exact z.elim
  unfold ixD at q2
  split at q2
  · rename_i s k
    obtain ⟨hz, q2⟩ := q2
    split at q2
    · rename_i c hc
      exact .inl (.inr (.inr ⟨s, k, c, r', r2, hz, hc, ((lft.str A2 q2).trans x2).trans x⟩))
    · exact q2.elim
  · rename_i k hn
    split at q2
    · rename_i l e
      split at q2
      · rename_i d' hd
        obtain ⟨p, xs, rfl, s, rs⟩ := seqIn_rep A2 r' e
        obtain ⟨w, h1, h2⟩ := atI_reps rs hd
        have fin := ((lft.pure A2 h2 q2).trans x2).trans x
        rcases s with s | s
        · exact .inl (.inl ⟨p, xs, k, w, rfl, r2, s, h1, fin⟩)
        · exact .inl (.inr (.inl ⟨p, xs, k, w, rfl, r2, s, h1, fin⟩))
      · exact q2.elim
    · exact .inr (dic r2 q2)
  · exact .inr (dic r2 q2)
/-- x[lo:hi] -/
def cutD (l : List D) (lo hi : Option Int) : List D := (l.drop (HT.sIx l.length 0 lo)).take (HT.sIx l.length l.length hi - HT.sIx l.length 0 lo)
def slD (fz : Bool) (x : D) (lo hi : Option Int) (M : Mp) (Q : QE) : Prop := match x with
  | .str s => s.length ≤ sizeLine ∧ Q (.str (cutS s lo hi)) M
  | .tup l => Q (.tup (cutD l lo hi)) M
  | x => match listIn M x with
    | some l => if fz = true then Q (.lst (cutD l lo hi)) M else ∀ p, M p = none → Q (.ref p) (M.upd p (.lst (cutD l lo hi)))
    | none => False
theorem cut_reps {W : Wd} {M : Mp} {H : Hp} {l : List D} {xs : List V} {lo hi : Option Int} (r : Reps W M H l xs) : Reps W M H (cutD l lo hi) (cutV xs lo hi) := by
  unfold cutD cutV
  rw [r.length]
  exact (r.drop _).take _
theorem cut_all {l : List D} {lo hi : Option Int} (h1 : HT.sIx l.length 0 lo = 0) (h2 : HT.sIx l.length l.length hi = l.length) : cutD l lo hi = l := by
  unfold cutD
  rw [h1, h2, List.drop_zero, Nat.sub_zero, List.take_length]
/-- a bound of a slice, as data -/
structure DP (X : Cx) (e : Option Expr) (t : DSt → Mp → (Option Int → Mp → Prop) → Prop) : Prop where
  to : ∃ tp : L2.TO, PO X e tp ∧ ∀ (σ : L2.St) (H : Hp) (ρ : DSt) (M : Mp) (Q : Option Int → Mp → Prop) (R : Option Int → Hp → Prop), AbsS (wd X) M H ρ σ → AbsM (wd X) M H → t ρ M Q →
    (∀ o M1 H1, Ext (wd X) M H M1 H1 → AbsM (wd X) M1 H1 → Q o M1 → R o H1) → tp σ H R
theorem DP.none : DP X none (fun _ M Q => Q none M) := ⟨_, po_none, fun σ H ρ M Q R S A z k => k Option.none M H Ext.refl A z⟩
theorem DP.some (ha : DE X a ta) : DP X (some a) (fun ρ M Q => ta ρ M fun d M1 => match d with
    | .int i => Q (some i) M1
    | _ => False) := by
  refine ⟨_, po_some pe_cT, fun σ H ρ M Q R S A z k => ?_⟩
  refine ha.bind S A z fun v d M1 H1 x r A1 S1 q => ?_
  split at q
  · exact ⟨_, r, k _ _ _ x A1 q⟩
  · exact q.elim
theorem DE.sl {fz : Bool} {lo hi : Option Expr} {tl th : DSt → Mp → (Option Int → Mp → Prop) → Prop} {p2 : Pos} (ha : DE X a ta) (hl : DP X lo tl) (hh : DP X hi th) :
    DE X (.Subscript a (.Slice lo hi none p2) pos) (fun ρ M Q => ta ρ M fun d M1 => tl ρ M1 fun l M2 => th ρ M2 fun h M3 => slD fz d l h M3 Q) := by
  obtain ⟨tp1, o1, f1⟩ := hl.to
  obtain ⟨tp2, o2, f2⟩ := hh.to
  refine DE.of (pe_slice (SlR.or sl_str (SlR.or sl_tupA sl_list)) pe_cT o1 o2) fun σ H ρ M Q S A z => ?_
  refine ha.bind S A z fun v d M1 H1 x r A1 S1 q => f1 _ _ _ _ _ _ S1 A1 q fun l M2 H2 x2 A2 q2 => f2 _ _ _ _ _ _ (S1.ext x2) A2 q2 fun h M3 H3 x3 A3 q3 => ?_
  have r' := (r.ext x2).ext x3
  have up : ∀ {w : V} {H4 : Hp}, lft (wd X) M3 H3 Q w H4 → lft (wd X) M H Q w H4 := fun q => ((q.trans x3).trans x2).trans x
  unfold slD at q3
  split at q3
  · exact .inl ⟨_, r', q3.1, up (lft.str A3 q3.2)⟩
  · rename_i l'
    obtain ⟨p, xs, rfl, s, rs⟩ := r'
    refine .inr (.inl ⟨p, xs, rfl, s, fun ⟨c1, c2⟩ => ?_, fun _ p hp => up (lft.newT A3 (cut_reps rs) hp q3)⟩)
    rw [← rs.length] at c1 c2
    rw [cut_all c1 c2] at q3
    exact up (lft.pure A3 (d := .tup l') ⟨p, xs, rfl, s, rs⟩ q3)
  · split at q3
    · rename_i l' e
      obtain ⟨p, xs, rfl, s, rs⟩ := listIn_rep A3 r' e
      refine .inr (.inr ⟨p, xs, rfl, SqL.of s, fun p hp => up ?_⟩)
      cases fz with
      | true => exact lft.newL A3 (cut_reps rs) hp q3
      | false => exact lft.newM A3 (cut_reps rs) hp (q3 p)
    · exact q3.elim
/-! ### tests -/
abbrev DTT := DSt → Mp → (Bool → Mp → Prop) → Prop
structure DC (X : Cx) (e : Expr) (t : DTT) : Prop where
  to : ∃ tt : TT, PT X e tt ∧ ∀ (σ : L2.St) (H : Hp) (ρ : DSt) (M : Mp) (Q : Bool → Mp → Prop) (R : Bool → Hp → Prop), AbsS (wd X) M H ρ σ → AbsM (wd X) M H → t ρ M Q →
    (∀ k M1 H1, Ext (wd X) M H M1 H1 → AbsM (wd X) M1 H1 → Q k M1 → R k H1) → tt σ H R
/-- .. whatever the whole is (and, or) -/
structure DW (X : Cx) (e : Expr) (t : DTT) : Prop where
  to : ∃ tt : TT, PW X e tt ∧ ∀ (σ : L2.St) (H : Hp) (ρ : DSt) (M : Mp) (Q : Bool → Mp → Prop) (R : Bool → Hp → Prop), AbsS (wd X) M H ρ σ → AbsM (wd X) M H → t ρ M Q →
    (∀ k M1 H1, Ext (wd X) M H M1 H1 → AbsM (wd X) M1 H1 → Q k M1 → R k H1) → tt σ H R
theorem DW.dc {e : Expr} {t : DTT} (h : DW X e t) : DC X e t := let ⟨tt, h1, h2⟩ := h.to; ⟨tt, h1.pt, h2⟩
/-- by the value's truth -/
def testD (t : DTE) : DTT := fun ρ M Q => t ρ M fun d M1 => truD d M1 fun k => Q k M1
def simpleTest (e : Expr) : Bool := match e with | .UnaryOp .. => false | .BoolOp .. => false | .IfExp .. => false | .Compare .. => false | _ => true
theorem DC.truth (ha : DE X a ta) (hs : simpleTest a = true) : DC X a (testD ta) := by
  refine ⟨_, pt_truth pe_cT (fun whole => by cases a <;> first | rfl | cases hs), fun σ H ρ M Q R S A z k => ?_⟩
  refine ha.bind S A z fun v d M1 H1 x r A1 S1 q => ?_
  obtain ⟨b, h1, h2⟩ := tru_rep r q
  exact ⟨b, h1, k b M1 H1 x A1 h2⟩
theorem DC.cmp {op : CmpOp} {g : D → D → Mp → QE → Prop} (ho : OpD X (compareOp op) g) (ha : DE X a ta) (hb : DE X b tb) (hm : behindInMarks op b = false) (bl : ∀ d1 d2 M Q, g d1 d2 M Q → g d1 d2 M fun d M' => (∃ k, d = .bl k) ∧ Q d M') :
    DC X (.Compare a [op] [b] pos) (testD fun ρ M Q => ta ρ M fun d1 M1 => tb ρ M1 fun d2 M2 => g d1 d2 M2 Q) := by
  refine ⟨_, pt_cmpR or_cO pe_cT pe_cT hm, fun σ H ρ M Q R S A z k => ?_⟩
  refine ha.bind S A z fun v d M1 H1 x r A1 S1 q => hb.bind S1 A1 q fun u d2 M2 H2 x2 r2 A2 S2 q2 => cO_mono (ho.to A2 (r.ext x2) r2 (bl _ _ _ _ q2)) ?_
  rintro w H3 ⟨d3, M3, x3, r3, A3, ⟨kk, rfl⟩, q3⟩
  exact ⟨kk, r3, k kk M3 H3 ((x.trans x2).trans x3) A3 q3⟩
theorem DC.chn {op op' : CmpOp} {g g' : D → D → Mp → QE → Prop} (ho : OpD X (compareOp op) g) (ho' : OpD X (compareOp op') g') (ha : DE X a ta) (hb : DE X b tb) (hc : DE X c tc) (hm : lastMarks [op, op'] [b, c] = false)
    (bl' : ∀ d1 d2 M Q, g' d1 d2 M Q → g' d1 d2 M fun d M' => (∃ k, d = .bl k) ∧ Q d M') :
    DC X (.Compare a [op, op'] [b, c] pos) (testD fun ρ M Q => ta ρ M fun d1 M1 => tb ρ M1 fun d2 M2 => g d1 d2 M2 (chnD (tc ρ) g' d2 Q)) := by
  refine ⟨_, pt_chain or_cO or_cO pe_cT pe_cT pe_cT hm, fun σ H ρ M Q R S A z k => ?_⟩
  refine ha.bind S A z fun v d M1 H1 x r A1 S1 q => hb.bind S1 A1 q fun u d2 M2 H2 x2 r2 A2 S2 q2 => cO_mono (ho.to A2 (r.ext x2) r2 q2) ?_
  rintro w H3 ⟨d3, M3, x3, r3, A3, q3⟩
  unfold chnD at q3
  split at q3
  · refine ⟨true, r3, ?_⟩
    rw [if_pos rfl]
    refine hc.bind (S2.ext x3) A3 q3 fun y d4 M4 H4 x4 r4 A4 S4 q4 => cO_mono (ho'.to A4 ((r2.ext x3).ext x4) r4 (bl' _ _ _ _ q4)) ?_
    rintro w H5 ⟨d5, M5, x5, r5, A5, ⟨kk, rfl⟩, q5⟩
    exact ⟨kk, r5, k kk M5 H5 ((((x.trans x2).trans x3).trans x4).trans x5) A5 q5⟩
  · refine ⟨false, r3, ?_⟩
    rw [if_neg Bool.false_ne_true]
    exact ⟨false, rfl, k false M3 H3 ((x.trans x2).trans x3) A3 q3⟩
  · exact q3.elim
theorem DC.imp {e : Expr} {t t' : DTT} (h : DC X e t) (m : ∀ ρ M Q, t' ρ M Q → t ρ M Q) : DC X e t' := let ⟨tt, h1, h2⟩ := h.to; ⟨tt, h1, fun σ H ρ M Q R S A z k => h2 σ H ρ M Q R S A (m ρ M Q z) k⟩
theorem DW.imp {e : Expr} {t t' : DTT} (h : DW X e t) (m : ∀ ρ M Q, t' ρ M Q → t ρ M Q) : DW X e t' := let ⟨tt, h1, h2⟩ := h.to; ⟨tt, h1, fun σ H ρ M Q R S A z k => h2 σ H ρ M Q R S A (m ρ M Q z) k⟩
theorem DC.never {e : Expr} : DC X e (fun _ _ _ => False) := ⟨fun _ _ _ => False, ⟨fun _ _ _ _ _ _ h => h.elim⟩, fun _ _ _ _ _ _ _ _ z _ => z⟩
theorem DC.not {ta : DTT} (ha : DC X a ta) : DC X (.UnaryOp .Not a pos) (fun ρ M Q => ta ρ M fun k M1 => Q (!k) M1) := by
  obtain ⟨tt, h1, h2⟩ := ha.to
  exact ⟨_, pt_not h1, fun σ H ρ M Q R S A z k => h2 σ H ρ M _ _ S A z fun b M1 H1 x A1 q => k _ M1 H1 x A1 q⟩
theorem DE.not (ha : DE X a ta) : DE X (.UnaryOp .Not a pos) (fun ρ M Q => ta ρ M fun d M1 => truD d M1 fun k => Q (.bl (!k)) M1) := by
  refine DE.of (pe_notT pe_cT) fun σ H ρ M Q S A z => ha.bind S A z fun v d M1 H1 x r A1 S1 q => ?_
  obtain ⟨k, h1, h2⟩ := tru_rep r q
  exact ⟨k, h1, (lft.bl A1 h2).trans x⟩
theorem DE.one {op : BoolOp} (ha : DE X a ta) : DE X (.BoolOp op [a] pos) ta := DE.of (pe_one pe_cT) fun σ H ρ M Q S A z => ha.to σ H ρ M Q S A z
theorem DE.and (ha : DE X a ta) (hb : DE X (.BoolOp .And (b :: es) pos) tb) : DE X (.BoolOp .And (a :: b :: es) pos) (fun ρ M Q => ta ρ M fun d M1 => truD d M1 fun k => if k = true then tb ρ M1 Q else Q d M1) := by
  refine DE.of (pe_andT pe_cT pe_cT) fun σ H ρ M Q S A z => ha.bind S A z fun v d M1 H1 x r A1 S1 q => ?_
  obtain ⟨k, h1, h2⟩ := tru_rep r q
  refine ⟨k, h1, ?_⟩
  cases k with
  | true => exact cT_mono (hb.to σ H1 ρ M1 Q S1 A1 h2) fun _ _ q' => q'.trans x
  | false => exact (lft.pure A1 r h2).trans x
theorem DE.or (ha : DE X a ta) (hb : DE X (.BoolOp .Or (b :: es) pos) tb) : DE X (.BoolOp .Or (a :: b :: es) pos) (fun ρ M Q => ta ρ M fun d M1 => truD d M1 fun k => if k = true then Q d M1 else tb ρ M1 Q) := by
  refine DE.of (pe_orT pe_cT pe_cT) fun σ H ρ M Q S A z => ha.bind S A z fun v d M1 H1 x r A1 S1 q => ?_
  obtain ⟨k, h1, h2⟩ := tru_rep r q
  refine ⟨k, h1, ?_⟩
  cases k with
  | false => exact cT_mono (hb.to σ H1 ρ M1 Q S1 A1 h2) fun _ _ q' => q'.trans x
  | true => exact (lft.pure A1 r h2).trans x
theorem DW.one {op : BoolOp} {ta : DTT} (ha : DC X a ta) : DW X (.BoolOp op [a] pos) ta := by
  obtain ⟨tt, h1, h2⟩ := ha.to
  cases op with
  | And => exact ⟨_, pw_and1 h1, h2⟩
  | Or => exact ⟨_, pw_or1 h1, h2⟩
theorem DW.and {ta tb : DTT} (ha : DC X a ta) (hb : DW X (.BoolOp .And (b :: es) pos) tb) : DW X (.BoolOp .And (a :: b :: es) pos) (fun ρ M Q => ta ρ M fun k M1 => if k = true then tb ρ M1 Q else Q false M1) := by
  obtain ⟨tt, h1, h2⟩ := ha.to
  obtain ⟨tu, g1, g2⟩ := hb.to
  refine ⟨_, pw_and h1 g1, fun σ H ρ M Q R S A z k => h2 σ H ρ M _ _ S A z fun b M1 H1 x A1 q => ?_⟩
  cases b with
  | true => exact g2 σ H1 ρ M1 Q R (S.ext x) A1 q fun k2 M2 H2 x2 A2 q2 => k k2 M2 H2 (x.trans x2) A2 q2
  | false => exact k false M1 H1 x A1 q
theorem DW.or {ta tb : DTT} (ha : DC X a ta) (hb : DW X (.BoolOp .Or (b :: es) pos) tb) : DW X (.BoolOp .Or (a :: b :: es) pos) (fun ρ M Q => ta ρ M fun k M1 => if k = true then Q true M1 else tb ρ M1 Q) := by
  obtain ⟨tt, h1, h2⟩ := ha.to
  obtain ⟨tu, g1, g2⟩ := hb.to
  refine ⟨_, pw_or h1 g1, fun σ H ρ M Q R S A z k => h2 σ H ρ M _ _ S A z fun b M1 H1 x A1 q => ?_⟩
  cases b with
  | false => exact g2 σ H1 ρ M1 Q R (S.ext x) A1 q fun k2 M2 H2 x2 A2 q2 => k k2 M2 H2 (x.trans x2) A2 q2
  | true => exact k true M1 H1 x A1 q
theorem DE.ife {tc : DTT} (hc : DC X c tc) (ha : DE X a ta) (hb : DE X b tb) : DE X (.IfExp c a b pos) (fun ρ M Q => tc ρ M fun k M1 => if k = true then ta ρ M1 Q else tb ρ M1 Q) := by
  obtain ⟨tt, h1, h2⟩ := hc.to
  refine DE.of (pe_ifExp h1 pe_cT pe_cT) fun σ H ρ M Q S A z => h2 σ H ρ M _ _ S A z fun k M1 H1 x A1 q => ?_
  cases k with
  | true => exact cT_mono (ha.to σ H1 ρ M1 Q (S.ext x) A1 q) fun _ _ q' => q'.trans x
  | false => exact cT_mono (hb.to σ H1 ρ M1 Q (S.ext x) A1 q) fun _ _ q' => q'.trans x
end
/-! ### isinstance, of a built-in type -/
inductive Ty where
  | int | bool | str | tuple | list | dict
def Ty.nm : Ty → Str
  | .int => "int" | .bool => "bool" | .str => "str" | .tuple => "tuple" | .list => "list" | .dict => "dict"
def Ty.ty : Ty → String
  | .int => "int" | .bool => "bool" | .str => "str" | .tuple => "tuple" | .list => "list" | .dict => "dict"
def tyD (M : Mp) : D → Option String
  | .non => some "NoneType" | .bl _ => some "bool" | .int _ => some "int" | .str _ => some "str" | .tup _ => some "tuple" | .lst _ => some "list" | .scr _ => some "list" | .dct _ _ => some "dict"
  | .ref a => match M a with
    | some (.lst _) => some "list"
    | some (.dic _) => some "dict"
    | _ => none
def isTy (t : Ty) (n : String) : Bool := n == t.ty || (n == "bool" && t.ty == "int")
def isiD (t : Ty) (d : D) (M : Mp) (Q : QE) : Prop := match tyD M d with
  | some n => Q (.bl (isTy t n)) M
  | none => False
def tyNames : List String := ["NoneType", "bool", "int", "str", "tuple", "list", "dict"]
theorem kit_tab (K : PySem.W.Frag) (t : Ty) {n : String} (h : n ∈ tyNames) : PySem.W.kitOne K (.type n) (.type t.ty) = some (isTy t n) := by
  simp only [tyNames, List.mem_cons, List.mem_nil_iff, or_false] at h
  rcases h with rfl | rfl | rfl | rfl | rfl | rfl | rfl <;> cases t <;> rfl
theorem ty_rep {W : Wd} {M : Mp} {H : Hp} {d : D} {x : V} {n : String} (A : AbsM W M H) (r : Rep W M H d x) (e : tyD M d = some n) : TyX W.K H x (.type n) ∧ n ∈ tyNames := by
  cases d with
  | non => cases e; rw [show x = _ from r]; exact ⟨.base .non, by simp [tyNames]⟩
  | bl b => cases e; rw [show x = _ from r]; exact ⟨.base (.bl b), by simp [tyNames]⟩
  | int i => cases e; rw [show x = _ from r]; exact ⟨.base (.int i), by simp [tyNames]⟩
  | str i => cases e; rw [show x = _ from r]; exact ⟨.base (.str i), by simp [tyNames]⟩
  | tup l =>
    cases e
    obtain ⟨a, xs, rfl, s, _⟩ := r
    refine ⟨?_, by simp [tyNames]⟩
    rcases s with (s | ⟨o, s⟩) | ⟨o, its, m, s, c, _⟩
    · exact .base (.tup s)
    · exact .fTuple s
    · exact .kTuple s c
  | lst l =>
    cases e
    obtain ⟨a, xs, rfl, _, s, _⟩ := r
    exact ⟨.base (.lst s), by simp [tyNames]⟩
  | dct ks l =>
    cases e
    obtain ⟨a, xs, rfl, _, s, _⟩ := r
    exact ⟨.base (.dK s), by simp [tyNames]⟩
  | scr ns =>
    cases e
    obtain ⟨a, rfl, s⟩ := r
    refine ⟨?_, by simp [tyNames]⟩
    rcases s with ⟨o, s⟩ | ⟨o, its, m, s, c, _⟩
    · exact .base (.frz s)
    · exact .kList s c
  | ref a =>
    rw [show x = _ from r]
    unfold tyD at e
    simp only at e
    split at e
    · rename_i l q
      cases e
      obtain ⟨xs, h, _⟩ := A.ob a _ q
      exact ⟨.base (.lst h), by simp [tyNames]⟩
    · rename_i l q
      cases e
      obtain ⟨vs, h, _⟩ := A.ob a _ q
      exact ⟨.base (.dK h), by simp [tyNames]⟩
    · cases e
theorem ty_boot (t : Ty) : bootBuiltins t.nm = some (.type t.ty) := by cases t <;> decide +kernel
theorem ty_nm (t : Ty) : t.nm ≠ "__name__" ∧ (t.nm == ("__debug__" : Str)) = false := by cases t <;> decide +kernel
theorem DE.isi {X : Cx} {e : Expr} {te : DTE} {p p2 pos : Pos} {x z : Str} (t : Ty) (he : DE X e te) (hx : x = "isinstance") (hz : z = t.nm) (hg : Gl X x) (hm : X.mg x = none) (hg2 : Gl X z) (hm2 : X.mg z = none) (hs : notStar e = true) :
    DE X (.Call (.Name x p) [e, .Name z p2] [] pos) (fun ρ M Q => te ρ M fun d M1 => isiD t d M1 Q) := by
  subst hx hz
  refine DE.of (pe_callB (id := "isinstance") call_isi hg hm (by decide +kernel) (pa_cons pe_cT (pa_cons (pe_bltn hg2 hm2 (ty_boot t) (v := .ty t.ty) rfl (ty_nm t).1 (ty_nm t).2) pa_nil) (star_cons hs)) (by decide +kernel) (by decide +kernel) (star_cons hs) (star_none rfl)) fun σ H ρ M Q S A z => ?_
  refine he.bind S A z fun v d M1 H1 x r A1 S1 q => ?_
  unfold isiD at q
  split at q
  · rename_i n hn
    obtain ⟨h1, h2⟩ := ty_rep A1 r hn
    exact ⟨v, .ty t.ty, .type n, .type t.ty, _, rfl, .ty _, h1, kit_tab _ t h2, lft.trans x (lft.bl A1 q)⟩
  · exact q.elim
/-! ### x[::-1] -/
section
variable {prog : Program} {w : World} {A : Around} {E : Value → Shared → Prop} {s : Shared}
theorem applied_rev {sl : Addr} {vl vu vs : Value} {n : Nat} {Q : Int × Int × Nat → Shared → Prop} (hs : s.heap.IsSliceOf sl vl vu vs) (pl : IsPart vl none) (pu : IsPart vu none) (ps : IsPart vs (some (-1)))
    (h : Q ((n : Int) - 1, -1, n) s) : wpAny (model prog w) A (Builtin.Slice.sliceApplied (.ref sl) (pure (n : Int))) Q E s := by
  obtain ⟨os, h1, h2, h3⟩ := id hs
  unfold Builtin.Slice.sliceApplied Builtin.Slice.sliceFields
  refine wpAny_bind (wpAny_bind (wpAny_field h1 h3 (x := vl) rfl (wpAny_bind (wpAny_field h1 h3 (x := vu) rfl (wpAny_bind (wpAny_field h1 h3 (x := vs) rfl (wpAny_pure ?_)))))))
  refine wpAny_bind (HT.slicePart_ ps ?_)
  show wpAny _ _ (if ((-1 : Int) == 0) = true then _ else _) _ _ s
  rw [if_neg (by decide)]
  refine wpAny_bind (HT.slicePart_ pl (wpAny_bind (HT.slicePart_ pu (wpAny_bind (wpAny_pure ?_)))))
  show wpAny _ _ (match Builtin.Slice.sliceAdjust none none (-1) (n : Int) with | (lo, hi) => pure (lo, (-1 : Int), Builtin.Slice.slicePlaces lo hi (-1))) _ _ s
  have e1 : Builtin.Slice.sliceAdjust none none (-1) (n : Int) = ((n : Int) - 1, -1) := by
    unfold Builtin.Slice.sliceAdjust
    simp
  have e2 : Builtin.Slice.slicePlaces ((n : Int) - 1) (-1) (-1) = n := by
    unfold Builtin.Slice.slicePlaces
    simp
    split <;> omega
  rw [e1]
  show wpAny _ _ (pure ((n : Int) - 1, (-1 : Int), Builtin.Slice.slicePlaces ((n : Int) - 1) (-1) (-1))) _ _ s
  rw [e2]
  exact wpAny_pure h
theorem fm_congr {α β : Type} {f g : α → Option β} : ∀ {l : List α}, (∀ x ∈ l, f x = g x) → l.filterMap f = l.filterMap g
  | [], _ => rfl
  | x :: l, h => by
    rw [List.filterMap_cons, List.filterMap_cons, h x List.mem_cons_self, fm_congr fun y hy => h y (List.mem_cons_of_mem _ hy)]
theorem pick_rev (xs : Array Value) : ((List.range xs.size).filterMap fun (m : Nat) => xs[(((xs.size : Int) - 1) + (m : Int) * (-1)).toNat]?).toArray = xs.toList.reverse.toArray := by
  have z := PySem.W.krv_pick xs
  unfold slicePick at z
  rw [PySem.W.krv_bounds] at z
  rw [← z]
  show _ = ((sliceRange ((xs.size : Int) - 1) (-1) (-1)).filterMap (xs[·]?)).toArray
  rw [PySem.W.krv_sliceRange, List.filterMap_map]
  refine congrArg List.toArray (fm_congr fun m hm => ?_)
  rw [List.mem_range] at hm
  simp only [Function.comp]
  congr 1
  omega
theorem tuple_rev {t sl : Addr} {items : Array Value} {vl vu vs : Value} {Q : Value → Shared → Prop} (ht : IsTup s.heap t items) (hs : s.heap.IsSliceOf sl vl vu vs) (pl : IsPart vl none) (pu : IsPart vu none) (ps : IsPart vs (some (-1)))
    (h : Q (.ref s.heap.objs.size) { s with heap := s.heap.push { cls := .type "tuple", data := .seq items.toList.reverse.toArray } }) (hsz : items.size ≤ sizeLine) : wpAny (model prog w) A (getItem (.ref t) (.ref sl)) Q E s := by
  have hok : sizeOk (.seq items.toList.reverse.toArray) := by
    show items.toList.reverse.toArray.size ≤ sizeLine
    simpa using hsz
  obtain ⟨os, hos, hcs, hds⟩ := id hs
  have hT : s.TypeIs (.ref sl) "slice" := ⟨os, hos, hcs⟩
  unfold getItem
  try with_reducible refine wpAny_holding ?_
  first | refine wpAny_bind (wpAny_pure ?_) | skip
  refine wpAny_bind (wpAny_sequenceKey ht.typeIs (by decide) ?_)
  refine wpAny_bind (wpAny_callSpecial?_slot (name := Str.ofString "__getitem__") ht.typeIs slot_tuple_getitem (wpAny_call_entry slot_tuple_getitem ht.typeIs entry_tuple_getitem ?_ (args_tuple_getitem _ _)))
  show wpAny _ _ (Builtin.Tuple.tupleItemsOf (.ref t) >>= _) _ _ s
  refine wpAny_bind (tupleItemsOf_ ht ?_)
  refine wpAny_bind (wpAny_typeOf hT ?_)
  rw [if_pos (by decide)]
  refine wpAny_bind (applied_rev hs pl pu ps ?_)
  have no : ¬ ((((items.size : Int) - 1 == 0 && (-1 : Int) == 1 && items.size == items.size) = true)) := by
    intro q
    rw [Bool.and_eq_true, Bool.and_eq_true] at q
    exact absurd q.1.2 (by decide)
  show wpAny _ _ (if ((items.size : Int) - 1 == 0 && (-1 : Int) == 1 && items.size == items.size) = true then _ else _) _ _ s
  rw [if_neg no, pick_rev]
  first
    | exact wpAny_bind (m := Builtin.Tuple.tupleExact _) (wpAny_newObj_type (wpAny_pure ⟨_, rfl, wpAny_pure h⟩) hok)
    | exact wpAny_bind (m := Builtin.Tuple.tupleExact _) (wpAny_newObj_type (wpAny_bind (wpAny_pure (wpAny_pure ⟨_, rfl, wpAny_pure h⟩))) hok)
    | exact wpAny_bind (wpAny_bind (m := Builtin.Tuple.tupleExact _) (wpAny_newObj_type (wpAny_pure (wpAny_pure ⟨_, rfl, wpAny_pure h⟩)) hok))
    | exact wpAny_bind (wpAny_bind (m := Builtin.Tuple.tupleExact _) (wpAny_newObj_type (wpAny_pure ⟨_, rfl, wpAny_pure h⟩) hok))
end
def tRevA (K : PySem.W.Frag) (te : TE) : TE := fun σ H Q => te σ H fun x H1 => ∃ a xs, x = .ref a ∧ ((SqL K H1 a xs ∧ ∀ p, H1 p = none → Q (.ref p) (upd H1 p (.lst xs.reverse))) ∨ (SqT K H1 a xs ∧ ∀ p, H1 p = none → Q (.ref p) (upd H1 p (.tup xs.reverse))))
theorem pe_revA {X : Cx} {e : Expr} {te : TE} {k : Nat} {p1 p2 p3 pos : Pos} (he : PE X e te) : PE X (.Subscript e (.Slice none none (some (.UnaryOp .USub (.Constant (.int 1) k p1) p2)) p3) pos) (tRevA X.K te) := by
  refine ⟨fun pins s σ H Q I h => ?_⟩
  refine Subscript_ (thn (he.run pins s σ H _ I h) fun v s1 ⟨x, H1, I1, r1, a, xs, ex, q⟩ => ?_)
  subst ex
  cases r1
  have hst : PO X (some (.UnaryOp .USub (.Constant (.int 1) k p1) p2)) (tPart (tUn (rU fun i => .int (-i)) (tC (.int 1)))) := po_some (pe_un un_neg pe_int)
  refine wpAny_Slice (thn (po_none.run pins s1 σ H1 (fun o G => o = none ∧ G = H1) I1 ⟨rfl, rfl⟩) fun vl s2 ⟨l, G2, I2, pl, el, e2⟩ => ?_)
  subst el e2
  refine thn (po_none.run pins s2 σ G2 (fun o G => o = none ∧ G = G2) I2 ⟨rfl, rfl⟩) fun vu s3 ⟨u, G3, I3, pu, eu, e3⟩ => ?_
  subst eu e3
  refine thn (hst.run pins s3 σ G3 (fun o G => o = some (-1) ∧ G = G3) I3 ⟨1, rfl, -1, rfl, rfl, rfl⟩) fun vs s4 ⟨o, G4, I4, ps, eo, e4⟩ => ?_
  subst eo e4
  have I5 : Inv X pins σ G4 { s4 with heap := s4.heap.push { cls := .type "slice", data := .fields #[vl, vu, vs] } } := I4.kept (t' := s4.toks) fun b ob z => Heap.get?_push_of_some _ z
  show wpAny (model X.prog X.w) X.A (subscriptTail e (.Slice none none (some (.UnaryOp .USub (.Constant (.int 1) k p1) p2)) p3) (.ref a) (.ref s4.heap.objs.size)) (EP X pins σ Q) X.xe { s4 with heap := s4.heap.push { cls := .type "slice", data := .fields #[vl, vu, vs] } }
  rcases q with ⟨hx, q⟩ | ⟨hx, q⟩
  · obtain ⟨its, r, ht, hz⟩ := I5.list hx
    have hlen := r.length
    refine tail_any (ops := [.ref a, .ref s4.heap.objs.size]) ht.isList.typeIs (PySem.slot_list_getitem.lookup) ?_ (by with_unfolding_all rfl)
    refine wpAny_getItem_list_slice ht.isList (Heap.IsSliceOf.new _ vl vu vs) pl pu ps (by decide) ?_ (by rw [List.size_toArray]; omega)
    rw [PySem.W.krv_pick]
    refine ⟨.ref _, _, I5.laid (t' := s4.toks) (o := .lst xs.reverse) (fun b ob z => Heap.get?_push_of_some _ z) (Nat.le_refl _) ?_, rfl, q _ (I5.hok.fresh (Nat.le_refl _))⟩
    exact ⟨by rw [List.length_reverse]; exact hz, _, 0, r.reverse, Heap.get?_push_size _ rfl⟩
  · obtain ⟨its, r, ht, hz⟩ := I5.tuple hx
    have hlen := r.length
    refine tail_any (ops := [.ref a, .ref s4.heap.objs.size]) ht.typeIs slot_tuple_getitem.lookup ?_ (by with_unfolding_all rfl)
    refine tuple_rev ht (Heap.IsSliceOf.new _ vl vu vs) pl pu ps ?_ (by rw [List.size_toArray]; omega)
    refine ⟨.ref _, _, I5.laid (t' := s4.toks) (o := .tup xs.reverse) (fun b ob z => Heap.get?_push_of_some _ z) (Nat.le_refl _) ?_, rfl, q _ (I5.hok.fresh (Nat.le_refl _))⟩
    exact ⟨by rw [List.length_reverse]; exact hz, _, r.reverse, IsTup.new _ _⟩
/-- x[::-1] -/
def revD (fz : Bool) (x : D) (M : Mp) (Q : QE) : Prop := match x with
  | .tup l => Q (.tup l.reverse) M
  | x => match listIn M x with
    | some l => if fz = true then Q (.lst l.reverse) M else ∀ p, M p = none → Q (.ref p) (M.upd p (.lst l.reverse))
    | none => False
theorem DE.rev {X : Cx} {e : Expr} {te : DTE} {fz : Bool} {k : Nat} {p1 p2 p3 pos : Pos} (he : DE X e te) : DE X (.Subscript e (.Slice none none (some (.UnaryOp .USub (.Constant (.int 1) k p1) p2)) p3) pos) (fun ρ M Q => te ρ M fun d M1 => revD fz d M1 Q) := by
  refine DE.of (pe_revA pe_cT) fun σ H ρ M Q S A z => ?_
  refine he.bind S A z fun v d M1 H1 x r A1 S1 q => ?_
  unfold revD at q
  split at q
  · rename_i l
    obtain ⟨a, xs, rfl, s, rs⟩ := r
    exact ⟨a, xs, rfl, .inr ⟨s, fun p hp => lft.trans x (lft.newT A1 rs.reverse hp q)⟩⟩
  · split at q
    · rename_i l e
      obtain ⟨a, xs, rfl, s, rs⟩ := listIn_rep A1 r e
      refine ⟨a, xs, rfl, .inl ⟨SqL.of s, fun p hp => lft.trans x ?_⟩⟩
      cases fz with
      | true => exact lft.newL A1 rs.reverse hp q
      | false => exact lft.newM A1 rs.reverse hp (q p)
    · exact q.elim
end Ow
set_option maxHeartbeats 1000000
namespace Ow
open PySem PySem.Spec PyProof.Rows L2
variable [Tb] [Og]
section
variable {prog : Program} {w : World} {A : Around} {E : Value → Shared → Prop} {s : Shared} {z TI TO i1 i2 i3 : Addr} {fp1 fp2 fp3 : List Addr} {n1 n2 n3 i : Nat} {P1 P2 P3 : Nat → Value → Prop} {St1 St2 St3 : Nat → Heap → Prop} {T : Addr} {f : Bool} {oT : Obj}
theorem held2_item {Q : Value → Shared → Prop} (S : ZipSep2 z TI TO i1 i2 fp1 fp2) (D1 : Draws prog w A i1 fp1 n1 P1 St1) (D2 : Draws prog w A i2 fp2 n2 P2 St2)
    (hz : PySem.IsZipHeld s.heap z TI TO T f) (hT : s.heap.get? T = some oT) (hTI : IsTupOf2 s.heap TI (.ref i1) (.ref i2)) (st1 : St1 i s.heap) (st2 : St2 i s.heap) (l1 : i < n1) (l2 : i < n2)
    (hQ : ∀ x1 x2 h' tk, P1 i x1 → P2 i x2 → PySem.IsZipHeld h' z TI TO T true → St1 (i + 1) h' → St2 (i + 1) h' → IsTupOf2 h' s.heap.objs.size x1 x2 → h'.objs.size = s.heap.objs.size + 1 →
      (∀ c o, c ≠ z → c ≠ i1 → c ≠ i2 → s.heap.get? c = some o → h'.get? c = some o) → Q (.ref s.heap.objs.size) { s with heap := h', toks := tk }) :
    wpAny (model prog w) A (Builtin.«zip.__next__» ⟨[.ref z], []⟩) (fun fin s' => ∃ v, fin = .done (.ret v) ∧ Q v s') E s := by
  obtain ⟨hp, g, d, tk0, os⟩ := s
  show wpAny _ _ (field (.ref z) 2 >>= _) _ _ _
  refine wpAny_bind (wpAny_field hz rfl (x := .bool false) rfl ?_)
  show wpAny _ _ (field (.ref z) 3 >>= _) _ _ _
  refine wpAny_bind (wpAny_field hz rfl (x := .ref TI) rfl ?_)
  refine wpAny_bind (wpAny_seqItems hTI rfl ?_)
  show wpAny _ _ (Builtin.SmallTypes.ownedTupleIsFree (.ref z) >>= _) _ _ _
  refine wpAny_bind (PySem.wpAny_tupleHeld_zip hz hT fun g0 hz0 hs0 => ?_)
  replace hs0 : Heap.SameBut z hp g0 := hs0
  simp only [Bool.false_eq_true, if_false]
  refine wpAny_bind ?_
  rw [← Array.forIn_toList]
  simp only [List.forIn_cons, List.forIn_nil]
  refine wpAny_bind (wpAny_bind (wpAny_holding ?_))
  show wpAny _ _ (Builtin.SmallTypes.nextOf (.ref i1) >>= _) _ _ ⟨g0, g, d, tk0, os⟩
  refine wpAny_bind (D1.item i _ _ _ l1 (D1.over st1 hs0 S.zf1) fun x1 p1 tk1 hx1 sn1 hp1 => wpAny_pure ?_)
  replace hp1 : Heap.SameBut i1 g0 p1 := hp1
  refine wpAny_pure ?_
  refine wpAny_bind (wpAny_bind (wpAny_holding ?_))
  show wpAny _ _ (Builtin.SmallTypes.nextOf (.ref i2) >>= _) _ _ ⟨p1, g, d, tk1, os⟩
  refine wpAny_bind (D2.item i _ _ _ l2 (D2.over (D2.over st2 hs0 S.zf2) hp1 S.sep1_2) fun x2 p2 tk2 hx2 sn2 hp2 => wpAny_pure ?_)
  replace hp2 : Heap.SameBut i2 p1 p2 := hp2
  refine wpAny_pure (wpAny_pure ?_)
  show wpAny _ _ (newTuple [x1, x2] >>= _) _ _ ⟨p2, g, d, tk2, os⟩
  refine wpAny_bind (wpAny_newTuple ?_)
  have hsz : p2.objs.size = hp.objs.size := by rw [hp2.1, hp1.1, hs0.1]
  have hz2 : PySem.IsZipHeld p2 z TI TO T true := hp2.extBut _ _ S.zi2 (hp1.extBut _ _ S.zi1 hz0)
  have hk : ∀ c o, c ≠ z → c ≠ i1 → c ≠ i2 → hp.get? c = some o → p2.get? c = some o := fun c o c1 c2 c3 e => hp2.extBut _ _ c3 (hp1.extBut _ _ c2 (hs0.extBut _ _ c1 e))
  refine wpAny_pure ⟨_, rfl, ?_⟩
  have hpair : IsTupOf2 (p2.push { cls := .type "tuple", data := .seq #[x1, x2] }) p2.objs.size x1 x2 := Heap.get?_push_size _ rfl
  have hz4 : (p2.push { cls := .type "tuple", data := .seq #[x1, x2] }).objs.size = p2.objs.size + 1 := Heap.size_push ..
  show Q (.ref p2.objs.size) _
  rw [hsz] at hpair hz4 ⊢
  exact hQ x1 x2 _ tk2 hx1 hx2 (Heap.get?_push_of_some _ hz2) (D1.frame _ _ _ (D1.over sn1 hp2 S.sep2_1) fun b _ o e => Heap.get?_push_of_some _ e) (D2.frame _ _ _ sn2 fun b _ o e => Heap.get?_push_of_some _ e) hpair hz4
    fun c o c1 c2 c3 e => Heap.get?_push_of_some _ (hk c o c1 c2 c3 e)
theorem held3_item {Q : Value → Shared → Prop} (S : ZipSep3 z TI TO i1 i2 i3 fp1 fp2 fp3) (D1 : Draws prog w A i1 fp1 n1 P1 St1) (D2 : Draws prog w A i2 fp2 n2 P2 St2) (D3 : Draws prog w A i3 fp3 n3 P3 St3)
    (hz : PySem.IsZipHeld s.heap z TI TO T f) (hT : s.heap.get? T = some oT) (hTI : IsTupOf3 s.heap TI (.ref i1) (.ref i2) (.ref i3)) (st1 : St1 i s.heap) (st2 : St2 i s.heap) (st3 : St3 i s.heap) (l1 : i < n1) (l2 : i < n2) (l3 : i < n3)
    (hQ : ∀ x1 x2 x3 h' tk, P1 i x1 → P2 i x2 → P3 i x3 → PySem.IsZipHeld h' z TI TO T true → St1 (i + 1) h' → St2 (i + 1) h' → St3 (i + 1) h' → IsTupOf3 h' s.heap.objs.size x1 x2 x3 → h'.objs.size = s.heap.objs.size + 1 →
      (∀ c o, c ≠ z → c ≠ i1 → c ≠ i2 → c ≠ i3 → s.heap.get? c = some o → h'.get? c = some o) → Q (.ref s.heap.objs.size) { s with heap := h', toks := tk }) :
    wpAny (model prog w) A (Builtin.«zip.__next__» ⟨[.ref z], []⟩) (fun fin s' => ∃ v, fin = .done (.ret v) ∧ Q v s') E s := by
  obtain ⟨hp, g, d, tk0, os⟩ := s
  show wpAny _ _ (field (.ref z) 2 >>= _) _ _ _
  refine wpAny_bind (wpAny_field hz rfl (x := .bool false) rfl ?_)
  show wpAny _ _ (field (.ref z) 3 >>= _) _ _ _
  refine wpAny_bind (wpAny_field hz rfl (x := .ref TI) rfl ?_)
  refine wpAny_bind (wpAny_seqItems hTI rfl ?_)
  show wpAny _ _ (Builtin.SmallTypes.ownedTupleIsFree (.ref z) >>= _) _ _ _
  refine wpAny_bind (PySem.wpAny_tupleHeld_zip hz hT fun g0 hz0 hs0 => ?_)
  replace hs0 : Heap.SameBut z hp g0 := hs0
  simp only [Bool.false_eq_true, if_false]
  refine wpAny_bind ?_
  rw [← Array.forIn_toList]
  simp only [List.forIn_cons, List.forIn_nil]
  refine wpAny_bind (wpAny_bind (wpAny_holding ?_))
  show wpAny _ _ (Builtin.SmallTypes.nextOf (.ref i1) >>= _) _ _ ⟨g0, g, d, tk0, os⟩
  refine wpAny_bind (D1.item i _ _ _ l1 (D1.over st1 hs0 S.zf1) fun x1 p1 tk1 hx1 sn1 hp1 => wpAny_pure ?_)
  replace hp1 : Heap.SameBut i1 g0 p1 := hp1
  refine wpAny_pure ?_
  refine wpAny_bind (wpAny_bind (wpAny_holding ?_))
  show wpAny _ _ (Builtin.SmallTypes.nextOf (.ref i2) >>= _) _ _ ⟨p1, g, d, tk1, os⟩
  refine wpAny_bind (D2.item i _ _ _ l2 (D2.over (D2.over st2 hs0 S.zf2) hp1 S.sep1_2) fun x2 p2 tk2 hx2 sn2 hp2 => wpAny_pure ?_)
  replace hp2 : Heap.SameBut i2 p1 p2 := hp2
  refine wpAny_pure ?_
  refine wpAny_bind (wpAny_bind (wpAny_holding ?_))
  show wpAny _ _ (Builtin.SmallTypes.nextOf (.ref i3) >>= _) _ _ ⟨p2, g, d, tk2, os⟩
  refine wpAny_bind (D3.item i _ _ _ l3 (D3.over (D3.over (D3.over st3 hs0 S.zf3) hp1 S.sep1_3) hp2 S.sep2_3) fun x3 p3 tk3 hx3 sn3 hp3 => wpAny_pure ?_)
  replace hp3 : Heap.SameBut i3 p2 p3 := hp3
  refine wpAny_pure (wpAny_pure ?_)
  show wpAny _ _ (newTuple [x1, x2, x3] >>= _) _ _ ⟨p3, g, d, tk3, os⟩
  refine wpAny_bind (wpAny_newTuple ?_)
  have hsz : p3.objs.size = hp.objs.size := by rw [hp3.1, hp2.1, hp1.1, hs0.1]
  have hz2 : PySem.IsZipHeld p3 z TI TO T true := hp3.extBut _ _ S.zi3 (hp2.extBut _ _ S.zi2 (hp1.extBut _ _ S.zi1 hz0))
  have hk : ∀ c o, c ≠ z → c ≠ i1 → c ≠ i2 → c ≠ i3 → hp.get? c = some o → p3.get? c = some o := fun c o c1 c2 c3 c4 e => hp3.extBut _ _ c4 (hp2.extBut _ _ c3 (hp1.extBut _ _ c2 (hs0.extBut _ _ c1 e)))
  refine wpAny_pure ⟨_, rfl, ?_⟩
  have hpair : IsTupOf3 (p3.push { cls := .type "tuple", data := .seq #[x1, x2, x3] }) p3.objs.size x1 x2 x3 := Heap.get?_push_size _ rfl
  have hz4 : (p3.push { cls := .type "tuple", data := .seq #[x1, x2, x3] }).objs.size = p3.objs.size + 1 := Heap.size_push ..
  show Q (.ref p3.objs.size) _
  rw [hsz] at hpair hz4 ⊢
  exact hQ x1 x2 x3 _ tk3 hx1 hx2 hx3 (Heap.get?_push_of_some _ hz2) (D1.frame _ _ _ (D1.over (D1.over sn1 hp2 S.sep2_1) hp3 S.sep3_1) fun b _ o e => Heap.get?_push_of_some _ e) (D2.frame _ _ _ (D2.over sn2 hp3 S.sep3_2) fun b _ o e => Heap.get?_push_of_some _ e)
    (D3.frame _ _ _ sn3 fun b _ o e => Heap.get?_push_of_some _ e) hpair hz4 fun c o c1 c2 c3 c4 e => Heap.get?_push_of_some _ (hk c o c1 c2 c3 c4 e)
theorem held2_end {Q : Fin → Shared → Prop} (S : ZipSep2 z TI TO i1 i2 fp1 fp2) (D1 : Draws prog w A i1 fp1 n1 P1 St1) (D2 : Draws prog w A i2 fp2 n2 P2 St2)
    (hz : PySem.IsZipHeld s.heap z TI TO T f) (hT : s.heap.get? T = some oT) (hTI : IsTupOf2 s.heap TI (.ref i1) (.ref i2)) (st1 : St1 i s.heap) (st2 : St2 i s.heap) (l1 : i ≤ n1) (l2 : i ≤ n2) (le : i = n1 ∨ i = n2)
    (hE : ∀ h' tk e, (∀ c o, c ≠ z → c ≠ i1 → c ≠ i2 → s.heap.get? c = some o → h'.get? c = some o) → (∃ o, h'.get? e = some o ∧ o.cls = .type "StopIteration") → E (.ref e) { s with heap := h', toks := tk }) :
    wpAny (model prog w) A (Builtin.«zip.__next__» ⟨[.ref z], []⟩) Q E s := by
  obtain ⟨hp, g, d, tk0, os⟩ := s
  show wpAny _ _ (field (.ref z) 2 >>= _) _ _ _
  refine wpAny_bind (wpAny_field hz rfl (x := .bool false) rfl ?_)
  show wpAny _ _ (field (.ref z) 3 >>= _) _ _ _
  refine wpAny_bind (wpAny_field hz rfl (x := .ref TI) rfl ?_)
  refine wpAny_bind (wpAny_seqItems hTI rfl ?_)
  show wpAny _ _ (Builtin.SmallTypes.ownedTupleIsFree (.ref z) >>= _) _ _ _
  refine wpAny_bind (PySem.wpAny_tupleHeld_zip hz hT fun g0 hz0 hs0 => ?_)
  replace hs0 : Heap.SameBut z hp g0 := hs0
  simp only [Bool.false_eq_true, if_false]
  refine wpAny_bind ?_
  rw [← Array.forIn_toList]
  simp only [List.forIn_cons, List.forIn_nil]
  refine wpAny_bind (wpAny_bind (wpAny_holding ?_))
  show wpAny _ _ (Builtin.SmallTypes.nextOf (.ref i1) >>= _) _ _ ⟨g0, g, d, tk0, os⟩
  have a1 : St1 i g0 := D1.over st1 hs0 S.zf1
  by_cases h1 : i = n1
  · rw [h1] at a1
    refine wpAny_bind (D1.done _ _ _ a1 fun h' e hx he => ?_)
    exact hE h' tk0 e (fun c o c1 c2 _ x => hx _ _ c2 (hs0.extBut _ _ c1 x)) he
  · have h2 : i = n2 := le.resolve_left h1
    refine wpAny_bind (D1.item i _ _ _ (by omega) a1 fun x1 p1 tk1 hx1 sn1 hp1 => wpAny_pure ?_)
    replace hp1 : Heap.SameBut i1 g0 p1 := hp1
    refine wpAny_pure ?_
    refine wpAny_bind (wpAny_bind (wpAny_holding ?_))
    show wpAny _ _ (Builtin.SmallTypes.nextOf (.ref i2) >>= _) _ _ ⟨p1, g, d, tk1, os⟩
    have a2 : St2 i p1 := D2.over (D2.over st2 hs0 S.zf2) hp1 S.sep1_2
    rw [h2] at a2
    refine wpAny_bind (D2.done _ _ _ a2 fun h' e hx he => ?_)
    exact hE h' tk1 e (fun c o c1 c2 c3 x => hx _ _ c3 (hp1.extBut _ _ c2 (hs0.extBut _ _ c1 x))) he
theorem held3_end {Q : Fin → Shared → Prop} (S : ZipSep3 z TI TO i1 i2 i3 fp1 fp2 fp3) (D1 : Draws prog w A i1 fp1 n1 P1 St1) (D2 : Draws prog w A i2 fp2 n2 P2 St2) (D3 : Draws prog w A i3 fp3 n3 P3 St3)
    (hz : PySem.IsZipHeld s.heap z TI TO T f) (hT : s.heap.get? T = some oT) (hTI : IsTupOf3 s.heap TI (.ref i1) (.ref i2) (.ref i3)) (st1 : St1 i s.heap) (st2 : St2 i s.heap) (st3 : St3 i s.heap) (l1 : i ≤ n1) (l2 : i ≤ n2) (l3 : i ≤ n3) (le : i = n1 ∨ i = n2 ∨ i = n3)
    (hE : ∀ h' tk e, (∀ c o, c ≠ z → c ≠ i1 → c ≠ i2 → c ≠ i3 → s.heap.get? c = some o → h'.get? c = some o) → (∃ o, h'.get? e = some o ∧ o.cls = .type "StopIteration") → E (.ref e) { s with heap := h', toks := tk }) :
    wpAny (model prog w) A (Builtin.«zip.__next__» ⟨[.ref z], []⟩) Q E s := by
  obtain ⟨hp, g, d, tk0, os⟩ := s
  show wpAny _ _ (field (.ref z) 2 >>= _) _ _ _
  refine wpAny_bind (wpAny_field hz rfl (x := .bool false) rfl ?_)
  show wpAny _ _ (field (.ref z) 3 >>= _) _ _ _
  refine wpAny_bind (wpAny_field hz rfl (x := .ref TI) rfl ?_)
  refine wpAny_bind (wpAny_seqItems hTI rfl ?_)
  show wpAny _ _ (Builtin.SmallTypes.ownedTupleIsFree (.ref z) >>= _) _ _ _
  refine wpAny_bind (PySem.wpAny_tupleHeld_zip hz hT fun g0 hz0 hs0 => ?_)
  replace hs0 : Heap.SameBut z hp g0 := hs0
  simp only [Bool.false_eq_true, if_false]
  refine wpAny_bind ?_
  rw [← Array.forIn_toList]
  simp only [List.forIn_cons, List.forIn_nil]
  refine wpAny_bind (wpAny_bind (wpAny_holding ?_))
  show wpAny _ _ (Builtin.SmallTypes.nextOf (.ref i1) >>= _) _ _ ⟨g0, g, d, tk0, os⟩
  have a1 : St1 i g0 := D1.over st1 hs0 S.zf1
  by_cases h1 : i = n1
  · rw [h1] at a1
    refine wpAny_bind (D1.done _ _ _ a1 fun h' e hx he => ?_)
    exact hE h' tk0 e (fun c o c1 c2 _ _ x => hx _ _ c2 (hs0.extBut _ _ c1 x)) he
  · refine wpAny_bind (D1.item i _ _ _ (by omega) a1 fun x1 p1 tk1 hx1 sn1 hp1 => wpAny_pure ?_)
    replace hp1 : Heap.SameBut i1 g0 p1 := hp1
    refine wpAny_pure ?_
    refine wpAny_bind (wpAny_bind (wpAny_holding ?_))
    show wpAny _ _ (Builtin.SmallTypes.nextOf (.ref i2) >>= _) _ _ ⟨p1, g, d, tk1, os⟩
    have a2 : St2 i p1 := D2.over (D2.over st2 hs0 S.zf2) hp1 S.sep1_2
    by_cases h2 : i = n2
    · rw [h2] at a2
      refine wpAny_bind (D2.done _ _ _ a2 fun h' e hx he => ?_)
      exact hE h' tk1 e (fun c o c1 c2 c3 _ x => hx _ _ c3 (hp1.extBut _ _ c2 (hs0.extBut _ _ c1 x))) he
    · have h3 : i = n3 := (le.resolve_left h1).resolve_left h2
      refine wpAny_bind (D2.item i _ _ _ (by omega) a2 fun x2 p2 tk2 hx2 sn2 hp2 => wpAny_pure ?_)
      replace hp2 : Heap.SameBut i2 p1 p2 := hp2
      refine wpAny_pure ?_
      refine wpAny_bind (wpAny_bind (wpAny_holding ?_))
      show wpAny _ _ (Builtin.SmallTypes.nextOf (.ref i3) >>= _) _ _ ⟨p2, g, d, tk2, os⟩
      have a3 : St3 i p2 := D3.over (D3.over (D3.over st3 hs0 S.zf3) hp1 S.sep1_3) hp2 S.sep2_3
      rw [h3] at a3
      refine wpAny_bind (D3.done _ _ _ a3 fun h' e hx he => ?_)
      exact hE h' tk2 e (fun c o c1 c2 c3 c4 x => hx _ _ c4 (hp2.extBut _ _ c3 (hp1.extBut _ _ c2 (hs0.extBut _ _ c1 x)))) he
end
/-- what hands out new tuples, one a draw; S: a list that is written between the draws -/
structure TSrc (prog : Program) (w : World) (A : Around) (z S : Addr) (n : Nat) (row : Nat → List Value) (wr : List Addr) (St : Nat → Heap → Prop) : Prop where
  frame : ∀ i h h', St i h → (∀ b o, b ≠ S → h.get? b = some o → h'.get? b = some o) → St i h'
  item : ∀ i (s : Shared) (Q : Option Value → Shared → Prop) (E : Value → Shared → Prop), i < n → St i s.heap → S < s.heap.objs.size →
    (∀ h' tk, St (i + 1) h' → h'.get? s.heap.objs.size = some { cls := .type "tuple", data := .seq (row i).toArray } → h'.objs.size = s.heap.objs.size + 1 → (∀ c o, c ∉ wr → s.heap.get? c = some o → h'.get? c = some o) → Q (some (.ref s.heap.objs.size)) { s with heap := h', toks := tk }) →
    wpAny (model prog w) A (pyNext (.ref z)) Q E s
  done : ∀ (s : Shared) (Q : Option Value → Shared → Prop) (E : Value → Shared → Prop), St n s.heap → (∀ h' tk, (∀ c o, c ∉ wr → s.heap.get? c = some o → h'.get? c = some o) → Q none { s with heap := h', toks := tk }) →
    wpAny (model prog w) A (pyNext (.ref z)) Q E s
/-- the tuples that a list has taken -/
structure Took (row : Nat → List Value) (lo : Addr) (wr : List Addr) (h : Heap) (as : List Addr) : Prop where
  above : ∀ a ∈ as, lo < a ∧ a ∉ wr
  rows : ∀ (j : Nat) (a : Addr), as[j]? = some a → h.get? a = some { cls := .type "tuple", data := .seq (row j).toArray }
theorem src_loop {prog : Program} {w : World} {A : Around} {s : Shared} {R : Result → Shared → Prop} {z S : Addr} {n : Nat} {row : Nat → List Value} {wr : List Addr} {St : Nat → Heap → Prop} (W : TSrc prog w A.in1 z S n row wr St) (hSw : S ∉ wr) (hn : n ≤ sizeLine) (res : Value) {h0 : Heap} (hwr : ∀ b ∈ wr, b < h0.objs.size)
    (hR : ∀ h' tk acc c as, (∀ b o, b ≠ S → b ∉ wr → h0.get? b = some o → h'.get? b = some o) → h'.get? S = some { cls := .type "list", dict := none, data := .seq acc c, slots := #[] } → as.length = n → Took row S wr h' as → acc.toList = as.map Value.ref → R (.ok (.ret res)) { s with heap := h', toks := tk }) :
    ∀ (k i : Nat) (h : Heap) (tk c : Nat) (acc : Array Value) (as : List Addr), n - i = k → i ≤ n → St i h → (∀ b o, b ≠ S → b ∉ wr → h0.get? b = some o → h.get? b = some o) → h0.objs.size ≤ h.objs.size →
      h.get? S = some { cls := .type "list", dict := none, data := .seq acc c, slots := #[] } → acc.toList = as.map Value.ref → as.length = i → Took row S wr h as →
      codeAny (model prog w) A (.builtin "list.extend.loop" ⟨[.ref S, .ref z, res], []⟩) R { s with heap := h, toks := tk } := by
  intro k
  induction k with
  | zero =>
    intro i h tk c acc as hk hi hst hkeep hsz0 hS hacc hal hG
    have hin : i = n := by omega
    subst hin
    refine codeAny_builtin PySem.F.entry_extend_loop ?_
    rw [Around.under_plainId PySem.F.plain_extend_loop _]
    show wpAny _ A.in1 (pyNext (.ref z) >>= _) _ _ _
    refine wpAny_bind (W.done { s with heap := h, toks := tk } _ _ hst fun h' tk' he => ?_)
    exact wpAny_pure (hR h' tk' acc c as (fun b o h1 h2 e => he b o h2 (hkeep b o h1 h2 e)) (he S _ hSw hS) hal ⟨hG.above, fun j a hj => he a _ (hG.above a (List.mem_of_getElem? hj)).2 (hG.rows j a hj)⟩ hacc)
  | succ k ih =>
    intro i h tk c acc as hk hi hst hkeep hsz0 hS hacc hal hG
    have hSl : S < h.objs.size := Heap.lt_size hS
    have hsz : acc.size = i := by rw [← Array.length_toList, hacc, List.length_map, hal]
    refine codeAny_builtin PySem.F.entry_extend_loop ?_
    rw [Around.under_plainId PySem.F.plain_extend_loop _]
    show wpAny _ A.in1 (pyNext (.ref z) >>= _) _ _ _
    refine wpAny_bind (W.item i { s with heap := h, toks := tk } _ _ (by omega) hst hSl fun h' tk' hst' ht hz hkp => ?_)
    dsimp only at ht hz hkp ⊢
    have hS' := hkp S _ hSw hS
    have up : ∀ b o, b ≠ S → h'.get? b = some o → (h'.update S (Obj.mapSeq (·.push (Value.ref h.objs.size)))).get? b = some o := fun b o hb e => (Heap.get?_update_other _ _ (Ne.symm hb)).trans e
    show wpAny _ A.in1 (updateSeq S (·.push (Value.ref h.objs.size)) >>= _) _ _ _
    refine wpAny_bind ?_
    refine wpAny_updateSeq hS' rfl (wpAny_pure ⟨plainId_quiet PySem.F.plain_extend_loop _, ih (i + 1) _ tk' _ (acc.push (Value.ref h.objs.size)) (as ++ [h.objs.size]) (by omega) (by omega) (W.frame _ _ _ hst' up)
      (fun b o h1 h2 e => up b o h1 (hkp b o h2 (hkeep b o h1 h2 e))) ?_ (Heap.get?_update_self _ hS' rfl) (by rw [Array.toList_push, hacc, List.map_append]; rfl) (by rw [List.length_append, hal]; rfl) ⟨?_, ?_⟩⟩) (by rw [hsz]; omega) (by show (acc.push (Value.ref h.objs.size)).size ≤ sizeLine + 1; rw [Array.size_push, hsz]; omega)
    · have e := Heap.lt_size (up _ _ (Nat.ne_of_gt hSl) ht)
      exact Nat.le_trans hsz0 (Nat.le_of_lt e)
    · intro a ha
      rcases List.mem_append.mp ha with ha | ha
      · exact hG.above a ha
      · rw [List.mem_singleton.mp ha]
        exact ⟨hSl, fun q => absurd (hwr h.objs.size q) (Nat.not_lt.mpr hsz0)⟩
    · intro j b hj
      by_cases h1 : j < as.length
      · rw [List.getElem?_append_left h1] at hj
        have hb := hG.above b (List.mem_of_getElem? hj)
        exact up b _ (Nat.ne_of_gt hb.1) (hkp b _ hb.2 (hG.rows j b hj))
      · by_cases h2 : j = as.length
        · subst h2
          have hb : h.objs.size = b := by simpa using hj
          subst hb
          rw [hal]
          exact up _ _ (Nat.ne_of_gt hSl) ht
        · rw [List.getElem?_eq_none (by rw [List.length_append, List.length_singleton]; omega)] at hj
          cases hj
theorem zip_no_len : typeLookup (.type "zip") "__len__" = pure none := by rw [typeLookup_type, builtinLookup_eq_fast]; kernel_rfl
theorem zip_no_hint : typeLookup (.type "zip") "__length_hint__" = pure none := by rw [typeLookup_type, builtinLookup_eq_fast]; kernel_rfl
theorem src_extend {prog : Program} {w : World} {A : Around} {s : Shared} {R : Result → Shared → Prop} {z S : Addr} {n : Nat} {row : Nat → List Value} {wr : List Addr} {St : Nat → Heap → Prop} (W : TSrc prog w A.in1 z S n row wr St) (hSw : S ∉ wr) (hn : n ≤ sizeLine) (res : Value) (hwr : ∀ b ∈ wr, b < s.heap.objs.size)
    (hz : s.TypeIs (.ref z) "zip") (hne : S ≠ z) (self : ∀ (Q : Value → Shared → Prop) (E : Value → Shared → Prop), Q (.ref z) s → wpAny (model prog w) A.in1 (pyIter (.ref z)) Q E s) (st : St 0 s.heap) (c0 : Nat) (hS : s.heap.get? S = some { cls := .type "list", data := .seq #[] c0 })
    (hR : ∀ h' tk acc c as, (∀ b o, b ≠ S → b ∉ wr → s.heap.get? b = some o → h'.get? b = some o) → h'.get? S = some { cls := .type "list", dict := none, data := .seq acc c, slots := #[] } → as.length = n → Took row S wr h' as → acc.toList = as.map Value.ref → R (.ok (.ret res)) { s with heap := h', toks := tk }) :
    wpAny (model prog w) A.in1 (Builtin.List.listExtendWith (.ref S) (.ref z) res)
      (fun fin s' => match fin with | .done f => R (.ok f) s' | .again c' => c'.quiet = true ∧ codeAny (model prog w) A c' R s') (fun e s' => R (.error e) s') s := by
  unfold Builtin.List.listExtendWith
  refine wpAny_bind (wpAny_typeOf hz ?_)
  have h1 : Builtin.List.listSameRef (.ref S) (.ref z) = false := by simp [Builtin.List.listSameRef, hne]
  have h2 : (Value.type "zip" == Value.type "list") = false := by decide
  have h3 : (Value.type "zip" == Value.type "tuple") = false := by decide
  simp only [h1, h2, h3, Bool.or_false, Bool.false_eq_true, if_false]
  refine wpAny_bind (self _ _ ?_)
  refine wpAny_bind (wpAny_holding ?_)
  unfold Builtin.List.listLengthHint
  refine wpAny_bind (wpAny_specialOf hz zip_no_len ?_)
  show wpAny _ A.in1 (specialOf (Value.ref z) (Str.ofString "__length_hint__") >>= _) _ _ _
  refine wpAny_bind (wpAny_specialOf hz zip_no_hint ?_)
  refine wpAny_pure ?_
  show wpAny _ A.in1 (rule "list.extend.makes-room" >>= fun _ => Builtin.List.listTouch (.ref S) >>= fun _ => again (.builtin "list.extend.loop" ⟨[.ref S, .ref z, res], []⟩)) _ _ _
  refine wpAny_bind (wpAny_rule ?_)
  refine wpAny_bind ?_
  show wpAny _ A.in1 (updateSeq S (·.push .none) >>= fun _ => updateSeq S (·.pop)) _ _ _
  refine wpAny_bind (wpAny_updateSeq hS rfl ?_)
  have hS2 := Heap.get?_update_self (Obj.mapSeq (·.push Value.none)) hS rfl
  refine wpAny_updateSeq (hz := by seq_fits) hS2 rfl ?_
  have hS3 := Heap.get?_update_self (Obj.mapSeq (·.pop)) hS2 rfl
  have oth : ∀ b o, b ≠ S → s.heap.get? b = some o → ((s.heap.update S (Obj.mapSeq (·.push Value.none))).update S (Obj.mapSeq (·.pop))).get? b = some o :=
    fun b o hb e => (Heap.get?_update_other _ _ (Ne.symm hb)).trans ((Heap.get?_update_other _ _ (Ne.symm hb)).trans e)
  refine wpAny_pure ⟨plainId_quiet PySem.F.plain_extend_loop _, src_loop (s := s) W hSw hn res hwr hR n 0 _ s.toks _ #[] [] (Nat.sub_zero _) (Nat.zero_le _) (W.frame _ _ _ st oth) (fun b o hb _ e => oth b o hb e) ?_ hS3 rfl rfl ⟨fun a h => (by cases h), fun j a h => (by simp at h)⟩⟩
  simp
theorem src_init {prog : Program} {w : World} {A : Around} {s : Shared} {R : Result → Shared → Prop} {z S : Addr} {n : Nat} {row : Nat → List Value} {wr : List Addr} {St : Nat → Heap → Prop} (W : TSrc prog w A.in1 z S n row wr St) (hSw : S ∉ wr) (hn : n ≤ sizeLine) (hwr : ∀ b ∈ wr, b < s.heap.objs.size)
    (hz : s.TypeIs (.ref z) "zip") (hne : S ≠ z) (self : ∀ (s : Shared) (Q : Value → Shared → Prop) (E : Value → Shared → Prop), St 0 s.heap → Q (.ref z) s → wpAny (model prog w) A.in1 (pyIter (.ref z)) Q E s) (st : St 0 s.heap) (hS : s.heap.get? S = some { cls := .type "list", data := .seq #[] })
    (hR : ∀ h' tk acc c as, (∀ b o, b ≠ S → b ∉ wr → s.heap.get? b = some o → h'.get? b = some o) → h'.get? S = some { cls := .type "list", dict := none, data := .seq acc c, slots := #[] } → as.length = n → Took row S wr h' as → acc.toList = as.map Value.ref → R (.ok (.ret .none)) { s with heap := h', toks := tk }) :
    wpAny (model prog w) A.in1 (Builtin.«list.__init__» ⟨[.ref S, .ref z], []⟩)
      (fun fin s' => match fin with | .done f => R (.ok f) s' | .again c' => c'.quiet = true ∧ codeAny (model prog w) A c' R s') (fun e s' => R (.error e) s') s := by
  show wpAny _ A.in1 (do let old ← Builtin.List.listItems (.ref S); Builtin.List.listUpdate (.ref S) (fun _ => #[]); letGo old.toList.reverse; Builtin.List.listExtendWith (.ref S) (.ref z) .none) _ _ s
  refine wpAny_bind ?_
  unfold Builtin.List.listItems
  refine wpAny_bind (wpAny_seqItems hS rfl (wpAny_pure ?_))
  show wpAny _ A.in1 (updateSeq S (fun _ => #[]) >>= fun _ => letGo (#[] : Array Value).toList.reverse >>= fun _ => Builtin.List.listExtendWith (.ref S) (.ref z) .none) _ _ s
  refine wpAny_bind (wpAny_updateSeq hS rfl ?_)
  have hS2 := Heap.get?_update_self (Obj.mapSeq (fun _ => (#[] : Array Value))) hS rfl
  have oth : ∀ b o, b ≠ S → s.heap.get? b = some o → (s.heap.update S (Obj.mapSeq (fun _ => (#[] : Array Value)))).get? b = some o :=
    fun b o hb e => (Heap.get?_update_other _ _ (Ne.symm hb)).trans e
  have hst := W.frame _ _ _ st oth
  refine wpAny_bind (wpAny_letGo ?_)
  obtain ⟨oz, hoz, hcz⟩ := hz
  refine src_extend (s := { s with heap := s.heap.update S (Obj.mapSeq (fun _ => (#[] : Array Value))) }) W hSw hn .none (fun b hb => by simpa using hwr b hb) ⟨oz, oth z oz (Ne.symm hne) hoz, hcz⟩ hne (fun Q E q => self _ Q E hst q) hst _ hS2 fun h' tk acc c as hk hS' hl hG hacc => ?_
  exact hR h' tk acc c as (fun b o hb hb2 e => hk b o hb hb2 (oth b o hb e)) hS' hl hG hacc
theorem src_call {prog : Program} {w : World} {A : Around} {E : Value → Shared → Prop} {s : Shared} {Q : Value → Shared → Prop} {z : Addr} {n : Nat} {row : Nat → List Value} {wr : List Addr} {St : Nat → Heap → Prop} (W : TSrc prog w A.in1.in1 z s.heap.objs.size n row wr St) (hn : n ≤ sizeLine) (hwr : ∀ b ∈ wr, b < s.heap.objs.size)
    (hz : s.TypeIs (.ref z) "zip") (self : ∀ (s : Shared) (Q : Value → Shared → Prop) (E : Value → Shared → Prop), St 0 s.heap → Q (.ref z) s → wpAny (model prog w) A.in1.in1 (pyIter (.ref z)) Q E s) (st : St 0 s.heap)
    (hQ : ∀ h' tk acc c as, (∀ b o, b ∉ wr → s.heap.get? b = some o → h'.get? b = some o) → h'.get? s.heap.objs.size = some { cls := .type "list", dict := none, data := .seq acc c, slots := #[] } → as.length = n → Took row s.heap.objs.size wr h' as → acc.toList = as.map Value.ref → Q (.ref s.heap.objs.size) { s with heap := h', toks := tk }) :
    wpAny (model prog w) A (call (.type "list") [.ref z]) Q E s := by
  refine callType_codes (Q₁ := fun obj s₁ => obj = .ref s.heap.objs.size ∧ s₁ = { s with heap := s.heap.push { cls := .type "list", data := .seq #[] } }) PySem.F.called_list (PySem.F.typeCall_list_1 _) PySem.F.entry_list_init
    (code_list_new _ ⟨rfl, rfl⟩) fun obj s₁ h₁ => ?_
  obtain ⟨rfl, rfl⟩ := h₁
  have hS : (s.heap.push { cls := .type "list", data := .seq #[] }).get? s.heap.objs.size = some { cls := .type "list", data := .seq #[] } := Heap.get?_push_size _ rfl
  obtain ⟨oz, hoz, hcz⟩ := hz
  have hSw : s.heap.objs.size ∉ wr := fun q => Nat.lt_irrefl _ (hwr _ q)
  refine ⟨⟨_, hS, rfl⟩, PySem.F.args_list_init_2 _ _, src_init (A := A.in1) (s := { s with heap := s.heap.push { cls := .type "list", data := .seq #[] } }) W hSw hn (fun b hb => Nat.lt_of_lt_of_le (hwr b hb) (by rw [Heap.size_push]; exact Nat.le_succ _)) ⟨oz, Heap.get?_push_of_some _ hoz, hcz⟩ (Nat.ne_of_gt (Heap.lt_size hoz)) self
    (W.frame _ _ _ st fun b o _ e => Heap.get?_push_of_some _ e) hS fun h' tk acc c as hk hS' hl hG hacc => ?_⟩
  exact ⟨rfl, hQ h' tk acc c as (fun b o hb e => hk b o (Nat.ne_of_lt (Heap.lt_size e)) hb (Heap.get?_push_of_some _ e)) hS' hl hG hacc⟩
/-- how far a zip is: at its start, or its first tuple out -/
def ZipAt (z TI TO S : Addr) (its : List Addr) (i : Nat) (h : Heap) : Prop :=
  (i = 0 ∧ IsZip h z TI TO .none) ∨ ∃ (T : Addr) (f : Bool) (oT : Obj), PySem.IsZipHeld h z TI TO T f ∧ h.get? T = some oT ∧ T ≠ S ∧ T ≠ z ∧ T ≠ TO ∧ T ∉ its
theorem ZipAt.frame {z TI TO S : Addr} {its : List Addr} {i : Nat} {h h' : Heap} (q : ZipAt z TI TO S its i h) (n : z ≠ S) (k : ∀ b o, b ≠ S → h.get? b = some o → h'.get? b = some o) : ZipAt z TI TO S its i h' := by
  rcases q with ⟨e, q⟩ | ⟨T, f, oT, q, hT, nS, r⟩
  · exact .inl ⟨e, k _ _ n q⟩
  · exact .inr ⟨T, f, oT, k _ _ n q, k _ _ nS hT, nS, r⟩
theorem tsrc2 {prog : Program} {w : World} {A : Around} {z TI TO i1 i2 S : Addr} {fp1 fp2 : List Addr} {xs ys : List Value} {St1 St2 : Nat → Heap → Prop} (Z : ZipSep2 z TI TO i1 i2 fp1 fp2)
    (D1 : Draws prog w A.in1 i1 fp1 xs.length (fun i v => xs[i]? = some v) St1) (D2 : Draws prog w A.in1 i2 fp2 ys.length (fun i v => ys[i]? = some v) St2) (nz : z ≠ S) (nI : TI ≠ S) (nO : TO ≠ S) (f1 : S ∉ fp1) (f2 : S ∉ fp2) :
    TSrc prog w A z S (min xs.length ys.length) (fun i => [xs.getD i .none, ys.getD i .none]) [z, TO, i1, i2]
      (fun i h => ZipAt z TI TO S [i1, i2] i h ∧ IsTupOf2 h TI (.ref i1) (.ref i2) ∧ (∃ x y, IsTupOf2 h TO x y) ∧ St1 i h ∧ St2 i h) where
  frame := fun i h h' ⟨q1, q2, ⟨x, y, q3⟩, q4, q5⟩ k => ⟨q1.frame nz k, k _ _ nI q2, ⟨x, y, k _ _ nO q3⟩, D1.frame _ _ _ q4 fun b hb o e => k b o (fun e => f1 (e ▸ hb)) e, D2.frame _ _ _ q5 fun b hb o e => k b o (fun e => f2 (e ▸ hb)) e⟩
  item := by
    rintro i s Q E hi ⟨q1, q2, ⟨x, y, q3⟩, q4, q5⟩ hS hQ
    have lt : ∀ {a : Addr} {o : Obj}, s.heap.get? a = some o → a ≠ s.heap.objs.size := fun e => Nat.ne_of_lt (Heap.lt_size e)
    obtain ⟨o1, e1⟩ := D1.live _ _ q4
    obtain ⟨o2, e2⟩ := D2.live _ _ q5
    have rows : ∀ x1 x2, xs[i]? = some x1 → ys[i]? = some x2 → [x1, x2] = [xs.getD i .none, ys.getD i .none] := fun x1 x2 h1 h2 => by
      simp [List.getD_eq_getElem?_getD, h1, h2]
    rcases q1 with ⟨rfl, qz⟩ | ⟨T, f, oT, qz, hT, nS, nz2, nO2, nit⟩
    · refine wpAny_pyNext_zipD2_item Z D1 D2 qz q2 q3 q4 q5 (by omega) (by omega) fun x1 x2 h' tk p1 p2 z' TO' s1 s2 t' hsz hk => ?_
      refine hQ h' tk ⟨.inr ⟨_, false, _, z', t', Nat.ne_of_gt hS, (lt qz).symm, (lt q3).symm, ?_⟩, hk _ _ Z.TIz Z.TITO Z.TIi1 Z.TIi2 q2, ⟨x1, x2, TO'⟩, s1, s2⟩ (by rw [← rows x1 x2 p1 p2]; exact t') hsz fun c o hc e => ?_
      · intro hm
        simp at hm
        rcases hm with e | e
        · exact lt e1 e.symm
        · exact lt e2 e.symm
      · simp at hc
        exact hk c o hc.1 hc.2.1 hc.2.2.1 hc.2.2.2 e
    · have hTy : s.TypeIs (.ref z) "zip" := ⟨_, qz, rfl⟩
      unfold pyNext
      refine wpAny_bind (wpAny_attempt (wpAny_callSpecial?_slot (name := Str.ofString "__next__") hTy PySem.F.slot_zip_next (wpAny_call_entry PySem.F.slot_zip_next hTy PySem.F.entry_zip_next
        (held2_item Z D1 D2 qz hT q2 q4 q5 (by omega) (by omega) fun x1 x2 h' tk p1 p2 z' s1 s2 t' hsz hk => wpAny_pure ?_) (PySem.F.args_zip_next_1 _))))
      simp at nit
      refine hQ h' tk ⟨.inr ⟨T, true, oT, z', hk _ _ nz2 nit.1 nit.2 hT, nS, nz2, nO2, by simpa using nit⟩, hk _ _ Z.TIz Z.TIi1 Z.TIi2 q2, ⟨x, y, hk _ _ Z.TOz Z.Ti1 Z.Ti2 q3⟩, s1, s2⟩ (by rw [← rows x1 x2 p1 p2]; exact t') hsz fun c o hc e => ?_
      simp at hc
      exact hk c o hc.1 hc.2.2.1 hc.2.2.2 e
  done := by
    rintro s Q E ⟨q1, q2, ⟨x, y, q3⟩, q4, q5⟩ hQ
    rcases q1 with ⟨e, qz⟩ | ⟨T, f, oT, qz, hT, nS, nz2, nO2, nit⟩
    · refine wpAny_pyNext_zipD2_end Z D1 D2 qz q2 q3 q4 q5 (by omega) (by omega) (by omega) fun h' tk hk => hQ h' tk fun c o hc e => ?_
      simp at hc
      exact hk c o hc.1 hc.2.1 hc.2.2.1 hc.2.2.2 e
    · have hTy : s.TypeIs (.ref z) "zip" := ⟨_, qz, rfl⟩
      unfold pyNext
      refine wpAny_bind (wpAny_attempt (wpAny_callSpecial?_slot (name := Str.ofString "__next__") hTy PySem.F.slot_zip_next (wpAny_call_entry PySem.F.slot_zip_next hTy PySem.F.entry_zip_next
        (held2_end Z D1 D2 qz hT q2 q4 q5 (by omega) (by omega) (by omega) fun h' tk e hk he => ?_) (PySem.F.args_zip_next_1 _))))
      obtain ⟨o, ho, hc⟩ := he
      refine wpAny_bind (wpAny_isInstance (T := "StopIteration") (b := true) ⟨o, ho, hc⟩ isSubtype_stop ?_)
      refine wpAny_pure (hQ h' tk fun c o hc e => ?_)
      simp at hc
      exact hk c o hc.1 hc.2.2.1 hc.2.2.2 e
theorem tsrc3 {prog : Program} {w : World} {A : Around} {z TI TO i1 i2 i3 S : Addr} {fp1 fp2 fp3 : List Addr} {xs ys zs : List Value} {St1 St2 St3 : Nat → Heap → Prop} (Z : ZipSep3 z TI TO i1 i2 i3 fp1 fp2 fp3)
    (D1 : Draws prog w A.in1 i1 fp1 xs.length (fun i v => xs[i]? = some v) St1) (D2 : Draws prog w A.in1 i2 fp2 ys.length (fun i v => ys[i]? = some v) St2) (D3 : Draws prog w A.in1 i3 fp3 zs.length (fun i v => zs[i]? = some v) St3) (nz : z ≠ S) (nI : TI ≠ S) (nO : TO ≠ S) (f1 : S ∉ fp1) (f2 : S ∉ fp2) (f3 : S ∉ fp3) :
    TSrc prog w A z S (min xs.length (min ys.length zs.length)) (fun i => [xs.getD i .none, ys.getD i .none, zs.getD i .none]) [z, TO, i1, i2, i3]
      (fun i h => ZipAt z TI TO S [i1, i2, i3] i h ∧ IsTupOf3 h TI (.ref i1) (.ref i2) (.ref i3) ∧ (∃ x y u, IsTupOf3 h TO x y u) ∧ St1 i h ∧ St2 i h ∧ St3 i h) where
  frame := fun i h h' ⟨q1, q2, ⟨x, y, u, q3⟩, q4, q5, q6⟩ k => ⟨q1.frame nz k, k _ _ nI q2, ⟨x, y, u, k _ _ nO q3⟩, D1.frame _ _ _ q4 fun b hb o e => k b o (fun e => f1 (e ▸ hb)) e, D2.frame _ _ _ q5 fun b hb o e => k b o (fun e => f2 (e ▸ hb)) e, D3.frame _ _ _ q6 fun b hb o e => k b o (fun e => f3 (e ▸ hb)) e⟩
  item := by
    rintro i s Q E hi ⟨q1, q2, ⟨x, y, u, q3⟩, q4, q5, q6⟩ hS hQ
    have lt : ∀ {a : Addr} {o : Obj}, s.heap.get? a = some o → a ≠ s.heap.objs.size := fun e => Nat.ne_of_lt (Heap.lt_size e)
    obtain ⟨o1, e1⟩ := D1.live _ _ q4
    obtain ⟨o2, e2⟩ := D2.live _ _ q5
    obtain ⟨o3, e3⟩ := D3.live _ _ q6
    have rows : ∀ x1 x2 x3, xs[i]? = some x1 → ys[i]? = some x2 → zs[i]? = some x3 → [x1, x2, x3] = [xs.getD i .none, ys.getD i .none, zs.getD i .none] := fun x1 x2 x3 h1 h2 h3 => by
      simp [List.getD_eq_getElem?_getD, h1, h2, h3]
    rcases q1 with ⟨rfl, qz⟩ | ⟨T, f, oT, qz, hT, nS, nz2, nO2, nit⟩
    · refine wpAny_pyNext_zipD3_item Z D1 D2 D3 qz q2 q3 q4 q5 q6 (by omega) (by omega) (by omega) fun x1 x2 x3 h' tk p1 p2 p3 z' TO' s1 s2 s3 t' hsz hk => ?_
      refine hQ h' tk ⟨.inr ⟨_, false, _, z', t', Nat.ne_of_gt hS, (lt qz).symm, (lt q3).symm, ?_⟩, hk _ _ Z.TIz Z.TITO Z.TIi1 Z.TIi2 Z.TIi3 q2, ⟨x1, x2, x3, TO'⟩, s1, s2, s3⟩ (by rw [← rows x1 x2 x3 p1 p2 p3]; exact t') hsz fun c o hc e => ?_
      · intro hm
        simp at hm
        rcases hm with e | e | e
        · exact lt e1 e.symm
        · exact lt e2 e.symm
        · exact lt e3 e.symm
      · simp at hc
        exact hk c o hc.1 hc.2.1 hc.2.2.1 hc.2.2.2.1 hc.2.2.2.2 e
    · have hTy : s.TypeIs (.ref z) "zip" := ⟨_, qz, rfl⟩
      unfold pyNext
      refine wpAny_bind (wpAny_attempt (wpAny_callSpecial?_slot (name := Str.ofString "__next__") hTy PySem.F.slot_zip_next (wpAny_call_entry PySem.F.slot_zip_next hTy PySem.F.entry_zip_next
        (held3_item Z D1 D2 D3 qz hT q2 q4 q5 q6 (by omega) (by omega) (by omega) fun x1 x2 x3 h' tk p1 p2 p3 z' s1 s2 s3 t' hsz hk => wpAny_pure ?_) (PySem.F.args_zip_next_1 _))))
      simp at nit
      refine hQ h' tk ⟨.inr ⟨T, true, oT, z', hk _ _ nz2 nit.1 nit.2.1 nit.2.2 hT, nS, nz2, nO2, by simpa using nit⟩, hk _ _ Z.TIz Z.TIi1 Z.TIi2 Z.TIi3 q2, ⟨x, y, u, hk _ _ Z.TOz Z.Ti1 Z.Ti2 Z.Ti3 q3⟩, s1, s2, s3⟩ (by rw [← rows x1 x2 x3 p1 p2 p3]; exact t') hsz fun c o hc e => ?_
      simp at hc
      exact hk c o hc.1 hc.2.2.1 hc.2.2.2.1 hc.2.2.2.2 e
  done := by
    rintro s Q E ⟨q1, q2, ⟨x, y, u, q3⟩, q4, q5, q6⟩ hQ
    rcases q1 with ⟨e, qz⟩ | ⟨T, f, oT, qz, hT, nS, nz2, nO2, nit⟩
    · refine wpAny_pyNext_zipD3_end Z D1 D2 D3 qz q2 q3 q4 q5 q6 (by omega) (by omega) (by omega) (by omega) fun h' tk hk => hQ h' tk fun c o hc e => ?_
      simp at hc
      exact hk c o hc.1 hc.2.1 hc.2.2.1 hc.2.2.2.1 hc.2.2.2.2 e
    · have hTy : s.TypeIs (.ref z) "zip" := ⟨_, qz, rfl⟩
      unfold pyNext
      refine wpAny_bind (wpAny_attempt (wpAny_callSpecial?_slot (name := Str.ofString "__next__") hTy PySem.F.slot_zip_next (wpAny_call_entry PySem.F.slot_zip_next hTy PySem.F.entry_zip_next
        (held3_end Z D1 D2 D3 qz hT q2 q4 q5 q6 (by omega) (by omega) (by omega) (by omega) fun h' tk e hk he => ?_) (PySem.F.args_zip_next_1 _))))
      obtain ⟨o, ho, hc⟩ := he
      refine wpAny_bind (wpAny_isInstance (T := "StopIteration") (b := true) ⟨o, ho, hc⟩ isSubtype_stop ?_)
      refine wpAny_pure (hQ h' tk fun c o hc e => ?_)
      simp at hc
      exact hk c o hc.1 hc.2.2.1 hc.2.2.2.1 hc.2.2.2.2 e
/-- many things laid at once -/
theorem laidAll {X : Cx} {pins : List (Addr × Obj)} {σ : L2.St} {H H' : Hp} {s : Shared} {h' : Heap} {t' : Nat} (I : Inv X pins σ H s) (k : ∀ b u, s.heap.get? b = some u → h'.get? b = some u) (low : ∀ b, b < s.heap.objs.size → H' b = H b)
    (new : ∀ b u, s.heap.objs.size ≤ b → H' b = some u → ObjOk X.prog X.w H' h' b u) : Inv X pins σ H' { s with heap := h', toks := t' } := by
  have lt : ∀ b u, H b = some u → b < s.heap.objs.size := fun b u e => by
    refine Nat.lt_of_not_le fun z => ?_
    rw [I.hok.fresh z] at e; cases e
  have up : ∀ b u, H b = some u → H' b = some u := fun b u e => (low b (lt b u e)).trans e
  refine I.un ⟨fun b u q _ _ _ => k b u q, fun b u q _ _ _ => ⟨u.slots, k b u q⟩, fun b u q n _ => (low b (Heap.lt_size q)).trans n, fun b u q _ => ⟨u, k b u q⟩, fun b xs q => up b _ q, fun b u xs q => up b _ q, fun b ps q => ⟨#[], by rw [up b _ q]; simp⟩⟩ fun b u e => ?_
  by_cases hb : b < s.heap.objs.size
  · rw [low b hb] at e
    exact (I.hok b u e).stay (fun c v _ q => k c v q) (fun c q => up c _ q) fun c xs q => up c _ q
  · exact new b u (Nat.le_of_not_lt hb) e
end Ow
set_option maxHeartbeats 1000000
namespace Ow
open PySem PySem.Spec PyProof.Rows L2
variable [Tb] [Og]
/-- the heap behind: the list at S, its tuples at as -/
def tookH (H : Hp) (N : Nat) (S : Addr) (as : List Addr) (rowV : Nat → List V) : Hp := fun b =>
  if b < N then H b else if b = S then some (.lst (as.map V.ref)) else if b ∈ as then some (.tup (rowV (as.idxOf b))) else none
theorem took_inv {X : Cx} {pins : List (Addr × Obj)} {σ : L2.St} {H : Hp} {s : Shared} {h' : Heap} {t' : Nat} {S : Addr} {as : List Addr} {row : Nat → List Value} {rowV : Nat → List V} {wr : List Addr} {acc : Array Value} {c : Nat} {n : Nat} (I : Inv X pins σ H s)
    (k : ∀ b u, s.heap.get? b = some u → h'.get? b = some u) (hS : s.heap.objs.size ≤ S) (hl : h'.get? S = some { cls := .type "list", dict := none, data := .seq acc c, slots := #[] }) (ha : acc.toList = as.map Value.ref) (hn : as.length = n) (hz : n ≤ sizeLine)
    (T : Took row S wr h' as) (rv : ∀ j, j < n → Vals (rowV j) (row j) ∧ (rowV j).length ≤ sizeLine) : Inv X pins σ (tookH H s.heap.objs.size S as rowV) { s with heap := h', toks := t' } := by
  have ok : ∀ b, b ∈ as → ∃ j, j < n ∧ as.idxOf b = j ∧ as[j]? = some b := fun b hb => by
    have h1 := List.idxOf_lt_length_of_mem hb
    exact ⟨_, by omega, rfl, by rw [List.getElem?_eq_getElem h1, List.getElem_idxOf h1]⟩
  refine laidAll I k (fun b hb => if_pos hb) fun b u hb e => ?_
  unfold tookH at e
  rw [if_neg (Nat.not_lt.mpr hb)] at e
  by_cases h1 : b = S
  · rw [if_pos h1] at e
    cases e
    subst h1
    refine ⟨by rw [List.length_map]; omega, acc.toList, c, ?_, by simpa using hl⟩
    rw [ha]
    clear ha hl T ok rv hn
    induction as with
    | nil => exact .nil
    | cons a r ih => exact .cons rfl ih
  · rw [if_neg h1] at e
    by_cases h2 : b ∈ as
    · rw [if_pos h2] at e
      cases e
      obtain ⟨j, hj, e1, e2⟩ := ok b h2
      rw [e1]
      exact ⟨(rv j hj).2, row j, (rv j hj).1, ⟨_, T.rows j b e2, rfl, _, rfl⟩⟩
    · rw [if_neg h2] at e; cases e
end Ow
set_option maxHeartbeats 1000000
namespace Ow
open PySem PySem.Spec PyProof.Rows L2
variable [Tb] [Og]
theorem relV_inj {v v' : V} {u : Value} (h : RelV v u) (h' : RelV v' u) : v = v' := by
  cases v <;> cases v' <;> simp only [L2.RelV] at h h' <;> (try (obtain ⟨t, rfl⟩ := h)) <;> (try subst h) <;> simp_all
theorem vals_inj : ∀ {xs ys : List V} {us : List Value}, Vals xs us → Vals ys us → xs = ys
  | _, _, _, .nil, .nil => rfl
  | _, _, _, .cons r h, .cons r' h' => by rw [relV_inj r r', vals_inj h h']
/-- what the iterator draws, at any depth -/
theorem drawsA {X : Cx} {pins : List (Addr × Obj)} {σ : L2.St} {H : Hp} {s : Shared} {prog : Program} {w : World} {A : Around} {k : Bool} {a it : Addr} {xs : List V} (I : Inv X pins σ H s) (hh : A.handled = none) (h : SqK k X.K H a xs) (hne : a ≠ it) :
    ∃ (its : List Value) (St : Nat → Heap → Prop), Vals xs its ∧ Draws prog w A it [it, a] its.length (fun i v => its[i]? = some v) St ∧ (IterK k s.heap it a 0 → St 0 s.heap) := by
  cases k with
  | true =>
    obtain ⟨its, rv, p, _⟩ := I.tuple h
    have D := Draws.tuple (prog := prog) (w := w) (A := A) hh it a hne its.toArray
    exact ⟨its, fun i h => h.IsTupleIter it a i ∧ h.IsTuple a its.toArray, rv, by simpa using D, fun q => ⟨q, p⟩⟩
  | false =>
    obtain ⟨its, rv, p, _⟩ := I.list h
    have D := Draws.list (prog := prog) (w := w) (A := A) hh it a hne its.toArray
    exact ⟨its, fun i h => h.IsListIter it a i ∧ h.IsList a its.toArray, rv, by simpa using D, fun q => ⟨q, p.isList⟩⟩
theorem Ext.low {W : Wd} {M : Mp} {H H' : Hp} (h : ∀ b, H b ≠ none → H' b = H b) : Ext W M H M H' := by
  refine ⟨fun a xs s => ?_, fun a xs n s _ => ?_, fun a o u s => ?_, fun a _ n _ _ => n⟩
  · rcases s with s | s
    · refine .inl ?_
      rcases s with s | ⟨o, s⟩
      · exact .inl (by rw [h a (by rw [s]; simp)]; exact s)
      · exact .inr ⟨o, by rw [h a (by rw [s]; simp)]; exact s⟩
    · exact .inr s
  · rw [h a (by rw [s]; simp)]; exact s
  · rw [h a (by rw [s]; simp)]; exact s
theorem Ext2.low {W : Wd} {M : Mp} {H H' : Hp} (h : ∀ b, H b ≠ none → H' b = H b) : Ext2 W M H M H' :=
  ⟨Ext.low h, fun b o s => by rw [h b (by rw [s]; simp)]; exact s, fun b o s => by rw [h b (by rw [s]; simp)]; exact s⟩
theorem AbsM.low {W : Wd} {M : Mp} {H H' : Hp} (A : AbsM W M H) (h : ∀ b, H b ≠ none → H' b = H b) : AbsM W M H' := ⟨fun a u q =>
  (A.ob a u q).ext (Ext2.low h) (h a (A.ob a u q).ne), A.tb.keep (fun b ps s => by rw [h b (by rw [s]; simp)]; exact s) (Ext2.low (W := W) (M := M) h).kn⟩
theorem reps_rows {W : Wd} {M : Mp} {H : Hp} : ∀ {l : List (List D)} {as : List Addr}, l.length = as.length → (∀ (j : Nat) (a : Addr) (ds : List D), as[j]? = some a → l[j]? = some ds → ∃ xs, H a = some (.tup xs) ∧ Reps W M H ds xs) → Reps W M H (l.map .tup) (as.map V.ref)
  | [], [], _, _ => rfl
  | [], _ :: _, h, _ => by cases h
  | _ :: _, [], h, _ => by cases h
  | ds :: l, a :: as, h, k => by
    obtain ⟨xs, h1, h2⟩ := k 0 a ds rfl rfl
    exact ⟨_, _, rfl, ⟨a, xs, rfl, SqT.of h1, h2⟩, reps_rows (by simpa using h) fun j b es e1 e2 => k (j + 1) b es (by simpa using e1) (by simpa using e2)⟩
theorem took_end {X : Cx} {pins : List (Addr × Obj)} {σ : L2.St} {H : Hp} {s : Shared} {h' : Heap} {t' : Nat} {S : Addr} {as : List Addr} {row : Nat → List Value} {rowV : Nat → List V} {wr : List Addr} {acc : Array Value} {c : Nat} {n : Nat} {M : Mp} {fz : Bool} {Q : QE} {l : List (List D)} (I : Inv X pins σ H s)
    (k : ∀ b u, s.heap.get? b = some u → h'.get? b = some u) (hS : s.heap.objs.size ≤ S) (hl : h'.get? S = some { cls := .type "list", dict := none, data := .seq acc c, slots := #[] }) (ha : acc.toList = as.map Value.ref) (hn : as.length = n) (hz : n ≤ sizeLine)
    (T : Took row S wr h' as) (rv : ∀ j, j < n → Vals (rowV j) (row j) ∧ (rowV j).length ≤ sizeLine) (A : AbsM (wd X) M H) (len : l.length = n) (hrow : ∀ j ds, l[j]? = some ds → Reps (wd X) M H ds (rowV j))
    (q : if fz = true then Q (.lst (l.map .tup)) M else ∀ p, M p = none → Q (.ref p) (M.upd p (.lst (l.map .tup)))) : EP X pins σ (lft (wd X) M H Q) (.ref S) { s with heap := h', toks := t' } := by
  have I' := took_inv (t' := t') I k hS hl ha hn hz T rv
  obtain ⟨H', hH'⟩ : ∃ H', H' = tookH H s.heap.objs.size S as rowV := ⟨_, rfl⟩
  rw [← hH'] at I'
  have lt : ∀ b, H b ≠ none → b < s.heap.objs.size := fun b e => by
    refine Nat.lt_of_not_le fun z => ?_
    exact e (I.hok.fresh z)
  have low : ∀ b, H b ≠ none → H' b = H b := fun b e => by rw [hH']; exact if_pos (lt b e)
  have eS : H' S = some (.lst (as.map V.ref)) := by
    rw [hH']; unfold tookH; rw [if_neg (Nat.not_lt.mpr hS), if_pos rfl]
  have x1 : Ext (wd X) M H M H' := Ext.low low
  have A1 : AbsM (wd X) M H' := A.low low
  have hSn : H S = none := I.hok.fresh hS
  have rr : ∀ M', Ext (wd X) M H M' H' → Reps (wd X) M' H' (l.map .tup) (as.map V.ref) := by
    intro M' x
    refine reps_rows (len.trans hn.symm) fun j a ds e1 e2 => ⟨rowV j, ?_, (hrow j ds e2).ext x⟩
    have hj : j < n := by
      rw [← hn]; exact (List.getElem?_eq_some_iff.mp e1).1
    have hm : a ∈ as := List.mem_of_getElem? e1
    obtain ⟨h1, _⟩ := T.above a hm
    rw [hH']; unfold tookH
    rw [if_neg (Nat.not_lt.mpr (Nat.le_trans hS (Nat.le_of_lt h1))), if_neg (Nat.ne_of_gt h1), if_pos hm]
    have hi := List.idxOf_lt_length_of_mem hm
    have ei : as[as.idxOf a]? = some a := by rw [List.getElem?_eq_getElem hi, List.getElem_idxOf hi]
    have r1 := T.rows _ _ e1
    have r2 := T.rows _ _ ei
    rw [r1] at r2
    have r3 : row j = row (as.idxOf a) := by
      have := Option.some.inj r2
      simpa using this
    have v1 := (rv j hj).1
    rw [r3] at v1
    rw [vals_inj (rv _ (by omega)).1 v1]
  cases fz with
  | true =>
    rw [if_pos rfl] at q
    exact ⟨.ref S, H', I', rfl, .lst (l.map .tup), M, x1, ⟨S, _, rfl, A.free hSn, eS, rr M x1⟩, A1, q⟩
  | false =>
    rw [if_neg Bool.false_ne_true] at q
    have x2 : Ext (wd X) M H (M.upd S (.lst (l.map .tup))) H' := ⟨x1.tup, x1.lst, x1.frz, fun a v n n2 _ => by
      rw [Mp.upd_ne]
      · exact n
      · intro e
        rw [e, hSn] at n2; cases n2⟩
    refine ⟨.ref S, H', I', rfl, .ref S, _, x2, rfl, ⟨fun a w qa => ?_, A1.tb⟩, q S (A.free hSn)⟩
    by_cases e : a = S
    · subst e
      rw [Mp.upd_same] at qa; cases qa
      exact ⟨_, eS, rr _ x2⟩
    · rw [Mp.upd_ne e] at qa
      exact (A.ob a w qa).ext ⟨x2, (Ext2.low (W := wd X) (M := M) low).kn, (Ext2.low (W := wd X) (M := M) low).xd⟩ (low a (A.ob a w qa).ne)
theorem wpAny_iter_ziplike {prog : Program} {w : World} {A : Around} {E : Value → Shared → Prop} {s : Shared} {z : Addr} {Q : Value → Shared → Prop} (hT : s.TypeIs (.ref z) "zip") (h : Q (.ref z) s) : wpAny (model prog w) A (pyIter (.ref z)) Q E s := by
  refine wpAny_pyIter_slot hT F.slot_zip_iter (wpAny_call_entry F.slot_zip_iter hT F.entry_zip_iter ?_ (F.args_zip_iter_1 _))
  show wpAny _ _ (ret (.ref z)) _ _ s
  exact wpAny_pure ⟨_, rfl, "zip", _, hT, F.slot_zip_next.lookup, h⟩
theorem ZipAt.ty {z TI TO S : Addr} {its : List Addr} {i : Nat} {s : Shared} (h : ZipAt z TI TO S its i s.heap) : s.TypeIs (.ref z) "zip" := by
  rcases h with ⟨_, h⟩ | ⟨T, f, oT, h, _⟩
  · exact ⟨_, h, rfl⟩
  · exact ⟨_, h, rfl⟩
theorem zmap2 (l1 l2 : List D) : ((l1.zip l2).map fun p => D.tup [p.1, p.2]) = ((l1.zip l2).map fun p => [p.1, p.2]).map .tup := by rw [List.map_map]; rfl
theorem zmap3 (l1 l2 l3 : List D) : ((l1.zip (l2.zip l3)).map fun p => D.tup [p.1, p.2.1, p.2.2]) = ((l1.zip (l2.zip l3)).map fun p => [p.1, p.2.1, p.2.2]).map .tup := by rw [List.map_map]; rfl
theorem getV {xs : List V} {its : List Value} {j : Nat} (h : Vals xs its) (hj : j < its.length) : L2.RelV (xs.getD j .non) (its.getD j .none) := by
  have hj' : j < xs.length := by rw [h.length]; exact hj
  obtain ⟨u, e1, e2⟩ := h.get (List.getElem?_eq_getElem hj')
  rw [List.getD_eq_getElem?_getD, List.getD_eq_getElem?_getD, e1, List.getElem?_eq_getElem hj']
  exact e2
theorem thenE {X : Cx} {pins : List (Addr × Obj)} {σ : L2.St} {M M1 : Mp} {H H1 : Hp} {Q : QE} {u : Value} {s : Shared} (x : Ext (wd X) M H M1 H1) (h : EP X pins σ (lft (wd X) M1 H1 Q) u s) : EP X pins σ (lft (wd X) M H Q) u s := by
  obtain ⟨v, H', I', rv', d, M', x', r', A', q'⟩ := h
  exact ⟨v, H', I', rv', d, M', x.trans x', r', A', q'⟩
theorem two_le : (2 : Nat) ≤ sizeLine := by decide
theorem three_le : (3 : Nat) ≤ sizeLine := by decide
theorem DE.lzip2 {X : Cx} {e e2 : Expr} {t : DTA} {p p0 pos pos0 : Pos} {fz : Bool} (hgl : Gl X "list") (hml : X.mg "list" = none) (hg : Gl X "zip") (hm : X.mg "zip" = none) (h : DA X [e, e2] t) (hs : notStar e = true) (hs2 : notStar e2 = true) (hh : X.A.handled = none) :
    DE X (.Call (.Name "list" p0) [.Call (.Name "zip" p) [e, e2] [] pos] [] pos0) (fun ρ M Q => t ρ M fun ds M1 => itD .zip2 ds M1 fun l _ M2 => l.length ≤ sizeLine ∧ if fz = true then Q (.lst l) M2 else ∀ p, M2 p = none → Q (.ref p) (M2.upd p (.lst l))) := by
  refine ⟨fun σ H ρ M Q S A z pins s I => ?_⟩
  refine wpAny_Call_Name_kw (ld_blt I hgl hml (by decide +kernel : bootBuiltins "list" = some (.type "list")) (PyProof.Rows.callWith_type1 (Calls.spliced_cons ?_) rfl rfl))
  refine Call_ (ld_blt I hg hm PyProof.Rows.boot_zip (PyProof.Rows.callWith_type1 (thn (h.to σ H ρ M _ S A z pos pins s I) fun us s1 ⟨vs, H1, I1, rv, ds, M1, x, r, A1, q⟩ => ?_) (star_cons hs) (star_none (by rw [List.all_cons, hs2]; rfl))))
  obtain ⟨d1, d2, l1, l2, rfl, e1, e2, q⟩ := itD_zip2 q
  obtain ⟨v1, v2, rfl, r1, r2⟩ := reps2 r
  obtain ⟨a, xs, rfl, sx, rx⟩ := seq_kind A1 r1 e1
  obtain ⟨b, ys, rfl, sy, ry⟩ := seq_kind A1 r2 e2
  obtain ⟨u1, u2, rfl, w1, w2⟩ := vals2 rv
  cases w1; cases w2
  obtain ⟨P1, B1, p1⟩ := kind_begins I1 sx
  obtain ⟨P2, B2, p2⟩ := kind_begins I1 sy
  have la := SqK.lt I1 sx
  have lb := SqK.lt I1 sy
  refine zip_begins2 B1 B2 p1 p2 fun h' hz hTI hTO h1 h2 hsz hk => ?_
  have I2 : Inv X pins σ H1 { s1 with heap := h' } := I1.kept (t' := s1.toks) hk
  have Z := zip_sep2 (fp1 := [a]) (fp2 := [b]) (by simpa using la) (by simpa using lb)
  obtain ⟨its1, St1, vx, D1, s10⟩ := drawsA (prog := X.prog) (w := X.w) (A := X.A.in1.in1.in1) I2 hh sx (Nat.ne_of_lt la)
  obtain ⟨its2, St2, vy, D2, s20⟩ := drawsA (prog := X.prog) (w := X.w) (A := X.A.in1.in1.in1) I2 hh sy (Nat.ne_of_lt (Nat.lt_succ_of_lt lb))
  have ne : ∀ c : Nat, c < s1.heap.objs.size + 5 → c ≠ h'.objs.size := fun c hc e => by rw [e, hsz] at hc; exact Nat.lt_irrefl _ hc
  have W := tsrc2 (S := h'.objs.size) Z D1 D2 (ne _ (by omega)) (ne _ (by omega)) (ne _ (by omega)) (fun hm => by
    simp at hm
    rcases hm with e | e
    · exact ne _ (by omega) e.symm
    · exact ne a (Nat.lt_of_lt_of_le la (Nat.le_add_right _ _)) e.symm) (fun hm => by
    simp at hm
    rcases hm with e | e
    · exact ne _ (by omega) e.symm
    · exact ne b (Nat.lt_of_lt_of_le lb (Nat.le_add_right _ _)) e.symm)
  refine Calls.spliced_nil ?_
  have xl := vx.length
  have yl := vy.length
  have ll1 := rx.length
  have ll2 := ry.length
  have lz : ((l1.zip l2).map fun p => D.tup [p.1, p.2]).length ≤ sizeLine := q.1
  have hn : min its1.length its2.length ≤ sizeLine := by rw [List.length_map, List.length_zip] at lz; omega
  refine src_call (s := { s1 with heap := h' }) W hn (fun c hc => ?_) ⟨_, hz, rfl⟩ (fun s Q E st h => wpAny_iter_ziplike st.1.ty h) ⟨.inl ⟨rfl, hz⟩, hTI, ⟨_, _, hTO⟩, s10 (IterK.new h1), s20 (IterK.new h2)⟩ fun h2' tk acc c as hk2 hl hal T hacc => ?_
  · simp at hc
    have key : ∀ m : Nat, m < s1.heap.objs.size + 5 → m < h'.objs.size := fun m hm => by rw [hsz]; exact hm
    show c < h'.objs.size
    rcases hc with rfl | rfl | rfl | rfl <;> exact key _ (by omega)
  · refine thenE x (took_end (s := s1) (t' := tk) (fz := fz) (Q := Q) (M := M1) (l := (l1.zip l2).map fun p => [p.1, p.2]) (rowV := fun j => [xs.getD j .non, ys.getD j .non]) I1 (fun b' u hb => ?_) (by show s1.heap.objs.size ≤ h'.objs.size; omega) hl hacc hal hn T
      (fun j hj => ⟨.cons (getV vx (by omega)) (.cons (getV vy (by omega)) .nil), two_le⟩) A1 (by simp; omega) (fun j ds hds => ?_) (by rw [← zmap2]; exact q.2))
    · have hlt : b' < s1.heap.objs.size := Heap.lt_size hb
      refine hk2 b' u (fun hc => ?_) (hk b' u hb)
      simp at hc
      rcases hc with rfl | rfl | rfl | rfl <;> first | exact Nat.not_lt.mpr (Nat.le_add_right _ _) hlt | exact Nat.lt_irrefl _ hlt
    · rw [List.getElem?_map] at hds
      cases qd : (l1.zip l2)[j]? with
      | none => rw [qd] at hds; cases hds
      | some pr =>
        rw [qd] at hds; cases hds
        obtain ⟨g1, g2⟩ := List.getElem?_zip_eq_some.mp qd
        obtain ⟨x1, f1, f2⟩ := rx.get g1
        obtain ⟨x2, f3, f4⟩ := ry.get g2
        refine ⟨_, _, by rw [List.getD_eq_getElem?_getD, List.getD_eq_getElem?_getD, f1, f3]; rfl, f2, _, _, rfl, f4, rfl⟩
theorem DE.lzip3 {X : Cx} {e e2 e3 : Expr} {t : DTA} {p p0 pos pos0 : Pos} {fz : Bool} (hgl : Gl X "list") (hml : X.mg "list" = none) (hg : Gl X "zip") (hm : X.mg "zip" = none) (h : DA X [e, e2, e3] t) (hs : notStar e = true) (hs2 : notStar e2 = true) (hs3 : notStar e3 = true) (hh : X.A.handled = none) :
    DE X (.Call (.Name "list" p0) [.Call (.Name "zip" p) [e, e2, e3] [] pos] [] pos0) (fun ρ M Q => t ρ M fun ds M1 => itD .zip3 ds M1 fun l _ M2 => l.length ≤ sizeLine ∧ if fz = true then Q (.lst l) M2 else ∀ p, M2 p = none → Q (.ref p) (M2.upd p (.lst l))) := by
  refine ⟨fun σ H ρ M Q S A z pins s I => ?_⟩
  refine wpAny_Call_Name_kw (ld_blt I hgl hml (by decide +kernel : bootBuiltins "list" = some (.type "list")) (PyProof.Rows.callWith_type1 (Calls.spliced_cons ?_) rfl rfl))
  refine Call_ (ld_blt I hg hm PyProof.Rows.boot_zip (PyProof.Rows.callWith_type1 (thn (h.to σ H ρ M _ S A z pos pins s I) fun us s1 ⟨vs, H1, I1, rv, ds, M1, x, r, A1, q⟩ => ?_) (star_cons hs) (star_none (by rw [List.all_cons, List.all_cons, hs2, hs3]; rfl))))
  obtain ⟨d1, d2, d3, l1, l2, l3, rfl, e1, e2, e3, q⟩ := itD_zip3 q
  obtain ⟨v1, v2, v3, rfl, r1, r2, r3⟩ := reps3 r
  obtain ⟨a, xs, rfl, sx, rx⟩ := seq_kind A1 r1 e1
  obtain ⟨b, ys, rfl, sy, ry⟩ := seq_kind A1 r2 e2
  obtain ⟨c3, zs, rfl, sz, rz⟩ := seq_kind A1 r3 e3
  cases rv with
  | cons w1 rv =>
  obtain ⟨u2, u3, rfl, w2, w3⟩ := vals2 rv
  cases w1; cases w2; cases w3
  obtain ⟨P1, B1, p1⟩ := kind_begins I1 sx
  obtain ⟨P2, B2, p2⟩ := kind_begins I1 sy
  obtain ⟨P3, B3, p3⟩ := kind_begins I1 sz
  have la := SqK.lt I1 sx
  have lb := SqK.lt I1 sy
  have lc := SqK.lt I1 sz
  refine zip_begins3 B1 B2 B3 p1 p2 p3 fun h' hz hTI hTO h1 h2 h3 hsz hk => ?_
  have I2 : Inv X pins σ H1 { s1 with heap := h' } := I1.kept (t' := s1.toks) hk
  have Z := zip_sep3 (fp1 := [a]) (fp2 := [b]) (fp3 := [c3]) (by simpa using la) (by simpa using lb) (by simpa using lc)
  obtain ⟨its1, St1, vx, D1, s10⟩ := drawsA (prog := X.prog) (w := X.w) (A := X.A.in1.in1.in1) I2 hh sx (Nat.ne_of_lt la)
  obtain ⟨its2, St2, vy, D2, s20⟩ := drawsA (prog := X.prog) (w := X.w) (A := X.A.in1.in1.in1) I2 hh sy (Nat.ne_of_lt (Nat.lt_succ_of_lt lb))
  obtain ⟨its3, St3, vz, D3, s30⟩ := drawsA (prog := X.prog) (w := X.w) (A := X.A.in1.in1.in1) I2 hh sz (Nat.ne_of_lt (Nat.lt_succ_of_lt (Nat.lt_succ_of_lt lc)))
  have ne : ∀ c : Nat, c < s1.heap.objs.size + 6 → c ≠ h'.objs.size := fun c hc e => by rw [e, hsz] at hc; exact Nat.lt_irrefl _ hc
  have W := tsrc3 (S := h'.objs.size) Z D1 D2 D3 (ne _ (by omega)) (ne _ (by omega)) (ne _ (by omega)) (fun hm => by
    simp at hm
    rcases hm with e | e
    · exact ne _ (by omega) e.symm
    · exact ne a (Nat.lt_of_lt_of_le la (Nat.le_add_right _ _)) e.symm) (fun hm => by
    simp at hm
    rcases hm with e | e
    · exact ne _ (by omega) e.symm
    · exact ne b (Nat.lt_of_lt_of_le lb (Nat.le_add_right _ _)) e.symm) (fun hm => by
    simp at hm
    rcases hm with e | e
    · exact ne _ (by omega) e.symm
    · exact ne c3 (Nat.lt_of_lt_of_le lc (Nat.le_add_right _ _)) e.symm)
  refine Calls.spliced_nil ?_
  have xl := vx.length
  have yl := vy.length
  have zl := vz.length
  have ll1 := rx.length
  have ll2 := ry.length
  have ll3 := rz.length
  have lz : ((l1.zip (l2.zip l3)).map fun p => D.tup [p.1, p.2.1, p.2.2]).length ≤ sizeLine := q.1
  have hn : min its1.length (min its2.length its3.length) ≤ sizeLine := by rw [List.length_map, List.length_zip, List.length_zip] at lz; omega
  refine src_call (s := { s1 with heap := h' }) W hn (fun c hc => ?_) ⟨_, hz, rfl⟩ (fun s Q E st h => wpAny_iter_ziplike st.1.ty h) ⟨.inl ⟨rfl, hz⟩, hTI, ⟨_, _, _, hTO⟩, s10 (IterK.new h1), s20 (IterK.new h2), s30 (IterK.new h3)⟩ fun h2' tk acc c as hk2 hl hal T hacc => ?_
  · simp at hc
    have key : ∀ m : Nat, m < s1.heap.objs.size + 6 → m < h'.objs.size := fun m hm => by rw [hsz]; exact hm
    show c < h'.objs.size
    rcases hc with rfl | rfl | rfl | rfl | rfl <;> exact key _ (by omega)
  · refine thenE x (took_end (s := s1) (t' := tk) (fz := fz) (Q := Q) (M := M1) (l := (l1.zip (l2.zip l3)).map fun p => [p.1, p.2.1, p.2.2]) (rowV := fun j => [xs.getD j .non, ys.getD j .non, zs.getD j .non]) I1 (fun b' u hb => ?_) (by show s1.heap.objs.size ≤ h'.objs.size; omega) hl hacc hal hn T
      (fun j hj => ⟨.cons (getV vx (by omega)) (.cons (getV vy (by omega)) (.cons (getV vz (by omega)) .nil)), three_le⟩) A1 (by simp; omega) (fun j ds hds => ?_) (by rw [← zmap3]; exact q.2))
    · have hlt : b' < s1.heap.objs.size := Heap.lt_size hb
      refine hk2 b' u (fun hc => ?_) (hk b' u hb)
      simp at hc
      rcases hc with rfl | rfl | rfl | rfl | rfl <;> first | exact Nat.not_lt.mpr (Nat.le_add_right _ _) hlt | exact Nat.lt_irrefl _ hlt
    · rw [List.getElem?_map] at hds
      cases qd : (l1.zip (l2.zip l3))[j]? with
      | none => rw [qd] at hds; cases hds
      | some pr =>
        rw [qd] at hds; cases hds
        obtain ⟨g1, g23⟩ := List.getElem?_zip_eq_some.mp qd
        obtain ⟨g2, g3⟩ := List.getElem?_zip_eq_some.mp g23
        obtain ⟨x1, f1, f2⟩ := rx.get g1
        obtain ⟨x2, f3, f4⟩ := ry.get g2
        obtain ⟨x3, f5, f6⟩ := rz.get g3
        refine ⟨_, _, by rw [List.getD_eq_getElem?_getD, List.getD_eq_getElem?_getD, List.getD_eq_getElem?_getD, f1, f3, f5]; rfl, f2, _, _, rfl, f4, _, _, rfl, f6, rfl⟩
end Ow
namespace Ow
open PySem PySem.Spec PyProof.Rows L2
variable [Tb] [Og]
/-! ### the slots of a block -/
def wipeD (ρ : DSt) : List Nat → DSt
  | [] => ρ
  | v :: vs => (wipeD ρ vs).set v none
section
variable {W : Wd} {M : Mp} {H : Hp} {ρ : DSt} {σ : L2.St}
theorem AbsS.set (S : AbsS W M H ρ σ) {i : Nat} {d : D} {v : V} (r : Rep W M H d v) : AbsS W M H (ρ.set i (some d)) (σ.set i (some v)) := by
  refine ⟨by rw [List.length_set, List.length_set]; exact S.len, fun j e h => ?_, S.og⟩
  by_cases hj : i = j
  · subst hj
    rw [List.getElem?_set] at h
    simp only [if_true] at h
    split at h
    · rename_i hl
      cases h
      exact ⟨v, by rw [List.getElem?_set]; simp only [if_true]; rw [if_pos (by rw [← S.len]; exact hl)], r⟩
    · cases h
  · rw [List.getElem?_set_ne hj] at h
    rw [List.getElem?_set_ne hj]
    exact S.at_ j e h
theorem AbsS.unset (S : AbsS W M H ρ σ) {i : Nat} : AbsS W M H (ρ.set i none) (σ.set i none) := by
  refine ⟨by rw [List.length_set, List.length_set]; exact S.len, fun j e h => ?_, S.og⟩
  by_cases hj : i = j
  · subst hj
    rw [List.getElem?_set] at h
    simp only [if_true] at h
    split at h <;> cases h
  · rw [List.getElem?_set_ne hj] at h
    rw [List.getElem?_set_ne hj]
    exact S.at_ j e h
theorem AbsS.wipe (S : AbsS W M H ρ σ) : ∀ vs, AbsS W M H (wipeD ρ vs) (L2.wipe σ vs)
  | [] => S
  | v :: vs => (AbsS.wipe S vs).unset
theorem wipe_set_set {σ : L2.St} {i : Nat} {x : Option V} : ∀ vs : List Nat, (L2.wipe (σ.set i x) vs).set i none = (L2.wipe σ vs).set i none
  | [] => by show (σ.set i x).set i none = σ.set i none; rw [List.set_set]
  | v :: vs => by
    show ((L2.wipe (σ.set i x) vs).set v none).set i none = ((L2.wipe σ vs).set v none).set i none
    by_cases h : v = i
    · subst h
      rw [List.set_set, List.set_set, wipe_set_set vs]
    · rw [List.set_comm _ _ h, List.set_comm _ _ h, wipe_set_set vs]
theorem wipe_set {σ : L2.St} {i : Nat} {x : Option V} : ∀ {vs : List Nat}, i ∈ vs → L2.wipe (σ.set i x) vs = L2.wipe σ vs
  | v :: vs, h => by
    show (L2.wipe (σ.set i x) vs).set v none = (L2.wipe σ vs).set v none
    by_cases e : i = v
    · subst e; exact wipe_set_set vs
    · rw [wipe_set ((List.mem_cons.mp h).resolve_left e)]
theorem wipe_wipe {σ : L2.St} (vs : List Nat) : ∀ us : List Nat, (∀ u ∈ us, u ∈ vs) → L2.wipe (L2.wipe σ us) vs = L2.wipe σ vs
  | [], _ => rfl
  | u :: us, h => by
    show L2.wipe ((L2.wipe σ us).set u none) vs = _
    rw [wipe_set (h u List.mem_cons_self)]
    exact wipe_wipe vs us fun x hx => h x (List.mem_cons_of_mem _ hx)
/-! ### what a target does -/
mutual
theorem bindT_g {K : PySem.W.Frag} (hK : W.K = K) : ∀ (ct : CT) {d : D} {v : V} {ρ : DSt} {σ : L2.St} {Kd : DSt → Prop} {R : L2.St → Hp → Prop} {vs : List Nat}, (∀ i ∈ ct.at, i ∈ vs) → AbsS W M H ρ σ → Rep W M H d v → bindT ct d ρ Kd →
    (∀ ρ' σ', AbsS W M H ρ' σ' → L2.wipe σ' vs = L2.wipe σ vs → Kd ρ' → R σ' H) → ct.g K v σ H R
  | .nm i, d, v, ρ, σ, Kd, R, vs, hi, S, r, z, k => k _ _ (S.set r) (wipe_set (hi i (List.mem_singleton.mpr rfl))) z
  | .tup ts, d, v, ρ, σ, Kd, R, vs, hi, S, r, z, k => by
    cases d with
    | tup l =>
      obtain ⟨a, xs, rfl, s, rs⟩ := r
      have z' : bindTs ts l ρ Kd := z
      obtain ⟨h1, h2⟩ := bindTs_g hK ts (R := R) (vs := vs) hi S rs z' k
      exact ⟨a, xs, rfl, hK ▸ s, h1, h2⟩
    | _ => exact z.elim
theorem bindTs_g {K : PySem.W.Frag} (hK : W.K = K) : ∀ (ts : List CT) {l : List D} {xs : List V} {ρ : DSt} {σ : L2.St} {Kd : DSt → Prop} {R : L2.St → Hp → Prop} {vs : List Nat}, (∀ i ∈ CT.ats ts, i ∈ vs) → AbsS W M H ρ σ → Reps W M H l xs → bindTs ts l ρ Kd →
    (∀ ρ' σ', AbsS W M H ρ' σ' → L2.wipe σ' vs = L2.wipe σ vs → Kd ρ' → R σ' H) → xs.length = ts.length ∧ CT.gs K ts xs σ H R
  | [], l, xs, ρ, σ, Kd, R, vs, hi, S, r, z, k => by
    cases l with
    | nil => rw [show xs = [] from r]; exact ⟨rfl, rfl, k ρ σ S rfl z⟩
    | cons _ _ => exact z.elim
  | t :: ts, l, xs, ρ, σ, Kd, R, vs, hi, S, r, z, k => by
    cases l with
    | nil => exact z.elim
    | cons d ds =>
      obtain ⟨v, vr, rfl, r1, r2⟩ := r
      have hl : ds.length = vr.length := r2.length
      have z' : bindT t d ρ fun ρ' => bindTs ts ds ρ' Kd := z
      have len : ts.length = ds.length := by
        have : ∀ (ts : List CT) (ds : List D) (ρ : DSt) (K : DSt → Prop), bindTs ts ds ρ K → ts.length = ds.length := bindTs_len
        exact bindT_len t d ρ _ _ z' fun ρ' h => this ts ds ρ' Kd h
      refine ⟨by rw [List.length_cons, List.length_cons, len, hl], v, vr, rfl, ?_⟩
      refine bindT_g hK t (vs := vs) (fun i hi' => hi i (List.mem_append_left _ hi')) S r1 z' fun ρ' σ' S' w' z2 => ?_
      exact (bindTs_g hK ts (vs := vs) (fun i hi' => hi i (List.mem_append_right _ hi')) S' r2 z2 fun ρ2 σ2 S2 w2 z3 => k ρ2 σ2 S2 (w2.trans w') z3).2
theorem bindT_len : ∀ (t : CT) (d : D) (ρ : DSt) (K : DSt → Prop) (P : Prop), bindT t d ρ K → (∀ ρ', K ρ' → P) → P
  | .nm i, d, ρ, K, P, z, k => k _ z
  | .tup ts, d, ρ, K, P, z, k => by
    cases d with
    | tup l => exact bindTs_P ts l ρ K P z k
    | _ => exact z.elim
theorem bindTs_P : ∀ (ts : List CT) (l : List D) (ρ : DSt) (K : DSt → Prop) (P : Prop), bindTs ts l ρ K → (∀ ρ', K ρ' → P) → P
  | [], l, ρ, K, P, z, k => by
    cases l with
    | nil => exact k _ z
    | cons _ _ => exact z.elim
  | t :: ts, l, ρ, K, P, z, k => by
    cases l with
    | nil => exact z.elim
    | cons d ds => exact bindT_len t d ρ _ P z fun ρ' h => bindTs_P ts ds ρ' K P h k
theorem bindTs_len : ∀ (ts : List CT) (ds : List D) (ρ : DSt) (K : DSt → Prop), bindTs ts ds ρ K → ts.length = ds.length
  | [], ds, ρ, K, z => by
    cases ds with
    | nil => rfl
    | cons _ _ => exact z.elim
  | t :: ts, ds, ρ, K, z => by
    cases ds with
    | nil => exact z.elim
    | cons d ds =>
      rw [List.length_cons, List.length_cons]
      exact congrArg (· + 1) (bindT_len t d ρ _ _ z fun ρ' h => bindTs_len ts ds ρ' K h)
end
end
/-! ### comprehensions -/
def upT (W : Wd) (t : DTE) : TE := fun σ H Q => ∃ ρ M Qd, AbsS W M H ρ σ ∧ AbsM W M H ∧ t ρ M Qd ∧ ∀ v H', lft W M H Qd v H' → Q v H'
theorem pe_upT {X : Cx} {e : Expr} {t : DTE} (h : DE X e t) : PE X e (upT (wd X) t) := ⟨fun pins s σ H Q I ⟨ρ, M, Qd, S, A, z, k⟩ => cT_mono (h.to σ H ρ M Qd S A z) k pins s I⟩
def upC (W : Wd) (t : DTT) : TT := fun σ H R => ∃ ρ M Q, AbsS W M H ρ σ ∧ AbsM W M H ∧ t ρ M Q ∧ ∀ k M1 H1, Ext W M H M1 H1 → AbsM W M1 H1 → Q k M1 → R k H1
theorem pt_upC {X : Cx} {e : Expr} {t : DTT} (h : DC X e t) : PT X e (upC (wd X) t) := ⟨fun pins s σ H R I ⟨ρ, M, Q, S, A, z, k⟩ => let ⟨tt, h1, h2⟩ := h.to; h1.run pins s σ H R I (h2 σ H ρ M Q R S A z k)⟩
theorem piT_mono {X : Cx} {tg iter : Expr} {σ : L2.St} {H : Hp} {R R' : It → Hp → Prop} (h : piT X tg iter σ H R) (m : ∀ J H1, R J H1 → R' J H1) : piT X tg iter σ H R' := fun pins s I =>
  thn (h pins s I) fun v s1 h1 => thn h1 fun itv s2 ⟨it, fp, tn, J, H', e, I', tu, t0, hf, r⟩ => ⟨it, fp, tn, J, H', e, I', tu, t0, hf, m J H' r⟩
/-- one turn: the target, the test, the item -/
def turnC (ct : CT) (own : List Nat) (tt : DTT) (te : DTE) (ρ : DSt) (x : D) (M : Mp) (add : QE) (skip : Mp → Prop) : Prop :=
  bindT ct x (wipeD ρ own) fun ρ' => tt ρ' M fun k M1 => if k = true then te ρ' M1 add else skip M1
/-- the items that come, the new list at p -/
def cmpL (fz : Bool) (ok : Mp → Prop) (turn : D → Mp → QE → (Mp → Prop) → Prop) (p : Addr) (Q : QE) : List D → Mp → Prop
  | [], M => ok M ∧ (match M p with
    | some (.lst acc) => if fz = true then Q (.lst acc) (M.del p) else Q (.ref p) M
    | _ => False)
  | x :: r, M => ok M ∧ turn x M (fun d M' => match M' p with
      | some (.lst acc) => acc.length < sizeLine ∧ cmpL fz ok turn p Q r (M'.upd p (.lst (acc ++ [d])))
      | _ => False) (fun M' => cmpL fz ok turn p Q r M')
theorem cmpL_ok {fz : Bool} {ok : Mp → Prop} {turn : D → Mp → QE → (Mp → Prop) → Prop} {p : Addr} {Q : QE} {l : List D} {M : Mp} (h : cmpL fz ok turn p Q l M) : ok M := by
  cases l <;> exact h.1
theorem Rep.thaw {W : Wd} {M : Mp} {H : Hp} {a : Addr} {l : List D} (A : AbsM W M H) (h : M a = some (.lst l)) : Rep W (M.del a) H (.lst l) (.ref a) := by
  obtain ⟨xs, h1, h2⟩ := A.ob a _ h
  exact ⟨a, xs, rfl, Mp.del_same, h1, h2.ext (Ext.forget Mp.sub_del)⟩
@[simp] def yesD : DTT := fun _ M Q => Q true M
theorem comp_core {X : Cx} {tg iter : Expr} {ct : CT} {own : List (Str × Nat)} {ti : DTI} {te : DTE} {tt : DTT} {fz : Bool} {σ : L2.St} {H : Hp} {ρ : DSt} {M : Mp} {Q : QE} {R : VK} (hi : DI X tg iter ti) (hat : ∀ i ∈ ct.at, i ∈ own.map (·.2))
    (S : AbsS (wd X) M H ρ σ) (A : AbsM (wd X) M H) (z : ti ρ M fun l okM M1 => ∀ p, M1 p = none → cmpL fz okM (turnC ct (own.map (·.2)) tt te ρ) p Q l (M1.upd p (.lst []))) (out : ∀ v H', lft (wd X) M H Q v H' → R v H') :
    tLc (piT X tg iter) (ct.g X.K) (upC (wd X) tt) (upT (wd X) te) (own.map (·.2)) σ H R := by
  refine piT_mono (hi.to σ H ρ M _ S A z) fun J H1 ⟨l, okM, M1, x, A1, G, q⟩ D hD => ?_
  have q0 := q D (A1.free hD)
  have x0 : Ext (wd X) M1 H1 (M1.upd D (.lst [])) (upd H1 D (.lst [])) := Ext.freshM A1 hD
  have A0 : AbsM (wd X) (M1.upd D (.lst [])) (upd H1 D (.lst [])) := AbsM.freshM A1 hD ⟨[], upd_same, rfl⟩
  refine ⟨fun i m H2 => ∃ M2, Ext (wd X) M1 H1 M2 H2 ∧ AbsM (wd X) M2 H2 ∧ i + m = l.length ∧ cmpL fz okM (turnC ct (own.map (·.2)) tt te ρ) D Q (l.drop i) M2, ⟨l.length, _, x0, A0, Nat.zero_add _, q0⟩, fun i m H2 hW => ?_⟩
  obtain ⟨M2, x2, A2, em, w⟩ := hW
  have g := G M2 H2 x2 A2 (cmpL_ok w) i
  by_cases hlt : i < l.length
  · refine .inr ?_
    have e : l[i]? = some l[i] := List.getElem?_eq_getElem hlt
    obtain ⟨go, yl⟩ := g.1 _ e
    rw [List.drop_eq_getElem_cons hlt] at w
    obtain ⟨_, w⟩ := w
    refine ⟨go, fun H' => ∃ M', Ext (wd X) M1 H1 M' H' ∧ AbsM (wd X) M' H' ∧ cmpL fz okM (turnC ct (own.map (·.2)) tt te ρ) D Q (l.drop (i + 1)) M', fun H' ⟨M', h1, h2, h3⟩ => ⟨m - 1, by omega, M', h1, h2, by omega, h3⟩, fun v H' hy => ?_⟩
    obtain ⟨x3, A3, r3⟩ := yl v H' hy
    have S3 : AbsS (wd X) M2 H' (wipeD ρ (own.map (·.2))) (L2.wipe σ (own.map (·.2))) := (S.ext ((x.trans x2).trans x3)).wipe _
    refine bindT_g rfl ct hat S3 r3 w fun ρ' σ' S' w' z' => ⟨?_, ρ', M2, _, S', A3, z', fun k M4 H4 x4 A4 z4 => ?_⟩
    · rw [w', wipe_wipe _ _ fun u h => h]
    · cases k with
      | false =>
        rw [if_neg Bool.false_ne_true] at z4 ⊢
        exact ⟨M4, (x2.trans x3).trans x4, A4, z4⟩
      | true =>
        rw [if_pos rfl] at z4 ⊢
        refine ⟨ρ', M4, _, S'.ext x4, A4, z4, fun y H5 ⟨d, M5, x5, r5, A5, q5⟩ => ?_⟩
        dsimp only at q5
        split at q5
        · rename_i acc hacc
          obtain ⟨vs, hH, rs⟩ := A5.ob D _ hacc
          have xw : Ext (wd X) M5 H5 (M5.upd D (.lst (acc ++ [d]))) (upd H5 D (.lst (vs ++ [y]))) := Ext.write A5 hacc
          refine ⟨vs, hH, by rw [← rs.length]; exact q5.1, _, (((x2.trans x3).trans x4).trans x5).trans xw, AbsM.write A5 hacc ⟨_, upd_same, ?_⟩, q5.2⟩
          exact (rs.ext xw).append ⟨y, [], rfl, r5.ext xw, rfl⟩
        · exact q5.elim
  · refine .inl ?_
    have hi' : i = l.length := by omega
    refine ⟨g.2 hi', ?_⟩
    rw [hi', List.drop_length] at w
    obtain ⟨_, w⟩ := w
    split at w
    · rename_i acc hacc
      cases fz with
      | true => exact out _ _ ⟨.lst acc, M2.del D, (x.trans x2).trans (Ext.forget Mp.sub_del), Rep.thaw A2 hacc, A2.forget Mp.sub_del, w⟩
      | false => exact out _ _ ⟨.ref D, M2, x.trans x2, rfl, A2, w⟩
    · exact w.elim
theorem DE.comp {X : Cx} {elt tg iter : Expr} {ifs : List Expr} {scope : Scope} {pos : Pos} {ct : CT} {own : List (Str × Nat)} {ti : DTI} {te : DTE} {tt : DTT} {fz : Bool} (hc : X.calm = true) (hN : X.N.Nodup) (hi : DI X tg iter ti) (ok : BlkOk X.N X.env.scope scope own)
    (hg : ∀ (s : Shared) (H : Hp) (C : Addr) (cl : List (Str × Addr)) (fp : List Addr), PG (X.blk s H scope (compEnvC scope cl C X.env) fp) tg (ct.g X.K))
    (ht : ∀ (s : Shared) (H : Hp) (C : Addr) (cl : List (Str × Addr)) (fp : List Addr), PTs (X.blk s H scope (compEnvC scope cl C X.env) fp) ifs (upC (wd X) tt))
    (he : ∀ (s : Shared) (H : Hp) (C : Addr) (cl : List (Str × Addr)) (fp : List Addr), DE (X.blk s H scope (compEnvC scope cl C X.env) fp) elt te)
    (hs : ∀ x, foldedSetIterable iter X.env x = pure x) (hat : ∀ i ∈ ct.at, i ∈ own.map (·.2)) :
    DE X (.ListComp elt [⟨tg, iter, ifs, 0⟩] scope pos) (fun ρ M Q => ti ρ M fun l okM M1 => ∀ p, M1 p = none → cmpL fz okM (turnC ct (own.map (·.2)) tt te ρ) p Q l (M1.upd p (.lst []))) := by
  refine DE.of (pe_lc (te := upT (wd X) te) hc hN pi_piT ok hg ht (fun s H C cl fp => pe_upT (he s H C cl fp)) hs) fun σ H ρ M Q S A z => comp_core hi hat S A z fun _ _ h => h
end Ow
namespace Ow
open PySem PySem.Spec PyProof.Rows L2
variable [Tb] [Og]
/-! ### statements -/
structure DEnds where
  nx : DSt → Mp → Prop
  rt : QE
  bk : DSt → Mp → Prop
  ct : DSt → Mp → Prop
abbrev DTS := DEnds → DSt → Mp → Prop
/-- what the data's ends say of the ends, from the state M, H on -/
structure EOk (W : Wd) (M : Mp) (H : Hp) (D : DEnds) (De : Ends) : Prop where
  nx : ∀ (ρ : DSt) (σ : L2.St) (M' : Mp) (H' : Hp), Ext W M H M' H' → AbsM W M' H' → AbsS W M' H' ρ σ → D.nx ρ M' → De.nx σ H'
  rt : ∀ v H', lft W M H D.rt v H' → De.rt v H'
  bk : ∀ (ρ : DSt) (σ : L2.St) (M' : Mp) (H' : Hp), Ext W M H M' H' → AbsM W M' H' → AbsS W M' H' ρ σ → D.bk ρ M' → De.bk σ H'
  ct : ∀ (ρ : DSt) (σ : L2.St) (M' : Mp) (H' : Hp), Ext W M H M' H' → AbsM W M' H' → AbsS W M' H' ρ σ → D.ct ρ M' → De.ct σ H'
omit [Og] in
theorem EOk.to {o1 o2 : Og} {W : Wd} {M : Mp} {H : Hp} {D : DEnds} {De : Ends} (k : @EOk _ o1 W M H D De) (e : ∀ M' H', Ext W M H M' H' → Ext W o1.M0 o1.H0 M' H') : @EOk _ o2 W M H D De :=
  @EOk.mk _ o2 _ _ _ _ _ (fun ρ' σ' M' H' x A S' q => @EOk.nx _ o1 _ _ _ _ _ k ρ' σ' M' H' x A (AbsS.to (o1 := o2) (o2 := o1) S' (e _ _ x)) q) (@EOk.rt _ o1 _ _ _ _ _ k) (fun ρ' σ' M' H' x A S' q => @EOk.bk _ o1 _ _ _ _ _ k ρ' σ' M' H' x A (AbsS.to (o1 := o2) (o2 := o1) S' (e _ _ x)) q) (fun ρ' σ' M' H' x A S' q => @EOk.ct _ o1 _ _ _ _ _ k ρ' σ' M' H' x A (AbsS.to (o1 := o2) (o2 := o1) S' (e _ _ x)) q)
theorem EOk.ext {W : Wd} {M M1 : Mp} {H H1 : Hp} {D : DEnds} {De : Ends} (e : EOk W M H D De) (x : Ext W M H M1 H1) : EOk W M1 H1 D De :=
  ⟨fun ρ σ M' H' y => e.nx ρ σ M' H' (x.trans y), fun v H' q => e.rt v H' (q.trans x), fun ρ σ M' H' y => e.bk ρ σ M' H' (x.trans y), fun ρ σ M' H' y => e.ct ρ σ M' H' (x.trans y)⟩
def cS (X : Cx) (st : Stmt) : TS := fun D σ H => ∀ (pins : List (Addr × Obj)) (s : Shared), Inv X pins σ H s → wpAny (model X.prog X.w) X.A (exec st X.env) (SP X pins D) X.xe s
def cB (X : Cx) (sts : List Stmt) : TS := fun D σ H => ∀ (pins : List (Addr × Obj)) (s : Shared), Inv X pins σ H s → wpAny (model X.prog X.w) X.A (execs sts X.env) (SP X pins D) X.xe s
theorem ps_cS {X : Cx} {st : Stmt} : PS X st (cS X st) := ⟨fun pins s σ H D I h => h pins s I⟩
theorem pss_cB {X : Cx} {sts : List Stmt} : PSs X sts (cB X sts) := ⟨fun pins s σ H D I h => h pins s I⟩
structure DS (X : Cx) (st : Stmt) (t : DTS) : Prop where
  to : ∀ (σ : L2.St) (H : Hp) (ρ : DSt) (M : Mp) (D : DEnds) (De : Ends), AbsS (wd X) M H ρ σ → AbsM (wd X) M H → t D ρ M → EOk (wd X) M H D De → cS X st De σ H
structure DB (X : Cx) (sts : List Stmt) (t : DTS) : Prop where
  to : ∀ (σ : L2.St) (H : Hp) (ρ : DSt) (M : Mp) (D : DEnds) (De : Ends), AbsS (wd X) M H ρ σ → AbsM (wd X) M H → t D ρ M → EOk (wd X) M H D De → cB X sts De σ H
section
variable {X : Cx} {st : Stmt} {sts : List Stmt} {t u : DTS} {e a b c : Expr} {te ta tb : DTE} {tc : DTT} {pos : Pos}
theorem DS.of {t' : TS} (h : PS X st t') (q : ∀ (σ : L2.St) (H : Hp) (ρ : DSt) (M : Mp) (D : DEnds) (De : Ends), AbsS (wd X) M H ρ σ → AbsM (wd X) M H → t D ρ M → EOk (wd X) M H D De → t' De σ H) : DS X st t :=
  ⟨fun σ H ρ M D De S A z k pins s I => h.run pins s σ H De I (q σ H ρ M D De S A z k)⟩
theorem DB.of {t' : TS} (h : PSs X sts t') (q : ∀ (σ : L2.St) (H : Hp) (ρ : DSt) (M : Mp) (D : DEnds) (De : Ends), AbsS (wd X) M H ρ σ → AbsM (wd X) M H → t D ρ M → EOk (wd X) M H D De → t' De σ H) : DB X sts t :=
  ⟨fun σ H ρ M D De S A z k pins s I => h.run pins s σ H De I (q σ H ρ M D De S A z k)⟩
theorem DB.nil : DB X [] (fun D ρ M => D.nx ρ M) := DB.of pss_nil fun σ H ρ M D De S A z k => k.nx ρ σ M H Ext.refl A S z
def seqS (t u : DTS) : DTS := fun D ρ M => t { D with nx := fun ρ' M' => u D ρ' M' } ρ M
theorem DB.cons (h : DS X st t) (k : DB X sts u) : DB X (st :: sts) (seqS t u) := by
  refine DB.of (pss_cons ps_cS pss_cB) fun σ H ρ M D De S A z q => ?_
  refine h.to σ H ρ M _ _ S A z ⟨fun ρ' σ' M' H' x A' S' z' => ?_, q.rt, q.bk, q.ct⟩
  exact k.to σ' H' ρ' M' D De S' A' z' (q.ext x)
theorem DS.pass : DS X (.Pass pos) (fun D ρ M => D.nx ρ M) := DS.of ps_pass fun σ H ρ M D De S A z k => k.nx ρ σ M H Ext.refl A S z
theorem DS.brk : DS X (.Break pos) (fun D ρ M => D.bk ρ M) := DS.of ps_break fun σ H ρ M D De S A z k => k.bk ρ σ M H Ext.refl A S z
theorem DS.cont : DS X (.Continue pos) (fun D ρ M => D.ct ρ M) := DS.of ps_continue fun σ H ρ M D De S A z k => k.ct ρ σ M H Ext.refl A S z
theorem DS.expr (he : DE X e te) (hs : swapsWith e none pos.line X.env = pure false) : DS X (.Expr e pos) (fun D ρ M => te ρ M fun _ M1 => D.nx ρ M1) :=
  DS.of (ps_expr pe_cT hs) fun σ H ρ M D De S A z k => he.bind S A z fun v d M1 H1 x r A1 S1 q => k.nx ρ σ M1 H1 x A1 S1 q
theorem DS.ret (he : DE X e te) : DS X (.Return (some e) pos) (fun D ρ M => te ρ M D.rt) :=
  DS.of (ps_ret pe_cT) fun σ H ρ M D De S A z k => cT_mono (he.to σ H ρ M _ S A z) k.rt
theorem DS.retN : DS X (.Return none pos) (fun D _ M => D.rt .non M) :=
  DS.of ps_retN fun σ H ρ M D De S A z k => k.rt _ _ (lft.non A z)
theorem DS.ifs {sa sb : List Stmt} (hc : DC X c tc) (ha : DB X sa t) (hb : DB X sb u) : DS X (.If c sa sb pos) (fun D ρ M => tc ρ M fun k M1 => if k = true then t D ρ M1 else u D ρ M1) := by
  obtain ⟨tt, h1, h2⟩ := hc.to
  refine DS.of (ps_if h1 pss_cB pss_cB) fun σ H ρ M D De S A z k => h2 σ H ρ M _ _ S A z fun b M1 H1 x A1 q => ?_
  cases b with
  | true => exact ha.to σ H1 ρ M1 D De (S.ext x) A1 q (k.ext x)
  | false => exact hb.to σ H1 ρ M1 D De (S.ext x) A1 q (k.ext x)
/-- name = e -/
theorem DS.set {i : Nat} {x : Str} {px : Pos} (hN : X.N.Nodup) (hi : X.N[i]? = some x) (hx : Loc X.env.scope x) (hf : X.fn x = true ∨ X.env.scope.names.lookup x = some .local) (he : DE X e te) (hs : swapsWith e (some (.Name x px)) pos.line X.env = pure false) :
    DS X (.Assign [.Name x px] e pos) (fun D ρ M => te ρ M fun d M1 => D.nx (ρ.set i (some d)) M1) :=
  DS.of (ps_set hN hi hx pe_cT hs hf) fun σ H ρ M D De S A z k => he.bind S A z fun v d M1 H1 x r A1 S1 q => k.nx _ _ M1 H1 x A1 (S1.set r) q
/-- target = e -/
theorem assign_one {tg : Expr} {env : Env} (h : notStar tg = true) : (assignEach [tg] env).map (·.2) = [assign tg env] := by
  cases tg <;> first | rfl | cases h
theorem DS.asg {tg : Expr} {ct : CT} (hst : notStar tg = true) (he : DE X e te) (hg : PG X tg (ct.g X.K)) (hs : swapsWithSole [tg] e pos.line X.env = pure false) (hw : swappedStores [tg] e X.env = pure none) :
    DS X (.Assign [tg] e pos) (fun D ρ M => te ρ M fun d M1 => bindT ct d ρ fun ρ' => D.nx ρ' M1) :=
  DS.of (ps_asg pe_cT hg hs hw (h1 := assign_one hst)) fun σ H ρ M D De S A z k => he.bind S A z fun v d M1 H1 x r A1 S1 q => bindT_g rfl ct (vs := ct.at) (fun _ h => h) S1 r q fun ρ' σ' S' _ z' => k.nx ρ' σ' M1 H1 x A1 S' z'
theorem swap2 (env : Env) (x y : Str) (px py pt pt2 : Pos) (a b : Expr) (kt k2 : Nat) (h1 : env.kindOf x = some .local) (h2 : env.kindOf y = some .local) (hb : env.blockKind = .function) (hl : py.line = px.line) (hxy : x ≠ y)
  (ha : notStar a = true) (hb' : notStar b = true) (hf : [a,b].all (foldedForSure 8) = false) (hc : [a,b].all (constantsAlone 8) = false) :
  swappedStores [.Tuple [.Name x px, .Name y py] kt pt] (.Tuple [a, b] k2 pt2) env = pure (some [x, y]) := by
  have hs : ([a, b].any fun | .Starred .. => true | _ => false) = false := by
    cases a <;> first | (cases ha; done) | (cases b <;> first | rfl | (cases hb'; done))
  have e1 : (Expr.Name x px).pos = px := rfl
  have fm : ([Expr.Name x px, Expr.Name y py].filterMap fun
    | .Name id pos => if env.kindOf id == some .local && pos.line == px.line then some id else none
    | _ => none) = [x, y] := by
    simp [List.filterMap_cons, h1, h2, hl]
  have ed : [x, y].eraseDups = [x, y] := by
    rw [List.eraseDups_cons]
    have : (y == x) = false := beq_eq_false_iff_ne.mpr (Ne.symm hxy)
    simp [List.filter_cons, this, List.eraseDups_cons]
  unfold swappedStores
  simp only [List.head?_cons, Option.map_some, Option.getD_some, e1, hb]
  refine (if_neg (by simp)).trans ?_
  refine (if_neg (fun h => by have h' := hs.symm.trans h; cases h')).trans ?_
  refine (if_neg (fun h => ?_)).trans ?_
  · have h' : (([x, y].length != 2) || ([x, y].eraseDups.length != [x, y].length)) = true := by rw [← fm]; exact h
    rw [ed] at h'
    simp at h'
  · refine (if_neg (fun h => by have h' := hf.symm.trans h; cases h')).trans ?_
    refine (if_neg (fun h => by have h' := hc.symm.trans h; cases h')).trans ?_
    exact congrArg (fun l => pure (some l)) fm
theorem swap3 (env : Env) (x y z : Str) (px py pz pt pt2 : Pos) (a b c : Expr) (kt k2 : Nat) (h1 : env.kindOf x = some .local) (h2 : env.kindOf y = some .local) (h3 : env.kindOf z = some .local) (hb : env.blockKind = .function) (hl : py.line = px.line) (hl3 : pz.line = px.line) (hxy : x ≠ y) (hxz : x ≠ z) (hyz : y ≠ z)
  (ha : notStar a = true) (hb' : notStar b = true) (hc' : notStar c = true) (hf : [a,b,c].all (foldedForSure 8) = false) (hc : [a,b,c].all (constantsAlone 8) = false) :
  swappedStores [.Tuple [.Name x px, .Name y py, .Name z pz] kt pt] (.Tuple [a, b, c] k2 pt2) env = pure (some [x, y, z]) := by
  have st : ∀ e : Expr, notStar e = true → (match e with | .Starred .. => true | _ => false) = false := by
    intro e h
    cases e <;> first | rfl | (cases h; done)
  have hs : ([a, b, c].any fun | .Starred .. => true | _ => false) = false := by
    simp only [List.any_cons, List.any_nil, st a ha, st b hb', st c hc', Bool.or_false]
  have e1 : (Expr.Name x px).pos = px := rfl
  have fm : ([Expr.Name x px, Expr.Name y py, Expr.Name z pz].filterMap fun
    | .Name id pos => if env.kindOf id == some .local && pos.line == px.line then some id else none
    | _ => none) = [x, y, z] := by
    simp [List.filterMap_cons, h1, h2, h3, hl, hl3]
  have ed : [x, y, z].eraseDups = [x, y, z] := by
    have n1 : (y == x) = false := beq_eq_false_iff_ne.mpr (Ne.symm hxy)
    have n2 : (z == x) = false := beq_eq_false_iff_ne.mpr (Ne.symm hxz)
    have n3 : (z == y) = false := beq_eq_false_iff_ne.mpr (Ne.symm hyz)
    simp [List.eraseDups_cons, List.filter_cons, n1, n2, n3]
  unfold swappedStores
  simp only [List.head?_cons, Option.map_some, Option.getD_some, e1, hb]
  refine (if_neg (by simp)).trans ?_
  refine (if_neg (fun h => by have h' := hs.symm.trans h; cases h')).trans ?_
  refine (if_neg (fun h => ?_)).trans ?_
  · have h' : (([x, y, z].length != 3) || ([x, y, z].eraseDups.length != [x, y, z].length)) = true := by rw [← fm]; exact h
    rw [ed] at h'
    simp at h'
  · refine (if_neg (fun h => by have h' := hf.symm.trans h; cases h')).trans ?_
    refine (if_neg (fun h => by have h' := hc.symm.trans h; cases h')).trans ?_
    exact congrArg (fun l => pure (some l)) fm
theorem swapNo (env : Env) (ts vs : List Expr) (kt k2 : Nat) (pt pt2 : Pos) (h : (!(ts.length == 2 || ts.length == 3) || vs.length != ts.length || vs.all (foldedForSure 8)) = true) :
  swappedStores [.Tuple ts kt pt] (.Tuple vs k2 pt2) env = pure none := by
  unfold swappedStores
  simp only [Bool.or_eq_true] at h
  rcases h with (h | h) | h
  · simp only [h, Bool.true_or, if_true]
  · simp only [h, Bool.or_true, Bool.true_or, if_true]
  · simp only [h, if_true]
    split <;> first | rfl | (split <;> first | rfl | (split <;> rfl))
def notLocE (env : Env) : Expr → Bool
  | .Name x _ => !(env.kindOf x == some .local)
  | _ => true
theorem names_lt (env : Env) (l : Nat) : ∀ ts : List Expr, ts.any (notLocE env) = true → (ts.filterMap fun
    | .Name id pos => if env.kindOf id == some .local && pos.line == l then some id else none
    | _ => none).length < ts.length := by
  have le : ∀ ts : List Expr, (ts.filterMap fun
    | .Name id pos => if env.kindOf id == some .local && pos.line == l then some id else none
    | _ => none).length ≤ ts.length := fun ts => List.length_filterMap_le _ _
  intro ts
  induction ts with
  | nil => intro h; cases h
  | cons t ts ih =>
    intro h
    rw [List.any_cons] at h
    have le' := le ts
    have key : notLocE env t = true → (match t with
      | .Name id pos => if env.kindOf id == some .local && pos.line == l then some id else none
      | _ => none) = none := by
      intro hn
      cases t with
      | Name x p =>
        have hn' : (!(env.kindOf x == some .local)) = true := hn
        rw [Bool.not_eq_true'] at hn'
        simp only [hn', Bool.false_and, Bool.false_eq_true, if_false]
      | _ => rfl
    rw [List.filterMap_cons]
    cases hn : notLocE env t with
    | true =>
      rw [key hn]
      simp only [List.length_cons]
      omega
    | false =>
      rw [hn, Bool.false_or] at h
      have := ih h
      split
      · simp only [List.length_cons]; omega
      · simp only [List.length_cons]; omega
theorem swapNo2 (env : Env) (ts vs : List Expr) (kt k2 : Nat) (pt pt2 : Pos) (h : ts.any (notLocE env) = true) :
  swappedStores [.Tuple ts kt pt] (.Tuple vs k2 pt2) env = pure none := by
  unfold swappedStores
  simp only
  have hl := names_lt env ((ts.head?.map (·.pos.line)).getD 0) ts h
  split
  · rfl
  · split
    · rfl
    · have hne : (List.filterMap (fun
    | .Name id pos => if env.kindOf id == some .local && pos.line == ((ts.head?.map (·.pos.line)).getD 0) then some id else none
    | _ => none) ts).length != ts.length := by
        rw [bne_iff_ne]; omega
      refine (if_pos ?_)
      rw [Bool.or_eq_true]
      exact .inl hne
/-- .. -/
theorem DS.par {i j : Nat} {x y : Str} {ta : DTA} {px py pt : Pos} {kt k2 : Nat} {pt2 : Pos} (hc : X.calm = true) (hN : X.N.Nodup) (hi : X.N[i]? = some x) (hj : X.N[j]? = some y) (hij : i ≠ j) (hx : X.env.scope.names.lookup x = some .local) (hy : X.env.scope.names.lookup y = some .local)
    (ha : DA X [a, b] ta) (hw : swappedStores [.Tuple [.Name x px, .Name y py] kt pt] (.Tuple [a, b] k2 pt2) X.env = pure (some [x, y])) (hs : swapsWithSole [.Tuple [.Name x px, .Name y py] kt pt] (.Tuple [a, b] k2 pt2) pos.line X.env = pure false)
    (hsa : notStar a = true) (hsb : notStar b = true) :
    DS X (.Assign [.Tuple [.Name x px, .Name y py] kt pt] (.Tuple [a, b] k2 pt2) pos) (fun D ρ M => ta ρ M fun ds M1 => match ds with
      | [d1, d2] => D.nx ((ρ.set i (some d1)).set j (some d2)) M1
      | _ => False) := by
  refine DS.of (ps_par hc hN hi hj hij hx hy pa_cA hw hs) fun σ H ρ M D De S A z k => ha.bind S A z fun vs ds M1 H1 x r A1 S1 q => ?_
  split at q
  · obtain ⟨v, w, rfl, r1, r2⟩ := reps2 r
    exact ⟨v, w, rfl, k.nx _ _ M1 H1 x A1 ((S1.set r1).set r2) q⟩
  · exact q.elim
theorem DS.par3 {i j l : Nat} {x y z : Str} {ta : DTA} {px py pz pt : Pos} {kt k2 : Nat} {pt2 : Pos} (hc : X.calm = true) (hN : X.N.Nodup) (hi : X.N[i]? = some x) (hj : X.N[j]? = some y) (hl : X.N[l]? = some z) (hij : i ≠ j) (hil : i ≠ l) (hjl : j ≠ l)
    (hx : X.env.scope.names.lookup x = some .local) (hy : X.env.scope.names.lookup y = some .local) (hz : X.env.scope.names.lookup z = some .local)
    (ha : DA X [a, b, c] ta) (hw : swappedStores [.Tuple [.Name x px, .Name y py, .Name z pz] kt pt] (.Tuple [a, b, c] k2 pt2) X.env = pure (some [x, y, z])) (hs : swapsWithSole [.Tuple [.Name x px, .Name y py, .Name z pz] kt pt] (.Tuple [a, b, c] k2 pt2) pos.line X.env = pure false) :
    DS X (.Assign [.Tuple [.Name x px, .Name y py, .Name z pz] kt pt] (.Tuple [a, b, c] k2 pt2) pos) (fun D ρ M => ta ρ M fun ds M1 => match ds with
      | [d1, d2, d3] => D.nx (((ρ.set i (some d1)).set j (some d2)).set l (some d3)) M1
      | _ => False) := by
  refine DS.of (ps_par3 hc hN hi hj hl hij hil hjl hx hy hz pa_cA hw hs) fun σ H ρ M D De S A zz k => ha.bind S A zz fun vs ds M1 H1 x r A1 S1 q => ?_
  split at q
  · obtain ⟨v, w, u, rfl, r1, r2, r3⟩ := reps3 r
    exact ⟨v, w, u, rfl, k.nx _ _ M1 H1 x A1 (((S1.set r1).set r2).set r3) q⟩
  · exact q.elim
/-- name op= e -/
@[simp] def augD (op : Operator) (x y : D) (M : Mp) (Q : QE) : Prop := match op, x, y with
  | .Add, .int i, .int j => Q (.int (i + j)) M
  | .Sub, .int i, .int j => Q (.int (i - j)) M
  | .Mult, .int i, .int j => MulOk i j ∧ Q (.int (i * j)) M
  | _, _, _ => False
theorem iop_mulA : OpR X (inplaceOp .Mult) (rI MulOk fun i j => .int (i * j)) := opI fun _ _ _ _ _ _ _ hc q => imul_int q hc.ok
theorem op_augD (op : Operator) : OpD X (inplaceOp op) (augD op) := by
  cases op with
  | Add =>
    refine opD_int (C := fun _ _ => True) (g := fun i j => i + j) (fun pins s σ H x y v u Q I rx ry ⟨i, j, e1, e2, _, q⟩ => iop_add pins s σ H x y v u Q I rx ry ⟨i, j, e1, e2, q⟩) fun d1 d2 M Q z => ?_
    unfold augD at z; split at z <;> first | exact ⟨_, _, rfl, rfl, trivial, z⟩ | exact z.elim | (rename_i h; cases h)
  | Sub =>
    refine opD_int (C := fun _ _ => True) (g := fun i j => i - j) (fun pins s σ H x y v u Q I rx ry ⟨i, j, e1, e2, _, q⟩ => iop_sub pins s σ H x y v u Q I rx ry ⟨i, j, e1, e2, q⟩) fun d1 d2 M Q z => ?_
    unfold augD at z; split at z <;> first | exact ⟨_, _, rfl, rfl, trivial, z⟩ | exact z.elim | (rename_i h; cases h)
  | Mult =>
    refine opD_int iop_mulA fun d1 d2 M Q z => ?_
    unfold augD at z; split at z <;> first | exact ⟨_, _, rfl, rfl, z.1, z.2⟩ | exact z.elim | (rename_i h; cases h)
  | _ => exact ⟨fun _ _ _ _ => False, fun _ _ _ _ _ _ _ _ _ _ _ _ h => h.elim, fun _ _ _ _ _ _ _ _ _ _ h => h⟩
theorem DS.aug {i : Nat} {x : Str} {px : Pos} {op : Operator} (hN : X.N.Nodup) (hi : X.N[i]? = some x) (hx : Loc X.env.scope x) (hf : X.fn x = true ∨ X.env.scope.names.lookup x = some .local) (he : DE X e te) :
    DS X (.AugAssign (.Name x px) op e pos) (fun D ρ M => match ρ[i]? with
      | some (some d) => te ρ M fun d2 M1 => augD op d d2 M1 fun d3 M2 => D.nx (ρ.set i (some d3)) M2
      | _ => False) := by
  refine DS.of (ps_aug (ti := cO X (inplaceOp op)) hN hi hx pe_cT or_cO hf) fun σ H ρ M D De S A z k => ?_
  split at z
  · rename_i d hd
    obtain ⟨v, h1, h2⟩ := S.at_ i d hd
    refine ⟨v, h1, he.bind S A z fun v2 d2 M1 H1 x r A1 S1 q => cO_mono ((op_augD op).to A1 (h2.ext x) r q) ?_⟩
    rintro w H2 ⟨d3, M2, x2, r2, A2, q2⟩
    exact k.nx _ _ M2 H2 (x.trans x2) A2 ((S1.ext x2).set r2) q2
  · exact z.elim
/-- o[i] = e -/
@[simp] def setD (o i d : D) (M : Mp) (K : Mp → Prop) : Prop := match o with
  | .ref p => (match M p with
    | some (.lst l) => (match i with
      | .int k => (match ixN l.length k with
        | some j => K (M.upd p (.lst (l.set j d)))
        | none => False)
      | _ => False)
    | some (.dic kvs) => (match keyD i with
      | some k => kvs.length < sizeLine ∧ K (M.upd p (.dic (putD kvs k d)))
      | none => False)
    | _ => False)
  | _ => False
theorem PSet.or {t t' : TSet} (h : PSet X t) (h' : PSet X t') : PSet X (fun o i v H Q => t o i v H Q ∨ t' o i v H Q) := by
  intro pins s σ H o i v ov iv u Q I ro ri rv q
  rcases q with q | q
  · exact h pins s σ H o i v ov iv u Q I ro ri rv q
  · exact h' pins s σ H o i v ov iv u Q I ro ri rv q
theorem set_dict (hu : X.A.units + 1 < cLine) : PSet X (fun o i v H Q => ∃ a H', o = .ref a ∧ DPut H a i v H' ∧ Q H') := by
  intro pins s σ H o i v ov iv u Q I ro ri rv h
  obtain ⟨a, H', rfl, g, q⟩ := h
  cases ro
  exact d_setItem hu I g ri rv fun s4 I4 => ⟨H', I4, q⟩
theorem DS.setix {o i : Expr} {to ti : DTE} {p1 : Pos} (hu : X.A.units + 1 < cLine) (he : DE X e te) (ho : DE X o to) (hi : DE X i ti) (hsl : notSlice i = true) (hs : swapsWithSole [.Subscript o i p1] e pos.line X.env = pure false) (hw : swappedStores [.Subscript o i p1] e X.env = pure none) :
    DS X (.Assign [.Subscript o i p1] e pos) (fun D ρ M => te ρ M fun d M1 => to ρ M1 fun d2 M2 => ti ρ M2 fun d3 M3 => setD d2 d3 d M3 fun M4 => D.nx ρ M4) := by
  have ha : ∀ v, assign (.Subscript o i p1) X.env v = (do
      let ov ← holding [v] (eval o X.env)
      let iv ← holding [v, ov] (eval i X.env)
      standAt p1
      holding [v, ov, iv] (setItem ov iv v)
      release [v, ov, iv] []) := by
    intro v
    cases i <;> first | rfl | cases hsl
  refine DS.of (ps_asg pe_cT (pg_sub pe_cT pe_cT (PSet.or set_list (set_dict hu)) ha) hs hw) fun σ H ρ M D De S A z k => ?_
  refine he.bind S A z fun v d M1 H1 x1 r1 A1 S1 q1 => ho.bind S1 A1 q1 fun v2 d2 M2 H2 x2 r2 A2 S2 q2 => hi.bind S2 A2 q2 fun v3 d3 M3 H3 x3 r3 A3 S3 q3 => ?_
  unfold setD at q3
  split at q3
  · rename_i p
    split at q3
    · rename_i l hl
      split at q3
      · rename_i kk
        split at q3
        · rename_i j hj
          obtain ⟨xs, h1, h2⟩ := A3.ob p _ hl
          have xw : Ext (wd X) M3 H3 (M3.upd p (.lst (l.set j d))) (upd H3 p (.lst (xs.set j v))) := Ext.write A3 hl
          refine .inl ⟨p, xs, kk, j, r2.ext x3, r3, h1, by rw [← h2.length]; exact hj, ?_⟩
          exact k.nx _ _ _ _ (((x1.trans x2).trans x3).trans xw) (AbsM.write A3 hl ⟨_, upd_same, (h2.ext xw).set (((r1.ext x2).ext x3).ext xw)⟩) (S3.ext xw) q3
        · exact q3.elim
      · exact q3.elim
    · rename_i kvs hl
      split at q3
      · rename_i kk hk
        obtain ⟨vs, h1, h2⟩ := A3.ob p _ hl
        obtain ⟨vs', e1, e2⟩ := put_rep (k := kk) ((r1.ext x2).ext x3) h2
        have xw : Ext (wd X) M3 H3 (M3.upd p (.dic (putD kvs kk d))) (upd H3 p (.dK (((putD kvs kk d).map (·.1)).zip vs'))) := Ext.write A3 hl
        have hy := keyD_rep r3 hk
        subst hy
        have hlen := h2.length
        refine .inr ⟨p, _, r2.ext x3, DPut.k (v := v) h1 (by rw [List.length_zip]; simp at hlen ⊢; omega), ?_⟩
        rw [e1]
        exact k.nx _ _ _ _ (((x1.trans x2).trans x3).trans xw) (AbsM.write A3 hl ⟨_, upd_same, e2.ext xw⟩) (S3.ext xw) q3.2
      · exact q3.elim
    · exact q3.elim
  · exact q3.elim
/-! ### loops -/
def whileD (tc : DTT) (tb : DTS) (D : DEnds) : Nat → DSt → Mp → Prop
  | 0, _, _ => False
  | n + 1, ρ, M => tc ρ M fun k M1 => if k = true then tb { D with nx := whileD tc tb D n, ct := whileD tc tb D n, bk := D.nx } ρ M1 else D.nx ρ M1
theorem DS.whl {body : List Stmt} (hp : PassesOwn (model X.prog X.w) X.A X.env X.xe) (hc : DC X c tc) (hb : DB X body t) : DS X (.While c body [] pos) (fun D ρ M => ∃ n, whileD tc t D n ρ M) := by
  obtain ⟨tt, h1, h2⟩ := hc.to
  refine DS.of (ps_while hp h1 pss_cB) fun σ H ρ M D De S A ⟨n, z⟩ k => ?_
  refine ⟨fun m σ' H' => ∃ ρ' M', Ext (wd X) M H M' H' ∧ AbsM (wd X) M' H' ∧ AbsS (wd X) M' H' ρ' σ' ∧ whileD tc t D m ρ' M', ⟨n, ρ, M, Ext.refl, A, S, z⟩, fun m σ' H' ⟨ρ', M', x, A', S', z'⟩ => ?_⟩
  cases m with
  | zero => exact z'.elim
  | succ m =>
    refine h2 σ' H' ρ' M' _ _ S' A' z' fun b M1 H1 x1 A1 q => ?_
    cases b with
    | false => exact k.nx ρ' σ' M1 H1 (x.trans x1) A1 (S'.ext x1) q
    | true =>
      have nxt : ∀ (ρ2 : DSt) (σ2 : L2.St) (M2 : Mp) (H2 : Hp), Ext (wd X) M1 H1 M2 H2 → AbsM (wd X) M2 H2 → AbsS (wd X) M2 H2 ρ2 σ2 → whileD tc t D m ρ2 M2 → ∃ ρ' M', Ext (wd X) M H M' H2 ∧ AbsM (wd X) M' H2 ∧ AbsS (wd X) M' H2 ρ' σ2 ∧ whileD tc t D m ρ' M' :=
        fun ρ2 σ2 M2 H2 x2 A2 S2 z2 => ⟨ρ2, M2, (x.trans x1).trans x2, A2, S2, z2⟩
      refine ⟨fun σ2 H2 => ∃ ρ' M', Ext (wd X) M H M' H2 ∧ AbsM (wd X) M' H2 ∧ AbsS (wd X) M' H2 ρ' σ2 ∧ whileD tc t D m ρ' M', fun σ2 H2 h => ⟨m, Nat.lt_succ_self m, h⟩, ?_⟩
      exact hb.to σ' H1 ρ' M1 _ _ (S'.ext x1) A1 q ⟨nxt, (k.ext (x.trans x1)).rt, (k.ext (x.trans x1)).nx, nxt⟩
def forD (ct : CT) (ok : Mp → Prop) (tb : DTS) (B : DEnds) : List D → DSt → Mp → Prop
  | [], ρ, M => ok M ∧ B.nx ρ M
  | x :: r, ρ, M => ok M ∧ bindT ct x ρ fun ρ' => tb { B with nx := forD ct ok tb B r, ct := forD ct ok tb B r, bk := B.nx } ρ' M
theorem forD_ok {ct : CT} {ok : Mp → Prop} {tb : DTS} {B : DEnds} {l : List D} {ρ : DSt} {M : Mp} (h : forD ct ok tb B l ρ M) : ok M := by
  cases l <;> exact h.1
theorem DS.for {tg iter : Expr} {body : List Stmt} {ct : CT} {ti : DTI} (hp : PassesOwn (model X.prog X.w) X.A X.env X.xe) (hc : X.calm = true) (hi : DI X tg iter ti) (hg : PG X tg (ct.g X.K)) (hb : DB X body t) (hs : ∀ x, foldedSetIterable iter X.env x = pure x) :
    DS X (.For tg iter body [] pos) (fun D ρ M => ti ρ M fun l okM M1 => forD ct okM t D l ρ M1) := by
  refine DS.of (ps_for hp hc pi_piT hg pss_cB hs) fun σ H ρ M D De S A z k => ?_
  refine piT_mono (hi.to σ H ρ M _ S A z) fun J H1 ⟨l, okM, M1, x, A1, G, q⟩ => ?_
  refine ⟨fun i m σ2 H2 => ∃ ρ2 M2, Ext (wd X) M1 H1 M2 H2 ∧ AbsM (wd X) M2 H2 ∧ AbsS (wd X) M2 H2 ρ2 σ2 ∧ i + m = l.length ∧ forD ct okM t D (l.drop i) ρ2 M2, ⟨l.length, ρ, M1, Ext.refl, A1, S.ext x, Nat.zero_add _, q⟩, fun i m σ2 H2 ⟨ρ2, M2, x2, A2, S2, em, w⟩ => ?_⟩
  have g := G M2 H2 x2 A2 (forD_ok w) i
  by_cases hlt : i < l.length
  · refine .inr ?_
    obtain ⟨go, yl⟩ := g.1 _ (List.getElem?_eq_getElem hlt)
    rw [List.drop_eq_getElem_cons hlt] at w
    obtain ⟨_, w⟩ := w
    refine ⟨go, fun σ3 H3 => ∃ ρ3 M3, Ext (wd X) M1 H1 M3 H3 ∧ AbsM (wd X) M3 H3 ∧ AbsS (wd X) M3 H3 ρ3 σ3 ∧ forD ct okM t D (l.drop (i + 1)) ρ3 M3, fun σ3 H3 ⟨ρ3, M3, h1, h2, h3, h4⟩ => ⟨m - 1, by omega, ρ3, M3, h1, h2, h3, by omega, h4⟩, fun v H3 hy => ?_⟩
    obtain ⟨x3, A3, r3⟩ := yl v H3 hy
    refine bindT_g rfl ct (vs := ct.at) (fun _ h => h) (S2.ext x3) r3 w fun ρ' σ' S' _ z' => ?_
    have xx := x2.trans x3
    have nxt : ∀ (ρ4 : DSt) (σ4 : L2.St) (M4 : Mp) (H4 : Hp), Ext (wd X) M2 H3 M4 H4 → AbsM (wd X) M4 H4 → AbsS (wd X) M4 H4 ρ4 σ4 → forD ct okM t D (l.drop (i + 1)) ρ4 M4 → ∃ ρ3 M3, Ext (wd X) M1 H1 M3 H4 ∧ AbsM (wd X) M3 H4 ∧ AbsS (wd X) M3 H4 ρ3 σ4 ∧ forD ct okM t D (l.drop (i + 1)) ρ3 M3 :=
      fun ρ4 σ4 M4 H4 x4 A4 S4 z4 => ⟨ρ4, M4, xx.trans x4, A4, S4, z4⟩
    have kk := k.ext (x.trans xx)
    exact hb.to σ' H3 ρ' M2 _ _ S' A3 z' ⟨nxt, kk.rt, kk.nx, nxt⟩
  · refine .inl ?_
    have hi' : i = l.length := by omega
    rw [hi', List.drop_length] at w
    exact ⟨g.2 hi', k.nx ρ2 σ2 M2 H2 (x.trans x2) A2 S2 w.2⟩
/-- name = [..], the name stored within the comprehension -/
theorem DS.setLc {elt tg iter : Expr} {ifs : List Expr} {scope : Scope} {cpos : Pos} {ct : CT} {own : List (Str × Nat)} {ti : DTI} {te : DTE} {tt : DTT} {fz : Bool} {i : Nat} {y : Str} {py : Pos} (hc : X.calm = true) (hN : X.N.Nodup) (hy : X.N[i]? = some y) (hyl : X.env.scope.names.lookup y = some .local)
    (hsw : swapsWith (.ListComp elt [⟨tg, iter, ifs, 0⟩] scope cpos) (some (.Name y py)) pos.line X.env = pure true) (hi : DI X tg iter ti) (ok : BlkOk X.N X.env.scope scope own)
    (hg : ∀ (s : Shared) (H : Hp) (C : Addr) (cl : List (Str × Addr)) (fp : List Addr), PG (X.blk s H scope (compEnvC scope cl C X.env) fp) tg (ct.g X.K))
    (ht : ∀ (s : Shared) (H : Hp) (C : Addr) (cl : List (Str × Addr)) (fp : List Addr), PTs (X.blk s H scope (compEnvC scope cl C X.env) fp) ifs (upC (wd X) tt))
    (he : ∀ (s : Shared) (H : Hp) (C : Addr) (cl : List (Str × Addr)) (fp : List Addr), DE (X.blk s H scope (compEnvC scope cl C X.env) fp) elt te)
    (hs : ∀ x, foldedSetIterable iter X.env x = pure x) (hat : ∀ i ∈ ct.at, i ∈ own.map (·.2)) :
    DS X (.Assign [.Name y py] (.ListComp elt [⟨tg, iter, ifs, 0⟩] scope cpos) pos) (fun D ρ M => ti ρ M fun l okM M1 => ∀ p, M1 p = none → cmpL fz okM (turnC ct (own.map (·.2)) tt te ρ) p (fun d M2 => D.nx (ρ.set i (some d)) M2) l (M1.upd p (.lst []))) :=
  DS.of (ps_setLc (te := upT (wd X) te) hc hN hy hyl hsw pi_piT ok hg ht (fun s H C cl fp => pe_upT (he s H C cl fp)) hs) fun σ H ρ M D De S A z k =>
    comp_core hi hat S A z fun v H' ⟨d, M', x, r, A', q⟩ => k.nx _ _ M' H' x A' ((S.ext x).set r) q
end
end Ow
namespace Ow
open PySem PySem.Spec PyProof.Rows L2
variable [Tb] [Og]
/-! ### methods of built-in types -/
def plainBase (e : Expr) : Bool := match e with | .Call _ [] [] _ => false | _ => true
theorem base_of {e : Expr} {f : Str} {env : Env} (h : plainBase e = true) : attributeBase e f env (eval e env) = eval e env := by
  unfold attributeBase
  split
  · cases h
  · rfl
inductive Meth where
  | get | pop | insert | split | join | startswith | index | lidx
def Meth.name : Meth → Str
  | .get => "get" | .pop => "pop" | .insert => "insert" | .split => "split" | .join => "join" | .startswith => "startswith" | .index => "index" | .lidx => "index"
def Meth.id : Meth → String
  | .get => "dict.get" | .pop => "list.pop" | .insert => "list.insert" | .split => "str.split" | .join => "str.join" | .startswith => "str.startswith" | .index => "str.index" | .lidx => "list.index"
def Meth.T : Meth → String
  | .get => "dict" | .pop => "list" | .insert => "list" | .split => "str" | .join => "str" | .startswith => "str" | .index => "str" | .lidx => "list"
def D.isStr : D → Bool
  | .str _ => true
  | _ => false
def rcvD (m : Meth) (d : D) (M : Mp) : Prop := match m with
  | .get => (dicIn M d).isSome = true
  | .pop => (listIn M d).isSome = true
  | .insert => (listIn M d).isSome = true
  | .split => d.isStr = true
  | .join => d.isStr = true
  | .startswith => d.isStr = true
  | .index => d.isStr = true
  | .lidx => (listIn M d).isSome = true
def strsOf : List D → Option (List Str)
  | [] => some []
  | .str i :: r => (strsOf r).map (i :: ·)
  | _ :: _ => none
theorem strsOf_rep {W : Wd} {M : Mp} {H : Hp} : ∀ {ds : List D} {xs : List V} {ns : List Str}, Reps W M H ds xs → strsOf ds = some ns → xs = ns.map V.str
  | [], _, _, r, e => by cases e; exact r
  | .str i :: ds, _, ns, r, e => by
    obtain ⟨v, vs, rfl, h1, h2⟩ := r
    unfold strsOf at e
    cases q : strsOf ds with
    | none => rw [q] at e; cases e
    | some ms =>
      rw [q] at e; cases e
      rw [strsOf_rep h2 q, show v = .str i from h1]; rfl
  | .non :: _, _, _, _, e => by cases e
  | .int _ :: _, _, _, _, e => by cases e
  | .bl _ :: _, _, _, _, e => by cases e
  | .tup _ :: _, _, _, _, e => by cases e
  | .lst _ :: _, _, _, _, e => by cases e
  | .ref _ :: _, _, _, _, e => by cases e
  | .scr _ :: _, _, _, _, e => by cases e
  | .dct _ _ :: _, _, _, _, e => by cases e
theorem strsOf_map (l : List Str) : strsOf (l.map D.str) = some l := by
  induction l with
  | nil => rfl
  | cons i r ih => show (strsOf (r.map D.str)).map (i :: ·) = _; rw [ih]; rfl
theorem reps_strs {W : Wd} {M : Mp} {H : Hp} (ns : List Str) : Reps W M H (ns.map D.str) (ns.map V.str) := by
  induction ns with
  | nil => rfl
  | cons i r ih => exact ⟨_, _, rfl, rfl, ih⟩
@[simp] def methD (m : Meth) (d : D) (ds : List D) (M : Mp) (Q : QE) : Prop := match m, ds with
  | .get, [k] => (match getDic M d k with
    | some o => Q (o.getD .non) M
    | none => False)
  | .get, [k, x] => (match getDic M d k with
    | some o => Q (o.getD x) M
    | none => False)
  | .pop, [] => (match d with
    | .ref a => (match M a with
      | some (.lst l) => (match l[l.length - 1]? with
        | some y => Q y (M.upd a (.lst l.dropLast))
        | none => False)
      | _ => False)
    | _ => False)
  | .pop, [.int i] => (match d with
    | .ref a => (match M a with
      | some (.lst l) => 0 ≤ i ∧ i < 2 ^ 62 ∧ (match l[i.toNat]? with
        | some y => Q y (M.upd a (.lst (l.eraseIdx i.toNat)))
        | none => False)
      | _ => False)
    | _ => False)
  | .insert, [.int i, y] => (match d with
    | .ref a => (match M a with
      | some (.lst l) => 0 ≤ i ∧ i < 2 ^ 62 ∧ l.length < sizeLine ∧ Q .non (M.upd a (.lst (l.take i.toNat ++ [y] ++ l.drop i.toNat)))
      | _ => False)
    | _ => False)
  | .split, [.str b] => (match d with
    | .str a => b.length ≠ 0 ∧ a.length + 2 ≤ sizeLine ∧ Q (.lst ((Txt.split a b).map D.str)) M
    | _ => False)
  | .join, [x] => (match d, (seqIn M x).bind strsOf with
    | .str a, some ys => (ys.map (·.length)).sum + ys.length * a.length ≤ 16777216 ∧ Q (.str (Txt.join a ys)) M
    | _, _ => False)
  | .startswith, [.str b] => (match d with
    | .str a => Q (.bl (Txt.startswith a b)) M
    | _ => False)
  | .index, [.str b] => (match d with
    | .str a => ∃ i rest, Builtin.Str.occurrences a b 0 a.length 1 = i :: rest ∧ Q (.int (i : Nat)) M
    | _ => False)
  | .lidx, [.int i] => (match (listIn M d).bind intsOf with
    | some ns => ∃ j, ns[j]? = some i ∧ (∀ m, m < j → ns[m]? ≠ some i) ∧ Q (.int (j : Nat)) M
    | none => False)
  | _, _ => False
theorem Reps.dropLast {W : Wd} {M : Mp} {H : Hp} {ds : List D} {vs : List V} (h : Reps W M H ds vs) : Reps W M H ds.dropLast vs.dropLast := by
  rw [List.dropLast_eq_take, List.dropLast_eq_take, ← h.length]
  exact h.take _
theorem Reps.erase {W : Wd} {M : Mp} {H : Hp} {ds : List D} {vs : List V} (h : Reps W M H ds vs) (i : Nat) : Reps W M H (ds.eraseIdx i) (vs.eraseIdx i) := by
  rw [List.eraseIdx_eq_take_drop_succ, List.eraseIdx_eq_take_drop_succ]
  exact (h.take i).append (h.drop (i + 1))
section
variable {X : Cx} {o : Expr} {es : List Expr} {to : DTE} {t : DTA} {apos pos : Pos}
theorem mt_get (hu : X.A.units + 1 < cLine) : MtR X "dict.get" (fun x xs H Q => ∃ a y r, x = .ref a ∧ DGet H a y r ∧ ((xs = [y] ∧ Q (r.getD .non) H) ∨ ∃ z, xs = [y, z] ∧ Q (r.getD z) H)) := by
  intro pins s σ H x xs v us Q I rx rs h
  obtain ⟨a, y, r, rfl, g, h⟩ := h
  cases rx
  rcases h with ⟨rfl, q⟩ | ⟨z, rfl, q⟩
  · obtain ⟨u, rfl, ru⟩ := vals1 rs
    exact d_get1 hu I g ru fun w' s3 I3 rw' => ⟨_, H, I3, rw', q⟩
  · obtain ⟨u, w, rfl, ru, rw⟩ := vals2 rs
    exact d_get2 hu I g ru rw fun w' s3 I3 rw' => ⟨_, H, I3, rw', q⟩
theorem meth_ok (hu : X.A.units + 1 < cLine) (m : Meth) : ∃ r, MtR X m.id r ∧ ∀ (d : D) (ds : List D) (x : V) (xs : List V) (M : Mp) (H : Hp) (Q : QE), AbsM (wd X) M H → Rep (wd X) M H d x → Reps (wd X) M H ds xs → methD m d ds M Q → r x xs H (lft (wd X) M H Q) := by
  cases m with
  | get =>
    refine ⟨_, mt_get hu, fun d ds x xs M H Q A r rs z => ?_⟩
    unfold methD at z; split at z <;> rename_i e1 <;> first | (cases e1; done) | skip
    all_goals first | exact z.elim | skip
    · rename_i k
      split at z
      · rename_i o e
        obtain ⟨v, rfl, r1⟩ := reps1 rs
        obtain ⟨a, w, rfl, g, n1, n2⟩ := getDic_rep A r r1 e
        refine ⟨a, v, w, rfl, g, .inl ⟨rfl, ?_⟩⟩
        cases o with
        | none => rw [n1 rfl]; exact lft.non A z
        | some d' => obtain ⟨u, e2, r2⟩ := n2 d' rfl; rw [e2]; exact lft.pure A r2 z
      · exact z.elim
    · rename_i k y
      split at z
      · rename_i o e
        obtain ⟨v, v2, rfl, r1, rr⟩ := reps2 rs
        obtain ⟨a, w, rfl, g, n1, n2⟩ := getDic_rep A r r1 e
        refine ⟨a, v, w, rfl, g, .inr ⟨v2, rfl, ?_⟩⟩
        cases o with
        | none => rw [n1 rfl]; exact lft.pure A rr z
        | some d' => obtain ⟨u, e2, r2⟩ := n2 d' rfl; rw [e2]; exact lft.pure A r2 z
      · exact z.elim
  | pop =>
    refine ⟨_, MtR.or mt_pop mt_popAt, fun d ds x xs M H Q A r rs z => ?_⟩
    unfold methD at z; split at z <;> rename_i e1 <;> first | (cases e1; done) | skip
    all_goals first | exact z.elim | skip
    · split at z
      · rename_i a
        split at z
        · rename_i l hl
          split at z
          · rename_i y hy
            obtain ⟨vs, h1, h2⟩ := A.ob a _ hl
            have xw : Ext (wd X) M H (M.upd a (.lst l.dropLast)) (upd H a (.lst vs.dropLast)) := Ext.write A hl
            obtain ⟨v, h3, h4⟩ := h2.get hy
            refine .inl ⟨a, vs, v, r, rs, h1, by rw [← h2.length]; exact h3, y, _, xw, h4.ext xw, AbsM.write A hl ⟨_, upd_same, h2.dropLast.ext xw⟩, z⟩
          · exact z.elim
        · exact z.elim
      · exact z.elim
    · rename_i i
      split at z
      · rename_i a
        split at z
        · rename_i l hl
          obtain ⟨z0, z1, z⟩ := z
          split at z
          · rename_i y hy
            obtain ⟨vs, h1, h2⟩ := A.ob a _ hl
            have xw : Ext (wd X) M H (M.upd a (.lst (l.eraseIdx i.toNat))) (upd H a (.lst (vs.eraseIdx i.toNat))) := Ext.write A hl
            obtain ⟨v, h3, h4⟩ := h2.get hy
            obtain ⟨w, rfl, rw⟩ := reps1 rs
            have hlt := (List.getElem?_eq_some_iff.mp h3).1
            refine .inr ⟨a, vs, i, i.toNat, v, r, by rw [show w = _ from rw], h1, by omega, by omega, ?_, h3, y, _, xw, h4.ext xw, AbsM.write A hl ⟨_, upd_same, (h2.erase _).ext xw⟩, z⟩
            exact seqIndex_of z0 (by omega)
          · exact z.elim
        · exact z.elim
      · exact z.elim
  | insert =>
    refine ⟨_, mt_insert, fun d ds x xs M H Q A r rs z => ?_⟩
    unfold methD at z; split at z <;> rename_i e1 <;> first | (cases e1; done) | skip
    all_goals first | exact z.elim | skip
    rename_i i y
    split at z
    · rename_i a
      split at z
      · rename_i l hl
        obtain ⟨z0, z1, z2, z⟩ := z
        obtain ⟨vs, h1, h2⟩ := A.ob a _ hl
        obtain ⟨w, w2, rfl, rw, r2⟩ := reps2 rs
        have xw : Ext (wd X) M H (M.upd a (.lst (l.take i.toNat ++ [y] ++ l.drop i.toNat))) (upd H a (.lst (vs.take i.toNat ++ [w2] ++ vs.drop i.toNat))) := Ext.write A hl
        refine ⟨a, vs, i, w2, r, by rw [show w = _ from rw], h1, by rw [← h2.length]; exact z2, z0, by omega, .non, _, xw, rfl, AbsM.write A hl ⟨_, upd_same, ?_⟩, z⟩
        exact ((((h2.take _).append (show Reps (wd X) M H [y] [w2] from ⟨w2, [], rfl, r2, rfl⟩))).append (h2.drop _)).ext xw
      · exact z.elim
    · exact z.elim
  | split =>
    refine ⟨_, mt_split, fun d ds x xs M H Q A r rs z => ?_⟩
    unfold methD at z; split at z <;> rename_i e1 <;> first | (cases e1; done) | skip
    all_goals first | exact z.elim | skip
    rename_i b
    split at z
    · rename_i a
      obtain ⟨w, rfl, rw⟩ := reps1 rs
      exact ⟨a, b, r, by rw [show w = _ from rw], by simpa using z.1, z.2.1, fun p hp => lft.newL A (reps_strs _) hp z.2.2⟩
    · exact z.elim
  | join =>
    refine ⟨_, mt_join, fun d ds x xs M H Q A r rs z => ?_⟩
    unfold methD at z; split at z <;> rename_i e1 <;> first | (cases e1; done) | skip
    all_goals first | exact z.elim | skip
    rename_i y
    split at z
    · rename_i a ys e
      obtain ⟨w, rfl, rw⟩ := reps1 rs
      cases q : seqIn M y with
      | none => rw [q] at e; cases e
      | some l =>
        rw [q] at e
        obtain ⟨p, vs, rfl, s, r2⟩ := seqIn_rep A rw q
        have ev := strsOf_rep r2 e
        subst ev
        exact ⟨a, p, ys, r, rfl, s, z.1, lft.str A z.2⟩
    · exact z.elim
  | startswith =>
    refine ⟨_, mt_startswith, fun d ds x xs M H Q A r rs z => ?_⟩
    unfold methD at z; split at z <;> rename_i e1 <;> first | (cases e1; done) | skip
    all_goals first | exact z.elim | skip
    rename_i b
    split at z
    · rename_i a
      obtain ⟨w, rfl, rw⟩ := reps1 rs
      exact ⟨a, b, r, by rw [show w = _ from rw], lft.bl A z⟩
    · exact z.elim
  | index =>
    refine ⟨_, mt_sindex, fun d ds x xs M H Q A r rs z => ?_⟩
    unfold methD at z; split at z <;> rename_i e1 <;> first | (cases e1; done) | skip
    all_goals first | exact z.elim | skip
    rename_i b
    split at z
    · rename_i a
      obtain ⟨w, rfl, rw⟩ := reps1 rs
      obtain ⟨i, rest, z1, z2⟩ := z
      exact ⟨a, b, i, rest, r, by rw [show w = _ from rw], z1, lft.int A z2⟩
    · exact z.elim
  | lidx =>
    refine ⟨_, mt_index, fun d ds x xs M H Q A r rs z => ?_⟩
    unfold methD at z; split at z <;> rename_i e1 <;> first | (cases e1; done) | skip
    all_goals first | exact z.elim | skip
    rename_i i
    split at z
    · rename_i ns e
      obtain ⟨w, rfl, rw⟩ := reps1 rs
      obtain ⟨a, rfl, hs⟩ := ints_seq A r e
      obtain ⟨j, z1, z2, z3⟩ := z
      refine ⟨a, ns.map V.int, .int i, j, .int i, rfl, by rw [show w = _ from rw], hs, rfl, ?_, by rw [List.getElem?_map, z1]; rfl, ?_, fun m z' hm hz => ?_, lft.int A z3⟩
      · rw [List.all_map, List.all_eq_true]
        intro _ _; rfl
      · show (i == i) = true
        exact beq_self_eq_true i
      · rw [List.getElem?_map] at hz
        cases hn : ns[m]? with
        | none => rw [hn] at hz; cases hz
        | some k =>
          rw [hn] at hz
          cases hz
          show (k == i) = false
          exact beq_eq_false_iff_ne.mpr fun z => z2 m hm (by rw [hn, z])
    · exact z.elim
/-- a method's call, as one transformer -/
def cM (X : Cx) (id : String) : V → List V → Hp → VK → Prop := fun x xs H Q => ∀ (pins : List (Addr × Obj)) (s : Shared) (σ : L2.St) (v : Value) (us : List Value), Inv X pins σ H s → L2.RelV x v → Vals xs us → wpAny (model X.prog X.w) X.A (call (.builtin id) (v :: us)) (EP X pins σ Q) X.xe s
theorem mt_cM {id : String} : MtR X id (cM X id) := fun pins s σ H x xs v us Q I r rs h => h pins s σ v us I r rs
theorem cM_mono {id : String} {x : V} {xs : List V} {H : Hp} {Q Q' : VK} (h : cM X id x xs H Q) (m : ∀ v H', Q v H' → Q' v H') : cM X id x xs H Q' := fun pins s σ v us I r rs =>
  thn (h pins s σ v us I r rs) fun _ _ ⟨v, H', I', rv, q⟩ => ⟨v, H', I', rv, m v H' q⟩
theorem meth_cM (hu : X.A.units + 1 < cLine) (m : Meth) {d : D} {ds : List D} {x : V} {xs : List V} {M : Mp} {H : Hp} {Q : QE} (A : AbsM (wd X) M H) (r : Rep (wd X) M H d x) (rs : Reps (wd X) M H ds xs) (z : methD m d ds M Q) : cM X m.id x xs H (lft (wd X) M H Q) := by
  obtain ⟨r', h1, h2⟩ := meth_ok hu m
  exact fun pins s σ v us I w1 w2 => h1 pins s σ H x xs v us _ I w1 w2 (h2 d ds x xs M H Q A r rs z)
theorem Meth.pa (m : Meth) : PlainAttrs m.T := by
  cases m
  · exact PySem.F.plainAttrs_dict
  · exact PySem.F.plainAttrs_list
  · exact PySem.F.plainAttrs_list
  · exact PySem.F.plainAttrs_str
  · exact PySem.F.plainAttrs_str
  · exact PySem.F.plainAttrs_str
  · exact PySem.F.plainAttrs_str
  · exact PySem.F.plainAttrs_list
theorem Meth.sl (m : Meth) : Slot m.T m.name m.id := by
  cases m
  · exact PySem.F.slot_dict_get
  · exact PySem.F.slot_list_pop
  · exact PySem.F.slot_list_insert
  · exact PySem.F.slot_str_split
  · exact PySem.F.slot_str_join
  · exact PySem.F.slot_str_startswith
  · exact PySem.F.slot_str_index
  · exact PySem.F.slot_list_index
theorem Meth.ty (m : Meth) : typeOf (.builtin m.id) = pure (.type "method_descriptor") := by
  cases m
  · exact PySem.F.type_dict_get
  · exact PySem.F.type_list_pop
  · exact PySem.F.type_list_insert
  · exact PySem.F.type_str_split
  · exact PySem.F.type_str_join
  · exact PySem.F.type_str_startswith
  · exact PySem.F.type_str_index
  · exact PySem.F.type_list_index
theorem tyV_list {W : Wd} {M : Mp} {H : Hp} {d : D} {x : V} (A : AbsM W M H) (r : Rep W M H d x) (h : (listIn M d).isSome = true) : tyV W.K "list" x H := by
  cases q : listIn M d with
  | none => rw [q] at h; cases h
  | some l =>
    obtain ⟨a, xs, rfl, s, _⟩ := listIn_rep A r q
    exact .inl ⟨rfl, xs, SqL.of s⟩
theorem rcv_ty {M : Mp} {H : Hp} (A : AbsM (wd X) M H) (m : Meth) {d : D} {x : V} (r : Rep (wd X) M H d x) (h : rcvD m d M) : tyV X.K m.T x H := by
  have str : d.isStr = true → tyV X.K "str" x H := by
    intro h
    cases d <;> first | (cases h; done) | skip
    rw [show x = _ from r]; exact rfl
  cases m with
  | get =>
    have h' : (dicIn M d).isSome = true := h
    cases q : dicIn M d with
    | none => rw [q] at h'; cases h'
    | some l =>
      obtain ⟨a, xs, rfl, s, _⟩ := dicIn_rep A r q
      exact .inr (.inr (.inl ⟨rfl, .inl ⟨_, s⟩⟩))
  | pop => exact tyV_list A r h
  | insert => exact tyV_list A r h
  | split => exact str h
  | join => exact str h
  | startswith => exact str h
  | index => exact str h
  | lidx => exact tyV_list A r h
theorem few_all {es : List Expr} {env : Env} {cpos : Pos} (h : es.all notStar = true) (hl : es.length < 29) : ((backTo cpos (starEach es env)).all (fun x => !x.1) && (backToKw cpos (keywordEach [] env)).all (fun x => x.1.isSome)
      && decide (es.length + ([] : List Keyword).length + (if ([] : List Keyword).isEmpty then 0 else 1) < 30)) = true := by
  have h1 : (backTo cpos (starEach es env)).all (fun x => !x.1) = true := by
    have := star_none (pos := cpos) (env := env) h
    rw [List.any_eq_false] at this
    rw [List.all_eq_true]
    intro x hx
    have := this x hx
    simpa using this
  have h2 : (backToKw cpos (keywordEach [] env)).all (fun x => x.1.isSome) = true := rfl
  rw [h1, h2]
  simp
  omega
theorem DE.meth (hu : X.A.units + 1 < cLine) (m : Meth) (ho : DE X o to) (h : DA X es t) (hb : plainBase o = true) (hl : (apos.endLine == pos.line) = true) (hs : es.all notStar = true) (hn : es.length < 29) (hnil : es = [] → ∀ ρ M Q, t ρ M Q → Q [] M) :
    DE X (.Call (.Attribute o m.name apos) es [] pos) (fun ρ M Q => to ρ M fun d M1 => rcvD m d M1 ∧ t ρ M1 fun ds M2 => methD m d ds M2 Q) := by
  cases es with
  | nil =>
    refine DE.of (pe_bm0 m.pa m.sl m.ty mt_cM pe_cT (base_of hb) hl) fun σ H ρ M Q S A z => ?_
    exact ho.bind S A z fun v d M1 H1 x r1 A1 S1 q => ⟨rcv_ty A1 m r1 q.1, cM_mono (meth_cM (ds := []) (xs := []) hu m A1 r1 rfl (hnil rfl _ _ _ q.2)) fun _ _ q' => q'.trans x⟩
  | cons e es =>
    have hs' := hs
    rw [List.all_cons, Bool.and_eq_true] at hs
    refine DE.of (pe_bm m.pa m.sl m.ty mt_cM pe_cT pa_cA (base_of hb) (few_all hs' hn) hl (star_cons hs.1) (star_none hs.2)) fun σ H ρ M Q S A z => ?_
    refine ho.bind S A z fun v d M1 H1 x r1 A1 S1 q => ⟨rcv_ty A1 m r1 q.1, h.bind S1 A1 q.2 fun vs ds M2 H2 x2 rs A2 S2 q2 => ?_⟩
    exact cM_mono (meth_cM hu m A2 (r1.ext x2) rs q2) fun _ _ q' => (q'.trans x2).trans x
end
end Ow
namespace Ow
open PySem PySem.Spec PyProof.Rows L2
variable [Tb] [Og]
/-! ### dict(zip(a, b)) -/
theorem drawsB {X : Cx} {pins : List (Addr × Obj)} {σ : L2.St} {H : Hp} {s : Shared} {prog : Program} {w : World} {k : Bool} {a it : Addr} {xs : List V} (I : Inv X pins σ H s) (h : SqK k X.K H a xs) (hne : a ≠ it) :
    ∃ (its : List Value) (St : Nat → Heap → Prop), Vals xs its ∧ (∀ A : Around, A.handled = none → Draws prog w A it [it, a] its.length (fun i v => its[i]? = some v) St) ∧ (IterK k s.heap it a 0 → St 0 s.heap) ∧ ∃ o, s.heap.get? a = some o := by
  cases k with
  | true =>
    obtain ⟨its, rv, p, _⟩ := I.tuple h
    refine ⟨its, fun i h => h.IsTupleIter it a i ∧ h.IsTuple a its.toArray, rv, fun A hh => ?_, fun q => ⟨q, p⟩, ?_⟩
    · have D := Draws.tuple (prog := prog) (w := w) (A := A) hh it a hne its.toArray
      simpa using D
    · obtain ⟨o, ho, _⟩ := p; exact ⟨o, ho⟩
  | false =>
    obtain ⟨its, rv, p, _⟩ := I.list h
    refine ⟨its, fun i h => h.IsListIter it a i ∧ h.IsList a its.toArray, rv, fun A hh => ?_, fun q => ⟨q, p.isList⟩, ?_⟩
    · have D := Draws.list (prog := prog) (w := w) (A := A) hh it a hne its.toArray
      simpa using D
    · obtain ⟨o, n, ho, _⟩ := p; exact ⟨o, ho⟩
theorem pairarg2 {prog : Program} {w : World} {z TI TO i1 i2 l1 l2 : Addr} {xs ys : List Value} {St1 St2 : Nat → Heap → Prop} (Z : ZipSep2 z TI TO i1 i2 [i1, l1] [i2, l2])
    (D1 : ∀ A : Around, A.handled = none → Draws prog w A i1 [i1, l1] xs.length (fun i v => xs[i]? = some v) St1) (D2 : ∀ A : Around, A.handled = none → Draws prog w A i2 [i2, l2] ys.length (fun i v => ys[i]? = some v) St2) :
    PairArg prog w "zip" z [z, TI, TO, i1, i2, l1, l2] [z, TO, i1, i2] (min xs.length ys.length) (fun i k v => xs[i]? = some k ∧ ys[i]? = some v)
      (fun h => IsZip h z TI TO .none ∧ IsTupOf2 h TI (.ref i1) (.ref i2) ∧ (∃ x y, IsTupOf2 h TO x y) ∧ St1 0 h ∧ St2 0 h ∧ (∃ o, h.get? i1 = some o) ∧ (∃ o, h.get? i2 = some o) ∧ (∃ o, h.get? l1 = some o) ∧ ∃ o, h.get? l2 = some o) where
  type := fun s ok => ⟨_, ok.1, rfl⟩
  notDict := by decide
  keep := fun h h' ⟨q1, q2, ⟨x, y, q3⟩, q4, q5, ⟨o1, e1⟩, ⟨o2, e2⟩, ⟨o3, e3⟩, ⟨o4, e4⟩⟩ hk =>
    ⟨hk _ _ q1, hk _ _ q2, ⟨x, y, hk _ _ q3⟩, (D1 callerA rfl).frame _ _ _ q4 fun b _ o e => hk b o e, (D2 callerA rfl).frame _ _ _ q5 fun b _ o e => hk b o e, ⟨o1, hk _ _ e1⟩, ⟨o2, hk _ _ e2⟩, ⟨o3, hk _ _ e3⟩, ⟨o4, hk _ _ e4⟩⟩
  there := fun h ⟨q1, q2, ⟨x, y, q3⟩, q4, q5, e1, e2, e3, e4⟩ b hb => by
    simp only [List.mem_cons, List.not_mem_nil, or_false] at hb
    rcases hb with rfl | rfl | rfl | rfl | rfl | rfl | rfl
    · exact ⟨_, q1⟩
    · exact ⟨_, q2⟩
    · exact ⟨_, q3⟩
    · exact e1
    · exact e2
    · exact e3
    · exact e4
  sub := fun b hb => by simp at hb ⊢; rcases hb with rfl | rfl | rfl | rfl <;> simp
  noKeys := fun A s Q E hA ok h => getAttrOr_miss_zip ok.1 rfl rfl rfl zip_no_keys (by decide +kernel) hA h
  iter := fun A s d Q E hA ok hd hdf h => by
    obtain ⟨q1, q2, q3, q4, q5, _⟩ := ok
    simp only [List.mem_cons, List.not_mem_nil, or_false, not_or] at hdf
    obtain ⟨dz, dTI, dTO, di1, di2, dl1, dl2⟩ := hdf
    have W := tsrc2 (A := A) (S := d) Z (D1 A.in1 hA) (D2 A.in1 hA) (Ne.symm dz) (Ne.symm dTI) (Ne.symm dTO) (by simp; exact ⟨di1, dl1⟩) (by simp; exact ⟨di2, dl2⟩)
    refine wpAny_pyIter_zip q1 (h z [z, TO, i1, i2] (fun i h => ZipAt z TI TO d [i1, i2] i h ∧ IsTupOf2 h TI (.ref i1) (.ref i2) ∧ (∃ x y, IsTupOf2 h TO x y) ∧ St1 i h ∧ St2 i h) s.heap s.toks ?_ ⟨.inl ⟨rfl, q1⟩, q2, q3, q4, q5⟩ (fun _ _ e => e) fun b hb => .inl hb)
    exact {
      off := fun hm => by
        simp only [List.mem_cons, List.not_mem_nil, or_false] at hm
        rcases hm with e | e | e | e
        · exact dz e
        · exact dTO e
        · exact di1 e
        · exact di2 e
      frame := W.frame
      item := fun i s₁ Q₁ E₁ hi st hds hQ => by
        refine W.item i s₁ Q₁ E₁ hi st hds fun h' tk st' ht _ hk => ?_
        have hi1 : i < xs.length := by omega
        have hi2 : i < ys.length := by omega
        have er : [xs.getD i Value.none, ys.getD i Value.none] = [xs[i], ys[i]] := by
          simp [List.getD_eq_getElem?_getD, List.getElem?_eq_getElem hi1, List.getElem?_eq_getElem hi2]
        have ht' : h'.get? s₁.heap.objs.size = some { cls := .type "tuple", data := .seq [xs[i], ys[i]].toArray } := by rw [← er]; exact ht
        exact hQ _ _ _ h' tk ⟨List.getElem?_eq_getElem hi1, List.getElem?_eq_getElem hi2⟩ (.inl ⟨_, ht', rfl, 0, rfl⟩) st' hk
      done := W.done }
def mergeD (kvs more : List (Key × D)) : List (Key × D) := more.foldl (fun acc kv => putD acc kv.1 kv.2) kvs
theorem merge_rep {W : Wd} {M : Mp} {H : Hp} : ∀ {more : List (Key × D)} {us : List V} {kvs : List (Key × D)} {vs : List V}, Reps W M H (more.map (·.2)) us → Reps W M H (kvs.map (·.2)) vs →
    ∃ vs', mergeK ((kvs.map (·.1)).zip vs) ((more.map (·.1)).zip us) = ((mergeD kvs more).map (·.1)).zip vs' ∧ Reps W M H ((mergeD kvs more).map (·.2)) vs'
  | [], _, kvs, vs, r, r0 => by rw [show _ = _ from r]; exact ⟨vs, rfl, r0⟩
  | kv :: more, _, kvs, vs, r, r0 => by
    obtain ⟨u, w, rfl, h1, h2⟩ := r
    obtain ⟨vs1, e1, r1⟩ := put_rep (k := kv.1) h1 r0
    obtain ⟨vs2, e2, r2⟩ := merge_rep h2 r1
    refine ⟨vs2, ?_, r2⟩
    rw [← e1] at e2
    exact e2
def keysD : List D → Option (List Key)
  | [] => some []
  | d :: r => match keyD d, keysD r with
    | some k, some ks => some (k :: ks)
    | _, _ => none
theorem keysD_rep {W : Wd} {M : Mp} {H : Hp} : ∀ {l : List D} {xs : List V} {ks : List Key}, Reps W M H l xs → keysD l = some ks → xs = ks.map kV
  | [], _, _, r, e => by cases e; exact r
  | d :: l, _, ks, r, e => by
    obtain ⟨v, w, rfl, h1, h2⟩ := r
    unfold keysD at e
    split at e
    · rename_i k ks' e1 e2
      cases e
      rw [keyD_rep h1 e1, keysD_rep h2 e2]; rfl
    · cases e
theorem zip_reps {W : Wd} {M : Mp} {H : Hp} : ∀ {ks : List Key} {l : List D} {xs : List V}, Reps W M H l xs → (ks.zip l).map (·.1) = (ks.zip xs).map (·.1) ∧ Reps W M H ((ks.zip l).map (·.2)) ((ks.zip xs).map (·.2))
  | [], _, _, _ => ⟨rfl, rfl⟩
  | _ :: _, [], _, r => by rw [show _ = _ from r]; exact ⟨rfl, rfl⟩
  | k :: ks, d :: l, _, r => by
    obtain ⟨v, w, rfl, h1, h2⟩ := r
    obtain ⟨e1, e2⟩ := zip_reps (ks := ks) h2
    exact ⟨by rw [List.zip_cons_cons, List.zip_cons_cons, List.map_cons, List.map_cons, e1], _, _, rfl, h1, e2⟩
theorem zip_self {α β : Type} : ∀ l : List (α × β), (l.map (·.1)).zip (l.map (·.2)) = l
  | [] => rfl
  | p :: l => by rw [List.map_cons, List.map_cons, List.zip_cons_cons, zip_self l]
theorem zip_kv : ∀ {ks : List Key} {xs : List V} {us : List Value}, Vals xs us → L2.KV (ks.zip xs) (ks.zip us)
  | [], _, _, _ => .nil
  | _ :: _, _, _, .nil => .nil
  | k :: ks, _, _, .cons r t => .cons ⟨rfl, r⟩ (zip_kv t)
theorem DE.dzip {X : Cx} {e e2 : Expr} {t : DTA} {p p0 pos pos0 : Pos} (hgl : Gl X "dict") (hml : X.mg "dict" = none) (hg : Gl X "zip") (hm : X.mg "zip" = none) (h : DA X [e, e2] t) (hs : notStar e = true) (hs2 : notStar e2 = true) (hh : X.A.handled = none) :
    DE X (.Call (.Name "dict" p0) [.Call (.Name "zip" p) [e, e2] [] pos] [] pos0) (fun ρ M Q => t ρ M fun ds M1 => ∃ d1 d2 l1 l2 ks, ds = [d1, d2] ∧ seqIn M1 d1 = some l1 ∧ seqIn M1 d2 = some l2 ∧ keysD l1 = some ks ∧ l1.length ≤ sizeLine ∧ ∀ p, M1 p = none → Q (.ref p) (M1.upd p (.dic (mergeD [] (ks.zip l2))))) := by
  refine ⟨fun σ H ρ M Q S A z pins s I => ?_⟩
  refine wpAny_Call_Name_kw (ld_blt I hgl hml (by decide +kernel : bootBuiltins "dict" = some (.type "dict")) (PyProof.Rows.callWith_type1 (Calls.spliced_cons ?_) rfl rfl))
  refine Call_ (ld_blt I hg hm PyProof.Rows.boot_zip (PyProof.Rows.callWith_type1 (thn (h.to σ H ρ M _ S A z pos pins s I) fun us s1 ⟨vs, H1, I1, rv, ds, M1, x, r, A1, q⟩ => ?_) (star_cons hs) (star_none (by rw [List.all_cons, hs2]; rfl))))
  obtain ⟨d1, d2, l1, l2, ks, rfl, e1, e2, ek, hlen, q⟩ := q
  obtain ⟨v1, v2, rfl, r1, r2⟩ := reps2 r
  obtain ⟨a, xs, rfl, sx, rx⟩ := seq_kind A1 r1 e1
  obtain ⟨b, ys, rfl, sy, ry⟩ := seq_kind A1 r2 e2
  obtain ⟨u1, u2, rfl, w1, w2⟩ := vals2 rv
  cases w1; cases w2
  obtain ⟨P1, B1, p1⟩ := kind_begins I1 sx
  obtain ⟨P2, B2, p2⟩ := kind_begins I1 sy
  have la := SqK.lt I1 sx
  have lb := SqK.lt I1 sy
  refine zip_begins2 B1 B2 p1 p2 fun h' hz hTI hTO h1 h2 hsz hk => ?_
  have I2 : Inv X pins σ H1 { s1 with heap := h' } := I1.kept (t' := s1.toks) hk
  have Z := zip_sep2 (fp1 := [a]) (fp2 := [b]) (by simpa using la) (by simpa using lb)
  obtain ⟨its1, St1, vx, D1, s10, ex⟩ := drawsB (prog := X.prog) (w := X.w) I2 sx (Nat.ne_of_lt la)
  obtain ⟨its2, St2, vy, D2, s20, ey⟩ := drawsB (prog := X.prog) (w := X.w) I2 sy (Nat.ne_of_lt (Nat.lt_succ_of_lt lb))
  have P := pairarg2 Z D1 D2
  refine Calls.spliced_nil ?_
  have xl := vx.length
  have yl := vy.length
  have ll1 := rx.length
  have ll2 := ry.length
  have exs := keysD_rep rx ek
  have lk : ks.length = l1.length := by rw [ll1, exs, List.length_map]
  have it1 : ∃ o, h'.get? s1.heap.objs.size = some o := (D1 callerA rfl).live _ _ (s10 (IterK.new h1))
  have it2 : ∃ o, h'.get? (s1.heap.objs.size + 1) = some o := (D2 callerA rfl).live _ _ (s20 (IterK.new h2))
  obtain ⟨er, rr⟩ := zip_reps (ks := ks) ry
  obtain ⟨vs', em, rm⟩ := merge_rep (kvs := []) (vs := []) rr rfl
  rw [er, zip_self] at em
  have em' : mergeK [] (ks.zip ys) = ((mergeD [] (ks.zip l2)).map (·.1)).zip vs' := em
  have kv := zip_kv (ks := ks) vy
  have hl1 : its1.length = ks.length := by rw [← xl, exs, List.length_map]
  refine PySem.call_dict_pairs (knd := mixKind X.prog X.w) (kvs := ks.zip its2) (s := { s1 with heap := h' }) P hh ⟨hz, hTI, ⟨_, _, hTO⟩, s10 (IterK.new h1), s20 (IterK.new h2), it1, it2, ex, ey⟩ ⟨?_, fun i key v hr => ?_⟩ ?_ fun h2' tk hd' hk2 => ?_
  · rw [List.length_zip, hl1]
  · obtain ⟨g1, g2⟩ := hr
    have hi : i < ks.length := by rw [← hl1]; exact (List.getElem?_eq_some_iff.mp g1).1
    refine ⟨ks[i], List.getElem?_zip_eq_some.mpr ⟨List.getElem?_eq_getElem hi, g2⟩, ?_⟩
    obtain ⟨u, e3, e4⟩ := vx.get (show xs[i]? = some (kV ks[i]) by rw [exs, List.getElem?_map, List.getElem?_eq_getElem hi]; rfl)
    rw [g1] at e3
    cases e3
    exact kV_is e4
  · have : its1.length ≤ sizeLine := by rw [hl1, lk]; exact hlen
    omega
  · have hk3 : ∀ b' u, s1.heap.get? b' = some u → h2'.get? b' = some u := fun b' u hb => by
      have hlt : b' < s1.heap.objs.size := Heap.lt_size hb
      refine hk2 b' u (fun hc => ?_) (hk b' u hb)
      simp at hc
      rcases hc with rfl | rfl | rfl | rfl <;> first | exact Nat.not_lt.mpr (Nat.le_add_right _ _) hlt | exact Nat.lt_irrefl _ hlt
    have hsz2 : s1.heap.objs.size ≤ h'.objs.size := by rw [hsz]; exact Nat.le_add_right _ _
    have hm2 : (h'.objs.size == sysModules) = false := beq_eq_false_iff_ne.mpr (Nat.ne_of_gt (Nat.lt_of_lt_of_le I1.big hsz2))
    have hn := I1.hok.fresh hsz2
    have hz2 : (mergeK [] (ks.zip ys)).length ≤ sizeLine := by
      refine Nat.le_trans (length_mergeK _ []) ?_
      rw [List.length_nil, Nat.zero_add, List.length_zip, lk]
      omega
    have x2 : Ext (wd X) M1 H1 (M1.upd h'.objs.size (.dic (mergeD [] (ks.zip l2)))) (upd H1 h'.objs.size (.dK (mergeK [] (ks.zip ys)))) := Ext.freshM A1 hn
    refine ⟨.ref h'.objs.size, upd H1 h'.objs.size (.dK (mergeK [] (ks.zip ys))), I1.laid (t' := tk) hk3 hsz2 (show ObjOk X.prog X.w _ _ _ (.dK (mergeK [] (ks.zip ys))) from ⟨hz2, hm2, merged [] (ks.zip its2), KV.merge kv .nil, hd'⟩), rfl, .ref h'.objs.size, _, x.trans x2, rfl, AbsM.freshM A1 hn ⟨vs', ?_, rm.ext x2⟩, q _ (A1.free hn)⟩
    rw [upd_same, em']
end Ow
namespace Ow
open PySem PySem.Spec PyProof.Rows L2
variable [Tb] [Og]
/-! ### operations on arguments that are evaluated one after another -/
def DEs (X : Cx) : List Expr → List DTE → Prop
  | [], [] => True
  | e :: es, t :: ts => DE X e t ∧ DEs X es ts
  | _, _ => False
@[simp] def seqT : List DTE → DTA
  | [], _, M, Q => Q [] M
  | t :: ts, ρ, M, Q => t ρ M fun d M1 => seqT ts ρ M1 fun ds M2 => Q (d :: ds) M2
theorem DEs.da {X : Cx} : ∀ {es : List Expr} {ts : List DTE}, DEs X es ts → es.all notStar = true → DA X es (seqT ts)
  | [], [], _, _ => ⟨fun σ H ρ M Q S A z => DA.nil.to σ H ρ M Q S A z⟩
  | e :: es, t :: ts, h, s => by
    rw [List.all_cons, Bool.and_eq_true] at s
    exact ⟨fun σ H ρ M Q S A z => (DA.cons h.1 (DEs.da h.2 s.2) s.1).to σ H ρ M Q S A z⟩
inductive Op where
  | lzip2 (fz : Bool) | lzip3 (fz : Bool) | dzip | dnew | dnil | lrng (fz : Bool) | lrng2 (fz : Bool) | lrng3 (fz : Bool) | trng
@[simp] def opD (k : Op) (ds : List D) (M : Mp) (Q : QE) : Prop := match k with
  | .lzip2 fz => itD .zip2 ds M fun l _ M2 => l.length ≤ sizeLine ∧ if fz = true then Q (.lst l) M2 else ∀ p, M2 p = none → Q (.ref p) (M2.upd p (.lst l))
  | .lzip3 fz => itD .zip3 ds M fun l _ M2 => l.length ≤ sizeLine ∧ if fz = true then Q (.lst l) M2 else ∀ p, M2 p = none → Q (.ref p) (M2.upd p (.lst l))
  | .dzip => ∃ d1 d2 l1 l2 ks, ds = [d1, d2] ∧ seqIn M d1 = some l1 ∧ seqIn M d2 = some l2 ∧ keysD l1 = some ks ∧ l1.length ≤ sizeLine ∧ ∀ p, M p = none → Q (.ref p) (M.upd p (.dic (mergeD [] (ks.zip l2))))
  | .dnew => ∀ p, M p = none → Q (.ref p) (M.upd p (.dic []))
  | .dnil => Q (.dct [] []) M
  | .lrng fz => ∃ n : Int, ds = [.int n] ∧ n ≤ 16777216 ∧ rngOk n ∧ if fz = true then Q (.lst ((List.range n.toNat).map fun (i : Nat) => D.int (i : Int))) M else ∀ p, M p = none → Q (.ref p) (M.upd p (.lst ((List.range n.toNat).map fun (i : Nat) => D.int (i : Int))))
  | .lrng2 fz => ∃ i j : Int, ds = [.int i, .int j] ∧ RgOk i j ∧ if fz = true then Q (.lst ((List.range (j - i).toNat).map fun (k : Nat) => D.int (i + (k : Int)))) M else ∀ p, M p = none → Q (.ref p) (M.upd p (.lst ((List.range (j - i).toNat).map fun (k : Nat) => D.int (i + (k : Int)))))
  | .lrng3 fz => ∃ n k : Int, ds = [.int 0, .int n, .int k] ∧ 0 ≤ n ∧ n ≤ 16777216 ∧ 1 ≤ k ∧ k ≤ 16777216 ∧
    if fz = true then Q (.lst ((List.range (Builtin.Range.rangeSize 0 n k).toNat).map fun (i : Nat) => D.int ((i : Int) * k))) M else ∀ p, M p = none → Q (.ref p) (M.upd p (.lst ((List.range (Builtin.Range.rangeSize 0 n k).toNat).map fun (i : Nat) => D.int ((i : Int) * k))))
  | .trng => ∃ n : Int, ds = [.int n] ∧ n ≤ 16777216 ∧ rngOk n ∧ Q (.tup ((List.range n.toNat).map fun (i : Nat) => D.int (i : Int))) M
def glB (sc : Scope) (x : Str) : Bool := match sc.names.lookup x with | some .globalImplicit => true | _ => false
/-- the arguments, where the expression is of that form -/
def opArgs (sc : Scope) (k : Op) (e : Expr) : Option (List Expr) := match k, e with
  | .lzip2 _, .Call (.Name f _) [.Call (.Name g _) [a, b] [] _] [] _ => if decide (f = "list") && decide (g = "zip") && glB sc f && glB sc g then some [a, b] else none
  | .lzip3 _, .Call (.Name f _) [.Call (.Name g _) [a, b, c] [] _] [] _ => if decide (f = "list") && decide (g = "zip") && glB sc f && glB sc g then some [a, b, c] else none
  | .dzip, .Call (.Name f _) [.Call (.Name g _) [a, b] [] _] [] _ => if decide (f = "dict") && decide (g = "zip") && glB sc f && glB sc g then some [a, b] else none
  | .dnew, .Dict [] [] _ => some []
  | .dnil, .Dict [] [] _ => some []
  | .lrng _, .Call (.Name f _) [.Call (.Name g _) [a] [] _] [] _ => if decide (f = "list") && decide (g = "range") && glB sc f && glB sc g then some [a] else none
  | .lrng2 _, .Call (.Name f _) [.Call (.Name g _) [a, b] [] _] [] _ => if decide (f = "list") && decide (g = "range") && glB sc f && glB sc g then some [a, b] else none
  | .lrng3 _, .Call (.Name f _) [.Call (.Name g _) [a, b, c] [] _] [] _ => if decide (f = "list") && decide (g = "range") && glB sc f && glB sc g then some [a, b, c] else none
  | .trng, .Call (.Name f _) [.Call (.Name g _) [a] [] _] [] _ => if decide (f = "tuple") && decide (g = "range") && glB sc f && glB sc g then some [a] else none
  | _, _ => none
theorem Inv.hn {X : Cx} {pins : List (Addr × Obj)} {σ : L2.St} {H : Hp} {s : Shared} (I : Inv X pins σ H s) (hc : X.calm = true) : X.A.handled = none := I.ok.hd hc
theorem DE.hn {X : Cx} {e : Expr} {t : DTE} (hc : X.calm = true) (h : X.A.handled = none → DE X e t) : DE X e t :=
  ⟨fun σ H ρ M Q S A z pins s I => (h (I.ok.hd hc)).to σ H ρ M Q S A z pins s I⟩
theorem DE.dnew {X : Cx} {pos : Pos} : DE X (.Dict [] [] pos) (fun _ M Q => ∀ p, M p = none → Q (.ref p) (M.upd p (.dic []))) := by
  refine DE.of pe_dnewK fun σ H ρ M Q S A z p hp => ?_
  have x : Ext (wd X) M H (M.upd p (.dic [])) (upd H p (.dK [])) := Ext.freshM A hp
  exact ⟨.ref p, _, x, rfl, AbsM.freshM A hp ⟨[], upd_same, rfl⟩, z p (A.free hp)⟩
theorem DE.dnil {X : Cx} {pos : Pos} : DE X (.Dict [] [] pos) (fun _ M Q => Q (.dct [] []) M) :=
  DE.of pe_dnewK fun σ H ρ M Q S A z p hp => ⟨.dct [] [], M, Ext.fresh hp, ⟨p, [], rfl, A.free hp, upd_same, rfl, rfl⟩, A.fresh hp, z⟩
theorem reps_rg {W : Wd} {M : Mp} {H : Hp} : ∀ l : List Nat, Reps W M H (l.map fun (i : Nat) => D.int (i : Int)) (l.map fun (i : Nat) => V.int (0 + (i : Int)))
  | [] => rfl
  | i :: l => ⟨_, _, rfl, by show V.int (0 + (i : Int)) = V.int (i : Int); rw [Int.zero_add], reps_rg l⟩
theorem DE.lrng {X : Cx} {e : Expr} {t : DTE} {p p0 pos pos0 : Pos} {fz : Bool} (hc : X.calm = true) (hgl : Gl X "list") (hml : X.mg "list" = none) (hg : Gl X "range") (hm : X.mg "range" = none) (he : DE X e t) (hs : notStar e = true) :
    DE X (.Call (.Name "list" p0) [.Call (.Name "range" p) [e] [] pos] [] pos0) (fun ρ M Q => t ρ M fun d M1 => opD (.lrng fz) [d] M1 Q) := by
  refine DE.of (pe_listRg hc hgl hml (prg_1 hg hm pe_cT (star_cons hs)) rfl) fun σ H ρ M Q S A z => ?_
  refine he.bind S A z fun v d M1 H1 x r A1 S1 q => ?_
  obtain ⟨n, e1, hn, hr, q⟩ := q
  cases e1
  have rv : v = V.int n := r
  refine ⟨n, rv, ⟨by decide, by decide, hr.1, hr.2, by omega⟩, fun a ha => ?_⟩
  have e2 : rgV 0 n = (List.range n.toNat).map fun (i : Nat) => V.int (0 + (i : Int)) := by unfold rgV; rw [Int.sub_zero]
  rw [e2]
  cases fz with
  | true => exact (lft.newL A1 (reps_rg _) ha q).trans x
  | false => exact (lft.newM A1 (reps_rg _) ha (q a)).trans x
theorem DE.trng {X : Cx} {e : Expr} {t : DTE} {p p0 pos pos0 : Pos} (hc : X.calm = true) (hgl : Gl X "tuple") (hml : X.mg "tuple" = none) (hg : Gl X "range") (hm : X.mg "range" = none) (he : DE X e t) (hs : notStar e = true) :
    DE X (.Call (.Name "tuple" p0) [.Call (.Name "range" p) [e] [] pos] [] pos0) (fun ρ M Q => t ρ M fun d M1 => opD .trng [d] M1 Q) := by
  refine DE.of (pe_tupRg hc hgl hml (prg_1 hg hm pe_cT (star_cons hs)) rfl) fun σ H ρ M Q S A z => ?_
  refine he.bind S A z fun v d M1 H1 x r A1 S1 q => ?_
  obtain ⟨n, e1, hn, hr, q⟩ := q
  cases e1
  have rv : v = V.int n := r
  refine ⟨n, rv, ⟨by decide, by decide, hr.1, hr.2, by omega⟩, fun a ha => ?_⟩
  have e2 : rgV 0 n = (List.range n.toNat).map fun (i : Nat) => V.int (0 + (i : Int)) := by unfold rgV; rw [Int.sub_zero]
  rw [e2]
  exact (lft.newT A1 (reps_rg _) ha q).trans x
theorem reps_rg2 {W : Wd} {M : Mp} {H : Hp} {a : Int} : ∀ l : List Nat, Reps W M H (l.map fun (i : Nat) => D.int (a + (i : Int))) (l.map fun (i : Nat) => V.int (a + (i : Int)))
  | [] => rfl
  | i :: l => ⟨_, _, rfl, rfl, reps_rg2 l⟩
theorem DE.lrng2 {X : Cx} {e e2 : Expr} {t t2 : DTE} {p p0 pos pos0 : Pos} {fz : Bool} (hc : X.calm = true) (hgl : Gl X "list") (hml : X.mg "list" = none) (hg : Gl X "range") (hm : X.mg "range" = none) (he : DE X e t) (he2 : DE X e2 t2) (hs : notStar e = true) (hs2 : notStar e2 = true) :
    DE X (.Call (.Name "list" p0) [.Call (.Name "range" p) [e, e2] [] pos] [] pos0) (fun ρ M Q => t ρ M fun d M1 => t2 ρ M1 fun d2 M2 => opD (.lrng2 fz) [d, d2] M2 Q) := by
  refine DE.of (pe_listRg hc hgl hml (prg_2 hg hm pe_cT pe_cT (star_cons hs) (star_cons hs2) (star_none (by rw [List.all_cons, List.all_nil, hs2]; rfl))) rfl) fun σ H ρ M Q S A z => ?_
  refine he.bind S A z fun v d M1 H1 x r A1 S1 q => he2.bind S1 A1 q fun v2 d2 M2 H2 x2 r2 A2 S2 q2 => ?_
  obtain ⟨i, j, e1, hr, q3⟩ := q2
  cases e1
  refine ⟨i, j, r, r2, hr, fun a ha => ?_⟩
  cases fz with
  | true => exact ((lft.newL A2 (reps_rg2 _) ha q3).trans x2).trans x
  | false => exact ((lft.newM A2 (reps_rg2 _) ha (q3 a)).trans x2).trans x
theorem rsize {n k : Int} (h0 : 0 ≤ n) (h1 : n ≤ 16777216) (h2 : 1 ≤ k) (h3 : k ≤ 16777216) : 0 ≤ Builtin.Range.rangeSize 0 n k ∧ Builtin.Range.rangeSize 0 n k ≤ 16777216 ∧ Builtin.Range.small 0 n k = true := by
  have e : Builtin.Range.rangeSize 0 n k = if 0 < n then (n - 0 - 1) / k + 1 else 0 := by
    unfold Builtin.Range.rangeSize
    rw [if_pos (by omega)]
  have hd : 0 < n → 0 ≤ (n - 0 - 1) / k ∧ (n - 0 - 1) / k ≤ n - 0 - 1 := fun h => ⟨Int.ediv_nonneg (by omega) (by omega), Int.ediv_le_self _ (by omega)⟩
  have hb : 0 ≤ Builtin.Range.rangeSize 0 n k ∧ Builtin.Range.rangeSize 0 n k ≤ 16777216 := by
    rw [e]
    split
    · rename_i h
      have := hd h
      omega
    · omega
  refine ⟨hb.1, hb.2, ?_⟩
  unfold Builtin.Range.small
  simp only [Builtin.Range.rangeFitsLong, Bool.and_eq_true, Bool.or_eq_true, decide_eq_true_eq, beq_iff_eq, show k > 0 by omega, if_true]
  refine ⟨⟨⟨⟨⟨by omega, by omega⟩, by omega, by omega⟩, by omega, by omega⟩, by omega, by omega⟩, .inr ⟨by omega, by omega⟩⟩
theorem vals_rgk {k : Int} {m : Nat} {acc : Array Value} (h : ItemsOf (fun i v => ∃ t, v = .int (0 + i * k) t) acc m) : Vals ((List.range m).map fun (i : Nat) => V.int ((i : Int) * k)) acc.toList := by
  have e : acc.toList.length = m := by rw [Array.length_toList]; exact h.1
  rw [← e]
  refine vals_of_get acc.toList _ fun j u hj => ?_
  obtain ⟨t, rfl⟩ := h.2 j u (by rw [← hj, Array.getElem?_toList])
  exact ⟨t, by rw [Int.zero_add]⟩
theorem reps_rgk {W : Wd} {M : Mp} {H : Hp} {k : Int} : ∀ l : List Nat, Reps W M H (l.map fun (i : Nat) => D.int ((i : Int) * k)) (l.map fun (i : Nat) => V.int ((i : Int) * k))
  | [] => rfl
  | i :: l => ⟨_, _, rfl, rfl, reps_rgk l⟩
theorem DE.lrng3 {X : Cx} {a b c : Expr} {t : DTA} {p p0 pos pos0 : Pos} {fz : Bool} (hc : X.calm = true) (hgl : Gl X "list") (hml : X.mg "list" = none) (hg : Gl X "range") (hm : X.mg "range" = none) (h : DA X [a, b, c] t) (hs : notStar a = true) (hs2 : notStar b = true) (hs3 : notStar c = true) :
    DE X (.Call (.Name "list" p0) [.Call (.Name "range" p) [a, b, c] [] pos] [] pos0) (fun ρ M Q => t ρ M fun ds M1 => opD (.lrng3 fz) ds M1 Q) := by
  refine ⟨fun σ H ρ M Q S A z pins s I => ?_⟩
  have e1 : wpAny (model X.prog X.w) X.A (eval (.Call (.Name "range" p) [a, b, c] [] pos) X.env) (fun x s' => ∃ r n k t u v H1 M1, x = .ref r ∧ IsRange s'.heap r 0 n k t u v ∧ L2.Inv X pins σ H1 s' ∧ Ext (wd X) M H M1 H1 ∧ AbsM (wd X) M1 H1 ∧ 0 ≤ n ∧ n ≤ 16777216 ∧ 1 ≤ k ∧ k ≤ 16777216 ∧
      if fz = true then Q (.lst ((List.range (Builtin.Range.rangeSize 0 n k).toNat).map fun (i : Nat) => D.int ((i : Int) * k))) M1 else ∀ p, M1 p = none → Q (.ref p) (M1.upd p (.lst ((List.range (Builtin.Range.rangeSize 0 n k).toNat).map fun (i : Nat) => D.int ((i : Int) * k))))) X.xe s := by
    refine Call_ (ld_blt I hg hm boot_range (PyProof.Rows.callWith_type1 (thn (h.to σ H ρ M _ S A z pos pins s I) fun us s1 ⟨vs, H1, I1, rv, ds, M1, xt, r, A1, q⟩ => ?_) (star_cons hs) (star_none (by rw [List.all_cons, List.all_cons, List.all_nil, hs2, hs3]; rfl))))
    obtain ⟨n, k, rfl, b1, b2, b3, b4, q⟩ := q
    obtain ⟨v0, vs, rfl, w0, r⟩ := r
    obtain ⟨v1, vs, rfl, w1, r⟩ := r
    obtain ⟨v2, vs, rfl, w2, r⟩ := r
    have r : vs = [] := r
    subst r
    rw [show v0 = .int 0 from w0, show v1 = .int n from w1, show v2 = .int k from w2] at rv
    cases rv with
    | cons z0 rv =>
      cases rv with
      | cons z1 rv =>
        cases rv with
        | cons z2 rv =>
          cases rv
          obtain ⟨t0, rfl⟩ := z0
          obtain ⟨t1, rfl⟩ := z1
          obtain ⟨t2, rfl⟩ := z2
          exact call_range_3 (by omega) ⟨_, n, k, _, _, _, H1, M1, rfl, IsRange.new _ _ _ _ _ _ _, I1.kept fun b u e => Heap.get?_push_of_some _ e, xt, A1, b1, b2, b3, b4, q⟩ (.inl (PyProof.noPylong_small (by omega)))
  refine Call_ (ld_blt I hgl hml boot_list (PyProof.Rows.callWith_type1 (args_cons (thn e1 fun x s1 ⟨r, n, k, t0, u0, v0, H1, M1, ex, hr, I1, xt, A1, b1, b2, b3, b4, q⟩ => args_nil ?_) rfl) rfl rfl))
  subst ex
  obtain ⟨g1, g2, g3⟩ := rsize b1 b2 b3 b4
  refine call_list_range (n := (Builtin.Range.rangeSize 0 n k).toNat) (I1.ok.hd hc) hr g3 (by omega) (by omega) fun h' tk acc c' hk e' hi => ?_
  have hn : H1 s1.heap.objs.size = none := I1.hok.fresh (Nat.le_refl _)
  refine ⟨.ref s1.heap.objs.size, upd H1 s1.heap.objs.size (.lst ((List.range (Builtin.Range.rangeSize 0 n k).toNat).map fun (i : Nat) => V.int ((i : Int) * k))), I1.laid hk (Nat.le_refl _) (show ObjOk X.prog X.w _ _ _ (.lst _) from ⟨?_, acc.toList, c', vals_rgk hi, ?_⟩), rfl, ?_⟩
  · rw [List.length_map, List.length_range, sizeLine_eq]; omega
  · rw [Array.toArray_toList]; exact e'
  · cases fz with
    | true => exact (lft.newL A1 (reps_rgk _) hn q).trans xt
    | false => exact (lft.newM A1 (reps_rgk _) hn (q _)).trans xt
theorem opArgs_simple {sc : Scope} {k : Op} {e : Expr} {as : List Expr} (h : opArgs sc k e = some as) : simpleTest e = true := by
  unfold opArgs at h
  split at h <;> first | rfl | (cases h; done)
theorem op_ok {X : Cx} {sc : Scope} (hgl : ∀ {x}, glB sc x = true → Gl X x) (hbl : ∀ {x}, (x = "list" ∨ x = "zip" ∨ x = "dict" ∨ x = "range" ∨ x = "tuple") → X.mg x = none) (hc : X.calm = true) (k : Op) {e : Expr} {as : List Expr} {ts : List DTE} (h : opArgs sc k e = some as) (hd : DEs X as ts) (hs : as.all notStar = true) :
    DE X e (fun ρ M Q => seqT ts ρ M fun ds M1 => opD k ds M1 Q) := by
  have hD := hd.da hs
  unfold opArgs at h
  split at h
  · split at h
    · rename_i hh
      simp only [Bool.and_eq_true, decide_eq_true_eq] at hh
      obtain ⟨⟨⟨rfl, rfl⟩, g1⟩, g2⟩ := hh
      cases h
      rw [List.all_cons, List.all_cons, Bool.and_eq_true, Bool.and_eq_true] at hs
      exact DE.hn hc fun hn => DE.lzip2 (hgl g1) (hbl (.inl rfl)) (hgl g2) (hbl (.inr (.inl rfl))) hD hs.1 hs.2.1 hn
    · cases h
  · split at h
    · rename_i hh
      simp only [Bool.and_eq_true, decide_eq_true_eq] at hh
      obtain ⟨⟨⟨rfl, rfl⟩, g1⟩, g2⟩ := hh
      cases h
      rw [List.all_cons, List.all_cons, List.all_cons, Bool.and_eq_true, Bool.and_eq_true, Bool.and_eq_true] at hs
      exact DE.hn hc fun hn => DE.lzip3 (hgl g1) (hbl (.inl rfl)) (hgl g2) (hbl (.inr (.inl rfl))) hD hs.1 hs.2.1 hs.2.2.1 hn
    · cases h
  · split at h
    · rename_i hh
      simp only [Bool.and_eq_true, decide_eq_true_eq] at hh
      obtain ⟨⟨⟨rfl, rfl⟩, g1⟩, g2⟩ := hh
      cases h
      rw [List.all_cons, List.all_cons, Bool.and_eq_true, Bool.and_eq_true] at hs
      exact DE.hn hc fun hn => DE.dzip (hgl g1) (hbl (.inr (.inr (.inl rfl)))) (hgl g2) (hbl (.inr (.inl rfl))) hD hs.1 hs.2.1 hn
    · cases h
  · cases h
    cases ts with
    | nil => exact DE.dnew
    | cons _ _ => exact hd.elim
  · cases h
    cases ts with
    | nil => exact DE.dnil
    | cons _ _ => exact hd.elim
  · split at h
    · rename_i hh
      simp only [Bool.and_eq_true, decide_eq_true_eq] at hh
      obtain ⟨⟨⟨rfl, rfl⟩, g1⟩, g2⟩ := hh
      cases h
      rw [List.all_cons, Bool.and_eq_true] at hs
      cases ts with
      | nil => exact hd.elim
      | cons t ts =>
        cases ts with
        | nil => exact (DE.lrng hc (hgl g1) (hbl (.inl rfl)) (hgl g2) (hbl (.inr (.inr (.inr (.inl rfl))))) hd.1 hs.1).imp fun ρ M Q z => z
        | cons _ _ => exact hd.2.elim
    · cases h
  · split at h
    · rename_i hh
      simp only [Bool.and_eq_true, decide_eq_true_eq] at hh
      obtain ⟨⟨⟨rfl, rfl⟩, g1⟩, g2⟩ := hh
      cases h
      simp only [List.all_cons, List.all_nil, Bool.and_true, Bool.and_eq_true] at hs
      cases ts with
      | nil => exact hd.elim
      | cons t ts =>
        cases ts with
        | nil => exact hd.2.elim
        | cons t2 ts =>
          cases ts with
          | nil => exact (DE.lrng2 hc (hgl g1) (hbl (.inl rfl)) (hgl g2) (hbl (.inr (.inr (.inr (.inl rfl))))) hd.1 hd.2.1 hs.1 hs.2).imp fun ρ M Q z => z
          | cons _ _ => exact hd.2.2.elim
    · cases h
  · split at h
    · rename_i hh
      simp only [Bool.and_eq_true, decide_eq_true_eq] at hh
      obtain ⟨⟨⟨rfl, rfl⟩, g1⟩, g2⟩ := hh
      cases h
      simp only [List.all_cons, List.all_nil, Bool.and_true, Bool.and_eq_true] at hs
      exact (DE.lrng3 hc (hgl g1) (hbl (.inl rfl)) (hgl g2) (hbl (.inr (.inr (.inr (.inl rfl))))) hD hs.1 hs.2.1 hs.2.2).imp fun ρ M Q z => z
    · cases h
  · split at h
    · rename_i hh
      simp only [Bool.and_eq_true, decide_eq_true_eq] at hh
      obtain ⟨⟨⟨rfl, rfl⟩, g1⟩, g2⟩ := hh
      cases h
      rw [List.all_cons, Bool.and_eq_true] at hs
      cases ts with
      | nil => exact hd.elim
      | cons t ts =>
        cases ts with
        | nil => exact (DE.trng hc (hgl g1) (hbl (.inr (.inr (.inr (.inr rfl))))) (hgl g2) (hbl (.inr (.inr (.inr (.inl rfl))))) hd.1 hs.1).imp fun ρ M Q z => z
        | cons _ _ => exact hd.2.elim
    · cases h
  · cases h
/-! ### a dict display with written keys -/
def keyE : Expr → Option Key
  | .Constant (.int i) _ _ => some (.inl i)
  | .Constant (.str s) _ _ => some (.inr s)
  | _ => none
def keysE : List (Option Expr) → Option (List Key)
  | [] => some []
  | some e :: r => match keyE e, keysE r with
    | some k, some ks => some (k :: ks)
    | _, _ => none
  | none :: _ => none
def upP (W : Wd) : List (Key × DTE) → List (TE × TE)
  | [] => []
  | (k, t) :: r => (tC (kV k), upT W t) :: upP W r
theorem pe_key {X : Cx} {e : Expr} {k : Key} (h : keyE e = some k) : PE X e (tC (kV k)) := by
  unfold keyE at h
  split at h
  · cases h; exact pe_int
  · cases h; exact pe_str
  · cases h
theorem pps_disp {X : Cx} {pos : Pos} : ∀ {keys : List (Option Expr)} {vals : List Expr} {ks : List Key} {ts : List DTE}, keysE keys = some ks → DEs X vals ts → ks.length = ts.length → PPs X pos keys vals (upP (wd X) (ks.zip ts))
  | [], vals, _, ts, h, hd, hl => by
    cases h
    cases ts with
    | nil => cases vals with
      | nil => exact pps_nil
      | cons _ _ => exact hd.elim
    | cons _ _ => cases hl
  | some e :: keys, vals, _, ts, h, hd, hl => by
    unfold keysE at h
    split at h
    · rename_i k ks e1 e2
      cases h
      cases ts with
      | nil => cases hl
      | cons t ts => cases vals with
        | nil => exact hd.elim
        | cons v vals => exact pps_cons (pe_key e1) (pe_upT hd.1) (pps_disp e2 hd.2 (by simpa using hl))
    · cases h
  | none :: keys, _, _, _, h, _, _ => by cases h
theorem tPairs_up {X : Cx} {σ : L2.St} : ∀ {ks : List Key} {ts : List DTE} {ρ : DSt} {M : Mp} {H : Hp} {Q : List D → Mp → Prop} {R : List (V × V) → Hp → Prop}, ks.length = ts.length → AbsS (wd X) M H ρ σ → AbsM (wd X) M H → seqT ts ρ M Q →
    (∀ ds vs M1 H1, Ext (wd X) M H M1 H1 → AbsM (wd X) M1 H1 → Reps (wd X) M1 H1 ds vs → Q ds M1 → R ((ks.map kV).zip vs) H1) → tPairs (upP (wd X) (ks.zip ts)) σ H R
  | [], [], ρ, M, H, Q, R, _, S, A, z, k => k [] [] M H Ext.refl A rfl z
  | [], _ :: _, _, _, _, _, _, h, _, _, _, _ => by cases h
  | _ :: _, [], _, _, _, _, _, h, _, _, _, _ => by cases h
  | k0 :: ks, t :: ts, ρ, M, H, Q, R, h, S, A, z, k => by
    show tC (kV k0) σ H fun x H1 => upT (wd X) t σ H1 fun y H2 => tPairs (upP (wd X) (ks.zip ts)) σ H2 fun ps H3 => R ((x, y) :: ps) H3
    refine ⟨ρ, M, _, S, A, z, fun v H1 ⟨d, M1, x, r, A1, q⟩ => ?_⟩
    refine tPairs_up (by simpa using h) (S.ext x) A1 q fun ds vs M2 H2 x2 A2 rs q2 => ?_
    exact k (d :: ds) (v :: vs) M2 H2 (x.trans x2) A2 ⟨v, vs, rfl, r.ext x2, rs⟩ q2
theorem merge_id : ∀ {ks : List Key} {vs : List V} {acc : List (Key × V)}, ks.length = vs.length → ks.Nodup → (∀ k ∈ ks, ∀ p ∈ acc, p.1 ≠ k) → mergeK acc (ks.zip vs) = acc ++ ks.zip vs
  | [], _, acc, _, _, _ => by show acc = acc ++ []; rw [List.append_nil]
  | _ :: _, [], _, h, _, _ => by cases h
  | k :: ks, v :: vs, acc, h, hn, ha => by
    rw [List.nodup_cons] at hn
    have e : putK acc k v = acc ++ [(k, v)] := by
      unfold putK
      rw [if_neg]
      rw [List.any_eq_true]
      rintro ⟨p, hp, e⟩
      exact ha k List.mem_cons_self p hp (of_decide_eq_true e)
    rw [List.zip_cons_cons]
    show mergeK (putK acc k v) (ks.zip vs) = _
    rw [e, merge_id (by simpa using h) hn.2 fun k' hk' p hp => ?_]
    · simp
    · rcases List.mem_append.mp hp with hp | hp
      · exact ha k' (List.mem_cons_of_mem _ hk') p hp
      · rw [List.mem_singleton] at hp
        subst hp
        intro e
        have e' : k = k' := e
        exact hn.1 (e' ▸ hk')
theorem DE.disp {X : Cx} {keys : List (Option Expr)} {vals : List Expr} {ks : List Key} {ts : List DTE} {pos : Pos} {fz : Bool} (hk : keysE keys = some ks) (hd : DEs X vals ts) (hl : ks.length = ts.length) (hl2 : keys.length = vals.length) (hn : ks.Nodup) (h0 : keys ≠ []) (h15 : keys.length ≤ 15) (hall : keys.all (·.isSome) = true) (hks : ks.length ≤ 15) :
    DE X (.Dict keys vals pos) (fun ρ M Q => ∀ p, M p = none → seqT ts ρ (M.upd p (.dic [])) fun ds M2 => M2 p = some (.dic []) ∧ ds.length = ks.length ∧ if fz = true then Q (.dct ks ds) (M2.del p) else Q (.ref p) (M2.upd p (.dic (ks.zip ds)))) := by
  refine DE.of (pe_disp (pps_disp hk hd hl) hall hl2 h0 h15) fun σ H ρ M Q S A z p hp => ?_
  have x : Ext (wd X) M H (M.upd p (.dic [])) (upd H p (.dK [])) := Ext.freshM A hp
  have A1 : AbsM (wd X) (M.upd p (.dic [])) (upd H p (.dK [])) := AbsM.freshM A hp ⟨[], upd_same, rfl⟩
  refine tPairs_up hl (S.ext x) A1 (z p (A.free hp)) fun ds vs M2 H2 x2 A2 rs q => ?_
  obtain ⟨e2, el, q⟩ := q
  obtain ⟨vs0, h1, h2⟩ := A2.ob p _ e2
  have lens : ks.length = vs.length := by rw [← rs.length, el]
  have ez : (ks.map kV).zip vs = (ks.zip vs).map (fun kv => (kV kv.1, kv.2)) := by
    rw [List.zip_map_left]; rfl
  have em : mergeK [] (ks.zip vs) = ks.zip vs := merge_id lens hn (fun _ _ p hp => by cases hp)
  refine ⟨h1, ks.zip vs, ez, by rw [List.length_zip]; omega, ?_⟩
  rw [em]
  obtain ⟨e3, e4⟩ := zip_12 (ks := ks) (l := ds) el.symm
  have xw : Ext (wd X) M2 H2 (M2.upd p (.dic (ks.zip ds))) (upd H2 p (.dK (ks.zip vs))) := Ext.write A2 e2
  have Aw : AbsM (wd X) (M2.upd p (.dic (ks.zip ds))) (upd H2 p (.dK (ks.zip vs))) := AbsM.write A2 e2 ⟨vs, by rw [upd_same, e3], by rw [e4]; exact rs.ext xw⟩
  cases fz with
  | true =>
    rw [if_pos rfl] at q
    have ed : (M2.upd p (.dic (ks.zip ds))).del p = M2.del p := by
      funext b
      by_cases e : b = p
      · rw [e, Mp.del_same, Mp.del_same]
      · rw [Mp.del_ne e, Mp.del_ne e, Mp.upd_ne e]
    have xf : Ext (wd X) (M2.upd p (.dic (ks.zip ds))) (upd H2 p (.dK (ks.zip vs))) (M2.del p) (upd H2 p (.dK (ks.zip vs))) := by rw [← ed]; exact Ext.forget Mp.sub_del
    refine ⟨.dct ks ds, M2.del p, ((x.trans x2).trans xw).trans xf, ⟨p, vs, rfl, Mp.del_same, upd_same, lens, (rs.ext xw).ext xf⟩, ?_, q⟩
    rw [← ed]; exact Aw.forget Mp.sub_del
  | false =>
    rw [if_neg Bool.false_ne_true] at q
    exact ⟨.ref p, _, (x.trans x2).trans xw, rfl, Aw, q⟩
end Ow
namespace Ow
open PySem PySem.Spec PyProof.Rows L2
variable [Tb] [Og]
/-! ### instances: reading and writing what they hold -/
/-- the name of what is held, the classes that may hold it -/
structure AI where
  f : Str
  cs : List Str
def AOk (X : Cx) (a : AI) : Prop := ∀ c ∈ a.cs, ∃ C, X.mg c = some (.ref C) ∧ Cls X.K C ∧ NoAttr X.K C a.f
def putFD (f : Str) (d : D) : List (Str × D) → List (Str × D)
  | [] => [(f, d)]
  | (g, x) :: r => if g = f then (g, d) :: r else (g, x) :: putFD f d r
def insD (a : AI) (d : D) (M : Mp) : Option (Addr × Str × List (Str × D)) := match d with
  | .ref p => match M p with
    | some (.ins c fs) => if c ∈ a.cs then some (p, c, fs) else none
    | _ => none
  | _ => none
def attD (a : AI) (d : D) (M : Mp) (Q : QE) : Prop := match insD a d M with
  | some (_, _, fs) => (match fs.lookup a.f with
    | some x => Q x M
    | none => False)
  | none => False
def satD (a : AI) (d x : D) (M : Mp) (Q : Mp → Prop) : Prop := match insD a d M with
  | some (p, c, fs) => fs.length < 1000 ∧ Q (M.upd p (.ins c (putFD a.f x fs)))
  | none => False
section
variable {W : Wd} {M : Mp} {H : Hp}
theorem look_rep {f : Str} : ∀ {fs : List (Str × D)} {ns : List Str} {vs : List V}, fs = ns.zip (fs.map (·.2)) → ns.length = vs.length → Reps W M H (fs.map (·.2)) vs →
    (fs.lookup f = none → (ns.zip vs).lookup f = none) ∧ ∀ d, fs.lookup f = some d → ∃ v, (ns.zip vs).lookup f = some v ∧ Rep W M H d v
  | [], ns, vs, e, hl, r => by
    rw [show vs = [] from r] at hl ⊢
    rw [List.zip_nil_right]
    exact ⟨fun _ => rfl, fun d h => (by cases h)⟩
  | (g, x) :: fs, [], vs, e, hl, r => by cases e
  | (g, x) :: fs, n :: ns, vs, e, hl, r => by
    obtain ⟨v, w, rfl, h1, h2⟩ := r
    rw [List.map_cons, List.zip_cons_cons] at e
    obtain ⟨e1, e2⟩ := List.cons.inj e
    have e3 : g = n := congrArg Prod.fst e1
    subst e3
    obtain ⟨i1, i2⟩ := look_rep (f := f) (fs := fs) (ns := ns) (vs := w) e2 (by simpa using hl) h2
    rw [List.zip_cons_cons, List.lookup_cons, List.lookup_cons]
    cases hb : (f == g) with
    | true => exact ⟨fun h => (by cases h), fun d h => (by cases h; exact ⟨v, rfl, h1⟩)⟩
    | false => exact ⟨i1, i2⟩
theorem put_ins {f : Str} {d : D} {v : V} (hd : Rep W M H d v) : ∀ {fs : List (Str × D)} {ns : List Str} {vs : List V}, fs = ns.zip (fs.map (·.2)) → ns.length = vs.length → Reps W M H (fs.map (·.2)) vs →
    ∃ (ns' : List Str) (vs' : List V), putF f v (ns.zip vs) = ns'.zip vs' ∧ putFD f d fs = ns'.zip ((putFD f d fs).map (·.2)) ∧ ns'.length = vs'.length ∧ Reps W M H ((putFD f d fs).map (·.2)) vs'
  | [], ns, vs, e, hl, r => by
    rw [show vs = [] from r] at hl ⊢
    have : ns = [] := List.length_eq_zero_iff.mp hl
    subst this
    exact ⟨[f], [v], rfl, rfl, rfl, ⟨v, [], rfl, hd, rfl⟩⟩
  | (g, x) :: fs, [], vs, e, hl, r => by cases e
  | (g, x) :: fs, n :: ns, vs, e, hl, r => by
    obtain ⟨u, w, rfl, h1, h2⟩ := r
    rw [List.map_cons, List.zip_cons_cons] at e
    obtain ⟨e1, e2⟩ := List.cons.inj e
    have e3 : g = n := congrArg Prod.fst e1
    subst e3
    rw [List.zip_cons_cons]
    show ∃ (ns' : List Str) (vs' : List V), (if g = f then (g, v) :: ns.zip w else (g, u) :: putF f v (ns.zip w)) = ns'.zip vs' ∧ (if g = f then (g, d) :: fs else (g, x) :: putFD f d fs) = ns'.zip ((if g = f then (g, d) :: fs else (g, x) :: putFD f d fs).map (·.2)) ∧ ns'.length = vs'.length ∧ Reps W M H ((if g = f then (g, d) :: fs else (g, x) :: putFD f d fs).map (·.2)) vs'
    by_cases hg : g = f
    · rw [if_pos hg, if_pos hg]
      refine ⟨g :: ns, v :: w, rfl, ?_, by simpa using hl, ⟨v, w, rfl, hd, h2⟩⟩
      rw [List.map_cons, List.zip_cons_cons, ← e2]
    · rw [if_neg hg, if_neg hg]
      obtain ⟨ns', vs', i1, i2, i3, i4⟩ := put_ins (f := f) hd (fs := fs) (ns := ns) (vs := w) e2 (by simpa using hl) h2
      refine ⟨g :: ns', u :: vs', by rw [i1]; rfl, ?_, by simpa using i3, ⟨u, vs', rfl, h1, i4⟩⟩
      rw [List.map_cons, List.zip_cons_cons, ← i2]
theorem insD_rep {a : AI} {d : D} {v : V} {p : Addr} {c : Str} {fs : List (Str × D)} (A : AbsM W M H) (r : Rep W M H d v) (e : insD a d M = some (p, c, fs)) : d = .ref p ∧ v = .ref p ∧ c ∈ a.cs ∧ M p = some (.ins c fs) ∧ RepO W M H p (.ins c fs) := by
  unfold insD at e
  split at e
  · split at e
    · rename_i hM
      split at e
      · cases e
        rename_i hc
        exact ⟨rfl, r, hc, hM, A.ob _ _ hM⟩
      · cases e
    · cases e
  · cases e
theorem zip_len_of {fs : List (Str × D)} {ns : List Str} {vs : List V} (e : fs = ns.zip (fs.map (·.2))) (h : ns.length = vs.length) (r : Reps W M H (fs.map (·.2)) vs) : (ns.zip vs).length = fs.length := by
  have h1 := r.length
  rw [List.length_map] at h1
  rw [List.length_zip]; omega
end
section
variable {X : Cx} {o e : Expr} {pos p1 : Pos} {to te : DTE} {a : AI}
theorem DE.att (hA : AOk X a) (ho : DE X o to) (hb : plainBase o = true) : DE X (.Attribute o a.f pos) (fun ρ M Q => to ρ M fun d M1 => attD a d M1 Q) := by
  refine DE.of (pe_fld pe_cT (base_of hb)) fun σ H ρ M Q S A z => ?_
  refine ho.bind S A z fun v d M1 H1 x r1 A1 S1 q => ?_
  unfold attD at q
  split at q
  · rename_i p c fs hi
    split at q
    · rename_i y hy
      obtain ⟨rfl, rfl, hc, hM, C, dx, ns, vs, h1, h2, h3, h4, h5⟩ := insD_rep A1 r1 hi
      obtain ⟨C', h1', hcls, hno⟩ := hA c hc
      have eC : Value.ref C = .ref C' := Option.some.inj (h1.symm.trans h1')
      cases eC
      obtain ⟨u, hu, ru⟩ := (look_rep h3 h4 h5).2 _ hy
      exact ⟨p, C, dx, _, u, rfl, h2, hcls, hno, hu, y, M1, x, ru, A1, q⟩
    · exact q.elim
  · exact q.elim
theorem DS.sat (hA : AOk X a) (he : DE X e te) (ho : DE X o to) (hs : swapsWith e (some (.Attribute o a.f p1)) pos.line X.env = pure false) :
    DS X (.Assign [.Attribute o a.f p1] e pos) (fun D ρ M => te ρ M fun x M1 => to ρ M1 fun d M2 => satD a d x M2 fun M3 => D.nx ρ M3) := by
  refine DS.of (ps_fld pe_cT pe_cT hs) fun σ H ρ M D De S A z k => ?_
  refine he.bind S A z fun v d M1 H1 x1 r1 A1 S1 q1 => ho.bind S1 A1 q1 fun v2 d2 M2 H2 x2 r2 A2 S2 q2 => ?_
  unfold satD at q2
  split at q2
  · rename_i p c fs hi
    obtain ⟨rfl, rfl, hc, hM, C, dx, ns, vs, h1, h2, h3, h4, h5⟩ := insD_rep A2 r2 hi
    obtain ⟨C', h1', hcls, hno⟩ := hA c hc
    have eC : Value.ref C = .ref C' := Option.some.inj (h1.symm.trans h1')
    cases eC
    obtain ⟨ns', vs', i1, i2, i3, i4⟩ := put_ins (f := a.f) (r1.ext x2) h3 h4 h5
    have xw : Ext (wd X) M2 H2 (M2.upd p (.ins c (putFD a.f d fs))) (upd H2 p (.ins C dx (ns'.zip vs'))) := Ext.write A2 hM
    refine ⟨p, C, dx, _, rfl, h2, hcls, hno, by rw [zip_len_of h3 h4 h5]; exact q2.1, ?_⟩
    rw [i1]
    exact k.nx _ _ _ _ ((x1.trans x2).trans xw) (AbsM.write A2 hM ⟨C, dx, ns', vs', h1, upd_same, i2, i3, i4.ext xw⟩) (S2.ext xw) q2.2
  · exact q2.elim
end
/-! ### == and != of instances of one class: its own __eq__; isinstance of the own class -/
/-- no built-in type is of the class -/
def clsNot (K : PySem.W.Frag) (C : Addr) : Bool := tyNames.all fun n => decide (PySem.W.subIn K (.type n) (.ref C) = some false) && decide (PySem.W.kitOne K (.type n) (.ref C) = some false)
structure EqC (K : PySem.W.Frag) (C : Addr) : Prop where
  nt : clsNot K C = true
  cl : Cls K C
  ne : PySem.W.findIn K (.ref C) "__ne__" = some (some (.builtin "object.__ne__"))
  sub : PySem.W.subIn K (.ref C) (.type "object") = some true
  mro : PySem.W.mroIn K C (.type "object") = some true
  ha : PySem.W.findIn K (.ref C) "__class__" = some (some (.builtin "object.__class__"))
  hn : PySem.W.specialIn K (.builtin "object.__class__") "__get__" = some (some (.builtin "getset_descriptor.__get__"))
  tk : PySem.W.takesIn K (.builtin "object.__class__") = some true
section
variable {prog : Program} {w : World} {A : Around} {E : Value → Shared → Prop} {s : Shared} {K : PySem.W.Frag} {x C L f : Addr} {yv : Value} {ox : Obj} {od : Option Obj} {tb : Value}
theorem ifBound_ne {M : Model} {args : List Value} {Q : Option Value → Shared → Prop} (X : K.In s.heap) (I : PySem.W.InstAt s.heap x ox C od) (hs : PySem.W.findIn K (.ref C) "__ne__" = some (some (.builtin "object.__ne__")))
    (h : wpAny M A (call (.builtin "object.__ne__") (.ref x :: args)) (fun v => Q (some v)) E s) : wpAny M A (callSpecialIfBound? (.ref x) "__ne__" args) Q E s := by
  simp only [callSpecialIfBound?, bindSpecialIfBound?]
  refine wpAny_holding (wpAny_bind (wpAny_bind (wpAny_bind (I.type.here ((PySem.W.looks_findIn X hs).here ?_)))))
  simp only [PySem.F.slot_object_ne.bind]
  refine wpAny_bind (wpAny_askSetting (wpAny_ite ?_))
  have fin : wpAny M A (call (.builtin "object.__ne__") ([.ref x] ++ args) >>= fun v => pure (some v)) Q E s :=
    wpAny_bind (wpAny_mono h (fun v s' h' => wpAny_pure h') fun _ _ h' => h')
  split
  · exact wpAny_bind (wpAny_pure (wpAny_pure fin))
  · exact wpAny_tryCatch (wpAny_bind (wpAny_pure (wpAny_pure fin)))
theorem objNe_K {Q : Fin → Shared → Prop} (hu : A.units < cLine) (X : K.In s.heap) (I : PySem.W.InstAt s.heap x ox C od) (hs : PySem.W.findIn K (.ref C) "__eq__" = some (some (.ref f))) (hf : PySem.W.isFn K (.ref f) = true)
    (h : wpAny (model prog w) A (call (.ref f) [.ref x, yv]) (fun v s' => ∃ b, v = .bool b ∧ Q (.done (.ret (.bool (!b)))) s') E s) : wpAny (model prog w) A (Builtin.«object.__ne__» ⟨[.ref x, yv], []⟩) Q E s := by
  obtain ⟨hh, g, d, t, os⟩ := s
  unfold Builtin.«object.__ne__»
  repeat (first
    | with_reducible refine wpAny_cRoomFor hu ?_
    | (refine wpAny_bind (m := callSpecialIfBound? (.ref x) (Str.ofString "__eq__") [yv])
        (PySem.W.ifBound_K X I hs hf (wpAny_mono h (fun r s' hr => by
          obtain ⟨b, rfl, hq⟩ := hr
          repeat (first | exact hq | exact wpAny_pure hq | exact wpAny_truthy_bool hq | (refine wpAny_bind (m := truthy (.bool _)) (wpAny_truthy_bool ?_)) | wp_step)) fun _ _ e => e)))
    | wp_step)
theorem ne_K {Q : Value → Shared → Prop} (hu : A.units + 1 < cLine) (X : K.In s.heap) (I : PySem.W.InstAt s.heap x ox C od) (hb : PySem.W.Looks (model prog w) s.heap (typeOf yv) tb) (hn : PySem.W.notFirst K C tb = true)
    (c : EqC K C) (hs : PySem.W.findIn K (.ref C) "__eq__" = some (some (.ref f))) (hf : PySem.W.isFn K (.ref f) = true)
    (h : wpAny (model prog w) A.in1 (call (.ref f) [.ref x, yv]) (fun v s' => ∃ b, v = .bool b ∧ Q (.bool (!b)) s') E s) : wpAny (model prog w) A (richCompare .NotEq (.ref x) yv) Q E s := by
  have one : wpAny (model prog w) A (tryCompare (.ref x) (cmpInfo .NotEq).2.1 yv) (fun r s' => ∃ v, r = some v ∧ Q v s') E s := by
    unfold tryCompare
    refine wpAny_bind (ifBound_ne X I c.ne (wpAny_call (codeAny_call_builtin PySem.F.slot_object_ne.plain PySem.F.cmpEntry_ne
      (PySem.W.check_slot PySem.F.cmpKind_ne PySem.F.cmpSplit_ne (I.type.andThen (PySem.W.looks_subIn X c.sub)) (PySem.F.cmpArgs_ne _ _)
        (objNe_K (A := A.in1) hu X I hs hf (wpAny_mono h (fun v s' hv => ?_) fun _ _ e => e))))))
    obtain ⟨b, rfl, hq⟩ := hv
    first | exact ⟨b, rfl, wpAny_pure ⟨_, rfl, hq⟩⟩ | exact ⟨b, rfl, _, rfl, wpAny_pure ⟨_, rfl, hq⟩⟩ | exact ⟨b, rfl, _, rfl, ⟨_, rfl, hq⟩⟩
  unfold richCompare
  simp only [oneThing_ref]
  refine wpAny_holding (wpAny_bind (wpAny_cRoomFor (Nat.lt_of_succ_lt hu) ?_))
  refine wpAny_bind (I.type.here (wpAny_bind (hb.here ?_)))
  split
  · rename_i q
    have e : PySem.W.subIn K tb (.ref C) = some false := by
      rcases Bool.or_eq_true_iff.mp hn with e | e
      · rw [beq_iff_eq.mp e] at q; simp at q
      · exact beq_iff_eq.mp e
    refine wpAny_bind ((PySem.W.looks_subIn X e).here ?_)
    simp only [Bool.false_eq_true, if_false]
    refine wpAny_bind (wpAny_mono one (fun r s' z => ?_) fun _ _ e => e)
    obtain ⟨v, rfl, hq⟩ := z
    exact wpAny_pure hq
  · refine wpAny_bind (wpAny_pure ?_)
    simp only [Bool.false_eq_true, if_false]
    refine wpAny_bind (wpAny_mono one (fun r s' z => ?_) fun _ _ e => e)
    obtain ⟨v, rfl, hq⟩ := z
    exact wpAny_pure hq
end
/-! ### methods of own classes -/
theorem mcall_eq {o : Expr} {m : Str} {apos pos : Pos} {es : List Expr} {env : Env} (hb : plainBase o = true) (hfew : methodCallForm (es.length + ([] : List Keyword).length) (backTo pos (starEach es env)) (backToKw pos (keywordEach [] env)) = true) (hline : (apos.endLine == pos.line) = true) :
    eval (.Call (.Attribute o m apos) es [] pos) env = (do
      let ov ← eval o env
      standAt apos.atName
      let (f, first) ← holding [ov] (getMethod ov m (do return (← importBound o env).getD true))
      callWith pos f first (backTo pos (starEach es env)) (backToKw pos (keywordEach [] env))) := by
  rw [arm_eval_Call, base_of hb]
  unfold methodCall calleeOf methodCallPos
  rw [hfew, hline]
  rfl
structure MI where
  cls : Str
  name : Str
  n : Nat
  sp : DSp
def MOk (X : Cx) (mi : MI) : Prop := ∃ C f, X.mg mi.cls = some (.ref C) ∧ EqC X.K C ∧ L2.Meth X.K C mi.name f ∧ RunV X f mi.sp
/-- an instance of the class, its dict without the name -/
def isIns (c m : Str) (d : D) (M : Mp) : Prop := ∃ p fs, d = .ref p ∧ M p = some (.ins c fs) ∧ fs.lookup m = none
section
variable {X : Cx} {E : EX} {o : Expr} {es : List Expr} {pos apos : Pos} {to : DTE} {t : DTA} {mi : MI}
theorem DE.mcl (tk : Takes X (upW (wd X) E)) (hM : MOk X mi) (gd : X.A.guards = some []) (ho : DE X o to) (h : DA X es t) (hb : plainBase o = true) (hl : (apos.endLine == pos.line) = true) (hs : es.all notStar = true) (hn : es.length < 29) (hnil : es = [] → ∀ ρ M Q, t ρ M Q → Q [] M) :
    DE X (.Call (.Attribute o mi.name apos) es [] pos) (fun ρ M Q => to ρ M fun d M1 => isIns mi.cls mi.name d M1 ∧ t ρ M1 fun ds M2 => mi.sp (d :: ds) M2 Q (fun x M' => E x ρ M')) := by
  obtain ⟨C, f, h1, hc, hm, G⟩ := hM
  refine ⟨fun σ H ρ M Q S A z pins s I => ?_⟩
  refine PySem.W.methodCall_KW (thn (ho.to σ H ρ M _ S A z pins s I) fun u s1 ⟨v, H1, I1, rv, d, M1, xt, r, A1, hi, q⟩ => ?_) (mcall_eq hb (few_all hs hn) hl)
  obtain ⟨p, fs, rfl, hMp, hlk⟩ := hi
  cases r
  obtain rfl : u = Value.ref p := rv
  obtain ⟨C', dx, ns, vs, k1, k2, k3, k4, k5⟩ := A1.ob p _ hMp
  have eC : Value.ref C' = .ref C := Option.some.inj (k1.symm.trans h1)
  cases eC
  refine getmeth_ok I1 k2 hc.cl hm ((look_rep k3 k4 k5).1 hlk) ?_
  cases es with
  | nil =>
    have q0 := hnil rfl _ _ _ q
    exact PySem.W.callWith_K0 (first := [.ref p]) I1.kIn hm.kp (thn (G.go E pins σ H1 s1 ρ M1 [.ref p] [.ref p] [.ref p] Q tk gd I1 (S.ext xt) A1 (.cons rfl .nil) ⟨_, _, rfl, rfl, rfl⟩ q0) fun u s2 ⟨v, H2, I2, rv2, q2⟩ => ⟨v, H2, I2, rv2, q2.trans xt⟩)
  | cons e es =>
    rw [List.all_cons, Bool.and_eq_true] at hs
    refine PySem.W.callWith_K (first := [.ref p]) (h₀ := X.base) I.ok.mod.kin hm.kp (thn (h.to σ H1 ρ M1 _ (S.ext xt) A1 q pos pins s1 I1) fun us s2 ⟨ws, H2, I2, rvs, ds, M2, xt2, r2, A2, q2⟩ => ⟨I2.kIn, ?_⟩) (star_cons hs.1) (star_none hs.2)
    exact thn (G.go E pins σ H2 s2 ρ M2 (.ref p :: ds) (.ref p :: ws) (.ref p :: us) Q tk gd I2 ((S.ext xt).ext xt2) A2 (.cons rfl rvs) ⟨_, _, rfl, rfl, r2⟩ q2) fun u s3 ⟨v, H3, I3, rv3, q3⟩ => ⟨v, H3, I3, rv3, (q3.trans xt2).trans xt⟩
end
/-- a method of a class, from here with room for its call by a built-in -/
def MLk (X : Cx) (mi : MI) : Prop := ∃ (C f : Addr) (fd : FuncData) (ps : List Str) (k : Nat), X.mg mi.cls = some (.ref C) ∧ EqC X.K C ∧ L2.Meth X.K C mi.name f ∧ FnG X.prog X.w X.K X.mg X.base k f fd ps mi.sp ∧ Room (k + 1) X.A ∧ Binds X.K fd ps []
def lenO (mi : MI) (d : D) (M : Mp) (Q : QE) : Prop := ∃ p fs, d = .ref p ∧ M p = some (.ins mi.cls fs) ∧ mi.sp [.ref p] M (fun v M2 => ∃ n : Int, v = .int n ∧ 0 ≤ n ∧ n < 2 ^ 62 ∧ Q v M2) (fun _ _ => False)
/-- an instance of the class, or of a built-in type -/
def othD (c : Str) (d : D) (M : Mp) : Prop := (∃ p fs, d = .ref p ∧ M p = some (.ins c fs)) ∨ (tyD M d).isSome = true
def eqO (mi : MI) (neg : Bool) (d1 d2 : D) (M : Mp) (Q : QE) : Prop := ∃ p fs, d1 = .ref p ∧ M p = some (.ins mi.cls fs) ∧ othD mi.cls d2 M ∧ ∃ R : Bool → Mp → Prop, mi.sp [.ref p, d2] M (fun v M2 => ∃ b, v = .bl b ∧ R b M2) (fun _ _ => False) ∧ ∀ b M2, R b M2 → Q (.bl (neg ^^ b)) M2
theorem eqO_bl {mi : MI} {neg : Bool} : ∀ d1 d2 M Q, eqO mi neg d1 d2 M Q → eqO mi neg d1 d2 M fun d M' => (∃ k, d = .bl k) ∧ Q d M' := fun d1 d2 M Q ⟨p, fs, h1, h2, h3, R, h5, h6⟩ =>
  ⟨p, fs, h1, h2, h3, R, h5, fun b M2 r => ⟨⟨_, rfl⟩, h6 b M2 r⟩⟩
section
variable {X : Cx} {mi : MI}
theorem len_own (hM : MLk X mi) (hN : mi.name = "__len__") (gd : X.A.guards = some []) : CallD X (.builtin "len") (fun ds M Q => ∃ d, ds = [d] ∧ lenO mi d M Q) := by
  refine ⟨cC X (.builtin "len"), cr_cC, fun ds vs M H Q A r z pins s σ us I rv => ?_⟩
  obtain ⟨d, rfl, p, fs, rfl, hMp, q⟩ := z
  obtain ⟨C, f, fd, ps, k, h1, _, hm, F, hr, hb⟩ := hM
  rw [hN] at hm
  obtain ⟨v, rfl, r1⟩ := reps1 r
  cases r1
  obtain ⟨u, rfl, ru⟩ := vals1 rv
  obtain rfl : u = Value.ref p := ru
  obtain ⟨C', dx, ns, ws, k1, k2, _⟩ := A.ob p _ hMp
  have eC : Value.ref C' = .ref C := Option.some.inj (k1.symm.trans h1)
  cases eC
  obtain ⟨mA, J, _⟩ := ins_get I.hok k2
  obtain ⟨od, J, _⟩ := J.look
  obtain ⟨m, hF⟩ := I.fr
  refine PySem.W.len_K hF I.ok.mod.kin J hm.at_ hm.fn ?_
  have hbd : BindsTo s fd ⟨[.ref p], []⟩ (ps.zip [.ref p]) := by
    have hl := F.len _ _ _ _ q
    simpa using hb s [.ref p] I.kIn (by simpa using hl)
  refine wpAny_call (codeAny_mono (F.run X.A.in1 X.stack s H ⟨[.ref p], []⟩ [.ref p] [.ref p] [.ref p] M _ _ hr.in1 gd I.env0.in1 hbd (.cons rfl .nil) A ⟨_, _, rfl, rfl, rfl⟩ q) fun res s' z => ?_)
  match res, z with
  | .ok (.ret u), z =>
    obtain ⟨v, H', I3, rv', d, M', xt, rd, A', n, hd, h0, h2, hq⟩ := I.after z
    subst hd
    cases rd
    obtain ⟨t, rfl⟩ := rv'
    exact ⟨⟨h0, by omega⟩, .int n, H', I3.tok _, ⟨_, rfl⟩, .int n, M', xt, rfl, A', hq⟩
  | .ok .next, z => exact z.elim
  | .ok .brk, z => exact z.elim
  | .ok .cont, z => exact z.elim
  | .error e, z =>
    obtain ⟨a, B, H', cls, d, e1, e2, e3, ub, e5, e6, e7, ⟨x, M', xt, A', rx, ex⟩⟩ := z
    exact ex.elim
theorem eq_own (hM : MLk X mi) (hN : mi.name = "__eq__") (gd : X.A.guards = some []) (op : CmpOp) (neg : Bool) (ho : (op = .Eq ∧ neg = false) ∨ (op = .NotEq ∧ neg = true)) : OpD X (compareOp op) (eqO mi neg) := by
  refine ⟨cO X (compareOp op), or_cO, fun d1 d2 x y M H Q A r1 r2 z pins s σ v u I w1 w2 => ?_⟩
  obtain ⟨p, fs, rfl, hMp, ho2, R, q, hR⟩ := z
  obtain ⟨C, f, fd, ps, k, h1, hC, hm, F, hr, hb⟩ := hM
  rw [hN] at hm
  cases r1
  obtain rfl : v = Value.ref p := w1
  obtain ⟨C', dx, ns, ws, k1, k2, _⟩ := A.ob p _ hMp
  have eC : Value.ref C' = .ref C := Option.some.inj (k1.symm.trans h1)
  cases eC
  obtain ⟨mA, J, _⟩ := ins_get I.hok k2
  obtain ⟨od, J, _⟩ := J.look
  have ht : ∃ tb, PySem.W.Looks (model X.prog X.w) s.heap (typeOf u) tb ∧ PySem.W.notFirst X.K C tb = true := by
    rcases ho2 with ⟨p2, fs2, rfl, hMp2⟩ | ho2
    · cases r2
      obtain rfl : u = Value.ref p2 := w2
      obtain ⟨C', dx', ns', ws', k1', k2', _⟩ := A.ob p2 _ hMp2
      have eC : Value.ref C' = .ref C := Option.some.inj (k1'.symm.trans h1)
      cases eC
      obtain ⟨mA', J', _⟩ := ins_get I.hok k2'
      obtain ⟨od', J', _⟩ := J'.look
      exact ⟨.ref C, J'.type, by simp [PySem.W.notFirst]⟩
    · obtain ⟨n, hn⟩ := Option.isSome_iff_exists.mp ho2
      obtain ⟨g1, g2⟩ := ty_rep A r2 hn
      obtain ⟨P, Z, pp, hne⟩ := kit_of I w2 g1
      have hc := hC.nt
      unfold clsNot at hc
      simp only [List.all_eq_true, Bool.and_eq_true, decide_eq_true_eq] at hc
      refine ⟨.type n, Z.ty _ _ I.kIn pp, ?_⟩
      unfold PySem.W.notFirst
      rw [(hc n g2).1]
      simp
  obtain ⟨tb, hty, hnf⟩ := ht
  obtain ⟨m, hF⟩ := I.fr
  have hl := F.len _ _ _ _ q
  have hbd : BindsTo s fd ⟨[.ref p, u], []⟩ (ps.zip [.ref p, u]) := by
    simpa using hb s [.ref p, u] I.kIn (by simpa using hl)
  rcases ho with ⟨rfl, rfl⟩ | ⟨rfl, rfl⟩
  · show wpAny (model X.prog X.w) X.A (richCompare .Eq (.ref p) u) (EP X pins σ (lft (wd X) M H Q)) X.xe s
    refine PySem.W.cmp_K (op := .Eq) (tb := tb) hr.units0 hF I.ok.mod.kin J hty hnf hm.at_ hm.fn ?_
    refine wpAny_call (codeAny_mono (F.run X.A X.stack s H ⟨[.ref p, u], []⟩ [.ref p, u] [.ref p, y] [.ref p, d2] M _ _ (hr.mono (Nat.le_succ k)) gd I.env0 hbd (.cons rfl (.cons w2 .nil)) A ⟨_, _, rfl, rfl, _, _, rfl, r2, rfl⟩ q) fun res s' z => ?_)
    match res, z with
    | .ok (.ret u), z =>
      obtain ⟨v, H', I3, rv', d, M', xt, rd, A', b, hd, hq⟩ := I.after z
      subst hd
      cases rd
      obtain rfl : u = Value.bool b := rv'
      exact ⟨.bl b, H', I3, rfl, .bl b, M', xt, rfl, A', by have := hR b M' hq; simpa using this⟩
    | .ok .next, z => exact z.elim
    | .ok .brk, z => exact z.elim
    | .ok .cont, z => exact z.elim
    | .error e, z =>
      obtain ⟨a, B, H', cls, d, e1, e2, e3, ub, e5, e6, e7, ⟨x, M', xt, A', rx, ex⟩⟩ := z
      exact ex.elim
  · show wpAny (model X.prog X.w) X.A (richCompare .NotEq (.ref p) u) (EP X pins σ (lft (wd X) M H Q)) X.xe s
    refine ne_K (tb := tb) (hu_of hr) I.kIn J hty hnf hC hm.at_ hm.fn ?_
    refine wpAny_call (codeAny_mono (F.run X.A.in1 X.stack s H ⟨[.ref p, u], []⟩ [.ref p, u] [.ref p, y] [.ref p, d2] M _ _ hr.in1 gd I.env0.in1 hbd (.cons rfl (.cons w2 .nil)) A ⟨_, _, rfl, rfl, _, _, rfl, r2, rfl⟩ q) fun res s' z => ?_)
    match res, z with
    | .ok (.ret u), z =>
      obtain ⟨v, H', I3, rv', d, M', xt, rd, A', b, hd, hq⟩ := I.after z
      subst hd
      cases rd
      obtain rfl : u = Value.bool b := rv'
      exact ⟨b, rfl, .bl (!b), H', I3, rfl, .bl (!b), M', xt, rfl, A', by have := hR b M' hq; simpa using this⟩
    | .ok .next, z => exact z.elim
    | .ok .brk, z => exact z.elim
    | .ok .cont, z => exact z.elim
    | .error e, z =>
      obtain ⟨a, B, H', cls, d, e1, e2, e3, ub, e5, e6, e7, ⟨x, M', xt, A', rx, ex⟩⟩ := z
      exact ex.elim
/-- isinstance of an instance of the own class -/
def isCD (c : Str) (d : D) (M : Mp) (Q : QE) : Prop := (∃ p fs, d = .ref p ∧ M p = some (.ins c fs) ∧ Q (.bl true) M) ∨ ((tyD M d).isSome = true ∧ Q (.bl false) M)
theorem DE.isC {e : Expr} {te : DTE} {p p2 pos : Pos} {x c : Str} {C : Addr} (hC : EqC X.K C) (hc : X.mg c = some (.ref C)) (he : DE X e te) (hx : x = "isinstance") (hg : Gl X x) (hm : X.mg x = none) (hg2 : Gl X c) (hd : (c == ("__debug__" : Str)) = false) (hs : notStar e = true) :
    DE X (.Call (.Name x p) [e, .Name c p2] [] pos) (fun ρ M Q => te ρ M fun d M1 => isCD c d M1 Q) := by
  subst hx
  refine DE.of (pe_callB (id := "isinstance") cr_cC hg hm (by decide +kernel) (pa_cons pe_cT (pa_cons (pe_glob hg2 hc (v := .ref C) rfl hd) pa_nil) (star_cons hs)) (by decide +kernel) (by decide +kernel) (star_cons hs) (star_none rfl)) fun σ H ρ M Q S A z => ?_
  refine he.bind S A z fun v d M1 H1 xt r A1 S1 q => ?_
  rcases q with ⟨a, fs, rfl, hMa, q⟩ | ⟨ht, q⟩
  · obtain rfl : v = V.ref a := r
    obtain ⟨C', dx, ns, ws, k1, k2, _⟩ := A1.ob a _ hMa
    have eC : Value.ref C' = .ref C := Option.some.inj (k1.symm.trans hc)
    cases eC
    intro pins s σ2 us I rvs
    refine call_isi pins s σ2 H1 _ us _ I rvs ⟨V.ref a, .ref C, .ref C, .ref C, true, rfl, .own C, .base (.ins k2 hC.cl hC.ha hC.hn hC.tk hC.mro), ?_, lft.trans xt (lft.bl A1 q)⟩
    unfold PySem.W.kitOne
    rw [if_pos (by simp)]
  · intro pins s σ2 us I rvs
    obtain ⟨u1, u2, rfl, r1, r2⟩ := vals2 rvs
    obtain rfl : u2 = Value.ref C := r2
    obtain ⟨n, hn⟩ := Option.isSome_iff_exists.mp ht
    obtain ⟨g1, g2⟩ := ty_rep A1 r hn
    obtain ⟨P, Z, pp, hne⟩ := kit_of I r1 g1
    have hc := hC.nt
    unfold clsNot at hc
    simp only [List.all_eq_true, Bool.and_eq_true, decide_eq_true_eq] at hc
    exact PySem.W.kia_one Z I.kIn pp (hc n g2).2 hne fun tk => ⟨.bl false, H1, I.tok tk, rfl, lft.trans xt (lft.bl A1 q)⟩
end
end Ow
namespace Ow
open PySem PySem.Spec PyProof.Rows L2
variable [Tb] [Og]
/-! ### own exceptions: made and raised -/
/-- Base.__init__(self, ..), Base an own exception class -/
structure WinC (K : PySem.W.Frag) (W : Addr) : Prop where
  rd : PySem.W.readsIn K W (.type "type") = true
  ga : PySem.W.specialIn K (.ref W) "__getattribute__" = some (some (.builtin "type.__getattribute__"))
  at_ : PySem.W.findCls K (.ref W) (.type "type") "__init__" = some (.val (.builtin "ValueError.__init__"))
theorem pe_winit {X : Cx} {W : Addr} {wn : Str} {e : Expr} {es : List Expr} {ta : TA} {p1 p2 pos : Pos} (hg : Gl X wn) (hm : X.mg wn = some (.ref W)) (hdb : (wn == ("__debug__" : Str)) = false) (w : WinC X.K W) (ha : PA X (e :: es) ta)
    (hs : (e :: es).all notStar = true) (hl : (p2.endLine == pos.line) = true) (hn : (e :: es).length < 29) :
    PE X (.Call (.Attribute (.Name wn p1) "__init__" p2) (e :: es) [] pos) (tVeI X.K ta) := by
  refine ⟨fun pins s σ H Q I h => ?_⟩
  refine PySem.W.methodCall_KW (ld_glob I hg hm ?_ hdb) (mcall_eq rfl (few_all hs hn) hl)
  refine PySem.W.method_cls I.kIn w.ga (PySem.W.cls_value I.kIn w.rd w.at_ (by decide +kernel) ?_)
  show wpAny _ _ (callWith pos (Value.builtin "ValueError.__init__") [] (backTo pos (starEach (e :: es) X.env)) []) _ _ _
  rw [List.all_cons, Bool.and_eq_true] at hs
  refine PyProof.Rows.callWith_method1 (thn (ha.run pos pins _ σ H _ (I.tok _) h) fun us s1 ⟨vs, H1, I1, r1, a, C, ws, ev, hl, T, ea, q⟩ => ?_) (star_cons hs.1) (star_none hs.2)
  subst ev
  cases r1 with
  | @cons _ u0 _ ur ra rw' =>
    obtain rfl : u0 = Value.ref a := ra
    have hlen : ur.length ≤ sizeLine := by
      rw [← Paired.length rw', sizeLine_eq]
      omega
    exact oinit_ok T I1 ea hlen fun s' J => ⟨.non, H1, J, rfl, q⟩
/-- an own exception class: its name, what its instances hold -/
structure XI where
  name : Str
  fld : Option Str
  deriving DecidableEq
def XI.n (x : XI) : Nat := match x.fld with | some _ => 1 | none => 0
/-- what its __init__ makes of the new exception -/
def spX (K : PySem.W.Frag) (f : Option Str) : Sp := fun vs H Q _ => match f with
  | none => ∃ a C, vs = [.ref a] ∧ OexC K C ∧ H a = some (exo a C none) ∧ Q .non H
  | some f => ∃ a C y, vs = [.ref a, y] ∧ OexC K C ∧ PySem.W.findIn K (.ref C) f = some none ∧ H a = some (exo a C none) ∧ ∀ dx, H dx = none → dx ≠ a → Q .non (upd (upd H dx (exd dx [(f, y)])) a (exo a C (some dx)))
def spX_ps (f : Option Str) (p : Str) : List Str := match f with | none => ["self"] | some _ => ["self", p]
/-- the text of such an __init__ -/
def initB (f : Option Str) (p w : Str) : List Stmt → Bool
  | [.Expr (.Call (.Attribute (.Name x _) m ap) [.Name s _, .Constant (.str _) _ _] [] pos) _] => decide (f = none) && decide (x = w) && decide (m = "__init__") && decide (s = "self") && (ap.endLine == pos.line)
  | [.Expr (.Call (.Attribute (.Name x _) m ap) [.Name s _, .Constant (.str _) _ _] [] pos) _, .Assign [.Attribute (.Name s2 _) g _] (.Name y _) _] =>
    decide (f = some g) && decide (x = w) && decide (m = "__init__") && decide (s = "self") && (ap.endLine == pos.line) && decide (s2 = "self") && decide (y = p)
  | _ => false
theorem initB_inv {f : Option Str} {p w : Str} {bs : List Stmt} (h : initB f p w bs = true) : (∃ p1 ap p2 tx j p3 pos pos2, f = none ∧ bs = [.Expr (.Call (.Attribute (.Name w p1) "__init__" ap) [.Name "self" p2, .Constant (.str tx) j p3] [] pos) pos2] ∧ (ap.endLine == pos.line) = true) ∨
    ∃ g p1 ap p2 tx j p3 pos pos2 p4 p5 p6 pos3, f = some g ∧ bs = [.Expr (.Call (.Attribute (.Name w p1) "__init__" ap) [.Name "self" p2, .Constant (.str tx) j p3] [] pos) pos2, .Assign [.Attribute (.Name "self" p4) g p5] (.Name p p6) pos3] ∧ (ap.endLine == pos.line) = true := by
  unfold initB at h
  split at h
  · simp only [Bool.and_eq_true, decide_eq_true_eq] at h
    obtain ⟨⟨⟨⟨rfl, rfl⟩, rfl⟩, rfl⟩, hl⟩ := h
    exact .inl ⟨_, _, _, _, _, _, _, _, rfl, rfl, hl⟩
  · simp only [Bool.and_eq_true, decide_eq_true_eq] at h
    obtain ⟨⟨⟨⟨⟨⟨rfl, rfl⟩, rfl⟩, rfl⟩, hl⟩, rfl⟩, rfl⟩ := h
    exact .inr ⟨_, _, _, _, _, _, _, _, _, _, _, _, _, rfl, rfl, hl⟩
  · cases h
theorem fnX_ok {P : Program} {w : World} {K : PySem.W.Frag} {mg : Str → Option Value} {base : Heap} {f : Addr} {fd : FuncData} {qual : Str} {st : Stmt} {fl : Option Str} {p wn : Str} {W : Addr} (F : ∃ (oc : Value) (od : Option Addr) (dV kV doc pm : Value) (an : Option Addr) (cdv ct : Value) (osl : Array (Option Value)),
    fd = PySem.W.fnOf "__init__" qual (defArgs st) (defBody st) (defScope st) dV kV doc pm an cdv ct ∧ K.lookup f = some ⟨oc, od, .func fd, osl⟩ ∧ PySem.W.codeIn K cdv qual = true)
    (S : FnScope (spX_ps fl p) (spX_ps fl p) (defScope st)) (hw : mg wn = some (.ref W)) (hwc : WinC K W) (hg : (defScope st).names.lookup wn = some .globalImplicit) (hdb : (wn == ("__debug__" : Str)) = false) (hb : initB fl p wn (defBody st) = true)
    (hp : (p == ("__debug__" : Str)) = false ∧ (p == ("__classdict__" : Str)) = false) : FnOk P w K mg base (L2.CX P w) 1 f fd (spX_ps fl p) (spX K fl) := by
  obtain ⟨oc, od, dV, kV, doc, pm, an, cdv, ct, osl, rfl, lk, hcd⟩ := F
  refine fn_of lk hcd S (fun vs H Q E h => ?_) fun A outer s H vs Q E hr h => ?_
  · cases fl with
    | none => obtain ⟨a, C, rfl, _⟩ := h; rfl
    | some g => obtain ⟨a, C, y, rfl, _⟩ := h; rfl
  · obtain ⟨X, hX⟩ : ∃ X, X = cxOf (L2.CX P w) P w K mg base (spX_ps fl p) qual (defScope st) f cdv A outer s H E := ⟨_, rfl⟩
    rw [← hX]
    have hK : X.K = K := by rw [hX]; rfl
    have hN : X.N = spX_ps fl p := by rw [hX]; rfl
    have hself : (spX_ps fl p)[0]? = some ("self" : Str) := by cases fl <;> rfl
    have vS : Vis X.env.scope "self" := by
      rw [hX]
      have hm : ("self" : Str) ∈ spX_ps fl p := by cases fl <;> exact List.mem_cons_self
      rcases S.par _ hm with z | z
      · exact .inl z
      · exact .inr (.inl z)
    have gW : Gl X wn := by rw [hX]; exact hg
    have mW : X.mg wn = some (.ref W) := by rw [hX]; exact hw
    have hwc' : WinC X.K W := by rw [hX]; exact hwc
    have two : ∀ (a b : Expr), [a, b].length < 29 := fun a b => by show 2 < 29; decide
    rcases initB_inv hb with ⟨p1, ap, p2, tx, j, p3, pos, pos2, rfl, eb, hl⟩ | ⟨g, p1, ap, p2, tx, j, p3, pos, pos2, p4, p5, p6, pos3, rfl, eb, hl⟩
    · rw [eb]
      obtain ⟨a, C, rfl, T, ea, q⟩ := h
      refine ⟨_, pss_one (ps_expr (pe_winit gW mW hdb hwc' (pa_cons (pe_var (i := 0) (by rw [hN]; exact hself) vS) (pa_cons pe_str pa_nil)) rfl hl (two _ _)) rfl), ?_⟩
      exact ⟨_, rfl, a, C, _, rfl, (by show 1 ≤ 1000; decide), by rw [hK]; exact T, ea, q⟩
    · rw [eb]
      obtain ⟨a, C, v, rfl, T, hno, ea, q⟩ := h
      have vP : Vis X.env.scope p := by
        rw [hX]
        have hm : p ∈ spX_ps (some g) p := List.mem_cons_of_mem _ List.mem_cons_self
        rcases S.par _ hm with z | z
        · exact .inl z
        · exact .inr (.inl z)
      refine ⟨_, pss_cons (ps_expr (pe_winit gW mW hdb hwc' (pa_cons (pe_var (i := 0) (by rw [hN]; rfl) vS) (pa_cons pe_str pa_nil)) rfl hl (two _ _)) rfl) (pss_one (ps_ost (pe_var (i := 0) (by rw [hN]; rfl) vS) (pe_var (i := 1) (by rw [hN]; rfl) vP hp.1 hp.2))), ?_⟩
      refine ⟨_, rfl, a, C, _, rfl, (by show 1 ≤ 1000; decide), by rw [hK]; exact T, ea, ?_⟩
      exact ⟨_, rfl, _, rfl, a, C, rfl, by rw [hK]; exact T, by rw [hK]; exact hno, .inl ⟨ea, fun dx h1 h2 => q dx h1 h2⟩⟩
/-- the exception's dict at the data's level -/
def XI.fs (x : XI) (ds : List D) : List (Str × D) := match x.fld, ds with
  | some f, [d] => [(f, d)]
  | _, _ => []
/-- an own exception class, from here with room for making an instance -/
def XOk (X : Cx) (x : XI) : Prop := ∃ (C fI : Addr) (fd : FuncData) (p : Str) (k : Nat), X.mg x.name = some (.ref C) ∧ OexC X.K C ∧ PySem.W.findIn X.K (.ref C) "__init__" = some (some (.ref fI)) ∧ PySem.W.typeIn X.K (.ref fI) = some (.type "function") ∧
  (∀ f, x.fld = some f → PySem.W.findIn X.K (.ref C) f = some none) ∧ FnOk X.prog X.w X.K X.mg X.base (L2.CX X.prog X.w) k fI fd (spX_ps x.fld p) (spX X.K x.fld) ∧ Room (k + 1) X.A ∧ Binds X.K fd (spX_ps x.fld p) []
theorem del_upd_exo {H : Hp} {a dx : Addr} {u v w z : HO} (hn : H a = none) (hd : dx ≠ a) : upd (del (upd (upd (upd H a u) dx v) a w) a) dx z = upd H dx z := by
  funext b
  by_cases e : b = dx
  · subst e
    rw [L2.upd_same, L2.upd_same]
  · rw [L2.upd_ne e, L2.upd_ne e]
    by_cases e2 : b = a
    · subst e2
      rw [del_same, hn]
    · rw [del_ne e2, L2.upd_ne e2, L2.upd_ne e, L2.upd_ne e2]
section
variable {X : Cx} {pins : List (Addr × Obj)} {σ : L2.St} {H1 H2 : Hp} {Q : XK}
/-- the end of C(), nothing written into it -/
theorem mk_endN {hp hp2 h2 : Heap} {g1 g2 : Array GenState} {d1 d2 : Drawn} {t1 t2 : Nat} {os1 os2 : OsState} {a C : Addr} (T : Raises X (.ref C)) (I1 : Inv X pins σ H1 ⟨hp, g1, d1, t1, os1⟩)
    (ha : hp.objs.size ≤ a) (k : ∀ b o, hp.get? b = some o → hp2.get? b = some o) (un : Un (frs X.stack) [] (upd H1 a (exo a C none)) H2 hp2 h2) (hok : HOk X.prog X.w H2 h2) (ho : os2 = os1) (hb : AllBare g2)
    (ea : H2 = upd H1 a (exo a C none)) (q : Q (.ref C) none H1) : MkP X pins σ Q (.ref a) ⟨h2, g2, d2, t2, os2⟩ := by
  have ea' : H2 a = some (exo a C none) := by rw [ea, L2.upd_same]
  obtain ⟨t0, hoe⟩ := exo_at hok ea'
  have hn : H1 a = none := I1.hok.fresh ha
  obtain ⟨G, g1', g2'⟩ := restrict h2 fun b => decide (b ≠ a)
  have gk : ∀ b, b ≠ a → G.get? b = h2.get? b := fun b hb => g1' b (decide_eq_true hb)
  have ge : G.get? a = none := g2' a (by simp)
  have nha : ∀ {b : Addr} {o : Obj}, hp.get? b = some o → b ≠ a := fun {b o} z => Nat.ne_of_lt (Nat.lt_of_lt_of_le (Heap.lt_size z) ha)
  have up : ∀ {b : Addr}, b ≠ a → H1 b = none → upd H1 a (exo a C none) b = none := fun {b} hb n => by rw [L2.upd_ne hb]; exact n
  have U : Un (frs X.stack) [] H1 H1 hp G := {
    keep := fun b o z n hf hx => by
      rw [gk b (nha z)]
      exact un.keep b o (k b o z) (up (nha z) n) hf hx
    slot := fun b o z n hf hx => by
      rw [gk b (nha z)]
      exact un.slot b o (k b o z) (up (nha z) n) hf hx
    free := fun b o z n hx => n
    there := fun b o z hx => by
      rw [gk b (nha z)]
      exact un.there b o (k b o z) hx
    tups := fun b xs z => z
    frzs := fun b o v z => z
    tbls := fun b ps z => ⟨#[], by simpa using z⟩ }
  have hok3 : HOk X.prog X.w H1 G := fun b o z => by
    have hba : b ≠ a := fun e => by rw [e, hn] at z; cases z
    have z2 : H2 b = some o := by rw [ea, L2.upd_ne hba]; exact z
    have noa : ∀ {c : Addr}, H2 c = some (.own b) → c ≠ a := fun {c} hc => at_ne ea' hc exo_own
    exact (hok b o z2).stay (fun c v hc y => by
        have hca : c ≠ a := by
          rcases hc with hc | hc
          · rw [hc]; exact hba
          · exact noa hc
        rw [gk c hca]; exact y)
      (fun c hc => by
        have := noa hc
        rw [ea, L2.upd_ne this] at hc; exact hc)
      (fun c xs hc => by
        have : c ≠ a := at_ne ea' hc exo_tup
        rw [ea, L2.upd_ne this] at hc; exact hc)
  have J : Inv X pins σ H1 ⟨G, g2, d2, t2, os2⟩ := I1.call' (ch := []) ho U hok3 hb (fun b z => absurd z (by simp))
  refine ⟨a, _, _, ⟨G, g2, d2, t2, os2⟩, _, .ref C, none, rfl, J, fun b o z => ?_, ge, hoe, ⟨rfl, rfl⟩, rfl, rfl, hn, rfl, hb, T, q⟩
  by_cases hba : b = a
  · rw [hba, ge] at z
    cases z
  · exact (gk b hba).symm.trans z
/-- C(..), the arguments evaluated -/
theorem mk_call {x : XI} (hX : XOk X x) {s1 : Shared} {vs : List V} {us : List Value} (I1 : Inv X pins σ H1 s1) (r1 : Vals vs us) (hl : vs.length = x.n)
    (q : match x.fld, vs with
      | none, [] => ∀ C, X.mg x.name = some (.ref C) → Q (.ref C) none H1
      | some f, [v] => ∀ C dx, X.mg x.name = some (.ref C) → H1 dx = none → Q (.ref C) (some dx) (upd H1 dx (.xd [(f, v)]))
      | _, _ => False) : ∃ C, X.mg x.name = some (.ref C) ∧ PySem.W.keepIn X.K (.ref C) = true ∧ wpAny (model X.prog X.w) X.A (call (.ref C) us) (MkP X pins σ Q) X.xe s1 := by
  obtain ⟨C, fI, fd, pn, k, hm, T, iC, tI, hf, F1, hr, hb⟩ := hX
  refine ⟨C, hm, T.kC, ?_⟩
  have hx : Passes (L2.CX X.prog X.w) X (fun _ _ _ => False) := passes_call LamX.takes0 fun _ _ _ _ z => z
  obtain ⟨nm, qn, N, bs, bm, sn, sub, ab, col, dd, k0, k1, k2, k3, k5, hC, hbm⟩ := T.cls
  obtain ⟨hp, g, dr, tk, os⟩ := s1
  have hsz : hp.objs.size ≤ hp.objs.size + 1 := Nat.le_succ _
  have hn : H1 (hp.objs.size + 1) = none := I1.hok.fresh hsz
  have kk : ∀ b o, hp.get? b = some o → ((hp.push (PySem.W.kdv_tup us)).push (PySem.HandSPX.excO C hp.objs.size)).get? b = some o := fun b o e => Heap.get?_push_of_some _ (Heap.get?_push_of_some _ e)
  have hget : ((hp.push (PySem.W.kdv_tup us)).push (PySem.HandSPX.excO C hp.objs.size)).get? (hp.objs.size + 1) = some (PySem.HandSPX.excO C hp.objs.size) := by heap_get
  have I2 : Inv X pins σ (upd H1 (hp.objs.size + 1) (exo (hp.objs.size + 1) C none)) ⟨(hp.push (PySem.W.kdv_tup us)).push (PySem.HandSPX.excO C hp.objs.size), g, dr, tk, os⟩ :=
    I1.laid (t' := tk) (a := hp.objs.size + 1) (o := exo (hp.objs.size + 1) C none) (h' := (hp.push (PySem.W.kdv_tup us)).push (PySem.HandSPX.excO C hp.objs.size)) kk hsz (exo_ok hget)
  have r2 : Vals (V.ref (hp.objs.size + 1) :: vs) (Value.ref (hp.objs.size + 1) :: us) := .cons rfl r1
  have hlen : (Value.ref (hp.objs.size + 1) :: us).length = (spX_ps x.fld pn).length := by
    rw [List.length_cons, ← r1.length, hl]
    unfold XI.n spX_ps
    cases x.fld <;> rfl
  have hus : us.length ≤ sizeLine := by
    rw [← r1.length, hl, sizeLine_eq]
    unfold XI.n
    cases x.fld with
    | none => exact Nat.zero_le _
    | some _ => show 1 ≤ 16777216; decide
  have sp1 : spX X.K x.fld (V.ref (hp.objs.size + 1) :: vs) (upd H1 (hp.objs.size + 1) (exo (hp.objs.size + 1) C none)) (fun v H2 => v = .non ∧ ((x.fld = none ∧ H2 = upd H1 (hp.objs.size + 1) (exo (hp.objs.size + 1) C none)) ∨
      ∃ f dx v, x.fld = some f ∧ vs = [v] ∧ H1 dx = none ∧ dx ≠ hp.objs.size + 1 ∧ H2 = upd (upd (upd H1 (hp.objs.size + 1) (exo (hp.objs.size + 1) C none)) dx (exd dx [(f, v)])) (hp.objs.size + 1) (exo (hp.objs.size + 1) C (some dx)))) (fun _ _ _ => False) := by
    unfold spX
    cases hfl : x.fld with
    | none =>
      rw [hfl] at q
      cases vs with
      | nil => exact ⟨_, C, rfl, T, L2.upd_same, rfl, .inl ⟨rfl, rfl⟩⟩
      | cons v vs => exact q.elim
    | some f =>
      rw [hfl] at q
      cases vs with
      | nil => exact q.elim
      | cons v vs =>
        cases vs with
        | cons v2 vs => exact q.elim
        | nil =>
          refine ⟨_, C, v, rfl, T, hf f hfl, L2.upd_same, fun dx h1 h2 => ⟨rfl, .inr ⟨f, dx, v, rfl, rfl, ?_, h2, rfl⟩⟩⟩
          rw [L2.upd_ne h2] at h1
          exact h1
  refine wpAny_call (PySem.HandSPX.call_own F.excBase_ValueError (fun Y => PySem.HandSPX.refsVE_contains Y bm hbm) (I1.kIn _ _ hC) (PySem.W.looks_findIn I1.kIn iC) (fun self => PySem.W.bind_fn I1.kIn self tI) hus
    (codeAny_mono (F1.run _ X.stack _ _ ⟨Value.ref (hp.objs.size + 1) :: us, []⟩ (Value.ref (hp.objs.size + 1) :: us) _ _ (fun _ _ _ => False) (hr.make C us []) (I2.env0.make C us []) (by simpa using hb _ (Value.ref (hp.objs.size + 1) :: us) I2.kIn (by simpa using hlen)) r2 sp1) fun r s' hq' => ?_))
  cases r with
  | error er => exact hx pins σ _ _ er s' I2 hq'
  | ok fl =>
    cases fl with
    | ret u =>
      obtain ⟨v, H2, os2, bare2, un2, hok2, rv, ev, h2⟩ := hq'
      subst ev
      obtain ⟨h3, g2, d2, t2, os'⟩ := s'
      refine ⟨rv, ?_⟩
      rcases h2 with ⟨hfl, e2⟩ | ⟨f, dx, v, hfl, rfl, hd1, hne, e2⟩
      · rw [hfl] at q
        have q' : Q (.ref C) none H1 := by
          cases vs with
          | nil => exact q C hm
          | cons _ _ => exact q.elim
        exact mk_endN (raises_own T.exC T.tyC) I1 hsz kk un2 hok2 os2 bare2 e2 q'
      · rw [hfl] at q
        have q' := q C dx hm hd1
        refine mk_end (d := dx) (fs := [(f, v)]) (raises_own T.exC T.tyC) I1 hsz kk un2 hok2 os2 bare2 (by rw [e2, L2.upd_same]) (by rw [e2, L2.upd_ne hne, L2.upd_same]) hd1 ?_
        rw [e2, del_upd_exo hn hne]
        exact q'
    | next => exact False.elim hq'
    | brk => exact False.elim hq'
    | cont => exact False.elim hq'
end
section
variable {X : Cx} {E : EX} {x : XI} {nm : Str} {es : List Expr} {t : DTA} {p pos pos2 : Pos}
theorem DS.rse (hc : X.calm = true) (tk : Takes X (upW (wd X) E)) (hX : XOk X x) (hx : x.name = nm) (hg : Gl X nm) (hd : (nm == ("__debug__" : Str)) = false) (h : DA X es t) (hs : es.all notStar = true) (hnil : es = [] → ∀ ρ M Q, t ρ M Q → Q [] M) :
    DS X (.Raise (some (.Call (.Name nm p) es [] pos)) none pos2) (fun _ ρ M => t ρ M fun ds M1 => ds.length = x.n ∧ E ⟨nm, x.fs ds⟩ ρ M1) := by
  subst hx
  refine DS.of (t' := fun _ σ H => ∀ (pins : List (Addr × Obj)) (s : Shared), Inv X pins σ H s → wpAny (model X.prog X.w) X.A (eval (.Call (.Name x.name p) es [] pos) X.env) (MkP X pins σ fun cls d H' => upW (wd X) E cls d σ H') X.xe s)
    (ps_raise (t := fun σ H Q => ∀ (pins : List (Addr × Obj)) (s : Shared), Inv X pins σ H s → wpAny (model X.prog X.w) X.A (eval (.Call (.Name x.name p) es [] pos) X.env) (MkP X pins σ Q) X.xe s) hc tk fun pins s σ H Q I h => h pins s I) fun σ H ρ M Dn De S A z k pins s I => ?_
  have hX' := hX
  obtain ⟨C, fI, fd, pn, kk, hm, T, iC, tI, hf, F1, hr, hb⟩ := hX
  have fin : ∀ {vs : List V} {us : List Value} {ds : List D} {M1 : Mp} {H1 : Hp} {s1 : Shared}, Inv X pins σ H1 s1 → Vals vs us → Reps (wd X) M1 H1 ds vs → AbsM (wd X) M1 H1 → AbsS (wd X) M1 H1 ρ σ → ds.length = x.n → E ⟨x.name, x.fs ds⟩ ρ M1 →
      wpAny (model X.prog X.w) X.A (call (.ref C) us) (MkP X pins σ fun cls d H' => upW (wd X) E cls d σ H') X.xe s1 := by
    intro vs us ds M1 H1 s1 I1 rv r A1 S1 hl q
    obtain ⟨C', hm', _, hw⟩ := mk_call (Q := fun cls d H' => upW (wd X) E cls d σ H') hX' I1 rv (by rw [← r.length]; exact hl) (by
      have hl2 : vs.length = x.n := by rw [← r.length]; exact hl
      unfold XI.n at hl2
      unfold XI.fs at q
      cases hfl : x.fld with
      | none =>
        rw [hfl] at hl2 q
        cases vs with
        | cons v vs => cases hl2
        | nil =>
          intro C' hC'
          have q' : E ⟨x.name, []⟩ ρ M1 := by
            cases ds <;> exact q
          exact ⟨⟨x.name, []⟩, ρ, M1, S1, A1, ⟨C', hC', rfl, .inl ⟨rfl, rfl⟩⟩, q'⟩
      | some f =>
        rw [hfl] at hl2 q
        cases vs with
        | nil => cases hl2
        | cons v vs =>
          cases vs with
          | cons v2 vs => cases hl2
          | nil =>
            intro C' dx hC' hdx
            cases ds with
            | nil => cases (show [v] = [] from r)
            | cons d ds =>
              obtain ⟨v', r', e, rd, rr⟩ := r
              cases e
              cases ds with
              | cons d2 ds => obtain ⟨_, _, e, _⟩ := rr; cases e
              | nil =>
                have xf : Ext (wd X) M1 H1 M1 (upd H1 dx (.xd [(f, v)])) := Ext.fresh hdx
                exact ⟨⟨x.name, [(f, d)]⟩, ρ, M1, S1.ext xf, A1.fresh hdx, ⟨C', hC', rfl, .inr ⟨dx, [f], [v], rfl, L2.upd_same, rfl, rfl, ⟨v, [], rfl, rd.ext xf, rfl⟩⟩⟩, q⟩)
    have e : C' = C := by rw [hm] at hm'; cases hm'; rfl
    subst e
    exact hw
  refine wpAny_Call_Name_kw (ld_glob I hg hm ?_ hd)
  cases es with
  | nil =>
    have q := hnil rfl _ _ _ z
    exact PySem.W.callWith_K0 I.kIn T.kC (fin (vs := []) (ds := []) I .nil rfl A S q.1 q.2)
  | cons e es =>
    rw [List.all_cons, Bool.and_eq_true] at hs
    refine PySem.W.callWith_K (h₀ := X.base) I.ok.mod.kin T.kC (thn (h.to σ H ρ M _ S A z pos pins s I) fun us s1 ⟨vs, H1, I1, rv, ds, M1, xt, r, A1, q⟩ => ⟨I1.kIn, ?_⟩) (star_cons hs.1) (star_none hs.2)
    exact fin I1 rv r A1 (S.ext xt) q.1 q.2
end
/-! ### try: .. except ..: the exception is known behind the suite -/
section
variable {X : Cx} {pins : List (Addr × Obj)} {σ : L2.St} {H : Hp} {s : Shared} {a : Addr} {o : Obj}
/-- an object that stands since the entry of the def, pinned, is tracked -/
theorem Inv.known (I : Inv X ((a, o) :: pins) σ H s) (h0 : X.s_0.heap.get? a = none) (hp : ∀ p ∈ X.pn ++ pins, p.1 ≠ a) : Inv X pins σ (upd H a (kn o)) s := by
  obtain ⟨e1, e2, e3, e4, e5⟩ := I.pin (a, o) (List.mem_append_right _ List.mem_cons_self)
  have ne0 : ∀ b u, X.s_0.heap.get? b = some u → b ≠ a := fun b u e z => by rw [z, h0] at e; cases e
  have un : ∀ b u, H b = some u → upd H a (kn o) b = some u := fun b u e => by rw [L2.upd_ne (fun z => by rw [z, e2] at e; cases e)]; exact e
  refine ⟨I.ok, I.os, I.bare, ⟨I.base.keep, I.base.slot, fun b u e n hx => ?_, I.base.there, fun b xs e => un _ _ (I.base.tups b xs e), fun b u v e => un _ _ (I.base.frzs b u v e), fun b ps e => ?_⟩, I.loc, I.cell, ?_, fun x c e => ?_, fun p hp' => ?_, fun b u e => ?_, I.len⟩
  · rw [L2.upd_ne (ne0 b u e)]
    exact I.base.free b u e n hx
  · obtain ⟨more, z⟩ := I.base.tbls b ps e
    exact ⟨more, un _ _ z⟩
  · rw [L2.upd_ne (Ne.symm e3)]
    exact I.free
  · have : c ≠ a := fun z => by
      obtain ⟨v, oc, ho, hd⟩ := I.cell x c e
      have ho' : s.heap.get? a = some oc := by rw [← z]; exact ho
      rw [show s.heap.get? a = some o from e1] at ho'
      cases ho'
      exact e5 _ hd
    rw [L2.upd_ne this]
    exact I.freeC x c e
  · obtain ⟨z1, z2, z3⟩ := I.pin p (by
      rcases List.mem_append.mp hp' with h | h
      · exact List.mem_append_left _ h
      · exact List.mem_append_right _ (List.mem_cons_of_mem _ h))
    exact ⟨z1, by rw [L2.upd_ne (hp p hp')]; exact z2, z3⟩
  · by_cases hb : b = a
    · subst hb
      rw [L2.upd_same] at e
      cases e
      exact ⟨e1, ⟨_, e1⟩⟩
    · rw [L2.upd_ne hb] at e
      exact (I.hok b u e).stay (fun c v _ q => q) (fun c q => un _ _ q) fun c xs q => un _ _ q
end
/-- the ends behind a suite: the name is gone, the exception known -/
def endsX (a : Addr) (cls : Value) (d : Option Addr) (i : Option Nat) (D : Ends) : Ends :=
  let go : L2.St → L2.St := fun σ => match i with | some i => σ.set i none | none => σ
  let all : (Hp → Prop) → Hp → Prop := fun P H => H a = none → ∀ oe, Zc cls d oe → (∃ vs, oe.data = .fields vs) → P (upd H a (kn oe))
  { nx := fun σ H => all (D.nx (go σ)) H, rt := fun v H => all (D.rt v) H, bk := fun σ H => all (D.bk (go σ)) H, ct := fun σ H => all (D.ct (go σ)) H }
/-- what the clauses wish -/
def wMy (K : PySem.W.Frag) (n : Nat) (Wout : WX) (D : Ends) : List (Value × Option Nat × (Addr → Value → Option Addr → TS)) → WX
  | [] => Wout
  | (c, i, ts) :: r => fun cls d σ H => ∃ b, PySem.W.exmOne K cls c = some b ∧ (b = true → σ.length = n → ∀ a, H a = none → ts a cls d (endsX a cls d i D) (match i with | some i => σ.set i (some (.ref a)) | none => σ) H) ∧ (b = false → wMy K n Wout D r cls d σ H)
inductive HdsMy (X : Cx) : List ExceptHandler → List (Value × Option Nat × (Addr → Value → Option Addr → TS)) → Prop
  | nil : HdsMy X [] []
  | cons {x : Str} {c : Value} {i : Option Nat} {n : Option Str} {ts : Addr → Value → Option Addr → TS} {b₀ : Stmt} {suite : List Stmt} {np pos' : Pos} {hds : List ExceptHandler} {l : List (Value × Option Nat × (Addr → Value → Option Addr → TS))} (hc : Names X x c)
      (hn : (n = none ∧ i = none) ∨ ∃ m j, n = some m ∧ i = some j ∧ X.N[j]? = some m ∧ X.env.kindOf m = some .local)
      (hsu : ∀ (a : Addr) (oe : Obj) (cls : Value) (d : Option Addr) (pn : List (Addr × Obj)), Zc cls d oe → (∃ vs, oe.data = .fields vs) → PSs (X.suite a ((a, oe) :: pn)) (b₀ :: suite) (ts a cls d)) (r : HdsMy X hds l) :
      HdsMy X (.ExceptHandler (some (.Name x np)) n (b₀ :: suite) pos' :: hds) ((c, i, ts) :: l)
section
variable {X : Cx} {body : List Stmt} {h₀ : ExceptHandler} {hds : List ExceptHandler} {l : List (Value × Option Nat × (Addr → Value → Option Addr → TS))} {pos : Pos} {tb : WX → TS} {Wout : WX}
theorem ps_try_my (hex : X.ex = []) (hs : X.stack = X.env :: X.outer) (hf : X.env.frame = some X.env.locals) (hN : X.N.Nodup) (tk : Takes X Wout)
    (hb : ∀ (W : WX) (pn : List (Addr × Obj)) (xe : Value → Shared → Prop), Takes (X.tr pn xe) W → PassesOwn (model X.prog X.w) X.A X.env xe → PSs (X.tr pn xe) body (tb W))
    (hh : HdsMy X (h₀ :: hds) l) : PS X (.Try body (h₀ :: hds) [] [] pos) (fun D σ H => tb (wMy X.K X.N.length Wout D l) D σ H) := by
  refine ⟨fun pins s σ H D I h => ?_⟩
  have ok := I.ok
  have hfr : X.A.frames = some (X.env :: X.outer) := by rw [ok.frames, hs]
  refine wpAny_Try_except ?_
  refine wpAny_mono ((hb (wMy X.K X.N.length Wout D l) (X.pn ++ pins) (fun e s₁ => wpAny (model X.prog X.w) X.A (noteFrame e X.env) (fun _ s₂ => wpAny (model X.prog X.w) X.A (setFlight e none) (fun _ s₃ =>
    wpAny (model X.prog X.w) X.A (handleBy e X.env (h₀ :: hds)) (SP X pins D) X.xe s₃) X.xe s₂) X.xe s₁) (fun u s' xx => ?_) PassesOwn.looking).run [] s σ H D (I.toTry _) h) (fun f s1 hsp => ?_) (fun e s1 he => he)
  · obtain ⟨a, B, sI, pins', σ', H', cls, d, rfl, J', nb, up, sky, na, os, ag, w⟩ := xx
    have J : Inv X pins σ' H' sI := J'.ofTry ok
    have sky' : Sky B (X.env :: X.outer) a (Zc cls d) X.env.locals s'.heap := by rw [← hs]; exact sky
    show wpAny (model X.prog X.w) X.A (noteFrame (.ref a) X.env) _ _ _
    refine Sky.land Zc.steady hfr hf sky' fun h3 fl3 up3 => ?_
    have J3 : Inv X pins σ' H' { s' with heap := h3 } := J.landed nb fl3.1 (up.trans up3) os ag
    obtain ⟨oe3, vs3, he3, hz3, hd3⟩ := fl3.there
    have notFr : ∀ {h : Heap} {o : Obj} {vs : Array Value}, h.FunFrames B (X.env :: X.outer) → h.get? a = some o → o.data = .fields vs → a ∉ frs (X.env :: X.outer) := fun {h o vs} ff e dd hm => by
      obtain ⟨_, o', e', hnf⟩ := ff.mem hm
      rw [e] at e'; cases e'
      exact hnf _ dd
    have nfr := notFr fl3.2.2.1 he3 hd3
    have nL : a ≠ X.env.locals := fun z => nfr (List.mem_filterMap.mpr ⟨X.env, List.mem_cons_self, by rw [hf, z]⟩)
    have nF : a ∉ X.fs := fun hm => by
      obtain ⟨e, he, q⟩ := List.mem_filterMap.mp hm
      exact nfr (List.mem_filterMap.mpr ⟨e, List.mem_cons_of_mem _ he, q⟩)
    have S3 := J3.suite he3 hd3 na nL nF
    -- the exception is newer than what stood before it
    have nB : B.get? a = none := by
      rcases sky with z | z | z
      · exact z.2.1
      · exact z.2.1
      · exact z.2.1
    have nI : sI.heap.get? a = none := by
      cases e : sI.heap.get? a with
      | none => rfl
      | some o =>
        have := nb a o e (by rw [hs]; exact nfr)
        rw [nB] at this; cases this
    have n0 : X.s_0.heap.get? a = none := by
      cases e : X.s_0.heap.get? a with
      | none => rfl
      | some o =>
        obtain ⟨o', e'⟩ := J.base.there a o e (by rw [hex]; exact fun z => nomatch z)
        rw [nI] at e'; cases e'
    have npin : ∀ p ∈ X.pn ++ pins, p.1 ≠ a := fun p hp z => by
      have := (J.pin p hp).1
      rw [z, nI] at this; cases this
    have go : ∀ {hds' : List ExceptHandler} {l' : List (Value × Option Nat × (Addr → Value → Option Addr → TS))}, HdsMy X hds' l' → wMy X.K X.N.length Wout D l' cls d σ' H' →
        wpAny (model X.prog X.w) X.A (handleBy (.ref a) X.env hds') (SP X pins D) X.xe { s' with heap := h3 } := by
      intro hds' l' hk
      induction hk with
      | nil =>
        intro w
        refine wpAny_handleBy_nil ?_
        obtain ⟨k1, k2, k3, oe, vs, T, oT, ts', he, hz, hd, h1, hr⟩ := id fl3
        unfold PySem.passOn
        refine wpAny_bind (wpAny_field he hd h1 ?_)
        rw [if_neg (show ¬ ((Value.ref T == Value.none) = true) from by simp)]
        have fin : wpAny (model X.prog X.w) X.A (setFlight (.ref a) X.env.frame) (fun _ s4 => wpAny (model X.prog X.w) X.A (throw (.ref a) : Sem Flow) (SP X pins D) X.xe s4) X.xe { s' with heap := h3 } := by
          rw [hf]
          refine HandSPX.setFlight_upZ fl3 fun h4 hh4 up4 => wpAny_throw (tk _ _ ?_)
          exact ⟨a, B, sI, pins, σ', H', cls, d, rfl, J, nb, (up.trans up3).trans up4, .inr (.inr (by rw [hs]; exact hh4)), na, os, ag, w⟩
        first
          | exact wpAny_bind (wpAny_pure (wpAny_bind fin))
          | exact wpAny_bind fin
      | @cons x c i n ts b₀ suite np pos' hds2 l2 hc hn hsu r ih =>
        intro w
        obtain ⟨b, hb1, hyes, hno⟩ := w
        refine wpAny_handleBy_cons (codeAny_handlers_test ?_) (by intro q; cases q)
        have LT : PySem.W.Looks (model X.prog X.w) h3 (typeOf (.ref a)) cls := fun A Q E s k q => wpAny_typeOf_ref (k _ _ he3) (by rw [hz3.1]; exact q)
        have LM := PySem.W.exm_one (M := model X.prog X.w) (J3.kIn) LT hb1
        have test : ∀ {Q : Value → Shared → Prop} {E : Value → Shared → Prop}, Q c { s' with heap := h3 } → wpAny (model X.prog X.w) (X.A.mark (some (.ref a))) (eval (.Name x np) X.env) Q E { s' with heap := h3 } := fun {Q E} q => by
          obtain ⟨hg, hdbg, hm | ⟨hm, hv, hnn⟩⟩ := hc
          · exact ld_glob (X := X.suite a ((a, oe3) :: (X.pn ++ pins))) S3 hg hm q hdbg
          · exact ld_blt (X := X.suite a ((a, oe3) :: (X.pn ++ pins))) S3 hg hm hv q hnn hdbg
        refine test (LM.here ?_)
        cases b with
        | true =>
          -- behind the suite: the exception becomes known
          have last : ∀ {σ6 : L2.St} {H6 : Hp} {s6 : Shared} {oe : Obj}, (∃ vs, oe.data = .fields vs) → Inv (X.suite a ((a, oe) :: (X.pn ++ pins))) [] σ6 H6 s6 → Inv X ((a, oe) :: pins) σ6 H6 s6 := fun {σ6 H6 s6 oe} hd S6 => by
            refine Inv.pins_of (S6.unsuite ok) fun p hp => ?_
            rcases List.mem_cons.mp hp with e | h
            · rw [e]; exact S6.pin (a, oe) (List.mem_append_left _ List.mem_cons_self)
            · exact (S6.unsuite ok).pin p (List.mem_append_right _ h)
          rcases hn with ⟨rfl, rfl⟩ | ⟨m, j, rfl, rfl, hj, hlm⟩
          · refine codeAny_handlers_suite ?_
            refine HandSPX.lands_againZ fl3 fun h4 fl4 up4 => ?_
            have J4 : Inv X pins σ' H' { s' with heap := h4 } := J.landed nb fl4.1 ((up.trans up3).trans up4) os ag
            obtain ⟨oe4, vs4, he4, hz4, hd4⟩ := fl4.there
            have S4 := J4.suite he4 hd4 na nL nF
            refine wpAny_mono ((hsu a oe4 cls d (X.pn ++ pins) hz4 ⟨_, hd4⟩).run [] _ _ H' _ S4 (hyes rfl J.len a na)) (fun f s6 hsp => ?_) (fun _ _ z => False.elim z)
            cases f with
            | next =>
              obtain ⟨σ6, H6, S6, q6⟩ := hsp
              exact ⟨_, _, Inv.known (last ⟨_, hd4⟩ S6) n0 npin, q6 (S6.pin (a, oe4) (List.mem_append_left _ List.mem_cons_self)).2.1 oe4 hz4 ⟨_, hd4⟩⟩
            | brk =>
              obtain ⟨σ6, H6, S6, q6⟩ := hsp
              exact ⟨_, _, Inv.known (last ⟨_, hd4⟩ S6) n0 npin, q6 (S6.pin (a, oe4) (List.mem_append_left _ List.mem_cons_self)).2.1 oe4 hz4 ⟨_, hd4⟩⟩
            | cont =>
              obtain ⟨σ6, H6, S6, q6⟩ := hsp
              exact ⟨_, _, Inv.known (last ⟨_, hd4⟩ S6) n0 npin, q6 (S6.pin (a, oe4) (List.mem_append_left _ List.mem_cons_self)).2.1 oe4 hz4 ⟨_, hd4⟩⟩
            | ret u =>
              obtain ⟨v6, σ6, H6, S6, r6, q6⟩ := hsp
              exact ⟨_, _, _, Inv.known (last ⟨_, hd4⟩ S6) n0 npin, r6, q6 (S6.pin (a, oe4) (List.mem_append_left _ List.mem_cons_self)).2.1 oe4 hz4 ⟨_, hd4⟩⟩
          · refine codeAny_handlers_suite_as ?_
            refine HandSPX.lands_againZ fl3 fun h4 fl4 up4 => ?_
            have J4 : Inv X pins σ' H' { s' with heap := h4 } := J.landed nb fl4.1 ((up.trans up3).trans up4) os ag
            obtain ⟨oe4, vs4, he4, hz4, hd4⟩ := fl4.there
            have S4 := J4.suite he4 hd4 na nL nF
            have hloc : Loc X.env.scope m := .inl hlm
            refine store_ok (X := X.suite a ((a, oe4) :: (X.pn ++ pins))) (v := .ref a) S4 hN hj hloc rfl (fun s5 S5 => ?_) (.inr hlm)
            refine wpAny_mono ((hsu a oe4 cls d (X.pn ++ pins) hz4 ⟨_, hd4⟩).run [] s5 _ H' _ S5 (hyes rfl J.len a na)) (fun f s6 hsp => ?_) (fun _ _ z => False.elim z)
            have end_ : ∀ {σ6 : L2.St} {H6 : Hp} {Q : Shared → Prop}, Inv (X.suite a ((a, oe4) :: (X.pn ++ pins))) [] σ6 H6 s6 → (∀ s7, Inv X pins (σ6.set j none) (upd H6 a (kn oe4)) s7 → Q s7) →
                wpAny (model X.prog X.w) X.A (do bindName X.env m .none; unbindBehindTheSuite X.env m pos') (fun _ s7 => Q s7) X.xe s6 := fun {σ6 H6 Q} S6 hq => gone_ok (last ⟨_, hd4⟩ S6) hN hj hlm fun s7 J7 => hq s7 (Inv.known J7 n0 npin)
            cases f with
            | next =>
              obtain ⟨σ6, H6, S6, q6⟩ := hsp
              exact end_ S6 fun s7 J7 => ⟨_, _, J7, q6 (S6.pin (a, oe4) (List.mem_append_left _ List.mem_cons_self)).2.1 oe4 hz4 ⟨_, hd4⟩⟩
            | brk =>
              obtain ⟨σ6, H6, S6, q6⟩ := hsp
              exact end_ S6 fun s7 J7 => ⟨_, _, J7, q6 (S6.pin (a, oe4) (List.mem_append_left _ List.mem_cons_self)).2.1 oe4 hz4 ⟨_, hd4⟩⟩
            | cont =>
              obtain ⟨σ6, H6, S6, q6⟩ := hsp
              exact end_ S6 fun s7 J7 => ⟨_, _, J7, q6 (S6.pin (a, oe4) (List.mem_append_left _ List.mem_cons_self)).2.1 oe4 hz4 ⟨_, hd4⟩⟩
            | ret u =>
              obtain ⟨v6, σ6, H6, S6, r6, q6⟩ := hsp
              exact end_ S6 fun s7 J7 => ⟨_, _, _, J7, r6, q6 (S6.pin (a, oe4) (List.mem_append_left _ List.mem_cons_self)).2.1 oe4 hz4 ⟨_, hd4⟩⟩
        | false =>
          show wpAny _ X.A (handleBy (.ref a) X.env hds2) _ _ _
          exact ih (hno rfl)
    exact go hh w
  · cases f with
    | next =>
      obtain ⟨σ', H', J', q⟩ := hsp
      exact wpAny_execs_nil ⟨σ', H', J'.ofTry ok, q⟩
    | brk =>
      obtain ⟨σ', H', J', q⟩ := hsp
      exact ⟨σ', H', J'.ofTry ok, q⟩
    | cont =>
      obtain ⟨σ', H', J', q⟩ := hsp
      exact ⟨σ', H', J'.ofTry ok, q⟩
    | ret u =>
      obtain ⟨v, σ', H', J', r, q⟩ := hsp
      exact ⟨v, σ', H', J'.ofTry ok, r, q⟩
end
/-! ### at the data's level -/
/-- a clause's suite: y = e; return e; return ("..", e.f); return ("..", None); return [e.f] -/
inductive SU where
  | set (j : Nat) | ret | retP (s f : Str) | retN (s : Str) | retL (f : Str)
/-- own exception classes: all stand right under WindowError -/
def excSub (d c : Str) : Bool := decide (d = c) || decide (c = "WindowError")
def withD (i : Option Nat) (o : Option D) (ρ : DSt) : DSt := match i with | some i => ρ.set i o | none => ρ
def suD (su : SU) (i : Option Nat) (a : Addr) (fs : List (Str × D)) (B : DEnds) (ρ : DSt) (M : Mp) : Prop := match su with
  | .set j => B.nx (withD i none ((withD i (some (.ref a)) ρ).set j (some (.ref a)))) M
  | .ret => B.rt (.ref a) M
  | .retP s f => (match fs.lookup f with | some d => B.rt (.tup [.str s, d]) M | none => False)
  | .retN s => B.rt (.tup [.str s, .non]) M
  | .retL f => (match fs.lookup f with | some d => B.rt (.lst [d]) M | none => False)
def SU.needs : SU → Option Str
  | .retP _ f => some f
  | .retL f => some f
  | _ => none
/-- the clauses, one after the other; known: the classes that may come -/
def hdsD (known : List XI) (E : EX) (B : DEnds) (x : XD) : List (Str × Option Nat × SU) → DSt → Mp → Prop
  | [], ρ, M => E x ρ M
  | (c, i, su) :: r, ρ, M => (∃ xi ∈ known, xi.name = x.cls ∧ (∀ f, su.needs = some f → excSub x.cls c = true → xi.fld = some f)) ∧
    if excSub x.cls c = true then ∀ a, M a = none → suD su i a x.fs B ρ (M.upd a (.exc x.cls x.fs)) else hdsD known E B x r ρ M
/-- the class tests of an except clause; the reading of a field -/
def XcOk (X : Cx) (d c : Str) : Prop := ∃ Dd Cc, X.mg d = some (.ref Dd) ∧ X.mg c = some (.ref Cc) ∧ PySem.W.exmOne X.K (.ref Dd) (.ref Cc) = some (excSub d c)
def XfOk (X : Cx) (d f : Str) : Prop := ∃ Dd, X.mg d = some (.ref Dd) ∧ XfC X.K Dd ∧ PySem.W.findIn X.K (.ref Dd) f = some none
/-- what the suite must find -/
def tsu (K : PySem.W.Frag) (su : SU) (i : Option Nat) (a : Addr) (cls : Value) (d : Option Addr) : TS := fun D σ H => match su with
  | .set j => (∃ i', i = some i' ∧ σ[i']? = some (some (.ref a))) ∧ D.nx (σ.set j (some (.ref a))) H
  | .ret => (∃ i', i = some i' ∧ σ[i']? = some (some (.ref a))) ∧ D.rt (.ref a) H
  | .retP s f => (∃ i', i = some i' ∧ σ[i']? = some (some (.ref a))) ∧ ∃ C dd fs v, cls = .ref C ∧ XfC K C ∧ PySem.W.findIn K (.ref C) f = some none ∧ d = some dd ∧ H dd = some (.xd fs) ∧ fs.lookup f = some v ∧ ∀ p, H p = none → D.rt (.ref p) (upd H p (.tup [.str s, v]))
  | .retN s => ∀ p, H p = none → D.rt (.ref p) (upd H p (.tup [.str s, .non]))
  | .retL f => (∃ i', i = some i' ∧ σ[i']? = some (some (.ref a))) ∧ ∃ C dd fs v, cls = .ref C ∧ XfC K C ∧ PySem.W.findIn K (.ref C) f = some none ∧ d = some dd ∧ H dd = some (.xd fs) ∧ fs.lookup f = some v ∧ ∀ p, H p = none → D.rt (.ref p) (upd H p (.lst [v]))
/-- the suite's text -/
def SuT (X : Cx) (i : Option Nat) (su : SU) (suite : List Stmt) : Prop := match su with
  | .set j => ∃ y py e pe pos i', suite = [.Assign [.Name y py] (.Name e pe) pos] ∧ i = some i' ∧ X.N[j]? = some y ∧ Loc X.env.scope y ∧ (X.fn y = true ∨ X.env.scope.names.lookup y = some .local) ∧ X.N[i']? = some e ∧ Vis X.env.scope e ∧ (e == ("__debug__" : Str)) = false ∧ (e == ("__classdict__" : Str)) = false
  | .ret => ∃ e pe pos i', suite = [.Return (some (.Name e pe)) pos] ∧ i = some i' ∧ X.N[i']? = some e ∧ Vis X.env.scope e ∧ (e == ("__debug__" : Str)) = false ∧ (e == ("__classdict__" : Str)) = false
  | .retP s f => ∃ e pe pos i' j p0 p1 k p2, suite = [.Return (some (.Tuple [.Constant (.str s) j p0, .Attribute (.Name e pe) f p1] k p2)) pos] ∧ i = some i' ∧ X.N[i']? = some e ∧ Vis X.env.scope e ∧ (e == ("__debug__" : Str)) = false ∧ (e == ("__classdict__" : Str)) = false
  | .retN s => ∃ pos j p0 j2 p1 k p2, suite = [.Return (some (.Tuple [.Constant (.str s) j p0, .Constant .none j2 p1] k p2)) pos]
  | .retL f => ∃ e pe pos i' p1 p2, suite = [.Return (some (.List [.Attribute (.Name e pe) f p1] p2)) pos] ∧ i = some i' ∧ X.N[i']? = some e ∧ Vis X.env.scope e ∧ (e == ("__debug__" : Str)) = false ∧ (e == ("__classdict__" : Str)) = false
theorem pss_su {X : Cx} {i : Option Nat} {su : SU} {suite : List Stmt} (hN : X.N.Nodup) (h : SuT X i su suite) (a : Addr) (oe : Obj) (cls : Value) (d : Option Addr) (pn : List (Addr × Obj)) (hz : Zc cls d oe) (hf : ∃ vs, oe.data = .fields vs) :
    PSs (X.suite a ((a, oe) :: pn)) suite (tsu X.K su i a cls d) := by
  cases su with
  | set j =>
    obtain ⟨y, py, e, pe, pos, i', rfl, hi, hj, hl, hfn, hie, hv, d1, d2⟩ := h
    refine ⟨fun pins s σ H D I h => ?_⟩
    obtain ⟨⟨i2, e2, h2⟩, q⟩ := h
    rw [hi] at e2; cases e2
    exact (pss_one (ps_set (X := X.suite a ((a, oe) :: pn)) hN hj hl (pe_var (i := i') hie hv d1 d2) rfl hfn)).run pins s σ H D I ⟨_, h2, q⟩
  | ret =>
    obtain ⟨e, pe, pos, i', rfl, hi, hie, hv, d1, d2⟩ := h
    refine ⟨fun pins s σ H D I h => ?_⟩
    obtain ⟨⟨i2, e2, h2⟩, q⟩ := h
    rw [hi] at e2; cases e2
    exact (pss_one (ps_ret (X := X.suite a ((a, oe) :: pn)) (pe_var (i := i') hie hv d1 d2))).run pins s σ H D I ⟨_, h2, q⟩
  | retN s =>
    obtain ⟨pos, j, p0, j2, p1, k, p2, rfl⟩ := h
    refine ⟨fun pins s' σ H D I h => ?_⟩
    exact (pss_one (ps_ret (X := X.suite a ((a, oe) :: pn)) (pe_tup (pa_cons pe_str (pa_cons pe_non pa_nil))))).run pins s' σ H D I ⟨(by show 2 ≤ sizeLine; rw [sizeLine_eq]; decide), h⟩
  | retP s f =>
    obtain ⟨e, pe, pos, i', j, p0, p1, k, p2, rfl, hi, hie, hv, d1, d2⟩ := h
    refine ⟨fun pins s' σ H D I h => ?_⟩
    obtain ⟨⟨i2, e2, h2⟩, C, dd, fs, v, hc, T, hno, hd, hxd, hlk, q⟩ := h
    rw [hi] at e2; cases e2
    exact (pss_one (ps_ret (X := X.suite a ((a, oe) :: pn)) (pe_tup (pa_cons pe_str (pa_cons (pe_xf T hno hz hf (pe_var (i := i') hie hv d1 d2)) pa_nil))))).run pins s' σ H D I
      ⟨_, h2, rfl, hc, dd, fs, v, hd, hxd, hlk, (by show 2 ≤ sizeLine; rw [sizeLine_eq]; decide), q⟩
  | retL f =>
    obtain ⟨e, pe, pos, i', p1, p2, rfl, hi, hie, hv, d1, d2⟩ := h
    refine ⟨fun pins s' σ H D I h => ?_⟩
    obtain ⟨⟨i2, e2, h2⟩, C, dd, fs, v, hc, T, hno, hd, hxd, hlk, q⟩ := h
    rw [hi] at e2; cases e2
    exact (pss_one (ps_ret (X := X.suite a ((a, oe) :: pn)) (pe_lst (pa_cons (pe_xf T hno hz hf (pe_var (i := i') hie hv d1 d2)) pa_nil)))).run pins s' σ H D I
      ⟨_, h2, rfl, hc, dd, fs, v, hd, hxd, hlk, (by show 1 ≤ sizeLine; rw [sizeLine_eq]; decide), q⟩
/-- the clauses' text -/
inductive HdT (X : Cx) : List ExceptHandler → List (Str × Option Nat × SU) → Prop
  | nil : HdT X [] []
  | cons {c : Str} {i : Option Nat} {n : Option Str} {su : SU} {b₀ : Stmt} {suite : List Stmt} {np pos' : Pos} {hds : List ExceptHandler} {l : List (Str × Option Nat × SU)} (hc : Gl X c) (hd : (c == ("__debug__" : Str)) = false)
      (hn : (n = none ∧ i = none) ∨ ∃ m j, n = some m ∧ i = some j ∧ X.N[j]? = some m ∧ X.env.kindOf m = some .local) (hsu : SuT X i su (b₀ :: suite)) (r : HdT X hds l) :
      HdT X (.ExceptHandler (some (.Name c np)) n (b₀ :: suite) pos' :: hds) ((c, i, su) :: l)
def hdV (mg : Str → Option Value) (K : PySem.W.Frag) (l : List (Str × Option Nat × SU)) : List (Value × Option Nat × (Addr → Value → Option Addr → TS)) := l.map fun h => ((mg h.1).getD .none, h.2.1, tsu K h.2.2 h.2.1)
theorem HdT.my {X : Cx} (hN : X.N.Nodup) : ∀ {hds : List ExceptHandler} {l : List (Str × Option Nat × SU)}, HdT X hds l → (∀ h ∈ l, ∃ C, X.mg h.1 = some (.ref C)) → HdsMy X hds (hdV X.mg X.K l)
  | _, _, .nil, _ => .nil
  | _, _, @HdT.cons _ c i n su b₀ suite np pos' hds l hc hd hn hsu r, hm => by
    obtain ⟨C, hC⟩ := hm (c, i, su) List.mem_cons_self
    refine HdsMy.cons (x := c) ⟨hc, hd, .inl ?_⟩ hn (fun a oe cls d pn hz hf => pss_su hN hsu a oe cls d pn hz hf) (HdT.my hN r fun h hh => hm h (List.mem_cons_of_mem _ hh))
    show X.mg c = some ((X.mg c).getD .none)
    have hC' : X.mg c = some (.ref C) := hC
    rw [hC']; rfl
theorem HdT.sl {X : Cx} : ∀ {hds : List ExceptHandler} {l : List (Str × Option Nat × SU)}, HdT X hds l → ∀ h ∈ l, h.2.2.needs ≠ none ∨ (∃ j, h.2.2 = .set j) ∨ h.2.2 = .ret → ∃ j, h.2.1 = some j
  | _, _, .nil, h, hh, _ => by cases hh
  | _, _, @HdT.cons _ c i n su b₀ suite np pos' hds l hc hd hn hsu r, h, hh, k => by
    rcases List.mem_cons.mp hh with e | e
    · subst e
      cases su with
      | set j => obtain ⟨_, _, _, _, _, i', _, hi, _⟩ := hsu; exact ⟨i', hi⟩
      | ret => obtain ⟨_, _, _, i', _, hi, _⟩ := hsu; exact ⟨i', hi⟩
      | retP s f => obtain ⟨_, _, _, i', _, _, _, _, _, _, hi, _⟩ := hsu; exact ⟨i', hi⟩
      | retL f => obtain ⟨_, _, _, i', _, _, _, hi, _⟩ := hsu; exact ⟨i', hi⟩
      | retN s =>
        rcases k with k | ⟨j, k⟩ | k
        · exact absurd rfl k
        · cases k
        · cases k
    · exact HdT.sl r h e k
theorem HdT.ix {X : Cx} : ∀ {hds : List ExceptHandler} {l : List (Str × Option Nat × SU)}, HdT X hds l → ∀ h ∈ l, ∀ j, h.2.1 = some j → j < X.N.length
  | _, _, .nil, h, hh, _, _ => by cases hh
  | _, _, @HdT.cons _ c i n su b₀ suite np pos' hds l hc hd hn hsu r, h, hh, j, k => by
    rcases List.mem_cons.mp hh with e | e
    · subst e
      rcases hn with ⟨_, e2⟩ | ⟨m, j2, _, e2, hj, _⟩
      · have k' : i = some j := k
        rw [e2] at k'; cases k'
      · have k' : i = some j := k
        rw [e2] at k'; cases k'
        exact (List.getElem?_eq_some_iff.mp hj).1
    · exact HdT.ix r h e j k
/-- the caught exception is tracked -/
theorem exc_known {W : Wd} {M : Mp} {H : Hp} {x : XD} {cls : Value} {d : Option Addr} {a : Addr} {oe : Obj} (A : AbsM W M H) (R : RepX W M H x cls d) (ha : H a = none) (hz : Zc cls d oe) (hf : ∃ vs, oe.data = .fields vs) :
    Ext W M H (M.upd a (.exc x.cls x.fs)) (upd H a (kn oe)) ∧ AbsM W (M.upd a (.exc x.cls x.fs)) (upd H a (kn oe)) := by
  have e : Ext W M H (M.upd a (.exc x.cls x.fs)) (upd H a (kn oe)) := Ext.freshM A ha
  refine ⟨e, AbsM.freshM A ha ?_⟩
  obtain ⟨C, h1, rfl, h3⟩ := R
  refine ⟨C, oe, d, h1, L2.upd_same, hz, hf, ?_⟩
  rcases h3 with h3 | ⟨dx, ns, vs, e1, e2, e3, e4, e5⟩
  · exact .inl h3
  · exact .inr ⟨dx, ns, vs, e1, by rw [L2.upd_ne (fun z => by rw [z, ha] at e2; cases e2)]; exact e2, e3, e4, e5.ext e⟩
theorem RepX.ext {W : Wd} {M M' : Mp} {H H' : Hp} {x : XD} {cls : Value} {d : Option Addr} (R : RepX W M H x cls d) (e : Ext W M H M' H') (hx : ∀ b fs, H b = some (.xd fs) → H' b = some (.xd fs)) : RepX W M' H' x cls d := by
  obtain ⟨C, h1, h2, h3⟩ := R
  refine ⟨C, h1, h2, ?_⟩
  rcases h3 with h3 | ⟨dx, ns, vs, e1, e2, e3, e4, e5⟩
  · exact .inl h3
  · exact .inr ⟨dx, ns, vs, e1, hx _ _ e2, e3, e4, e5.ext e⟩
theorem AbsS.withD {W : Wd} {M : Mp} {H : Hp} {ρ : DSt} {σ : L2.St} (S : AbsS W M H ρ σ) {i : Option Nat} {d : D} {v : V} (r : Rep W M H d v) : AbsS W M H (Ow.withD i (some d) ρ) (match i with | some i => σ.set i (some v) | none => σ) := by
  cases i with
  | none => exact S
  | some i => exact S.set r
theorem AbsS.withN {W : Wd} {M : Mp} {H : Hp} {ρ : DSt} {σ : L2.St} (S : AbsS W M H ρ σ) {i : Option Nat} : AbsS W M H (Ow.withD i none ρ) (match i with | some i => σ.set i none | none => σ) := by
  cases i with
  | none => exact S
  | some i => exact S.unset
theorem hds_my {X : Cx} {E : EX} {known : List XI} {B : DEnds} {De : Ends} {M0 : Mp} {H0 : Hp} (k : EOk (wd X) M0 H0 B De) (hfl : ∀ xi ∈ known, ∀ f, xi.fld = some f → XfOk X xi.name f) {x : XD} {cls : Value} {d : Option Addr} {ρ : DSt} {σ : L2.St} {M : Mp} {H : Hp}
    (x0 : Ext (wd X) M0 H0 M H) (S : AbsS (wd X) M H ρ σ) (A : AbsM (wd X) M H) (R : RepX (wd X) M H x cls d) : ∀ (l : List (Str × Option Nat × SU)), (∀ xi ∈ known, ∀ h ∈ l, XcOk X xi.name h.1) → (∀ h ∈ l, h.2.2.needs ≠ none ∨ (∃ j, h.2.2 = .set j) ∨ h.2.2 = .ret → ∃ j, h.2.1 = some j) → (∀ h ∈ l, ∀ j, h.2.1 = some j → j < X.N.length) →
    hdsD known E B x l ρ M → wMy X.K X.N.length (upW (wd X) E) De (hdV X.mg X.K l) cls d σ H
  | [], _, _, _, z => ⟨x, ρ, M, S, A, R, z⟩
  | (c, i, su) :: r, hc, hsl, hix, z => by
    unfold hdsD at z
    obtain ⟨⟨xi, hxi, hnm, hnd⟩, z⟩ := z
    obtain ⟨Dd, Cc, m1, m2, hex⟩ := hc xi hxi (c, i, su) List.mem_cons_self
    have R' := R
    obtain ⟨C, h1, hcl, h3⟩ := R
    rw [hnm] at m1 hex
    have eC : C = Dd := by
      have h1' : X.mg x.cls = some (.ref C) := h1
      rw [m1] at h1'; cases h1'; rfl
    subst eC
    subst hcl
    refine ⟨excSub x.cls c, by rw [show (X.mg c).getD .none = .ref Cc from by rw [show X.mg c = _ from m2]; rfl]; exact hex, fun hb hlen a ha => ?_, fun hb => ?_⟩
    · rw [if_pos hb] at z
      have z := z a (A.free ha)
      have ra : Rep (wd X) M H (.ref a) (.ref a) := rfl
      have S1 := S.withD (i := i) ra
      have look : ∀ i', i = some i' → (match i with | some i => σ.set i (some (V.ref a)) | none => σ)[i']? = some (some (.ref a)) := by
        intro i' e
        subst e
        show (σ.set i' (some (V.ref a)))[i']? = _
        rw [List.getElem?_set]
        simp only [if_true]
        rw [if_pos (by rw [hlen]; exact hix _ List.mem_cons_self _ rfl)]
      have hld : ∀ f dd, x.fs.lookup f = some dd → ∃ (da : Addr) (ns : List Str) (vs : List V) (v : V), d = some da ∧ H da = some (.xd (ns.zip vs)) ∧ (ns.zip vs).lookup f = some v ∧ Rep (wd X) M H dd v := by
        intro f dd hl
        rcases h3 with ⟨e0, _⟩ | ⟨dx, ns, vs, e1, e2, e3, e4, e5⟩
        · rw [e0] at hl; cases hl
        · obtain ⟨v, hv, rv⟩ := (look_rep e3 e4 e5).2 _ hl
          exact ⟨dx, ns, vs, v, e1, e2, hv, rv⟩
      cases su with
      | set j =>
        obtain ⟨i', hi⟩ := hsl _ List.mem_cons_self (.inr (.inl ⟨j, rfl⟩))
        refine ⟨⟨i', hi, look i' hi⟩, fun ha2 oe hz hf => ?_⟩
        obtain ⟨e, A2⟩ := exc_known A R' ha2 hz hf
        exact k.nx _ _ _ _ (x0.trans e) A2 (((S1.set (i := j) ra).withN (i := i)).ext e) z
      | ret =>
        obtain ⟨i', hi⟩ := hsl _ List.mem_cons_self (.inr (.inr rfl))
        refine ⟨⟨i', hi, look i' hi⟩, fun ha2 oe hz hf => ?_⟩
        obtain ⟨e, A2⟩ := exc_known A R' ha2 hz hf
        exact k.rt _ _ ⟨.ref a, _, x0.trans e, rfl, A2, z⟩
      | retN s =>
        intro p hp ha2 oe hz hf
        have xp : Ext (wd X) M H M (upd H p (.tup [.str s, .non])) := Ext.fresh hp
        have R2 := R'.ext xp fun b fs hb => by rw [L2.upd_ne (fun z => by rw [z, hp] at hb; cases hb)]; exact hb
        obtain ⟨e, A2⟩ := exc_known (A.fresh hp) R2 ha2 hz hf
        have rt : Rep (wd X) M (upd H p (.tup [.str s, .non])) (.tup [.str s, .non]) (.ref p) := Rep.newT ⟨_, _, rfl, rfl, ⟨_, _, rfl, rfl, rfl⟩⟩ hp
        exact k.rt _ _ ⟨_, _, (x0.trans xp).trans e, rt.ext e, A2, z⟩
      | retP s f =>
        obtain ⟨i', hi⟩ := hsl _ List.mem_cons_self (.inl (fun q => by cases q))
        unfold suD at z
        simp only at z
        split at z
        · rename_i dd hl
          obtain ⟨da, ns, vs, v, e1, e2, e3, e4⟩ := hld f dd hl
          obtain ⟨D2, n1, n2, n3⟩ := hfl xi hxi f (hnd f rfl hb)
          rw [hnm, m1] at n1
          cases n1
          refine ⟨⟨i', hi, look i' hi⟩, C, da, _, v, rfl, n2, n3, e1, e2, e3, fun p hp ha2 oe hz hf => ?_⟩
          have xp : Ext (wd X) M H M (upd H p (.tup [.str s, v])) := Ext.fresh hp
          have R2 := R'.ext xp fun b fs hb => by rw [L2.upd_ne (fun z => by rw [z, hp] at hb; cases hb)]; exact hb
          obtain ⟨e, A2⟩ := exc_known (A.fresh hp) R2 ha2 hz hf
          have rt : Rep (wd X) M (upd H p (.tup [.str s, v])) (.tup [.str s, dd]) (.ref p) := Rep.newT ⟨_, _, rfl, rfl, ⟨_, _, rfl, e4, rfl⟩⟩ hp
          exact k.rt _ _ ⟨_, _, (x0.trans xp).trans e, rt.ext e, A2, z⟩
        · exact z.elim
      | retL f =>
        obtain ⟨i', hi⟩ := hsl _ List.mem_cons_self (.inl (fun q => by cases q))
        unfold suD at z
        simp only at z
        split at z
        · rename_i dd hl
          obtain ⟨da, ns, vs, v, e1, e2, e3, e4⟩ := hld f dd hl
          obtain ⟨D2, n1, n2, n3⟩ := hfl xi hxi f (hnd f rfl hb)
          rw [hnm, m1] at n1
          cases n1
          refine ⟨⟨i', hi, look i' hi⟩, C, da, _, v, rfl, n2, n3, e1, e2, e3, fun p hp ha2 oe hz hf => ?_⟩
          have xp : Ext (wd X) M H M (upd H p (.lst [v])) := Ext.fresh hp
          have R2 := R'.ext xp fun b fs hb => by rw [L2.upd_ne (fun z => by rw [z, hp] at hb; cases hb)]; exact hb
          obtain ⟨e, A2⟩ := exc_known (A.fresh hp) R2 ha2 hz hf
          have rt : Rep (wd X) M (upd H p (.lst [v])) (.lst [dd]) (.ref p) := Rep.newL A ⟨_, _, rfl, e4, rfl⟩ hp
          exact k.rt _ _ ⟨_, _, (x0.trans xp).trans e, rt.ext e, A2, z⟩
        · exact z.elim
    · rw [if_neg (by rw [hb]; exact Bool.false_ne_true)] at z
      exact hds_my k hfl x0 S A R' r (fun xi h1 h h2 => hc xi h1 h (List.mem_cons_of_mem _ h2)) (fun h h2 => hsl h (List.mem_cons_of_mem _ h2)) (fun h h2 => hix h (List.mem_cons_of_mem _ h2)) z
theorem DS.tryD {X : Cx} {E : EX} {known : List XI} {body : List Stmt} {h0 : ExceptHandler} {hds : List ExceptHandler} {l : List (Str × Option Nat × SU)} {pos : Pos} {tb : EX → DTS} (hex : X.ex = []) (hs : X.stack = X.env :: X.outer) (hf : X.env.frame = some X.env.locals) (hN : X.N.Nodup) (tk : Takes X (upW (wd X) E))
    (hT : HdT X (h0 :: hds) l) (hm : ∀ h ∈ l, ∃ C, X.mg h.1 = some (.ref C)) (hk : ∀ xi ∈ known, ∀ h ∈ l, XcOk X xi.name h.1) (hfl : ∀ xi ∈ known, ∀ f, xi.fld = some f → XfOk X xi.name f)
    (hb : ∀ [Og] (pn : List (Addr × Obj)) (xe : Value → Shared → Prop) (Ed : EX), Takes (X.tr pn xe) (upW (wd X) Ed) → PassesOwn (model X.prog X.w) X.A X.env xe → DB (X.tr pn xe) body (tb Ed)) :
    DS X (.Try body (h0 :: hds) [] [] pos) (fun B ρ M => tb (fun x ρ' M' => hdsD known E B x l ρ' M') B ρ M) := by
  refine DS.of (ps_try_my (tb := fun W D σ H => ∃ (og : Og) (Ed : EX) (ρ : DSt) (M : Mp) (Bd : DEnds), @AbsS og (wd X) M H ρ σ ∧ AbsM (wd X) M H ∧ (∀ cls d σ H, @upW _ og (wd X) Ed cls d σ H → W cls d σ H) ∧ tb Ed Bd ρ M ∧ @EOk _ og (wd X) M H Bd D)
    hex hs hf hN tk (fun W pn xe tkW po => ⟨fun pins s σ H D I ⟨og, Ed, ρ, M, Bd, S, A, hw, z, k⟩ => @DB.to _ og _ _ _ (@hb og pn xe Ed (tkW.imp hw) po) σ H ρ M Bd D S A z k pins s I⟩) (hT.my hN hm)) fun σ H ρ M B De S A z k => ?_
  refine ⟨⟨M, H⟩, _, ρ, M, B, AbsS.to S Ext.refl, A, fun cls d σ' H' h => ?_, z, EOk.to k fun M' H' x => S.og.trans x⟩
  obtain ⟨x, ρ', M', S', A', R, hE⟩ := h
  have xt : Ext (wd X) M H M' H' := AbsS.og' S'
  have S2 : AbsS (wd X) M' H' ρ' σ' := AbsS.to S' (S.og.trans xt)
  exact hds_my k hfl xt S2 A' R l hk hT.sl hT.ix hE
end Ow
/-! isinstance of an exception with a dict -/
namespace Ow
open PySem PySem.Spec PySem.W PySem.Calls PyProof.Rows
section
variable {prog : Program} {w : World} {A : Around} {E : Value → Shared → Prop} {s : Shared} {K : Frag} {x D : Addr} {ox : Obj} {od : Option Obj}
theorem kin_classO {Q : Option Value → Shared → Prop} (hga : findIn K (.ref D) "__getattribute__" = some (some (.builtin "BaseException.__getattribute__"))) (hgt : findIn K (.ref D) "__getattr__" = some none) (hsub : subIn K (.ref D) (.type "BaseException") = some true)
    (hdct : hasDictIn K D = true) (ha : findIn K (.ref D) "__class__" = some (some (.builtin "object.__class__")))
    (hn : specialIn K (.builtin "object.__class__") "__get__" = some (some (.builtin "getset_descriptor.__get__"))) (htk : takesIn K (.builtin "object.__class__") = some true) (hm : mroIn K D (.type "object") = some true)
    (X : K.In s.heap) (I : InstAt s.heap x ox D od) (h : Q (some (.ref D)) { s with toks := s.toks + 1 }) : wpAny (model prog w) A (getAttr? (.ref x) "__class__") Q E s := by
  obtain ⟨cd, hc, hcd⟩ := any_some hdct
  have hf : findObj K D od "__class__" = some (.bind (.builtin "getset_descriptor.__get__") (.builtin "object.__class__")) := by
    unfold findObj
    rw [hc, Option.bind_some, ha, Option.bind_some]
    simp [hn, htk]
  obtain ⟨hp, g, d, t, os⟩ := s
  have L0 := I.type (M := model prog w)
  have L1 := looks_findIn (M := model prog w) X hga
  have L2 := looks_findIn (M := model prog w) X hgt
  have L3 := looks_find (M := model prog w) X I hf
  have sub : Looks (model prog w) hp (isInstance (.ref x) (.type "BaseException")) true := L0.andThen (looks_subIn X hsub)
  have hx0 : (false && onTheHeap (Value.builtin "BaseException.__getattribute__")) = false := rfl
  have hx2 : (Value.builtin "BaseException.__getattribute__" == Value.builtin "object.__getattribute__") = false := by decide +kernel
  have hx1 : (onTheHeap (Value.ref D) && Value.builtin "BaseException.__getattribute__" == Value.builtin "object.__getattribute__") = false := by rw [hx2]; rfl
  unfold getAttr? getAttrBy? getAttrBy
  refine wpAny_bind (wpAny_mkText (wpAny_bind (wpAny_attempt (wpAny_holding (wpAny_bind (L0.at (wpAny_bind (L1.at ?_))))))))
  show wpAny _ _ (if (onTheHeap (Value.ref D) && Value.builtin "BaseException.__getattribute__" == Value.builtin "object.__getattribute__") = true then _ else _) _ _ _
  rw [hx1, if_neg Bool.false_ne_true]
  unfold getAttrByItsOwn hookBefore
  refine wpAny_bind ?_
  rw [if_pos (show onTheHeap (Value.ref D) = true from rfl)]
  refine L2.at ?_
  refine wpAny_bind (wpAny_attempt (wpAny_holding ?_))
  unfold callGetattribute
  rw [hx0, if_neg Bool.false_ne_true]
  unfold boundAndCalled
  rw [PySem.F.excAttr_ValueError.ga.bind (.ref x)]
  refine wpAny_bind (wpAny_pure ?_)
  show wpAny _ _ (call (.builtin "BaseException.__getattribute__") [.ref x, .str "__class__" t]) _ _ _
  refine wpAny_call (codeAny_call_builtin PySem.F.excAttr_ValueError.ga.plain PySem.F.entry_bexc_ga ?_)
  refine @check_slot (model prog w) _ _ ⟨hp, g, d, t + 1, os⟩ "BaseException.__getattribute__" "BaseException" "__getattribute__" (.ref x) [.str "__class__" t] [] _ (by decide +kernel) (by decide +kernel) sub (PySem.F.args_bexc_ga (.ref x) (.str "__class__" t)) ?_
  unfold Builtin.«object.__getattribute__»
  refine wpAny_bind (wpAny_of_eq (a := ((Value.ref x : Value), [Value.str "__class__" t])) (by first | rfl | (simp only [slotArgs]; rfl)) ?_)
  refine wpAny_bind (wpAny_pure (wpAny_bind (L0.at (wpAny_bind (L3.at ?_)))))
  show wpAny _ _ (holding [Value.builtin "object.__class__"] (call (.builtin "getset_descriptor.__get__") [.builtin "object.__class__", .ref x, .ref D]) >>= ret) _ _ _
  refine wpAny_bind (wpAny_holding (wpAny_call (class_get (s := ⟨hp, g, d, t + 1, os⟩) (ox := ox) (od := od) X I hm ?_)))
  refine wpAny_pure ?_
  show wpAny _ _ (handedOut (.ref D)) _ _ _
  rw [handedOut_of (v := .ref D) rfl]
  first
    | exact wpAny_pure (wpAny_pure h)
    | exact wpAny_pure h
    | exact wpAny_pure (wpAny_bind (wpAny_pure (wpAny_pure h)))
theorem kitx_exc {C : L2.ExcC K D} : KitX K (.ref x) (.ref D) (fun h => InstAt h x ox D od) where
  ty := fun _ _ _ I => I.type
  it := fun _ _ X _ => by
    obtain ⟨cdD, hcD, _⟩ := any_some C.hd
    unfold clsIn at hcD
    split at hcD
    · rename_i c' d' cd' sl' ho
      intro A' Q' E' s' k q
      unfold isType loadHead
      exact wpAny_bind (wpAny_loadPart (k _ _ (X _ _ ho)) (wpAny_pure q))
    · cases hcD
  ne := fun h tp dd its n sl X htp => by
    obtain ⟨cdD, hcD, _⟩ := any_some C.hd
    refine Bool.eq_false_iff.mpr fun q => ?_
    have e : D = tp := Value.ref.inj (beq_iff_eq.mp q)
    subst e
    unfold clsIn at hcD
    split at hcD
    · rename_i c' d' cd' sl' ho
      have z := (X _ _ ho).symm.trans htp
      cases z
    · cases hcD
  ca := fun X I k => kin_classO C.hg C.hk C.hs C.hd C.ha C.hn C.ht C.hm X I k
end
end Ow
namespace Ow
open PySem PySem.Spec PyProof.Rows L2
variable [Tb] [Og]
/-- the class of a tracked exception -/
def excIn (M : Mp) (d : D) : Option (Str × List (Str × D)) := match d with
  | .ref a => match M a with
    | some (.exc c fs) => some (c, fs)
    | _ => none
  | _ => none
def isXD (known : List XI) (cs : List Str) (d : D) (M : Mp) (Q : QE) : Prop := match excIn M d with
  | some (c, _) => (∃ xi ∈ known, xi.name = c) ∧ Q (.bl (cs.any fun k => excSub c k)) M
  | none => (tyD M d).isSome = true ∧ Q (.bl false) M
/-- .. of a built-in type, asked of an exception -/
def isXT (known : List XI) (t : Ty) (d : D) (M : Mp) (Q : QE) : Prop := match excIn M d with
  | some (c, _) => (∃ xi ∈ known, xi.name = c) ∧ Q (.bl false) M
  | none => isiD t d M Q
/-- isinstance(e, ValueError) -/
def isVE (known : List XI) (d : D) (M : Mp) (Q : QE) : Prop := match excIn M d with
  | some (c, _) => (∃ xi ∈ known, xi.name = c) ∧ Q (.bl true) M
  | none => False
def xatD (known : List XI) (f : Str) (d : D) (M : Mp) (Q : QE) : Prop := match excIn M d with
  | some (c, fs) => (∃ xi ∈ known, xi.name = c ∧ xi.fld = some f) ∧ (match fs.lookup f with
    | some y => Q y M
    | none => False)
  | none => False
def XiOk (X : Cx) (d c : Str) : Prop := ∃ Dd Cc, X.mg d = some (.ref Dd) ∧ X.mg c = some (.ref Cc) ∧ PySem.W.kitOne X.K (.ref Dd) (.ref Cc) = some (excSub d c)
def XnOk (X : Cx) (c : Str) : Prop := ∃ Cc, X.mg c = some (.ref Cc) ∧ ∀ n ∈ tyNames, PySem.W.kitOne X.K (.type n) (.ref Cc) = some false
/-- what of the text a known exception class must have -/
structure XkC (K : PySem.W.Frag) (D : Addr) : Prop where
  ex : ExcC K D
  ve : PySem.W.kitOne K (.ref D) (.type "ValueError") = some true
  ty : ∀ t : Ty, PySem.W.kitOne K (.ref D) (.type t.ty) = some false
def XkOk (X : Cx) (d : Str) : Prop := ∃ Dd, X.mg d = some (.ref Dd) ∧ XkC X.K Dd
theorem exc_inst {X : Cx} {pins : List (Addr × Obj)} {σ : L2.St} {M : Mp} {H : Hp} {s : Shared} {d : D} {v : V} {c : Str} {fs : List (Str × D)} (I : Inv X pins σ H s) (A : AbsM (wd X) M H) (r : Rep (wd X) M H d v) (e : excIn M d = some (c, fs)) :
    ∃ (a C : Addr) (oe : Obj) (od : Option Obj), v = .ref a ∧ X.mg c = some (.ref C) ∧ PySem.W.InstAt s.heap a oe C od ∧ ((fs = [] ∧ od = none) ∨ ∃ (o : Obj) (dx : Addr) (ns : List Str) (vs : List V), od = some o ∧ oe.dict = some dx ∧ H dx = some (.xd (ns.zip vs)) ∧ fs = ns.zip (fs.map (·.2)) ∧ ns.length = vs.length ∧ Reps (wd X) M H (fs.map (·.2)) vs) := by
  unfold excIn at e
  split at e
  · rename_i a
    split at e
    · rename_i c' fs' hM
      cases e
      obtain ⟨C, oe, dd, h1, h2, h3, ⟨vs, h4⟩, h5⟩ := A.ob a _ hM
      obtain ⟨g1, _⟩ := I.hok a _ h2
      have hno : PySem.W.notCls oe = true := by unfold PySem.W.notCls; rw [h4] <;> rfl
      rcases h5 with ⟨e1, e2⟩ | ⟨dx, ns, ws, e1, e2, e3, e4, e5⟩
      · refine ⟨a, C, oe, none, r, h1, ⟨g1, h3.1, hno, ?_⟩, .inl ⟨e1, rfl⟩⟩
        rw [h3.2, e2]; trivial
      · obtain ⟨mA, ⟨o, es, ep, k1, k2⟩, _⟩ := (show ObjOk X.prog X.w H s.heap dx (.xd (ns.zip ws)) from I.hok dx _ e2)
        refine ⟨a, C, oe, some o, r, h1, ⟨g1, h3.1, hno, ?_⟩, .inr ⟨o, dx, ns, ws, rfl, by rw [h3.2, e1], e2, e3, e4, e5⟩⟩
        rw [h3.2, e1]; exact k1
    · cases e
  · cases e
section
variable {X : Cx} {o e : Expr} {to te : DTE} {pos p p2 : Pos} {known : List XI}
theorem DE.xat {f : Str} (hk : ∀ xi ∈ known, ∀ f, xi.fld = some f → XfOk X xi.name f) (ho : DE X o to) (hb : plainBase o = true) : DE X (.Attribute o f pos) (fun ρ M Q => to ρ M fun d M1 => xatD known f d M1 Q) := by
  refine ⟨fun σ H ρ M Q S A z pins s I => ?_⟩
  refine attr_of (base_of hb) (thn (ho.to σ H ρ M _ S A z pins s I) fun u s1 ⟨v, H1, I1, rv, d, M1, xt, r, A1, q⟩ => ?_)
  unfold xatD at q
  dsimp only at q
  split at q
  · rename_i c fs he
    obtain ⟨⟨xi, hxi, hn, hf⟩, q⟩ := q
    obtain ⟨a, C, oe, od, rfl, hm, J, h⟩ := exc_inst I1 A1 r he
    obtain ⟨D', m1, T, hno⟩ := hk xi hxi f hf
    rw [hn, hm] at m1
    cases m1
    obtain rfl : u = Value.ref a := rv
    split at q
    · rename_i y hy
      rcases h with ⟨e1, _⟩ | ⟨ob, dx, ns, vs, rfl, hd, e2, e3, e4, e5⟩
      · rw [e1] at hy; cases hy
      · obtain ⟨w, hw, rw'⟩ := (look_rep e3 e4 e5).2 _ hy
        obtain ⟨mA, hns, hr⟩ := (show ObjOk X.prog X.w H1 s1.heap dx (.xd (ns.zip vs)) from I1.hok dx _ e2)
        obtain ⟨od', ho', hl⟩ := lookIn_ns hns
        have hod : od' = ob := by
          have := J.dict
          rw [hd] at this
          have h2 : s1.heap.get? dx = some ob := this
          rw [ho'] at h2; cases h2; rfl
        subst hod
        obtain ⟨uu, hu, ru⟩ := RelO.some_of (v := w) (o := mA f) (by rw [← hw]; exact hr f)
        exact HandSPX.exc_get I1.kIn J T.ga T.gg T.exC (PySem.W.findObj_own T.hdC hno rfl (by rw [hl, hu])) (handed_of ru) ⟨w, H1, I1.tok _, ru, y, M1, xt, rw', A1, q⟩
    · exact q.elim
  · exact q.elim
/-- what isinstance asks of a value -/
theorem kit_D {pins : List (Addr × Obj)} {σ : L2.St} {M : Mp} {H : Hp} {s : Shared} {d : D} {v : V} {u : Value} (hx : ∀ xi ∈ known, XkOk X xi.name) (I : Inv X pins σ H s) (A : AbsM (wd X) M H) (r : Rep (wd X) M H d v) (rv : RelV v u)
    (h : match excIn M d with | some (c, _) => ∃ xi ∈ known, xi.name = c | none => (tyD M d).isSome = true) :
    ∃ (t : Value) (P : Heap → Prop), PySem.W.KitX X.K u t P ∧ P s.heap ∧ u ≠ .builtin "__main__.__loader__#opaque" ∧ (match excIn M d with | some (c, _) => ∃ D', X.mg c = some (.ref D') ∧ XkC X.K D' ∧ t = .ref D' | none => ∃ n ∈ tyNames, tyD M d = some n ∧ t = .type n) := by
  cases he : excIn M d with
  | some cf =>
    obtain ⟨c, fs⟩ := cf
    rw [he] at h
    obtain ⟨xi, hxi, hn⟩ := h
    obtain ⟨a, C, oe, od, rfl, hm, J, _⟩ := exc_inst I A r he
    obtain ⟨D', m1, k⟩ := hx xi hxi
    rw [hn, hm] at m1
    cases m1
    obtain rfl : u = Value.ref a := rv
    exact ⟨.ref C, _, kitx_exc (C := k.ex), J, (fun z => nomatch z), C, hm, k, rfl⟩
  | none =>
    rw [he] at h
    obtain ⟨n, hn⟩ := Option.isSome_iff_exists.mp h
    obtain ⟨h1, h2⟩ := ty_rep A r hn
    obtain ⟨P, Z, pp, hne⟩ := kit_of I rv h1
    exact ⟨.type n, P, Z, pp, hne, n, h2, hn, rfl⟩
theorem DE.isX1 {x c : Str} (hx : ∀ xi ∈ known, XkOk X xi.name) (hi : ∀ xi ∈ known, XiOk X xi.name c) (hn : XnOk X c) (he : DE X e te) (hxe : x = "isinstance") (hg : Gl X x) (hm : X.mg x = none) (hg2 : Gl X c) (hd : (c == ("__debug__" : Str)) = false) (hs : notStar e = true) :
    DE X (.Call (.Name x p) [e, .Name c p2] [] pos) (fun ρ M Q => te ρ M fun d M1 => isXD known [c] d M1 Q) := by
  subst hxe
  obtain ⟨Cc, hCc, hty⟩ := hn
  refine DE.of (pe_callB (id := "isinstance") cr_cC hg hm (by decide +kernel) (pa_cons pe_cT (pa_cons (pe_glob hg2 hCc (v := .ref Cc) rfl hd) pa_nil) (star_cons hs)) (by decide +kernel) (by decide +kernel) (star_cons hs) (star_none rfl)) fun σ H ρ M Q S A z => ?_
  refine he.bind S A z fun v d M1 H1 xt r A1 S1 q => ?_
  intro pins s σ2 us I rvs
  obtain ⟨u1, u2, rfl, r1, r2⟩ := vals2 rvs
  obtain rfl : u2 = Value.ref Cc := r2
  have hh : match excIn M1 d with | some (c, _) => ∃ xi ∈ known, xi.name = c | none => (tyD M1 d).isSome = true := by
    unfold isXD at q
    split <;> rename_i h0 <;> rw [h0] at q <;> exact q.1
  obtain ⟨t, P, Z, pp, hne, ht⟩ := kit_D hx I A1 r r1 hh
  have key : ∃ b, PySem.W.kitOne X.K t (.ref Cc) = some b ∧ Q (.bl b) M1 := by
    unfold isXD at q
    split at ht
    · rename_i c' fs h0
      rw [h0] at q
      obtain ⟨⟨xi, hxi, hnm⟩, q⟩ := q
      obtain ⟨D', m1, k, rfl⟩ := ht
      obtain ⟨D2, C2, n1, n2, n3⟩ := hi xi hxi
      rw [hnm, m1] at n1
      cases n1
      rw [hCc] at n2
      cases n2
      rw [hnm] at n3
      exact ⟨_, n3, by simpa using q⟩
    · rename_i h0
      rw [h0] at q
      obtain ⟨n, hn1, hn2, rfl⟩ := ht
      exact ⟨_, hty n hn1, q.2⟩
  obtain ⟨b, e1, q'⟩ := key
  exact PySem.W.kia_one Z I.kIn pp e1 hne fun tk => ⟨.bl b, H1, I.tok tk, rfl, lft.trans xt (lft.bl A1 q')⟩
/-- isinstance(e, (C, ..)) -/
def namesE (cs : List Str) (es : List Expr) : Bool := match cs, es with
  | [], [] => true
  | c :: cs, .Name x _ :: es => decide (x = c) && namesE cs es
  | _, _ => false
theorem pa_names {X : Cx} {cs : List Str} : ∀ {es : List Expr}, namesE cs es = true → (∀ c ∈ cs, Gl X c ∧ (c == ("__debug__" : Str)) = false ∧ ∃ Cc, X.mg c = some (.ref Cc)) →
    ∃ as : List Addr, cs.map X.mg = as.map (fun a => some (.ref a)) ∧ PA X es (fun σ H Q => Q (as.map V.ref) H) ∧ es.all notStar = true := by
  induction cs with
  | nil =>
    intro es h _
    cases es with
    | nil => exact ⟨[], rfl, pa_nil, rfl⟩
    | cons e es => unfold namesE at h; cases h
  | cons c cs ih =>
    intro es h hc
    cases es with
    | nil => unfold namesE at h; cases h
    | cons e es =>
      unfold namesE at h
      split at h
      · rename_i h1 h2; cases h1
      · rename_i c' cs' x p es' h1 h2
        cases h1; cases h2
        rw [Bool.and_eq_true, decide_eq_true_eq] at h
        obtain ⟨rfl, h⟩ := h
        obtain ⟨as, e1, e2, e3⟩ := ih h fun c hcm => hc c (List.mem_cons_of_mem _ hcm)
        obtain ⟨g, d, Cc, m⟩ := hc x List.mem_cons_self
        refine ⟨Cc :: as, by rw [List.map_cons, List.map_cons, e1, m], ?_, by rw [List.all_cons, e3]; rfl⟩
        exact pa_cons (pe_glob g m (v := .ref Cc) rfl d) e2
      · cases h
theorem kit_any {K : PySem.W.Frag} {t : Value} {f : Addr → Bool} : ∀ {as : List Addr}, (∀ a ∈ as, PySem.W.kitOne K t (.ref a) = some (f a)) → PySem.W.kitAny K t (as.map Value.ref) = some (as.any f)
  | [], _ => rfl
  | a :: as, h => by
    have h1 := h a List.mem_cons_self
    have ih := kit_any (as := as) fun b hb => h b (List.mem_cons_of_mem _ hb)
    rw [List.map_cons, List.any_cons]
    cases hf : f a with
    | true => rw [hf] at h1; exact kitAny_cons h1 (fun z => by cases z) (fun _ => by simp)
    | false => rw [hf] at h1; exact kitAny_cons h1 (fun _ => by rw [Bool.false_or]; exact ih) (fun z => by cases z)
theorem vals_refs : ∀ {as : List Addr} {us : List Value}, Vals (as.map V.ref) us → us = as.map Value.ref
  | [], _, h => by cases h; rfl
  | a :: as, _, h => by
    cases h with
    | cons r t =>
      rw [List.map_cons, ← vals_refs t]
      rw [show _ = Value.ref a from r]
theorem any_names {mg : Str → Option Value} {g : Str → Bool} {f : Addr → Bool} : ∀ {cs : List Str} {as : List Addr}, cs.map mg = as.map (fun a => some (.ref a)) → (∀ c a, c ∈ cs → mg c = some (.ref a) → f a = g c) → as.any f = cs.any g
  | [], [], _, _ => rfl
  | [], _ :: _, e, _ => by cases e
  | _ :: _, [], e, _ => by cases e
  | c :: cs, a :: as, e, h => by
    rw [List.map_cons, List.map_cons] at e
    obtain ⟨q1, q2⟩ := List.cons.inj e
    rw [List.any_cons, List.any_cons, h c a List.mem_cons_self q1, any_names q2 fun c a hc => h c a (List.mem_cons_of_mem _ hc)]
theorem DE.isXm {x : Str} {cs : List Str} {es : List Expr} {kt : Nat} (hx : ∀ xi ∈ known, XkOk X xi.name) (hi : ∀ xi ∈ known, ∀ c ∈ cs, XiOk X xi.name c) (hn : ∀ c ∈ cs, XnOk X c) (he : DE X e te) (hxe : x = "isinstance") (hg : Gl X x) (hm : X.mg x = none) (hg2 : ∀ c ∈ cs, Gl X c ∧ (c == ("__debug__" : Str)) = false) (hes : namesE cs es = true) (hl : cs.length ≤ 100) (hs : notStar e = true) :
    DE X (.Call (.Name x p) [e, .Tuple es kt p2] [] pos) (fun ρ M Q => te ρ M fun d M1 => isXD known cs d M1 Q) := by
  subst hxe
  obtain ⟨as, eas, pas, _⟩ := pa_names (X := X) hes fun c hc => ⟨(hg2 c hc).1, (hg2 c hc).2, let ⟨Cc, h, _⟩ := hn c hc; ⟨Cc, h⟩⟩
  have las : as.length = cs.length := by
    have := congrArg List.length eas
    simpa using this.symm
  refine DE.of (pe_callB (id := "isinstance") cr_cC hg hm (by decide +kernel) (pa_cons pe_cT (pa_cons (pe_tup pas) pa_nil) (star_cons hs)) (by decide +kernel) (by decide +kernel) (star_cons hs) (star_none rfl)) fun σ H ρ M Q S A z => ?_
  refine he.bind S A z fun v d M1 H1 xt r A1 S1 q => ?_
  refine ⟨by rw [List.length_map, las, sizeLine_eq]; omega, fun tp htp => ?_⟩
  intro pins s σ2 us I rvs
  obtain ⟨u1, u2, rfl, r1, r2⟩ := vals2 rvs
  obtain rfl : u2 = Value.ref tp := r2
  have xf : Ext (wd X) M1 H1 M1 (upd H1 tp (.tup (as.map V.ref))) := Ext.fresh htp
  have A2 := A1.fresh (o := .tup (as.map V.ref)) htp
  have hh : match excIn M1 d with | some (c, _) => ∃ xi ∈ known, xi.name = c | none => (tyD M1 d).isSome = true := by
    unfold isXD at q
    split <;> rename_i h0 <;> rw [h0] at q <;> exact q.1
  obtain ⟨t, P, Z, pp, hne, ht⟩ := kit_D hx I A2 (r.ext xf) r1 hh
  obtain ⟨_, its, rv, ob, h1, h2, n, h3⟩ := (show ObjOk X.prog X.w _ s.heap tp (.tup (as.map V.ref)) from I.hok tp _ L2.upd_same)
  have e3 := vals_refs rv
  subst e3
  obtain ⟨oc, od, dt, sl⟩ := ob
  simp only at h2 h3
  subst h2 h3
  have pl := fun (g : Str → Bool) (f : Addr → Bool) => any_names (mg := X.mg) (g := g) (f := f) (cs := cs) (as := as) eas
  have mem : ∀ a ∈ as, ∃ c ∈ cs, X.mg c = some (.ref a) := by
    intro a ha
    have : some (Value.ref a) ∈ cs.map X.mg := by rw [eas]; exact List.mem_map.mpr ⟨a, ha, rfl⟩
    obtain ⟨c, hc, e⟩ := List.mem_map.mp this
    exact ⟨c, hc, e⟩
  have key : ∃ b, PySem.W.kitAny X.K t (as.map Value.ref) = some b ∧ Q (.bl b) M1 := by
    unfold isXD at q
    split at ht
    · rename_i c' fs h0
      rw [h0] at q
      obtain ⟨⟨xi, hxi, hnm⟩, q⟩ := q
      obtain ⟨D', m1, k, rfl⟩ := ht
      have one : ∀ c ∈ cs, ∀ a, X.mg c = some (.ref a) → PySem.W.kitOne X.K (.ref D') (.ref a) = some (excSub c' c) := by
        intro c hc a ha
        obtain ⟨D2, C2, n1, n2, n3⟩ := hi xi hxi c hc
        rw [hnm, m1] at n1
        cases n1
        rw [ha] at n2
        cases n2
        rw [hnm] at n3
        exact n3
      have e1 := kit_any (K := X.K) (t := .ref D') (f := fun a => (PySem.W.kitOne X.K (.ref D') (.ref a)).getD false) (as := as) fun a ha => by
        obtain ⟨c, hc, hca⟩ := mem a ha
        rw [one c hc a hca]; rfl
      rw [pl (fun c => excSub c' c) _ fun c a hc ha => by rw [one c hc a ha]; rfl] at e1
      exact ⟨_, e1, q⟩
    · rename_i h0
      rw [h0] at q
      obtain ⟨n, hn1, hn2, rfl⟩ := ht
      have e1 := kit_any (K := X.K) (t := .type n) (f := fun _ => false) (as := as) fun a ha => by
        obtain ⟨c, hc, hca⟩ := mem a ha
        obtain ⟨Cc, h, hty⟩ := hn c hc
        rw [hca] at h
        cases h
        exact hty n hn1
      have : as.any (fun _ => false) = false := by simp
      rw [this] at e1
      exact ⟨_, e1, q.2⟩
  obtain ⟨b, e1, q'⟩ := key
  exact PySem.W.kia_tup Z I.kIn pp h1 e1 hne fun tk => ⟨.bl b, _, I.tok tk, rfl, lft.trans (xt.trans xf) (lft.bl A2 q')⟩
/-- isinstance(e, t), t a built-in type -/
theorem DE.isXt {x z : Str} (t : Ty) (hx : ∀ xi ∈ known, XkOk X xi.name) (he : DE X e te) (hxe : x = "isinstance") (hz : z = t.nm) (hg : Gl X x) (hm : X.mg x = none) (hg2 : Gl X z) (hm2 : X.mg z = none) (hs : notStar e = true) :
    DE X (.Call (.Name x p) [e, .Name z p2] [] pos) (fun ρ M Q => te ρ M fun d M1 => isXT known t d M1 Q) := by
  subst hxe hz
  refine DE.of (pe_callB (id := "isinstance") cr_cC hg hm (by decide +kernel) (pa_cons pe_cT (pa_cons (pe_bltn hg2 hm2 (ty_boot t) (v := .ty t.ty) rfl (ty_nm t).1 (ty_nm t).2) pa_nil) (star_cons hs)) (by decide +kernel) (by decide +kernel) (star_cons hs) (star_none rfl)) fun σ H ρ M Q S A z => ?_
  refine he.bind S A z fun v d M1 H1 xt r A1 S1 q => ?_
  intro pins s σ2 us I rvs
  obtain ⟨u1, u2, rfl, r1, r2⟩ := vals2 rvs
  obtain rfl : u2 = Value.type t.ty := r2
  have hh : match excIn M1 d with | some (c, _) => ∃ xi ∈ known, xi.name = c | none => (tyD M1 d).isSome = true := by
    unfold isXT at q
    cases h0 : excIn M1 d with
    | some cf => rw [h0] at q; exact q.1
    | none =>
      rw [h0] at q
      have q : isiD t d M1 Q := q
      unfold isiD at q
      cases hn : tyD M1 d with
      | some n => rfl
      | none => rw [hn] at q; exact q.elim
  obtain ⟨tt, P, Z, pp, hne, ht⟩ := kit_D hx I A1 r r1 hh
  have key : ∃ b, PySem.W.kitOne X.K tt (.type t.ty) = some b ∧ Q (.bl b) M1 := by
    unfold isXT at q
    split at ht
    · rename_i c' fs h0
      rw [h0] at q
      obtain ⟨D', m1, k, rfl⟩ := ht
      exact ⟨_, k.ty t, q.2⟩
    · rename_i h0
      rw [h0] at q
      obtain ⟨n, hn1, hn2, rfl⟩ := ht
      unfold isiD at q
      rw [hn2] at q
      exact ⟨_, kit_tab _ t hn1, q⟩
  obtain ⟨b, e1, q'⟩ := key
  exact PySem.W.kia_one Z I.kIn pp e1 hne fun tk => ⟨.bl b, H1, I.tok tk, rfl, lft.trans xt (lft.bl A1 q')⟩
/-- isinstance(e, ValueError) -/
theorem DE.isVE {x z : Str} (hx : ∀ xi ∈ known, XkOk X xi.name) (he : DE X e te) (hxe : x = "isinstance") (hz : z = "ValueError") (hg : Gl X x) (hm : X.mg x = none) (hg2 : Gl X z) (hm2 : X.mg z = none) (hs : notStar e = true) :
    DE X (.Call (.Name x p) [e, .Name z p2] [] pos) (fun ρ M Q => te ρ M fun d M1 => Ow.isVE known d M1 Q) := by
  subst hxe hz
  refine DE.of (pe_callB (id := "isinstance") cr_cC hg hm (by decide +kernel) (pa_cons pe_cT (pa_cons (pe_bltn hg2 hm2 PyProof.Rows.Boot.«ValueError» (v := .ty "ValueError") rfl (by decide) (by decide)) pa_nil) (star_cons hs)) (by decide +kernel) (by decide +kernel) (star_cons hs) (star_none rfl)) fun σ H ρ M Q S A z => ?_
  refine he.bind S A z fun v d M1 H1 xt r A1 S1 q => ?_
  intro pins s σ2 us I rvs
  obtain ⟨u1, u2, rfl, r1, r2⟩ := vals2 rvs
  obtain rfl : u2 = Value.type "ValueError" := r2
  unfold Ow.isVE at q
  split at q
  · rename_i c fs h0
    obtain ⟨tt, P, Z, pp, hne, ht⟩ := kit_D hx I A1 r r1 (by rw [h0]; exact q.1)
    rw [h0] at ht
    obtain ⟨D', m1, k, rfl⟩ := ht
    exact PySem.W.kia_one Z I.kIn pp k.ve hne fun tk => ⟨.bl true, H1, I.tok tk, rfl, lft.trans xt (lft.bl A1 q.2)⟩
  · exact q.elim
end
end Ow
namespace Ow
open PySem PySem.Spec PyProof.Rows L2
variable [Tb]
/-! ### a lambda is made -/
section
variable {X : Cx} {pins : List (Addr × Obj)} {σ : L2.St} {H : Hp} {s : Shared}
theorem kn_ne {o : Obj} (ps : Array Value) : kn o ≠ .tbl ps := fun z => by cases z
/-- the table's object is written, the code object at c is new and known from now on; all else is kept -/
theorem inv_tableD {P c : Addr} {oc : Obj} {ps more : Array Value} {h' : Heap} {t' : Nat} (I : Inv X pins σ H s) (hP : H P = some (.tbl ps)) (k : ∀ b o, b ≠ P → s.heap.get? b = some o → h'.get? b = some o)
    (hm : h'.get? P = some { cls := .none, data := .fields (ps ++ more) }) (hc : s.heap.objs.size ≤ c) (ho : h'.get? c = some oc) :
    Inv X pins σ (upd (upd H P (.tbl (ps ++ more))) c (kn oc)) { s with heap := h', toks := t' } := by
  have nC : H c = none := I.hok.fresh hc
  have nPc : P ≠ c := ne_of_none hP nC
  have at_ : ∀ b, b ≠ P → b ≠ c → upd (upd H P (.tbl (ps ++ more))) c (kn oc) b = H b := fun b h1 h2 => by rw [L2.upd_ne h2, L2.upd_ne h1]
  have atP : upd (upd H P (.tbl (ps ++ more))) c (kn oc) P = some (.tbl (ps ++ more)) := by rw [L2.upd_ne nPc, L2.upd_same]
  have nP : ∀ b u, H b = some u → (∀ q, u ≠ .tbl q) → b ≠ P := fun b u e q z => by
    rw [z, hP] at e
    exact q ps (Option.some.inj e).symm
  have nN : ∀ b, H b = none → b ≠ P := fun b e z => by
    rw [z, hP] at e
    cases e
  have lt' : ∀ b o, s.heap.get? b = some o → b ≠ c := fun b o e z => by
    rw [z] at e
    exact Nat.lt_irrefl _ (Nat.lt_of_lt_of_le (Heap.lt_size e) hc)
  have sm : ∀ b u, H b = some u → b ≠ c := fun b u e => ne_of_none e nC
  refine I.step (g' := s.gens) (d' := s.drawn) (ch := []) (fun b hb => absurd hb (by simp)) (fun b o _ _ _ e n => k b o (nN b n) e) (fun b o _ _ _ e n => ⟨o.slots, k b o (nN b n) e⟩)
    (fun b o _ e n => by rw [at_ b (nN b n) (lt' b o e)]; exact n) (fun b o _ e => ?_) (fun b xs e => by rw [at_ b (nP b _ e (fun q z => by cases z)) (sm b _ e)]; exact e) (fun b o u e => by rw [at_ b (nP b _ e (fun q z => by cases z)) (sm b _ e)]; exact e) (fun b qs e => ?_) (fun m hn => ?_) (fun b u e => ?_) I.bare
  · by_cases hb : b = P
    · rw [hb]
      exact ⟨_, hm⟩
    · exact ⟨o, k b o hb e⟩
  · by_cases hb : b = P
    · rw [hb, hP] at e
      cases e
      rw [hb, atP]
      exact ⟨more, rfl⟩
    · rw [at_ b hb (sm b _ e), e]
      exact ⟨#[], by simp⟩
  · obtain ⟨ob, es, ep, ho, r⟩ := hn
    exact ⟨ob, es, ep, k _ ob (nN _ I.free) ho, r⟩
  · by_cases hb : b = c
    · rw [hb, L2.upd_same] at e
      cases e
      rw [hb]
      exact ⟨ho, ⟨_, ho⟩⟩
    · by_cases hb2 : b = P
      · rw [hb2, atP] at e
        cases e
        rw [hb2]
        exact hm
      · rw [at_ b hb2 hb] at e
        refine (I.hok b u e).stay (fun d v hd q => k d v ?_ q) (fun d q => by rw [at_ d (nP d _ q (fun q z => by cases z)) (sm d _ q)]; exact q) fun d xs q => by rw [at_ d (nP d _ q (fun q z => by cases z)) (sm d _ q)]; exact q
        rcases hd with z | z
        · rw [z]
          exact hb2
        · exact nP d _ z (fun q z => by cases z)
/-- what the making of lambdas asks of the def: its code object at c, its table at P -/
def MkF (X : Cx) : Prop := ∃ c P, LamX.TabB X.base X.mg c P ∧ X.env.code = .ref c ∧ (P, X.env.qual ++ "<lambda>") ∈ Tb.tb ∧ ∀ p ∈ Tb.tb, p.1 = P → p.2 = X.env.qual ++ "<lambda>"
theorem lam_makeD {params : Arguments} {body : Expr} {scope : Scope} {pos : Pos} {E : Value → Shared → Prop} {Q : Value → Shared → Prop} (I : Inv X pins σ H s) (hF : MkF X) (hT : TabsT H) (hdef : defaultsOf params X.env = ([], [])) (hfree : ∀ y ∈ scope.names, y.2 = .free → ∃ c, X.env.cells.lookup y.1 = some c)
    (h : ∀ (f c' : Addr) (pm ctv : Value) (o oc : Obj) (H1 : Hp) (s' : Shared), Inv X pins σ H1 s' → (∀ b u, H b = some u → (∀ ps, u ≠ .tbl ps) → H1 b = some u) → (∀ b, H1 b = none → H b = none) → (∀ b v, s.heap.IsCell b v → s'.heap.IsCell b v) → TabsT H1 → H f = none → H1 f = some (kn o) → o.cls = .type "function" →
      o.data = .func (PySem.W.kla_fn "<lambda>" (X.env.qual ++ "<lambda>") params body scope (cloFrom X.env.cells scope.names []) pm (.ref c') ctv) → H1 c' = some (kn oc) → CodeNm oc (X.env.qual ++ "<lambda>") → Q (.ref f) s') :
    wpAny (model X.prog X.w) X.A (eval (.Lambda params body scope pos) X.env) Q E s := by
  obtain ⟨c, P, TB, hcode, hm, hu⟩ := hF
  obtain ⟨ps, hP, ht, ha⟩ := (show TabQ H P _ from hT _ hm)
  refine PySem.W.kla_eval hdef ?_
  have bP : s.heap.BuiltinsAt X.mg P := TB.bm.keeps I.bk
  have hP' : s.heap.get? P = some { cls := .none, data := .fields ps } := I.hok P _ hP
  have lay : ∀ {H1 : Hp} {s1 : Shared} {f c' : Addr} {pm ctv : Value} {oc : Obj} {t' : Nat} {h2 : Heap}, Inv X pins σ H1 s1 → s1.heap.objs.size = f → h2 = s1.heap.push (PySem.W.kla_obj "<lambda>" (X.env.qual ++ "<lambda>") params body scope (cloFrom X.env.cells scope.names []) pm c' ctv) → s.heap.objs.size ≤ f →
      (∀ b u, H b = some u → (∀ ps, u ≠ .tbl ps) → H1 b = some u) → (∀ b, H1 b = none → H b = none) → (∀ b v, s.heap.IsCell b v → s1.heap.IsCell b v) → TabsT H1 → H1 c' = some (kn oc) → CodeNm oc (X.env.qual ++ "<lambda>") → Q (.ref f) { s1 with heap := h2, toks := t' } := by
    intro H1 s1 f c' pm ctv oc t' h2 I1 hf hh hsz k1 k2 k3 T1 hc' hnm
    subst hf hh
    have nF : H1 s1.heap.objs.size = none := I1.hok.fresh (Nat.le_refl _)
    have I2 := I1.laid (t' := t') (a := s1.heap.objs.size) (o := kn (PySem.W.kla_obj "<lambda>" (X.env.qual ++ "<lambda>") params body scope (cloFrom X.env.cells scope.names []) pm c' ctv)) (h' := s1.heap.push (PySem.W.kla_obj "<lambda>" (X.env.qual ++ "<lambda>") params body scope (cloFrom X.env.cells scope.names []) pm c' ctv))
      (fun b u e => Heap.get?_push_of_some _ e) (Nat.le_refl _) ⟨Heap.get?_push_size _ rfl, ⟨_, Heap.get?_push_size _ rfl⟩⟩
    refine h s1.heap.objs.size c' pm ctv _ oc _ _ I2 (fun b u e n => ?_) (fun b e => ?_) (fun b v z => ?_) (T1.fresh nF) (I.hok.fresh hsz) L2.upd_same rfl rfl ?_ hnm
    · have e1 := k1 b u e n
      rw [L2.upd_ne (ne_of_none e1 nF)]; exact e1
    · refine k2 b ?_
      by_cases hb : b = s1.heap.objs.size
      · rw [hb, L2.upd_same] at e; cases e
      · rw [L2.upd_ne hb] at e; exact e
    · obtain ⟨o, ho, hd⟩ := k3 b v z
      exact ⟨o, Heap.get?_push_of_some _ ho, hd⟩
    · rw [L2.upd_ne (ne_of_none hc' nF)]; exact hc'
  cases hc : codeAmong pos ps.toList with
  | none =>
    refine PySem.W.kla_makeFunction (mg := X.mg) (c := c) (P := P) (ps := ps) (closure_ok hfree) I.ok.glob (I.mod.glob.keeps I.bk) hcode (TB.code.keeps I.bk) hP' ht hc TB.gP bP fun c' ctv h' tk hx hge hlt hrec htb => ?_
    obtain ⟨c2, oc, vs, t, e2, hoc, hd, hv⟩ := hrec
    cases e2
    have nC : H c' = none := I.hok.fresh hge
    have I1 := inv_tableD (t' := tk) (more := #[rawInt pos.line, rawInt pos.col, .ref c']) (h' := h') (oc := oc) I hP (fun b o hb e => hx b o hb e) htb hge hoc
    have hE : ∀ b u, H b = some u → (∀ ps, u ≠ .tbl ps) → upd (upd H P (.tbl (ps ++ #[rawInt pos.line, rawInt pos.col, .ref c']))) c' (kn oc) b = some u := fun b o e n => by
      rw [L2.upd_ne (ne_of_none e nC), L2.upd_ne (fun z => n ps (Option.some.inj (e.symm.trans (by rw [z]; exact hP))))]
      exact e
    have eL : (ps ++ #[rawInt pos.line, rawInt pos.col, .ref c']).toList = ps.toList ++ [rawInt pos.line, rawInt pos.col, .ref c'] := by simp
    have hsz : s.heap.objs.size ≤ h'.objs.size := Nat.le_trans hge (Nat.le_of_lt hlt)
    refine lay (s1 := { s with heap := h', toks := tk }) (t' := tk) I1 rfl rfl hsz hE (fun b e => ?_) (fun b v z => ?_) (fun p hp => ?_) L2.upd_same ⟨vs, t, hd, hv⟩
    · by_cases h1 : b = c'
      · rw [h1, L2.upd_same] at e; cases e
      · rw [L2.upd_ne h1] at e
        by_cases h2 : b = P
        · rw [h2, L2.upd_same] at e; cases e
        · rw [L2.upd_ne h2] at e; exact e
    · obtain ⟨o, ho, hd⟩ := z
      refine ⟨o, hx b o (fun e => ?_) ho, hd⟩
      rw [e, hP'] at ho
      cases ho
      cases hd
    · by_cases hb : p.1 = P
      · rw [hb, hu p hp hb]
        refine ⟨_, by rw [L2.upd_ne (ne_of_none hP nC), L2.upd_same], by rw [eL]; exact PySem.TriplesOk_snoc _ _ _ _ ht, fun p' cv hcv => ?_⟩
        rw [eL] at hcv
        rcases LamX.among_app _ ht hcv with z | z
        · obtain ⟨c0, oc0, e1, e2, e3⟩ := ha p' cv z
          exact ⟨c0, oc0, e1, hE _ _ e2 kn_ne, e3⟩
        · exact ⟨c', oc, z, L2.upd_same, vs, t, hd, hv⟩
      · obtain ⟨ps', a1, a2, a3⟩ := hT p hp
        refine ⟨ps', by rw [L2.upd_ne (ne_of_none a1 nC), L2.upd_ne hb]; exact a1, a2, fun p' cv hcv => ?_⟩
        obtain ⟨c0, oc0, e1, e2, e3⟩ := a3 p' cv hcv
        exact ⟨c0, oc0, e1, hE _ _ e2 kn_ne, e3⟩
  | some cv =>
    obtain ⟨c', oc, e, hco, hnm⟩ := ha pos cv hc
    subst e
    refine PySem.W.kla_makeFunctionHit (mg := X.mg) (c := c) (P := P) (ps := ps) (closure_ok hfree) I.ok.glob (I.mod.glob.keeps I.bk) hcode (TB.code.keeps I.bk) hP' ht hc bP fun ctv h' tk hx hsz => ?_
    have I1 : Inv X pins σ H { s with heap := h', toks := tk } := I.kept hx
    exact lay (s1 := { s with heap := h', toks := tk }) (t' := tk) I1 rfl rfl hsz (fun b u e _ => e) (fun b e => e) (fun b v ⟨o, ho, hd⟩ => ⟨o, hx b o ho, hd⟩) hT hco hnm
end
end Ow
namespace Ow
open PySem PySem.Spec PyProof.Rows L2
variable [Tb]
/-! ### the captured cells are known while a function that reads them is lent -/
/-- the cells cs known, as they stand in h -/
def lendH (h : Heap) (cs : List Addr) (H : Hp) : Hp := fun b => if b ∈ cs then (h.get? b).map kn else H b
/-- the cells cs unknown again -/
def unlH (cs : List Addr) (H : Hp) : Hp := fun b => if b ∈ cs then none else H b
theorem unlH_in {cs : List Addr} {H : Hp} {b : Addr} (h : b ∈ cs) : unlH cs H b = none := if_pos h
theorem unlH_out {cs : List Addr} {H : Hp} {b : Addr} (h : b ∉ cs) : unlH cs H b = H b := if_neg h
theorem lendH_out {h : Heap} {cs : List Addr} {H : Hp} {b : Addr} (n : b ∉ cs) : lendH h cs H b = H b := if_neg n
theorem lendH_in {h : Heap} {cs : List Addr} {H : Hp} {b : Addr} (n : b ∈ cs) : lendH h cs H b = (h.get? b).map kn := if_pos n
/-- cs are cells, known ones -/
def KnC (H : Hp) (cs : List Addr) : Prop := ∀ c ∈ cs, ∃ o v, H c = some (kn o) ∧ o.data = .cell v
theorem CellsR.kn {H : Hp} : ∀ {cs : List Addr} {vs : List V}, CellsR H cs vs → KnC H cs
  | [], _, _ => fun c hc => nomatch hc
  | c :: cs, _, h => by
    obtain ⟨v, r, o, u, rfl, h1, h2, h3, h4⟩ := h
    intro b hb
    rcases List.mem_cons.mp hb with e | e
    · exact ⟨o, some u, by rw [e]; exact h1, h2⟩
    · exact CellsR.kn h4 b e
theorem KnC.no {H : Hp} {cs : List Addr} (k : KnC H cs) {b : Addr} {u : HO} (e : H b = some u) (n : ∀ o v, u = kn o → o.data ≠ .cell v) : b ∉ cs := fun hb => by
  obtain ⟨o, v, h1, h2⟩ := k b hb
  rw [h1] at e
  exact n o v (Option.some.inj e).symm h2
section
variable {P : Program} {w : World} {H : Hp} {h : Heap} {cs : List Addr}
theorem HOk.unl (x : HOk P w H h) (k : KnC H cs) : HOk P w (unlH cs H) h := fun b u e => by
  by_cases hb : b ∈ cs
  · rw [unlH_in hb] at e; cases e
  · rw [unlH_out hb] at e
    have keep : ∀ c u, H c = some u → (∀ o v, u = kn o → o.data ≠ .cell v) → unlH cs H c = some u := fun c u e n => by rw [unlH_out (k.no e n)]; exact e
    exact (x b u e).stay (fun c v _ q => q) (fun c q => keep _ _ q fun o v z => by cases z) fun c xs q => keep _ _ q fun o v z => by cases z
theorem HOk.lend (x : HOk P w H h) (hn : ∀ c ∈ cs, H c = none) : HOk P w (lendH h cs H) h := fun b u e => by
  by_cases hb : b ∈ cs
  · rw [lendH_in hb] at e
    cases q : h.get? b with
    | none => rw [q] at e; cases e
    | some o =>
      rw [q] at e
      cases e
      exact ⟨q, ⟨_, q⟩⟩
  · rw [lendH_out hb] at e
    have keep : ∀ c u, H c = some u → lendH h cs H c = some u := fun c u e => by rw [lendH_out (fun z => by rw [hn c z] at e; cases e)]; exact e
    exact (x b u e).stay (fun c v _ q => q) (fun c q => keep _ _ q) fun c xs q => keep _ _ q
end
/-- a table's code objects are no cells -/
theorem CodeNm.noCell {oc : Obj} {q : Str} (h : CodeNm oc q) : ∀ v, oc.data ≠ .cell v := fun v z => by
  obtain ⟨vs, t, e, _⟩ := h
  rw [e] at z; cases z
theorem TabsT.unl {H : Hp} {cs : List Addr} (t : TabsT H) (k : KnC H cs) : TabsT (unlH cs H) := fun p hp => by
  obtain ⟨ps, e1, e2, e3⟩ := t p hp
  refine ⟨ps, by rw [unlH_out (k.no e1 fun o v z => by cases z)]; exact e1, e2, fun pos cv hc => ?_⟩
  obtain ⟨c, oc, z1, z2, z3⟩ := e3 pos cv hc
  exact ⟨c, oc, z1, by rw [unlH_out (k.no z2 fun o v z => by cases z; exact z3.noCell v)]; exact z2, z3⟩
/-! ### at the data's level -/
/-- without the function f and the functions that share its cells -/
def Mp.dropC (f : Addr) (cs : List Addr) (M : Mp) : Mp := fun a => if a = f then none else match M a with
  | some (.clo k caps cs') => if cs'.any (fun c => cs.contains c) = true then none else some (.clo k caps cs')
  | o => o
/-- those of M are back -/
def Mp.resC (M : Mp) (f : Addr) (cs : List Addr) (M' : Mp) : Mp := fun a => if a = f then M a else match M a with
  | some (.clo k caps cs') => if cs'.any (fun c => cs.contains c) = true then some (.clo k caps cs') else M' a
  | _ => M' a
theorem Mp.dropC_sub {f : Addr} {cs : List Addr} {M : Mp} : (M.dropC f cs).Sub M := fun a o h => by
  unfold Mp.dropC at h
  split at h
  · cases h
  · split at h
    · rename_i k caps cs' e
      split at h
      · cases h
      · rw [e]; exact h
    · exact h
theorem Mp.dropC_clo {f : Addr} {cs : List Addr} {M : Mp} {a : Addr} {k : Nat} {caps : List D} {cs' : List Addr} (h : M.dropC f cs a = some (.clo k caps cs')) : a ≠ f ∧ M a = some (.clo k caps cs') ∧ ∀ c ∈ cs', c ∉ cs := by
  have hs := Mp.dropC_sub _ _ h
  unfold Mp.dropC at h
  split at h
  · cases h
  · rename_i hne
    refine ⟨hne, hs, fun c hc hcs => ?_⟩
    rw [hs] at h
    simp only at h
    split at h
    · cases h
    · rename_i hn
      exact hn (List.any_eq_true.mpr ⟨c, hc, List.contains_iff_mem.mpr hcs⟩)
section
variable {W : Wd} {M M' : Mp} {H H' : Hp} {cs : List Addr} {f : Addr}
theorem Ext.unl (k : KnC H cs) (s : M'.Sub M) : Ext W M H M' (unlH cs H) := by
  have keep : ∀ c u, H c = some u → (∀ o v, u = kn o → o.data ≠ .cell v) → unlH cs H c = some u := fun c u e n => by rw [unlH_out (k.no e n)]; exact e
  refine ⟨fun a xs t => ?_, fun a o n e hl => keep a o e (fun o' v z => by rw [z] at hl; cases hl), fun a o xs e => keep a _ e (fun o' v z => by cases z), fun a o n _ _ => ?_⟩
  · rcases t with t | t
    · refine .inl ?_
      rcases t with t | ⟨o, t⟩
      · exact .inl (keep _ _ t fun o v z => by cases z)
      · exact .inr ⟨o, keep _ _ t fun o v z => by cases z⟩
    · exact .inr t
  · cases q : M' a with
    | none => rfl
    | some o => rw [s a o q] at n; cases n
theorem AbsM.unl (A : AbsM W M H) (k : KnC H cs) : AbsM W (M.dropC f cs) (unlH cs H) := by
  have e : Ext W M H (M.dropC f cs) (unlH cs H) := Ext.unl k Mp.dropC_sub
  have keep : ∀ c u, H c = some u → (∀ o v, u = kn o → o.data ≠ .cell v) → unlH cs H c = some u := fun c u e n => by rw [unlH_out (k.no e n)]; exact e
  refine ⟨fun a o q => ?_, A.tb.unl k⟩
  have r := A.ob a o (Mp.dropC_sub a o q)
  cases o with
  | lst l => obtain ⟨xs, h1, h2⟩ := r; exact ⟨xs, keep _ _ h1 (fun o v z => by cases z), h2.ext e⟩
  | ins C fs => obtain ⟨c, dx, ns, vs, h1, h2, h3, h4, h5⟩ := r; exact ⟨c, dx, ns, vs, h1, keep _ _ h2 (fun o v z => by cases z), h3, h4, h5.ext e⟩
  | dic kvs => obtain ⟨vs, h1, h4⟩ := r; exact ⟨vs, keep _ _ h1 (fun o v z => by cases z), h4.ext e⟩
  | exc C fs =>
    obtain ⟨c, oe, d, h1, h2, h3, ⟨vs, h4⟩, h5⟩ := r
    refine ⟨c, oe, d, h1, keep _ _ h2 (fun o v z => by cases z; rw [h4]; exact fun z => nomatch z), h3, ⟨vs, h4⟩, ?_⟩
    rcases h5 with h5 | ⟨dx, ns, ws, e1, e2, e3, e4, e5⟩
    · exact .inl h5
    · exact .inr ⟨dx, ns, ws, e1, keep _ _ e2 (fun o v z => by cases z), e3, e4, e5.ext e⟩
  | clo kk caps cs' =>
    obtain ⟨_, _, dj⟩ := Mp.dropC_clo q
    obtain ⟨T, qn, cl, c, vs, ⟨⟨o, d, p, t, e1, e2, e3⟩, tx, ⟨oc, e4, e5⟩, sb, at_, nd⟩, h2, h3⟩ := r
    refine ⟨T, qn, cl, c, vs, ⟨⟨o, d, p, t, keep _ _ e1 (fun o v z => by cases z; rw [e3]; exact fun z => nomatch z), e2, e3⟩, tx, ⟨oc, keep _ _ e4 (fun o v z => by cases z; exact e5.noCell v), e5⟩, sb, at_, nd⟩, ?_, h3.ext e⟩
    have go : ∀ {l : List Addr} {ws : List V}, (∀ c ∈ l, c ∉ cs) → CellsR H l ws → CellsR (unlH cs H) l ws := by
      intro l
      induction l with
      | nil => intro ws _ h; exact h
      | cons c l ih =>
        intro ws hd h
        obtain ⟨v, r, o, u, rfl, g1, g2, g3, g4⟩ := h
        exact ⟨v, r, o, u, rfl, by rw [unlH_out (hd c List.mem_cons_self)]; exact g1, g2, g3, ih (fun c hc => hd c (List.mem_cons_of_mem _ hc)) g4⟩
    exact go dj h2
theorem RepX.unl {x : XD} {cls : Value} {d : Option Addr} (R : RepX W M H x cls d) (k : KnC H cs) (s : M'.Sub M) : RepX W M' (unlH cs H) x cls d := by
  have e := Ext.unl (W := W) k s
  obtain ⟨C, h1, h2, h3⟩ := R
  refine ⟨C, h1, h2, ?_⟩
  rcases h3 with h3 | ⟨dx, ns, vs, e1, e2, e3, e4, e5⟩
  · exact .inl h3
  · exact .inr ⟨dx, ns, vs, e1, by rw [unlH_out (k.no e2 fun o v z => by cases z)]; exact e2, e3, e4, e5.ext e⟩
/-- the cells are known from here on -/
theorem Ext2.lend {h : Heap} (hn : ∀ c ∈ cs, H c = none) : Ext2 W M H M (lendH h cs H) := by
  have keep : ∀ c u, H c = some u → lendH h cs H c = some u := fun c u e => by rw [lendH_out (fun z => by rw [hn c z] at e; cases e)]; exact e
  refine ⟨⟨fun a xs t => ?_, fun a o _ e _ => keep _ _ e, fun a o xs e => keep _ _ e, fun a _ n _ _ => n⟩, fun b o e => keep _ _ e, fun b o e => keep _ _ e⟩
  rcases t with t | t
  · refine .inl ?_
    rcases t with t | ⟨o, t⟩
    · exact .inl (keep _ _ t)
    · exact .inr ⟨o, keep _ _ t⟩
  · exact .inr t
theorem AbsM.lend {h : Heap} (A : AbsM W M H) (hn : ∀ c ∈ cs, H c = none) : AbsM W M (lendH h cs H) := by
  have keep : ∀ c u, H c = some u → lendH h cs H c = some u := fun c u e => by rw [lendH_out (fun z => by rw [hn c z] at e; cases e)]; exact e
  refine ⟨fun a o q => (A.ob a o q).ext (Ext2.lend hn) ?_, A.tb.keep (fun b ps e => keep _ _ e) fun b o e => keep _ _ e⟩
  have := (A.ob a o q).ne
  cases e : H a with
  | none => exact absurd e this
  | some u => exact keep _ _ e
end
/-! ### the frames -/
section
variable {P : Program} {w : World} {K : PySem.W.Frag} {mg : Str → Option Value} {base : Heap} {A : Around} {outer : List Env} {s : Shared} {H : Hp} {cs : List Addr}
theorem Env0.unl (e : Env0 P w K mg base A outer s H) (k : KnC H cs) : Env0 P w K mg base A outer s (unlH cs H) := by
  have none_ : ∀ b, H b = none → unlH cs H b = none := fun b hb => by
    unfold unlH
    split
    · rfl
    · exact hb
  exact ⟨e.frames, e.mod, fun b o z => ⟨(e.bs b o z).1, none_ b (e.bs b o z).2⟩, e.bsz, e.funs, fun b hb => none_ b (e.frf b hb), HOk.unl e.hok k, e.bare⟩
theorem Env0.lend (e : Env0 P w K mg base A outer s H) (hn : ∀ c ∈ cs, H c = none) (hb : ∀ c ∈ cs, base.get? c = none) (hf : ∀ c ∈ cs, c ∉ frs outer) : Env0 P w K mg base A outer s (lendH s.heap cs H) :=
  ⟨e.frames, e.mod, fun b o z => ⟨(e.bs b o z).1, by rw [lendH_out (fun q => by rw [hb b q] at z; cases z)]; exact (e.bs b o z).2⟩, e.bsz, e.funs, fun b hb => by rw [lendH_out (fun q => hf b q hb)]; exact e.frf b hb, HOk.lend e.hok hn, e.bare⟩
end
/-- behind a call with known cells: they are unknown again -/
theorem Un.unl {fs : List Addr} {P : Program} {w : World} {H H' : Hp} {h h' : Heap} {cs : List Addr} (u : Un fs [] (lendH h cs H) H' h h') (hok : HOk P w H' h') (hn : ∀ c ∈ cs, H c = none) (hc : ∀ c ∈ cs, ∃ o, h.get? c = some o) (hf : ∀ c ∈ cs, c ∉ fs) : Un fs [] H (unlH cs H') h h' := by
  have kn' : ∀ c ∈ cs, ∀ o, h.get? c = some o → H' c = some (kn o) := fun c hm o e => u.frzs c o _ (by rw [lendH_in hm, e]; rfl)
  have out : ∀ b u, H b = some u → b ∉ cs := fun b u e z => by rw [hn b z] at e; cases e
  refine ⟨fun b o e n hb hx => ?_, fun b o e n hb hx => ?_, fun b o e n hx => ?_, u.there, fun b xs e => ?_, fun b o v e => ?_, fun b ps e => ?_⟩
  · by_cases hm : b ∈ cs
    · exact (hok b _ (kn' b hm o e)).1
    · exact u.keep b o e (by rw [lendH_out hm]; exact n) hb hx
  · have hm : b ∉ cs := fun z => hf b z hb
    exact u.slot b o e (by rw [lendH_out hm]; exact n) hb hx
  · by_cases hm : b ∈ cs
    · exact unlH_in hm
    · rw [unlH_out hm]
      exact u.free b o e (by rw [lendH_out hm]; exact n) hx
  · have hm := out _ _ e
    rw [unlH_out hm]
    exact u.tups b xs (by rw [lendH_out hm]; exact e)
  · have hm := out _ _ e
    rw [unlH_out hm]
    exact u.frzs b o v (by rw [lendH_out hm]; exact e)
  · have hm := out _ _ e
    rw [unlH_out hm]
    exact u.tbls b ps (by rw [lendH_out hm]; exact e)
theorem UB.unl {fs : List Addr} {P : Program} {w : World} {H H' : Hp} {h B h' : Heap} {cs : List Addr} (u : UB fs (lendH h cs H) H' h B h') (hok : HOk P w H' B) (hn : ∀ c ∈ cs, H c = none) (hf : ∀ c ∈ cs, c ∉ fs) : UB fs H (unlH cs H') h B h' := by
  have kn' : ∀ c ∈ cs, ∀ o, h.get? c = some o → H' c = some (kn o) := fun c hm o e => u.frzs c o _ (by rw [lendH_in hm, e]; rfl)
  have out : ∀ b u, H b = some u → b ∉ cs := fun b u e z => by rw [hn b z] at e; cases e
  refine ⟨fun b o e n hb => ?_, u.slot, fun b o e n => ?_, u.there, fun b xs e => ?_, fun b o v e => ?_, fun b ps e => ?_⟩
  · by_cases hm : b ∈ cs
    · exact (hok b _ (kn' b hm o e)).1
    · exact u.keep b o e (by rw [lendH_out hm]; exact n) hb
  · by_cases hm : b ∈ cs
    · exact unlH_in hm
    · rw [unlH_out hm]
      exact u.free b o e (by rw [lendH_out hm]; exact n)
  · have hm := out _ _ e
    rw [unlH_out hm]
    exact u.tups b xs (by rw [lendH_out hm]; exact e)
  · have hm := out _ _ e
    rw [unlH_out hm]
    exact u.frzs b o v (by rw [lendH_out hm]; exact e)
  · have hm := out _ _ e
    rw [unlH_out hm]
    exact u.tbls b ps (by rw [lendH_out hm]; exact e)
end Ow
namespace Ow
open PySem PySem.Spec PyProof.Rows L2
variable [Tb]
/-! ### functions made within a def: what they promise -/
/-- the kind; what a call makes of it, by what it captured -/
structure CI where
  id : Nat
  sp : List D → DSp
/-- the promise sp is told where the function itself (and what shares its cells) is out of sight -/
structure ClG (P : Program) (w : World) (K : PySem.W.Frag) (mg : Str → Option Value) (base : Heap) (k : Nat) (ci : CI) : Prop where
  run : ∀ (A : Around) (outer : List Env) (s : Shared) (H : Hp) (f : Addr) (caps : List D) (cs : List Addr) (us : List Value) (vs : List V) (ds : List D) (M : Mp) (Q : QE) (E : XD → Mp → Prop), Room k A → A.guards = some [] → Env0 P w K mg base A outer s H →
    M f = some (.clo ci.id caps cs) → Vals vs us → AbsM ⟨K, mg⟩ M H → Reps ⟨K, mg⟩ M H ds vs → ci.sp caps ds (M.dropC f cs) (fun d M' => Q d (M.resC f cs M')) (fun x M' => E x (M.resC f cs M')) →
    codeAny (model P w) A (.call (.ref f) ⟨us, []⟩) (CR (L2.CX P w) outer P w H s (lft ⟨K, mg⟩ M H Q) (lftX ⟨K, mg⟩ M H E)) s
def ClOk (X : Cx) (ci : CI) : Prop := ∃ k, ClG X.prog X.w X.K X.mg X.base k ci ∧ Room k X.A
theorem clo_fn {W : Wd} {M : Mp} {H : Hp} {s : Shared} {P : Program} {w : World} (A : AbsM W M H) (hok : HOk P w H s.heap) {f : Addr} {k : Nat} {caps : List D} {cs : List Addr} (h : M f = some (.clo k caps cs)) : PySem.W.FnAt f s.heap := by
  obtain ⟨T, q, cl, c, vs, ⟨⟨o, d, p, t, e1, e2, e3⟩, _⟩, _⟩ := A.ob f _ h
  obtain ⟨g, _⟩ := hok f _ e1
  obtain ⟨oc, od, od2, sl⟩ := o
  simp only at e2 e3
  subst e2 e3
  exact ⟨_, od, _, sl, g⟩
section
variable [Og] {X : Cx} {E : EX} {es : List Expr} {t : DTA} {p pos : Pos} {i : Nat} {x : Str} {cl : List CI}
@[simp] def callVD (cl : List CI) (E : EX) (ρ : DSt) (f : Addr) (ds : List D) (M1 : Mp) (Q : QE) : Prop := match M1 f with
  | some (.clo k caps cs) => ∃ ci ∈ cl, ci.id = k ∧ ci.sp caps ds (M1.dropC f cs) (fun d M' => Q d (M1.resC f cs M')) (fun x M' => E x ρ (M1.resC f cs M'))
  | _ => False
@[simp] def fnD (M : Mp) (f : Addr) : Prop := match M f with
  | some (.clo _ _ _) => True
  | _ => False
theorem run_V {pins : List (Addr × Obj)} {σ : L2.St} {H : Hp} {s : Shared} {ρ : DSt} {M : Mp} {ds : List D} {vs : List V} {us : List Value} {Q : QE} {f : Addr} (tk : Takes X (upW (wd X) E)) (hcl : ∀ ci ∈ cl, ClOk X ci) (hg : X.A.guards = some []) (I : Inv X pins σ H s) (S : AbsS (wd X) M H ρ σ) (A : AbsM (wd X) M H) (rv : Vals vs us) (r : Reps (wd X) M H ds vs)
    (q : callVD cl E ρ f ds M Q) : wpAny (model X.prog X.w) X.A (call (.ref f) us) (EP X pins σ (lft (wd X) M H Q)) X.xe s := by
  unfold callVD at q
  split at q
  · rename_i k caps cs hM
    obtain ⟨ci, hci, rfl, q⟩ := q
    obtain ⟨k, G, hr⟩ := hcl ci hci
    refine wpAny_call (codeAny_mono (G.run X.A X.stack s H f caps cs us vs ds M Q _ hr hg I.env0 hM rv A r q) fun res s' z => ?_)
    match res, z with
    | .ok (.ret u), z => exact I.after z
    | .ok .next, z => exact z.elim
    | .ok .brk, z => exact z.elim
    | .ok .cont, z => exact z.elim
    | .error e, z =>
      obtain ⟨a, B, H', cls, d, e1, e2, e3, ub, e5, e6, e7, ⟨x, M', xt, A', rx, ex⟩⟩ := z
      exact tk e s' (XE.of_call I (E := fun cls d H' => ∃ x M', Ext (wd X) M H M' H' ∧ AbsM (wd X) M' H' ∧ RepX (wd X) M' H' x cls d ∧ E x ρ M') (fun cls d H' ⟨x, M', xt, A', rx, ex⟩ => ⟨x, ρ, M', S.ext xt, A', rx, ex⟩)
        ⟨a, B, H', cls, d, e1, e2, e3, ub, e5, e6, e7, x, M', xt, A', rx, ex⟩)
  · exact q.elim
theorem fnD_at {M : Mp} {H : Hp} {f : Addr} {pins : List (Addr × Obj)} {σ : L2.St} {s : Shared} (I : Inv X pins σ H s) (A : AbsM (wd X) M H) (h : fnD M f) : PySem.W.FnAt f s.heap := by
  unfold fnD at h
  split at h
  · rename_i hM; exact clo_fn A I.hok hM
  · exact h.elim
theorem callVD_fn {M : Mp} {f : Addr} {ρ : DSt} {ds : List D} {Q : QE} (h : callVD cl E ρ f ds M Q) : fnD M f := by
  unfold callVD at h
  unfold fnD
  split at h
  · trivial
  · exact h.elim
/-- x(..), x a name that holds a function made within a def -/
theorem DE.callV (tk : Takes X (upW (wd X) E)) (hcl : ∀ ci ∈ cl, ClOk X ci) (gd : X.A.guards = some []) (hN : X.N[i]? = some x) (hv : Vis X.env.scope x) (hd : (x == ("__debug__" : Str)) = false) (hcd : (x == ("__classdict__" : Str)) = false) (h : DA X es t) (hs : es.all notStar = true) (hnil : es = [] → ∀ ρ M Q, t ρ M Q → Q [] M) :
    DE X (.Call (.Name x p) es [] pos) (fun ρ M Q => match ρ[i]? with
      | some (some (.ref f)) => fnD M f ∧ t ρ M fun ds M1 => callVD cl E ρ f ds M1 Q
      | _ => False) := by
  refine ⟨fun σ H ρ M Q S A z pins s I => ?_⟩
  try dsimp only at z
  split at z
  · rename_i f hf
    obtain ⟨zf, z⟩ := z
    obtain ⟨v0, h0, r0⟩ := S.at_ i _ hf
    have r0 : v0 = .ref f := r0
    subst r0
    refine wpAny_Call_Name_kw (thn ((pe_var (pos := p) hN hv hd hcd).run pins s σ H (fun v H1 => v = .ref f ∧ H1 = H) I ⟨.ref f, h0, rfl, rfl⟩) fun u s1 ⟨v, H1, I1, r1, q1⟩ => ?_)
    obtain ⟨ev, eH⟩ := q1
    subst ev eH
    obtain rfl : u = Value.ref f := r1
    cases es with
    | nil =>
      have q := hnil rfl _ _ _ z
      exact PySem.W.callWith_F0 (first := []) (fnD_at I1 A zf) (run_V (vs := []) (ds := []) tk hcl gd I1 S A .nil rfl q)
    | cons e es =>
      rw [List.all_cons, Bool.and_eq_true] at hs
      refine PySem.W.callWith_F (first := []) (fnD_at I1 A zf) (thn (h.to σ H1 ρ M _ S A z pos pins s1 I1) fun us s2 ⟨vs, H2, I2, rv, ds, M1, xt, r, A1, q⟩ => ⟨fnD_at I2 A1 (callVD_fn q), ?_⟩) (star_cons hs.1) (star_none hs.2)
      exact thn (run_V tk hcl gd I2 (S.ext xt) A1 rv r q) fun u s3 ⟨v, H3, I3, rv3, q3⟩ => ⟨v, H3, I3, rv3, q3.trans xt⟩
  · exact z.elim
/-- x(..), x a name that holds a def of the module -/
theorem DE.callF {fs : List FI} {P : FI → Addr → Prop} (hfs : ∀ fi ∈ fs, FOk X fi) (hP : ∀ fi f M H, AbsM (wd X) M H → P fi f → X.mg fi.name = some (.ref f)) (tk : Takes X (upW (wd X) E)) (gd : X.A.guards = some []) (hN : X.N[i]? = some x) (hv : Vis X.env.scope x) (hd : (x == ("__debug__" : Str)) = false) (hcd : (x == ("__classdict__" : Str)) = false) (h : DA X es t) (hs : es.all notStar = true) (hnil : es = [] → ∀ ρ M Q, t ρ M Q → Q [] M) :
    DE X (.Call (.Name x p) es [] pos) (fun ρ M Q => match ρ[i]? with
      | some (some (.ref f)) => ∃ fi ∈ fs, P fi f ∧ t ρ M fun ds M1 => fi.sp ds M1 Q (fun x M' => E x ρ M')
      | _ => False) := by
  refine ⟨fun σ H ρ M Q S A z pins s I => ?_⟩
  try dsimp only at z
  split at z
  · rename_i f hf
    obtain ⟨v0, h0, r0⟩ := S.at_ i _ hf
    have r0 : v0 = .ref f := r0
    subst r0
    refine wpAny_Call_Name_kw (thn ((pe_var (pos := p) hN hv hd hcd).run pins s σ H (fun v H1 => v = .ref f ∧ H1 = H) I ⟨.ref f, h0, rfl, rfl⟩) fun u s1 ⟨v, H1, I1, r1, q1⟩ => ?_)
    obtain ⟨ev, eH⟩ := q1
    subst ev eH
    obtain rfl : u = Value.ref f := r1
    obtain ⟨fi, hfi, hp, z⟩ := z
    obtain ⟨f', hm, kp, G⟩ := hfs fi hfi
    have hm2 := hP fi f M H1 A hp
    rw [hm] at hm2
    cases hm2
    cases es with
    | nil =>
      have q := hnil rfl _ _ _ z
      exact PySem.W.callWith_K0 I1.kIn kp (G.go E pins σ H1 s1 ρ M [] [] [] Q tk gd I1 S A .nil rfl q)
    | cons e es =>
      rw [List.all_cons, Bool.and_eq_true] at hs
      refine PySem.W.callWith_K (h₀ := X.base) I1.ok.mod.kin kp (thn (h.to σ H1 ρ M _ S A z pos pins s1 I1) fun us s2 ⟨vs, H2, I2, rv, ds, M1, xt, r, A1, q⟩ => ⟨I2.kIn, ?_⟩) (star_cons hs.1) (star_none hs.2)
      exact thn (G.go E pins σ H2 s2 ρ M1 ds vs us Q tk gd I2 (S.ext xt) A1 rv r q) fun u s3 ⟨v, H3, I3, rv3, q3⟩ => ⟨v, H3, I3, rv3, q3.trans xt⟩
  · exact z.elim
end
/-! ### a call of a def with a lambda as its last argument -/
def FOk1 (X : Cx) (fi : FI) : Prop := ∃ (f : Addr) (fd : FuncData) (ps : List Str) (k : Nat), X.mg fi.name = some (.ref f) ∧ PySem.W.keepIn X.K (.ref f) = true ∧ FnG X.prog X.w X.K X.mg X.base k f fd ps fi.sp ∧ Room k X.A ∧ Binds X.K fd ps []
def capsD (ρ : DSt) : List Nat → Option (List D)
  | [] => some []
  | j :: js => match ρ[j]?, capsD ρ js with
    | some (some d), some r => some (d :: r)
    | _, _ => none
theorem capsD_rep [Og] {W : Wd} {M : Mp} {H : Hp} {ρ : DSt} {σ : L2.St} (S : AbsS W M H ρ σ) : ∀ {js : List Nat} {caps : List D}, capsD ρ js = some caps → ∃ vs : List V, js.map (NdefX.slotAt σ) = vs.map some ∧ Reps W M H caps vs
  | [], _, h => by cases h; exact ⟨[], rfl, rfl⟩
  | j :: js, caps, h => by
    unfold capsD at h
    split at h
    · rename_i d r h1 h2
      cases h
      obtain ⟨v, hv, rv⟩ := S.at_ j d h1
      obtain ⟨vs, e, rs⟩ := capsD_rep S h2
      exact ⟨v :: vs, by rw [List.map_cons, List.map_cons, e, NdefX.slotAt_of hv], v, vs, rfl, rv, rs⟩
    · cases h
section
variable [Og] {X : Cx} {E : EX} {p pos lpos : Pos}
/-- the arguments, then one more -/
theorem cA_last {lam : Expr} (hl : notStar lam = true) : ∀ {es : List Expr} {ts : List DTE}, DEs X es ts → es.all notStar = true → ∀ {σ : L2.St} {H : Hp} {ρ : DSt} {M : Mp} {P : QA} {R : List V → Hp → Prop}, AbsS (wd X) M H ρ σ → AbsM (wd X) M H → seqT ts ρ M P →
    (∀ ds M1 H1 ws, Ext (wd X) M H M1 H1 → Reps (wd X) M1 H1 ds ws → AbsM (wd X) M1 H1 → AbsS (wd X) M1 H1 ρ σ → P ds M1 → cT X lam σ H1 fun v H2 => R (ws ++ [v]) H2) → cA X (es ++ [lam]) σ H R
  | [], ts, hd, _, σ, H, ρ, M, P, R, S, A, z, k => by
    cases ts with
    | cons t ts => exact hd.elim
    | nil =>
      have h := k [] M H [] Ext.refl rfl A S z
      exact fun pos pins s I => (pa_cons (pe_cT (e := lam)) pa_nil (star_cons hl)).run pos pins s σ H R I h
  | e :: es, ts, hd, hs, σ, H, ρ, M, P, R, S, A, z, k => by
    cases ts with
    | nil => exact hd.elim
    | cons t ts =>
      obtain ⟨h1, h2⟩ := hd
      rw [List.all_cons, Bool.and_eq_true] at hs
      have hh : cT X e σ H fun x H1 => cA X (es ++ [lam]) σ H1 fun xs H2 => R (x :: xs) H2 := by
        refine h1.bind S A z fun v d M1 H1 x r A1 S1 q => ?_
        exact cA_last hl h2 hs.2 S1 A1 q fun ds M2 H2 ws x2 rs A2 S2 q2 => k (d :: ds) M2 H2 (v :: ws) (x.trans x2) ⟨v, ws, rfl, r.ext x2, rs⟩ A2 S2 q2
      exact fun pos pins s I => (pa_cons (pe_cT (e := e)) (pa_cA (es := es ++ [lam])) (star_cons hs.1)).run pos pins s σ H R I hh
/-- what the text of the lambda and the frame around must say -/
structure LamOk (X : Cx) (k : Nat) (js : List Nat) (params : Arguments) (body : Expr) (scope : Scope) : Prop where
  tx : Tb.cl k ⟨"<lambda>", params, .expr body, scope⟩ = true
  js : js.map (fun j => X.N[j]?) = (Tb.fr k).map some
  kd : ∀ y ∈ Tb.fr k, X.env.scope.names.lookup y = some .cell ∧ X.fn y = true
  fr : ∀ y ∈ scope.names, y.2 = .free → y.1 ∈ Tb.fr k
  fk : ∀ y ∈ Tb.fr k, (y, NameKind.free) ∈ scope.names
  nd : (Tb.fr k).Nodup
  df : params.defaults = [] ∧ params.kw_defaults = []
theorem map_get {α β : Type} {f : α → Option β} {d : β} : ∀ {l : List α}, (∀ x ∈ l, ∃ y, f x = some y) → l.map f = (l.map fun x => (f x).getD d).map some
  | [], _ => rfl
  | x :: l, h => by
    obtain ⟨y, e⟩ := h x List.mem_cons_self
    rw [List.map_cons, List.map_cons, List.map_cons, map_get (d := d) fun x hx => h x (List.mem_cons_of_mem _ hx), e]; rfl
theorem nodup_map {α β : Type} {f : α → β} : ∀ {l : List α}, (∀ x ∈ l, ∀ y ∈ l, f x = f y → x = y) → l.Nodup → (l.map f).Nodup
  | [], _, _ => List.nodup_nil
  | x :: l, h, n => by
    rw [List.nodup_cons] at n
    rw [List.map_cons, List.nodup_cons]
    refine ⟨fun hm => ?_, nodup_map (fun a ha b hb => h a (List.mem_cons_of_mem _ ha) b (List.mem_cons_of_mem _ hb)) n.2⟩
    obtain ⟨y, hy, e⟩ := List.mem_map.mp hm
    exact n.1 (h y (List.mem_cons_of_mem _ hy) x List.mem_cons_self e ▸ hy)
theorem cellsR_of {H : Hp} {h : Heap} {cl : List (Str × Addr)} : ∀ {fr : List Str} {vs : List V}, (∀ y ∈ fr, ∃ c, cl.lookup y = some c) → fr.length = vs.length → (∀ (i : Nat) (y : Str) (v : V), fr[i]? = some y → vs[i]? = some v → ∃ c u, cl.lookup y = some c ∧ RelV v u ∧ h.IsCell c (some u)) →
    (∀ y ∈ fr, ∀ c o, cl.lookup y = some c → h.get? c = some o → H c = some (kn o)) → CellsR H (fr.map fun y => (cl.lookup y).getD 0) vs
  | [], vs, _, hl, _, _ => by
    cases vs with
    | nil => rfl
    | cons v vs => cases hl
  | y :: fr, vs, hc, hl, hv, hk => by
    cases vs with
    | nil => cases hl
    | cons v vs =>
      obtain ⟨c, u, e1, ru, o, ho, hd⟩ := hv 0 y v rfl rfl
      refine ⟨v, vs, o, u, rfl, ?_, hd, ru, ?_⟩
      · show H ((cl.lookup y).getD 0) = _
        rw [e1]
        exact hk y List.mem_cons_self c o e1 ho
      · exact cellsR_of (fun y hy => hc y (List.mem_cons_of_mem _ hy)) (by simpa using hl) (fun i y v h1 h2 => hv (i + 1) y v (by simpa using h1) (by simpa using h2)) fun y hy => hk y (List.mem_cons_of_mem _ hy)
theorem DE.callL {fi : FI} {x : Str} {es : List Expr} {ts : List DTE} {k : Nat} {js : List Nat} {params : Arguments} {body : Expr} {scope : Scope} (tk : Takes X (upW (wd X) E)) (F : FOk1 X fi) (hx : fi.name = x) (gd : X.A.guards = some []) (hg : Gl X x) (hd : (x == ("__debug__" : Str)) = false) (mk : MkF X) (L : LamOk X k js params body scope)
    (h : DEs X es ts) (hs : es.all notStar = true) :
    DE X (.Call (.Name x p) (es ++ [.Lambda params body scope lpos]) [] pos) (fun ρ M Q => seqT ts ρ M fun ds M1 => match capsD ρ js with
      | some caps => ∀ f cs, M1 f = none → cs.length = caps.length → (∀ a k' caps' cs', M1 a = some (.clo k' caps' cs') → ∀ c ∈ cs', c ∉ cs) → fi.sp (ds ++ [.ref f]) (M1.upd f (.clo k caps cs)) (fun d M2 => Q d (M2.dropC f cs)) (fun x M2 => E x ρ (M2.dropC f cs))
      | none => False) := by
  subst hx
  refine ⟨fun σ H ρ M Q S A z pins s I => ?_⟩
  obtain ⟨g, fd, ps, kk, hm, kp, G, hr, hb⟩ := F
  refine wpAny_Call_Name_kw (ld_glob I hg hm ?_ hd)
  have hcap : ∀ y ∈ scope.names, y.2 = .free → ∃ c, X.env.cells.lookup y.1 = some c := fun y hy e => I.ok.has _ (.inl (L.kd _ (L.fr y hy e)).1)
  have hdef' : ∀ p : Arguments, p.defaults = [] → p.kw_defaults = [] → defaultsOf p X.env = ([], []) := by
    intro p h1 h2
    cases p
    simp only at h1 h2
    subst h1 h2
    rfl
  have hdef := hdef' params L.df.1 L.df.2
  obtain ⟨cl, hcl⟩ : ∃ cl, cl = cloFrom X.env.cells scope.names [] := ⟨_, rfl⟩
  -- all arguments
  have all := cA_last (lam := .Lambda params body scope lpos) rfl h hs (R := fun vs H2 => ∃ ds M1 H1 ws f c' o oc pm ctv, vs = ws ++ [V.ref f] ∧ Ext (wd X) M H M1 H1 ∧ Reps (wd X) M1 H1 ds ws ∧ AbsM (wd X) M1 H1 ∧ AbsS (wd X) M1 H1 ρ σ ∧
      (match capsD ρ js with
        | some caps => ∀ f cs, M1 f = none → cs.length = caps.length → (∀ a k' caps' cs', M1 a = some (.clo k' caps' cs') → ∀ c ∈ cs', c ∉ cs) → fi.sp (ds ++ [.ref f]) (M1.upd f (.clo k caps cs)) (fun d M2 => Q d (M2.dropC f cs)) (fun x M2 => E x ρ (M2.dropC f cs))
        | none => False) ∧
      (∀ b u, H1 b = some u → (∀ ps, u ≠ .tbl ps) → H2 b = some u) ∧ (∀ b, H2 b = none → H1 b = none) ∧ TabsT H2 ∧ H1 f = none ∧ H2 f = some (kn o) ∧ o.cls = .type "function" ∧
      o.data = .func (PySem.W.kla_fn "<lambda>" (X.env.qual ++ "<lambda>") params body scope cl pm (.ref c') ctv) ∧ H2 c' = some (kn oc) ∧ CodeNm oc (X.env.qual ++ "<lambda>"))
    S A z (fun ds M1 H1 ws x1 rs A1 S1 q pins s I => lam_makeD I mk A1.tb hdef hcap fun f c' pm ctv o oc H2 s' I2 k1 k2 k3 T2 hf hf2 hcls hdat hc' hnm =>
      ⟨.ref f, H2, I2, rfl, ds, M1, H1, ws, f, c', o, oc, pm, ctv, rfl, x1, rs, A1, S1, q, k1, k2, T2, hf, hf2, hcls, by rw [hcl]; exact hdat, hc', hnm⟩)
  have hne : ∃ e0 es0, es ++ [Expr.Lambda params body scope lpos] = e0 :: es0 := by
    cases es with
    | nil => exact ⟨_, _, rfl⟩
    | cons e es => exact ⟨_, _, rfl⟩
  obtain ⟨e0, es0, hxs⟩ := hne
  have hns : (e0 :: es0).all notStar = true := by
    rw [← hxs, List.all_append, hs]; rfl
  rw [List.all_cons, Bool.and_eq_true] at hns
  rw [hxs] at all ⊢
  refine PySem.W.callWith_K (h₀ := X.base) I.ok.mod.kin kp (thn (all pos pins s I) fun us s2 ⟨vs, H2, I2, rv, hR⟩ => ⟨I2.kIn, ?_⟩) (star_cons hns.1) (star_none hns.2)
  obtain ⟨ds, M1, H1, ws, f, c', o, oc, pm, ctv, rfl, x1, rs, A1, S1, q, k1, k2, T2, hf, hf2, hcls, hdat, hc', hnm⟩ := hR
  -- the state with the lambda
  have notbl : ∀ b u, H1 b = some u → (M1 b ≠ none ∨ HO.isLD u = true ∨ (∃ o, u = kn o) ∨ (∃ fs, u = .xd fs)) → ∀ ps, u ≠ .tbl ps := by
    intro b u e hh ps hu
    rcases hh with hh | hh | ⟨o, hh⟩ | ⟨fs, hh⟩
    · cases q1 : M1 b with
      | none => exact hh q1
      | some m => exact (A1.ob b m q1).notTbl (by rw [e, hu])
    · rw [hu] at hh; cases hh
    · rw [hu] at hh; cases hh
    · rw [hu] at hh; cases hh
  have x2 : Ext2 (wd X) M1 H1 M1 H2 := by
    refine ⟨⟨fun a xs t => ?_, fun a u n e hl => k1 a u e (notbl a u e (.inr (.inl hl))), fun a o xs e => k1 a _ e (fun ps z => by cases z), fun a _ n _ _ => n⟩, fun b o e => k1 b _ e kn_ne, fun b fs e => k1 b _ e (fun ps z => by cases z)⟩
    rcases t with t | t
    · refine .inl ?_
      rcases t with t | ⟨o, t⟩
      · exact .inl (k1 _ _ t fun ps z => by cases z)
      · exact .inr ⟨o, k1 _ _ t fun ps z => by cases z⟩
    · exact .inr t
  have A2 : AbsM (wd X) M1 H2 := ⟨fun a m q1 => (A1.ob a m q1).ext x2 (by
    cases e : H1 a with
    | none => exact absurd e (A1.ob a m q1).ne
    | some u => exact k1 a u e (notbl a u e (.inl (by rw [q1]; simp)))), T2⟩
  have S2 := S1.ext x2.toExt
  have hMf : M1 f = none := A1.free hf
  split at q
  · rename_i caps hcaps
    obtain ⟨cvs, hsl, rcv⟩ := capsD_rep S2 hcaps
    -- the cells
    have CA := NdefX.cells_of I2 (NdefX.Caps.made (scope := scope) (fr := Tb.fr k) (js := js) I2.ok (fun y hy e => .inl (L.kd _ (L.fr y hy e)).1) L.fk L.js)
    rw [← hcl, hsl] at CA
    obtain ⟨cs, hcs⟩ : ∃ cs : List Addr, cs = (Tb.fr k).map fun y => (cl.lookup y).getD 0 := ⟨_, rfl⟩
    have hasC : ∀ y ∈ Tb.fr k, ∃ c, cl.lookup y = some c := fun y hy => by
      obtain ⟨i, hi⟩ := List.mem_iff_getElem?.mp hy
      obtain ⟨c, hc, _⟩ := CA.has i y hi
      exact ⟨c, hc⟩
    have hat : (Tb.fr k).map (fun y => cl.lookup y) = cs.map some := by rw [hcs]; exact map_get hasC
    have memc : ∀ c ∈ cs, ∃ y ∈ Tb.fr k, cl.lookup y = some c := fun c hc => by
      rw [hcs] at hc
      obtain ⟨y, hy, e⟩ := List.mem_map.mp hc
      obtain ⟨c', hc'⟩ := hasC y hy
      rw [hc'] at e
      exact ⟨y, hy, by rw [hc', ← e]; rfl⟩
    have hn : ∀ c ∈ cs, H2 c = none := fun c hc => by
      obtain ⟨y, hy, e⟩ := memc c hc
      exact (CA.all y c e).1
    have hcell : ∀ c ∈ cs, ∃ o v, s2.heap.get? c = some o ∧ o.data = .cell v := fun c hc => by
      obtain ⟨y, hy, e⟩ := memc c hc
      obtain ⟨v, o, ho, hd⟩ := (CA.all y c e).2
      exact ⟨o, v, ho, hd⟩
    have hfree' : ∀ y ∈ scope.names, y.2 = .free → ∃ c, X.env.cells.lookup y.1 = some c := hcap
    have own : ∀ c ∈ cs, ∃ y, X.env.cells.lookup y = some c ∧ X.fn y = true := fun c hc => by
      obtain ⟨y, hy, e⟩ := memc c hc
      rw [hcl] at e
      exact ⟨y, NdefX.clo_cm hfree' e, (L.kd y hy).2⟩
    have hge : ∀ c ∈ cs, X.s_0.heap.objs.size ≤ c := fun c hc => by
      obtain ⟨y, e, hfn⟩ := own c hc
      exact I2.ok.cab y c hfn e
    have hbase : ∀ c ∈ cs, X.base.get? c = none := fun c hc => by
      cases e : X.base.get? c with
      | none => rfl
      | some o => exact absurd (Heap.lt_size e) (Nat.not_lt.mpr (Nat.le_trans I2.ok.bsz (hge c hc)))
    have hfs : ∀ c ∈ cs, c ∉ frs X.stack := fun c hc hm => by
      rcases List.mem_cons.mp (I2.stkSub _ hm) with e | e
      · obtain ⟨y, e2, _⟩ := own c hc
        exact I2.cne y c e2 e
      · obtain ⟨_, ob, ho, _⟩ := I2.ok.funs.mem e
        exact absurd (Heap.lt_size ho) (Nat.not_lt.mpr (hge c hc))
    have ndc : cs.Nodup := by
      rw [hcs]
      refine nodup_map ?_ L.nd
      intro y hy z hz e
      obtain ⟨c1, h1⟩ := hasC y hy
      obtain ⟨c2, h2⟩ := hasC z hz
      rw [h1, h2] at e
      have e : c1 = c2 := e
      subst e
      exact CA.inj y z c1 h1 h2
    obtain ⟨H3, hH3⟩ : ∃ H3, H3 = lendH s2.heap cs H2 := ⟨_, rfl⟩
    have x3 : Ext2 (wd X) M1 H2 M1 H3 := by rw [hH3]; exact Ext2.lend hn
    have A3 : AbsM (wd X) M1 H3 := by rw [hH3]; exact A2.lend hn
    have kept : ∀ b u, H2 b = some u → H3 b = some u := fun b u e => by rw [hH3, lendH_out (fun z => by rw [hn b z] at e; cases e)]; exact e
    have f3 := kept _ _ hf2
    -- with the function
    have x4 : Ext2 (wd X) M1 H3 (M1.upd f (.clo k caps cs)) H3 := by
      refine ⟨⟨fun _ _ h => h, fun _ _ _ h _ => h, fun _ _ _ h => h, fun a u n e hl => ?_⟩, fun _ _ h => h, fun _ _ h => h⟩
      rw [Mp.upd_ne]
      · exact n
      · intro ea
        rw [ea, f3] at e
        cases e
        cases hl
    have hclo : RepO (wd X) (M1.upd f (.clo k caps cs)) H3 f (.clo k caps cs) := by
      refine ⟨⟨"<lambda>", params, .expr body, scope⟩, X.env.qual ++ "<lambda>", cl, c', cvs, ⟨⟨o, _, pm, ctv, f3, hcls, hdat⟩, L.tx, ⟨oc, kept _ _ hc', hnm⟩, fun y b e => ?_, hat, ndc⟩, ?_, (rcv.ext x3.toExt).ext x4.toExt⟩
      · rw [hcl] at e
        have hm := PySem.mem_of_lookup e
        rcases cloFrom_mem hm with z | ⟨z, _⟩
        · cases z
        · exact L.fr _ z rfl
      · rw [hcs]
        refine cellsR_of (h := s2.heap) hasC (by have := CA.len; rw [List.length_map] at this; exact this.symm) (fun i y v h1 h2 => ?_) fun y hy c ob e ho => ?_
        · obtain ⟨c, hc, hv⟩ := CA.has i y h1
          obtain ⟨u, ru, hu⟩ := hv v (by rw [List.getElem?_map, h2]; rfl)
          exact ⟨c, u, hc, ru, hu⟩
        · have hm : c ∈ cs := by
            rw [hcs]
            exact List.mem_map.mpr ⟨y, hy, by rw [e]; rfl⟩
          rw [hH3, lendH_in hm, ho]; rfl
    have A4 : AbsM (wd X) (M1.upd f (.clo k caps cs)) H3 := ⟨fun a m qa => by
      by_cases ea : a = f
      · subst ea
        rw [Mp.upd_same] at qa
        cases qa
        exact hclo
      · rw [Mp.upd_ne ea] at qa
        exact (A3.ob a m qa).ext x4 rfl, A3.tb⟩
    have x34 : Ext (wd X) M1 H1 (M1.upd f (.clo k caps cs)) H3 := (x2.toExt.trans x3.toExt).trans x4.toExt
    have hlc : cs.length = caps.length := by
      have e1 := congrArg List.length hat
      have e2 := CA.len
      have e3 := rcv.length
      rw [List.length_map, List.length_map] at e1
      rw [List.length_map] at e2
      omega
    have hdj : ∀ a k' caps' cs', M1 a = some (.clo k' caps' cs') → ∀ c ∈ cs', c ∉ cs := by
      intro a k' caps' cs' hMa c hc hcs'
      obtain ⟨T, qn, cl', c2, vs', _, hcr, _⟩ := A2.ob a _ hMa
      obtain ⟨o2, v2, g1, g2⟩ := hcr.kn c hc
      rw [hn c hcs'] at g1; cases g1
    have q' := q f cs hMf hlc hdj
    have rall : Reps (wd X) (M1.upd f (.clo k caps cs)) H3 (ds ++ [.ref f]) (ws ++ [V.ref f]) := (rs.ext x34).append ⟨_, [], rfl, rfl, rfl⟩
    have hlen : us.length = ps.length := by rw [← rv.length, ← rall.length]; exact G.len _ _ _ _ q'
    have hbd : BindsTo s2 fd ⟨us, []⟩ (ps.zip us) := by simpa using hb s2 us I2.kIn (by simpa using hlen)
    have e0' : Env0 X.prog X.w X.K X.mg X.base X.A X.stack s2 H3 := by rw [hH3]; exact Env0.lend I2.env0 hn hbase hfs
    have knH : ∀ {H' : Hp}, (∀ b ob u, H3 b = some (.frz ob u) → H' b = some (.frz ob u)) → KnC H' cs := fun {H'} hz c hc => by
      obtain ⟨ob, v, ho, hdc⟩ := hcell c hc
      exact ⟨ob, v, hz c ob _ (by rw [hH3, lendH_in hc, ho]; rfl), hdc⟩
    show wpAny _ _ (PySem.call (.ref g) us) _ _ _
    refine wpAny_call (codeAny_mono (G.run X.A X.stack s2 H3 ⟨us, []⟩ us _ _ _ _ _ hr gd e0' hbd rv A4 rall q') fun res s' z => ?_)
    match res, z with
    | .ok (.ret u), z =>
      obtain ⟨v, H', os, bare, un, ok', rv', d, M', xt, rd, A', hq⟩ := z
      have kH := knH un.frzs
      rw [hH3] at un
      have xu : Ext (wd X) M' H' (M'.dropC f cs) (unlH cs H') := Ext.unl kH Mp.dropC_sub
      refine (I2.after (Q := lft (wd X) M H Q) ⟨v, unlH cs H', os, bare, Un.unl un ok' hn (fun c hc => let ⟨ob, _, ho, _⟩ := hcell c hc; ⟨ob, ho⟩) hfs, HOk.unl ok' kH, rv', d, M'.dropC f cs, ((x1.trans x34).trans xt).trans xu, rd.ext xu, A'.unl kH, hq⟩)
    | .ok .next, z => exact z.elim
    | .ok .brk, z => exact z.elim
    | .ok .cont, z => exact z.elim
    | .error e, z =>
      obtain ⟨a, B, H', cls, d, e1, e2, e3, ub, e5, e6, e7, ⟨xx, M', xt, A', rx, ex⟩⟩ := z
      have kH := knH ub.frzs
      rw [hH3] at ub
      have xu : Ext (wd X) M' H' (M'.dropC f cs) (unlH cs H') := Ext.unl kH Mp.dropC_sub
      refine tk e s' (XE.of_call I2 (E := fun cls d H' => ∃ x M', Ext (wd X) M1 H2 M' H' ∧ AbsM (wd X) M' H' ∧ RepX (wd X) M' H' x cls d ∧ E x ρ M') (fun cls d H' ⟨x, M', xt, A', rx, ex⟩ => ⟨x, ρ, M', S2.ext xt, A', rx, ex⟩)
        ⟨a, B, unlH cs H', cls, d, e1, e2, HOk.unl e3 kH, UB.unl ub e3 hn hfs, ?_, e6, e7, xx, M'.dropC f cs, ((x3.toExt.trans x4.toExt).trans xt).trans xu, A'.unl kH, rx.unl kH Mp.dropC_sub, ex⟩)
      unfold unlH
      split
      · rfl
      · exact e5
  · exact q.elim
end
end Ow
namespace Ow
open PySem PySem.Spec PyProof.Rows L2
variable [Tb]
/-! ### calls with all arguments by name -/
def perm {α : Type} (pm : List Nat) (l : List α) : List α := pm.filterMap fun i => l[i]?
theorem vals_at : ∀ {vs : List V} {us : List Value}, Vals vs us → ∀ i : Nat, (vs[i]? = none ∧ us[i]? = none) ∨ ∃ v u, vs[i]? = some v ∧ us[i]? = some u ∧ RelV v u
  | _, _, .nil, i => .inl ⟨by simp, by simp⟩
  | _, _, .cons h r, 0 => .inr ⟨_, _, rfl, rfl, h⟩
  | _, _, .cons h r, i + 1 => by simpa using vals_at r i
theorem perm_vals {vs : List V} {us : List Value} (h : Vals vs us) : ∀ pm : List Nat, Vals (perm pm vs) (perm pm us)
  | [] => .nil
  | i :: pm => by
    have ih := perm_vals h pm
    unfold perm at ih ⊢
    rcases vals_at h i with ⟨e1, e2⟩ | ⟨v, u, e1, e2, r⟩
    · rw [List.filterMap_cons, List.filterMap_cons, e1, e2]; exact ih
    · rw [List.filterMap_cons, List.filterMap_cons, e1, e2]; exact .cons r ih
theorem perm_reps {W : Wd} {M : Mp} {H : Hp} {ds : List D} {vs : List V} (h : Reps W M H ds vs) : ∀ pm : List Nat, Reps W M H (perm pm ds) (perm pm vs)
  | [] => rfl
  | i :: pm => by
    have ih := perm_reps h pm
    have hl := h.length
    unfold perm at ih ⊢
    cases e : ds[i]? with
    | none =>
      have e2 : vs[i]? = none := by
        rw [List.getElem?_eq_none_iff] at e ⊢
        omega
      rw [List.filterMap_cons, List.filterMap_cons, e, e2]; exact ih
    | some d =>
      obtain ⟨v, e2, r⟩ := Reps.get h e
      rw [List.filterMap_cons, List.filterMap_cons, e, e2]
      exact ⟨v, _, rfl, r, ih⟩
/-- n values by place, the others by name: how they stand as the parameters -/
structure KB (K : PySem.W.Frag) (fd : FuncData) (ps : List Str) (n : Nat) (ks : List Str) (pm : List Nat) : Prop where
  to : ∀ (s : Shared) (us ws : List Value), K.In s.heap → us.length = n → ws.length = ks.length → BindsTo s fd ⟨us, ks.zip ws⟩ (ps.zip (perm pm (us ++ ws)))
/-- what is called by names: the class of a method (or nothing), its name, the arguments' names as they are written, where the parameters' values stand among them, the promise (of the parameters' values) -/
structure KI where
  cls : Str
  name : Str
  ks : List Str
  pm : List Nat
  sp : DSp
def up1 (pm : List Nat) : List Nat := 0 :: pm.map (· + 1)
theorem perm_up1 {α : Type} {x : α} {l : List α} {pm : List Nat} : perm (up1 pm) (x :: l) = x :: perm pm l := by
  unfold perm up1
  rw [List.filterMap_cons]
  show x :: _ = _
  congr 1
  rw [List.filterMap_map]
  rfl
/-- a call by names: of a def, of a class -/
def KOk (X : Cx) (ki : KI) : Prop := ∃ f : Addr, X.mg ki.name = some (.ref f) ∧ PySem.W.keepIn X.K (.ref f) = true ∧
  ((∃ (fd : FuncData) (ps : List Str) (k : Nat), FnG X.prog X.w X.K X.mg X.base k f fd ps ki.sp ∧ Room k X.A ∧ KB X.K fd ps 0 ki.ks ki.pm) ∨
   (∃ (fI : Addr) (fd : FuncData) (ps : List Str) (k : Nat) (spI : DSp), Mk X.K f fI ∧ FnG X.prog X.w X.K X.mg X.base k fI fd ps spI ∧ Room (k + 1) X.A ∧ KB X.K fd ps 1 ki.ks (up1 ki.pm) ∧ ∀ ds M Q E, ki.sp ds M Q E → mkSp ki.name spI ds M Q E))
/-- of a method -/
def KMOk (X : Cx) (ki : KI) : Prop := ∃ (C f : Addr) (fd : FuncData) (ps : List Str) (k : Nat), X.mg ki.cls = some (.ref C) ∧ EqC X.K C ∧ L2.Meth X.K C ki.name f ∧ FnG X.prog X.w X.K X.mg X.base k f fd ps ki.sp ∧ Room k X.A ∧ KB X.K fd ps 1 ki.ks (up1 ki.pm)
def kwNames (ks : List Str) (kws : List Keyword) : Bool := match ks, kws with
  | [], [] => true
  | k :: ks, ⟨some n, _, _⟩ :: kws => decide (n = k) && kwNames ks kws
  | _, _ => false
theorem kwNames_ok {env : Env} {pos : Pos} : ∀ {ks : List Str} {kws : List Keyword}, kwNames ks kws = true → (backToKw pos (keywordEach kws env)).all (·.1.isSome) = true ∧ (backToKw pos (keywordEach kws env)).filterMap (·.1) = ks ∧ kws.length = ks.length ∧ (backToKw pos (keywordEach kws env)).any (·.1.isNone) = false
  | [], [], _ => ⟨rfl, rfl, rfl, rfl⟩
  | k :: ks, ⟨some n, v, p⟩ :: kws, h => by
    unfold kwNames at h
    rw [Bool.and_eq_true, decide_eq_true_eq] at h
    obtain ⟨rfl, h⟩ := h
    obtain ⟨h1, h2, h3, h4⟩ := kwNames_ok (env := env) (pos := pos) h
    refine ⟨?_, ?_, ?_, ?_⟩
    · exact h1
    · exact congrArg (n :: ·) h2
    · rw [List.length_cons, List.length_cons, h3]
    · exact h4
  | [], _ :: _, h => by unfold kwNames at h; cases h
  | _ :: _, [], h => by unfold kwNames at h; cases h
  | _ :: _, ⟨none, _, _⟩ :: _, h => by unfold kwNames at h; cases h
section
variable [Og] {X : Cx} {E : EX} {p pos apos : Pos} {ki : KI}
/-- the names' values, one after another -/
def cK (X : Cx) (kws : List Keyword) : TA := fun σ H Q => ∀ (pos : Pos) (pins : List (Addr × Obj)) (s : Shared), Inv X pins σ H s → wpAny (model X.prog X.w) X.A (evalAll ((backToKw pos (keywordEach kws X.env)).map (·.2))) (AP X pins σ Q) X.xe s
theorem pk_cK {kws : List Keyword} : PK X kws (cK X kws) := ⟨fun pos pins s σ H Q I h => h pos pins s I⟩
theorem cK_up : ∀ {kws : List Keyword} {ts : List DTE}, DEs X (kws.map Keyword.value) ts → ∀ {σ : L2.St} {H : Hp} {ρ : DSt} {M : Mp} {P : QA} {R : List V → Hp → Prop}, AbsS (wd X) M H ρ σ → AbsM (wd X) M H → seqT ts ρ M P →
    (∀ ds M1 H1 ws, ds.length = kws.length → Ext (wd X) M H M1 H1 → Reps (wd X) M1 H1 ds ws → AbsM (wd X) M1 H1 → P ds M1 → R ws H1) → cK X kws σ H R
  | [], ts, hd, σ, H, ρ, M, P, R, S, A, z, k => by
    cases ts with
    | cons t ts => exact hd.elim
    | nil => exact fun pos pins s I => pk_nil.run pos pins s σ H R I (k [] M H [] rfl Ext.refl rfl A z)
  | ⟨nm, e, kp⟩ :: kws, ts, hd, σ, H, ρ, M, P, R, S, A, z, k => by
    cases ts with
    | nil => exact hd.elim
    | cons t ts =>
      obtain ⟨h1, h2⟩ := hd
      have hh : cT X e σ H fun x H1 => cK X kws σ H1 fun xs H2 => R (x :: xs) H2 := by
        refine h1.bind S A z fun v d M1 H1 x r A1 S1 q => ?_
        exact cK_up h2 S1 A1 q fun ds M2 H2 ws hl x2 rs A2 q2 => k (d :: ds) M2 H2 (v :: ws) (by rw [List.length_cons, List.length_cons, hl]) (x.trans x2) ⟨v, ws, rfl, r.ext x2, rs⟩ A2 q2
      exact fun pos pins s I => (pk_cons (nm := nm) (kpos := kp) (pe_cT (e := e)) pk_cK).run pos pins s σ H R I hh
theorem run_GK {f : Addr} {fd : FuncData} {ps ks : List Str} {pm : List Nat} {n k : Nat} {sp : DSp} {pins : List (Addr × Obj)} {σ : L2.St} {H : Hp} {s : Shared} {ρ : DSt} {M : Mp} {ds : List D} {vs : List V} {us ws : List Value} {Q : QE} (tk : Takes X (upW (wd X) E))
    (F : FnG X.prog X.w X.K X.mg X.base k f fd ps sp) (hr : Room k X.A) (hg : X.A.guards = some []) (hb : KB X.K fd ps n ks pm) (I : Inv X pins σ H s) (S : AbsS (wd X) M H ρ σ) (A : AbsM (wd X) M H) (rv : Vals vs (us ++ ws)) (r : Reps (wd X) M H ds vs) (l1 : us.length = n) (l2 : ws.length = ks.length)
    (q : sp (perm pm ds) M Q (fun x M' => E x ρ M')) : wpAny (model X.prog X.w) X.A (call (.ref f) us (ks.zip ws)) (EP X pins σ (lft (wd X) M H Q)) X.xe s := by
  refine wpAny_call (codeAny_mono (F.run X.A X.stack s H ⟨us, ks.zip ws⟩ (perm pm (us ++ ws)) (perm pm vs) (perm pm ds) M Q _ hr hg I.env0 (hb.to s us ws I.kIn l1 l2) (perm_vals rv pm) A (perm_reps r pm) q) fun res s' z => ?_)
  match res, z with
  | .ok (.ret u), z => exact I.after z
  | .ok .next, z => exact z.elim
  | .ok .brk, z => exact z.elim
  | .ok .cont, z => exact z.elim
  | .error e, z =>
    obtain ⟨a, B, H', cls, d, e1, e2, e3, ub, e5, e6, e7, ⟨x, M', xt, A', rx, ex⟩⟩ := z
    exact tk e s' (XE.of_call I (E := fun cls d H' => ∃ x M', Ext (wd X) M H M' H' ∧ AbsM (wd X) M' H' ∧ RepX (wd X) M' H' x cls d ∧ E x ρ M') (fun cls d H' ⟨x, M', xt, A', rx, ex⟩ => ⟨x, ρ, M', S.ext xt, A', rx, ex⟩)
      ⟨a, B, H', cls, d, e1, e2, e3, ub, e5, e6, e7, x, M', xt, A', rx, ex⟩)
theorem run_makeK' {pins : List (Addr × Obj)} {σ : L2.St} {H : Hp} {s : Shared} {ρ : DSt} {M : Mp} {ds : List D} {vs : List V} {ws : List Value} {Q : QE} {C fI : Addr} {c : Str} {fd : FuncData} {ps ks : List Str} {pm : List Nat} {k : Nat} {spI : DSp} (hm : X.mg c = some (.ref C)) (Mk0 : Mk X.K C fI) (F : FnG X.prog X.w X.K X.mg X.base k fI fd ps spI) (hr : Room (k + 1) X.A) (hb : KB X.K fd ps 1 ks (up1 pm)) (tk : Takes X (upW (wd X) E)) (gd : X.A.guards = some []) (I : Inv X pins σ H s) (S : AbsS (wd X) M H ρ σ) (A : AbsM (wd X) M H) (rv : Vals vs ws) (r : Reps (wd X) M H ds vs) (l2 : ws.length = ks.length) (q : mkSp c spI (perm pm ds) M Q (fun x M' => E x ρ M')) :
    wpAny (model X.prog X.w) X.A (call (.ref C) [] (ks.zip ws)) (EP X pins σ (lft (wd X) M H Q)) X.xe s := by
  have e1 : H s.heap.objs.size = none := I.hok.fresh (Nat.le_refl _)
  have e2 : H (s.heap.objs.size + 1) = none := I.hok.fresh (Nat.le_succ _)
  have I2 := Inv.made (C := C) I
  have ne : s.heap.objs.size ≠ s.heap.objs.size + 1 := Nat.ne_of_lt (Nat.lt_succ_self _)
  have A1 : AbsM (wd X) M (upd H s.heap.objs.size (.own (s.heap.objs.size + 1))) := A.fresh e1
  have x1 : Ext (wd X) M H M (upd H s.heap.objs.size (.own (s.heap.objs.size + 1))) := Ext.fresh e1
  have e3 : upd H s.heap.objs.size (.own (s.heap.objs.size + 1)) (s.heap.objs.size + 1) = none := by rw [upd_ne ne.symm]; exact e2
  have hMx : M (s.heap.objs.size + 1) = none := A.free e2
  have x2 : Ext (wd X) M (upd H s.heap.objs.size (.own (s.heap.objs.size + 1))) (M.upd (s.heap.objs.size + 1) (.ins c [])) (upd (upd H s.heap.objs.size (.own (s.heap.objs.size + 1))) (s.heap.objs.size + 1) (.ins C s.heap.objs.size [])) := Ext.freshM A1 e3
  have A2 : AbsM (wd X) (M.upd (s.heap.objs.size + 1) (.ins c [])) (upd (upd H s.heap.objs.size (.own (s.heap.objs.size + 1))) (s.heap.objs.size + 1) (.ins C s.heap.objs.size [])) := AbsM.freshM A1 e3 ⟨C, s.heap.objs.size, [], [], hm, upd_same, rfl, rfl, rfl⟩
  have q' := q _ hMx
  rw [← perm_up1] at q'
  have S2 := (S.ext x1).ext x2
  have gd' : (X.A.under (.builtin "type.__call__" ⟨.ref C :: [], ks.zip ws⟩)).guards = some [] := by
    first | exact gd | (simpa [Around.under] using gd)
  have rv2 : Vals (V.ref (s.heap.objs.size + 1) :: vs) ([Value.ref (s.heap.objs.size + 1)] ++ ws) := .cons rfl rv
  have r2 : Reps (wd X) (M.upd (s.heap.objs.size + 1) (.ins c [])) (upd (upd H s.heap.objs.size (.own (s.heap.objs.size + 1))) (s.heap.objs.size + 1) (.ins C s.heap.objs.size [])) (.ref (s.heap.objs.size + 1) :: ds) (V.ref (s.heap.objs.size + 1) :: vs) := ⟨_, _, rfl, rfl, (r.ext x1).ext x2⟩
  refine wpAny_call (make_map (f := fI) I.kIn Mk0.makes Mk0.init (beq_iff_eq.mp Mk0.fn) (codeAny_mono (F.run _ X.stack _ _ ⟨Value.ref (s.heap.objs.size + 1) :: [], ks.zip ws⟩ (perm (up1 pm) ([Value.ref (s.heap.objs.size + 1)] ++ ws)) (perm (up1 pm) (V.ref (s.heap.objs.size + 1) :: vs)) (perm (up1 pm) (.ref (s.heap.objs.size + 1) :: ds)) (M.upd (s.heap.objs.size + 1) (.ins c [])) _ _ (hr.make C [] (ks.zip ws)) gd' (I2.env0.make C [] (ks.zip ws)) (hb.to _ [Value.ref (s.heap.objs.size + 1)] ws I2.kIn rfl l2) (perm_vals rv2 _) A2 (perm_reps r2 _) q') fun res s' z => ?_))
  match res, z with
  | .ok (.ret u), z =>
    obtain ⟨v, H', I3, rv', d, M', xt, rd, A', hd, hq⟩ := I2.after z
    subst hd
    cases rd
    refine ⟨rv', V.ref (s.heap.objs.size + 1), H', I3, rfl, .ref (s.heap.objs.size + 1), M', (x1.trans x2).trans xt, rfl, A', hq⟩
  | .ok .next, z => exact z.elim
  | .ok .brk, z => exact z.elim
  | .ok .cont, z => exact z.elim
  | .error e, z =>
    obtain ⟨a, B, H', cls, d, e1, e2, e3, ub, e5, e6, e7, ⟨x, M', xt, A', rx, ex⟩⟩ := z
    exact tk e s' (XE.of_call I2 (E := fun cls d H' => ∃ x M', Ext (wd X) _ _ M' H' ∧ AbsM (wd X) M' H' ∧ RepX (wd X) M' H' x cls d ∧ E x ρ M') (fun cls d H' ⟨x, M', xt, A', rx, ex⟩ => ⟨x, ρ, M', S2.ext xt, A', rx, ex⟩)
      ⟨a, B, H', cls, d, e1, e2, e3, ub, e5, e6, e7, x, M', xt, A', rx, ex⟩)
theorem DE.callK {x : Str} {kws : List Keyword} {ts : List DTE} (tk : Takes X (upW (wd X) E)) (F : KOk X ki) (hx : ki.name = x) (gd : X.A.guards = some []) (hg : Gl X x) (hd : (x == ("__debug__" : Str)) = false) (hn : kwNames ki.ks kws = true) (h : DEs X (kws.map Keyword.value) ts) :
    DE X (.Call (.Name x p) [] kws pos) (fun ρ M Q => seqT ts ρ M fun ds M1 => ki.sp (perm ki.pm ds) M1 Q (fun x M' => E x ρ M')) := by
  subst hx
  refine ⟨fun σ H ρ M Q S A z pins s I => ?_⟩
  obtain ⟨f, hm, kp, G⟩ := F
  obtain ⟨k1, k2, k3, k4⟩ := kwNames_ok (env := X.env) (pos := pos) hn
  refine wpAny_Call_Name_kw (ld_glob I hg hm ?_ hd)
  have all := cK_up h (R := fun ws H1 => ∃ ds M1, ds.length = kws.length ∧ Ext (wd X) M H M1 H1 ∧ Reps (wd X) M1 H1 ds ws ∧ AbsM (wd X) M1 H1 ∧ ki.sp (perm ki.pm ds) M1 Q (fun x M' => E x ρ M')) S A z fun ds M1 H1 ws hl x1 rs A1 q => ⟨ds, M1, hl, x1, rs, A1, q⟩
  refine PySem.W.callWith_KW0 (first := []) (h₀ := X.base) I.ok.mod.kin kp k1 (thn (all pos pins s I) fun ws s1 ⟨vs, H1, I1, rv, ds, M1, hdl, xt, r, A1, q⟩ => ⟨I1.kIn, ?_⟩) (by rw [k4]; rfl)
  rw [k2]
  have l2 : ws.length = ki.ks.length := by rw [← rv.length, ← r.length, hdl, k3]
  rcases G with ⟨fd, ps, k, F, hr, hb⟩ | ⟨fI, fd, ps, k, spI, m, F, hr, hb, im⟩
  · exact thn (run_GK (us := []) tk F hr gd hb I1 (S.ext xt) A1 rv r rfl l2 q) fun u s2 ⟨v, H2, I2, rv2, q2⟩ => ⟨v, H2, I2, rv2, q2.trans xt⟩
  · exact thn (run_makeK' hm m F hr hb tk gd I1 (S.ext xt) A1 rv r l2 (im _ _ _ _ q)) fun u s2 ⟨v, H2, I2, rv2, q2⟩ => ⟨v, H2, I2, rv2, q2.trans xt⟩
theorem few_kw {ks : List Str} {kws : List Keyword} {env : Env} (hn : kwNames ks kws = true) (hl : kws.length < 29) : methodCallForm (([] : List Expr).length + kws.length) (backTo pos (starEach [] env)) (backToKw pos (keywordEach kws env)) = true := by
  obtain ⟨k1, k2, k3, k4⟩ := kwNames_ok (env := env) (pos := pos) hn
  unfold methodCallForm
  rw [k1]
  show (true && true && decide _) = true
  rw [Bool.and_true, Bool.true_and, decide_eq_true_eq, List.length_nil]
  split <;> omega
theorem mcall_eqK {o : Expr} {m : Str} {kws : List Keyword} {env : Env} (hb : plainBase o = true) (hfew : methodCallForm (([] : List Expr).length + kws.length) (backTo pos (starEach [] env)) (backToKw pos (keywordEach kws env)) = true) (hline : (apos.endLine == pos.line) = true) :
    eval (.Call (.Attribute o m apos) [] kws pos) env = (do
      let ov ← eval o env
      standAt apos.atName
      let (f, first) ← holding [ov] (getMethod ov m (do return (← importBound o env).getD true))
      callWith pos f first (backTo pos (starEach [] env)) (backToKw pos (keywordEach kws env))) := by
  rw [arm_eval_Call, base_of hb]
  unfold methodCall calleeOf methodCallPos
  rw [hfew, hline]
  rfl
theorem DE.mclK {o : Expr} {to : DTE} {kws : List Keyword} {ts : List DTE} (tk : Takes X (upW (wd X) E)) (hM : KMOk X ki) (gd : X.A.guards = some []) (ho : DE X o to) (hb : plainBase o = true) (hl : (apos.endLine == pos.line) = true) (hn : kwNames ki.ks kws = true) (h29 : kws.length < 29) (h : DEs X (kws.map Keyword.value) ts) :
    DE X (.Call (.Attribute o ki.name apos) [] kws pos) (fun ρ M Q => to ρ M fun d M1 => isIns ki.cls ki.name d M1 ∧ seqT ts ρ M1 fun ds M2 => ki.sp (d :: perm ki.pm ds) M2 Q (fun x M' => E x ρ M')) := by
  obtain ⟨C, f, fd, ps, k, h1, hc, hm, F, hr, hkb⟩ := hM
  obtain ⟨k1, k2, k3, k4⟩ := kwNames_ok (env := X.env) (pos := pos) hn
  refine ⟨fun σ H ρ M Q S A z pins s I => ?_⟩
  refine PySem.W.methodCall_KW (thn (ho.to σ H ρ M _ S A z pins s I) fun u s1 ⟨v, H1, I1, rv, d, M1, xt, r, A1, hi, q⟩ => ?_) (mcall_eqK hb (few_kw hn h29) hl)
  obtain ⟨p, fs, rfl, hMp, hlk⟩ := hi
  cases r
  obtain rfl : u = Value.ref p := rv
  obtain ⟨C', dx, ns, vs, g1, g2, g3, g4, g5⟩ := A1.ob p _ hMp
  have eC : Value.ref C' = .ref C := Option.some.inj (g1.symm.trans h1)
  cases eC
  refine getmeth_ok I1 g2 hc.cl hm ((look_rep g3 g4 g5).1 hlk) ?_
  have all := cK_up h (R := fun ws H2 => ∃ ds M2, ds.length = kws.length ∧ Ext (wd X) M1 H1 M2 H2 ∧ Reps (wd X) M2 H2 ds ws ∧ AbsM (wd X) M2 H2 ∧ ki.sp (.ref p :: perm ki.pm ds) M2 Q (fun x M' => E x ρ M')) (S.ext xt) A1 q fun ds M2 H2 ws hl x1 rs A1 q => ⟨ds, M2, hl, x1, rs, A1, q⟩
  refine PySem.W.callWith_KW0 (first := [.ref p]) (h₀ := X.base) I.ok.mod.kin hm.kp k1 (thn (all pos pins s1 I1) fun ws s2 ⟨vs, H2, I2, rv2, ds, M2, hdl, xt2, r2, A2, q2⟩ => ⟨I2.kIn, ?_⟩) (by rw [k4]; rfl)
  rw [k2]
  have l2 : ws.length = ki.ks.length := by rw [← rv2.length, ← r2.length, hdl, k3]
  rw [← perm_up1] at q2
  exact thn (run_GK (us := [.ref p]) (ds := .ref p :: ds) (vs := .ref p :: vs) tk F hr gd hkb I2 ((S.ext xt).ext xt2) A2 (.cons rfl rv2) ⟨_, _, rfl, rfl, r2⟩ rfl l2 q2) fun u s3 ⟨v, H3, I3, rv3, q3⟩ => ⟨v, H3, I3, rv3, (q3.trans xt2).trans xt⟩
end
end Ow
namespace Ow
open PySem PySem.Spec PyProof.Rows L2
variable [Tb]
/-! ### the small syntax -/
inductive Mth where
  | append | extend
inductive CE where
  | var (i : Nat) | int (i : Int) | bl (b : Bool) | non | str (s : Str) | glb (i : Nat)
  | bin (op : Operator) (fz : Bool) (a b : CE)
  | neg (a : CE) | not (a : CE) | one (a : CE) | and (a b : CE) | or (a b : CE)
  | cmp (op : CmpOp) (a b : CE) | chn (op op' : CmpOp) (a b c : CE)
  | ife (c a b : CE)
  | tup (es : List CE) | lst (fz : Bool) (es : List CE)
  | ix (a i : CE) | sl (fz : Bool) (a lo hi : CE) | slL (fz : Bool) (a lo : CE) | slH (fz : Bool) (a hi : CE)
  | call (f : Nat) (es : List CE)
  | blt (b : Blt) (fz : Bool) (es : List CE)
  | mth (m : Mth) (o e : CE) | bitlen (o : CE) | bad | isi (t : Ty) (o : CE) | rev (fz : Bool) (a : CE)
  | att (k : Nat) (o : CE) | mcl (k : Nat) (o : CE) (es : List CE) | lenM (k : Nat) (es : List CE) | eqM (k : Nat) (neg : Bool) (a b : CE) | isC (k : Nat) (o : CE)
  | isX1 (c : Str) (o : CE) | isXm (cs : List Str) (o : CE) | isXt (t : Ty) (o : CE) | isVE (o : CE) | xat (f : Str) (o : CE) | callV (i : Nat) (es : List CE) | callL (f : Nat) (es : List CE) (k : Nat) (js : List Nat)
  | callF (i : Nat) (es : List CE)
  | callK (f : Nat) (es : List CE) | mclK (f : Nat) (o : CE) (es : List CE)
  | op (k : Op) (es : List CE) | meth (m : Meth) (o : CE) (es : List CE) | disp (fz : Bool) (ks : List Key) (es : List CE)
  | comp (fz : Bool) (elt : CE) (tg : CT) (k : IK) (its : List CE) (own : List Nat)
  | compIf (fz : Bool) (elt cond : CE) (tg : CT) (k : IK) (its : List CE) (own : List Nat)
inductive CS where
  | set (i : Nat) (e : CE) | setLc (i : Nat) (e : CE) | asg (t : CT) (e : CE) | par (i j : Nat) (a b : CE) | par3 (i j l : Nat) (a b c : CE) | setix (o i e : CE) | aug (i : Nat) (op : Operator) (e : CE)
  | frz (i : Nat) | bad | sat (k : Nat) (o e : CE) | rse (k : Nat) (es : List CE) | tryX (b : List CS) (l : List (Str × Option Nat × SU))
  | expr (e : CE) | ret (e : CE) | retN | pass | brk | cont
  | ifs (c : CE) (a b : List CS) | whl (c : CE) (b : List CS) | for (t : CT) (k : IK) (its : List CE) (b : List CS)
/-! ### its meaning -/
structure GI where
  name : Str
  d : D
/-- of the text: exception classes that are raised; that may come; the classes that are asked for; kinds of lambdas; the defs that take them -/
structure MX where
  rs : List XI
  xs : List XI
  xts : List Str
  cls : List (List Str × (ClTxt → Bool))
  lf : List Str
  mks : Bool
  ve : Bool
  kw : List (Str × Str × List Str)
def mx0 : MX := ⟨[], [], [], [], [], false, false, []⟩
structure KX where
  rs : List XI
  xs : List XI
  xts : List Str
  cl : List CI
  lf : List FI
  kw : List KI
def kx0 : KX := ⟨[], [], [], [], [], []⟩
structure MC where
  N : List Str
  fns : List Str
  gns : List Str
  ats : List AI
  mts : List (Str × Str)
  ex : MX
structure Ctx where
  fs : List FI
  gs : List GI
  as : List AI
  ms : List MI
  ex : KX
@[simp] def mthD (m : Mth) (o x : D) (M : Mp) (Q : QE) : Prop := match m, o with
  | .append, .ref a => (match M a with
    | some (.lst l) => l.length < sizeLine ∧ Q .non (M.upd a (.lst (l ++ [x])))
    | _ => False)
  | .extend, .ref a => (match M a, listIn M x with
    | some (.lst l), some r => l.length + r.length ≤ sizeLine ∧ Q .non (M.upd a (.lst (l ++ r)))
    | _, _ => False)
  | _, _ => False
@[simp] def partD (d : D) (M : Mp) (Q : Option Int → Mp → Prop) : Prop := match d with
  | .int i => Q (some i) M
  | _ => False
mutual
@[simp] def wpE (C : Ctx) : CE → EX → DSt → Mp → QE → Prop
  | .var i, _, ρ, M, Q => match ρ[i]? with
    | some (some d) => Q d M
    | _ => False
  | .int i, _, _, M, Q => Q (.int i) M
  | .bl b, _, _, M, Q => Q (.bl b) M
  | .non, _, _, M, Q => Q .non M
  | .str s, _, _, M, Q => Q (.str s) M
  | .glb i, _, _, M, Q => match C.gs[i]? with
    | some g => Q g.d M
    | none => False
  | .bin op fz a b, E, ρ, M, Q => wpE C a E ρ M fun d1 M1 => wpE C b E ρ M1 fun d2 M2 => binD op fz d1 d2 M2 Q
  | .neg a, E, ρ, M, Q => wpE C a E ρ M fun d M1 => match d with
    | .int i => Q (.int (-i)) M1
    | _ => False
  | .not a, E, ρ, M, Q => wpE C a E ρ M fun d M1 => truD d M1 fun k => Q (.bl (!k)) M1
  | .one a, E, ρ, M, Q => wpE C a E ρ M Q
  | .and a b, E, ρ, M, Q => wpE C a E ρ M fun d M1 => truD d M1 fun k => if k = true then wpE C b E ρ M1 Q else Q d M1
  | .or a b, E, ρ, M, Q => wpE C a E ρ M fun d M1 => truD d M1 fun k => if k = true then Q d M1 else wpE C b E ρ M1 Q
  | .cmp op a b, E, ρ, M, Q => wpE C a E ρ M fun d1 M1 => wpE C b E ρ M1 fun d2 M2 => cmpD op d1 d2 M2 Q
  | .chn op op' a b c, E, ρ, M, Q => wpE C a E ρ M fun d1 M1 => wpE C b E ρ M1 fun d2 M2 => cmpD op d1 d2 M2 (chnD (wpE C c E ρ) (cmpD op') d2 Q)
  | .ife c a b, E, ρ, M, Q => wpC C c E ρ M fun k M1 => if k = true then wpE C a E ρ M1 Q else wpE C b E ρ M1 Q
  | .tup es, E, ρ, M, Q => wpEs C es E ρ M fun ds M1 => ds.length ≤ sizeLine ∧ Q (.tup ds) M1
  | .lst fz es, E, ρ, M, Q => wpEs C es E ρ M fun ds M1 => ds.length ≤ sizeLine ∧ (if fz = true then Q (.lst ds) M1 else ∀ p, M1 p = none → Q (.ref p) (M1.upd p (.lst ds)))
  | .ix a b, E, ρ, M, Q => wpE C a E ρ M fun d1 M1 => wpE C b E ρ M1 fun d2 M2 => ixD d1 d2 M2 Q
  | .sl fz a lo hi, E, ρ, M, Q => wpE C a E ρ M fun d M1 => wpE C lo E ρ M1 fun d2 M2 => partD d2 M2 fun l M2 => wpE C hi E ρ M2 fun d3 M3 => partD d3 M3 fun h M3 => slD fz d l h M3 Q
  | .slL fz a lo, E, ρ, M, Q => wpE C a E ρ M fun d M1 => wpE C lo E ρ M1 fun d2 M2 => partD d2 M2 fun l M2 => slD fz d l none M2 Q
  | .slH fz a hi, E, ρ, M, Q => wpE C a E ρ M fun d M1 => wpE C hi E ρ M1 fun d2 M2 => partD d2 M2 fun h M2 => slD fz d none h M2 Q
  | .call f es, E, ρ, M, Q => wpEs C es E ρ M fun ds M1 => match C.fs[f]? with
    | some fi => fi.sp ds M1 Q fun x M2 => E x ρ M2
    | none => False
  | .blt b fz es, E, ρ, M, Q => wpEs C es E ρ M fun ds M1 => bltD b fz ds M1 Q
  | .mth m o e, E, ρ, M, Q => wpE C o E ρ M fun d M1 => (listIn M1 d).isSome = true ∧ wpE C e E ρ M1 fun d2 M2 => mthD m d d2 M2 Q
  | .bitlen o, E, ρ, M, Q => wpE C o E ρ M fun d M1 => match d with
    | .int i => Q (.int (Builtin.Int.intBits i : Nat)) M1
    | _ => False
  | .bad, _, _, _, _ => False
  | .isi t o, E, ρ, M, Q => wpE C o E ρ M fun d M1 => isiD t d M1 Q
  | .rev fz a, E, ρ, M, Q => wpE C a E ρ M fun d M1 => revD fz d M1 Q
  | .op k es, E, ρ, M, Q => wpEs C es E ρ M fun ds M1 => opD k ds M1 Q
  | .meth m o es, E, ρ, M, Q => wpE C o E ρ M fun d M1 => rcvD m d M1 ∧ wpEs C es E ρ M1 fun ds M2 => methD m d ds M2 Q
  | .att k o, E, ρ, M, Q => wpE C o E ρ M fun d M1 => match C.as[k]? with
    | some a => attD a d M1 Q
    | none => False
  | .mcl k o es, E, ρ, M, Q => match C.ms[k]? with
    | some mi => wpE C o E ρ M fun d M1 => isIns mi.cls mi.name d M1 ∧ wpEs C es E ρ M1 fun ds M2 => mi.sp (d :: ds) M2 Q fun x M3 => E x ρ M3
    | none => False
  | .callK f es, E, ρ, M, Q => match C.ex.kw[f]? with
    | some ki => wpEs C es E ρ M fun ds M1 => ki.sp (perm ki.pm ds) M1 Q fun x M2 => E x ρ M2
    | none => False
  | .mclK f o es, E, ρ, M, Q => match C.ex.kw[f]? with
    | some ki => wpE C o E ρ M fun d M1 => isIns ki.cls ki.name d M1 ∧ wpEs C es E ρ M1 fun ds M2 => ki.sp (d :: perm ki.pm ds) M2 Q fun x M3 => E x ρ M3
    | none => False
  | .lenM k es, E, ρ, M, Q => wpEs C es E ρ M fun ds M1 => match C.ms[k]? with
    | some mi => ∃ d, ds = [d] ∧ lenO mi d M1 Q
    | none => False
  | .eqM k neg a b, E, ρ, M, Q => match C.ms[k]? with
    | some mi => wpE C a E ρ M fun d1 M1 => wpE C b E ρ M1 fun d2 M2 => eqO mi neg d1 d2 M2 Q
    | none => False
  | .isC k o, E, ρ, M, Q => match C.ms[k]? with
    | some mi => wpE C o E ρ M fun d M1 => isCD mi.cls d M1 Q
    | none => False
  | .isX1 k o, E, ρ, M, Q => wpE C o E ρ M fun d M1 => isXD C.ex.xs [k] d M1 Q
  | .isXm ks o, E, ρ, M, Q => wpE C o E ρ M fun d M1 => isXD C.ex.xs ks d M1 Q
  | .isXt t o, E, ρ, M, Q => wpE C o E ρ M fun d M1 => isXT C.ex.xs t d M1 Q
  | .isVE o, E, ρ, M, Q => wpE C o E ρ M fun d M1 => isVE C.ex.xs d M1 Q
  | .xat f o, E, ρ, M, Q => wpE C o E ρ M fun d M1 => xatD C.ex.xs f d M1 Q
  | .callF i es, E, ρ, M, Q => match ρ[i]? with
    | some (some (.ref f)) => ∃ fi ∈ C.fs, (∃ g ∈ C.gs, g.name = fi.name ∧ g.d = .ref f) ∧ wpEs C es E ρ M fun ds M1 => fi.sp ds M1 Q (fun x M' => E x ρ M')
    | _ => False
  | .callV i es, E, ρ, M, Q => match ρ[i]? with
    | some (some (.ref f)) => fnD M f ∧ wpEs C es E ρ M fun ds M1 => callVD C.ex.cl E ρ f ds M1 Q
    | _ => False
  | .callL f es k js, E, ρ, M, Q => wpEs C es E ρ M fun ds M1 => match C.ex.lf[f]?, C.ex.cl[k]?, capsD ρ js with
    | some fi, some ci, some caps => ∀ a cs, M1 a = none → cs.length = caps.length → (∀ b k' caps' cs', M1 b = some (.clo k' caps' cs') → ∀ c ∈ cs', c ∉ cs) → fi.sp (ds ++ [.ref a]) (M1.upd a (.clo ci.id caps cs)) (fun d M2 => Q d (M2.dropC a cs)) (fun x M2 => E x ρ (M2.dropC a cs))
    | _, _, _ => False
  | .disp fz ks es, E, ρ, M, Q => ∀ p, M p = none → wpEs C es E ρ (M.upd p (.dic [])) fun ds M2 => M2 p = some (.dic []) ∧ ds.length = ks.length ∧ if fz = true then Q (.dct ks ds) (M2.del p) else Q (.ref p) (M2.upd p (.dic (ks.zip ds)))
  | .comp fz elt tg k its own, E, ρ, M, Q => wpEs C its E ρ M fun ds M1 => itD k ds M1 fun l ok M2 => ∀ p, M2 p = none →
      cmpL fz ok (turnC tg own yesD (wpE C elt noX) ρ) p Q l (M2.upd p (.lst []))
  | .compIf fz elt cond tg k its own, E, ρ, M, Q => wpEs C its E ρ M fun ds M1 => itD k ds M1 fun l ok M2 => ∀ p, M2 p = none →
      cmpL fz ok (turnC tg own (wpC C cond noX) (wpE C elt noX) ρ) p Q l (M2.upd p (.lst []))
@[simp] def wpC (C : Ctx) : CE → EX → DSt → Mp → (Bool → Mp → Prop) → Prop
  | .not a, E, ρ, M, Q => wpC C a E ρ M fun k M1 => Q (!k) M1
  | .one a, E, ρ, M, Q => wpC C a E ρ M Q
  | .and a b, E, ρ, M, Q => wpC C a E ρ M fun k M1 => if k = true then wpC C b E ρ M1 Q else Q false M1
  | .or a b, E, ρ, M, Q => wpC C a E ρ M fun k M1 => if k = true then Q true M1 else wpC C b E ρ M1 Q
  | .ife _ _ _, _, _, _, _ => False
  | .cmp op a b, E, ρ, M, Q => wpE C a E ρ M fun d1 M1 => wpE C b E ρ M1 fun d2 M2 => cmpD op d1 d2 M2 fun d M3 => truD d M3 fun k => Q k M3
  | .chn op op' a b c, E, ρ, M, Q => wpE C a E ρ M fun d1 M1 => wpE C b E ρ M1 fun d2 M2 => cmpD op d1 d2 M2 (chnD (wpE C c E ρ) (cmpD op') d2 fun d M3 => truD d M3 fun k => Q k M3)
  | .var i, E, ρ, M, Q => match ρ[i]? with
    | some (some d) => truD d M fun k => Q k M
    | _ => False
  | .call f es, E, ρ, M, Q => wpEs C es E ρ M fun ds M1 => match C.fs[f]? with
    | some fi => fi.sp ds M1 (fun d M3 => truD d M3 fun k => Q k M3) fun x M2 => E x ρ M2
    | none => False
  | .blt b fz es, E, ρ, M, Q => wpEs C es E ρ M fun ds M1 => bltD b fz ds M1 fun d M3 => truD d M3 fun k => Q k M3
  | .bl b, _, _, M, Q => Q b M
  | .isX1 k o, E, ρ, M, Q => wpE C o E ρ M fun d M1 => isXD C.ex.xs [k] d M1 fun d M3 => truD d M3 fun k => Q k M3
  | .isXm ks o, E, ρ, M, Q => wpE C o E ρ M fun d M1 => isXD C.ex.xs ks d M1 fun d M3 => truD d M3 fun k => Q k M3
  | .isXt t o, E, ρ, M, Q => wpE C o E ρ M fun d M1 => isXT C.ex.xs t d M1 fun d M3 => truD d M3 fun k => Q k M3
  | .isVE o, E, ρ, M, Q => wpE C o E ρ M fun d M1 => isVE C.ex.xs d M1 fun d M3 => truD d M3 fun k => Q k M3
  | .isi t o, E, ρ, M, Q => wpE C o E ρ M fun d M1 => isiD t d M1 fun d M3 => truD d M3 fun k => Q k M3
  | .op k es, E, ρ, M, Q => wpEs C es E ρ M fun ds M1 => opD k ds M1 fun d M3 => truD d M3 fun k => Q k M3
  | .meth m o es, E, ρ, M, Q => wpE C o E ρ M fun d M1 => rcvD m d M1 ∧ wpEs C es E ρ M1 fun ds M2 => methD m d ds M2 fun d M3 => truD d M3 fun k => Q k M3
  | .att k o, E, ρ, M, Q => wpE C o E ρ M fun d M1 => match C.as[k]? with
    | some a => attD a d M1 fun d M3 => truD d M3 fun k => Q k M3
    | none => False
  | .mcl k o es, E, ρ, M, Q => match C.ms[k]? with
    | some mi => wpE C o E ρ M fun d M1 => isIns mi.cls mi.name d M1 ∧ wpEs C es E ρ M1 fun ds M2 => mi.sp (d :: ds) M2 (fun d M3 => truD d M3 fun k => Q k M3) fun x M3 => E x ρ M3
    | none => False
  | .eqM k neg a b, E, ρ, M, Q => match C.ms[k]? with
    | some mi => wpE C a E ρ M fun d1 M1 => wpE C b E ρ M1 fun d2 M2 => eqO mi neg d1 d2 M2 fun d M3 => truD d M3 fun k => Q k M3
    | none => False
  | .ix a b, E, ρ, M, Q => wpE C a E ρ M fun d1 M1 => wpE C b E ρ M1 fun d2 M2 => ixD d1 d2 M2 fun d M3 => truD d M3 fun k => Q k M3
  | _, _, _, _, _ => False
@[simp] def wpEs (C : Ctx) : List CE → EX → DSt → Mp → QA → Prop
  | [], _, _, M, Q => Q [] M
  | e :: es, E, ρ, M, Q => wpE C e E ρ M fun d M1 => wpEs C es E ρ M1 fun ds M2 => Q (d :: ds) M2
end
mutual
@[simp] def wpS (C : Ctx) : EX → CS → DEnds → DSt → Mp → Prop
  | E, .set i e, B, ρ, M => wpE C e E ρ M fun d M1 => B.nx (ρ.set i (some d)) M1
  | E, .setLc i e, B, ρ, M => wpE C e E ρ M fun d M1 => B.nx (ρ.set i (some d)) M1
  | E, .asg t e, B, ρ, M => wpE C e E ρ M fun d M1 => bindT t d ρ fun ρ' => B.nx ρ' M1
  | E, .par i j a b, B, ρ, M => wpE C a E ρ M fun d1 M1 => wpE C b E ρ M1 fun d2 M2 => B.nx ((ρ.set i (some d1)).set j (some d2)) M2
  | E, .par3 i j l a b c, B, ρ, M => wpE C a E ρ M fun d1 M1 => wpE C b E ρ M1 fun d2 M2 => wpE C c E ρ M2 fun d3 M3 => B.nx (((ρ.set i (some d1)).set j (some d2)).set l (some d3)) M3
  | E, .setix o i e, B, ρ, M => wpE C e E ρ M fun d M1 => wpE C o E ρ M1 fun d2 M2 => wpE C i E ρ M2 fun d3 M3 => setD d2 d3 d M3 fun M4 => B.nx ρ M4
  | E, .aug i op e, B, ρ, M => match ρ[i]? with
    | some (some d) => wpE C e E ρ M fun d2 M1 => augD op d d2 M1 fun d3 M2 => B.nx (ρ.set i (some d3)) M2
    | _ => False
  | E, .expr e, B, ρ, M => wpE C e E ρ M fun _ M1 => B.nx ρ M1
  | E, .ret e, B, ρ, M => wpE C e E ρ M B.rt
  | E, .retN, B, _, M => B.rt .non M
  | E, .pass, B, ρ, M => B.nx ρ M
  | _, .bad, _, _, _ => False
  | E, .rse k es, _, ρ, M => match C.ex.rs[k]? with
    | some x => wpEs C es E ρ M fun ds M1 => ds.length = x.n ∧ E ⟨x.name, x.fs ds⟩ ρ M1
    | none => False
  | E, .tryX b l, B, ρ, M => wpB C (fun x ρ' M' => hdsD C.ex.xs E B x l ρ' M') b B ρ M
  | E, .sat k o e, B, ρ, M => match C.as[k]? with
    | some a => wpE C e E ρ M fun x M1 => wpE C o E ρ M1 fun d M2 => satD a d x M2 fun M3 => B.nx ρ M3
    | none => False
  | E, .frz i, B, ρ, M => match ρ[i]? with
    | some (some (.ref a)) => (match M a with
      | some (.lst l) => B.nx (ρ.set i (some (.lst l))) (M.del a)
      | _ => False)
    | _ => False
  | E, .brk, B, ρ, M => B.bk ρ M
  | E, .cont, B, ρ, M => B.ct ρ M
  | E, .ifs c a b, B, ρ, M => wpC C c E ρ M fun k M1 => if k = true then wpB C E a B ρ M1 else wpB C E b B ρ M1
  | E, .whl c b, B, ρ, M => ∃ n, whileD (wpC C c E) (wpB C E b) B n ρ M
  | E, .for t k its b, B, ρ, M => wpEs C its E ρ M fun ds M1 => itD k ds M1 fun l ok M2 => forD t ok (wpB C E b) B l ρ M2
def wpB (C : Ctx) : EX → List CS → DEnds → DSt → Mp → Prop
  | E, [], B, ρ, M => B.nx ρ M
  | E, s :: r, B, ρ, M => wpS C E s { B with nx := fun ρ' M' => wpB C E r B ρ' M' } ρ M
end
end Ow
namespace Ow
open PySem PySem.Spec PyProof.Rows L2
variable [Tb]
/-! ### the small syntax against the program's -/
def visB (sc : Scope) (x : Str) : Bool := match sc.names.lookup x with | some .local => true | some .cell => true | some .free => true | _ => false
def locB (sc : Scope) (x : Str) : Bool := match sc.names.lookup x with | some .local => true | some .cell => true | _ => false
def plainB (sc : Scope) (x : Str) : Bool := match sc.names.lookup x with | some .local => true | _ => false
def okName (x : Str) : Bool := !(x == ("__debug__" : Str)) && !(x == ("__classdict__" : Str)) && !(x == ("__name__" : Str))
def notSet (e : Expr) : Bool := match e with | .Set .. => false | _ => true
def isTupE (e : Expr) : Bool := match e with | .Tuple .. => true | _ => false
def Mth.name : Mth → Str
  | .append => "append" | .extend => "extend"
mutual
def mtT (C : MC) (sc : Scope) : CT → Expr → Bool
  | .nm i, e => match e with
    | .Name x _ => decide (C.N[i]? = some x) && locB sc x
    | _ => false
  | .tup ts, e => match e with
    | .Tuple es _ _ => mtTs C sc ts es
    | _ => false
def mtTs (C : MC) (sc : Scope) : List CT → List Expr → Bool
  | [], es => match es with
    | [] => true
    | _ :: _ => false
  | t :: ts, es => match es with
    | [] => false
    | e :: es => notStar e && mtT C sc t e && mtTs C sc ts es
end
/-- the lambda is of the kind k; its names are captured from the slots js -/
def lamB (C : MC) (sc : Scope) (k : Nat) (js : List Nat) (params : Arguments) (body : Expr) (scope : Scope) : Bool := match C.ex.cls[k]? with
  | some (fr, m) => m ⟨"<lambda>", params, .expr body, scope⟩ && decide (js.map (fun j => C.N[j]?) = fr.map some) && fr.all (fun y => decide (sc.names.lookup y = some .cell)) && scope.names.all (fun y => !decide (y.2 = .free) || decide (y.1 ∈ fr)) &&
      fr.all (fun y => decide ((y, NameKind.free) ∈ scope.names)) && decide fr.Nodup && params.defaults.isEmpty && params.kw_defaults.isEmpty && C.ex.mks
  | none => false
mutual
def mtE (C : MC) : Scope → CE → Expr → Bool
  | sc, .var i, e => match e with
    | .Name x _ => decide (C.N[i]? = some x) && visB sc x && okName x
    | _ => false
  | sc, .int i, e => match e with
    | .Constant (.int j) _ _ => decide (i = j)
    | _ => false
  | sc, .bl i, e => match e with
    | .Constant (.bool j) _ _ => decide (i = j)
    | _ => false
  | sc, .non, e => match e with
    | .Constant .none _ _ => true
    | _ => false
  | sc, .str i, e => match e with
    | .Constant (.str j) _ _ => decide (i = j)
    | _ => false
  | sc, .glb i, e => match e with
    | .Name x _ => decide (C.gns[i]? = some x) && glB sc x && okName x
    | _ => false
  | sc, .bin op _ a b, e => match e with
    | .BinOp x op' y _ => decide (op = op') && mtE C sc a x && mtE C sc b y
    | _ => false
  | sc, .neg a, e => match e with
    | .UnaryOp .USub x _ => mtE C sc a x
    | _ => false
  | sc, .not a, e => match e with
    | .UnaryOp .Not x _ => mtE C sc a x
    | _ => false
  | sc, .one a, e => match e with
    | .BoolOp _ [x] _ => mtE C sc a x
    | _ => false
  | sc, .and a b, e => match e with
    | .BoolOp .And (x :: y :: r) p => mtE C sc a x && mtE C sc b (.BoolOp .And (y :: r) p)
    | _ => false
  | sc, .or a b, e => match e with
    | .BoolOp .Or (x :: y :: r) p => mtE C sc a x && mtE C sc b (.BoolOp .Or (y :: r) p)
    | _ => false
  | sc, .cmp op a b, e => match e with
    | .Compare x [op'] [y] _ => decide (op = op') && notSet y && mtE C sc a x && mtE C sc b y
    | _ => false
  | sc, .chn op op2 a b c, e => match e with
    | .Compare x [o1, o2] [y, z] _ => decide (op = o1) && decide (op2 = o2) && notSet z && mtE C sc a x && mtE C sc b y && mtE C sc c z
    | _ => false
  | sc, .ife c a b, e => match e with
    | .IfExp x y z _ => mtE C sc c x && mtE C sc a y && mtE C sc b z
    | _ => false
  | sc, .tup es, e => match e with
    | .Tuple xs _ _ => mtEs C sc es xs
    | _ => false
  | sc, .lst _ es, e => match e with
    | .List xs _ => mtEs C sc es xs
    | _ => false
  | sc, .ix a b, e => match e with
    | .Subscript x y _ => notSlice y && mtE C sc a x && mtE C sc b y
    | _ => false
  | sc, .sl _ a lo hi, e => match e with
    | .Subscript x (.Slice (some l) (some h) none _) _ => mtE C sc a x && mtE C sc lo l && mtE C sc hi h
    | _ => false
  | sc, .slL _ a lo, e => match e with
    | .Subscript x (.Slice (some l) none none _) _ => mtE C sc a x && mtE C sc lo l
    | _ => false
  | sc, .slH _ a hi, e => match e with
    | .Subscript x (.Slice none (some h) none _) _ => mtE C sc a x && mtE C sc hi h
    | _ => false
  | sc, .call f es, e => match e with
    | .Call (.Name x _) xs [] _ => decide (C.fns[f]? = some x) && glB sc x && okName x && mtEs C sc es xs
    | _ => false
  | sc, .blt b _ es, e => match e with
    | .Call (.Name x _) (y :: ys) [] _ => decide (b.name = x) && glB sc x && mtEs C sc es (y :: ys)
    | _ => false
  | sc, .mth m o x, e => match e with
    | .Call (.Attribute y nm apos) [z] [] pos => decide (nm = m.name) && plainBase y && (apos.endLine == pos.line) && notStar z && mtE C sc o y && mtE C sc x z
    | _ => false
  | _, .bad, _ => true
  | sc, .rev _ a, e => match e with
    | .Subscript x (.Slice none none (some (.UnaryOp .USub (.Constant (.int 1) _ _) _)) _) _ => mtE C sc a x
    | _ => false
  | sc, .isi t o, e => match e with
    | .Call (.Name x _) [y, .Name z _] [] _ => decide (x = "isinstance") && glB sc x && decide (z = t.nm) && glB sc z && notStar y && mtE C sc o y
    | _ => false
  | sc, .op k es, e => match opArgs sc k e with
    | some xs => mtEs C sc es xs
    | none => false
  | sc, .meth m o es, e => match e with
    | .Call (.Attribute y nm apos) xs [] pos => decide (nm = m.name) && plainBase y && (apos.endLine == pos.line) && decide (xs.length < 29) && mtE C sc o y && mtEs C sc es xs
    | _ => false
  | sc, .att k o, e => match e with
    | .Attribute y nm _ => decide (C.ats[k]?.map AI.f = some nm) && plainBase y && mtE C sc o y
    | _ => false
  | sc, .mcl k o es, e => match e with
    | .Call (.Attribute y nm apos) xs [] pos => decide (C.mts[k]?.map (·.2) = some nm) && plainBase y && (apos.endLine == pos.line) && decide (xs.length < 29) && mtE C sc o y && mtEs C sc es xs
    | _ => false
  | sc, .callK f es, e => match e with
    | .Call (.Name x _) [] kws _ => (match C.ex.kw[f]? with
      | some (c, n, ks) => decide (c = "") && decide (n = x) && glB sc x && okName x && kwNames ks kws && mtEs C sc es (kws.map Keyword.value)
      | none => false)
    | _ => false
  | sc, .mclK f o es, e => match e with
    | .Call (.Attribute y nm apos) [] kws pos => (match C.ex.kw[f]? with
      | some (c, n, ks) => decide (c ≠ "") && decide (n = nm) && plainBase y && (apos.endLine == pos.line) && kwNames ks kws && decide (kws.length < 29) && mtE C sc o y && mtEs C sc es (kws.map Keyword.value)
      | none => false)
    | _ => false
  | sc, .lenM k es, e => match e with
    | .Call (.Name x _) [y] [] _ => decide (x = "len") && glB sc x && decide (C.mts[k]?.map (·.2) = some "__len__") && mtEs C sc es [y]
    | _ => false
  | sc, .eqM k neg a b, e => match e with
    | .Compare x [op'] [y] _ => decide (op' = if neg = true then .NotEq else .Eq) && decide (C.mts[k]?.map (·.2) = some "__eq__") && notSet y && mtE C sc a x && mtE C sc b y
    | _ => false
  | sc, .isC k o, e => match e with
    | .Call (.Name x _) [y, .Name z _] [] _ => decide (x = "isinstance") && glB sc x && decide (C.mts[k]?.map (·.1) = some z) && glB sc z && okName z && notStar y && mtE C sc o y
    | _ => false
  | sc, .isX1 k o, e => match e with
    | .Call (.Name x _) [y, .Name z _] [] _ => decide (x = "isinstance") && glB sc x && decide (z = k) && decide (k ∈ C.ex.xts) && glB sc z && okName z && notStar y && mtE C sc o y
    | _ => false
  | sc, .isXm ks o, e => match e with
    | .Call (.Name x _) [y, .Tuple es _ _] [] _ => decide (x = "isinstance") && glB sc x && namesE ks es && ks.all (fun k => decide (k ∈ C.ex.xts) && glB sc k && okName k) && decide (ks.length ≤ 100) && notStar y && mtE C sc o y
    | _ => false
  | sc, .isXt t o, e => match e with
    | .Call (.Name x _) [y, .Name z _] [] _ => decide (x = "isinstance") && glB sc x && decide (z = t.nm) && glB sc z && notStar y && mtE C sc o y
    | _ => false
  | sc, .isVE o, e => match e with
    | .Call (.Name x _) [y, .Name z _] [] _ => decide (x = "isinstance") && glB sc x && decide (z = "ValueError") && glB sc z && C.ex.ve && notStar y && mtE C sc o y
    | _ => false
  | sc, .xat f o, e => match e with
    | .Attribute y nm _ => decide (nm = f) && plainBase y && mtE C sc o y
    | _ => false
  | sc, .callF i es, e => match e with
    | .Call (.Name x _) xs [] _ => decide (C.N[i]? = some x) && visB sc x && okName x && mtEs C sc es xs
    | _ => false
  | sc, .callV i es, e => match e with
    | .Call (.Name x _) xs [] _ => decide (C.N[i]? = some x) && visB sc x && okName x && mtEs C sc es xs
    | _ => false
  | sc, .callL f es k js, e => match e with
    | .Call (.Name x _) xs [] _ => decide (C.ex.lf[f]? = some x) && glB sc x && okName x && (match xs.getLast? with
      | some (.Lambda params body scope _) => mtEs C sc es xs.dropLast && lamB C sc k js params body scope
      | _ => false)
    | _ => false
  | sc, .disp _ ks es, e => match e with
    | .Dict keys vals _ => decide (keysE keys = some ks) && decide (keys.length = vals.length) && decide ks.Nodup && !keys.isEmpty && decide (keys.length ≤ 15) && decide (ks.length ≤ 15) && decide (ks.length = es.length) && keys.all (·.isSome) && mtEs C sc es vals
    | _ => false
  | sc, .bitlen o, e => match e with
    | .Call (.Attribute y nm apos) [] [] pos => decide (nm = "bit_length") && plainBase y && (apos.endLine == pos.line) && mtE C sc o y
    | _ => false
  | sc, .comp _ elt tg k its own, e => match e with
    | .ListComp x [⟨t, it, [], 0⟩] scope _ => mtT C scope tg t && mtE C scope elt x && blkC C.N sc scope (own.map fun i => (C.N.getD i "", i)) && tg.at.all (fun i => own.contains i) && notSet it &&
      (match k, it with
        | .seq, it => mtEs C sc its [it]
        | .rng1, .Call (.Name f _) [a] [] _ => decide (f = "range") && glB sc f && mtEs C sc its [a]
        | .rng2, .Call (.Name f _) [a, b] [] _ => decide (f = "range") && glB sc f && mtEs C sc its [a, b]
        | .zip2, .Call (.Name f _) [a, b] [] _ => decide (f = "zip") && glB sc f && isTupE t && mtEs C sc its [a, b]
        | .zip3, .Call (.Name f _) [a, b, c] [] _ => decide (f = "zip") && glB sc f && isTupE t && mtEs C sc its [a, b, c]
        | .enum, .Call (.Name f _) [a] [] _ => decide (f = "enumerate") && glB sc f && isTupE t && mtEs C sc its [a]
        | .rng3, .Call (.Name f _) [a, b, c] [] _ => decide (f = "range") && glB sc f && mtEs C sc its [a, b, c]
        | _, _ => false)
    | _ => false
  | sc, .compIf _ elt cond tg k its own, e => match e with
    | .ListComp x [⟨t, it, [c], 0⟩] scope _ => mtT C scope tg t && mtE C scope elt x && mtE C scope cond c && blkC C.N sc scope (own.map fun i => (C.N.getD i "", i)) && tg.at.all (fun i => own.contains i) && notSet it &&
      (match k, it with
        | .seq, it => mtEs C sc its [it]
        | .rng1, .Call (.Name f _) [a] [] _ => decide (f = "range") && glB sc f && mtEs C sc its [a]
        | .rng2, .Call (.Name f _) [a, b] [] _ => decide (f = "range") && glB sc f && mtEs C sc its [a, b]
        | .zip2, .Call (.Name f _) [a, b] [] _ => decide (f = "zip") && glB sc f && isTupE t && mtEs C sc its [a, b]
        | .zip3, .Call (.Name f _) [a, b, c] [] _ => decide (f = "zip") && glB sc f && isTupE t && mtEs C sc its [a, b, c]
        | .enum, .Call (.Name f _) [a] [] _ => decide (f = "enumerate") && glB sc f && isTupE t && mtEs C sc its [a]
        | .rng3, .Call (.Name f _) [a, b, c] [] _ => decide (f = "range") && glB sc f && mtEs C sc its [a, b, c]
        | _, _ => false)
    | _ => false
def mtEs (C : MC) : Scope → List CE → List Expr → Bool
  | _, [], es => match es with
    | [] => true
    | _ :: _ => false
  | sc, c :: cs, es => match es with
    | [] => false
    | e :: es => notStar e && mtE C sc c e && mtEs C sc cs es
end
/-- what is walked -/
def mtI (C : MC) (sc : Scope) (k : IK) (its : List CE) (t it : Expr) : Bool := match k, it with
  | .seq, it => mtEs C sc its [it]
  | .rng1, .Call (.Name f _) [a] [] _ => decide (f = "range") && glB sc f && mtEs C sc its [a]
  | .rng2, .Call (.Name f _) [a, b] [] _ => decide (f = "range") && glB sc f && mtEs C sc its [a, b]
  | .zip2, .Call (.Name f _) [a, b] [] _ => decide (f = "zip") && glB sc f && isTupE t && mtEs C sc its [a, b]
  | .zip3, .Call (.Name f _) [a, b, c] [] _ => decide (f = "zip") && glB sc f && isTupE t && mtEs C sc its [a, b, c]
  | .enum, .Call (.Name f _) [a] [] _ => decide (f = "enumerate") && glB sc f && isTupE t && mtEs C sc its [a]
  | .rng3, .Call (.Name f _) [a, b, c] [] _ => decide (f = "range") && glB sc f && mtEs C sc its [a, b, c]
  | _, _ => false
/-! ### a context that fits -/
def GOk (X : Cx) (g : GI) : Prop := ∃ v u, X.mg g.name = some u ∧ RelV v u ∧ ∀ M H, AbsM (wd X) M H → Rep (wd X) M H g.d v
def bltNames : List Str := ["len", "abs", "max", "min", "sum", "all", "any", "repr", "divmod", "tuple", "list", "int", "str", "bool", "range", "zip", "enumerate", "isinstance", "dict", "sorted", "set", "reversed"]
/-- methods that built-ins call -/
def dun (n : Str) : Bool := decide (n = "__len__") || decide (n = "__eq__")
structure Cok (mc : MC) (C : Ctx) (sc : Scope) (X : Cx) : Prop where
  hN : X.N = mc.N
  nd : X.N.Nodup
  calm : X.calm = true
  gd : X.A.guards = some []
  un : X.A.units + 80 < cLine
  sk : SysB X.base
  rel : ∀ x k, sc.names.lookup x = some k → (k ≠ .free → X.env.scope.names.lookup x = some k) ∧ (k = .free → X.env.scope.names.lookup x = some .cell ∨ X.env.scope.names.lookup x = some .free)
  fnl : ∀ x, sc.names.lookup x = some .cell → X.fn x = true
  blt : ∀ x ∈ bltNames, X.mg x = none
  fns : C.fs.map FI.name = mc.fns
  gns : C.gs.map GI.name = mc.gns
  ats : C.as = mc.ats
  mts : C.ms.map (fun m => (m.cls, m.name)) = mc.mts
  fok : ∀ fi ∈ C.fs, FOk X fi
  gok : ∀ g ∈ C.gs, GOk X g
  aok : ∀ a ∈ C.as, AOk X a
  mok : ∀ m ∈ C.ms, MOk X m
  lok : ∀ m ∈ C.ms, dun m.name = true → MLk X m
  exr : C.ex.rs = mc.ex.rs
  exx : C.ex.xs = mc.ex.xs
  ext : C.ex.xts = mc.ex.xts
  exl : C.ex.lf.map FI.name = mc.ex.lf
  exc : C.ex.cl.map (fun ci => (Tb.fr ci.id, Tb.cl ci.id)) = mc.ex.cls
  rok : ∀ x ∈ C.ex.rs, XOk X x
  xfo : ∀ xi ∈ C.ex.xs, ∀ f, xi.fld = some f → XfOk X xi.name f
  xko : ∀ xi ∈ C.ex.xs, XkOk X xi.name
  xco : ∀ xi ∈ C.ex.xs, ∀ c ∈ C.ex.xts, XcOk X xi.name c ∧ XiOk X xi.name c
  xno : ∀ c ∈ C.ex.xts, XnOk X c
  clk : ∀ ci ∈ C.ex.cl, ClOk X ci
  lfk : ∀ fi ∈ C.ex.lf, FOk1 X fi
  lmk : mc.ex.mks = true → MkF X
  vek : mc.ex.ve = true → X.mg "ValueError" = none
  exw : C.ex.kw.map (fun k => (k.cls, k.name, k.ks)) = mc.ex.kw
  kwk : ∀ ki ∈ C.ex.kw, (ki.cls = "" ∧ KOk X ki) ∨ (ki.cls ≠ "" ∧ KMOk X ki)
section
variable {mc : MC} {C : Ctx} {sc : Scope} {X : Cx} {x : Str}
theorem Cok.vis (c : Cok mc C sc X) (h : visB sc x = true) : Vis X.env.scope x := by
  unfold visB at h
  split at h
  · rename_i e; exact .inl ((c.rel x _ e).1 (by decide))
  · rename_i e; exact .inr (.inl ((c.rel x _ e).1 (by decide)))
  · rename_i e
    rcases (c.rel x _ e).2 rfl with z | z
    · exact .inr (.inl z)
    · exact .inr (.inr z)
  · cases h
theorem Cok.loc (c : Cok mc C sc X) (h : locB sc x = true) : Loc X.env.scope x ∧ (X.fn x = true ∨ X.env.scope.names.lookup x = some .local) := by
  unfold locB at h
  split at h
  · rename_i e; exact ⟨.inl ((c.rel x _ e).1 (by decide)), .inr ((c.rel x _ e).1 (by decide))⟩
  · rename_i e; exact ⟨.inr ((c.rel x _ e).1 (by decide)), .inl (c.fnl x e)⟩
  · cases h
theorem Cok.plain (c : Cok mc C sc X) (h : plainB sc x = true) : X.env.scope.names.lookup x = some .local := by
  unfold plainB at h
  split at h
  · rename_i e; exact (c.rel x _ e).1 (by decide)
  · cases h
theorem Cok.gl (c : Cok mc C sc X) (h : glB sc x = true) : Gl X x := by
  unfold glB at h
  split at h
  · rename_i e; exact (c.rel x _ e).1 (by decide)
  · cases h
theorem okName_spec (h : okName x = true) : (x == ("__debug__" : Str)) = false ∧ (x == ("__classdict__" : Str)) = false ∧ x ≠ "__name__" := by
  unfold okName at h
  simp only [Bool.and_eq_true, Bool.not_eq_true'] at h
  exact ⟨h.1.1, h.1.2, fun e => by rw [e] at h; simp at h⟩
theorem rel_relabel {env : Env} : ∀ {names : List (Str × NameKind)} {x : Str} {k : NameKind}, names.lookup x = some k →
    ((k ≠ .free → (names.map fun (n, k) => if (k == NameKind.free && env.scope.kind == .function && env.kindOf n == some .cell) then (n, NameKind.cell) else (n, k)).lookup x = some k) ∧
     (k = .free → (names.map fun (n, k) => if (k == NameKind.free && env.scope.kind == .function && env.kindOf n == some .cell) then (n, NameKind.cell) else (n, k)).lookup x = some .cell ∨
        (names.map fun (n, k) => if (k == NameKind.free && env.scope.kind == .function && env.kindOf n == some .cell) then (n, NameKind.cell) else (n, k)).lookup x = some .free))
  | [], x, k, h => by cases h
  | (n, k0) :: r, x, k, h => by
    rw [List.map_cons]
    rw [List.lookup_cons] at h
    cases hx : x == n with
    | true =>
      rw [hx] at h
      have h' : k0 = k := Option.some.inj h
      subst h'
      cases hc : (k0 == NameKind.free && env.scope.kind == .function && env.kindOf n == some .cell) with
      | true =>
        have hf : k0 = .free := by
          simp only [Bool.and_eq_true, beq_iff_eq] at hc
          exact hc.1.1
        subst hf
        refine ⟨fun z => absurd rfl z, fun _ => .inl ?_⟩
        simp only [hc, if_true, List.lookup_cons, hx]
      | false =>
        refine ⟨fun _ => ?_, fun z => .inr ?_⟩
        · simp only [hc, Bool.false_eq_true, if_false, List.lookup_cons, hx]
        · subst z
          simp only [hc, Bool.false_eq_true, if_false, List.lookup_cons, hx]
    | false =>
      rw [hx] at h
      have ih := rel_relabel (env := env) (names := r) h
      have hd : ∀ (c : Bool), ((if c = true then (n, NameKind.cell) else (n, k0)) :: (r.map fun (n, k) => if (k == NameKind.free && env.scope.kind == .function && env.kindOf n == some .cell) then (n, NameKind.cell) else (n, k))).lookup x =
          (r.map fun (n, k) => if (k == NameKind.free && env.scope.kind == .function && env.kindOf n == some .cell) then (n, NameKind.cell) else (n, k)).lookup x := by
        intro c
        cases c
        · simp only [Bool.false_eq_true, if_false, List.lookup_cons, hx]
        · simp only [if_true, List.lookup_cons, hx]
      refine ⟨fun z => ?_, fun z => ?_⟩
      · exact (hd _).trans (ih.1 z)
      · rcases ih.2 z with q | q
        · exact .inl ((hd _).trans q)
        · exact .inr ((hd _).trans q)
theorem Cok.blk (c : Cok mc C sc X) (s : Shared) (H : Hp) (scope : Scope) (Ca : Addr) (cl : List (Str × Addr)) (fp : List Addr) : Cok mc C scope (X.blk s H scope (compEnvC scope cl Ca X.env) fp) where
  hN := c.hN
  nd := c.nd
  calm := c.calm
  gd := c.gd
  un := c.un
  sk := c.sk
  rel := fun x k h => rel_relabel h
  fnl := fun x h => by show (scope.names.lookup x == some NameKind.cell) = true; rw [h]; rfl
  blt := c.blt
  fns := c.fns
  gns := c.gns
  ats := c.ats
  mts := c.mts
  fok := c.fok
  gok := c.gok
  aok := c.aok
  mok := c.mok
  lok := c.lok
  exr := c.exr
  exx := c.exx
  ext := c.ext
  exl := c.exl
  exc := c.exc
  rok := c.rok
  xfo := c.xfo
  xko := c.xko
  xco := c.xco
  xno := c.xno
  clk := c.clk
  lfk := c.lfk
  lmk := c.lmk
  vek := c.vek
  exw := c.exw
  kwk := c.kwk
theorem Cok.tr (c : Cok mc C sc X) (pn : List (Addr × Obj)) (xe : Value → Shared → Prop) : Cok mc C sc (X.tr pn xe) :=
  ⟨c.hN, c.nd, c.calm, c.gd, c.un, c.sk, c.rel, c.fnl, c.blt, c.fns, c.gns, c.ats, c.mts, c.fok, c.gok, c.aok, c.mok, c.lok, c.exr, c.exx, c.ext, c.exl, c.exc, c.rok, c.xfo, c.xko, c.xco, c.xno, c.clk, c.lfk, c.lmk, c.vek, c.exw, c.kwk⟩
theorem lamB_ok (c : Cok mc C sc X) {k : Nat} {js : List Nat} {params : Arguments} {body : Expr} {scope : Scope} (h : lamB mc sc k js params body scope = true) : ∃ ci, C.ex.cl[k]? = some ci ∧ ci ∈ C.ex.cl ∧ LamOk X ci.id js params body scope ∧ MkF X := by
  unfold lamB at h
  split at h
  · rename_i fr m hk
    simp only [Bool.and_eq_true, decide_eq_true_eq, List.all_eq_true, Bool.or_eq_true, Bool.not_eq_true', decide_eq_false_iff_not] at h
    obtain ⟨⟨⟨⟨⟨⟨⟨⟨h1, h2⟩, h3⟩, h4⟩, h5⟩, h6⟩, h7⟩, h8⟩, h9⟩ := h
    rw [← c.exc, List.getElem?_map] at hk
    cases hc : C.ex.cl[k]? with
    | none => rw [hc] at hk; cases hk
    | some ci =>
      rw [hc] at hk
      have e := Option.some.inj hk
      have e1 : Tb.fr ci.id = fr := congrArg Prod.fst e
      have e2 : Tb.cl ci.id = m := congrArg Prod.snd e
      refine ⟨ci, rfl, List.mem_of_getElem? hc, ⟨by rw [e2]; exact h1, by rw [e1, c.hN]; exact h2, fun y hy => ?_, fun y hy hf => ?_, fun y hy => h5 y (e1 ▸ hy), by rw [e1]; exact h6, by simpa using h7, by simpa using h8⟩, c.lmk h9⟩
      · have z := h3 y (e1 ▸ hy)
        exact ⟨(c.rel y _ z).1 (by decide), c.fnl y z⟩
      · rw [e1]
        rcases h4 y hy with z | z
        · exact absurd hf z
        · exact z
  · cases h
theorem blkOk_rel (c : Cok mc C sc X) {scope : Scope} {own : List (Str × Nat)} (h : blkC mc.N sc scope own = true) : BlkOk X.N X.env.scope scope own := by
  have b := blkOk_by h
  rw [c.hN]
  refine ⟨b.kind, b.uniq, b.ix, fun y hy e => ?_, b.own⟩
  rcases b.free y hy e with z | z
  · exact .inl ((c.rel _ _ z).1 (by decide))
  · exact (c.rel _ _ z).2 rfl
end
end Ow
namespace Ow
open PySem PySem.Spec PyProof.Rows L2
variable [Tb] [Og]
theorem blt_boot (b : Blt) : bootBuiltins b.name = some b.val := by cases b <;> decide +kernel
theorem blt_kind (b : Blt) : (∃ n, b.val = .builtin n) ∨ ∃ n, b.val = .type n := by
  cases b <;> first | exact .inl ⟨_, rfl⟩ | exact .inr ⟨_, rfl⟩
theorem blt_mem (b : Blt) : b.name ∈ bltNames := by cases b <;> decide +kernel
theorem blt_nm (b : Blt) : b.name ≠ "__name__" ∧ (b.name == ("__debug__" : Str)) = false := by cases b <;> decide +kernel
theorem nomark_of {op : CmpOp} {e : Expr} (h : notSet e = true) : behindInMarks op e = false := by cases e <;> first | rfl | cases h
/-- a comparison answers with a truth value -/
theorem cmpD_bl (op : CmpOp) : ∀ d1 d2 M Q, cmpD op d1 d2 M Q → cmpD op d1 d2 M fun d M' => (∃ k, d = .bl k) ∧ Q d M' := by
  intro d1 d2 M Q z
  have ord : ∀ p, ordD p d1 d2 M Q → ordD p d1 d2 M fun d M' => (∃ k, d = .bl k) ∧ Q d M' := by
    intro p z
    unfold ordD at z ⊢
    split at z
    · exact ⟨⟨_, rfl⟩, z⟩
    · exact z.elim
  have eq : ∀ n, eqD n d1 d2 M Q → eqD n d1 d2 M fun d M' => (∃ k, d = .bl k) ∧ Q d M' := by
    intro n z
    unfold eqD at z ⊢
    split at z
    · exact ⟨⟨_, rfl⟩, z⟩
    · exact ⟨⟨_, rfl⟩, z⟩
    · exact ⟨⟨_, rfl⟩, z⟩
    · split at z
      · exact ⟨⟨_, rfl⟩, z⟩
      · exact z.elim
    · exact ⟨z.1, z.2.1, ⟨_, rfl⟩, z.2.2⟩
  have iss : ∀ n, isD n d1 d2 M Q → isD n d1 d2 M fun d M' => (∃ k, d = .bl k) ∧ Q d M' := by
    intro n z
    unfold isD at z ⊢
    split at z
    · exact ⟨⟨_, rfl⟩, z⟩
    · exact ⟨⟨_, rfl⟩, z⟩
    · exact z.elim
  have inn : ∀ n, inD n d1 d2 M Q → inD n d1 d2 M fun d M' => (∃ k, d = .bl k) ∧ Q d M' := by
    intro n z
    have gen : ∀ y : D, (match getDic M y d1 with
        | some o => Q (.bl (n ^^ o.isSome)) M
        | none => (match seqIn M y with
          | some l => scalar d1 = true ∧ l.all scalar = true ∧ Q (.bl (n ^^ l.any fun z => eqS z d1)) M
          | none => False)) → (match getDic M y d1 with
        | some o => (∃ k, D.bl (n ^^ o.isSome) = .bl k) ∧ Q (.bl (n ^^ o.isSome)) M
        | none => (match seqIn M y with
          | some l => scalar d1 = true ∧ l.all scalar = true ∧ (∃ k, D.bl (n ^^ l.any fun z => eqS z d1) = .bl k) ∧ Q (.bl (n ^^ l.any fun z => eqS z d1)) M
          | none => False)) := by
      intro y z
      split at z
      · exact ⟨⟨_, rfl⟩, z⟩
      · split at z
        · exact ⟨z.1, z.2.1, ⟨_, rfl⟩, z.2.2⟩
        · exact z.elim
    cases d2 with
    | str j =>
      cases d1 with
      | str i => exact ⟨⟨_, rfl⟩, z⟩
      | _ => exact z.elim
    | non => exact gen .non z
    | bl b => exact gen (.bl b) z
    | int b => exact gen (.int b) z
    | tup b => exact gen (.tup b) z
    | lst b => exact gen (.lst b) z
    | ref b => exact gen (.ref b) z
    | scr b => exact gen (.scr b) z
    | dct b c => exact gen (.dct b c) z
  cases op with
  | Lt => exact ord _ z
  | LtE => exact ord _ z
  | Gt => exact ord _ z
  | GtE => exact ord _ z
  | Eq => exact eq _ z
  | NotEq => exact eq _ z
  | Is => exact iss _ z
  | IsNot => exact iss _ z
  | In => exact inn _ z
  | NotIn => exact inn _ z
section
variable {X : Cx} {o e : Expr} {to te : DTE} {apos pos : Pos}
theorem few_one {e : Expr} {env : Env} {cpos : Pos} (h : notStar e = true) : ((backTo cpos (starEach [e] env)).all (fun x => !x.1) && (backToKw cpos (keywordEach [] env)).all (fun x => x.1.isSome)
      && decide ([e].length + ([] : List Keyword).length + (if ([] : List Keyword).isEmpty then 0 else 1) < 30)) = true := by
  rw [star_cons h]; rfl
theorem DE.mth (m : Mth) (ho : DE X o to) (he : DE X e te) (hb : plainBase o = true) (hl : (apos.endLine == pos.line) = true) (hs : notStar e = true) :
    DE X (.Call (.Attribute o m.name apos) [e] [] pos) (fun ρ M Q => to ρ M fun d M1 => (listIn M1 d).isSome = true ∧ te ρ M1 fun d2 M2 => mthD m d d2 M2 Q) := by
  cases m with
  | append =>
    refine DE.of (pe_bm PySem.F.plainAttrs_list PySem.F.slot_list_append PySem.F.type_list_append mt_append pe_cT (pa_cons pe_cT pa_nil (star_cons hs)) (base_of hb) (few_one hs) hl (star_cons hs) rfl) fun σ H ρ M Q S A z => ?_
    refine ho.bind S A z fun v d M1 H1 x r A1 S1 q => ⟨tyV_list A1 r q.1, he.bind S1 A1 q.2 fun u d2 M2 H2 x2 r2 A2 S2 q2 => ?_⟩
    unfold mthD at q2
    split at q2
    · rename_i a _
      split at q2
      · rename_i l hl'
        obtain ⟨xs, h1, h2⟩ := A2.ob _ _ hl'
        have xw : Ext (wd X) M2 H2 (M2.upd a (.lst (l ++ [d2]))) (upd H2 a (.lst (xs ++ [u]))) := Ext.write A2 hl'
        refine ⟨a, xs, u, r, rfl, h1, by rw [← h2.length]; exact q2.1, .non, _, ((x.trans x2).trans xw), rfl, AbsM.write A2 hl' ⟨_, upd_same, (h2.ext xw).append ⟨u, [], rfl, r2.ext xw, rfl⟩⟩, q2.2⟩
      · exact q2.elim
    · rename_i e1; cases e1
    · exact q2.elim
  | extend =>
    refine DE.of (pe_bm PySem.F.plainAttrs_list PySem.F.slot_list_extend PySem.F.type_list_extend mt_extend pe_cT (pa_cons pe_cT pa_nil (star_cons hs)) (base_of hb) (few_one hs) hl (star_cons hs) rfl) fun σ H ρ M Q S A z => ?_
    refine ho.bind S A z fun v d M1 H1 x r A1 S1 q => ⟨tyV_list A1 r q.1, he.bind S1 A1 q.2 fun u d2 M2 H2 x2 r2 A2 S2 q2 => ?_⟩
    unfold mthD at q2
    split at q2
    · rename_i e1; cases e1
    · rename_i a _
      split at q2
      · rename_i l l2 hl' hl2
        obtain ⟨xs, h1, h2⟩ := A2.ob _ _ hl'
        obtain ⟨b, ys, rfl, h3, h4⟩ := listIn_rep A2 r2 hl2
        have xw : Ext (wd X) M2 H2 (M2.upd a (.lst (l ++ l2))) (upd H2 a (.lst (xs ++ ys))) := Ext.write A2 hl'
        refine ⟨a, b, xs, ys, r, rfl, h1, h3, by rw [← h2.length, ← h4.length]; exact q2.1, .non, _, ((x.trans x2).trans xw), rfl, AbsM.write A2 hl' ⟨_, upd_same, (h2.ext xw).append (h4.ext xw)⟩, q2.2⟩
      · exact q2.elim
    · exact q2.elim
theorem DE.bitlen (ho : DE X o to) (hb : plainBase o = true) (hl : (apos.endLine == pos.line) = true) : DE X (.Call (.Attribute o "bit_length" apos) [] [] pos) (fun ρ M Q => to ρ M fun d M1 => match d with
    | .int i => Q (.int (Builtin.Int.intBits i : Nat)) M1
    | _ => False) := by
  refine DE.of (pe_bits pe_cT (base_of hb) hl) fun σ H ρ M Q S A z => ho.bind S A z fun v d M1 H1 x r A1 S1 q => ?_
  split at q
  · exact ⟨_, r, (lft.int A1 q).trans x⟩
  · exact q.elim
theorem notSet_spec {it : Expr} {env : Env} (h : notSet it = true) : ∀ x, foldedSetIterable it env x = pure x := by
  intro x
  cases it <;> first | rfl | cases h
end
/-! ### what matches is what it means -/
section
variable {mc : MC} {C : Ctx}
mutual
theorem sndT {sc : Scope} {X : Cx} (c : Cok mc C sc X) : ∀ (ct : CT) (e : Expr), mtT mc sc ct e = true → PG X e (ct.g X.K)
  | .nm i, e, h => by
    unfold mtT at h
    split at h
    · simp only [Bool.and_eq_true, decide_eq_true_eq] at h
      obtain ⟨l1, l2⟩ := c.loc h.2
      exact pg_name c.nd (by rw [c.hN]; exact h.1) l1 l2
    · cases h
  | .tup ts, e, h => by
    unfold mtT at h
    split at h
    · rename_i es k p
      obtain ⟨g1, g2, g3⟩ := sndTs c ts es h
      exact pg_tup c.calm g1 g2 g3
    · cases h
theorem sndTs {sc : Scope} {X : Cx} (c : Cok mc C sc X) : ∀ (ts : List CT) (es : List Expr), mtTs mc sc ts es = true → PGs X es (CT.gs X.K ts) ∧ (assignEach es X.env).length = ts.length ∧ (assignEach es X.env).findIdx? (·.1) = none
  | [], es, h => by
    unfold mtTs at h
    split at h
    · exact ⟨pgs_nil, rfl, rfl⟩
    · cases h
  | t :: ts, es, h => by
    unfold mtTs at h
    split at h
    · cases h
    · rename_i e es
      simp only [Bool.and_eq_true] at h
      have hd : assignEach (e :: es) X.env = (false, assign e X.env) :: assignEach es X.env := by
        cases e <;> first | rfl | cases h.1.1
      obtain ⟨g1, g2, g3⟩ := sndTs c ts es h.2
      refine ⟨pgs_cons (sndT c t e h.1.2) g1 (by rw [hd]; rfl), by rw [hd, List.length_cons, List.length_cons, g2], ?_⟩
      rw [hd, List.findIdx?_cons, g3]
      rfl
end
/-- a walk, from its arguments -/
theorem sndI {sc : Scope} {X : Cx} {E : EX} (c : Cok mc C sc X) {k : IK} {its : List CE} {t it : Expr} (h : mtI mc sc k its t it = true)
    (args' : ∀ es, mtEs mc sc its es = true → DA X es (wpEs C its E) ∧ ∀ ce e, its = [ce] → es = [e] → DE X e (wpE C ce E)) : DI X t it (fun ρ M Q => wpEs C its E ρ M fun ds M1 => itD k ds M1 Q) := by
  have args := fun es h => (args' es h).1
  have star1 : ∀ {a : Expr}, mtEs mc sc its [a] = true → notStar a = true ∧ ∃ ce, its = [ce] ∧ mtE mc sc ce a = true := by
    intro a ha
    cases its with
    | nil => unfold mtEs at ha; cases ha
    | cons ce cs =>
      unfold mtEs at ha
      simp only [Bool.and_eq_true] at ha
      cases cs with
      | nil => exact ⟨ha.1.1, ce, rfl, ha.1.2⟩
      | cons _ _ => have := ha.2; unfold mtEs at this; cases this
  have star2 : ∀ {a b : Expr}, mtEs mc sc its [a, b] = true → notStar a = true ∧ notStar b = true := by
    intro a b ha
    cases its with
    | nil => unfold mtEs at ha; cases ha
    | cons ce cs =>
      unfold mtEs at ha
      simp only [Bool.and_eq_true] at ha
      cases cs with
      | nil => have := ha.2; unfold mtEs at this; cases this
      | cons c2 cs2 =>
        have := ha.2
        unfold mtEs at this
        simp only [Bool.and_eq_true] at this
        exact ⟨ha.1.1, this.1.1⟩
  have star3 : ∀ {a b d : Expr}, mtEs mc sc its [a, b, d] = true → notStar a = true ∧ notStar b = true ∧ notStar d = true := by
    intro a b d ha
    cases its with
    | nil => unfold mtEs at ha; cases ha
    | cons ce cs =>
      unfold mtEs at ha
      simp only [Bool.and_eq_true] at ha
      cases cs with
      | nil => have := ha.2; unfold mtEs at this; cases this
      | cons c2 cs2 =>
        have h2 := ha.2
        unfold mtEs at h2
        simp only [Bool.and_eq_true] at h2
        cases cs2 with
        | nil => have := h2.2; unfold mtEs at this; cases this
        | cons c3 cs3 =>
          have h3 := h2.2
          unfold mtEs at h3
          simp only [Bool.and_eq_true] at h3
          exact ⟨ha.1.1, h2.1.1, h3.1.1⟩
  unfold mtI at h
  split at h
  · obtain ⟨s1, ce, rfl, m1⟩ := star1 h
    refine DI.seq (args _ h) s1 ⟨_, (args' _ h).2 ce _ rfl rfl, fun ρ M Q z => ?_⟩
    unfold wpEs wpEs at z
    exact z
  · simp only [Bool.and_eq_true, decide_eq_true_eq] at h
    obtain ⟨⟨rfl, h2⟩, h3⟩ := h
    exact DI.rng1 (c.gl h2) (c.blt _ (by decide +kernel)) (args _ h3) (star1 h3).1
  · simp only [Bool.and_eq_true, decide_eq_true_eq] at h
    obtain ⟨⟨rfl, h2⟩, h3⟩ := h
    exact DI.rng2 (c.gl h2) (c.blt _ (by decide +kernel)) (args _ h3) (star2 h3).1 (star2 h3).2
  · simp only [Bool.and_eq_true, decide_eq_true_eq] at h
    obtain ⟨⟨⟨rfl, h2⟩, ht⟩, h3⟩ := h
    cases t <;> first | (exact DI.zip2 (c.gl h2) (c.blt _ (by decide +kernel)) (args _ h3) (star2 h3).1 (star2 h3).2) | (cases ht; done)
  · simp only [Bool.and_eq_true, decide_eq_true_eq] at h
    obtain ⟨⟨⟨rfl, h2⟩, ht⟩, h3⟩ := h
    cases t <;> first | (exact DI.zip3 (c.gl h2) (c.blt _ (by decide +kernel)) (args _ h3) (star3 h3).1 (star3 h3).2.1 (star3 h3).2.2) | (cases ht; done)
  · simp only [Bool.and_eq_true, decide_eq_true_eq] at h
    obtain ⟨⟨⟨rfl, h2⟩, ht⟩, h3⟩ := h
    cases t <;> first | (exact DI.enum (c.gl h2) (c.blt _ (by decide +kernel)) (args _ h3) (star1 h3).1) | (cases ht; done)
  · simp only [Bool.and_eq_true, decide_eq_true_eq] at h
    obtain ⟨⟨rfl, h2⟩, h3⟩ := h
    exact DI.rng3 (c.gl h2) (c.blt _ (by decide +kernel)) (args _ h3) (star3 h3).1 (star3 h3).2.1 (star3 h3).2.2
  · cases h
end
end Ow
namespace Ow
open PySem PySem.Spec PyProof.Rows L2
variable [Tb] [Og]
section
variable {mc : MC} {C : Ctx}
theorem mtEs_star {sc : Scope} : ∀ {cs : List CE} {es : List Expr}, mtEs mc sc cs es = true → es.all notStar = true
  | [], es, h => by
    unfold mtEs at h
    split at h
    · rfl
    · cases h
  | c :: cs, es, h => by
    unfold mtEs at h
    split at h
    · cases h
    · simp only [Bool.and_eq_true] at h
      rw [List.all_cons, h.1.1, mtEs_star h.2]; rfl
theorem mapget {α β : Type} {l : List α} {f : α → β} {i : Nat} {y : β} {l' : List β} (h : l.map f = l') (e : l'[i]? = some y) : ∃ x, l[i]? = some x ∧ f x = y ∧ x ∈ l := by
  subst h
  rw [List.getElem?_map] at e
  cases q : l[i]? with
  | none => rw [q] at e; cases e
  | some x =>
    rw [q] at e
    exact ⟨x, rfl, Option.some.inj e, List.mem_of_getElem? q⟩
theorem pts_yes {X : Cx} {W : Wd} : PTs X [] (upC W yesD) := ⟨fun pins s σ H R I ⟨ρ, M, Q, S, A, z, k⟩ => pts_nil.run pins s σ H R I (k true M H Ext.refl A z)⟩
theorem own_at {N : List Str} {own : List Nat} {ct : CT} (h : ct.at.all (fun i => own.contains i) = true) : ∀ i ∈ ct.at, i ∈ (own.map fun i => (N.getD i "", i)).map (·.2) := by
  intro i hi
  rw [List.map_map]
  have := List.all_eq_true.mp h i hi
  simp only [List.contains_iff_mem] at this
  exact List.mem_map.mpr ⟨i, this, rfl⟩
theorem own_map {N : List Str} {own : List Nat} : (own.map fun i => (N.getD i "", i)).map (·.2) = own := by
  rw [List.map_map]
  exact List.map_id own
theorem wpEs_eq {E : EX} : ∀ (cs : List CE), wpEs C cs E = seqT (cs.map fun c => wpE C c E)
  | [] => by funext ρ M Q; unfold wpEs; rfl
  | c :: cs => by
    funext ρ M Q
    unfold wpEs
    rw [wpEs_eq cs]; rfl
theorem wpEs_seq {E : EX} {cs : List CE} {ρ : DSt} {M : Mp} {Q : QA} (z : wpEs C cs E ρ M Q) : seqT (cs.map fun c => wpE C c E) ρ M Q := by rw [← wpEs_eq]; exact z
theorem DW.never {X : Cx} {e : Expr} : DW X e (fun _ _ _ => False) := ⟨fun _ _ _ => False, ⟨fun _ _ _ _ _ _ _ h => h.elim⟩, fun _ _ _ _ _ _ _ _ z _ => z⟩
mutual
theorem sndE : ∀ (ce : CE) {sc : Scope} {X : Cx} {E : EX} {e : Expr}, Cok mc C sc X → Takes X (upW (wd X) E) → mtE mc sc ce e = true → DE X e (wpE C ce E)
  | .var i, sc, X, E, e, c, tk, h => by
    unfold mtE at h
    split at h
    · simp only [Bool.and_eq_true, decide_eq_true_eq] at h
      obtain ⟨⟨h1, h2⟩, h3⟩ := h
      obtain ⟨n1, n2, n3⟩ := okName_spec h3
      refine (DE.var (by rw [c.hN]; exact h1) (c.vis h2) n1 n2).imp fun ρ M Q z => ?_
      unfold wpE at z; exact z
    · cases h
  | .int i, sc, X, E, e, c, tk, h => by
    unfold mtE at h
    split at h
    · cases of_decide_eq_true h
      exact DE.int.imp fun ρ M Q z => by unfold wpE at z; exact z
    · cases h
  | .bl i, sc, X, E, e, c, tk, h => by
    unfold mtE at h
    split at h
    · cases of_decide_eq_true h
      exact DE.bl.imp fun ρ M Q z => by unfold wpE at z; exact z
    · cases h
  | .non, sc, X, E, e, c, tk, h => by
    unfold mtE at h
    split at h
    · exact DE.non.imp fun ρ M Q z => by unfold wpE at z; exact z
    · cases h
  | .str i, sc, X, E, e, c, tk, h => by
    unfold mtE at h
    split at h
    · cases of_decide_eq_true h
      exact DE.str.imp fun ρ M Q z => by unfold wpE at z; exact z
    · cases h
  | .glb i, sc, X, E, e, c, tk, h => by
    unfold mtE at h
    split at h
    · simp only [Bool.and_eq_true, decide_eq_true_eq] at h
      obtain ⟨⟨h1, h2⟩, h3⟩ := h
      obtain ⟨n1, n2, n3⟩ := okName_spec h3
      obtain ⟨g, e1, e2, e3⟩ := mapget c.gns h1
      obtain ⟨v, u, m, r, rp⟩ := c.gok g e3
      rw [e2] at m
      refine (DE.glb (c.gl h2) m r rp n1).imp fun ρ M Q z => ?_
      unfold wpE at z
      rw [e1] at z; exact z
    · cases h
  | .bin op fz a b, sc, X, E, e, c, tk, h => by
    unfold mtE at h
    split at h
    · simp only [Bool.and_eq_true, decide_eq_true_eq] at h
      obtain ⟨⟨rfl, h2⟩, h3⟩ := h
      exact (DE.bin (op_binD (fz := fz) op) (sndE a c tk h2) (sndE b c tk h3)).imp fun ρ M Q z => by unfold wpE at z; exact z
    · cases h
  | .neg a, sc, X, E, e, c, tk, h => by
    unfold mtE at h
    split at h
    · exact (DE.neg (sndE a c tk h)).imp fun ρ M Q z => by unfold wpE at z; exact z
    · cases h
  | .not a, sc, X, E, e, c, tk, h => by
    unfold mtE at h
    split at h
    · exact (DE.not (sndE a c tk h)).imp fun ρ M Q z => by unfold wpE at z; exact z
    · cases h
  | .one a, sc, X, E, e, c, tk, h => by
    unfold mtE at h
    split at h
    · exact (DE.one (sndE a c tk h)).imp fun ρ M Q z => by unfold wpE at z; exact z
    · cases h
  | .and a b, sc, X, E, e, c, tk, h => by
    unfold mtE at h
    split at h
    · simp only [Bool.and_eq_true] at h
      exact (DE.and (sndE a c tk h.1) (sndE b c tk h.2)).imp fun ρ M Q z => by unfold wpE at z; exact z
    · cases h
  | .or a b, sc, X, E, e, c, tk, h => by
    unfold mtE at h
    split at h
    · simp only [Bool.and_eq_true] at h
      exact (DE.or (sndE a c tk h.1) (sndE b c tk h.2)).imp fun ρ M Q z => by unfold wpE at z; exact z
    · cases h
  | .cmp op a b, sc, X, E, e, c, tk, h => by
    unfold mtE at h
    split at h
    · simp only [Bool.and_eq_true, decide_eq_true_eq] at h
      obtain ⟨⟨⟨rfl, h1⟩, h2⟩, h3⟩ := h
      exact (DE.cmp (op_cmpD (by have := c.un; omega) op) (sndE a c tk h2) (sndE b c tk h3) (nomark_of h1)).imp fun ρ M Q z => by unfold wpE at z; exact z
    · cases h
  | .chn op op2 a b d, sc, X, E, e, c, tk, h => by
    unfold mtE at h
    split at h
    · simp only [Bool.and_eq_true, decide_eq_true_eq] at h
      obtain ⟨⟨⟨⟨⟨rfl, rfl⟩, h1⟩, h2⟩, h3⟩, h4⟩ := h
      exact (DE.chn (op_cmpD (by have := c.un; omega) op) (op_cmpD (by have := c.un; omega) op2) (sndE a c tk h2) (sndE b c tk h3) (sndE d c tk h4) (nomark_of h1)).imp fun ρ M Q z => by unfold wpE at z; exact z
    · cases h
  | .ife d a b, sc, X, E, e, c, tk, h => by
    unfold mtE at h
    split at h
    · simp only [Bool.and_eq_true] at h
      exact (DE.ife (sndC d c tk h.1.1) (sndE a c tk h.1.2) (sndE b c tk h.2)).imp fun ρ M Q z => by unfold wpE at z; exact z
    · cases h
  | .tup es, sc, X, E, e, c, tk, h => by
    unfold mtE at h
    split at h
    · exact (DE.tup (sndEs es c tk h).1).imp fun ρ M Q z => by unfold wpE at z; exact z
    · cases h
  | .lst true es, sc, X, E, e, c, tk, h => by
    unfold mtE at h
    split at h
    · exact (DE.lst (sndEs es c tk h).1).imp fun ρ M Q z => by unfold wpE at z; simpa only [if_true] using z
    · cases h
  | .lst false es, sc, X, E, e, c, tk, h => by
    unfold mtE at h
    split at h
    · exact (DE.lstM (sndEs es c tk h).1).imp fun ρ M Q z => by unfold wpE at z; simpa only [Bool.false_eq_true, if_false] using z
    · cases h
  | .ix a b, sc, X, E, e, c, tk, h => by
    unfold mtE at h
    split at h
    · simp only [Bool.and_eq_true] at h
      exact (DE.ix (by have := c.un; omega) (sndE a c tk h.1.2) (sndE b c tk h.2) h.1.1).imp fun ρ M Q z => by unfold wpE at z; exact z
    · cases h
  | .sl fz a lo hi, sc, X, E, e, c, tk, h => by
    unfold mtE at h
    split at h
    · simp only [Bool.and_eq_true] at h
      exact (DE.sl (fz := fz) (sndE a c tk h.1.1) (DP.some (sndE lo c tk h.1.2)) (DP.some (sndE hi c tk h.2))).imp fun ρ M Q z => by unfold wpE at z; exact z
    · cases h
  | .slL fz a lo, sc, X, E, e, c, tk, h => by
    unfold mtE at h
    split at h
    · simp only [Bool.and_eq_true] at h
      exact (DE.sl (fz := fz) (sndE a c tk h.1) (DP.some (sndE lo c tk h.2)) DP.none).imp fun ρ M Q z => by unfold wpE at z; exact z
    · cases h
  | .slH fz a hi, sc, X, E, e, c, tk, h => by
    unfold mtE at h
    split at h
    · simp only [Bool.and_eq_true] at h
      exact (DE.sl (fz := fz) (sndE a c tk h.1) DP.none (DP.some (sndE hi c tk h.2))).imp fun ρ M Q z => by unfold wpE at z; exact z
    · cases h
  | .call f es, sc, X, E, e, c, tk, h => by
    unfold mtE at h
    split at h
    · simp only [Bool.and_eq_true, decide_eq_true_eq] at h
      obtain ⟨⟨⟨h1, h2⟩, h3⟩, h4⟩ := h
      obtain ⟨n1, n2, n3⟩ := okName_spec h3
      obtain ⟨fi, e1, e2, e3⟩ := mapget c.fns h1
      have F := c.fok fi e3
      rename_i x p xs pos
      cases xs with
      | nil =>
        have e0 : es = [] := by
          cases es with
          | nil => rfl
          | cons _ _ => unfold mtEs at h4; cases h4
        subst e0
        refine (DE.call0 tk F e2 c.gd (c.gl h2) n1).imp fun ρ M Q z => ?_
        unfold wpE wpEs at z
        rw [e1] at z; exact z
      | cons y ys =>
        refine (DE.call tk F e2 c.gd (c.gl h2) n1 (sndEs es c tk h4).1 (mtEs_star h4)).imp fun ρ M Q z => ?_
        unfold wpE at z
        rw [e1] at z; exact z
    · cases h
  | .blt b fz es, sc, X, E, e, c, tk, h => by
    unfold mtE at h
    split at h
    · simp only [Bool.and_eq_true, decide_eq_true_eq] at h
      obtain ⟨⟨rfl, h2⟩, h3⟩ := h
      exact (DE.blt (bltD_ok (fz := fz) c.calm c.gd c.un c.sk b) (blt_kind b) (c.gl h2) (c.blt _ (blt_mem b)) (blt_boot b) (blt_nm b).1 (blt_nm b).2 (sndEs es c tk h3).1 (mtEs_star h3)).imp fun ρ M Q z => by unfold wpE at z; exact z
    · cases h
  | .mth m o x, sc, X, E, e, c, tk, h => by
    unfold mtE at h
    split at h
    · simp only [Bool.and_eq_true, decide_eq_true_eq] at h
      obtain ⟨⟨⟨⟨⟨rfl, h1⟩, h2⟩, h3⟩, h4⟩, h5⟩ := h
      exact (DE.mth m (sndE o c tk h4) (sndE x c tk h5) h1 h2 h3).imp fun ρ M Q z => by unfold wpE at z; exact z
    · cases h
  | .isi t o, sc, X, E, e, c, tk, h => by
    unfold mtE at h
    split at h
    · simp only [Bool.and_eq_true, decide_eq_true_eq] at h
      obtain ⟨⟨⟨⟨⟨h1, h2⟩, h3⟩, h4⟩, h5⟩, h6⟩ := h
      have b1 : ("isinstance" : Str) ∈ bltNames := by decide +kernel
      have b2 : t.nm ∈ bltNames := by cases t <;> decide +kernel
      exact (DE.isi t (sndE o c tk h6) h1 h3 (c.gl h2) (h1 ▸ c.blt _ b1) (c.gl h4) (h3 ▸ c.blt _ b2) h5).imp fun ρ M Q z => by unfold wpE at z; exact z
    · cases h
  | .rev fz a, sc, X, E, e, c, tk, h => by
    unfold mtE at h
    split at h
    · exact (DE.rev (fz := fz) (sndE a c tk h)).imp fun ρ M Q z => by unfold wpE at z; exact z
    · cases h
  | .op k es, sc, X, E, e, c, tk, h => by
    unfold mtE at h
    split at h
    · rename_i xs hx
      refine (op_ok (fun h => c.gl h) (fun h => c.blt _ (by rcases h with rfl | rfl | rfl | rfl | rfl <;> decide +kernel)) c.calm k hx (sndEs es c tk h).2.2 (mtEs_star h)).imp fun ρ M Q z => ?_
      unfold wpE at z
      exact wpEs_seq z
    · cases h
  | .meth m o es, sc, X, E, e, c, tk, h => by
    unfold mtE at h
    split at h
    · simp only [Bool.and_eq_true, decide_eq_true_eq] at h
      obtain ⟨⟨⟨⟨⟨rfl, h1⟩, h2⟩, h3⟩, h4⟩, h5⟩ := h
      refine (DE.meth (by have := c.un; omega) m (sndE o c tk h4) (sndEs es c tk h5).1 h1 h2 (mtEs_star h5) h3 ?_).imp fun ρ M Q z => by unfold wpE at z; exact z
      intro he ρ M Q z
      subst he
      cases es with
      | nil => unfold wpEs at z; exact z
      | cons _ _ => unfold mtEs at h5; cases h5
    · cases h
  | .att k o, sc, X, E, e, c, tk, h => by
    unfold mtE at h
    split at h
    · simp only [Bool.and_eq_true, decide_eq_true_eq] at h
      obtain ⟨⟨h1, h2⟩, h3⟩ := h
      rw [← c.ats] at h1
      cases ha : C.as[k]? with
      | none => rw [ha] at h1; cases h1
      | some a =>
        rw [ha] at h1
        have e1 := Option.some.inj h1
        subst e1
        refine (DE.att (c.aok a (List.mem_of_getElem? ha)) (sndE o c tk h3) h2).imp fun ρ M Q z => ?_
        unfold wpE at z
        rw [ha] at z
        exact z
    · cases h
  | .callK f es, sc, X, E, e, c, tk, h => by
    unfold mtE at h
    split at h
    · split at h
      · rename_i x p kws pos cc n ks hk
        simp only [Bool.and_eq_true, decide_eq_true_eq] at h
        obtain ⟨⟨⟨⟨⟨rfl, rfl⟩, h3⟩, h4⟩, h5⟩, h6⟩ := h
        obtain ⟨ki, e1, e2, e3⟩ := mapget c.exw hk
        obtain ⟨z1, z2⟩ := Prod.mk.inj e2
        obtain ⟨z2, z3⟩ := Prod.mk.inj z2
        have F : KOk X ki := by
          rcases c.kwk ki e3 with ⟨_, F⟩ | ⟨F, _⟩
          · exact F
          · exact absurd z1 F
        refine (DE.callK tk F z2 c.gd (c.gl h3) (okName_spec h4).1 (by rw [z3]; exact h5) (sndEs es c tk h6).2.2).imp fun ρ M Q z => ?_
        unfold wpE at z
        rw [e1] at z
        exact wpEs_seq z
      · cases h
    · cases h
  | .mclK f o es, sc, X, E, e, c, tk, h => by
    unfold mtE at h
    split at h
    · split at h
      · rename_i y nm apos kws pos cc n ks hk
        simp only [Bool.and_eq_true, decide_eq_true_eq] at h
        obtain ⟨⟨⟨⟨⟨⟨⟨h1, rfl⟩, h2⟩, h3⟩, h4⟩, h5⟩, h6⟩, h7⟩ := h
        obtain ⟨ki, e1, e2, e3⟩ := mapget c.exw hk
        obtain ⟨z1, z2⟩ := Prod.mk.inj e2
        obtain ⟨z2, z3⟩ := Prod.mk.inj z2
        have F : KMOk X ki := by
          rcases c.kwk ki e3 with ⟨F, _⟩ | ⟨_, F⟩
          · exact absurd (z1 ▸ F) h1
          · exact F
        rw [← z2]
        refine (DE.mclK tk F c.gd (sndE o c tk h6) h2 h3 (by rw [z3]; exact h4) h5 (sndEs es c tk h7).2.2).imp fun ρ M Q z => ?_
        unfold wpE at z
        rw [e1] at z
        dsimp only at z ⊢
        simp only [wpEs_eq] at z ⊢
        exact z
      · cases h
    · cases h
  | .mcl k o es, sc, X, E, e, c, tk, h => by
    unfold mtE at h
    split at h
    · simp only [Bool.and_eq_true, decide_eq_true_eq] at h
      obtain ⟨⟨⟨⟨⟨h1, h2⟩, h3⟩, h4⟩, h5⟩, h6⟩ := h
      rw [← c.mts, List.getElem?_map] at h1
      cases hm : C.ms[k]? with
      | none => rw [hm] at h1; cases h1
      | some mi =>
        rw [hm] at h1
        have e1 := Option.some.inj h1
        have e2 : mi.name = _ := e1
        subst e2
        refine (DE.mcl tk (c.mok mi (List.mem_of_getElem? hm)) c.gd (sndE o c tk h5) (sndEs es c tk h6).1 h2 h3 (mtEs_star h6) h4 ?_).imp fun ρ M Q z => ?_
        · intro he ρ M Q z
          subst he
          cases es with
          | nil => unfold wpEs at z; exact z
          | cons _ _ => unfold mtEs at h6; cases h6
        · unfold wpE at z
          rw [hm] at z
          exact z
    · cases h
  | .lenM k es, sc, X, E, e, c, tk, h => by
    unfold mtE at h
    split at h
    · simp only [Bool.and_eq_true, decide_eq_true_eq] at h
      obtain ⟨⟨⟨rfl, h2⟩, h3⟩, h4⟩ := h
      rw [← c.mts, List.getElem?_map] at h3
      cases hm : C.ms[k]? with
      | none => rw [hm] at h3; cases h3
      | some mi =>
        rw [hm] at h3
        have e1 : mi.name = "__len__" := Option.some.inj h3
        exact (DE.blt (len_own (c.lok mi (List.mem_of_getElem? hm) (by rw [e1]; decide)) e1 c.gd) (.inl ⟨_, rfl⟩) (c.gl h2) (c.blt _ (blt_mem .len)) (blt_boot .len) (blt_nm .len).1 (blt_nm .len).2 (sndEs es c tk h4).1 (mtEs_star h4)).imp fun ρ M Q z => by
          unfold wpE at z
          rw [hm] at z
          exact z
    · cases h
  | .eqM k neg a b, sc, X, E, e, c, tk, h => by
    unfold mtE at h
    split at h
    · simp only [Bool.and_eq_true, decide_eq_true_eq] at h
      obtain ⟨⟨⟨⟨h1, h2⟩, h3⟩, h4⟩, h5⟩ := h
      rw [← c.mts, List.getElem?_map] at h2
      cases hm : C.ms[k]? with
      | none => rw [hm] at h2; cases h2
      | some mi =>
        rw [hm] at h2
        have e1 : mi.name = "__eq__" := Option.some.inj h2
        refine (DE.cmp (eq_own (neg := neg) (c.lok mi (List.mem_of_getElem? hm) (by rw [e1]; decide)) e1 c.gd _ ?_) (sndE a c tk h4) (sndE b c tk h5) (nomark_of h3)).imp fun ρ M Q z => by
          unfold wpE at z
          rw [hm] at z
          exact z
        cases neg with
        | true => exact .inr ⟨h1, rfl⟩
        | false => exact .inl ⟨h1, rfl⟩
    · cases h
  | .isX1 kk o, sc, X, E, e, c, tk, h => by
    unfold mtE at h
    split at h
    · simp only [Bool.and_eq_true, decide_eq_true_eq] at h
      obtain ⟨⟨⟨⟨⟨⟨⟨h1, h2⟩, h3⟩, h4⟩, h5⟩, h6⟩, h7⟩, h8⟩ := h
      have b1 : ("isinstance" : Str) ∈ bltNames := by decide +kernel
      subst h3
      rw [← c.ext] at h4
      exact (DE.isX1 c.xko (fun xi hxi => (c.xco xi hxi _ h4).2) (c.xno _ h4) (sndE o c tk h8) h1 (c.gl h2) (h1 ▸ c.blt _ b1) (c.gl h5) (okName_spec h6).1 h7).imp fun ρ M Q z => by unfold wpE at z; exact z
    · cases h
  | .isXm ks o, sc, X, E, e, c, tk, h => by
    unfold mtE at h
    split at h
    · simp only [Bool.and_eq_true, decide_eq_true_eq, List.all_eq_true] at h
      obtain ⟨⟨⟨⟨⟨⟨h1, h2⟩, h3⟩, h4⟩, h5⟩, h6⟩, h7⟩ := h
      have b1 : ("isinstance" : Str) ∈ bltNames := by decide +kernel
      rw [← c.ext] at h4
      exact (DE.isXm c.xko (fun xi hxi k hk => (c.xco xi hxi k (h4 k hk).1.1).2) (fun k hk => c.xno k (h4 k hk).1.1) (sndE o c tk h7) h1 (c.gl h2) (h1 ▸ c.blt _ b1) (fun k hk => ⟨c.gl (h4 k hk).1.2, (okName_spec (h4 k hk).2).1⟩) h3 h5 h6).imp fun ρ M Q z => by unfold wpE at z; exact z
    · cases h
  | .isXt t o, sc, X, E, e, c, tk, h => by
    unfold mtE at h
    split at h
    · simp only [Bool.and_eq_true, decide_eq_true_eq] at h
      obtain ⟨⟨⟨⟨⟨h1, h2⟩, h3⟩, h4⟩, h5⟩, h6⟩ := h
      have b1 : ("isinstance" : Str) ∈ bltNames := by decide +kernel
      have b2 : t.nm ∈ bltNames := by cases t <;> decide +kernel
      exact (DE.isXt t c.xko (sndE o c tk h6) h1 h3 (c.gl h2) (h1 ▸ c.blt _ b1) (c.gl h4) (h3 ▸ c.blt _ b2) h5).imp fun ρ M Q z => by unfold wpE at z; exact z
    · cases h
  | .isVE o, sc, X, E, e, c, tk, h => by
    unfold mtE at h
    split at h
    · simp only [Bool.and_eq_true, decide_eq_true_eq] at h
      obtain ⟨⟨⟨⟨⟨⟨h1, h2⟩, h3⟩, h4⟩, h5⟩, h6⟩, h7⟩ := h
      have b1 : ("isinstance" : Str) ∈ bltNames := by decide +kernel
      exact (DE.isVE c.xko (sndE o c tk h7) h1 h3 (c.gl h2) (h1 ▸ c.blt _ b1) (c.gl h4) (h3 ▸ c.vek h5) h6).imp fun ρ M Q z => by unfold wpE at z; exact z
    · cases h
  | .xat f o, sc, X, E, e, c, tk, h => by
    unfold mtE at h
    split at h
    · simp only [Bool.and_eq_true, decide_eq_true_eq] at h
      obtain ⟨⟨rfl, h2⟩, h3⟩ := h
      exact (DE.xat c.xfo (sndE o c tk h3) h2).imp fun ρ M Q z => by unfold wpE at z; exact z
    · cases h
  | .callF i es, sc, X, E, e, c, tk, h => by
    unfold mtE at h
    split at h
    · simp only [Bool.and_eq_true, decide_eq_true_eq] at h
      obtain ⟨⟨⟨h1, h2⟩, h3⟩, h4⟩ := h
      obtain ⟨n1, n2, n3⟩ := okName_spec h3
      refine (DE.callF (fs := C.fs) (P := fun fi f => ∃ g ∈ C.gs, g.name = fi.name ∧ g.d = .ref f) c.fok (fun fi f M H A ⟨g, hg, e1, e2⟩ => by
        obtain ⟨v, u, m, r, rp⟩ := c.gok g hg
        have rp := rp M H A
        rw [e2] at rp
        have rp : v = .ref f := rp
        subst rp
        have r : u = .ref f := r
        rw [← e1, m, r]) tk c.gd (by rw [c.hN]; exact h1) (c.vis h2) n1 n2 (sndEs es c tk h4).1 (mtEs_star h4) ?_).imp fun ρ M Q z => by unfold wpE at z; exact z
      intro he ρ M Q z
      subst he
      cases es with
      | nil => unfold wpEs at z; exact z
      | cons _ _ => unfold mtEs at h4; cases h4
    · cases h
  | .callV i es, sc, X, E, e, c, tk, h => by
    unfold mtE at h
    split at h
    · simp only [Bool.and_eq_true, decide_eq_true_eq] at h
      obtain ⟨⟨⟨h1, h2⟩, h3⟩, h4⟩ := h
      obtain ⟨n1, n2, n3⟩ := okName_spec h3
      refine (DE.callV tk c.clk c.gd (by rw [c.hN]; exact h1) (c.vis h2) n1 n2 (sndEs es c tk h4).1 (mtEs_star h4) ?_).imp fun ρ M Q z => by unfold wpE at z; exact z
      intro he ρ M Q z
      subst he
      cases es with
      | nil => unfold wpEs at z; exact z
      | cons _ _ => unfold mtEs at h4; cases h4
    · cases h
  | .callL f es k js, sc, X, E, e, c, tk, h => by
    unfold mtE at h
    split at h
    · rename_i x p xs pos
      simp only [Bool.and_eq_true, decide_eq_true_eq] at h
      obtain ⟨⟨⟨h1, h2⟩, h3⟩, h4⟩ := h
      obtain ⟨n1, n2, n3⟩ := okName_spec h3
      split at h4
      · rename_i params body scope lpos hlast
        rw [Bool.and_eq_true] at h4
        obtain ⟨ci, g1, g2, L, mk⟩ := lamB_ok c h4.2
        obtain ⟨fi, e1, e2, e3⟩ := mapget c.exl h1
        have hxs : xs = xs.dropLast ++ [.Lambda params body scope lpos] := by
          have hne : xs ≠ [] := fun z => by rw [z] at hlast; cases hlast
          have e0 := List.getLast?_eq_some_getLast hne
          rw [e0] at hlast
          have e4 := Option.some.inj hlast
          rw [← e4]
          exact (List.dropLast_concat_getLast hne).symm
        rw [hxs]
        refine (DE.callL tk (c.lfk fi e3) e2 c.gd (c.gl h2) n1 mk L (sndEs es c tk h4.1).2.2 (mtEs_star h4.1)).imp fun ρ M Q z => ?_
        unfold wpE at z
        have z := wpEs_seq z
        rw [e1, g1] at z
        cases hc : capsD ρ js with
        | none => rw [hc] at z; exact z
        | some caps => rw [hc] at z; exact z
      · cases h4
    · cases h
  | .isC k o, sc, X, E, e, c, tk, h => by
    unfold mtE at h
    split at h
    · simp only [Bool.and_eq_true, decide_eq_true_eq] at h
      obtain ⟨⟨⟨⟨⟨⟨h1, h2⟩, h3⟩, h4⟩, h5⟩, h6⟩, h7⟩ := h
      rw [← c.mts, List.getElem?_map] at h3
      cases hm : C.ms[k]? with
      | none => rw [hm] at h3; cases h3
      | some mi =>
        rw [hm] at h3
        have e1 := Option.some.inj h3
        have e2 : mi.cls = _ := e1
        obtain ⟨Ca, f, g1, g2, g3, g4⟩ := c.mok mi (List.mem_of_getElem? hm)
        have b1 : ("isinstance" : Str) ∈ bltNames := by decide +kernel
        rw [e2] at g1
        refine (DE.isC g2 g1 (sndE o c tk h7) h1 (c.gl h2) (h1 ▸ c.blt _ b1) (c.gl h4) (okName_spec h5).1 h6).imp fun ρ M Q z => ?_
        unfold wpE at z
        rw [hm] at z
        rw [← e2]
        exact z
    · cases h
  | .disp fz ks es, sc, X, E, e, c, tk, h => by
    unfold mtE at h
    split at h
    · simp only [Bool.and_eq_true, decide_eq_true_eq, Bool.not_eq_true'] at h
      obtain ⟨⟨⟨⟨⟨⟨⟨⟨h1, h2⟩, h3⟩, h4⟩, h5⟩, h6⟩, h7⟩, h8⟩, h9⟩ := h
      refine (DE.disp (fz := fz) h1 (sndEs es c tk h9).2.2 (by rw [List.length_map]; exact h7) h2 h3 (fun e => by rw [e] at h4; cases h4) h5 h8 h6).imp fun ρ M Q z p hp => ?_
      unfold wpE at z
      exact wpEs_seq (z p hp)
    · cases h
  | .bad, _, _, _, _, _, _, _ => ⟨fun _ _ _ _ _ _ _ z => by unfold wpE at z; exact z.elim⟩
  | .bitlen o, sc, X, E, e, c, tk, h => by
    unfold mtE at h
    split at h
    · simp only [Bool.and_eq_true, decide_eq_true_eq] at h
      obtain ⟨⟨⟨rfl, h1⟩, h2⟩, h3⟩ := h
      exact (DE.bitlen (sndE o c tk h3) h1 h2).imp fun ρ M Q z => by unfold wpE at z; exact z
    · cases h
  | .comp fz elt tg k its own, sc, X, E, e, c, tk, h => by
    unfold mtE at h
    split at h
    · rename_i x t it scope pos
      have h' : (mtT mc scope tg t && mtE mc scope elt x && blkC mc.N sc scope (own.map fun i => (mc.N.getD i "", i)) && tg.at.all (fun i => own.contains i) && notSet it && mtI mc sc k its t it) = true := h
      simp only [Bool.and_eq_true] at h'
      obtain ⟨⟨⟨⟨⟨h1, h2⟩, h3⟩, h4⟩, h5⟩, h6⟩ := h'
      refine (DE.comp (fz := fz) c.calm c.nd (sndI c h6 (fun es hes => ⟨(sndEs its c tk hes).1, (sndEs its c tk hes).2.1⟩)) (blkOk_rel c h3)
        (fun s H Ca cl fp => sndT (c.blk s H scope Ca cl fp) tg t h1) (fun s H Ca cl fp => pts_yes) (fun s H Ca cl fp => sndE elt (c.blk s H scope Ca cl fp) takes_no h2) (notSet_spec h5) (own_at h4)).imp fun ρ M Q z => ?_
      unfold wpE at z
      rw [own_map]
      exact z
    · cases h
  | .compIf fz elt cond tg k its own, sc, X, E, e, c, tk, h => by
    unfold mtE at h
    split at h
    · rename_i x t it cn scope pos
      have h' : (mtT mc scope tg t && mtE mc scope elt x && mtE mc scope cond cn && blkC mc.N sc scope (own.map fun i => (mc.N.getD i "", i)) && tg.at.all (fun i => own.contains i) && notSet it && mtI mc sc k its t it) = true := h
      simp only [Bool.and_eq_true] at h'
      obtain ⟨⟨⟨⟨⟨⟨h1, h2⟩, h2c⟩, h3⟩, h4⟩, h5⟩, h6⟩ := h'
      refine (DE.comp (fz := fz) c.calm c.nd (sndI c h6 (fun es hes => ⟨(sndEs its c tk hes).1, (sndEs its c tk hes).2.1⟩)) (blkOk_rel c h3)
        (fun s H Ca cl fp => sndT (c.blk s H scope Ca cl fp) tg t h1) (fun s H Ca cl fp => pts_one (pt_upC (sndC cond (c.blk s H scope Ca cl fp) takes_no h2c))) (fun s H Ca cl fp => sndE elt (c.blk s H scope Ca cl fp) takes_no h2) (notSet_spec h5) (own_at h4)).imp fun ρ M Q z => ?_
      unfold wpE at z
      rw [own_map]
      exact z
    · cases h
theorem sndC : ∀ (ce : CE) {sc : Scope} {X : Cx} {E : EX} {e : Expr}, Cok mc C sc X → Takes X (upW (wd X) E) → mtE mc sc ce e = true → DC X e (wpC C ce E)
  | .not a, sc, X, E, e, c, tk, h => by
    unfold mtE at h
    split at h
    · exact (DC.not (sndC a c tk h)).imp fun ρ M Q z => by unfold wpC at z; exact z
    · cases h
  | .one a, sc, X, E, e, c, tk, h => by
    unfold mtE at h
    split at h
    · exact (DW.one (sndC a c tk h)).dc.imp fun ρ M Q z => by unfold wpC at z; exact z
    · cases h
  | .and a b, sc, X, E, e, c, tk, h => by
    unfold mtE at h
    split at h
    · simp only [Bool.and_eq_true] at h
      exact (DW.and (sndC a c tk h.1) (sndW b c tk ⟨_, _, _, rfl⟩ h.2)).dc.imp fun ρ M Q z => by unfold wpC at z; exact z
    · cases h
  | .or a b, sc, X, E, e, c, tk, h => by
    unfold mtE at h
    split at h
    · simp only [Bool.and_eq_true] at h
      exact (DW.or (sndC a c tk h.1) (sndW b c tk ⟨_, _, _, rfl⟩ h.2)).dc.imp fun ρ M Q z => by unfold wpC at z; exact z
    · cases h
  | .cmp op a b, sc, X, E, e, c, tk, h => by
    unfold mtE at h
    split at h
    · simp only [Bool.and_eq_true, decide_eq_true_eq] at h
      obtain ⟨⟨⟨rfl, h1⟩, h2⟩, h3⟩ := h
      exact (DC.cmp (op_cmpD (by have := c.un; omega) op) (sndE a c tk h2) (sndE b c tk h3) (nomark_of h1) (cmpD_bl op)).imp fun ρ M Q z => by unfold wpC at z; exact z
    · cases h
  | .chn op op2 a b d, sc, X, E, e, c, tk, h => by
    unfold mtE at h
    split at h
    · simp only [Bool.and_eq_true, decide_eq_true_eq] at h
      obtain ⟨⟨⟨⟨⟨rfl, rfl⟩, h1⟩, h2⟩, h3⟩, h4⟩ := h
      exact (DC.chn (op_cmpD (by have := c.un; omega) op) (op_cmpD (by have := c.un; omega) op2) (sndE a c tk h2) (sndE b c tk h3) (sndE d c tk h4) (nomark_of h1) (cmpD_bl op2)).imp fun ρ M Q z => by unfold wpC at z; exact z
    · cases h
  | .var i, sc, X, E, e, c, tk, h => by
    have hs : simpleTest e = true := by
      unfold mtE at h
      split at h
      · rfl
      · cases h
    exact (DC.truth (sndE (.var i) c tk h) hs).imp fun ρ M Q z => by
      unfold testD wpE
      unfold wpC at z
      exact z
  | .call f es, sc, X, E, e, c, tk, h => by
    have hs : simpleTest e = true := by
      unfold mtE at h
      split at h
      · rfl
      · cases h
    exact (DC.truth (sndE (.call f es) c tk h) hs).imp fun ρ M Q z => by unfold testD wpE; unfold wpC at z; exact z
  | .blt b fz es, sc, X, E, e, c, tk, h => by
    have hs : simpleTest e = true := by
      unfold mtE at h
      split at h
      · rfl
      · cases h
    exact (DC.truth (sndE (.blt b fz es) c tk h) hs).imp fun ρ M Q z => by unfold testD wpE; unfold wpC at z; exact z
  | .bl b, sc, X, E, e, c, tk, h => by
    have hs : simpleTest e = true := by
      unfold mtE at h
      split at h
      · rfl
      · cases h
    exact (DC.truth (sndE (.bl b) c tk h) hs).imp fun ρ M Q z => by unfold testD wpE truD; unfold wpC at z; exact z
  | .int _, _, _, _, _, _, _, _ => DC.never.imp fun ρ M Q z => by unfold wpC at z; exact z
  | .non, _, _, _, _, _, _, _ => DC.never.imp fun ρ M Q z => by unfold wpC at z; exact z
  | .str _, _, _, _, _, _, _, _ => DC.never.imp fun ρ M Q z => by unfold wpC at z; exact z
  | .glb _, _, _, _, _, _, _, _ => DC.never.imp fun ρ M Q z => by unfold wpC at z; exact z
  | .bin _ _ _ _, _, _, _, _, _, _, _ => DC.never.imp fun ρ M Q z => by unfold wpC at z; exact z
  | .neg _, _, _, _, _, _, _, _ => DC.never.imp fun ρ M Q z => by unfold wpC at z; exact z
  | .ife _ _ _, _, _, _, _, _, _, _ => DC.never.imp fun ρ M Q z => by unfold wpC at z; exact z
  | .tup _, _, _, _, _, _, _, _ => DC.never.imp fun ρ M Q z => by unfold wpC at z; exact z
  | .lst _ _, _, _, _, _, _, _, _ => DC.never.imp fun ρ M Q z => by unfold wpC at z; exact z
  | .ix a b, sc, X, E, e, c, tk, h => by
    have hs : simpleTest e = true := by
      unfold mtE at h
      split at h
      · rfl
      · cases h
    exact (DC.truth (sndE (.ix a b) c tk h) hs).imp fun ρ M Q z => by unfold testD wpE; unfold wpC at z; exact z
  | .op k es, sc, X, E, e, c, tk, h => by
    have hs : simpleTest e = true := by
      unfold mtE at h
      split at h
      · rename_i hx; exact opArgs_simple hx
      · cases h
    exact (DC.truth (sndE (.op k es) c tk h) hs).imp fun ρ M Q z => by unfold testD wpE; unfold wpC at z; exact z
  | .meth m o es, sc, X, E, e, c, tk, h => by
    have hs : simpleTest e = true := by
      unfold mtE at h
      split at h
      · rfl
      · cases h
    exact (DC.truth (sndE (.meth m o es) c tk h) hs).imp fun ρ M Q z => by unfold testD wpE; unfold wpC at z; exact z
  | .att k o, sc, X, E, e, c, tk, h => by
    have hs : simpleTest e = true := by
      unfold mtE at h
      split at h
      · rfl
      · cases h
    refine (DC.truth (sndE (.att k o) c tk h) hs).imp fun ρ M Q z => ?_
    unfold testD wpE
    unfold wpC at z
    cases ha : C.as[k]? with
    | none => rw [ha] at z; exact z
    | some a => rw [ha] at z; exact z
  | .mcl k o es, sc, X, E, e, c, tk, h => by
    have hs : simpleTest e = true := by
      unfold mtE at h
      split at h
      · rfl
      · cases h
    refine (DC.truth (sndE (.mcl k o es) c tk h) hs).imp fun ρ M Q z => ?_
    unfold testD wpE
    unfold wpC at z
    cases ha : C.ms[k]? with
    | none => rw [ha] at z; exact z.elim
    | some mi => rw [ha] at z; exact z
  | .isX1 kk o, sc, X, E, e, c, tk, h => by
    have hs : simpleTest e = true := by
      unfold mtE at h
      split at h
      · rfl
      · cases h
    exact (DC.truth (sndE (.isX1 kk o) c tk h) hs).imp fun ρ M Q z => by unfold testD wpE; unfold wpC at z; exact z
  | .isXm ks o, sc, X, E, e, c, tk, h => by
    have hs : simpleTest e = true := by
      unfold mtE at h
      split at h
      · rfl
      · cases h
    exact (DC.truth (sndE (.isXm ks o) c tk h) hs).imp fun ρ M Q z => by unfold testD wpE; unfold wpC at z; exact z
  | .isXt t o, sc, X, E, e, c, tk, h => by
    have hs : simpleTest e = true := by
      unfold mtE at h
      split at h
      · rfl
      · cases h
    exact (DC.truth (sndE (.isXt t o) c tk h) hs).imp fun ρ M Q z => by unfold testD wpE; unfold wpC at z; exact z
  | .isVE o, sc, X, E, e, c, tk, h => by
    have hs : simpleTest e = true := by
      unfold mtE at h
      split at h
      · rfl
      · cases h
    exact (DC.truth (sndE (.isVE o) c tk h) hs).imp fun ρ M Q z => by unfold testD wpE; unfold wpC at z; exact z
  | .xat _ _, _, _, _, _, _, _, _ => DC.never.imp fun ρ M Q z => by unfold wpC at z; exact z
  | .callF _ _, _, _, _, _, _, _, _ => DC.never.imp fun ρ M Q z => by unfold wpC at z; exact z
  | .callV _ _, _, _, _, _, _, _, _ => DC.never.imp fun ρ M Q z => by unfold wpC at z; exact z
  | .callL _ _ _ _, _, _, _, _, _, _, _ => DC.never.imp fun ρ M Q z => by unfold wpC at z; exact z
  | .callK _ _, _, _, _, _, _, _, _ => DC.never.imp fun ρ M Q z => by unfold wpC at z; exact z
  | .mclK _ _ _, _, _, _, _, _, _, _ => DC.never.imp fun ρ M Q z => by unfold wpC at z; exact z
  | .lenM _ _, _, _, _, _, _, _, _ => DC.never.imp fun ρ M Q z => by unfold wpC at z; exact z
  | .isC _ _, _, _, _, _, _, _, _ => DC.never.imp fun ρ M Q z => by unfold wpC at z; exact z
  | .eqM k neg a b, sc, X, E, e, c, tk, h => by
    unfold mtE at h
    split at h
    · simp only [Bool.and_eq_true, decide_eq_true_eq] at h
      obtain ⟨⟨⟨⟨h1, h2⟩, h3⟩, h4⟩, h5⟩ := h
      rw [← c.mts, List.getElem?_map] at h2
      cases hm : C.ms[k]? with
      | none => rw [hm] at h2; cases h2
      | some mi =>
        rw [hm] at h2
        have e1 : mi.name = "__eq__" := Option.some.inj h2
        refine (DC.cmp (eq_own (neg := neg) (c.lok mi (List.mem_of_getElem? hm) (by rw [e1]; decide)) e1 c.gd _ ?_) (sndE a c tk h4) (sndE b c tk h5) (nomark_of h3) eqO_bl).imp fun ρ M Q z => by
          unfold wpC at z
          rw [hm] at z
          exact z
        cases neg with
        | true => exact .inr ⟨h1, rfl⟩
        | false => exact .inl ⟨h1, rfl⟩
    · cases h
  | .disp _ _ _, _, _, _, _, _, _, _ => DC.never.imp fun ρ M Q z => by unfold wpC at z; exact z
  | .sl _ _ _ _, _, _, _, _, _, _, _ => DC.never.imp fun ρ M Q z => by unfold wpC at z; exact z
  | .slL _ _ _, _, _, _, _, _, _, _ => DC.never.imp fun ρ M Q z => by unfold wpC at z; exact z
  | .slH _ _ _, _, _, _, _, _, _, _ => DC.never.imp fun ρ M Q z => by unfold wpC at z; exact z
  | .mth _ _ _, _, _, _, _, _, _, _ => DC.never.imp fun ρ M Q z => by unfold wpC at z; exact z
  | .isi t o, sc, X, E, e, c, tk, h => by
    have hs : simpleTest e = true := by
      unfold mtE at h
      split at h
      · rfl
      · cases h
    exact (DC.truth (sndE (.isi t o) c tk h) hs).imp fun ρ M Q z => by unfold testD wpE; unfold wpC at z; exact z
  | .rev _ _, _, _, _, _, _, _, _ => DC.never.imp fun ρ M Q z => by unfold wpC at z; exact z
  | .bad, _, _, _, _, _, _, _ => DC.never.imp fun ρ M Q z => by unfold wpC at z; exact z
  | .bitlen _, _, _, _, _, _, _, _ => DC.never.imp fun ρ M Q z => by unfold wpC at z; exact z
  | .comp _ _ _ _ _ _, _, _, _, _, _, _, _ => DC.never.imp fun ρ M Q z => by unfold wpC at z; exact z
  | .compIf _ _ _ _ _ _ _, _, _, _, _, _, _, _ => DC.never.imp fun ρ M Q z => by unfold wpC at z; exact z
theorem sndW : ∀ (ce : CE) {sc : Scope} {X : Cx} {E : EX} {e : Expr}, Cok mc C sc X → Takes X (upW (wd X) E) → (∃ op xs p, e = .BoolOp op xs p) → mtE mc sc ce e = true → DW X e (wpC C ce E)
  | .one a, sc, X, E, e, c, tk, _, h => by
    unfold mtE at h
    split at h
    · exact (DW.one (sndC a c tk h)).imp fun ρ M Q z => by unfold wpC at z; exact z
    · cases h
  | .and a b, sc, X, E, e, c, tk, _, h => by
    unfold mtE at h
    split at h
    · simp only [Bool.and_eq_true] at h
      exact (DW.and (sndC a c tk h.1) (sndW b c tk ⟨_, _, _, rfl⟩ h.2)).imp fun ρ M Q z => by unfold wpC at z; exact z
    · cases h
  | .or a b, sc, X, E, e, c, tk, _, h => by
    unfold mtE at h
    split at h
    · simp only [Bool.and_eq_true] at h
      exact (DW.or (sndC a c tk h.1) (sndW b c tk ⟨_, _, _, rfl⟩ h.2)).imp fun ρ M Q z => by unfold wpC at z; exact z
    · cases h
  | .isi _ _, _, _, _, _, _, _, ⟨_, _, _, e⟩, h => by subst e; unfold mtE at h; cases h
  | .rev _ _, _, _, _, _, _, _, ⟨_, _, _, e⟩, h => by subst e; unfold mtE at h; cases h
  | .bad, _, _, _, _, _, _, _, _ => DW.never.imp fun ρ M Q z => by unfold wpC at z; exact z
  | .int _, _, _, _, _, _, _, ⟨_, _, _, e⟩, h => by subst e; unfold mtE at h; cases h
  | .non, _, _, _, _, _, _, ⟨_, _, _, e⟩, h => by subst e; unfold mtE at h; cases h
  | .str _, _, _, _, _, _, _, ⟨_, _, _, e⟩, h => by subst e; unfold mtE at h; cases h
  | .glb _, _, _, _, _, _, _, ⟨_, _, _, e⟩, h => by subst e; unfold mtE at h; cases h
  | .bin _ _ _ _, _, _, _, _, _, _, ⟨_, _, _, e⟩, h => by subst e; unfold mtE at h; cases h
  | .neg _, _, _, _, _, _, _, ⟨_, _, _, e⟩, h => by subst e; unfold mtE at h; cases h
  | .ife _ _ _, _, _, _, _, _, _, ⟨_, _, _, e⟩, h => by subst e; unfold mtE at h; cases h
  | .tup _, _, _, _, _, _, _, ⟨_, _, _, e⟩, h => by subst e; unfold mtE at h; cases h
  | .lst _ _, _, _, _, _, _, _, ⟨_, _, _, e⟩, h => by subst e; unfold mtE at h; cases h
  | .ix _ _, _, _, _, _, _, _, ⟨_, _, _, e⟩, h => by subst e; unfold mtE at h; cases h
  | .op k _, sc, _, _, _, _, _, ⟨_, _, _, e⟩, h => by
    subst e; unfold mtE at h
    have : ∀ a b c, opArgs sc k (.BoolOp a b c) = none := fun a b c => by unfold opArgs; cases k <;> rfl
    rw [this] at h; cases h
  | .meth _ _ _, _, _, _, _, _, _, ⟨_, _, _, e⟩, h => by subst e; unfold mtE at h; cases h
  | .att _ _, _, _, _, _, _, _, ⟨_, _, _, e⟩, h => by subst e; unfold mtE at h; cases h
  | .mcl _ _ _, _, _, _, _, _, _, ⟨_, _, _, e⟩, h => by subst e; unfold mtE at h; cases h
  | .callK _ _, _, _, _, _, _, _, ⟨_, _, _, e⟩, h => by subst e; unfold mtE at h; cases h
  | .mclK _ _ _, _, _, _, _, _, _, ⟨_, _, _, e⟩, h => by subst e; unfold mtE at h; cases h
  | .lenM _ _, _, _, _, _, _, _, ⟨_, _, _, e⟩, h => by subst e; unfold mtE at h; cases h
  | .eqM _ _ _ _, _, _, _, _, _, _, ⟨_, _, _, e⟩, h => by subst e; unfold mtE at h; cases h
  | .isX1 _ _, _, _, _, _, _, _, ⟨_, _, _, e⟩, h => by subst e; unfold mtE at h; cases h
  | .isXm _ _, _, _, _, _, _, _, ⟨_, _, _, e⟩, h => by subst e; unfold mtE at h; cases h
  | .isXt _ _, _, _, _, _, _, _, ⟨_, _, _, e⟩, h => by subst e; unfold mtE at h; cases h
  | .isVE _, _, _, _, _, _, _, ⟨_, _, _, e⟩, h => by subst e; unfold mtE at h; cases h
  | .xat _ _, _, _, _, _, _, _, ⟨_, _, _, e⟩, h => by subst e; unfold mtE at h; cases h
  | .callF _ _, _, _, _, _, _, _, ⟨_, _, _, e⟩, h => by subst e; unfold mtE at h; cases h
  | .callV _ _, _, _, _, _, _, _, ⟨_, _, _, e⟩, h => by subst e; unfold mtE at h; cases h
  | .callL _ _ _ _, _, _, _, _, _, _, ⟨_, _, _, e⟩, h => by subst e; unfold mtE at h; cases h
  | .isC _ _, _, _, _, _, _, _, ⟨_, _, _, e⟩, h => by subst e; unfold mtE at h; cases h
  | .disp _ _ _, _, _, _, _, _, _, ⟨_, _, _, e⟩, h => by subst e; unfold mtE at h; cases h
  | .sl _ _ _ _, _, _, _, _, _, _, ⟨_, _, _, e⟩, h => by subst e; unfold mtE at h; cases h
  | .slL _ _ _, _, _, _, _, _, _, ⟨_, _, _, e⟩, h => by subst e; unfold mtE at h; cases h
  | .slH _ _ _, _, _, _, _, _, _, ⟨_, _, _, e⟩, h => by subst e; unfold mtE at h; cases h
  | .mth _ _ _, _, _, _, _, _, _, ⟨_, _, _, e⟩, h => by subst e; unfold mtE at h; cases h
  | .bitlen _, _, _, _, _, _, _, ⟨_, _, _, e⟩, h => by subst e; unfold mtE at h; cases h
  | .comp _ _ _ _ _ _, _, _, _, _, _, _, ⟨_, _, _, e⟩, h => by subst e; unfold mtE at h; cases h
  | .compIf _ _ _ _ _ _ _, _, _, _, _, _, _, ⟨_, _, _, e⟩, h => by subst e; unfold mtE at h; cases h
  | .var _, _, _, _, _, _, _, ⟨_, _, _, e⟩, h => by subst e; unfold mtE at h; cases h
  | .bl _, _, _, _, _, _, _, ⟨_, _, _, e⟩, h => by subst e; unfold mtE at h; cases h
  | .not _, _, _, _, _, _, _, ⟨_, _, _, e⟩, h => by subst e; unfold mtE at h; cases h
  | .cmp _ _ _, _, _, _, _, _, _, ⟨_, _, _, e⟩, h => by subst e; unfold mtE at h; cases h
  | .chn _ _ _ _ _, _, _, _, _, _, _, ⟨_, _, _, e⟩, h => by subst e; unfold mtE at h; cases h
  | .call _ _, _, _, _, _, _, _, ⟨_, _, _, e⟩, h => by subst e; unfold mtE at h; cases h
  | .blt _ _ _, _, _, _, _, _, _, ⟨_, _, _, e⟩, h => by subst e; unfold mtE at h; cases h
theorem sndEs : ∀ (cs : List CE) {sc : Scope} {X : Cx} {E : EX} {es : List Expr}, Cok mc C sc X → Takes X (upW (wd X) E) → mtEs mc sc cs es = true → DA X es (wpEs C cs E) ∧ (∀ ce e, cs = [ce] → es = [e] → DE X e (wpE C ce E)) ∧ DEs X es (cs.map fun c => wpE C c E)
  | [], sc, X, E, es, c, tk, h => by
    unfold mtEs at h
    split at h
    · refine ⟨⟨fun σ H ρ M Q S A z => ?_⟩, fun _ _ e => (nomatch e), trivial⟩
      unfold wpEs at z
      exact DA.nil.to σ H ρ M Q S A z
    · cases h
  | ce :: cs, sc, X, E, es, c, tk, h => by
    unfold mtEs at h
    split at h
    · cases h
    · simp only [Bool.and_eq_true] at h
      have h1 := sndE ce c tk h.1.2
      obtain ⟨g1, g2, g3⟩ := sndEs cs c tk h.2
      refine ⟨⟨fun σ H ρ M Q S A z => ?_⟩, fun ce' e' q1 q2 => ?_, h1, g3⟩
      · unfold wpEs at z
        exact (DA.cons h1 g1 h.1.1).to σ H ρ M Q S A z
      · cases q1; cases q2; exact h1
end
end
end Ow
namespace Ow
open PySem PySem.Spec PyProof.Rows L2
variable [Tb]
def notComp (e : Expr) : Bool := match e with | .ListComp .. => false | .SetComp .. => false | .DictComp .. => false | _ => true
theorem noSwap {e : Expr} {t : Option Expr} {l : Nat} {env : Env} (h : notComp e = true) : swapsWith e t l env = pure false := by
  cases e <;> first | rfl | cases h
/-- a stored comprehension that is not stored within -/
def outComp (sc : Scope) (x : Str) (px : Pos) (e : Expr) : Bool := match e with
  | .ListComp _ _ s p => !plainB sc x || !(px.line == p.line)
  | _ => notComp e
def inComp (sc : Scope) (x : Str) (px : Pos) (e : Expr) : Bool := match e with
  | .ListComp _ _ s p => plainB sc x && (px.line == p.line) && !(s.names.any fun (n, k) => n == x && (k == .local || k == .cell))
  | _ => false
def notPlainE (sc : Scope) : Expr → Bool
  | .Name x _ => !plainB sc x
  | .Tuple .. => true
  | _ => false
def suB (C : MC) (sc : Scope) (i : Option Nat) (su : SU) (suite : List Stmt) : Bool := match su, suite, i with
  | .set j, [.Assign [.Name y _] (.Name e _) _], some i' => decide (C.N[j]? = some y) && locB sc y && decide (C.N[i']? = some e) && visB sc e && okName e
  | .ret, [.Return (some (.Name e _)) _], some i' => decide (C.N[i']? = some e) && visB sc e && okName e
  | .retP s f, [.Return (some (.Tuple [.Constant (.str s') _ _, .Attribute (.Name e _) f' _] _ _)) _], some i' => decide (s' = s) && decide (f' = f) && decide (C.N[i']? = some e) && visB sc e && okName e
  | .retN s, [.Return (some (.Tuple [.Constant (.str s') _ _, .Constant .none _ _] _ _)) _], _ => decide (s' = s)
  | .retL f, [.Return (some (.List [.Attribute (.Name e _) f' _] _)) _], some i' => decide (f' = f) && decide (C.N[i']? = some e) && visB sc e && okName e
  | _, _, _ => false
def hdB (C : MC) (sc : Scope) : List (Str × Option Nat × SU) → List ExceptHandler → Bool
  | [], hds => match hds with
    | [] => true
    | _ :: _ => false
  | (c, i, su) :: l, hds => match hds with
    | .ExceptHandler (some (.Name c' _)) n (b0 :: suite) _ :: hds => decide (c' = c) && glB sc c && okName c && decide (c ∈ C.ex.xts) && (match n, i with
      | none, none => true
      | some m, some j => decide (C.N[j]? = some m) && plainB sc m
      | _, _ => false) && suB C sc i su (b0 :: suite) && hdB C sc l hds
    | _ => false
mutual
def mtS (C : MC) (sc : Scope) : CS → Stmt → Bool
  | .set i e, st => match st with
    | .Assign [.Name x px] v _ => decide (C.N[i]? = some x) && locB sc x && outComp sc x px v && mtE C sc e v
    | _ => false
  | .setLc i e, st => match st with
    | .Assign [.Name x px] v _ => decide (C.N[i]? = some x) && inComp sc x px v && mtE C sc e v
    | _ => false
  | .asg t e, st => match st with
    | .Assign [.Tuple ts _ _] v _ => mtT C sc t (.Tuple ts 0 ⟨0, 0, 0, 0⟩) && mtE C sc e v && (match v with
      | .Tuple vs _ _ => !(ts.length == 2 || ts.length == 3) || vs.length != ts.length || vs.all (foldedForSure 8) || ts.any (notPlainE sc)
      | _ => true)
    | _ => false
  | .par i j a b, st => match st with
    | .Assign [.Tuple [.Name x px, .Name y py] _ _] (.Tuple [v, w] _ _) _ => decide (C.N[i]? = some x) && decide (C.N[j]? = some y) && decide (i ≠ j) && decide (x ≠ y) && plainB sc x && plainB sc y && decide (py.line = px.line) &&
      !([v, w].all (foldedForSure 8)) && !([v, w].all (constantsAlone 8)) && notStar v && notStar w && mtE C sc a v && mtE C sc b w
    | _ => false
  | .par3 i j l a b c, st => match st with
    | .Assign [.Tuple [.Name x px, .Name y py, .Name z pz] _ _] (.Tuple [v, w, u] _ _) _ => decide (C.N[i]? = some x) && decide (C.N[j]? = some y) && decide (C.N[l]? = some z) && decide (i ≠ j) && decide (i ≠ l) && decide (j ≠ l) && decide (x ≠ y) && decide (x ≠ z) && decide (y ≠ z) &&
      plainB sc x && plainB sc y && plainB sc z && decide (py.line = px.line) && decide (pz.line = px.line) &&
      !([v, w, u].all (foldedForSure 8)) && !([v, w, u].all (constantsAlone 8)) && notStar v && notStar w && notStar u && mtE C sc a v && mtE C sc b w && mtE C sc c u
    | _ => false
  | .sat k o e, st => match st with
    | .Assign [.Attribute y nm _] v _ => decide (C.ats[k]?.map AI.f = some nm) && notComp v && mtE C sc o y && mtE C sc e v
    | _ => false
  | .setix o i e, st => match st with
    | .Assign [.Subscript x y _] v _ => notSlice y && notComp v && mtE C sc o x && mtE C sc i y && mtE C sc e v
    | _ => false
  | .aug i op e, st => match st with
    | .AugAssign (.Name x _) op' v _ => decide (op = op') && decide (C.N[i]? = some x) && locB sc x && mtE C sc e v
    | _ => false
  | .expr e, st => match st with
    | .Expr v _ => notComp v && mtE C sc e v
    | _ => false
  | .ret e, st => match st with
    | .Return (some v) _ => mtE C sc e v
    | _ => false
  | .retN, st => match st with
    | .Return none _ => true
    | _ => false
  | .rse k es, st => match st with
    | .Raise (some (.Call (.Name x _) xs [] _)) none _ => decide (C.ex.rs[k]?.map XI.name = some x) && glB sc x && okName x && mtEs C sc es xs
    | _ => false
  | .tryX b l, st => match st with
    | .Try body hds [] [] _ => !hds.isEmpty && mtB C sc b body && hdB C sc l hds
    | _ => false
  | .frz _, _ => false
  | .bad, _ => true
  | .pass, st => match st with
    | .Pass _ => true
    | _ => false
  | .brk, st => match st with
    | .Break _ => true
    | _ => false
  | .cont, st => match st with
    | .Continue _ => true
    | _ => false
  | .ifs c a b, st => match st with
    | .If v x y _ => mtE C sc c v && mtB C sc a x && mtB C sc b y
    | _ => false
  | .whl c b, st => match st with
    | .While v x [] _ => mtE C sc c v && mtB C sc b x
    | _ => false
  | .for t k its b, st => match st with
    | .For tg it x [] _ => mtT C sc t tg && notSet it && mtI C sc k its tg it && mtB C sc b x
    | _ => false
def mtB (C : MC) (sc : Scope) : List CS → List Stmt → Bool
  | [], sts => match sts with
    | [] => true
    | _ :: _ => false
  | c :: cs, sts => match c with
    | .frz _ => mtB C sc cs sts
    | c => match sts with
      | [] => false
      | s :: ss => mtS C sc c s && mtB C sc cs ss
end
theorem frz_abs [Og] {W : Wd} {M : Mp} {H : Hp} {ρ : DSt} {σ : L2.St} {i : Nat} {a : Addr} {l : List D} (S : AbsS W M H ρ σ) (A : AbsM W M H) (hi : ρ[i]? = some (some (.ref a))) (ha : M a = some (.lst l)) :
    AbsS W (M.del a) H (ρ.set i (some (.lst l))) σ ∧ AbsM W (M.del a) H ∧ Ext W M H (M.del a) H := by
  have x : Ext W M H (M.del a) H := Ext.forget Mp.sub_del
  refine ⟨⟨by rw [List.length_set]; exact S.len, fun j d h => ?_, S.og.trans x⟩, A.forget Mp.sub_del, x⟩
  by_cases hj : i = j
  · subst hj
    rw [List.getElem?_set] at h
    simp only [if_true] at h
    split at h
    · cases h
      obtain ⟨v, h1, h2⟩ := S.at_ i _ hi
      have h2' : v = .ref a := h2
      subst h2'
      obtain ⟨xs, h3, h4⟩ := A.ob a _ ha
      exact ⟨_, h1, a, xs, rfl, Mp.del_same, h3, h4.ext x⟩
    · cases h
  · rw [List.getElem?_set_ne hj] at h
    obtain ⟨v, h1, h2⟩ := S.at_ j d h
    exact ⟨v, h1, h2.ext x⟩
structure CokS [Og] (mc : MC) (C : Ctx) (sc : Scope) (X : Cx) (E : EX) : Prop extends Cok mc C sc X where
  fk : X.env.scope.kind = .function
  tk : Takes X (upW (wd X) E)
  hp : PassesOwn (model X.prog X.w) X.A X.env X.xe
  stk : X.stack = X.env :: X.outer
  frm : X.env.frame = some X.env.locals
  exn : X.ex = []
theorem mtE_comp {C : MC} {sc : Scope} {fz : Bool} {elt : CE} {tg : CT} {k : IK} {its : List CE} {own : List Nat} {e : Expr} (h : mtE C sc (.comp fz elt tg k its own) e = true) : ∃ x t it scope pos, e = .ListComp x [⟨t, it, [], 0⟩] scope pos ∧
    (mtT C scope tg t && mtE C scope elt x && blkC C.N sc scope (own.map fun i => (C.N.getD i "", i)) && tg.at.all (fun i => own.contains i) && notSet it && mtI C sc k its t it) = true := by
  unfold mtE at h
  split at h
  · exact ⟨_, _, _, _, _, rfl, h⟩
  · cases h
theorem mtE_compIf {C : MC} {sc : Scope} {fz : Bool} {elt cond : CE} {tg : CT} {k : IK} {its : List CE} {own : List Nat} {e : Expr} (h : mtE C sc (.compIf fz elt cond tg k its own) e = true) : ∃ x t it cn scope pos, e = .ListComp x [⟨t, it, [cn], 0⟩] scope pos ∧
    (mtT C scope tg t && mtE C scope elt x && mtE C scope cond cn && blkC C.N sc scope (own.map fun i => (C.N.getD i "", i)) && tg.at.all (fun i => own.contains i) && notSet it && mtI C sc k its t it) = true := by
  unfold mtE at h
  split at h
  · exact ⟨_, _, _, _, _, _, rfl, h⟩
  · cases h
theorem mtTs_loc {C : MC} {sc : Scope} {x : Str} {p : Pos} : ∀ {ts : List CT} {es : List Expr}, mtTs C sc ts es = true → Expr.Name x p ∈ es → locB sc x = true
  | [], es, h, hm => by
    unfold mtTs at h
    split at h
    · cases hm
    · cases h
  | t :: ts, es, h, hm => by
    unfold mtTs at h
    split at h
    · cases h
    · simp only [Bool.and_eq_true] at h
      rcases List.mem_cons.mp hm with e | hm
      · have h1 := h.1.2
        rw [← e] at h1
        cases t with
        | nm i =>
          unfold mtT at h1
          simp only [Bool.and_eq_true] at h1
          exact h1.2
        | tup l => unfold mtT at h1; cases h1
      · exact mtTs_loc h.2 hm
theorem mtT_loc {C : MC} {sc : Scope} {x : Str} {p : Pos} {t : CT} {ts : List Expr} {k : Nat} {q : Pos} (h : mtT C sc t (.Tuple ts k q) = true) (hm : Expr.Name x p ∈ ts) : locB sc x = true := by
  cases t with
  | nm i => unfold mtT at h; cases h
  | tup l => unfold mtT at h; exact mtTs_loc h hm
section
variable {mc : MC} {C : Ctx} {sc : Scope}
theorem CokS.bk [Og] {X : Cx} {E : EX} (c : CokS mc C sc X E) : X.env.blockKind = .function := by
  unfold Env.blockKind
  rw [c.fk]; rfl
theorem out_swap [Og] {X : Cx} {E : EX} (c : CokS mc C sc X E) {x : Str} {px : Pos} {e : Expr} {l : Nat} (h : outComp sc x px e = true) (hl : locB sc x = true) : swapsWith e (some (.Name x px)) l X.env = pure false := by
  unfold outComp at h
  split at h
  · rename_i el gs s p
    unfold swapsWith
    simp only
    have : (X.env.blockKind == .function && X.env.kindOf x == some .local && px.line == (Expr.ListComp el gs s p).pos.line && !(s.names.any fun (n, k) => n == x && (k == .local || k == .cell))) = false := by
      rw [Bool.or_eq_true] at h
      rcases h with h | h
      · have hk : X.env.kindOf x = some .cell := by
          unfold plainB at h
          unfold locB at hl
          split at hl
          · rename_i e; rw [e] at h; cases h
          · rename_i e; exact (c.rel x _ e).1 (by decide)
          · cases hl
        rw [hk]; simp
      · have : (px.line == (Expr.ListComp el gs s p).pos.line) = false := by
          have h' : (!(px.line == p.line)) = true := h
          show (px.line == p.line) = false
          simpa using h'
        rw [this]; simp
    exact congrArg pure this
  · exact noSwap h
theorem suT_ok {X : Cx} (c : Cok mc C sc X) {i : Option Nat} {su : SU} {suite : List Stmt} (h : suB mc sc i su suite = true) : SuT X i su suite := by
  unfold suB at h
  split at h
  · simp only [Bool.and_eq_true, decide_eq_true_eq] at h
    obtain ⟨⟨⟨⟨h1, h2⟩, h3⟩, h4⟩, h5⟩ := h
    obtain ⟨n1, n2, _⟩ := okName_spec h5
    obtain ⟨l1, l2⟩ := c.loc h2
    exact ⟨_, _, _, _, _, _, rfl, rfl, by rw [c.hN]; exact h1, l1, l2, by rw [c.hN]; exact h3, c.vis h4, n1, n2⟩
  · simp only [Bool.and_eq_true, decide_eq_true_eq] at h
    obtain ⟨⟨h3, h4⟩, h5⟩ := h
    obtain ⟨n1, n2, _⟩ := okName_spec h5
    exact ⟨_, _, _, _, rfl, rfl, by rw [c.hN]; exact h3, c.vis h4, n1, n2⟩
  · simp only [Bool.and_eq_true, decide_eq_true_eq] at h
    obtain ⟨⟨⟨⟨rfl, rfl⟩, h3⟩, h4⟩, h5⟩ := h
    obtain ⟨n1, n2, _⟩ := okName_spec h5
    exact ⟨_, _, _, _, _, _, _, _, _, rfl, rfl, by rw [c.hN]; exact h3, c.vis h4, n1, n2⟩
  · simp only [decide_eq_true_eq] at h
    subst h
    exact ⟨_, _, _, _, _, _, _, rfl⟩
  · simp only [Bool.and_eq_true, decide_eq_true_eq] at h
    obtain ⟨⟨⟨rfl, h3⟩, h4⟩, h5⟩ := h
    obtain ⟨n1, n2, _⟩ := okName_spec h5
    exact ⟨_, _, _, _, _, _, rfl, rfl, by rw [c.hN]; exact h3, c.vis h4, n1, n2⟩
  · cases h
theorem hdT_ok {X : Cx} (c : Cok mc C sc X) : ∀ {l : List (Str × Option Nat × SU)} {hds : List ExceptHandler}, hdB mc sc l hds = true → HdT X hds l ∧ ∀ h ∈ l, h.1 ∈ C.ex.xts
  | [], hds, h => by
    unfold hdB at h
    split at h
    · exact ⟨.nil, fun h hh => by cases hh⟩
    · cases h
  | (cn, i, su) :: l, hds, h => by
    unfold hdB at h
    split at h
    · rename_i c' np n b0 suite pos' hds'
      simp only [Bool.and_eq_true, decide_eq_true_eq] at h
      obtain ⟨⟨⟨⟨⟨⟨rfl, h2⟩, h3⟩, h4⟩, h5⟩, h6⟩, h7⟩ := h
      obtain ⟨r1, r2⟩ := hdT_ok c h7
      refine ⟨.cons (c.gl h2) (okName_spec h3).1 ?_ (suT_ok c h6) r1, fun h hh => ?_⟩
      · split at h5
        · exact .inl ⟨rfl, rfl⟩
        · rename_i m j
          simp only [Bool.and_eq_true, decide_eq_true_eq] at h5
          exact .inr ⟨m, j, rfl, rfl, by rw [c.hN]; exact h5.1, c.plain h5.2⟩
        · cases h5
      · rcases List.mem_cons.mp hh with e | e
        · rw [e, c.ext]; exact h4
        · exact r2 h e
    · cases h
mutual
theorem sndS : ∀ [Og] {X : Cx} {E : EX}, CokS mc C sc X E → ∀ (cs : CS) (st : Stmt), mtS mc sc cs st = true → DS X st (wpS C E cs)
  | og, X, E, c, .set i e, st, h => by
    unfold mtS at h
    split at h
    · simp only [Bool.and_eq_true, decide_eq_true_eq] at h
      obtain ⟨⟨⟨h1, h2⟩, h3⟩, h4⟩ := h
      obtain ⟨l1, l2⟩ := c.loc h2
      have r := DS.set (pos := by assumption) c.nd (by rw [c.hN]; exact h1) l1 l2 (sndE e c.toCok c.tk h4) (out_swap c h3 h2)
      exact ⟨fun σ H ρ M D De S A z k => r.to σ H ρ M D De S A (by unfold wpS at z; exact z) k⟩
    · cases h
  | og, X, E, c, .setLc i e, st, h => by
    unfold mtS at h
    split at h
    · rename_i x px v pos
      simp only [Bool.and_eq_true, decide_eq_true_eq] at h
      obtain ⟨⟨h1, h3⟩, h4⟩ := h
      cases e with
      | comp fz elt tg k its own =>
        obtain ⟨x', t, it, scope, pos', rfl, h'⟩ := mtE_comp h4
        have h3 : (plainB sc x && (px.line == pos'.line) && !(scope.names.any fun (n, k) => n == x && (k == .local || k == .cell))) = true := h3
        simp only [Bool.and_eq_true, Bool.not_eq_true'] at h3 h'
        obtain ⟨⟨h2, hl⟩, ha⟩ := h3
        obtain ⟨⟨⟨⟨⟨h1', h2'⟩, h3'⟩, h4'⟩, h5'⟩, h6'⟩ := h'
        have hyl := c.plain h2
        have r := DS.setLc (pos := pos) (fz := fz) c.calm c.nd (by rw [c.hN]; exact h1) hyl (sw_true c.fk hyl hl ha) (sndI c.toCok h6' (fun es hes => ⟨(sndEs its c.toCok c.tk hes).1, (sndEs its c.toCok c.tk hes).2.1⟩)) (blkOk_rel c.toCok h3')
          (fun s H Ca cl fp => sndT (c.toCok.blk s H scope Ca cl fp) tg t h1') (fun s H Ca cl fp => pts_yes) (fun s H Ca cl fp => sndE elt (c.toCok.blk s H scope Ca cl fp) takes_no h2') (notSet_spec h5') (own_at h4')
        refine ⟨fun σ H ρ M D De S A z k => r.to σ H ρ M D De S A ?_ k⟩
        unfold wpS wpE at z
        rw [own_map]; exact z
      | compIf fz elt cond tg k its own =>
        obtain ⟨x', t, it, cn, scope, pos', rfl, h'⟩ := mtE_compIf h4
        have h3 : (plainB sc x && (px.line == pos'.line) && !(scope.names.any fun (n, k) => n == x && (k == .local || k == .cell))) = true := h3
        simp only [Bool.and_eq_true, Bool.not_eq_true'] at h3 h'
        obtain ⟨⟨h2, hl⟩, ha⟩ := h3
        obtain ⟨⟨⟨⟨⟨⟨h1', h2'⟩, h2c⟩, h3'⟩, h4'⟩, h5'⟩, h6'⟩ := h'
        have hyl := c.plain h2
        have r := DS.setLc (pos := pos) (fz := fz) c.calm c.nd (by rw [c.hN]; exact h1) hyl (sw_true c.fk hyl hl ha) (sndI c.toCok h6' (fun es hes => ⟨(sndEs its c.toCok c.tk hes).1, (sndEs its c.toCok c.tk hes).2.1⟩)) (blkOk_rel c.toCok h3')
          (fun s H Ca cl fp => sndT (c.toCok.blk s H scope Ca cl fp) tg t h1') (fun s H Ca cl fp => pts_one (pt_upC (sndC cond (c.toCok.blk s H scope Ca cl fp) takes_no h2c))) (fun s H Ca cl fp => sndE elt (c.toCok.blk s H scope Ca cl fp) takes_no h2') (notSet_spec h5') (own_at h4')
        refine ⟨fun σ H ρ M D De S A z k => r.to σ H ρ M D De S A ?_ k⟩
        unfold wpS wpE at z
        rw [own_map]; exact z
      | bad => exact ⟨fun _ _ _ _ _ _ _ _ z _ => by unfold wpS wpE at z; exact z.elim⟩
      | op k es =>
        exfalso
        unfold inComp at h3
        split at h3
        · rename_i a b c d
          unfold mtE at h4
          have : opArgs sc k (.ListComp a b c d) = none := by unfold opArgs; cases k <;> rfl
          rw [this] at h4; cases h4
        · cases h3
      | _ => 
        unfold inComp at h3
        split at h3
        · unfold mtE at h4; cases h4
        · cases h3
    · cases h
  | og, X, E, c, .asg t e, st, h => by
    unfold mtS at h
    split at h
    · rename_i ts kt pt v pos
      simp only [Bool.and_eq_true] at h
      obtain ⟨⟨h1, h2⟩, h3⟩ := h
      have g : PG X (.Tuple ts kt pt) (t.g X.K) := sndT c.toCok t _ (by
        cases t with
        | nm i => unfold mtT at h1; cases h1
        | tup l => unfold mtT at h1 ⊢; exact h1)
      have hw : swappedStores [.Tuple ts kt pt] v X.env = pure none := by
        split at h3
        · rw [Bool.or_eq_true] at h3
          rcases h3 with h3 | h3
          · exact swapNo _ _ _ _ _ _ _ h3
          · refine swapNo2 _ _ _ _ _ _ _ ?_
            rw [List.any_eq_true] at h3 ⊢
            obtain ⟨y, hy, hp⟩ := h3
            refine ⟨y, hy, ?_⟩
            cases y with
            | Name x px =>
              have hl := mtT_loc h1 hy
              have hp' : (!plainB sc x) = true := hp
              have hk : X.env.kindOf x = some .cell := by
                unfold plainB at hp'
                unfold locB at hl
                split at hl
                · rename_i e; rw [e] at hp'; cases hp'
                · rename_i e; exact (c.rel x _ e).1 (by decide)
                · cases hl
              show (!(X.env.kindOf x == some .local)) = true
              rw [hk]; rfl
            | _ => rfl
        · rename_i hn
          unfold swappedStores
          cases v <;> first | rfl | exact absurd rfl (hn _ _ _)
      have hs : swapsWithSole [.Tuple ts kt pt] v pos.line X.env = pure false := by
        unfold swapsWithSole
        cases v <;> rfl
      have r := DS.asg (pos := pos) rfl (sndE e c.toCok c.tk h2) g hs hw
      exact ⟨fun σ H ρ M D De S A z k => r.to σ H ρ M D De S A (by unfold wpS at z; exact z) k⟩
    · cases h
  | og, X, E, c, .par i j a b, st, h => by
    unfold mtS at h
    split at h
    · rename_i x px y py kt pt v w k2 pt2 pos
      simp only [Bool.and_eq_true, decide_eq_true_eq, Bool.not_eq_true'] at h
      obtain ⟨⟨⟨⟨⟨⟨⟨⟨⟨⟨⟨⟨h1, h2⟩, h3⟩, h4⟩, h5⟩, h6⟩, h7⟩, h8⟩, h9⟩, h10⟩, h11⟩, h12⟩, h13⟩ := h
      have p1 := c.plain h5
      have p2 := c.plain h6
      have r := DS.par (pos := pos) (kt := kt) (k2 := k2) (pt := pt) (pt2 := pt2) c.calm c.nd (by rw [c.hN]; exact h1) (by rw [c.hN]; exact h2) h3 p1 p2 (DA.cons (sndE a c.toCok c.tk h12) (DA.cons (sndE b c.toCok c.tk h13) DA.nil h11) h10)
        (swap2 _ _ _ _ _ _ _ _ _ _ _ p1 p2 c.bk h7 h4 h10 h11 h8 h9) rfl h10 h11
      exact ⟨fun σ H ρ M D De S A z k => r.to σ H ρ M D De S A (by unfold wpS at z; exact z) k⟩
    · cases h
  | og, X, E, c, .par3 i j l a b d, st, h => by
    unfold mtS at h
    split at h
    · rename_i x px y py z pz kt pt v w u k2 pt2 pos
      simp only [Bool.and_eq_true, decide_eq_true_eq, Bool.not_eq_true'] at h
      obtain ⟨⟨⟨⟨⟨⟨⟨⟨⟨⟨⟨⟨⟨⟨⟨⟨⟨⟨⟨⟨⟨h1, h2⟩, h3⟩, n1⟩, n2⟩, n3⟩, m1⟩, m2⟩, m3⟩, l1⟩, l2⟩, l3⟩, q1⟩, q2⟩, h8⟩, h9⟩, s1⟩, s2⟩, s3⟩, e1⟩, e2⟩, e3⟩ := h
      have p1 := c.plain l1
      have p2 := c.plain l2
      have p3 := c.plain l3
      have r := DS.par3 (pos := pos) (kt := kt) (k2 := k2) (pt := pt) (pt2 := pt2) c.calm c.nd (by rw [c.hN]; exact h1) (by rw [c.hN]; exact h2) (by rw [c.hN]; exact h3) n1 n2 n3 p1 p2 p3
        (DA.cons (sndE a c.toCok c.tk e1) (DA.cons (sndE b c.toCok c.tk e2) (DA.cons (sndE d c.toCok c.tk e3) DA.nil s3) s2) s1)
        (swap3 _ _ _ _ _ _ _ _ _ _ _ _ _ _ p1 p2 p3 c.bk q1 q2 m1 m2 m3 s1 s2 s3 h8 h9) rfl
      exact ⟨fun σ H ρ M D De S A z k => r.to σ H ρ M D De S A (by unfold wpS at z; exact z) k⟩
    · cases h
  | og, X, E, c, .sat k o e, st, h => by
    unfold mtS at h
    split at h
    · rename_i y nm p v pos
      simp only [Bool.and_eq_true, decide_eq_true_eq] at h
      obtain ⟨⟨⟨h1, h2⟩, h3⟩, h4⟩ := h
      rw [← c.ats] at h1
      cases ha : C.as[k]? with
      | none => rw [ha] at h1; cases h1
      | some a =>
        rw [ha] at h1
        have e1 := Option.some.inj h1
        subst e1
        have r := DS.sat (pos := pos) (p1 := p) (c.aok a (List.mem_of_getElem? ha)) (sndE e c.toCok c.tk h4) (sndE o c.toCok c.tk h3) (noSwap h2)
        refine ⟨fun σ H ρ M D De S A z k => r.to σ H ρ M D De S A ?_ k⟩
        unfold wpS at z
        rw [ha] at z
        exact z
    · cases h
  | og, X, E, c, .setix o i e, st, h => by
    unfold mtS at h
    split at h
    · rename_i x y p v pos
      simp only [Bool.and_eq_true] at h
      obtain ⟨⟨⟨⟨h1, h2⟩, h3⟩, h4⟩, h5⟩ := h
      have r := DS.setix (pos := pos) (p1 := p) (by have := c.un; omega) (sndE e c.toCok c.tk h5) (sndE o c.toCok c.tk h3) (sndE i c.toCok c.tk h4) h1 (by unfold swapsWithSole; exact noSwap h2) (by unfold swappedStores; rfl)
      exact ⟨fun σ H ρ M D De S A z k => r.to σ H ρ M D De S A (by unfold wpS at z; exact z) k⟩
    · cases h
  | og, X, E, c, .aug i op e, st, h => by
    unfold mtS at h
    split at h
    · rename_i x px op' v pos
      simp only [Bool.and_eq_true, decide_eq_true_eq] at h
      obtain ⟨⟨⟨rfl, h1⟩, h2⟩, h3⟩ := h
      obtain ⟨l1, l2⟩ := c.loc h2
      have r := DS.aug (pos := pos) (px := px) (op := op) c.nd (by rw [c.hN]; exact h1) l1 l2 (sndE e c.toCok c.tk h3)
      exact ⟨fun σ H ρ M D De S A z k => r.to σ H ρ M D De S A (by unfold wpS at z; exact z) k⟩
    · cases h
  | og, X, E, c, .expr e, st, h => by
    unfold mtS at h
    split at h
    · rename_i v pos
      simp only [Bool.and_eq_true] at h
      have r := DS.expr (pos := pos) (sndE e c.toCok c.tk h.2) (noSwap h.1)
      exact ⟨fun σ H ρ M D De S A z k => r.to σ H ρ M D De S A (by unfold wpS at z; exact z) k⟩
    · cases h
  | og, X, E, c, .ret e, st, h => by
    unfold mtS at h
    split at h
    · rename_i v pos
      have r := DS.ret (pos := pos) (sndE e c.toCok c.tk h)
      exact ⟨fun σ H ρ M D De S A z k => r.to σ H ρ M D De S A (by unfold wpS at z; exact z) k⟩
    · cases h
  | og, X, E, c, .retN, st, h => by
    unfold mtS at h
    split at h
    · rename_i pos
      have r := DS.retN (X := X) (pos := pos)
      exact ⟨fun σ H ρ M D De S A z k => r.to σ H ρ M D De S A (by unfold wpS at z; exact z) k⟩
    · cases h
  | og, X, E, c, .bad, st, h => ⟨fun _ _ _ _ _ _ _ _ z _ => by unfold wpS at z; exact z.elim⟩
  | og, X, E, c, .rse k es, st, h => by
    unfold mtS at h
    split at h
    · rename_i x p xs pos pos2
      simp only [Bool.and_eq_true, decide_eq_true_eq] at h
      obtain ⟨⟨⟨h1, h2⟩, h3⟩, h4⟩ := h
      obtain ⟨n1, n2, n3⟩ := okName_spec h3
      rw [← c.exr] at h1
      cases ha : C.ex.rs[k]? with
      | none => rw [ha] at h1; cases h1
      | some xi =>
        rw [ha] at h1
        have e1 : xi.name = x := Option.some.inj h1
        have r := DS.rse (pos := pos) (pos2 := pos2) (p := p) (E := E) c.calm c.tk (c.rok xi (List.mem_of_getElem? ha)) e1 (c.gl h2) n1 (sndEs es c.toCok c.tk h4).1 (mtEs_star h4) (by
          intro he ρ M Q z
          subst he
          cases es with
          | nil => unfold wpEs at z; exact z
          | cons _ _ => unfold mtEs at h4; cases h4)
        refine ⟨fun σ H ρ M D De S A z k => r.to σ H ρ M D De S A ?_ k⟩
        unfold wpS at z
        rw [ha] at z
        subst e1
        exact z
    · cases h
  | og, X, E, c, .tryX b l, st, h => by
    unfold mtS at h
    split at h
    · rename_i body hds pos
      simp only [Bool.and_eq_true] at h
      obtain ⟨⟨h1, h2⟩, h3⟩ := h
      obtain ⟨t1, t2⟩ := hdT_ok c.toCok h3
      cases hds with
      | nil => cases h1
      | cons h0 hds =>
        have ck := c.toCok
        have fk := c.fk
        have stk := c.stk
        have frm := c.frm
        have exn := c.exn
        have r := DS.tryD (pos := pos) (E := E) (known := C.ex.xs) (body := body) (tb := fun Ed => wpB C Ed b) c.exn c.stk c.frm c.nd c.tk t1 (fun h hh => let ⟨Cc, q, _⟩ := c.xno _ (t2 h hh); ⟨Cc, q⟩) (fun xi hxi h hh => (c.xco xi hxi _ (t2 h hh)).1) c.xfo
          (fun pn xe Ed tk hp => sndB (X := X.tr pn xe) (E := Ed) ⟨ck.tr pn xe, fk, tk, hp, stk, frm, exn⟩ b body h2)
        exact ⟨fun σ H ρ M D De S A z k => r.to σ H ρ M D De S A (by unfold wpS at z; exact z) k⟩
    · cases h
  | og, X, E, c, .frz _, st, h => by
    unfold mtS at h
    cases h
  | og, X, E, c, .pass, st, h => by
    unfold mtS at h
    split at h
    · rename_i pos
      have r := DS.pass (X := X) (pos := pos)
      exact ⟨fun σ H ρ M D De S A z k => r.to σ H ρ M D De S A (by unfold wpS at z; exact z) k⟩
    · cases h
  | og, X, E, c, .brk, st, h => by
    unfold mtS at h
    split at h
    · rename_i pos
      have r := DS.brk (X := X) (pos := pos)
      exact ⟨fun σ H ρ M D De S A z k => r.to σ H ρ M D De S A (by unfold wpS at z; exact z) k⟩
    · cases h
  | og, X, E, c, .cont, st, h => by
    unfold mtS at h
    split at h
    · rename_i pos
      have r := DS.cont (X := X) (pos := pos)
      exact ⟨fun σ H ρ M D De S A z k => r.to σ H ρ M D De S A (by unfold wpS at z; exact z) k⟩
    · cases h
  | og, X, E, c, .ifs d a b, st, h => by
    unfold mtS at h
    split at h
    · rename_i v x y pos
      simp only [Bool.and_eq_true] at h
      have r := DS.ifs (pos := pos) (sndC d c.toCok c.tk h.1.1) (sndB c a x h.1.2) (sndB c b y h.2)
      exact ⟨fun σ H ρ M D De S A z k => r.to σ H ρ M D De S A (by unfold wpS at z; exact z) k⟩
    · cases h
  | og, X, E, c, .whl d b, st, h => by
    unfold mtS at h
    split at h
    · rename_i v x pos
      simp only [Bool.and_eq_true] at h
      have r := DS.whl (pos := pos) c.hp (sndC d c.toCok c.tk h.1) (sndB c b x h.2)
      exact ⟨fun σ H ρ M D De S A z k => r.to σ H ρ M D De S A (by unfold wpS at z; exact z) k⟩
    · cases h
  | og, X, E, c, .for t k its b, st, h => by
    unfold mtS at h
    split at h
    · rename_i tg it x pos
      simp only [Bool.and_eq_true] at h
      obtain ⟨⟨⟨h1, h2⟩, h3⟩, h4⟩ := h
      have r := DS.for (pos := pos) c.hp c.calm (sndI c.toCok h3 (fun es hes => ⟨(sndEs its c.toCok c.tk hes).1, (sndEs its c.toCok c.tk hes).2.1⟩)) (sndT c.toCok t tg h1) (sndB c b x h4) (notSet_spec h2)
      exact ⟨fun σ H ρ M D De S A z k => r.to σ H ρ M D De S A (by unfold wpS at z; exact z) k⟩
    · cases h
theorem sndB : ∀ [Og] {X : Cx} {E : EX}, CokS mc C sc X E → ∀ (cs : List CS) (sts : List Stmt), mtB mc sc cs sts = true → DB X sts (wpB C E cs)
  | og, X, E, c, [], sts, h => by
    unfold mtB at h
    split at h
    · have r := DB.nil (X := X)
      exact ⟨fun σ H ρ M D De S A z k => r.to σ H ρ M D De S A (by unfold wpB at z; exact z) k⟩
    · cases h
  | og, X, E, c, s :: ss, sts, h => by
    unfold mtB at h
    split at h
    · have r := sndB c ss _ h
      refine ⟨fun σ H ρ M D De S A z k => ?_⟩
      unfold wpB wpS at z
      split at z
      · rename_i a hi
        split at z
        · rename_i l ha
          obtain ⟨S', A', x⟩ := frz_abs S A hi ha
          exact r.to σ H _ _ D De S' A' z (k.ext x)
        · exact z.elim
      · exact z.elim
    · split at h
      · cases h
      · simp only [Bool.and_eq_true] at h
        have r := DB.cons (sndS c s _ h.1) (sndB c ss _ h.2)
        exact ⟨fun σ H ρ M D De S A z k => r.to σ H ρ M D De S A (by unfold wpB at z; exact z) k⟩
end
end
end Ow
namespace Ow
open PySem PySem.Spec PyProof.Rows L2
variable [Tb]
/-! ### a def keeps its promise -/
/-- the def named fi.name stands in the module and keeps its promise -/
def FnM (P : Program) (w : World) (K : PySem.W.Frag) (mg : Str → Option Value) (base : Heap) (k : Nat) (fi : FI) : Prop :=
  ∃ (f : Addr) (fd : FuncData) (ps : List Str), mg fi.name = some (.ref f) ∧ PySem.W.keepIn K (.ref f) = true ∧ FnG P w K mg base k f fd ps fi.sp ∧ Binds K fd ps [] ∧ ps.length = fi.n
def GM (K : PySem.W.Frag) (mg : Str → Option Value) (g : GI) : Prop := ∃ v u, mg g.name = some u ∧ RelV v u ∧ ∀ M H, AbsM ⟨K, mg⟩ M H → Rep ⟨K, mg⟩ M H g.d v
/-- a def as it stands, with or without defaults -/
structure FunV (K : PySem.W.Frag) (x qual : Str) (st : Stmt) (f : Addr) (fd : FuncData) : Prop where
  ex : ∃ (oc : Value) (od : Option Addr) (dV kV doc pm : Value) (an : Option Addr) (cdv ct : Value) (osl : Array (Option Value)),
    fd = PySem.W.fnOf x qual (defArgs st) (defBody st) (defScope st) dV kV doc pm an cdv ct ∧ K.lookup f = some ⟨oc, od, .func fd, osl⟩ ∧ PySem.W.codeIn K cdv qual = true
  kp : PySem.W.keepIn K (.ref f) = true
theorem FunV.of {K : PySem.W.Frag} {x qual : Str} {st : Stmt} {f : Addr} {fd : FuncData} (F : Fun K x qual st f fd) : FunV K x qual st f fd := by
  obtain ⟨oc, od, kV, doc, pm, an, cdv, ct, osl, e, lk, hcd⟩ := F.ex
  exact ⟨⟨oc, od, .none, kV, doc, pm, an, cdv, ct, osl, e, lk, hcd⟩, F.kp⟩
/-- a def's place -/
structure DefM (K : PySem.W.Frag) (mg : Str → Option Value) (x : Str) (st : Stmt) (ps : List Str) : Prop where
  ex : ∃ f fd, FunV K x x st f fd ∧ mg x = some (.ref f) ∧ Binds K fd ps []
def startD (N : List Str) (ds : List D) : DSt := ds.map some ++ List.replicate (N.length - ds.length) none
theorem absS_start {W : Wd} {M : Mp} {H : Hp} {N : List Str} {ds : List D} {vs : List V} (r : Reps W M H ds vs) : @AbsS ⟨M, H⟩ W M H (startD N ds) (start N vs) := by
  have hl := r.length
  letI : Og := ⟨M, H⟩
  refine ⟨by simp [startD, L2.start, hl], fun i d q => ?_, Ext.refl⟩
  unfold startD at q
  by_cases hi : i < ds.length
  · rw [List.getElem?_append_left (by simpa using hi), List.getElem?_map] at q
    cases e : ds[i]? with
    | none => rw [e] at q; cases q
    | some d0 =>
      rw [e] at q
      cases q
      obtain ⟨v, h1, h2⟩ := Reps.get r e
      refine ⟨v, ?_, h2⟩
      unfold L2.start
      rw [List.getElem?_append_left (by simpa [← hl] using hi), List.getElem?_map, h1]; rfl
  · rw [List.getElem?_append_right (by simpa using hi), List.getElem?_replicate] at q
    split at q <;> cases q
theorem FnM.mono {P : Program} {w : World} {K : PySem.W.Frag} {mg : Str → Option Value} {base : Heap} {j k : Nat} {fi : FI} (h : FnM P w K mg base j fi) (l : j ≤ k) : FnM P w K mg base k fi := by
  obtain ⟨f, fd, ps, h1, h2, h3, h4, h5⟩ := h
  exact ⟨f, fd, ps, h1, h2, ⟨h3.len, fun A outer s H args us vs ds M Q E hr => h3.run A outer s H args us vs ds M Q E (hr.mono l)⟩, h4, h5⟩
/-- a weaker promise -/
theorem FnM.imp {P : Program} {w : World} {K : PySem.W.Frag} {mg : Str → Option Value} {base : Heap} {k : Nat} {fi fj : FI} (h : FnM P w K mg base k fi) (e : fi.name = fj.name) (e2 : fi.n = fj.n) (i : ∀ ds M Q E, fj.sp ds M Q E → fi.sp ds M Q E) : FnM P w K mg base k fj := by
  obtain ⟨f, fd, ps, h1, h2, h3, h4, h5⟩ := h
  exact ⟨f, fd, ps, e ▸ h1, h2, ⟨fun ds M Q E q => h3.len ds M Q E (i _ _ _ _ q), fun A outer s H args us vs ds M Q E hr g e0 b v a r q => h3.run A outer s H args us vs ds M Q E hr g e0 b v a r (i _ _ _ _ q)⟩, h4, e2 ▸ h5⟩
mutual
inductive FrzD (M M' : Mp) : D → D → Prop
  | rfl (d : D) : FrzD M M' d d
  | deep {a : Addr} {l l' : List D} (h : M a = some (.lst l)) (h' : M' a = none) (k : FrzDs M M' l l') : FrzD M M' (.ref a) (.lst l')
  | tup {l l' : List D} (k : FrzDs M M' l l') : FrzD M M' (.tup l) (.tup l')
inductive FrzDs (M M' : Mp) : List D → List D → Prop
  | nil : FrzDs M M' [] []
  | cons {d d' : D} {l l' : List D} (h : FrzD M M' d d') (k : FrzDs M M' l l') : FrzDs M M' (d :: l) (d' :: l')
end
theorem FrzDs.refl {M M' : Mp} : ∀ l : List D, FrzDs M M' l l
  | [] => .nil
  | d :: l => .cons (.rfl d) (FrzDs.refl l)
mutual
theorem FrzD.rep {W : Wd} {M M' : Mp} {H : Hp} (A : AbsM W M H) (s : M'.Sub M) : ∀ {d d' : D} {v : V}, FrzD M M' d d' → Rep W M H d v → Rep W M' H d' v
  | _, _, _, .rfl d, r => r.ext (Ext.forget s)
  | _, _, _, .deep h h' k, r => by
    obtain ⟨xs, h3, h4⟩ := A.ob _ _ h
    exact ⟨_, xs, r, h', h3, FrzDs.rep A s k h4⟩
  | _, _, _, .tup k, r => by
    obtain ⟨a, xs, rfl, h1, h2⟩ := r
    exact ⟨a, xs, rfl, h1, FrzDs.rep A s k h2⟩
theorem FrzDs.rep {W : Wd} {M M' : Mp} {H : Hp} (A : AbsM W M H) (s : M'.Sub M) : ∀ {l l' : List D} {vs : List V}, FrzDs M M' l l' → Reps W M H l vs → Reps W M' H l' vs
  | _, _, _, .nil, r => r
  | _, _, _, .cons h k, r => by
    obtain ⟨v, u, rfl, h1, h2⟩ := r
    exact ⟨v, u, rfl, FrzD.rep A s h h1, FrzDs.rep A s k h2⟩
end
/-- how a def may end: its cells forgotten, what it hands back frozen -/
def Fin (Q : QE) : QE := fun d M => ∃ d' M', M'.Sub M ∧ FrzD M M' d d' ∧ Q d' M'
theorem Fin.same {Q : QE} {d : D} {M : Mp} (h : Q d M) : Fin Q d M := ⟨d, M, Mp.Sub.refl, .rfl d, h⟩
theorem Fin.sub {Q : QE} {d : D} {M M' : Mp} (s : M'.Sub M) (h : Q d M') : Fin Q d M := ⟨d, M', s, .rfl d, h⟩
theorem Fin.lst {Q : QE} {a : Addr} {l : List D} {M : Mp} (e : M a = some (.lst l)) (h : Q (.lst l) (M.del a)) : Fin Q (.ref a) M := ⟨_, _, Mp.sub_del, .deep e Mp.del_same (FrzDs.refl l), h⟩
theorem Fin.lft {W : Wd} {M : Mp} {H H1 : Hp} {Q : QE} {v : V} (h : lft W M H (Fin Q) v H1) : lft W M H Q v H1 := by
  obtain ⟨d, M', x, r, A, d', M2, s, f, q⟩ := h
  exact ⟨d', M2, x.trans (Ext.forget s), FrzD.rep A s f r, A.forget s, q⟩
/-- the ends of a def's body -/
def endsD (Q : QE) : DEnds := ⟨fun _ M => Fin Q .non M, Fin Q, fun _ _ => False, fun _ _ => False⟩
/-- a class stands in the module, its __init__ keeps its promise -/
def FnK (P : Program) (w : World) (K : PySem.W.Frag) (mg : Str → Option Value) (base : Heap) (k : Nat) (fi : FI) : Prop :=
  ∃ (C fI : Addr) (fd : FuncData) (ps : List Str) (spI : DSp), mg fi.name = some (.ref C) ∧ Mk K C fI ∧ FnG P w K mg base k fI fd ps spI ∧ Binds K fd ps [] ∧ ∀ ds M Q E, fi.sp ds M Q E → mkSp fi.name spI ds M Q E
/-- what may be called by its name, from a body with room for k + 1 -/
def FnC (P : Program) (w : World) (K : PySem.W.Frag) (mg : Str → Option Value) (base : Heap) (k : Nat) (fi : FI) : Prop := FnM P w K mg base k fi ∨ ∃ j, j + 1 ≤ k ∧ FnK P w K mg base j fi
/-- a method keeps its promise -/
def MtM (P : Program) (w : World) (K : PySem.W.Frag) (mg : Str → Option Value) (base : Heap) (k : Nat) (mi : MI) : Prop :=
  ∃ (C f : Addr) (fd : FuncData) (ps : List Str), mg mi.cls = some (.ref C) ∧ EqC K C ∧ L2.Meth K C mi.name f ∧ FnG P w K mg base k f fd ps mi.sp ∧ Binds K fd ps []
/-- the same, called with its last parameters left out: they get dds -/
def MtD (P : Program) (w : World) (K : PySem.W.Frag) (mg : Str → Option Value) (base : Heap) (k : Nat) (mi : MI) : Prop :=
  ∃ (C f : Addr) (fd : FuncData) (ps : List Str) (sp0 : DSp) (dds : List D) (dV : List V) (dvs : List Value), mg mi.cls = some (.ref C) ∧ EqC K C ∧ L2.Meth K C mi.name f ∧ FnG P w K mg base k f fd ps sp0 ∧ Binds K fd ps dvs ∧ Vals dV dvs ∧ (∀ M H, Reps ⟨K, mg⟩ M H dds dV) ∧ ∀ ds M Q E, mi.sp ds M Q E → sp0 (ds ++ dds) M Q E
def MtA (P : Program) (w : World) (K : PySem.W.Frag) (mg : Str → Option Value) (base : Heap) (k : Nat) (mi : MI) : Prop := MtM P w K mg base k mi ∨ MtD P w K mg base k mi
/-- what instances of the classes may hold -/
def AtM (K : PySem.W.Frag) (mg : Str → Option Value) (a : AI) : Prop := ∀ c ∈ a.cs, ∃ C, mg c = some (.ref C) ∧ Cls K C ∧ NoAttr K C a.f
/-! exceptions, and functions made within a def -/
def XM (P : Program) (w : World) (K : PySem.W.Frag) (mg : Str → Option Value) (base : Heap) (k : Nat) (x : XI) : Prop := ∃ (C fI : Addr) (fd : FuncData) (p : Str) (j : Nat), mg x.name = some (.ref C) ∧ OexC K C ∧ PySem.W.findIn K (.ref C) "__init__" = some (some (.ref fI)) ∧ PySem.W.typeIn K (.ref fI) = some (.type "function") ∧
  (∀ f, x.fld = some f → PySem.W.findIn K (.ref C) f = some none) ∧ FnOk P w K mg base (L2.CX P w) j fI fd (spX_ps x.fld p) (spX K x.fld) ∧ j + 1 ≤ k ∧ Binds K fd (spX_ps x.fld p) []
def XfM (K : PySem.W.Frag) (mg : Str → Option Value) (d f : Str) : Prop := ∃ Dd, mg d = some (.ref Dd) ∧ XfC K Dd ∧ PySem.W.findIn K (.ref Dd) f = some none
def XcM (K : PySem.W.Frag) (mg : Str → Option Value) (d c : Str) : Prop := ∃ Dd Cc, mg d = some (.ref Dd) ∧ mg c = some (.ref Cc) ∧ PySem.W.exmOne K (.ref Dd) (.ref Cc) = some (excSub d c)
def XiM (K : PySem.W.Frag) (mg : Str → Option Value) (d c : Str) : Prop := ∃ Dd Cc, mg d = some (.ref Dd) ∧ mg c = some (.ref Cc) ∧ PySem.W.kitOne K (.ref Dd) (.ref Cc) = some (excSub d c)
def XnM (K : PySem.W.Frag) (mg : Str → Option Value) (c : Str) : Prop := ∃ Cc, mg c = some (.ref Cc) ∧ ∀ n ∈ tyNames, PySem.W.kitOne K (.type n) (.ref Cc) = some false
def XkM (K : PySem.W.Frag) (mg : Str → Option Value) (d : Str) : Prop := ∃ Dd, mg d = some (.ref Dd) ∧ XkC K Dd
/-- what is called by names keeps its promise -/
def KwM (P : Program) (w : World) (K : PySem.W.Frag) (mg : Str → Option Value) (base : Heap) (k : Nat) (ki : KI) : Prop :=
  (ki.cls = "" ∧ ∃ (f : Addr) (fd : FuncData) (ps : List Str), mg ki.name = some (.ref f) ∧ PySem.W.keepIn K (.ref f) = true ∧ FnG P w K mg base k f fd ps ki.sp ∧ KB K fd ps 0 ki.ks ki.pm) ∨
  (ki.cls = "" ∧ ∃ (j : Nat) (C fI : Addr) (fd : FuncData) (ps : List Str) (spI : DSp), j + 1 ≤ k ∧ mg ki.name = some (.ref C) ∧ Mk K C fI ∧ FnG P w K mg base j fI fd ps spI ∧ KB K fd ps 1 ki.ks (up1 ki.pm) ∧ ∀ ds M Q E, ki.sp ds M Q E → mkSp ki.name spI ds M Q E) ∨
  (ki.cls ≠ "" ∧ ∃ (C f : Addr) (fd : FuncData) (ps : List Str), mg ki.cls = some (.ref C) ∧ EqC K C ∧ L2.Meth K C ki.name f ∧ FnG P w K mg base k f fd ps ki.sp ∧ KB K fd ps 1 ki.ks (up1 ki.pm))
structure ExM (P : Program) (w : World) (K : PySem.W.Frag) (mg : Str → Option Value) (base : Heap) (k : Nat) (mc : MX) (C : KX) : Prop where
  exr : C.rs = mc.rs
  exx : C.xs = mc.xs
  ext : C.xts = mc.xts
  exl : C.lf.map FI.name = mc.lf
  exc : C.cl.map (fun ci => (Tb.fr ci.id, Tb.cl ci.id)) = mc.cls
  rok : ∀ x ∈ C.rs, XM P w K mg base k x
  xfo : ∀ xi ∈ C.xs, ∀ f, xi.fld = some f → XfM K mg xi.name f
  xko : ∀ xi ∈ C.xs, XkM K mg xi.name
  xco : ∀ xi ∈ C.xs, ∀ c ∈ C.xts, XcM K mg xi.name c ∧ XiM K mg xi.name c
  xno : ∀ c ∈ C.xts, XnM K mg c
  clk : ∀ ci ∈ C.cl, ClG P w K mg base k ci
  lfk : ∀ fi ∈ C.lf, FnM P w K mg base k fi
  vek : mc.ve = true → mg "ValueError" = none
  exw : C.kw.map (fun k => (k.cls, k.name, k.ks)) = mc.kw
  kwk : ∀ ki ∈ C.kw, KwM P w K mg base k ki
theorem ex0 {P : Program} {w : World} {K : PySem.W.Frag} {mg : Str → Option Value} {base : Heap} {k : Nat} : ExM P w K mg base k mx0 kx0 :=
  ⟨rfl, rfl, rfl, rfl, rfl, (fun _ h => nomatch h), (fun _ h => nomatch h), (fun _ h => nomatch h), (fun _ h => nomatch h), (fun _ h => nomatch h), (fun _ h => nomatch h), (fun _ h => nomatch h), (fun h => by cases h), rfl, fun _ h => nomatch h⟩
/-- where lambdas are made: the def's code object, its table -/
def MkC (base : Heap) (mg : Str → Option Value) (fd : FuncData) : Prop := ∃ c P, LamX.TabB base mg c P ∧ fd.code = .ref c ∧ (P, (fd.qualname ++ ".<locals>.") ++ "<lambda>") ∈ Tb.tb ∧ ∀ p ∈ Tb.tb, p.1 = P → p.2 = (fd.qualname ++ ".<locals>.") ++ "<lambda>"
structure ModOk (P : Program) (w : World) (K : PySem.W.Frag) (mg : Str → Option Value) (base : Heap) (k : Nat) (mc : MC) (C : Ctx) : Prop where
  fns : C.fs.map FI.name = mc.fns
  gns : C.gs.map GI.name = mc.gns
  ats : C.as = mc.ats
  mts : C.ms.map (fun m => (m.cls, m.name)) = mc.mts
  blt : ∀ x ∈ bltNames, mg x = none
  sk : SysB base
  fok : ∀ fi ∈ C.fs, FnC P w K mg base k fi
  gok : ∀ g ∈ C.gs, GM K mg g
  aok : ∀ a ∈ C.as, AtM K mg a
  mok : ∀ m ∈ C.ms, MtA P w K mg base k m
  lok : ∀ m ∈ C.ms, dun m.name = true → ∃ j, j + 1 ≤ k ∧ MtM P w K mg base j m
  ex : ExM P w K mg base k mc.ex C.ex
theorem KwM.ok {X : Cx} {k : Nat} {ki : KI} (h : KwM X.prog X.w X.K X.mg X.base k ki) (hr : Room k X.A) : (ki.cls = "" ∧ KOk X ki) ∨ (ki.cls ≠ "" ∧ KMOk X ki) := by
  rcases h with ⟨h0, f, fd, ps, h1, h2, h3, h4⟩ | ⟨h0, j, C, fI, fd, ps, spI, hj, h1, h2, h3, h4, h5⟩ | ⟨h0, C, f, fd, ps, h1, h2, h3, h4, h5⟩
  · exact .inl ⟨h0, f, h1, h2, .inl ⟨fd, ps, k, h3, hr, h4⟩⟩
  · exact .inl ⟨h0, C, h1, h2.kp, .inr ⟨fI, fd, ps, j, spI, h2, h3, hr.mono hj, h4, h5⟩⟩
  · exact .inr ⟨h0, C, f, fd, ps, k, h1, h2, h3, h4, hr, h5⟩
theorem fnG_ok {P : Program} {w : World} {K : PySem.W.Frag} {mg : Str → Option Value} {base : Heap} {k : Nat} {mc : MC} {C : Ctx} {x qual : Str} {n : Nat} {sp : DSp} {st : Stmt} {ps : List Str} {b : List CS} {f : Addr} {fd : FuncData}
    (Mo : ModOk P w K mg base k mc C) (F : FunV K x qual st f fd) (S : FnScope mc.N ps (defScope st)) (hn : ps.length = n) (m : mtB mc (defScope st) b (defBody st) = true)
    (len : ∀ ds M Q E, sp ds M Q E → ds.length = n)
    (h : ∀ ds M Q E, sp ds M Q E → wpB C (fun x _ M => E x M) b (endsD Q) (startD mc.N ds) M) (hmk : mc.ex.mks = true → MkC base mg fd) : FnG P w K mg base (k + 1) f fd ps sp := by
  refine ⟨fun ds M Q E q => by rw [hn]; exact len ds M Q E q, fun A outer s H args us vs ds M Q E hr hg e0 hbd rv am r q => ?_⟩
  obtain ⟨oc, od, dV, kV, doc, pm, an, cdv, ct, osl, rfl, lk, hcd⟩ := F.ex
  have hl : vs.length = ps.length := by rw [← r.length, hn]; exact len ds M Q E q
  have KX : K.In s.heap := e0.mod.kin.keeps fun b o e => (e0.bs b o e).1
  have hkind : ∀ y ∈ ps.zip us, (defScope st).names.lookup y.1 = some .local ∨ ((defScope st).names.lookup y.1 = some .cell ∧ ((cellsFrom (s.heap.objs.size + 1) (defScope st).names []).lookup y.1).isSome = true) := by
    rintro ⟨n, v⟩ hy
    rcases S.par n (List.of_mem_zip hy).1 with z | z
    · exact .inl z
    · exact .inr ⟨z, PySem.W.cellsFrom_some _ _ _ (.inl z)⟩
  refine codeAny_call_function hr.depth (KX _ _ lk) rfl S.co S.gen rfl (PySem.W.codeRec_of KX hcd) (hbd _ _ _ _ ?_)
  refine wpAny_newFunctionEnv_cells S.kind hkind fun env he s1 x => ?_
  subst he
  refine ⟨(e0.mod.nolimit.keeps fun b o e => (e0.bs b o e).1).keeps x.toInCall.keep, codeAny_func ?_⟩
  obtain ⟨X, hX⟩ : ∃ X, X = cxOf (L2.CX P w) P w K mg base mc.N qual (defScope st) f cdv A outer s H (lftX ⟨K, mg⟩ M H E) := ⟨_, rfl⟩
  have I : Inv X [] (start mc.N vs) H s1 := by rw [hX]; exact inv_start S hr.hd e0 hl rv x
  have hr' : Room k X.A := by rw [hX]; exact hr.deeper _
  letI og : Og := ⟨M, H⟩
  have ck : CokS mc C (defScope st) X (fun x _ M => E x M) := by
    subst hX
    refine ⟨⟨rfl, S.nd, rfl, hg, ?_, Mo.sk, fun x kk hk => ⟨fun _ => hk, fun z => absurd z (S.nofree _ (PySem.mem_of_lookup hk))⟩, fun _ _ => rfl, Mo.blt, Mo.fns, Mo.gns, Mo.ats, Mo.mts, fun g hg' => ?_, fun g hg' => Mo.gok g hg', fun a ha => Mo.aok a ha, fun mi hmi => ?_, fun mi hmi hn => ?_, Mo.ex.exr, Mo.ex.exx, Mo.ex.ext, Mo.ex.exl, Mo.ex.exc, fun x hx => ?_, Mo.ex.xfo, Mo.ex.xko, Mo.ex.xco, Mo.ex.xno, fun ci hci => ⟨k, Mo.ex.clk ci hci, hr'⟩, fun fi hfi => ?_, fun hm => hmk hm, Mo.ex.vek, Mo.ex.exw, fun ki hki => (Mo.ex.kwk ki hki).ok hr'⟩, S.kind, ?_, passes_of rfl, rfl, rfl, rfl⟩
    · have := hr'.un; omega
    · rcases Mo.fok g hg' with ⟨f', fd', ps', h1, h2, h3, h4, h5⟩ | ⟨j, hj, Ca, fI, fd', ps', spI, h1, h2, h3, h4, h5⟩
      · exact ⟨f', h1, h2, .fn h3 hr' h4⟩
      · exact ⟨Ca, h1, h2.kp, .inr (.inl ⟨g.name, fI, fd', ps', j, spI, h1, h2, h3, hr'.mono hj, h4, h5⟩)⟩
    · rcases Mo.mok mi hmi with ⟨Ca, f', fd', ps', h1, h2, h3, h4, h5⟩ | ⟨Ca, f', fd', ps', sp0, dds, dV, dvs, h1, h2, h3, h4, h5, h6, h7, h8⟩
      · exact ⟨Ca, f', h1, h2, h3, .fn h4 hr' h5⟩
      · exact ⟨Ca, f', h1, h2, h3, .inr (.inr ⟨fd', ps', k, sp0, dds, dV, dvs, h4, hr', h5, h6, h7, h8⟩)⟩
    · obtain ⟨j, hj, Ca, f', fd', ps', h1, h2, h3, h4, h5⟩ := Mo.lok mi hmi hn
      exact ⟨Ca, f', fd', ps', j, h1, h2, h3, h4, hr'.mono hj, h5⟩
    · obtain ⟨Ca, fI, fd', p, j, h1, h2, h3, h4, h5, h6, h7, h8⟩ := Mo.ex.rok x hx
      exact ⟨Ca, fI, fd', p, j, h1, h2, h3, h4, h5, h6, hr'.mono h7, h8⟩
    · obtain ⟨f', fd', ps', h1, h2, h3, h4, h5⟩ := Mo.ex.lfk fi hfi
      exact ⟨f', fd', ps', k, h1, h2, h3, hr', h4⟩
    · exact (takes_of rfl rfl rfl rfl).imp fun c d σ H' ⟨x, ρ, M', S', a, rx, ex⟩ => ⟨x, M', S'.og, a, rx, ex⟩
  have hW : wd X = ⟨K, mg⟩ := by rw [hX]; rfl
  have z := (sndB ck b (defBody st) m).to (start mc.N vs) H (startD mc.N ds) M (endsD Q) { nx := fun _ H' => lft ⟨K, mg⟩ M H Q .non H', rt := lft ⟨K, mg⟩ M H (Fin Q), bk := fun _ _ => False, ct := fun _ _ => False }
    (by rw [hW]; exact absS_start r) (by rw [hW]; exact am) (h ds M Q E q) (by
      rw [hW]
      exact ⟨fun ρ σ M' H' xt a _ z => Fin.lft (v := .non) (H1 := H') ⟨.non, M', xt, rfl, a, z⟩, fun v H' z => z, fun _ _ _ _ _ _ _ z => z, fun _ _ _ _ _ _ _ z => z⟩) [] s1 I
  subst hX
  refine wpAny_mono z (fun fl s' hs => ?_) fun e s' hs => hs
  cases fl with
  | ret u =>
    obtain ⟨v, σ', H', J, rv', q'⟩ := hs
    exact ⟨v, H', J.os, J.bare, J.base, J.hok, rv', Fin.lft q'⟩
  | next =>
    obtain ⟨σ', H', J, q'⟩ := hs
    exact ⟨.non, H', J.os, J.bare, J.base, J.hok, rfl, q'⟩
  | brk =>
    obtain ⟨_, _, _, q'⟩ := hs
    exact q'.elim
  | cont =>
    obtain ⟨_, _, _, q'⟩ := hs
    exact q'.elim
theorem def_ok {P : Program} {w : World} {K : PySem.W.Frag} {mg : Str → Option Value} {base : Heap} {k : Nat} {mc : MC} {C : Ctx} {fi : FI} {st : Stmt} {ps : List Str} {b : List CS}
    (Mo : ModOk P w K mg base k mc C) (F : DefM K mg fi.name st ps) (S : FnScope mc.N ps (defScope st)) (hn : ps.length = fi.n) (m : mtB mc (defScope st) b (defBody st) = true)
    (len : ∀ ds M Q E, fi.sp ds M Q E → ds.length = fi.n)
    (h : ∀ ds M Q E, fi.sp ds M Q E → wpB C (fun x _ M => E x M) b (endsD Q) (startD mc.N ds) M) (hmk : ∀ f fd, mg fi.name = some (.ref f) → FunV K fi.name fi.name st f fd → mc.ex.mks = true → MkC base mg fd := by exact fun _ _ _ _ z => absurd z (by decide)) : FnM P w K mg base (k + 1) fi := by
  obtain ⟨f, fd, F, hm, hb⟩ := F.ex
  exact ⟨f, fd, ps, hm, F.kp, fnG_ok Mo F S hn m len h (hmk f fd hm F), hb, hn⟩
/-- a method's place -/
structure DefT (K : PySem.W.Frag) (mg : Str → Option Value) (c x q : Str) (st : Stmt) (ps : List Str) : Prop where
  ex : ∃ (C f : Addr) (fd : FuncData), mg c = some (.ref C) ∧ EqC K C ∧ L2.Meth K C x f ∧ FunV K x q st f fd ∧ Binds K fd ps []
theorem met_ok {P : Program} {w : World} {K : PySem.W.Frag} {mg : Str → Option Value} {base : Heap} {k : Nat} {mc : MC} {C : Ctx} {mi : MI} {q : Str} {st : Stmt} {ps : List Str} {b : List CS}
    (Mo : ModOk P w K mg base k mc C) (F : DefT K mg mi.cls mi.name q st ps) (S : FnScope mc.N ps (defScope st)) (hn : ps.length = mi.n) (m : mtB mc (defScope st) b (defBody st) = true)
    (len : ∀ ds M Q E, mi.sp ds M Q E → ds.length = mi.n)
    (h : ∀ ds M Q E, mi.sp ds M Q E → wpB C (fun x _ M => E x M) b (endsD Q) (startD mc.N ds) M) (hmk : ∀ Ca f fd, mg mi.cls = some (.ref Ca) → L2.Meth K Ca mi.name f → FunV K mi.name q st f fd → mc.ex.mks = true → MkC base mg fd := by exact fun _ _ _ _ _ _ z => absurd z (by decide)) : MtM P w K mg base (k + 1) mi := by
  obtain ⟨Ca, f, fd, h1, h2, h3, F, hb⟩ := F.ex
  exact ⟨Ca, f, fd, ps, h1, h2, h3, fnG_ok Mo F S hn m len h (hmk Ca f fd h1 h3 F), hb⟩
/-- a class's place: its __init__ -/
structure DefK (K : PySem.W.Frag) (mg : Str → Option Value) (c q : Str) (st : Stmt) (ps : List Str) : Prop where
  ex : ∃ (C f : Addr) (fd : FuncData), mg c = some (.ref C) ∧ Mk K C f ∧ FunV K "__init__" q st f fd ∧ Binds K fd ps []
theorem cls_ok {P : Program} {w : World} {K : PySem.W.Frag} {mg : Str → Option Value} {base : Heap} {k n : Nat} {mc : MC} {C : Ctx} {fi : FI} {spI : DSp} {q : Str} {st : Stmt} {ps : List Str} {b : List CS}
    (Mo : ModOk P w K mg base k mc C) (F : DefK K mg fi.name q st ps) (S : FnScope mc.N ps (defScope st)) (hn : ps.length = n) (m : mtB mc (defScope st) b (defBody st) = true)
    (len : ∀ ds M Q E, spI ds M Q E → ds.length = n)
    (h : ∀ ds M Q E, spI ds M Q E → wpB C (fun x _ M => E x M) b (endsD Q) (startD mc.N ds) M) (imp : ∀ ds M Q E, fi.sp ds M Q E → mkSp fi.name spI ds M Q E) (hmk : ∀ fd, mc.ex.mks = true → MkC base mg fd := by exact fun _ z => absurd z (by decide)) : FnK P w K mg base (k + 1) fi := by
  obtain ⟨Ca, f, fd, h1, h2, F, hb⟩ := F.ex
  exact ⟨Ca, f, fd, ps, spI, h1, h2, fnG_ok Mo F S hn m len h (hmk fd), hb, imp⟩
/-! by names -/
theorem FnG.mono {P : Program} {w : World} {K : PySem.W.Frag} {mg : Str → Option Value} {base : Heap} {j k : Nat} {f : Addr} {fd : FuncData} {ps : List Str} {sp : DSp} (h : FnG P w K mg base j f fd ps sp) (l : j ≤ k) : FnG P w K mg base k f fd ps sp :=
  ⟨h.len, fun A outer s H args us vs ds M Q E hr => h.run A outer s H args us vs ds M Q E (hr.mono l)⟩
theorem FnK.up {P : Program} {w : World} {K : PySem.W.Frag} {mg : Str → Option Value} {base : Heap} {j k : Nat} {fi : FI} (h : FnK P w K mg base j fi) (l : j + 1 ≤ k) : FnC P w K mg base k fi := .inr ⟨j, l, h⟩
theorem KwM.mono {P : Program} {w : World} {K : PySem.W.Frag} {mg : Str → Option Value} {base : Heap} {j k : Nat} {ki : KI} (h : KwM P w K mg base j ki) (l : j ≤ k) : KwM P w K mg base k ki := by
  rcases h with ⟨h0, f, fd, ps, h1, h2, h3, h4⟩ | ⟨h0, j, C, fI, fd, ps, spI, hj, h1, h2, h3, h4, h5⟩ | ⟨h0, C, f, fd, ps, h1, h2, h3, h4, h5⟩
  · exact .inl ⟨h0, f, fd, ps, h1, h2, h3.mono l, h4⟩
  · exact .inr (.inl ⟨h0, j, C, fI, fd, ps, spI, Nat.le_trans hj l, h1, h2, h3, h4, h5⟩)
  · exact .inr (.inr ⟨h0, C, f, fd, ps, h1, h2, h3, h4.mono l, h5⟩)
theorem MtM.mono {P : Program} {w : World} {K : PySem.W.Frag} {mg : Str → Option Value} {base : Heap} {j k : Nat} {mi : MI} (h : MtM P w K mg base j mi) (l : j ≤ k) : MtM P w K mg base k mi := by
  obtain ⟨Ca, f, fd, ps, h1, h2, h3, h4, h5⟩ := h
  exact ⟨Ca, f, fd, ps, h1, h2, h3, h4.mono l, h5⟩
theorem MtD.mono {P : Program} {w : World} {K : PySem.W.Frag} {mg : Str → Option Value} {base : Heap} {j k : Nat} {mi : MI} (h : MtD P w K mg base j mi) (l : j ≤ k) : MtD P w K mg base k mi := by
  obtain ⟨Ca, f, fd, ps, sp0, dds, dV, dvs, h1, h2, h3, h4, h5⟩ := h
  exact ⟨Ca, f, fd, ps, sp0, dds, dV, dvs, h1, h2, h3, h4.mono l, h5⟩
end Ow
namespace Ow
open PySem PySem.Spec PyProof.Rows L2
variable [Tb]
/-! ### the end of a law -/
theorem law_callD {P : Program} {w : World} {K : PySem.W.Frag} {mg mb : Str → Option Value} {k : Nat} {fa a : Addr} {x : Str} {sp : DSp} {cs : List (Addr × Addr)} {s1 : Shared} {vs : List Value} {ns : List Int}
    (KX : K.In s1.heap) (hns : s1.heap.Ns mainGlobals mg) (hb : s1.heap.Ns builtinsNs mb) (hbb : ∀ x : Str, x ≠ "__name__" → mb x = bootBuiltins x) (hlim : s1.heap.NoLimit) (hg : s1.gens = #[])
    (hT : ∀ p ∈ cs, s1.heap.get? p.2 = some { cls := .none, data := .fields #[] }) (nT : ∀ p ∈ cs, K.lookup p.2 = none) (C : ∀ p ∈ cs, PySem.W.CodeHd s1.heap p.1 p.2)
    (hbm : ∃ (bm : Addr) (ob : Obj), mg "__builtins__" = some (.ref bm) ∧ bm ≠ builtinsNs ∧ s1.heap.get? bm = some ob ∧ ob.cls = .type "module" ∧ ob.dict = some builtinsNs ∧ ob.data = .plain)
    (htb : ∀ p ∈ Tb.tb, p.1 ∈ cs.map (·.2))
    (ha : s1.heap.get? a = some { cls := .type "list", data := .seq vs.toArray }) (hi : IntsAre vs ns) (hl : ns.length ≤ sizeLine) (hr : Room k callerA) (hgu : callerA.guards = some [])
    (hsys : ∃ o es ep, s1.heap.get? sysModules = some o ∧ o.data = .dict es ep) (F : ∀ base : Heap, SysB base → (∀ p ∈ cs, LamX.TabB base mg p.1 p.2) → FnM P w K mg base k ⟨x, 1, sp⟩) (hmg : mg x = some (.ref fa))
    (hsp : sp [.scr ns] (fun _ => none) (fun v _ => v = .bl true) fun _ _ => False) :
    codeAny (model P w) callerA (.call (.ref fa) ⟨[.ref a], []⟩) (fun r s' => r = .ok (.ret (.bool true)) ∧ OldK s1.heap s'.heap ∧ s'.os = s1.os ∧ AllBare s'.gens) s1 := by
  have rv := vals_ints hi
  have isT : ∀ b : Addr, b ∈ cs.map (·.2) → s1.heap.get? b = some { cls := .none, data := .fields #[] } := fun b hb => by
    obtain ⟨p, hp, e⟩ := List.mem_map.mp hb
    rw [← e]
    exact hT p hp
  have aT : a ∉ cs.map (·.2) := fun z => by
    have q := isT a z
    rw [ha] at q
    have z' : Data.seq vs.toArray _ = Data.fields #[] := congrArg Obj.data (Option.some.inj q)
    cases z'
  have memT : ∀ p ∈ cs, p.2 ∈ cs.map (·.2) := fun p hp => List.mem_map.mpr ⟨p, hp, rfl⟩
  have core : ∀ H : Hp, (∀ b ∈ cs.map (·.2), H b = some (.tbl #[])) → (∀ b, H b = none ∨ b ∈ cs.map (·.2) ∨ ∃ o xs, H b = some (.frz o (.lst xs))) → ScrL K H a (ns.map V.int) → HOk P w H s1.heap → (∀ b, H b ≠ none → b = a ∨ b ∈ cs.map (·.2)) → (H a ≠ none → K.lookup a = none) →
      codeAny (model P w) callerA (.call (.ref fa) ⟨[.ref a], []⟩) (fun r s' => r = .ok (.ret (.bool true)) ∧ OldK s1.heap s'.heap ∧ s'.os = s1.os ∧ AllBare s'.gens) s1 := by
    intro H hH hO hS hok hA hK
    have base_of : ∀ {b : Addr} {o : Obj}, s1.heap.get? b = some o → H b = none → (hidT s1.heap H).get? b = some o := fun e n => hidT_get e n
    have noD : ∀ {b : Addr} {o : Obj}, s1.heap.get? b = some o → (∀ vs n, o.data ≠ .seq vs n) → o.data ≠ .fields #[] → H b = none := fun {b o} e h1 h2 => by
      cases q : H b with
      | none => rfl
      | some u =>
        rcases hA b (by rw [q]; simp) with e' | e'
        · rw [e', ha] at e
          cases e
          exact (h1 _ _ rfl).elim
        · rw [isT b e'] at e
          cases e
          exact (h2 rfl).elim
    have noA : ∀ {b : Addr} {o : Obj} {es : Array DictEntry} {ep : Nat}, s1.heap.get? b = some o → o.data = .dict es ep → H b = none := fun {b o es ep} e d => by
      refine noD e (fun vs n z => ?_) fun z => ?_
      · rw [d] at z
        cases z
      · rw [d] at z
        cases z
    have nsK : ∀ {b : Addr} {m : Str → Option Value}, s1.heap.Ns b m → (hidT s1.heap H).Ns b m := fun {b m} ⟨o, es, ep, e, d, r⟩ => ⟨o, es, ep, base_of e (noA e d), d, r⟩
    have hKb : K.In (hidT s1.heap H) := fun b o e => base_of (KX b o e) (by
      cases q : H b with
      | none => rfl
      | some u =>
        rcases hA b (by rw [q]; simp) with e' | e'
        · rw [e'] at e q
          rw [hK (by rw [q]; simp)] at e
          cases e
        · obtain ⟨p, hp, ep⟩ := List.mem_map.mp e'
          rw [← ep, nT p hp] at e
          cases e)
    have TB : ∀ p ∈ cs, LamX.TabB (hidT s1.heap H) mg p.1 p.2 := fun p hp => by
      have hTp := hT p hp
      refine ⟨?_, ?_, fun z => ?_⟩
      · obtain ⟨o, us, file, tf, flags, tg, inF, text, tt, e1, r1, r2, r3, r4, r5, r6, r7, r8, hne⟩ := C p hp
        refine ⟨o, us, file, tf, flags, tg, inF, text, tt, base_of e1 (noD e1 (fun vs n z => ?_) fun z => ?_), r1, r2, r3, r4, r5, r6, r7, r8, hne⟩
        · rw [r2] at z
          cases z
        · rw [r2] at z
          cases z
          simp at r3
      · obtain ⟨bm, ob, b1, b2, b3, b4, b5, b6⟩ := hbm
        have nG : bm ≠ mainGlobals := fun q => by
          obtain ⟨o, es, ep, e, hd, _⟩ := hns
          rw [q, e] at b3
          cases b3
          rw [hd] at b6
          cases b6
        have nP : bm ≠ p.2 := fun q => by
          rw [q, hTp] at b3
          cases b3
          cases b6
        refine ⟨bm, ob, b1, b2, nG, nP, base_of b3 (noD b3 (fun vs n z => ?_) fun z => ?_), b4, b5, b6⟩
        · rw [b6] at z
          cases z
        · rw [b6] at z
          cases z
      · obtain ⟨o, es, ep, e, hd, _⟩ := hns
        rw [z, hTp] at e
        cases e
        cases hd
    obtain ⟨mc, l1, l2⟩ := hlim
    have e0 : Env0 P w K mg (hidT s1.heap H) callerA [] s1 H :=
      ⟨rfl, ⟨hKb, nsK hns, ⟨mb, nsK hb, hbb⟩, ⟨mc, nsK l1, l2⟩⟩, fun b o e => of_hidT e, Nat.le_of_eq (hidT_size _ _), trivial, (fun b z => by cases z), hok, .of_eq hg⟩
    have hsb : SysB (hidT s1.heap H) := by
      obtain ⟨o, es, ep, ho, hc⟩ := hsys
      exact ⟨o, base_of ho (noA ho hc)⟩
    obtain ⟨f', fd, ps, m1, _, G, bd, hps⟩ := F (hidT s1.heap H) hsb TB
    obtain rfl : fa = f' := by rw [hmg] at m1; exact (by cases m1; rfl)
    have am : AbsM ⟨K, mg⟩ (fun _ => none) H := ⟨fun b o e => by (cases e), fun p hp => ⟨#[], hH _ (htb p hp), True.intro, fun pos cv hc => by
      have z : codeAmong pos [] = some cv := hc
      simp [codeAmong] at z⟩⟩
    refine codeAny_mono (G.run callerA [] s1 H ⟨[.ref a], []⟩ [.ref a] [.ref a] [.scr ns] (fun _ => none) _ _ hr hgu e0 (by simpa using bd s1 [.ref a] KX (by simpa using hps.symm)) (.cons rfl .nil) am ⟨_, _, rfl, ⟨a, rfl, hS⟩, rfl⟩ hsp) fun r s' h => ?_
    cases r with
    | error e =>
      obtain ⟨_, _, _, _, _, _, _, _, _, _, _, _, x, M', _, _, _, f⟩ := h
      exact f.elim
    | ok fl =>
      cases fl with
      | next => exact False.elim h
      | brk => exact False.elim h
      | cont => exact False.elim h
      | ret u =>
        obtain ⟨v, H', os, bare, un, hok', r', d, M', xt, rd, am', hd⟩ := h
        have hd' : d = .bl true := hd
        subst hd'
        have hv : v = .bl true := rd
        subst hv
        obtain rfl : u = Value.bool true := r'
        have key : ∀ b o, b ∉ cs.map (·.2) → s1.heap.get? b = some o → s'.heap.get? b = some o := fun b o nb e => by
          cases q : H b with
          | none => exact un.keep b o e q (by intro z; exact absurd (show b ∈ ([] : List Addr) from z) (by simp)) (by simp)
          | some u =>
            rcases hO b with z | z | ⟨ob, xs, z⟩
            · rw [q] at z; cases z
            · exact absurd z nb
            · have z2 := un.frzs b ob _ z
              obtain ⟨e1, _⟩ := hok b _ z
              obtain ⟨e2, _⟩ := hok' b _ z2
              rw [e] at e1; cases e1
              exact e2
        have grown : ∀ b ∈ cs.map (·.2), ∃ more : Array Value, s'.heap.get? b = some { cls := .none, data := .fields more } := fun b hp => by
          obtain ⟨more, z⟩ := un.tbls b #[] (hH b hp)
          exact ⟨_, hok' b _ z⟩
        refine ⟨rfl, ⟨fun b o e => ?_, fun b o e => ?_⟩, os, bare⟩
        · by_cases hb : b ∈ cs.map (·.2)
          · obtain ⟨more, hm⟩ := grown b hb
            obtain ⟨p, hp, ep⟩ := List.mem_map.mp hb
            rw [← ep] at e hm ⊢
            rw [hT p hp] at e
            cases e
            exact .inr (.inl ⟨((C p hp).tab (hT p hp)).isCodeTable, rfl, #[], more, rfl, by rw [Array.empty_append]; exact hm⟩)
          · exact .inl (key b o hb e)
        · by_cases hb : b ∈ cs.map (·.2)
          · obtain ⟨more, hm⟩ := grown b hb
            exact ⟨_, hm⟩
          · exact ⟨o, key b o hb e⟩
  cases hk : K.lookup a with
  | some o =>
    have e := KX a o hk
    rw [ha] at e
    cases e
    refine core (fun b => if b ∈ cs.map (·.2) then some (.tbl #[]) else none) (fun b hb => if_pos hb) (fun b => ?_) (.inr ⟨_, vs.toArray, _, hk, rfl, rfl, rfl, by rw [List.size_toArray, hi.length]; exact hl, by simpa using rv⟩) (fun b u z => ?_) (fun b z => ?_) fun z => absurd (show (if a ∈ cs.map (·.2) then some (HO.tbl #[]) else none) = none from if_neg aT) z
    · by_cases hb : b ∈ cs.map (·.2)
      · exact .inr (.inl hb)
      · exact .inl (if_neg hb)
    · by_cases hb : b ∈ cs.map (·.2)
      · have z' := (if_pos hb).symm.trans z
        cases z'
        exact isT b hb
      · have z' := (if_neg hb).symm.trans z
        cases z'
    · by_cases hb : b ∈ cs.map (·.2)
      · exact .inr hb
      · exact absurd (if_neg hb) z
  | none =>
    refine core (fun b => if b = a then some (.frz { cls := .type "list", data := .seq vs.toArray } (.lst (ns.map V.int))) else if b ∈ cs.map (·.2) then some (.tbl #[]) else none) (fun b hb => (if_neg (show ¬ b = a from fun z => aT (by rw [← z]; exact hb))).trans (if_pos hb)) (fun b => ?_)
      (.inl ⟨{ cls := .type "list", data := .seq vs.toArray }, if_pos rfl⟩) (fun b u z => ?_) (fun b z => ?_) fun _ => hk
    · by_cases hb : b = a
      · exact .inr (.inr ⟨_, _, if_pos hb⟩)
      · by_cases hb2 : b ∈ cs.map (·.2)
        · exact .inr (.inl hb2)
        · exact .inl ((if_neg hb).trans (if_neg hb2))
    · by_cases hb : b = a
      · have z' := (if_pos hb).symm.trans z
        cases z'
        rw [hb]
        exact ⟨ha, by rw [List.length_map]; exact hl, vs, _, rv, ha⟩
      · have z1 := (if_neg hb).symm.trans z
        by_cases hb2 : b ∈ cs.map (·.2)
        · have z' := (if_pos hb2).symm.trans z1
          cases z'
          exact isT b hb2
        · have z' := (if_neg hb2).symm.trans z1
          cases z'
    · by_cases hb : b = a
      · exact .inl hb
      · by_cases hb2 : b ∈ cs.map (·.2)
        · exact .inr hb2
        · exact absurd ((if_neg hb).trans (if_neg hb2)) z
theorem walk_ofT {l : PySem.W.OpenLaw} {n k : Nat} {q : Program} {loose : List Str} {XP : (Str → Option Value) → Heap → Prop} {YP : World → Heap → Prop} {d : DefRec} {K : Params → PySem.W.Frag} {sp : DSp}
    (hn : l.most = some n) (hn2 : n ≤ sizeLine) (hdf : d.params.defaults = []) (hr : Room k callerA) (hgu : callerA.guards = some [])
    (hi : importsNone q = true) (hY : ∀ (w : World) (h : Heap), YP w h → (K w.params).In h)
    {cs : List (Addr × Addr)} (hT : ∀ (w : World) (h : Heap), YP w h → ∀ p ∈ cs, h.get? p.2 = some { cls := .none, data := .fields #[] }) (nT : ∀ w : World, ∀ p ∈ cs, (K w.params).lookup p.2 = none) (C : ∀ (w : World) (h : Heap), (K w.params).In h → ∀ p ∈ cs, PySem.W.CodeHd h p.1 p.2) (htb : ∀ p ∈ Tb.tb, p.1 ∈ cs.map (·.2))
    (F : ∀ (w : World) (mg : Str → Option Value) (h : Heap), (K w.params).In h → h.Ns mainGlobals mg → ∀ base : Heap, SysB base → (∀ p ∈ cs, LamX.TabB base mg p.1 p.2) → FnM l.prog w (K w.params) mg base k ⟨d.name, 1, sp⟩)
    (hsp : ∀ (ns : List Int), ns.length ≤ n → (∀ z ∈ ns, Builtin.Int.intBits z ≤ 1048576) → sp [.scr ns] (fun _ => none) (fun v _ => v = .bl true) fun _ _ => False) :
    PySem.W.WalkO q loose XP YP l.row.toRowW d [] (fun f vs => PySem.call f vs) := by
  refine Att.attach_callB hn hdf fun w s0 s1 mg mb fa o pm cd doc a vs ns G Y ho hd hcd hmg hobj hints hlen hbits hg => ?_
  have KX := hY w _ Y
  exact law_callD KX G.T.g G.T.b G.T.builtins G.T.nolimit hg (hT w _ Y) (nT w) (C w _ KX) G.T.bmain htb hobj hints (Nat.le_trans hlen hn2) hr hgu (by obtain ⟨mm, ⟨o, es, ep, ho, hd, _⟩, _⟩ := (G.T.seer hi).mods; exact ⟨o, es, ep, ho, hd⟩) (F w mg _ KX G.T.g) hmg (hsp ns hlen hbits)
end Ow
namespace Ow
open PySem PySem.Spec PyProof.Rows L2
variable [Tb]
/-! ### a lambda keeps its promise -/
/-- the cells cs known again, as in H -/
def relH (H : Hp) (cs : List Addr) (H' : Hp) : Hp := fun b => if b ∈ cs then H b else H' b
theorem relH_in {H H' : Hp} {cs : List Addr} {b : Addr} (h : b ∈ cs) : relH H cs H' b = H b := if_pos h
theorem relH_out {H H' : Hp} {cs : List Addr} {b : Addr} (h : b ∉ cs) : relH H cs H' b = H' b := if_neg h
section
variable {P : Program} {w : World} {H H' : Hp} {h h' B : Heap} {cs fs : List Addr}
theorem Un.rel (u : Un fs [] (unlH cs H) H' h h') (k : KnC H cs) : Un fs [] H (relH H cs H') h h' := by
  have ni : ∀ b, H b = none → b ∉ cs := fun b e z => by
    obtain ⟨o, v, h1, _⟩ := k b z
    rw [h1] at e; cases e
  refine ⟨fun b o e n hb hx => u.keep b o e (by rw [unlH_out (ni b n)]; exact n) hb hx, fun b o e n hb hx => u.slot b o e (by rw [unlH_out (ni b n)]; exact n) hb hx, fun b o e n hx => ?_, u.there, fun b xs e => ?_, fun b o v e => ?_, fun b ps e => ?_⟩
  · rw [relH_out (ni b n)]
    exact u.free b o e (by rw [unlH_out (ni b n)]; exact n) hx
  · have hm : b ∉ cs := k.no e fun o v z => by cases z
    rw [relH_out hm]
    exact u.tups b xs (by rw [unlH_out hm]; exact e)
  · by_cases hm : b ∈ cs
    · rw [relH_in hm]; exact e
    · rw [relH_out hm]
      exact u.frzs b o v (by rw [unlH_out hm]; exact e)
  · have hm : b ∉ cs := k.no e fun o v z => by cases z
    rw [relH_out hm]
    exact u.tbls b ps (by rw [unlH_out hm]; exact e)
theorem UB.rel (u : UB fs (unlH cs H) H' h B h') (k : KnC H cs) : UB fs H (relH H cs H') h B h' := by
  have ni : ∀ b, H b = none → b ∉ cs := fun b e z => by
    obtain ⟨o, v, h1, _⟩ := k b z
    rw [h1] at e; cases e
  refine ⟨fun b o e n hb => u.keep b o e (by rw [unlH_out (ni b n)]; exact n) hb, u.slot, fun b o e n => ?_, u.there, fun b xs e => ?_, fun b o v e => ?_, fun b ps e => ?_⟩
  · rw [relH_out (ni b n)]
    exact u.free b o e (by rw [unlH_out (ni b n)]; exact n)
  · have hm : b ∉ cs := k.no e fun o v z => by cases z
    rw [relH_out hm]
    exact u.tups b xs (by rw [unlH_out hm]; exact e)
  · by_cases hm : b ∈ cs
    · rw [relH_in hm]; exact e
    · rw [relH_out hm]
      exact u.frzs b o v (by rw [unlH_out hm]; exact e)
  · have hm : b ∉ cs := k.no e fun o v z => by cases z
    rw [relH_out hm]
    exact u.tbls b ps (by rw [unlH_out hm]; exact e)
theorem HOk.rel (x : HOk P w H' h') (hf : ∀ c ∈ cs, H' c = none) (hk : ∀ c ∈ cs, ∃ o, H c = some (kn o) ∧ h'.get? c = some o) : HOk P w (relH H cs H') h' := fun b u e => by
  by_cases hb : b ∈ cs
  · rw [relH_in hb] at e
    obtain ⟨o, e1, e2⟩ := hk b hb
    rw [e1] at e
    cases e
    exact ⟨e2, ⟨_, e2⟩⟩
  · rw [relH_out hb] at e
    have keep : ∀ c u, H' c = some u → relH H cs H' c = some u := fun c u e => by rw [relH_out (fun z => by rw [hf c z] at e; cases e)]; exact e
    exact (x b u e).stay (fun c v _ q => q) (fun c q => keep _ _ q) fun c xs q => keep _ _ q
end
section
variable {W : Wd} {M M' : Mp} {H H' : Hp} {cs : List Addr} {f : Addr}
/-- back from a lambda's body: its cells and the functions that share them are told again -/
theorem rel_abs (A : AbsM W M H) (k : KnC H cs) {kf : Nat} {caps : List D} (hM : M f = some (.clo kf caps cs)) (hf : ∀ c ∈ cs, H' c = none) (kk : ∀ b o, b ∉ cs → H b = some (kn o) → H' b = some (kn o)) (e : Ext W (M.dropC f cs) (unlH cs H) M' H') (A' : AbsM W M' H') :
    Ext2 W M' H' (M.resC f cs M') (relH H cs H') ∧ Ext W M H (M.resC f cs M') (relH H cs H') ∧ AbsM W (M.resC f cs M') (relH H cs H') := by
  have keep : ∀ c u, H' c = some u → relH H cs H' c = some u := fun c u e => by rw [relH_out (fun z => by rw [hf c z] at e; cases e)]; exact e
  have kn' : ∀ b o, H b = some (kn o) → relH H cs H' b = some (kn o) := fun b o e => by
    by_cases hb : b ∈ cs
    · rw [relH_in hb]; exact e
    · rw [relH_out hb]; exact kk b o hb e
  -- the functions' own objects are known, and no lists
  have fobj : ∀ a kc cp cc, M a = some (.clo kc cp cc) → ∃ o, H' a = some (kn o) := fun a kc cp cc h => by
    obtain ⟨T, q, cl, c, vs, ⟨⟨o, d, p, t, e1, e2, e3⟩, _⟩, _⟩ := A.ob a _ h
    exact ⟨o, kk a o (k.no e1 fun o' v z => by cases z; rw [e3]; exact fun z => nomatch z) e1⟩
  have x2 : Ext2 W M' H' (M.resC f cs M') (relH H cs H') := by
    refine ⟨⟨fun a xs t => ?_, fun a o _ e _ => keep _ _ e, fun a o xs e => keep _ _ e, fun a o n ha hl => ?_⟩, fun b o e => keep _ _ e, fun b o e => keep _ _ e⟩
    · rcases t with t | t
      · refine .inl ?_
        rcases t with t | ⟨o, t⟩
        · exact .inl (keep _ _ t)
        · exact .inr ⟨o, keep _ _ t⟩
      · exact .inr t
    · have no : ∀ kc cp cc, M a ≠ some (.clo kc cp cc) := fun kc cp cc z => by
        obtain ⟨o', z'⟩ := fobj a kc cp cc z
        rw [ha] at z'
        cases z'
        cases hl
      unfold Mp.resC
      split
      · rename_i e
        rw [e] at no
        exact absurd hM (no _ _ _)
      · split
        · rename_i q
          exact absurd q (no _ _ _)
        · exact n
  have x : Ext W M H (M.resC f cs M') (relH H cs H') := ((Ext.unl k Mp.dropC_sub).trans e).trans x2.toExt
  have clo : ∀ a kc cp cc, M a = some (.clo kc cp cc) → RepO W (M.resC f cs M') (relH H cs H') a (.clo kc cp cc) := fun a kc cp cc h => by
    obtain ⟨T, q, cl, c, vs, h1, h2, h3⟩ := A.ob a _ h
    exact ⟨T, q, cl, c, vs, h1.keep kn', h2.keep kn', h3.ext x⟩
  refine ⟨x2, x, fun a o q => ?_, A'.tb.keep (fun b ps e => keep _ _ e) fun b o e => keep _ _ e⟩
  have other : M' a = some o → RepO W (M.resC f cs M') (relH H cs H') a o := fun h => by
    have r := A'.ob a o h
    refine r.ext x2 ?_
    have := r.ne
    cases q : H' a with
    | none => exact absurd q this
    | some u => exact keep _ _ q
  unfold Mp.resC at q
  split at q
  · rename_i e
    rw [e] at q ⊢
    rw [hM] at q
    cases q
    exact clo _ _ _ _ hM
  · split at q
    · rename_i kc cp cc hMa
      split at q
      · cases q
        exact clo _ _ _ _ hMa
      · exact other q
    · exact other q
end
theorem CellsR.get {H : Hp} : ∀ {cs : List Addr} {vs : List V} {i : Nat} {c : Addr} {v : V}, CellsR H cs vs → cs[i]? = some c → vs[i]? = some v → ∃ (o : Obj) (u : Value), H c = some (Ow.kn o) ∧ o.data = .cell (some u) ∧ RelV v u
  | [], _, _, _, _, _, h, _ => by simp at h
  | c0 :: cs, _, 0, c, v, h, h1, h2 => by
    obtain ⟨v0, r, o, u, rfl, g1, g2, g3, g4⟩ := h
    simp at h1 h2
    subst h1 h2
    exact ⟨o, u, g1, g2, g3⟩
  | c0 :: cs, _, i + 1, c, v, h, h1, h2 => by
    obtain ⟨v0, r, o, u, rfl, g1, g2, g3, g4⟩ := h
    exact CellsR.get (i := i) g4 (by simpa using h1) (by simpa using h2)
/-! ### the text -/
theorem two_bind {a b : Arg} {name q : Str} {body : FuncBody} {scope : Scope} {cl : List (Str × Addr)} {c : Addr} {doc pm ctv : Value} {u v : Value} (hn : a.arg ≠ b.arg) :
    bindArgs (cloFd ⟨name, ⟨[], [a, b], none, [], [], none, []⟩, body, scope⟩ q cl c doc pm ctv) ⟨[u, v], []⟩ = pure ([a.arg, b.arg].zip [u, v]) := by
  have h1 : (a.arg == b.arg) = false := by simpa using hn
  have h2 : (b.arg == a.arg) = false := by simpa using hn.symm
  have e : seqItems? Value.none = pure none := rfl
  simp [bindArgs, cloFd, List.lookup, h1, h2, e]
/-- no parameters, or two -/
def plainP (ps : List Str) (a : Arguments) : Bool := match ps, a with
  | [], ⟨[], [], none, [], [], none, []⟩ => true
  | [x, y], ⟨[], [a, b], none, [], [], none, []⟩ => decide (a.arg = x) && decide (b.arg = y) && decide (x ≠ y)
  | _, _ => false
theorem plainP_bind {ps : List Str} {a : Arguments} (h : plainP ps a = true) {name q : Str} {body : FuncBody} {scope : Scope} {cl : List (Str × Addr)} {c : Addr} {doc pm ctv : Value} {us : List Value} (hl : us.length = ps.length) :
    bindArgs (cloFd ⟨name, a, body, scope⟩ q cl c doc pm ctv) ⟨us, []⟩ = pure (ps.zip us) := by
  unfold plainP at h
  split at h
  · match us, hl with
    | [], _ => rfl
  · simp only [Bool.and_eq_true, decide_eq_true_eq] at h
    obtain ⟨⟨rfl, rfl⟩, hn⟩ := h
    match us, hl with
    | [u, v], _ => exact two_bind hn
  · cases h
/-- the lambda's text is the reading ce -/
def lamT (mc : MC) (ps fr : List Str) (ce : CE) (T : ClTxt) : Bool := decide (T.name = "<lambda>") && plainP ps T.params && NdefX.nscB mc.N ps fr T.scope && (match T.body with
  | .expr b => mtE mc T.scope ce b
  | _ => false)
/-- the slots at a lambda's entry: what it is given, what it captured -/
def startC (N : List Str) (ds caps : List D) : DSt := ds.map some ++ (caps.map some ++ List.replicate (N.length - ds.length - caps.length) none)
theorem absS_startC {W : Wd} {M : Mp} {H : Hp} {N : List Str} {ds caps : List D} {vs ws : List V} (r : Reps W M H ds vs) (r2 : Reps W M H caps ws) : @AbsS ⟨M, H⟩ W M H (startC N ds caps) (NdefX.startF N vs (ws.map some)) := by
  have hl := r.length
  have hl2 := r2.length
  letI : Og := ⟨M, H⟩
  refine ⟨by simp [startC, NdefX.startF, hl, hl2], fun i d q => ?_, Ext.refl⟩
  unfold startC at q
  unfold NdefX.startF
  by_cases hi : i < ds.length
  · rw [List.getElem?_append_left (by simpa using hi), List.getElem?_map] at q
    rw [List.getElem?_append_left (by simpa [← hl] using hi), List.getElem?_map]
    cases e : ds[i]? with
    | none => rw [e] at q; cases q
    | some d0 =>
      rw [e] at q
      cases q
      obtain ⟨v, h1, h2⟩ := Reps.get r e
      exact ⟨v, by rw [h1]; rfl, h2⟩
  · rw [List.getElem?_append_right (by simpa using hi), List.length_map] at q
    rw [List.getElem?_append_right (by simpa [← hl] using hi)]
    simp only [List.length_map, ← hl]
    by_cases hi2 : i - ds.length < caps.length
    · rw [List.getElem?_append_left (by simpa using hi2), List.getElem?_map] at q
      rw [List.getElem?_append_left (by simpa [← hl2] using hi2), List.getElem?_map]
      cases e : caps[i - ds.length]? with
      | none => rw [e] at q; cases q
      | some d0 =>
        rw [e] at q
        cases q
        obtain ⟨v, h1, h2⟩ := Reps.get r2 e
        exact ⟨v, by rw [h1]; rfl, h2⟩
    · rw [List.getElem?_append_right (by simpa using hi2), List.getElem?_replicate] at q
      split at q <;> cases q
theorem clg_lam {P : Program} {w : World} {K : PySem.W.Frag} {mg : Str → Option Value} {base : Heap} {k : Nat} {mc : MC} {C : Ctx} {ci : CI} {ps : List Str} {ce : CE}
    (Mo : ModOk P w K mg base k mc C) (hm : mc.ex.mks = false) (hT : Tb.cl ci.id = lamT mc ps (Tb.fr ci.id) ce)
    (len : ∀ caps ds M Q E, ci.sp caps ds M Q E → ds.length = ps.length)
    (h : ∀ caps ds M Q E, ci.sp caps ds M Q E → wpE C ce (fun x _ M => E x M) (startC mc.N ds caps) M Q) : ClG P w K mg base (k + 1) ci := by
  refine ⟨fun A outer s H f caps cs us vs ds M Q E hr hg e0 hM rv am r q => ?_⟩
  obtain ⟨T, qn, cl, c, ws, ⟨⟨o, doc, pm, ctv, f1, f2, f3⟩, tx, ⟨oc, c1, ⟨cvs, ct, c2, c3⟩⟩, sub, at_, ndc⟩, CR_, rcv⟩ := am.ob f _ hM
  have kn_ := CR_.kn
  rw [hT] at tx
  unfold lamT at tx
  simp only [Bool.and_eq_true, decide_eq_true_eq] at tx
  obtain ⟨⟨⟨t1, t2⟩, t3⟩, t4⟩ := tx
  obtain ⟨nm, params, body, scope⟩ := T
  simp only at t1 t2 t3 t4
  subst t1
  obtain ⟨b, rfl⟩ : ∃ b, body = .expr b := by
    cases body with
    | expr b => exact ⟨b, rfl⟩
    | _ => cases t4
  have t4 : mtE mc scope ce b = true := t4
  have S := NdefX.nscope_by t3
  have hl : us.length = ps.length := by rw [← rv.length, ← r.length]; exact len _ _ _ _ _ q
  have ef : M.dropC f cs f = none := by unfold Mp.dropC; exact if_pos rfl
  have e0' := Ow.Env0.unl e0 kn_
  have am' : AbsM ⟨K, mg⟩ (M.dropC f cs) (unlH cs H) := am.unl kn_
  have xu : Ext ⟨K, mg⟩ M H (M.dropC f cs) (unlH cs H) := Ext.unl kn_ Mp.dropC_sub
  obtain ⟨ho, _⟩ := e0.hok f _ f1
  obtain ⟨hoc, _⟩ := e0.hok c _ c1
  -- the cells
  have look : ∀ {y b}, cl.lookup y = some b → b ∈ cs := fun {y b} e => by
    have z := List.mem_map_of_mem (f := fun y => cl.lookup y) (sub y b e)
    rw [at_] at z
    obtain ⟨b', hb', e'⟩ := List.mem_map.mp z
    have e' : some b' = cl.lookup y := e'
    rw [e] at e'
    cases e'
    exact hb'
  have flen : (Tb.fr ci.id).length = cs.length := by have := congrArg List.length at_; simpa using this
  have CA : NdefX.CellsAt cl (Tb.fr ci.id) (ws.map some) s.heap (unlH cs H) := by
    refine ⟨by rw [List.length_map, ← CR_.length, flen], fun y b e => ⟨unlH_in (look e), ?_⟩, fun x y b e1 e2 => ?_, fun i y hi => ?_⟩
    · obtain ⟨o', v, g1, g2⟩ := kn_ b (look e)
      exact ⟨v, o', (e0.hok b _ g1).1, g2⟩
    · obtain ⟨i, hi⟩ := List.mem_iff_getElem?.mp (sub x b e1)
      obtain ⟨j, hj⟩ := List.mem_iff_getElem?.mp (sub y b e2)
      have a1 := congrArg (fun l => l[i]?) at_
      have a2 := congrArg (fun l => l[j]?) at_
      simp only [List.getElem?_map, hi, hj, Option.map_some, e1, e2] at a1 a2
      have b1 : cs[i]? = some b := by cases q : cs[i]? with | none => rw [q] at a1; cases a1 | some z => rw [q] at a1; cases a1; rfl
      have b2 : cs[j]? = some b := by cases q : cs[j]? with | none => rw [q] at a2; cases a2 | some z => rw [q] at a2; cases a2; rfl
      have ij := (List.getElem?_inj (List.getElem?_eq_some_iff.mp b1).1 ndc).mp (b1.trans b2.symm)
      subst ij
      rw [hi] at hj
      cases hj
      rfl
    · have a1 := congrArg (fun l => l[i]?) at_
      simp only [List.getElem?_map, hi, Option.map_some] at a1
      cases q : cs[i]? with
      | none => rw [q] at a1; cases a1
      | some b =>
        rw [q] at a1
        have a1 : cl.lookup y = some b := Option.some.inj a1
        refine ⟨b, a1, fun v hv => ?_⟩
        have hv' : ws[i]? = some v := by
          rw [List.getElem?_map] at hv
          cases e : ws[i]? with
          | none => rw [e] at hv; cases hv
          | some z => rw [e] at hv; cases hv; rfl
        obtain ⟨o', u, g1, g2, g3⟩ := CR_.get q hv'
        exact ⟨u, g3, o', (e0.hok b _ g1).1, g2⟩
  -- the call
  have lim : s.heap.NoLimit := e0.mod.nolimit.keeps fun b o e => (e0.bs b o e).1
  obtain ⟨F, hF⟩ : ∃ F : NdefX.NF, F = ⟨"<lambda>", qn, params, [], scope, cl, c⟩ := ⟨_, rfl⟩
  have run : codeAny (model P w) A (.call (.ref f) ⟨us, []⟩) (CR (L2.CX P w) outer P w (unlH cs H) s (lft ⟨K, mg⟩ (M.dropC f cs) (unlH cs H) fun d M' => Q d (M.resC f cs M')) (lftX ⟨K, mg⟩ (M.dropC f cs) (unlH cs H) fun x M' => E x (M.resC f cs M'))) s := by
    refine PySem.W.kla_callFunE hr.depth ho f3 S.co S.gen rfl ⟨c, oc, cvs, ct, rfl, hoc, c2, c3⟩ ?_
    rw [plainP_bind t2 hl]
    refine wpAny_pure (wpAny_newFunctionEnv S.nocell (fun ⟨n, _⟩ hy => S.par n (List.of_mem_zip hy).1) (fun h₁ hns hsb => ⟨lim.fresh _ hsb, ?_⟩) S.kind)
    have kp : ∀ b o, s.heap.get? b = some o → h₁.get? b = some o := fun b o e => hsb.extBut b o (Nat.ne_of_lt (Heap.lt_size e)) (Heap.get?_push_of_some _ e)
    have hr' := hr.deeper (NdefX.envF F f s.heap.objs.size)
    obtain ⟨X, hX⟩ : ∃ X, X = NdefX.ncx (L2.CX P w) P w K mg base mc.N F f A outer s (unlH cs H) (lftX ⟨K, mg⟩ (M.dropC f cs) (unlH cs H) fun x M' => E x (M.resC f cs M')) := ⟨_, rfl⟩
    have I : Inv X [] (NdefX.startF mc.N vs (ws.map some)) (unlH cs H) { s with heap := h₁, toks := s.toks + (ps.zip us).length } := by
      rw [hX]; exact NdefX.inv_startN (by rw [hF]; exact S) hr.hd e0' (by rw [rv.length]; exact hl) rv (by rw [hF]; exact CA) hns kp
    letI og : Og := ⟨M.dropC f cs, unlH cs H⟩
    have ck : Cok mc C scope X ∧ Takes X (upW (wd X) (fun x _ M' => E x (M.resC f cs M'))) := by
      subst hX hF
      refine ⟨⟨rfl, S.nd, rfl, hg, ?_, Mo.sk, fun x kk hk => ⟨fun _ => hk, fun z => .inr (by rw [z] at hk; exact hk)⟩, fun x hx => absurd rfl (S.nocell _ (PySem.mem_of_lookup hx)), Mo.blt, Mo.fns, Mo.gns, Mo.ats, Mo.mts, fun g hg' => ?_, fun g hg' => Mo.gok g hg', fun a ha => Mo.aok a ha, fun mi hmi => ?_, fun mi hmi hn => ?_, Mo.ex.exr, Mo.ex.exx, Mo.ex.ext, Mo.ex.exl, Mo.ex.exc, fun x hx => ?_, Mo.ex.xfo, Mo.ex.xko, Mo.ex.xco, Mo.ex.xno, fun ci hci => ⟨k, Mo.ex.clk ci hci, hr'⟩, fun fi hfi => ?_, fun z => by (rw [hm] at z; cases z), Mo.ex.vek, Mo.ex.exw, fun ki hki => (Mo.ex.kwk ki hki).ok hr'⟩, ?_⟩
      · have := hr'.un
        show (A.deeper _).units + 80 < cLine
        omega
      · rcases Mo.fok g hg' with ⟨f', fd', ps', h1, h2, h3, h4, h5⟩ | ⟨j, hj, Ca, fI, fd', ps', spI, h1, h2, h3, h4, h5⟩
        · exact ⟨f', h1, h2, .fn h3 hr' h4⟩
        · exact ⟨Ca, h1, h2.kp, .inr (.inl ⟨g.name, fI, fd', ps', j, spI, h1, h2, h3, hr'.mono hj, h4, h5⟩)⟩
      · rcases Mo.mok mi hmi with ⟨Ca, f', fd', ps', h1, h2, h3, h4, h5⟩ | ⟨Ca, f', fd', ps', sp0, dds, dV, dvs, h1, h2, h3, h4, h5, h6, h7, h8⟩
        · exact ⟨Ca, f', h1, h2, h3, .fn h4 hr' h5⟩
        · exact ⟨Ca, f', h1, h2, h3, .inr (.inr ⟨fd', ps', k, sp0, dds, dV, dvs, h4, hr', h5, h6, h7, h8⟩)⟩
      · obtain ⟨j, hj, Ca, f', fd', ps', h1, h2, h3, h4, h5⟩ := Mo.lok mi hmi hn
        exact ⟨Ca, f', fd', ps', j, h1, h2, h3, h4, hr'.mono hj, h5⟩
      · obtain ⟨Ca, fI, fd', p, j, h1, h2, h3, h4, h5, h6, h7, h8⟩ := Mo.ex.rok x hx
        exact ⟨Ca, fI, fd', p, j, h1, h2, h3, h4, h5, h6, hr'.mono h7, h8⟩
      · obtain ⟨f', fd', ps', h1, h2, h3, h4, h5⟩ := Mo.ex.lfk fi hfi
        exact ⟨f', fd', ps', k, h1, h2, h3, hr', h4⟩
      · exact (takes_of rfl rfl rfl rfl).imp fun c d σ H' ⟨x, ρ, M', S', a, rx, ex⟩ => ⟨x, M', AbsS.og S', a, rx, ex⟩
    have hW : wd X = ⟨K, mg⟩ := by rw [hX]; rfl
    have z := (sndE ce ck.1 ck.2 t4).to (NdefX.startF mc.N vs (ws.map some)) (unlH cs H) (startC mc.N ds caps) (M.dropC f cs) (fun d M' => Q d (M.resC f cs M')) (by rw [hW]; exact absS_startC (r.ext xu) (rcv.ext xu)) (by rw [hW]; exact am') (h _ _ _ _ _ q) [] _ I
    rw [hW] at z
    subst hX hF
    refine PySem.W.kla_codeExpr (wpAny_mono z (fun u s' hs => ?_) fun e s' hs => hs)
    obtain ⟨v, H', J, rv', q'⟩ := hs
    exact ⟨v, H', J.os, J.bare, J.base, J.hok, rv', q'⟩
  -- back
  have nf : ∀ c ∈ cs, c ∉ frs outer := fun c hc hm => by
    obtain ⟨o', v, g1, _⟩ := kn_ c hc
    rw [e0.frf c hm] at g1
    cases g1
  have ob : ∀ c ∈ cs, ∃ o, H c = some (kn o) ∧ s.heap.get? c = some o := fun c hc => by
    obtain ⟨o', v, g1, _⟩ := kn_ c hc
    exact ⟨o', g1, (e0.hok c _ g1).1⟩
  refine codeAny_mono run fun res s' z => ?_
  cases res with
  | ok fl =>
    cases fl with
    | ret u =>
      obtain ⟨v, H', os, bare, un, hok', rv', d, M', x, rd, am2, q2⟩ := z
      have hfree : ∀ c ∈ cs, H' c = none := fun c hc => by
        obtain ⟨o', g1, g2⟩ := ob c hc
        exact un.free c o' g2 (unlH_in hc) (by simp)
      obtain ⟨x2, x3, a3⟩ := rel_abs am kn_ hM hfree (fun b o hb e => un.frzs b o _ (by rw [unlH_out hb]; exact e)) x am2
      refine ⟨v, relH H cs H', os, bare, Ow.Un.rel un kn_, Ow.HOk.rel hok' hfree (fun c hc => ?_), rv', d, _, x3, rd.ext x2.toExt, a3, q2⟩
      obtain ⟨o', g1, g2⟩ := ob c hc
      exact ⟨o', g1, un.keep c o' g2 (unlH_in hc) (nf c hc) (by simp)⟩
    | next => exact z
    | brk => exact z
    | cont => exact z
  | error e =>
    letI : Og := ⟨M, H⟩
    obtain ⟨a, B, H', cls, d, rfl, fl, hok', ub, na, os, ag, xx, M', x, am2, rx, q2⟩ := z
    have hfree : ∀ c ∈ cs, H' c = none := fun c hc => by
      obtain ⟨o', g1, g2⟩ := ob c hc
      exact ub.free c o' g2 (unlH_in hc)
    have inB : ∀ c ∈ cs, ∃ o, H c = some (kn o) ∧ B.get? c = some o := fun c hc => by
      obtain ⟨o', g1, g2⟩ := ob c hc
      exact ⟨o', g1, ub.keep c o' g2 (unlH_in hc) (nf c hc)⟩
    obtain ⟨x2, x3, a3⟩ := rel_abs am kn_ hM hfree (fun b o hb e => ub.frzs b o _ (by rw [unlH_out hb]; exact e)) x am2
    refine ⟨a, B, relH H cs H', cls, d, rfl, fl, (Ow.HOk.rel hok' hfree inB), Ow.UB.rel ub kn_, ?_, os, ag, xx, _, x3, a3, rx.ext x2.toExt x2.xd, q2⟩
    rw [relH_out]
    · exact na
    · intro hc
      obtain ⟨o', _, g2⟩ := inB a hc
      rw [fl.2.1] at g2
      cases g2
end Ow
namespace Ow
open PySem PySem.Spec PyProof.Rows L2
variable [Tb] [Og]
/-! ### own exception classes, as the head gives them -/
/-- of an exception that may come -/
def exkB (K : PySem.W.Frag) (D : Addr) : Bool := xfB K D && decide (PySem.W.findIn K (.ref D) "__class__" = some (some (.builtin "object.__class__"))) && decide (PySem.W.specialIn K (.builtin "object.__class__") "__get__" = some (some (.builtin "getset_descriptor.__get__"))) &&
  decide (PySem.W.takesIn K (.builtin "object.__class__") = some true) && decide (PySem.W.mroIn K D (.type "object") = some true) && decide (PySem.W.kitOne K (.ref D) (.type "ValueError") = some true) &&
  ["int", "bool", "str", "tuple", "list", "dict"].all (fun t => decide (PySem.W.kitOne K (.ref D) (.type t) = some false))
theorem exkB_ok {K : PySem.W.Frag} {D : Addr} (h : exkB K D = true) : XfC K D ∧ XkC K D := by
  unfold exkB at h
  simp only [Bool.and_eq_true, decide_eq_true_eq, List.all_eq_true] at h
  obtain ⟨⟨⟨⟨⟨⟨h1, h2⟩, h3⟩, h4⟩, h5⟩, h6⟩, h7⟩ := h
  have x := xfB_ok h1
  exact ⟨x, ⟨⟨x.ga, x.gg, x.exC, x.hdC, h2, h3, h4, h5⟩, h6, fun t => h7 _ (by cases t <;> decide)⟩⟩
/-- an exception's class against an asked one -/
def excB (K : PySem.W.Frag) (D C : Addr) (b : Bool) : Bool := decide (PySem.W.exmOne K (.ref D) (.ref C) = some b) && decide (PySem.W.kitOne K (.ref D) (.ref C) = some b)
def exnB (K : PySem.W.Frag) (C : Addr) : Bool := tyNames.all fun n => decide (PySem.W.kitOne K (.type n) (.ref C) = some false)
def exfB (K : PySem.W.Frag) (D : Addr) (f : Option Str) : Bool := match f with
  | some f => decide (PySem.W.findIn K (.ref D) f = some none)
  | none => true
/-- raised: its class, its __init__, the base whose __init__ that calls -/
def exrB (K : PySem.W.Frag) (C : Addr) : Bool := decide (PySem.W.findIn K (.ref C) "__setattr__" = some (some (.builtin "object.__setattr__"))) && decide (PySem.W.subIn K (.ref C) (.type "BaseException") = some true) &&
  decide (PySem.W.typeIn K (.ref C) = some (.type "type")) && PySem.W.keepIn K (.ref C)
def winB (K : PySem.W.Frag) (W : Addr) : Bool := PySem.W.readsIn K W (.type "type") && decide (PySem.W.specialIn K (.ref W) "__getattribute__" = some (some (.builtin "type.__getattribute__")))
section
variable {P : Program} {w : World} {K : PySem.W.Frag} {h base : Heap} {mg : Str → Option Value} {k : Nat}
theorem xk_mk {d : Str} {D : Addr} (X : K.In h) (G : h.Ns mainGlobals mg) (c : PySem.W.nsIn K mainGlobals d = some (some (.ref D))) (b : exkB K D = true) : XkM K mg d := ⟨D, PySem.W.mg_of X G c, (exkB_ok b).2⟩
theorem xf_mk {d f : Str} {D : Addr} (X : K.In h) (G : h.Ns mainGlobals mg) (c : PySem.W.nsIn K mainGlobals d = some (some (.ref D))) (b : exkB K D = true) (e : exfB K D (some f) = true) : XfM K mg d f := ⟨D, PySem.W.mg_of X G c, (exkB_ok b).1, of_decide_eq_true e⟩
theorem xc_mk {d a : Str} {D A : Addr} (X : K.In h) (G : h.Ns mainGlobals mg) (c : PySem.W.nsIn K mainGlobals d = some (some (.ref D))) (c2 : PySem.W.nsIn K mainGlobals a = some (some (.ref A))) (b : excB K D A (excSub d a) = true) : XcM K mg d a ∧ XiM K mg d a := by
  unfold excB at b
  simp only [Bool.and_eq_true, decide_eq_true_eq] at b
  exact ⟨⟨D, A, PySem.W.mg_of X G c, PySem.W.mg_of X G c2, b.1⟩, ⟨D, A, PySem.W.mg_of X G c, PySem.W.mg_of X G c2, b.2⟩⟩
theorem xn_mk {a : Str} {A : Addr} (X : K.In h) (G : h.Ns mainGlobals mg) (c : PySem.W.nsIn K mainGlobals a = some (some (.ref A))) (b : exnB K A = true) : XnM K mg a := by
  unfold exnB at b
  simp only [List.all_eq_true, decide_eq_true_eq] at b
  exact ⟨A, PySem.W.mg_of X G c, b⟩
theorem xr_mk {x : XI} {C fI W : Addr} {p wn qual : Str} {st : Stmt} {oc : Value} {od an : Option Addr} {sl : Array (Option Value)} {kV doc pm cd ct : Value} {oC : Obj} (X : K.In h) (G : h.Ns mainGlobals mg) (hc : PySem.W.nsIn K mainGlobals x.name = some (some (.ref C)))
    (hC : K.lookup C = some oC) (hO : ∃ nm q N bs bm sn sub ab col dd k0 k1 k2 k3 k5, oC = excClassObj nm q C N bs bm true sn sub ab col dd k0 k1 k2 k3 k5 "ValueError.__new__" ∧ PySem.HandSPX.refsVE bm = true) (b : exrB K C = true) (ef : exfB K C x.fld = true)
    (ini : PySem.W.findIn K (.ref C) "__init__" = some (some (.ref fI))) (ty : PySem.W.typeIn K (.ref fI) = some (.type "function"))
    (l : K.lookup fI = some ⟨oc, od, .func (PySem.W.fnOf "__init__" qual (defArgs st) (defBody st) (defScope st) .none kV doc pm an cd ct), sl⟩) (hcd : PySem.W.codeIn K cd qual = true) (kf : PySem.W.keepIn K (.ref fI) = true)
    (hw : PySem.W.nsIn K mainGlobals wn = some (some (.ref W))) (wb : winB K W = true) (wa : PySem.W.findCls K (.ref W) (.type "type") "__init__" = some (.val (.builtin "ValueError.__init__")))
    (S : FnScope (spX_ps x.fld p) (spX_ps x.fld p) (defScope st)) (hg : (defScope st).names.lookup wn = some .globalImplicit) (hdb : (wn == ("__debug__" : Str)) = false) (hb : initB x.fld p wn (defBody st) = true) (hp : (p == ("__debug__" : Str)) = false ∧ (p == ("__classdict__" : Str)) = false)
    (bi : ∀ (kV doc pm : Value) (an : Option Addr) (cdv ct : Value) (us : List Value), us.length = (spX_ps x.fld p).length → bindArgs (PySem.W.fnOf "__init__" qual (defArgs st) (defBody st) (defScope st) .none kV doc pm an cdv ct) ⟨us, []⟩ = pure ((spX_ps x.fld p).zip us)) : ∀ (P : Program) (w : World) (base : Heap) (k : Nat), 2 ≤ k → XM P w K mg base k x := by
  intro P w base k hk
  obtain ⟨nm, q, N, bs, bm, sn, sub, ab, col, dd, k0, k1, k2, k3, k5, rfl, rf⟩ := hO
  unfold exrB at b
  unfold winB at wb
  simp only [Bool.and_eq_true, decide_eq_true_eq] at b wb
  obtain ⟨⟨⟨b1, b2⟩, b3⟩, b4⟩ := b
  refine ⟨C, fI, _, p, 1, PySem.W.mg_of X G hc, ⟨⟨nm, q, N, bs, bm, sn, sub, ab, col, dd, k0, k1, k2, k3, k5, hC, rf⟩, b1, b2, b3, b4⟩, ini, ty, fun f e => ?_, fnX_ok ⟨oc, od, .none, kV, doc, pm, an, cd, ct, sl, rfl, l, hcd⟩ S (PySem.W.mg_of X G hw) ⟨wb.1, wb.2, wa⟩ hg hdb hb hp, hk, (fun_mk l hcd kf).binds bi⟩
  unfold exfB at ef
  rw [e] at ef
  exact of_decide_eq_true ef
theorem ClG.mono {ci : CI} {j : Nat} (o : ClG P w K mg base j ci) (l : j ≤ k) : ClG P w K mg base k ci :=
  ⟨fun A outer s H f caps cs us vs ds M Q E hr => o.run A outer s H f caps cs us vs ds M Q E (hr.mono l)⟩
/-- where lambdas are made -/
theorem mkc_mk {x qual : Str} {st : Stmt} {f c T : Addr} {oc : Value} {od an : Option Addr} {sl : Array (Option Value)} {dV kV doc pm ct : Value} {ts : List (Addr × Addr)} (X : K.In h) (G : h.Ns mainGlobals mg) (a : PySem.W.nsIn K mainGlobals x = some (some (.ref f))) (l : K.lookup f = some ⟨oc, od, .func (PySem.W.fnOf x qual (defArgs st) (defBody st) (defScope st) dV kV doc pm an (.ref c) ct), sl⟩)
    (hm : (c, T) ∈ ts) (ht : (T, (qual ++ ".<locals>.") ++ "<lambda>") ∈ Tb.tb) (hu : ∀ p ∈ Tb.tb, p.1 = T → p.2 = (qual ++ ".<locals>.") ++ "<lambda>") : ∀ base, (∀ p ∈ ts, LamX.TabB base mg p.1 p.2) → ∀ f' fd, mg x = some (.ref f') → FunV K x qual st f' fd → MkC base mg fd := by
  intro base TB f' fd hf F
  rw [PySem.W.mg_of X G a] at hf
  cases hf
  obtain ⟨oc', od', dV', kV', doc', pm', an', cdv', ct', osl', rfl, lk, _⟩ := F.ex
  rw [l] at lk
  have e := congrArg (fun o : Option Obj => o.map Obj.data) lk
  simp only [Option.map_some, Option.some.injEq, Data.func.injEq] at e
  exact ⟨c, T, TB _ hm, by rw [← e], by rw [← e]; exact ht, by rw [← e]; exact hu⟩
end
end Ow
namespace Ow
open PySem PySem.Spec PyProof.Rows L2
variable [Tb] [Og]
/-! ### loops, by what holds at each turn -/
theorem forD_ind {ct : CT} {ok : Mp → Prop} {tb : DTS} {B : DEnds} (I : List D → DSt → Mp → Prop) (hok : ∀ l ρ M, I l ρ M → ok M)
    (step : ∀ x r ρ M, I (x :: r) ρ M → ∀ nx : DSt → Mp → Prop, (∀ ρ' M', I r ρ' M' → nx ρ' M') → bindT ct x ρ fun ρ' => tb { B with nx := nx, ct := nx, bk := B.nx } ρ' M)
    (fin : ∀ ρ M, I [] ρ M → B.nx ρ M) : ∀ l ρ M, I l ρ M → forD ct ok tb B l ρ M
  | [], ρ, M, h => ⟨hok _ _ _ h, fin ρ M h⟩
  | x :: r, ρ, M, h => ⟨hok _ _ _ h, step x r ρ M h _ fun ρ' M' h' => forD_ind I hok step fin r ρ' M' h'⟩
theorem cmpL_ind {fz : Bool} {ok : Mp → Prop} {turn : D → Mp → QE → (Mp → Prop) → Prop} {p : Addr} {Q : QE} (I : List D → List D → Mp → Prop) (hok : ∀ l acc M, I l acc M → ok M ∧ M p = some (.lst acc))
    (step : ∀ x r acc M, I (x :: r) acc M → ∀ (add : QE) (skip : Mp → Prop), (∀ d M', M' p = some (.lst acc) → acc.length < sizeLine → I r (acc ++ [d]) (M'.upd p (.lst (acc ++ [d]))) → add d M') → (∀ M', I r acc M' → skip M') → turn x M add skip)
    (fin : ∀ acc M, I [] acc M → if fz = true then Q (.lst acc) (M.del p) else Q (.ref p) M) : ∀ l acc M, I l acc M → cmpL fz ok turn p Q l M
  | [], acc, M, h => by
    obtain ⟨h1, h2⟩ := hok _ _ _ h
    exact ⟨h1, by rw [h2]; exact fin acc M h⟩
  | x :: r, acc, M, h => by
    obtain ⟨h1, h2⟩ := hok _ _ _ h
    refine ⟨h1, step x r acc M h _ _ (fun d M' e hl i => ?_) fun M' i => cmpL_ind I hok step fin r acc M' i⟩
    simp only [e]
    exact ⟨hl, cmpL_ind I hok step fin r (acc ++ [d]) _ i⟩
/-- elements that change nothing -/
theorem cmpL_map {ok : Mp → Prop} {turn : D → Mp → QE → (Mp → Prop) → Prop} {p : Addr} {Q : QE} (g : D → D) {l : List D} {M : Mp} (hp : M p = none) (hl : l.length ≤ sizeLine) (hok : ∀ acc, ok (M.upd p (.lst acc)))
    (h : ∀ x ∈ l, ∀ acc (add : QE) (skip : Mp → Prop), add (g x) (M.upd p (.lst acc)) → turn x (M.upd p (.lst acc)) add skip) (q : Q (.lst (l.map g)) M) : cmpL true ok turn p Q l (M.upd p (.lst [])) := by
  have step : ∀ (x : D) (r acc : List D) (M' : Mp), (M' = M.upd p (.lst acc) ∧ acc ++ (x :: r).map g = l.map g ∧ ∀ y ∈ x :: r, y ∈ l) → ∀ (add : QE) (skip : Mp → Prop),
      (∀ d M'', M'' p = some (.lst acc) → acc.length < sizeLine → (M''.upd p (.lst (acc ++ [d])) = M.upd p (.lst (acc ++ [d])) ∧ (acc ++ [d]) ++ r.map g = l.map g ∧ ∀ y ∈ r, y ∈ l) → add d M'') →
      (∀ M'', (M'' = M.upd p (.lst acc) ∧ acc ++ r.map g = l.map g ∧ ∀ y ∈ r, y ∈ l) → skip M'') → turn x M' add skip := by
    rintro x r acc M' ⟨e, e2, e3⟩ add skip ha hs
    subst e
    refine h x (e3 x List.mem_cons_self) acc add skip (ha _ _ Mp.upd_same ?_ ⟨Mp.upd_upd, by simpa using e2, fun y hy => e3 y (List.mem_cons_of_mem _ hy)⟩)
    have := congrArg List.length e2
    simp at this; omega
  refine cmpL_ind (fun r acc M' => M' = M.upd p (.lst acc) ∧ acc ++ r.map g = l.map g ∧ ∀ y ∈ r, y ∈ l) (fun r acc M' z => by rw [z.1]; exact ⟨hok acc, Mp.upd_same⟩) step (fun acc M' z => ?_) l [] _ ⟨rfl, rfl, fun x h => h⟩
  obtain ⟨e, e2, _⟩ := z
  subst e
  rw [if_pos rfl, Mp.del_upd hp]
  simp at e2; rw [e2]; exact q
/-! ### steps of the reading -/
section
variable {C : Ctx} {E : EX} {ρ : DSt} {M : Mp} {Q : QE} {B : DEnds} {a b c : CE} {i j k : Int} {l : List D} {u : Addr} {d : D}
@[simp] theorem listIn_ref : listIn M (.ref u) = (match M u with | some (.lst l) => some l | _ => none) := rfl
@[simp] theorem listIn_lst : listIn M (.lst l) = some l := rfl
@[simp] theorem listIn_tup : listIn M (.tup l) = none := rfl
@[simp] theorem seqIn_ref : seqIn M (.ref u) = (match M u with | some (.lst l) => some l | _ => none) := rfl
@[simp] theorem seqIn_lst : seqIn M (.lst l) = some l := rfl
@[simp] theorem seqIn_tup : seqIn M (.tup l) = some l := rfl
@[simp] theorem seqIn_scr {ns : List Int} : seqIn M (.scr ns) = some (ns.map D.int) := rfl
@[simp] theorem len_tup : lenD (.tup l) M Q = Q (.int l.length) M := rfl
@[simp] theorem len_lst : lenD (.lst l) M Q = Q (.int l.length) M := rfl
@[simp] theorem len_scr {ns : List Int} : lenD (.scr ns) M Q = Q (.int ns.length) M := by show Q (.int ((ns.map D.int).length : Nat)) M = _; rw [List.length_map]
@[simp] theorem ix_scr {ns : List Int} : ixD (.scr ns) (.int k) M Q = (match atI (ns.map D.int) k with | some d => Q d M | none => False) := rfl
@[simp] theorem binD_add {fz : Bool} : binD .Add fz = addD fz := rfl
@[simp] theorem binD_sub {fz : Bool} : binD .Sub fz = subD := rfl
@[simp] theorem binD_mul {fz : Bool} : binD .Mult fz = mulD fz := rfl
@[simp] theorem binD_div {fz : Bool} : binD .FloorDiv fz = divD := rfl
@[simp] theorem binD_mod {fz : Bool} : binD .Mod fz = modD := rfl
@[simp] theorem binD_pow {fz : Bool} : binD .Pow fz = powD := rfl
@[simp] theorem binD_shl {fz : Bool} : binD .LShift fz = shlD := rfl
@[simp] theorem cmp_lt : cmpD .Lt (.int i) (.int j) M Q = Q (.bl (decide (i < j))) M := rfl
@[simp] theorem cmp_le : cmpD .LtE (.int i) (.int j) M Q = Q (.bl (decide (i ≤ j))) M := rfl
@[simp] theorem cmp_gt : cmpD .Gt (.int i) (.int j) M Q = Q (.bl (decide (j < i))) M := rfl
@[simp] theorem cmp_ge : cmpD .GtE (.int i) (.int j) M Q = Q (.bl (decide (j ≤ i))) M := rfl
@[simp] theorem cmp_eqi : cmpD .Eq (.int i) (.int j) M Q = Q (.bl (decide (i = j))) M := by show Q (.bl (false ^^ decide (i = j))) M = _; rw [Bool.false_xor]
@[simp] theorem cmp_nei : cmpD .NotEq (.int i) (.int j) M Q = Q (.bl (!decide (i = j))) M := by show Q (.bl (true ^^ decide (i = j))) M = _; rw [Bool.true_xor]
@[simp] theorem cmp_eqs {i j : Str} : cmpD .Eq (.str i) (.str j) M Q = Q (.bl (decide (i = j))) M := by show Q (.bl (false ^^ decide (i = j))) M = _; rw [Bool.false_xor]
@[simp] theorem cmp_nes {i j : Str} : cmpD .NotEq (.str i) (.str j) M Q = Q (.bl (!decide (i = j))) M := by show Q (.bl (true ^^ decide (i = j))) M = _; rw [Bool.true_xor]
@[simp] theorem ix_ref : ixD (.ref u) (.int k) M Q = (match M u with | some (.lst l) => (match atI l k with | some d => Q d M | none => False) | some (.dic kvs) => (match valD kvs (.inl k) with | some d => Q d M | none => False) | _ => False) := by
  unfold ixD dgetD getDic dicIn
  simp only [seqIn_ref, keyD]
  cases h : M u with
  | none => rfl
  | some o =>
    cases o with
    | dic kvs => simp only []; cases valD kvs (.inl k) <;> rfl
    | _ => rfl
@[simp] theorem ix_refS {s : Str} : ixD (.ref u) (.str s) M Q = (match M u with | some (.dic kvs) => (match valD kvs (.inr s) with | some d => Q d M | none => False) | _ => False) := by
  unfold ixD dgetD getDic dicIn
  simp only [keyD]
  cases h : M u with
  | none => rfl
  | some o =>
    cases o with
    | dic kvs => simp only []; cases valD kvs (.inr s) <;> rfl
    | _ => rfl
@[simp] theorem cmp_in {x y : D} : cmpD .In x y M Q = inD false x y M Q := rfl
@[simp] theorem cmp_nin {x y : D} : cmpD .NotIn x y M Q = inD true x y M Q := rfl
@[simp] theorem in_tup {n : Bool} {x : D} : inD n x (.tup l) M Q = (scalar x = true ∧ l.all scalar = true ∧ Q (.bl (n ^^ l.any fun z => eqS z x)) M) := rfl
@[simp] theorem in_lst {n : Bool} {x : D} : inD n x (.lst l) M Q = (scalar x = true ∧ l.all scalar = true ∧ Q (.bl (n ^^ l.any fun z => eqS z x)) M) := rfl
@[simp] theorem ix_tup : ixD (.tup l) (.int k) M Q = (match atI l k with | some d => Q d M | none => False) := rfl
@[simp] theorem ix_lst : ixD (.lst l) (.int k) M Q = (match atI l k with | some d => Q d M | none => False) := rfl
@[simp] theorem atI_z {x : D} : atI (x :: l) 0 = some x := by simp [atI, ixN]
theorem atI_nat {n : Nat} (h : n < l.length) : atI l (n : Int) = some l[n] := by simp [atI, ixN, h]
theorem atI_int (h0 : 0 ≤ k) (h : k < l.length) : ∃ n, ∃ hn : n < l.length, (n : Int) = k ∧ atI l k = some l[n] := by
  obtain ⟨n, rfl⟩ := Int.eq_ofNat_of_zero_le h0
  exact ⟨n, by omega, rfl, atI_nat (by omega)⟩
theorem MulOk.r (h : -(2 ^ 64) < j) (h2 : j < 2 ^ 64) : MulOk i j := .inl (.inr ⟨h, h2⟩)
theorem MulOk.lf (h : -(2 ^ 64) < i) (h2 : i < 2 ^ 64) : MulOk i j := .inl (.inl ⟨h, h2⟩)
@[simp] theorem ends_rt : (endsD Q).rt d M = Fin Q d M := rfl
@[simp] theorem ends_nx : (endsD Q).nx ρ M = Fin Q .non M := rfl
theorem DivOk.of (h0 : 0 < j) (h : j < 10 ^ 60) : DivOk j := by
  refine ⟨h0, ?_⟩
  have h2 : j.natAbs < 2 ^ 200 := by omega
  have h3 : j.natAbs ≠ 0 := by omega
  have := (Nat.log2_lt h3).mpr h2
  omega
@[simp] theorem divOk_89 : DivOk 89 := .of (by decide) (by decide)
@[simp] theorem divOk_2 : DivOk 2 := .of (by decide) (by decide)
theorem PowOk.of (h0 : 0 ≤ j) (m : Nat) (h : i.natAbs < 2 ^ m) (h2 : (m : Int) * j ≤ 2 ^ 27) : PowOk i j :=
  ⟨h0, Int.le_trans (Int.mul_le_mul_of_nonneg_right (Int.ofNat_le.mpr (intBits_le_iff.mpr h)) h0) h2⟩
end
theorem sz {n : Nat} (h : n ≤ 16777216) : n ≤ sizeLine := by
  have : sizeLine = 16777216 := by decide
  omega
@[simp] theorem rev_tup {fz : Bool} {l : List D} {M : Mp} {Q : QE} : revD fz (.tup l) M Q = Q (.tup l.reverse) M := rfl
@[simp] theorem rev_lst {l : List D} {M : Mp} {Q : QE} : revD true (.lst l) M Q = Q (.lst l.reverse) M := rfl
/-! ### isinstance -/
section
variable {t : Ty} {M : Mp} {Q : QE}
@[simp] theorem isi_int {i : Int} : isiD t (.int i) M Q = Q (.bl (isTy t "int")) M := rfl
@[simp] theorem isi_bl {i : Bool} : isiD t (.bl i) M Q = Q (.bl (isTy t "bool")) M := rfl
@[simp] theorem isi_str {i : Str} : isiD t (.str i) M Q = Q (.bl (isTy t "str")) M := rfl
@[simp] theorem isi_non : isiD t .non M Q = Q (.bl (isTy t "NoneType")) M := rfl
@[simp] theorem isi_tup {l : List D} : isiD t (.tup l) M Q = Q (.bl (isTy t "tuple")) M := rfl
@[simp] theorem isi_lst {l : List D} : isiD t (.lst l) M Q = Q (.bl (isTy t "list")) M := rfl
@[simp] theorem is_ii : isTy .int "int" = true := rfl
@[simp] theorem is_ib : isTy .int "bool" = true := rfl
@[simp] theorem is_it : isTy .int "tuple" = false := rfl
@[simp] theorem is_bb : isTy .bool "bool" = true := rfl
@[simp] theorem is_bi : isTy .bool "int" = false := rfl
@[simp] theorem is_tt : isTy .tuple "tuple" = true := rfl
@[simp] theorem is_ti : isTy .tuple "int" = false := rfl
@[simp] theorem is_tl : isTy .tuple "list" = false := rfl
@[simp] theorem is_ll : isTy .list "list" = true := rfl
@[simp] theorem is_ss : isTy .str "str" = true := rfl
end
/-! ### the urn -/
def urnO (g x t : Int) : MO := .lst [.int g, .int x, .int t]
def Urn (M : Mp) (u : Addr) (n : Nat) : Prop := ∃ g x t : Int, M u = some (urnO g x t) ∧ 0 ≤ x ∧ x < 2305843009213693952 ∧ 0 ≤ t ∧ t ≤ n
def Only (M M' : Mp) (u : Addr) : Prop := ∀ a, a ≠ u → M' a = M a
theorem Only.trans {M M1 M2 : Mp} {u : Addr} (h : Only M M1 u) (k : Only M1 M2 u) : Only M M2 u := fun a e => (k a e).trans (h a e)
theorem Only.upd {M : Mp} {u : Addr} {o : MO} : Only M (M.upd u o) u := fun a e => Mp.upd_ne e
def mc_take : MC := ⟨["_law_urn_here", "_law_many", "_law_turn", "_law_prime", "_law_mixed", "_law_drawn", "_law_digit"], [], [], [], [], mx0⟩
def b_take : List CS := [.ifs (.cmp .Gt (.ix (.var 0) (.int 0)) (.int 0)) [.set 6 (.bin .Mod true (.ix (.var 0) (.int 0)) (.var 1)), .setix (.var 0) (.int 0) (.bin .FloorDiv true (.ix (.var 0) (.int 0)) (.var 1)), .ret (.var 6)] [],
    .set 2 (.bin .Add true (.ix (.var 0) (.int 2)) (.int 1)),
    .setix (.var 0) (.int 2) (.var 2),
    .set 3 (.ix (.lst true [.int 2147483647, .int 2147483629, .int 2147483587, .int 2147483579, .int 2147483563, .int 2147483549]) (.bin .Mod true (.var 2) (.int 6))),
    .set 4 (.bin .Mod true (.bin .Pow true (.bin .Add true (.bin .Add true (.ix (.var 0) (.int 1)) (.bin .Mult true (.bin .Mult true (.int 69997) (.var 2)) (.var 2))) (.bin .Mult true (.int 23) (.var 2))) (.int 3)) (.var 3)),
    .set 5 (.bin .FloorDiv true (.bin .Mod true (.bin .Mult true (.var 4) (.bin .Add true (.bin .Mod true (.var 4) (.int 10007)) (.bin .Mult true (.int 17) (.var 2)))) (.int 2305843009213693907)) (.int 89)),
    .ret (.bin .Mod true (.ife (.cmp .Gt (.var 1) (.bin .Pow true (.int 10) (.int 6))) (.bin .Add true (.bin .Mult true (.bin .Mult true (.var 5) (.var 5)) (.var 5)) (.var 5)) (.var 5)) (.var 1))]
def spTake : DSp := fun ds M Q _ => ∃ u many n, ds = [.ref u, .int many] ∧ 0 < many ∧ many < 10 ^ 60 ∧ Urn M u n ∧ n < 2 ^ 60 ∧ ∀ (r : Int) M', 0 ≤ r → r < many → Urn M' u (n + 1) → Only M M' u → Q (.int r) M'
theorem wp_take {C : Ctx} {E : EX} {ds : List D} {M : Mp} {Q : QE} {E' : XD → Mp → Prop} (h : spTake ds M Q E') : wpB C E b_take (endsD Q) (startD mc_take.N ds) M := by
  obtain ⟨u, many, n, rfl, h1, h2, ⟨g, x, t, hM, hx, hx2, ht, htn⟩, hn, q⟩ := h
  have e0 : startD mc_take.N [.ref u, .int many] = [some (.ref u), some (.int many), none, none, none, none, none] := rfl
  rw [e0]
  unfold urnO at hM
  rw [b_take, wpB]
  simp [hM, atI, ixN]
  by_cases hg : 0 < g
  · rw [if_pos hg, wpB]
    simp [hM, h1, atI, ixN]
    rw [wpB]
    simp [hM, h1, atI, ixN, DivOk.of h1 h2]
    rw [wpB]
    simp
    refine Fin.same (q _ _ (Int.emod_nonneg _ (by omega)) (Int.emod_lt_of_pos _ h1) ⟨_, _, _, Mp.upd_same, hx, hx2, ht, by omega⟩ Only.upd)
  · rw [if_neg hg, wpB]
    simp only
    rw [wpB]
    simp [hM, atI, ixN]
    rw [wpB]
    simp [hM, atI, ixN]
    obtain ⟨T, hT⟩ : ∃ T, T = t + 1 := ⟨_, rfl⟩
    rw [← hT]
    rw [wpB]
    simp
    refine ⟨by decide, ?_⟩
    obtain ⟨j, hj, e1, e2⟩ := atI_int (l := [D.int 2147483647, D.int 2147483629, D.int 2147483587, D.int 2147483579, D.int 2147483563, D.int 2147483549]) (k := T % 6) (Int.emod_nonneg _ (by decide)) (Int.emod_lt_of_pos _ (by decide))
    rw [e2]
    have hp : ∃ p : Int, [D.int 2147483647, D.int 2147483629, D.int 2147483587, D.int 2147483579, D.int 2147483563, D.int 2147483549][j] = .int p ∧ 0 < p ∧ p < 2147483648 := by
      have hj' : j < 6 := hj
      match j, hj' with
      | 0, _ => exact ⟨_, rfl, by decide, by decide⟩
      | 1, _ => exact ⟨_, rfl, by decide, by decide⟩
      | 2, _ => exact ⟨_, rfl, by decide, by decide⟩
      | 3, _ => exact ⟨_, rfl, by decide, by decide⟩
      | 4, _ => exact ⟨_, rfl, by decide, by decide⟩
      | 5, _ => exact ⟨_, rfl, by decide, by decide⟩
    obtain ⟨p, ep, hp0, hp1⟩ := hp
    rw [ep]
    simp only
    have hT0 : 0 ≤ T := by omega
    have hT1 : T ≤ 2 ^ 60 := by omega
    have s1 : 0 ≤ 69997 * T * T := Int.mul_nonneg (by omega) hT0
    have s2 : 69997 * T * T ≤ 69997 * 2 ^ 60 * 2 ^ 60 := Int.mul_le_mul (by omega) hT1 hT0 (by decide)
    rw [wpB]
    simp [hM, atI, ixN]
    refine ⟨.r (by omega) (by omega), .r (by omega) (by omega), .r (by omega) (by omega), .of (by decide) 200 (by omega) (by decide), hp0, ?_⟩
    obtain ⟨m, hm⟩ : ∃ m, m = (x + 69997 * T * T + 23 * T) ^ 3 % p := ⟨_, rfl⟩
    have hm0 : 0 ≤ m := by rw [hm]; exact Int.emod_nonneg _ (by omega)
    have hm1 : m < 2147483648 := by rw [hm]; exact Int.lt_trans (Int.emod_lt_of_pos _ hp0) hp1
    rw [← hm]
    rw [wpB]
    simp
    refine ⟨.r (by omega) (by omega), .lf (by omega) (by omega), ?_⟩
    obtain ⟨w, hw⟩ : ∃ w, w = m * (m % 10007 + 17 * T) % 2305843009213693907 / 89 := ⟨_, rfl⟩
    have hw0 : 0 ≤ w := by omega
    have hw1 : w < 2305843009213693907 := by omega
    rw [← hw]
    rw [wpB]
    simp
    refine ⟨.of (by decide) 4 (by decide) (by decide), ?_⟩
    have fin : ∀ y : Int, Fin Q (.int (y % many)) (M.upd u (.lst [.int g, .int x, .int T])) := fun y =>
      Fin.same (q _ _ (Int.emod_nonneg _ (by omega)) (Int.emod_lt_of_pos _ h1) ⟨_, _, _, Mp.upd_same, hx, hx2, hT0, by omega⟩ Only.upd)
    split
    · exact ⟨.r (by omega) (by omega), .r (by omega) (by omega), h1, fin _⟩
    · exact ⟨h1, fin _⟩
def fi_take : FI := ⟨"_law_take", 2, spTake⟩
@[simp] theorem fi_take_sp : fi_take.sp = spTake := rfl
theorem Urn.mono {M : Mp} {u : Addr} {n m : Nat} (h : Urn M u n) (hm : n ≤ m) : Urn M u m := by
  obtain ⟨g, x, t, h1, h2, h3, h4, h5⟩ := h
  exact ⟨g, x, t, h1, h2, h3, h4, by omega⟩
theorem Urn.other {M M' : Mp} {u p : Addr} {n : Nat} (h : Urn M u n) (o : Only M M' p) (hp : p ≠ u) : Urn M' u n := by
  obtain ⟨g, x, t, h1, h2, h3, h4, h5⟩ := h
  exact ⟨g, x, t, (o u fun e => hp e.symm).trans h1, h2, h3, h4, h5⟩
theorem Urn.upd {M : Mp} {u p : Addr} {n : Nat} {o : MO} (h : Urn M u n) (hp : p ≠ u) : Urn (M.upd p o) u n := h.other Only.upd hp
theorem Urn.del {M : Mp} {u p : Addr} {n : Nat} (h : Urn M u n) (hp : p ≠ u) : Urn (M.del p) u n := by
  obtain ⟨g, x, t, h1, h2, h3, h4, h5⟩ := h
  exact ⟨g, x, t, (Mp.del_ne fun e => hp e.symm).trans h1, h2, h3, h4, h5⟩
theorem Urn.ne {M : Mp} {u p : Addr} {n : Nat} (h : Urn M u n) (hp : M p = none) : p ≠ u := by
  obtain ⟨g, x, t, h1, _⟩ := h
  rintro rfl
  rw [h1] at hp; cases hp
def mc_urn : MC := ⟨["_law_script", "_law_k", "_law_cell", "_law_great"], [], [], [], [], mx0⟩
def b_urn : List CS := [.set 2 (.ife (.cmp .Lt (.var 1) (.blt .len true [.var 0])) (.ix (.var 0) (.var 1)) (.bin .Add true (.bin .Mult true (.int 13) (.var 1)) (.int 6))),
    .set 3 (.bin .Mult true (.bin .Mod true (.blt .abs true [.var 2]) (.bin .Pow true (.bin .Pow true (.int 10) (.int 60)) (.int 5))) (.blt .int true [.cmp .GtE (.blt .abs true [.var 2]) (.bin .Pow true (.int 10) (.int 18))])),
    .ret (.lst false [.var 3, .bin .Mod true (.bin .Mult true (.bin .Add true (.bin .Add true (.bin .Mod true (.var 2) (.int 2305843009213693951)) (.bin .Mult true (.bin .Mult true (.int 7919) (.var 1)) (.var 1))) (.int 71)) (.int 48271)) (.int 2305843009213693921), .int 0])]
def spUrn : DSp := fun ds M Q _ => ∃ (ns : List Int) (k : Int), ds = [.scr ns, .int k] ∧ 0 ≤ k ∧ k < 2 ^ 60 ∧ ∀ u M', M u = none → Urn M' u 0 → Only M M' u → Q (.ref u) M'
def fi_urn : FI := ⟨"_law_urn", 2, spUrn⟩
@[simp] theorem fi_urn_sp : fi_urn.sp = spUrn := rfl
theorem wp_urn {C : Ctx} {E : EX} {ds : List D} {M : Mp} {Q : QE} {E' : XD → Mp → Prop} (h : spUrn ds M Q E') : wpB C E b_urn (endsD Q) (startD mc_urn.N ds) M := by
  obtain ⟨ns, k, rfl, h1, h2, q⟩ := h
  have e0 : startD mc_urn.N [.scr ns, .int k] = [some (.scr ns), some (.int k), none, none] := rfl
  rw [e0]
  have rest : ∀ c : Int, wpB C E (b_urn.drop 1) (endsD Q) [some (.scr ns), some (.int k), some (.int c), none] M := by
    intro c
    show wpB C E [_, _] _ _ _
    rw [wpB]
    simp
    refine ⟨.of (by decide) 4 (by decide) (by decide), .of (by decide) 200 (by decide) (by decide), .of (by decide) 4 (by decide) (by decide), ?_, ?_⟩
    · split <;> (refine .r ?_ ?_ <;> split <;> decide)
    · rw [wpB]
      simp
      refine ⟨.r (by omega) (by omega), .r (by omega) (by omega), .r (by omega) (by omega), by decide, fun p hp => Fin.same (q p _ hp ⟨_, _, _, Mp.upd_same, Int.emod_nonneg _ (by omega), Int.lt_trans (Int.emod_lt_of_pos _ (by omega)) (by omega), by omega, by omega⟩ Only.upd)⟩
  rw [show b_urn = b_urn.head (by decide) :: b_urn.drop 1 from rfl, wpB]
  simp [b_urn] at rest ⊢
  split
  · rename_i hk
    obtain ⟨j, hj, e1, e2⟩ := atI_int (l := ns.map D.int) h1 (by simpa using hk)
    rw [e2]
    simp
    exact rest _
  · exact ⟨.r (by omega) (by omega), rest _⟩
def mc_pick : MC := ⟨["_law_urn_here", "_law_items"], ["_law_take"], [], [], [], mx0⟩
def b_pick : List CS := [.ret (.ix (.var 1) (.call 0 [.var 0, .blt .len true [.var 1]]))]
def cx_pick : Ctx := ⟨[fi_take], [], [], [], kx0⟩
@[simp] theorem cx_pick_0 : cx_pick.fs[0]? = some fi_take := rfl
def spPick : DSp := fun ds M Q _ => ∃ u it l n, ds = [.ref u, it] ∧ (it = .lst l ∨ it = .tup l) ∧ l ≠ [] ∧ (l.length : Int) < 10 ^ 60 ∧ Urn M u n ∧ n < 2 ^ 60 ∧ ∀ d M', d ∈ l → Urn M' u (n + 1) → Only M M' u → Q d M'
def fi_pick : FI := ⟨"_law_pick", 2, spPick⟩
@[simp] theorem fi_pick_sp : fi_pick.sp = spPick := rfl
theorem wp_pick {E : EX} {ds : List D} {M : Mp} {Q : QE} {E' : XD → Mp → Prop} (h : spPick ds M Q E') : wpB cx_pick E b_pick (endsD Q) (startD mc_pick.N ds) M := by
  obtain ⟨u, it, l, n, rfl, hit, hne, hl, hU, hn, q⟩ := h
  have e0 : startD mc_pick.N [.ref u, it] = [some (.ref u), some it] := rfl
  rw [e0, b_pick, wpB]
  have hpos : 0 < l.length := List.length_pos_iff.mpr hne
  have key : spTake [.ref u, .int l.length] M (fun d M' => match d with | .int k => (match atI l k with | some d => Fin Q d M' | none => False) | _ => False) fun x M' => E x [some (.ref u), some it] M' := by
    refine ⟨u, l.length, n, rfl, by omega, hl, hU, hn, fun r M' r0 r1 hU' ho => ?_⟩
    obtain ⟨j, hj, e1, e2⟩ := atI_int (l := l) r0 r1
    simp only [e2]
    exact Fin.same (q _ _ (List.getElem_mem hj) hU' ho)
  have imp : ∀ (Q1 Q2 : QE) E1, (∀ k M', Q1 (.int k) M' → Q2 (.int k) M') → spTake [.ref u, .int l.length] M Q1 E1 → spTake [.ref u, .int l.length] M Q2 E1 := by
    rintro Q1 Q2 E1 m ⟨u', many, n', e, z1, z2, z3, z4, z5⟩
    exact ⟨u', many, n', e, z1, z2, z3, z4, fun r M' a b c d => m _ _ (z5 r M' a b c d)⟩
  rcases hit with rfl | rfl
  · simp
    exact imp _ _ _ (fun k M' z => by simpa using z) key
  · simp
    exact imp _ _ _ (fun k M' z => by simpa using z) key
/-! ### points, boxes, logs -/
abbrev ils (p : List Int) : List D := p.map D.int
abbrev pt (p : List Int) : D := .tup (ils p)
abbrev lg (l : List (List Int)) : D := .tup (l.map pt)
def All2 {α β : Type} (R : α → β → Prop) : List α → List β → Prop
  | [], [] => True
  | x :: xs, y :: ys => R x y ∧ All2 R xs ys
  | _, _ => False
theorem All2.length {α β : Type} {R : α → β → Prop} : ∀ {l : List α} {k : List β}, All2 R l k → l.length = k.length
  | [], [], _ => rfl
  | _ :: _, _ :: _, h => congrArg (· + 1) (All2.length h.2)
theorem All2.snoc {α β : Type} {R : α → β → Prop} : ∀ {l : List α} {k : List β} {x : α} {y : β}, All2 R l k → R x y → All2 R (l ++ [x]) (k ++ [y])
  | [], [], _, _, _, r => ⟨r, trivial⟩
  | _ :: _, _ :: _, _, _, h, r => ⟨h.1, All2.snoc h.2 r⟩
theorem All2.mem {α β : Type} {R : α → β → Prop} : ∀ {l : List α} {k : List β}, All2 R l k → ∀ y ∈ k, ∃ x ∈ l, R x y
  | [], [], _, y, hy => by cases hy
  | _ :: _, _ :: _, h, y, hy => by
    rcases List.mem_cons.mp hy with rfl | hy
    · exact ⟨_, List.mem_cons_self, h.1⟩
    · obtain ⟨x, hx, r⟩ := All2.mem h.2 y hy
      exact ⟨x, List.mem_cons_of_mem _ hx, r⟩
theorem All2.imp {α β : Type} {R S : α → β → Prop} (m : ∀ x y, R x y → S x y) : ∀ {l : List α} {k : List β}, All2 R l k → All2 S l k
  | [], [], _ => trivial
  | _ :: _, _ :: _, h => ⟨m _ _ h.1, All2.imp m h.2⟩
/-- but for the urn and one new cell -/
def Loc (M0 M : Mp) (u p : Addr) : Prop := ∀ a, a ≠ u → a ≠ p → M a = M0 a
theorem Loc.new {M : Mp} {u p : Addr} {o : MO} : Loc M (M.upd p o) u p := fun a _ h => Mp.upd_ne h
theorem Loc.upd {M0 M : Mp} {u p : Addr} {o : MO} (h : Loc M0 M u p) : Loc M0 (M.upd p o) u p := fun a h1 h2 => (Mp.upd_ne h2).trans (h a h1 h2)
theorem Loc.draw {M0 M M' : Mp} {u p : Addr} (h : Loc M0 M u p) (o : Only M M' u) : Loc M0 M' u p := fun a h1 h2 => (o a h1).trans (h a h1 h2)
theorem Loc.del {M0 M : Mp} {u p : Addr} (h : Loc M0 M u p) (hp : M0 p = none) : Only M0 (M.del p) u := fun a h1 => by
  by_cases e : a = p
  · rw [e, Mp.del_same, hp]
  · rw [Mp.del_ne e, h a h1 e]
def mc_box : MC := ⟨["_law_urn_here", "_law_axes", "_law_most", "_law_found", "_law_axis"], ["_law_take", "_law_pick"], [], [], [], mx0⟩
def b_box : List CS := [.set 3 (.lst false []),
    .for (.nm 4) .rng1 [.bin .Add true (.int 1) (.call 0 [.var 0, .var 1])] [.expr (.mth .append (.var 3) (.call 1 [.var 0, .lst true [.bin .Add true (.int 1) (.call 0 [.var 0, .var 2]), .bin .Add true (.int 1) (.call 0 [.var 0, .var 2]), .int 1, .var 2]]))],
    .ret (.blt .tuple true [.var 3])]
def cx_box : Ctx := ⟨[fi_take, fi_pick], [], [], [], kx0⟩
@[simp] theorem cx_box_0 : cx_box.fs[0]? = some fi_take := rfl
@[simp] theorem cx_box_1 : cx_box.fs[1]? = some fi_pick := rfl
def spBox : DSp := fun ds M Q _ => ∃ (u : Addr) (axes most : Int) (n : Nat), ds = [.ref u, .int axes, .int most] ∧ 1 ≤ axes ∧ axes ≤ 1000 ∧ 1 ≤ most ∧ most < 10 ^ 59 ∧ Urn M u n ∧ n < 2 ^ 59 ∧
  ∀ (bs : List Int) M', bs ≠ [] → (bs.length : Int) ≤ axes → (∀ b ∈ bs, 1 ≤ b ∧ b ≤ most) → Urn M' u (n + 4000) → Only M M' u → Q (pt bs) M'
def fi_box : FI := ⟨"_law_box", 3, spBox⟩
@[simp] theorem fi_box_sp : fi_box.sp = spBox := rfl
theorem wp_box {E : EX} {ds : List D} {M : Mp} {Q : QE} {E' : XD → Mp → Prop} (h : spBox ds M Q E') : wpB cx_box E b_box (endsD Q) (startD mc_box.N ds) M := by
  obtain ⟨u, axes, most, n, rfl, h1, h2, h3, h4, hU, hn, q⟩ := h
  have e0 : startD mc_box.N [.ref u, .int axes, .int most] = [some (.ref u), some (.int axes), some (.int most), none, none] := rfl
  rw [e0, b_box, wpB]
  simp
  intro p hp
  have hpu := hU.ne hp
  rw [wpB]
  simp [itD]
  refine ⟨u, axes, n, rfl, by omega, by omega, hU.upd hpu, by omega, fun r M1 r0 r1 hU1 ho => ?_⟩
  refine ⟨⟨by omega, by omega⟩, ?_⟩
  have hM1 : M1 p = some (.lst []) := (ho p hpu).trans Mp.upd_same
  refine forD_ind (fun rest ρ M2 => ∃ (ss : List Int) (x4 : Option D), ρ = [some (.ref u), some (.int axes), some (.int most), some (.ref p), x4] ∧ M2 p = some (.lst (ils ss)) ∧ Urn M2 u (n + 1 + 3 * ss.length) ∧ Loc M M2 u p ∧ (∀ b ∈ ss, 1 ≤ b ∧ b ≤ most) ∧ ss.length + rest.length = (1 + r).toNat)
    (fun _ _ _ _ => trivial) (fun x rest ρ M2 hI nx hnx => ?_) (fun ρ M2 hI => ?_) _ _ _ ⟨[], none, rfl, hM1, hU1, Loc.new.draw ho, by simp, by simp⟩
  · obtain ⟨ss, x4, rfl, g1, g2, g3, g4, g5⟩ := hI
    rw [List.length_cons] at g5
    simp
    rw [wpB]
    simp [g1]
    refine ⟨u, most, _, rfl, by omega, by omega, g2, by omega, fun a M3 a0 a1 hU3 ho3 => ?_⟩
    refine ⟨u, most, _, rfl, by omega, by omega, hU3, by omega, fun b M4 b0 b1 hU4 ho4 => ⟨by decide, ?_⟩⟩
    refine ⟨u, _, _, _, rfl, .inl rfl, by simp, by simp, hU4, by omega, fun d M5 hd hU5 ho5 => ?_⟩
    have hd' : ∃ s, d = .int s ∧ 1 ≤ s ∧ s ≤ most := by
      simp at hd
      rcases hd with rfl | rfl | rfl | rfl
      · exact ⟨_, rfl, by omega, by omega⟩
      · exact ⟨_, rfl, by omega, by omega⟩
      · exact ⟨_, rfl, by omega, by omega⟩
      · exact ⟨_, rfl, by omega, by omega⟩
    obtain ⟨s, rfl, s0, s1⟩ := hd'
    have e5 : M5 p = some (.lst (ils ss)) := (ho5 p hpu).trans ((ho4 p hpu).trans ((ho3 p hpu).trans g1))
    simp only [e5]
    refine ⟨by rw [List.length_map]; have : sizeLine = 16777216 := by decide
               omega, ?_⟩
    rw [wpB]
    refine hnx _ _ ⟨ss ++ [s], some x, rfl, by simp [ils], (hU5.upd hpu).mono (by rw [List.length_append, List.length_singleton]; omega), (((g3.draw ho3).draw ho4).draw ho5).upd, ?_, by rw [List.length_append, List.length_singleton]; omega⟩
    intro b' hb'
    rcases List.mem_append.mp hb' with z | z
    · exact g4 _ z
    · rw [List.mem_singleton] at z; subst z; exact ⟨s0, s1⟩
  · obtain ⟨ss, x4, rfl, g1, g2, g3, g4, g5⟩ := hI
    simp at g5
    show wpB _ _ _ _ _ _
    rw [wpB]
    simp [g1]
    refine Fin.sub Mp.sub_del (q ss _ (fun e => ?_) (by omega) g4 ((g2.del hpu).mono (by omega)) (g3.del hp))
    rw [e] at g5; simp at g5; omega
/-! ### what repr may be asked of -/
structure Shw (m : Nat) (d : D) (k b : Nat) : Prop where
  flat : d.flx = true
  sh : d.py.showable = true
  dp : d.py.depth ≤ k
  lv : d.py.leavesShort (m + 1) = true
  bk : d.py.bulk ≤ b
theorem Shw.ok {m : Nat} {d : D} {k b : Nat} (h : Shw m d k b) (hm : 7 ≤ m) (hk : k ≤ 64) (hb : (m + 3) * b + m + 1 ≤ 16777216) : ShowOk d := by
  refine ⟨h.flat, h.sh, Nat.le_trans h.dp hk, ?_⟩
  have z := PyData.shown_le_bulk (m + 1) (by omega) d.py h.lv
  have z2 : (m + 1 + 2) * d.py.bulk ≤ (m + 3) * b := Nat.mul_le_mul (by omega) h.bk
  have : sizeLine = 16777216 := by decide
  omega
theorem Shw.int {m : Nat} {i : Int} (hm : 0 < m) (h : i.natAbs < 10 ^ m) (h2 : m ≤ 400) : Shw m (.int i) 0 0 := by
  have hl : i.natAbs.log2 < 1920 := by
    by_cases e : i.natAbs = 0
    · rw [e]; decide
    · have : i.natAbs < 2 ^ (4 * m) := by
        rw [Nat.pow_mul]
        exact Nat.lt_of_lt_of_le h (Nat.pow_le_pow_left (by decide) m)
      have := (Nat.log2_lt e).mpr this
      omega
  refine ⟨rfl, ?_, by simp only [D.py, PyData.depth]; omega, ?_, by simp only [D.py, PyData.bulk]; omega⟩
  · simp only [D.py, PyData.showable, decide_eq_true_eq]; omega
  · have z := int_text_length_le10 hm h
    simp only [D.py, PyData.leavesShort, PyData.shown]
    refine decide_eq_true (Nat.le_trans (Nat.le_of_eq ?_) z)
    exact PySem.ofString_length _
theorem Shw.bl {m : Nat} {i : Bool} : Shw m (.bl i) 0 0 := by
  refine ⟨rfl, by simp only [D.py, PyData.showable], by simp only [D.py, PyData.depth]; omega, by simp only [D.py, PyData.leavesShort], by simp only [D.py, PyData.bulk]; omega⟩
theorem Shw.mono {m : Nat} {d : D} {k b k' b' : Nat} (h : Shw m d k b) (hk : k ≤ k') (hb : b ≤ b') : Shw m d k' b' := ⟨h.flat, h.sh, Nat.le_trans h.dp hk, h.lv, Nat.le_trans h.bk hb⟩
theorem Shw.alls {m k b : Nat} : ∀ {l : List D}, (∀ d ∈ l, Shw m d k b) → D.flxs l = true ∧ PyData.showableAll (D.pys l) = true ∧ PyData.depthAll (D.pys l) ≤ k ∧ PyData.leavesShortAll (m + 1) (D.pys l) = true ∧ PyData.bulkAll (D.pys l) ≤ l.length * (b + 1)
  | [], _ => ⟨rfl, by simp only [D.pys, PyData.showableAll], by simp only [D.pys, PyData.depthAll]; omega, by simp only [D.pys, PyData.leavesShortAll], by simp only [D.pys, PyData.bulkAll]; omega⟩
  | d :: l, h => by
    obtain ⟨a1, a2, a4, a5, a6⟩ := Shw.alls (l := l) fun x hx => h x (List.mem_cons_of_mem _ hx)
    have hd := h d List.mem_cons_self
    refine ⟨?_, ?_, ?_, ?_, ?_⟩
    · show (d.flx && D.flxs l) = true; rw [hd.flat, a1]; rfl
    · simp only [D.pys, PyData.showableAll, hd.sh, a2]; rfl
    · simp only [D.pys, PyData.depthAll]; exact Nat.max_le.mpr ⟨hd.dp, a4⟩
    · simp only [D.pys, PyData.leavesShortAll, hd.lv, a5]; rfl
    · simp only [D.pys, PyData.bulkAll, List.length_cons, Nat.add_mul]
      have := hd.bk
      omega
theorem Shw.tup {m k b n : Nat} {l : List D} (h : ∀ d ∈ l, Shw m d k b) (hn : l.length ≤ n) : Shw m (.tup l) (k + 1) (n * (b + 1)) := by
  obtain ⟨a1, a2, a4, a5, a6⟩ := Shw.alls h
  refine ⟨a1, by simp only [D.py, PyData.showable]; exact a2, by simp only [D.py, PyData.depth]; omega, by simp only [D.py, PyData.leavesShort]; exact a5, ?_⟩
  simp only [D.py, PyData.bulk]
  exact Nat.le_trans a6 (Nat.mul_le_mul_right _ hn)
theorem Shw.lst {m k b n : Nat} {l : List D} (h : ∀ d ∈ l, Shw m d k b) (hn : l.length ≤ n) : Shw m (.lst l) (k + 1) (n * (b + 1)) := by
  obtain ⟨a1, a2, a4, a5, a6⟩ := Shw.alls h
  refine ⟨a1, by simp only [D.py, PyData.showable]; exact a2, by simp only [D.py, PyData.depth]; omega, by simp only [D.py, PyData.leavesShort]; exact a5, ?_⟩
  simp only [D.py, PyData.bulk]
  exact Nat.le_trans a6 (Nat.mul_le_mul_right _ hn)
theorem Shw.ils {m : Nat} {p : List Int} (hm : 0 < m) (h2 : m ≤ 400) (h : ∀ i ∈ p, i.natAbs < 10 ^ m) : ∀ d ∈ ils p, Shw m d 0 0 := by
  intro d hd
  obtain ⟨i, hi, rfl⟩ := List.mem_map.mp hd
  exact .int hm (h i hi) h2
theorem ShowOk.int {i : Int} (h : i.natAbs < 10 ^ 200) : ShowOk (.int i) := (Shw.int (m := 200) (by decide) h (by decide)).ok (by decide) (by decide) (by decide)
theorem ShowOk.bl {i : Bool} : ShowOk (.bl i) := (Shw.bl (m := 200)).ok (by decide) (by decide) (by decide)
/-! ### the module's defs, as the head gives them -/
theorem defM_mk {K : PySem.W.Frag} {h : Heap} {mg : Str → Option Value} {x : Str} {st : Stmt} {ps : List Str} {f : Addr} {oc : Value} {od an : Option Addr} {sl : Array (Option Value)} {kV doc pm cd ct : Value} (X : K.In h) (G : h.Ns mainGlobals mg)
    (a : PySem.W.nsIn K mainGlobals x = some (some (.ref f))) (l : K.lookup f = some ⟨oc, od, .func (PySem.W.fnOf x x (defArgs st) (defBody st) (defScope st) .none kV doc pm an cd ct), sl⟩) (c : PySem.W.codeIn K cd x = true) (k : PySem.W.keepIn K (.ref f) = true)
    (b : ∀ (kV doc pm : Value) (an : Option Addr) (cdv ct : Value) (us : List Value), us.length = ps.length → bindArgs (PySem.W.fnOf x x (defArgs st) (defBody st) (defScope st) .none kV doc pm an cdv ct) ⟨us, []⟩ = pure (ps.zip us)) : DefM K mg x st ps :=
  ⟨f, _, .of (fun_mk l c k), PySem.W.mg_of X G a, (fun_mk l c k).binds b⟩
theorem blt_mk {K : PySem.W.Frag} {h : Heap} {mg : Str → Option Value} (X : K.In h) (G : h.Ns mainGlobals mg)
    (z0 : PySem.W.nsIn K mainGlobals "len" = some none) (z1 : PySem.W.nsIn K mainGlobals "abs" = some none) (z2 : PySem.W.nsIn K mainGlobals "max" = some none) (z3 : PySem.W.nsIn K mainGlobals "min" = some none) (z4 : PySem.W.nsIn K mainGlobals "sum" = some none)
    (z5 : PySem.W.nsIn K mainGlobals "all" = some none) (z6 : PySem.W.nsIn K mainGlobals "any" = some none) (z7 : PySem.W.nsIn K mainGlobals "repr" = some none) (z8 : PySem.W.nsIn K mainGlobals "divmod" = some none) (z9 : PySem.W.nsIn K mainGlobals "tuple" = some none)
    (z10 : PySem.W.nsIn K mainGlobals "list" = some none) (z11 : PySem.W.nsIn K mainGlobals "int" = some none) (z12 : PySem.W.nsIn K mainGlobals "str" = some none) (z13 : PySem.W.nsIn K mainGlobals "bool" = some none) (z14 : PySem.W.nsIn K mainGlobals "range" = some none)
    (z15 : PySem.W.nsIn K mainGlobals "zip" = some none) (z16 : PySem.W.nsIn K mainGlobals "enumerate" = some none) (z17 : PySem.W.nsIn K mainGlobals "isinstance" = some none) (z18 : PySem.W.nsIn K mainGlobals "dict" = some none)
    (z19 : PySem.W.nsIn K mainGlobals "sorted" = some none) (z20 : PySem.W.nsIn K mainGlobals "set" = some none) (z21 : PySem.W.nsIn K mainGlobals "reversed" = some none) : ∀ x ∈ bltNames, mg x = none := by
  have n := fun {x : Str} (z : PySem.W.nsIn K mainGlobals x = some none) => PySem.W.mg_none_of X G z
  intro x hx
  simp only [bltNames, List.mem_cons, List.mem_nil_iff, or_false] at hx
  rcases hx with rfl | rfl | rfl | rfl | rfl | rfl | rfl | rfl | rfl | rfl | rfl | rfl | rfl | rfl | rfl | rfl | rfl | rfl | rfl | rfl | rfl | rfl
  all_goals first
    | exact n z0
    | exact n z1
    | exact n z2
    | exact n z3
    | exact n z4
    | exact n z5
    | exact n z6
    | exact n z7
    | exact n z8
    | exact n z9
    | exact n z10
    | exact n z11
    | exact n z12
    | exact n z13
    | exact n z14
    | exact n z15
    | exact n z16
    | exact n z17
    | exact n z18
    | exact n z19
    | exact n z20
    | exact n z21
theorem fok_nil {P : Program} {w : World} {K : PySem.W.Frag} {mg : Str → Option Value} {base : Heap} {k : Nat} : ∀ fi ∈ ([] : List FI), FnC P w K mg base k fi := fun _ h => by cases h
theorem gok_nil {K : PySem.W.Frag} {mg : Str → Option Value} : ∀ g ∈ ([] : List GI), GM K mg g := fun _ h => by cases h
theorem gint_mk {K : PySem.W.Frag} {h : Heap} {mg : Str → Option Value} {x : Str} {i : Int} {t : Tok} (X : K.In h) (G : h.Ns mainGlobals mg) (a : PySem.W.nsIn K mainGlobals x = some (some (.int i t))) : GM K mg ⟨x, .int i⟩ :=
  ⟨.int i, .int i t, PySem.W.mg_of X G a, ⟨t, rfl⟩, fun _ _ _ => rfl⟩
theorem gok_cons {K : PySem.W.Frag} {mg : Str → Option Value} {g : GI} {l : List GI} (h : GM K mg g) (t : ∀ fi ∈ l, GM K mg fi) : ∀ fi ∈ g :: l, GM K mg fi := fun fi hm =>
  (List.mem_cons.mp hm).elim (fun e => e ▸ h) (t fi)
theorem fok_cons {P : Program} {w : World} {K : PySem.W.Frag} {mg : Str → Option Value} {base : Heap} {k : Nat} {f : FI} {l : List FI} (h : FnM P w K mg base k f) (t : ∀ fi ∈ l, FnC P w K mg base k fi) : ∀ fi ∈ f :: l, FnC P w K mg base k fi := fun fi hm =>
  (List.mem_cons.mp hm).elim (fun e => e ▸ .inl h) (t fi)
theorem fok_consK {P : Program} {w : World} {K : PySem.W.Frag} {mg : Str → Option Value} {base : Heap} {k : Nat} {f : FI} {l : List FI} (h : FnC P w K mg base k f) (t : ∀ fi ∈ l, FnC P w K mg base k fi) : ∀ fi ∈ f :: l, FnC P w K mg base k fi := fun fi hm =>
  (List.mem_cons.mp hm).elim (fun e => e ▸ h) (t fi)
/-! ### own classes, as the head gives them -/
def clsBody : Stmt → List Stmt
  | .ClassDef _ _ _ b .. => b
  | _ => []
theorem defT_mk {K : PySem.W.Frag} {h : Heap} {mg : Str → Option Value} {c x q : Str} {st : Stmt} {ps : List Str} {C f : Addr} {oc : Value} {od an : Option Addr} {sl : Array (Option Value)} {kV doc pm cd ct : Value} (X : K.In h) (G : h.Ns mainGlobals mg)
    (hc : PySem.W.nsIn K mainGlobals c = some (some (.ref C))) (pg : PySem.W.plainGet K C Str.empty = true) (hd : PySem.W.hasDictIn K C = true) (po : PySem.W.plainOver K C = true) (sa : PySem.W.findIn K (.ref C) "__setattr__" = some (some (.builtin "object.__setattr__")))
    (ne : PySem.W.findIn K (.ref C) "__ne__" = some (some (.builtin "object.__ne__"))) (so : PySem.W.subIn K (.ref C) (.type "object") = some true) (mr : PySem.W.mroIn K C (.type "object") = some true) (ha : PySem.W.findIn K (.ref C) "__class__" = some (some (.builtin "object.__class__")))
    (hn : PySem.W.specialIn K (.builtin "object.__class__") "__get__" = some (some (.builtin "getset_descriptor.__get__"))) (tk : PySem.W.takesIn K (.builtin "object.__class__") = some true) (nt : clsNot K C = true)
    (at_ : PySem.W.findIn K (.ref C) x = some (some (.ref f))) (fn : PySem.W.isFn K (.ref f) = true) (kp : PySem.W.keepIn K (.ref f) = true)
    (l : K.lookup f = some ⟨oc, od, .func (PySem.W.fnOf x q (defArgs st) (defBody st) (defScope st) .none kV doc pm an cd ct), sl⟩) (hcd : PySem.W.codeIn K cd q = true)
    (b : ∀ (kV doc pm : Value) (an : Option Addr) (cdv ct : Value) (us : List Value), us.length = ps.length → bindArgs (PySem.W.fnOf x q (defArgs st) (defBody st) (defScope st) .none kV doc pm an cdv ct) ⟨us, []⟩ = pure (ps.zip us)) : DefT K mg c x q st ps :=
  ⟨C, f, _, PySem.W.mg_of X G hc, ⟨nt, ⟨pg, hd, po, sa⟩, ne, so, mr, ha, hn, tk⟩, ⟨at_, fn, kp⟩, .of (fun_mk l hcd kp), (fun_mk l hcd kp).binds b⟩
theorem defK_mk {K : PySem.W.Frag} {h : Heap} {mg : Str → Option Value} {c q : Str} {st : Stmt} {ps : List Str} {C f : Addr} {oc : Value} {od an : Option Addr} {sl : Array (Option Value)} {kV doc pm cd ct : Value} (X : K.In h) (G : h.Ns mainGlobals mg)
    (hc : PySem.W.nsIn K mainGlobals c = some (some (.ref C))) (mk : PySem.W.makesIn K C = true) (ini : PySem.W.findIn K (.ref C) "__init__" = some (some (.ref f))) (fn : PySem.W.isFn K (.ref f) = true) (kp : PySem.W.keepIn K (.ref C) = true)
    (l : K.lookup f = some ⟨oc, od, .func (PySem.W.fnOf "__init__" q (defArgs st) (defBody st) (defScope st) .none kV doc pm an cd ct), sl⟩) (hcd : PySem.W.codeIn K cd q = true) (kf : PySem.W.keepIn K (.ref f) = true)
    (b : ∀ (kV doc pm : Value) (an : Option Addr) (cdv ct : Value) (us : List Value), us.length = ps.length → bindArgs (PySem.W.fnOf "__init__" q (defArgs st) (defBody st) (defScope st) .none kV doc pm an cdv ct) ⟨us, []⟩ = pure (ps.zip us)) : DefK K mg c q st ps :=
  ⟨C, f, _, PySem.W.mg_of X G hc, ⟨mk, ini, fn, kp⟩, .of (fun_mk l hcd kf), (fun_mk l hcd kf).binds b⟩
/-! called with all arguments by name -/
@[simp] theorem perm_nil {α : Type} {l : List α} : perm [] l = [] := rfl
@[simp] theorem perm_cons {α : Type} {l : List α} {i : Nat} {pm : List Nat} : perm (i :: pm) l = (match l[i]? with | some x => x :: perm pm l | none => perm pm l) := by
  unfold perm
  rw [List.filterMap_cons]
  cases l[i]? <;> rfl
theorem atM_nil {K : PySem.W.Frag} {mg : Str → Option Value} {f : Str} : AtM K mg ⟨f, []⟩ := fun _ h => by cases h
theorem atM_cons {K : PySem.W.Frag} {h : Heap} {mg : Str → Option Value} {c f : Str} {cs : List Str} {C : Addr} (X : K.In h) (G : h.Ns mainGlobals mg) (hc : PySem.W.nsIn K mainGlobals c = some (some (.ref C))) (pg : PySem.W.plainGet K C Str.empty = true) (hd : PySem.W.hasDictIn K C = true)
    (po : PySem.W.plainOver K C = true) (sa : PySem.W.findIn K (.ref C) "__setattr__" = some (some (.builtin "object.__setattr__"))) (no : PySem.W.findIn K (.ref C) f = some none) (t : AtM K mg ⟨f, cs⟩) : AtM K mg ⟨f, c :: cs⟩ := fun x hx =>
  (List.mem_cons.mp hx).elim (fun e => ⟨C, e ▸ PySem.W.mg_of X G hc, ⟨pg, hd, po, sa⟩, no⟩) (t x)
theorem aok_nil {K : PySem.W.Frag} {mg : Str → Option Value} : ∀ a ∈ ([] : List AI), AtM K mg a := fun _ h => by cases h
theorem aok_cons {K : PySem.W.Frag} {mg : Str → Option Value} {g : AI} {l : List AI} (h : AtM K mg g) (t : ∀ a ∈ l, AtM K mg a) : ∀ a ∈ g :: l, AtM K mg a := fun a hm =>
  (List.mem_cons.mp hm).elim (fun e => e ▸ h) (t a)
theorem lok_nil {P : Program} {w : World} {K : PySem.W.Frag} {mg : Str → Option Value} {base : Heap} {k : Nat} : ∀ m ∈ ([] : List MI), dun m.name = true → ∃ j, j + 1 ≤ k ∧ MtM P w K mg base j m := fun _ h => by cases h
theorem lok_skip {P : Program} {w : World} {K : PySem.W.Frag} {mg : Str → Option Value} {base : Heap} {k : Nat} {f : MI} {l : List MI} (h : dun f.name = false) (t : ∀ m ∈ l, dun m.name = true → ∃ j, j + 1 ≤ k ∧ MtM P w K mg base j m) : ∀ m ∈ f :: l, dun m.name = true → ∃ j, j + 1 ≤ k ∧ MtM P w K mg base j m := fun m hm hn => by
  rcases List.mem_cons.mp hm with rfl | hm
  · rw [h] at hn; cases hn
  · exact t m hm hn
theorem mok_nil {P : Program} {w : World} {K : PySem.W.Frag} {mg : Str → Option Value} {base : Heap} {k : Nat} : ∀ m ∈ ([] : List MI), MtA P w K mg base k m := fun _ h => by cases h
theorem mok_cons {P : Program} {w : World} {K : PySem.W.Frag} {mg : Str → Option Value} {base : Heap} {k : Nat} {f : MI} {l : List MI} (h : MtM P w K mg base k f) (t : ∀ m ∈ l, MtA P w K mg base k m) : ∀ m ∈ f :: l, MtA P w K mg base k m := fun m hm =>
  (List.mem_cons.mp hm).elim (fun e => e ▸ .inl h) (t m)
/-! ### lists of ints -/
@[simp] theorem intsOf_ils (p : List Int) : intsOf (ils p) = some p := intsOf_map p
@[simp] theorem intsOf_fn {α : Type} (f : α → Int) (p : List α) : intsOf (p.map fun n => D.int (f n)) = some (p.map f) := by
  rw [← intsOf_map (p.map f), List.map_map]; rfl
@[simp] theorem intsOf_cmp {α : Type} (f : α → Int) (p : List α) : intsOf (p.map (D.int ∘ f)) = some (p.map f) := intsOf_fn f p
@[simp] theorem boolsOf_fn {α : Type} (f : α → Bool) (p : List α) : boolsOf (p.map fun n => D.bl (f n)) = some (p.map f) := by
  rw [← boolsOf_map (p.map f), List.map_map]; rfl
@[simp] theorem boolsOf_cmp {α : Type} (f : α → Bool) (p : List α) : boolsOf (p.map (D.bl ∘ f)) = some (p.map f) := boolsOf_fn f p
@[simp] theorem boolsOf_bls (p : List Bool) : boolsOf (p.map D.bl) = some p := boolsOf_map p
/-! ### bits -/
abbrev ib (i : Int) : Int := (Builtin.Int.intBits i : Nat)
def spBits : DSp := fun ds M Q _ => ∃ i, ds = [.int i] ∧ Q (.int (ib i - 1)) M
def fi_bits : FI := ⟨"bits", 1, spBits⟩
@[simp] theorem fi_bits_sp : fi_bits.sp = spBits := rfl
def cx_value_of : Ctx := ⟨[fi_bits], [], [], [], kx0⟩
@[simp] theorem cx_value_of_0 : cx_value_of.fs[0]? = some fi_bits := rfl
def valueOf (ns : List Int) : Int := (ns.map fun n => ib n - 1).sum
def spValue : DSp := fun ds M Q _ => ∃ d ns, ds = [d] ∧ (d = .tup (ils ns) ∨ d = .lst (ils ns)) ∧ ns.length ≤ sizeLine ∧ Q (.int (valueOf ns)) M
def fi_value_of : FI := ⟨"value_of", 1, spValue⟩
@[simp] theorem fi_value_of_sp : fi_value_of.sp = spValue := rfl
def cx_bound : Ctx := ⟨[fi_value_of], [], [], [], kx0⟩
@[simp] theorem cx_bound_0 : cx_bound.fs[0]? = some fi_value_of := rfl
/-! ### near, log -/
def cx_q_near : Ctx := ⟨[fi_pick, fi_take], [], [], [], kx0⟩
@[simp] theorem cx_q_near_0 : cx_q_near.fs[0]? = some fi_pick := rfl
@[simp] theorem cx_q_near_1 : cx_q_near.fs[1]? = some fi_take := rfl
/-- each number within reach sizes of the centre -/
def Near (reach : Int) : List Int → List Int → List Int → Prop
  | c :: cs, b :: bs, p :: ps => (p - c).natAbs ≤ reach * b ∧ Near reach cs bs ps
  | [], [], [] => True
  | _, _, _ => False
theorem Near.snoc {r : Int} : ∀ {cs bs ps : List Int} {c b p : Int}, Near r cs bs ps → cs.length = bs.length → (p - c).natAbs ≤ r * b → Near r (cs ++ [c]) (bs ++ [b]) (ps ++ [p])
  | [], [], [], _, _, _, _, _, h => ⟨h, trivial⟩
  | _ :: _, _ :: _, _ :: _, _, _, _, h, hl, h2 => ⟨h.1, Near.snoc h.2 (by simpa using hl) h2⟩
theorem Near.length {r : Int} : ∀ {cs bs ps : List Int}, Near r cs bs ps → cs.length = bs.length → ps.length = bs.length
  | [], [], [], _, _ => rfl
  | _ :: _, _ :: _, _ :: _, h, hl => by rw [List.length_cons, List.length_cons, Near.length h.2 (by simpa using hl)]
def spNear : DSp := fun ds M Q _ => ∃ (u : Addr) (bs cs : List Int) (reach : Int) (n : Nat), ds = [.ref u, pt bs, pt cs, .int reach] ∧ cs.length = bs.length ∧ bs.length ≤ 1000 ∧ (∀ b ∈ bs, 1 ≤ b ∧ b ≤ 10 ^ 50) ∧ 1 ≤ reach ∧ reach ≤ 1000 ∧ Urn M u n ∧ n < 2 ^ 59 ∧
  ∀ (ps : List Int) M', Near reach cs bs ps → Urn M' u (n + 3 * bs.length) → Only M M' u → Q (pt ps) M'
def fi_q_near : FI := ⟨"_law_near", 4, spNear⟩
@[simp] theorem fi_q_near_sp : fi_q_near.sp = spNear := rfl
def cx_q_log : Ctx := ⟨[fi_pick, fi_take, fi_q_near], [], [], [], kx0⟩
@[simp] theorem cx_q_log_0 : cx_q_log.fs[0]? = some fi_pick := rfl
@[simp] theorem cx_q_log_1 : cx_q_log.fs[1]? = some fi_take := rfl
@[simp] theorem cx_q_log_2 : cx_q_log.fs[2]? = some fi_q_near := rfl
/-- a log over a box of that many axes, its numbers bounded -/
def LogOk (a : Nat) (A : Int) (l : List (List Int)) : Prop := ∀ p ∈ l, p.length = a ∧ ∀ x ∈ p, (x.natAbs : Int) ≤ A
theorem LogOk.mono {a : Nat} {A B : Int} {l : List (List Int)} (h : LogOk a A l) (hb : A ≤ B) : LogOk a B l := fun p hp => ⟨(h p hp).1, fun x hx => Int.le_trans ((h p hp).2 x hx) hb⟩
/-! ### the law's end: all of the urns -/
end Ow
namespace Ow
open PySem PySem.Spec PyProof.Rows L2
variable [Tb] [Og]
/-! ### elements that change nothing, over a mapped list -/
theorem cmpL_mapf {α : Type} {ok : Mp → Prop} {turn : D → Mp → QE → (Mp → Prop) → Prop} {p : Addr} {Q : QE} (f g : α → D) {L : List α} {M : Mp} (hp : M p = none) (hl : L.length ≤ 16777216) (hok : ∀ M', ok M')
    (h : ∀ x ∈ L, ∀ acc (add : QE) (skip : Mp → Prop), add (g x) (M.upd p (.lst acc)) → turn (f x) (M.upd p (.lst acc)) add skip) (q : Q (.lst (L.map g)) M) : cmpL true ok turn p Q (L.map f) (M.upd p (.lst [])) := by
  have step : ∀ (x : D) (r acc : List D) (M' : Mp), (M' = M.upd p (.lst acc) ∧ ∃ L1 L2, L1 ++ L2 = L ∧ x :: r = L2.map f ∧ acc = L1.map g) → ∀ (add : QE) (skip : Mp → Prop),
      (∀ d M'', M'' p = some (.lst acc) → acc.length < sizeLine → (M''.upd p (.lst (acc ++ [d])) = M.upd p (.lst (acc ++ [d])) ∧ ∃ L1 L2, L1 ++ L2 = L ∧ r = L2.map f ∧ acc ++ [d] = L1.map g) → add d M'') →
      (∀ M'', (M'' = M.upd p (.lst acc) ∧ ∃ L1 L2, L1 ++ L2 = L ∧ r = L2.map f ∧ acc = L1.map g) → skip M'') → turn x M' add skip := by
    rintro x r acc M' ⟨e, L1, L2, e2, e3, e4⟩ add skip ha hs
    subst e
    cases L2 with
    | nil => cases e3
    | cons y L2 =>
      rw [List.map_cons] at e3
      obtain ⟨rfl, rfl⟩ := List.cons.inj e3
      subst e2
      have hz : acc.length < sizeLine := by
        rw [e4, List.length_map]
        rw [List.length_append, List.length_cons] at hl
        have := sz (n := L1.length + 1) (by omega)
        omega
      exact h y (List.mem_append_right _ List.mem_cons_self) acc add skip (ha _ _ Mp.upd_same hz ⟨Mp.upd_upd, L1 ++ [y], L2, by simp, rfl, by simp [e4]⟩)
  refine cmpL_ind (fun r acc M' => M' = M.upd p (.lst acc) ∧ ∃ L1 L2, L1 ++ L2 = L ∧ r = L2.map f ∧ acc = L1.map g) (fun r acc M' z => by rw [z.1]; exact ⟨hok _, Mp.upd_same⟩) step (fun acc M' z => ?_) _ [] _ ⟨rfl, [], L, rfl, rfl, rfl⟩
  obtain ⟨e, L1, L2, e2, e3, e4⟩ := z
  subst e
  have e5 : L2 = [] := by
    cases L2 with
    | nil => rfl
    | cons => cases e3
  rw [e5, List.append_nil] at e2
  rw [if_pos rfl, Mp.del_upd hp, e4, e2]
  exact q
@[simp] theorem chn_bl {tc : Mp → QE → Prop} {g' : D → D → Mp → QE → Prop} {d2 : D} {Q : QE} {b : Bool} {M : Mp} : chnD tc g' d2 Q (.bl b) M = if b = true then tc M fun d3 M3 => g' d2 d3 M3 Q else Q (.bl false) M := by
  cases b <;> simp
/-! ### all that was there is there, but for the urn -/
def Keep (M M' : Mp) (u : Addr) : Prop := ∀ a o, a ≠ u → M a = some o → M' a = some o
theorem Keep.trans {M M1 M2 : Mp} {u : Addr} (h : Keep M M1 u) (k : Keep M1 M2 u) : Keep M M2 u := fun a o e z => k a o e (h a o e z)
theorem Only.keep {M M' : Mp} {u : Addr} (h : Only M M' u) : Keep M M' u := fun a o e z => (h a e).trans z
theorem Loc.keep {M M' : Mp} {u p : Addr} (h : Loc M M' u p) (hp : M p = none) : Keep M M' u := fun a o e z => (h a e (fun q => by rw [q, hp] at z; cases z)).trans z
def back (M M' : Mp) (u : Addr) : Mp := fun a => if a = u then M' a else M a
theorem back_sub {M M' : Mp} {u : Addr} (h : Keep M M' u) : (back M M' u).Sub M' := fun a o z => by
  unfold back at z
  split at z
  · exact z
  · rename_i e; exact h a o e z
theorem Fin.keep {Q : QE} {d : D} {M M' : Mp} {u : Addr} (h : Keep M M' u) (q : Q d (back M M' u)) : Fin Q d M' := Fin.sub (back_sub h) q
/-! ### covers -/
def coversB (bs pl po : List Int) : Bool := (pl.zip (po.zip bs)).all fun t => decide (t.1 ≤ t.2.1) && decide (t.2.1 < t.1 + t.2.2)
def spCovers : DSp := fun ds M Q _ => ∃ bs pl po : List Int, ds = [pt bs, pt pl, pt po] ∧ pl.length ≤ 1000 ∧ Q (.bl (coversB bs pl po)) M
def fi_covers : FI := ⟨"covers", 3, spCovers⟩
@[simp] theorem fi_covers_sp : fi_covers.sp = spCovers := rfl
/-! ### the law: right at each of the first three urns -/
def spRight : DSp := fun ds M Q _ => ∃ u, ds = [.ref u] ∧ Urn M u 0 ∧ ∀ M', Only M M' u → Q (.bl true) M'
def fi_q_right : FI := ⟨"_law_right", 1, spRight⟩
@[simp] theorem fi_q_right_sp : fi_q_right.sp = spRight := rfl
def spLaw : DSp := fun ds M Q _ => ∃ ns : List Int, ds = [.scr ns] ∧ ns.length ≤ 63 ∧ ∀ M', Q (.bl true) M'
def fi_law : FI := ⟨"law", 1, spLaw⟩
@[simp] theorem fi_law_sp : fi_law.sp = spLaw := rfl
def cx_lawA : Ctx := ⟨[fi_q_right, fi_urn], [], [], [], kx0⟩
@[simp] theorem cx_lawA_0 : cx_lawA.fs[0]? = some fi_q_right := rfl
@[simp] theorem cx_lawA_1 : cx_lawA.fs[1]? = some fi_urn := rfl
theorem law_sp (ns : List Int) (h : ns.length ≤ 63) : spLaw [.scr ns] (fun _ => none) (fun v _ => v = .bl true) fun _ _ => False := ⟨ns, rfl, h, fun _ => rfl⟩
/-! ### hulls -/
abbrev pr (t : Int × Int) : D := .tup [.int t.1, .int t.2]
abbrev hu (h : List (Int × Int)) : D := .tup (h.map pr)
def mn (a b : Int) : Int := if b < a then b else a
def mx (a b : Int) : Int := if a < b then b else a
def hullP (p : List Int) : List (Int × Int) := p.map fun n => (n, n)
def joinH (h : List (Int × Int)) (p : List Int) : List (Int × Int) := (h.zip p).map fun t => (mn t.1.1 t.2, mx t.1.2 t.2)
def fitsH (bs : List Int) (h : List (Int × Int)) : Bool := (h.zip bs).all fun t => decide (t.1.2 - t.1.1 < t.2)
def wideH : List (List Int) → List (Int × Int)
  | [] => []
  | p :: r => r.foldl joinH (hullP p)
def spHullP : DSp := fun ds M Q _ => ∃ p : List Int, ds = [pt p] ∧ p.length ≤ 1000 ∧ Q (hu (hullP p)) M
def fi_hull_of_position : FI := ⟨"hull_of_position", 1, spHullP⟩
@[simp] theorem fi_hull_of_position_sp : fi_hull_of_position.sp = spHullP := rfl
def spJoined : DSp := fun ds M Q _ => ∃ (h : List (Int × Int)) (p : List Int), ds = [hu h, pt p] ∧ p.length ≤ 1000 ∧ Q (hu (joinH h p)) M
def fi_joined : FI := ⟨"joined", 2, spJoined⟩
@[simp] theorem fi_joined_sp : fi_joined.sp = spJoined := rfl
def spFits : DSp := fun ds M Q _ => ∃ (bs : List Int) (h : List (Int × Int)), ds = [pt bs, hu h] ∧ bs.length ≤ 1000 ∧ Q (.bl (fitsH bs h)) M
def fi_fits : FI := ⟨"fits", 2, spFits⟩
@[simp] theorem fi_fits_sp : fi_fits.sp = spFits := rfl
/-! ### phases -/
def stF (bs : List Int) : List (List Int) → Nat → List (List Int) → List Int
  | _, _, [] => []
  | seg, k, p :: r => if k ≠ 0 ∧ fitsH bs (wideH (seg ++ [p])) = true then stF bs (seg ++ [p]) (k + 1) r else (k : Int) :: stF bs [p] (k + 1) r
def starts (bs : List Int) (log : List (List Int)) : List Int := stF bs [] 0 log
def cx_phase_starts : Ctx := ⟨[fi_joined, fi_fits, fi_hull_of_position], [], [], [], kx0⟩
@[simp] theorem cx_phase_starts_0 : cx_phase_starts.fs[0]? = some fi_joined := rfl
@[simp] theorem cx_phase_starts_1 : cx_phase_starts.fs[1]? = some fi_fits := rfl
@[simp] theorem cx_phase_starts_2 : cx_phase_starts.fs[2]? = some fi_hull_of_position := rfl
def spPhases : DSp := fun ds M Q _ => ∃ (bs : List Int) (log : List (List Int)), ds = [pt bs, lg log] ∧ bs.length ≤ 1000 ∧ log.length ≤ 100000 ∧ (∀ p ∈ log, p.length ≤ 1000) ∧ Q (pt (starts bs log)) M
def fi_phase_starts : FI := ⟨"phase_starts", 2, spPhases⟩
@[simp] theorem fi_phase_starts_sp : fi_phase_starts.sp = spPhases := rfl
/-! ### the law's own way to a log's width -/
def col (j : Nat) (l : List (List Int)) : List Int := l.map fun p => p.getD j 0
def spWide : DSp := fun ds M Q _ => ∃ (log : List (List Int)) (a : Nat), ds = [lg log] ∧ log ≠ [] ∧ log.length ≤ 100000 ∧ a ≤ 1000 ∧ (∀ p ∈ log, p.length = a) ∧ Q (.lst ((wideH log).map pr)) M
def fi_q_wide : FI := ⟨"_law_wide", 1, spWide⟩
@[simp] theorem fi_q_wide_sp : fi_q_wide.sp = spWide := rfl
def cx_q_fit : Ctx := ⟨[fi_q_wide], [], [], [], kx0⟩
@[simp] theorem cx_q_fit_0 : cx_q_fit.fs[0]? = some fi_q_wide := rfl
def spFit : DSp := fun ds M Q _ => ∃ (bs : List Int) (log : List (List Int)), ds = [pt bs, lg log] ∧ log ≠ [] ∧ log.length ≤ 100000 ∧ bs.length ≤ 1000 ∧ (∀ p ∈ log, p.length = bs.length) ∧ Q (.bl (fitsH bs (wideH log))) M
def fi_q_fit : FI := ⟨"_law_fit", 2, spFit⟩
@[simp] theorem fi_q_fit_sp : fi_q_fit.sp = spFit := rfl
def cx_q_phases : Ctx := ⟨[fi_q_fit], [], [], [], kx0⟩
@[simp] theorem cx_q_phases_0 : cx_q_phases.fs[0]? = some fi_q_fit := rfl
@[simp] theorem sl_tup {fz : Bool} {l : List D} {lo hi : Option Int} {M : Mp} {Q : QE} : slD fz (.tup l) lo hi M Q = Q (.tup (cutD l lo hi)) M := rfl
@[simp] theorem sl_lst {l : List D} {lo hi : Option Int} {M : Mp} {Q : QE} : slD true (.lst l) lo hi M Q = Q (.lst (cutD l lo hi)) M := rfl
/-! ### points told apart -/
end Ow
namespace Ow
open PySem PySem.Spec PyProof.Rows L2
variable [Tb] [Og]
/-! ### loops over typed lists -/
@[simp] theorem upd_upd' {M : Mp} {a : Addr} {o u : MO} : (M.upd a o).upd a u = M.upd a u := Mp.upd_upd
theorem wpB_cons {C : Ctx} {E : EX} {s : CS} {r : List CS} {B : DEnds} {ρ : DSt} {M : Mp} : wpB C E (s :: r) B ρ M = wpS C E s { B with nx := fun ρ' M' => wpB C E r B ρ' M' } ρ M := by rw [wpB]
theorem wpB_nil {C : Ctx} {E : EX} {B : DEnds} {ρ : DSt} {M : Mp} : wpB C E [] B ρ M = B.nx ρ M := by rw [wpB]
/-- what holds of the part that is done -/
theorem forD_pre {α : Type} {ct : CT} {ok : Mp → Prop} {tb : DTS} {B : DEnds} (f : α → D) {L : List α} (I : List α → DSt → Mp → Prop) (hok : ∀ M, ok M)
    (step : ∀ pre a post ρ M, pre ++ a :: post = L → I pre ρ M → ∀ nx : DSt → Mp → Prop, (∀ ρ' M', I (pre ++ [a]) ρ' M' → nx ρ' M') → bindT ct (f a) ρ fun ρ' => tb { B with nx := nx, ct := nx, bk := B.nx } ρ' M)
    (fin : ∀ ρ M, I L ρ M → B.nx ρ M) {ρ : DSt} {M : Mp} (h : I [] ρ M) : forD ct ok tb B (L.map f) ρ M := by
  have key : ∀ post pre, pre ++ post = L → ∀ ρ M, I pre ρ M → forD ct ok tb B (post.map f) ρ M := by
    intro post
    induction post with
    | nil => intro pre e ρ M h; rw [List.append_nil] at e; subst e; exact ⟨hok _, fin ρ M h⟩
    | cons a post ih =>
      intro pre e ρ M h
      refine ⟨hok _, step pre a post ρ M e h _ fun ρ' M' h' => ih (pre ++ [a]) (by simpa using e) ρ' M' h'⟩
  exact key L [] rfl ρ M h
/-- a list of draws, typed -/
theorem cmpL_pre {α : Type} {ok : Mp → Prop} {turn : D → Mp → QE → (Mp → Prop) → Prop} {p : Addr} {Q : QE} (f : α → D) {L : List α} (I : List α → List D → Mp → Prop) (hok : ∀ M, ok M) (hIp : ∀ pre acc M, I pre acc M → M p = some (.lst acc)) (hsz : ∀ pre acc M, I pre acc M → acc.length ≤ pre.length) (hl : L.length ≤ 16777216)
    (step : ∀ pre a post acc M, pre ++ a :: post = L → I pre acc M → ∀ (add : QE) (skip : Mp → Prop), (∀ d M', M' p = some (.lst acc) → I (pre ++ [a]) (acc ++ [d]) (M'.upd p (.lst (acc ++ [d]))) → add d M') → (∀ M', I (pre ++ [a]) acc M' → skip M') → turn (f a) M add skip)
    (fin : ∀ acc M, I L acc M → Q (.lst acc) (M.del p)) {M : Mp} (h : I [] [] M) : cmpL true ok turn p Q (L.map f) M := by
  refine cmpL_ind (fun r acc M' => ∃ pre post, pre ++ post = L ∧ r = post.map f ∧ I pre acc M') (fun r acc M' z => by obtain ⟨_, _, _, _, z⟩ := z; exact ⟨hok _, hIp _ _ _ z⟩) (fun x r acc M' z add skip ha hs => ?_) (fun acc M' z => ?_) _ [] _ ⟨[], L, rfl, rfl, h⟩
  · obtain ⟨pre, post, e1, e2, z⟩ := z
    cases post with
    | nil => cases e2
    | cons a post =>
      rw [List.map_cons] at e2
      obtain ⟨rfl, rfl⟩ := List.cons.inj e2
      refine step pre a post acc M' e1 z add skip (fun d M2 e3 h2 => ha d M2 e3 ?_ ⟨pre ++ [a], post, by simpa using e1, rfl, h2⟩) fun M2 h2 => hs M2 ⟨pre ++ [a], post, by simpa using e1, rfl, h2⟩
      have h1 := hsz _ _ _ z
      have h2 := congrArg List.length e1
      rw [List.length_append, List.length_cons] at h2
      have := sz (n := pre.length + 1) (by omega)
      omega
  · obtain ⟨pre, post, e1, e2, z⟩ := z
    have : post = [] := by
      cases post with
      | nil => rfl
      | cons => cases e2
    subst this
    rw [List.append_nil] at e1
    subst e1
    rw [if_pos rfl]
    exact fin acc M' z
theorem cmpL_draw {α β : Type} {ok : Mp → Prop} {turn : D → Mp → QE → (Mp → Prop) → Prop} {p u : Addr} {Q : QE} {M : Mp} {n c : Nat} (f : α → D) (g : β → D) (R : α → β → Prop) {L : List α} (hp : M p = none) (hU : Urn M u n) (hok : ∀ M', ok M') (hl : L.length ≤ 16777216)
    (h : ∀ a ∈ L, ∀ M1 m, Urn M1 u m → m + c ≤ n + c * L.length → Loc M M1 u p → ∀ (add : QE) (skip : Mp → Prop), (∀ y M', R a y → Urn M' u (m + c) → Only M1 M' u → add (g y) M') → turn (f a) M1 add skip)
    (q : ∀ ys M', All2 R L ys → Urn M' u (n + c * L.length) → Only M M' u → Q (.lst (ys.map g)) M') : cmpL true ok turn p Q (L.map f) (M.upd p (.lst [])) := by
  have hpu := hU.ne hp
  refine cmpL_pre f (fun pre acc M' => M' p = some (.lst acc) ∧ Urn M' u (n + c * pre.length) ∧ Loc M M' u p ∧ ∃ ys, acc = ys.map g ∧ All2 R pre ys) hok (fun _ _ _ z => z.1) (fun pre acc M' z => by obtain ⟨_, _, _, ys, rfl, z⟩ := z; rw [List.length_map, z.length]; exact Nat.le_refl _) hl (fun pre a post acc M1 e hI add skip ha _ => ?_) (fun acc M1 hI => ?_) ⟨Mp.upd_same, hU.upd hpu, Loc.new, [], rfl, trivial⟩
  · obtain ⟨h1, h2, h3, ys, rfl, h4⟩ := hI
    have hl : pre.length < L.length := by rw [← e]; simp
    have hm : c * pre.length + c ≤ c * L.length := by
      have := Nat.mul_le_mul_left c (show pre.length + 1 ≤ L.length by omega)
      rw [Nat.mul_add, Nat.mul_one] at this
      exact this
    refine h a (by rw [← e]; simp) M1 _ h2 (by omega) h3 add skip fun y M' r1 r2 r3 => ha _ _ ((r3 p hpu).trans h1) ⟨Mp.upd_same, (r2.upd hpu).mono (by rw [List.length_append, List.length_singleton, Nat.mul_add, Nat.mul_one]; omega), (h3.draw r3).upd, ys ++ [y], by simp, h4.snoc r1⟩
  · obtain ⟨h1, h2, h3, ys, rfl, h4⟩ := hI
    exact q ys _ h4 (h2.del hpu) (h3.del hp)
theorem All2.zip {α β : Type} {R : α → β → Prop} : ∀ {l : List α} {k : List β}, All2 R l k → ∀ t ∈ l.zip k, R t.1 t.2
  | [], [], _, t, h => by cases h
  | _ :: _, _ :: _, h, t, ht => by
    rcases List.mem_cons.mp ht with rfl | ht
    · exact h.1
    · exact All2.zip h.2 t ht
theorem All2.get {α β : Type} {R : α → β → Prop} : ∀ {l : List α} {k : List β} {i : Nat} (h : All2 R l k) (h1 : i < l.length) (h2 : i < k.length), R l[i] k[i]
  | _ :: _, _ :: _, 0, h, _, _ => h.1
  | _ :: _, _ :: _, i + 1, h, h1, h2 => All2.get (i := i) h.2 (by simpa using h1) (by simpa using h2)
theorem All2.left {α β : Type} {R : α → β → Prop} : ∀ {l : List α} {k : List β}, All2 R l k → ∀ x ∈ l, ∃ y ∈ k, R x y
  | [], [], _, x, hx => by cases hx
  | _ :: _, _ :: _, h, x, hx => by
    rcases List.mem_cons.mp hx with rfl | hx
    · exact ⟨_, List.mem_cons_self, h.1⟩
    · obtain ⟨y, hy, r⟩ := All2.left h.2 x hx
      exact ⟨y, List.mem_cons_of_mem _ hy, r⟩
end Ow
namespace Ow
open PySem PySem.Spec PyProof.Rows L2
variable [Tb] [Og]
/-! ### hulls that fit: slacks, places -/
def placesP (bs : List Int) (h : List (Int × Int)) : List (Int × Int) := (h.zip bs).map fun t => (t.1.2 - t.2 + 1, t.1.1)
def slackP (bs : List Int) (h : List (Int × Int)) : List Int := (h.zip bs).map fun t => t.2 - (t.1.2 - t.1.1)
def halvingP (bs : List Int) (h : List (Int × Int)) : List Int := (placesP bs h).map fun t => t.1 + (t.2 - t.1) / 2
def cx_check_fits : Ctx := ⟨[fi_fits], [], [], [], kx0⟩
@[simp] theorem cx_check_fits_0 : cx_check_fits.fs[0]? = some fi_fits := rfl
def spCheck : DSp := fun ds M Q _ => ∃ (bs : List Int) (h : List (Int × Int)), ds = [pt bs, hu h] ∧ bs.length ≤ 1000 ∧ fitsH bs h = true ∧ Q .non M
def fi_check_fits : FI := ⟨"check_fits", 2, spCheck⟩
@[simp] theorem fi_check_fits_sp : fi_check_fits.sp = spCheck := rfl
def cx_places_of : Ctx := ⟨[fi_check_fits], [], [], [], kx0⟩
@[simp] theorem cx_places_of_0 : cx_places_of.fs[0]? = some fi_check_fits := rfl
def spPlaces : DSp := fun ds M Q _ => ∃ (bs : List Int) (h : List (Int × Int)), ds = [pt bs, hu h] ∧ bs.length ≤ 1000 ∧ fitsH bs h = true ∧ Q (hu (placesP bs h)) M
def fi_places_of : FI := ⟨"places_of", 2, spPlaces⟩
@[simp] theorem fi_places_of_sp : fi_places_of.sp = spPlaces := rfl
def cx_slack_of : Ctx := ⟨[fi_check_fits], [], [], [], kx0⟩
@[simp] theorem cx_slack_of_0 : cx_slack_of.fs[0]? = some fi_check_fits := rfl
def spSlack : DSp := fun ds M Q _ => ∃ (bs : List Int) (h : List (Int × Int)), ds = [pt bs, hu h] ∧ bs.length ≤ 1000 ∧ fitsH bs h = true ∧ Q (pt (slackP bs h)) M
def fi_slack_of : FI := ⟨"slack_of", 2, spSlack⟩
@[simp] theorem fi_slack_of_sp : fi_slack_of.sp = spSlack := rfl
def cx_halving_place : Ctx := ⟨[fi_places_of], [], [], [], kx0⟩
@[simp] theorem cx_halving_place_0 : cx_halving_place.fs[0]? = some fi_places_of := rfl
def spHalving : DSp := fun ds M Q _ => ∃ (bs : List Int) (h : List (Int × Int)), ds = [pt bs, hu h] ∧ bs.length ≤ 1000 ∧ fitsH bs h = true ∧ Q (pt (halvingP bs h)) M
def fi_halving_place : FI := ⟨"halving_place", 2, spHalving⟩
@[simp] theorem fi_halving_place_sp : fi_halving_place.sp = spHalving := rfl
def cx_good_places : Ctx := ⟨[fi_places_of, fi_bits], [], [], [], kx0⟩
@[simp] theorem cx_good_places_0 : cx_good_places.fs[0]? = some fi_places_of := rfl
@[simp] theorem cx_good_places_1 : cx_good_places.fs[1]? = some fi_bits := rfl
end Ow
namespace Ow
open PySem PySem.Spec PyProof.Rows L2
variable [Tb] [Og]
/-! ### bits -/
/-! ### hulls that are drawn -/
def fi_q_covers : FI := ⟨"_law_covers", 3, spCovers⟩
@[simp] theorem fi_q_covers_sp : fi_q_covers.sp = spCovers := rfl
def cx_q_hull : Ctx := ⟨[fi_pick, fi_take], [], [], [], kx0⟩
@[simp] theorem cx_q_hull_0 : cx_q_hull.fs[0]? = some fi_pick := rfl
@[simp] theorem cx_q_hull_1 : cx_q_hull.fs[1]? = some fi_take := rfl
/-! ### the law's own reckoning -/
/-! ### a law: so many turns at each of the first three urns -/
theorem rng3 (n : Nat) : (if (1 : Int) < if (n : Int) < 3 then (n : Int) else 3 then if (n : Int) < 3 then (n : Int) else 3 else 1) ≤ 3 ∧ 1 ≤ (if (1 : Int) < if (n : Int) < 3 then (n : Int) else 3 then if (n : Int) < 3 then (n : Int) else 3 else 1) := by
  constructor <;> (split <;> (try split) <;> omega)
/-! ### comprehensions with a test -/
end Ow
namespace Ow
open PySem PySem.Spec PyProof.Rows L2
variable [Tb] [Og]
/-! ### the game's outcome -/
def overB (bs : List Int) (h : List (Int × Int)) (pl : List Int) : Bool := coversB bs pl (h.map (·.1)) && coversB bs pl (h.map (·.2))
def cx_covers_hull : Ctx := ⟨[fi_covers], [], [], [], kx0⟩
@[simp] theorem cx_covers_hull_0 : cx_covers_hull.fs[0]? = some fi_covers := rfl
def spOver : DSp := fun ds M Q _ => ∃ (bs pl : List Int) (h : List (Int × Int)), ds = [pt bs, pt pl, hu h] ∧ pl.length ≤ 1000 ∧ h.length ≤ 1000 ∧ Q (.bl (overB bs h pl)) M
def fi_covers_hull : FI := ⟨"covers_hull", 3, spOver⟩
@[simp] theorem fi_covers_hull_sp : fi_covers_hull.sp = spOver := rfl
def spRemain : DSp := fun ds M Q _ => ∃ a b c : Int, ds = [.int a, .int b, .int c] ∧ Q (.tup [.int (a - b), .int (c - a)]) M
def fi_remaining : FI := ⟨"remaining", 3, spRemain⟩
@[simp] theorem fi_remaining_sp : fi_remaining.sp = spRemain := rfl
def roomsP (t : Int × (Int × Int)) : List Int := [t.1 - t.2.1, t.2.2 - t.1].filter fun l => decide (0 < l)
def outsP (v : Int) (t : Int × (Int × Int)) : List Int := (roomsP t).map fun l => 1 + (v - (ib (t.2.2 - t.2.1 + 1) - 1)) + (ib l - 1)
def forcedL (v : Int) (l : List (Int × (Int × Int))) : List Int := 0 :: l.flatMap (outsP v)
def forcedP (bs : List Int) (h : List (Int × Int)) (pl : List Int) : Int := if overB bs h pl = true then maxL (forcedL (valueOf (slackP bs h)) (pl.zip (placesP bs h))) else 1 + valueOf (slackP bs h)
def cx_forced : Ctx := ⟨[fi_value_of, fi_slack_of, fi_covers_hull, fi_places_of, fi_bits, fi_remaining], [], [], [], kx0⟩
@[simp] theorem cx_forced_0 : cx_forced.fs[0]? = some fi_value_of := rfl
@[simp] theorem cx_forced_1 : cx_forced.fs[1]? = some fi_slack_of := rfl
@[simp] theorem cx_forced_2 : cx_forced.fs[2]? = some fi_covers_hull := rfl
@[simp] theorem cx_forced_3 : cx_forced.fs[3]? = some fi_places_of := rfl
@[simp] theorem cx_forced_4 : cx_forced.fs[4]? = some fi_bits := rfl
@[simp] theorem cx_forced_5 : cx_forced.fs[5]? = some fi_remaining := rfl
def spForced : DSp := fun ds M Q _ => ∃ (bs : List Int) (h : List (Int × Int)) (pl : List Int), ds = [pt bs, hu h, pt pl] ∧ bs.length ≤ 1000 ∧ h.length ≤ 1000 ∧ pl.length ≤ 1000 ∧ fitsH bs h = true ∧ Q (.int (forcedP bs h pl)) M
def fi_forced : FI := ⟨"forced", 3, spForced⟩
@[simp] theorem fi_forced_sp : fi_forced.sp = spForced := rfl
end Ow
namespace Ow
open PySem PySem.Spec PyProof.Rows L2
variable [Tb] [Og]
/-- place, size and hull, axis by axis -/
abbrev T3 := Int × (Int × (Int × Int))
def T3.ok (t : T3) : Bool := decide (t.2.2.2 - t.2.1 + 1 ≤ t.1) && decide (t.1 ≤ t.2.2.1)
@[simp] theorem cmp_neb {i j : Bool} {M : Mp} {Q : QE} : cmpD .NotEq (.bl i) (.bl j) M Q = Q (.bl (i ^^ j)) M := by
  show Q (.bl (true ^^ decide (i = j))) M = _
  rw [show (true ^^ decide (i = j)) = (i ^^ j) by cases i <;> cases j <;> rfl]
@[simp] theorem cmp_eqb {i j : Bool} {M : Mp} {Q : QE} : cmpD .Eq (.bl i) (.bl j) M Q = Q (.bl (i == j)) M := by
  show Q (.bl (false ^^ decide (i = j))) M = _
  rw [show (false ^^ decide (i = j)) = (i == j) by cases i <;> cases j <;> rfl]
end Ow
namespace Ow
open PySem PySem.Spec PyProof.Rows L2
variable [Tb] [Og]
/-! ### data of points -/
/-! ### hulls of logs -/
def spHullOf : DSp := fun ds M Q _ => ∃ (bs : List Int) (log : List (List Int)), ds = [pt bs, lg log] ∧ log ≠ [] ∧ log.length ≤ 100000 ∧ bs.length ≤ 1000 ∧ (∀ p ∈ log, p.length = bs.length) ∧ Q (hu (wideH log)) M
def fi_hull_of : FI := ⟨"hull_of", 2, spHullOf⟩
@[simp] theorem fi_hull_of_sp : fi_hull_of.sp = spHullOf := rfl
/-! ### stretches -/
def pieces (log : List (List Int)) : List Int → List (List (List Int))
  | [] => []
  | [b] => [log.drop b.toNat]
  | b :: e :: r => (log.drop b.toNat).take (e.toNat - b.toNat) :: pieces log (e :: r)
def cx_stretches : Ctx := ⟨[fi_phase_starts], [], [], [], kx0⟩
@[simp] theorem cx_stretches_0 : cx_stretches.fs[0]? = some fi_phase_starts := rfl
def spStretches : DSp := fun ds M Q _ => ∃ (bs : List Int) (log : List (List Int)), ds = [pt bs, lg log] ∧ log.length ≤ 100000 ∧ bs.length ≤ 1000 ∧ (∀ p ∈ log, p.length ≤ 1000) ∧ Q (.lst ((pieces log (starts bs log)).map lg)) M
def fi_stretches : FI := ⟨"stretches", 2, spStretches⟩
@[simp] theorem fi_stretches_sp : fi_stretches.sp = spStretches := rfl
def cx_fewest_loads : Ctx := ⟨[fi_phase_starts], [], [], [], kx0⟩
@[simp] theorem cx_fewest_loads_0 : cx_fewest_loads.fs[0]? = some fi_phase_starts := rfl
/-! ### the best plan -/
def cx_best_plan : Ctx := ⟨[fi_stretches, fi_places_of, fi_hull_of, fi_phase_starts], [], [], [], kx0⟩
@[simp] theorem cx_best_plan_0 : cx_best_plan.fs[0]? = some fi_stretches := rfl
@[simp] theorem cx_best_plan_1 : cx_best_plan.fs[1]? = some fi_places_of := rfl
@[simp] theorem cx_best_plan_2 : cx_best_plan.fs[2]? = some fi_hull_of := rfl
@[simp] theorem cx_best_plan_3 : cx_best_plan.fs[3]? = some fi_phase_starts := rfl
/-! ### spans -/
def farAx (bs one other : List Int) : Option Nat := bs.zipIdx.findSome? fun t => if t.1 ≤ ((one.getD t.2 0 - other.getD t.2 0).natAbs : Int) then some t.2 else none
def oi : Option Nat → D
  | none => .non
  | some k => .int (k : Int)
def spFar : DSp := fun ds M Q _ => ∃ bs one other : List Int, ds = [pt bs, pt one, pt other] ∧ one.length = bs.length ∧ other.length = bs.length ∧ bs.length ≤ 1000 ∧ Q (oi (farAx bs one other)) M
def fi_far_axis : FI := ⟨"far_axis", 3, spFar⟩
@[simp] theorem fi_far_axis_sp : fi_far_axis.sp = spFar := rfl
/-- requests that do not fit together -/
def spanTo (bs : List Int) (log : List (List Int)) (b n : Nat) : Option (Nat × Nat) := (List.range (n - b)).findSome? fun k => (farAx bs (log.getD (b + k) []) (log.getD n [])).map fun a => (b + k, a)
def cx_span_to : Ctx := ⟨[fi_far_axis], [], [], [], kx0⟩
@[simp] theorem cx_span_to_0 : cx_span_to.fs[0]? = some fi_far_axis := rfl
def spSpanTo : DSp := fun ds M Q _ => ∃ (bs : List Int) (log : List (List Int)) (b n : Nat), ds = [pt bs, lg log, .int b, .int n] ∧ bs.length ≤ 1000 ∧ log.length ≤ 100000 ∧ b ≤ n ∧ n < log.length ∧ (∀ p ∈ log, p.length = bs.length) ∧ ∃ t, spanTo bs log b n = some t ∧ Q (.tup [.int t.1, .int n, .int t.2]) M
def fi_span_to : FI := ⟨"span_to", 4, spSpanTo⟩
@[simp] theorem fi_span_to_sp : fi_span_to.sp = spSpanTo := rfl
def cx_spans : Ctx := ⟨[fi_phase_starts, fi_span_to], [], [], [], kx0⟩
@[simp] theorem cx_spans_0 : cx_spans.fs[0]? = some fi_phase_starts := rfl
@[simp] theorem cx_spans_1 : cx_spans.fs[1]? = some fi_span_to := rfl
end Ow
namespace Ow
open PySem PySem.Spec PyProof.Rows L2
variable [Tb] [Og]
/-! ### checks of any data -/
@[simp] theorem isi_int_non  {M : Mp} {Q : QE} : isiD .int .non M Q = Q (.bl false) M := by show Q (.bl (isTy .int "NoneType")) M = _; rw [show isTy .int "NoneType" = false by decide]
@[simp] theorem isi_int_bl {b : Bool} {M : Mp} {Q : QE} : isiD .int (.bl b) M Q = Q (.bl true) M := by show Q (.bl (isTy .int "bool")) M = _; rw [show isTy .int "bool" = true by decide]
@[simp] theorem isi_int_int {b : Int} {M : Mp} {Q : QE} : isiD .int (.int b) M Q = Q (.bl true) M := by show Q (.bl (isTy .int "int")) M = _; rw [show isTy .int "int" = true by decide]
@[simp] theorem isi_int_str {b : Str} {M : Mp} {Q : QE} : isiD .int (.str b) M Q = Q (.bl false) M := by show Q (.bl (isTy .int "str")) M = _; rw [show isTy .int "str" = false by decide]
@[simp] theorem isi_int_tup {b : List D} {M : Mp} {Q : QE} : isiD .int (.tup b) M Q = Q (.bl false) M := by show Q (.bl (isTy .int "tuple")) M = _; rw [show isTy .int "tuple" = false by decide]
@[simp] theorem isi_int_lst {b : List D} {M : Mp} {Q : QE} : isiD .int (.lst b) M Q = Q (.bl false) M := by show Q (.bl (isTy .int "list")) M = _; rw [show isTy .int "list" = false by decide]
@[simp] theorem isi_int_scr {b : List Int} {M : Mp} {Q : QE} : isiD .int (.scr b) M Q = Q (.bl false) M := by show Q (.bl (isTy .int "list")) M = _; rw [show isTy .int "list" = false by decide]
@[simp] theorem isi_int_dct {a : List Key} {b : List D} {M : Mp} {Q : QE} : isiD .int (.dct a b) M Q = Q (.bl false) M := by show Q (.bl (isTy .int "dict")) M = _; rw [show isTy .int "dict" = false by decide]
@[simp] theorem isi_bool_non  {M : Mp} {Q : QE} : isiD .bool .non M Q = Q (.bl false) M := by show Q (.bl (isTy .bool "NoneType")) M = _; rw [show isTy .bool "NoneType" = false by decide]
@[simp] theorem isi_bool_bl {b : Bool} {M : Mp} {Q : QE} : isiD .bool (.bl b) M Q = Q (.bl true) M := by show Q (.bl (isTy .bool "bool")) M = _; rw [show isTy .bool "bool" = true by decide]
@[simp] theorem isi_bool_int {b : Int} {M : Mp} {Q : QE} : isiD .bool (.int b) M Q = Q (.bl false) M := by show Q (.bl (isTy .bool "int")) M = _; rw [show isTy .bool "int" = false by decide]
@[simp] theorem isi_bool_str {b : Str} {M : Mp} {Q : QE} : isiD .bool (.str b) M Q = Q (.bl false) M := by show Q (.bl (isTy .bool "str")) M = _; rw [show isTy .bool "str" = false by decide]
@[simp] theorem isi_bool_tup {b : List D} {M : Mp} {Q : QE} : isiD .bool (.tup b) M Q = Q (.bl false) M := by show Q (.bl (isTy .bool "tuple")) M = _; rw [show isTy .bool "tuple" = false by decide]
@[simp] theorem isi_bool_lst {b : List D} {M : Mp} {Q : QE} : isiD .bool (.lst b) M Q = Q (.bl false) M := by show Q (.bl (isTy .bool "list")) M = _; rw [show isTy .bool "list" = false by decide]
@[simp] theorem isi_bool_scr {b : List Int} {M : Mp} {Q : QE} : isiD .bool (.scr b) M Q = Q (.bl false) M := by show Q (.bl (isTy .bool "list")) M = _; rw [show isTy .bool "list" = false by decide]
@[simp] theorem isi_bool_dct {a : List Key} {b : List D} {M : Mp} {Q : QE} : isiD .bool (.dct a b) M Q = Q (.bl false) M := by show Q (.bl (isTy .bool "dict")) M = _; rw [show isTy .bool "dict" = false by decide]
@[simp] theorem isi_str_non  {M : Mp} {Q : QE} : isiD .str .non M Q = Q (.bl false) M := by show Q (.bl (isTy .str "NoneType")) M = _; rw [show isTy .str "NoneType" = false by decide]
@[simp] theorem isi_str_bl {b : Bool} {M : Mp} {Q : QE} : isiD .str (.bl b) M Q = Q (.bl false) M := by show Q (.bl (isTy .str "bool")) M = _; rw [show isTy .str "bool" = false by decide]
@[simp] theorem isi_str_int {b : Int} {M : Mp} {Q : QE} : isiD .str (.int b) M Q = Q (.bl false) M := by show Q (.bl (isTy .str "int")) M = _; rw [show isTy .str "int" = false by decide]
@[simp] theorem isi_str_str {b : Str} {M : Mp} {Q : QE} : isiD .str (.str b) M Q = Q (.bl true) M := by show Q (.bl (isTy .str "str")) M = _; rw [show isTy .str "str" = true by decide]
@[simp] theorem isi_str_tup {b : List D} {M : Mp} {Q : QE} : isiD .str (.tup b) M Q = Q (.bl false) M := by show Q (.bl (isTy .str "tuple")) M = _; rw [show isTy .str "tuple" = false by decide]
@[simp] theorem isi_str_lst {b : List D} {M : Mp} {Q : QE} : isiD .str (.lst b) M Q = Q (.bl false) M := by show Q (.bl (isTy .str "list")) M = _; rw [show isTy .str "list" = false by decide]
@[simp] theorem isi_str_scr {b : List Int} {M : Mp} {Q : QE} : isiD .str (.scr b) M Q = Q (.bl false) M := by show Q (.bl (isTy .str "list")) M = _; rw [show isTy .str "list" = false by decide]
@[simp] theorem isi_str_dct {a : List Key} {b : List D} {M : Mp} {Q : QE} : isiD .str (.dct a b) M Q = Q (.bl false) M := by show Q (.bl (isTy .str "dict")) M = _; rw [show isTy .str "dict" = false by decide]
@[simp] theorem isi_tuple_non  {M : Mp} {Q : QE} : isiD .tuple .non M Q = Q (.bl false) M := by show Q (.bl (isTy .tuple "NoneType")) M = _; rw [show isTy .tuple "NoneType" = false by decide]
@[simp] theorem isi_tuple_bl {b : Bool} {M : Mp} {Q : QE} : isiD .tuple (.bl b) M Q = Q (.bl false) M := by show Q (.bl (isTy .tuple "bool")) M = _; rw [show isTy .tuple "bool" = false by decide]
@[simp] theorem isi_tuple_int {b : Int} {M : Mp} {Q : QE} : isiD .tuple (.int b) M Q = Q (.bl false) M := by show Q (.bl (isTy .tuple "int")) M = _; rw [show isTy .tuple "int" = false by decide]
@[simp] theorem isi_tuple_str {b : Str} {M : Mp} {Q : QE} : isiD .tuple (.str b) M Q = Q (.bl false) M := by show Q (.bl (isTy .tuple "str")) M = _; rw [show isTy .tuple "str" = false by decide]
@[simp] theorem isi_tuple_tup {b : List D} {M : Mp} {Q : QE} : isiD .tuple (.tup b) M Q = Q (.bl true) M := by show Q (.bl (isTy .tuple "tuple")) M = _; rw [show isTy .tuple "tuple" = true by decide]
@[simp] theorem isi_tuple_lst {b : List D} {M : Mp} {Q : QE} : isiD .tuple (.lst b) M Q = Q (.bl false) M := by show Q (.bl (isTy .tuple "list")) M = _; rw [show isTy .tuple "list" = false by decide]
@[simp] theorem isi_tuple_scr {b : List Int} {M : Mp} {Q : QE} : isiD .tuple (.scr b) M Q = Q (.bl false) M := by show Q (.bl (isTy .tuple "list")) M = _; rw [show isTy .tuple "list" = false by decide]
@[simp] theorem isi_tuple_dct {a : List Key} {b : List D} {M : Mp} {Q : QE} : isiD .tuple (.dct a b) M Q = Q (.bl false) M := by show Q (.bl (isTy .tuple "dict")) M = _; rw [show isTy .tuple "dict" = false by decide]
@[simp] theorem isi_list_non  {M : Mp} {Q : QE} : isiD .list .non M Q = Q (.bl false) M := by show Q (.bl (isTy .list "NoneType")) M = _; rw [show isTy .list "NoneType" = false by decide]
@[simp] theorem isi_list_bl {b : Bool} {M : Mp} {Q : QE} : isiD .list (.bl b) M Q = Q (.bl false) M := by show Q (.bl (isTy .list "bool")) M = _; rw [show isTy .list "bool" = false by decide]
@[simp] theorem isi_list_int {b : Int} {M : Mp} {Q : QE} : isiD .list (.int b) M Q = Q (.bl false) M := by show Q (.bl (isTy .list "int")) M = _; rw [show isTy .list "int" = false by decide]
@[simp] theorem isi_list_str {b : Str} {M : Mp} {Q : QE} : isiD .list (.str b) M Q = Q (.bl false) M := by show Q (.bl (isTy .list "str")) M = _; rw [show isTy .list "str" = false by decide]
@[simp] theorem isi_list_tup {b : List D} {M : Mp} {Q : QE} : isiD .list (.tup b) M Q = Q (.bl false) M := by show Q (.bl (isTy .list "tuple")) M = _; rw [show isTy .list "tuple" = false by decide]
@[simp] theorem isi_list_lst {b : List D} {M : Mp} {Q : QE} : isiD .list (.lst b) M Q = Q (.bl true) M := by show Q (.bl (isTy .list "list")) M = _; rw [show isTy .list "list" = true by decide]
@[simp] theorem isi_list_scr {b : List Int} {M : Mp} {Q : QE} : isiD .list (.scr b) M Q = Q (.bl true) M := by show Q (.bl (isTy .list "list")) M = _; rw [show isTy .list "list" = true by decide]
@[simp] theorem isi_list_dct {a : List Key} {b : List D} {M : Mp} {Q : QE} : isiD .list (.dct a b) M Q = Q (.bl false) M := by show Q (.bl (isTy .list "dict")) M = _; rw [show isTy .list "dict" = false by decide]
def isIntB (lo hi : Int) : D → Bool
  | .int i => decide (lo ≤ i) && decide (i ≤ hi)
  | _ => false
def mc_is_integer : MC := ⟨["value", "least", "greatest"], [], [], [], [], mx0⟩
def b_is_integer : List CS := [.ret (.and (.isi .int (.var 0)) (.and (.not (.isi .bool (.var 0))) (.one (.chn .LtE .LtE (.var 1) (.var 0) (.var 2)))))]
def spIsInteger : DSp := fun ds M Q _ => ∃ (d : D) (lo hi : Int), ds = [d, .int lo, .int hi] ∧ d.flx = true ∧ Q (.bl (isIntB lo hi d)) M
def fi_is_integer : FI := ⟨"is_integer", 3, spIsInteger⟩
@[simp] theorem fi_is_integer_sp : fi_is_integer.sp = spIsInteger := rfl
theorem wp_is_integer {C : Ctx} {E : EX} {ds : List D} {M : Mp} {Q : QE} {E' : XD → Mp → Prop} (h : spIsInteger ds M Q E') : wpB C E b_is_integer (endsD Q) (startD mc_is_integer.N ds) M := by
  obtain ⟨d, lo, hi, rfl, hf, q⟩ := h
  rw [show startD mc_is_integer.N [d, .int lo, .int hi] = [some d, some (.int lo), some (.int hi)] from rfl, b_is_integer, wpB_cons]
  cases d with
  | int i =>
    simp
    by_cases h1 : lo ≤ i
    · rw [decide_eq_true h1]
      have : isIntB lo hi (.int i) = decide (i ≤ hi) := by simp [isIntB, h1]
      rw [this] at q
      exact Fin.same q
    · rw [decide_eq_false h1]
      have : isIntB lo hi (.int i) = false := by simp [isIntB, h1]
      rw [this] at q
      exact Fin.same q
  | non => simp; exact Fin.same q
  | bl b => simp; exact Fin.same q
  | str s => simp; exact Fin.same q
  | tup l => simp; exact Fin.same q
  | lst l => simp; exact Fin.same q
  | ref a => cases hf
  | scr a => cases hf
  | dct a b => simp; exact Fin.same q
@[simp] theorem cmp_is_non {x : D} {M : Mp} {Q : QE} : cmpD .Is x .non M Q = Q (.bl x.isNon) M := by cases x <;> rfl
@[simp] theorem cmp_isnot_non {x : D} {M : Mp} {Q : QE} : cmpD .IsNot x .non M Q = Q (.bl (!x.isNon)) M := by cases x <;> rfl
@[simp] theorem cmp_isb {a b : Bool} {M : Mp} {Q : QE} : cmpD .Is (.bl a) (.bl b) M Q = Q (.bl (a == b)) M := by cases a <;> cases b <;> rfl
@[simp] theorem cmp_isnotb {a b : Bool} {M : Mp} {Q : QE} : cmpD .IsNot (.bl a) (.bl b) M Q = Q (.bl (a ^^ b)) M := by cases a <;> cases b <;> rfl
@[simp] theorem isNon_pt {p : List Int} : (pt p).isNon = false := rfl
@[simp] theorem isNon_non : D.non.isNon = true := rfl
@[simp] theorem isNon_int {i : Int} : (D.int i).isNon = false := rfl
@[simp] theorem isNon_tup {l : List D} : (D.tup l).isNon = false := rfl
@[simp] theorem isNon_lst {l : List D} : (D.lst l).isNon = false := rfl
/-- a row of whole numbers of that many -/
def pointB (n : Nat) (far : Int) : D → Bool
  | .tup l => decide (l.length = n) && l.all (isIntB (-far) far)
  | _ => false
def cx_is_point : Ctx := ⟨[fi_is_integer], [], [], [], kx0⟩
@[simp] theorem cx_is_point_0 : cx_is_point.fs[0]? = some fi_is_integer := rfl
def spIsPoint : DSp := fun ds M Q _ => ∃ (d : D) (bs : List Int) (far : Int), ds = [pt bs, d, .int far] ∧ d.flx = true ∧ bs.length ≤ 1000 ∧ Q (.bl (pointB bs.length far d)) M
def fi_is_point : FI := ⟨"is_point", 3, spIsPoint⟩
@[simp] theorem fi_is_point_sp : fi_is_point.sp = spIsPoint := rfl
def gi_FARTHEST_PLACE : GI := ⟨"FARTHEST_PLACE", .int 2000000000000⟩
@[simp] theorem gi_FARTHEST_PLACE_d : gi_FARTHEST_PLACE.d = .int 2000000000000 := rfl
def cx_is_place : Ctx := ⟨[fi_is_point], [gi_FARTHEST_PLACE], [], [], kx0⟩
@[simp] theorem cx_is_place_g0 : cx_is_place.gs[0]? = some gi_FARTHEST_PLACE := rfl
@[simp] theorem cx_is_place_0 : cx_is_place.fs[0]? = some fi_is_point := rfl
def spIsPlace : DSp := fun ds M Q _ => ∃ (d : D) (bs : List Int), ds = [pt bs, d] ∧ d.flx = true ∧ bs.length ≤ 1000 ∧ Q (.bl (pointB bs.length 2000000000000 d)) M
def fi_is_place : FI := ⟨"is_place", 2, spIsPlace⟩
@[simp] theorem fi_is_place_sp : fi_is_place.sp = spIsPlace := rfl
/-- numbers in order, each below the count -/
def ascL (l : List Int) : Bool := (l.zip (l.drop 1)).all fun t => decide (t.1 < t.2)
def ascB (n : Int) : D → Bool
  | .tup l => l.all (isIntB 0 (n - 1)) && (match intsOf l with | some ns => ascL ns | none => false)
  | _ => false
def cx_are_ascending : Ctx := ⟨[fi_is_integer], [], [], [], kx0⟩
@[simp] theorem cx_are_ascending_0 : cx_are_ascending.fs[0]? = some fi_is_integer := rfl
def spAsc : DSp := fun ds M Q _ => ∃ (d : D) (n : Int), ds = [d, .int n] ∧ d.flx = true ∧ (∀ l, d = .tup l → l.length ≤ 100000) ∧ Q (.bl (ascB n d)) M
def fi_are_ascending : FI := ⟨"are_ascending", 2, spAsc⟩
@[simp] theorem fi_are_ascending_sp : fi_are_ascending.sp = spAsc := rfl
/-! ### plans -/
def gi_PARTS : GI := ⟨"PARTS", .int 2⟩
@[simp] theorem gi_PARTS_d : gi_PARTS.d = .int 2 := rfl
def gi_SPAN_PARTS : GI := ⟨"SPAN_PARTS", .int 3⟩
@[simp] theorem gi_SPAN_PARTS_d : gi_SPAN_PARTS.d = .int 3 := rfl
def planFormB (bs : List Int) (n : Nat) : D → Bool
  | .tup [.tup l, .tup k] => ascB n (.tup l) && decide (k.length = l.length) && k.all (pointB bs.length 2000000000000)
  | _ => false
/-- short enough -/
def Short (d : D) : Prop := ∀ l, d = .tup l → l.length ≤ 100000
def Short2 (d : D) : Prop := ∀ a b, d = .tup [a, b] → Short a ∧ Short b
def cx_has_plan_form : Ctx := ⟨[fi_are_ascending, fi_is_place], [gi_PARTS], [], [], kx0⟩
@[simp] theorem cx_has_plan_form_g0 : cx_has_plan_form.gs[0]? = some gi_PARTS := rfl
@[simp] theorem cx_has_plan_form_0 : cx_has_plan_form.fs[0]? = some fi_are_ascending := rfl
@[simp] theorem cx_has_plan_form_1 : cx_has_plan_form.fs[1]? = some fi_is_place := rfl
def spForm : DSp := fun ds M Q _ => ∃ (d : D) (bs : List Int) (log : List (List Int)), ds = [pt bs, lg log, d] ∧ d.flx = true ∧ Short2 d ∧ bs.length ≤ 1000 ∧ Q (.bl (planFormB bs log.length d)) M
def fi_has_plan_form : FI := ⟨"has_plan_form", 3, spForm⟩
@[simp] theorem fi_has_plan_form_sp : fi_has_plan_form.sp = spForm := rfl
@[simp] theorem atI_1 {x y : D} {l : List D} : atI (x :: y :: l) 1 = some y := atI_nat (l := x :: y :: l) (n := 1) (by simp)
@[simp] theorem atI_2 {x y z : D} {l : List D} : atI (x :: y :: z :: l) 2 = some z := atI_nat (l := x :: y :: z :: l) (n := 2) (by simp)
/-! ### dictionaries of distinct keys -/
def lookF (ns : List Int) (pls : List (List Int)) (k : Int) : Option (List Int) := ((ns.zip pls).find? fun t => decide (t.1 = k)).map (·.2)
/-! ### plans that cover -/
def planGo (bs : List Int) (f : Int → Option (List Int)) : Int → Option (List Int) → List (List Int) → Bool
  | _, _, [] => true
  | k, c, p :: r => match (f k).or c with
    | none => false
    | some w => coversB bs w p && planGo bs f (k + 1) (some w) r
def ptsOf : List D → Option (List (List Int))
  | [] => some []
  | .tup l :: r => match intsOf l, ptsOf r with
    | some p, some ps => some (p :: ps)
    | _, _ => none
  | _ :: _ => none
def planB (bs : List Int) (log : List (List Int)) (d : D) : Bool := planFormB bs log.length d && match d with
  | .tup [.tup l, .tup k] => (match intsOf l, ptsOf k with
    | some ns, some pls => planGo bs (lookF ns pls) 0 none log
    | _, _ => false)
  | _ => false
def cx_is_plan : Ctx := ⟨[fi_has_plan_form, fi_covers], [], [], [], kx0⟩
@[simp] theorem cx_is_plan_0 : cx_is_plan.fs[0]? = some fi_has_plan_form := rfl
@[simp] theorem cx_is_plan_1 : cx_is_plan.fs[1]? = some fi_covers := rfl
def spIsPlan : DSp := fun ds M Q _ => ∃ (d : D) (bs : List Int) (log : List (List Int)), ds = [pt bs, lg log, d] ∧ d.flx = true ∧ Short2 d ∧ bs.length ≤ 1000 ∧ log.length ≤ 100000 ∧ Q (.bl (planB bs log d)) M
def fi_is_plan : FI := ⟨"is_plan", 3, spIsPlan⟩
@[simp] theorem fi_is_plan_sp : fi_is_plan.sp = spIsPlan := rfl
/-! ### spans of any data -/
def spanB (bs : List Int) (log : List (List Int)) : D → Bool
  | .tup [a, b, c] => ascB log.length (.tup [a, b]) && isIntB 0 ((bs.length : Int) - 1) c && (match a, b, c with
    | .int i, .int j, .int x => decide (bs.getD x.toNat 0 ≤ (((log.getD i.toNat []).getD x.toNat 0 - (log.getD j.toNat []).getD x.toNat 0).natAbs : Int))
    | _, _, _ => false)
  | _ => false
def cx_is_span : Ctx := ⟨[fi_is_integer, fi_are_ascending], [gi_SPAN_PARTS], [], [], kx0⟩
@[simp] theorem cx_is_span_g0 : cx_is_span.gs[0]? = some gi_SPAN_PARTS := rfl
@[simp] theorem cx_is_span_0 : cx_is_span.fs[0]? = some fi_is_integer := rfl
@[simp] theorem cx_is_span_1 : cx_is_span.fs[1]? = some fi_are_ascending := rfl
def spIsSpan : DSp := fun ds M Q _ => ∃ (d : D) (bs : List Int) (log : List (List Int)), ds = [pt bs, lg log, d] ∧ d.flx = true ∧ bs.length ≤ 1000 ∧ log.length ≤ 100000 ∧ (∀ p ∈ log, p.length = bs.length) ∧ Q (.bl (spanB bs log d)) M
def fi_is_span : FI := ⟨"is_span", 3, spIsSpan⟩
@[simp] theorem fi_is_span_sp : fi_is_span.sp = spIsSpan := rfl
def endI : D → Int
  | .tup [_, .int j, _] => j
  | _ => 0
def begI : D → Int
  | .tup [.int i, _, _] => i
  | _ => 0
def spansB (bs : List Int) (log : List (List Int)) : D → Bool
  | .tup l => l.all (spanB bs log) && (l.zip (l.drop 1)).all fun t => decide (endI t.1 ≤ begI t.2)
  | _ => false
def cx_are_spans : Ctx := ⟨[fi_is_span], [], [], [], kx0⟩
@[simp] theorem cx_are_spans_0 : cx_are_spans.fs[0]? = some fi_is_span := rfl
def spAreSpans : DSp := fun ds M Q _ => ∃ (d : D) (bs : List Int) (log : List (List Int)), ds = [pt bs, lg log, d] ∧ d.flx = true ∧ Short d ∧ bs.length ≤ 1000 ∧ log.length ≤ 100000 ∧ (∀ p ∈ log, p.length = bs.length) ∧ Q (.bl (spansB bs log d)) M
def fi_are_spans : FI := ⟨"are_spans", 3, spAreSpans⟩
@[simp] theorem fi_are_spans_sp : fi_are_spans.sp = spAreSpans := rfl
/-! ### plans with their spans -/
def cx_shows_fewest : Ctx := ⟨[fi_are_spans, fi_is_plan], [gi_PARTS], [], [], kx0⟩
@[simp] theorem cx_shows_fewest_g0 : cx_shows_fewest.gs[0]? = some gi_PARTS := rfl
@[simp] theorem cx_shows_fewest_0 : cx_shows_fewest.fs[0]? = some fi_are_spans := rfl
@[simp] theorem cx_shows_fewest_1 : cx_shows_fewest.fs[1]? = some fi_is_plan := rfl
end Ow
namespace Ow
open PySem PySem.Spec PyProof.Rows L2
variable [Tb] [Og]
/-! ### moments -/
structure Mom where
  pos : List Int
  hull : List (Int × Int)
  place : List Int
  begins : Bool
  load : Bool
def momF (m : Mom) : List (Str × D) := [("position", pt m.pos), ("phase_hull", hu m.hull), ("present_place", pt m.place), ("begins_phase", .bl m.begins), ("is_load", .bl m.load)]
def ai_moments : AI := ⟨"moments", ["Viewer"]⟩
def ai_sizes : AI := ⟨"sizes", ["Viewer"]⟩
def ai_is_load : AI := ⟨"is_load", ["Moment"]⟩
def ai_begins_phase : AI := ⟨"begins_phase", ["Moment"]⟩
def ai_present_place : AI := ⟨"present_place", ["Moment"]⟩
def ai_phase_hull : AI := ⟨"phase_hull", ["Moment"]⟩
def ai_position : AI := ⟨"position", ["Moment"]⟩
theorem att_ins {a : AI} {p : Addr} {c : Str} {fs : List (Str × D)} {d : D} {M : Mp} {Q : QE} (h : M p = some (.ins c fs)) (hc : c ∈ a.cs) (hl : fs.lookup a.f = some d) (q : Q d M) : attD a (.ref p) M Q := by
  unfold attD insD
  simp only [h, if_pos hc, hl]
  exact q
theorem sat_ins {a : AI} {p : Addr} {c : Str} {fs : List (Str × D)} {d : D} {M : Mp} {Q : Mp → Prop} (h : M p = some (.ins c fs)) (hc : c ∈ a.cs) (hl : fs.length < 1000) (q : Q (M.upd p (.ins c (putFD a.f d fs)))) : satD a (.ref p) d M Q := by
  unfold satD insD
  simp only [h, if_pos hc]
  exact ⟨hl, q⟩
def cx_Moment_init : Ctx := ⟨[], [], [ai_position, ai_phase_hull, ai_present_place, ai_begins_phase, ai_is_load], [], kx0⟩
@[simp] theorem cx_Moment_init_a0 : cx_Moment_init.as[0]? = some ai_position := rfl
@[simp] theorem cx_Moment_init_a1 : cx_Moment_init.as[1]? = some ai_phase_hull := rfl
@[simp] theorem cx_Moment_init_a2 : cx_Moment_init.as[2]? = some ai_present_place := rfl
@[simp] theorem cx_Moment_init_a3 : cx_Moment_init.as[3]? = some ai_begins_phase := rfl
@[simp] theorem cx_Moment_init_a4 : cx_Moment_init.as[4]? = some ai_is_load := rfl
def spMoment : DSp := fun ds M Q _ => ∃ m : Mom, ds = [pt m.pos, hu m.hull, pt m.place, .bl m.begins, .bl m.load] ∧ ∀ x, M x = none → Q (.ref x) (M.upd x (.ins "Moment" (momF m)))
def fi_Moment : FI := ⟨"Moment", 5, spMoment⟩
@[simp] theorem fi_Moment_sp : fi_Moment.sp = spMoment := rfl
def cx_first_moment : Ctx := ⟨[fi_Moment, fi_halving_place], [], [], [], kx0⟩
@[simp] theorem cx_first_moment_0 : cx_first_moment.fs[0]? = some fi_Moment := rfl
@[simp] theorem cx_first_moment_1 : cx_first_moment.fs[1]? = some fi_halving_place := rfl
/-- the first moment at a position -/
def firstM (bs p : List Int) : Mom := ⟨p, hullP p, halvingP bs (hullP p), true, true⟩
def spFirstM : DSp := fun ds M Q _ => ∃ bs p : List Int, ds = [pt bs, pt p] ∧ p.length = bs.length ∧ bs.length ≤ 1000 ∧ (∀ b ∈ bs, 1 ≤ b) ∧ ∀ x, M x = none → Q (.ref x) (M.upd x (.ins "Moment" (momF (firstM bs p))))
def fi_first_moment : FI := ⟨"first_moment", 2, spFirstM⟩
@[simp] theorem fi_first_moment_sp : fi_first_moment.sp = spFirstM := rfl
def cx_next_moment : Ctx := ⟨[fi_joined, fi_fits, fi_covers, fi_Moment, fi_halving_place], [], [ai_phase_hull, ai_present_place], [], kx0⟩
@[simp] theorem cx_next_moment_a0 : cx_next_moment.as[0]? = some ai_phase_hull := rfl
@[simp] theorem cx_next_moment_a1 : cx_next_moment.as[1]? = some ai_present_place := rfl
@[simp] theorem cx_next_moment_0 : cx_next_moment.fs[0]? = some fi_joined := rfl
@[simp] theorem cx_next_moment_1 : cx_next_moment.fs[1]? = some fi_fits := rfl
@[simp] theorem cx_next_moment_2 : cx_next_moment.fs[2]? = some fi_covers := rfl
@[simp] theorem cx_next_moment_3 : cx_next_moment.fs[3]? = some fi_Moment := rfl
@[simp] theorem cx_next_moment_4 : cx_next_moment.fs[4]? = some fi_halving_place := rfl
/-- the hull of the phase after a request -/
def nextHull (bs : List Int) (h : List (Int × Int)) (p : List Int) : List (Int × Int) := if fitsH bs (joinH h p) = true then joinH h p else hullP p
def nextM (bs : List Int) (m : Mom) (p : List Int) : Mom :=
  if coversB bs m.place p = true then ⟨p, nextHull bs m.hull p, m.place, !fitsH bs (joinH m.hull p), false⟩ else ⟨p, nextHull bs m.hull p, halvingP bs (nextHull bs m.hull p), !fitsH bs (joinH m.hull p), true⟩
def spNextM : DSp := fun ds M Q _ => ∃ (bs p : List Int) (a : Addr) (m : Mom), ds = [pt bs, .ref a, pt p] ∧ M a = some (.ins "Moment" (momF m)) ∧ p.length = bs.length ∧ m.place.length = bs.length ∧ bs.length ≤ 1000 ∧ (∀ b ∈ bs, 1 ≤ b) ∧ ∀ x, M x = none → Q (.ref x) (M.upd x (.ins "Moment" (momF (nextM bs m p))))
def fi_next_moment : FI := ⟨"next_moment", 3, spNextM⟩
@[simp] theorem fi_next_moment_sp : fi_next_moment.sp = spNextM := rfl
/-! ### boxes, positions -/
def gi_MOST_AXES : GI := ⟨"MOST_AXES", .int 3⟩
@[simp] theorem gi_MOST_AXES_d : gi_MOST_AXES.d = .int 3 := rfl
def gi_MOST_SIZE : GI := ⟨"MOST_SIZE", .int 1000000000⟩
@[simp] theorem gi_MOST_SIZE_d : gi_MOST_SIZE.d = .int 1000000000 := rfl
def gi_FARTHEST_POSITION : GI := ⟨"FARTHEST_POSITION", .int 1000000000000⟩
@[simp] theorem gi_FARTHEST_POSITION_d : gi_FARTHEST_POSITION.d = .int 1000000000000 := rfl
def gi_MOST_REQUESTS : GI := ⟨"MOST_REQUESTS", .int 400⟩
@[simp] theorem gi_MOST_REQUESTS_d : gi_MOST_REQUESTS.d = .int 400 := rfl
def mc_is_box : MC := ⟨["value", "size"], ["is_integer"], ["MOST_AXES", "MOST_SIZE"], [], [], mx0⟩
def b_is_box : List CS := [.ifs (.or (.not (.isi .tuple (.var 0))) (.one (.not (.chn .LtE .LtE (.int 1) (.blt .len true [.var 0]) (.glb 0))))) [.ret (.bl false)] [],
    .ret (.blt .all true [.comp true (.call 0 [.var 1, .int 1, .glb 1]) (.nm 1) .seq [.var 0] [1]])]
def cx_is_box : Ctx := ⟨[fi_is_integer], [gi_MOST_AXES, gi_MOST_SIZE], [], [], kx0⟩
@[simp] theorem cx_is_box_g0 : cx_is_box.gs[0]? = some gi_MOST_AXES := rfl
@[simp] theorem cx_is_box_g1 : cx_is_box.gs[1]? = some gi_MOST_SIZE := rfl
@[simp] theorem cx_is_box_0 : cx_is_box.fs[0]? = some fi_is_integer := rfl
def boxB (bs : List Int) : Bool := decide (1 ≤ bs.length) && decide (bs.length ≤ 3) && bs.all fun b => decide (1 ≤ b) && decide (b ≤ 1000000000)
/-- of rows of whole numbers -/
def spIsBox : DSp := fun ds M Q _ => ∃ bs : List Int, ds = [pt bs] ∧ bs.length ≤ 1000 ∧ Q (.bl (boxB bs)) M
def fi_is_box : FI := ⟨"is_box", 1, spIsBox⟩
@[simp] theorem fi_is_box_sp : fi_is_box.sp = spIsBox := rfl
theorem wp_is_box {E : EX} {ds : List D} {M : Mp} {Q : QE} {E' : XD → Mp → Prop} (h : spIsBox ds M Q E') : wpB cx_is_box E b_is_box (endsD Q) (startD mc_is_box.N ds) M := by
  obtain ⟨bs, rfl, hl, q⟩ := h
  rw [show startD mc_is_box.N [pt bs] = [some (pt bs), none] from rfl, b_is_box, wpB_cons]
  simp
  by_cases h1 : (1 : Int) ≤ (bs.length : Int)
  · rw [decide_eq_true h1]
    dsimp only
    by_cases h2 : (bs.length : Int) ≤ 3
    · simp [h2, wpB_nil, wpB_cons, itD]
      intro c hc
      refine cmpL_mapf D.int (fun b => .bl (isIntB 1 1000000000 (.int b))) hc (by omega) (fun _ => True.intro) (fun b hb acc add skip ha => ?_) ?_
      · simp [turnC, wipeD]
        exact ⟨.int b, 1, 1000000000, rfl, rfl, ha⟩
      · simp
        have e : boxB bs = bs.all fun n => isIntB 1 1000000000 (.int n) := by
          unfold boxB
          rw [decide_eq_true (by omega), decide_eq_true (by omega), Bool.true_and, Bool.true_and]
          rfl
        rw [e] at q
        exact Fin.same q
    · have e : boxB bs = false := by unfold boxB; rw [decide_eq_false (by omega : ¬ bs.length ≤ 3)]; simp
      rw [e] at q
      simp [h2, wpB_cons]
      exact Fin.same q
  · have e : boxB bs = false := by unfold boxB; rw [decide_eq_false (by omega : ¬ 1 ≤ bs.length)]; simp
    rw [e] at q
    rw [decide_eq_false h1]
    simp [wpB_cons]
    exact Fin.same q
def cx_is_position : Ctx := ⟨[fi_is_point], [gi_FARTHEST_POSITION], [], [], kx0⟩
@[simp] theorem cx_is_position_g0 : cx_is_position.gs[0]? = some gi_FARTHEST_POSITION := rfl
@[simp] theorem cx_is_position_0 : cx_is_position.fs[0]? = some fi_is_point := rfl
def spIsPosition : DSp := fun ds M Q _ => ∃ (d : D) (bs : List Int), ds = [pt bs, d] ∧ d.flx = true ∧ bs.length ≤ 1000 ∧ Q (.bl (pointB bs.length 1000000000000 d)) M
def fi_is_position : FI := ⟨"is_position", 2, spIsPosition⟩
@[simp] theorem fi_is_position_sp : fi_is_position.sp = spIsPosition := rfl
/-! ### viewers -/
def viewF (bs : List Int) (q : Addr) : List (Str × D) := [("sizes", pt bs), ("moments", .ref q)]
def mc_Viewer_init : MC := ⟨["self", "box"], ["is_box"], [], [⟨"sizes", ["Viewer"]⟩, ⟨"moments", ["Viewer"]⟩], [], mx0⟩
def b_Viewer_init : List CS := [.ifs (.not (.call 0 [.var 1])) [.bad] [],
    .sat 0 (.var 0) (.var 1),
    .sat 1 (.var 0) (.lst false [])]
def cx_Viewer_init : Ctx := ⟨[fi_is_box], [], [ai_sizes, ai_moments], [], kx0⟩
@[simp] theorem cx_Viewer_init_a0 : cx_Viewer_init.as[0]? = some ai_sizes := rfl
@[simp] theorem cx_Viewer_init_a1 : cx_Viewer_init.as[1]? = some ai_moments := rfl
@[simp] theorem cx_Viewer_init_0 : cx_Viewer_init.fs[0]? = some fi_is_box := rfl
def spI_Viewer : DSp := fun ds M Q _ => ∃ (x : Addr) (bs : List Int), ds = [.ref x, pt bs] ∧ M x = some (.ins "Viewer" []) ∧ boxB bs = true ∧ ∀ q, M q = none → Q .non ((M.upd q (.lst [])).upd x (.ins "Viewer" (viewF bs q)))
def spViewer : DSp := fun ds M Q _ => ∃ bs : List Int, ds = [pt bs] ∧ boxB bs = true ∧ ∀ x q, M x = none → M q = none → x ≠ q → Q (.ref x) ((M.upd q (.lst [])).upd x (.ins "Viewer" (viewF bs q)))
def fi_Viewer : FI := ⟨"Viewer", 1, spViewer⟩
@[simp] theorem fi_Viewer_sp : fi_Viewer.sp = spViewer := rfl
theorem Mp.upd_comm {M : Mp} {a b : Addr} {o u : MO} (h : a ≠ b) : (M.upd a o).upd b u = (M.upd b u).upd a o := by
  funext c; unfold Mp.upd
  by_cases h1 : c = a
  · subst h1; simp [h]
  · simp [h1]
theorem mk_Viewer : ∀ ds M Q E, fi_Viewer.sp ds M Q E → mkSp "Viewer" spI_Viewer ds M Q E := fun ds M Q E h x hx => by
  obtain ⟨bs, rfl, hb, q⟩ := h
  refine ⟨x, bs, rfl, Mp.upd_same, hb, fun p hp => ⟨rfl, ?_⟩⟩
  have hne : x ≠ p := fun z => by rw [← z, Mp.upd_same] at hp; cases hp
  rw [Mp.upd_ne (fun z => hne z.symm)] at hp
  rw [Mp.upd_comm hne, Mp.upd_upd]
  exact q x p hx hp hne
theorem box_len {bs : List Int} (h : boxB bs = true) : 1 ≤ bs.length ∧ bs.length ≤ 3 ∧ ∀ b ∈ bs, 1 ≤ b ∧ b ≤ 1000000000 := by
  unfold boxB at h
  rw [Bool.and_eq_true, Bool.and_eq_true, decide_eq_true_iff, decide_eq_true_iff, List.all_eq_true] at h
  refine ⟨h.1.1, h.1.2, fun b hb => ?_⟩
  have := h.2 b hb
  rw [Bool.and_eq_true, decide_eq_true_iff, decide_eq_true_iff] at this
  exact this
theorem wp_Viewer_init {E : EX} {ds : List D} {M : Mp} {Q : QE} {E' : XD → Mp → Prop} (h : spI_Viewer ds M Q E') : wpB cx_Viewer_init E b_Viewer_init (endsD Q) (startD mc_Viewer_init.N ds) M := by
  obtain ⟨x, bs, rfl, hx, hb, q⟩ := h
  have hl := (box_len hb).2.1
  rw [show startD mc_Viewer_init.N [.ref x, pt bs] = [some (.ref x), some (pt bs)] from rfl, b_Viewer_init, wpB_cons]
  simp
  refine ⟨bs, rfl, by omega, ?_⟩
  simp [hb, wpB_nil]
  rw [wpB_cons]
  simp
  refine sat_ins hx (by decide) (by decide) ?_
  rw [wpB_cons]
  simp
  intro p hp
  have hpx : x ≠ p := fun z => by rw [← z, Mp.upd_same] at hp; cases hp
  have hp' : M p = none := by rwa [Mp.upd_ne (fun z => hpx z.symm)] at hp
  refine sat_ins (by rw [Mp.upd_ne hpx]; exact Mp.upd_same) (by decide) (Nat.le_of_ble_eq_true rfl) ?_
  simp [wpB_nil]
  rw [Mp.upd_comm hpx, Mp.upd_upd]
  exact Fin.same (q p hp')
/-- the viewer at v: its box, its moments -/
def MomsR (M : Mp) (as : List Addr) (l : List Mom) : Prop := All2 (fun a m => M a = some (.ins "Moment" (momF m))) as l
def stepM (bs : List Int) (l : List Mom) (p : List Int) : Mom := match l.getLast? with
  | none => firstM bs p
  | some m => nextM bs m p
def resM (m : Mom) : D := if m.load = true then pt m.place else .non
def cx_Viewer_request : Ctx := ⟨[fi_is_position, fi_first_moment, fi_next_moment], [gi_MOST_REQUESTS], [ai_sizes, ai_moments, ai_is_load, ai_present_place], [], kx0⟩
@[simp] theorem cx_Viewer_request_a0 : cx_Viewer_request.as[0]? = some ai_sizes := rfl
@[simp] theorem cx_Viewer_request_a1 : cx_Viewer_request.as[1]? = some ai_moments := rfl
@[simp] theorem cx_Viewer_request_a2 : cx_Viewer_request.as[2]? = some ai_is_load := rfl
@[simp] theorem cx_Viewer_request_a3 : cx_Viewer_request.as[3]? = some ai_present_place := rfl
@[simp] theorem cx_Viewer_request_g0 : cx_Viewer_request.gs[0]? = some gi_MOST_REQUESTS := rfl
@[simp] theorem cx_Viewer_request_0 : cx_Viewer_request.fs[0]? = some fi_is_position := rfl
@[simp] theorem cx_Viewer_request_1 : cx_Viewer_request.fs[1]? = some fi_first_moment := rfl
@[simp] theorem cx_Viewer_request_2 : cx_Viewer_request.fs[2]? = some fi_next_moment := rfl
def spRequest : DSp := fun ds M Q _ => ∃ (v q : Addr) (as : List Addr) (bs p : List Int) (l : List Mom), ds = [.ref v, pt p] ∧ M v = some (.ins "Viewer" (viewF bs q)) ∧ M q = some (.lst (as.map D.ref)) ∧ MomsR M as l ∧ boxB bs = true ∧ p.length = bs.length ∧ (∀ x ∈ p, (x.natAbs : Int) ≤ 10 ^ 12) ∧
  (∀ m ∈ l, m.place.length = bs.length) ∧ l.length < 400 ∧ ∀ x, M x = none → Q (resM (stepM bs l p)) ((M.upd x (.ins "Moment" (momF (stepM bs l p)))).upd q (.lst ((as ++ [x]).map D.ref)))
def mi_Viewer_request : MI := ⟨"Viewer", "request", 2, spRequest⟩
@[simp] theorem mi_Viewer_request_sp : mi_Viewer_request.sp = spRequest := rfl
@[simp] theorem mi_Viewer_request_cls : mi_Viewer_request.cls = "Viewer" := rfl
@[simp] theorem mi_Viewer_request_name : mi_Viewer_request.name = "request" := rfl
def lastD (f : Mom → D) (l : List Mom) : D := match l.getLast? with
  | none => .non
  | some m => f m
/-- what stands at the last moment -/
def spLastV (f : Mom → D) : DSp := fun ds M Q _ => ∃ (v q : Addr) (as : List Addr) (bs : List Int) (l : List Mom), ds = [.ref v] ∧ M v = some (.ins "Viewer" (viewF bs q)) ∧ M q = some (.lst (as.map D.ref)) ∧ MomsR M as l ∧ Q (lastD f l) M
def cx_Viewer_place : Ctx := ⟨[], [], [ai_moments, ai_present_place], [], kx0⟩
@[simp] theorem cx_Viewer_place_a0 : cx_Viewer_place.as[0]? = some ai_moments := rfl
@[simp] theorem cx_Viewer_place_a1 : cx_Viewer_place.as[1]? = some ai_present_place := rfl
def mi_Viewer_place : MI := ⟨"Viewer", "place", 1, (spLastV fun m => pt m.place)⟩
@[simp] theorem mi_Viewer_place_sp : mi_Viewer_place.sp = (spLastV fun m => pt m.place) := rfl
@[simp] theorem mi_Viewer_place_cls : mi_Viewer_place.cls = "Viewer" := rfl
@[simp] theorem mi_Viewer_place_name : mi_Viewer_place.name = "place" := rfl
def cx_Viewer_present_hull : Ctx := ⟨[], [], [ai_moments, ai_phase_hull], [], kx0⟩
@[simp] theorem cx_Viewer_present_hull_a0 : cx_Viewer_present_hull.as[0]? = some ai_moments := rfl
@[simp] theorem cx_Viewer_present_hull_a1 : cx_Viewer_present_hull.as[1]? = some ai_phase_hull := rfl
def mi_Viewer_present_hull : MI := ⟨"Viewer", "present_hull", 1, (spLastV fun m => hu m.hull)⟩
@[simp] theorem mi_Viewer_present_hull_sp : mi_Viewer_present_hull.sp = (spLastV fun m => hu m.hull) := rfl
@[simp] theorem mi_Viewer_present_hull_cls : mi_Viewer_present_hull.cls = "Viewer" := rfl
@[simp] theorem mi_Viewer_present_hull_name : mi_Viewer_present_hull.name = "present_hull" := rfl
def cx_Viewer_left : Ctx := ⟨[fi_forced], [], [ai_moments, ai_sizes], [mi_Viewer_present_hull, mi_Viewer_place], kx0⟩
@[simp] theorem cx_Viewer_left_a0 : cx_Viewer_left.as[0]? = some ai_moments := rfl
@[simp] theorem cx_Viewer_left_a1 : cx_Viewer_left.as[1]? = some ai_sizes := rfl
@[simp] theorem cx_Viewer_left_m0 : cx_Viewer_left.ms[0]? = some mi_Viewer_present_hull := rfl
@[simp] theorem cx_Viewer_left_m1 : cx_Viewer_left.ms[1]? = some mi_Viewer_place := rfl
@[simp] theorem cx_Viewer_left_0 : cx_Viewer_left.fs[0]? = some fi_forced := rfl
/-- a moment of a box: its hull fits, its place has as many numbers -/
def MomOk (bs : List Int) (m : Mom) : Prop := m.hull.length = bs.length ∧ m.place.length = bs.length ∧ fitsH bs m.hull = true
def spLeft : DSp := fun ds M Q _ => ∃ (v q : Addr) (as : List Addr) (bs : List Int) (l : List Mom), ds = [.ref v] ∧ M v = some (.ins "Viewer" (viewF bs q)) ∧ M q = some (.lst (as.map D.ref)) ∧ MomsR M as l ∧ bs.length ≤ 1000 ∧ (∀ m ∈ l, MomOk bs m) ∧ Q (lastD (fun m => .int (forcedP bs m.hull m.place)) l) M
def mi_Viewer_left : MI := ⟨"Viewer", "left", 1, spLeft⟩
@[simp] theorem mi_Viewer_left_sp : mi_Viewer_left.sp = spLeft := rfl
@[simp] theorem mi_Viewer_left_cls : mi_Viewer_left.cls = "Viewer" := rfl
@[simp] theorem mi_Viewer_left_name : mi_Viewer_left.name = "left" := rfl
def mc_Viewer_log : MC := ⟨["self", "moment"], [], [], [⟨"moments", ["Viewer"]⟩, ⟨"position", ["Moment"]⟩], [], mx0⟩
def b_Viewer_log : List CS := [.ret (.blt .tuple true [.comp true (.att 1 (.var 1)) (.nm 1) .seq [.att 0 (.var 0)] [1]])]
def cx_Viewer_log : Ctx := ⟨[], [], [ai_moments, ai_position], [], kx0⟩
@[simp] theorem cx_Viewer_log_a0 : cx_Viewer_log.as[0]? = some ai_moments := rfl
@[simp] theorem cx_Viewer_log_a1 : cx_Viewer_log.as[1]? = some ai_position := rfl
def spLogV : DSp := fun ds M Q _ => ∃ (v q : Addr) (as : List Addr) (bs : List Int) (l : List Mom), ds = [.ref v] ∧ M v = some (.ins "Viewer" (viewF bs q)) ∧ M q = some (.lst (as.map D.ref)) ∧ MomsR M as l ∧ l.length ≤ 1000 ∧ Q (lg (l.map (·.pos))) M
def mi_Viewer_log : MI := ⟨"Viewer", "log", 1, spLogV⟩
@[simp] theorem mi_Viewer_log_sp : mi_Viewer_log.sp = spLogV := rfl
@[simp] theorem mi_Viewer_log_cls : mi_Viewer_log.cls = "Viewer" := rfl
@[simp] theorem mi_Viewer_log_name : mi_Viewer_log.name = "log" := rfl
/-- what a moment's address holds under a name -/
def heldD (M : Mp) (f : Str) : D → D
  | .ref a => (match M a with
    | some (.ins _ fs) => (fs.lookup f).getD .non
    | _ => .non)
  | _ => .non
theorem held_map {M : Mp} {f : Str} {g : Mom → D} (hg : ∀ m, (momF m).lookup f = some (g m)) : ∀ {as : List Addr} {l : List Mom}, MomsR M as l → (as.map D.ref).map (heldD M f) = l.map g
  | [], [], _ => rfl
  | a :: as, m :: l, h => by
    have h1 : M a = some (.ins "Moment" (momF m)) := h.1
    rw [List.map_cons, List.map_cons, List.map_cons, held_map hg h.2]
    have e : heldD M f (.ref a) = g m := by
      show (match M a with | some (.ins _ fs) => (fs.lookup f).getD .non | _ => .non) = _
      rw [h1]
      show ((momF m).lookup f).getD .non = _
      rw [hg]; rfl
    rw [e]
theorem wp_Viewer_log {E : EX} {ds : List D} {M : Mp} {Q : QE} {E' : XD → Mp → Prop} (h : spLogV ds M Q E') : wpB cx_Viewer_log E b_Viewer_log (endsD Q) (startD mc_Viewer_log.N ds) M := by
  obtain ⟨v, q, as, bs, l, rfl, hv, hq, hm, hl, z⟩ := h
  have hlen := hm.length
  rw [show startD mc_Viewer_log.N [.ref v] = [some (.ref v), none] from rfl, b_Viewer_log, wpB_cons]
  simp [itD]
  refine att_ins (d := .ref q) hv (by decide) rfl ?_
  simp [hq]
  intro p hp
  have hqp : q ≠ p := fun e => by rw [e, hp] at hq; cases hq
  refine cmpL_map (heldD M "position") hp (by have := sz (n := as.length) (by omega); simpa using this) (fun acc => ?_) (fun x hx acc add skip ha => ?_) ?_
  · exact ⟨Mp.upd_ne hqp, trivial⟩
  · obtain ⟨a, haa, rfl⟩ := List.mem_map.mp hx
    obtain ⟨m, hml, hma⟩ := All2.left hm a haa
    have hap : a ≠ p := fun e => by rw [e, hp] at hma; cases hma
    have e : heldD M "position" (.ref a) = pt m.pos := by
      unfold heldD
      dsimp only
      rw [hma]; rfl
    rw [e] at ha
    simp [turnC, wipeD]
    exact att_ins (d := pt m.pos) ((Mp.upd_ne hap).trans hma) (by decide) rfl ha
  · rw [held_map (g := fun m => pt m.pos) (fun _ => rfl) hm]
    simp
    have e : lg (l.map (·.pos)) = .tup (l.map fun m => pt m.pos) := by simp
    rw [e] at z
    exact Fin.same z
/-- the numbers of the moments of a kind -/
def numsL (b : Mom → Bool) (l : List Mom) (k : Nat) : List Int := ((l.zipIdx k).filter fun t => b t.1).map fun t => (t.2 : Int)
def cx_Viewer_phases : Ctx := ⟨[], [], [ai_moments, ai_begins_phase], [], kx0⟩
@[simp] theorem cx_Viewer_phases_a0 : cx_Viewer_phases.as[0]? = some ai_moments := rfl
@[simp] theorem cx_Viewer_phases_a1 : cx_Viewer_phases.as[1]? = some ai_begins_phase := rfl
def spNums (b : Mom → Bool) : DSp := fun ds M Q _ => ∃ (v q : Addr) (as : List Addr) (bs : List Int) (l : List Mom), ds = [.ref v] ∧ M v = some (.ins "Viewer" (viewF bs q)) ∧ M q = some (.lst (as.map D.ref)) ∧ MomsR M as l ∧ l.length ≤ 1000 ∧ Q (pt (numsL b l 0)) M
def mi_Viewer_phases : MI := ⟨"Viewer", "phases", 1, (spNums Mom.begins)⟩
@[simp] theorem mi_Viewer_phases_sp : mi_Viewer_phases.sp = (spNums Mom.begins) := rfl
@[simp] theorem mi_Viewer_phases_cls : mi_Viewer_phases.cls = "Viewer" := rfl
@[simp] theorem mi_Viewer_phases_name : mi_Viewer_phases.name = "phases" := rfl
def cx_Viewer_loads : Ctx := ⟨[], [], [ai_moments, ai_is_load], [], kx0⟩
@[simp] theorem cx_Viewer_loads_a0 : cx_Viewer_loads.as[0]? = some ai_moments := rfl
@[simp] theorem cx_Viewer_loads_a1 : cx_Viewer_loads.as[1]? = some ai_is_load := rfl
def mi_Viewer_loads : MI := ⟨"Viewer", "loads", 1, (spNums Mom.load)⟩
@[simp] theorem mi_Viewer_loads_sp : mi_Viewer_loads.sp = (spNums Mom.load) := rfl
@[simp] theorem mi_Viewer_loads_cls : mi_Viewer_loads.cls = "Viewer" := rfl
@[simp] theorem mi_Viewer_loads_name : mi_Viewer_loads.name = "loads" := rfl
end Ow
namespace Ow
open PySem PySem.Spec PyProof.Rows L2
variable [Tb] [Og]
/-! ### asks that are refused -/
/-- no function of M shares the cells cs -/
def NoCl (M : Mp) (cs : List Addr) : Prop := ∀ b k' caps' cs', M b = some (.clo k' caps' cs') → ∀ c ∈ cs', c ∉ cs
theorem NoCl.upd {M : Mp} {cs : List Addr} {a : Addr} {o : MO} (h : NoCl M cs) (ho : o.still = false ∨ ∃ c fs, o = .exc c fs) : NoCl (M.upd a o) cs := fun b k' caps' cs' e => by
  by_cases hb : b = a
  · rw [hb, Mp.upd_same] at e
    cases e
    rcases ho with ho | ⟨_, _, ho⟩ <;> cases ho
  · rw [Mp.upd_ne hb] at e
    exact h b k' caps' cs' e
theorem dropC_clo {M : Mp} {a : Addr} {k : Nat} {caps : List D} {cs : List Addr} (ha : M a = none) (hd : NoCl M cs) : (M.upd a (.clo k caps cs)).dropC a cs = M := by
  funext b
  unfold Mp.dropC
  by_cases e : b = a
  · rw [if_pos e, e, ha]
  · rw [if_neg e, Mp.upd_ne e]
    cases h : M b with
    | none => rfl
    | some o =>
      cases o with
      | clo k' caps' cs' =>
        have no : (cs'.any fun c => cs.contains c) = false := by
          rw [List.any_eq_false]
          intro c hc z
          exact hd b k' caps' cs' h c hc (List.contains_iff_mem.mp z)
        simp only [no, Bool.false_eq_true, if_false]
      | _ => rfl
theorem resC_clo {M M' : Mp} {a : Addr} {k : Nat} {caps : List D} {cs : List Addr} (hd : NoCl M cs) : (M.upd a (.clo k caps cs)).resC a cs M' = M'.upd a (.clo k caps cs) := by
  funext b
  unfold Mp.resC
  by_cases e : b = a
  · rw [if_pos e, e, Mp.upd_same, Mp.upd_same]
  · rw [if_neg e, Mp.upd_ne e, Mp.upd_ne e]
    cases h : M b with
    | none => rfl
    | some o =>
      cases o with
      | clo k' caps' cs' =>
        have no : (cs'.any fun c => cs.contains c) = false := by
          rw [List.any_eq_false]
          intro c hc z
          exact hd b k' caps' cs' h c hc (List.contains_iff_mem.mp z)
        simp only [no, Bool.false_eq_true, if_false]
      | _ => rfl
def b_q_caught : List CS := [.set 1 (.non),
    .tryX [.expr (.callV 0 [])] [("WindowError", some 2, .set 1)],
    .ret (.var 1)]
theorem sub_win {c : Str} : excSub c "WindowError" = true := by unfold excSub; simp
end Ow
namespace Ow
open PySem PySem.Spec PyProof.Rows L2
variable [Tb] [Og]
theorem gstr_mk {K : PySem.W.Frag} {h : Heap} {mg : Str → Option Value} {x : Str} {i : Str} {t : Tok} (X : K.In h) (G : h.Ns mainGlobals mg) (a : PySem.W.nsIn K mainGlobals x = some (some (.str i t))) : GM K mg ⟨x, .str i⟩ :=
  ⟨.str i, .str i t, PySem.W.mg_of X G a, ⟨t, rfl⟩, fun _ _ _ => rfl⟩
/-! ### a tuple of constants as a global -/
def isTupV (v : Value) : Bool := match v with | .type n => n == "tuple" | _ => false
mutual
def gD (K : PySem.W.Frag) : D → Value → Bool
  | .int i, .int j _ => decide (i = j)
  | .str s, .str t _ => decide (s = t)
  | .tup l, .ref a => match K.lookup a with
    | some o => isTupV o.cls && (match o.data with
      | .seq its _ => decide (its.size ≤ 100) && gDs K l its.toList
      | _ => false)
    | none => false
  | _, _ => false
def gDs (K : PySem.W.Frag) : List D → List Value → Bool
  | [], [] => true
  | d :: l, v :: vs => gD K d v && gDs K l vs
  | _, _ => false
end
mutual
theorem gD_rep {K : PySem.W.Frag} {mg : Str → Option Value} : ∀ (d : D) (u : Value), gD K d u = true → ∃ v, RelV v u ∧ ∀ M H, AbsM ⟨K, mg⟩ M H → Rep ⟨K, mg⟩ M H d v
  | .int i, u, h => by
    cases u with
    | int j t =>
      simp only [gD, decide_eq_true_eq] at h
      subst h
      exact ⟨.int i, ⟨t, rfl⟩, fun _ _ _ => rfl⟩
    | _ => simp [gD] at h
  | .str i, u, h => by
    cases u with
    | str j t =>
      simp only [gD, decide_eq_true_eq] at h
      subst h
      exact ⟨.str i, ⟨t, rfl⟩, fun _ _ _ => rfl⟩
    | _ => simp [gD] at h
  | .tup l, u, h => by
    cases u with
    | ref a =>
      unfold gD at h
      split at h
      · rename_i o ho
        rw [Bool.and_eq_true] at h
        obtain ⟨h1, h2⟩ := h
        split at h2
        · rename_i its n hd
          rw [Bool.and_eq_true, decide_eq_true_eq] at h2
          obtain ⟨h3, h4⟩ := h2
          obtain ⟨vs, hv, hr⟩ := gDs_rep (mg := mg) l its.toList h4
          have hc : o.cls = .type "tuple" := by
            unfold isTupV at h1
            split at h1
            · rename_i e; rw [e, eq_of_beq h1]
            · cases h1
          refine ⟨.ref a, rfl, fun M H A => ⟨a, vs, rfl, .inr ⟨o, its, n, ho, hc, hd, ?_, hv⟩, hr M H A⟩⟩
          rw [sizeLine_eq]; omega
        · cases h2
      · cases h
    | _ => simp [gD] at h
  | .non, _, h => by simp [gD] at h
  | .bl _, _, h => by simp [gD] at h
  | .lst _, _, h => by simp [gD] at h
  | .ref _, _, h => by simp [gD] at h
  | .scr _, _, h => by simp [gD] at h
  | .dct _ _, _, h => by simp [gD] at h
theorem gDs_rep {K : PySem.W.Frag} {mg : Str → Option Value} : ∀ (l : List D) (us : List Value), gDs K l us = true → ∃ vs, Vals vs us ∧ ∀ M H, AbsM ⟨K, mg⟩ M H → Reps ⟨K, mg⟩ M H l vs
  | [], us, h => by
    cases us with
    | nil => exact ⟨[], .nil, fun _ _ _ => rfl⟩
    | cons _ _ => simp [gDs] at h
  | d :: l, us, h => by
    cases us with
    | nil => simp [gDs] at h
    | cons u us =>
      simp only [gDs, Bool.and_eq_true] at h
      obtain ⟨v, h1, h2⟩ := gD_rep (mg := mg) d u h.1
      obtain ⟨vs, h3, h4⟩ := gDs_rep (mg := mg) l us h.2
      exact ⟨v :: vs, .cons h1 h3, fun M H A => ⟨v, vs, rfl, h2 M H A, h4 M H A⟩⟩
end
theorem gtup_mk {K : PySem.W.Frag} {h : Heap} {mg : Str → Option Value} {x : Str} {d : D} {u : Value} (X : K.In h) (G : h.Ns mainGlobals mg) (a : PySem.W.nsIn K mainGlobals x = some (some u)) (b : gD K d u = true) : GM K mg ⟨x, d⟩ := by
  obtain ⟨v, h1, h2⟩ := gD_rep (mg := mg) d u b
  exact ⟨v, u, PySem.W.mg_of X G a, h1, h2⟩
end Ow
namespace Ow
open PySem PySem.Spec PyProof.Rows L2
/-! ### texts as lists of signs -/
def cs (s : Str) : List Nat := s.cps.toList
abbrev ms (l : List Nat) : Str := ⟨l.toArray⟩
theorem cs_ms (l : List Nat) : cs (ms l) = l := by simp [cs, ms]
theorem ms_cs (s : Str) : ms (cs s) = s := by simp [cs, ms]
theorem cs_ext {a b : Str} (h : cs a = cs b) : a = b := by rw [← ms_cs a, h, ms_cs]
theorem cs_len (s : Str) : (cs s).length = s.length := by simp [cs, Str.length]
theorem cs_app (a b : Str) : cs (a ++ b) = cs a ++ cs b := by
  show (a.cps ++ b.cps).toList = a.cps.toList ++ b.cps.toList
  simp
def spl (c : Nat) : List Nat → List (List Nat)
  | [] => [[]]
  | x :: r => if x = c then [] :: spl c r else match spl c r with
    | [] => [[x]]
    | p :: ps => (x :: p) :: ps
def jn (c : Nat) : List (List Nat) → List Nat
  | [] => []
  | [p] => p
  | p :: q :: r => p ++ c :: jn c (q :: r)
theorem spl_ne {c : Nat} : ∀ l, spl c l ≠ []
  | [] => by simp [spl]
  | x :: r => by
    unfold spl
    split
    · simp
    · split <;> simp
theorem spl_app {c : Nat} {r : List Nat} : ∀ {p : List Nat}, c ∉ p → spl c (p ++ c :: r) = p :: spl c r
  | [], _ => by simp [spl]
  | x :: p, h => by
    rw [List.mem_cons, not_or] at h
    rw [List.cons_append]
    have e : spl c (x :: (p ++ c :: r)) = (match spl c (p ++ c :: r) with
      | [] => [[x]]
      | p :: ps => (x :: p) :: ps) := by rw [spl, if_neg (fun e => h.1 e.symm)]
    rw [e, spl_app h.2]
theorem spl_one {c : Nat} : ∀ {p : List Nat}, c ∉ p → spl c p = [p]
  | [], _ => rfl
  | x :: p, h => by
    rw [List.mem_cons, not_or] at h
    unfold spl
    rw [if_neg (fun e => h.1 e.symm), spl_one h.2]
theorem spl_jn {c : Nat} : ∀ {ls : List (List Nat)}, ls ≠ [] → (∀ p ∈ ls, c ∉ p) → spl c (jn c ls) = ls
  | [], h, _ => absurd rfl h
  | [p], _, h => spl_one (h p List.mem_cons_self)
  | p :: q :: r, _, h => by
    show spl c (p ++ c :: jn c (q :: r)) = _
    rw [spl_app (h p List.mem_cons_self), spl_jn (by simp) fun z hz => h z (List.mem_cons_of_mem _ hz)]
theorem jn_cs {c : Nat} : ∀ ls : List Str, cs (Str.join (ms [c]) ls) = jn c (ls.map cs)
  | [] => rfl
  | [p] => rfl
  | p :: q :: r => by
    show cs (p ++ ms [c] ++ Str.join (ms [c]) (q :: r)) = cs p ++ c :: jn c ((q :: r).map cs)
    rw [cs_app, cs_app, jn_cs (q :: r), cs_ms, List.append_assoc]; rfl
theorem join_cs {c : Nat} (ls : List Str) : cs (Txt.join (ms [c]) ls) = jn c (ls.map cs) := by
  show cs (Builtin.Str.glued _ _) = _
  rw [StrLaws.glued_eq_join]
  exact jn_cs ls
theorem split_ne (x y : Str) : Txt.split x y ≠ [] := by
  unfold Txt.split
  split
  · simp
  · split
    · simp
    · rw [StrLaws.partsBetween_eq]
      obtain ⟨p, r, e⟩ := StrLaws.partsFrom_ne x y.length 0 (Builtin.Str.occurrences x y 0 x.length (x.length + 1))
      rw [e]; simp
theorem split_cs (x : Str) (c : Nat) : (Txt.split x (ms [c])).map cs = spl c (cs x) := by
  have h1 : Str.join (ms [c]) (Txt.split x (ms [c])) = x := StrLaws.join_split x (ms [c])
  have h2 := congrArg cs h1
  rw [jn_cs] at h2
  rw [← h2, spl_jn (by simpa using split_ne x _)]
  intro p hp
  obtain ⟨q, hq, rfl⟩ := List.mem_map.mp hp
  exact StrLaws.split_free x c q hq
theorem split_ms (x : Str) (c : Nat) : Txt.split x (ms [c]) = (spl c (cs x)).map ms := by
  rw [← split_cs, List.map_map]
  have : ∀ y ∈ Txt.split x (ms [c]), (ms ∘ cs) y = id y := fun y _ => ms_cs y
  rw [List.map_congr_left this, List.map_id]
theorem jn_spl {c : Nat} (l : List Nat) : jn c (spl c l) = l := by
  have := split_cs (ms l) c
  rw [cs_ms] at this
  rw [← this, ← jn_cs, StrLaws.join_split, cs_ms]
theorem jn_len {c : Nat} : ∀ ls : List (List Nat), ls ≠ [] → (jn c ls).length + 1 = (ls.map (·.length)).sum + ls.length
  | [], h => absurd rfl h
  | [p], _ => by simp [jn]
  | p :: q :: r, _ => by
    have := jn_len (c := c) (q :: r) (by simp)
    show (p ++ c :: jn c (q :: r)).length + 1 = _
    rw [List.length_append, List.length_cons, List.map_cons, List.sum_cons, List.length_cons]
    omega
theorem spl_len {c : Nat} (l : List Nat) : ((spl c l).map (·.length)).sum + (spl c l).length = l.length + 1 := by
  have := jn_len (c := c) (spl c l) (spl_ne l)
  rw [jn_spl] at this
  omega
/-! ### numbers -/
open NumText in
theorem numL_head {n : Nat} {r : List Nat} (h : TL.numL n = 48 :: r) : r = [] := by
  have hv := TL.numL_val n
  have hd := TL.numL_digits n
  have e : Nat.toDigits 10 n = (Nat.toDigits 10 (digitsVal (TL.numL n))) := by rw [hv]
  rw [NumText.toDigits_all _ hd, h] at e
  have h2 : TL.numL n = (Nat.toDigits 10 n).map Char.toNat := rfl
  rw [e, h, List.dropWhile_cons, if_pos (by decide)] at h2
  split at h2
  · cases h2; rfl
  · rename_i c s e2
    have h3 : c ≠ 48 := by
      intro z
      have := List.head?_dropWhile_not (p := fun x : Nat => x == 48) (l := r)
      rw [e2] at this
      simp [z] at this
    rw [List.map_cons, List.map_cons] at h2
    injection h2 with h4 h5
    exfalso
    have hc : c ∈ TL.numL n := by
      rw [h]
      exact List.mem_cons_of_mem _ ((List.dropWhile_sublist _).subset (by rw [e2]; exact List.mem_cons_self))
    have hr := hd c hc
    have hc2 : (Char.ofNat c).toNat = c := by
      have : ∀ k, k < 58 → (Char.ofNat k).toNat = k := by decide
      exact this c (by omega)
    omega
open NumText in
theorem numL_of {l : List Nat} (hd : AllDigits l) (hne : l ≠ []) (hc : ∀ r, l = 48 :: r → r = []) : TL.numL (digitsVal l) = l := by
  have key : ∀ l : List Nat, AllDigits l → (l.map Char.ofNat).map Char.toNat = l := fun l hl => by
    rw [List.map_map]
    have : ∀ k ∈ l, (Char.toNat ∘ Char.ofNat) k = id k := fun k hk => by
      have t : ∀ k, k < 58 → (Char.ofNat k).toNat = k := by decide
      exact t k (by have := hl k hk; omega)
    rw [List.map_congr_left this, List.map_id]
  unfold TL.numL
  cases l with
  | nil => exact absurd rfl hne
  | cons c r =>
    rw [toDigits_digitsVal r.length (c :: r) rfl hd ?_, key _ hd]
    by_cases h : c = 48
    · subst h
      left
      rw [hc r rfl]; rfl
    · right
      have := hd c List.mem_cons_self
      exact ⟨c, r, rfl, by omega⟩
/-- a number's text -/
def numI (n : Int) : List Nat := cs (Str.ofString (toString n))
theorem numI_nat (m : Nat) : numI (m : Int) = TL.numL m := TL.tl_num m
theorem numI_neg (m : Nat) (h : 0 < m) : numI (-(m : Int)) = 45 :: TL.numL m := by
  obtain ⟨k, rfl⟩ : ∃ k, m = k + 1 := ⟨m - 1, by omega⟩
  have e : (-((k + 1 : Nat) : Int)) = Int.negSucc k := rfl
  rw [e]
  show cs (Str.ofString ("-" ++ Nat.repr (k + 1))) = _
  have h1 := TL.tl_num (k + 1)
  have h2 : toString (((k + 1 : Nat) : Int)) = Nat.repr (k + 1) := rfl
  rw [h2] at h1
  rw [show TL.numL (k + 1) = cs (Str.ofString (Nat.repr (k + 1))) from h1.symm]
  show (Str.ofString _).cps.toList = _ :: (Str.ofString _).cps.toList
  rw [Str.ofString_eq_toList, Str.ofString_eq_toList]
  simp
/-! ### the numbers of texts -/
def dgs (w : List Nat) : List Nat := if w.head? = some 45 then w.tail else w
def isDg (c : Nat) : Bool := decide (48 ≤ c) && decide (c ≤ 57)
def canon (w : List Nat) : Bool := !((dgs w).head? == some 48 && (decide (1 < (dgs w).length) || w.head? == some 45))
def formW (w : List Nat) : Bool := decide (1 ≤ (dgs w).length) && (decide ((dgs w).length ≤ 13) && (dgs w).all isDg)
def valW (w : List Nat) : Int := if w.head? = some 45 then -((NumText.digitsVal (dgs w) : Nat) : Int) else ((NumText.digitsVal (dgs w) : Nat) : Int)
def intW (w : List Nat) (lo hi : Int) : Option Int := if (formW w && (canon w && (decide (lo ≤ valW w) && decide (valW w ≤ hi)))) = true then some (valW w) else none
theorem allDg {l : List Nat} (h : l.all isDg = true) : NumText.AllDigits l := fun c hc => by
  have := List.all_eq_true.mp h c hc
  unfold isDg at this
  rw [Bool.and_eq_true, decide_eq_true_iff, decide_eq_true_iff] at this
  exact this
theorem dgAll {l : List Nat} (h : NumText.AllDigits l) : l.all isDg = true := List.all_eq_true.mpr fun c hc => by
  have := h c hc
  unfold isDg
  rw [Bool.and_eq_true, decide_eq_true_iff, decide_eq_true_iff]
  exact this
theorem formW_iff {w : List Nat} : formW w = true ↔ 1 ≤ (dgs w).length ∧ (dgs w).length ≤ 13 ∧ NumText.AllDigits (dgs w) := by
  unfold formW
  rw [Bool.and_eq_true, Bool.and_eq_true, decide_eq_true_iff, decide_eq_true_iff]
  exact ⟨fun ⟨a, b, c⟩ => ⟨a, b, allDg c⟩, fun ⟨a, b, c⟩ => ⟨a, b, dgAll c⟩⟩
theorem head45 {w : List Nat} (h : w.head? = some 45) : w = 45 :: dgs w := by
  unfold dgs
  rw [if_pos h]
  cases w with
  | nil => cases h
  | cons c r => cases h; rfl
theorem not45 {w : List Nat} (h : ¬ w.head? = some 45) : dgs w = w := by unfold dgs; rw [if_neg h]
theorem formW_len {w : List Nat} (h : formW w = true) : 1 ≤ w.length ∧ w.length ≤ 14 := by
  obtain ⟨a1, a2, _⟩ := formW_iff.mp h
  by_cases h : w.head? = some 45
  · have := congrArg List.length (head45 h)
    rw [List.length_cons] at this
    omega
  · rw [not45 h] at a1 a2
    omega
theorem intText_w {s : Str} (h : formW (cs s) = true) : PySem.intText? s = some (valW (cs s)) := by
  obtain ⟨h1, h2, h3⟩ := formW_iff.mp h
  have ne : dgs (cs s) ≠ [] := fun z => by rw [z] at h1; cases h1
  have hl := cs_len s
  unfold valW
  by_cases hh : (cs s).head? = some 45
  · rw [if_pos hh]
    have e := head45 hh
    have hl2 := congrArg List.length e
    rw [List.length_cons] at hl2
    exact PySem.intText_neg e h3 ne (by omega)
  · rw [if_neg hh]
    have e := not45 hh
    rw [e] at h2 h3 ne ⊢
    exact PySem.intText_digits h3 ne (by omega)
open NumText in
theorem numI_val {w : List Nat} (h : formW w = true) : numI (valW w) = w ↔ canon w = true := by
  obtain ⟨h1, h2, h3⟩ := formW_iff.mp h
  have ne : dgs w ≠ [] := fun z => by rw [z] at h1; cases h1
  unfold valW canon
  by_cases hh : w.head? = some 45
  · rw [if_pos hh]
    have e := head45 hh
    generalize dgs w = d at *
    subst e
    have hc : (some 45 == some 45) = true := rfl
    simp only [List.head?_cons, beq_self_eq_true, Bool.or_true, Bool.and_true]
    constructor
    · intro z
      rw [Bool.not_eq_true']
      cases hd : (d.head? == some 48) with
      | false => rfl
      | true =>
        exfalso
        have hd := eq_of_beq hd
        cases d with
        | nil => exact ne rfl
        | cons c r =>
          cases hd
          by_cases hz : digitsVal (48 :: r) = 0
          · rw [hz] at z
            have : numI (-((0 : Nat) : Int)) = [48] := by
              rw [show -((0 : Nat) : Int) = ((0 : Nat) : Int) by omega, numI_nat, TL.numL_lt (by decide)]
            rw [this] at z
            cases z
          · rw [numI_neg _ (by omega)] at z
            injection z with _ z
            have := numL_head z
            subst this
            exact hz rfl
    · intro z
      rw [Bool.not_eq_true'] at z
      have hz : d.head? ≠ some 48 := fun y => by rw [y] at z; cases z
      have hp : 0 < digitsVal d := by
        cases d with
        | nil => exact absurd rfl ne
        | cons c r =>
          have := h3 c List.mem_cons_self
          exact digitsVal_pos (by
            have : c ≠ 48 := fun y => hz (by rw [y]; rfl)
            omega)
      rw [numI_neg _ hp, numL_of h3 ne fun r e => by rw [e] at hz; exact absurd rfl hz]
  · rw [if_neg hh]
    have e := not45 hh
    rw [e] at h1 h2 h3 ne ⊢
    have hb : (w.head? == some 45) = false := by
      cases hx : (w.head? == some 45) with
      | false => rfl
      | true => exact absurd (eq_of_beq hx) hh
    rw [hb, Bool.or_false, numI_nat]
    constructor
    · intro z
      rw [Bool.not_eq_true']
      cases hd : (w.head? == some 48) with
      | false => rfl
      | true =>
        have hd := eq_of_beq hd
        cases w with
        | nil => exact absurd rfl ne
        | cons c r =>
          cases hd
          have := numL_head z
          subst this
          rfl
    · intro z
      rw [Bool.not_eq_true'] at z
      refine numL_of h3 ne fun r e => ?_
      subst e
      simp at z
      exact z
open NumText in
theorem dv_hi : ∀ (l : List Nat) (a : Nat), AllDigits l → l.foldl (fun acc c => acc * 10 + (c - 48)) a < (a + 1) * 10 ^ l.length
  | [], a, _ => by simp
  | c :: l, a, h => by
    have hc := h c List.mem_cons_self
    have := dv_hi l (a * 10 + (c - 48)) fun d hd => h d (List.mem_cons_of_mem _ hd)
    rw [List.foldl_cons, List.length_cons, Nat.pow_succ]
    have h2 : (a + 1) * (10 ^ l.length * 10) = ((a + 1) * 10) * 10 ^ l.length := by rw [Nat.mul_comm (10 ^ l.length) 10, Nat.mul_assoc]
    rw [h2]
    exact Nat.lt_of_lt_of_le this (Nat.mul_le_mul_right _ (by omega))
open NumText in
theorem numI_form {n : Int} (h : (n.natAbs : Int) < 10 ^ 13) : formW (numI n) = true ∧ valW (numI n) = n ∧ canon (numI n) = true := by
  have key : formW (numI n) = true ∧ valW (numI n) = n := by
    by_cases hn : 0 ≤ n
    · obtain ⟨m, rfl⟩ := Int.eq_ofNat_of_zero_le hn
      rw [show ((m : Nat) : Int).natAbs = m from rfl] at h
      rw [numI_nat]
      have hd := TL.numL_digits m
      have h45 : ¬ (TL.numL m).head? = some 45 := fun z => by
        have := head45 z
        have h2 := hd 45 (by rw [this]; exact List.mem_cons_self)
        omega
      have hl := TL.numL_len (n := m) (k := 13) (by decide) (by omega)
      have hne := TL.numL_ne m
      refine ⟨formW_iff.mpr ?_, ?_⟩
      · rw [not45 h45]
        exact ⟨List.length_pos_iff.mpr hne, hl, hd⟩
      · unfold valW
        rw [if_neg h45, not45 h45, TL.numL_val]
    · obtain ⟨m, rfl⟩ : ∃ m : Nat, n = -(m : Int) := ⟨n.natAbs, by omega⟩
      have h : (m : Int) < 10 ^ 13 := by omega
      rw [numI_neg m (by omega)]
      have hd := TL.numL_digits m
      have hl := TL.numL_len (n := m) (k := 13) (by decide) (by omega)
      have hne := TL.numL_ne m
      refine ⟨formW_iff.mpr ⟨List.length_pos_iff.mpr hne, hl, hd⟩, ?_⟩
      show -((digitsVal (TL.numL m) : Nat) : Int) = _
      rw [TL.numL_val]
  refine ⟨key.1, key.2, (numI_val key.1).mp ?_⟩
  rw [key.2]
theorem intW_num {n lo hi : Int} (h : (n.natAbs : Int) < 10 ^ 13) (h1 : lo ≤ n) (h2 : n ≤ hi) : intW (numI n) lo hi = some n := by
  obtain ⟨a, b, c⟩ := numI_form h
  unfold intW
  rw [a, b, c, decide_eq_true h1, decide_eq_true h2]; rfl
theorem numI_len {n : Int} (h : (n.natAbs : Int) < 10 ^ 13) : 1 ≤ (numI n).length ∧ (numI n).length ≤ 14 := by
  obtain ⟨a, _, _⟩ := numI_form h
  obtain ⟨a1, a2, _⟩ := formW_iff.mp a
  by_cases h : (numI n).head? = some 45
  · have := congrArg List.length (head45 h)
    rw [List.length_cons] at this
    omega
  · rw [not45 h] at a1 a2
    omega
theorem numI_sign {n : Int} (h : (n.natAbs : Int) < 10 ^ 13) : ∀ c ∈ numI n, c = 45 ∨ (48 ≤ c ∧ c ≤ 57) := fun c hc => by
  obtain ⟨a, _, _⟩ := numI_form h
  obtain ⟨_, _, a3⟩ := formW_iff.mp a
  by_cases h : (numI n).head? = some 45
  · rw [head45 h] at hc
    rcases List.mem_cons.mp hc with rfl | hc
    · exact .inl rfl
    · exact .inr (a3 c hc)
  · rw [not45 h] at a3
    exact .inr (a3 c hc)
open NumText in
theorem valW_lt {w : List Nat} (h : formW w = true) : ((valW w).natAbs : Int) < 10 ^ 13 := by
  obtain ⟨_, a2, a3⟩ := formW_iff.mp h
  have h1 := dv_hi (dgs w) 0 a3
  have h2 : (10 : Nat) ^ (dgs w).length ≤ 10 ^ 13 := Nat.pow_le_pow_right (by decide) a2
  have h3 : digitsVal (dgs w) < 10 ^ 13 := Nat.lt_of_lt_of_le h1 (by omega)
  unfold valW
  split <;> omega
theorem log_ok {n : Nat} (h : (n : Int) < 10 ^ 20) : n.log2 < 1920 := by
  by_cases h0 : n = 0
  · subst h0; decide
  · rw [Nat.log2_lt h0]
    exact Nat.lt_of_lt_of_le (show n < 10 ^ 20 by omega) (by decide)
/-! ### signs and slices -/
theorem strIn_one (c : Nat) (s : Str) : strIn (ms [c]) s = decide (c ∈ cs s) := StrLaws.found_one s c
theorem digits_cs : cs (Str.ofString "0123456789") = [48, 49, 50, 51, 52, 53, 54, 55, 56, 57] := by decide +kernel
theorem strIn_digit (c : Nat) : strIn (ms [c]) (Str.ofString "0123456789") = isDg c := by
  rw [strIn_one, digits_cs]
  unfold isDg
  rw [Bool.eq_iff_iff]
  simp
  omega
theorem starts_one (c : Nat) (s : Str) : Txt.startswith s (ms [c]) = decide ((cs s).head? = some c) := by
  unfold Txt.startswith
  rw [StrLaws.subAt_eq]
  show (decide (0 + 1 ≤ s.length) && ((cs s).drop 0).take 1 == [c]) = _
  rw [← cs_len s]
  cases hh : cs s with
  | nil => rfl
  | cons x r =>
    rw [List.length_cons, decide_eq_true (by omega), Bool.true_and, List.drop_zero]
    show ([x] == [c]) = decide (some x = some c)
    by_cases e : x = c
    · subst e; simp
    · rw [decide_eq_false (fun z => e (Option.some.inj z))]
      simp [e]
theorem cut_lo (s : Str) (k : Nat) : cs (cutS s (some (k : Int)) none) = (cs s).drop k := by
  show (List.take (HT.sIx s.length s.length none - HT.sIx s.length 0 (some (k : Int))) (List.drop (HT.sIx s.length 0 (some (k : Int))) (cs s))) = _
  have h := cs_len s
  rw [HT.sIx_nat, HT.sIx_none]
  by_cases hk : k ≤ s.length
  · rw [Nat.min_eq_left hk, List.take_of_length_le (by rw [List.length_drop]; omega)]
  · rw [Nat.min_eq_right (by omega), List.drop_eq_nil_of_le (by omega), List.drop_eq_nil_of_le (by omega), List.take_nil]
theorem cut_drop1 (s : Str) : cs (cutS s (some 1) none) = (cs s).tail := by
  rw [show (some (1 : Int)) = some ((1 : Nat) : Int) from rfl, cut_lo, List.drop_one]
variable [Tb] [Og]
def optI : Option Int → D
  | some i => .int i
  | none => .non
def optP : Option (List Int) → D
  | some l => pt l
  | none => .non
@[simp] theorem lenD_str {d : Str} {M : Mp} {Q : QE} : lenD (.str d) M Q = (d.length ≤ sizeLine ∧ Q (.int d.length) M) := rfl
@[simp] theorem slD_str {fz : Bool} {s : Str} {lo hi : Option Int} {M : Mp} {Q : QE} : slD fz (.str s) lo hi M Q = (s.length ≤ sizeLine ∧ Q (.str (cutS s lo hi)) M) := rfl
@[simp] theorem inD_str {neg : Bool} {i j : Str} {M : Mp} {Q : QE} : inD neg (.str i) (.str j) M Q = Q (.bl (neg ^^ strIn i j)) M := rfl
@[simp] theorem chn_le {a b c : Int} {M : Mp} {Q : QE} : cmpD .LtE (.int a) (.int b) M (chnD (fun M' Q' => Q' (.int c) M') (cmpD .LtE) (.int b) Q) = Q (.bl (decide (a ≤ b) && decide (b ≤ c))) M := by
  by_cases h : a ≤ b <;> simp [cmpD, ordD, chnD, h]
@[simp] theorem itD_str {s : Str} {M : Mp} {Q : List D → (Mp → Prop) → Mp → Prop} : itD .seq [.str s] M Q = Q ((cs s).map fun c => D.str (ms [c])) (fun _ => True) M := rfl
@[simp] theorem optI_some {i : Int} : optI (some i) = .int i := rfl
@[simp] theorem optI_none : optI none = .non := rfl
@[simp] theorem optP_some {i : List Int} : optP (some i) = pt i := rfl
@[simp] theorem optP_none : optP none = .non := rfl
/-- the first word of a text -/
def fstW (c : Nat) (l : List Nat) : List Nat := (spl c l).headD []
def allS : List (Option Int) → Option (List Int)
  | [] => some []
  | some i :: r => (allS r).map (i :: ·)
  | none :: _ => none
theorem allS_cons {i : Int} {r : List (Option Int)} : allS (some i :: r) = (allS r).map (i :: ·) := rfl
theorem allS_none : ∀ {l : List (Option Int)}, l.any (·.isNone) = (allS l).isNone
  | [] => rfl
  | none :: _ => rfl
  | some i :: r => by
    have := allS_none (l := r)
    rw [List.any_cons, this, allS_cons]
    cases allS r <;> rfl
theorem allS_some : ∀ {l : List (Option Int)} {r : List Int}, allS l = some r → l.map optI = ils r
  | [], _, h => by cases h; rfl
  | none :: _, _, h => by cases h
  | some i :: l, r, h => by
    rw [allS_cons] at h
    cases hh : allS l with
    | none => rw [hh] at h; cases h
    | some r' =>
      rw [hh] at h
      cases h
      rw [List.map_cons, allS_some hh]; rfl
theorem allS_len : ∀ {l : List (Option Int)} {r : List Int}, allS l = some r → r.length = l.length
  | [], _, h => by cases h; rfl
  | none :: _, _, h => by cases h
  | some i :: l, r, h => by
    rw [allS_cons] at h
    cases hh : allS l with
    | none => rw [hh] at h; cases h
    | some r' =>
      rw [hh] at h
      cases h
      rw [List.length_cons, List.length_cons, allS_len hh]
def intsW (c : Nat) (w : List Nat) (lo hi : Int) : Option (List Int) := allS ((spl c w).map fun p => intW p lo hi)
theorem intsW_len {c : Nat} {w : List Nat} {lo hi : Int} {l : List Int} (h : intsW c w lo hi = some l) : l.length = (spl c w).length := by
  have := allS_len h
  rw [this, List.length_map]
theorem sum_mem : ∀ {l : List Nat} {x : Nat}, x ∈ l → x ≤ l.sum
  | y :: l, x, h => by
    rw [List.sum_cons]
    rcases List.mem_cons.mp h with rfl | h
    · omega
    · have := sum_mem h
      omega
theorem spl_mem_len {c : Nat} {w : List Nat} : ∀ p ∈ spl c w, p.length ≤ w.length := fun p hp => by
  have h1 := spl_len (c := c) w
  have h2 : p.length ≤ ((spl c w).map (·.length)).sum := sum_mem (List.mem_map_of_mem hp)
  have h3 := List.length_pos_iff.mpr (spl_ne (c := c) w)
  omega
theorem spl_cnt {c : Nat} {w : List Nat} : (spl c w).length ≤ w.length + 1 := by
  have h1 := spl_len (c := c) w
  omega
theorem lit_minus : Str.ofString "-" = ms [45] := by decide +kernel
theorem lit_blank : Str.ofString " " = ms [32] := by decide +kernel
theorem lit_cross : Str.ofString "x" = ms [120] := by decide +kernel
theorem lit_comma : Str.ofString "," = ms [44] := by decide +kernel
theorem pick_none {L : List (Option Int)} {Q : QE} {M : Mp} (q : Q (optP (allS L)) M) : if ∀ x, x ∈ L → eqS (optI x) D.non = false then Q (D.tup (List.map optI L)) M else Q D.non M := by
  have hn := allS_none (l := L)
  cases ha : allS L with
  | none =>
    rw [ha] at hn q
    rw [if_neg]
    · exact q
    · intro z
      rw [show (none : Option (List Int)).isNone = true from rfl, List.any_eq_true] at hn
      obtain ⟨x, hx, hx2⟩ := hn
      have := z x hx
      cases x with
      | none => cases this
      | some _ => cases hx2
  | some r =>
    rw [ha] at hn q
    rw [if_pos, allS_some ha]
    · exact q
    · intro x hx
      cases x with
      | none =>
        have : L.any (·.isNone) = true := List.any_eq_true.mpr ⟨none, hx, rfl⟩
        rw [this] at hn
        cases hn
      | some _ => rfl
theorem optI_sc {x : Option Int} : scalar (optI x) = true := by cases x <;> rfl
/-! ### rows of words -/
def wt (ys : List (List Nat)) : Nat := (ys.map (·.length)).sum + ys.length
theorem join_len {c : Nat} (ys : List (List Nat)) : (Txt.join (ms [c]) (ys.map ms)).length ≤ wt ys := by
  rw [← cs_len, join_cs, List.map_map]
  have e : ys.map (cs ∘ ms) = ys := by
    have : ∀ y ∈ ys, (cs ∘ ms) y = id y := fun y _ => cs_ms y
    rw [List.map_congr_left this, List.map_id]
  rw [e]
  cases ys with
  | nil => exact Nat.zero_le _
  | cons p r =>
    have := jn_len (c := c) (p :: r) (by simp)
    unfold wt
    omega
theorem strs_ms (M : Mp) (ys : List (List Nat)) : (seqIn M (.lst (ys.map (D.str ∘ ms)))).bind strsOf = some (ys.map ms) := by
  show strsOf (ys.map (D.str ∘ ms)) = _
  rw [← List.map_map]
  exact strsOf_map _
/-- a join by one sign -/
theorem join_ok {c : Nat} {ys : List (List Nat)} {M : Mp} {Q : QE} (h : wt ys ≤ 1000000) (q : Q (.str (Txt.join (ms [c]) (ys.map ms))) M) : methD .join (.str (ms [c])) [.lst (ys.map (D.str ∘ ms))] M Q := by
  unfold methD
  dsimp only
  rw [strs_ms]
  refine ⟨?_, q⟩
  have e : (ys.map ms).map (·.length) = ys.map (·.length) := by
    rw [List.map_map]
    refine List.map_congr_left fun y _ => ?_
    show (ms y).length = y.length
    rw [← cs_len, cs_ms]
  rw [e, List.length_map]
  have h1 : (ms [c]).length = 1 := rfl
  rw [h1]
  unfold wt at h
  omega
theorem range_at {n a : Nat} {pre post : List Nat} (e : pre ++ a :: post = List.range n) : a = pre.length ∧ a < n := by
  have h1 : (pre ++ a :: post)[pre.length]? = some a := by simp
  rw [e] at h1
  obtain ⟨h2, h3⟩ := List.getElem?_eq_some_iff.mp h1
  rw [List.getElem_range] at h3
  rw [List.length_range] at h2
  omega
/-! ### a list of texts -/
def strOf : D → Str
  | .str s => s
  | _ => Str.empty
structure Txs (M : Mp) (p : Addr) (n : Nat) : Prop where
  at_ : ∃ ts : List Str, M p = some (.lst (ts.map D.str)) ∧ (∀ t ∈ ts, t.length ≤ 100000) ∧ ts.length ≤ n
theorem Txs.mono {M : Mp} {p : Addr} {n m : Nat} (h : Txs M p n) (hm : n ≤ m) : Txs M p m := by
  obtain ⟨ts, h1, h2, h3⟩ := h.at_
  exact ⟨ts, h1, h2, by omega⟩
theorem Txs.of {M : Mp} {p : Addr} {n : Nat} {l : List D} (h : M p = some (.lst l)) (h1 : ∀ d ∈ l, ∃ s : Str, d = .str s ∧ s.length ≤ 100000) (h2 : l.length ≤ n) : Txs M p n := by
  refine ⟨l.map strOf, ?_, fun t ht => ?_, by rw [List.length_map]; exact h2⟩
  · rw [h, List.map_map]
    have : ∀ d ∈ l, (D.str ∘ strOf) d = id d := fun d hd => by
      obtain ⟨s, rfl, _⟩ := h1 d hd
      rfl
    rw [List.map_congr_left this, List.map_id]
  · obtain ⟨d, hd, rfl⟩ := List.mem_map.mp ht
    obtain ⟨s, rfl, h3⟩ := h1 d hd
    exact h3
theorem Txs.push {M : Mp} {p : Addr} {n : Nat} {t : Str} {l : List D} (h : Txs M p n) (hl : M p = some (.lst l)) (ht : t.length ≤ 100000) : Txs (M.upd p (.lst (l ++ [.str t]))) p (n + 1) := by
  obtain ⟨ts, h1, h2, h3⟩ := h.at_
  rw [hl] at h1
  cases h1
  refine ⟨ts ++ [t], by rw [Mp.upd_same]; simp, fun y hy => ?_, by rw [List.length_append, List.length_singleton]; omega⟩
  rcases List.mem_append.mp hy with hy | hy
  · exact h2 y hy
  · rw [List.mem_singleton] at hy
    subst hy
    exact ht
theorem Txs.len {M : Mp} {p : Addr} {n : Nat} (h : Txs M p n) : ∃ l, M p = some (.lst l) ∧ l.length ≤ n := by
  obtain ⟨ts, h1, h2, h3⟩ := h.at_
  exact ⟨_, h1, by rw [List.length_map]; exact h3⟩
end Ow
namespace Ow
open PySem PySem.Spec PyProof.Rows L2
variable [Tb] [Og]
def gi_BLANK : GI := ⟨"BLANK", .str " "⟩
@[simp] theorem gi_BLANK_d : gi_BLANK.d = .str " " := rfl
def gi_COMMA : GI := ⟨"COMMA", .str ","⟩
@[simp] theorem gi_COMMA_d : gi_COMMA.d = .str "," := rfl
def gi_CROSS : GI := ⟨"CROSS", .str "x"⟩
@[simp] theorem gi_CROSS_d : gi_CROSS.d = .str "x" := rfl
def gi_MOST_DIGITS : GI := ⟨"MOST_DIGITS", .int 13⟩
@[simp] theorem gi_MOST_DIGITS_d : gi_MOST_DIGITS.d = .int 13 := rfl
def gi_DIGITS : GI := ⟨"DIGITS", .str "0123456789"⟩
@[simp] theorem gi_DIGITS_d : gi_DIGITS.d = .str "0123456789" := rfl
def gi_MINUS : GI := ⟨"MINUS", .str "-"⟩
@[simp] theorem gi_MINUS_d : gi_MINUS.d = .str "-" := rfl
def xi_BadText : XI := ⟨"BadText", some "word"⟩
@[simp] theorem xi_BadText_name : xi_BadText.name = "BadText" := rfl
@[simp] theorem xi_BadText_fld : xi_BadText.fld = some "word" := rfl
@[simp] theorem xi_BadText_n : xi_BadText.n = 1 := rfl
def mc_integer_in : MC := ⟨["word", "least", "greatest", "digits", "number", "sign"], [], ["MINUS", "DIGITS", "MOST_DIGITS"], [], [], mx0⟩
def b_integer_in : List CS := [.set 3 (.ife (.meth .startswith (.var 0) [.glb 0]) (.slL true (.var 0) (.int 1)) (.var 0)),
    .ifs (.or (.not (.chn .LtE .LtE (.int 1) (.blt .len true [.var 3]) (.glb 2))) (.one (.not (.blt .all true [.comp true (.cmp .In (.var 5) (.glb 1)) (.nm 5) .seq [.var 3] [5]])))) [.ret (.non)] [],
    .set 4 (.blt .int true [.var 0]),
    .ret (.ife (.and (.cmp .Eq (.blt .str true [.var 4]) (.var 0)) (.one (.chn .LtE .LtE (.var 1) (.var 4) (.var 2)))) (.var 4) (.non))]
def mc_integers_in : MC := ⟨["word", "mark", "least", "greatest", "found", "part"], ["integer_in"], [], [], [], mx0⟩
def b_integers_in : List CS := [.setLc 4 (.comp true (.call 0 [.var 5, .var 2, .var 3]) (.nm 5) .seq [.meth .split (.var 0) [.var 1]] [5]),
    .ret (.ife (.cmp .NotIn (.non) (.var 4)) (.blt .tuple true [.var 4]) (.non))]
def mc_box_in : MC := ⟨["word", "found"], ["integers_in"], ["CROSS", "MOST_SIZE", "MOST_AXES"], [], [], mx0⟩
def b_box_in : List CS := [.set 1 (.call 0 [.var 0, .glb 0, .int 1, .glb 1]),
    .ret (.ife (.and (.cmp .IsNot (.var 1) (.non)) (.one (.cmp .LtE (.blt .len true [.var 1]) (.glb 2)))) (.var 1) (.non))]
def mc_point_in : MC := ⟨["box", "word", "farthest", "found"], ["integers_in"], ["COMMA"], [], [], mx0⟩
def b_point_in : List CS := [.set 3 (.call 0 [.var 1, .glb 0, .neg (.var 2), .var 2]),
    .ret (.ife (.and (.cmp .IsNot (.var 3) (.non)) (.one (.cmp .Eq (.blt .len true [.var 3]) (.blt .len true [.var 0])))) (.var 3) (.non))]
def mc_position_in : MC := ⟨["box", "word"], ["point_in"], ["FARTHEST_POSITION"], [], [], mx0⟩
def b_position_in : List CS := [.ret (.call 0 [.var 0, .var 1, .glb 0])]
def mc_words_of : MC := ⟨["text"], [], ["BLANK"], [], [], ⟨[xi_BadText], [], [], [], [], false, false, []⟩⟩
def b_words_of : List CS := [.ifs (.not (.isi .str (.var 0))) [.rse 0 [.int 0]] [],
    .ret (.meth .split (.var 0) [.glb 0])]
def mc_only_word : MC := ⟨["text", "found"], [], ["BLANK"], [], [], ⟨[xi_BadText], [], [], [], [], false, false, []⟩⟩
def b_only_word : List CS := [.ifs (.cmp .Is (.var 1) (.non)) [.rse 0 [.int 0]] [],
    .ifs (.cmp .In (.glb 0) (.var 0)) [.rse 0 [.int 1]] [],
    .ret (.var 1)]
def mc_read_box : MC := ⟨["text"], ["only_word", "box_in", "words_of"], [], [], [], mx0⟩
def b_read_box : List CS := [.ret (.call 0 [.var 0, .call 1 [.ix (.call 2 [.var 0]) (.int 0)]])]
def mc_read_position : MC := ⟨["box", "text"], ["only_word", "position_in", "words_of"], [], [], [], mx0⟩
def b_read_position : List CS := [.ret (.call 0 [.var 1, .call 1 [.var 0, .ix (.call 2 [.var 1]) (.int 0)]])]
def spIntIn : DSp := fun ds M Q _ => ∃ (w : Str) (lo hi : Int), ds = [.str w, .int lo, .int hi] ∧ w.length ≤ 1000000 ∧ Q (optI (intW (cs w) lo hi)) M
def fi_integer_in : FI := ⟨"integer_in", 3, spIntIn⟩
@[simp] theorem fi_integer_in_sp : fi_integer_in.sp = spIntIn := rfl
def cx_integer_in : Ctx := ⟨[], [gi_MINUS, gi_DIGITS, gi_MOST_DIGITS], [], [], kx0⟩
@[simp] theorem cx_integer_in_g0 : cx_integer_in.gs[0]? = some gi_MINUS := rfl
@[simp] theorem cx_integer_in_g1 : cx_integer_in.gs[1]? = some gi_DIGITS := rfl
@[simp] theorem cx_integer_in_g2 : cx_integer_in.gs[2]? = some gi_MOST_DIGITS := rfl
theorem wp_integer_in {E : EX} {ds : List D} {M : Mp} {Q : QE} {E' : XD → Mp → Prop} (h : spIntIn ds M Q E') : wpB cx_integer_in E b_integer_in (endsD Q) (startD mc_integer_in.N ds) M := by
  obtain ⟨w, lo, hi, rfl, hl, q⟩ := h
  rw [show startD mc_integer_in.N [.str w, .int lo, .int hi] = [some (.str w), some (.int lo), some (.int hi), none, none, none] from rfl, b_integer_in, wpB_cons]
  simp
  rw [lit_minus, starts_one]
  have key : ∀ d : Str, cs d = dgs (cs w) → wpB cx_integer_in E [CS.ifs ((CE.chn CmpOp.LtE CmpOp.LtE (CE.int 1) (CE.blt Blt.len true [CE.var 3]) (CE.glb 2)).not.or (CE.blt Blt.all true [CE.comp true (CE.cmp CmpOp.In (CE.var 5) (CE.glb 1)) (CT.nm 5) IK.seq [CE.var 3] [5]]).not.one) [CS.ret CE.non] [],
            CS.set 4 (CE.blt Blt.int true [CE.var 0]),
            CS.ret (((CE.cmp CmpOp.Eq (CE.blt Blt.str true [CE.var 4]) (CE.var 0)).and (CE.chn CmpOp.LtE CmpOp.LtE (CE.var 1) (CE.var 4) (CE.var 2)).one).ife (CE.var 4) CE.non)]
          (endsD Q) [some (D.str w), some (D.int lo), some (D.int hi), some (.str d), none, none] M := fun d hd => by
    have hdl : d.length ≤ 1000000 := by
      rw [← cs_len, hd]
      have := cs_len w
      unfold dgs
      split
      · rw [List.length_tail]; omega
      · omega
    have hdc := cs_len d
    rw [hd] at hdc
    rw [wpB_cons]
    simp
    refine ⟨sz (n := d.length) (by omega), ?_⟩
    have hN : ¬ formW (cs w) = true → intW (cs w) lo hi = none := fun hf => by
      unfold intW
      rw [if_neg]
      rw [Bool.and_eq_true]
      exact fun z => hf z.1
    by_cases h1 : 1 ≤ d.length
    · rw [decide_eq_true (show (1 : Int) ≤ (d.length : Int) by omega)]
      dsimp only
      by_cases h2 : d.length ≤ 13
      · rw [if_pos (by omega)]
        intro p hp
        refine cmpL_mapf (fun c => D.str (ms [c])) (fun c => D.bl (isDg c)) hp (by rw [cs_len]; omega) (fun _ => True.intro) (fun c hc acc add skip ha => ?_) ?_
        · simp [turnC, wipeD]
          rw [strIn_digit]
          exact ha
        have e : (cs d).map (fun c => D.bl (isDg c)) = ((cs d).map isDg).map D.bl := by rw [List.map_map]; rfl
        rw [e]
        simp
        by_cases h3 : formW (cs w) = true
        · have h3' := formW_iff.mp h3
          rw [if_neg (by rintro ⟨c, c1, c2⟩; rw [hd] at c1; have := h3'.2.2 c c1; simp [isDg] at c2; omega)]
          rw [wpB_nil]
          dsimp only
          rw [wpB_cons]
          simp
          refine ⟨by have := formW_len h3; have := cs_len w; omega, _, intText_w h3, ?_⟩
          rw [wpB_cons]
          simp
          have hv := valW_lt h3
          refine ⟨log_ok (by omega), ?_⟩
          have hc : (Str.ofString (valW (cs w)).repr = w) ↔ canon (cs w) = true := by
            rw [← numI_val h3]
            exact ⟨fun z => congrArg cs z, fun z => cs_ext z⟩
          unfold intW at q
          rw [h3, Bool.true_and] at q
          by_cases h4 : canon (cs w) = true
          · rw [if_pos (hc.mpr h4)]
            rw [h4, Bool.true_and] at q
            by_cases h5 : lo ≤ valW (cs w)
            · rw [decide_eq_true h5] at q ⊢
              dsimp only
              by_cases h6 : valW (cs w) ≤ hi
              · rw [if_pos h6]
                rw [decide_eq_true h6] at q
                exact Fin.same q
              · rw [if_neg h6]
                rw [decide_eq_false h6] at q
                exact Fin.same q
            · rw [decide_eq_false h5] at q ⊢
              exact Fin.same q
          · rw [if_neg (fun z => h4 (hc.mp z))]
            rw [show canon (cs w) = false by cases hx : canon (cs w) with | true => exact absurd hx h4 | false => rfl] at q
            exact Fin.same q
        · rw [if_pos ?_]
          · rw [wpB_cons]
            simp
            rw [hN h3] at q
            exact Fin.same q
          · refine Classical.byContradiction fun z => h3 (formW_iff.mpr ⟨by omega, by omega, fun c hc => ?_⟩)
            refine Classical.byContradiction fun y => z ⟨c, by rw [hd]; exact hc, ?_⟩
            simp [isDg]
            omega
      · rw [if_neg (by omega)]
        rw [wpB_cons]
        simp
        rw [hN (fun z => h2 (by have := formW_iff.mp z; omega))] at q
        exact Fin.same q
    · rw [decide_eq_false (show ¬ (1 : Int) ≤ (d.length : Int) by omega)]
      dsimp only
      rw [wpB_cons]
      simp
      rw [hN (fun z => h1 (by have := formW_iff.mp z; omega))] at q
      exact Fin.same q
  by_cases hm : (cs w).head? = some 45
  · rw [if_pos (by rw [decide_eq_true hm])]
    refine ⟨rfl, by have := sz (n := w.length) (by omega); omega, key _ ?_⟩
    rw [cut_drop1]
    unfold dgs
    rw [if_pos hm]
  · rw [if_neg (by rw [decide_eq_false hm]; decide)]
    exact ⟨rfl, key _ (not45 hm).symm⟩
def spIntsIn : DSp := fun ds M Q _ => ∃ (w : Str) (c : Nat) (lo hi : Int), ds = [.str w, .str (ms [c]), .int lo, .int hi] ∧ w.length ≤ 1000000 ∧ Q (optP (intsW c (cs w) lo hi)) M
def fi_integers_in : FI := ⟨"integers_in", 4, spIntsIn⟩
@[simp] theorem fi_integers_in_sp : fi_integers_in.sp = spIntsIn := rfl
def cx_integers_in : Ctx := ⟨[fi_integer_in], [], [], [], kx0⟩
@[simp] theorem cx_integers_in_0 : cx_integers_in.fs[0]? = some fi_integer_in := rfl
theorem wp_integers_in {E : EX} {ds : List D} {M : Mp} {Q : QE} {E' : XD → Mp → Prop} (h : spIntsIn ds M Q E') : wpB cx_integers_in E b_integers_in (endsD Q) (startD mc_integers_in.N ds) M := by
  obtain ⟨w, c, lo, hi, rfl, hl, q⟩ := h
  rw [show startD mc_integers_in.N [.str w, .str (ms [c]), .int lo, .int hi] = [some (.str w), some (.str (ms [c])), some (.int lo), some (.int hi), none, none] from rfl, b_integers_in, wpB_cons]
  simp
  have hcl := cs_len w
  rw [split_ms, List.map_map]
  refine ⟨rfl, by simp [Str.length], sz (n := w.length + 2) (by omega), ?_⟩
  simp [itD]
  intro p hp
  refine cmpL_mapf (D.str ∘ ms) (fun x => optI (intW x lo hi)) hp (by have := spl_cnt (c := c) (w := cs w); omega) (fun _ => True.intro) (fun x hx acc add skip ha => ?_) ?_
  · have := spl_mem_len (c := c) x hx
    simp [turnC, wipeD]
    exact ⟨ms x, lo, hi, rfl, by rw [← cs_len, cs_ms x]; omega, by rw [cs_ms x]; exact ha⟩
  have e : (spl c (cs w)).map (fun x => optI (intW x lo hi)) = ((spl c (cs w)).map fun x => intW x lo hi).map optI := by rw [List.map_map]; rfl
  rw [e]
  unfold intsW at q
  obtain ⟨L, hL⟩ : ∃ L, L = (spl c (cs w)).map fun x => intW x lo hi := ⟨_, rfl⟩
  rw [← hL] at q ⊢
  rw [wpB_cons]
  simp
  exact ⟨rfl, fun x _ => optI_sc, pick_none (Q := Fin Q) (Fin.same q)⟩
def boxW (w : List Nat) : Option (List Int) := (intsW 120 w 1 (10 ^ 9)).bind fun l => if l.length ≤ 3 then some l else none
def spBoxIn : DSp := fun ds M Q _ => ∃ w : Str, ds = [.str w] ∧ w.length ≤ 1000000 ∧ Q (optP (boxW (cs w))) M
def fi_box_in : FI := ⟨"box_in", 1, spBoxIn⟩
@[simp] theorem fi_box_in_sp : fi_box_in.sp = spBoxIn := rfl
def cx_box_in : Ctx := ⟨[fi_integers_in], [gi_CROSS, gi_MOST_SIZE, gi_MOST_AXES], [], [], kx0⟩
@[simp] theorem cx_box_in_g0 : cx_box_in.gs[0]? = some gi_CROSS := rfl
@[simp] theorem cx_box_in_g1 : cx_box_in.gs[1]? = some gi_MOST_SIZE := rfl
@[simp] theorem cx_box_in_g2 : cx_box_in.gs[2]? = some gi_MOST_AXES := rfl
@[simp] theorem cx_box_in_0 : cx_box_in.fs[0]? = some fi_integers_in := rfl
theorem wp_box_in {E : EX} {ds : List D} {M : Mp} {Q : QE} {E' : XD → Mp → Prop} (h : spBoxIn ds M Q E') : wpB cx_box_in E b_box_in (endsD Q) (startD mc_box_in.N ds) M := by
  obtain ⟨w, rfl, hl, q⟩ := h
  rw [show startD mc_box_in.N [.str w] = [some (.str w), none] from rfl, b_box_in, wpB_cons]
  simp
  refine ⟨w, 120, 1, 1000000000, by rw [lit_cross], hl, ?_⟩
  unfold boxW at q
  rw [show (10 : Int) ^ 9 = 1000000000 from rfl] at q
  try dsimp only
  cases hr : intsW 120 (cs w) 1 1000000000 with
  | none =>
    rw [hr] at q
    rw [wpB_cons]
    simp
    exact Fin.same q
  | some l =>
    rw [hr] at q
    have hll := intsW_len hr
    have hc := spl_cnt (c := 120) (w := cs w)
    have hw := cs_len w
    rw [wpB_cons]
    simp
    by_cases h3 : l.length ≤ 3
    · rw [Option.bind_some, if_pos h3] at q
      rw [if_pos (by omega)]
      exact Fin.same q
    · rw [Option.bind_some, if_neg h3] at q
      rw [if_neg (by omega)]
      exact Fin.same q
def pointW (n : Nat) (w : List Nat) (far : Int) : Option (List Int) := (intsW 44 w (-far) far).bind fun l => if l.length = n then some l else none
def spPointIn : DSp := fun ds M Q _ => ∃ (bs : List Int) (w : Str) (far : Int), ds = [pt bs, .str w, .int far] ∧ w.length ≤ 1000000 ∧ Q (optP (pointW bs.length (cs w) far)) M
def fi_point_in : FI := ⟨"point_in", 3, spPointIn⟩
@[simp] theorem fi_point_in_sp : fi_point_in.sp = spPointIn := rfl
def cx_point_in : Ctx := ⟨[fi_integers_in], [gi_COMMA], [], [], kx0⟩
@[simp] theorem cx_point_in_g0 : cx_point_in.gs[0]? = some gi_COMMA := rfl
@[simp] theorem cx_point_in_0 : cx_point_in.fs[0]? = some fi_integers_in := rfl
theorem wp_point_in {E : EX} {ds : List D} {M : Mp} {Q : QE} {E' : XD → Mp → Prop} (h : spPointIn ds M Q E') : wpB cx_point_in E b_point_in (endsD Q) (startD mc_point_in.N ds) M := by
  obtain ⟨bs, w, far, rfl, hl, q⟩ := h
  rw [show startD mc_point_in.N [pt bs, .str w, .int far] = [some (pt bs), some (.str w), some (.int far), none] from rfl, b_point_in, wpB_cons]
  simp
  refine ⟨w, 44, -far, far, by rw [lit_comma], hl, ?_⟩
  unfold pointW at q
  try dsimp only
  cases hr : intsW 44 (cs w) (-far) far with
  | none =>
    rw [hr] at q
    rw [wpB_cons]
    simp
    exact Fin.same q
  | some l =>
    rw [hr] at q
    have hll := intsW_len hr
    have hc := spl_cnt (c := 44) (w := cs w)
    have hw := cs_len w
    rw [wpB_cons]
    simp
    by_cases h3 : l.length = bs.length
    · rw [Option.bind_some, if_pos h3] at q
      rw [if_pos (by omega)]
      exact Fin.same q
    · rw [Option.bind_some, if_neg h3] at q
      rw [if_neg (by omega)]
      exact Fin.same q
def spPosIn : DSp := fun ds M Q _ => ∃ (bs : List Int) (w : Str), ds = [pt bs, .str w] ∧ w.length ≤ 1000000 ∧ Q (optP (pointW bs.length (cs w) (10 ^ 12))) M
def fi_position_in : FI := ⟨"position_in", 2, spPosIn⟩
@[simp] theorem fi_position_in_sp : fi_position_in.sp = spPosIn := rfl
def cx_position_in : Ctx := ⟨[fi_point_in], [gi_FARTHEST_POSITION], [], [], kx0⟩
@[simp] theorem cx_position_in_g0 : cx_position_in.gs[0]? = some gi_FARTHEST_POSITION := rfl
@[simp] theorem cx_position_in_0 : cx_position_in.fs[0]? = some fi_point_in := rfl
theorem wp_position_in {E : EX} {ds : List D} {M : Mp} {Q : QE} {E' : XD → Mp → Prop} (h : spPosIn ds M Q E') : wpB cx_position_in E b_position_in (endsD Q) (startD mc_position_in.N ds) M := by
  obtain ⟨bs, w, rfl, hl, q⟩ := h
  rw [show startD mc_position_in.N [pt bs, .str w] = [some (pt bs), some (.str w)] from rfl, b_position_in, wpB_cons]
  simp
  exact ⟨bs, w, 1000000000000, rfl, hl, Fin.same q⟩
/-! ### whole texts -/
def spWords : DSp := fun ds M Q E => ∃ w : Str, ds = [.str w] ∧ w.length ≤ 1000000 ∧ Q (.lst ((spl 32 (cs w)).map (D.str ∘ ms))) M
def fi_words_of : FI := ⟨"words_of", 1, spWords⟩
@[simp] theorem fi_words_of_sp : fi_words_of.sp = spWords := rfl
def kx_words_of : KX := ⟨[xi_BadText], [], [], [], [], []⟩
def cx_words_of : Ctx := ⟨[], [gi_BLANK], [], [], kx_words_of⟩
@[simp] theorem cx_words_of_r0 : cx_words_of.ex.rs[0]? = some xi_BadText := rfl
@[simp] theorem cx_words_of_xs : cx_words_of.ex.xs = [] := rfl
@[simp] theorem cx_words_of_cl : cx_words_of.ex.cl = [] := rfl
@[simp] theorem cx_words_of_g0 : cx_words_of.gs[0]? = some gi_BLANK := rfl
theorem wp_words_of {ds : List D} {M : Mp} {Q : QE} {E' : XD → Mp → Prop} (h : spWords ds M Q E') : wpB cx_words_of (fun x _ M => E' x M) b_words_of (endsD Q) (startD mc_words_of.N ds) M := by
  obtain ⟨w, rfl, hl, q⟩ := h
  rw [show startD mc_words_of.N [.str w] = [some (.str w)] from rfl, b_words_of, wpB_cons]
  simp
  rw [wpB_nil]
  try dsimp only
  rw [wpB_cons]
  simp
  rw [lit_blank, split_ms, List.map_map]
  exact ⟨rfl, by simp [Str.length], sz (n := w.length + 2) (by omega), Fin.same q⟩
/-- what a text of one word writes -/
def spOnly : DSp := fun ds M Q E => ∃ (w : Str) (o : Option (List Int)), ds = [.str w, optP o] ∧ w.length ≤ 1000000 ∧ (match o with
  | none => E ⟨"BadText", [("word", .int 0)]⟩ M
  | some l => if 32 ∈ cs w then E ⟨"BadText", [("word", .int 1)]⟩ M else Q (pt l) M)
def fi_only_word : FI := ⟨"only_word", 2, spOnly⟩
@[simp] theorem fi_only_word_sp : fi_only_word.sp = spOnly := rfl
def kx_only_word : KX := ⟨[xi_BadText], [], [], [], [], []⟩
def cx_only_word : Ctx := ⟨[], [gi_BLANK], [], [], kx_only_word⟩
@[simp] theorem cx_only_word_r0 : cx_only_word.ex.rs[0]? = some xi_BadText := rfl
@[simp] theorem cx_only_word_xs : cx_only_word.ex.xs = [] := rfl
@[simp] theorem cx_only_word_cl : cx_only_word.ex.cl = [] := rfl
@[simp] theorem cx_only_word_g0 : cx_only_word.gs[0]? = some gi_BLANK := rfl
theorem wp_only_word {ds : List D} {M : Mp} {Q : QE} {E' : XD → Mp → Prop} (h : spOnly ds M Q E') : wpB cx_only_word (fun x _ M => E' x M) b_only_word (endsD Q) (startD mc_only_word.N ds) M := by
  obtain ⟨w, o, rfl, hl, q⟩ := h
  cases o with
  | none =>
    rw [show startD mc_only_word.N [.str w, optP none] = [some (.str w), some .non] from rfl, b_only_word, wpB_cons]
    simp
    rw [wpB_cons]
    simp [XI.fs]
    exact q
  | some l =>
    rw [show startD mc_only_word.N [.str w, optP (some l)] = [some (.str w), some (pt l)] from rfl, b_only_word, wpB_cons]
    simp
    rw [wpB_nil]
    try dsimp only
    rw [wpB_cons]
    simp
    rw [lit_blank, strIn_one]
    by_cases hb : 32 ∈ cs w
    · dsimp only at q
      rw [if_pos hb] at q
      rw [decide_eq_true hb]
      simp
      rw [wpB_cons]
      simp [XI.fs]
      exact q
    · dsimp only at q
      rw [if_neg hb] at q
      rw [decide_eq_false hb]
      simp
      rw [wpB_nil]
      try dsimp only
      rw [wpB_cons]
      simp
      exact Fin.same q
/-- the outcome of reading a text of one word -/
def oneW (w : Str) (o : Option (List Int)) (M : Mp) (Q : QE) (E : XD → Mp → Prop) : Prop := match o with
  | none => E ⟨"BadText", [("word", .int 0)]⟩ M
  | some l => if 32 ∈ cs w then E ⟨"BadText", [("word", .int 1)]⟩ M else Q (pt l) M
def spReadBox : DSp := fun ds M Q E => ∃ w : Str, ds = [.str w] ∧ w.length ≤ 1000000 ∧ oneW w (boxW (fstW 32 (cs w))) M Q E
def fi_read_box : FI := ⟨"read_box", 1, spReadBox⟩
@[simp] theorem fi_read_box_sp : fi_read_box.sp = spReadBox := rfl
def cx_read_box : Ctx := ⟨[fi_only_word, fi_box_in, fi_words_of], [], [], [], kx0⟩
@[simp] theorem cx_read_box_0 : cx_read_box.fs[0]? = some fi_only_word := rfl
@[simp] theorem cx_read_box_1 : cx_read_box.fs[1]? = some fi_box_in := rfl
@[simp] theorem cx_read_box_2 : cx_read_box.fs[2]? = some fi_words_of := rfl
theorem oneW.imp {w : Str} {o : Option (List Int)} {M : Mp} {Q Q' : QE} {E E' : XD → Mp → Prop} (h : oneW w o M Q E) (hq : ∀ d M, Q d M → Q' d M) (he : ∀ x M, E x M → E' x M) : oneW w o M Q' E' := by
  unfold oneW at h ⊢
  split at h
  · exact he _ _ h
  · split
    · rename_i h2; rw [if_pos h2] at h; exact he _ _ h
    · rename_i h2; rw [if_neg h2] at h; exact hq _ _ h
theorem atI_spl {c : Nat} {l : List Nat} : atI ((spl c l).map (D.str ∘ ms)) 0 = some (.str (ms (fstW c l))) := by
  unfold fstW
  cases h : spl c l with
  | nil => exact absurd h (spl_ne l)
  | cons p r => exact atI_z
theorem head_len {c : Nat} {l : List Nat} : (fstW c l).length ≤ l.length := by
  refine spl_mem_len (c := c) _ ?_
  unfold fstW
  cases h : spl c l with
  | nil => exact absurd h (spl_ne l)
  | cons p r => exact List.mem_cons_self
theorem wp_read_box {ds : List D} {M : Mp} {Q : QE} {E' : XD → Mp → Prop} (h : spReadBox ds M Q E') : wpB cx_read_box (fun x _ M => E' x M) b_read_box (endsD Q) (startD mc_read_box.N ds) M := by
  obtain ⟨w, rfl, hl, q⟩ := h
  rw [show startD mc_read_box.N [.str w] = [some (.str w)] from rfl, b_read_box, wpB_cons]
  simp
  refine ⟨w, rfl, hl, ?_⟩
  have hw := cs_len w
  have hh := head_len (c := 32) (l := cs w)
  simp [atI_spl]
  refine ⟨_, rfl, by rw [← cs_len, cs_ms (fstW 32 (cs w))]; omega, ?_⟩
  rw [cs_ms (fstW 32 (cs w))]
  refine ⟨w, _, rfl, hl, ?_⟩
  exact q.imp (fun d M z => Fin.same z) (fun _ _ z => z)
def spReadPos : DSp := fun ds M Q E => ∃ (bs : List Int) (w : Str), ds = [pt bs, .str w] ∧ w.length ≤ 1000000 ∧ oneW w (pointW bs.length (fstW 32 (cs w)) (10 ^ 12)) M Q E
def fi_read_position : FI := ⟨"read_position", 2, spReadPos⟩
@[simp] theorem fi_read_position_sp : fi_read_position.sp = spReadPos := rfl
def cx_read_position : Ctx := ⟨[fi_only_word, fi_position_in, fi_words_of], [], [], [], kx0⟩
@[simp] theorem cx_read_position_0 : cx_read_position.fs[0]? = some fi_only_word := rfl
@[simp] theorem cx_read_position_1 : cx_read_position.fs[1]? = some fi_position_in := rfl
@[simp] theorem cx_read_position_2 : cx_read_position.fs[2]? = some fi_words_of := rfl
theorem wp_read_position {ds : List D} {M : Mp} {Q : QE} {E' : XD → Mp → Prop} (h : spReadPos ds M Q E') : wpB cx_read_position (fun x _ M => E' x M) b_read_position (endsD Q) (startD mc_read_position.N ds) M := by
  obtain ⟨bs, w, rfl, hl, q⟩ := h
  rw [show startD mc_read_position.N [pt bs, .str w] = [some (pt bs), some (.str w)] from rfl, b_read_position, wpB_cons]
  simp
  refine ⟨w, rfl, hl, ?_⟩
  have hw := cs_len w
  have hh := head_len (c := 32) (l := cs w)
  simp [atI_spl]
  refine ⟨bs, _, rfl, by rw [← cs_len, cs_ms (fstW 32 (cs w))]; omega, ?_⟩
  rw [cs_ms (fstW 32 (cs w))]
  refine ⟨w, _, rfl, hl, ?_⟩
  exact q.imp (fun d M z => Fin.same z) (fun _ _ z => z)
/-! ### the law's own reading -/
def spNumber : DSp := fun ds M Q _ => ∃ (w : Str) (lo hi : Int), ds = [.str w, .int lo, .int hi] ∧ hi < 10 ^ 13 ∧ w.length ≤ 1000000 ∧ Q (optI (intW (cs w) lo hi)) M
def fi_q_number : FI := ⟨"_law_number", 3, spNumber⟩
@[simp] theorem fi_q_number_sp : fi_q_number.sp = spNumber := rfl
def spTuple : DSp := fun ds M Q _ => ∃ (w : Str) (c : Nat) (ns : List Int) (lo hi : Int), ds = [.str w, .str (ms [c]), .lst (ils ns), .int lo, .int hi] ∧ hi < 10 ^ 13 ∧ w.length ≤ 1000000 ∧ Q (optP ((intsW c (cs w) lo hi).bind fun l => if (l.length : Int) ∈ ns then some l else none)) M
def fi_q_tuple : FI := ⟨"_law_tuple", 5, spTuple⟩
@[simp] theorem fi_q_tuple_sp : fi_q_tuple.sp = spTuple := rfl
def cx_q_tuple : Ctx := ⟨[fi_q_number], [], [], [], kx0⟩
@[simp] theorem cx_q_tuple_0 : cx_q_tuple.fs[0]? = some fi_q_number := rfl
def cx_q_position_in : Ctx := ⟨[fi_q_tuple], [], [], [], kx0⟩
@[simp] theorem cx_q_position_in_0 : cx_q_position_in.fs[0]? = some fi_q_tuple := rfl
/-! ### one text, read by both -/
def b_caughtV : List CS := [.tryX [.ret (.lst true [.callV 0 []])] [("WindowError", some 1, .ret)]]
/-- a call whose value, in a list, or whose error is handed back -/
def spCaughtV (xs : List XI) (cl : List CI) : DSp := fun ds M Q _ => ∃ (f : Addr) (ci : CI) (caps : List D) (cs : List Addr), ds = [.ref f] ∧ M f = some (.clo ci.id caps cs) ∧ ci ∈ cl ∧
  ci.sp caps [] (M.dropC f cs) (fun d M' => Q (.lst [d]) (M.resC f cs M')) (fun x M' => (∃ xi ∈ xs, xi.name = x.cls) ∧ ∀ a, (M.resC f cs M') a = none → Q (.ref a) ((M.resC f cs M').upd a (.exc x.cls x.fs)))
theorem wp_caughtV {C : Ctx} {E : EX} {xs : List XI} {cl : List CI} {ds : List D} {M : Mp} {Q : QE} {E' : XD → Mp → Prop} (hx : C.ex.xs = xs) (hc : C.ex.cl = cl) (mono : ∀ ci ∈ cl, ∀ caps ds M (Q1 Q2 : QE) (E1 E2 : XD → Mp → Prop), (∀ d M, Q1 d M → Q2 d M) → (∀ x M, E1 x M → E2 x M) → ci.sp caps ds M Q1 E1 → ci.sp caps ds M Q2 E2)
    (h : spCaughtV xs cl ds M Q E') : wpB C E b_caughtV (endsD Q) [ds.head?, none] M := by
  obtain ⟨f, ci, caps, cs, rfl, hf, hci, q⟩ := h
  rw [show ([([D.ref f] : List D).head?, none] : DSt) = [some (.ref f), none] from rfl, b_caughtV, wpB_cons]
  simp [hx, hc]
  rw [wpB_cons]
  simp [hf, hc]
  refine ⟨ci, hci, rfl, mono ci hci _ _ _ _ _ _ _ (fun d M' z => ?_) (fun x M' z => ?_) q⟩
  · exact ⟨by decide, Fin.same z⟩
  · obtain ⟨⟨xi, h1, h2⟩, z⟩ := z
    unfold hdsD
    refine ⟨⟨xi, h1, h2, fun f hf => by cases hf⟩, ?_⟩
    rw [if_pos sub_win]
    intro a ha
    unfold suD withD
    simp
    exact Fin.same (z a ha)
/-! ### changed texts -/
def cx_q_bent : Ctx := ⟨[fi_take, fi_pick], [], [], [], kx0⟩
@[simp] theorem cx_q_bent_0 : cx_q_bent.fs[0]? = some fi_take := rfl
@[simp] theorem cx_q_bent_1 : cx_q_bent.fs[1]? = some fi_pick := rfl
/-! ### the law -/
def spNumbered : DSp := fun ds M Q _ => ∃ (ns : List Int) (c : Nat), ds = [pt ns, .str (ms [c])] ∧ ns.length ≤ 1000 ∧ (∀ n ∈ ns, (n.natAbs : Int) < 10 ^ 13) ∧ Q (.str (Txt.join (ms [c]) ((ns.map numI).map ms))) M
def fi_q_numbered : FI := ⟨"_law_numbered", 2, spNumbered⟩
@[simp] theorem fi_q_numbered_sp : fi_q_numbered.sp = spNumbered := rfl
theorem wt_nums : ∀ {ns : List Int}, (∀ n ∈ ns, (n.natAbs : Int) < 10 ^ 13) → wt (ns.map numI) ≤ 15 * ns.length
  | [], _ => by simp [wt]
  | n :: ns, h => by
    have h1 := wt_nums (ns := ns) fun m hm => h m (List.mem_cons_of_mem _ hm)
    have h2 := (numI_len (h n List.mem_cons_self)).2
    have e : wt ((n :: ns).map numI) = (numI n).length + 1 + wt (ns.map numI) := by
      unfold wt
      rw [List.map_cons, List.map_cons, List.sum_cons, List.length_cons]
      omega
    rw [e, List.length_cons]
    omega
/-! ### asks with any outcome -/
/-- the number of the wrong word, or a value -/
def endO (o : Sum Nat D) (M : Mp) (Q : QE) (E : XD → Mp → Prop) : Prop := match o with
  | .inl i => ∀ M', M.Sub M' → E ⟨"BadText", [("word", .int (i : Int))]⟩ M'
  | .inr d => ∀ M', M.Sub M' → Q d M'
theorem endO.imp {o : Sum Nat D} {M : Mp} {Q Q' : QE} {E E' : XD → Mp → Prop} (h : endO o M Q E) (hq : ∀ d M, Q d M → Q' d M) (he : ∀ x M, E x M → E' x M) : endO o M Q' E' := by
  unfold endO at h ⊢
  split at h
  · exact fun M' hS => he _ _ (h M' hS)
  · exact fun M' hS => hq _ _ (h M' hS)
theorem sub_dropC {M M' : Mp} {a : Addr} {ks : List Addr} (hS : M.Sub M') (ha : M a = none) (hd : NoCl M ks) : M.Sub (M'.dropC a ks) := fun b o e => by
  have hb : b ≠ a := fun z => by rw [z, ha] at e; cases e
  unfold Mp.dropC
  rw [if_neg hb, hS b o e]
  cases o with
  | clo k' caps' cs' =>
    have no : (cs'.any fun c => ks.contains c) = false := by
      rw [List.any_eq_false]
      intro c hc z
      exact hd b k' caps' cs' e c hc (List.contains_iff_mem.mp z)
    simp only [no, Bool.false_eq_true, if_false]
  | _ => rfl
/-! ### the text of a log -/
theorem join_ms {c : Nat} (ys : List (List Nat)) : Txt.join (ms [c]) (ys.map ms) = ms (jn c ys) := by
  refine cs_ext ?_
  rw [join_cs, List.map_map, cs_ms (jn c ys)]
  have : ∀ y ∈ ys, (cs ∘ ms) y = id y := fun y _ => cs_ms y
  rw [List.map_congr_left this, List.map_id]
def posT (p : List Int) : List Nat := jn 44 (p.map numI)
def logT (log : List (List Int)) : List Nat := if log = [] then [45] else jn 32 (log.map posT)
/-- numbers that a text may hold -/
def Few (p : List Int) : Prop := p.length ≤ 1000 ∧ ∀ v ∈ p, (v.natAbs : Int) < 10 ^ 13
theorem posT_len {p : List Int} (h : Few p) : (posT p).length ≤ 15 * p.length := by
  have h1 := join_len (c := 44) (p.map numI)
  rw [join_ms, ← cs_len, cs_ms (jn 44 (p.map numI))] at h1
  exact Nat.le_trans h1 (wt_nums h.2)
theorem wt_pos : ∀ {log : List (List Int)} {n : Nat}, (∀ p ∈ log, Few p ∧ p.length ≤ n) → wt (log.map posT) ≤ (15 * n + 1) * log.length
  | [], _, _ => by simp [wt]
  | p :: log, n, h => by
    have h1 := wt_pos (log := log) (n := n) fun q hq => h q (List.mem_cons_of_mem _ hq)
    obtain ⟨h2, h3⟩ := h p List.mem_cons_self
    have h4 := posT_len h2
    have e : wt ((p :: log).map posT) = (posT p).length + 1 + wt (log.map posT) := by
      unfold wt
      rw [List.map_cons, List.map_cons, List.sum_cons, List.length_cons]
      omega
    have h5 : 15 * p.length ≤ 15 * n := Nat.mul_le_mul_left _ h3
    rw [e, List.length_cons, Nat.mul_succ]
    omega
def cx_q_log_text : Ctx := ⟨[fi_q_numbered], [], [], [], kx0⟩
@[simp] theorem cx_q_log_text_0 : cx_q_log_text.fs[0]? = some fi_q_numbered := rfl
/-! ### texts that the program writes -/
theorem join_bound {c : Nat} {ys : List (List Nat)} (h : wt ys ≤ 1000000) : ((ys.map ms).map (fun x => x.length)).sum + (ys.map ms).length * (ms [c]).length ≤ 16777216 := by
  have e : (ys.map ms).map (fun x => x.length) = ys.map (·.length) := by
    rw [List.map_map]
    refine List.map_congr_left fun y _ => ?_
    show (ms y).length = y.length
    rw [← cs_len, cs_ms y]
  rw [e, List.length_map]
  have h1 : (ms [c]).length = 1 := rfl
  rw [h1]
  unfold wt at h
  omega
def gi_NOTHING : GI := ⟨"NOTHING", .str "-"⟩
@[simp] theorem gi_NOTHING_d : gi_NOTHING.d = .str "-" := rfl
def mc_show_position : MC := ⟨["position", "coordinate"], [], ["COMMA"], [], [], mx0⟩
def b_show_position : List CS := [.ret (.meth .join (.glb 0) [.comp true (.blt .str true [.var 1]) (.nm 1) .seq [.var 0] [1]])]
def spShowPos : DSp := fun ds M Q _ => ∃ p : List Int, ds = [pt p] ∧ Few p ∧ Q (.str (ms (posT p))) M
def fi_show_position : FI := ⟨"show_position", 1, spShowPos⟩
@[simp] theorem fi_show_position_sp : fi_show_position.sp = spShowPos := rfl
def cx_show_position : Ctx := ⟨[], [gi_COMMA], [], [], kx0⟩
@[simp] theorem cx_show_position_g0 : cx_show_position.gs[0]? = some gi_COMMA := rfl
theorem wp_show_position {E : EX} {ds : List D} {M : Mp} {Q : QE} {E' : XD → Mp → Prop} (h : spShowPos ds M Q E') : wpB cx_show_position E b_show_position (endsD Q) (startD mc_show_position.N ds) M := by
  obtain ⟨ns, rfl, ⟨hl, hn⟩, q⟩ := h
  rw [show startD mc_show_position.N [pt ns] = [some (pt ns), none] from rfl, b_show_position, wpB_cons]
  simp [itD]
  refine ⟨rfl, fun p hp => ?_⟩
  refine cmpL_mapf D.int (fun n => D.str (ms (numI n))) hp (by omega) (fun _ => True.intro) (fun n hn' acc add skip ha => ?_) ?_
  · have := hn n hn'
    simp [turnC, wipeD]
    refine ⟨log_ok (by omega), ?_⟩
    have e : Str.ofString n.repr = ms (numI n) := (ms_cs _).symm
    rw [e]
    exact ha
  · have e : ns.map (fun n => D.str (ms (numI n))) = (ns.map numI).map (D.str ∘ ms) := by rw [List.map_map]; rfl
    rw [e, lit_comma]
    have hw := wt_nums hn
    refine join_ok (M := M) (Q := Fin Q) (by omega) ?_
    rw [join_ms]
    exact Fin.same q
theorem jn_pos {c : Nat} {ys : List (List Nat)} (h : ys ≠ []) (h2 : ∀ y ∈ ys, y ≠ []) : 0 < (jn c ys).length := by
  cases ys with
  | nil => exact absurd rfl h
  | cons y r =>
    have h3 := List.length_pos_iff.mpr (h2 y List.mem_cons_self)
    cases r with
    | nil => exact h3
    | cons z r =>
      show 0 < (y ++ c :: jn c (z :: r)).length
      rw [List.length_append]
      omega
theorem numI_ne {n : Int} (h : (n.natAbs : Int) < 10 ^ 13) : numI n ≠ [] := fun z => by
  have := (numI_len h).1
  rw [z] at this
  cases this
theorem posT_ne {p : List Int} (h : Few p) (hp : p ≠ []) : posT p ≠ [] := List.length_pos_iff.mp (jn_pos (by simpa using hp) fun y hy => by
  obtain ⟨n, hn, rfl⟩ := List.mem_map.mp hy
  exact numI_ne (h.2 n hn))
def mc_show_log : MC := ⟨["log", "position"], ["show_position"], ["NOTHING", "BLANK"], [], [], mx0⟩
def b_show_log : List CS := [.ret (.or (.meth .join (.glb 1) [.comp true (.call 0 [.var 1]) (.nm 1) .seq [.var 0] [1]]) (.one (.glb 0)))]
def spShowLog : DSp := fun ds M Q _ => ∃ (log : List (List Int)) (n : Nat), ds = [lg log] ∧ (∀ p ∈ log, Few p ∧ p.length ≤ n) ∧ (∀ p ∈ log, p ≠ []) ∧ (15 * n + 1) * log.length ≤ 900000 ∧ log.length ≤ 100000 ∧ Q (.str (ms (logT log))) M
def fi_show_log : FI := ⟨"show_log", 1, spShowLog⟩
@[simp] theorem fi_show_log_sp : fi_show_log.sp = spShowLog := rfl
def cx_show_log : Ctx := ⟨[fi_show_position], [gi_NOTHING, gi_BLANK], [], [], kx0⟩
@[simp] theorem cx_show_log_g0 : cx_show_log.gs[0]? = some gi_NOTHING := rfl
@[simp] theorem cx_show_log_g1 : cx_show_log.gs[1]? = some gi_BLANK := rfl
@[simp] theorem cx_show_log_0 : cx_show_log.fs[0]? = some fi_show_position := rfl
theorem wp_show_log {E : EX} {ds : List D} {M : Mp} {Q : QE} {E' : XD → Mp → Prop} (h : spShowLog ds M Q E') : wpB cx_show_log E b_show_log (endsD Q) (startD mc_show_log.N ds) M := by
  obtain ⟨log, n, rfl, hp, hne, hl, hl2, q⟩ := h
  rw [show startD mc_show_log.N [lg log] = [some (lg log), none] from rfl, b_show_log, wpB_cons]
  simp [itD]
  refine ⟨rfl, fun p hp0 => ?_⟩
  refine cmpL_mapf pt (fun l => D.str (ms (posT l))) hp0 (by omega) (fun _ => True.intro) (fun l hl3 acc add skip ha => ?_) ?_
  · simp [turnC, wipeD]
    exact ⟨l, rfl, (hp l hl3).1, ha⟩
  · have e : log.map (fun l => D.str (ms (posT l))) = (log.map posT).map (D.str ∘ ms) := by rw [List.map_map]; rfl
    rw [e, lit_blank]
    have hw := wt_pos hp
    have hlen := join_len (c := 32) (log.map posT)
    rw [strs_ms]
    refine ⟨join_bound (by omega), ?_⟩
    rw [join_ms] at hlen ⊢
    refine ⟨sz (by omega), ?_⟩
    by_cases h0 : log = []
    · subst h0
      rw [if_pos (by rfl), lit_minus]
      exact Fin.same q
    · have h1 := jn_pos (c := 32) (ys := log.map posT) (by simpa using h0) fun y hy => by
        obtain ⟨l, hl4, rfl⟩ := List.mem_map.mp hy
        exact posT_ne (hp l hl4).1 (hne l hl4)
      have h2 : (ms (jn 32 (log.map posT))).length ≠ 0 := by
        rw [← cs_len, cs_ms (jn 32 (log.map posT))]
        omega
      unfold logT at q
      rw [if_neg h0] at q
      rw [if_neg h2]
      exact Fin.same q
/-! ### read back -/
theorem jn_mem {s c : Nat} : ∀ {ls : List (List Nat)}, c ∈ jn s ls → c = s ∨ ∃ p ∈ ls, c ∈ p
  | [], h => by cases h
  | [p], h => .inr ⟨p, List.mem_cons_self, h⟩
  | p :: q :: r, h => by
    have h : c ∈ p ++ s :: jn s (q :: r) := h
    rcases List.mem_append.mp h with h | h
    · exact .inr ⟨p, List.mem_cons_self, h⟩
    · rcases List.mem_cons.mp h with h | h
      · exact .inl h
      · rcases jn_mem (ls := q :: r) h with h | ⟨z, hz, h⟩
        · exact .inl h
        · exact .inr ⟨z, List.mem_cons_of_mem _ hz, h⟩
theorem allS_map : ∀ ns : List Int, allS (ns.map some) = some ns
  | [] => rfl
  | n :: ns => by rw [List.map_cons, allS_cons, allS_map ns]; rfl
theorem intsW_num {c : Nat} {ns : List Int} {lo hi : Int} (hc : c ≠ 45 ∧ (c < 48 ∨ 57 < c)) (h0 : ns ≠ []) (h : ∀ n ∈ ns, (n.natAbs : Int) < 10 ^ 13 ∧ lo ≤ n ∧ n ≤ hi) : intsW c (jn c (ns.map numI)) lo hi = some ns := by
  unfold intsW
  rw [spl_jn (by simpa using h0) fun p hp => ?_, List.map_map]
  · have : ∀ n ∈ ns, ((fun p => intW p lo hi) ∘ numI) n = some n := fun n hn => intW_num (h n hn).1 (h n hn).2.1 (h n hn).2.2
    rw [List.map_congr_left this]
    exact allS_map ns
  · obtain ⟨n, hn, rfl⟩ := List.mem_map.mp hp
    intro hm
    have := numI_sign (h n hn).1 c hm
    omega
theorem numT_free {s c : Nat} {ns : List Int} (hs : c ≠ s) (hc : c ≠ 45 ∧ (c < 48 ∨ 57 < c)) (h : ∀ n ∈ ns, (n.natAbs : Int) < 10 ^ 13) : c ∉ jn s (ns.map numI) := fun hm => by
  rcases jn_mem hm with h1 | ⟨p, hp, h1⟩
  · exact hs h1
  · obtain ⟨n, hn, rfl⟩ := List.mem_map.mp hp
    have := numI_sign (h n hn) c h1
    omega
theorem fst_free {c : Nat} {l : List Nat} (h : c ∉ l) : fstW c l = l := by
  unfold fstW
  rw [spl_one h]; rfl
theorem boxW_num {bs : List Int} (h : boxB bs = true) : boxW (fstW 32 (jn 120 (bs.map numI))) = some bs ∧ 32 ∉ jn 120 (bs.map numI) := by
  obtain ⟨h1, h2, h3⟩ := box_len h
  have hf := numT_free (s := 120) (c := 32) (ns := bs) (by decide) ⟨by decide, by decide⟩ fun n hn => by have := h3 n hn; omega
  refine ⟨?_, hf⟩
  rw [fst_free hf]
  unfold boxW
  rw [intsW_num ⟨by decide, by decide⟩ (fun z => by rw [z] at h1; cases h1) fun n hn => by have := h3 n hn; omega, Option.bind_some, if_pos h2]
end Ow
namespace Ow
open PySem PySem.Spec PyProof.Rows L2
namespace Kx
instance : Og := ⟨fun _ => none, fun _ => none⟩
def ai_viewer : AI := ⟨"viewer", ["Session"]⟩
def gi_PRESENT_WORDS : GI := ⟨"PRESENT_WORDS", .tup [.str "place", .str "hull", .str "good", .str "left"]⟩
@[simp] theorem gi_PRESENT_WORDS_d : gi_PRESENT_WORDS.d = .tup [.str "place", .str "hull", .str "good", .str "left"] := rfl
def gi_PARTS_sessions : GI := ⟨"PARTS_sessions", .int 2⟩
@[simp] theorem gi_PARTS_sessions_d : gi_PARTS_sessions.d = .int 2 := rfl
def gi_NO_PLAN : GI := ⟨"NO_PLAN", .tup [.tup [], .tup []]⟩
@[simp] theorem gi_NO_PLAN_d : gi_NO_PLAN.d = .tup [.tup [], .tup []] := rfl
def gi_MOST_REQUESTS_boxes : GI := ⟨"MOST_REQUESTS_boxes", .int 400⟩
@[simp] theorem gi_MOST_REQUESTS_boxes_d : gi_MOST_REQUESTS_boxes.d = .int 400 := rfl
def mc_lam5 : MC := ⟨["_law_thing", "_law_talk"], [], [], [], [("Session", "run")], mx0⟩
def ce_lam5 : CE := .mcl 0 (.var 1) [.var 0]
def mc_lam4 : MC := ⟨["_law_box_here", "_law_thing"], ["read_plan"], [], [], [], mx0⟩
def ce_lam4 : CE := .call 0 [.var 0, .tup [.bin .Mult true (.tup [.int 0]) (.blt .len true [.var 0])], .var 1]
def mc_lam3 : MC := ⟨["_law_thing"], ["Session"], [], [], [], mx0⟩
def ce_lam3 : CE := .call 0 [.var 0]
def mc_lam2 : MC := ⟨["_law_box_here", "_law_thing"], ["read_log"], [], [], [], mx0⟩
def ce_lam2 : CE := .call 0 [.var 0, .var 1]
def mc_lam1 : MC := ⟨["_law_box_here", "_law_thing"], ["read_position"], [], [], [], mx0⟩
def ce_lam1 : CE := .call 0 [.var 0, .var 1]
def mc_lam0 : MC := ⟨["_law_thing"], ["read_box"], [], [], [], mx0⟩
def ce_lam0 : CE := .call 0 [.var 0]
def xi_BadLine : XI := ⟨"BadLine", some "line"⟩
@[simp] theorem xi_BadLine_name : xi_BadLine.name = "BadLine" := rfl
@[simp] theorem xi_BadLine_fld : xi_BadLine.fld = some "line" := rfl
@[simp] theorem xi_BadLine_n : xi_BadLine.n = 1 := rfl
def xi_BadText : XI := ⟨"BadText", some "word"⟩
@[simp] theorem xi_BadText_name : xi_BadText.name = "BadText" := rfl
@[simp] theorem xi_BadText_fld : xi_BadText.fld = some "word" := rfl
@[simp] theorem xi_BadText_n : xi_BadText.n = 1 := rfl
def xi_NothingToUndo : XI := ⟨"NothingToUndo", none⟩
@[simp] theorem xi_NothingToUndo_name : xi_NothingToUndo.name = "NothingToUndo" := rfl
@[simp] theorem xi_NothingToUndo_fld : xi_NothingToUndo.fld = none := rfl
@[simp] theorem xi_NothingToUndo_n : xi_NothingToUndo.n = 0 := rfl
def xi_TooLong : XI := ⟨"TooLong", some "limit"⟩
@[simp] theorem xi_TooLong_name : xi_TooLong.name = "TooLong" := rfl
@[simp] theorem xi_TooLong_fld : xi_TooLong.fld = some "limit" := rfl
@[simp] theorem xi_TooLong_n : xi_TooLong.n = 1 := rfl
def xi_BadPosition : XI := ⟨"BadPosition", some "value"⟩
@[simp] theorem xi_BadPosition_name : xi_BadPosition.name = "BadPosition" := rfl
@[simp] theorem xi_BadPosition_fld : xi_BadPosition.fld = some "value" := rfl
@[simp] theorem xi_BadPosition_n : xi_BadPosition.n = 1 := rfl
def xi_BadBox : XI := ⟨"BadBox", some "value"⟩
@[simp] theorem xi_BadBox_name : xi_BadBox.name = "BadBox" := rfl
@[simp] theorem xi_BadBox_fld : xi_BadBox.fld = some "value" := rfl
@[simp] theorem xi_BadBox_n : xi_BadBox.n = 1 := rfl
def xi_DoesNotFit : XI := ⟨"DoesNotFit", some "hull"⟩
@[simp] theorem xi_DoesNotFit_name : xi_DoesNotFit.name = "DoesNotFit" := rfl
@[simp] theorem xi_DoesNotFit_fld : xi_DoesNotFit.fld = some "hull" := rfl
@[simp] theorem xi_DoesNotFit_n : xi_DoesNotFit.n = 1 := rfl
def xi_EmptyLog : XI := ⟨"EmptyLog", none⟩
@[simp] theorem xi_EmptyLog_name : xi_EmptyLog.name = "EmptyLog" := rfl
@[simp] theorem xi_EmptyLog_fld : xi_EmptyLog.fld = none := rfl
@[simp] theorem xi_EmptyLog_n : xi_EmptyLog.n = 0 := rfl
def xi_WindowError : XI := ⟨"WindowError", none⟩
@[simp] theorem xi_WindowError_name : xi_WindowError.name = "WindowError" := rfl
@[simp] theorem xi_WindowError_fld : xi_WindowError.fld = none := rfl
@[simp] theorem xi_WindowError_n : xi_WindowError.n = 0 := rfl
def clsL : List (List Str × (ClTxt → Bool)) := [(["_law_thing"], lamT mc_lam0 [] ["_law_thing"] ce_lam0), (["_law_box_here", "_law_thing"], lamT mc_lam1 [] ["_law_box_here", "_law_thing"] ce_lam1), (["_law_box_here", "_law_thing"], lamT mc_lam2 [] ["_law_box_here", "_law_thing"] ce_lam2), (["_law_thing"], lamT mc_lam3 [] ["_law_thing"] ce_lam3), (["_law_box_here", "_law_thing"], lamT mc_lam4 [] ["_law_box_here", "_law_thing"] ce_lam4), (["_law_thing", "_law_talk"], lamT mc_lam5 [] ["_law_thing", "_law_talk"] ce_lam5)]
def tsL : List (Addr × Addr) := [(680, 676)]
instance : Tb := ⟨[(676, "_law_right.<locals>.<lambda>")], fun k => match k with | 0 => lamT mc_lam0 [] ["_law_thing"] ce_lam0 | 1 => lamT mc_lam1 [] ["_law_box_here", "_law_thing"] ce_lam1 | 2 => lamT mc_lam2 [] ["_law_box_here", "_law_thing"] ce_lam2 | 3 => lamT mc_lam3 [] ["_law_thing"] ce_lam3 | 4 => lamT mc_lam4 [] ["_law_box_here", "_law_thing"] ce_lam4 | 5 => lamT mc_lam5 [] ["_law_thing", "_law_talk"] ce_lam5 | _ => fun _ => false, fun k => match k with | 0 => ["_law_thing"] | 1 => ["_law_box_here", "_law_thing"] | 2 => ["_law_box_here", "_law_thing"] | 3 => ["_law_thing"] | 4 => ["_law_box_here", "_law_thing"] | 5 => ["_law_thing", "_law_talk"] | _ => []⟩
def mc_is_integer : MC := ⟨["value", "least", "greatest"], [], [], [], [], mx0⟩
def mc_is_box : MC := ⟨["value", "size"], ["is_integer"], ["MOST_AXES", "MOST_SIZE"], [], [], mx0⟩
def mc_show_position : MC := ⟨["position", "coordinate"], [], ["COMMA"], [], [], mx0⟩
def mc_show_log : MC := ⟨["log", "position"], ["show_position"], ["NOTHING", "BLANK"], [], [], mx0⟩
def mc_integer_in : MC := ⟨["word", "least", "greatest", "digits", "number", "sign"], [], ["MINUS", "DIGITS", "MOST_DIGITS"], [], [], mx0⟩
def mc_integers_in : MC := ⟨["word", "mark", "least", "greatest", "found", "part"], ["integer_in"], [], [], [], mx0⟩
def mc_box_in : MC := ⟨["word", "found"], ["integers_in"], ["CROSS", "MOST_SIZE", "MOST_AXES"], [], [], mx0⟩
def mc_point_in : MC := ⟨["box", "word", "farthest", "found"], ["integers_in"], ["COMMA"], [], [], mx0⟩
def mc_position_in : MC := ⟨["box", "word"], ["point_in"], ["FARTHEST_POSITION"], [], [], mx0⟩
def mc_words_of : MC := ⟨["text"], [], ["BLANK"], [], [], ⟨[xi_BadText], [], [], [], [], false, false, []⟩⟩
def mc_only_word : MC := ⟨["text", "found"], [], ["BLANK"], [], [], ⟨[xi_BadText], [], [], [], [], false, false, []⟩⟩
def mc_read_box : MC := ⟨["text"], ["only_word", "box_in", "words_of"], [], [], [], mx0⟩
def mc_read_position : MC := ⟨["box", "text"], ["only_word", "position_in", "words_of"], [], [], [], mx0⟩
def mc_read_log : MC := ⟨["box", "text", "words", "found", "number", "word", "position"], ["words_of", "only_word", "position_in"], ["NOTHING", "MOST_REQUESTS_boxes"], [], [], mx0⟩
def b_read_log : List CS := [.par 2 3 (.call 0 [.var 1]) (.lst false []),
    .ifs (.cmp .Eq (.ix (.var 2) (.int 0)) (.glb 0)) [.ret (.call 1 [.var 1, .tup []])] [],
    .for (.tup [.nm 4, .nm 5]) .enum [.var 2] [.set 6 (.call 2 [.var 0, .var 5]), .ifs (.or (.cmp .Is (.var 6) (.non)) (.one (.cmp .Eq (.var 4) (.glb 1)))) [.bad] [], .expr (.mth .append (.var 3) (.var 6))],
    .ret (.blt .tuple true [.var 3])]
def mc_loads_of : MC := ⟨["box", "log", "text", "words", "indexes", "places", "number", "word", "load"], ["words_of", "only_word"], ["NOTHING", "NO_PLAN"], [], [], mx0⟩
def b_loads_of : List CS := [.par3 3 4 5 (.call 0 [.var 2]) (.lst false []) (.lst false []),
    .ifs (.cmp .Eq (.ix (.var 3) (.int 0)) (.glb 0)) [.ret (.call 1 [.var 2, .glb 1])] [],
    .for (.tup [.nm 6, .nm 7]) .enum [.var 3] [.bad, .ifs (.or (.cmp .Is (.var 8) (.non)) (.one (.and (.cmp .NotEq (.var 4) (.lst true [])) (.one (.cmp .LtE (.ix (.var 8) (.int 0)) (.ix (.var 4) (.neg (.int 1)))))))) [.bad] [], .expr (.mth .append (.var 4) (.ix (.var 8) (.int 0))), .expr (.mth .append (.var 5) (.ix (.var 8) (.int 1)))],
    .ret (.tup [.blt .tuple true [.var 4], .blt .tuple true [.var 5]])]
def mc_read_plan : MC := ⟨["box", "log", "text", "plan"], ["loads_of"], [], [], [], mx0⟩
def b_read_plan : List CS := [.set 3 (.call 0 [.var 0, .var 1, .var 2]),
    .bad,
    .ret (.var 3)]
def mc_Viewer_init : MC := ⟨["self", "box"], ["is_box"], [], [⟨"sizes", ["Viewer", "Session"]⟩, ⟨"moments", ["Viewer"]⟩], [], mx0⟩
def b_Viewer_init : List CS := [.ifs (.not (.call 0 [.var 1])) [.bad] [],
    .sat 0 (.var 0) (.var 1),
    .sat 1 (.var 0) (.lst false [])]
def mc_Viewer_log : MC := ⟨["self", "moment"], [], [], [⟨"moments", ["Viewer"]⟩, ⟨"position", ["Moment"]⟩], [], mx0⟩
def mc_Session_init : MC := ⟨["self", "text"], ["read_box", "Viewer"], [], [⟨"sizes", ["Viewer", "Session"]⟩, ⟨"viewer", ["Session"]⟩], [], mx0⟩
def b_Session_init : List CS := [.sat 0 (.var 0) (.call 0 [.var 1]),
    .sat 1 (.var 0) (.call 1 [.att 0 (.var 0)])]
def mc_Session_run : MC := ⟨["self", "line", "words"], [], ["BLANK", "PARTS_sessions", "PRESENT_WORDS"], [⟨"viewer", ["Session"]⟩], [("Session", "answer")], ⟨[xi_BadLine], [], [], [], [], false, false, []⟩⟩
def b_Session_run : List CS := [.ifs (.not (.isi .str (.var 1))) [.rse 0 [.var 1]] [],
    .set 2 (.meth .split (.var 1) [.glb 0]),
    .ifs (.cmp .Eq (.blt .len true [.var 2]) (.glb 1)) [.bad] [],
    .ifs (.cmp .In (.var 1) (.glb 2)) [.bad] [],
    .ret (.mcl 0 (.var 0) [.var 1])]
def mc_Session_answer : MC := ⟨["self", "line"], ["show_log"], [], [⟨"viewer", ["Session"]⟩], [("Viewer", "log")], mx0⟩
def b_Session_answer : List CS := [.ifs (.cmp .Eq (.var 1) (.str "loads")) [.bad] [],
    .ifs (.cmp .Eq (.var 1) (.str "fewest")) [.bad] [],
    .ifs (.cmp .Eq (.var 1) (.str "log")) [.ret (.call 0 [.mcl 0 (.att 0 (.var 0)) []])] [],
    .ifs (.cmp .NotEq (.var 1) (.str "best")) [.bad] [],
    .bad]
def mc_q_urn : MC := ⟨["_law_script", "_law_k", "_law_cell", "_law_great"], [], [], [], [], mx0⟩
def mc_q_take : MC := ⟨["_law_urn_here", "_law_many", "_law_turn", "_law_prime", "_law_mixed", "_law_drawn", "_law_digit"], [], [], [], [], mx0⟩
def mc_q_pick : MC := ⟨["_law_urn_here", "_law_items"], ["_law_take"], [], [], [], mx0⟩
def mc_q_caught : MC := ⟨["_law_call", "error"], [], [], [], [], ⟨[], [xi_BadText, xi_BadLine], ["WindowError"], clsL, [], false, false, []⟩⟩
def b_q_caught : List CS := [.tryX [.ret (.lst true [.callV 0 []])] [("WindowError", some 1, .ret)]]
def mc_q_box : MC := ⟨["_law_urn_here", "_law_axes", "_law_most", "_law_found", "_law_axis"], ["_law_take", "_law_pick"], [], [], [], mx0⟩
def mc_q_odd : MC := ⟨["_law_urn_here", "_law_some", "_law_found", "_law_level"], ["_law_pick", "_law_take"], [], [], [], mx0⟩
def b_q_odd : List CS := [.set 1 (.lst true [.non, .bl true, .bl false, .int 0, .int 1, .int 3, .neg (.int 1), .bin .Pow true (.int 10) (.int 12), .str "", .str "0", .str "a", .tup [], .tup [.int 0], .tup [.non], .lst true [], .lst true [.int 0], .op .dnil [], .disp true [.inr "a"] [.int 1]]),
    .set 2 (.call 0 [.var 0, .var 1]),
    .for (.nm 3) .rng1 [.call 0 [.var 0, .lst true [.int 0, .int 0, .int 1, .int 2, .int 28]]] [.set 2 (.ix (.lst true [.tup [.var 2], .lst true [.var 2], .disp true [.inr "a"] [.var 2]]) (.call 1 [.var 0, .int 3]))],
    .ret (.var 2)]
def mc_q_is_refused : MC := ⟨["_law_call", "_law_told"], ["_law_caught"], [], [], [], ⟨[], [xi_BadText, xi_BadLine], ["BadBox", "BadLine", "BadText"], [], [], false, false, []⟩⟩
def b_q_is_refused : List CS := [.set 1 (.call 0 [.var 0]),
    .ret (.and (.isX1 "BadText" (.var 1)) (.and (.not (.isXm ["BadBox", "BadLine"] (.var 1))) (.one (.cmp .Eq (.blt .repr true [.xat "word" (.var 1)]) (.str "0")))))]
def mc_q_right : MC := ⟨["_law_talk", "_law_box_here", "_law_thing", "_law_kept", "_law_told", "_law_line"], [], [], [], [("Session", "run")], ⟨[], [xi_BadText, xi_BadLine], ["BadText", "BadBox", "BadLine"], clsL, ["_law_is_refused", "_law_caught"], true, false, []⟩⟩
def b_q_right : List CS := [.set 3 (.blt .repr true [.var 2]),
    .set 4 (.lst false [.callL 0 [] 0 [2]]),
    .expr (.mth .append (.var 4) (.callL 0 [] 1 [1, 2])),
    .expr (.mth .append (.var 4) (.callL 0 [] 2 [1, 2])),
    .expr (.mth .append (.var 4) (.callL 0 [] 3 [2])),
    .expr (.mth .append (.var 4) (.callL 0 [] 4 [1, 2])),
    .frz 4,
    .set 5 (.callL 1 [] 5 [2, 0]),
    .ifs (.or (.not (.isX1 "BadLine" (.var 5))) (.or (.isXm ["BadText", "BadBox"] (.var 5)) (.one (.cmp .NotEq (.blt .repr true [.xat "line" (.var 5)]) (.var 3))))) [.ret (.bl false)] [],
    .ret (.and (.cmp .Eq (.var 4) (.bin .Mult true (.lst true [.bl true]) (.int 5))) (.and (.cmp .Eq (.blt .repr true [.var 2]) (.var 3)) (.one (.cmp .Eq (.mcl 0 (.var 0) [.str "log"]) (.str "-")))))]
def mc_law : MC := ⟨["_law_script", "_law_k", "_law_urn_here", "_law_box_here", "_law_some", "_law_talk", "_law_turn", "_law_thing", "_law_size"], ["_law_urn", "_law_box", "Session", "_law_odd", "_law_right"], [], [], [], mx0⟩
def b_law : List CS := [.for (.nm 1) .rng1 [.blt .max true [.int 1, .blt .min true [.int 3, .blt .len true [.var 0]]]] [.set 2 (.call 0 [.var 0, .var 1]), .set 3 (.call 1 [.var 2, .int 3, .int 9]), .asg (.tup [.nm 5, .nm 4]) (.tup [.call 2 [.meth .join (.str "x") [.comp true (.blt .str true [.var 8]) (.nm 8) .seq [.var 3] [8]]], .lst true [.var 3, .tup [.var 3], .tup [.tup [.int 0], .tup [.var 3]], .lst true [.var 3], .int 5, .tup [.str "5"]]]), .set 4 (.bin .Add true (.var 4) (.comp true (.call 3 [.var 2]) (.nm 6) .rng1 [.int 10] [6])), .ifs (.not (.blt .all true [.compIf true (.call 4 [.var 5, .var 3, .var 7]) (.not (.isi .str (.var 7))) (.nm 7) .seq [.var 4] [7]])) [.ret (.bl false)] []],
    .ret (.bl true)]
/-! ### values that are no strings -/
def NoStr (d : D) : Prop := d.flx = true ∧ d.isStr = false
theorem isi_no {d : D} (h : NoStr d) {M : Mp} {Q : QE} (q : Q (.bl false) M) : isiD .str d M Q := by
  obtain ⟨h1, h2⟩ := h
  unfold isiD
  cases d <;> first | exact q | (cases h2; done) | (cases h1; done)
def spWords : DSp := fun ds M Q E => ∃ d : D, ds = [d] ∧ ((∃ w : Str, d = .str w ∧ w.length ≤ 1000000 ∧ Q (.lst ((spl 32 (cs w)).map (D.str ∘ ms))) M) ∨ (NoStr d ∧ E ⟨"BadText", [("word", .int 0)]⟩ M))
def fi_words_of : FI := ⟨"words_of", 1, spWords⟩
@[simp] theorem fi_words_of_sp : fi_words_of.sp = spWords := rfl
def kx_words_of : KX := ⟨[xi_BadText], [], [], [], [], []⟩
def cx_words_of : Ctx := ⟨[], [gi_BLANK], [], [], kx_words_of⟩
@[simp] theorem cx_words_of_r0 : cx_words_of.ex.rs[0]? = some xi_BadText := rfl
@[simp] theorem cx_words_of_xs : cx_words_of.ex.xs = [] := rfl
@[simp] theorem cx_words_of_cl : cx_words_of.ex.cl = [] := rfl
@[simp] theorem cx_words_of_g0 : cx_words_of.gs[0]? = some gi_BLANK := rfl
theorem wp_words_of {ds : List D} {M : Mp} {Q : QE} {E' : XD → Mp → Prop} (h : spWords ds M Q E') : wpB cx_words_of (fun x _ M => E' x M) b_words_of (endsD Q) (startD mc_words_of.N ds) M := by
  obtain ⟨d, rfl, h⟩ := h
  rw [show startD mc_words_of.N [d] = [some d] from rfl, b_words_of, wpB_cons]
  simp
  rcases h with ⟨w, rfl, hl, q⟩ | ⟨hn, e⟩
  · simp [isiD, tyD, isTy, Ty.ty]
    rw [wpB_nil]
    try dsimp only
    rw [wpB_cons]
    simp
    rw [lit_blank, split_ms, List.map_map]
    exact ⟨rfl, by simp [Str.length], sz (n := w.length + 2) (by omega), Fin.same q⟩
  · refine isi_no hn ?_
    simp
    rw [wpB_cons]
    simp [XI.fs]
    exact e
def spReadBox : DSp := fun ds M Q E => ∃ d : D, ds = [d] ∧ ((∃ w : Str, d = .str w ∧ w.length ≤ 1000000 ∧ oneW w (boxW (fstW 32 (cs w))) M Q E) ∨ (NoStr d ∧ E ⟨"BadText", [("word", .int 0)]⟩ M))
def fi_read_box : FI := ⟨"read_box", 1, spReadBox⟩
@[simp] theorem fi_read_box_sp : fi_read_box.sp = spReadBox := rfl
def cx_read_box : Ctx := ⟨[fi_only_word, fi_box_in, fi_words_of], [], [], [], kx0⟩
@[simp] theorem cx_read_box_0 : cx_read_box.fs[0]? = some fi_only_word := rfl
@[simp] theorem cx_read_box_1 : cx_read_box.fs[1]? = some fi_box_in := rfl
@[simp] theorem cx_read_box_2 : cx_read_box.fs[2]? = some fi_words_of := rfl
theorem wp_read_box {ds : List D} {M : Mp} {Q : QE} {E' : XD → Mp → Prop} (h : spReadBox ds M Q E') : wpB cx_read_box (fun x _ M => E' x M) b_read_box (endsD Q) (startD mc_read_box.N ds) M := by
  obtain ⟨d, rfl, h⟩ := h
  rw [show startD mc_read_box.N [d] = [some d] from rfl, b_read_box, wpB_cons]
  simp
  rcases h with ⟨w, rfl, hl, q⟩ | ⟨hn, e⟩
  · refine ⟨_, rfl, .inl ⟨w, rfl, hl, ?_⟩⟩
    have hw := cs_len w
    have hh := head_len (c := 32) (l := cs w)
    simp [atI_spl]
    refine ⟨_, rfl, by rw [← cs_len, cs_ms (fstW 32 (cs w))]; omega, ?_⟩
    rw [cs_ms (fstW 32 (cs w))]
    refine ⟨w, _, rfl, hl, ?_⟩
    exact q.imp (fun d M z => Fin.same z) (fun _ _ z => z)
  · exact ⟨_, rfl, .inr ⟨hn, e⟩⟩
def spReadPos : DSp := fun ds M Q E => ∃ (b d : D), ds = [b, d] ∧ NoStr d ∧ E ⟨"BadText", [("word", .int 0)]⟩ M
def fi_read_position : FI := ⟨"read_position", 2, spReadPos⟩
@[simp] theorem fi_read_position_sp : fi_read_position.sp = spReadPos := rfl
def cx_read_position : Ctx := ⟨[fi_only_word, fi_position_in, fi_words_of], [], [], [], kx0⟩
@[simp] theorem cx_read_position_0 : cx_read_position.fs[0]? = some fi_only_word := rfl
@[simp] theorem cx_read_position_1 : cx_read_position.fs[1]? = some fi_position_in := rfl
@[simp] theorem cx_read_position_2 : cx_read_position.fs[2]? = some fi_words_of := rfl
theorem wp_read_position {ds : List D} {M : Mp} {Q : QE} {E' : XD → Mp → Prop} (h : spReadPos ds M Q E') : wpB cx_read_position (fun x _ M => E' x M) b_read_position (endsD Q) (startD mc_read_position.N ds) M := by
  obtain ⟨b, d, rfl, hn, e⟩ := h
  rw [show startD mc_read_position.N [b, d] = [some b, some d] from rfl, b_read_position, wpB_cons]
  simp
  exact ⟨_, rfl, .inr ⟨hn, e⟩⟩
def fi_read_log : FI := ⟨"read_log", 2, spReadPos⟩
@[simp] theorem fi_read_log_sp : fi_read_log.sp = spReadPos := rfl
def cx_read_log : Ctx := ⟨[fi_words_of, fi_only_word, fi_position_in], [gi_NOTHING, gi_MOST_REQUESTS_boxes], [], [], kx0⟩
@[simp] theorem cx_read_log_g0 : cx_read_log.gs[0]? = some gi_NOTHING := rfl
@[simp] theorem cx_read_log_g1 : cx_read_log.gs[1]? = some gi_MOST_REQUESTS_boxes := rfl
@[simp] theorem cx_read_log_0 : cx_read_log.fs[0]? = some fi_words_of := rfl
@[simp] theorem cx_read_log_1 : cx_read_log.fs[1]? = some fi_only_word := rfl
@[simp] theorem cx_read_log_2 : cx_read_log.fs[2]? = some fi_position_in := rfl
theorem wp_read_log {ds : List D} {M : Mp} {Q : QE} {E' : XD → Mp → Prop} (h : spReadPos ds M Q E') : wpB cx_read_log (fun x _ M => E' x M) b_read_log (endsD Q) (startD mc_read_log.N ds) M := by
  obtain ⟨b, d, rfl, hn, e⟩ := h
  rw [show startD mc_read_log.N [b, d] = [some b, some d, none, none, none, none, none] from rfl, b_read_log, wpB_cons]
  simp
  exact ⟨_, rfl, .inr ⟨hn, e⟩⟩
def spLoads : DSp := fun ds M Q E => ∃ (b l d : D), ds = [b, l, d] ∧ NoStr d ∧ E ⟨"BadText", [("word", .int 0)]⟩ M
def fi_loads_of : FI := ⟨"loads_of", 3, spLoads⟩
@[simp] theorem fi_loads_of_sp : fi_loads_of.sp = spLoads := rfl
def cx_loads_of : Ctx := ⟨[fi_words_of, fi_only_word], [gi_NOTHING, gi_NO_PLAN], [], [], kx0⟩
@[simp] theorem cx_loads_of_g0 : cx_loads_of.gs[0]? = some gi_NOTHING := rfl
@[simp] theorem cx_loads_of_g1 : cx_loads_of.gs[1]? = some gi_NO_PLAN := rfl
@[simp] theorem cx_loads_of_0 : cx_loads_of.fs[0]? = some fi_words_of := rfl
@[simp] theorem cx_loads_of_1 : cx_loads_of.fs[1]? = some fi_only_word := rfl
theorem wp_loads_of {ds : List D} {M : Mp} {Q : QE} {E' : XD → Mp → Prop} (h : spLoads ds M Q E') : wpB cx_loads_of (fun x _ M => E' x M) b_loads_of (endsD Q) (startD mc_loads_of.N ds) M := by
  obtain ⟨b, l, d, rfl, hn, e⟩ := h
  rw [show startD mc_loads_of.N [b, l, d] = [some b, some l, some d, none, none, none, none, none, none] from rfl, b_loads_of, wpB_cons]
  simp
  exact ⟨_, rfl, .inr ⟨hn, e⟩⟩
def fi_read_plan : FI := ⟨"read_plan", 3, spLoads⟩
@[simp] theorem fi_read_plan_sp : fi_read_plan.sp = spLoads := rfl
def cx_read_plan : Ctx := ⟨[fi_loads_of], [], [], [], kx0⟩
@[simp] theorem cx_read_plan_0 : cx_read_plan.fs[0]? = some fi_loads_of := rfl
theorem wp_read_plan {ds : List D} {M : Mp} {Q : QE} {E' : XD → Mp → Prop} (h : spLoads ds M Q E') : wpB cx_read_plan (fun x _ M => E' x M) b_read_plan (endsD Q) (startD mc_read_plan.N ds) M := by
  obtain ⟨b, l, d, rfl, hn, e⟩ := h
  rw [show startD mc_read_plan.N [b, l, d] = [some b, some l, some d, none] from rfl, b_read_plan, wpB_cons]
  simp
  exact ⟨_, _, _, rfl, hn, e⟩
/-! ### sessions -/
def ai_sizes : AI := ⟨"sizes", ["Viewer", "Session"]⟩
def cx_Viewer_init : Ctx := ⟨[fi_is_box], [], [ai_sizes, ai_moments], [], kx0⟩
@[simp] theorem cx_Viewer_init_a0 : cx_Viewer_init.as[0]? = some ai_sizes := rfl
@[simp] theorem cx_Viewer_init_a1 : cx_Viewer_init.as[1]? = some ai_moments := rfl
@[simp] theorem cx_Viewer_init_0 : cx_Viewer_init.fs[0]? = some fi_is_box := rfl
theorem wp_Viewer_init {E : EX} {ds : List D} {M : Mp} {Q : QE} {E' : XD → Mp → Prop} (h : spI_Viewer ds M Q E') : wpB cx_Viewer_init E b_Viewer_init (endsD Q) (startD mc_Viewer_init.N ds) M := by
  obtain ⟨x, bs, rfl, hx, hb, q⟩ := h
  have hl := (box_len hb).2.1
  rw [show startD mc_Viewer_init.N [.ref x, pt bs] = [some (.ref x), some (pt bs)] from rfl, b_Viewer_init, wpB_cons]
  simp
  refine ⟨bs, rfl, by omega, ?_⟩
  simp [hb, wpB_nil]
  rw [wpB_cons]
  simp
  refine sat_ins hx (by decide) (by decide) ?_
  rw [wpB_cons]
  simp
  intro p hp
  have hpx : x ≠ p := fun z => by rw [← z, Mp.upd_same] at hp; cases hp
  have hp' : M p = none := by rwa [Mp.upd_ne (fun z => hpx z.symm)] at hp
  refine sat_ins (by rw [Mp.upd_ne hpx]; exact Mp.upd_same) (by decide) (Nat.le_of_ble_eq_true rfl) ?_
  simp [wpB_nil]
  rw [Mp.upd_comm hpx, Mp.upd_upd]
  exact Fin.same (q p hp')
def sesF (bs : List Int) (v : Addr) : List (Str × D) := [("sizes", pt bs), ("viewer", .ref v)]
def SesR (M : Mp) (s : Addr) (bs : List Int) : Prop := ∃ v q, M s = some (.ins "Session" (sesF bs v)) ∧ M v = some (.ins "Viewer" (viewF bs q)) ∧ M q = some (.lst [])
theorem SesR.mono {M M' : Mp} {s : Addr} {bs : List Int} (h : SesR M s bs) (hS : M.Sub M') : SesR M' s bs := by
  obtain ⟨v, q, h1, h2, h3⟩ := h
  exact ⟨v, q, hS _ _ h1, hS _ _ h2, hS _ _ h3⟩
def spI_Session : DSp := fun ds M Q E => ∃ (x : Addr) (d : D), ds = [.ref x, d] ∧ M x = some (.ins "Session" []) ∧ ((∃ (w : Str) (bs : List Int), d = .str w ∧ w.length ≤ 1000000 ∧ boxW (fstW 32 (cs w)) = some bs ∧ 32 ∉ cs w ∧ boxB bs = true ∧ ∀ M', SesR M' x bs → (∀ b o, b ≠ x → M b = some o → M' b = some o) → Q .non M') ∨ (NoStr d ∧ E ⟨"BadText", [("word", .int 0)]⟩ M))
def spSession : DSp := fun ds M Q E => ∃ d : D, ds = [d] ∧ ((∃ (w : Str) (bs : List Int), d = .str w ∧ w.length ≤ 1000000 ∧ boxW (fstW 32 (cs w)) = some bs ∧ 32 ∉ cs w ∧ boxB bs = true ∧ ∀ s M', SesR M' s bs → M.Sub M' → Q (.ref s) M') ∨ (NoStr d ∧ ∀ M', M.Sub M' → E ⟨"BadText", [("word", .int 0)]⟩ M'))
def fi_Session : FI := ⟨"Session", 1, spSession⟩
@[simp] theorem fi_Session_sp : fi_Session.sp = spSession := rfl
theorem mk_Session : ∀ ds M Q E, fi_Session.sp ds M Q E → mkSp "Session" spI_Session ds M Q E := fun ds M Q E h x hx => by
  obtain ⟨d, rfl, h⟩ := h
  refine ⟨x, d, rfl, Mp.upd_same, ?_⟩
  rcases h with ⟨w, bs, h1, h2, h3, h4, h5, q⟩ | ⟨hn, e⟩
  · refine .inl ⟨w, bs, h1, h2, h3, h4, h5, fun M' hR hk => ⟨rfl, q x M' hR fun b o e => ?_⟩⟩
    have hb : b ≠ x := fun z => by rw [z, hx] at e; cases e
    exact hk b o hb (by rw [Mp.upd_ne hb]; exact e)
  · refine .inr ⟨hn, e _ fun b o e => ?_⟩
    rw [Mp.upd_ne (fun z => by rw [z, hx] at e; cases e)]
    exact e
def cx_Session_init : Ctx := ⟨[fi_read_box, fi_Viewer], [], [ai_sizes, ai_viewer], [], kx0⟩
@[simp] theorem cx_Session_init_a0 : cx_Session_init.as[0]? = some ai_sizes := rfl
@[simp] theorem cx_Session_init_a1 : cx_Session_init.as[1]? = some ai_viewer := rfl
@[simp] theorem cx_Session_init_0 : cx_Session_init.fs[0]? = some fi_read_box := rfl
@[simp] theorem cx_Session_init_1 : cx_Session_init.fs[1]? = some fi_Viewer := rfl
theorem wp_Session_init {ds : List D} {M : Mp} {Q : QE} {E' : XD → Mp → Prop} (h : spI_Session ds M Q E') : wpB cx_Session_init (fun x _ M => E' x M) b_Session_init (endsD Q) (startD mc_Session_init.N ds) M := by
  obtain ⟨x, d, rfl, hx, h⟩ := h
  rw [show startD mc_Session_init.N [.ref x, d] = [some (.ref x), some d] from rfl, b_Session_init, wpB_cons]
  simp
  rcases h with ⟨w, bs, rfl, hl, h3, h4, h5, q⟩ | ⟨hn, e⟩
  · refine ⟨_, rfl, .inl ⟨w, rfl, hl, ?_⟩⟩
    rw [h3]
    unfold oneW
    dsimp only
    rw [if_neg h4]
    refine sat_ins hx (by decide) (by decide) ?_
    rw [wpB_cons]
    simp
    refine att_ins Mp.upd_same (by decide) rfl ?_
    refine ⟨bs, rfl, h5, fun v q' hv hq hvq => ?_⟩
    have hvx : x ≠ v := fun z => by rw [← z, Mp.upd_same] at hv; cases hv
    have hqx : x ≠ q' := fun z => by rw [← z, Mp.upd_same] at hq; cases hq
    refine sat_ins (by rw [Mp.upd_ne hvx, Mp.upd_ne hqx]; exact Mp.upd_same) (by decide) (Nat.le_of_ble_eq_true rfl) ?_
    simp [wpB_nil]
    refine Fin.same (q _ ⟨v, q', Mp.upd_same, by rw [Mp.upd_ne (Ne.symm hvx), Mp.upd_same], by rw [Mp.upd_ne (Ne.symm hqx), Mp.upd_ne (Ne.symm hvq), Mp.upd_same]⟩ fun b o hb e => ?_)
    have hv' : M v = none := by rwa [Mp.upd_ne (Ne.symm hvx)] at hv
    have hq' : M q' = none := by rwa [Mp.upd_ne (Ne.symm hqx)] at hq
    rw [Mp.upd_ne hb, Mp.upd_ne (fun z => by rw [z, hv'] at e; cases e), Mp.upd_ne (fun z => by rw [z, hq'] at e; cases e), Mp.upd_ne hb]
    exact e
  · exact ⟨_, rfl, .inr ⟨hn, e⟩⟩
def spAnswer : DSp := fun ds M Q _ => ∃ (s : Addr) (bs : List Int), ds = [.ref s, .str "log"] ∧ SesR M s bs ∧ Q (.str "-") M
def mi_Session_answer : MI := ⟨"Session", "answer", 2, spAnswer⟩
@[simp] theorem mi_Session_answer_sp : mi_Session_answer.sp = spAnswer := rfl
@[simp] theorem mi_Session_answer_cls : mi_Session_answer.cls = "Session" := rfl
@[simp] theorem mi_Session_answer_name : mi_Session_answer.name = "answer" := rfl
def cx_Session_answer : Ctx := ⟨[fi_show_log], [], [ai_viewer], [mi_Viewer_log], kx0⟩
@[simp] theorem cx_Session_answer_a0 : cx_Session_answer.as[0]? = some ai_viewer := rfl
@[simp] theorem cx_Session_answer_m0 : cx_Session_answer.ms[0]? = some mi_Viewer_log := rfl
@[simp] theorem cx_Session_answer_0 : cx_Session_answer.fs[0]? = some fi_show_log := rfl
theorem wp_Session_answer {E : EX} {ds : List D} {M : Mp} {Q : QE} {E' : XD → Mp → Prop} (h : spAnswer ds M Q E') : wpB cx_Session_answer E b_Session_answer (endsD Q) (startD mc_Session_answer.N ds) M := by
  obtain ⟨s, bs, rfl, ⟨v, q', h1, h2, h3⟩, q⟩ := h
  rw [show startD mc_Session_answer.N [.ref s, .str "log"] = [some (.ref s), some (.str "log")] from rfl, b_Session_answer, wpB_cons]
  simp
  rw [if_neg (by decide +kernel), wpB_nil]
  try dsimp only
  rw [wpB_cons]
  simp
  rw [if_neg (by decide +kernel), wpB_nil]
  try dsimp only
  rw [wpB_cons]
  simp
  rw [wpB_cons]
  simp
  refine att_ins h1 (by decide) rfl ?_
  refine ⟨by simp [isIns, h2, viewF]; rintro a b (⟨rfl, _⟩ | ⟨rfl, _⟩) <;> decide +kernel, v, q', [], bs, [], rfl, h2, h3, trivial, by decide, ?_⟩
  refine ⟨[], 0, rfl, (fun p hp => by cases hp), (fun p hp => by cases hp), by decide, by decide, ?_⟩
  have e : ms (logT []) = Str.ofString "-" := by rw [lit_minus]; rfl
  rw [e]
  exact Fin.same q
def spRun : DSp := fun ds M Q E => ∃ (s : Addr) (bs : List Int) (d : D), ds = [.ref s, d] ∧ SesR M s bs ∧ ((d = .str "log" ∧ Q (.str "-") M) ∨ (NoStr d ∧ E ⟨"BadLine", [("line", d)]⟩ M))
def mi_Session_run : MI := ⟨"Session", "run", 2, spRun⟩
@[simp] theorem mi_Session_run_sp : mi_Session_run.sp = spRun := rfl
@[simp] theorem mi_Session_run_cls : mi_Session_run.cls = "Session" := rfl
@[simp] theorem mi_Session_run_name : mi_Session_run.name = "run" := rfl
def kx_Session_run : KX := ⟨[xi_BadLine], [], [], [], [], []⟩
def cx_Session_run : Ctx := ⟨[], [gi_BLANK, gi_PARTS_sessions, gi_PRESENT_WORDS], [ai_viewer], [mi_Session_answer], kx_Session_run⟩
@[simp] theorem cx_Session_run_r0 : cx_Session_run.ex.rs[0]? = some xi_BadLine := rfl
@[simp] theorem cx_Session_run_xs : cx_Session_run.ex.xs = [] := rfl
@[simp] theorem cx_Session_run_cl : cx_Session_run.ex.cl = [] := rfl
@[simp] theorem cx_Session_run_a0 : cx_Session_run.as[0]? = some ai_viewer := rfl
@[simp] theorem cx_Session_run_m0 : cx_Session_run.ms[0]? = some mi_Session_answer := rfl
@[simp] theorem cx_Session_run_g0 : cx_Session_run.gs[0]? = some gi_BLANK := rfl
@[simp] theorem cx_Session_run_g1 : cx_Session_run.gs[1]? = some gi_PARTS_sessions := rfl
@[simp] theorem cx_Session_run_g2 : cx_Session_run.gs[2]? = some gi_PRESENT_WORDS := rfl
theorem wp_Session_run {ds : List D} {M : Mp} {Q : QE} {E' : XD → Mp → Prop} (h : spRun ds M Q E') : wpB cx_Session_run (fun x _ M => E' x M) b_Session_run (endsD Q) (startD mc_Session_run.N ds) M := by
  obtain ⟨s, bs, d, rfl, hR, h⟩ := h
  rw [show startD mc_Session_run.N [.ref s, d] = [some (.ref s), some d, none] from rfl, b_Session_run, wpB_cons]
  simp
  rcases h with ⟨rfl, q⟩ | ⟨hn, e⟩
  · have hR2 := hR
    obtain ⟨v, q', h1, h2, h3⟩ := hR2
    simp [isiD, tyD, isTy, Ty.ty]
    rw [wpB_nil]
    try dsimp only
    rw [wpB_cons]
    simp
    have e1 : Txt.split (Str.ofString "log") (Str.ofString " ") = [Str.ofString "log"] := by
      rw [lit_blank, split_ms]
      decide +kernel
    rw [e1]
    refine ⟨rfl, by decide +kernel, by decide +kernel, ?_⟩
    try dsimp only
    rw [wpB_cons]
    simp
    rw [wpB_nil]
    try dsimp only
    rw [wpB_cons]
    simp
    refine ⟨rfl, ⟨rfl, rfl, rfl, rfl⟩, ?_⟩
    rw [if_neg (by decide +kernel), wpB_nil]
    try dsimp only
    rw [wpB_cons]
    simp
    refine ⟨by simp [isIns, h1, sesF]; rintro a b (⟨rfl, _⟩ | ⟨rfl, _⟩) <;> decide +kernel, s, bs, rfl, hR, Fin.same q⟩
  · refine isi_no hn ?_
    simp
    rw [wpB_cons]
    simp [XI.fs]
    exact e
/-! ### the lambdas -/
/-- whatever is asked, it is refused -/
def errL (x : XD) (M : Mp) (E : XD → Mp → Prop) : Prop := ∀ M', M.Sub M' → E x M'
def spLam0 : List D → DSp := fun caps ds M Q E => ∃ d : D, ds = [] ∧ caps = [d] ∧ NoStr d ∧ errL ⟨"BadText", [("word", .int 0)]⟩ M E
def spLam1 : List D → DSp := fun caps ds M Q E => ∃ (bs : List Int) (d : D), ds = [] ∧ caps = [pt bs, d] ∧ bs.length ≤ 1000 ∧ NoStr d ∧ errL ⟨"BadText", [("word", .int 0)]⟩ M E
def spLam5 : List D → DSp := fun caps ds M Q E => ∃ (s : Addr) (bs : List Int) (d : D), ds = [] ∧ caps = [d, .ref s] ∧ SesR M s bs ∧ NoStr d ∧ errL ⟨"BadLine", [("line", d)]⟩ M E
def ci_lam0 : CI := ⟨0, spLam0⟩
@[simp] theorem ci_lam0_sp : ci_lam0.sp = spLam0 := rfl
@[simp] theorem ci_lam0_id : ci_lam0.id = 0 := rfl
def ci_lam1 : CI := ⟨1, spLam1⟩
@[simp] theorem ci_lam1_sp : ci_lam1.sp = spLam1 := rfl
@[simp] theorem ci_lam1_id : ci_lam1.id = 1 := rfl
def ci_lam2 : CI := ⟨2, spLam1⟩
@[simp] theorem ci_lam2_sp : ci_lam2.sp = spLam1 := rfl
@[simp] theorem ci_lam2_id : ci_lam2.id = 2 := rfl
def ci_lam3 : CI := ⟨3, spLam0⟩
@[simp] theorem ci_lam3_sp : ci_lam3.sp = spLam0 := rfl
@[simp] theorem ci_lam3_id : ci_lam3.id = 3 := rfl
def ci_lam4 : CI := ⟨4, spLam1⟩
@[simp] theorem ci_lam4_sp : ci_lam4.sp = spLam1 := rfl
@[simp] theorem ci_lam4_id : ci_lam4.id = 4 := rfl
def ci_lam5 : CI := ⟨5, spLam5⟩
@[simp] theorem ci_lam5_sp : ci_lam5.sp = spLam5 := rfl
@[simp] theorem ci_lam5_id : ci_lam5.id = 5 := rfl
def cx_lam0 : Ctx := ⟨[fi_read_box], [], [], [], kx0⟩
@[simp] theorem cx_lam0_0 : cx_lam0.fs[0]? = some fi_read_box := rfl
def cx_lam1 : Ctx := ⟨[fi_read_position], [], [], [], kx0⟩
@[simp] theorem cx_lam1_0 : cx_lam1.fs[0]? = some fi_read_position := rfl
def cx_lam2 : Ctx := ⟨[fi_read_log], [], [], [], kx0⟩
@[simp] theorem cx_lam2_0 : cx_lam2.fs[0]? = some fi_read_log := rfl
def cx_lam3 : Ctx := ⟨[fi_Session], [], [], [], kx0⟩
@[simp] theorem cx_lam3_0 : cx_lam3.fs[0]? = some fi_Session := rfl
def cx_lam4 : Ctx := ⟨[fi_read_plan], [], [], [], kx0⟩
@[simp] theorem cx_lam4_0 : cx_lam4.fs[0]? = some fi_read_plan := rfl
def cx_lam5 : Ctx := ⟨[], [], [], [mi_Session_run], kx0⟩
@[simp] theorem cx_lam5_m0 : cx_lam5.ms[0]? = some mi_Session_run := rfl
theorem wp_lam0 {caps ds : List D} {M : Mp} {Q : QE} {E' : XD → Mp → Prop} (h : spLam0 caps ds M Q E') : wpE cx_lam0 ce_lam0 (fun x _ M => E' x M) (startC mc_lam0.N ds caps) M Q := by
  obtain ⟨d, rfl, rfl, hn, e⟩ := h
  rw [show startC mc_lam0.N [] [d] = [some d] from rfl, ce_lam0]
  simp
  exact ⟨d, rfl, .inr ⟨hn, e _ Mp.Sub.refl⟩⟩
theorem wp_lam1 {caps ds : List D} {M : Mp} {Q : QE} {E' : XD → Mp → Prop} (h : spLam1 caps ds M Q E') : wpE cx_lam1 ce_lam1 (fun x _ M => E' x M) (startC mc_lam1.N ds caps) M Q := by
  obtain ⟨bs, d, rfl, rfl, hl, hn, e⟩ := h
  rw [show startC mc_lam1.N [] [pt bs, d] = [some (pt bs), some d] from rfl, ce_lam1]
  simp
  exact ⟨_, d, rfl, hn, e _ Mp.Sub.refl⟩
theorem wp_lam2 {caps ds : List D} {M : Mp} {Q : QE} {E' : XD → Mp → Prop} (h : spLam1 caps ds M Q E') : wpE cx_lam2 ce_lam2 (fun x _ M => E' x M) (startC mc_lam2.N ds caps) M Q := by
  obtain ⟨bs, d, rfl, rfl, hl, hn, e⟩ := h
  rw [show startC mc_lam2.N [] [pt bs, d] = [some (pt bs), some d] from rfl, ce_lam2]
  simp
  exact ⟨_, d, rfl, hn, e _ Mp.Sub.refl⟩
theorem wp_lam3 {caps ds : List D} {M : Mp} {Q : QE} {E' : XD → Mp → Prop} (h : spLam0 caps ds M Q E') : wpE cx_lam3 ce_lam3 (fun x _ M => E' x M) (startC mc_lam3.N ds caps) M Q := by
  obtain ⟨d, rfl, rfl, hn, e⟩ := h
  rw [show startC mc_lam3.N [] [d] = [some d] from rfl, ce_lam3]
  simp
  exact ⟨d, rfl, .inr ⟨hn, e⟩⟩
theorem wp_lam4 {caps ds : List D} {M : Mp} {Q : QE} {E' : XD → Mp → Prop} (h : spLam1 caps ds M Q E') : wpE cx_lam4 ce_lam4 (fun x _ M => E' x M) (startC mc_lam4.N ds caps) M Q := by
  obtain ⟨bs, d, rfl, rfl, hl, hn, e⟩ := h
  rw [show startC mc_lam4.N [] [pt bs, d] = [some (pt bs), some d] from rfl, ce_lam4]
  simp
  exact ⟨by decide, ⟨by omega, by omega, by decide⟩, by decide, _, _, d, rfl, hn, e _ Mp.Sub.refl⟩
theorem wp_lam5 {caps ds : List D} {M : Mp} {Q : QE} {E' : XD → Mp → Prop} (h : spLam5 caps ds M Q E') : wpE cx_lam5 ce_lam5 (fun x _ M => E' x M) (startC mc_lam5.N ds caps) M Q := by
  obtain ⟨s, bs, d, rfl, rfl, hR, hn, e⟩ := h
  have hR2 := hR
  obtain ⟨v, q', h1, h2, h3⟩ := hR2
  rw [show startC mc_lam5.N [] [d, .ref s] = [some d, some (.ref s)] from rfl, ce_lam5]
  simp
  refine ⟨by simp [isIns, h1, sesF]; rintro a b (⟨rfl, _⟩ | ⟨rfl, _⟩) <;> decide +kernel, s, bs, d, rfl, hR, .inr ⟨hn, e _ Mp.Sub.refl⟩⟩
def clL : List CI := [ci_lam0, ci_lam1, ci_lam2, ci_lam3, ci_lam4, ci_lam5]
theorem lams_mono : ∀ ci ∈ clL, ∀ caps ds M (Q1 Q2 : QE) (E1 E2 : XD → Mp → Prop), (∀ d M, Q1 d M → Q2 d M) → (∀ x M, E1 x M → E2 x M) → ci.sp caps ds M Q1 E1 → ci.sp caps ds M Q2 E2 := fun ci hci caps ds M Q1 Q2 E1 E2 hq he z => by
  simp only [clL, List.mem_cons, List.not_mem_nil, or_false] at hci
  rcases hci with rfl | rfl | rfl | rfl | rfl | rfl
  · obtain ⟨d, h1, h2, h3, h4⟩ := z
    exact ⟨d, h1, h2, h3, fun M' hS => he _ _ (h4 M' hS)⟩
  · obtain ⟨bs, d, h1, h2, h3, h4, h5⟩ := z
    exact ⟨bs, d, h1, h2, h3, h4, fun M' hS => he _ _ (h5 M' hS)⟩
  · obtain ⟨bs, d, h1, h2, h3, h4, h5⟩ := z
    exact ⟨bs, d, h1, h2, h3, h4, fun M' hS => he _ _ (h5 M' hS)⟩
  · obtain ⟨d, h1, h2, h3, h4⟩ := z
    exact ⟨d, h1, h2, h3, fun M' hS => he _ _ (h4 M' hS)⟩
  · obtain ⟨bs, d, h1, h2, h3, h4, h5⟩ := z
    exact ⟨bs, d, h1, h2, h3, h4, fun M' hS => he _ _ (h5 M' hS)⟩
  · obtain ⟨s, bs, d, h1, h2, h3, h4, h5⟩ := z
    exact ⟨s, bs, d, h1, h2, h3, h4, fun M' hS => he _ _ (h5 M' hS)⟩
def xsL : List XI := [xi_BadText, xi_BadLine]
def kx_q_caught : KX := ⟨[], [xi_BadText, xi_BadLine], ["WindowError"], [ci_lam0, ci_lam1, ci_lam2, ci_lam3, ci_lam4, ci_lam5], [], []⟩
def cx_q_caught : Ctx := ⟨[], [], [], [], kx_q_caught⟩
@[simp] theorem cx_q_caught_c0 : cx_q_caught.ex.cl[0]? = some ci_lam0 := rfl
@[simp] theorem cx_q_caught_c1 : cx_q_caught.ex.cl[1]? = some ci_lam1 := rfl
@[simp] theorem cx_q_caught_c2 : cx_q_caught.ex.cl[2]? = some ci_lam2 := rfl
@[simp] theorem cx_q_caught_c3 : cx_q_caught.ex.cl[3]? = some ci_lam3 := rfl
@[simp] theorem cx_q_caught_c4 : cx_q_caught.ex.cl[4]? = some ci_lam4 := rfl
@[simp] theorem cx_q_caught_c5 : cx_q_caught.ex.cl[5]? = some ci_lam5 := rfl
@[simp] theorem cx_q_caught_xs : cx_q_caught.ex.xs = [xi_BadText, xi_BadLine] := rfl
@[simp] theorem cx_q_caught_cl : cx_q_caught.ex.cl = [ci_lam0, ci_lam1, ci_lam2, ci_lam3, ci_lam4, ci_lam5] := rfl
def spCaught : DSp := spCaughtV xsL clL
def fi_q_caught : FI := ⟨"_law_caught", 1, spCaught⟩
@[simp] theorem fi_q_caught_sp : fi_q_caught.sp = spCaught := rfl
theorem wp_q_caught {E : EX} {ds : List D} {M : Mp} {Q : QE} {E' : XD → Mp → Prop} (h : spCaught ds M Q E') : wpB cx_q_caught E b_q_caught (endsD Q) (startD mc_q_caught.N ds) M := by
  have h2 := h
  obtain ⟨f, ci, caps, cs, rfl, _⟩ := h2
  exact wp_caughtV (C := cx_q_caught) (xs := xsL) (cl := clL) (ds := [.ref f]) rfl rfl lams_mono h
/-- a refused lambda, handed on as it is -/
def spRefused : DSp := fun ds M Q _ => ∃ (f : Addr) (ci : CI) (caps : List D) (ks : List Addr), ds = [.ref f] ∧ M f = some (.clo ci.id caps ks) ∧ ci ∈ clL ∧
  ci.sp caps [] (M.dropC f ks) (fun _ _ => False) (fun x M' => x = ⟨"BadText", [("word", .int 0)]⟩ ∧ ∀ a, (M.resC f ks M') a = none → Q (.bl true) ((M.resC f ks M').upd a (.exc x.cls x.fs)))
def fi_q_is_refused : FI := ⟨"_law_is_refused", 1, spRefused⟩
@[simp] theorem fi_q_is_refused_sp : fi_q_is_refused.sp = spRefused := rfl
def kx_q_is_refused : KX := ⟨[], [xi_BadText, xi_BadLine], ["BadBox", "BadLine", "BadText"], [], [], []⟩
def cx_q_is_refused : Ctx := ⟨[fi_q_caught], [], [], [], kx_q_is_refused⟩
@[simp] theorem cx_q_is_refused_xs : cx_q_is_refused.ex.xs = [xi_BadText, xi_BadLine] := rfl
@[simp] theorem cx_q_is_refused_cl : cx_q_is_refused.ex.cl = [] := rfl
@[simp] theorem cx_q_is_refused_0 : cx_q_is_refused.fs[0]? = some fi_q_caught := rfl
theorem wp_q_is_refused {E : EX} {ds : List D} {M : Mp} {Q : QE} {E' : XD → Mp → Prop} (h : spRefused ds M Q E') : wpB cx_q_is_refused E b_q_is_refused (endsD Q) (startD mc_q_is_refused.N ds) M := by
  obtain ⟨f, ci, caps, ks, rfl, hf, hci, q⟩ := h
  rw [show startD mc_q_is_refused.N [.ref f] = [some (.ref f), none] from rfl, b_q_is_refused, wpB_cons]
  simp
  refine ⟨f, ci, caps, ks, rfl, hf, hci, lams_mono ci hci _ _ _ _ _ _ _ (fun d M' z => z.elim) (fun x M' z => ?_) q⟩
  obtain ⟨rfl, z⟩ := z
  refine ⟨⟨xi_BadText, by simp [xsL], rfl⟩, fun a ha => ?_⟩
  have z := z a ha
  try dsimp only at z ⊢
  rw [wpB_cons]
  simp [isXD, xatD, excIn, excSub, xsL]
  rw [if_pos (by decide +kernel)]
  refine ⟨⟨by decide +kernel, by decide +kernel, by decide +kernel, by decide +kernel⟩, ?_⟩
  rw [decide_eq_true (by decide +kernel)]
  exact Fin.same z
theorem refused_lam {ci : CI} {caps : List D} {M : Mp} {Q : QE} {E'' : XD → Mp → Prop} {a : Addr} {ks : List Addr} (hci : ci ∈ clL) (hsp : ∀ M E, errL ⟨"BadText", [("word", .int 0)]⟩ M E → ci.sp caps [] M (fun _ _ => False) E)
    (ha : M a = none) (hd : NoCl M ks) (q : ∀ M', M.Sub (M'.dropC a ks) → Q (.bl true) M') : spRefused [.ref a] (M.upd a (.clo ci.id caps ks)) Q E'' := by
  refine ⟨a, ci, caps, ks, rfl, Mp.upd_same, hci, ?_⟩
  rw [dropC_clo ha hd]
  refine hsp _ _ fun M' hS => ⟨rfl, fun a2 h2 => ?_⟩
  rw [resC_clo hd] at h2 ⊢
  have ne : a2 ≠ a := fun z => by rw [z, Mp.upd_same] at h2; cases h2
  refine q _ (sub_dropC (fun b o e => ?_) ha hd)
  have hb : b ≠ a := fun z => by rw [z, ha] at e; cases e
  have h3 : (M'.upd a (.clo ci.id caps ks)) b = some o := by rw [Mp.upd_ne hb]; exact hS b o e
  rw [Mp.upd_ne (fun z => by rw [z, h2] at h3; cases h3)]
  exact h3
theorem caught_err {ci : CI} {caps : List D} {x : XD} {M : Mp} {Q : QE} {E'' : XD → Mp → Prop} {a : Addr} {ks : List Addr} (hci : ci ∈ clL) (hx : ∃ xi ∈ xsL, xi.name = x.cls) (hsp : ∀ Q E, errL x M E → ci.sp caps [] M Q E)
    (ha : M a = none) (hd : NoCl M ks) (q : ∀ M' a2, (M'.dropC a ks) a2 = some (.exc x.cls x.fs) → M.Sub (M'.dropC a ks) → Q (.ref a2) M') : spCaught [.ref a] (M.upd a (.clo ci.id caps ks)) Q E'' := by
  refine ⟨a, ci, caps, ks, rfl, Mp.upd_same, hci, ?_⟩
  rw [dropC_clo ha hd]
  refine hsp _ _ fun M' hS => ⟨hx, fun a2 h2 => ?_⟩
  rw [resC_clo hd] at h2 ⊢
  have ne : a2 ≠ a := fun z => by rw [z, Mp.upd_same] at h2; cases h2
  refine q _ a2 (by unfold Mp.dropC; rw [if_neg ne, Mp.upd_same]) (sub_dropC (fun b o e => ?_) ha hd)
  have hb : b ≠ a := fun z => by rw [z, ha] at e; cases e
  have h3 : (M'.upd a (.clo ci.id caps ks)) b = some o := by rw [Mp.upd_ne hb]; exact hS b o e
  rw [Mp.upd_ne (fun z => by rw [z, h2] at h3; cases h3)]
  exact h3
def spRight : DSp := fun ds M Q _ => ∃ (s : Addr) (bs : List Int) (d : D), ds = [.ref s, pt bs, d] ∧ SesR M s bs ∧ bs.length ≤ 1000 ∧ NoStr d ∧ ShowOk d ∧ ∀ M', M.Sub M' → Q (.bl true) M'
def fi_q_right : FI := ⟨"_law_right", 3, spRight⟩
@[simp] theorem fi_q_right_sp : fi_q_right.sp = spRight := rfl
def kx_q_right : KX := ⟨[], [xi_BadText, xi_BadLine], ["BadText", "BadBox", "BadLine"], [ci_lam0, ci_lam1, ci_lam2, ci_lam3, ci_lam4, ci_lam5], [fi_q_is_refused, fi_q_caught], []⟩
def cx_q_right : Ctx := ⟨[], [], [], [mi_Session_run], kx_q_right⟩
@[simp] theorem cx_q_right_c0 : cx_q_right.ex.cl[0]? = some ci_lam0 := rfl
@[simp] theorem cx_q_right_c1 : cx_q_right.ex.cl[1]? = some ci_lam1 := rfl
@[simp] theorem cx_q_right_c2 : cx_q_right.ex.cl[2]? = some ci_lam2 := rfl
@[simp] theorem cx_q_right_c3 : cx_q_right.ex.cl[3]? = some ci_lam3 := rfl
@[simp] theorem cx_q_right_c4 : cx_q_right.ex.cl[4]? = some ci_lam4 := rfl
@[simp] theorem cx_q_right_c5 : cx_q_right.ex.cl[5]? = some ci_lam5 := rfl
@[simp] theorem cx_q_right_l0 : cx_q_right.ex.lf[0]? = some fi_q_is_refused := rfl
@[simp] theorem cx_q_right_l1 : cx_q_right.ex.lf[1]? = some fi_q_caught := rfl
@[simp] theorem cx_q_right_xs : cx_q_right.ex.xs = [xi_BadText, xi_BadLine] := rfl
@[simp] theorem cx_q_right_cl : cx_q_right.ex.cl = [ci_lam0, ci_lam1, ci_lam2, ci_lam3, ci_lam4, ci_lam5] := rfl
@[simp] theorem cx_q_right_m0 : cx_q_right.ms[0]? = some mi_Session_run := rfl
theorem wp_q_right {E : EX} {ds : List D} {M : Mp} {Q : QE} {E' : XD → Mp → Prop} (h : spRight ds M Q E') : wpB cx_q_right E b_q_right (endsD Q) (startD mc_q_right.N ds) M := by
  obtain ⟨s, bs, d, rfl, hR, hbl, hn, hsh, q⟩ := h
  rw [show startD mc_q_right.N [.ref s, pt bs, d] = [some (.ref s), some (pt bs), some d, none, none, none] from rfl, b_q_right, wpB_cons]
  simp
  refine ⟨hsh, ?_⟩
  try dsimp only
  rw [wpB_cons]
  simp [capsD]
  intro a0 k0 ha0 hc0 hn0
  refine refused_lam (ci := ci_lam0) (caps := [d]) (by simp [clL]) (fun M E z => ⟨d, rfl, rfl, hn, z⟩) ha0 hn0 (fun M1 hS1 => ?_)
  refine ⟨by decide, fun p hp => ?_⟩
  have hR1 := hR.mono hS1
  obtain ⟨M2, hM2⟩ : ∃ M2, M2 = (M1.dropC a0 k0).upd p (.lst [.bl true]) := ⟨_, rfl⟩
  rw [← hM2]
  have keep : ∀ (Ma Mb : Mp) (l : List D), M.Sub Ma → Ma.Sub Mb → M.Sub (Mb.upd p (.lst l)) := fun Ma Mb l h1 h2 b o e => by
    have hb : b ≠ p := fun z => by rw [z] at e; rw [hS1 _ _ e] at hp; cases hp
    rw [Mp.upd_ne hb]
    exact h2 _ _ (h1 _ _ e)
  have hS2 : M.Sub M2 := by rw [hM2]; exact keep _ _ _ hS1 Mp.Sub.refl
  have hp2 : M2 p = some (.lst [.bl true]) := by rw [hM2]; exact Mp.upd_same
  clear hM2
  rw [wpB_cons]
  simp [capsD]
  refine ⟨by rw [hp2]; rfl, fun a2 k2 ha2 hc2 hn2 => ?_⟩
  refine refused_lam (ci := ci_lam1) (caps := [pt bs, d]) (by simp [clL]) (fun M E z => ⟨bs, d, rfl, rfl, hbl, hn, z⟩) ha2 hn2 (fun Mx2 hSx2 => ?_)
  have hpx2 : (Mx2.dropC a2 k2) p = some (.lst [.bl true]) := hSx2 _ _ hp2
  simp [hpx2]
  refine ⟨by decide, ?_⟩
  obtain ⟨M3, hM3⟩ : ∃ M3, M3 = (Mx2.dropC a2 k2).upd p (.lst ([.bl true, .bl true])) := ⟨_, rfl⟩
  rw [← hM3]
  have hS3 : M.Sub M3 := by rw [hM3]; exact keep _ _ _ hS2 hSx2
  have hp3 : M3 p = some (.lst [.bl true, .bl true]) := by rw [hM3]; exact Mp.upd_same
  clear hM3
  rw [wpB_cons]
  simp [capsD]
  refine ⟨by rw [hp3]; rfl, fun a3 k3 ha3 hc3 hn3 => ?_⟩
  refine refused_lam (ci := ci_lam2) (caps := [pt bs, d]) (by simp [clL]) (fun M E z => ⟨bs, d, rfl, rfl, hbl, hn, z⟩) ha3 hn3 (fun Mx3 hSx3 => ?_)
  have hpx3 : (Mx3.dropC a3 k3) p = some (.lst [.bl true, .bl true]) := hSx3 _ _ hp3
  simp [hpx3]
  refine ⟨by decide, ?_⟩
  obtain ⟨M4, hM4⟩ : ∃ M4, M4 = (Mx3.dropC a3 k3).upd p (.lst ([.bl true, .bl true, .bl true])) := ⟨_, rfl⟩
  rw [← hM4]
  have hS4 : M.Sub M4 := by rw [hM4]; exact keep _ _ _ hS3 hSx3
  have hp4 : M4 p = some (.lst [.bl true, .bl true, .bl true]) := by rw [hM4]; exact Mp.upd_same
  clear hM4
  rw [wpB_cons]
  simp [capsD]
  refine ⟨by rw [hp4]; rfl, fun a4 k4 ha4 hc4 hn4 => ?_⟩
  refine refused_lam (ci := ci_lam3) (caps := [d]) (by simp [clL]) (fun M E z => ⟨d, rfl, rfl, hn, z⟩) ha4 hn4 (fun Mx4 hSx4 => ?_)
  have hpx4 : (Mx4.dropC a4 k4) p = some (.lst [.bl true, .bl true, .bl true]) := hSx4 _ _ hp4
  simp [hpx4]
  refine ⟨by decide, ?_⟩
  obtain ⟨M5, hM5⟩ : ∃ M5, M5 = (Mx4.dropC a4 k4).upd p (.lst ([.bl true, .bl true, .bl true, .bl true])) := ⟨_, rfl⟩
  rw [← hM5]
  have hS5 : M.Sub M5 := by rw [hM5]; exact keep _ _ _ hS4 hSx4
  have hp5 : M5 p = some (.lst [.bl true, .bl true, .bl true, .bl true]) := by rw [hM5]; exact Mp.upd_same
  clear hM5
  rw [wpB_cons]
  simp [capsD]
  refine ⟨by rw [hp5]; rfl, fun a5 k5 ha5 hc5 hn5 => ?_⟩
  refine refused_lam (ci := ci_lam4) (caps := [pt bs, d]) (by simp [clL]) (fun M E z => ⟨bs, d, rfl, rfl, hbl, hn, z⟩) ha5 hn5 (fun Mx5 hSx5 => ?_)
  have hpx5 : (Mx5.dropC a5 k5) p = some (.lst [.bl true, .bl true, .bl true, .bl true]) := hSx5 _ _ hp5
  simp [hpx5]
  refine ⟨by decide, ?_⟩
  obtain ⟨M6, hM6⟩ : ∃ M6, M6 = (Mx5.dropC a5 k5).upd p (.lst ([.bl true, .bl true, .bl true, .bl true, .bl true])) := ⟨_, rfl⟩
  rw [← hM6]
  have hS6 : M.Sub M6 := by rw [hM6]; exact keep _ _ _ hS5 hSx5
  have hp6 : M6 p = some (.lst [.bl true, .bl true, .bl true, .bl true, .bl true]) := by rw [hM6]; exact Mp.upd_same
  clear hM6
  rw [wpB_cons]
  simp [hp6]
  have hS7 : M.Sub (M6.del p) := fun b o e => by
    have hb : b ≠ p := fun z => by rw [z] at e; rw [hS1 _ _ e] at hp; cases hp
    rw [Mp.del_ne hb]
    exact hS6 _ _ e
  obtain ⟨M7, hM7⟩ : ∃ M7, M7 = M6.del p := ⟨_, rfl⟩
  rw [← hM7] at hS7 ⊢
  clear hM7
  rw [wpB_cons]
  simp [capsD]
  intro a7 k7 ha7 hc7 hn7
  refine caught_err (ci := ci_lam5) (caps := [d, .ref s]) (x := ⟨"BadLine", [("line", d)]⟩) (by simp [clL]) ⟨xi_BadLine, by simp [xsL], rfl⟩ (fun Q E z => ⟨s, bs, d, rfl, rfl, hR.mono hS7, hn, z⟩) ha7 hn7 (fun M8 a8 h8 hS8 => ?_)
  try dsimp only at h8
  rw [wpB_cons]
  simp [isXD, xatD, excIn, excSub, h8, xsL]
  rw [if_neg (by decide +kernel)]
  refine ⟨hsh, ?_⟩
  rw [wpB_nil]
  try dsimp only
  have hS9 : M.Sub (M8.dropC a7 k7) := fun b o e => hS8 _ _ (hS7 _ _ e)
  have hR9 := hR.mono hS9
  have hR9' := hR9
  obtain ⟨v, q', h1, h2, h3⟩ := hR9'
  rw [wpB_cons]
  simp
  refine ⟨by decide, ⟨by omega, by omega, by decide⟩, ⟨⟨by decide +kernel, by decide +kernel⟩, ⟨by decide +kernel, by decide +kernel⟩, ?_⟩⟩
  rw [show (false ^^ eqB (D.lst [D.bl true, D.bl true, D.bl true, D.bl true, D.bl true]) (D.lst [D.bl true, D.bl true, D.bl true, D.bl true, D.bl true])) = true from by decide +kernel]
  dsimp only
  rw [if_pos rfl]
  refine ⟨hsh, by simp [isIns, h1, sesF]; rintro a b (⟨rfl, _⟩ | ⟨rfl, _⟩) <;> decide +kernel, s, bs, _, rfl, hR9, .inl ⟨rfl, ?_⟩⟩
  simp
  exact Fin.same (q _ hS9)
/-! ### odd values -/
theorem _root_.Ow.Shw.dct1 {m k b : Nat} {d : D} (h : Shw m d k b) : Shw m (.dct [.inr "a"] [d]) (k + 1) (b + 3) := by
  have hk : keyPy (.inr "a") = PyData.str "a" := rfl
  have e : (D.dct [.inr "a"] [d]).py = .dict [(.str "a", d.py)] := by simp [D.py, D.pys, hk]
  refine ⟨?_, ?_, ?_, ?_, ?_⟩
  · show (decide (1 = 1) && (d.flx && true)) = true
    rw [h.flat]; rfl
  · rw [e]; simp only [PyData.showable, PyData.showableKv, h.sh]; rfl
  · rw [e]; simp only [PyData.depth, PyData.depthKv]; have := h.dp; omega
  · rw [e]; simp only [PyData.leavesShort, PyData.leavesShortKv, h.lv]; decide +kernel
  · rw [e]; simp only [PyData.bulk, PyData.bulkKv]
    have := h.bk
    have h1 : (Str.ofString "a").cps.size = 1 := by decide +kernel
    omega
def spOdd : DSp := fun ds M Q _ => ∃ (u : Addr) (n : Nat), ds = [.ref u] ∧ Urn M u n ∧ n < 2 ^ 40 ∧ ∀ d M', ShowOk d → Urn M' u (n + 100) → Only M M' u → Q d M'
def fi_q_odd : FI := ⟨"_law_odd", 1, spOdd⟩
@[simp] theorem fi_q_odd_sp : fi_q_odd.sp = spOdd := rfl
def cx_q_odd : Ctx := ⟨[fi_pick, fi_take], [], [], [], kx0⟩
@[simp] theorem cx_q_odd_0 : cx_q_odd.fs[0]? = some fi_pick := rfl
@[simp] theorem cx_q_odd_1 : cx_q_odd.fs[1]? = some fi_take := rfl
def oddL : List D := [.non, .bl true, .bl false, .int 0, .int 1, .int 3, .int (-1), .int 1000000000000, .str "", .str "0", .str "a", .tup [], .tup [.int 0], .tup [.non], .lst [], .lst [.int 0], .dct [] [], .dct [.inr "a"] [.int 1]]
theorem odd_shw : ∀ d ∈ oddL, Shw 20 d 4 30 := by
  unfold oddL
  repeat (refine List.forall_mem_cons.mpr ⟨⟨by decide +kernel, by decide +kernel, by decide +kernel, by decide +kernel, by decide +kernel⟩, ?_⟩)
  intro d hd
  cases hd
theorem wp_q_odd {E : EX} {ds : List D} {M : Mp} {Q : QE} {E' : XD → Mp → Prop} (h : spOdd ds M Q E') : wpB cx_q_odd E b_q_odd (endsD Q) (startD mc_q_odd.N ds) M := by
  obtain ⟨u, n, rfl, hU, hn, q⟩ := h
  rw [show startD mc_q_odd.N [.ref u] = [some (.ref u), none, none, none] from rfl, b_q_odd, wpB_cons]
  simp
  refine ⟨.of (by decide) 12 (by decide) (by decide), by decide, fun p hp => ⟨by decide, ?_⟩⟩
  rw [Mp.del_upd hp, wpB_cons]
  simp
  refine ⟨u, _, _, _, rfl, .inl rfl, by simp, by simp, hU, by omega, fun d M1 hd hU1 ho1 => ?_⟩
  have hd := odd_shw d hd
  try dsimp only
  rw [wpB_cons]
  simp
  refine ⟨by decide, u, _, _, _, rfl, .inl rfl, by simp, by simp, hU1, by omega, fun d2 M2 hd2 hU2 ho2 => ?_⟩
  obtain ⟨k, rfl, hk⟩ : ∃ k : Nat, d2 = .int (k : Int) ∧ k ≤ 28 := by
    simp at hd2
    rcases hd2 with rfl | rfl | rfl | rfl
    · exact ⟨0, rfl, by decide⟩
    · exact ⟨1, rfl, by decide⟩
    · exact ⟨2, rfl, by decide⟩
    · exact ⟨28, rfl, by decide⟩
  simp [itD]
  refine ⟨⟨by omega, by omega⟩, ?_⟩
  refine forD_pre (fun (i : Nat) => D.int (i : Int)) (fun pre ρ M3 => Urn M3 u (n + 2 + pre.length) ∧ Only M M3 u ∧ ∃ x1 d3 x3, ρ = [some (.ref u), x1, some d3, x3] ∧ Shw 20 d3 (4 + pre.length) (30 + 3 * pre.length)) (fun _ => True.intro) (fun pre j post ρ M3 e hI nx hnx => ?_) (fun ρ M3 hI => ?_) ⟨hU2, ho1.trans ho2, _, _, _, rfl, hd⟩
  · obtain ⟨hU3, ho3, x1, d3, x3, rfl, hd3⟩ := hI
    have hj := range_at e
    simp
    rw [wpB_cons]
    simp
    refine ⟨by decide, fun p hp => ⟨by decide, ?_⟩⟩
    rw [Mp.del_upd hp]
    refine ⟨u, 3, _, rfl, by decide, by decide, hU3, by omega, fun r M4 r0 r1 hU4 ho4 => ?_⟩
    have fin : ∀ d4, Shw 20 d4 (4 + pre.length + 1) (30 + 3 * pre.length + 3) → wpB cx_q_odd E [] { nx := nx, rt := (endsD Q).rt, bk := fun ρ' M' => wpB cx_q_odd E [CS.ret (CE.var 2)] (endsD Q) ρ' M', ct := nx } [some (D.ref u), x1, some d4, some (D.int (j : Int))] M4 := fun d4 h4 => by
      rw [wpB_nil]
      refine hnx _ _ ⟨?_, ho3.trans ho4, _, _, _, rfl, ?_⟩
      · rw [List.length_append, List.length_singleton]
        exact hU4.mono (by omega)
      · rw [List.length_append, List.length_singleton]
        exact h4.mono (by omega) (by omega)
    obtain ⟨m, rfl⟩ := Int.eq_ofNat_of_zero_le r0
    have h3 : m = 0 ∨ m = 1 ∨ m = 2 := by omega
    have one : ∀ x ∈ [d3], Shw 20 x (4 + pre.length) (30 + 3 * pre.length) := fun x hx => by rw [List.mem_singleton] at hx; subst hx; exact hd3
    rcases h3 with rfl | rfl | rfl
    · exact fin _ ((Shw.tup (n := 1) one (by simp)).mono (by omega) (by omega))
    · exact fin _ ((Shw.lst (n := 1) one (by simp)).mono (by omega) (by omega))
    · exact fin _ (hd3.dct1.mono (by omega) (by omega))
  · obtain ⟨hU3, ho3, x1, d3, x3, rfl, hd3⟩ := hI
    rw [List.length_range] at hd3 hU3
    show wpB _ _ _ _ _ _
    rw [wpB_cons]
    simp
    refine Fin.same (q d3 M3 (hd3.ok (by decide) (by omega) (by omega)) (hU3.mono (by omega)) ho3)
/-! ### the law -/
def cx_law : Ctx := ⟨[fi_urn, fi_box, fi_Session, fi_q_odd, fi_q_right], [], [], [], kx0⟩
@[simp] theorem cx_law_0 : cx_law.fs[0]? = some fi_urn := rfl
@[simp] theorem cx_law_1 : cx_law.fs[1]? = some fi_box := rfl
@[simp] theorem cx_law_2 : cx_law.fs[2]? = some fi_Session := rfl
@[simp] theorem cx_law_3 : cx_law.fs[3]? = some fi_q_odd := rfl
@[simp] theorem cx_law_4 : cx_law.fs[4]? = some fi_q_right := rfl
theorem wp_law {E : EX} {ds : List D} {M : Mp} {Q : QE} {E' : XD → Mp → Prop} (h : spLaw ds M Q E') : wpB cx_law E b_law (endsD Q) (startD mc_law.N ds) M := by
  obtain ⟨ns, rfl, hl, q⟩ := h
  rw [show startD mc_law.N [.scr ns] = [some (.scr ns), none, none, none, none, none, none, none, none] from rfl, b_law, wpB_cons]
  simp [itD]
  have hr3 := rng3 ns.length
  refine ⟨⟨by omega, by omega⟩, ?_⟩
  refine forD_pre (fun (i : Nat) => D.int (i : Int)) (fun pre ρ M1 => ∃ x1 x2 x3 x4 x5 x6 x7 x8, ρ = [some (.scr ns), x1, x2, x3, x4, x5, x6, x7, x8]) (fun _ => True.intro) (fun pre j post ρ M1 e hI nx hnx => ?_) (fun ρ M1 hI => ?_) ⟨_, _, _, _, _, _, _, _, rfl⟩
  · obtain ⟨x1, x2, x3, x4, x5, x6, x7, x8, rfl⟩ := hI
    have hj := range_at e
    simp
    rw [wpB_cons]
    simp
    refine ⟨ns, j, rfl, by omega, by omega, fun u M2 hu hU ho => ?_⟩
    try dsimp only
    rw [wpB_cons]
    simp
    refine ⟨u, 3, 9, _, rfl, by decide, by decide, by decide, by decide, hU, by omega, fun bs M4 hb0 hbl hbs hU4 ho4 => ?_⟩
    try dsimp only
    rw [wpB_cons]
    simp [itD]
    have hbs2 : ∀ b ∈ bs, (b.natAbs : Int) < 10 ^ 13 := fun b hb => by have := hbs b hb; omega
    have hw := wt_nums hbs2
    refine ⟨rfl, fun p hp => ?_⟩
    refine cmpL_mapf D.int (fun n => D.str (ms (numI n))) hp (by omega) (fun _ => True.intro) (fun n hn' acc add skip ha => ?_) ?_
    · have := hbs2 n hn'
      simp [turnC, wipeD]
      refine ⟨log_ok (by omega), ?_⟩
      have e : Str.ofString n.repr = ms (numI n) := (ms_cs _).symm
      rw [e]
      exact ha
    have e1 : bs.map (fun n => D.str (ms (numI n))) = (bs.map numI).map (D.str ∘ ms) := by rw [List.map_map]; rfl
    rw [e1, strs_ms, lit_cross]
    refine ⟨join_bound (by omega), ?_⟩
    rw [join_ms]
    have hB : boxB bs = true := by
      unfold boxB
      rw [Bool.and_eq_true, Bool.and_eq_true, decide_eq_true_iff, decide_eq_true_iff, List.all_eq_true]
      refine ⟨⟨List.length_pos_iff.mpr hb0, by omega⟩, fun b hb => ?_⟩
      have := hbs b hb
      rw [Bool.and_eq_true, decide_eq_true_iff, decide_eq_true_iff]
      omega
    obtain ⟨hB1, hB2⟩ := boxW_num hB
    have hjl := join_len (c := 120) (bs.map numI)
    rw [join_ms] at hjl
    refine ⟨_, rfl, .inl ⟨ms (jn 120 (bs.map numI)), bs, rfl, by omega, by rw [cs_ms (jn 120 (bs.map numI))]; exact hB1, by rw [cs_ms (jn 120 (bs.map numI))]; exact hB2, hB, fun s M5 hR5 hS5 => ?_⟩⟩
    have hU5 : Urn M5 u 5000 := by
      obtain ⟨g, x, t, e, r⟩ := hU4.mono (m := 5000) (by omega)
      exact ⟨g, x, t, hS5 _ _ e, r⟩
    refine ⟨by decide, by decide, by decide, by decide, by decide, ?_⟩
    rw [wpB_cons]
    simp [itD]
    refine ⟨⟨by decide, by decide⟩, fun c hc => ?_⟩
    refine cmpL_draw (α := Nat) (β := D) (c := 100) (u := u) (L := List.range 10) (fun (i : Nat) => D.int (i : Int)) (fun d => d) (fun _ d => ShowOk d) hc hU5 (fun _ => True.intro) (by simp) (fun x hx M6 m hU6 hm hL6 add skip ha => ?_) (fun os M6 hR hU6 ho6 => ?_)
    · simp [turnC, wipeD]
      simp at hm
      exact ⟨u, m, rfl, hU6, by omega, fun d M7 hd hU7 ho7 => ha d M7 hd hU7 ho7⟩
    · have hos : os.length = 10 := by rw [← hR.length]; simp
      have hR6 : SesR M6 s bs := by
        obtain ⟨v, q', h1, h2, h3⟩ := hR5
        obtain ⟨g, x, t, e, r⟩ := hU5
        refine ⟨v, q', ?_, ?_, ?_⟩
        · rw [ho6 s (fun z => by rw [z, e] at h1; cases h1)]; exact h1
        · rw [ho6 v (fun z => by rw [z, e] at h2; cases h2)]; exact h2
        · rw [ho6 q' (fun z => by rw [z, e] at h3; cases h3)]; exact h3
      simp
      refine ⟨sz (by omega), ?_⟩
      have hbx : Shw 20 (pt bs) 1 3 := (Shw.tup (n := 3) (Shw.ils (by decide) (by decide) fun i hi => by have := hbs i hi; omega) (by simp; omega)).mono (by decide) (by decide)
      have one : ∀ (d : D) (k b : Nat), Shw 20 d k b → ∀ x ∈ [d], Shw 20 x k b := fun d k b h x hx => by rw [List.mem_singleton] at hx; subst hx; exact h
      have htb : Shw 20 (.tup [pt bs]) 2 4 := (Shw.tup (n := 1) (one _ _ _ hbx) (by simp)).mono (by decide) (by decide)
      obtain ⟨L, hL⟩ : ∃ L, L = pt bs :: D.tup [pt bs] :: D.tup [D.tup [D.int 0], D.tup [pt bs]] :: D.lst [pt bs] :: D.int 5 :: D.tup [D.str (Str.ofString "5")] :: os := ⟨_, rfl⟩
      have hLs : ∀ d ∈ L, ShowOk d := by
        rw [hL]
        refine List.forall_mem_cons.mpr ⟨hbx.ok (by decide) (by decide) (by decide), List.forall_mem_cons.mpr ⟨htb.ok (by decide) (by decide) (by decide), List.forall_mem_cons.mpr ⟨?_, List.forall_mem_cons.mpr ⟨(Shw.lst (n := 1) (one _ _ _ hbx) (by simp)).ok (by decide) (by decide) (by decide), List.forall_mem_cons.mpr ⟨?_, List.forall_mem_cons.mpr ⟨?_, fun d hd => (All2.mem hR d hd).elim fun _ z => z.2⟩⟩⟩⟩⟩⟩
        · refine (Shw.tup (m := 20) (n := 2) (k := 2) (b := 4) (fun x hx => ?_) (by simp)).ok (by decide) (by decide) (by decide)
          simp only [List.mem_cons, List.not_mem_nil, or_false] at hx
          rcases hx with rfl | rfl
          · exact ⟨by decide +kernel, by decide +kernel, by decide +kernel, by decide +kernel, by decide +kernel⟩
          · exact htb
        · exact ⟨by decide +kernel, by decide +kernel, by decide +kernel, by decide +kernel⟩
        · exact ⟨by decide +kernel, by decide +kernel, by decide +kernel, by decide +kernel⟩
      have hLl : L.length = 16 := by rw [hL]; simp [hos]
      rw [← hL, wpB_cons]
      simp [itD]
      intro c2 hc2
      refine cmpL_ind (fun rest acc M7 => M7 c2 = some (.lst acc) ∧ (∀ b o, b ≠ c2 → M6 b = some o → M7 b = some o) ∧ (∀ d ∈ acc, d = .bl true) ∧ (∀ d ∈ rest, ShowOk d) ∧ acc.length + rest.length ≤ 16) (fun rest acc M7 hI7 => ⟨trivial, hI7.1⟩) (fun x rest acc M7 hI7 add skip ha hs => ?_) (fun acc M7 hI7 => ?_) _ [] _ ⟨Mp.upd_same, fun b o hb e => by rw [Mp.upd_ne hb]; exact e, by simp, hLs, by simp [hLl]⟩
      · obtain ⟨h1, h2, h3, h4, h5⟩ := hI7
        rw [List.length_cons] at h5
        have hx := h4 x List.mem_cons_self
        simp [turnC, wipeD]
        have hS67 : M6.Sub M7 := fun b o e => h2 b o (fun z => by rw [z, hc2] at e; cases e) e
        have hrest := fun d hd => h4 d (List.mem_cons_of_mem _ hd)
        cases hst : x.isStr with
        | true =>
          cases x <;> first | (cases hst; done) | skip
          simp [isiD, tyD, isTy, Ty.ty]
          exact hs _ ⟨h1, h2, h3, hrest, by omega⟩
        | false =>
          refine isi_no ⟨hx.1, hst⟩ ?_
          simp
          refine ⟨s, bs, x, rfl, hR6.mono hS67, by omega, ⟨hx.1, hst⟩, hx, fun M8 hS8 => ?_⟩
          refine ha _ _ (hS8 _ _ h1) (sz (by omega)) ⟨Mp.upd_same, fun b o hb e => by rw [Mp.upd_ne hb]; exact hS8 _ _ (h2 b o hb e), fun d hd => ?_, hrest, by rw [List.length_append, List.length_singleton]; omega⟩
          rcases List.mem_append.mp hd with hd | hd
          · exact h3 d hd
          · exact List.mem_singleton.mp hd
      · obtain ⟨h1, h2, h3, h4, h5⟩ := hI7
        have eb : acc = (acc.map fun _ => true).map D.bl := by
          rw [List.map_map]
          have : ∀ d ∈ acc, (D.bl ∘ fun _ => true) d = id d := fun d hd => (h3 d hd).symm
          rw [List.map_congr_left this, List.map_id]
        rw [eb]
        simp
        rw [wpB_nil]
        try dsimp only
        rw [wpB_nil]
        exact hnx _ _ ⟨_, _, _, _, _, _, _, _, rfl⟩
  · obtain ⟨x1, x2, x3, x4, x5, x6, x7, x8, rfl⟩ := hI
    show wpB _ _ _ _ _ _
    rw [wpB_cons]
    simp
    exact Fin.same (q _)
end Kx
end Ow
namespace Ow
open PySem PySem.Spec PyProof.Rows L2
namespace Kx
abbrev s_is_integer : Stmt := PySem.Challenge.pw_onewindow_k59_values_that_are_no_texts.main.body.getD 7 (.Pass ⟨0, 0, 0, 0⟩)
theorem m_is_integer : mtB mc_is_integer (defScope s_is_integer) b_is_integer (defBody s_is_integer) = true := by decide +kernel
theorem sc_is_integer : FnScope mc_is_integer.N ["value", "least", "greatest"] (defScope s_is_integer) := ⟨rfl, rfl, rfl, by decide +kernel, rfl, by decide +kernel, by decide +kernel⟩
theorem bi_is_integer (kV doc pm : Value) (an : Option Addr) (cdv ct : Value) (us : List Value) (hl : us.length = 3) : bindArgs (PySem.W.fnOf "is_integer" "is_integer" (defArgs s_is_integer) (defBody s_is_integer) (defScope s_is_integer) .none kV doc pm an cdv ct) ⟨us, []⟩ = pure ((["value", "least", "greatest"] : List Str).zip us) := match us, hl with | [_, _, _], _ => rfl
abbrev s_is_box : Stmt := PySem.Challenge.pw_onewindow_k59_values_that_are_no_texts.main.body.getD 8 (.Pass ⟨0, 0, 0, 0⟩)
theorem m_is_box : mtB mc_is_box (defScope s_is_box) b_is_box (defBody s_is_box) = true := by decide +kernel
theorem sc_is_box : FnScope mc_is_box.N ["value"] (defScope s_is_box) := ⟨rfl, rfl, rfl, by decide +kernel, rfl, by decide +kernel, by decide +kernel⟩
theorem bi_is_box (kV doc pm : Value) (an : Option Addr) (cdv ct : Value) (us : List Value) (hl : us.length = 1) : bindArgs (PySem.W.fnOf "is_box" "is_box" (defArgs s_is_box) (defBody s_is_box) (defScope s_is_box) .none kV doc pm an cdv ct) ⟨us, []⟩ = pure ((["value"] : List Str).zip us) := match us, hl with | [_], _ => rfl
abbrev s_show_position : Stmt := PySem.Challenge.pw_onewindow_k59_values_that_are_no_texts.main.body.getD 51 (.Pass ⟨0, 0, 0, 0⟩)
theorem m_show_position : mtB mc_show_position (defScope s_show_position) b_show_position (defBody s_show_position) = true := by decide +kernel
theorem sc_show_position : FnScope mc_show_position.N ["position"] (defScope s_show_position) := ⟨rfl, rfl, rfl, by decide +kernel, rfl, by decide +kernel, by decide +kernel⟩
theorem bi_show_position (kV doc pm : Value) (an : Option Addr) (cdv ct : Value) (us : List Value) (hl : us.length = 1) : bindArgs (PySem.W.fnOf "show_position" "show_position" (defArgs s_show_position) (defBody s_show_position) (defScope s_show_position) .none kV doc pm an cdv ct) ⟨us, []⟩ = pure ((["position"] : List Str).zip us) := match us, hl with | [_], _ => rfl
abbrev s_show_log : Stmt := PySem.Challenge.pw_onewindow_k59_values_that_are_no_texts.main.body.getD 52 (.Pass ⟨0, 0, 0, 0⟩)
theorem m_show_log : mtB mc_show_log (defScope s_show_log) b_show_log (defBody s_show_log) = true := by decide +kernel
theorem sc_show_log : FnScope mc_show_log.N ["log"] (defScope s_show_log) := ⟨rfl, rfl, rfl, by decide +kernel, rfl, by decide +kernel, by decide +kernel⟩
theorem bi_show_log (kV doc pm : Value) (an : Option Addr) (cdv ct : Value) (us : List Value) (hl : us.length = 1) : bindArgs (PySem.W.fnOf "show_log" "show_log" (defArgs s_show_log) (defBody s_show_log) (defScope s_show_log) .none kV doc pm an cdv ct) ⟨us, []⟩ = pure ((["log"] : List Str).zip us) := match us, hl with | [_], _ => rfl
abbrev s_integer_in : Stmt := PySem.Challenge.pw_onewindow_k59_values_that_are_no_texts.main.body.getD 54 (.Pass ⟨0, 0, 0, 0⟩)
theorem m_integer_in : mtB mc_integer_in (defScope s_integer_in) b_integer_in (defBody s_integer_in) = true := by decide +kernel
theorem sc_integer_in : FnScope mc_integer_in.N ["word", "least", "greatest"] (defScope s_integer_in) := ⟨rfl, rfl, rfl, by decide +kernel, rfl, by decide +kernel, by decide +kernel⟩
theorem bi_integer_in (kV doc pm : Value) (an : Option Addr) (cdv ct : Value) (us : List Value) (hl : us.length = 3) : bindArgs (PySem.W.fnOf "integer_in" "integer_in" (defArgs s_integer_in) (defBody s_integer_in) (defScope s_integer_in) .none kV doc pm an cdv ct) ⟨us, []⟩ = pure ((["word", "least", "greatest"] : List Str).zip us) := match us, hl with | [_, _, _], _ => rfl
abbrev s_integers_in : Stmt := PySem.Challenge.pw_onewindow_k59_values_that_are_no_texts.main.body.getD 55 (.Pass ⟨0, 0, 0, 0⟩)
theorem m_integers_in : mtB mc_integers_in (defScope s_integers_in) b_integers_in (defBody s_integers_in) = true := by decide +kernel
theorem sc_integers_in : FnScope mc_integers_in.N ["word", "mark", "least", "greatest"] (defScope s_integers_in) := ⟨rfl, rfl, rfl, by decide +kernel, rfl, by decide +kernel, by decide +kernel⟩
theorem bi_integers_in (kV doc pm : Value) (an : Option Addr) (cdv ct : Value) (us : List Value) (hl : us.length = 4) : bindArgs (PySem.W.fnOf "integers_in" "integers_in" (defArgs s_integers_in) (defBody s_integers_in) (defScope s_integers_in) .none kV doc pm an cdv ct) ⟨us, []⟩ = pure ((["word", "mark", "least", "greatest"] : List Str).zip us) := match us, hl with | [_, _, _, _], _ => rfl
abbrev s_box_in : Stmt := PySem.Challenge.pw_onewindow_k59_values_that_are_no_texts.main.body.getD 56 (.Pass ⟨0, 0, 0, 0⟩)
theorem m_box_in : mtB mc_box_in (defScope s_box_in) b_box_in (defBody s_box_in) = true := by decide +kernel
theorem sc_box_in : FnScope mc_box_in.N ["word"] (defScope s_box_in) := ⟨rfl, rfl, rfl, by decide +kernel, rfl, by decide +kernel, by decide +kernel⟩
theorem bi_box_in (kV doc pm : Value) (an : Option Addr) (cdv ct : Value) (us : List Value) (hl : us.length = 1) : bindArgs (PySem.W.fnOf "box_in" "box_in" (defArgs s_box_in) (defBody s_box_in) (defScope s_box_in) .none kV doc pm an cdv ct) ⟨us, []⟩ = pure ((["word"] : List Str).zip us) := match us, hl with | [_], _ => rfl
abbrev s_point_in : Stmt := PySem.Challenge.pw_onewindow_k59_values_that_are_no_texts.main.body.getD 57 (.Pass ⟨0, 0, 0, 0⟩)
theorem m_point_in : mtB mc_point_in (defScope s_point_in) b_point_in (defBody s_point_in) = true := by decide +kernel
theorem sc_point_in : FnScope mc_point_in.N ["box", "word", "farthest"] (defScope s_point_in) := ⟨rfl, rfl, rfl, by decide +kernel, rfl, by decide +kernel, by decide +kernel⟩
theorem bi_point_in (kV doc pm : Value) (an : Option Addr) (cdv ct : Value) (us : List Value) (hl : us.length = 3) : bindArgs (PySem.W.fnOf "point_in" "point_in" (defArgs s_point_in) (defBody s_point_in) (defScope s_point_in) .none kV doc pm an cdv ct) ⟨us, []⟩ = pure ((["box", "word", "farthest"] : List Str).zip us) := match us, hl with | [_, _, _], _ => rfl
abbrev s_position_in : Stmt := PySem.Challenge.pw_onewindow_k59_values_that_are_no_texts.main.body.getD 58 (.Pass ⟨0, 0, 0, 0⟩)
theorem m_position_in : mtB mc_position_in (defScope s_position_in) b_position_in (defBody s_position_in) = true := by decide +kernel
theorem sc_position_in : FnScope mc_position_in.N ["box", "word"] (defScope s_position_in) := ⟨rfl, rfl, rfl, by decide +kernel, rfl, by decide +kernel, by decide +kernel⟩
theorem bi_position_in (kV doc pm : Value) (an : Option Addr) (cdv ct : Value) (us : List Value) (hl : us.length = 2) : bindArgs (PySem.W.fnOf "position_in" "position_in" (defArgs s_position_in) (defBody s_position_in) (defScope s_position_in) .none kV doc pm an cdv ct) ⟨us, []⟩ = pure ((["box", "word"] : List Str).zip us) := match us, hl with | [_, _], _ => rfl
abbrev s_words_of : Stmt := PySem.Challenge.pw_onewindow_k59_values_that_are_no_texts.main.body.getD 60 (.Pass ⟨0, 0, 0, 0⟩)
theorem m_words_of : mtB mc_words_of (defScope s_words_of) b_words_of (defBody s_words_of) = true := by decide +kernel
theorem sc_words_of : FnScope mc_words_of.N ["text"] (defScope s_words_of) := ⟨rfl, rfl, rfl, by decide +kernel, rfl, by decide +kernel, by decide +kernel⟩
theorem bi_words_of (kV doc pm : Value) (an : Option Addr) (cdv ct : Value) (us : List Value) (hl : us.length = 1) : bindArgs (PySem.W.fnOf "words_of" "words_of" (defArgs s_words_of) (defBody s_words_of) (defScope s_words_of) .none kV doc pm an cdv ct) ⟨us, []⟩ = pure ((["text"] : List Str).zip us) := match us, hl with | [_], _ => rfl
abbrev s_only_word : Stmt := PySem.Challenge.pw_onewindow_k59_values_that_are_no_texts.main.body.getD 61 (.Pass ⟨0, 0, 0, 0⟩)
theorem m_only_word : mtB mc_only_word (defScope s_only_word) b_only_word (defBody s_only_word) = true := by decide +kernel
theorem sc_only_word : FnScope mc_only_word.N ["text", "found"] (defScope s_only_word) := ⟨rfl, rfl, rfl, by decide +kernel, rfl, by decide +kernel, by decide +kernel⟩
theorem bi_only_word (kV doc pm : Value) (an : Option Addr) (cdv ct : Value) (us : List Value) (hl : us.length = 2) : bindArgs (PySem.W.fnOf "only_word" "only_word" (defArgs s_only_word) (defBody s_only_word) (defScope s_only_word) .none kV doc pm an cdv ct) ⟨us, []⟩ = pure ((["text", "found"] : List Str).zip us) := match us, hl with | [_, _], _ => rfl
abbrev s_read_box : Stmt := PySem.Challenge.pw_onewindow_k59_values_that_are_no_texts.main.body.getD 62 (.Pass ⟨0, 0, 0, 0⟩)
theorem m_read_box : mtB mc_read_box (defScope s_read_box) b_read_box (defBody s_read_box) = true := by decide +kernel
theorem sc_read_box : FnScope mc_read_box.N ["text"] (defScope s_read_box) := ⟨rfl, rfl, rfl, by decide +kernel, rfl, by decide +kernel, by decide +kernel⟩
theorem bi_read_box (kV doc pm : Value) (an : Option Addr) (cdv ct : Value) (us : List Value) (hl : us.length = 1) : bindArgs (PySem.W.fnOf "read_box" "read_box" (defArgs s_read_box) (defBody s_read_box) (defScope s_read_box) .none kV doc pm an cdv ct) ⟨us, []⟩ = pure ((["text"] : List Str).zip us) := match us, hl with | [_], _ => rfl
abbrev s_read_position : Stmt := PySem.Challenge.pw_onewindow_k59_values_that_are_no_texts.main.body.getD 63 (.Pass ⟨0, 0, 0, 0⟩)
theorem m_read_position : mtB mc_read_position (defScope s_read_position) b_read_position (defBody s_read_position) = true := by decide +kernel
theorem sc_read_position : FnScope mc_read_position.N ["box", "text"] (defScope s_read_position) := ⟨rfl, rfl, rfl, by decide +kernel, rfl, by decide +kernel, by decide +kernel⟩
theorem bi_read_position (kV doc pm : Value) (an : Option Addr) (cdv ct : Value) (us : List Value) (hl : us.length = 2) : bindArgs (PySem.W.fnOf "read_position" "read_position" (defArgs s_read_position) (defBody s_read_position) (defScope s_read_position) .none kV doc pm an cdv ct) ⟨us, []⟩ = pure ((["box", "text"] : List Str).zip us) := match us, hl with | [_, _], _ => rfl
abbrev s_read_log : Stmt := PySem.Challenge.pw_onewindow_k59_values_that_are_no_texts.main.body.getD 64 (.Pass ⟨0, 0, 0, 0⟩)
theorem m_read_log : mtB mc_read_log (defScope s_read_log) b_read_log (defBody s_read_log) = true := by decide +kernel
theorem sc_read_log : FnScope mc_read_log.N ["box", "text"] (defScope s_read_log) := ⟨rfl, rfl, rfl, by decide +kernel, rfl, by decide +kernel, by decide +kernel⟩
theorem bi_read_log (kV doc pm : Value) (an : Option Addr) (cdv ct : Value) (us : List Value) (hl : us.length = 2) : bindArgs (PySem.W.fnOf "read_log" "read_log" (defArgs s_read_log) (defBody s_read_log) (defScope s_read_log) .none kV doc pm an cdv ct) ⟨us, []⟩ = pure ((["box", "text"] : List Str).zip us) := match us, hl with | [_, _], _ => rfl
abbrev s_loads_of : Stmt := PySem.Challenge.pw_onewindow_k59_values_that_are_no_texts.main.body.getD 65 (.Pass ⟨0, 0, 0, 0⟩)
theorem m_loads_of : mtB mc_loads_of (defScope s_loads_of) b_loads_of (defBody s_loads_of) = true := by decide +kernel
theorem sc_loads_of : FnScope mc_loads_of.N ["box", "log", "text"] (defScope s_loads_of) := ⟨rfl, rfl, rfl, by decide +kernel, rfl, by decide +kernel, by decide +kernel⟩
theorem bi_loads_of (kV doc pm : Value) (an : Option Addr) (cdv ct : Value) (us : List Value) (hl : us.length = 3) : bindArgs (PySem.W.fnOf "loads_of" "loads_of" (defArgs s_loads_of) (defBody s_loads_of) (defScope s_loads_of) .none kV doc pm an cdv ct) ⟨us, []⟩ = pure ((["box", "log", "text"] : List Str).zip us) := match us, hl with | [_, _, _], _ => rfl
abbrev s_read_plan : Stmt := PySem.Challenge.pw_onewindow_k59_values_that_are_no_texts.main.body.getD 66 (.Pass ⟨0, 0, 0, 0⟩)
theorem m_read_plan : mtB mc_read_plan (defScope s_read_plan) b_read_plan (defBody s_read_plan) = true := by decide +kernel
theorem sc_read_plan : FnScope mc_read_plan.N ["box", "log", "text"] (defScope s_read_plan) := ⟨rfl, rfl, rfl, by decide +kernel, rfl, by decide +kernel, by decide +kernel⟩
theorem bi_read_plan (kV doc pm : Value) (an : Option Addr) (cdv ct : Value) (us : List Value) (hl : us.length = 3) : bindArgs (PySem.W.fnOf "read_plan" "read_plan" (defArgs s_read_plan) (defBody s_read_plan) (defScope s_read_plan) .none kV doc pm an cdv ct) ⟨us, []⟩ = pure ((["box", "log", "text"] : List Str).zip us) := match us, hl with | [_, _, _], _ => rfl
abbrev s_Viewer_init : Stmt := (clsBody (PySem.Challenge.pw_onewindow_k59_values_that_are_no_texts.main.body.getD 80 (.Pass ⟨0, 0, 0, 0⟩))).getD 0 (.Pass ⟨0, 0, 0, 0⟩)
theorem m_Viewer_init : mtB mc_Viewer_init (defScope s_Viewer_init) b_Viewer_init (defBody s_Viewer_init) = true := by decide +kernel
theorem sc_Viewer_init : FnScope mc_Viewer_init.N ["self", "box"] (defScope s_Viewer_init) := ⟨rfl, rfl, rfl, by decide +kernel, rfl, by decide +kernel, by decide +kernel⟩
theorem bi_Viewer_init (kV doc pm : Value) (an : Option Addr) (cdv ct : Value) (us : List Value) (hl : us.length = 2) : bindArgs (PySem.W.fnOf "__init__" "Viewer.__init__" (defArgs s_Viewer_init) (defBody s_Viewer_init) (defScope s_Viewer_init) .none kV doc pm an cdv ct) ⟨us, []⟩ = pure ((["self", "box"] : List Str).zip us) := match us, hl with | [_, _], _ => rfl
abbrev s_Viewer_log : Stmt := (clsBody (PySem.Challenge.pw_onewindow_k59_values_that_are_no_texts.main.body.getD 80 (.Pass ⟨0, 0, 0, 0⟩))).getD 7 (.Pass ⟨0, 0, 0, 0⟩)
theorem m_Viewer_log : mtB mc_Viewer_log (defScope s_Viewer_log) b_Viewer_log (defBody s_Viewer_log) = true := by decide +kernel
theorem sc_Viewer_log : FnScope mc_Viewer_log.N ["self"] (defScope s_Viewer_log) := ⟨rfl, rfl, rfl, by decide +kernel, rfl, by decide +kernel, by decide +kernel⟩
theorem bi_Viewer_log (kV doc pm : Value) (an : Option Addr) (cdv ct : Value) (us : List Value) (hl : us.length = 1) : bindArgs (PySem.W.fnOf "log" "Viewer.log" (defArgs s_Viewer_log) (defBody s_Viewer_log) (defScope s_Viewer_log) .none kV doc pm an cdv ct) ⟨us, []⟩ = pure ((["self"] : List Str).zip us) := match us, hl with | [_], _ => rfl
abbrev s_Session_init : Stmt := (clsBody (PySem.Challenge.pw_onewindow_k59_values_that_are_no_texts.main.body.getD 88 (.Pass ⟨0, 0, 0, 0⟩))).getD 0 (.Pass ⟨0, 0, 0, 0⟩)
theorem m_Session_init : mtB mc_Session_init (defScope s_Session_init) b_Session_init (defBody s_Session_init) = true := by decide +kernel
theorem sc_Session_init : FnScope mc_Session_init.N ["self", "text"] (defScope s_Session_init) := ⟨rfl, rfl, rfl, by decide +kernel, rfl, by decide +kernel, by decide +kernel⟩
theorem bi_Session_init (kV doc pm : Value) (an : Option Addr) (cdv ct : Value) (us : List Value) (hl : us.length = 2) : bindArgs (PySem.W.fnOf "__init__" "Session.__init__" (defArgs s_Session_init) (defBody s_Session_init) (defScope s_Session_init) .none kV doc pm an cdv ct) ⟨us, []⟩ = pure ((["self", "text"] : List Str).zip us) := match us, hl with | [_, _], _ => rfl
abbrev s_Session_run : Stmt := (clsBody (PySem.Challenge.pw_onewindow_k59_values_that_are_no_texts.main.body.getD 88 (.Pass ⟨0, 0, 0, 0⟩))).getD 1 (.Pass ⟨0, 0, 0, 0⟩)
theorem m_Session_run : mtB mc_Session_run (defScope s_Session_run) b_Session_run (defBody s_Session_run) = true := by decide +kernel
theorem sc_Session_run : FnScope mc_Session_run.N ["self", "line"] (defScope s_Session_run) := ⟨rfl, rfl, rfl, by decide +kernel, rfl, by decide +kernel, by decide +kernel⟩
theorem bi_Session_run (kV doc pm : Value) (an : Option Addr) (cdv ct : Value) (us : List Value) (hl : us.length = 2) : bindArgs (PySem.W.fnOf "run" "Session.run" (defArgs s_Session_run) (defBody s_Session_run) (defScope s_Session_run) .none kV doc pm an cdv ct) ⟨us, []⟩ = pure ((["self", "line"] : List Str).zip us) := match us, hl with | [_, _], _ => rfl
abbrev s_Session_answer : Stmt := (clsBody (PySem.Challenge.pw_onewindow_k59_values_that_are_no_texts.main.body.getD 88 (.Pass ⟨0, 0, 0, 0⟩))).getD 4 (.Pass ⟨0, 0, 0, 0⟩)
theorem m_Session_answer : mtB mc_Session_answer (defScope s_Session_answer) b_Session_answer (defBody s_Session_answer) = true := by decide +kernel
theorem sc_Session_answer : FnScope mc_Session_answer.N ["self", "line"] (defScope s_Session_answer) := ⟨rfl, rfl, rfl, by decide +kernel, rfl, by decide +kernel, by decide +kernel⟩
theorem bi_Session_answer (kV doc pm : Value) (an : Option Addr) (cdv ct : Value) (us : List Value) (hl : us.length = 2) : bindArgs (PySem.W.fnOf "answer" "Session.answer" (defArgs s_Session_answer) (defBody s_Session_answer) (defScope s_Session_answer) .none kV doc pm an cdv ct) ⟨us, []⟩ = pure ((["self", "line"] : List Str).zip us) := match us, hl with | [_, _], _ => rfl
abbrev s_q_urn : Stmt := PySem.Challenge.pw_onewindow_k59_values_that_are_no_texts.main.body.getD 90 (.Pass ⟨0, 0, 0, 0⟩)
theorem m_q_urn : mtB mc_q_urn (defScope s_q_urn) b_urn (defBody s_q_urn) = true := by decide +kernel
theorem sc_q_urn : FnScope mc_q_urn.N ["_law_script", "_law_k"] (defScope s_q_urn) := ⟨rfl, rfl, rfl, by decide +kernel, rfl, by decide +kernel, by decide +kernel⟩
theorem bi_q_urn (kV doc pm : Value) (an : Option Addr) (cdv ct : Value) (us : List Value) (hl : us.length = 2) : bindArgs (PySem.W.fnOf "_law_urn" "_law_urn" (defArgs s_q_urn) (defBody s_q_urn) (defScope s_q_urn) .none kV doc pm an cdv ct) ⟨us, []⟩ = pure ((["_law_script", "_law_k"] : List Str).zip us) := match us, hl with | [_, _], _ => rfl
abbrev s_q_take : Stmt := PySem.Challenge.pw_onewindow_k59_values_that_are_no_texts.main.body.getD 91 (.Pass ⟨0, 0, 0, 0⟩)
theorem m_q_take : mtB mc_q_take (defScope s_q_take) b_take (defBody s_q_take) = true := by decide +kernel
theorem sc_q_take : FnScope mc_q_take.N ["_law_urn_here", "_law_many"] (defScope s_q_take) := ⟨rfl, rfl, rfl, by decide +kernel, rfl, by decide +kernel, by decide +kernel⟩
theorem bi_q_take (kV doc pm : Value) (an : Option Addr) (cdv ct : Value) (us : List Value) (hl : us.length = 2) : bindArgs (PySem.W.fnOf "_law_take" "_law_take" (defArgs s_q_take) (defBody s_q_take) (defScope s_q_take) .none kV doc pm an cdv ct) ⟨us, []⟩ = pure ((["_law_urn_here", "_law_many"] : List Str).zip us) := match us, hl with | [_, _], _ => rfl
abbrev s_q_pick : Stmt := PySem.Challenge.pw_onewindow_k59_values_that_are_no_texts.main.body.getD 92 (.Pass ⟨0, 0, 0, 0⟩)
theorem m_q_pick : mtB mc_q_pick (defScope s_q_pick) b_pick (defBody s_q_pick) = true := by decide +kernel
theorem sc_q_pick : FnScope mc_q_pick.N ["_law_urn_here", "_law_items"] (defScope s_q_pick) := ⟨rfl, rfl, rfl, by decide +kernel, rfl, by decide +kernel, by decide +kernel⟩
theorem bi_q_pick (kV doc pm : Value) (an : Option Addr) (cdv ct : Value) (us : List Value) (hl : us.length = 2) : bindArgs (PySem.W.fnOf "_law_pick" "_law_pick" (defArgs s_q_pick) (defBody s_q_pick) (defScope s_q_pick) .none kV doc pm an cdv ct) ⟨us, []⟩ = pure ((["_law_urn_here", "_law_items"] : List Str).zip us) := match us, hl with | [_, _], _ => rfl
abbrev s_q_caught : Stmt := PySem.Challenge.pw_onewindow_k59_values_that_are_no_texts.main.body.getD 93 (.Pass ⟨0, 0, 0, 0⟩)
theorem m_q_caught : mtB mc_q_caught (defScope s_q_caught) b_q_caught (defBody s_q_caught) = true := by decide +kernel
theorem sc_q_caught : FnScope mc_q_caught.N ["_law_call"] (defScope s_q_caught) := ⟨rfl, rfl, rfl, by decide +kernel, rfl, by decide +kernel, by decide +kernel⟩
theorem bi_q_caught (kV doc pm : Value) (an : Option Addr) (cdv ct : Value) (us : List Value) (hl : us.length = 1) : bindArgs (PySem.W.fnOf "_law_caught" "_law_caught" (defArgs s_q_caught) (defBody s_q_caught) (defScope s_q_caught) .none kV doc pm an cdv ct) ⟨us, []⟩ = pure ((["_law_call"] : List Str).zip us) := match us, hl with | [_], _ => rfl
abbrev s_q_box : Stmt := PySem.Challenge.pw_onewindow_k59_values_that_are_no_texts.main.body.getD 94 (.Pass ⟨0, 0, 0, 0⟩)
theorem m_q_box : mtB mc_q_box (defScope s_q_box) b_box (defBody s_q_box) = true := by decide +kernel
theorem sc_q_box : FnScope mc_q_box.N ["_law_urn_here", "_law_axes", "_law_most"] (defScope s_q_box) := ⟨rfl, rfl, rfl, by decide +kernel, rfl, by decide +kernel, by decide +kernel⟩
theorem bi_q_box (kV doc pm : Value) (an : Option Addr) (cdv ct : Value) (us : List Value) (hl : us.length = 3) : bindArgs (PySem.W.fnOf "_law_box" "_law_box" (defArgs s_q_box) (defBody s_q_box) (defScope s_q_box) .none kV doc pm an cdv ct) ⟨us, []⟩ = pure ((["_law_urn_here", "_law_axes", "_law_most"] : List Str).zip us) := match us, hl with | [_, _, _], _ => rfl
abbrev s_q_odd : Stmt := PySem.Challenge.pw_onewindow_k59_values_that_are_no_texts.main.body.getD 95 (.Pass ⟨0, 0, 0, 0⟩)
theorem m_q_odd : mtB mc_q_odd (defScope s_q_odd) b_q_odd (defBody s_q_odd) = true := by decide +kernel
theorem sc_q_odd : FnScope mc_q_odd.N ["_law_urn_here"] (defScope s_q_odd) := ⟨rfl, rfl, rfl, by decide +kernel, rfl, by decide +kernel, by decide +kernel⟩
theorem bi_q_odd (kV doc pm : Value) (an : Option Addr) (cdv ct : Value) (us : List Value) (hl : us.length = 1) : bindArgs (PySem.W.fnOf "_law_odd" "_law_odd" (defArgs s_q_odd) (defBody s_q_odd) (defScope s_q_odd) .none kV doc pm an cdv ct) ⟨us, []⟩ = pure ((["_law_urn_here"] : List Str).zip us) := match us, hl with | [_], _ => rfl
abbrev s_q_is_refused : Stmt := PySem.Challenge.pw_onewindow_k59_values_that_are_no_texts.main.body.getD 96 (.Pass ⟨0, 0, 0, 0⟩)
theorem m_q_is_refused : mtB mc_q_is_refused (defScope s_q_is_refused) b_q_is_refused (defBody s_q_is_refused) = true := by decide +kernel
theorem sc_q_is_refused : FnScope mc_q_is_refused.N ["_law_call"] (defScope s_q_is_refused) := ⟨rfl, rfl, rfl, by decide +kernel, rfl, by decide +kernel, by decide +kernel⟩
theorem bi_q_is_refused (kV doc pm : Value) (an : Option Addr) (cdv ct : Value) (us : List Value) (hl : us.length = 1) : bindArgs (PySem.W.fnOf "_law_is_refused" "_law_is_refused" (defArgs s_q_is_refused) (defBody s_q_is_refused) (defScope s_q_is_refused) .none kV doc pm an cdv ct) ⟨us, []⟩ = pure ((["_law_call"] : List Str).zip us) := match us, hl with | [_], _ => rfl
abbrev s_q_right : Stmt := PySem.Challenge.pw_onewindow_k59_values_that_are_no_texts.main.body.getD 97 (.Pass ⟨0, 0, 0, 0⟩)
theorem m_q_right : mtB mc_q_right (defScope s_q_right) b_q_right (defBody s_q_right) = true := by decide +kernel
theorem sc_q_right : FnScope mc_q_right.N ["_law_talk", "_law_box_here", "_law_thing"] (defScope s_q_right) := ⟨rfl, rfl, rfl, by decide +kernel, rfl, by decide +kernel, by decide +kernel⟩
theorem bi_q_right (kV doc pm : Value) (an : Option Addr) (cdv ct : Value) (us : List Value) (hl : us.length = 3) : bindArgs (PySem.W.fnOf "_law_right" "_law_right" (defArgs s_q_right) (defBody s_q_right) (defScope s_q_right) .none kV doc pm an cdv ct) ⟨us, []⟩ = pure ((["_law_talk", "_law_box_here", "_law_thing"] : List Str).zip us) := match us, hl with | [_, _, _], _ => rfl
abbrev s_law : Stmt := PySem.Challenge.pw_onewindow_k59_values_that_are_no_texts.main.body.getD 98 (.Pass ⟨0, 0, 0, 0⟩)
theorem m_law : mtB mc_law (defScope s_law) b_law (defBody s_law) = true := by decide +kernel
theorem sc_law : FnScope mc_law.N ["_law_script"] (defScope s_law) := ⟨rfl, rfl, rfl, by decide +kernel, rfl, by decide +kernel, by decide +kernel⟩
theorem bi_law (kV doc pm : Value) (an : Option Addr) (cdv ct : Value) (us : List Value) (hl : us.length = 1) : bindArgs (PySem.W.fnOf "law" "law" (defArgs s_law) (defBody s_law) (defScope s_law) .none kV doc pm an cdv ct) ⟨us, []⟩ = pure ((["_law_script"] : List Str).zip us) := match us, hl with | [_], _ => rfl
abbrev s_BadLine_init : Stmt := (clsBody (PySem.Challenge.pw_onewindow_k59_values_that_are_no_texts.main.body.getD 22 (.Pass ⟨0, 0, 0, 0⟩))).getD 0 (.Pass ⟨0, 0, 0, 0⟩)
theorem sc_BadLine_init : FnScope ["self", "line"] ["self", "line"] (defScope s_BadLine_init) := ⟨rfl, rfl, rfl, by decide +kernel, rfl, by decide +kernel, by decide +kernel⟩
theorem bi_BadLine_init (kV doc pm : Value) (an : Option Addr) (cdv ct : Value) (us : List Value) (hl : us.length = 2) : bindArgs (PySem.W.fnOf "__init__" "BadLine.__init__" (defArgs s_BadLine_init) (defBody s_BadLine_init) (defScope s_BadLine_init) .none kV doc pm an cdv ct) ⟨us, []⟩ = pure ((["self", "line"] : List Str).zip us) := match us, hl with | [_, _], _ => rfl
abbrev s_BadText_init : Stmt := (clsBody (PySem.Challenge.pw_onewindow_k59_values_that_are_no_texts.main.body.getD 21 (.Pass ⟨0, 0, 0, 0⟩))).getD 0 (.Pass ⟨0, 0, 0, 0⟩)
theorem sc_BadText_init : FnScope ["self", "word"] ["self", "word"] (defScope s_BadText_init) := ⟨rfl, rfl, rfl, by decide +kernel, rfl, by decide +kernel, by decide +kernel⟩
theorem bi_BadText_init (kV doc pm : Value) (an : Option Addr) (cdv ct : Value) (us : List Value) (hl : us.length = 2) : bindArgs (PySem.W.fnOf "__init__" "BadText.__init__" (defArgs s_BadText_init) (defBody s_BadText_init) (defScope s_BadText_init) .none kV doc pm an cdv ct) ⟨us, []⟩ = pure ((["self", "word"] : List Str).zip us) := match us, hl with | [_, _], _ => rfl
structure Facts (K : PySem.W.Frag) (mg : Str → Option Value) : Prop where
  d_is_integer : DefM K mg "is_integer" s_is_integer ["value", "least", "greatest"]
  d_is_box : DefM K mg "is_box" s_is_box ["value"]
  d_show_position : DefM K mg "show_position" s_show_position ["position"]
  d_show_log : DefM K mg "show_log" s_show_log ["log"]
  d_integer_in : DefM K mg "integer_in" s_integer_in ["word", "least", "greatest"]
  d_integers_in : DefM K mg "integers_in" s_integers_in ["word", "mark", "least", "greatest"]
  d_box_in : DefM K mg "box_in" s_box_in ["word"]
  d_point_in : DefM K mg "point_in" s_point_in ["box", "word", "farthest"]
  d_position_in : DefM K mg "position_in" s_position_in ["box", "word"]
  d_words_of : DefM K mg "words_of" s_words_of ["text"]
  d_only_word : DefM K mg "only_word" s_only_word ["text", "found"]
  d_read_box : DefM K mg "read_box" s_read_box ["text"]
  d_read_position : DefM K mg "read_position" s_read_position ["box", "text"]
  d_read_log : DefM K mg "read_log" s_read_log ["box", "text"]
  d_loads_of : DefM K mg "loads_of" s_loads_of ["box", "log", "text"]
  d_read_plan : DefM K mg "read_plan" s_read_plan ["box", "log", "text"]
  d_q_urn : DefM K mg "_law_urn" s_q_urn ["_law_script", "_law_k"]
  d_q_take : DefM K mg "_law_take" s_q_take ["_law_urn_here", "_law_many"]
  d_q_pick : DefM K mg "_law_pick" s_q_pick ["_law_urn_here", "_law_items"]
  d_q_caught : DefM K mg "_law_caught" s_q_caught ["_law_call"]
  d_q_box : DefM K mg "_law_box" s_q_box ["_law_urn_here", "_law_axes", "_law_most"]
  d_q_odd : DefM K mg "_law_odd" s_q_odd ["_law_urn_here"]
  d_q_is_refused : DefM K mg "_law_is_refused" s_q_is_refused ["_law_call"]
  d_q_right : DefM K mg "_law_right" s_q_right ["_law_talk", "_law_box_here", "_law_thing"]
  d_law : DefM K mg "law" s_law ["_law_script"]
  d_Viewer_init : DefK K mg "Viewer" "Viewer.__init__" s_Viewer_init ["self", "box"]
  d_Viewer_log : DefT K mg "Viewer" "log" "Viewer.log" s_Viewer_log ["self"]
  d_Session_init : DefK K mg "Session" "Session.__init__" s_Session_init ["self", "text"]
  d_Session_run : DefT K mg "Session" "run" "Session.run" s_Session_run ["self", "line"]
  d_Session_answer : DefT K mg "Session" "answer" "Session.answer" s_Session_answer ["self", "line"]
  g_MOST_AXES : GM K mg gi_MOST_AXES
  g_MOST_SIZE : GM K mg gi_MOST_SIZE
  g_COMMA : GM K mg gi_COMMA
  g_NOTHING : GM K mg gi_NOTHING
  g_BLANK : GM K mg gi_BLANK
  g_MINUS : GM K mg gi_MINUS
  g_DIGITS : GM K mg gi_DIGITS
  g_MOST_DIGITS : GM K mg gi_MOST_DIGITS
  g_CROSS : GM K mg gi_CROSS
  g_FARTHEST_POSITION : GM K mg gi_FARTHEST_POSITION
  g_MOST_REQUESTS_boxes : GM K mg gi_MOST_REQUESTS_boxes
  g_NO_PLAN : GM K mg gi_NO_PLAN
  g_PARTS_sessions : GM K mg gi_PARTS_sessions
  g_PRESENT_WORDS : GM K mg gi_PRESENT_WORDS
  a_sizes : AtM K mg ai_sizes
  a_moments : AtM K mg ai_moments
  a_position : AtM K mg ai_position
  a_viewer : AtM K mg ai_viewer
  blt : ∀ x ∈ bltNames, mg x = none
  xk_BadText : XkM K mg "BadText"
  xf_BadText : XfM K mg "BadText" "word"
  xc_BadText_WindowError : XcM K mg "BadText" "WindowError" ∧ XiM K mg "BadText" "WindowError"
  xc_BadText_BadBox : XcM K mg "BadText" "BadBox" ∧ XiM K mg "BadText" "BadBox"
  xc_BadText_BadLine : XcM K mg "BadText" "BadLine" ∧ XiM K mg "BadText" "BadLine"
  xc_BadText_BadText : XcM K mg "BadText" "BadText" ∧ XiM K mg "BadText" "BadText"
  xk_BadLine : XkM K mg "BadLine"
  xf_BadLine : XfM K mg "BadLine" "line"
  xc_BadLine_WindowError : XcM K mg "BadLine" "WindowError" ∧ XiM K mg "BadLine" "WindowError"
  xc_BadLine_BadBox : XcM K mg "BadLine" "BadBox" ∧ XiM K mg "BadLine" "BadBox"
  xc_BadLine_BadLine : XcM K mg "BadLine" "BadLine" ∧ XiM K mg "BadLine" "BadLine"
  xc_BadLine_BadText : XcM K mg "BadLine" "BadText" ∧ XiM K mg "BadLine" "BadText"
  xn_WindowError : XnM K mg "WindowError"
  xn_BadBox : XnM K mg "BadBox"
  xn_BadLine : XnM K mg "BadLine"
  xn_BadText : XnM K mg "BadText"
  xr_BadLine : ∀ (P : Program) (w : World) (base : Heap) (k : Nat), 2 ≤ k → XM P w K mg base k xi_BadLine
  xr_BadText : ∀ (P : Program) (w : World) (base : Heap) (k : Nat), 2 ≤ k → XM P w K mg base k xi_BadText
  mk_q_right : ∀ base, (∀ p ∈ tsL, LamX.TabB base mg p.1 p.2) → ∀ f fd, mg "_law_right" = some (.ref f) → FunV K "_law_right" "_law_right" s_q_right f fd → MkC base mg fd
section
variable {P : Program} {w : World} {K : PySem.W.Frag} {h : Heap} {mg : Str → Option Value} {base : Heap}
theorem law_fn (KX : K.In h) (F : Facts K mg) (sk : SysB base) (TB : ∀ p ∈ tsL, LamX.TabB base mg p.1 p.2) : FnM P w K mg base 20 fi_law := by
  have f_q_urn : FnM P w K mg base 1 fi_urn := def_ok (k := 0) (mc := mc_q_urn) (C := ⟨[], [], [], [], kx0⟩) ⟨rfl, rfl, rfl, rfl, F.blt, sk, fok_nil, gok_nil, aok_nil, mok_nil, lok_nil, ex0⟩ F.d_q_urn sc_q_urn rfl m_q_urn (fun ds M Q E h => by first | (obtain ⟨e, _⟩ := h; subst e; rfl) | (obtain ⟨_, e, _⟩ := h; subst e; rfl) | (obtain ⟨_, _, e, _⟩ := h; subst e; rfl) | (obtain ⟨_, _, _, e, _⟩ := h; subst e; rfl) | (obtain ⟨_, _, _, _, e, _⟩ := h; subst e; rfl) | (obtain ⟨_, _, _, _, _, e, _⟩ := h; subst e; rfl) | (obtain ⟨_, _, _, _, _, _, e, _⟩ := h; subst e; rfl) | (obtain ⟨_, _, _, _, _, _, _, e, _⟩ := h; subst e; rfl) | (obtain ⟨_, _, _, _, _, _, _, _, e, _⟩ := h; subst e; rfl) | (obtain ⟨_, _, _, _, _, _, _, _, _, e, _⟩ := h; subst e; rfl) | (obtain ⟨_, _, _, _, _, _, _, _, _, _, e, _⟩ := h; subst e; rfl) | (obtain ⟨_, _, _, _, _, _, _, _, _, _, _, e, _⟩ := h; subst e; rfl) | (obtain ⟨_, _, _, _, _, _, _, _, _, _, _, _, e, _⟩ := h; subst e; rfl) | (obtain ⟨_, _, _, _, _, _, _, _, _, _, _, _, _, e, _⟩ := h; subst e; rfl)) (fun ds M Q E h => wp_urn (E' := E) h)
  have f_q_take : FnM P w K mg base 1 fi_take := def_ok (k := 0) (mc := mc_q_take) (C := ⟨[], [], [], [], kx0⟩) ⟨rfl, rfl, rfl, rfl, F.blt, sk, fok_nil, gok_nil, aok_nil, mok_nil, lok_nil, ex0⟩ F.d_q_take sc_q_take rfl m_q_take (fun ds M Q E h => by first | (obtain ⟨e, _⟩ := h; subst e; rfl) | (obtain ⟨_, e, _⟩ := h; subst e; rfl) | (obtain ⟨_, _, e, _⟩ := h; subst e; rfl) | (obtain ⟨_, _, _, e, _⟩ := h; subst e; rfl) | (obtain ⟨_, _, _, _, e, _⟩ := h; subst e; rfl) | (obtain ⟨_, _, _, _, _, e, _⟩ := h; subst e; rfl) | (obtain ⟨_, _, _, _, _, _, e, _⟩ := h; subst e; rfl) | (obtain ⟨_, _, _, _, _, _, _, e, _⟩ := h; subst e; rfl) | (obtain ⟨_, _, _, _, _, _, _, _, e, _⟩ := h; subst e; rfl) | (obtain ⟨_, _, _, _, _, _, _, _, _, e, _⟩ := h; subst e; rfl) | (obtain ⟨_, _, _, _, _, _, _, _, _, _, e, _⟩ := h; subst e; rfl) | (obtain ⟨_, _, _, _, _, _, _, _, _, _, _, e, _⟩ := h; subst e; rfl) | (obtain ⟨_, _, _, _, _, _, _, _, _, _, _, _, e, _⟩ := h; subst e; rfl) | (obtain ⟨_, _, _, _, _, _, _, _, _, _, _, _, _, e, _⟩ := h; subst e; rfl)) (fun ds M Q E h => wp_take (E' := E) h)
  have f_q_pick : FnM P w K mg base 2 fi_pick := def_ok (k := 1) (mc := mc_q_pick) (C := cx_pick) ⟨rfl, rfl, rfl, rfl, F.blt, sk, (fok_cons (f_q_take.mono (by decide)) fok_nil), gok_nil, aok_nil, mok_nil, lok_nil, ex0⟩ F.d_q_pick sc_q_pick rfl m_q_pick (fun ds M Q E h => by first | (obtain ⟨e, _⟩ := h; subst e; rfl) | (obtain ⟨_, e, _⟩ := h; subst e; rfl) | (obtain ⟨_, _, e, _⟩ := h; subst e; rfl) | (obtain ⟨_, _, _, e, _⟩ := h; subst e; rfl) | (obtain ⟨_, _, _, _, e, _⟩ := h; subst e; rfl) | (obtain ⟨_, _, _, _, _, e, _⟩ := h; subst e; rfl) | (obtain ⟨_, _, _, _, _, _, e, _⟩ := h; subst e; rfl) | (obtain ⟨_, _, _, _, _, _, _, e, _⟩ := h; subst e; rfl) | (obtain ⟨_, _, _, _, _, _, _, _, e, _⟩ := h; subst e; rfl) | (obtain ⟨_, _, _, _, _, _, _, _, _, e, _⟩ := h; subst e; rfl) | (obtain ⟨_, _, _, _, _, _, _, _, _, _, e, _⟩ := h; subst e; rfl) | (obtain ⟨_, _, _, _, _, _, _, _, _, _, _, e, _⟩ := h; subst e; rfl) | (obtain ⟨_, _, _, _, _, _, _, _, _, _, _, _, e, _⟩ := h; subst e; rfl) | (obtain ⟨_, _, _, _, _, _, _, _, _, _, _, _, _, e, _⟩ := h; subst e; rfl)) (fun ds M Q E h => wp_pick (E' := E) h)
  have f_q_box : FnM P w K mg base 3 fi_box := def_ok (k := 2) (mc := mc_q_box) (C := cx_box) ⟨rfl, rfl, rfl, rfl, F.blt, sk, (fok_cons (f_q_take.mono (by decide)) (fok_cons (f_q_pick.mono (by decide)) fok_nil)), gok_nil, aok_nil, mok_nil, lok_nil, ex0⟩ F.d_q_box sc_q_box rfl m_q_box (fun ds M Q E h => by first | (obtain ⟨e, _⟩ := h; subst e; rfl) | (obtain ⟨_, e, _⟩ := h; subst e; rfl) | (obtain ⟨_, _, e, _⟩ := h; subst e; rfl) | (obtain ⟨_, _, _, e, _⟩ := h; subst e; rfl) | (obtain ⟨_, _, _, _, e, _⟩ := h; subst e; rfl) | (obtain ⟨_, _, _, _, _, e, _⟩ := h; subst e; rfl) | (obtain ⟨_, _, _, _, _, _, e, _⟩ := h; subst e; rfl) | (obtain ⟨_, _, _, _, _, _, _, e, _⟩ := h; subst e; rfl) | (obtain ⟨_, _, _, _, _, _, _, _, e, _⟩ := h; subst e; rfl) | (obtain ⟨_, _, _, _, _, _, _, _, _, e, _⟩ := h; subst e; rfl) | (obtain ⟨_, _, _, _, _, _, _, _, _, _, e, _⟩ := h; subst e; rfl) | (obtain ⟨_, _, _, _, _, _, _, _, _, _, _, e, _⟩ := h; subst e; rfl) | (obtain ⟨_, _, _, _, _, _, _, _, _, _, _, _, e, _⟩ := h; subst e; rfl) | (obtain ⟨_, _, _, _, _, _, _, _, _, _, _, _, _, e, _⟩ := h; subst e; rfl)) (fun ds M Q E h => wp_box (E' := E) h)
  have f_only_word : FnM P w K mg base 3 fi_only_word := def_ok (k := 2) (mc := mc_only_word) (C := cx_only_word) ⟨rfl, rfl, rfl, rfl, F.blt, sk, fok_nil, (gok_cons F.g_BLANK gok_nil), aok_nil, mok_nil, lok_nil, ⟨rfl, rfl, rfl, rfl, rfl, (List.forall_mem_cons.mpr ⟨F.xr_BadText _ _ _ _ (by decide), (fun _ h => nomatch h)⟩), (fun _ h => nomatch h), (fun _ h => nomatch h), (fun _ h => nomatch h), (fun _ h => nomatch h), (fun _ h => nomatch h), (fun _ h => nomatch h), (fun h => by cases h), rfl, (fun _ h => nomatch h)⟩⟩ F.d_only_word sc_only_word rfl m_only_word (fun ds M Q E h => by first | (obtain ⟨e, _⟩ := h; subst e; rfl) | (obtain ⟨_, e, _⟩ := h; subst e; rfl) | (obtain ⟨_, _, e, _⟩ := h; subst e; rfl) | (obtain ⟨_, _, _, e, _⟩ := h; subst e; rfl) | (obtain ⟨_, _, _, _, e, _⟩ := h; subst e; rfl) | (obtain ⟨_, _, _, _, _, e, _⟩ := h; subst e; rfl) | (obtain ⟨_, _, _, _, _, _, e, _⟩ := h; subst e; rfl) | (obtain ⟨_, _, _, _, _, _, _, e, _⟩ := h; subst e; rfl) | (obtain ⟨_, _, _, _, _, _, _, _, e, _⟩ := h; subst e; rfl) | (obtain ⟨_, _, _, _, _, _, _, _, _, e, _⟩ := h; subst e; rfl) | (obtain ⟨_, _, _, _, _, _, _, _, _, _, e, _⟩ := h; subst e; rfl) | (obtain ⟨_, _, _, _, _, _, _, _, _, _, _, e, _⟩ := h; subst e; rfl) | (obtain ⟨_, _, _, _, _, _, _, _, _, _, _, _, e, _⟩ := h; subst e; rfl) | (obtain ⟨_, _, _, _, _, _, _, _, _, _, _, _, _, e, _⟩ := h; subst e; rfl)) (fun ds M Q E h => wp_only_word (E' := E) h)
  have f_integer_in : FnM P w K mg base 1 fi_integer_in := def_ok (k := 0) (mc := mc_integer_in) (C := cx_integer_in) ⟨rfl, rfl, rfl, rfl, F.blt, sk, fok_nil, (gok_cons F.g_MINUS (gok_cons F.g_DIGITS (gok_cons F.g_MOST_DIGITS gok_nil))), aok_nil, mok_nil, lok_nil, ex0⟩ F.d_integer_in sc_integer_in rfl m_integer_in (fun ds M Q E h => by first | (obtain ⟨e, _⟩ := h; subst e; rfl) | (obtain ⟨_, e, _⟩ := h; subst e; rfl) | (obtain ⟨_, _, e, _⟩ := h; subst e; rfl) | (obtain ⟨_, _, _, e, _⟩ := h; subst e; rfl) | (obtain ⟨_, _, _, _, e, _⟩ := h; subst e; rfl) | (obtain ⟨_, _, _, _, _, e, _⟩ := h; subst e; rfl) | (obtain ⟨_, _, _, _, _, _, e, _⟩ := h; subst e; rfl) | (obtain ⟨_, _, _, _, _, _, _, e, _⟩ := h; subst e; rfl) | (obtain ⟨_, _, _, _, _, _, _, _, e, _⟩ := h; subst e; rfl) | (obtain ⟨_, _, _, _, _, _, _, _, _, e, _⟩ := h; subst e; rfl) | (obtain ⟨_, _, _, _, _, _, _, _, _, _, e, _⟩ := h; subst e; rfl) | (obtain ⟨_, _, _, _, _, _, _, _, _, _, _, e, _⟩ := h; subst e; rfl) | (obtain ⟨_, _, _, _, _, _, _, _, _, _, _, _, e, _⟩ := h; subst e; rfl) | (obtain ⟨_, _, _, _, _, _, _, _, _, _, _, _, _, e, _⟩ := h; subst e; rfl)) (fun ds M Q E h => wp_integer_in (E' := E) h)
  have f_integers_in : FnM P w K mg base 2 fi_integers_in := def_ok (k := 1) (mc := mc_integers_in) (C := cx_integers_in) ⟨rfl, rfl, rfl, rfl, F.blt, sk, (fok_cons (f_integer_in.mono (by decide)) fok_nil), gok_nil, aok_nil, mok_nil, lok_nil, ex0⟩ F.d_integers_in sc_integers_in rfl m_integers_in (fun ds M Q E h => by first | (obtain ⟨e, _⟩ := h; subst e; rfl) | (obtain ⟨_, e, _⟩ := h; subst e; rfl) | (obtain ⟨_, _, e, _⟩ := h; subst e; rfl) | (obtain ⟨_, _, _, e, _⟩ := h; subst e; rfl) | (obtain ⟨_, _, _, _, e, _⟩ := h; subst e; rfl) | (obtain ⟨_, _, _, _, _, e, _⟩ := h; subst e; rfl) | (obtain ⟨_, _, _, _, _, _, e, _⟩ := h; subst e; rfl) | (obtain ⟨_, _, _, _, _, _, _, e, _⟩ := h; subst e; rfl) | (obtain ⟨_, _, _, _, _, _, _, _, e, _⟩ := h; subst e; rfl) | (obtain ⟨_, _, _, _, _, _, _, _, _, e, _⟩ := h; subst e; rfl) | (obtain ⟨_, _, _, _, _, _, _, _, _, _, e, _⟩ := h; subst e; rfl) | (obtain ⟨_, _, _, _, _, _, _, _, _, _, _, e, _⟩ := h; subst e; rfl) | (obtain ⟨_, _, _, _, _, _, _, _, _, _, _, _, e, _⟩ := h; subst e; rfl) | (obtain ⟨_, _, _, _, _, _, _, _, _, _, _, _, _, e, _⟩ := h; subst e; rfl)) (fun ds M Q E h => wp_integers_in (E' := E) h)
  have f_box_in : FnM P w K mg base 3 fi_box_in := def_ok (k := 2) (mc := mc_box_in) (C := cx_box_in) ⟨rfl, rfl, rfl, rfl, F.blt, sk, (fok_cons (f_integers_in.mono (by decide)) fok_nil), (gok_cons F.g_CROSS (gok_cons F.g_MOST_SIZE (gok_cons F.g_MOST_AXES gok_nil))), aok_nil, mok_nil, lok_nil, ex0⟩ F.d_box_in sc_box_in rfl m_box_in (fun ds M Q E h => by first | (obtain ⟨e, _⟩ := h; subst e; rfl) | (obtain ⟨_, e, _⟩ := h; subst e; rfl) | (obtain ⟨_, _, e, _⟩ := h; subst e; rfl) | (obtain ⟨_, _, _, e, _⟩ := h; subst e; rfl) | (obtain ⟨_, _, _, _, e, _⟩ := h; subst e; rfl) | (obtain ⟨_, _, _, _, _, e, _⟩ := h; subst e; rfl) | (obtain ⟨_, _, _, _, _, _, e, _⟩ := h; subst e; rfl) | (obtain ⟨_, _, _, _, _, _, _, e, _⟩ := h; subst e; rfl) | (obtain ⟨_, _, _, _, _, _, _, _, e, _⟩ := h; subst e; rfl) | (obtain ⟨_, _, _, _, _, _, _, _, _, e, _⟩ := h; subst e; rfl) | (obtain ⟨_, _, _, _, _, _, _, _, _, _, e, _⟩ := h; subst e; rfl) | (obtain ⟨_, _, _, _, _, _, _, _, _, _, _, e, _⟩ := h; subst e; rfl) | (obtain ⟨_, _, _, _, _, _, _, _, _, _, _, _, e, _⟩ := h; subst e; rfl) | (obtain ⟨_, _, _, _, _, _, _, _, _, _, _, _, _, e, _⟩ := h; subst e; rfl)) (fun ds M Q E h => wp_box_in (E' := E) h)
  have f_words_of : FnM P w K mg base 3 fi_words_of := def_ok (k := 2) (mc := mc_words_of) (C := cx_words_of) ⟨rfl, rfl, rfl, rfl, F.blt, sk, fok_nil, (gok_cons F.g_BLANK gok_nil), aok_nil, mok_nil, lok_nil, ⟨rfl, rfl, rfl, rfl, rfl, (List.forall_mem_cons.mpr ⟨F.xr_BadText _ _ _ _ (by decide), (fun _ h => nomatch h)⟩), (fun _ h => nomatch h), (fun _ h => nomatch h), (fun _ h => nomatch h), (fun _ h => nomatch h), (fun _ h => nomatch h), (fun _ h => nomatch h), (fun h => by cases h), rfl, (fun _ h => nomatch h)⟩⟩ F.d_words_of sc_words_of rfl m_words_of (fun ds M Q E h => by first | (obtain ⟨e, _⟩ := h; subst e; rfl) | (obtain ⟨_, e, _⟩ := h; subst e; rfl) | (obtain ⟨_, _, e, _⟩ := h; subst e; rfl) | (obtain ⟨_, _, _, e, _⟩ := h; subst e; rfl) | (obtain ⟨_, _, _, _, e, _⟩ := h; subst e; rfl) | (obtain ⟨_, _, _, _, _, e, _⟩ := h; subst e; rfl) | (obtain ⟨_, _, _, _, _, _, e, _⟩ := h; subst e; rfl) | (obtain ⟨_, _, _, _, _, _, _, e, _⟩ := h; subst e; rfl) | (obtain ⟨_, _, _, _, _, _, _, _, e, _⟩ := h; subst e; rfl) | (obtain ⟨_, _, _, _, _, _, _, _, _, e, _⟩ := h; subst e; rfl) | (obtain ⟨_, _, _, _, _, _, _, _, _, _, e, _⟩ := h; subst e; rfl) | (obtain ⟨_, _, _, _, _, _, _, _, _, _, _, e, _⟩ := h; subst e; rfl) | (obtain ⟨_, _, _, _, _, _, _, _, _, _, _, _, e, _⟩ := h; subst e; rfl) | (obtain ⟨_, _, _, _, _, _, _, _, _, _, _, _, _, e, _⟩ := h; subst e; rfl)) (fun ds M Q E h => wp_words_of (E' := E) h)
  have f_read_box : FnM P w K mg base 4 fi_read_box := def_ok (k := 3) (mc := mc_read_box) (C := cx_read_box) ⟨rfl, rfl, rfl, rfl, F.blt, sk, (fok_cons (f_only_word.mono (by decide)) (fok_cons (f_box_in.mono (by decide)) (fok_cons (f_words_of.mono (by decide)) fok_nil))), gok_nil, aok_nil, mok_nil, lok_nil, ex0⟩ F.d_read_box sc_read_box rfl m_read_box (fun ds M Q E h => by first | (obtain ⟨e, _⟩ := h; subst e; rfl) | (obtain ⟨_, e, _⟩ := h; subst e; rfl) | (obtain ⟨_, _, e, _⟩ := h; subst e; rfl) | (obtain ⟨_, _, _, e, _⟩ := h; subst e; rfl) | (obtain ⟨_, _, _, _, e, _⟩ := h; subst e; rfl) | (obtain ⟨_, _, _, _, _, e, _⟩ := h; subst e; rfl) | (obtain ⟨_, _, _, _, _, _, e, _⟩ := h; subst e; rfl) | (obtain ⟨_, _, _, _, _, _, _, e, _⟩ := h; subst e; rfl) | (obtain ⟨_, _, _, _, _, _, _, _, e, _⟩ := h; subst e; rfl) | (obtain ⟨_, _, _, _, _, _, _, _, _, e, _⟩ := h; subst e; rfl) | (obtain ⟨_, _, _, _, _, _, _, _, _, _, e, _⟩ := h; subst e; rfl) | (obtain ⟨_, _, _, _, _, _, _, _, _, _, _, e, _⟩ := h; subst e; rfl) | (obtain ⟨_, _, _, _, _, _, _, _, _, _, _, _, e, _⟩ := h; subst e; rfl) | (obtain ⟨_, _, _, _, _, _, _, _, _, _, _, _, _, e, _⟩ := h; subst e; rfl)) (fun ds M Q E h => wp_read_box (E' := E) h)
  have f_is_integer : FnM P w K mg base 1 fi_is_integer := def_ok (k := 0) (mc := mc_is_integer) (C := ⟨[], [], [], [], kx0⟩) ⟨rfl, rfl, rfl, rfl, F.blt, sk, fok_nil, gok_nil, aok_nil, mok_nil, lok_nil, ex0⟩ F.d_is_integer sc_is_integer rfl m_is_integer (fun ds M Q E h => by first | (obtain ⟨e, _⟩ := h; subst e; rfl) | (obtain ⟨_, e, _⟩ := h; subst e; rfl) | (obtain ⟨_, _, e, _⟩ := h; subst e; rfl) | (obtain ⟨_, _, _, e, _⟩ := h; subst e; rfl) | (obtain ⟨_, _, _, _, e, _⟩ := h; subst e; rfl) | (obtain ⟨_, _, _, _, _, e, _⟩ := h; subst e; rfl) | (obtain ⟨_, _, _, _, _, _, e, _⟩ := h; subst e; rfl) | (obtain ⟨_, _, _, _, _, _, _, e, _⟩ := h; subst e; rfl) | (obtain ⟨_, _, _, _, _, _, _, _, e, _⟩ := h; subst e; rfl) | (obtain ⟨_, _, _, _, _, _, _, _, _, e, _⟩ := h; subst e; rfl) | (obtain ⟨_, _, _, _, _, _, _, _, _, _, e, _⟩ := h; subst e; rfl) | (obtain ⟨_, _, _, _, _, _, _, _, _, _, _, e, _⟩ := h; subst e; rfl) | (obtain ⟨_, _, _, _, _, _, _, _, _, _, _, _, e, _⟩ := h; subst e; rfl) | (obtain ⟨_, _, _, _, _, _, _, _, _, _, _, _, _, e, _⟩ := h; subst e; rfl)) (fun ds M Q E h => wp_is_integer (E' := E) h)
  have f_is_box : FnM P w K mg base 2 fi_is_box := def_ok (k := 1) (mc := mc_is_box) (C := cx_is_box) ⟨rfl, rfl, rfl, rfl, F.blt, sk, (fok_cons (f_is_integer.mono (by decide)) fok_nil), (gok_cons F.g_MOST_AXES (gok_cons F.g_MOST_SIZE gok_nil)), aok_nil, mok_nil, lok_nil, ex0⟩ F.d_is_box sc_is_box rfl m_is_box (fun ds M Q E h => by first | (obtain ⟨e, _⟩ := h; subst e; rfl) | (obtain ⟨_, e, _⟩ := h; subst e; rfl) | (obtain ⟨_, _, e, _⟩ := h; subst e; rfl) | (obtain ⟨_, _, _, e, _⟩ := h; subst e; rfl) | (obtain ⟨_, _, _, _, e, _⟩ := h; subst e; rfl) | (obtain ⟨_, _, _, _, _, e, _⟩ := h; subst e; rfl) | (obtain ⟨_, _, _, _, _, _, e, _⟩ := h; subst e; rfl) | (obtain ⟨_, _, _, _, _, _, _, e, _⟩ := h; subst e; rfl) | (obtain ⟨_, _, _, _, _, _, _, _, e, _⟩ := h; subst e; rfl) | (obtain ⟨_, _, _, _, _, _, _, _, _, e, _⟩ := h; subst e; rfl) | (obtain ⟨_, _, _, _, _, _, _, _, _, _, e, _⟩ := h; subst e; rfl) | (obtain ⟨_, _, _, _, _, _, _, _, _, _, _, e, _⟩ := h; subst e; rfl) | (obtain ⟨_, _, _, _, _, _, _, _, _, _, _, _, e, _⟩ := h; subst e; rfl) | (obtain ⟨_, _, _, _, _, _, _, _, _, _, _, _, _, e, _⟩ := h; subst e; rfl)) (fun ds M Q E h => wp_is_box (E' := E) h)
  have f_Viewer_init : FnK P w K mg base 3 fi_Viewer := cls_ok (k := 2) (mc := mc_Viewer_init) (C := cx_Viewer_init) (spI := spI_Viewer) ⟨rfl, rfl, rfl, rfl, F.blt, sk, (fok_cons (f_is_box.mono (by decide)) fok_nil), gok_nil, (aok_cons F.a_sizes (aok_cons F.a_moments aok_nil)), mok_nil, lok_nil, ex0⟩ F.d_Viewer_init sc_Viewer_init rfl m_Viewer_init (fun ds M Q E h => by first | (obtain ⟨e, _⟩ := h; subst e; rfl) | (obtain ⟨_, e, _⟩ := h; subst e; rfl) | (obtain ⟨_, _, e, _⟩ := h; subst e; rfl) | (obtain ⟨_, _, _, e, _⟩ := h; subst e; rfl) | (obtain ⟨_, _, _, _, e, _⟩ := h; subst e; rfl) | (obtain ⟨_, _, _, _, _, e, _⟩ := h; subst e; rfl) | (obtain ⟨_, _, _, _, _, _, e, _⟩ := h; subst e; rfl) | (obtain ⟨_, _, _, _, _, _, _, e, _⟩ := h; subst e; rfl) | (obtain ⟨_, _, _, _, _, _, _, _, e, _⟩ := h; subst e; rfl) | (obtain ⟨_, _, _, _, _, _, _, _, _, e, _⟩ := h; subst e; rfl) | (obtain ⟨_, _, _, _, _, _, _, _, _, _, e, _⟩ := h; subst e; rfl) | (obtain ⟨_, _, _, _, _, _, _, _, _, _, _, e, _⟩ := h; subst e; rfl) | (obtain ⟨_, _, _, _, _, _, _, _, _, _, _, _, e, _⟩ := h; subst e; rfl) | (obtain ⟨_, _, _, _, _, _, _, _, _, _, _, _, _, e, _⟩ := h; subst e; rfl)) (fun ds M Q E h => wp_Viewer_init (E' := E) h) mk_Viewer
  have f_Session_init : FnK P w K mg base 5 fi_Session := cls_ok (k := 4) (mc := mc_Session_init) (C := cx_Session_init) (spI := spI_Session) ⟨rfl, rfl, rfl, rfl, F.blt, sk, (fok_cons (f_read_box.mono (by decide)) (fok_consK (f_Viewer_init.up (by decide)) fok_nil)), gok_nil, (aok_cons F.a_sizes (aok_cons F.a_viewer aok_nil)), mok_nil, lok_nil, ex0⟩ F.d_Session_init sc_Session_init rfl m_Session_init (fun ds M Q E h => by first | (obtain ⟨e, _⟩ := h; subst e; rfl) | (obtain ⟨_, e, _⟩ := h; subst e; rfl) | (obtain ⟨_, _, e, _⟩ := h; subst e; rfl) | (obtain ⟨_, _, _, e, _⟩ := h; subst e; rfl) | (obtain ⟨_, _, _, _, e, _⟩ := h; subst e; rfl) | (obtain ⟨_, _, _, _, _, e, _⟩ := h; subst e; rfl) | (obtain ⟨_, _, _, _, _, _, e, _⟩ := h; subst e; rfl) | (obtain ⟨_, _, _, _, _, _, _, e, _⟩ := h; subst e; rfl) | (obtain ⟨_, _, _, _, _, _, _, _, e, _⟩ := h; subst e; rfl) | (obtain ⟨_, _, _, _, _, _, _, _, _, e, _⟩ := h; subst e; rfl) | (obtain ⟨_, _, _, _, _, _, _, _, _, _, e, _⟩ := h; subst e; rfl) | (obtain ⟨_, _, _, _, _, _, _, _, _, _, _, e, _⟩ := h; subst e; rfl) | (obtain ⟨_, _, _, _, _, _, _, _, _, _, _, _, e, _⟩ := h; subst e; rfl) | (obtain ⟨_, _, _, _, _, _, _, _, _, _, _, _, _, e, _⟩ := h; subst e; rfl)) (fun ds M Q E h => wp_Session_init (E' := E) h) mk_Session
  have f_q_odd : FnM P w K mg base 3 fi_q_odd := def_ok (k := 2) (mc := mc_q_odd) (C := cx_q_odd) ⟨rfl, rfl, rfl, rfl, F.blt, sk, (fok_cons (f_q_pick.mono (by decide)) (fok_cons (f_q_take.mono (by decide)) fok_nil)), gok_nil, aok_nil, mok_nil, lok_nil, ex0⟩ F.d_q_odd sc_q_odd rfl m_q_odd (fun ds M Q E h => by first | (obtain ⟨e, _⟩ := h; subst e; rfl) | (obtain ⟨_, e, _⟩ := h; subst e; rfl) | (obtain ⟨_, _, e, _⟩ := h; subst e; rfl) | (obtain ⟨_, _, _, e, _⟩ := h; subst e; rfl) | (obtain ⟨_, _, _, _, e, _⟩ := h; subst e; rfl) | (obtain ⟨_, _, _, _, _, e, _⟩ := h; subst e; rfl) | (obtain ⟨_, _, _, _, _, _, e, _⟩ := h; subst e; rfl) | (obtain ⟨_, _, _, _, _, _, _, e, _⟩ := h; subst e; rfl) | (obtain ⟨_, _, _, _, _, _, _, _, e, _⟩ := h; subst e; rfl) | (obtain ⟨_, _, _, _, _, _, _, _, _, e, _⟩ := h; subst e; rfl) | (obtain ⟨_, _, _, _, _, _, _, _, _, _, e, _⟩ := h; subst e; rfl) | (obtain ⟨_, _, _, _, _, _, _, _, _, _, _, e, _⟩ := h; subst e; rfl) | (obtain ⟨_, _, _, _, _, _, _, _, _, _, _, _, e, _⟩ := h; subst e; rfl) | (obtain ⟨_, _, _, _, _, _, _, _, _, _, _, _, _, e, _⟩ := h; subst e; rfl)) (fun ds M Q E h => wp_q_odd (E' := E) h)
  have f_show_position : FnM P w K mg base 1 fi_show_position := def_ok (k := 0) (mc := mc_show_position) (C := cx_show_position) ⟨rfl, rfl, rfl, rfl, F.blt, sk, fok_nil, (gok_cons F.g_COMMA gok_nil), aok_nil, mok_nil, lok_nil, ex0⟩ F.d_show_position sc_show_position rfl m_show_position (fun ds M Q E h => by first | (obtain ⟨e, _⟩ := h; subst e; rfl) | (obtain ⟨_, e, _⟩ := h; subst e; rfl) | (obtain ⟨_, _, e, _⟩ := h; subst e; rfl) | (obtain ⟨_, _, _, e, _⟩ := h; subst e; rfl) | (obtain ⟨_, _, _, _, e, _⟩ := h; subst e; rfl) | (obtain ⟨_, _, _, _, _, e, _⟩ := h; subst e; rfl) | (obtain ⟨_, _, _, _, _, _, e, _⟩ := h; subst e; rfl) | (obtain ⟨_, _, _, _, _, _, _, e, _⟩ := h; subst e; rfl) | (obtain ⟨_, _, _, _, _, _, _, _, e, _⟩ := h; subst e; rfl) | (obtain ⟨_, _, _, _, _, _, _, _, _, e, _⟩ := h; subst e; rfl) | (obtain ⟨_, _, _, _, _, _, _, _, _, _, e, _⟩ := h; subst e; rfl) | (obtain ⟨_, _, _, _, _, _, _, _, _, _, _, e, _⟩ := h; subst e; rfl) | (obtain ⟨_, _, _, _, _, _, _, _, _, _, _, _, e, _⟩ := h; subst e; rfl) | (obtain ⟨_, _, _, _, _, _, _, _, _, _, _, _, _, e, _⟩ := h; subst e; rfl)) (fun ds M Q E h => wp_show_position (E' := E) h)
  have f_show_log : FnM P w K mg base 2 fi_show_log := def_ok (k := 1) (mc := mc_show_log) (C := cx_show_log) ⟨rfl, rfl, rfl, rfl, F.blt, sk, (fok_cons (f_show_position.mono (by decide)) fok_nil), (gok_cons F.g_NOTHING (gok_cons F.g_BLANK gok_nil)), aok_nil, mok_nil, lok_nil, ex0⟩ F.d_show_log sc_show_log rfl m_show_log (fun ds M Q E h => by first | (obtain ⟨e, _⟩ := h; subst e; rfl) | (obtain ⟨_, e, _⟩ := h; subst e; rfl) | (obtain ⟨_, _, e, _⟩ := h; subst e; rfl) | (obtain ⟨_, _, _, e, _⟩ := h; subst e; rfl) | (obtain ⟨_, _, _, _, e, _⟩ := h; subst e; rfl) | (obtain ⟨_, _, _, _, _, e, _⟩ := h; subst e; rfl) | (obtain ⟨_, _, _, _, _, _, e, _⟩ := h; subst e; rfl) | (obtain ⟨_, _, _, _, _, _, _, e, _⟩ := h; subst e; rfl) | (obtain ⟨_, _, _, _, _, _, _, _, e, _⟩ := h; subst e; rfl) | (obtain ⟨_, _, _, _, _, _, _, _, _, e, _⟩ := h; subst e; rfl) | (obtain ⟨_, _, _, _, _, _, _, _, _, _, e, _⟩ := h; subst e; rfl) | (obtain ⟨_, _, _, _, _, _, _, _, _, _, _, e, _⟩ := h; subst e; rfl) | (obtain ⟨_, _, _, _, _, _, _, _, _, _, _, _, e, _⟩ := h; subst e; rfl) | (obtain ⟨_, _, _, _, _, _, _, _, _, _, _, _, _, e, _⟩ := h; subst e; rfl)) (fun ds M Q E h => wp_show_log (E' := E) h)
  have f_Viewer_log : MtM P w K mg base 1 mi_Viewer_log := met_ok (k := 0) (mc := mc_Viewer_log) (C := cx_Viewer_log) ⟨rfl, rfl, rfl, rfl, F.blt, sk, fok_nil, gok_nil, (aok_cons F.a_moments (aok_cons F.a_position aok_nil)), mok_nil, lok_nil, ex0⟩ F.d_Viewer_log sc_Viewer_log rfl m_Viewer_log (fun ds M Q E h => by first | (obtain ⟨e, _⟩ := h; subst e; rfl) | (obtain ⟨_, e, _⟩ := h; subst e; rfl) | (obtain ⟨_, _, e, _⟩ := h; subst e; rfl) | (obtain ⟨_, _, _, e, _⟩ := h; subst e; rfl) | (obtain ⟨_, _, _, _, e, _⟩ := h; subst e; rfl) | (obtain ⟨_, _, _, _, _, e, _⟩ := h; subst e; rfl) | (obtain ⟨_, _, _, _, _, _, e, _⟩ := h; subst e; rfl) | (obtain ⟨_, _, _, _, _, _, _, e, _⟩ := h; subst e; rfl) | (obtain ⟨_, _, _, _, _, _, _, _, e, _⟩ := h; subst e; rfl) | (obtain ⟨_, _, _, _, _, _, _, _, _, e, _⟩ := h; subst e; rfl) | (obtain ⟨_, _, _, _, _, _, _, _, _, _, e, _⟩ := h; subst e; rfl) | (obtain ⟨_, _, _, _, _, _, _, _, _, _, _, e, _⟩ := h; subst e; rfl) | (obtain ⟨_, _, _, _, _, _, _, _, _, _, _, _, e, _⟩ := h; subst e; rfl) | (obtain ⟨_, _, _, _, _, _, _, _, _, _, _, _, _, e, _⟩ := h; subst e; rfl)) (fun ds M Q E h => wp_Viewer_log (E' := E) h)
  have f_Session_answer : MtM P w K mg base 3 mi_Session_answer := met_ok (k := 2) (mc := mc_Session_answer) (C := cx_Session_answer) ⟨rfl, rfl, rfl, rfl, F.blt, sk, (fok_cons (f_show_log.mono (by decide)) fok_nil), gok_nil, (aok_cons F.a_viewer aok_nil), (mok_cons (f_Viewer_log.mono (by decide)) mok_nil), (lok_skip (by decide +kernel) lok_nil), ex0⟩ F.d_Session_answer sc_Session_answer rfl m_Session_answer (fun ds M Q E h => by first | (obtain ⟨e, _⟩ := h; subst e; rfl) | (obtain ⟨_, e, _⟩ := h; subst e; rfl) | (obtain ⟨_, _, e, _⟩ := h; subst e; rfl) | (obtain ⟨_, _, _, e, _⟩ := h; subst e; rfl) | (obtain ⟨_, _, _, _, e, _⟩ := h; subst e; rfl) | (obtain ⟨_, _, _, _, _, e, _⟩ := h; subst e; rfl) | (obtain ⟨_, _, _, _, _, _, e, _⟩ := h; subst e; rfl) | (obtain ⟨_, _, _, _, _, _, _, e, _⟩ := h; subst e; rfl) | (obtain ⟨_, _, _, _, _, _, _, _, e, _⟩ := h; subst e; rfl) | (obtain ⟨_, _, _, _, _, _, _, _, _, e, _⟩ := h; subst e; rfl) | (obtain ⟨_, _, _, _, _, _, _, _, _, _, e, _⟩ := h; subst e; rfl) | (obtain ⟨_, _, _, _, _, _, _, _, _, _, _, e, _⟩ := h; subst e; rfl) | (obtain ⟨_, _, _, _, _, _, _, _, _, _, _, _, e, _⟩ := h; subst e; rfl) | (obtain ⟨_, _, _, _, _, _, _, _, _, _, _, _, _, e, _⟩ := h; subst e; rfl)) (fun ds M Q E h => wp_Session_answer (E' := E) h)
  have f_Session_run : MtM P w K mg base 4 mi_Session_run := met_ok (k := 3) (mc := mc_Session_run) (C := cx_Session_run) ⟨rfl, rfl, rfl, rfl, F.blt, sk, fok_nil, (gok_cons F.g_BLANK (gok_cons F.g_PARTS_sessions (gok_cons F.g_PRESENT_WORDS gok_nil))), (aok_cons F.a_viewer aok_nil), (mok_cons (f_Session_answer.mono (by decide)) mok_nil), (lok_skip (by decide +kernel) lok_nil), ⟨rfl, rfl, rfl, rfl, rfl, (List.forall_mem_cons.mpr ⟨F.xr_BadLine _ _ _ _ (by decide), (fun _ h => nomatch h)⟩), (fun _ h => nomatch h), (fun _ h => nomatch h), (fun _ h => nomatch h), (fun _ h => nomatch h), (fun _ h => nomatch h), (fun _ h => nomatch h), (fun h => by cases h), rfl, (fun _ h => nomatch h)⟩⟩ F.d_Session_run sc_Session_run rfl m_Session_run (fun ds M Q E h => by first | (obtain ⟨e, _⟩ := h; subst e; rfl) | (obtain ⟨_, e, _⟩ := h; subst e; rfl) | (obtain ⟨_, _, e, _⟩ := h; subst e; rfl) | (obtain ⟨_, _, _, e, _⟩ := h; subst e; rfl) | (obtain ⟨_, _, _, _, e, _⟩ := h; subst e; rfl) | (obtain ⟨_, _, _, _, _, e, _⟩ := h; subst e; rfl) | (obtain ⟨_, _, _, _, _, _, e, _⟩ := h; subst e; rfl) | (obtain ⟨_, _, _, _, _, _, _, e, _⟩ := h; subst e; rfl) | (obtain ⟨_, _, _, _, _, _, _, _, e, _⟩ := h; subst e; rfl) | (obtain ⟨_, _, _, _, _, _, _, _, _, e, _⟩ := h; subst e; rfl) | (obtain ⟨_, _, _, _, _, _, _, _, _, _, e, _⟩ := h; subst e; rfl) | (obtain ⟨_, _, _, _, _, _, _, _, _, _, _, e, _⟩ := h; subst e; rfl) | (obtain ⟨_, _, _, _, _, _, _, _, _, _, _, _, e, _⟩ := h; subst e; rfl) | (obtain ⟨_, _, _, _, _, _, _, _, _, _, _, _, _, e, _⟩ := h; subst e; rfl)) (fun ds M Q E h => wp_Session_run (E' := E) h)
  have c_lam0 : ClG P w K mg base 5 ci_lam0 := clg_lam (k := 4) (mc := mc_lam0) (C := cx_lam0) (ps := []) (ce := ce_lam0) ⟨rfl, rfl, rfl, rfl, F.blt, sk, (fok_cons (f_read_box.mono (by decide)) fok_nil), gok_nil, aok_nil, mok_nil, lok_nil, ex0⟩ rfl rfl (fun caps ds M Q E h => by first | (obtain ⟨e, _⟩ := h; subst e; rfl) | (obtain ⟨_, e, _⟩ := h; subst e; rfl) | (obtain ⟨_, _, e, _⟩ := h; subst e; rfl) | (obtain ⟨_, _, _, e, _⟩ := h; subst e; rfl) | (obtain ⟨_, _, _, _, e, _⟩ := h; subst e; rfl) | (obtain ⟨_, _, _, _, _, e, _⟩ := h; subst e; rfl) | (obtain ⟨_, _, _, _, _, _, e, _⟩ := h; subst e; rfl) | (obtain ⟨_, _, _, _, _, _, _, e, _⟩ := h; subst e; rfl) | (obtain ⟨_, _, _, _, _, _, _, _, e, _⟩ := h; subst e; rfl) | (obtain ⟨_, _, _, _, _, _, _, _, _, e, _⟩ := h; subst e; rfl) | (obtain ⟨_, _, _, _, _, _, _, _, _, _, e, _⟩ := h; subst e; rfl) | (obtain ⟨_, _, _, _, _, _, _, _, _, _, _, e, _⟩ := h; subst e; rfl) | (obtain ⟨_, _, _, _, _, _, _, _, _, _, _, _, e, _⟩ := h; subst e; rfl) | (obtain ⟨_, _, _, _, _, _, _, _, _, _, _, _, _, e, _⟩ := h; subst e; rfl)) (fun caps ds M Q E h => wp_lam0 (E' := E) h)
  have f_point_in : FnM P w K mg base 3 fi_point_in := def_ok (k := 2) (mc := mc_point_in) (C := cx_point_in) ⟨rfl, rfl, rfl, rfl, F.blt, sk, (fok_cons (f_integers_in.mono (by decide)) fok_nil), (gok_cons F.g_COMMA gok_nil), aok_nil, mok_nil, lok_nil, ex0⟩ F.d_point_in sc_point_in rfl m_point_in (fun ds M Q E h => by first | (obtain ⟨e, _⟩ := h; subst e; rfl) | (obtain ⟨_, e, _⟩ := h; subst e; rfl) | (obtain ⟨_, _, e, _⟩ := h; subst e; rfl) | (obtain ⟨_, _, _, e, _⟩ := h; subst e; rfl) | (obtain ⟨_, _, _, _, e, _⟩ := h; subst e; rfl) | (obtain ⟨_, _, _, _, _, e, _⟩ := h; subst e; rfl) | (obtain ⟨_, _, _, _, _, _, e, _⟩ := h; subst e; rfl) | (obtain ⟨_, _, _, _, _, _, _, e, _⟩ := h; subst e; rfl) | (obtain ⟨_, _, _, _, _, _, _, _, e, _⟩ := h; subst e; rfl) | (obtain ⟨_, _, _, _, _, _, _, _, _, e, _⟩ := h; subst e; rfl) | (obtain ⟨_, _, _, _, _, _, _, _, _, _, e, _⟩ := h; subst e; rfl) | (obtain ⟨_, _, _, _, _, _, _, _, _, _, _, e, _⟩ := h; subst e; rfl) | (obtain ⟨_, _, _, _, _, _, _, _, _, _, _, _, e, _⟩ := h; subst e; rfl) | (obtain ⟨_, _, _, _, _, _, _, _, _, _, _, _, _, e, _⟩ := h; subst e; rfl)) (fun ds M Q E h => wp_point_in (E' := E) h)
  have f_position_in : FnM P w K mg base 4 fi_position_in := def_ok (k := 3) (mc := mc_position_in) (C := cx_position_in) ⟨rfl, rfl, rfl, rfl, F.blt, sk, (fok_cons (f_point_in.mono (by decide)) fok_nil), (gok_cons F.g_FARTHEST_POSITION gok_nil), aok_nil, mok_nil, lok_nil, ex0⟩ F.d_position_in sc_position_in rfl m_position_in (fun ds M Q E h => by first | (obtain ⟨e, _⟩ := h; subst e; rfl) | (obtain ⟨_, e, _⟩ := h; subst e; rfl) | (obtain ⟨_, _, e, _⟩ := h; subst e; rfl) | (obtain ⟨_, _, _, e, _⟩ := h; subst e; rfl) | (obtain ⟨_, _, _, _, e, _⟩ := h; subst e; rfl) | (obtain ⟨_, _, _, _, _, e, _⟩ := h; subst e; rfl) | (obtain ⟨_, _, _, _, _, _, e, _⟩ := h; subst e; rfl) | (obtain ⟨_, _, _, _, _, _, _, e, _⟩ := h; subst e; rfl) | (obtain ⟨_, _, _, _, _, _, _, _, e, _⟩ := h; subst e; rfl) | (obtain ⟨_, _, _, _, _, _, _, _, _, e, _⟩ := h; subst e; rfl) | (obtain ⟨_, _, _, _, _, _, _, _, _, _, e, _⟩ := h; subst e; rfl) | (obtain ⟨_, _, _, _, _, _, _, _, _, _, _, e, _⟩ := h; subst e; rfl) | (obtain ⟨_, _, _, _, _, _, _, _, _, _, _, _, e, _⟩ := h; subst e; rfl) | (obtain ⟨_, _, _, _, _, _, _, _, _, _, _, _, _, e, _⟩ := h; subst e; rfl)) (fun ds M Q E h => wp_position_in (E' := E) h)
  have f_read_position : FnM P w K mg base 5 fi_read_position := def_ok (k := 4) (mc := mc_read_position) (C := cx_read_position) ⟨rfl, rfl, rfl, rfl, F.blt, sk, (fok_cons (f_only_word.mono (by decide)) (fok_cons (f_position_in.mono (by decide)) (fok_cons (f_words_of.mono (by decide)) fok_nil))), gok_nil, aok_nil, mok_nil, lok_nil, ex0⟩ F.d_read_position sc_read_position rfl m_read_position (fun ds M Q E h => by first | (obtain ⟨e, _⟩ := h; subst e; rfl) | (obtain ⟨_, e, _⟩ := h; subst e; rfl) | (obtain ⟨_, _, e, _⟩ := h; subst e; rfl) | (obtain ⟨_, _, _, e, _⟩ := h; subst e; rfl) | (obtain ⟨_, _, _, _, e, _⟩ := h; subst e; rfl) | (obtain ⟨_, _, _, _, _, e, _⟩ := h; subst e; rfl) | (obtain ⟨_, _, _, _, _, _, e, _⟩ := h; subst e; rfl) | (obtain ⟨_, _, _, _, _, _, _, e, _⟩ := h; subst e; rfl) | (obtain ⟨_, _, _, _, _, _, _, _, e, _⟩ := h; subst e; rfl) | (obtain ⟨_, _, _, _, _, _, _, _, _, e, _⟩ := h; subst e; rfl) | (obtain ⟨_, _, _, _, _, _, _, _, _, _, e, _⟩ := h; subst e; rfl) | (obtain ⟨_, _, _, _, _, _, _, _, _, _, _, e, _⟩ := h; subst e; rfl) | (obtain ⟨_, _, _, _, _, _, _, _, _, _, _, _, e, _⟩ := h; subst e; rfl) | (obtain ⟨_, _, _, _, _, _, _, _, _, _, _, _, _, e, _⟩ := h; subst e; rfl)) (fun ds M Q E h => wp_read_position (E' := E) h)
  have c_lam1 : ClG P w K mg base 6 ci_lam1 := clg_lam (k := 5) (mc := mc_lam1) (C := cx_lam1) (ps := []) (ce := ce_lam1) ⟨rfl, rfl, rfl, rfl, F.blt, sk, (fok_cons (f_read_position.mono (by decide)) fok_nil), gok_nil, aok_nil, mok_nil, lok_nil, ex0⟩ rfl rfl (fun caps ds M Q E h => by first | (obtain ⟨e, _⟩ := h; subst e; rfl) | (obtain ⟨_, e, _⟩ := h; subst e; rfl) | (obtain ⟨_, _, e, _⟩ := h; subst e; rfl) | (obtain ⟨_, _, _, e, _⟩ := h; subst e; rfl) | (obtain ⟨_, _, _, _, e, _⟩ := h; subst e; rfl) | (obtain ⟨_, _, _, _, _, e, _⟩ := h; subst e; rfl) | (obtain ⟨_, _, _, _, _, _, e, _⟩ := h; subst e; rfl) | (obtain ⟨_, _, _, _, _, _, _, e, _⟩ := h; subst e; rfl) | (obtain ⟨_, _, _, _, _, _, _, _, e, _⟩ := h; subst e; rfl) | (obtain ⟨_, _, _, _, _, _, _, _, _, e, _⟩ := h; subst e; rfl) | (obtain ⟨_, _, _, _, _, _, _, _, _, _, e, _⟩ := h; subst e; rfl) | (obtain ⟨_, _, _, _, _, _, _, _, _, _, _, e, _⟩ := h; subst e; rfl) | (obtain ⟨_, _, _, _, _, _, _, _, _, _, _, _, e, _⟩ := h; subst e; rfl) | (obtain ⟨_, _, _, _, _, _, _, _, _, _, _, _, _, e, _⟩ := h; subst e; rfl)) (fun caps ds M Q E h => wp_lam1 (E' := E) h)
  have f_read_log : FnM P w K mg base 5 fi_read_log := def_ok (k := 4) (mc := mc_read_log) (C := cx_read_log) ⟨rfl, rfl, rfl, rfl, F.blt, sk, (fok_cons (f_words_of.mono (by decide)) (fok_cons (f_only_word.mono (by decide)) (fok_cons (f_position_in.mono (by decide)) fok_nil))), (gok_cons F.g_NOTHING (gok_cons F.g_MOST_REQUESTS_boxes gok_nil)), aok_nil, mok_nil, lok_nil, ex0⟩ F.d_read_log sc_read_log rfl m_read_log (fun ds M Q E h => by first | (obtain ⟨e, _⟩ := h; subst e; rfl) | (obtain ⟨_, e, _⟩ := h; subst e; rfl) | (obtain ⟨_, _, e, _⟩ := h; subst e; rfl) | (obtain ⟨_, _, _, e, _⟩ := h; subst e; rfl) | (obtain ⟨_, _, _, _, e, _⟩ := h; subst e; rfl) | (obtain ⟨_, _, _, _, _, e, _⟩ := h; subst e; rfl) | (obtain ⟨_, _, _, _, _, _, e, _⟩ := h; subst e; rfl) | (obtain ⟨_, _, _, _, _, _, _, e, _⟩ := h; subst e; rfl) | (obtain ⟨_, _, _, _, _, _, _, _, e, _⟩ := h; subst e; rfl) | (obtain ⟨_, _, _, _, _, _, _, _, _, e, _⟩ := h; subst e; rfl) | (obtain ⟨_, _, _, _, _, _, _, _, _, _, e, _⟩ := h; subst e; rfl) | (obtain ⟨_, _, _, _, _, _, _, _, _, _, _, e, _⟩ := h; subst e; rfl) | (obtain ⟨_, _, _, _, _, _, _, _, _, _, _, _, e, _⟩ := h; subst e; rfl) | (obtain ⟨_, _, _, _, _, _, _, _, _, _, _, _, _, e, _⟩ := h; subst e; rfl)) (fun ds M Q E h => wp_read_log (E' := E) h)
  have c_lam2 : ClG P w K mg base 6 ci_lam2 := clg_lam (k := 5) (mc := mc_lam2) (C := cx_lam2) (ps := []) (ce := ce_lam2) ⟨rfl, rfl, rfl, rfl, F.blt, sk, (fok_cons (f_read_log.mono (by decide)) fok_nil), gok_nil, aok_nil, mok_nil, lok_nil, ex0⟩ rfl rfl (fun caps ds M Q E h => by first | (obtain ⟨e, _⟩ := h; subst e; rfl) | (obtain ⟨_, e, _⟩ := h; subst e; rfl) | (obtain ⟨_, _, e, _⟩ := h; subst e; rfl) | (obtain ⟨_, _, _, e, _⟩ := h; subst e; rfl) | (obtain ⟨_, _, _, _, e, _⟩ := h; subst e; rfl) | (obtain ⟨_, _, _, _, _, e, _⟩ := h; subst e; rfl) | (obtain ⟨_, _, _, _, _, _, e, _⟩ := h; subst e; rfl) | (obtain ⟨_, _, _, _, _, _, _, e, _⟩ := h; subst e; rfl) | (obtain ⟨_, _, _, _, _, _, _, _, e, _⟩ := h; subst e; rfl) | (obtain ⟨_, _, _, _, _, _, _, _, _, e, _⟩ := h; subst e; rfl) | (obtain ⟨_, _, _, _, _, _, _, _, _, _, e, _⟩ := h; subst e; rfl) | (obtain ⟨_, _, _, _, _, _, _, _, _, _, _, e, _⟩ := h; subst e; rfl) | (obtain ⟨_, _, _, _, _, _, _, _, _, _, _, _, e, _⟩ := h; subst e; rfl) | (obtain ⟨_, _, _, _, _, _, _, _, _, _, _, _, _, e, _⟩ := h; subst e; rfl)) (fun caps ds M Q E h => wp_lam2 (E' := E) h)
  have c_lam3 : ClG P w K mg base 7 ci_lam3 := clg_lam (k := 6) (mc := mc_lam3) (C := cx_lam3) (ps := []) (ce := ce_lam3) ⟨rfl, rfl, rfl, rfl, F.blt, sk, (fok_consK (f_Session_init.up (by decide)) fok_nil), gok_nil, aok_nil, mok_nil, lok_nil, ex0⟩ rfl rfl (fun caps ds M Q E h => by first | (obtain ⟨e, _⟩ := h; subst e; rfl) | (obtain ⟨_, e, _⟩ := h; subst e; rfl) | (obtain ⟨_, _, e, _⟩ := h; subst e; rfl) | (obtain ⟨_, _, _, e, _⟩ := h; subst e; rfl) | (obtain ⟨_, _, _, _, e, _⟩ := h; subst e; rfl) | (obtain ⟨_, _, _, _, _, e, _⟩ := h; subst e; rfl) | (obtain ⟨_, _, _, _, _, _, e, _⟩ := h; subst e; rfl) | (obtain ⟨_, _, _, _, _, _, _, e, _⟩ := h; subst e; rfl) | (obtain ⟨_, _, _, _, _, _, _, _, e, _⟩ := h; subst e; rfl) | (obtain ⟨_, _, _, _, _, _, _, _, _, e, _⟩ := h; subst e; rfl) | (obtain ⟨_, _, _, _, _, _, _, _, _, _, e, _⟩ := h; subst e; rfl) | (obtain ⟨_, _, _, _, _, _, _, _, _, _, _, e, _⟩ := h; subst e; rfl) | (obtain ⟨_, _, _, _, _, _, _, _, _, _, _, _, e, _⟩ := h; subst e; rfl) | (obtain ⟨_, _, _, _, _, _, _, _, _, _, _, _, _, e, _⟩ := h; subst e; rfl)) (fun caps ds M Q E h => wp_lam3 (E' := E) h)
  have f_loads_of : FnM P w K mg base 4 fi_loads_of := def_ok (k := 3) (mc := mc_loads_of) (C := cx_loads_of) ⟨rfl, rfl, rfl, rfl, F.blt, sk, (fok_cons (f_words_of.mono (by decide)) (fok_cons (f_only_word.mono (by decide)) fok_nil)), (gok_cons F.g_NOTHING (gok_cons F.g_NO_PLAN gok_nil)), aok_nil, mok_nil, lok_nil, ex0⟩ F.d_loads_of sc_loads_of rfl m_loads_of (fun ds M Q E h => by first | (obtain ⟨e, _⟩ := h; subst e; rfl) | (obtain ⟨_, e, _⟩ := h; subst e; rfl) | (obtain ⟨_, _, e, _⟩ := h; subst e; rfl) | (obtain ⟨_, _, _, e, _⟩ := h; subst e; rfl) | (obtain ⟨_, _, _, _, e, _⟩ := h; subst e; rfl) | (obtain ⟨_, _, _, _, _, e, _⟩ := h; subst e; rfl) | (obtain ⟨_, _, _, _, _, _, e, _⟩ := h; subst e; rfl) | (obtain ⟨_, _, _, _, _, _, _, e, _⟩ := h; subst e; rfl) | (obtain ⟨_, _, _, _, _, _, _, _, e, _⟩ := h; subst e; rfl) | (obtain ⟨_, _, _, _, _, _, _, _, _, e, _⟩ := h; subst e; rfl) | (obtain ⟨_, _, _, _, _, _, _, _, _, _, e, _⟩ := h; subst e; rfl) | (obtain ⟨_, _, _, _, _, _, _, _, _, _, _, e, _⟩ := h; subst e; rfl) | (obtain ⟨_, _, _, _, _, _, _, _, _, _, _, _, e, _⟩ := h; subst e; rfl) | (obtain ⟨_, _, _, _, _, _, _, _, _, _, _, _, _, e, _⟩ := h; subst e; rfl)) (fun ds M Q E h => wp_loads_of (E' := E) h)
  have f_read_plan : FnM P w K mg base 5 fi_read_plan := def_ok (k := 4) (mc := mc_read_plan) (C := cx_read_plan) ⟨rfl, rfl, rfl, rfl, F.blt, sk, (fok_cons (f_loads_of.mono (by decide)) fok_nil), gok_nil, aok_nil, mok_nil, lok_nil, ex0⟩ F.d_read_plan sc_read_plan rfl m_read_plan (fun ds M Q E h => by first | (obtain ⟨e, _⟩ := h; subst e; rfl) | (obtain ⟨_, e, _⟩ := h; subst e; rfl) | (obtain ⟨_, _, e, _⟩ := h; subst e; rfl) | (obtain ⟨_, _, _, e, _⟩ := h; subst e; rfl) | (obtain ⟨_, _, _, _, e, _⟩ := h; subst e; rfl) | (obtain ⟨_, _, _, _, _, e, _⟩ := h; subst e; rfl) | (obtain ⟨_, _, _, _, _, _, e, _⟩ := h; subst e; rfl) | (obtain ⟨_, _, _, _, _, _, _, e, _⟩ := h; subst e; rfl) | (obtain ⟨_, _, _, _, _, _, _, _, e, _⟩ := h; subst e; rfl) | (obtain ⟨_, _, _, _, _, _, _, _, _, e, _⟩ := h; subst e; rfl) | (obtain ⟨_, _, _, _, _, _, _, _, _, _, e, _⟩ := h; subst e; rfl) | (obtain ⟨_, _, _, _, _, _, _, _, _, _, _, e, _⟩ := h; subst e; rfl) | (obtain ⟨_, _, _, _, _, _, _, _, _, _, _, _, e, _⟩ := h; subst e; rfl) | (obtain ⟨_, _, _, _, _, _, _, _, _, _, _, _, _, e, _⟩ := h; subst e; rfl)) (fun ds M Q E h => wp_read_plan (E' := E) h)
  have c_lam4 : ClG P w K mg base 6 ci_lam4 := clg_lam (k := 5) (mc := mc_lam4) (C := cx_lam4) (ps := []) (ce := ce_lam4) ⟨rfl, rfl, rfl, rfl, F.blt, sk, (fok_cons (f_read_plan.mono (by decide)) fok_nil), gok_nil, aok_nil, mok_nil, lok_nil, ex0⟩ rfl rfl (fun caps ds M Q E h => by first | (obtain ⟨e, _⟩ := h; subst e; rfl) | (obtain ⟨_, e, _⟩ := h; subst e; rfl) | (obtain ⟨_, _, e, _⟩ := h; subst e; rfl) | (obtain ⟨_, _, _, e, _⟩ := h; subst e; rfl) | (obtain ⟨_, _, _, _, e, _⟩ := h; subst e; rfl) | (obtain ⟨_, _, _, _, _, e, _⟩ := h; subst e; rfl) | (obtain ⟨_, _, _, _, _, _, e, _⟩ := h; subst e; rfl) | (obtain ⟨_, _, _, _, _, _, _, e, _⟩ := h; subst e; rfl) | (obtain ⟨_, _, _, _, _, _, _, _, e, _⟩ := h; subst e; rfl) | (obtain ⟨_, _, _, _, _, _, _, _, _, e, _⟩ := h; subst e; rfl) | (obtain ⟨_, _, _, _, _, _, _, _, _, _, e, _⟩ := h; subst e; rfl) | (obtain ⟨_, _, _, _, _, _, _, _, _, _, _, e, _⟩ := h; subst e; rfl) | (obtain ⟨_, _, _, _, _, _, _, _, _, _, _, _, e, _⟩ := h; subst e; rfl) | (obtain ⟨_, _, _, _, _, _, _, _, _, _, _, _, _, e, _⟩ := h; subst e; rfl)) (fun caps ds M Q E h => wp_lam4 (E' := E) h)
  have c_lam5 : ClG P w K mg base 5 ci_lam5 := clg_lam (k := 4) (mc := mc_lam5) (C := cx_lam5) (ps := []) (ce := ce_lam5) ⟨rfl, rfl, rfl, rfl, F.blt, sk, fok_nil, gok_nil, aok_nil, (mok_cons (f_Session_run.mono (by decide)) mok_nil), (lok_skip (by decide +kernel) lok_nil), ex0⟩ rfl rfl (fun caps ds M Q E h => by first | (obtain ⟨e, _⟩ := h; subst e; rfl) | (obtain ⟨_, e, _⟩ := h; subst e; rfl) | (obtain ⟨_, _, e, _⟩ := h; subst e; rfl) | (obtain ⟨_, _, _, e, _⟩ := h; subst e; rfl) | (obtain ⟨_, _, _, _, e, _⟩ := h; subst e; rfl) | (obtain ⟨_, _, _, _, _, e, _⟩ := h; subst e; rfl) | (obtain ⟨_, _, _, _, _, _, e, _⟩ := h; subst e; rfl) | (obtain ⟨_, _, _, _, _, _, _, e, _⟩ := h; subst e; rfl) | (obtain ⟨_, _, _, _, _, _, _, _, e, _⟩ := h; subst e; rfl) | (obtain ⟨_, _, _, _, _, _, _, _, _, e, _⟩ := h; subst e; rfl) | (obtain ⟨_, _, _, _, _, _, _, _, _, _, e, _⟩ := h; subst e; rfl) | (obtain ⟨_, _, _, _, _, _, _, _, _, _, _, e, _⟩ := h; subst e; rfl) | (obtain ⟨_, _, _, _, _, _, _, _, _, _, _, _, e, _⟩ := h; subst e; rfl) | (obtain ⟨_, _, _, _, _, _, _, _, _, _, _, _, _, e, _⟩ := h; subst e; rfl)) (fun caps ds M Q E h => wp_lam5 (E' := E) h)
  have f_q_caught : FnM P w K mg base 8 fi_q_caught := def_ok (k := 7) (mc := mc_q_caught) (C := cx_q_caught) ⟨rfl, rfl, rfl, rfl, F.blt, sk, fok_nil, gok_nil, aok_nil, mok_nil, lok_nil, ⟨rfl, rfl, rfl, rfl, rfl, (fun _ h => nomatch h), (List.forall_mem_cons.mpr ⟨(fun f e => by cases e; exact F.xf_BadText), (List.forall_mem_cons.mpr ⟨(fun f e => by cases e; exact F.xf_BadLine), (fun _ h => nomatch h)⟩)⟩), (List.forall_mem_cons.mpr ⟨F.xk_BadText, (List.forall_mem_cons.mpr ⟨F.xk_BadLine, (fun _ h => nomatch h)⟩)⟩), (List.forall_mem_cons.mpr ⟨(List.forall_mem_cons.mpr ⟨F.xc_BadText_WindowError, (fun _ h => nomatch h)⟩), (List.forall_mem_cons.mpr ⟨(List.forall_mem_cons.mpr ⟨F.xc_BadLine_WindowError, (fun _ h => nomatch h)⟩), (fun _ h => nomatch h)⟩)⟩), (List.forall_mem_cons.mpr ⟨F.xn_WindowError, (fun _ h => nomatch h)⟩), (List.forall_mem_cons.mpr ⟨c_lam0.mono (by decide), (List.forall_mem_cons.mpr ⟨c_lam1.mono (by decide), (List.forall_mem_cons.mpr ⟨c_lam2.mono (by decide), (List.forall_mem_cons.mpr ⟨c_lam3.mono (by decide), (List.forall_mem_cons.mpr ⟨c_lam4.mono (by decide), (List.forall_mem_cons.mpr ⟨c_lam5.mono (by decide), (fun _ h => nomatch h)⟩)⟩)⟩)⟩)⟩)⟩), (fun _ h => nomatch h), (fun h => by cases h), rfl, (fun _ h => nomatch h)⟩⟩ F.d_q_caught sc_q_caught rfl m_q_caught (fun ds M Q E h => by first | (obtain ⟨e, _⟩ := h; subst e; rfl) | (obtain ⟨_, e, _⟩ := h; subst e; rfl) | (obtain ⟨_, _, e, _⟩ := h; subst e; rfl) | (obtain ⟨_, _, _, e, _⟩ := h; subst e; rfl) | (obtain ⟨_, _, _, _, e, _⟩ := h; subst e; rfl) | (obtain ⟨_, _, _, _, _, e, _⟩ := h; subst e; rfl) | (obtain ⟨_, _, _, _, _, _, e, _⟩ := h; subst e; rfl) | (obtain ⟨_, _, _, _, _, _, _, e, _⟩ := h; subst e; rfl) | (obtain ⟨_, _, _, _, _, _, _, _, e, _⟩ := h; subst e; rfl) | (obtain ⟨_, _, _, _, _, _, _, _, _, e, _⟩ := h; subst e; rfl) | (obtain ⟨_, _, _, _, _, _, _, _, _, _, e, _⟩ := h; subst e; rfl) | (obtain ⟨_, _, _, _, _, _, _, _, _, _, _, e, _⟩ := h; subst e; rfl) | (obtain ⟨_, _, _, _, _, _, _, _, _, _, _, _, e, _⟩ := h; subst e; rfl) | (obtain ⟨_, _, _, _, _, _, _, _, _, _, _, _, _, e, _⟩ := h; subst e; rfl)) (fun ds M Q E h => wp_q_caught (E' := E) h)
  have f_q_is_refused : FnM P w K mg base 9 fi_q_is_refused := def_ok (k := 8) (mc := mc_q_is_refused) (C := cx_q_is_refused) ⟨rfl, rfl, rfl, rfl, F.blt, sk, (fok_cons (f_q_caught.mono (by decide)) fok_nil), gok_nil, aok_nil, mok_nil, lok_nil, ⟨rfl, rfl, rfl, rfl, rfl, (fun _ h => nomatch h), (List.forall_mem_cons.mpr ⟨(fun f e => by cases e; exact F.xf_BadText), (List.forall_mem_cons.mpr ⟨(fun f e => by cases e; exact F.xf_BadLine), (fun _ h => nomatch h)⟩)⟩), (List.forall_mem_cons.mpr ⟨F.xk_BadText, (List.forall_mem_cons.mpr ⟨F.xk_BadLine, (fun _ h => nomatch h)⟩)⟩), (List.forall_mem_cons.mpr ⟨(List.forall_mem_cons.mpr ⟨F.xc_BadText_BadBox, (List.forall_mem_cons.mpr ⟨F.xc_BadText_BadLine, (List.forall_mem_cons.mpr ⟨F.xc_BadText_BadText, (fun _ h => nomatch h)⟩)⟩)⟩), (List.forall_mem_cons.mpr ⟨(List.forall_mem_cons.mpr ⟨F.xc_BadLine_BadBox, (List.forall_mem_cons.mpr ⟨F.xc_BadLine_BadLine, (List.forall_mem_cons.mpr ⟨F.xc_BadLine_BadText, (fun _ h => nomatch h)⟩)⟩)⟩), (fun _ h => nomatch h)⟩)⟩), (List.forall_mem_cons.mpr ⟨F.xn_BadBox, (List.forall_mem_cons.mpr ⟨F.xn_BadLine, (List.forall_mem_cons.mpr ⟨F.xn_BadText, (fun _ h => nomatch h)⟩)⟩)⟩), (fun _ h => nomatch h), (fun _ h => nomatch h), (fun h => by cases h), rfl, (fun _ h => nomatch h)⟩⟩ F.d_q_is_refused sc_q_is_refused rfl m_q_is_refused (fun ds M Q E h => by first | (obtain ⟨e, _⟩ := h; subst e; rfl) | (obtain ⟨_, e, _⟩ := h; subst e; rfl) | (obtain ⟨_, _, e, _⟩ := h; subst e; rfl) | (obtain ⟨_, _, _, e, _⟩ := h; subst e; rfl) | (obtain ⟨_, _, _, _, e, _⟩ := h; subst e; rfl) | (obtain ⟨_, _, _, _, _, e, _⟩ := h; subst e; rfl) | (obtain ⟨_, _, _, _, _, _, e, _⟩ := h; subst e; rfl) | (obtain ⟨_, _, _, _, _, _, _, e, _⟩ := h; subst e; rfl) | (obtain ⟨_, _, _, _, _, _, _, _, e, _⟩ := h; subst e; rfl) | (obtain ⟨_, _, _, _, _, _, _, _, _, e, _⟩ := h; subst e; rfl) | (obtain ⟨_, _, _, _, _, _, _, _, _, _, e, _⟩ := h; subst e; rfl) | (obtain ⟨_, _, _, _, _, _, _, _, _, _, _, e, _⟩ := h; subst e; rfl) | (obtain ⟨_, _, _, _, _, _, _, _, _, _, _, _, e, _⟩ := h; subst e; rfl) | (obtain ⟨_, _, _, _, _, _, _, _, _, _, _, _, _, e, _⟩ := h; subst e; rfl)) (fun ds M Q E h => wp_q_is_refused (E' := E) h)
  have f_q_right : FnM P w K mg base 10 fi_q_right := def_ok (k := 9) (mc := mc_q_right) (C := cx_q_right) ⟨rfl, rfl, rfl, rfl, F.blt, sk, fok_nil, gok_nil, aok_nil, (mok_cons (f_Session_run.mono (by decide)) mok_nil), (lok_skip (by decide +kernel) lok_nil), ⟨rfl, rfl, rfl, rfl, rfl, (fun _ h => nomatch h), (List.forall_mem_cons.mpr ⟨(fun f e => by cases e; exact F.xf_BadText), (List.forall_mem_cons.mpr ⟨(fun f e => by cases e; exact F.xf_BadLine), (fun _ h => nomatch h)⟩)⟩), (List.forall_mem_cons.mpr ⟨F.xk_BadText, (List.forall_mem_cons.mpr ⟨F.xk_BadLine, (fun _ h => nomatch h)⟩)⟩), (List.forall_mem_cons.mpr ⟨(List.forall_mem_cons.mpr ⟨F.xc_BadText_BadText, (List.forall_mem_cons.mpr ⟨F.xc_BadText_BadBox, (List.forall_mem_cons.mpr ⟨F.xc_BadText_BadLine, (fun _ h => nomatch h)⟩)⟩)⟩), (List.forall_mem_cons.mpr ⟨(List.forall_mem_cons.mpr ⟨F.xc_BadLine_BadText, (List.forall_mem_cons.mpr ⟨F.xc_BadLine_BadBox, (List.forall_mem_cons.mpr ⟨F.xc_BadLine_BadLine, (fun _ h => nomatch h)⟩)⟩)⟩), (fun _ h => nomatch h)⟩)⟩), (List.forall_mem_cons.mpr ⟨F.xn_BadText, (List.forall_mem_cons.mpr ⟨F.xn_BadBox, (List.forall_mem_cons.mpr ⟨F.xn_BadLine, (fun _ h => nomatch h)⟩)⟩)⟩), (List.forall_mem_cons.mpr ⟨c_lam0.mono (by decide), (List.forall_mem_cons.mpr ⟨c_lam1.mono (by decide), (List.forall_mem_cons.mpr ⟨c_lam2.mono (by decide), (List.forall_mem_cons.mpr ⟨c_lam3.mono (by decide), (List.forall_mem_cons.mpr ⟨c_lam4.mono (by decide), (List.forall_mem_cons.mpr ⟨c_lam5.mono (by decide), (fun _ h => nomatch h)⟩)⟩)⟩)⟩)⟩)⟩), (List.forall_mem_cons.mpr ⟨f_q_is_refused.mono (by decide), (List.forall_mem_cons.mpr ⟨f_q_caught.mono (by decide), (fun _ h => nomatch h)⟩)⟩), (fun h => by cases h), rfl, (fun _ h => nomatch h)⟩⟩ F.d_q_right sc_q_right rfl m_q_right (fun ds M Q E h => by first | (obtain ⟨e, _⟩ := h; subst e; rfl) | (obtain ⟨_, e, _⟩ := h; subst e; rfl) | (obtain ⟨_, _, e, _⟩ := h; subst e; rfl) | (obtain ⟨_, _, _, e, _⟩ := h; subst e; rfl) | (obtain ⟨_, _, _, _, e, _⟩ := h; subst e; rfl) | (obtain ⟨_, _, _, _, _, e, _⟩ := h; subst e; rfl) | (obtain ⟨_, _, _, _, _, _, e, _⟩ := h; subst e; rfl) | (obtain ⟨_, _, _, _, _, _, _, e, _⟩ := h; subst e; rfl) | (obtain ⟨_, _, _, _, _, _, _, _, e, _⟩ := h; subst e; rfl) | (obtain ⟨_, _, _, _, _, _, _, _, _, e, _⟩ := h; subst e; rfl) | (obtain ⟨_, _, _, _, _, _, _, _, _, _, e, _⟩ := h; subst e; rfl) | (obtain ⟨_, _, _, _, _, _, _, _, _, _, _, e, _⟩ := h; subst e; rfl) | (obtain ⟨_, _, _, _, _, _, _, _, _, _, _, _, e, _⟩ := h; subst e; rfl) | (obtain ⟨_, _, _, _, _, _, _, _, _, _, _, _, _, e, _⟩ := h; subst e; rfl)) (fun ds M Q E h => wp_q_right (E' := E) h) (fun f fd hf hF _ => F.mk_q_right base TB f fd hf hF)
  have f_law : FnM P w K mg base 11 fi_law := def_ok (k := 10) (mc := mc_law) (C := cx_law) ⟨rfl, rfl, rfl, rfl, F.blt, sk, (fok_cons (f_q_urn.mono (by decide)) (fok_cons (f_q_box.mono (by decide)) (fok_consK (f_Session_init.up (by decide)) (fok_cons (f_q_odd.mono (by decide)) (fok_cons (f_q_right.mono (by decide)) fok_nil))))), gok_nil, aok_nil, mok_nil, lok_nil, ex0⟩ F.d_law sc_law rfl m_law (fun ds M Q E h => by first | (obtain ⟨e, _⟩ := h; subst e; rfl) | (obtain ⟨_, e, _⟩ := h; subst e; rfl) | (obtain ⟨_, _, e, _⟩ := h; subst e; rfl) | (obtain ⟨_, _, _, e, _⟩ := h; subst e; rfl) | (obtain ⟨_, _, _, _, e, _⟩ := h; subst e; rfl) | (obtain ⟨_, _, _, _, _, e, _⟩ := h; subst e; rfl) | (obtain ⟨_, _, _, _, _, _, e, _⟩ := h; subst e; rfl) | (obtain ⟨_, _, _, _, _, _, _, e, _⟩ := h; subst e; rfl) | (obtain ⟨_, _, _, _, _, _, _, _, e, _⟩ := h; subst e; rfl) | (obtain ⟨_, _, _, _, _, _, _, _, _, e, _⟩ := h; subst e; rfl) | (obtain ⟨_, _, _, _, _, _, _, _, _, _, e, _⟩ := h; subst e; rfl) | (obtain ⟨_, _, _, _, _, _, _, _, _, _, _, e, _⟩ := h; subst e; rfl) | (obtain ⟨_, _, _, _, _, _, _, _, _, _, _, _, e, _⟩ := h; subst e; rfl) | (obtain ⟨_, _, _, _, _, _, _, _, _, _, _, _, _, e, _⟩ := h; subst e; rfl)) (fun ds M Q E h => wp_law (E' := E) h)
  exact f_law.mono (by decide)
theorem law_spx (ns : List Int) (h : ns.length ≤ 63) : fi_law.sp [.scr ns] (fun _ => none) (fun v _ => v = .bl true) (fun _ _ => False) := law_sp ns h
end
end Kx
end Ow
open PySem PySem.W PyProof.Rows
set_option maxHeartbeats 0 in
theorem PySem.Challenge.cw_onewindow_k59_values_that_are_no_texts_holds : PySem.Challenge.rw_onewindow_k59_values_that_are_no_texts.Holds := by
  w_on; o_law; k_head; (case hw => w_witness2)
  k_fill
  refine Ow.walk_ofT (l := PySem.Challenge.rw_onewindow_k59_values_that_are_no_texts) (n := 63) (k := 20) (cs := Ow.Kx.tsL) rfl (by decide) rfl ⟨rfl, by decide, by decide⟩ rfl (by decide +kernel) (fun w h Y => PySem.W.km_in_of Y) (fun w h Y p hp => PySem.W.km_tabs_of Y p.2 (List.mem_map_of_mem (f := Prod.snd) hp)) (fun w => List.forall_mem_cons.mpr ⟨by kernel_rfl, (fun _ h => nomatch h)⟩) (fun w h KX => List.forall_mem_cons.mpr ⟨PySem.W.codeHd_of_K (c := 680) (P := 676) KX (by kernel_rfl), (fun _ h => nomatch h)⟩) (by decide +kernel) ?F (fun ns hl _ => Ow.Kx.law_spx ns hl)
  case F =>
    intro w mg h KX G base sk TB
    refine Ow.Kx.law_fn KX ?facts sk TB
    refine' ⟨Ow.defM_mk KX G ?a_is_integer ?l_is_integer ?c_is_integer ?k_is_integer Ow.Kx.bi_is_integer, Ow.defM_mk KX G ?a_is_box ?l_is_box ?c_is_box ?k_is_box Ow.Kx.bi_is_box, Ow.defM_mk KX G ?a_show_position ?l_show_position ?c_show_position ?k_show_position Ow.Kx.bi_show_position, Ow.defM_mk KX G ?a_show_log ?l_show_log ?c_show_log ?k_show_log Ow.Kx.bi_show_log, Ow.defM_mk KX G ?a_integer_in ?l_integer_in ?c_integer_in ?k_integer_in Ow.Kx.bi_integer_in, Ow.defM_mk KX G ?a_integers_in ?l_integers_in ?c_integers_in ?k_integers_in Ow.Kx.bi_integers_in, Ow.defM_mk KX G ?a_box_in ?l_box_in ?c_box_in ?k_box_in Ow.Kx.bi_box_in, Ow.defM_mk KX G ?a_point_in ?l_point_in ?c_point_in ?k_point_in Ow.Kx.bi_point_in, Ow.defM_mk KX G ?a_position_in ?l_position_in ?c_position_in ?k_position_in Ow.Kx.bi_position_in, Ow.defM_mk KX G ?a_words_of ?l_words_of ?c_words_of ?k_words_of Ow.Kx.bi_words_of, Ow.defM_mk KX G ?a_only_word ?l_only_word ?c_only_word ?k_only_word Ow.Kx.bi_only_word, Ow.defM_mk KX G ?a_read_box ?l_read_box ?c_read_box ?k_read_box Ow.Kx.bi_read_box, Ow.defM_mk KX G ?a_read_position ?l_read_position ?c_read_position ?k_read_position Ow.Kx.bi_read_position, Ow.defM_mk KX G ?a_read_log ?l_read_log ?c_read_log ?k_read_log Ow.Kx.bi_read_log, Ow.defM_mk KX G ?a_loads_of ?l_loads_of ?c_loads_of ?k_loads_of Ow.Kx.bi_loads_of, Ow.defM_mk KX G ?a_read_plan ?l_read_plan ?c_read_plan ?k_read_plan Ow.Kx.bi_read_plan, Ow.defM_mk KX G ?a_q_urn ?l_q_urn ?c_q_urn ?k_q_urn Ow.Kx.bi_q_urn, Ow.defM_mk KX G ?a_q_take ?l_q_take ?c_q_take ?k_q_take Ow.Kx.bi_q_take, Ow.defM_mk KX G ?a_q_pick ?l_q_pick ?c_q_pick ?k_q_pick Ow.Kx.bi_q_pick, Ow.defM_mk KX G ?a_q_caught ?l_q_caught ?c_q_caught ?k_q_caught Ow.Kx.bi_q_caught, Ow.defM_mk KX G ?a_q_box ?l_q_box ?c_q_box ?k_q_box Ow.Kx.bi_q_box, Ow.defM_mk KX G ?a_q_odd ?l_q_odd ?c_q_odd ?k_q_odd Ow.Kx.bi_q_odd, Ow.defM_mk KX G ?a_q_is_refused ?l_q_is_refused ?c_q_is_refused ?k_q_is_refused Ow.Kx.bi_q_is_refused, Ow.defM_mk KX G ?a_q_right ?l_q_right ?c_q_right ?k_q_right Ow.Kx.bi_q_right, Ow.defM_mk KX G ?a_law ?l_law ?c_law ?k_law Ow.Kx.bi_law, Ow.defK_mk KX G ?c_Viewer_init ?mk_Viewer_init ?in_Viewer_init ?fn_Viewer_init ?kp_Viewer_init ?l_Viewer_init ?cd_Viewer_init ?kf_Viewer_init Ow.Kx.bi_Viewer_init, Ow.defT_mk KX G ?c_Viewer_log ?pg_Viewer_log ?hd_Viewer_log ?po_Viewer_log ?sa_Viewer_log ?ne_Viewer_log ?so_Viewer_log ?mr_Viewer_log ?ha_Viewer_log ?hn_Viewer_log ?tk_Viewer_log ?nt_Viewer_log ?at_Viewer_log ?fn_Viewer_log ?kp_Viewer_log ?l_Viewer_log ?cd_Viewer_log Ow.Kx.bi_Viewer_log, Ow.defK_mk KX G ?c_Session_init ?mk_Session_init ?in_Session_init ?fn_Session_init ?kp_Session_init ?l_Session_init ?cd_Session_init ?kf_Session_init Ow.Kx.bi_Session_init, Ow.defT_mk KX G ?c_Session_run ?pg_Session_run ?hd_Session_run ?po_Session_run ?sa_Session_run ?ne_Session_run ?so_Session_run ?mr_Session_run ?ha_Session_run ?hn_Session_run ?tk_Session_run ?nt_Session_run ?at_Session_run ?fn_Session_run ?kp_Session_run ?l_Session_run ?cd_Session_run Ow.Kx.bi_Session_run, Ow.defT_mk KX G ?c_Session_answer ?pg_Session_answer ?hd_Session_answer ?po_Session_answer ?sa_Session_answer ?ne_Session_answer ?so_Session_answer ?mr_Session_answer ?ha_Session_answer ?hn_Session_answer ?tk_Session_answer ?nt_Session_answer ?at_Session_answer ?fn_Session_answer ?kp_Session_answer ?l_Session_answer ?cd_Session_answer Ow.Kx.bi_Session_answer, Ow.gint_mk KX G ?g_MOST_AXES, Ow.gint_mk KX G ?g_MOST_SIZE, Ow.gstr_mk KX G ?g_COMMA, Ow.gstr_mk KX G ?g_NOTHING, Ow.gstr_mk KX G ?g_BLANK, Ow.gstr_mk KX G ?g_MINUS, Ow.gstr_mk KX G ?g_DIGITS, Ow.gint_mk KX G ?g_MOST_DIGITS, Ow.gstr_mk KX G ?g_CROSS, Ow.gint_mk KX G ?g_FARTHEST_POSITION, Ow.gint_mk KX G ?g_MOST_REQUESTS_boxes, Ow.gtup_mk KX G ?g_NO_PLAN ?gt_NO_PLAN, Ow.gint_mk KX G ?g_PARTS_sessions, Ow.gtup_mk KX G ?g_PRESENT_WORDS ?gt_PRESENT_WORDS, (Ow.atM_cons KX G ?c_sizes_Viewer ?pg_sizes_Viewer ?hd_sizes_Viewer ?po_sizes_Viewer ?sa_sizes_Viewer ?no_sizes_Viewer (Ow.atM_cons KX G ?c_sizes_Session ?pg_sizes_Session ?hd_sizes_Session ?po_sizes_Session ?sa_sizes_Session ?no_sizes_Session Ow.atM_nil)), (Ow.atM_cons KX G ?c_moments_Viewer ?pg_moments_Viewer ?hd_moments_Viewer ?po_moments_Viewer ?sa_moments_Viewer ?no_moments_Viewer Ow.atM_nil), (Ow.atM_cons KX G ?c_position_Moment ?pg_position_Moment ?hd_position_Moment ?po_position_Moment ?sa_position_Moment ?no_position_Moment Ow.atM_nil), (Ow.atM_cons KX G ?c_viewer_Session ?pg_viewer_Session ?hd_viewer_Session ?po_viewer_Session ?sa_viewer_Session ?no_viewer_Session Ow.atM_nil), Ow.blt_mk KX G ?z0 ?z1 ?z2 ?z3 ?z4 ?z5 ?z6 ?z7 ?z8 ?z9 ?z10 ?z11 ?z12 ?z13 ?z14 ?z15 ?z16 ?z17 ?z18 ?z19 ?z20 ?z21, Ow.xk_mk KX G ?xa_BadText ?xb_BadText, Ow.xf_mk KX G ?xa2_BadText ?xb2_BadText ?xd_BadText, Ow.xc_mk KX G ?xe_BadText_WindowError ?xg_BadText_WindowError ?xh_BadText_WindowError, Ow.xc_mk KX G ?xe_BadText_BadBox ?xg_BadText_BadBox ?xh_BadText_BadBox, Ow.xc_mk KX G ?xe_BadText_BadLine ?xg_BadText_BadLine ?xh_BadText_BadLine, Ow.xc_mk KX G ?xe_BadText_BadText ?xg_BadText_BadText ?xh_BadText_BadText, Ow.xk_mk KX G ?xa_BadLine ?xb_BadLine, Ow.xf_mk KX G ?xa2_BadLine ?xb2_BadLine ?xd_BadLine, Ow.xc_mk KX G ?xe_BadLine_WindowError ?xg_BadLine_WindowError ?xh_BadLine_WindowError, Ow.xc_mk KX G ?xe_BadLine_BadBox ?xg_BadLine_BadBox ?xh_BadLine_BadBox, Ow.xc_mk KX G ?xe_BadLine_BadLine ?xg_BadLine_BadLine ?xh_BadLine_BadLine, Ow.xc_mk KX G ?xe_BadLine_BadText ?xg_BadLine_BadText ?xh_BadLine_BadText, Ow.xn_mk KX G ?xi_WindowError ?xj_WindowError, Ow.xn_mk KX G ?xi_BadBox ?xj_BadBox, Ow.xn_mk KX G ?xi_BadLine ?xj_BadLine, Ow.xn_mk KX G ?xi_BadText ?xj_BadText, Ow.xr_mk (x := Ow.Kx.xi_BadLine) (p := "line") (wn := "WindowError") (st := Ow.Kx.s_BadLine_init) (qual := "BadLine.__init__") KX G ?r1_BadLine ?r2_BadLine ?r3_BadLine ?r4_BadLine ?r5_BadLine ?r6_BadLine ?r7_BadLine ?r8_BadLine ?r9_BadLine ?ra_BadLine ?rb_BadLine ?rc_BadLine ?rd_BadLine Ow.Kx.sc_BadLine_init (by decide +kernel) (by decide +kernel) (by decide +kernel) (by decide +kernel) Ow.Kx.bi_BadLine_init, Ow.xr_mk (x := Ow.Kx.xi_BadText) (p := "word") (wn := "WindowError") (st := Ow.Kx.s_BadText_init) (qual := "BadText.__init__") KX G ?r1_BadText ?r2_BadText ?r3_BadText ?r4_BadText ?r5_BadText ?r6_BadText ?r7_BadText ?r8_BadText ?r9_BadText ?ra_BadText ?rb_BadText ?rc_BadText ?rd_BadText Ow.Kx.sc_BadText_init (by decide +kernel) (by decide +kernel) (by decide +kernel) (by decide +kernel) Ow.Kx.bi_BadText_init, Ow.mkc_mk (c := 680) (T := 676) (ts := Ow.Kx.tsL) KX G ?ma_q_right ?ml_q_right (by decide +kernel) (by decide +kernel) (by decide +kernel)⟩
    (case a_is_integer => k_is)
    (case l_is_integer => k_is)
    (case c_is_integer => k_is)
    (case k_is_integer => k_is)
    (case a_is_box => k_is)
    (case l_is_box => k_is)
    (case c_is_box => k_is)
    (case k_is_box => k_is)
    (case a_show_position => k_is)
    (case l_show_position => k_is)
    (case c_show_position => k_is)
    (case k_show_position => k_is)
    (case a_show_log => k_is)
    (case l_show_log => k_is)
    (case c_show_log => k_is)
    (case k_show_log => k_is)
    (case a_integer_in => k_is)
    (case l_integer_in => k_is)
    (case c_integer_in => k_is)
    (case k_integer_in => k_is)
    (case a_integers_in => k_is)
    (case l_integers_in => k_is)
    (case c_integers_in => k_is)
    (case k_integers_in => k_is)
    (case a_box_in => k_is)
    (case l_box_in => k_is)
    (case c_box_in => k_is)
    (case k_box_in => k_is)
    (case a_point_in => k_is)
    (case l_point_in => k_is)
    (case c_point_in => k_is)
    (case k_point_in => k_is)
    (case a_position_in => k_is)
    (case l_position_in => k_is)
    (case c_position_in => k_is)
    (case k_position_in => k_is)
    (case a_words_of => k_is)
    (case l_words_of => k_is)
    (case c_words_of => k_is)
    (case k_words_of => k_is)
    (case a_only_word => k_is)
    (case l_only_word => k_is)
    (case c_only_word => k_is)
    (case k_only_word => k_is)
    (case a_read_box => k_is)
    (case l_read_box => k_is)
    (case c_read_box => k_is)
    (case k_read_box => k_is)
    (case a_read_position => k_is)
    (case l_read_position => k_is)
    (case c_read_position => k_is)
    (case k_read_position => k_is)
    (case a_read_log => k_is)
    (case l_read_log => k_is)
    (case c_read_log => k_is)
    (case k_read_log => k_is)
    (case a_loads_of => k_is)
    (case l_loads_of => k_is)
    (case c_loads_of => k_is)
    (case k_loads_of => k_is)
    (case a_read_plan => k_is)
    (case l_read_plan => k_is)
    (case c_read_plan => k_is)
    (case k_read_plan => k_is)
    (case a_q_urn => k_is)
    (case l_q_urn => k_is)
    (case c_q_urn => k_is)
    (case k_q_urn => k_is)
    (case a_q_take => k_is)
    (case l_q_take => k_is)
    (case c_q_take => k_is)
    (case k_q_take => k_is)
    (case a_q_pick => k_is)
    (case l_q_pick => k_is)
    (case c_q_pick => k_is)
    (case k_q_pick => k_is)
    (case a_q_caught => k_is)
    (case l_q_caught => k_is)
    (case c_q_caught => k_is)
    (case k_q_caught => k_is)
    (case a_q_box => k_is)
    (case l_q_box => k_is)
    (case c_q_box => k_is)
    (case k_q_box => k_is)
    (case a_q_odd => k_is)
    (case l_q_odd => k_is)
    (case c_q_odd => k_is)
    (case k_q_odd => k_is)
    (case a_q_is_refused => k_is)
    (case l_q_is_refused => k_is)
    (case c_q_is_refused => k_is)
    (case k_q_is_refused => k_is)
    (case a_q_right => k_is)
    (case l_q_right => k_is)
    (case c_q_right => k_is)
    (case k_q_right => k_is)
    (case a_law => k_is)
    (case l_law => k_is)
    (case c_law => k_is)
    (case k_law => k_is)
    (case c_Viewer_init => k_is)
    (case mk_Viewer_init => k_is)
    (case in_Viewer_init => k_is)
    (case fn_Viewer_init => k_is)
    (case kp_Viewer_init => k_is)
    (case l_Viewer_init => k_is)
    (case cd_Viewer_init => k_is)
    (case kf_Viewer_init => k_is)
    (case c_Viewer_log => k_is)
    (case pg_Viewer_log => k_is)
    (case hd_Viewer_log => k_is)
    (case po_Viewer_log => k_is)
    (case sa_Viewer_log => k_is)
    (case ne_Viewer_log => k_is)
    (case so_Viewer_log => k_is)
    (case mr_Viewer_log => k_is)
    (case ha_Viewer_log => k_is)
    (case hn_Viewer_log => k_is)
    (case tk_Viewer_log => k_is)
    (case nt_Viewer_log => kernel_rfl)
    (case at_Viewer_log => k_is)
    (case fn_Viewer_log => k_is)
    (case kp_Viewer_log => k_is)
    (case l_Viewer_log => k_is)
    (case cd_Viewer_log => k_is)
    (case c_Session_init => k_is)
    (case mk_Session_init => k_is)
    (case in_Session_init => k_is)
    (case fn_Session_init => k_is)
    (case kp_Session_init => k_is)
    (case l_Session_init => k_is)
    (case cd_Session_init => k_is)
    (case kf_Session_init => k_is)
    (case c_Session_run => k_is)
    (case pg_Session_run => k_is)
    (case hd_Session_run => k_is)
    (case po_Session_run => k_is)
    (case sa_Session_run => k_is)
    (case ne_Session_run => k_is)
    (case so_Session_run => k_is)
    (case mr_Session_run => k_is)
    (case ha_Session_run => k_is)
    (case hn_Session_run => k_is)
    (case tk_Session_run => k_is)
    (case nt_Session_run => kernel_rfl)
    (case at_Session_run => k_is)
    (case fn_Session_run => k_is)
    (case kp_Session_run => k_is)
    (case l_Session_run => k_is)
    (case cd_Session_run => k_is)
    (case c_Session_answer => k_is)
    (case pg_Session_answer => k_is)
    (case hd_Session_answer => k_is)
    (case po_Session_answer => k_is)
    (case sa_Session_answer => k_is)
    (case ne_Session_answer => k_is)
    (case so_Session_answer => k_is)
    (case mr_Session_answer => k_is)
    (case ha_Session_answer => k_is)
    (case hn_Session_answer => k_is)
    (case tk_Session_answer => k_is)
    (case nt_Session_answer => kernel_rfl)
    (case at_Session_answer => k_is)
    (case fn_Session_answer => k_is)
    (case kp_Session_answer => k_is)
    (case l_Session_answer => k_is)
    (case cd_Session_answer => k_is)
    (case g_MOST_AXES => k_is)
    (case g_MOST_SIZE => k_is)
    (case g_COMMA => k_is)
    (case g_NOTHING => k_is)
    (case g_BLANK => k_is)
    (case g_MINUS => k_is)
    (case g_DIGITS => k_is)
    (case g_MOST_DIGITS => k_is)
    (case g_CROSS => k_is)
    (case g_FARTHEST_POSITION => k_is)
    (case g_MOST_REQUESTS_boxes => k_is)
    (case g_NO_PLAN => k_is)
    (case gt_NO_PLAN => kernel_rfl)
    (case g_PARTS_sessions => k_is)
    (case g_PRESENT_WORDS => k_is)
    (case gt_PRESENT_WORDS => kernel_rfl)
    (case c_sizes_Session => k_is)
    (case pg_sizes_Session => k_is)
    (case hd_sizes_Session => k_is)
    (case po_sizes_Session => k_is)
    (case sa_sizes_Session => k_is)
    (case no_sizes_Session => k_is)
    (case c_sizes_Viewer => k_is)
    (case pg_sizes_Viewer => k_is)
    (case hd_sizes_Viewer => k_is)
    (case po_sizes_Viewer => k_is)
    (case sa_sizes_Viewer => k_is)
    (case no_sizes_Viewer => k_is)
    (case c_moments_Viewer => k_is)
    (case pg_moments_Viewer => k_is)
    (case hd_moments_Viewer => k_is)
    (case po_moments_Viewer => k_is)
    (case sa_moments_Viewer => k_is)
    (case no_moments_Viewer => k_is)
    (case c_position_Moment => k_is)
    (case pg_position_Moment => k_is)
    (case hd_position_Moment => k_is)
    (case po_position_Moment => k_is)
    (case sa_position_Moment => k_is)
    (case no_position_Moment => k_is)
    (case c_viewer_Session => k_is)
    (case pg_viewer_Session => k_is)
    (case hd_viewer_Session => k_is)
    (case po_viewer_Session => k_is)
    (case sa_viewer_Session => k_is)
    (case no_viewer_Session => k_is)
    (case xa_BadText => k_is)
    (case xb_BadText => kernel_rfl)
    (case xa2_BadText => k_is)
    (case xb2_BadText => kernel_rfl)
    (case xd_BadText => kernel_rfl)
    (case xe_BadText_WindowError => k_is)
    (case xg_BadText_WindowError => k_is)
    (case xh_BadText_WindowError => kernel_rfl)
    (case xe_BadText_BadBox => k_is)
    (case xg_BadText_BadBox => k_is)
    (case xh_BadText_BadBox => kernel_rfl)
    (case xe_BadText_BadLine => k_is)
    (case xg_BadText_BadLine => k_is)
    (case xh_BadText_BadLine => kernel_rfl)
    (case xe_BadText_BadText => k_is)
    (case xg_BadText_BadText => k_is)
    (case xh_BadText_BadText => kernel_rfl)
    (case xa_BadLine => k_is)
    (case xb_BadLine => kernel_rfl)
    (case xa2_BadLine => k_is)
    (case xb2_BadLine => kernel_rfl)
    (case xd_BadLine => kernel_rfl)
    (case xe_BadLine_WindowError => k_is)
    (case xg_BadLine_WindowError => k_is)
    (case xh_BadLine_WindowError => kernel_rfl)
    (case xe_BadLine_BadBox => k_is)
    (case xg_BadLine_BadBox => k_is)
    (case xh_BadLine_BadBox => kernel_rfl)
    (case xe_BadLine_BadLine => k_is)
    (case xg_BadLine_BadLine => k_is)
    (case xh_BadLine_BadLine => kernel_rfl)
    (case xe_BadLine_BadText => k_is)
    (case xg_BadLine_BadText => k_is)
    (case xh_BadLine_BadText => kernel_rfl)
    (case xi_WindowError => k_is)
    (case xj_WindowError => kernel_rfl)
    (case xi_BadBox => k_is)
    (case xj_BadBox => kernel_rfl)
    (case xi_BadLine => k_is)
    (case xj_BadLine => kernel_rfl)
    (case xi_BadText => k_is)
    (case xj_BadText => kernel_rfl)
    (case r1_BadLine => k_is)
    (case r2_BadLine => k_is)
    (case r3_BadLine => exact ⟨_, _, _, _, _, _, _, _, _, _, _, _, _, _, _, rfl, rfl⟩)
    (case r4_BadLine => kernel_rfl)
    (case r5_BadLine => kernel_rfl)
    (case r6_BadLine => k_is)
    (case r7_BadLine => k_is)
    (case r8_BadLine => k_is)
    (case r9_BadLine => k_is)
    (case ra_BadLine => k_is)
    (case rb_BadLine => k_is)
    (case rc_BadLine => kernel_rfl)
    (case rd_BadLine => k_is)
    (case r1_BadText => k_is)
    (case r2_BadText => k_is)
    (case r3_BadText => exact ⟨_, _, _, _, _, _, _, _, _, _, _, _, _, _, _, rfl, rfl⟩)
    (case r4_BadText => kernel_rfl)
    (case r5_BadText => kernel_rfl)
    (case r6_BadText => k_is)
    (case r7_BadText => k_is)
    (case r8_BadText => k_is)
    (case r9_BadText => k_is)
    (case ra_BadText => k_is)
    (case rb_BadText => k_is)
    (case rc_BadText => kernel_rfl)
    (case rd_BadText => k_is)
    (case ma_q_right => k_is)
    (case ml_q_right => k_is)
    (case z0 => k_is)
    (case z1 => k_is)
    (case z2 => k_is)
    (case z3 => k_is)
    (case z4 => k_is)
    (case z5 => k_is)
    (case z6 => k_is)
    (case z7 => k_is)
    (case z8 => k_is)
    (case z9 => k_is)
    (case z10 => k_is)
    (case z11 => k_is)
    (case z12 => k_is)
    (case z13 => k_is)
    (case z14 => k_is)
    (case z15 => k_is)
    (case z16 => k_is)
    (case z17 => k_is)
    (case z18 => k_is)
    (case z19 => k_is)
    (case z20 => k_is)
    (case z21 => k_is)
