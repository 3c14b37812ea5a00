import PyProof.Rows.All
import Wide.All
import OpenK.AllK
import Wide.FinOn
import HandS.ForMost
import HandS.Wide
import HandS.IsInst
import HandS.Exc
import HandS.TupMul
import KE.KTupSum
import HandS.Lambda
import KE.KDictKeyed
import KE.KNestM
import KE.KStateDown
import HandS.Head0
import HandS.Head1
import HandS.Head2
import HandS.HeadHook1
import HandS.HeadHook2
import HandS.HeadHook4
import HandS.HeadNt
import HandS.ExcInit
import KE.KExcPX
import KE.KSuper
import HandS.TupAny
import HandS.Conv
import HandS.SortInts
import HandS.Deep
import HandS.Zip
import HandS.Walk
import HandS.SetFor
import HandS.Style
import KE.KRevSl
import KE.GoesZip
import KE.GoesMore
import KE.GoesEnum
import PyProof.P3Eq
import HandS.More
import HandS.Sort
import HandS.Call
import HandS.Flt
import HandS.Flow
import PyProof.EqKinds
import PyProof.FactsAll.dict_1
import HandS.Small
import HandS.Nested
import HandS.ExcField
import KE.KExcSuper
import KE.KExcIs
import HandS.EndTab
import PyProof.Rows.InDataRows
import HandS.Dict
import HandS.TryOnly
import KE.SortData
import KE.KDictSum
import HandS.TupLen
import HandS.Iter
import HandS.DictComp
import HandS.SetKeys
import KE.DataFind
import KE.KDictDisplayH
import HandS.TupLe
import HandS.Comp
import HandS.Text
import PySem.Challenge.RW_harmonicdues_k45_whole_texts_of_rows_lot
set_option Elab.async false
set_option linter.all false
set_option maxRecDepth 100000
/-! The value layer: data as trees (D), what may change by address (Gp), over HandS. -/
namespace DL
open PySem PySem.Spec PyProof.Rows L2

/-- a value as a tree: tuples, and lists, dicts, instances that nobody changes any more; ref: a thing that may change, a class, a def -/
inductive D where
  | non | bl (b : Bool) | int (i : Int) | str (x : Str) | ty (n : String)
  | tup (xs : List D) | lst (xs : List D) | scr (xs : List D) | dct (kvs : List (Key × D)) | obj (C : Str) (fs : List (Str × D))
  | ref (a : Addr) | fn (n : Str)
  /-- a thing of which R is known -/
  | ho (R : Hp → Addr → Prop)

mutual
inductive Rp (K : PySem.W.Frag) (F : Hp) : D → V → Prop
  | non : Rp K F .non .non
  | bl (b : Bool) : Rp K F (.bl b) (.bl b)
  | int (i : Int) : Rp K F (.int i) (.int i)
  | str (x : Str) : Rp K F (.str x) (.str x)
  | ty (n : String) : Rp K F (.ty n) (.ty n)
  | tup {a : Addr} {ds : List D} {vs : List V} : SqT K F a vs → Rps K F ds vs → Rp K F (.tup ds) (.ref a)
  | lst {a : Addr} {ds : List D} {vs : List V} : F a = some (.lst vs) → Rps K F ds vs → Rp K F (.lst ds) (.ref a)
  | scr {a : Addr} {ds : List D} {vs : List V} : SqL K F a vs → Rps K F ds vs → Rp K F (.scr ds) (.ref a)
  | dct {a : Addr} {ks : List (Key × D)} {kv : List (Key × V)} : F a = some (.dK kv) → Rpk K F ks kv → Rp K F (.dct ks) (.ref a)
  | obj {a C dx : Addr} {n : Str} {fs : List (Str × D)} {fv : List (Str × V)} : PySem.W.nsIn K mainGlobals n = some (some (.ref C)) → F a = some (.ins C dx fv) → Rpf K F fs fv → Rp K F (.obj n fs) (.ref a)
  | ref (a : Addr) : Rp K F (.ref a) (.ref a)
  | fn {n : Str} {f : Addr} : PySem.W.nsIn K mainGlobals n = some (some (.ref f)) → Rp K F (.fn n) (.ref f)
  | ho {R : Hp → Addr → Prop} {a : Addr} : (∀ F', Same F F' → R F' a) → Rp K F (.ho R) (.ref a)
inductive Rps (K : PySem.W.Frag) (F : Hp) : List D → List V → Prop
  | nil : Rps K F [] []
  | cons {d : D} {v : V} {ds : List D} {vs : List V} : Rp K F d v → Rps K F ds vs → Rps K F (d :: ds) (v :: vs)
inductive Rpk (K : PySem.W.Frag) (F : Hp) : List (Key × D) → List (Key × V) → Prop
  | nil : Rpk K F [] []
  | cons {k : Key} {d : D} {v : V} {ds : List (Key × D)} {vs : List (Key × V)} : Rp K F d v → Rpk K F ds vs → Rpk K F ((k, d) :: ds) ((k, v) :: vs)
inductive Rpf (K : PySem.W.Frag) (F : Hp) : List (Str × D) → List (Str × V) → Prop
  | nil : Rpf K F [] []
  | cons {k : Str} {d : D} {v : V} {ds : List (Str × D)} {vs : List (Str × V)} : Rp K F d v → Rpf K F ds vs → Rpf K F ((k, d) :: ds) ((k, v) :: vs)
end

theorem sqT_mono {K : PySem.W.Frag} {F F' : Hp} {a : Addr} {xs : List V} (e : Same F F') (h : SqT K F a xs) : SqT K F' a xs := by
  rcases h with (h | ⟨o, h⟩) | h
  · exact .inl (.inl (e _ _ h))
  · exact .inl (.inr ⟨o, e _ _ h⟩)
  · exact .inr h
theorem sqL_mono {K : PySem.W.Frag} {F F' : Hp} {a : Addr} {xs : List V} (e : Same F F') (h : SqL K F a xs) : SqL K F' a xs := e.seq h

section
variable {K : PySem.W.Frag} {F F' : Hp}
mutual
theorem Rp.mono (e : Same F F') : ∀ (d : D) (v : V), Rp K F d v → Rp K F' d v
  | .non, _, h => by cases h; exact .non
  | .bl _, _, h => by cases h; exact .bl _
  | .int _, _, h => by cases h; exact .int _
  | .str _, _, h => by cases h; exact .str _
  | .ty _, _, h => by cases h; exact .ty _
  | .ref _, _, h => by cases h; exact .ref _
  | .fn _, _, h => by
    cases h with
    | fn a => exact .fn a
  | .ho _, _, h => by
    cases h with
    | ho a => exact .ho fun F'' e' => a F'' (e.trans e')
  | .tup ds, _, h => by
    cases h with
    | tup a b => exact .tup (sqT_mono e a) (Rps.mono e ds _ b)
  | .lst ds, _, h => by
    cases h with
    | lst a b => exact .lst (e _ _ a) (Rps.mono e ds _ b)
  | .scr ds, _, h => by
    cases h with
    | scr a b => exact .scr (sqL_mono e a) (Rps.mono e ds _ b)
  | .dct ds, _, h => by
    cases h with
    | dct a b => exact .dct (e _ _ a) (Rpk.mono e ds _ b)
  | .obj C ds, _, h => by
    cases h with
    | obj n a b => exact .obj n (e _ _ a) (Rpf.mono e ds _ b)
theorem Rps.mono (e : Same F F') : ∀ (ds : List D) (vs : List V), Rps K F ds vs → Rps K F' ds vs
  | [], _, h => by cases h; exact .nil
  | d :: ds, _, h => by
    cases h with
    | cons a b => exact .cons (Rp.mono e d _ a) (Rps.mono e ds _ b)
theorem Rpk.mono (e : Same F F') : ∀ (ds : List (Key × D)) (vs : List (Key × V)), Rpk K F ds vs → Rpk K F' ds vs
  | [], _, h => by cases h; exact .nil
  | (k, d) :: ds, _, h => by
    cases h with
    | cons a b => exact .cons (Rp.mono e d _ a) (Rpk.mono e ds _ b)
theorem Rpf.mono (e : Same F F') : ∀ (ds : List (Str × D)) (vs : List (Str × V)), Rpf K F ds vs → Rpf K F' ds vs
  | [], _, h => by cases h; exact .nil
  | (k, d) :: ds, _, h => by
    cases h with
    | cons a b => exact .cons (Rp.mono e d _ a) (Rpf.mono e ds _ b)
end

theorem Rps.length : ∀ {ds : List D} {vs : List V}, Rps K F ds vs → ds.length = vs.length
  | [], _, h => by cases h; rfl
  | _ :: _, _, h => by cases h with | cons a b => rw [List.length_cons, List.length_cons, b.length]
theorem Rps.get : ∀ {ds : List D} {vs : List V} {i : Nat} {d : D}, Rps K F ds vs → ds[i]? = some d → ∃ v, vs[i]? = some v ∧ Rp K F d v
  | [], _, _, _, _, h => by simp at h
  | _ :: _, _, 0, _, r, h => by
    cases r with
    | cons a b =>
      simp at h
      subst h
      exact ⟨_, rfl, a⟩
  | _ :: _, _, i + 1, _, r, h => by
    cases r with
    | cons a b =>
      obtain ⟨v, e, q⟩ := b.get (i := i) (by simpa using h)
      exact ⟨v, by simpa using e, q⟩
theorem Rps.getV : ∀ {ds : List D} {vs : List V} {i : Nat} {v : V}, Rps K F ds vs → vs[i]? = some v → ∃ d, ds[i]? = some d ∧ Rp K F d v
  | [], _, _, _, r, h => by cases r; simp at h
  | _ :: _, _, 0, _, r, h => by
    cases r with
    | cons a b =>
      simp at h
      subst h
      exact ⟨_, rfl, a⟩
  | _ :: _, _, i + 1, _, r, h => by
    cases r with
    | cons a b =>
      obtain ⟨v, e, q⟩ := b.getV (i := i) (by simpa using h)
      exact ⟨v, by simpa using e, q⟩
theorem Rps.append : ∀ {ds es : List D} {vs ws : List V}, Rps K F ds vs → Rps K F es ws → Rps K F (ds ++ es) (vs ++ ws)
  | [], _, _, _, a, b => by cases a; exact b
  | _ :: _, _, _, _, a, b => by cases a with | cons x y => exact .cons x (y.append b)
theorem Rps.one {d : D} {v : V} (h : Rp K F d v) : Rps K F [d] [v] := .cons h .nil
theorem Rps.take : ∀ {ds : List D} {vs : List V} (n : Nat), Rps K F ds vs → Rps K F (ds.take n) (vs.take n)
  | _, _, 0, _ => by simpa using Rps.nil
  | [], _, n + 1, r => by cases r; exact .nil
  | _ :: _, _, n + 1, r => by cases r with | cons a b => exact .cons a (b.take n)
theorem Rps.drop : ∀ {ds : List D} {vs : List V} (n : Nat), Rps K F ds vs → Rps K F (ds.drop n) (vs.drop n)
  | _, _, 0, r => by simpa using r
  | [], _, n + 1, r => by cases r; exact .nil
  | _ :: _, _, n + 1, r => by cases r with | cons a b => simpa using b.drop n
theorem Rps.set {d : D} {v : V} (h : Rp K F d v) : ∀ {ds : List D} {vs : List V} (n : Nat), Rps K F ds vs → Rps K F (ds.set n d) (vs.set n v)
  | [], _, _, r => by cases r; exact .nil
  | _ :: _, _, 0, r => by cases r with | cons a b => exact .cons h b
  | _ :: _, _, n + 1, r => by cases r with | cons a b => exact .cons a (b.set h n)
theorem Rps.reverse {ds : List D} {vs : List V} (r : Rps K F ds vs) : Rps K F ds.reverse vs.reverse := by
  induction ds generalizing vs with
  | nil => cases r; exact .nil
  | cons d ds ih =>
    cases r with
    | cons a b =>
      rw [List.reverse_cons, List.reverse_cons]
      exact (ih b).append (.one a)
theorem Rps.ints : ∀ {ns : List Int} {vs : List V}, Rps K F (ns.map D.int) vs → vs = ns.map V.int
  | [], _, r => by cases r; rfl
  | n :: ns, _, r => by
    cases r with
    | cons a b =>
      cases a
      rw [Rps.ints b]
      rfl
theorem Rps.ofInts (ns : List Int) : Rps K F (ns.map D.int) (ns.map V.int) := by
  induction ns with
  | nil => exact .nil
  | cons n ns ih => exact .cons (.int n) ih
theorem Rps.bls : ∀ {ns : List Bool} {vs : List V}, Rps K F (ns.map D.bl) vs → vs = ns.map V.bl
  | [], _, r => by cases r; rfl
  | n :: ns, _, r => by
    cases r with
    | cons a b =>
      cases a
      rw [Rps.bls b]
      rfl
end

/-! ### what may change -/
inductive GO where
  | lst (xs : List D)
  | dct (kvs : List (Key × D))
  /-- a dict whose keys are tuples of whole numbers, of such tuples -/
  | dctN (o : Obj) (kvs : List (NestedKey × D))
  | ins (C : Str) (fs : List (Str × D))
  /-- some list of which so much is known -/
  | abl (P : List D → Prop)
  /-- a table of code objects, each of the name q -/
  | tab (q : Str)
abbrev Gp := Addr → Option GO
def gu (G : Gp) (a : Addr) (o : GO) : Gp := fun b => if b = a then some o else G b
def gd (G : Gp) (a : Addr) : Gp := fun b => if b = a then none else G b
theorem gu_same {G : Gp} {a : Addr} {o : GO} : gu G a o a = some o := by unfold gu; rw [if_pos rfl]
theorem gu_ne {G : Gp} {a b : Addr} {o : GO} (h : b ≠ a) : gu G a o b = G b := by unfold gu; rw [if_neg h]
theorem gu_gu {G : Gp} {a : Addr} {o u : GO} : gu (gu G a o) a u = gu G a u := by
  funext b; unfold gu; split <;> rfl
theorem gu_self {G : Gp} {a : Addr} {o : GO} (h : G a = some o) : gu G a o = G := by
  funext b; unfold gu; split
  · rename_i e; rw [e, h]
  · rfl
theorem gu_comm {G : Gp} {a b : Addr} {o u : GO} (h : a ≠ b) : gu (gu G a o) b u = gu (gu G b u) a o := by
  funext c; unfold gu
  by_cases h1 : c = a
  · have h2 : c ≠ b := fun e => h (h1.symm.trans e)
    simp [h1, h]
  · simp [h1]
theorem gu_none {G : Gp} {a b : Addr} {o : GO} : gu G a o b = none ↔ b ≠ a ∧ G b = none := by
  unfold gu
  by_cases h : b = a <;> simp [h]
def GLe (G G' : Gp) : Prop := ∀ a o, G a = some o → G' a = some o
theorem GLe.refl {G : Gp} : GLe G G := fun _ _ h => h
theorem GLe.trans {G G1 G2 : Gp} (a : GLe G G1) (b : GLe G1 G2) : GLe G G2 := fun x o h => b x o (a x o h)
theorem GLe.new {G : Gp} {a : Addr} {o : GO} (h : G a = none) : GLe G (gu G a o) := fun b u e => by
  rw [gu_ne (fun z => by rw [z, h] at e; cases e)]
  exact e
theorem GLe.newR {G G' : Gp} {a : Addr} {o : GO} (k : GLe G G') (h : G a = none) : GLe G (gu G' a o) := fun b u e => by
  rw [gu_ne (fun z => by rw [z, h] at e; cases e)]
  exact k b u e

/-! ### dicts whose keys are tuples -/
/-- an object that stands -/
def StO (a : Addr) (o : Obj) : HO := .ext fun h => h.get? a = some o
theorem stO_ok {P : Program} {w : World} {H : Hp} {h : Heap} {a : Addr} {o : Obj} (e : h.get? a = some o) : ObjOk P w H h a (StO a o) := ⟨e, ⟨o, e⟩, fun _ _ z k => k _ z⟩
mutual
/-- a key as a tree -/
def nkD : NestedKey → D
  | .none => .non
  | .num i => .int i
  | .text x => .str x
  | .tup ks => .tup (nkDs ks)
def nkDs : List NestedKey → List D
  | [] => []
  | k :: ks => nkD k :: nkDs ks
end
mutual
/-- no text within: its hash is the same in every world -/
def pureK : NestedKey → Bool
  | .none => true
  | .num _ => true
  | .text _ => false
  | .tup ks => pureKs ks
def pureKs : List NestedKey → Bool
  | [] => true
  | k :: ks => pureK k && pureKs ks
end
def tupK : NestedKey → Bool
  | .tup _ => true
  | _ => false
/-- a key that such a dict takes -/
def keyOk (k : NestedKey) : Bool := tupK k && pureK k && decide (k.depth ≤ 8)
def entN (w : World) (x : NestedKey × Addr × Value) : DictEntry := ⟨x.1.hash w, .ref x.2.1, x.2.2⟩
structure NdOk (K : PySem.W.Frag) (F H : Hp) (a : Addr) (o : Obj) (kvs : List (NestedKey × D)) : Prop where
  sm : (a == sysModules) = false
  sz : kvs.length ≤ sizeLine
  ks : ∀ p ∈ kvs, keyOk p.1 = true
  ob : ∃ (es : Array DictEntry) (ep : Nat) (xs : List (NestedKey × Addr × Value)), H a = some (StO a o) ∧ o.ExactDict ∧ o.data = .dict es ep ∧ (∀ w, es.toList = xs.map (entN w)) ∧ (xs.map (·.1)).Nodup ∧
    Paired (fun (p : NestedKey × D) (q : NestedKey × Addr × Value) => p.1 = q.1 ∧ Rp K F (nkD p.1) (.ref q.2.1) ∧ ∃ v, RelV v q.2.2 ∧ Rp K F p.2 v) kvs xs
theorem NdOk.mono {K : PySem.W.Frag} {F F' H H' : Hp} {a : Addr} {o : Obj} {kvs : List (NestedKey × D)} (e : Same F F') (k : H' a = H a) (h : NdOk K F H a o kvs) : NdOk K F' H' a o kvs :=
  let ⟨es, ep, xs, h1, h2, h3, h4, h5, r⟩ := h.ob
  ⟨h.sm, h.sz, h.ks, es, ep, xs, k.trans h1, h2, h3, h4, h5, Paired.mapP r fun _ _ ⟨z1, z2, v, z3, z4⟩ => ⟨z1, z2.mono e, v, z3, z4.mono e⟩⟩
theorem NdOk.there {K : PySem.W.Frag} {F H : Hp} {a : Addr} {o : Obj} {kvs : List (NestedKey × D)} (h : NdOk K F H a o kvs) : ∃ u, H a = some u := let ⟨_, _, _, h1, _⟩ := h.ob; ⟨_, h1⟩

def GOk (K : PySem.W.Frag) (F H : Hp) (a : Addr) : GO → Prop
  | .lst xs => ∃ vs, H a = some (.lst vs) ∧ Rps K F xs vs
  | .dct kvs => ∃ kv, H a = some (.dK kv) ∧ Rpk K F kvs kv
  | .dctN o kvs => NdOk K F H a o kvs
  | .ins n fs => ∃ C dx fv, PySem.W.nsIn K mainGlobals n = some (some (.ref C)) ∧ H a = some (.ins C dx fv) ∧ Rpf K F fs fv
  | .abl P => ∃ xs vs, P xs ∧ H a = some (.lst vs) ∧ Rps K F xs vs
  | .tab q => ∃ ps : Array Value, H a = some (.tbl ps) ∧ TriplesOk ps.toList ∧ ∀ (pos : Pos) (cv : Value), codeAmong pos ps.toList = some cv → ∃ c, cv = .ref c ∧ F c = some (LamX.CodeO c q)
theorem GOk.mono {K : PySem.W.Frag} {F F' H H' : Hp} {a : Addr} (e : Same F F') (k : H' a = H a) : ∀ {o : GO}, GOk K F H a o → GOk K F' H' a o
  | .lst _, ⟨vs, h, r⟩ => ⟨vs, k.trans h, r.mono e⟩
  | .dct _, ⟨vs, h, r⟩ => ⟨vs, k.trans h, r.mono e⟩
  | .dctN _ _, h => NdOk.mono e k h
  | .ins _ _, ⟨C, dx, vs, n, h, r⟩ => ⟨C, dx, vs, n, k.trans h, r.mono e⟩
  | .abl _, ⟨xs, vs, p, h, r⟩ => ⟨xs, vs, p, k.trans h, r.mono e⟩
  | .tab _, ⟨ps, h, o, r⟩ => ⟨ps, k.trans h, o, fun pos cv z => let ⟨c, e1, e2⟩ := r pos cv z; ⟨c, e1, e _ _ e2⟩⟩
theorem GOk.there {K : PySem.W.Frag} {F H : Hp} {a : Addr} : ∀ {o : GO}, GOk K F H a o → ∃ u, H a = some u
  | .lst _, ⟨_, h, _⟩ => ⟨_, h⟩
  | .dct _, ⟨_, h, _⟩ => ⟨_, h⟩
  | .dctN _ _, h => NdOk.there h
  | .ins _ _, ⟨_, _, _, _, h, _⟩ => ⟨_, h⟩
  | .abl _, ⟨_, _, _, h, _⟩ => ⟨_, h⟩
  | .tab _, ⟨_, h, _⟩ => ⟨_, h⟩

/-- the world: what is frozen stands, what may change stands as G says, apart from it -/
structure Wd (K : PySem.W.Frag) (F : Hp) (G : Gp) (H : Hp) : Prop where
  fz : Same F H
  mu : ∀ a o, G a = some o → F a = none ∧ GOk K F H a o
section
variable {K : PySem.W.Frag} {F F' H : Hp} {G G' : Gp} {p : Addr}
theorem Wd.gfree (W : Wd K F G H) (h : H p = none) : G p = none := by
  cases e : G p with
  | none => rfl
  | some o =>
    obtain ⟨_, k⟩ := W.mu p o e
    obtain ⟨u, q⟩ := k.there
    rw [h] at q; cases q
theorem Wd.ffree (W : Wd K F G H) (h : H p = none) : F p = none := by
  cases e : F p with
  | none => rfl
  | some o =>
    rw [W.fz p o e] at h; cases h
theorem same_upd {F : Hp} {p : Addr} {o : HO} (h : F p = none) : Same F (upd F p o) := fun b x e => by
  rw [upd_ne (ne_of_none e h)]
  exact e
theorem same_upd2 {F H : Hp} {p : Addr} {o : HO} (e : Same F H) (h : F p = none) : Same F (upd H p o) := fun b x q => by
  rw [upd_ne (ne_of_none q h)]
  exact e b x q
/-- a new frozen object -/
theorem Wd.newF (W : Wd K F G H) (h : H p = none) (o : HO) : Wd K (upd F p o) G (upd H p o) := by
  refine ⟨fun b u e => ?_, fun b u e => ?_⟩
  · by_cases hb : b = p
    · subst hb; rw [upd_same] at e ⊢; exact e
    · rw [upd_ne hb] at e ⊢; exact W.fz b u e
  · have hb : b ≠ p := fun z => by rw [z, W.gfree h] at e; cases e
    obtain ⟨a, k⟩ := W.mu b u e
    exact ⟨by rw [upd_ne hb]; exact a, k.mono (same_upd (W.ffree h)) (upd_ne hb)⟩
/-- a new object that nobody asks for -/
theorem Wd.newN (W : Wd K F G H) (h : H p = none) (o : HO) : Wd K F G (upd H p o) :=
  ⟨same_upd2 W.fz (W.ffree h), fun b u e => by
    have hb : b ≠ p := fun z => by rw [z, W.gfree h] at e; cases e
    obtain ⟨a, k⟩ := W.mu b u e
    exact ⟨a, k.mono (Same.refl F) (upd_ne hb)⟩⟩
/-- an object that may change is written, or a new one laid -/
theorem Wd.put (W : Wd K F G H) {o : HO} {g : GO} (hF : F p = none) (k : GOk K F (upd H p o) p g) : Wd K F (gu G p g) (upd H p o) :=
  ⟨same_upd2 W.fz hF, fun b u e => by
    by_cases hb : b = p
    · subst hb; rw [gu_same] at e; cases e; exact ⟨hF, k⟩
    · rw [gu_ne hb] at e
      obtain ⟨a, z⟩ := W.mu b u e
      exact ⟨a, z.mono (Same.refl F) (upd_ne hb)⟩⟩
theorem Wd.less (W : Wd K F G H) (k : GLe G' G) : Wd K F G' H := ⟨W.fz, fun a o e => W.mu a o (k a o e)⟩
theorem Wd.lst (W : Wd K F G H) {xs : List D} (h : G p = some (.lst xs)) : F p = none ∧ ∃ vs, H p = some (.lst vs) ∧ Rps K F xs vs := W.mu p _ h
/-- a list that may change is frozen -/
theorem Wd.freeze (W : Wd K F G H) {xs : List D} (h : G p = some (.lst xs)) (k : ∀ b o, G' b = some o → b ≠ p ∧ G b = some o) : ∃ F', Same F F' ∧ Wd K F' G' H ∧ Rp K F' (.lst xs) (.ref p) := by
  obtain ⟨f, vs, hv, r⟩ := W.lst h
  refine ⟨upd F p (.lst vs), same_upd f, ⟨fun b u e => ?_, fun b u e => ?_⟩, .lst upd_same (r.mono (same_upd f))⟩
  · by_cases hb : b = p
    · subst hb; rw [upd_same] at e; rw [← e]; exact hv
    · rw [upd_ne hb] at e; exact W.fz b u e
  · obtain ⟨hb, e'⟩ := k b u e
    obtain ⟨a, z⟩ := W.mu b u e'
    exact ⟨by rw [upd_ne hb]; exact a, z.mono (same_upd f) rfl⟩
end

/-! ### slots -/
abbrev Sl := List (Option D)
def En (K : PySem.W.Frag) (F : Hp) (δ : Sl) (σ : L2.St) : Prop := δ.length = σ.length ∧ ∀ (i : Nat) (d : D), δ[i]? = some (some d) → ∃ v, σ[i]? = some (some v) ∧ Rp K F d v
section
variable {K : PySem.W.Frag} {F F' : Hp} {δ : Sl} {σ : L2.St}
theorem En.mono (e : Same F F') (h : En K F δ σ) : En K F' δ σ := ⟨h.1, fun i d q => let ⟨v, a, b⟩ := h.2 i d q; ⟨v, a, b.mono e⟩⟩
theorem En.set {d : D} {v : V} (h : En K F δ σ) (r : Rp K F d v) (i : Nat) : En K F (δ.set i (some d)) (σ.set i (some v)) := by
  refine ⟨by rw [List.length_set, List.length_set, h.1], fun j x e => ?_⟩
  by_cases hj : i = j
  · subst hj
    by_cases hl : i < δ.length
    · rw [List.getElem?_set_self hl] at e
      cases e
      exact ⟨v, by rw [List.getElem?_set_self (by rw [← h.1]; exact hl)], r⟩
    · rw [List.getElem?_eq_none (by rw [List.length_set]; omega)] at e; cases e
  · rw [List.getElem?_set_ne hj] at e
    obtain ⟨v', a, b⟩ := h.2 j x e
    exact ⟨v', by rw [List.getElem?_set_ne hj]; exact a, b⟩
theorem En.clr (h : En K F δ σ) (i : Nat) (o : Option V) : En K F (δ.set i none) (σ.set i o) := by
  refine ⟨by rw [List.length_set, List.length_set, h.1], fun j x e => ?_⟩
  by_cases hj : i = j
  · subst hj
    by_cases hl : i < δ.length
    · rw [List.getElem?_set_self hl] at e
      cases e
    · rw [List.getElem?_eq_none (by rw [List.length_set]; omega)] at e; cases e
  · rw [List.getElem?_set_ne hj] at e
    obtain ⟨v', a, b⟩ := h.2 j x e
    exact ⟨v', by rw [List.getElem?_set_ne hj]; exact a, b⟩
theorem En.start {ds : List D} {vs : List V} (N : List Str) (r : Rps K F ds vs) (hl : ds.length ≤ N.length) : En K F (ds.map some ++ List.replicate (N.length - ds.length) none) (start N vs) := by
  have e := r.length
  refine ⟨by unfold L2.start; simp [e], fun i d q => ?_⟩
  by_cases hi : i < ds.length
  · rw [List.getElem?_append_left (by simpa using hi), List.getElem?_map] at q
    cases z : ds[i]? with
    | none => rw [z] at q; cases q
    | some d' =>
      rw [z] at q
      cases q
      obtain ⟨v, a, b⟩ := r.get z
      refine ⟨v, ?_, b⟩
      unfold L2.start
      rw [List.getElem?_append_left (by rw [List.length_map, ← e]; exact hi), List.getElem?_map, a]
      rfl
  · rw [List.getElem?_append_right (by simpa using hi), List.getElem?_replicate] at q
    split at q <;> cases q
end

/-! ### readings over trees -/
abbrev DK := D → Gp → Prop
abbrev DE := Sl → Gp → DK → Prop
abbrev DT := Sl → Gp → (Bool → Gp → Prop) → Prop
abbrev DA := Sl → Gp → (List D → Gp → Prop) → Prop
structure DEnds where
  nx : Sl → Gp → Prop
  rt : DK
  bk : Sl → Gp → Prop := fun _ _ => False
  ct : Sl → Gp → Prop := fun _ _ => False
abbrev DS := DEnds → Sl → Gp → Prop

/-- what follows, by trees and by values -/
def Ko (K : PySem.W.Frag) (F : Hp) (Q' : DK) (Q : VK) : Prop := ∀ d v F' G' H', Same F F' → Wd K F' G' H' → Rp K F' d v → Q' d G' → Q v H'
theorem Ko.mono {K : PySem.W.Frag} {F F' : Hp} {Q' : DK} {Q : VK} (e : Same F F') (k : Ko K F Q' Q) : Ko K F' Q' Q := fun d v F2 G2 H2 s w r q => k d v F2 G2 H2 (e.trans s) w r q

def Le (K : PySem.W.Frag) (F₀ : Hp) (t : DE) : TE := fun σ H Q => ∃ δ F G Q', Same F₀ F ∧ En K F δ σ ∧ Wd K F G H ∧ t δ G Q' ∧ Ko K F Q' Q
def Lt (K : PySem.W.Frag) (F₀ : Hp) (t : DT) : TT := fun σ H Q => ∃ δ F G Q', Same F₀ F ∧ En K F δ σ ∧ Wd K F G H ∧ t δ G Q' ∧ ∀ b F' G' H', Same F F' → Wd K F' G' H' → Q' b G' → Q b H'
def La (K : PySem.W.Frag) (F₀ : Hp) (t : DA) : TA := fun σ H Q => ∃ δ F G Q', Same F₀ F ∧ En K F δ σ ∧ Wd K F G H ∧ t δ G Q' ∧ ∀ ds vs F' G' H', Same F F' → Wd K F' G' H' → Rps K F' ds vs → Q' ds G' → Q vs H'
structure Ke (K : PySem.W.Frag) (F : Hp) (D' : DEnds) (D : Ends) : Prop where
  nx : ∀ δ σ F' G' H', Same F F' → En K F' δ σ → Wd K F' G' H' → D'.nx δ G' → D.nx σ H'
  rt : Ko K F D'.rt D.rt
  bk : ∀ δ σ F' G' H', Same F F' → En K F' δ σ → Wd K F' G' H' → D'.bk δ G' → D.bk σ H'
  ct : ∀ δ σ F' G' H', Same F F' → En K F' δ σ → Wd K F' G' H' → D'.ct δ G' → D.ct σ H'
theorem Ke.mono {K : PySem.W.Frag} {F F' : Hp} {D' : DEnds} {D : Ends} (e : Same F F') (k : Ke K F D' D) : Ke K F' D' D :=
  ⟨fun δ σ F2 G2 H2 s => k.nx δ σ F2 G2 H2 (e.trans s), k.rt.mono e, fun δ σ F2 G2 H2 s => k.bk δ σ F2 G2 H2 (e.trans s), fun δ σ F2 G2 H2 s => k.ct δ σ F2 G2 H2 (e.trans s)⟩
def Ls (K : PySem.W.Frag) (F₀ : Hp) (t : DS) : TS := fun D σ H => ∃ δ F G D', Same F₀ F ∧ En K F δ σ ∧ Wd K F G H ∧ t D' δ G ∧ Ke K F D' D

section
variable {X : Cx} {F₀ : Hp}
theorem pe_imp {e : Expr} {t t' : TE} (h : PE X e t) (i : ∀ σ H Q, t' σ H Q → t σ H Q) : PE X e t' := ⟨fun pins s σ H Q I w => h.run pins s σ H Q I (i σ H Q w)⟩
theorem pt_imp {e : Expr} {t t' : TT} (h : PT X e t) (i : ∀ σ H Q, t' σ H Q → t σ H Q) : PT X e t' := ⟨fun pins s σ H Q I w => h.run pins s σ H Q I (i σ H Q w)⟩
theorem pw_imp {e : Expr} {t t' : TT} (h : PW X e t) (i : ∀ σ H Q, t' σ H Q → t σ H Q) : PW X e t' := ⟨fun wh pins s σ H Q I w => h.run wh pins s σ H Q I (i σ H Q w)⟩
theorem pa_imp {e : List Expr} {t t' : TA} (h : PA X e t) (i : ∀ σ H Q, t' σ H Q → t σ H Q) : PA X e t' := ⟨fun pos pins s σ H Q I w => h.run pos pins s σ H Q I (i σ H Q w)⟩
theorem ps_imp {e : Stmt} {t t' : TS} (h : PS X e t) (i : ∀ D σ H, t' D σ H → t D σ H) : PS X e t' := ⟨fun pins s σ H D I w => h.run pins s σ H D I (i D σ H w)⟩
theorem pss_imp {e : List Stmt} {t t' : TS} (h : PSs X e t) (i : ∀ D σ H, t' D σ H → t D σ H) : PSs X e t' := ⟨fun pins s σ H D I w => h.run pins s σ H D I (i D σ H w)⟩
end
end DL

/-! What the head's run tells of the top: a Hook of my own, by Booleans. -/
namespace DL
open PySem PySem.Spec PyProof.Rows L2
/-! ### what is looked at -/
/-- what an object leads to: a namespace's values, a tuple's, a def's code and cells, a class's namespace -/
def refsH (o : Obj) : List Addr := match o.data with
  | .seq its _ => its.toList.flatMap He.refV
  | .dict es _ => es.toList.flatMap fun e => He.refV e.val
  | .func fd => He.refV fd.code ++ fd.closure.map (·.2)
  | .cls cd => [cd.ns]
  | _ => []
def deepH (g : Addr → Option Obj) : Nat → Addr → List Addr
  | 0, a => [a]
  | n + 1, a => a :: match g a with
    | some o => (refsH o).flatMap (deepH g n)
    | none => []
def asH (g : Addr → Option Obj) : List Addr := deepH g 5 mainGlobals ++ [cStatics]
/-- the address that a name stands for, by a look -/
theorem glo_ns {K : PySem.W.Frag} {x : Str} (c : (He.Fa.glo x).ok K = true) : PySem.W.nsIn K mainGlobals x = some (some (.ref (He.ga K x))) := He.eqO_ok c
theorem free_ns {K : PySem.W.Frag} {x : Str} (c : (He.Fa.free x).ok K = true) : PySem.W.nsIn K mainGlobals x = some none := He.eqO_ok c
/-- an __init__ of an own error class: what is observed of it -/
abbrev InW : Type := Option (Str × Str × Arguments × FuncBody × Scope × Addr × List Str × Addr)
def inW (K : PySem.W.Frag) (C : Str) : InW := match K.lookup (He.ma K (He.ga K C) "__init__") with
  | some ⟨_, _, .func fd, _⟩ => some (fd.name, fd.qualname, fd.params, fd.body, fd.scope, fd.globals, fd.closure.map (·.1), fd.builtins)
  | _ => none
structure InD where
  cls : Str
  qual : Str
  params : Arguments
  body : List Stmt
  scope : Scope
def InD.val (d : InD) : InW := some ("__init__", d.qual, d.params, .stmts d.body, d.scope, mainGlobals, ["__class__"], builtinsNs)
abbrev AlH : Type := He.AlD × List InW × Bool
/-- what the law leans on -/
structure SaysH (fa : List He.Fa) (fn : List He.DefD) (fi : List InD) (ex : List (PySem.W.Frag → Bool)) (tf : List He.Defn) (h : Heap) (K : PySem.W.Frag) : Prop where
  d : He.SaysD fa fn K
  i : fi.map (fun d => inW K d.cls) = fi.map InD.val
  more : (ex.all fun f => f K) = true
  hd : ∀ p ∈ tf, PySem.W.codeHdIn K (He.cT K p).1 (He.cT K p).2 = true
  out : ∀ p ∈ tf, K.lookup (He.cT K p).2 = none
  empty : ∀ p ∈ tf, h.get? (He.cT K p).2 = some { cls := .none, data := .fields #[] }
def obsK (fa : List He.Fa) (fn : List He.DefD) (fi : List InD) (ex : List (PySem.W.Frag → Bool)) (tf : List He.Defn) (g : Addr → Option Obj) (K : PySem.W.Frag) : AlH :=
  (He.obsD fa fn K, fi.map (fun d => inW K d.cls), (ex.all fun f => f K) && He.tabsB g tf K)
def obsH (fa : List He.Fa) (fn : List He.DefD) (fi : List InD) (ex : List (PySem.W.Frag → Bool)) (tf : List He.Defn) (g : Addr → Option Obj) : AlH := obsK fa fn fi ex tf g (He.frT g (asH g))
def valH (fn : List He.DefD) (fi : List InD) : AlH := (He.valD fn, fi.map InD.val, true)
theorem saysH_of {fa : List He.Fa} {fn : List He.DefD} {fi : List InD} {ex : List (PySem.W.Frag → Bool)} {tf : List He.Defn} {h : Heap} (e : obsH fa fn fi ex tf h.get? = valH fn fi) : SaysH fa fn fi ex tf h (He.frT h.get? (asH h.get?)) := by
  generalize hK : He.frT h.get? (asH h.get?) = K
  have e1 : He.obsD fa fn K = He.valD fn := by subst hK; exact congrArg (fun z : AlH => z.1) e
  have e2 : fi.map (fun d => inW K d.cls) = fi.map InD.val := by subst hK; exact congrArg (fun z : AlH => z.2.1) e
  have e3 : ((ex.all fun f => f K) && He.tabsB h.get? tf K) = true := by subst hK; exact congrArg (fun z : AlH => z.2.2) e
  obtain ⟨h1, h2⟩ := He.ba e3
  have key : ∀ p ∈ tf, PySem.W.codeHdIn K (He.cT K p).1 (He.cT K p).2 = true ∧ ∃ o, h.get? (He.cT K p).2 = some o ∧ He.emptyTab o = true := fun p hp => by
    obtain ⟨h3, h4⟩ := He.ba (List.all_eq_true.mp h2 p hp)
    refine ⟨h3, ?_⟩
    cases q : h.get? (He.cT K p).2 with
    | none => rw [q] at h4; cases h4
    | some o => rw [q] at h4; exact ⟨o, rfl, h4⟩
  refine ⟨e1, e2, h1, fun p hp => (key p hp).1, fun p hp => ?_, fun p hp => ?_⟩
  · obtain ⟨_, o, q, z⟩ := key p hp
    rw [← hK] at q ⊢
    exact He.frT_none q z
  · obtain ⟨_, o, q, z⟩ := key p hp
    rw [q, He.emptyTab_eq z]
def hookH (fa : List He.Fa) (fn : List He.DefD) (fi : List InD) (ex : List (PySem.W.Frag → Bool)) (tf : List He.Defn) : PySem.W.Hook where
  α := AlH
  obs := fun s => obsH fa fn fi ex tf s.heap.get?
  val := fun _ => valH fn fi
  says := fun _ h => ∃ K : PySem.W.Frag, K.In h ∧ SaysH fa fn fi ex tf h K
  of := fun _ _ e => ⟨_, He.frT_in, saysH_of e⟩
  keeps := fun _ _ _ ⟨K, hK, c⟩ k => ⟨K, PySem.W.Frag.In.keeps hK k, ⟨c.d, c.i, c.more, c.hd, c.out, fun p hp => k _ _ (c.empty p hp)⟩⟩
theorem obsH_eq {fa : List He.Fa} {fn : List He.DefD} {fi : List InD} {ex : List (PySem.W.Frag → Bool)} {tf : List He.Defn} {g : Addr → Option Obj} {s : Shared} (h : ∀ a, g a = s.heap.get? a) : obsH fa fn fi ex tf g = (hookH fa fn fi ex tf).obs s := by
  have e : g = s.heap.get? := funext h
  rw [e] <;> rfl
section
variable {fa : List He.Fa} {fn : List He.DefD} {fi : List InD} {ex : List (PySem.W.Frag → Bool)} {tf : List He.Defn} {h : Heap} {K : PySem.W.Frag}
theorem SaysH.fact (c : SaysH fa fn fi ex tf h K) (i : Nat) {f : He.Fa} (e : fa[i]? = some f) : f.ok K = true := c.d.fact i e
theorem SaysH.exf (c : SaysH fa fn fi ex tf h K) (i : Nat) {f : PySem.W.Frag → Bool} (e : ex[i]? = some f) : f K = true := List.all_eq_true.mp c.more f (List.mem_of_getElem? e)
theorem SaysH.init (c : SaysH fa fn fi ex tf h K) (i : Nat) {d : InD} (e : fi[i]? = some d) : inW K d.cls = d.val := by
  have e2 : (fi.map fun d => inW K d.cls)[i]? = (fi.map InD.val)[i]? := by rw [c.i]
  rw [List.getElem?_map, List.getElem?_map, e] at e2
  exact Option.some.inj e2
end
mutual
def repB (K : PySem.W.Frag) : Nat → D → Value → Bool
  | 0, _, _ => false
  | n + 1, .tup ds, .ref a => (match K.lookup a with
    | some ⟨.type c, _, .seq its _, _⟩ => decide (c = "tuple") && (decide (its.size ≤ sizeLine) && repsB K n ds its.toList)
    | _ => false)
  | _ + 1, .non, .none => true
  | _ + 1, .bl b, .bool c => b == c
  | _ + 1, .int i, .int j _ => decide (i = j)
  | _ + 1, .str x, .str y _ => decide (x = y)
  | _ + 1, _, _ => false
def repsB (K : PySem.W.Frag) : Nat → List D → List Value → Bool
  | 0, _, _ => false
  | _ + 1, [], [] => true
  | n + 1, d :: ds, v :: vs => repB K n d v && repsB K n ds vs
  | _ + 1, _, _ => false
end
/-- the top's name x is this tuple -/
def conTB (x : Str) (n : Nat) (ds : List D) (K : PySem.W.Frag) : Bool := He.eqO (PySem.W.nsIn K mainGlobals x) (some (some (.ref (He.ga K x)))) && repB K n (.tup ds) (.ref (He.ga K x))
def kitH (x y : Str) (b : Bool) (K : PySem.W.Frag) : Bool := decide (PySem.W.kitOne K (.ref (He.ga K x)) (.ref (He.ga K y)) = some b)
def kitV (x : Str) (K : PySem.W.Frag) : Bool := decide (PySem.W.kitOne K (.ref (He.ga K x)) (.type "ValueError") = some true)
def exmZ (K : PySem.W.Frag) : Bool := decide (PySem.W.exmOne K (.type "ZeroDivisionError") (.type "ZeroDivisionError") = some true)
def exaH (K : PySem.W.Frag) (C : Addr) : Bool :=
  (PySem.W.clsIn K C).isSome && decide (PySem.W.findIn K (.ref C) "__getattribute__" = some (some (.builtin "BaseException.__getattribute__"))) && decide (PySem.W.findIn K (.ref C) "__getattr__" = some none) &&
  decide (PySem.W.subIn K (.ref C) (.type "BaseException") = some true) && PySem.W.hasDictIn K C && decide (PySem.W.findIn K (.ref C) "__class__" = some (some (.builtin "object.__class__"))) &&
  decide (PySem.W.specialIn K (.builtin "object.__class__") "__get__" = some (some (.builtin "getset_descriptor.__get__"))) && decide (PySem.W.takesIn K (.builtin "object.__class__") = some true) && decide (PySem.W.mroIn K C (.type "object") = some true)
def exaN (n : Str) (K : PySem.W.Frag) : Bool := exaH K (He.ga K n)
def exclB (K : PySem.W.Frag) (C : Addr) : Bool := match K.lookup C with
  | some ⟨.type t, _, .cls cd, sl⟩ => decide (t = "type") && (match cd.mro, sl.toList with
    | .ref C' :: bm, [_, _, _, _, some (.builtin n), _] => decide (C' = C) && (decide (n = "ValueError.__new__") && (!cd.hasDel && (cd.hasDict && PySem.HandSPX.refsVE bm)))
    | _, _ => false)
  | _ => false
def fileB (K : PySem.W.Frag) (file : Str) (cd : Value) : Bool := match cd with
  | .ref c => (match K.lookup c with
    | some ⟨_, _, .fields vs, _⟩ => (match (vs[2]? : Option Value) with
      | some (.str fl _) => file == fl
      | _ => false)
    | _ => false)
  | _ => false
def cellB (K : PySem.W.Frag) (C : Addr) : List (Str × Addr) → Bool
  | [(_, cc)] => (match K.lookup cc with
    | some ⟨_, _, .cell (some (.ref C')), _⟩ => decide (C' = C)
    | _ => false)
  | _ => false
def initB (K : PySem.W.Frag) (file : Str) (C f : Addr) : Bool := match K.lookup f with
  | some ⟨_, _, .func fd, _⟩ => PySem.W.codeIn K fd.code fd.qualname && (fileB K file fd.code && (cellB K C fd.closure && (match fd.defaults with | .none => true | _ => false)))
  | _ => false
def exiB (file n fld : Str) (K : PySem.W.Frag) : Bool :=
  exclB K (He.ga K n) && initB K file (He.ga K n) (He.ma K (He.ga K n) "__init__") && decide (PySem.W.findIn K (.ref (He.ga K n)) "__setattr__" = some (some (.builtin "object.__setattr__"))) &&
  decide (PySem.W.subIn K (.ref (He.ga K n)) (.type "BaseException") = some true) && decide (PySem.W.typeIn K (.ref (He.ga K n)) = some (.type "type")) && PySem.W.keepIn K (.ref (He.ga K n)) &&
  decide (PySem.W.nsIn K mainGlobals "super" = some none) && decide (PySem.W.ks_superIn K (He.ga K n) (He.ga K n) "__init__" = some (some (.builtin "ValueError.__init__"))) && decide (PySem.W.nsIn K cStatics "thirdparty.any" = some none) &&
  decide (PySem.W.subIn K (.ref (He.ga K n)) (.type "ValueError") = some true) && decide (PySem.W.findIn K (.ref (He.ga K n)) fld = some none) && decide (PySem.W.mroIn K (He.ga K n) (.ref (He.ga K n)) = some true) &&
  decide (PySem.W.findIn K (.ref (He.ga K n)) "__init__" = some (some (.ref (He.ma K (He.ga K n) "__init__")))) && decide (PySem.W.typeIn K (.ref (He.ma K (He.ga K n) "__init__")) = some (.type "function"))
/-- the __init__'s object -/
def tabNe (p q : He.Defn) (K : PySem.W.Frag) : Bool := decide ((He.cT K p).2 ≠ (He.cT K q).2)
end DL

namespace Tx
open PySem PySem.Spec PyProof.Rows L2 DL
def topS (i : Nat) : Stmt := PySem.Challenge.pw_harmonicdues_k45_whole_texts_of_rows_lot.main.body.getD i (.Pass ⟨0, 0, 0, 0⟩)
def topC (i j : Nat) : Stmt := match topS i with | .ClassDef (body := b) .. => b.getD j (.Pass ⟨0, 0, 0, 0⟩) | _ => .Pass ⟨0, 0, 0, 0⟩
abbrev PR : Program := PySem.Challenge.pw_harmonicdues_k45_whole_texts_of_rows_lot
abbrev s_divisor : Stmt := topS 14
abbrev s_is_integer : Stmt := topS 1
abbrev s_is_pair : Stmt := topS 3
abbrev s_is_fraction : Stmt := topS 15
abbrev s_fraction_text : Stmt := topS 32
abbrev s_L_fraction_told : Stmt := topS 46
abbrev s_L_draw : Stmt := topS 43
abbrev s_L_any : Stmt := topS 44
abbrev s_L_lowest : Stmt := topS 45
abbrev s_is_within : Stmt := topS 2
abbrev s_is_lot : Stmt := topS 4
abbrev s_check_lots : Stmt := topS 38
abbrev s_number_in : Stmt := topS 29
abbrev s_numbers_in : Stmt := topS 30
abbrev s_lines_in : Stmt := topS 34
abbrev s_read_lots : Stmt := topS 40
abbrev s_numbers_text : Stmt := topS 31
abbrev s_lots_text : Stmt := topS 39
abbrev s_L_lots_told : Stmt := topS 48
abbrev s_are_shares : Stmt := topS 22
abbrev s_first_wrong : Stmt := topS 23
abbrev s_check_people : Stmt := topS 20
abbrev s_check_things : Stmt := topS 21
abbrev s_check_row : Stmt := topS 24
abbrev s_head_in : Stmt := topS 35
abbrev s_shares_in : Stmt := topS 36
abbrev s_read_row : Stmt := topS 37
abbrev s_row_text : Stmt := topS 33
abbrev s_L_row_told : Stmt := topS 47
abbrev s_L_shares : Stmt := topS 49
abbrev s_L_row : Stmt := topS 50
abbrev s_L_lots : Stmt := topS 51
abbrev s_L_hand : Stmt := topS 42
abbrev s_law : Stmt := topS 52

def hfa : List He.Fa := [.glo "divisor", .glo "is_integer", .glo "is_pair", .glo "is_fraction", .glo "fraction_text", .glo "_law_fraction_told", .glo "_law_draw", .glo "_law_any", .glo "_law_lowest", .glo "is_within", .glo "is_lot", .glo "check_lots", .glo "number_in", .glo "numbers_in", .glo "lines_in", .glo "read_lots", .glo "numbers_text", .glo "lots_text", .glo "_law_lots_told", .glo "are_shares", .glo "first_wrong", .glo "check_people", .glo "check_things", .glo "check_row", .glo "head_in", .glo "shares_in", .glo "read_row", .glo "row_text", .glo "_law_row_told", .glo "_law_shares", .glo "_law_row", .glo "_law_lots", .glo "_law_hand", .glo "law", .glo "BadText", .glo "NoFraction", .glo "NoLots", .glo "NoPeople", .glo "NoRow", .glo "NoThings", .exc "NoFraction", .exc "NoLots", .exc "NoPeople", .exc "NoThings", .free "abs", .free "all", .free "bool", .free "enumerate", .free "int", .free "isinstance", .free "len", .free "min", .free "range", .free "repr", .free "str", .free "sum", .free "tuple", .free "zip", .str "FIGURES" "0123456789", .int "MOST_BEATS" (400), .int "MOST_BOTTOM" (360), .int "MOST_FIGURES" (9), .int "MOST_PEOPLE" (12), .str "NO_LOT" "-"]
def hfn : List He.DefD := [⟨("divisor", none), "divisor", "divisor", defArgs s_divisor, defBody s_divisor, defScope s_divisor, [], []⟩, ⟨("is_integer", none), "is_integer", "is_integer", defArgs s_is_integer, defBody s_is_integer, defScope s_is_integer, [], []⟩, ⟨("is_pair", none), "is_pair", "is_pair", defArgs s_is_pair, defBody s_is_pair, defScope s_is_pair, [], []⟩, ⟨("is_fraction", none), "is_fraction", "is_fraction", defArgs s_is_fraction, defBody s_is_fraction, defScope s_is_fraction, [], []⟩, ⟨("fraction_text", none), "fraction_text", "fraction_text", defArgs s_fraction_text, defBody s_fraction_text, defScope s_fraction_text, [], []⟩, ⟨("_law_fraction_told", none), "_law_fraction_told", "_law_fraction_told", defArgs s_L_fraction_told, defBody s_L_fraction_told, defScope s_L_fraction_told, [], []⟩, ⟨("_law_draw", none), "_law_draw", "_law_draw", defArgs s_L_draw, defBody s_L_draw, defScope s_L_draw, [], []⟩, ⟨("_law_any", none), "_law_any", "_law_any", defArgs s_L_any, defBody s_L_any, defScope s_L_any, [], []⟩, ⟨("_law_lowest", none), "_law_lowest", "_law_lowest", defArgs s_L_lowest, defBody s_L_lowest, defScope s_L_lowest, [], []⟩, ⟨("is_within", none), "is_within", "is_within", defArgs s_is_within, defBody s_is_within, defScope s_is_within, [], []⟩, ⟨("is_lot", none), "is_lot", "is_lot", defArgs s_is_lot, defBody s_is_lot, defScope s_is_lot, [], []⟩, ⟨("check_lots", none), "check_lots", "check_lots", defArgs s_check_lots, defBody s_check_lots, defScope s_check_lots, [], []⟩, ⟨("number_in", none), "number_in", "number_in", defArgs s_number_in, defBody s_number_in, defScope s_number_in, [], []⟩, ⟨("numbers_in", none), "numbers_in", "numbers_in", defArgs s_numbers_in, defBody s_numbers_in, defScope s_numbers_in, [], []⟩, ⟨("lines_in", none), "lines_in", "lines_in", defArgs s_lines_in, defBody s_lines_in, defScope s_lines_in, [], []⟩, ⟨("read_lots", none), "read_lots", "read_lots", defArgs s_read_lots, defBody s_read_lots, defScope s_read_lots, [], []⟩, ⟨("numbers_text", none), "numbers_text", "numbers_text", defArgs s_numbers_text, defBody s_numbers_text, defScope s_numbers_text, [], []⟩, ⟨("lots_text", none), "lots_text", "lots_text", defArgs s_lots_text, defBody s_lots_text, defScope s_lots_text, [], []⟩, ⟨("_law_lots_told", none), "_law_lots_told", "_law_lots_told", defArgs s_L_lots_told, defBody s_L_lots_told, defScope s_L_lots_told, [], []⟩, ⟨("are_shares", none), "are_shares", "are_shares", defArgs s_are_shares, defBody s_are_shares, defScope s_are_shares, [], []⟩, ⟨("first_wrong", none), "first_wrong", "first_wrong", defArgs s_first_wrong, defBody s_first_wrong, defScope s_first_wrong, [], []⟩, ⟨("check_people", none), "check_people", "check_people", defArgs s_check_people, defBody s_check_people, defScope s_check_people, [], []⟩, ⟨("check_things", none), "check_things", "check_things", defArgs s_check_things, defBody s_check_things, defScope s_check_things, [], []⟩, ⟨("check_row", none), "check_row", "check_row", defArgs s_check_row, defBody s_check_row, defScope s_check_row, [], []⟩, ⟨("head_in", none), "head_in", "head_in", defArgs s_head_in, defBody s_head_in, defScope s_head_in, [], []⟩, ⟨("shares_in", none), "shares_in", "shares_in", defArgs s_shares_in, defBody s_shares_in, defScope s_shares_in, [], []⟩, ⟨("read_row", none), "read_row", "read_row", defArgs s_read_row, defBody s_read_row, defScope s_read_row, [], []⟩, ⟨("row_text", none), "row_text", "row_text", defArgs s_row_text, defBody s_row_text, defScope s_row_text, [], []⟩, ⟨("_law_row_told", none), "_law_row_told", "_law_row_told", defArgs s_L_row_told, defBody s_L_row_told, defScope s_L_row_told, [], []⟩, ⟨("_law_shares", none), "_law_shares", "_law_shares", defArgs s_L_shares, defBody s_L_shares, defScope s_L_shares, [], []⟩, ⟨("_law_row", none), "_law_row", "_law_row", defArgs s_L_row, defBody s_L_row, defScope s_L_row, [], []⟩, ⟨("_law_lots", none), "_law_lots", "_law_lots", defArgs s_L_lots, defBody s_L_lots, defScope s_L_lots, [], []⟩, ⟨("_law_hand", none), "_law_hand", "_law_hand", defArgs s_L_hand, defBody s_L_hand, defScope s_L_hand, [], []⟩, ⟨("law", none), "law", "law", defArgs s_law, defBody s_law, defScope s_law, [], []⟩]
def hfi : List InD := [⟨"BadText", "BadText.__init__", defArgs (topC 10 0), defBody (topC 10 0), defScope (topC 10 0)⟩, ⟨"NoRow", "NoRow.__init__", defArgs (topC 9 0), defBody (topC 9 0), defScope (topC 9 0)⟩]
def hex : List (PySem.W.Frag → Bool) := [exiB PR.main.file "BadText" "line", exiB PR.main.file "NoRow" "at"]
def htf : List He.Defn := []
abbrev hR : PySem.W.OpenRow := PySem.W.OpenLaw.row PySem.Challenge.rw_harmonicdues_k45_whole_texts_of_rows_lot
abbrev hhk : PySem.W.Hook := hookH hfa hfn hfi hex htf
def hob (s : PySem.W.SharedT) : AlH := obsH hfa hfn hfi hex htf (HandSHeadRun.getT s)
theorem hob_eq (s : PySem.W.SharedT) : hob s = hhk.obs s.abs := obsH_eq (HandSHeadRun.getT_eq s)
def hnm0 : List Str := ["is_integer", "is_within", "is_pair", "is_lot", "DuesError", "NoPeople", "NoThings", "NoRow", "BadText", "NoFraction", "NoLots", "divisor", "is_fraction", "MOST_PEOPLE", "MOST_BOTTOM", "MOST_BEATS", "check_people", "check_things", "are_shares", "first_wrong"]
def hnm1 : List Str := ["check_row", "FIGURES", "MOST_FIGURES", "NO_LOT", "number_in", "numbers_in", "numbers_text", "fraction_text", "row_text", "lines_in", "head_in", "shares_in", "read_row", "check_lots", "lots_text", "read_lots", "_law_hand", "_law_draw", "_law_any", "_law_lowest"]
def hnm2 : List Str := ["_law_fraction_told", "_law_row_told", "_law_lots_told", "_law_shares", "_law_row", "_law_lots"]
def hnames : List Str := hnm0 ++ hnm1 ++ hnm2
set_option maxHeartbeats 0 in
theorem hrun (w : World) : HandSHeadRun.RunEq hR (PySem.W.view hR.prog [52]) hhk hob 40000 hnames w := by
  intro os
  kernel_rfl
end Tx
/-! Rules over trees: expressions. -/
namespace DL
open PySem PySem.Spec PyProof.Rows L2

/-! ### names, constants -/
def dVar (i : Nat) : DE := fun δ G Q => match δ[i]? with | some (some d) => Q d G | _ => False
def dC (d : D) : DE := fun _ G Q => Q d G
section
variable {X : Cx} {F₀ : Hp} {e a b c : Expr} {pos : Pos}
theorem de_var {i : Nat} (h : PE X e (tVar i)) : PE X e (Le X.K F₀ (dVar i)) := pe_imp h fun σ H Q ⟨δ, F, G, Q', s, en, w, q, k⟩ => by
  unfold dVar at q
  split at q
  · rename_i d e
    obtain ⟨v, e', r⟩ := en.2 i d e
    exact ⟨v, e', k d v F G H (Same.refl F) w r q⟩
  · exact q.elim
/-- a value that needs nothing of the heap -/
theorem de_c {v : V} {d : D} (h : PE X e (tC v)) (r : ∀ F, Rp X.K F d v) : PE X e (Le X.K F₀ (dC d)) := pe_imp h fun σ H Q ⟨δ, F, G, Q', s, en, w, q, k⟩ => k d v F G H (Same.refl F) w (r F) q
theorem de_int {i j} : PE X (.Constant (.int i) j pos) (Le X.K F₀ (dC (.int i))) := de_c pe_int fun _ => .int i
theorem de_bl {i j} : PE X (.Constant (.bool i) j pos) (Le X.K F₀ (dC (.bl i))) := de_c pe_bl fun _ => .bl i
theorem de_non {j} : PE X (.Constant .none j pos) (Le X.K F₀ (dC .non)) := de_c pe_non fun _ => .non
theorem de_str {i j} : PE X (.Constant (.str i) j pos) (Le X.K F₀ (dC (.str i))) := de_c pe_str fun _ => .str i
end

/-! ### two operands -/
abbrev D2 := D → D → Gp → DK → Prop
def OpD (K : PySem.W.Frag) (F₀ : Hp) (r' : D2) (r : R2) : Prop := ∀ F G H x y v u Q' Q, Same F₀ F → Wd K F G H → Rp K F x v → Rp K F y u → r' x y G Q' → Ko K F Q' Q → r v u H Q
def dOp (r : D2) (ta tb : DE) : DE := fun δ G Q => ta δ G fun x G1 => tb δ G1 fun y G2 => r x y G2 Q
section
variable {K : PySem.W.Frag} {X : Cx} {F₀ : Hp} {r' r1' : D2} {r r1 : R2} {ta tb tc : DE} {e a b c : Expr} {pos : Pos}
theorem op_le (od : OpD K F₀ r' r) {σ : L2.St} {H : Hp} {Q : VK} (h : Le K F₀ (dOp r' ta tb) σ H Q) : tOp r (Le K F₀ ta) (Le K F₀ tb) σ H Q := by
  obtain ⟨δ, F, G, Q', s, en, w, q, k⟩ := h
  refine ⟨δ, F, G, fun x G1 => tb δ G1 fun y G2 => r' x y G2 Q', s, en, w, q, fun x v F1 G1 H1 s1 w1 r1 q1 => ?_⟩
  refine ⟨δ, F1, G1, fun y G2 => r' x y G2 Q', s.trans s1, en.mono s1, w1, q1, fun y u F2 G2 H2 s2 w2 r2 q2 => ?_⟩
  exact od F2 G2 H2 x y v u Q' Q ((s.trans s1).trans s2) w2 (r1.mono s2) r2 q2 (k.mono (s1.trans s2))
theorem de_op {op : Operator} (ho : OpR X (binaryOp op) r) (od : OpD X.K F₀ r' r) (ha : PE X a (Le X.K F₀ ta)) (hb : PE X b (Le X.K F₀ tb)) : PE X (.BinOp a op b pos) (Le X.K F₀ (dOp r' ta tb)) :=
  pe_imp (pe_op ho ha hb) fun _ _ _ => op_le od
theorem de_cmp {op : CmpOp} (ho : OpR X (compareOp op) r) (od : OpD X.K F₀ r' r) (hm : behindInMarks op b = false) (ha : PE X a (Le X.K F₀ ta)) (hb : PE X b (Le X.K F₀ tb)) : PE X (.Compare a [op] [b] pos) (Le X.K F₀ (dOp r' ta tb)) :=
  pe_imp (pe_cmpR ho ha hb hm) fun _ _ _ => op_le od
/-- a truth value as a test -/
def dB (t : DE) : DT := fun δ G Q => t δ G fun d G1 => match d with | .bl b => Q b G1 | _ => False
theorem lt_of_le {t : DE} {σ : L2.St} {H : Hp} {Q : Bool → Hp → Prop} (h : Lt K F₀ (dB t) σ H Q) : Le K F₀ t σ H fun x H1 => ∃ k, x = .bl k ∧ Q k H1 := by
  obtain ⟨δ, F, G, Q', s, en, w, q, k⟩ := h
  refine ⟨δ, F, G, _, s, en, w, q, fun d v F1 G1 H1 s1 w1 r1 q1 => ?_⟩
  split at q1
  · rename_i b
    cases r1
    exact ⟨b, rfl, k b F1 G1 H1 s1 w1 q1⟩
  · exact q1.elim
theorem dt_cmp {op : CmpOp} (ho : OpR X (compareOp op) r) (od : OpD X.K F₀ r' r) (hm : behindInMarks op b = false) (ha : PE X a (Le X.K F₀ ta)) (hb : PE X b (Le X.K F₀ tb)) : PT X (.Compare a [op] [b] pos) (Lt X.K F₀ (dB (dOp r' ta tb))) :=
  pt_imp (pt_cmpR ho ha hb hm) fun _ _ _ h => op_le (Q := fun x H' => ∃ k, x = .bl k ∧ _) od (lt_of_le h)
theorem dt_val {t : DE} (h : PE X e (Le X.K F₀ t)) (he : ∀ whole, isTrue e X.env whole = (do let v ← whole; standAt e.pos; holding [v] (truthy v)) := by intro _; rfl) : PT X e (Lt X.K F₀ (dB t)) :=
  pt_imp (pt_val h he) fun _ _ _ h => lt_of_le h
/-- a < b < c -/
def dChain (r r1 : D2) (ta tb tc : DE) : DE := fun δ G Q => ta δ G fun x G1 => tb δ G1 fun y G2 => r x y G2 fun z G3 => match z with
  | .bl k => if k = true then tc δ G3 fun u G4 => r1 y u G4 Q else Q (.bl false) G3
  | _ => False
theorem chain_le (od : OpD K F₀ r' r) (od1 : OpD K F₀ r1' r1) {σ : L2.St} {H : Hp} {Q : VK} (h : Le K F₀ (dChain r' r1' ta tb tc) σ H Q) : tChain r r1 (Le K F₀ ta) (Le K F₀ tb) (Le K F₀ tc) σ H Q := by
  obtain ⟨δ, F, G, Q', s, en, w, q, k⟩ := h
  refine ⟨δ, F, G, _, s, en, w, q, fun x v F1 G1 H1 s1 w1 r1 q1 => ?_⟩
  refine ⟨δ, F1, G1, _, s.trans s1, en.mono s1, w1, q1, fun y u F2 G2 H2 s2 w2 r2 q2 => ?_⟩
  refine od F2 G2 H2 x y v u _ _ ((s.trans s1).trans s2) w2 (r1.mono s2) r2 q2 fun z zv F3 G3 H3 s3 w3 r3 q3 => ?_
  split at q3
  · rename_i kb
    cases r3
    refine ⟨kb, rfl, ?_⟩
    cases kb with
    | true =>
      rw [if_pos rfl] at q3 ⊢
      refine ⟨δ, F3, G3, _, ((s.trans s1).trans s2).trans s3, ((en.mono s1).mono s2).mono s3, w3, q3, fun z zv F4 G4 H4 s4 w4 r4 q4 => ?_⟩
      exact od1 F4 G4 H4 y z u zv Q' Q ((((s.trans s1).trans s2).trans s3).trans s4) w4 (r2.mono (s3.trans s4)) r4 q4 (k.mono (((s1.trans s2).trans s3).trans s4))
    | false =>
      rw [if_neg Bool.false_ne_true] at q3 ⊢
      exact k _ _ F3 G3 H3 ((s1.trans s2).trans s3) w3 (.bl false) q3
  · exact q3.elim
theorem de_chain {op op' : CmpOp} (ho : OpR X (compareOp op) r) (od : OpD X.K F₀ r' r) (ho1 : OpR X (compareOp op') r1) (od1 : OpD X.K F₀ r1' r1) (ha : PE X a (Le X.K F₀ ta)) (hb : PE X b (Le X.K F₀ tb)) (hc : PE X c (Le X.K F₀ tc))
    (hm : lastMarks [op, op'] [b, c] = false := by with_unfolding_all rfl) : PE X (.Compare a [op, op'] [b, c] pos) (Le X.K F₀ (dChain r' r1' ta tb tc)) := pe_imp (pe_chain ho ho1 ha hb hc hm) fun _ _ _ => chain_le od od1
theorem dt_chain {op op' : CmpOp} (ho : OpR X (compareOp op) r) (od : OpD X.K F₀ r' r) (ho1 : OpR X (compareOp op') r1) (od1 : OpD X.K F₀ r1' r1) (ha : PE X a (Le X.K F₀ ta)) (hb : PE X b (Le X.K F₀ tb)) (hc : PE X c (Le X.K F₀ tc))
    (hm : lastMarks [op, op'] [b, c] = false := by with_unfolding_all rfl) : PT X (.Compare a [op, op'] [b, c] pos) (Lt X.K F₀ (dB (dChain r' r1' ta tb tc))) :=
  pt_imp (pt_chain ho ho1 ha hb hc hm) fun _ _ _ h => chain_le (Q := fun x H' => ∃ k, x = .bl k ∧ _) od od1 (lt_of_le h)
end

/-! ### and, or, not, if-else -/
def dAnd (t u : DT) : DT := fun δ G Q => t δ G fun c G1 => if c = true then u δ G1 Q else Q false G1
def dOr (t u : DT) : DT := fun δ G Q => t δ G fun c G1 => if c = true then Q true G1 else u δ G1 Q
def dNot (t : DT) : DT := fun δ G Q => t δ G fun c G1 => Q (!c) G1
def dAndV (ta tb : DE) : DE := fun δ G Q => ta δ G fun x G1 => match x with | .bl c => if c = true then tb δ G1 Q else Q (.bl false) G1 | _ => False
def dOrV (ta tb : DE) : DE := fun δ G Q => ta δ G fun x G1 => match x with | .bl c => if c = true then Q (.bl true) G1 else tb δ G1 Q | _ => False
def dNotV (ta : DE) : DE := fun δ G Q => ta δ G fun x G1 => match x with | .bl c => Q (.bl (!c)) G1 | _ => False
def dIf (t : DT) (ta tb : DE) : DE := fun δ G Q => t δ G fun c G1 => if c = true then ta δ G1 Q else tb δ G1 Q
section
variable {K : PySem.W.Frag} {X : Cx} {F₀ : Hp} {ta tb tc : DE} {t u : DT} {e a b c : Expr} {rest : List Expr} {pos : Pos}
theorem dw_and (ha : PT X a (Lt X.K F₀ t)) (hb : PW X (.BoolOp .And (b :: rest) pos) (Lt X.K F₀ u)) : PW X (.BoolOp .And (a :: b :: rest) pos) (Lt X.K F₀ (dAnd t u)) := pw_imp (pw_and ha hb) fun σ H Q ⟨δ, F, G, Q', s, en, w, q, k⟩ => by
  refine ⟨δ, F, G, _, s, en, w, q, fun c F1 G1 H1 s1 w1 q1 => ?_⟩
  cases c with
  | true =>
    rw [if_pos rfl] at q1 ⊢
    exact ⟨δ, F1, G1, _, s.trans s1, en.mono s1, w1, q1, fun c F2 G2 H2 s2 w2 q2 => k c F2 G2 H2 (s1.trans s2) w2 q2⟩
  | false =>
    rw [if_neg Bool.false_ne_true] at q1 ⊢
    exact k _ F1 G1 H1 s1 w1 q1
theorem dw_or (ha : PT X a (Lt X.K F₀ t)) (hb : PW X (.BoolOp .Or (b :: rest) pos) (Lt X.K F₀ u)) : PW X (.BoolOp .Or (a :: b :: rest) pos) (Lt X.K F₀ (dOr t u)) := pw_imp (pw_or ha hb) fun σ H Q ⟨δ, F, G, Q', s, en, w, q, k⟩ => by
  refine ⟨δ, F, G, _, s, en, w, q, fun c F1 G1 H1 s1 w1 q1 => ?_⟩
  cases c with
  | false =>
    rw [if_neg Bool.false_ne_true] at q1 ⊢
    exact ⟨δ, F1, G1, _, s.trans s1, en.mono s1, w1, q1, fun c F2 G2 H2 s2 w2 q2 => k c F2 G2 H2 (s1.trans s2) w2 q2⟩
  | true =>
    rw [if_pos rfl] at q1 ⊢
    exact k _ F1 G1 H1 s1 w1 q1
theorem dt_not (ha : PT X a (Lt X.K F₀ t)) : PT X (.UnaryOp .Not a pos) (Lt X.K F₀ (dNot t)) := pt_imp (pt_not ha) fun σ H Q ⟨δ, F, G, Q', s, en, w, q, k⟩ =>
  ⟨δ, F, G, _, s, en, w, q, fun c F1 G1 H1 s1 w1 q1 => k _ F1 G1 H1 s1 w1 q1⟩
theorem de_and (ha : PE X a (Le X.K F₀ ta)) (hb : PE X (.BoolOp .And (b :: rest) pos) (Le X.K F₀ tb)) : PE X (.BoolOp .And (a :: b :: rest) pos) (Le X.K F₀ (dAndV ta tb)) := pe_imp (pe_and ha hb) fun σ H Q ⟨δ, F, G, Q', s, en, w, q, k⟩ => by
  refine ⟨δ, F, G, _, s, en, w, q, fun x v F1 G1 H1 s1 w1 r1 q1 => ?_⟩
  split at q1
  · rename_i c
    cases r1
    refine ⟨c, rfl, ?_⟩
    cases c with
    | true =>
      rw [if_pos rfl] at q1 ⊢
      exact ⟨δ, F1, G1, _, s.trans s1, en.mono s1, w1, q1, k.mono s1⟩
    | false =>
      rw [if_neg Bool.false_ne_true] at q1 ⊢
      exact k _ _ F1 G1 H1 s1 w1 (.bl false) q1
  · exact q1.elim
theorem de_or (ha : PE X a (Le X.K F₀ ta)) (hb : PE X (.BoolOp .Or (b :: rest) pos) (Le X.K F₀ tb)) : PE X (.BoolOp .Or (a :: b :: rest) pos) (Le X.K F₀ (dOrV ta tb)) := pe_imp (pe_or ha hb) fun σ H Q ⟨δ, F, G, Q', s, en, w, q, k⟩ => by
  refine ⟨δ, F, G, _, s, en, w, q, fun x v F1 G1 H1 s1 w1 r1 q1 => ?_⟩
  split at q1
  · rename_i c
    cases r1
    refine ⟨c, rfl, ?_⟩
    cases c with
    | false =>
      rw [if_neg Bool.false_ne_true] at q1 ⊢
      exact ⟨δ, F1, G1, _, s.trans s1, en.mono s1, w1, q1, k.mono s1⟩
    | true =>
      rw [if_pos rfl] at q1 ⊢
      exact k _ _ F1 G1 H1 s1 w1 (.bl true) q1
  · exact q1.elim
theorem de_not (ha : PE X a (Le X.K F₀ ta)) : PE X (.UnaryOp .Not a pos) (Le X.K F₀ (dNotV ta)) := pe_imp (pe_not ha) fun σ H Q ⟨δ, F, G, Q', s, en, w, q, k⟩ => by
  refine ⟨δ, F, G, _, s, en, w, q, fun x v F1 G1 H1 s1 w1 r1 q1 => ?_⟩
  split at q1
  · rename_i c
    cases r1
    exact ⟨c, rfl, k _ _ F1 G1 H1 s1 w1 (.bl _) q1⟩
  · exact q1.elim
theorem de_if (hc : PT X c (Lt X.K F₀ t)) (ha : PE X a (Le X.K F₀ ta)) (hb : PE X b (Le X.K F₀ tb)) : PE X (.IfExp c a b pos) (Le X.K F₀ (dIf t ta tb)) := pe_imp (pe_ifExp hc ha hb) fun σ H Q ⟨δ, F, G, Q', s, en, w, q, k⟩ => by
  refine ⟨δ, F, G, _, s, en, w, q, fun c F1 G1 H1 s1 w1 q1 => ?_⟩
  cases c with
  | false =>
    rw [if_neg Bool.false_ne_true] at q1 ⊢
    exact ⟨δ, F1, G1, _, s.trans s1, en.mono s1, w1, q1, k.mono s1⟩
  | true =>
    rw [if_pos rfl] at q1 ⊢
    exact ⟨δ, F1, G1, _, s.trans s1, en.mono s1, w1, q1, k.mono s1⟩
end

/-! ### ints -/
def dI (C : Int → Int → Prop) (g : Int → Int → D) : D2 := fun x y G Q => match x, y with | .int i, .int j => C i j ∧ Q (g i j) G | _, _ => False
def dI0 (g : Int → Int → D) : D2 := fun x y G Q => match x, y with | .int i, .int j => Q (g i j) G | _, _ => False
section
variable {K : PySem.W.Frag} {F₀ : Hp}
theorem od_I {C C' : Int → Int → Prop} {g : Int → Int → D} {g' : Int → Int → V} (h : ∀ i j, C i j → C' i j) (hg : ∀ F i j, C i j → Rp K F (g i j) (g' i j)) : OpD K F₀ (dI C g) (rI C' g') := by
  intro F G H x y v u Q' Q s w rx ry q k
  unfold dI at q
  split at q
  · rename_i i j
    cases rx; cases ry
    exact ⟨i, j, rfl, rfl, h i j q.1, k _ _ F G H (Same.refl F) w (hg F i j q.1) q.2⟩
  · exact q.elim
theorem od_I0 {g : Int → Int → D} {g' : Int → Int → V} (hg : ∀ F i j, Rp K F (g i j) (g' i j)) : OpD K F₀ (dI0 g) (rI0 g') := by
  intro F G H x y v u Q' Q s w rx ry q k
  unfold dI0 at q
  split at q
  · rename_i i j
    cases rx; cases ry
    exact ⟨i, j, rfl, rfl, k _ _ F G H (Same.refl F) w (hg F i j) q⟩
  · exact q.elim
end
/-- a product that the machine holds -/
def MulOk (i j : Int) : Prop := CMul i j ∨ CMulW i j
theorem MulOk.l {i j : Int} (h1 : -(2 ^ 64) < i) (h2 : i < 2 ^ 64) : MulOk i j := .inl (.inl ⟨h1, h2⟩)
theorem MulOk.r {i j : Int} (h1 : -(2 ^ 64) < j) (h2 : j < 2 ^ 64) : MulOk i j := .inl (.inr ⟨h1, h2⟩)
theorem MulOk.w {i j : Int} {a b : Nat} (ha : i.natAbs < 2 ^ a) (hb : j.natAbs < 2 ^ b) (h0 : 0 < a) (h1 : 0 < b) (h : a + b ≤ 1000000) : MulOk i j := .inr (wide_mul ha hb h0 h1 h)
theorem op_mulM {X : Cx} : OpR X (binaryOp .Mult) (rI MulOk fun i j => .int (i * j)) := opI fun _ _ _ _ _ _ _ hc q => mul_int q (hc.elim CMul.ok CMulW.ok)
/-- // and % by a positive divisor -/
def DivOk (_ j : Int) : Prop := 0 < j ∧ j.natAbs.log2 < 9000
theorem op_fdivM {X : Cx} : OpR X (binaryOp .FloorDiv) (rI DivOk fun i j => .int (i / j)) := op_fdivW
def dSub : D2 := dI0 fun i j => .int (i - j)
def dDiv : D2 := dI DivOk fun i j => .int (i / j)
def dMod : D2 := dI (fun _ j => 0 < j) fun i j => .int (i % j)
def dPow : D2 := dI CPow fun i j => .int (i ^ j.toNat)
def dLt : D2 := dI0 fun i j => .bl (decide (i < j))
def dLe : D2 := dI0 fun i j => .bl (decide (i ≤ j))
def dGt : D2 := dI0 fun i j => .bl (decide (j < i))
def dGe : D2 := dI0 fun i j => .bl (decide (j ≤ i))
section
variable {K : PySem.W.Frag} {F₀ : Hp}
theorem od_sub : OpD K F₀ dSub (rI0 fun i j => .int (i - j)) := od_I0 fun _ _ _ => .int _
theorem od_div : OpD K F₀ dDiv (rI DivOk fun i j => .int (i / j)) := od_I (fun _ _ h => h) fun _ _ _ _ => .int _
theorem od_mod : OpD K F₀ dMod (rI (fun _ j => 0 < j) fun i j => .int (i % j)) := od_I (fun _ _ h => h) fun _ _ _ _ => .int _
theorem od_pow : OpD K F₀ dPow (rI CPow fun i j => .int (i ^ j.toNat)) := od_I (fun _ _ h => h) fun _ _ _ _ => .int _
theorem od_lt : OpD K F₀ dLt (rI0 fun i j => .bl (decide (i < j))) := od_I0 fun _ _ _ => .bl _
theorem od_le : OpD K F₀ dLe (rI0 fun i j => .bl (decide (i ≤ j))) := od_I0 fun _ _ _ => .bl _
theorem od_gt : OpD K F₀ dGt (rI0 fun i j => .bl (decide (j < i))) := od_I0 fun _ _ _ => .bl _
theorem od_ge : OpD K F₀ dGe (rI0 fun i j => .bl (decide (j ≤ i))) := od_I0 fun _ _ _ => .bl _
end

/-! ### new lists -/
/-- a new list: one that may change (m), or that nobody will change -/
def nL (m : Bool) (xs : List D) (G : Gp) (Q : DK) : Prop := match m with
  | true => ∀ a, G a = none → Q (.ref a) (gu G a (.lst xs))
  | false => Q (.lst xs) G
/-- the items of a list -/
def lstOf : D → Gp → Option (List D)
  | .lst xs, _ => some xs
  | .ref a, G => match G a with | some (.lst xs) => some xs | _ => none
  | _, _ => none
/-- the items of a list or a tuple -/
def seqOf : D → Gp → Option (List D)
  | .tup xs, _ => some xs
  | .scr xs, _ => some xs
  | .lst xs, _ => some xs
  | .ref a, G => match G a with | some (.lst xs) => some xs | _ => none
  | _, _ => none
section
variable {K : PySem.W.Frag} {F F₀ : Hp} {G : Gp} {H : Hp} {d : D} {v : V} {xs : List D}
theorem lstOf_ok (w : Wd K F G H) (r : Rp K F d v) (h : lstOf d G = some xs) : ∃ a vs, v = .ref a ∧ H a = some (.lst vs) ∧ Rps K F xs vs := by
  cases d with
  | lst ys =>
    cases (show some ys = some xs from h)
    cases r with
    | lst a b => exact ⟨_, _, rfl, w.fz _ _ a, b⟩
  | ref a =>
    cases r
    have h' : (match G a with | some (.lst xs) => some xs | _ => none) = some xs := h
    split at h'
    · rename_i ys e
      cases h'
      obtain ⟨_, vs, hv, q⟩ := w.lst e
      exact ⟨a, vs, rfl, hv, q⟩
    · cases h'
  | _ => cases h
theorem seqOf_ok (w : Wd K F G H) (r : Rp K F d v) (h : seqOf d G = some xs) : ∃ a vs, v = .ref a ∧ (SqL K H a vs ∨ SqT K H a vs) ∧ Rps K F xs vs := by
  cases d with
  | tup ys =>
    cases (show some ys = some xs from h)
    cases r with
    | tup a b => exact ⟨_, _, rfl, .inr (sqT_mono w.fz a), b⟩
  | scr ys =>
    cases (show some ys = some xs from h)
    cases r with
    | scr a b => exact ⟨_, _, rfl, .inl (sqL_mono w.fz a), b⟩
  | lst ys =>
    obtain ⟨a, vs, e, s, q⟩ := lstOf_ok w r (show lstOf (.lst ys) G = some xs from h)
    exact ⟨a, vs, e, .inl (.of s), q⟩
  | ref b =>
    obtain ⟨a, vs, e, s, q⟩ := lstOf_ok w r (show lstOf (.ref b) G = some xs from h)
    exact ⟨a, vs, e, .inl (.of s), q⟩
  | _ => cases h
theorem nL_ok {m : Bool} {p : Addr} {vs : List V} {Q' : DK} {Q : VK} (w : Wd K F G H) (hp : H p = none) (r : Rps K F xs vs) (q : nL m xs G Q') (k : Ko K F Q' Q) : Q (.ref p) (upd H p (.lst vs)) := by
  cases m with
  | true =>
    have w2 : Wd K F (gu G p (.lst xs)) (upd H p (.lst vs)) := w.put (w.ffree hp) ⟨vs, upd_same, r⟩
    exact k _ _ F _ _ (Same.refl F) w2 (.ref p) (q p (w.gfree hp))
  | false =>
    have hf := w.ffree hp
    exact k _ _ _ _ _ (same_upd hf) (w.newF hp _) (.lst upd_same (r.mono (same_upd hf))) q
theorem nT_ok {p : Addr} {vs : List V} {Q' : DK} {Q : VK} (w : Wd K F G H) (hp : H p = none) (r : Rps K F xs vs) (q : Q' (.tup xs) G) (k : Ko K F Q' Q) : Q (.ref p) (upd H p (.tup vs)) := by
  have hf := w.ffree hp
  exact k _ _ _ _ _ (same_upd hf) (w.newF hp _) (.tup (.inl (.inl upd_same)) (r.mono (same_upd hf))) q
end

/-! ### arguments, displays -/
def aNil : DA := fun _ G Q => Q [] G
def aCons (t : DE) (u : DA) : DA := fun δ G Q => t δ G fun x G1 => u δ G1 fun xs G2 => Q (x :: xs) G2
def dTup (t : DA) : DE := fun δ G Q => t δ G fun xs G1 => xs.length ≤ sizeLine ∧ Q (.tup xs) G1
def dLst (m : Bool) (t : DA) : DE := fun δ G Q => t δ G fun xs G1 => xs.length ≤ sizeLine ∧ nL m xs G1 Q
section
variable {K : PySem.W.Frag} {X : Cx} {F₀ : Hp} {ta tb tc : DE} {t u : DA} {e a b c : Expr} {es : List Expr} {pos : Pos}
theorem da_nil : PA X [] (La X.K F₀ aNil) := pa_imp pa_nil fun σ H Q ⟨δ, F, G, Q', s, en, w, q, k⟩ => k [] [] F G H (Same.refl F) w .nil q
theorem da_cons (ha : PE X e (Le X.K F₀ ta)) (hr : PA X es (La X.K F₀ t)) (hs : starEach (e :: es) X.env = (false, eval e X.env) :: starEach es X.env := by rfl) : PA X (e :: es) (La X.K F₀ (aCons ta t)) :=
  pa_imp (pa_cons ha hr hs) fun σ H Q ⟨δ, F, G, Q', s, en, w, q, k⟩ =>
    ⟨δ, F, G, _, s, en, w, q, fun x v F1 G1 H1 s1 w1 r1 q1 => ⟨δ, F1, G1, _, s.trans s1, en.mono s1, w1, q1, fun xs vs F2 G2 H2 s2 w2 r2 q2 => k _ _ F2 G2 H2 (s1.trans s2) w2 (.cons (r1.mono s2) r2) q2⟩⟩
theorem de_tup {x1} (h : PA X es (La X.K F₀ t)) : PE X (.Tuple es x1 pos) (Le X.K F₀ (dTup t)) := pe_imp (pe_tup h) fun σ H Q ⟨δ, F, G, Q', s, en, w, q, k⟩ =>
  ⟨δ, F, G, _, s, en, w, q, fun xs vs F1 G1 H1 s1 w1 r1 q1 => ⟨by rw [← r1.length]; exact q1.1, fun p hp => nT_ok w1 hp r1 q1.2 (k.mono s1)⟩⟩
theorem de_lst (m : Bool) (h : PA X es (La X.K F₀ t)) : PE X (.List es pos) (Le X.K F₀ (dLst m t)) := pe_imp (pe_lst h) fun σ H Q ⟨δ, F, G, Q', s, en, w, q, k⟩ =>
  ⟨δ, F, G, _, s, en, w, q, fun xs vs F1 G1 H1 s1 w1 r1 q1 => ⟨by rw [← r1.length]; exact q1.1, fun p hp => nL_ok w1 hp r1 q1.2 (k.mono s1)⟩⟩
end

/-! ### calls -/
def CallD (K : PySem.W.Frag) (F₀ : Hp) (r' : List D → Gp → DK → Prop) (r : List V → Hp → VK → Prop) : Prop := ∀ F G H xs vs Q' Q, Same F₀ F → Wd K F G H → Rps K F xs vs → r' xs G Q' → Ko K F Q' Q → r vs H Q
def dCB (r : List D → Gp → DK → Prop) (t : DA) : DE := fun δ G Q => t δ G fun vs G1 => r vs G1 Q
section
variable {K : PySem.W.Frag} {X : Cx} {F₀ : Hp} {r' : List D → Gp → DK → Prop} {r : List V → Hp → VK → Prop} {t : DA}
theorem call_le (cd : CallD K F₀ r' r) {σ : L2.St} {H : Hp} {Q : VK} (h : Le K F₀ (dCB r' t) σ H Q) : tCB r (La K F₀ t) σ H Q := by
  obtain ⟨δ, F, G, Q', s, en, w, q, k⟩ := h
  exact ⟨δ, F, G, _, s, en, w, q, fun xs vs F1 G1 H1 s1 w1 r1 q1 => cd F1 G1 H1 xs vs Q' Q (s.trans s1) w1 r1 q1 (k.mono s1)⟩
end
end DL

/-! Rules over trees: operators, built-ins, subscripts. -/
namespace DL
open PySem PySem.Spec PyProof.Rows L2

/-! ### + -/
def dAdd (m : Bool) : D2 := fun x y G Q => match x, y with
  | .int i, .int j => Q (.int (i + j)) G
  | .str i, .str j => i.length + j.length ≤ sizeLine ∧ Q (.str (i ++ j)) G
  | .tup a, .tup b => a.length + b.length ≤ sizeLine ∧ Q (.tup (a ++ b)) G
  | x, y => match lstOf x G, lstOf y G with
    | some a, some b => a.length + b.length ≤ sizeLine ∧ nL m (a ++ b) G Q
    | _, _ => False
def rAddM (K : PySem.W.Frag) : R2 := fun x y H Q => (∃ i j, x = .int i ∧ y = .int j ∧ Q (.int (i + j)) H) ∨ (∃ i j, x = .str i ∧ y = .str j ∧ i.length + j.length ≤ sizeLine ∧ Q (.str (i ++ j)) H) ∨ rCatA K x y H Q ∨ rCat x y H Q
theorem op_addM {X : Cx} : OpR X (binaryOp .Add) (rAddM X.K) := op_add.or (op_add_str.or (op_catA.or op_cat))
section
variable {K : PySem.W.Frag} {F₀ : Hp}
theorem Rps.nil_iff {F : Hp} {ds : List D} {vs : List V} (r : Rps K F ds vs) : vs = [] ↔ ds = [] := by
  cases r <;> simp
theorem od_add (m : Bool) : OpD K F₀ (dAdd m) (rAddM K) := by
  intro F G H x y v u Q' Q s w rx ry q k
  unfold dAdd at q
  split at q
  · cases rx; cases ry
    exact .inl ⟨_, _, rfl, rfl, k _ _ F G H (Same.refl F) w (.int _) q⟩
  · cases rx; cases ry
    exact .inr (.inl ⟨_, _, rfl, rfl, q.1, k _ _ F G H (Same.refl F) w (.str _) q.2⟩)
  · rename_i a b
    cases rx with
    | tup s1 r1 =>
      cases ry with
      | tup s2 r2 =>
        refine .inr (.inr (.inl ⟨_, _, _, _, rfl, rfl, sqT_mono w.fz s1, sqT_mono w.fz s2, by rw [← r1.length, ← r2.length]; exact q.1, fun e => ?_, fun e e2 => ?_, fun e e2 p hp => ?_⟩))
        · have e' := r1.nil_iff.mp e
          subst e'
          exact k _ _ F G H (Same.refl F) w (.tup s2 r2) q.2
        · have e' := r2.nil_iff.mp e2
          subst e'
          have q2 := q.2
          rw [List.append_nil] at q2
          exact k _ _ F G H (Same.refl F) w (.tup s1 r1) q2
        · exact nT_ok w hp (r1.append r2) q.2 k
  · split at q
    · rename_i a b ea eb
      obtain ⟨l, vs, rfl, hl, r1⟩ := lstOf_ok w rx ea
      obtain ⟨l2, vs2, rfl, hl2, r2⟩ := lstOf_ok w ry eb
      exact .inr (.inr (.inr ⟨_, _, _, _, rfl, rfl, hl, hl2, by rw [← r1.length, ← r2.length]; exact q.1, fun p hp => nL_ok w hp (r1.append r2) q.2 k⟩))
    · exact q.elim
end

/-! ### * -/
/-- a tuple, nothing or once -/
theorem tuple_mulSame (l : Addr) (items : Array Value) (n : Nat) (dd : Option Addr) (sl : Array (Option Value)) (x : Int) (u : Tok) (c0 : (decide (x < -(2 ^ 63)) || decide (x ≥ 2 ^ 63)) = false) (c1 : (items.isEmpty || x == 1) = true) :
    Meets (Builtin.«tuple.__mul__» ⟨[.ref l, .int x u], []⟩) (fun _ R s => s.heap.get? l = some { cls := .type "tuple", dict := dd, data := .seq items n, slots := sl } ∧
      R (.ok (.ret (Value.ref l))) s) :=
  .of_wp fun prog w A R s h => by
    obtain ⟨hp, g, d, tk, os⟩ := s
    obtain ⟨hl, h⟩ := h
    have f1 := AutoSeq1.idx_int
    wp_walk using wpAny_loadPart' hl
    repeat (first
      | (refine wpAny_ite_false (decide_eq_false (by rw [c0]; exact Bool.false_ne_true)) ?_; wp_walk using wpAny_loadPart' hl)
      | (refine wpAny_ite_true (decide_eq_true (by rw [c1])) ?_; wp_walk using wpAny_loadPart' hl))
    all_goals first | exact ⟨_, rfl, h⟩ | trace_state
theorem tuple_mulNone (l : Addr) (items : Array Value) (n : Nat) (dd : Option Addr) (sl : Array (Option Value)) (x : Int) (u : Tok) (c0 : (decide (x < -(2 ^ 63)) || decide (x ≥ 2 ^ 63)) = false) (c1 : (items.isEmpty || x == 1) = false) (c2 : (decide (x ≤ 0) || items.isEmpty) = true) :
    Meets (Builtin.«tuple.__mul__» ⟨[.ref l, .int x u], []⟩) (fun _ R s => s.heap.get? l = some { cls := .type "tuple", dict := dd, data := .seq items n, slots := sl } ∧
      R (.ok (.ret (Value.ref s.heap.objs.size))) { s with heap := s.heap.push { cls := Value.type "tuple", data := Data.seq #[] }, toks := s.toks }) :=
  .of_wp fun prog w A R s h => by
    obtain ⟨hp, g, d, tk, os⟩ := s
    obtain ⟨hl, h⟩ := h
    have f1 := AutoSeq1.idx_int
    wp_walk using wpAny_loadPart' hl
    repeat (first
      | (refine wpAny_ite_false (decide_eq_false (by rw [c0]; exact Bool.false_ne_true)) ?_; wp_walk using wpAny_loadPart' hl)
      | (refine wpAny_ite_false (decide_eq_false (by rw [c1]; exact Bool.false_ne_true)) ?_; wp_walk using wpAny_loadPart' hl)
      | (refine wpAny_ite_true (decide_eq_true (by rw [c2])) ?_; wp_walk using wpAny_loadPart' hl))
    all_goals first | exact ⟨_, rfl, h⟩ | trace_state
/-- a tuple times an int, any -/
def rRepA (K : PySem.W.Frag) : R2 := fun x y H Q => ∃ l k xs, x = .ref l ∧ y = .int k ∧ SqT K H l xs ∧ -(2 ^ 63) ≤ k ∧ k ≤ 1000 ∧ xs.length ≤ 1000 ∧ (xs = [] ∨ k = 1 → Q (.ref l) H) ∧ (¬ (xs = [] ∨ k = 1) → ∀ p, H p = none → Q (.ref p) (upd H p (.tup (List.replicate k.toNat xs).flatten)))
theorem op_repA {X : Cx} : OpR X (binaryOp .Mult) (rRepA X.K) := by
  intro pins s σ H x y v u Q I rx ry h
  obtain ⟨l, k, xs, rfl, rfl, hT, h1, h2, hz, q1, q2⟩ := h
  by_cases hsame : xs = [] ∨ k = 1
  · cases rx
    obtain ⟨t, rfl⟩ := ry
    obtain ⟨its, r, ⟨⟨cls, dd, data, sl⟩, ho, hc, n, hd⟩, hs⟩ := I.tuple hT
    simp only at hc hd
    subst hc hd
    have c0 : (decide (k < -(2 ^ 63)) || decide (k ≥ 2 ^ 63)) = false := by
      rw [decide_eq_false (by omega), decide_eq_false (by omega)] <;> rfl
    have c1 : (its.toArray.isEmpty || k == 1) = true := by
      rcases hsame with e | e
      · subst e
        cases r
        rfl
      · subst e
        simp
    refine wpAny_binaryOp_repeat_ref (T := "tuple") (U := "int") (by decide) ⟨_, ho, rfl⟩ (fun s' => typeIs_int s' k t) noFill_tuple_mul F.fills_int_mul F.slot_int_rmul repeat_tuple F.slot_int_index.lookup
      (call_meets F.slot_int_rmul (typeIs_int s k t) F.entry_int_rmul (F.args_int_rmul_2 _ _) (int_rmul_tuple k t l its.toArray n dd sl)
        ⟨ho, rfl, ⟨_, ho, rfl⟩, call_meets F.slot_tuple_mul ⟨_, ho, rfl⟩ F.entry_tuple_mul (F.args_tuple_mul_2 _ _) (tuple_mulSame l its.toArray n dd sl k t c0 c1) ⟨ho, ?_⟩⟩)
    exact ⟨.ref l, H, I, rfl, q1 hsame⟩
  · by_cases hk : 2 ≤ k
    · exact op_repT pins s σ H _ _ v u Q I rx ry ⟨l, k, xs, rfl, rfl, hT, fun e => hsame (.inl e), hk, h2, hz, q2 hsame⟩
    · cases rx
      obtain ⟨t, rfl⟩ := ry
      obtain ⟨its, r, ⟨⟨cls, dd, data, sl⟩, ho, hc, n, hd⟩, hs⟩ := I.tuple hT
      simp only at hc hd
      subst hc hd
      have k1 : k ≠ 1 := fun e => hsame (.inr e)
      have xs1 : xs ≠ [] := fun e => hsame (.inl e)
      have c0 : (decide (k < -(2 ^ 63)) || decide (k ≥ 2 ^ 63)) = false := by
        rw [decide_eq_false (by omega), decide_eq_false (by omega)] <;> rfl
      have hi : its.toArray.isEmpty = false := by
        cases r with
        | nil => exact absurd rfl xs1
        | cons a b => rfl
      have c1 : (its.toArray.isEmpty || k == 1) = false := by
        rw [hi, Bool.false_or]
        exact beq_eq_false_iff_ne.mpr k1
      have c2 : (decide (k ≤ 0) || its.toArray.isEmpty) = true := by
        rw [hi, Bool.or_false]
        exact decide_eq_true (by omega)
      refine wpAny_binaryOp_repeat_ref (T := "tuple") (U := "int") (by decide) ⟨_, ho, rfl⟩ (fun s' => typeIs_int s' k t) noFill_tuple_mul F.fills_int_mul F.slot_int_rmul repeat_tuple F.slot_int_index.lookup
        (call_meets F.slot_int_rmul (typeIs_int s k t) F.entry_int_rmul (F.args_int_rmul_2 _ _) (int_rmul_tuple k t l its.toArray n dd sl)
          ⟨ho, rfl, ⟨_, ho, rfl⟩, call_meets F.slot_tuple_mul ⟨_, ho, rfl⟩ F.entry_tuple_mul (F.args_tuple_mul_2 _ _) (tuple_mulNone l its.toArray n dd sl k t c0 c1 c2) ⟨ho, ?_⟩⟩)
      have e0 : k.toNat = 0 := by omega
      have q3 := q2 hsame
      rw [e0] at q3
      refine ⟨.ref s.heap.objs.size, _, I.laid (t' := s.toks) (o := .tup []) (fun b ob q => Heap.get?_push_of_some _ q) (Nat.le_refl _) ?_, rfl, q3 _ (I.hok.fresh (Nat.le_refl _))⟩
      exact ⟨Nat.zero_le _, [], .nil, IsTup.new _ _⟩
def rMulM (K : PySem.W.Frag) : R2 := fun x y H Q => (∃ i j, x = .int i ∧ y = .int j ∧ MulOk i j ∧ Q (.int (i * j)) H) ∨ rRepA K x y H Q ∨ rRep x y H Q
theorem op_mulA {X : Cx} : OpR X (binaryOp .Mult) (rMulM X.K) := op_mulM.or (op_repA.or op_rep)
def rep (n : Int) (xs : List D) : List D := (List.replicate n.toNat xs).flatten
def dMul (m : Bool) : D2 := fun x y G Q => match x, y with
  | .int i, .int j => MulOk i j ∧ Q (.int (i * j)) G
  | .tup a, .int k => -(2 ^ 63) ≤ k ∧ k ≤ 1000 ∧ a.length ≤ 1000 ∧ Q (.tup (rep k a)) G
  | x, .int k => match lstOf x G with
    | some a => -(2 ^ 63) ≤ k ∧ k < 2 ^ 63 ∧ a.length * k.toNat ≤ sizeLine ∧ nL m (rep k a) G Q
    | none => False
  | _, _ => False
section
variable {K : PySem.W.Frag} {F₀ : Hp}
theorem Rps.rep {F : Hp} {xs : List D} {vs : List V} (h : Rps K F xs vs) : ∀ k : Nat, Rps K F (List.replicate k xs).flatten (List.replicate k vs).flatten
  | 0 => .nil
  | k + 1 => by
    rw [List.replicate_succ, List.replicate_succ, List.flatten_cons, List.flatten_cons]
    exact h.append (h.rep k)
theorem od_mul (m : Bool) : OpD K F₀ (dMul m) (rMulM K) := by
  intro F G H x y v u Q' Q s w rx ry q k
  unfold dMul at q
  split at q
  · cases rx; cases ry
    exact .inl ⟨_, _, rfl, rfl, q.1, k _ _ F G H (Same.refl F) w (.int _) q.2⟩
  · rename_i a n
    cases ry
    cases rx with
    | tup s1 r1 =>
      obtain ⟨h1, h2, h3, q⟩ := q
      refine .inr (.inl ⟨_, _, _, rfl, rfl, sqT_mono w.fz s1, h1, h2, by rw [← r1.length]; exact h3, fun e => ?_, fun e p hp => nT_ok w hp (r1.rep _) q k⟩)
      have e' : DL.rep n a = a := by
        rcases e with e | e
        · have e2 := r1.nil_iff.mp e
          subst e2
          unfold DL.rep
          simp
        · subst e
          unfold DL.rep
          simp
      rw [e'] at q
      exact k _ _ F G H (Same.refl F) w (.tup s1 r1) q
  · split at q
    · rename_i a ea
      cases ry
      obtain ⟨l, vs, rfl, hl, r1⟩ := lstOf_ok w rx ea
      obtain ⟨h1, h2, h3, q⟩ := q
      exact .inr (.inr ⟨_, _, _, rfl, rfl, hl, h1, h2, by rw [← r1.length]; exact h3, fun p hp => nL_ok w hp (r1.rep _) q k⟩)
    · exact q.elim
  · exact q.elim
end

/-! ### == of data -/
mutual
def toPy : D → Option PyData
  | .non => some .none
  | .bl b => some (.bool b)
  | .int i => some (.int i)
  | .str x => some (.str x)
  | .tup xs => (toPys xs).map .tuple
  | .lst xs => (toPys xs).map .list
  | _ => none
def toPys : List D → Option (List PyData)
  | [] => some []
  | x :: xs => match toPy x, toPys xs with | some p, some ps => some (p :: ps) | _, _ => none
end
/-- data, a list that may change among them at the top -/
def pyOf : D → Gp → Option PyData
  | .ref a, G => match G a with | some (.lst xs) => (toPys xs).map .list | _ => none
  | d, _ => toPy d
section
variable {K : PySem.W.Frag} {F F₀ H : Hp} {G : Gp}
mutual
theorem toPy_dp (e : Same F H) : ∀ (d : D) (v : V) (p : PyData), Rp K F d v → toPy d = some p → Dp K H v p
  | .non, _, _, r, h => by cases r; cases (show some _ = some _ from h); exact .non
  | .bl _, _, _, r, h => by cases r; cases (show some _ = some _ from h); exact .bl _
  | .int _, _, _, r, h => by cases r; cases (show some _ = some _ from h); exact .int _
  | .str _, _, _, r, h => by cases r; cases (show some _ = some _ from h); exact .str _
  | .tup xs, _, _, r, h => by
    cases r with
    | tup a b =>
      simp only [toPy, Option.map_eq_some_iff] at h
      obtain ⟨ps, h1, rfl⟩ := h
      exact .tup (sqT_mono e a) (toPys_dp e xs _ _ b h1)
  | .lst xs, _, _, r, h => by
    cases r with
    | lst a b =>
      simp only [toPy, Option.map_eq_some_iff] at h
      obtain ⟨ps, h1, rfl⟩ := h
      exact .lst (.of (e _ _ a)) (toPys_dp e xs _ _ b h1)
  | .ty _, _, _, _, h => by simp [toPy] at h
  | .scr _, _, _, _, h => by simp [toPy] at h
  | .dct _, _, _, _, h => by simp [toPy] at h
  | .obj _ _, _, _, _, h => by simp [toPy] at h
  | .ref _, _, _, _, h => by simp [toPy] at h
  | .fn _, _, _, _, h => by simp [toPy] at h
theorem toPys_dp (e : Same F H) : ∀ (ds : List D) (vs : List V) (ps : List PyData), Rps K F ds vs → toPys ds = some ps → DpAll K H vs ps
  | [], _, _, r, h => by cases r; cases (show some _ = some _ from h); exact .nil
  | d :: ds, _, _, r, h => by
    cases r with
    | cons a b =>
      simp only [toPys] at h
      split at h
      · rename_i p ps h1 h2
        cases h
        exact .cons (toPy_dp e d _ _ a h1) (toPys_dp e ds _ _ b h2)
      · cases h
end
theorem pyOf_dp (w : Wd K F G H) {d : D} {v : V} {p : PyData} (r : Rp K F d v) (h : pyOf d G = some p) : Dp K H v p := by
  cases d with
  | ref a =>
    cases r
    have h' : (match G a with | some (.lst xs) => (toPys xs).map .list | _ => none) = some p := h
    split at h'
    · rename_i ys e
      obtain ⟨_, vs, hv, q⟩ := w.lst e
      simp only [Option.map_eq_some_iff] at h'
      obtain ⟨ps, h1, rfl⟩ := h'
      exact .lst (.of hv) (toPys_dp w.fz ys _ _ q h1)
    · cases h'
  | _ => exact toPy_dp w.fz _ _ _ r h
end
def dEq : D2 := fun x y G Q => match x, y with
  | .int i, .int j => Q (.bl (decide (i = j))) G
  | .str i, .str j => Q (.bl (decide (i = j))) G
  | .bl i, .bl j => Q (.bl (decide (i = j))) G
  | x, y => match pyOf x G, pyOf y G with
    | some p, some q => SeqAt.shaped p = true ∧ SeqAt.shaped q = true ∧ Q (.bl (PyData.eqv p q)) G
    | _, _ => False
def dNe : D2 := fun x y G Q => match x, y with
  | .int i, .int j => Q (.bl (!decide (i = j))) G
  | .str i, .str j => Q (.bl (!decide (i = j))) G
  | .bl i, .bl j => Q (.bl (!decide (i = j))) G
  | x, y => match pyOf x G, pyOf y G with
    | some p, some q => SeqAt.shaped p = true ∧ SeqAt.shaped q = true ∧ Q (.bl (!PyData.eqv p q)) G
    | _, _ => False
def rEqM (K : PySem.W.Frag) : R2 := fun x y H Q => rEq x y H Q ∨ rEqD K x y H Q
def rNeM (K : PySem.W.Frag) : R2 := fun x y H Q => rNe x y H Q ∨ rNeD K x y H Q
theorem op_eqM {X : Cx} (hu : X.A.units + 64 < cLine) : OpR X (compareOp .Eq) (rEqM X.K) := op_eq.or (op_eqD hu)
theorem op_neM {X : Cx} (hu : X.A.units + 64 < cLine) : OpR X (compareOp .NotEq) (rNeM X.K) := op_ne.or (op_neD hu)
section
variable {K : PySem.W.Frag} {F₀ : Hp}
theorem od_eq : OpD K F₀ dEq (rEqM K) := by
  intro F G H x y v u Q' Q s w rx ry q k
  unfold dEq at q
  split at q
  · cases rx; cases ry
    exact .inl ⟨rfl, by simpa using k _ _ F G H (Same.refl F) w (.bl _) q⟩
  · cases rx; cases ry
    exact .inl ⟨rfl, by simpa using k _ _ F G H (Same.refl F) w (.bl _) q⟩
  · cases rx; cases ry
    exact .inl ⟨rfl, by simpa using k _ _ F G H (Same.refl F) w (.bl _) q⟩
  · split at q
    · rename_i p p2 h1 h2
      exact .inr ⟨p, p2, pyOf_dp w rx h1, pyOf_dp w ry h2, q.1, q.2.1, k _ _ F G H (Same.refl F) w (.bl _) q.2.2⟩
    · exact q.elim
theorem od_ne : OpD K F₀ dNe (rNeM K) := by
  intro F G H x y v u Q' Q s w rx ry q k
  unfold dNe at q
  split at q
  · cases rx; cases ry
    exact .inl ⟨rfl, by simpa using k _ _ F G H (Same.refl F) w (.bl _) q⟩
  · cases rx; cases ry
    exact .inl ⟨rfl, by simpa using k _ _ F G H (Same.refl F) w (.bl _) q⟩
  · cases rx; cases ry
    exact .inl ⟨rfl, by simpa using k _ _ F G H (Same.refl F) w (.bl _) q⟩
  · split at q
    · rename_i p p2 h1 h2
      exact .inr ⟨p, p2, pyOf_dp w rx h1, pyOf_dp w ry h2, q.1, q.2.1, k _ _ F G H (Same.refl F) w (.bl _) q.2.2⟩
    · exact q.elim
end
/-! ### is None -/
def dIsN : D2 := fun x y G Q => match y with | .non => Q (.bl (match x with | .non => true | _ => false)) G | _ => False
def dNotN : D2 := fun x y G Q => match y with | .non => Q (.bl (match x with | .non => false | _ => true)) G | _ => False
section
variable {K : PySem.W.Frag} {F₀ : Hp}
theorem od_isN : OpD K F₀ dIsN (fun x y H Q => y = .non ∧ Q (.bl (decide (x = .non))) H) := by
  intro F G H x y v u Q' Q s w rx ry q k
  unfold dIsN at q
  split at q
  · cases ry
    refine ⟨rfl, k (.bl (decide (v = .non))) _ F G H (Same.refl F) w (.bl _) ?_⟩
    cases rx <;> simpa using q
  · exact q.elim
theorem od_notN : OpD K F₀ dNotN (fun x y H Q => y = .non ∧ Q (.bl (!decide (x = .non))) H) := by
  intro F G H x y v u Q' Q s w rx ry q k
  unfold dNotN at q
  split at q
  · cases ry
    refine ⟨rfl, k (.bl (!decide (v = .non))) _ F G H (Same.refl F) w (.bl _) ?_⟩
    cases rx <;> simpa using q
  · exact q.elim
end
/-! ### x in a written or made list, tuple of flat things -/
def flatD : D → Bool
  | .non | .bl _ | .int _ | .str _ => true
  | _ => false
def toV : D → V
  | .bl b => .bl b
  | .int i => .int i
  | .str x => .str x
  | _ => .non
def inD (x : D) (xs : List D) : Bool := inV (toV x) (xs.map toV)
def dIn (neg : Bool) : D2 := fun x y G Q => match seqOf y G with
  | some xs => flatD x = true ∧ xs.all flatD = true ∧ Q (.bl (if neg then !inD x xs else inD x xs)) G
  | none => False
section
variable {K : PySem.W.Frag} {F₀ : Hp}
theorem flat_toV {F : Hp} {d : D} {v : V} (r : Rp K F d v) (h : flatD d = true) : v = toV d ∧ flatV v = true := by
  cases r <;> simp_all [flatD, toV, flatV]
theorem flats_toV {F : Hp} : ∀ {ds : List D} {vs : List V}, Rps K F ds vs → ds.all flatD = true → vs = ds.map toV ∧ vs.all flatV = true
  | [], _, r, _ => by cases r; exact ⟨rfl, rfl⟩
  | d :: ds, _, r, h => by
    cases r with
    | cons a b =>
      rw [List.all_cons, Bool.and_eq_true] at h
      obtain ⟨e1, f1⟩ := flat_toV a h.1
      obtain ⟨e2, f2⟩ := flats_toV b h.2
      exact ⟨by rw [e1, e2]; rfl, by rw [List.all_cons, f1, f2]; rfl⟩
theorem od_in (neg : Bool) : OpD K F₀ (dIn neg) (rIn K neg) := by
  intro F G H x y v u Q' Q s w rx ry q k
  unfold dIn at q
  split at q
  · rename_i xs e
    obtain ⟨a, vs, rfl, hs, r⟩ := seqOf_ok w ry e
    obtain ⟨h1, h2, q⟩ := q
    obtain ⟨e1, f1⟩ := flat_toV rx h1
    obtain ⟨e2, f2⟩ := flats_toV r h2
    subst e1 e2
    exact ⟨a, _, rfl, hs, f1, f2, k _ _ F G H (Same.refl F) w (.bl _) q⟩
  · exact q.elim
end
end DL

/-! Rules over trees: subscripts, slices, built-ins, methods, calls of defs. -/
namespace DL
open PySem PySem.Spec PyProof.Rows L2

/-! ### one operand -/
def dUn (r : D → Gp → DK → Prop) (t : DE) : DE := fun δ G Q => t δ G fun x G1 => r x G1 Q
def UnD (K : PySem.W.Frag) (F₀ : Hp) (r' : D → Gp → DK → Prop) (r : V → Hp → VK → Prop) : Prop := ∀ F G H x v Q' Q, Same F₀ F → Wd K F G H → Rp K F x v → r' x G Q' → Ko K F Q' Q → r v H Q
section
variable {K : PySem.W.Frag} {X : Cx} {F₀ : Hp} {r' : D → Gp → DK → Prop} {r : V → Hp → VK → Prop} {t : DE} {e a : Expr} {pos : Pos}
theorem un_le (od : UnD K F₀ r' r) {σ : L2.St} {H : Hp} {Q : VK} (h : Le K F₀ (dUn r' t) σ H Q) : (fun (σ : L2.St) H Q => Le K F₀ t σ H fun x H1 => r x H1 Q) σ H Q := by
  obtain ⟨δ, F, G, Q', s, en, w, q, k⟩ := h
  exact ⟨δ, F, G, _, s, en, w, q, fun x v F1 G1 H1 s1 w1 r1 q1 => od F1 G1 H1 x v Q' Q (s.trans s1) w1 r1 q1 (k.mono s1)⟩
def dNegR : D → Gp → DK → Prop := fun x G Q => match x with | .int i => Q (.int (-i)) G | _ => False
theorem ud_neg : UnD K F₀ dNegR (rU fun i => .int (-i)) := by
  intro F G H x v Q' Q s w rx q k
  unfold dNegR at q
  split at q
  · cases rx
    exact ⟨_, rfl, k _ _ F G H (Same.refl F) w (.int _) q⟩
  · exact q.elim
theorem de_neg (ha : PE X a (Le X.K F₀ t)) : PE X (.UnaryOp .USub a pos) (Le X.K F₀ (dUn dNegR t)) := pe_imp (pe_un un_neg ha) fun _ _ _ => un_le ud_neg
end

/-! ### subscripts -/
def dIx : D2 := fun x y G Q => match x, y with
  | .str z, .int i => match atI z.cps.toList i with
    | some c => z.length ≤ sizeLine ∧ Q (.str ⟨#[c]⟩) G
    | none => False
  | x, .int i => match seqOf x G with
    | some xs => match atI xs i with
      | some d => Q d G
      | none => False
    | none => False
  | _, _ => False
section
variable {K : PySem.W.Frag} {X : Cx} {F₀ : Hp} {ta tb : DE} {e a b : Expr} {pos : Pos}
theorem Rps.at {F : Hp} {ds : List D} {vs : List V} {i : Int} {d : D} (r : Rps K F ds vs) (h : atI ds i = some d) : ∃ v, atI vs i = some v ∧ Rp K F d v := by
  unfold atI at h ⊢
  rw [← r.length]
  cases e : ixN ds.length i with
  | none => rw [e] at h; cases h
  | some j =>
    rw [e] at h
    exact r.get h
theorem od_ix : OpD K F₀ dIx (rIx K) := by
  intro F G H x y v u Q' Q s w rx ry q k
  unfold dIx at q
  split at q
  · split at q
    · rename_i c e
      cases rx; cases ry
      exact .inr (.inr ⟨_, _, c, rfl, rfl, q.1, e, k _ _ F G H (Same.refl F) w (.str _) q.2⟩)
    · exact q.elim
  · split at q
    · rename_i xs e
      split at q
      · rename_i d e2
        cases ry
        obtain ⟨a, vs, rfl, hs, r⟩ := seqOf_ok w rx e
        obtain ⟨z, hz, rz⟩ := r.at e2
        have q2 := k _ _ F G H (Same.refl F) w rz q
        rcases hs with hs | hs
        · exact .inl ⟨a, vs, _, z, rfl, rfl, hs, hz, q2⟩
        · exact .inr (.inl ⟨a, vs, _, z, rfl, rfl, hs, hz, q2⟩)
      · exact q.elim
    · exact q.elim
  · exact q.elim
theorem de_ix (ha : PE X a (Le X.K F₀ ta)) (hb : PE X b (Le X.K F₀ tb)) (hs : PlainIx b) : PE X (.Subscript a b pos) (Le X.K F₀ (dOp dIx ta tb)) := pe_imp (pe_ix ix_seq ha hb hs) fun _ _ _ => op_le od_ix
end
/-- the items of a list that is read -/
def rlOf : D → Gp → Option (List D)
  | .scr xs, _ => some xs
  | .lst xs, _ => some xs
  | .ref a, G => match G a with | some (.lst xs) => some xs | _ => none
  | _, _ => none
theorem rlOf_ok {K : PySem.W.Frag} {F : Hp} {G : Gp} {H : Hp} {d : D} {v : V} {xs : List D} (w : Wd K F G H) (r : Rp K F d v) (h : rlOf d G = some xs) : ∃ a vs, v = .ref a ∧ SqL K H a vs ∧ Rps K F xs vs := by
  cases d with
  | scr ys =>
    cases (show some ys = some xs from h)
    cases r with
    | scr a b => exact ⟨_, _, rfl, sqL_mono w.fz a, b⟩
  | lst ys =>
    obtain ⟨a, vs, e, s, q⟩ := lstOf_ok w r (show lstOf (.lst ys) G = some xs from h)
    exact ⟨a, vs, e, .of s, q⟩
  | ref b =>
    obtain ⟨a, vs, e, s, q⟩ := lstOf_ok w r (show lstOf (.ref b) G = some xs from h)
    exact ⟨a, vs, e, .of s, q⟩
  | _ => cases h
/-! ### slices -/
def cutD (xs : List D) (lo hi : Option Int) : List D := (xs.drop (HT.sIx xs.length 0 lo)).take (HT.sIx xs.length xs.length hi - HT.sIx xs.length 0 lo)
abbrev DO := Sl → Gp → (Option Int → Gp → Prop) → Prop
def oNone : DO := fun _ G Q => Q none G
def oSome (t : DE) : DO := fun δ G Q => t δ G fun x G1 => match x with | .int i => Q (some i) G1 | _ => False
def dSl (m : Bool) (t : DE) (l u : DO) : DE := fun δ G Q => t δ G fun x G1 => l δ G1 fun lo G2 => u δ G2 fun hi G3 => match x with
  | .tup xs => Q (.tup (cutD xs lo hi)) G3
  | .str z => z.length ≤ sizeLine ∧ Q (.str (cutS z lo hi)) G3
  | x => match rlOf x G3 with
    | some xs => nL m (cutD xs lo hi) G3 Q
    | none => False
def Lo (K : PySem.W.Frag) (F₀ : Hp) (t : DO) : TO := fun σ H Q => ∃ δ F G Q', Same F₀ F ∧ En K F δ σ ∧ Wd K F G H ∧ t δ G Q' ∧ ∀ o F' G' H', Same F F' → Wd K F' G' H' → Q' o G' → Q o H'
section
variable {K : PySem.W.Frag} {X : Cx} {F₀ : Hp} {t : DE} {tl th : DO} {e a b : Expr} {lo hi : Option Expr} {pos p2 : Pos}
theorem do_none : PO X none (Lo X.K F₀ oNone) := ⟨fun pins s σ H Q I ⟨δ, F, G, Q', s1, en, w, q, k⟩ => po_none.run pins s σ H Q I (k none F G H (Same.refl F) w q)⟩
theorem do_some (h : PE X e (Le X.K F₀ t)) : PO X (some e) (Lo X.K F₀ (oSome t)) := ⟨fun pins s σ H Q I ⟨δ, F, G, Q', s1, en, w, q, k⟩ => (po_some h).run pins s σ H Q I (by
  refine ⟨δ, F, G, _, s1, en, w, q, fun x v F1 G1 H1 s2 w1 r1 q1 => ?_⟩
  split at q1
  · cases r1
    exact ⟨_, rfl, k _ F1 G1 H1 s2 w1 q1⟩
  · exact q1.elim)⟩
theorem Rps.cut {F : Hp} {ds : List D} {vs : List V} (r : Rps K F ds vs) (lo hi : Option Int) : Rps K F (cutD ds lo hi) (cutV vs lo hi) := by
  unfold cutD cutV
  rw [← r.length]
  exact (r.drop _).take _
theorem de_slice (m : Bool) (he : PE X e (Le X.K F₀ t)) (hl : PO X lo (Lo X.K F₀ tl)) (hu : PO X hi (Lo X.K F₀ th)) : PE X (.Subscript e (.Slice lo hi none p2) pos) (Le X.K F₀ (dSl m t tl th)) :=
  pe_imp (pe_slice (sl_tupA.or (sl_list.or sl_str)) he hl hu) fun σ H Q ⟨δ, F, G, Q', s, en, w, q, k⟩ => by
    refine ⟨δ, F, G, _, s, en, w, q, fun x v F1 G1 H1 s1 w1 r1 q1 => ?_⟩
    refine ⟨δ, F1, G1, _, s.trans s1, en.mono s1, w1, q1, fun lo F2 G2 H2 s2 w2 q2 => ?_⟩
    refine ⟨δ, F2, G2, _, (s.trans s1).trans s2, (en.mono s1).mono s2, w2, q2, fun hi F3 G3 H3 s3 w3 q3 => ?_⟩
    have r3 := r1.mono (s2.trans s3)
    have k3 := k.mono ((s1.trans s2).trans s3)
    split at q3
    · rename_i xs
      cases r3 with
      | tup sq rs =>
        refine .inl ⟨_, _, rfl, sqT_mono w3.fz sq, fun hw => ?_, fun hw p hp => nT_ok w3 hp (rs.cut lo hi) q3 k3⟩
        have e1 : cutD xs lo hi = xs := by
          unfold cutD
          rw [rs.length, hw.1, hw.2, List.drop_zero, Nat.sub_zero, ← rs.length, List.take_length]
        rw [e1] at q3
        exact k3 _ _ F3 G3 H3 (Same.refl F3) w3 (.tup sq rs) q3
    · cases r3
      exact .inr (.inr ⟨_, rfl, q3.1, k3 _ _ F3 G3 H3 (Same.refl F3) w3 (.str _) q3.2⟩)
    · split at q3
      · rename_i xs e
        obtain ⟨a, vs, rfl, hs, rs⟩ := rlOf_ok w3 r3 e
        exact .inr (.inl ⟨a, vs, rfl, hs, fun p hp => nL_ok w3 hp (rs.cut lo hi) q3 k3⟩)
      · exact q3.elim
end

/-! ### built-ins -/
section
variable {K : PySem.W.Frag} {X : Cx} {F₀ : Hp} {r' : List D → Gp → DK → Prop} {r : List V → Hp → VK → Prop} {t : DA} {x : Str} {p pos : Pos} {e : Expr} {es : List Expr} {id T : String}
theorem de_callB (hc : CallR X (.builtin id) r) (cd : CallD X.K F₀ r' r) (hg : Gl X x) (hm : X.mg x = none) (hv : bootBuiltins x = some (.builtin id)) (ha : PA X (e :: es) (La X.K F₀ t)) (hn : x ≠ "__name__" := by decide) (hdb : (x == ("__debug__" : Str)) = false := by decide)
    (he : starEach (e :: es) X.env = (false, eval e X.env) :: starEach es X.env := by rfl) (hpl : (backTo pos (starEach es X.env)).any (·.1) = false := by rfl) : PE X (.Call (.Name x p) (e :: es) [] pos) (Le X.K F₀ (dCB r' t)) :=
  pe_imp (pe_callB hc hg hm hv ha hn hdb he hpl) fun _ _ _ => call_le cd
theorem de_callTy (hc : CallR X (.type T) r) (cd : CallD X.K F₀ r' r) (hg : Gl X x) (hm : X.mg x = none) (hv : bootBuiltins x = some (.type T)) (ha : PA X (e :: es) (La X.K F₀ t)) (hn : x ≠ "__name__" := by decide) (hdb : (x == ("__debug__" : Str)) = false := by decide)
    (he : starEach (e :: es) X.env = (false, eval e X.env) :: starEach es X.env := by rfl) (hpl : (backTo pos (starEach es X.env)).any (·.1) = false := by rfl) : PE X (.Call (.Name x p) (e :: es) [] pos) (Le X.K F₀ (dCB r' t)) :=
  pe_imp (pe_callTy hc hg hm hv ha hn hdb he hpl) fun _ _ _ => call_le cd
end
section
variable {K : PySem.W.Frag} {F F₀ : Hp} {G : Gp} {H : Hp}
theorem rps1 {d : D} {vs : List V} (r : Rps K F [d] vs) : ∃ v, vs = [v] ∧ Rp K F d v := by
  cases r with
  | cons a b => cases b; exact ⟨_, rfl, a⟩
theorem rps2 {d e : D} {vs : List V} (r : Rps K F [d, e] vs) : ∃ v u, vs = [v, u] ∧ Rp K F d v ∧ Rp K F e u := by
  cases r with
  | cons a b =>
    obtain ⟨u, rfl, c⟩ := rps1 b
    exact ⟨_, u, rfl, a, c⟩
/-- len -/
def dLen : List D → Gp → DK → Prop := fun xs G Q => match xs with
  | [.str z] => z.length ≤ sizeLine ∧ Q (.int z.length) G
  | [x] => match seqOf x G with
    | some ys => Q (.int ys.length) G
    | none => False
  | _ => False
theorem cd_len : CallD K F₀ dLen (fun xs H Q => ∃ x n, xs = [x] ∧ LenV K x H n ∧ Q (.int n) H) := by
  intro F G H xs vs Q' Q s w rx q k
  unfold dLen at q
  split at q
  · obtain ⟨v, rfl, r⟩ := rps1 rx
    cases r
    exact ⟨_, _, rfl, ⟨q.1, rfl⟩, k _ _ F G H (Same.refl F) w (.int _) q.2⟩
  · obtain ⟨v, rfl, r⟩ := rps1 rx
    split at q
    · rename_i ys e
      obtain ⟨a, us, rfl, hs, rs⟩ := seqOf_ok w r e
      refine ⟨_, us.length, rfl, ?_, k _ _ F G H (Same.refl F) w (.int _) (by rw [← rs.length]; exact q)⟩
      rcases hs with hs | hs
      · exact .inl ⟨us, hs, rfl⟩
      · exact .inr ⟨us, hs, rfl⟩
    · exact q.elim
  · exact q.elim
/-- int -/
def dInt : List D → Gp → DK → Prop := fun xs G Q => match xs with
  | [.int i] => Q (.int i) G
  | [.bl b] => Q (.int (if b then 1 else 0)) G
  | _ => False
theorem cd_int : CallD K F₀ dInt (fun xs H Q => (∃ i, xs = [.int i] ∧ Q (.int i) H) ∨ ∃ k, xs = [.bl k] ∧ Q (.int (if k then 1 else 0)) H) := by
  intro F G H xs vs Q' Q s w rx q k
  unfold dInt at q
  split at q
  · obtain ⟨v, rfl, r⟩ := rps1 rx
    cases r
    exact .inl ⟨_, rfl, k _ _ F G H (Same.refl F) w (.int _) q⟩
  · obtain ⟨v, rfl, r⟩ := rps1 rx
    cases r
    exact .inr ⟨_, rfl, k _ _ F G H (Same.refl F) w (.int _) q⟩
  · exact q.elim
/-- abs, min, max of ints -/
def dAbs : List D → Gp → DK → Prop := fun xs G Q => match xs with
  | [.int i] => Q (.int (if i < 0 then -i else i)) G
  | _ => False
theorem cd_abs : CallD K F₀ dAbs (fun xs H Q => ∃ i, xs = [.int i] ∧ Q (.int (if i < 0 then -i else i)) H) := by
  intro F G H xs vs Q' Q s w rx q k
  unfold dAbs at q
  split at q
  · obtain ⟨v, rfl, r⟩ := rps1 rx
    cases r
    exact ⟨_, rfl, k _ _ F G H (Same.refl F) w (.int _) q⟩
  · exact q.elim
def dMax2 : List D → Gp → DK → Prop := fun xs G Q => match xs with
  | [.int i, .int j] => Q (.int (max i j)) G
  | _ => False
def dMin2 : List D → Gp → DK → Prop := fun xs G Q => match xs with
  | [.int i, .int j] => Q (.int (min i j)) G
  | _ => False
theorem cd_max2 : CallD K F₀ dMax2 (fun xs H Q => ∃ i j, xs = [.int i, .int j] ∧ Q (.int (if j > i then j else i)) H) := by
  intro F G H xs vs Q' Q s w rx q k
  unfold dMax2 at q
  split at q
  · rename_i i j
    obtain ⟨v, u, rfl, r, r2⟩ := rps2 rx
    cases r; cases r2
    have e : max i j = if j > i then j else i := by omega
    rw [e] at q
    exact ⟨_, _, rfl, k _ _ F G H (Same.refl F) w (.int _) q⟩
  · exact q.elim
theorem cd_min2 : CallD K F₀ dMin2 (fun xs H Q => ∃ i j, xs = [.int i, .int j] ∧ Q (.int (if j < i then j else i)) H) := by
  intro F G H xs vs Q' Q s w rx q k
  unfold dMin2 at q
  split at q
  · rename_i i j
    obtain ⟨v, u, rfl, r, r2⟩ := rps2 rx
    cases r; cases r2
    have e : min i j = if j < i then j else i := by omega
    rw [e] at q
    exact ⟨_, _, rfl, k _ _ F G H (Same.refl F) w (.int _) q⟩
  · exact q.elim
/-- tuple(..), list(..) of a list or a tuple -/
def dTupleOf : List D → Gp → DK → Prop := fun xs G Q => match xs with
  | [x] => match seqOf x G with
    | some ys => Q (.tup ys) G
    | none => False
  | _ => False
def dListOf (m : Bool) : List D → Gp → DK → Prop := fun xs G Q => match xs with
  | [x] => match seqOf x G with
    | some ys => nL m ys G Q
    | none => False
  | _ => False
theorem cd_tuple : CallD K F₀ dTupleOf (fun xs H Q => ∃ p ys, xs = [.ref p] ∧ ((SqL K H p ys ∧ ∀ l, H l = none → Q (.ref l) (upd H l (.tup ys))) ∨ (SqT K H p ys ∧ Q (.ref p) H))) := by
  intro F G H xs vs Q' Q s w rx q k
  unfold dTupleOf at q
  split at q
  · rename_i x
    obtain ⟨v, rfl, r⟩ := rps1 rx
    cases x with
    | tup ys =>
      cases r with
      | tup a b => exact ⟨_, _, rfl, .inr ⟨sqT_mono w.fz a, k _ _ F G H (Same.refl F) w (.tup a b) q⟩⟩
    | scr ys =>
      obtain ⟨a, us, rfl, hs, rs⟩ := rlOf_ok w r (show rlOf (.scr ys) G = some ys from rfl)
      exact ⟨_, _, rfl, .inl ⟨hs, fun p hp => nT_ok w hp rs q k⟩⟩
    | lst ys =>
      obtain ⟨a, us, rfl, hs, rs⟩ := rlOf_ok w r (show rlOf (.lst ys) G = some ys from rfl)
      exact ⟨_, _, rfl, .inl ⟨hs, fun p hp => nT_ok w hp rs q k⟩⟩
    | ref b =>
      split at q
      · rename_i ys e
        obtain ⟨a, us, e2, hs, rs⟩ := rlOf_ok w r (show rlOf (.ref b) G = some ys from e)
        subst e2
        exact ⟨_, _, rfl, .inl ⟨hs, fun p hp => nT_ok w hp rs q k⟩⟩
      · exact q.elim
    | _ => exact (show False from q).elim
  · exact q.elim
theorem cd_list (m : Bool) : CallD K F₀ (dListOf m) (fun xs H Q => ∃ p ys, xs = [.ref p] ∧ (SqL K H p ys ∨ SqT K H p ys) ∧ ∀ l, H l = none → Q (.ref l) (upd H l (.lst ys))) := by
  intro F G H xs vs Q' Q s w rx q k
  unfold dListOf at q
  split at q
  · obtain ⟨v, rfl, r⟩ := rps1 rx
    split at q
    · rename_i ys e
      obtain ⟨a, us, rfl, hs, rs⟩ := seqOf_ok w r e
      exact ⟨_, _, rfl, hs, fun p hp => nL_ok w hp rs q k⟩
    · exact q.elim
  · exact q.elim
/-- all, any of truth values; sum of ints -/
def blsOf : List D → Option (List Bool)
  | [] => some []
  | .bl b :: r => (blsOf r).map (b :: ·)
  | _ => none
def intsOf : List D → Option (List Int)
  | [] => some []
  | .int b :: r => (intsOf r).map (b :: ·)
  | _ => none
theorem blsOf_eq : ∀ {xs : List D} {bs : List Bool}, blsOf xs = some bs → xs = bs.map D.bl
  | [], _, h => by cases (show some [] = some _ from h); rfl
  | x :: r, bs, h => by
    cases x <;> simp [blsOf] at h
    obtain ⟨a, h1, rfl⟩ := h
    rw [blsOf_eq h1]
    rfl
theorem intsOf_eq : ∀ {xs : List D} {bs : List Int}, intsOf xs = some bs → xs = bs.map D.int
  | [], _, h => by cases (show some [] = some _ from h); rfl
  | x :: r, bs, h => by
    cases x <;> simp [intsOf] at h
    obtain ⟨a, h1, rfl⟩ := h
    rw [intsOf_eq h1]
    rfl
@[simp] theorem blsOf_map {α : Type} (f : α → Bool) : ∀ l : List α, blsOf (l.map fun x => .bl (f x)) = some (l.map f)
  | [] => rfl
  | x :: r => by
    rw [List.map_cons, List.map_cons]
    unfold blsOf
    rw [blsOf_map f r]
    rfl
@[simp] theorem intsOf_map {α : Type} (f : α → Int) : ∀ l : List α, intsOf (l.map fun x => .int (f x)) = some (l.map f)
  | [] => rfl
  | x :: r => by
    rw [List.map_cons, List.map_cons]
    unfold intsOf
    rw [intsOf_map f r]
    rfl
@[simp] theorem intsOf_ints (l : List Int) : intsOf (l.map D.int) = some l := by
  have := intsOf_map (fun x : Int => x) l
  rwa [List.map_id'] at this
@[simp] theorem blsOf_bls (l : List Bool) : blsOf (l.map D.bl) = some l := by
  have := blsOf_map (fun x : Bool => x) l
  rwa [List.map_id'] at this
def dBls (f : List Bool → Bool) : List D → Gp → DK → Prop := fun xs G Q => match xs with
  | [x] => match rlOf x G with
    | some ys => match blsOf ys with
      | some bs => Q (.bl (f bs)) G
      | none => False
    | none => False
  | _ => False
def dAll := dBls fun bs => bs.all id
def dAny := dBls fun bs => bs.any id
theorem cd_bls (f : List Bool → Bool) : CallD K F₀ (dBls f) (fun vs H Q => ∃ (a : Addr) (bs : List Bool), vs = [V.ref a] ∧ SqL K H a (bs.map V.bl) ∧ Q (.bl (f bs)) H) := by
  intro F G H xs vs Q' Q s w rx q k
  unfold dBls at q
  split at q
  · obtain ⟨v, rfl, r⟩ := rps1 rx
    split at q
    · rename_i ys e
      obtain ⟨a, us, rfl, hs, rs⟩ := rlOf_ok w r e
      split at q
      · rename_i bs e2
        have e3 := blsOf_eq e2
        subst e3
        rw [rs.bls] at hs
        exact ⟨a, bs, rfl, hs, k _ _ F G H (Same.refl F) w (.bl _) q⟩
      · exact q.elim
    · exact q.elim
  · exact q.elim
theorem cd_all : CallD K F₀ dAll (rAll K) := cd_bls _
theorem cd_any : CallD K F₀ dAny (rAny K) := cd_bls _
/-- sum of ints, in a list or a tuple -/
def rSumA (K : PySem.W.Frag) : List V → Hp → VK → Prop := fun vs H Q => rSum K vs H Q ∨ ∃ (a : Addr) (ns : List Int), vs = [V.ref a] ∧ SqT K H a (ns.map V.int) ∧ Q (.int ns.sum) H
theorem cr_sumA {X : Cx} (hc : X.calm = true) : CallR X (.builtin "sum") (rSumA X.K) := (cr_sum hc).or (by
  intro pins s σ H vs us Q I r h
  obtain ⟨a, ns, rfl, hs, q⟩ := h
  obtain ⟨its, rv, ht, _⟩ := I.tuple hs
  rw [Vals.ref1 r]
  have hi := rv.ints
  obtain ⟨xs, e⟩ := hi.allInts.items
  have hn : numsOf (intItems xs).toList = ns := by rw [← e]; exact hi.numsOf
  rw [nums_intItems] at hn
  rw [e] at ht
  refine PySem.W.ktm_sumG (I.ok.hd hc) (show s.heap.IsTuple a (intItems xs) from ht) fun h' tk t' hk => ⟨.int _, H, I.kept hk, ⟨t', ?_⟩, q⟩
  rw [preSum_eq, List.take_of_length_le (by simp), hn])
def dSum : List D → Gp → DK → Prop := fun xs G Q => match xs with
  | [x] => match seqOf x G with
    | some ys => match intsOf ys with
      | some bs => Q (.int bs.sum) G
      | none => False
    | none => False
  | _ => False
theorem cd_sum : CallD K F₀ dSum (rSumA K) := by
  intro F G H xs vs Q' Q s w rx q k
  unfold dSum at q
  split at q
  · obtain ⟨v, rfl, r⟩ := rps1 rx
    split at q
    · rename_i ys e
      obtain ⟨a, us, rfl, hs, rs⟩ := seqOf_ok w r e
      split at q
      · rename_i bs e2
        have e3 := intsOf_eq e2
        subst e3
        rw [rs.ints] at hs
        have q2 := k _ _ F G H (Same.refl F) w (.int _) q
        rcases hs with hs | hs
        · exact .inl ⟨a, bs, rfl, hs, q2⟩
        · exact .inr ⟨a, bs, rfl, hs, q2⟩
      · exact q.elim
    · exact q.elim
  · exact q.elim
/-- sorted of ints -/
def dSortedI (m : Bool) : List D → Gp → DK → Prop := fun xs G Q => match xs with
  | [x] => match rlOf x G with
    | some ys => match intsOf ys with
      | some bs => ∀ cs : List Int, cs.Perm bs → cs.Pairwise (· ≤ ·) → nL m (cs.map D.int) G Q
      | none => False
    | none => False
  | _ => False
theorem cd_sortedI (m : Bool) : CallD K F₀ (dSortedI m) (rSortedI K) := by
  intro F G H xs vs Q' Q s w rx q k
  unfold dSortedI at q
  split at q
  · obtain ⟨v, rfl, r⟩ := rps1 rx
    split at q
    · rename_i ys e
      obtain ⟨a, us, rfl, hs, rs⟩ := rlOf_ok w r e
      split at q
      · rename_i bs e2
        have e3 := intsOf_eq e2
        subst e3
        rw [rs.ints] at hs
        exact ⟨a, bs, rfl, hs, fun cs p h1 h2 h3 => nL_ok w h3 (Rps.ofInts cs) (q cs h1 h2) k⟩
      · exact q.elim
    · exact q.elim
  · exact q.elim
/-- isinstance(x, T), T built in -/
def tyOf : D → Gp → Option String
  | .non, _ => some "NoneType"
  | .bl _, _ => some "bool"
  | .int _, _ => some "int"
  | .str _, _ => some "str"
  | .tup _, _ => some "tuple"
  | .lst _, _ => some "list"
  | .dct _, _ => some "dict"
  | .ref a, G => match G a with | some (.lst _) => some "list" | some (.abl _) => some "list" | some (.dct _) => some "dict" | _ => none
  | _, _ => none
def subTy (a b : String) : Bool := a == b || (a == "bool" && b == "int")
theorem tyOf_ok (w : Wd K F G H) {d : D} {v : V} {n : String} (r : Rp K F d v) (h : tyOf d G = some n) : TyX K H v (.type n) := by
  cases r with
  | non => cases (show some _ = some _ from h); exact .base .non
  | bl b => cases (show some _ = some _ from h); exact .base (.bl b)
  | int b => cases (show some _ = some _ from h); exact .base (.int b)
  | str b => cases (show some _ = some _ from h); exact .base (.str b)
  | tup a b =>
    cases (show some _ = some _ from h)
    rcases a with (a | ⟨o, a⟩) | ⟨o, its, n, hk, hc, _⟩
    · exact .base (.tup (w.fz _ _ a))
    · exact .fTuple (w.fz _ _ a)
    · exact .kTuple hk hc
  | lst a b => cases (show some _ = some _ from h); exact .base (.lst (w.fz _ _ a))
  | dct a b => cases (show some _ = some _ from h); exact .base (.dK (w.fz _ _ a))
  | ref a =>
    have h' : (match G a with | some (.lst _) => some "list" | some (.abl _) => some "list" | some (.dct _) => some "dict" | _ => none) = some n := h
    split at h'
    · rename_i ys e
      cases h'
      obtain ⟨_, vs, hv, _⟩ := w.mu a _ e
      exact .base (.lst hv)
    · rename_i ys e
      cases h'
      obtain ⟨_, xs, vs, _, hv, _⟩ := w.mu a _ e
      exact .base (.lst hv)
    · rename_i ys e
      cases h'
      obtain ⟨_, vs, hv, _⟩ := w.mu a _ e
      exact .base (.dK hv)
    · cases h'
  | ty n => cases h
  | scr a b => cases h
  | obj a b => cases h
  | fn a => cases h
  | ho a => cases h
def tyNames : List String := ["NoneType", "bool", "int", "str", "tuple", "list", "dict"]
theorem tyOf_mem {d : D} {n : String} (h : tyOf d G = some n) : n ∈ tyNames := by
  cases d with
  | ref a =>
    have h' : (match G a with | some (.lst _) => some "list" | some (.abl _) => some "list" | some (.dct _) => some "dict" | _ => none) = some n := h
    split at h' <;> first | (cases h'; decide) | cases h'
  | _ => first | (cases (show some _ = some _ from h); decide) | cases h
theorem kit_all : (tyNames.all fun a => (["int", "bool", "str", "tuple", "list", "dict"].all fun b => kitB a b == some (subTy a b))) = true := by decide +kernel
theorem kit_sub {a b : String} (ha : a ∈ tyNames) (hb : b ∈ ["int", "bool", "str", "tuple", "list", "dict"]) : PySem.W.kitOne K (.type a) (.type b) = some (subTy a b) :=
  kit_ty (by
    have h := kit_all
    rw [List.all_eq_true] at h
    have h2 := h a ha
    rw [List.all_eq_true] at h2
    exact beq_iff_eq.mp (h2 b hb))
def dIsi : List D → Gp → DK → Prop := fun xs G Q => match xs with
  | [x, .ty T] => match tyOf x G with
    | some n => T ∈ ["int", "bool", "str", "tuple", "list", "dict"] ∧ Q (.bl (subTy n T)) G
    | none => False
  | _ => False
theorem cd_isi : CallD K F₀ dIsi (rIsi K) := by
  intro F G H xs vs Q' Q s w rx q k
  unfold dIsi at q
  split at q
  · obtain ⟨v, u, rfl, r, r2⟩ := rps2 rx
    cases r2
    split at q
    · rename_i n e
      exact ⟨v, _, _, _, _, rfl, .ty _, tyOf_ok w r e, kit_sub (tyOf_mem e) q.1, k _ _ F G H (Same.refl F) w (.bl _) q.2⟩
    · exact q.elim
  · exact q.elim
/-- list(range(a, b)) -/
def rgD (a b : Int) : List D := (List.range (b - a).toNat).map fun i => D.int (a + (i : Nat))
theorem rgD_rp (a b : Int) : Rps K F (rgD a b) (rgV a b) := by
  unfold rgD rgV
  induction (List.range (b - a).toNat) with
  | nil => exact .nil
  | cons x r ih => exact .cons (.int _) ih
def dRg1 (m : Bool) (t : DE) : DE := fun δ G Q => t δ G fun x G1 => match x with | .int n => RgOk 0 n ∧ nL m (rgD 0 n) G1 Q | _ => False
def dRg2 (m : Bool) (t u : DE) : DE := fun δ G Q => t δ G fun x G1 => u δ G1 fun y G2 => match x, y with | .int n, .int k => RgOk n k ∧ nL m (rgD n k) G2 Q | _, _ => False
end
section
variable {X : Cx} {F₀ : Hp} {ta tb : DE} {a b : Expr} {p pos p2 pos2 : Pos}
theorem de_listRg1 (m : Bool) (hc : X.calm = true) (hg : Gl X "list") (hm : X.mg "list" = none) (hg2 : Gl X "range") (hm2 : X.mg "range" = none) (ha : PE X a (Le X.K F₀ ta))
    (na : starEach [a] X.env = (false, eval a X.env) :: starEach [] X.env := by rfl) (nb : starEach [Expr.Call (.Name "range" p2) [a] [] pos2] X.env = (false, eval (Expr.Call (.Name "range" p2) [a] [] pos2) X.env) :: starEach [] X.env := by rfl) :
    PE X (.Call (.Name "list" p) [.Call (.Name "range" p2) [a] [] pos2] [] pos) (Le X.K F₀ (dRg1 m ta)) := pe_imp (pe_listRg hc hg hm (prg_1 hg2 hm2 ha na) nb) fun σ H Q ⟨δ, F, G, Q', s, en, w, q, k⟩ => by
  refine ⟨δ, F, G, _, s, en, w, q, fun x v F1 G1 H1 s1 w1 r1 q1 => ?_⟩
  split at q1
  · cases r1
    exact ⟨_, rfl, q1.1, fun p hp => nL_ok w1 hp (rgD_rp _ _) q1.2 (k.mono s1)⟩
  · exact q1.elim
end
end DL

/-! Promises of defs that are called while nothing is being shown (repr asks that). -/
namespace DL
open PySem PySem.Spec PyProof.Rows L2

/-- nothing is being shown -/
abbrev Mute (A : Around) : Prop := A.guards = some []
/-- the def at f keeps sp wherever it is called with nothing being shown -/
structure FnG (P : Program) (w : World) (K : PySem.W.Frag) (mg : Str → Option Value) (base : Heap) (CX : CXT) (k : Nat) (f : Addr) (fd : FuncData) (ps : List Str) (sp : Sp) : Prop where
  arity : ∀ vs H Q E, sp vs H Q E → vs.length = ps.length
  go : ∀ (A : Around) (outer : List Env) (s : Shared) (H : Hp) (args : Args) (us : List Value) (vs : List V) (Q : VK) (E : XK), Room k A → Mute A → Env0 P w K mg base A outer s H →
    BindsTo s fd args (ps.zip us) → Vals vs us → sp vs H Q E → codeAny (model P w) A (.call (.ref f) args) (CR CX outer P w H s Q E) s
section
variable {P : Program} {w : World} {K : PySem.W.Frag} {mg : Str → Option Value} {base : Heap} {CX : CXT} {j k : Nat} {f : Addr} {fd : FuncData} {ps : List Str} {sp sp' : Sp}
theorem FnG.ofOk (F : FnOk P w K mg base CX k f fd ps sp) : FnG P w K mg base CX k f fd ps sp := ⟨F.len, fun A outer s H args us vs Q E hr _ => F.run A outer s H args us vs Q E hr⟩
theorem FnG.up (F : FnG P w K mg base CX j f fd ps sp) (h : j ≤ k) : FnG P w K mg base CX k f fd ps sp := ⟨F.arity, fun A outer s H args us vs Q E hr => F.go A outer s H args us vs Q E (hr.mono h)⟩
theorem FnG.weak (F : FnG P w K mg base CX k f fd ps sp) (h : ∀ vs H Q E, sp' vs H Q E → sp vs H Q E) : FnG P w K mg base CX k f fd ps sp' :=
  ⟨fun vs H Q E q => F.arity vs H Q E (h vs H Q E q), fun A outer s H args us vs Q E hr hm e0 hb r q => F.go A outer s H args us vs Q E hr hm e0 hb r (h vs H Q E q)⟩
end
section
variable {X : Cx} {CX : CXT} {k : Nat} {f C : Addr} {fd : FuncData} {ps : List Str} {sp : Sp} {E : XK} {x m : Str} {p pos apos : Pos} {e o : Expr} {es : List Expr} {ta : TE} {t : TA}
/-- a result, by what is wanted of a value and of an error -/
def RRes (Q E : Value → Shared → Prop) : Result → Shared → Prop
  | .ok (.ret u), s => Q u s
  | .ok .next, _ => False
  | .ok .brk, _ => False
  | .ok .cont, _ => False
  | .error e, s => E e s
/-- a result of a callee is one of the caller's expression -/
theorem after_call {pins : List (Addr × Obj)} {σ : L2.St} {H : Hp} {s : Shared} {Q : VK} (hx : Passes CX X E) (I : Inv X pins σ H s) {r : Result} {s' : Shared} (hq : CR CX X.stack X.prog X.w H s Q E r s') :
    RRes (EP X pins σ Q) X.xe r s' := by
  match r, hq with
  | .ok (.ret _), hq => exact I.after hq
  | .ok .next, hq => exact hq
  | .ok .brk, hq => exact hq
  | .ok .cont, hq => exact hq
  | .error e, hq => exact hx pins σ H s e s' I hq
theorem wp_call {Q : Value → Shared → Prop} {fv : Value} {args : List Value} {s : Shared} {R : Result → Shared → Prop} (h : codeAny (model X.prog X.w) X.A (.call fv ⟨args, []⟩) R s)
    (hR : ∀ r s', R r s' → RRes Q X.xe r s') : wpAny (model X.prog X.w) X.A (call fv args) Q X.xe s := by
  refine wpAny_call (codeAny_mono h fun r s' hr => ?_)
  have := hR r s' hr
  match r, this with
  | .ok (.ret _), h => exact h
  | .ok .next, h => exact h.elim
  | .ok .brk, h => exact h.elim
  | .ok .cont, h => exact h.elim
  | .error _, h => exact h
theorem go_fn {pins : List (Addr × Obj)} {σ : L2.St} {H : Hp} {s : Shared} {Q : VK} {us : List Value} {vs : List V} (F : FnG X.prog X.w X.K X.mg X.base CX k f fd ps sp) (hr : Room k X.A) (hm : Mute X.A) (hb : Binds X.K fd ps []) (hx : Passes CX X E)
    (I : Inv X pins σ H s) (r : Vals vs us) (h : sp vs H Q E) : wpAny (model X.prog X.w) X.A (call (.ref f) us) (EP X pins σ Q) X.xe s := by
  have hl : (us ++ []).length = ps.length := by rw [List.append_nil, ← r.length]; exact F.arity _ _ _ _ h
  have hb' := hb s us I.kIn hl
  rw [List.append_nil] at hb'
  exact wp_call (F.go X.A X.stack s H ⟨us, []⟩ us vs Q E hr hm I.env0 hb' r h) fun r s' hq => after_call hx I hq
/-- f(e, ..) -/
theorem pe_callG (F : FnG X.prog X.w X.K X.mg X.base CX k f fd ps sp) (hr : Room k X.A) (hmu : Mute X.A) (hg : Gl X x) (hm : X.mg x = some (.ref f)) (hk : PySem.W.keepIn X.K (.ref f) = true) (hb : Binds X.K fd ps []) (hx : Passes CX X E)
    (ha : PA X (e :: es) t) (hdb : (x == ("__debug__" : Str)) = false := by decide) (he : starEach (e :: es) X.env = (false, eval e X.env) :: starEach es X.env := by rfl) (hpl : (backTo pos (starEach es X.env)).any (·.1) = false := by rfl) :
    PE X (.Call (.Name x p) (e :: es) [] pos) (fun σ H Q => t σ H fun vs H1 => sp vs H1 Q E) :=
  ⟨fun pins s σ H Q I h => wpAny_Call_Name_kw (ld_glob I hg hm (PySem.W.callWith_K (h₀ := X.base) I.ok.mod.kin hk (thn (ha.run pos pins s σ H _ I h) fun us s1 ⟨vs, H1, I1, r, q⟩ => ⟨I1.kIn, go_fn F hr hmu hb hx I1 r q⟩) he hpl) hdb)⟩
/-- f() -/
theorem pe_callG0 (F : FnG X.prog X.w X.K X.mg X.base CX k f fd ps sp) (hr : Room k X.A) (hmu : Mute X.A) (hg : Gl X x) (hm : X.mg x = some (.ref f)) (hk : PySem.W.keepIn X.K (.ref f) = true) (hb : Binds X.K fd ps []) (hx : Passes CX X E)
    (hdb : (x == ("__debug__" : Str)) = false := by decide) : PE X (.Call (.Name x p) [] [] pos) (fun σ H Q => sp [] H Q E) :=
  ⟨fun pins s σ H Q I h => wpAny_Call_Name_kw (ld_glob I hg hm (PySem.W.callWith_K0 I.kIn hk (go_fn (us := []) F hr hmu hb hx I .nil h)) hdb)⟩
/-- o.m(e, ..), o.m() of an instance of the class at C -/
theorem pe_methG {pl : Sem Bool} (he : PE X o ta) (c : Cls X.K C) (hm : Meth X.K C m f) (F : FnG X.prog X.w X.K X.mg X.base CX k f fd ps sp) (hr : Room k X.A) (hmu : Mute X.A) (hb : Binds X.K fd ps []) (hx : Passes CX X E) (ha : PA X (e :: es) t)
    (hst : starEach (e :: es) X.env = (false, eval e X.env) :: starEach es X.env := by rfl) (hpl : (backTo pos (starEach es X.env)).any (·.1) = false := by rfl)
    (ht : eval (.Call (.Attribute o m apos) (e :: es) [] pos) X.env = (do
      let ov ← eval o X.env
      standAt apos.atName
      let (f, first) ← holding [ov] (getMethod ov m pl)
      callWith pos f first (backTo pos (starEach (e :: es) X.env)) (backToKw pos (keywordEach [] X.env))) := by rfl) :
    PE X (.Call (.Attribute o m apos) (e :: es) [] pos) (fun σ H Q => ta σ H fun x H1 => ∃ a dx fs, x = .ref a ∧ H1 a = some (.ins C dx fs) ∧ fs.lookup m = none ∧ t σ H1 fun vs H2 => sp (x :: vs) H2 Q E) := by
  refine ⟨fun pins s σ H Q I h => PySem.W.methodCall_KW (pl := pl) (thn (he.run pins s σ H _ I h) fun u s1 hu => ?_) ht⟩
  obtain ⟨v, H1, I1, rv, a, dx, fs, rfl, ea, l, q⟩ := hu
  cases rv
  refine getmeth_ok I1 ea c hm l (PySem.W.callWith_K (first := [.ref a]) (h₀ := X.base) I.ok.mod.kin hm.kp (thn (ha.run pos pins s1 σ H1 _ I1 q) fun us s2 h2 => ?_) hst hpl)
  obtain ⟨vs, H2, I2, r, q2⟩ := h2
  exact ⟨I2.kIn, go_fn (us := .ref a :: us) (vs := .ref a :: vs) F hr hmu hb hx I2 (.cons rfl r) q2⟩
theorem pe_methG0 {pl : Sem Bool} (he : PE X o ta) (c : Cls X.K C) (hm : Meth X.K C m f) (F : FnG X.prog X.w X.K X.mg X.base CX k f fd ps sp) (hr : Room k X.A) (hmu : Mute X.A) (hb : Binds X.K fd ps []) (hx : Passes CX X E)
    (ht : eval (.Call (.Attribute o m apos) [] [] pos) X.env = (do
      let ov ← eval o X.env
      standAt apos.atName
      let (f, first) ← holding [ov] (getMethod ov m pl)
      callWith pos f first (backTo pos (starEach [] X.env)) (backToKw pos (keywordEach [] X.env))) := by rfl) :
    PE X (.Call (.Attribute o m apos) [] [] pos) (fun σ H Q => ta σ H fun x H1 => ∃ a dx fs, x = .ref a ∧ H1 a = some (.ins C dx fs) ∧ fs.lookup m = none ∧ sp [x] H1 Q E) := by
  refine ⟨fun pins s σ H Q I h => PySem.W.methodCall_KW (pl := pl) (thn (he.run pins s σ H _ I h) fun u s1 hu => ?_) ht⟩
  obtain ⟨v, H1, I1, rv, a, dx, fs, rfl, ea, l, q⟩ := hu
  cases rv
  exact getmeth_ok I1 ea c hm l (PySem.W.callWith_K0 (first := [.ref a]) I1.kIn hm.kp (go_fn (us := [.ref a]) (vs := [.ref a]) F hr hmu hb hx I1 (.cons rfl .nil) q))
theorem mute_make {A : Around} {us : List Value} (h : Mute A) : Mute (A.under (.builtin "type.__call__" ⟨.ref C :: us, []⟩)) := by
  have e : (A.under (.builtin "type.__call__" ⟨.ref C :: us, []⟩)).guards = A.guards := by
    first | rfl | simp [Around.under, Code.guards, Code.isGuard, pushGuards, guardIds]
  exact e.trans h
/-- C(e, ..) of an own class with an __init__ at f -/
theorem go_make {pins : List (Addr × Obj)} {σ : L2.St} {H : Hp} {s : Shared} {Q : VK} {us : List Value} {vs : List V} (M : Mk X.K C f) (F : FnG X.prog X.w X.K X.mg X.base CX k f fd ps sp) (hr : Room (k + 1) X.A) (hm : Mute X.A) (hb : Binds X.K fd ps [])
    (hx : Passes CX X E) (I : Inv X pins σ H s) (r : Vals vs us)
    (h : ∀ x dx, H x = none → H dx = none → dx ≠ x → sp (.ref x :: vs) (upd (upd H dx (.own x)) x (.ins C dx [])) (fun v H2 => v = .non ∧ Q (.ref x) H2) E) :
    wpAny (model X.prog X.w) X.A (call (.ref C) us) (EP X pins σ Q) X.xe s := by
  have n1 : H (s.heap.objs.size + 1) = none := I.hok.fresh (Nat.le_succ _)
  have n0 : H s.heap.objs.size = none := I.hok.fresh (Nat.le_refl _)
  have q := h _ _ n1 n0 (Nat.ne_of_lt (Nat.lt_succ_self _))
  have J := Inv.made (C := C) I
  have r2 : Vals (V.ref (s.heap.objs.size + 1) :: vs) (Value.ref (s.heap.objs.size + 1) :: us) := .cons rfl r
  have hl : ((Value.ref (s.heap.objs.size + 1) :: us) ++ []).length = ps.length := by rw [List.append_nil, ← r2.length]; exact F.arity _ _ _ _ q
  have hb' := hb _ (Value.ref (s.heap.objs.size + 1) :: us) J.kIn hl
  rw [List.append_nil] at hb'
  refine wpAny_call (make_map (f := f) I.kIn M.makes M.init (beq_iff_eq.mp M.fn) (codeAny_mono (F.go _ X.stack _ _ ⟨Value.ref (s.heap.objs.size + 1) :: us, []⟩ _ _ _ E (hr.make C us []) (mute_make hm) (J.env0.make C us []) hb' r2 q) fun r s' hq => ?_))
  exact make_back (after_call hx J hq)
where
  make_back {pins : List (Addr × Obj)} {σ : L2.St} {Q : VK} {x : Addr} {s' : Shared} : ∀ {r : Result}, RRes (EP X pins σ fun v H2 => v = .non ∧ Q (.ref x) H2) X.xe r s' → PySem.W.InitBack x (fun r s' => match r with | .ok (.ret u) => EP X pins σ Q u s' | .ok _ => False | .error e => X.xe e s') r s' := by
    intro r h
    match r, h with
    | .ok (.ret u), ⟨v, H', I3, rv, ev, q3⟩ =>
      subst ev
      exact ⟨rv, ⟨V.ref x, H', I3, rfl, q3⟩⟩
    | .ok .next, z => exact z
    | .ok .brk, z => exact z
    | .ok .cont, z => exact z
    | .error e, z => exact z
theorem pe_makeG (M : Mk X.K C f) (F : FnG X.prog X.w X.K X.mg X.base CX k f fd ps sp) (hr : Room (k + 1) X.A) (hmu : Mute X.A) (hg : Gl X x) (hm : X.mg x = some (.ref C)) (hb : Binds X.K fd ps []) (hx : Passes CX X E)
    (ha : PA X (e :: es) t) (hdb : (x == ("__debug__" : Str)) = false := by decide) (he : starEach (e :: es) X.env = (false, eval e X.env) :: starEach es X.env := by rfl) (hpl : (backTo pos (starEach es X.env)).any (·.1) = false := by rfl) :
    PE X (.Call (.Name x p) (e :: es) [] pos) (fun σ H Q => t σ H fun vs H1 => ∀ x dx, H1 x = none → H1 dx = none → dx ≠ x → sp (.ref x :: vs) (upd (upd H1 dx (.own x)) x (.ins C dx [])) (fun v H2 => v = .non ∧ Q (.ref x) H2) E) :=
  ⟨fun pins s σ H Q I h => wpAny_Call_Name_kw (ld_glob I hg hm (PySem.W.callWith_K (h₀ := X.base) I.ok.mod.kin M.kp (thn (ha.run pos pins s σ H _ I h) fun us s1 ⟨vs, H1, I1, r, q⟩ => ⟨I1.kIn, go_make M F hr hmu hb hx I1 r q⟩) he hpl) hdb)⟩
theorem pe_makeG0 (M : Mk X.K C f) (F : FnG X.prog X.w X.K X.mg X.base CX k f fd ps sp) (hr : Room (k + 1) X.A) (hmu : Mute X.A) (hg : Gl X x) (hm : X.mg x = some (.ref C)) (hb : Binds X.K fd ps []) (hx : Passes CX X E)
    (hdb : (x == ("__debug__" : Str)) = false := by decide) :
    PE X (.Call (.Name x p) [] [] pos) (fun σ H Q => ∀ x dx, H x = none → H dx = none → dx ≠ x → sp [.ref x] (upd (upd H dx (.own x)) x (.ins C dx [])) (fun v H2 => v = .non ∧ Q (.ref x) H2) E) :=
  ⟨fun pins s σ H Q I h => wpAny_Call_Name_kw (ld_glob I hg hm (PySem.W.callWith_K0 I.kIn M.kp (go_make (us := []) (vs := []) M F hr hmu hb hx I .nil h)) hdb)⟩
end

/-! ### a def by its body -/
section
variable {P : Program} {w : World} {K : PySem.W.Frag} {mg : Str → Option Value} {base : Heap}
theorem fnG_of {CX : CXT} {x qual : Str} {st : Stmt} {f : Addr} {fd : FuncData} {N ps : List Str} {k : Nat} {sp : Sp} (F : Fun K x qual st f fd) (S : FnScope N ps (defScope st)) (len : ∀ vs H Q E, sp vs H Q E → vs.length = ps.length)
    (hbody : ∀ (cdv : Value) (A : Around) (outer : List Env) (s : Shared) (H : Hp) (vs : List V) (Q : VK) (E : XK), Room k (A.deeper (envOfC qual (defScope st) s.heap.objs.size f cdv)) → Mute A → sp vs H Q E →
      ∃ t, PSs (cxOf CX P w K mg base N qual (defScope st) f cdv A outer s H E) (defBody st) t ∧ t { nx := fun _ H' => Q .non H', rt := Q } (start N vs) H) : FnG P w K mg base CX (k + 1) f fd ps sp := by
  obtain ⟨oc, od, kV, doc, pm, an, cdv, ct, osl, rfl, lk, hcd⟩ := F.ex
  refine ⟨len, fun A outer s H args us vs Q E hr hm e0 hb r hsp => ?_⟩
  have n := len _ _ _ _ hsp
  have hK : K.In s.heap := e0.mod.kin.keeps fun b o e => (e0.bs b o e).1
  have lim : s.heap.NoLimit := e0.mod.nolimit.keeps fun b o e => (e0.bs b o e).1
  refine codeAny_call_function hr.depth (hK _ _ lk) rfl S.co S.gen rfl (PySem.W.codeRec_of hK hcd) (hb _ _ _ _ ?_)
  refine wpAny_newFunctionEnv_cells S.kind (fun y hy => ?_) fun env he s1 x => ?_
  · obtain ⟨n, v⟩ := y
    rcases S.par n (List.of_mem_zip hy).1 with q | q
    · exact .inl q
    · exact .inr ⟨q, PySem.W.cellsFrom_some _ _ _ (.inl q)⟩
  · subst he
    refine ⟨lim.keeps x.toInCall.keep, codeAny_func ?_⟩
    obtain ⟨t, ht, q⟩ := hbody cdv A outer s H vs Q E (hr.deeper _) hm hsp
    have I : Inv (cxOf CX P w K mg base N qual (defScope st) f cdv A outer s H E) [] (start N vs) H s1 := inv_start S hr.hd e0 n r x
    refine wpAny_mono (ht.run [] s1 (start N vs) H _ I q) (fun fl s' hs => ?_) fun _ _ z => z
    match fl, hs with
    | .ret u, ⟨v, σ', H', J, rv, q⟩ => exact ⟨v, H', J.os, J.bare, J.base, J.hok, rv, q⟩
    | .next, ⟨σ', H', J, q⟩ => exact ⟨V.non, H', J.os, J.bare, J.base, J.hok, rfl, q⟩
    | .brk, ⟨_, _, _, z⟩ => exact z.elim
    | .cont, ⟨_, _, _, z⟩ => exact z.elim
end
end DL

/-! Rules over trees: calls of defs, statements, loops, comprehensions. -/
namespace DL
open PySem PySem.Spec PyProof.Rows L2

/-! ### defs -/
/-- an error: its class's name, its fields -/
abbrev DX := Str → List (Str × D) → Gp → Prop
def ErrAt (K : PySem.W.Frag) (F : Hp) (fs : List (Str × D)) (d : Option Addr) : Prop := (d = none ∧ fs = []) ∨ ∃ dd fv, d = some dd ∧ F dd = some (.xd fv) ∧ Rpf K F fs fv
/-- the one error of Python's own that may go on -/
abbrev ZD : Str := "ZeroDivisionError"
def KoE (K : PySem.W.Frag) (F : Hp) (E' : DX) (E : XK) : Prop := (∀ n C fs d F' G' H', PySem.W.nsIn K mainGlobals n = some (some (.ref C)) → Same F F' → Wd K F' G' H' → ErrAt K F' fs d → E' n fs G' → n ≠ ZD → E (.ref C) d H') ∧
  ∀ d F' G' H', Same F F' → Wd K F' G' H' → E' ZD [] G' → E (.type "ZeroDivisionError") d H'
theorem KoE.mono {K : PySem.W.Frag} {F F' : Hp} {E' : DX} {E : XK} (e : Same F F') (k : KoE K F E' E) : KoE K F' E' E := ⟨fun n C fs d F2 G2 H2 hn s w r q => k.1 n C fs d F2 G2 H2 hn (e.trans s) w r q, fun d F2 G2 H2 s w q => k.2 d F2 G2 H2 (e.trans s) w q⟩
abbrev X0 : DX := fun _ _ _ => False
theorem koe0 {K : PySem.W.Frag} {F : Hp} {E : XK} : KoE K F X0 E := ⟨fun _ _ _ _ _ _ _ _ _ _ _ h => h.elim, fun _ _ _ _ _ _ h => h.elim⟩
abbrev DSp := List D → Gp → DK → DX → Prop
def LSp (K : PySem.W.Frag) (sp : DSp) : Sp := fun vs H Q E => ∃ F G ds Q' E', Rps K F ds vs ∧ Wd K F G H ∧ sp ds G Q' E' ∧ Ko K F Q' Q ∧ KoE K F E' E
def dCall (sp : DSp) (E' : DX) (t : DA) : DE := fun δ G Q => t δ G fun ds G1 => sp ds G1 Q E'
section
variable {X : Cx} {F₀ : Hp} {CX : CXT} {k : Nat} {f C : Addr} {fd : FuncData} {ps : List Str} {sp : DSp} {E : XK} {E' : DX} {x m : Str} {p pos apos : Pos} {e o : Expr} {es : List Expr} {ta : DE} {t : DA}
theorem call_lsp {σ : L2.St} {H : Hp} {Q : VK} (ke : KoE X.K F₀ E' E) (h : Le X.K F₀ (dCall sp E' t) σ H Q) : (fun (σ : L2.St) H Q => La X.K F₀ t σ H fun vs H1 => LSp X.K sp vs H1 Q E) σ H Q := by
  obtain ⟨δ, F, G, Q', s, en, w, q, k⟩ := h
  exact ⟨δ, F, G, _, s, en, w, q, fun ds vs F1 G1 H1 s1 w1 r1 q1 => ⟨F1, G1, ds, Q', E', r1, w1, q1, k.mono s1, ke.mono (s.trans s1)⟩⟩
theorem de_call (F : FnG X.prog X.w X.K X.mg X.base CX k f fd ps (LSp X.K sp)) (hr : Room k X.A) (hmu : Mute X.A) (hg : Gl X x) (hm : X.mg x = some (.ref f)) (hk : PySem.W.keepIn X.K (.ref f) = true) (hb : Binds X.K fd ps []) (hx : Passes CX X E) (ke : KoE X.K F₀ E' E)
    (ha : PA X (e :: es) (La X.K F₀ t)) (hdb : (x == ("__debug__" : Str)) = false := by decide) (he : starEach (e :: es) X.env = (false, eval e X.env) :: starEach es X.env := by rfl) (hpl : (backTo pos (starEach es X.env)).any (·.1) = false := by rfl) :
    PE X (.Call (.Name x p) (e :: es) [] pos) (Le X.K F₀ (dCall sp E' t)) := pe_imp (pe_callG F hr hmu hg hm hk hb hx ha hdb he hpl) fun _ _ _ => call_lsp ke
theorem de_call0 (F : FnG X.prog X.w X.K X.mg X.base CX k f fd ps (LSp X.K sp)) (hr : Room k X.A) (hmu : Mute X.A) (hg : Gl X x) (hm : X.mg x = some (.ref f)) (hk : PySem.W.keepIn X.K (.ref f) = true) (hb : Binds X.K fd ps []) (hx : Passes CX X E) (ke : KoE X.K F₀ E' E)
    (hdb : (x == ("__debug__" : Str)) = false := by decide) :
    PE X (.Call (.Name x p) [] [] pos) (Le X.K F₀ (dCall sp E' aNil)) := pe_imp (pe_callG0 F hr hmu hg hm hk hb hx hdb) fun σ H Q h => by
  obtain ⟨δ, F, G, Q', s, en, w, q, k⟩ := h
  exact ⟨F, G, [], Q', E', .nil, w, q, k, ke.mono s⟩
end
/-- what is handed back, some of what may change forgotten or frozen -/
def Rt (Q : DK) : DK := fun d G => ∃ d' G', (∀ (K : PySem.W.Frag) (F H : Hp) (v : V), Wd K F G H → Rp K F d v → ∃ F', Same F F' ∧ Wd K F' G' H ∧ Rp K F' d' v) ∧ Q d' G'
theorem Rt.less {Q : DK} {d : D} {G G' : Gp} (k : GLe G' G) (q : Q d G') : Rt Q d G := ⟨d, G', fun K F H v w r => ⟨F, Same.refl F, w.less k, r⟩, q⟩
theorem Rt.same {Q : DK} {d : D} {G : Gp} (q : Q d G) : Rt Q d G := Rt.less GLe.refl q
theorem Rt.frz {Q : DK} {a : Addr} {xs : List D} {G G' : Gp} (h : G a = some (.lst xs)) (k : ∀ b o, G' b = some o → b ≠ a ∧ G b = some o) (q : Q (.lst xs) G') : Rt Q (.ref a) G := by
  refine ⟨.lst xs, G', fun K F H v w r => ?_, q⟩
  cases r
  obtain ⟨F', s, w', r'⟩ := w.freeze h k
  exact ⟨F', s, w', r'⟩
/-- the commonest: the list that was made here -/
theorem Rt.frzNew {Q : DK} {a : Addr} {xs : List D} {G : Gp} (n : G a = none) (q : Q (.lst xs) G) : Rt Q (.ref a) (gu G a (.lst xs)) :=
  Rt.frz (G' := G) gu_same (fun b o e => by
    have z : b ≠ a := fun z => by rw [z, n] at e; cases e
    exact ⟨z, (gu_ne z).trans e⟩) q
abbrev startD (N : List Str) (ds : List D) : Sl := ds.map some ++ List.replicate (N.length - ds.length) none
abbrev endD (Q : DK) : DEnds := { nx := fun _ G => Rt Q .non G, rt := Rt Q }
theorem ke_end {K : PySem.W.Frag} {F : Hp} {Q' : DK} {Q : VK} (k : Ko K F Q' Q) : Ke K F (endD Q') { nx := fun _ H' => Q .non H', rt := Q } := by
  have h : Ko K F (Rt Q') Q := fun d v F' G' H' s w r q => by
    obtain ⟨d', G2, hv, q⟩ := q
    obtain ⟨F2, s2, w2, r2⟩ := hv K F' H' v w r
    exact k d' v F2 G2 H' (s.trans s2) w2 r2 q
  exact ⟨fun δ σ F' G' H' s en w q => h .non .non F' G' H' s w .non q, h, fun _ _ _ _ _ _ _ _ z => z.elim, fun _ _ _ _ _ _ _ _ z => z.elim⟩
section
variable {P : Program} {w : World} {K : PySem.W.Frag} {mg : Str → Option Value} {base : Heap}
theorem fn_d {x qual : Str} {st : Stmt} {f : Addr} {fd : FuncData} {N ps : List Str} {k : Nat} {sp : DSp} (F : Fun K x qual st f fd) (S : FnScope N ps (defScope st)) (len : ∀ ds G Q E, sp ds G Q E → ds.length = ps.length)
    (hbody : ∀ (cdv : Value) (A : Around) (outer : List Env) (s : Shared) (H : Hp) (E : XK) (F₀ : Hp), Room k (A.deeper (envOfC qual (defScope st) s.heap.objs.size f cdv)) → Mute A →
      ∃ t : DS, PSs (cxOf CX0 P w K mg base N qual (defScope st) f cdv A outer s H E).nox (defBody st) (Ls K F₀ t) ∧ ∀ ds G Q E', sp ds G Q E' → t (endD Q) (startD N ds) G) : FnG P w K mg base CX0 (k + 1) f fd ps (LSp K sp) := by
  refine fnG_of F S (fun vs H Q E ⟨F, G, ds, Q', E', r, w, q, _⟩ => by rw [← r.length]; exact len _ _ _ _ q) (fun cdv A outer s H vs Q E hr hmu ⟨F0, G, ds, Q', E', r, w, q, k, ke⟩ => ?_)
  obtain ⟨t, h1, h2⟩ := hbody cdv A outer s H E F0 hr hmu
  have hl := len _ _ _ _ q
  have hN : ps.length ≤ N.length := by have := congrArg List.length S.pre; rw [List.length_take] at this; omega
  exact ⟨_, h1.nox, ⟨_, F0, G, endD Q', Same.refl F0, En.start N r (by omega), w, h2 _ _ _ _ q, ke_end k⟩⟩
end

/-! ### statements -/
def dNext : DS := fun D δ G => D.nx δ G
def dSeq (t u : DS) : DS := fun D δ G => ∃ R, t { D with nx := R } δ G ∧ ∀ δ' G', R δ' G' → u D δ' G'
theorem dSeq_mk {t u : DS} {D : DEnds} {δ : Sl} {G : Gp} (h : t { D with nx := u D } δ G) : dSeq t u D δ G := ⟨u D, h, fun _ _ q => q⟩
def dAsg (i : Nat) (t : DE) : DS := fun D δ G => t δ G fun x G1 => D.nx (δ.set i (some x)) G1
def dRet (t : DE) : DS := fun D δ G => t δ G D.rt
def dRetN : DS := fun D _ G => D.rt .non G
def dDrop (t : DE) : DS := fun D δ G => t δ G fun _ G1 => D.nx δ G1
def dIfS (c : DT) (t u : DS) : DS := fun D δ G => c δ G fun b G1 => if b = true then t D δ G1 else u D δ G1
def dBreak : DS := fun D δ G => D.bk δ G
def dCont : DS := fun D δ G => D.ct δ G
def dNever : DS := fun _ _ _ => False
section
variable {X : Cx} {F₀ : Hp} {st : Stmt} {rest : List Stmt} {t u : DS} {te : DE} {tc : DT} {e c : Expr} {a b : List Stmt} {pos : Pos}
theorem dss_nil : PSs X [] (Ls X.K F₀ dNext) := pss_imp pss_nil fun D σ H ⟨δ, F, G, D', s, en, w, q, k⟩ => k.nx δ σ F G H (Same.refl F) en w q
theorem dss_one (h : PS X st (Ls X.K F₀ t)) : PSs X [st] (Ls X.K F₀ t) := pss_one h
theorem dss_cons (h1 : PS X st (Ls X.K F₀ t)) (h2 : PSs X rest (Ls X.K F₀ u)) : PSs X (st :: rest) (Ls X.K F₀ (dSeq t u)) := pss_imp (pss_cons h1 h2) fun D σ H ⟨δ, F, G, D', s, en, w, q, k⟩ => by
  obtain ⟨R, q1, q2⟩ := q
  exact ⟨δ, F, G, { D' with nx := R }, s, en, w, q1, ⟨fun δ1 σ1 F1 G1 H1 s1 en1 w1 r1 => ⟨δ1, F1, G1, D', s.trans s1, en1, w1, q2 _ _ r1, k.mono s1⟩, k.rt, k.bk, k.ct⟩⟩
theorem ds_set {i : Nat} {x : Str} {pos' : Pos} (hN : X.N.Nodup) (hi : X.N[i]? = some x) (hx : Loc X.env.scope x) (he : PE X e (Le X.K F₀ te)) (hs : swapsWith e (some (.Name x pos')) pos.line X.env = pure false := by rfl) (hf : X.fn x = true ∨ X.env.scope.names.lookup x = some .local := by first | exact .inl rfl | exact .inr rfl | assumption) :
    PS X (.Assign [.Name x pos'] e pos) (Ls X.K F₀ (dAsg i te)) := ps_imp (ps_set hN hi hx he hs hf) fun D σ H ⟨δ, F, G, D', s, en, w, q, k⟩ =>
  ⟨δ, F, G, _, s, en, w, q, fun x v F1 G1 H1 s1 w1 r1 q1 => k.nx _ _ F1 G1 H1 s1 ((en.mono s1).set r1 i) w1 q1⟩
theorem ds_ret (he : PE X e (Le X.K F₀ te)) : PS X (.Return (some e) pos) (Ls X.K F₀ (dRet te)) := ps_imp (ps_ret he) fun D σ H ⟨δ, F, G, D', s, en, w, q, k⟩ => ⟨δ, F, G, _, s, en, w, q, k.rt⟩
theorem ds_retN : PS X (.Return none pos) (Ls X.K F₀ dRetN) := ps_imp ps_retN fun D σ H ⟨δ, F, G, D', s, en, w, q, k⟩ => k.rt .non .non F G H (Same.refl F) w .non q
theorem ds_expr (he : PE X e (Le X.K F₀ te)) (hs : swapsWith e none pos.line X.env = pure false := by rfl) : PS X (.Expr e pos) (Ls X.K F₀ (dDrop te)) := ps_imp (ps_expr he hs) fun D σ H ⟨δ, F, G, D', s, en, w, q, k⟩ =>
  ⟨δ, F, G, _, s, en, w, q, fun x v F1 G1 H1 s1 w1 r1 q1 => k.nx _ _ F1 G1 H1 s1 (en.mono s1) w1 q1⟩
theorem ds_if (hc : PT X c (Lt X.K F₀ tc)) (ha : PSs X a (Ls X.K F₀ t)) (hb : PSs X b (Ls X.K F₀ u)) : PS X (.If c a b pos) (Ls X.K F₀ (dIfS tc t u)) := ps_imp (ps_if hc ha hb) fun D σ H ⟨δ, F, G, D', s, en, w, q, k⟩ => by
  refine ⟨δ, F, G, _, s, en, w, q, fun c F1 G1 H1 s1 w1 q1 => ?_⟩
  cases c with
  | true =>
    rw [if_pos rfl] at q1 ⊢
    exact ⟨δ, F1, G1, D', s.trans s1, en.mono s1, w1, q1, k.mono s1⟩
  | false =>
    rw [if_neg Bool.false_ne_true] at q1 ⊢
    exact ⟨δ, F1, G1, D', s.trans s1, en.mono s1, w1, q1, k.mono s1⟩
theorem ds_break : PS X (.Break pos) (Ls X.K F₀ dBreak) := ps_imp ps_break fun D σ H ⟨δ, F, G, D', s, en, w, q, k⟩ => k.bk δ σ F G H (Same.refl F) en w q
theorem ds_continue : PS X (.Continue pos) (Ls X.K F₀ dCont) := ps_imp ps_continue fun D σ H ⟨δ, F, G, D', s, en, w, q, k⟩ => k.ct δ σ F G H (Same.refl F) en w q
theorem ds_pass : PS X (.Pass pos) (Ls X.K F₀ dNext) := ps_imp ps_pass fun D σ H ⟨δ, F, G, D', s, en, w, q, k⟩ => k.nx δ σ F G H (Same.refl F) en w q
theorem ds_never : PS X st (Ls X.K F₀ dNever) := ps_imp ps_never fun D σ H ⟨δ, F, G, D', s, en, w, q, k⟩ => q
end

/-! ### targets -/
abbrev DG := D → Sl → Gp → (Sl → Gp → Prop) → Prop
abbrev DGs := List D → Sl → Gp → (Sl → Gp → Prop) → Prop
def wipeD (δ : Sl) : List Nat → Sl
  | [] => δ
  | v :: vs => (wipeD δ vs).set v none
theorem En.wipe {K : PySem.W.Frag} {F : Hp} {δ : Sl} {σ : L2.St} (h : En K F δ σ) : ∀ vs : List Nat, En K F (wipeD δ vs) (wipe σ vs)
  | [] => h
  | v :: vs => (h.wipe vs).clr v none
theorem wipe_set {σ : L2.St} {o : Option V} {i : Nat} : ∀ {vs : List Nat}, i ∈ vs → wipe (σ.set i o) vs = wipe σ vs
  | v :: vs, h => by
    unfold wipe
    by_cases hi : i ∈ vs
    · rw [wipe_set hi]
    · have e : i = v := by
        rcases List.mem_cons.mp h with e | e
        · exact e
        · exact absurd e hi
      subst e
      apply List.ext_getElem?
      intro j
      by_cases hj : i = j
      · subst hj
        have l1 := wipe_length (σ.set i o) vs
        have l2 := wipe_length σ vs
        rw [List.length_set] at l1
        by_cases hl : i < σ.length
        · rw [List.getElem?_set_self (by omega), List.getElem?_set_self (by omega)]
        · rw [List.getElem?_eq_none (by rw [List.length_set]; omega), List.getElem?_eq_none (by rw [List.length_set]; omega)]
      · rw [List.getElem?_set_ne hj, List.getElem?_set_ne hj]
        exact wipe_ne hj
where
  wipe_ne {σ : L2.St} {o : Option V} {i j : Nat} (hj : i ≠ j) : ∀ {vs : List Nat}, (wipe (σ.set i o) vs)[j]? = (wipe σ vs)[j]?
    | [] => by unfold wipe; rw [List.getElem?_set_ne hj]
    | v :: vs => by
      unfold wipe
      by_cases hv : v = j
      · subst hv
        have l1 := wipe_length (σ.set i o) vs
        have l2 := wipe_length σ vs
        rw [List.length_set] at l1
        by_cases hl : v < σ.length
        · rw [List.getElem?_set_self (by omega), List.getElem?_set_self (by omega)]
        · rw [List.getElem?_eq_none (by rw [List.length_set]; omega), List.getElem?_eq_none (by rw [List.length_set]; omega)]
      · rw [List.getElem?_set_ne hv, List.getElem?_set_ne hv]
        exact wipe_ne hj
theorem wipe_wipe {σ : L2.St} (vs : List Nat) : ∀ {us : List Nat}, (∀ v ∈ vs, v ∈ us) → wipe (wipe σ vs) us = wipe σ us := by
  induction vs with
  | nil => intro us _; rfl
  | cons v vs ih =>
    intro us h
    show wipe ((wipe σ vs).set v none) us = _
    rw [wipe_set (h v List.mem_cons_self)]
    exact ih fun u hu => h u (List.mem_cons_of_mem _ hu)
/-- a target that stores to the slots vs alone -/
def Lg (K : PySem.W.Frag) (F₀ : Hp) (vs : List Nat) (g : DG) : TG := fun v σ H Q => ∃ d δ F G Q', Same F₀ F ∧ En K F δ σ ∧ Wd K F G H ∧ Rp K F d v ∧ g d δ G Q' ∧ ∀ δ' σ' F' G' H', Same F F' → En K F' δ' σ' → Wd K F' G' H' → wipe σ' vs = wipe σ vs → Q' δ' G' → Q σ' H'
def Lgs (K : PySem.W.Frag) (F₀ : Hp) (vs : List Nat) (g : DGs) : TGs := fun v σ H Q => ∃ d δ F G Q', Same F₀ F ∧ En K F δ σ ∧ Wd K F G H ∧ Rps K F d v ∧ g d δ G Q' ∧ ∀ δ' σ' F' G' H', Same F F' → En K F' δ' σ' → Wd K F' G' H' → wipe σ' vs = wipe σ vs → Q' δ' G' → Q σ' H'
def gN (i : Nat) : DG := fun d δ G Q => Q (δ.set i (some d)) G
def gsNil : DGs := fun ds δ G Q => ds = [] ∧ Q δ G
def gsCons (t : DG) (u : DGs) : DGs := fun ds δ G Q => match ds with | d :: r => t d δ G fun δ' G' => u r δ' G' Q | [] => False
def gT (n : Nat) (t : DGs) : DG := fun d δ G Q => match d with | .tup xs => xs.length = n ∧ t xs δ G Q | _ => False
section
variable {X : Cx} {F₀ : Hp} {vs : List Nat} {pos : Pos}
theorem pg_imp {e : Expr} {t t' : TG} (h : PG X e t) (i : ∀ v σ H Q, t' v σ H Q → t v σ H Q) : PG X e t' := ⟨fun pins s σ H v u Q I r w => h.run pins s σ H v u Q I r (i v σ H Q w)⟩
theorem pgs_imp {e : List Expr} {t t' : TGs} (h : PGs X e t) (i : ∀ v σ H Q, t' v σ H Q → t v σ H Q) : PGs X e t' := ⟨fun pins s σ H v u Q I r w => h.run pins s σ H v u Q I r (i v σ H Q w)⟩
theorem dg_name {i : Nat} {x : Str} (hN : X.N.Nodup) (hi : X.N[i]? = some x) (hx : Loc X.env.scope x) (hv : i ∈ vs) (hf : X.fn x = true ∨ X.env.scope.names.lookup x = some .local := by first | exact .inl rfl | exact .inr rfl | assumption) : PG X (.Name x pos) (Lg X.K F₀ vs (gN i)) :=
  pg_imp (pg_name hN hi hx hf) fun v σ H Q ⟨d, δ, F, G, Q', s, en, w, r, q, k⟩ => k _ _ F G H (Same.refl F) (en.set r i) w (wipe_set hv) q
theorem dgs_nil : PGs X [] (Lgs X.K F₀ vs gsNil) := pgs_imp pgs_nil fun v σ H Q ⟨d, δ, F, G, Q', s, en, w, r, q, k⟩ => by
  obtain ⟨e, q⟩ := q
  subst e
  cases r
  exact ⟨rfl, k δ σ F G H (Same.refl F) en w rfl q⟩
theorem dgs_cons {e : Expr} {es : List Expr} {t : DG} {u : DGs} (h1 : PG X e (Lg X.K F₀ vs t)) (h2 : PGs X es (Lgs X.K F₀ vs u)) (hs : (assignEach (e :: es) X.env).map (·.2) = assign e X.env :: (assignEach es X.env).map (·.2) := by rfl) : PGs X (e :: es) (Lgs X.K F₀ vs (gsCons t u)) :=
  pgs_imp (pgs_cons h1 h2 hs) fun v σ H Q ⟨ds, δ, F, G, Q', s, en, w, r, q, k⟩ => by
    cases r with
    | nil => exact q.elim
    | cons r1 r2 =>
      refine ⟨_, _, rfl, _, δ, F, G, _, s, en, w, r1, q, fun δ1 σ1 F1 G1 H1 s1 en1 w1 e1 q1 => ?_⟩
      exact ⟨_, δ1, F1, G1, _, s.trans s1, en1, w1, r2.mono s1, q1, fun δ2 σ2 F2 G2 H2 s2 en2 w2 e2 q2 => k δ2 σ2 F2 G2 H2 (s1.trans s2) en2 w2 (e2.trans e1) q2⟩
theorem dg_tup {es : List Expr} {k : Nat} {t : DGs} {n : Nat} (hc : X.calm = true) (h : PGs X es (Lgs X.K F₀ vs t)) (hn : (assignEach es X.env).length = n := by rfl) (hst : (assignEach es X.env).findIdx? (·.1) = none := by rfl) : PG X (.Tuple es k pos) (Lg X.K F₀ vs (gT n t)) :=
  pg_imp (pg_tup hc h hn hst) fun v σ H Q ⟨d, δ, F, G, Q', s, en, w, r, q, k⟩ => by
    cases r with
    | tup sq rs => exact ⟨_, _, rfl, sqT_mono w.fz sq, by rw [← rs.length]; exact q.1, _, δ, F, G, _, s, en, w, rs, q.2, k⟩
    | _ => exact (show False from q).elim
/-- target = e -/
def dAsgG (g : DG) (t : DE) : DS := fun D δ G => t δ G fun x G1 => g x δ G1 D.nx
theorem ds_asg {tg e : Expr} {te : DE} {g : DG} (he : PE X e (Le X.K F₀ te)) (hg : PG X tg (Lg X.K F₀ vs g)) (hs : swapsWithSole [tg] e pos.line X.env = pure false := by rfl) (hw : swappedStores [tg] e X.env = pure none := by rfl)
    (h1 : (assignEach [tg] X.env).map (·.2) = [assign tg X.env] := by rfl) : PS X (.Assign [tg] e pos) (Ls X.K F₀ (dAsgG g te)) := ps_imp (ps_asg he hg hs hw h1) fun D σ H ⟨δ, F, G, D', s, en, w, q, k⟩ =>
  ⟨δ, F, G, _, s, en, w, q, fun x v F1 G1 H1 s1 w1 r1 q1 => ⟨x, δ, F1, G1, _, s.trans s1, en.mono s1, w1, r1, q1, fun δ2 σ2 F2 G2 H2 s2 en2 w2 e2 q2 => k.nx δ2 σ2 F2 G2 H2 (s1.trans s2) en2 w2 q2⟩⟩
/-- a, b = e, f -/
def dPar (i j : Nat) (t : DA) : DS := fun D δ G => t δ G fun xs G1 => match xs with | [x, y] => D.nx ((δ.set i (some x)).set j (some y)) G1 | _ => False
theorem ds_par {i j : Nat} {x y : Str} {a b : Expr} {ta : DA} {px py pt : Pos} {kt k2 pt2} (hc : X.calm = true) (hN : X.N.Nodup) (hi : X.N[i]? = some x) (hj : X.N[j]? = some y) (hij : i ≠ j)
    (hx : X.env.scope.names.lookup x = some .local) (hy : X.env.scope.names.lookup y = some .local) (ha : PA X [a, b] (La X.K F₀ ta))
    (hw : swappedStores [.Tuple [.Name x px, .Name y py] kt pt] (.Tuple [a, b] k2 pt2) X.env = pure (some [x, y]))
    (hs : swapsWithSole [.Tuple [.Name x px, .Name y py] kt pt] (.Tuple [a, b] k2 pt2) pos.line X.env = pure false := by rfl) :
    PS X (.Assign [.Tuple [.Name x px, .Name y py] kt pt] (.Tuple [a, b] k2 pt2) pos) (Ls X.K F₀ (dPar i j ta)) := ps_imp (ps_par hc hN hi hj hij hx hy ha hw hs) fun D σ H ⟨δ, F, G, D', s, en, w, q, k⟩ => by
  refine ⟨δ, F, G, _, s, en, w, q, fun xs vs F1 G1 H1 s1 w1 r1 q1 => ?_⟩
  split at q1
  · obtain ⟨v, u, rfl, ra, rb⟩ := rps2 r1
    exact ⟨v, u, rfl, k.nx _ _ F1 G1 H1 s1 (((en.mono s1).set ra i).set rb j) w1 q1⟩
  · exact q1.elim
/-- xs[i] = e -/
def dSetL : D → D → D → Gp → (Gp → Prop) → Prop := fun o i v G Q => match o, i with
  | .ref a, .int k => match G a with
    | some (.lst xs) => match ixN xs.length k with
      | some j => Q (gu G a (.lst (xs.set j v)))
      | none => False
    | _ => False
  | _, _ => False
def dSetIx (te to ti : DE) : DS := fun D δ G => te δ G fun v G1 => to δ G1 fun o G2 => ti δ G2 fun i G3 => dSetL o i v G3 fun G4 => D.nx δ G4
theorem ds_setix {o i e : Expr} {to ti te : DE} {pos' : Pos} (he : PE X e (Le X.K F₀ te)) (ho : PE X o (Le X.K F₀ to)) (hi : PE X i (Le X.K F₀ ti))
    (ha : ∀ v, assign (.Subscript o i pos') X.env v = (do
      let ov ← holding [v] (eval o X.env)
      let iv ← holding [v, ov] (eval i X.env)
      standAt pos'
      holding [v, ov, iv] (setItem ov iv v)
      release [v, ov, iv] []) := by intro _; rfl)
    (hs : swapsWithSole [.Subscript o i pos'] e pos.line X.env = pure false := by rfl) (hw : swappedStores [.Subscript o i pos'] e X.env = pure none := by rfl)
    (h1 : (assignEach [.Subscript o i pos'] X.env).map (·.2) = [assign (.Subscript o i pos') X.env] := by rfl) : PS X (.Assign [.Subscript o i pos'] e pos) (Ls X.K F₀ (dSetIx te to ti)) :=
  ps_imp (ps_asg he (pg_sub ho hi set_list ha) hs hw h1) fun D σ H ⟨δ, F, G, D', s, en, w, q, k⟩ => by
    refine ⟨δ, F, G, _, s, en, w, q, fun x v F1 G1 H1 s1 w1 r1 q1 => ?_⟩
    refine ⟨δ, F1, G1, _, s.trans s1, en.mono s1, w1, q1, fun y u F2 G2 H2 s2 w2 r2 q2 => ?_⟩
    refine ⟨δ, F2, G2, _, (s.trans s1).trans s2, (en.mono s1).mono s2, w2, q2, fun z u3 F3 G3 H3 s3 w3 r3 q3 => ?_⟩
    have r1' := r1.mono (s2.trans s3)
    have r2' := r2.mono s3
    unfold dSetL at q3
    split at q3
    · rename_i a kk
      cases r2'
      cases r3
      split at q3
      · rename_i xs e
        split at q3
        · rename_i j ej
          obtain ⟨hF, us, hv, rs⟩ := w3.lst e
          refine ⟨a, us, kk, j, rfl, rfl, hv, by rw [← rs.length]; exact ej, ?_⟩
          exact k.nx δ σ F3 _ _ ((s1.trans s2).trans s3) (((en.mono s1).mono s2).mono s3) (w3.put (g := .lst (xs.set j x)) hF ⟨_, upd_same, rs.set r1' j⟩) q3
        · exact q3.elim
      · exact q3.elim
    · exact q3.elim
end
end DL

/-! Rules over trees: what is walked, for, while, comprehensions, methods. -/
namespace DL
open PySem PySem.Spec PyProof.Rows L2

/-! ### what is walked -/
/-- while S stands it gives the items one by one -/
structure DIt (K : PySem.W.Frag) (F : Hp) (S : Gp → Prop) (its : List D) (J : It) : Prop where
  ok : ∃ (Gc : Hp → Prop) (Y : Nat → Hp → V → Hp → Prop), Walk J its.length Gc Y ∧ (∀ F1 G H, Same F F1 → Wd K F1 G H → S G → Gc H) ∧
    ∀ i d F1 G H x H', Same F F1 → Wd K F1 G H → S G → its[i]? = some d → Y i H x H' → ∃ F2, Same F1 F2 ∧ Wd K F2 G H' ∧ Rp K F2 d x
abbrev DI := Sl → Gp → (List D → (Gp → Prop) → Gp → Prop) → Prop
def Li (K : PySem.W.Frag) (F₀ : Hp) (ti : DI) : TI := fun σ H R => ∃ δ F G Q', Same F₀ F ∧ En K F δ σ ∧ Wd K F G H ∧ ti δ G Q' ∧ ∀ its S J F' G' H', Same F F' → Wd K F' G' H' → DIt K F' S its J → Q' its S G' → R J H'
/-- that the list at hand is as it was: nothing to say of what is frozen -/
def Stays (d : D) (G : Gp) : Gp → Prop := match d with
  | .ref a => fun G' => G' a = G a
  | _ => fun _ => True
def dSeqI (t : DE) : DI := fun δ G Q => t δ G fun x G1 => match seqOf x G1 with
  | some xs => Q xs (Stays x G1) G1
  | none => False
section
variable {K : PySem.W.Frag} {F F₀ : Hp} {G : Gp} {H : Hp} {d : D} {v : V} {xs : List D} {a : Addr}
theorem dit_list {S : Gp → Prop} (h : ∀ F1 G H, Same F F1 → Wd K F1 G H → S G → ∃ vs, SqL K H a vs ∧ Rps K F1 xs vs) (vs0 : List V) (hv : ∀ F1 G H vs, Same F F1 → Wd K F1 G H → S G → SqL K H a vs → Rps K F1 xs vs → vs = vs0) (hl : xs.length = vs0.length) : DIt K F S xs (Itl K a) := by
  refine ⟨_, _, by rw [hl]; exact walk_list (K := K) (a := a) (xs := vs0), fun F1 G H s w st => ?_, fun i d F1 G H x H' s w st e y => ?_⟩
  · obtain ⟨vs, h1, h2⟩ := h F1 G H s w st
    rw [← hv F1 G H vs s w st h1 h2]
    exact h1
  · obtain ⟨rfl, y⟩ := y
    obtain ⟨vs, h1, h2⟩ := h F1 G _ s w st
    have e2 := hv F1 G _ vs s w st h1 h2
    subst e2
    obtain ⟨z, hz, rz⟩ := h2.get e
    rw [y] at hz
    cases hz
    exact ⟨F1, Same.refl F1, w, rz⟩
theorem dit_seq (w : Wd K F G H) (r : Rp K F d v) (h : seqOf d G = some xs) : ∃ a, v = .ref a ∧ (((∃ us, SqL K H a us) ∧ DIt K F (Stays d G) xs (Itl K a)) ∨ ((∃ us, SqT K H a us) ∧ DIt K F (Stays d G) xs (Itt K a))) := by
  cases d with
  | tup ys =>
    cases (show some ys = some xs from h)
    cases r with
    | tup sq rs =>
      rename_i a vs
      refine ⟨a, rfl, .inr ⟨⟨_, sqT_mono w.fz sq⟩, _, _, by rw [rs.length]; exact walk_tup (K := K) (a := a) (xs := vs), fun F1 G H s w st => sqT_mono (s.trans w.fz) sq, fun i d F1 G H x H' s w st e y => ?_⟩⟩
      obtain ⟨rfl, y⟩ := y
      obtain ⟨z, hz, rz⟩ := rs.get e
      rw [y] at hz
      cases hz
      exact ⟨F1, Same.refl F1, w, rz.mono s⟩
  | scr ys =>
    cases (show some ys = some xs from h)
    cases r with
    | scr sq rs =>
      rename_i a vs
      refine ⟨a, rfl, .inl ⟨⟨_, sqL_mono w.fz sq⟩, _, _, by rw [rs.length]; exact walk_list (K := K) (a := a) (xs := vs), fun F1 G H s w st => sqL_mono (s.trans w.fz) sq, fun i d F1 G H x H' s w st e y => ?_⟩⟩
      obtain ⟨rfl, y⟩ := y
      obtain ⟨z, hz, rz⟩ := rs.get e
      rw [y] at hz
      cases hz
      exact ⟨F1, Same.refl F1, w, rz.mono s⟩
  | lst ys =>
    cases (show some ys = some xs from h)
    cases r with
    | lst sq rs =>
      rename_i a vs
      refine ⟨a, rfl, .inl ⟨⟨_, .of (w.fz _ _ sq)⟩, _, _, by rw [rs.length]; exact walk_list (K := K) (a := a) (xs := vs), fun F1 G H s w st => SqL.of (w.fz _ _ (s _ _ sq)), fun i d F1 G H x H' s w st e y => ?_⟩⟩
      obtain ⟨rfl, y⟩ := y
      obtain ⟨z, hz, rz⟩ := rs.get e
      rw [y] at hz
      cases hz
      exact ⟨F1, Same.refl F1, w, rz.mono s⟩
  | ref b =>
    cases r
    have h' : (match G b with | some (.lst xs) => some xs | _ => none) = some xs := h
    split at h'
    · rename_i ys e
      cases h'
      obtain ⟨_, us, hu, ru⟩ := w.lst e
      refine ⟨b, rfl, .inl ⟨⟨_, .of hu⟩, fun H => ∃ vs, H b = some (.lst vs) ∧ vs.length = xs.length, fun i H x H' => H' = H ∧ ∃ vs, H b = some (.lst vs) ∧ vs[i]? = some x, ⟨fun i H hi q => ?_, fun H q => ?_, fun i H x H' hi q y => ?_⟩, fun F1 G1 H s w st => ?_, fun i d F1 G1 H x H' s w st e2 y => ?_⟩⟩
      · obtain ⟨vs, hv, hl⟩ := q
        exact ⟨vs, vs[i]'(by omega), .of hv, by simp⟩
      · obtain ⟨vs, hv, hl⟩ := q
        exact ⟨vs, .of hv, by omega⟩
      · obtain ⟨vs, hv, hl⟩ := q
        exact ⟨y.1, vs, hv, y.2 vs (.of hv)⟩
      · have st' : G1 b = G b := st
        rw [e] at st'
        obtain ⟨_, vs, hv, rv⟩ := w.lst st'
        exact ⟨vs, hv, rv.length.symm⟩
      · have st' : G1 b = G b := st
        rw [e] at st'
        obtain ⟨_, vs, hv, rv⟩ := w.lst st'
        obtain ⟨rfl, ws, hw, hx⟩ := y
        rw [hv] at hw
        cases hw
        obtain ⟨z, hz, rz⟩ := rv.get e2
        rw [hx] at hz
        cases hz
        exact ⟨F1, Same.refl F1, w, rz⟩
    · cases h'
  | _ => cases h
end
section
variable {X : Cx} {F₀ : Hp} {tg e a b : Expr} {ta tb : DE} {t : DA} {p pos tpos : Pos} {elts : List Expr} {kk : Nat}
theorem pi_or {w1 w2 : TI} (h1 : PI X tg e w1) (h2 : PI X tg e w2) : PI X tg e (fun σ H R => w1 σ H R ∨ w2 σ H R) := ⟨fun pins s σ H R I h => h.elim (h1.run pins s σ H R I) (h2.run pins s σ H R I)⟩
/-- over a list or a tuple, whichever it is -/
theorem pi_any {te : TE} (he : PE X e te) : PI X tg e (fun σ H R => te σ H fun x H1 => ∃ a, x = .ref a ∧ (((∃ xs, SqL X.K H1 a xs) ∧ R (Itl X.K a) H1) ∨ ((∃ xs, SqT X.K H1 a xs) ∧ R (Itt X.K a) H1))) := by
  refine ⟨fun pins s σ H R I h => ?_⟩
  refine thn (he.run pins s σ H _ I h) fun v s1 ⟨x, H1, I1, r1, q1⟩ => ?_
  obtain ⟨a, e, q⟩ := q1
  subst e
  cases r1
  rcases q with ⟨⟨xs, hq⟩, q⟩ | ⟨⟨xs, hq⟩, q⟩
  · obtain ⟨its, rv, p, hz⟩ := I1.list hq
    refine wpAny_pyIter_list p.isList ?_
    refine ⟨s1.heap.objs.size, [s1.heap.objs.size], _, _, H1, rfl, I1.kept (t' := s1.toks) fun b o e => Heap.get?_push_of_some _ e, turn_list a _, ⟨_, Heap.get?_push_size _ rfl, rfl, rfl⟩, fun b hb => ?_, q⟩
    have e : b = s1.heap.objs.size := by simpa using hb
    subst e
    exact I1.fpOk (Nat.le_refl _) (I1.hok.fresh (Nat.le_refl _))
  · obtain ⟨its, rv, p, hz⟩ := I1.tuple hq
    refine wpAny_pyIter_tuple (show s1.heap.IsTuple a its.toArray from p) ?_
    refine ⟨s1.heap.objs.size, [s1.heap.objs.size], _, _, H1, rfl, I1.kept (t' := s1.toks) fun b o e => Heap.get?_push_of_some _ e, turn_tuple a _, ⟨_, Heap.get?_push_size _ rfl, rfl, rfl⟩, fun b hb => ?_, q⟩
    have e : b = s1.heap.objs.size := by simpa using hb
    subst e
    exact I1.fpOk (Nat.le_refl _) (I1.hok.fresh (Nat.le_refl _))
theorem pi_imp {w w' : TI} (h : PI X tg e w) (i : ∀ σ H R, w' σ H R → w σ H R) : PI X tg e w' := ⟨fun pins s σ H R I q => h.run pins s σ H R I (i σ H R q)⟩
theorem di_seq (he : PE X e (Le X.K F₀ ta)) : PI X tg e (Li X.K F₀ (dSeqI ta)) := pi_imp (pi_any he) fun σ H R ⟨δ, F, G, Q', s, en, w, q, k⟩ => by
  refine ⟨δ, F, G, _, s, en, w, q, fun x v F1 G1 H1 s1 w1 r1 q1 => ?_⟩
  split at q1
  · rename_i xs e
    obtain ⟨a, ev, h⟩ := dit_seq w1 r1 e
    refine ⟨a, ev, ?_⟩
    rcases h with ⟨h1, h2⟩ | ⟨h1, h2⟩
    · exact .inl ⟨h1, k xs _ _ F1 G1 H1 s1 w1 h2 q1⟩
    · exact .inr ⟨h1, k xs _ _ F1 G1 H1 s1 w1 h2 q1⟩
  · exact q1.elim
/-- range -/
def upD (lo : Int) (n : Nat) : List D := (List.range n).map fun i => D.int (lo + (i : Nat))
abbrev Sure : Gp → Prop := fun _ => True
theorem dit_range {K : PySem.W.Frag} {F : Hp} (lo : Int) (n : Nat) : DIt K F Sure (upD lo n) (Itr lo n) := by
  refine ⟨fun _ => True, _, by unfold upD; rw [List.length_map, List.length_range]; exact walk_range, fun _ _ _ _ _ _ => trivial, fun i d F1 G H x H' s w st e y => ?_⟩
  obtain ⟨rfl, rfl⟩ := y
  have hi : i < n := by
    have := (List.getElem?_eq_some_iff.mp e).1
    unfold upD at this
    rwa [List.length_map, List.length_range] at this
  unfold upD at e
  rw [List.getElem?_map, List.getElem?_range hi] at e
  cases e
  exact ⟨F1, Same.refl F1, w, .int _⟩
def dRange1 (t : DA) : DI := fun δ G Q => t δ G fun xs G1 => match xs with | [.int n] => -(2 ^ 62) ≤ n ∧ n < 2 ^ 62 ∧ Q (upD 0 n.toNat) Sure G1 | _ => False
def dRange2 (t : DA) : DI := fun δ G Q => t δ G fun xs G1 => match xs with | [.int i, .int n] => (-(2 ^ 62) ≤ i ∧ i < 2 ^ 62 ∧ -(2 ^ 62) ≤ n ∧ n < 2 ^ 62) ∧ Q (upD i (n - i).toNat) Sure G1 | _ => False
theorem di_range1 (hg : Gl X "range") (hm : X.mg "range" = none) (ha : PA X [a] (La X.K F₀ t)) (hs : starEach [a] X.env = [(false, eval a X.env)] := by rfl) : PI X tg (.Call (.Name "range" p) [a] [] pos) (Li X.K F₀ (dRange1 t)) :=
  pi_imp (pi_range1 hg hm ha hs) fun σ H R ⟨δ, F, G, Q', s, en, w, q, k⟩ => by
    refine ⟨δ, F, G, _, s, en, w, q, fun xs vs F1 G1 H1 s1 w1 r1 q1 => ?_⟩
    split at q1
    · obtain ⟨v, rfl, r⟩ := rps1 r1
      cases r
      exact ⟨_, rfl, q1.1, q1.2.1, k _ _ _ F1 G1 H1 s1 w1 (dit_range _ _) q1.2.2⟩
    · exact q1.elim
theorem di_range2 (hg : Gl X "range") (hm : X.mg "range" = none) (ha : PA X [a, b] (La X.K F₀ t)) (hs : starEach [a, b] X.env = [(false, eval a X.env), (false, eval b X.env)] := by rfl) (hs2 : starEach [b] X.env = [(false, eval b X.env)] := by rfl) :
    PI X tg (.Call (.Name "range" p) [a, b] [] pos) (Li X.K F₀ (dRange2 t)) :=
  pi_imp (pi_range2 hg hm ha hs hs2) fun σ H R ⟨δ, F, G, Q', s, en, w, q, k⟩ => by
    refine ⟨δ, F, G, _, s, en, w, q, fun xs vs F1 G1 H1 s1 w1 r1 q1 => ?_⟩
    split at q1
    · obtain ⟨v, u, rfl, r, r2⟩ := rps2 r1
      cases r; cases r2
      exact ⟨_, _, rfl, q1.1, k _ _ _ F1 G1 H1 s1 w1 (dit_range _ _) q1.2⟩
    · exact q1.elim
end

/-! ### for -/
def forL (g : DG) (tb : DS) (S : Gp → Prop) : List D → DS
  | [] => fun D δ G => S G ∧ D.nx δ G
  | x :: r => fun D δ G => S G ∧ g x δ G fun δ1 G1 => tb { D with nx := forL g tb S r D, ct := forL g tb S r D, bk := D.nx } δ1 G1
def dFor (ti : DI) (g : DG) (tb : DS) : DS := fun D δ G => ti δ G fun its S G1 => forL g tb S its D δ G1
theorem forL_stays {g : DG} {tb : DS} {S : Gp → Prop} {l : List D} {D : DEnds} {δ : Sl} {G : Gp} (h : forL g tb S l D δ G) : S G := by
  cases l with
  | nil => exact h.1
  | cons x r => exact h.1
section
variable {X : Cx} {F₀ : Hp} {tg iter : Expr} {body : List Stmt} {ti : DI} {g : DG} {tb : DS} {vs : List Nat} {pos : Pos}
theorem ds_for (hp : PassesOwn (model X.prog X.w) X.A X.env X.xe) (hc : X.calm = true) (hi : PI X tg iter (Li X.K F₀ ti)) (hg : PG X tg (Lg X.K F₀ vs g)) (hb : PSs X body (Ls X.K F₀ tb))
    (hs : ∀ x, foldedSetIterable iter X.env x = pure x := by intro _; rfl) : PS X (.For tg iter body [] pos) (Ls X.K F₀ (dFor ti g tb)) := ps_imp (ps_for hp hc hi hg hb hs) fun D σ H ⟨δ, F, G, D', s, en, w, q, k⟩ => by
  refine ⟨δ, F, G, _, s, en, w, q, fun its S J F1 G1 H1 s1 w1 it q1 => ?_⟩
  obtain ⟨Gc, Y, W, hgc, hy⟩ := it.ok
  refine for_it W (fun i σ H => ∃ δ F2 G2, Same F1 F2 ∧ En X.K F2 δ σ ∧ Wd X.K F2 G2 H ∧ forL g tb S (its.drop i) D' δ G2) ⟨δ, F1, G1, Same.refl F1, en.mono s1, w1, by rw [List.drop_zero]; exact q1⟩ (fun i σ H hi ⟨δ, F2, G2, s2, en2, w2, q2⟩ => hgc F2 G2 H s2 w2 (forL_stays q2)) (fun i x σ H H' hi ⟨δ, F2, G2, s2, en2, w2, q2⟩ y => ?_) (fun σ H ⟨δ, F2, G2, s2, en2, w2, q2⟩ => ?_)
  · have ei : its[i]? = some its[i] := List.getElem?_eq_getElem hi
    rw [List.drop_eq_getElem_cons hi] at q2
    obtain ⟨st, q2⟩ := q2
    obtain ⟨F3, s3, w3, r3⟩ := hy i its[i] F2 G2 H x H' s2 w2 st ei y
    refine ⟨_, δ, F3, G2, _, ((s.trans s1).trans s2).trans s3, en2.mono s3, w3, r3, q2, fun δ4 σ4 F4 G4 H4 s4 en4 w4 e4 q4 => ?_⟩
    have s04 := (((s.trans s1).trans s2).trans s3).trans s4
    refine ⟨δ4, F4, G4, _, s04, en4, w4, q4, ⟨fun δ5 σ5 F5 G5 H5 s5 en5 w5 q5 => ?_, k.rt.mono (((s1.trans s2).trans s3).trans s4), fun δ5 σ5 F5 G5 H5 s5 en5 w5 q5 => ?_, fun δ5 σ5 F5 G5 H5 s5 en5 w5 q5 => ?_⟩⟩
    · exact ⟨δ5, F5, G5, ((s2.trans s3).trans s4).trans s5, en5, w5, q5⟩
    · exact k.nx δ5 σ5 F5 G5 H5 ((((s1.trans s2).trans s3).trans s4).trans s5) en5 w5 q5
    · exact ⟨δ5, F5, G5, ((s2.trans s3).trans s4).trans s5, en5, w5, q5⟩
  · rw [List.drop_length] at q2
    exact k.nx δ σ F2 G2 H (s1.trans s2) en2 w2 q2.2
/-- while: an invariant with a measure -/
def dWhile (c : DT) (tb : DS) : DS := fun D δ G => ∃ W : Nat → Sl → Gp → Prop, (∃ m, W m δ G) ∧ ∀ m δ G, W m δ G →
  c δ G fun b G1 => if b = true then tb { D with nx := fun δ' G' => ∃ m', m' < m ∧ W m' δ' G', ct := fun δ' G' => ∃ m', m' < m ∧ W m' δ' G', bk := D.nx } δ G1 else D.nx δ G1
theorem ds_while {c : Expr} {tc : DT} (hp : PassesOwn (model X.prog X.w) X.A X.env X.xe) (hc : PT X c (Lt X.K F₀ tc)) (hb : PSs X body (Ls X.K F₀ tb)) : PS X (.While c body [] pos) (Ls X.K F₀ (dWhile tc tb)) := ps_imp (ps_while hp hc hb) fun D σ H ⟨δ, F, G, D', s, en, w, q, k⟩ => by
  obtain ⟨W, ⟨m0, h0⟩, hW⟩ := q
  refine ⟨fun m σ H => ∃ δ F2 G2, Same F F2 ∧ En X.K F2 δ σ ∧ Wd X.K F2 G2 H ∧ W m δ G2, ⟨m0, δ, F, G, Same.refl F, en, w, h0⟩, fun m σ H ⟨δ, F2, G2, s2, en2, w2, q2⟩ => ?_⟩
  refine ⟨δ, F2, G2, _, s.trans s2, en2, w2, hW m δ G2 q2, fun b F3 G3 H3 s3 w3 q3 => ?_⟩
  cases b with
  | true =>
    rw [if_pos rfl] at q3 ⊢
    refine ⟨fun σ H => ∃ m', m' < m ∧ ∃ δ F2 G2, Same F F2 ∧ En X.K F2 δ σ ∧ Wd X.K F2 G2 H ∧ W m' δ G2, fun σ H h => h, δ, F3, G3, _, (s.trans s2).trans s3, en2.mono s3, w3, q3, ⟨fun δ5 σ5 F5 G5 H5 s5 en5 w5 q5 => ?_, k.rt.mono (s2.trans s3), fun δ5 σ5 F5 G5 H5 s5 en5 w5 q5 => ?_, fun δ5 σ5 F5 G5 H5 s5 en5 w5 q5 => ?_⟩⟩
    · obtain ⟨m', h1, h2⟩ := q5
      exact ⟨m', h1, δ5, F5, G5, (s2.trans s3).trans s5, en5, w5, h2⟩
    · exact k.nx δ5 σ5 F5 G5 H5 ((s2.trans s3).trans s5) en5 w5 q5
    · obtain ⟨m', h1, h2⟩ := q5
      exact ⟨m', h1, δ5, F5, G5, (s2.trans s3).trans s5, en5, w5, h2⟩
  | false =>
    rw [if_neg Bool.false_ne_true] at q3 ⊢
    exact k.nx δ σ F3 G3 H3 (s2.trans s3) (en2.mono s3) w3 q3
end

/-! ### comprehensions -/
def compL (g : DG) (tt : DT) (te : DE) (S : Gp → Prop) (p : Addr) (δ : Sl) : List D → List D → Gp → (List D → Gp → Prop) → Prop
  | [], acc, G, Q => S G ∧ G p = some (.lst acc) ∧ Q acc G
  | x :: r, acc, G, Q => S G ∧ G p = some (.lst acc) ∧ g x δ G fun δ2 G2 => tt δ2 G2 fun b G3 =>
    if b = true then te δ2 G3 fun y G4 => G4 p = some (.lst acc) ∧ acc.length < sizeLine ∧ compL g tt te S p δ r (acc ++ [y]) (gu G4 p (.lst (acc ++ [y]))) Q else compL g tt te S p δ r acc G3 Q
def dYes : DT := fun _ G Q => Q true G
def endLc (m : Bool) (Q : DK) (p : Addr) (acc : List D) (G : Gp) : Prop := match m with
  | true => Q (.ref p) G
  | false => Q (.lst acc) (gd G p)
def dLc (m : Bool) (ti : DI) (g : DG) (tt : DT) (te : DE) (vs : List Nat) : DE := fun δ G Q => ti δ G fun its S G1 => ∀ p, G1 p = none →
  compL g tt te S p (wipeD δ vs) its [] (gu G1 p (.lst [])) (endLc m Q p)
theorem compL_stays {g : DG} {tt : DT} {te : DE} {S : Gp → Prop} {p : Addr} {δ : Sl} {l acc : List D} {G : Gp} {Q : List D → Gp → Prop} (h : compL g tt te S p δ l acc G Q) : S G := by
  cases l with
  | nil => exact h.1
  | cons x r => exact h.1
section
variable {X : Cx} {F₀ : Hp} {tg iter elt : Expr} {ti : DI} {g : DG} {tt : DT} {te : DE} {ifs : List Expr} {scope : Scope} {own : List (Str × Nat)} {pos : Pos}
theorem pts_imp {t t' : TT} (h : PTs X ifs t) (i : ∀ σ H Q, t' σ H Q → t σ H Q) : PTs X ifs t' := ⟨fun pins s σ H Q I w => h.run pins s σ H Q I (i σ H Q w)⟩
theorem dts_nil : PTs X [] (Lt X.K F₀ dYes) := pts_imp pts_nil fun σ H Q ⟨δ, F, G, Q', s, en, w, q, k⟩ => k true F G H (Same.refl F) w q
theorem dts_one {c : Expr} {t : DT} (h : PT X c (Lt X.K F₀ t)) : PTs X [c] (Lt X.K F₀ t) := pts_one h
theorem lc_le (m : Bool) {σ : L2.St} {H : Hp} {Q : VK} {vs : List Nat} (h : Le X.K F₀ (dLc m ti g tt te vs) σ H Q) : tLc (Li X.K F₀ ti) (Lg X.K F₀ vs g) (Lt X.K F₀ tt) (Le X.K F₀ te) vs σ H Q := by
  obtain ⟨δ, F, G, Q', s, en, w, q, k⟩ := h
  refine ⟨δ, F, G, _, s, en, w, q, fun its S J F1 G1 H1 s1 w1 it q1 => fun p hp => ?_⟩
  obtain ⟨Gc, Y, W, hgc, hy⟩ := it.ok
  have q1 := q1 p (w1.gfree hp)
  have w1' : Wd X.K F1 (gu G1 p (.lst [])) (upd H1 p (.lst [])) := w1.put (g := .lst []) (w1.ffree hp) ⟨[], upd_same, .nil⟩
  refine lc_it W (fun i H => ∃ acc F2 G2, Same F1 F2 ∧ Wd X.K F2 G2 H ∧ G2 p = some (.lst acc) ∧ compL g tt te S p (wipeD δ vs) (its.drop i) acc G2 (endLc m Q' p)) ⟨[], F1, _, Same.refl F1, w1', gu_same, by rw [List.drop_zero]; exact q1⟩
    (fun i H hi ⟨acc, F2, G2, s2, w2, _, q2⟩ => hgc F2 G2 H s2 w2 (compL_stays q2)) (fun i x H H' hi ⟨acc, F2, G2, s2, w2, gp, q2⟩ y => ?_) (fun H ⟨acc, F2, G2, s2, w2, gp, q2⟩ => ?_)
  · have ei : its[i]? = some its[i] := List.getElem?_eq_getElem hi
    rw [List.drop_eq_getElem_cons hi] at q2
    obtain ⟨st, _, q2⟩ := q2
    obtain ⟨F3, s3, w3, r3⟩ := hy i its[i] F2 G2 H x H' s2 w2 st ei y
    have s03 := ((s.trans s1).trans s2).trans s3
    refine ⟨_, wipeD δ vs, F3, G2, _, s03, (((en.mono s1).mono s2).mono s3).wipe vs, w3, r3, q2, fun δ4 σ4 F4 G4 H4 s4 en4 w4 e4 q4 => ⟨?_, ?_⟩⟩
    · rw [e4]
      exact wipe_wipe vs fun v hv => hv
    · refine ⟨δ4, F4, G4, _, s03.trans s4, en4, w4, q4, fun b F5 G5 H5 s5 w5 q5 => ?_⟩
      cases b with
      | true =>
        rw [if_pos rfl] at q5 ⊢
        refine ⟨δ4, F5, G5, _, (s03.trans s4).trans s5, en4.mono s5, w5, q5, fun d v F6 G6 H6 s6 w6 r6 q6 => ?_⟩
        obtain ⟨gp6, hl6, q6⟩ := q6
        obtain ⟨f6, us, hu, ru⟩ := w6.lst gp6
        exact ⟨us, hu, by rw [← ru.length]; exact hl6, acc ++ [d], F6, _, (((s2.trans s3).trans s4).trans s5).trans s6, w6.put (g := .lst (acc ++ [d])) f6 ⟨_, upd_same, ru.append (.one r6)⟩, gu_same, q6⟩
      | false =>
        rw [if_neg Bool.false_ne_true] at q5 ⊢
        exact ⟨acc, F5, G5, ((s2.trans s3).trans s4).trans s5, w5, compL_at q5, q5⟩
  · rw [List.drop_length] at q2
    obtain ⟨_, gp2, q2⟩ := q2
    have k2 := k.mono (s1.trans s2)
    cases m with
    | true => exact k2 _ _ F2 G2 H (Same.refl F2) w2 (.ref p) q2
    | false =>
      obtain ⟨F3, s3, w3, r3⟩ := w2.freeze (G' := gd G2 p) gp2 (fun b o e => by
        unfold gd at e
        by_cases hb : b = p
        · rw [if_pos hb] at e; cases e
        · rw [if_neg hb] at e; exact ⟨hb, e⟩)
      exact k2 _ _ F3 _ H s3 w3 r3 q2
where
  compL_at {g : DG} {tt : DT} {te : DE} {S : Gp → Prop} {p : Addr} {δ : Sl} {l acc : List D} {G : Gp} {Q : List D → Gp → Prop} (h : compL g tt te S p δ l acc G Q) : G p = some (.lst acc) := by
    cases l with
    | nil => exact h.2.1
    | cons x r => exact h.2.1
end
end DL

/-! Rules over trees: methods of lists; enumerate, zip. -/
namespace DL
open PySem PySem.Spec PyProof.Rows L2

/-! ### methods of lists -/
def dMeL (r : D → List D → Gp → DK → Prop) (to : DE) (t : DA) : DE := fun δ G Q => to δ G fun x G1 => (rlOf x G1).isSome = true ∧ t δ G1 fun xs G2 => r x xs G2 Q
def MeD (K : PySem.W.Frag) (F₀ : Hp) (r' : D → List D → Gp → DK → Prop) (r : V → List V → Hp → VK → Prop) : Prop := ∀ F G H x v xs vs Q' Q, Same F₀ F → Wd K F G H → Rp K F x v → Rps K F xs vs → r' x xs G Q' → Ko K F Q' Q → r v vs H Q
section
variable {K : PySem.W.Frag} {X : Cx} {F F₀ : Hp} {G : Gp} {H : Hp} {r' : D → List D → Gp → DK → Prop} {r : V → List V → Hp → VK → Prop} {to : DE} {t : DA} {o e : Expr} {es : List Expr} {name : Str} {id : String} {apos cpos : Pos}
theorem tyV_list {d : D} {v : V} (w : Wd K F G H) (rp : Rp K F d v) (h : (rlOf d G).isSome = true) : tyV K "list" v H := by
  obtain ⟨xs, e⟩ := Option.isSome_iff_exists.mp h
  obtain ⟨a, vs, rfl, s, _⟩ := rlOf_ok w rp e
  exact .inl ⟨rfl, vs, s⟩
theorem de_meL (slot : Slot "list" name id) (hty : typeOf (.builtin id) = pure (.type "method_descriptor")) (hm : MtR X id r) (md : MeD X.K F₀ r' r) (ho : PE X o (Le X.K F₀ to)) (ha : PA X (e :: es) (La X.K F₀ t))
    (hbase : attributeBase o name X.env (eval o X.env) = eval o X.env := by rfl)
    (hfew : ((backTo cpos (starEach (e :: es) X.env)).all (fun x => !x.1) && (backToKw cpos (keywordEach [] X.env)).all (fun x => x.1.isSome)
      && decide ((e :: es).length + ([] : List Keyword).length + (if ([] : List Keyword).isEmpty then 0 else 1) < 30)) = true := by rfl)
    (hline : (apos.endLine == cpos.line) = true := by rfl) (hs : starEach (e :: es) X.env = (false, eval e X.env) :: starEach es X.env := by rfl) (hplain : (backTo cpos (starEach es X.env)).any (·.1) = false := by rfl) :
    PE X (.Call (.Attribute o name apos) (e :: es) [] cpos) (Le X.K F₀ (dMeL r' to t)) := pe_imp (pe_bm PySem.F.plainAttrs_list slot hty hm ho ha hbase hfew hline hs hplain) fun σ H Q ⟨δ, F, G, Q', s, en, w, q, k⟩ => by
  refine ⟨δ, F, G, _, s, en, w, q, fun x v F1 G1 H1 s1 w1 r1 q1 => ⟨tyV_list w1 r1 q1.1, ?_⟩⟩
  refine ⟨δ, F1, G1, _, s.trans s1, en.mono s1, w1, q1.2, fun xs vs F2 G2 H2 s2 w2 r2 q2 => ?_⟩
  exact md F2 G2 H2 x v xs vs Q' Q ((s.trans s1).trans s2) w2 (r1.mono s2) r2 q2 (k.mono (s1.trans s2))
theorem de_meL0 (slot : Slot "list" name id) (hty : typeOf (.builtin id) = pure (.type "method_descriptor")) (hm : MtR X id r) (md : MeD X.K F₀ r' r) (ho : PE X o (Le X.K F₀ to))
    (hbase : attributeBase o name X.env (eval o X.env) = eval o X.env := by rfl) (hline : (apos.endLine == cpos.line) = true := by rfl) :
    PE X (.Call (.Attribute o name apos) [] [] cpos) (Le X.K F₀ (dMeL r' to aNil)) := pe_imp (pe_bm0 PySem.F.plainAttrs_list slot hty hm ho hbase hline) fun σ H Q ⟨δ, F, G, Q', s, en, w, q, k⟩ => by
  refine ⟨δ, F, G, _, s, en, w, q, fun x v F1 G1 H1 s1 w1 r1 q1 => ⟨tyV_list w1 r1 q1.1, ?_⟩⟩
  exact md F1 G1 H1 x v [] [] Q' Q (s.trans s1) w1 r1 .nil q1.2 (k.mono s1)
/-- a list at an address that may change -/
def atL (x : D) (G : Gp) (f : Addr → List D → Prop) : Prop := match x with
  | .ref a => match G a with
    | some (.lst xs) => f a xs
    | _ => False
  | _ => False
theorem atL_ok {x : D} {v : V} {f : Addr → List D → Prop} (w : Wd K F G H) (r : Rp K F x v) (h : atL x G f) : ∃ a xs vs, v = .ref a ∧ F a = none ∧ H a = some (.lst vs) ∧ Rps K F xs vs ∧ G a = some (.lst xs) ∧ f a xs := by
  cases x with
  | ref a =>
    cases r
    have h' : (match G a with | some (.lst xs) => f a xs | _ => False) := h
    split at h'
    · rename_i xs e
      obtain ⟨f1, vs, hv, rv⟩ := w.lst e
      exact ⟨a, xs, vs, rfl, f1, hv, rv, e, h'⟩
    · exact h'.elim
  | _ => exact (show False from h).elim
def dAppend : D → List D → Gp → DK → Prop := fun x ys G Q => match ys with
  | [y] => atL x G fun a xs => xs.length < sizeLine ∧ Q .non (gu G a (.lst (xs ++ [y])))
  | _ => False
theorem md_append : MeD K F₀ dAppend rAppend := by
  intro F G H x v xs vs Q' Q s w r rs q k
  unfold dAppend at q
  split at q
  · rename_i y
    obtain ⟨u, rfl, ru⟩ := rps1 rs
    obtain ⟨a, xs, us, rfl, f1, hv, rv, _, h1, q⟩ := atL_ok w r q
    exact ⟨a, us, u, rfl, rfl, hv, by rw [← rv.length]; exact h1, k _ _ F _ _ (Same.refl F) (w.put (g := .lst (xs ++ [y])) f1 ⟨_, upd_same, rv.append (.one ru)⟩) .non q⟩
  · exact q.elim
theorem dropLast_rps {ds : List D} {vs : List V} (r : Rps K F ds vs) : Rps K F ds.dropLast vs.dropLast := by
  rw [List.dropLast_eq_take, List.dropLast_eq_take, r.length]
  exact r.take _
def dPop : D → List D → Gp → DK → Prop := fun x ys G Q => match ys with
  | [] => atL x G fun a xs => match xs[xs.length - 1]? with
    | some y => Q y (gu G a (.lst xs.dropLast))
    | none => False
  | _ => False
theorem md_pop : MeD K F₀ dPop rPop := by
  intro F G H x v xs vs Q' Q s w r rs q k
  unfold dPop at q
  split at q
  · cases rs
    obtain ⟨a, xs, us, rfl, f1, hv, rv, _, q⟩ := atL_ok w r q
    split at q
    · rename_i y e
      obtain ⟨z, hz, rz⟩ := rv.get e
      rw [rv.length] at hz
      exact ⟨a, us, z, rfl, rfl, hv, hz, k _ _ F _ _ (Same.refl F) (w.put (g := .lst xs.dropLast) f1 ⟨_, upd_same, dropLast_rps rv⟩) rz q⟩
    · exact q.elim
  · exact q.elim
theorem erase_rps : ∀ {ds : List D} {vs : List V} (i : Nat), Rps K F ds vs → Rps K F (ds.eraseIdx i) (vs.eraseIdx i)
  | [], _, _, r => by cases r; exact .nil
  | _ :: _, _, 0, r => by cases r with | cons a b => exact b
  | _ :: _, _, i + 1, r => by cases r with | cons a b => exact .cons a (erase_rps i b)
/-- xs.pop(i), i from the front -/
def dPopAt : D → List D → Gp → DK → Prop := fun x ys G Q => match ys with
  | [.int i] => atL x G fun a xs => 0 ≤ i ∧ i < 2 ^ 63 ∧ match xs[i.toNat]? with
    | some y => Q y (gu G a (.lst (xs.eraseIdx i.toNat)))
    | none => False
  | _ => False
theorem md_popAt : MeD K F₀ dPopAt rPopAt := by
  intro F G H x v xs vs Q' Q s w r rs q k
  unfold dPopAt at q
  split at q
  · rename_i i
    obtain ⟨u, rfl, ru⟩ := rps1 rs
    cases ru
    obtain ⟨a, xs, us, rfl, f1, hv, rv, _, h0, h1, q⟩ := atL_ok w r q
    split at q
    · rename_i y e
      obtain ⟨z, hz, rz⟩ := rv.get e
      have hlt := (List.getElem?_eq_some_iff.mp hz).1
      refine ⟨a, us, i, i.toNat, z, rfl, rfl, hv, by omega, h1, PySem.StrLaws.seqIndex_nonneg h0 (by omega), hz, k _ _ F _ _ (Same.refl F) (w.put (g := .lst (xs.eraseIdx i.toNat)) f1 ⟨_, upd_same, erase_rps _ rv⟩) rz q⟩
    · exact q.elim
  · exact q.elim
/-- xs.extend(ys), ys another list -/
def dExtend : D → List D → Gp → DK → Prop := fun x ys G Q => match ys with
  | [y] => match lstOf y G with
    | some zs => atL x G fun a xs => xs.length + zs.length ≤ sizeLine ∧ Q .non (gu G a (.lst (xs ++ zs)))
    | none => False
  | _ => False
theorem md_extend : MeD K F₀ dExtend rExtend := by
  intro F G H x v xs vs Q' Q s w r rs q k
  unfold dExtend at q
  split at q
  · obtain ⟨u, rfl, ru⟩ := rps1 rs
    split at q
    · rename_i zs e
      obtain ⟨b, ws, rfl, hb, rw'⟩ := lstOf_ok w ru e
      obtain ⟨a, xs, us, rfl, f1, hv, rv, _, h1, q⟩ := atL_ok w r q
      exact ⟨a, b, us, ws, rfl, rfl, hv, hb, by rw [← rv.length, ← rw'.length]; exact h1, k _ _ F _ _ (Same.refl F) (w.put (g := .lst (xs ++ zs)) f1 ⟨_, upd_same, rv.append rw'⟩) .non q⟩
    · exact q.elim
  · exact q.elim
end

/-! ### enumerate, zip -/
def prsD : List D → List D → List D
  | x :: xs, y :: ys => .tup [x, y] :: prsD xs ys
  | _, _ => []
theorem prsD_length : ∀ xs ys : List D, (prsD xs ys).length = min xs.length ys.length
  | [], _ => by simp [prsD]
  | _ :: _, [] => by simp [prsD]
  | _ :: xs, _ :: ys => by
    show (prsD xs ys).length + 1 = _
    rw [prsD_length xs ys, List.length_cons, List.length_cons]
    omega
theorem prsD_get : ∀ {xs ys : List D} {i : Nat} {d : D}, (prsD xs ys)[i]? = some d → ∃ x y, xs[i]? = some x ∧ ys[i]? = some y ∧ d = .tup [x, y]
  | [], _, _, _, h => by simp [prsD] at h
  | _ :: _, [], _, _, h => by simp [prsD] at h
  | x :: xs, y :: ys, 0, _, h => by
    simp [prsD] at h
    exact ⟨x, y, rfl, rfl, h.symm⟩
  | x :: xs, y :: ys, i + 1, _, h => by
    obtain ⟨a, b, h1, h2, h3⟩ := prsD_get (xs := xs) (ys := ys) (i := i) (by simpa [prsD] using h)
    exact ⟨a, b, by simpa using h1, by simpa using h2, h3⟩
def numsD (n : Nat) : List D := (List.range n).map fun i => D.int (i : Nat)
theorem walk_zipT {K : PySem.W.Frag} {a b : Addr} {xs ys : List V} {n : Nat} (hn : n = min xs.length ys.length) : Walk (RZ.ItzT K a b) n (fun H => SqT K H a xs ∧ SqT K H b ys) (YPair (fun i => xs[i]?) (fun i => ys[i]?)) := by
  subst hn
  refine ⟨fun i _ hi q => ?_, fun _ q => ⟨xs, ys, q.1, q.2, by omega⟩, fun i H v H' _ q y => ?_⟩
  · have h1 : i < xs.length := by omega
    have h2 : i < ys.length := by omega
    exact ⟨xs, ys, xs[i], ys[i], q.1, q.2, by simp [h1], by simp [h2]⟩
  · obtain ⟨T, x, z, h1, h2, h3, h4, h5⟩ := y
    exact ⟨T, x, z, h1, h2, h3, h4 xs q.1, h5 ys q.2⟩
section
variable {K : PySem.W.Frag} {X : Cx} {F F₀ : Hp} {G : Gp} {H : Hp} {tg e e2 : Expr} {t : DA} {p pos tpos : Pos} {elts : List Expr} {kk : Nat}
/-- a list of trees that will not change, read -/
def frzL : D → Option (List D)
  | .lst xs => some xs
  | .scr xs => some xs
  | _ => none
theorem frzL_ok {d : D} {v : V} {xs : List D} (r : Rp K F d v) (h : frzL d = some xs) : ∃ a vs, v = .ref a ∧ SqL K F a vs ∧ Rps K F xs vs := by
  cases d with
  | scr ys =>
    cases (show some ys = some xs from h)
    cases r with
    | scr a b => exact ⟨_, _, rfl, a, b⟩
  | lst ys =>
    cases (show some ys = some xs from h)
    cases r with
    | lst a b => exact ⟨_, _, rfl, .of a, b⟩
  | _ => cases h
theorem pair_ok {F1 : Hp} {G1 : Gp} {H1 H' : Hp} {T : Addr} {x y : D} {v u : V} (w : Wd K F1 G1 H1) (hT : H1 T = none) (e : H' = upd H1 T (.tup [v, u])) (rx : Rp K F1 x v) (ry : Rp K F1 y u) : ∃ F2, Same F1 F2 ∧ Wd K F2 G1 H' ∧ Rp K F2 (.tup [x, y]) (.ref T) := by
  subst e
  have hf := w.ffree hT
  exact ⟨_, same_upd hf, w.newF hT _, .tup (.inl (.inl upd_same)) (.cons (rx.mono (same_upd hf)) (.cons (ry.mono (same_upd hf)) .nil))⟩
theorem dit_enum {d : D} {v : V} {xs : List D} (w : Wd K F G H) (r : Rp K F d v) (h : rlOf d G = some xs) : ∃ a us, v = .ref a ∧ SqL K H a us ∧ DIt K F (Stays d G) (prsD (numsD xs.length) xs) (Ite K a) := by
  have len : (prsD (numsD xs.length) xs).length = xs.length := by
    rw [prsD_length]
    unfold numsD
    rw [List.length_map, List.length_range, Nat.min_self]
  have num : ∀ {i : Nat} {x : D}, (numsD xs.length)[i]? = some x → x = .int (i : Nat) := fun {i x} e => by
    unfold numsD at e
    rw [List.getElem?_map] at e
    cases q : (List.range xs.length)[i]? with
    | none => rw [q] at e; cases e
    | some j =>
      rw [q] at e
      cases e
      rw [List.getElem?_eq_some_iff] at q
      obtain ⟨h1, h2⟩ := q
      rw [List.getElem_range] at h2
      rw [h2]
  cases d with
  | ref b =>
    cases r
    have h' : (match G b with | some (.lst xs) => some xs | _ => none) = some xs := h
    split at h'
    · rename_i ys e
      cases h'
      obtain ⟨_, us, hu, ru⟩ := w.lst e
      refine ⟨b, us, rfl, .of hu, fun H => ∃ vs, H b = some (.lst vs) ∧ vs.length = xs.length, fun i H v H' => ∃ T x vs, v = .ref T ∧ H T = none ∧ H' = upd H T (.tup [.int (i : Nat), x]) ∧ H b = some (.lst vs) ∧ vs[i]? = some x, ⟨fun i H hi q => ?_, fun H q => ?_, fun i H x H' hi q y => ?_⟩, fun F1 G1 H s w st => ?_, fun i d F1 G1 H x H' s w st e2 y => ?_⟩
      · obtain ⟨vs, hv, hl⟩ := q
        exact ⟨vs, vs[i]'(by omega), .of hv, by simp⟩
      · obtain ⟨vs, hv, hl⟩ := q
        exact ⟨vs, .of hv, by omega⟩
      · obtain ⟨vs, hv, hl⟩ := q
        obtain ⟨T, z, h1, h2, h3, h4⟩ := y
        exact ⟨T, z, vs, h1, h2, h3, hv, h4 vs (.of hv)⟩
      · have st' : G1 b = G b := st
        rw [e] at st'
        obtain ⟨_, vs, hv, rv⟩ := w.lst st'
        exact ⟨vs, hv, rv.length.symm⟩
      · have st' : G1 b = G b := st
        rw [e] at st'
        obtain ⟨_, vs, hv, rv⟩ := w.lst st'
        obtain ⟨T, z, ws, rfl, hT, hH, hw, hx⟩ := y
        rw [hv] at hw
        cases hw
        obtain ⟨d1, d2, q1, q2, rfl⟩ := prsD_get e2
        obtain ⟨z', hz, rz⟩ := rv.get q2
        rw [hx] at hz
        cases hz
        have e1 := num q1
        subst e1
        exact pair_ok w hT hH (.int _) rz
    · cases h'
  | scr ys =>
    obtain ⟨a, vs, rfl, sq, rs⟩ := frzL_ok r (show frzL (.scr ys) = some xs from h)
    refine ⟨a, vs, rfl, sqL_mono w.fz sq, _, _, by rw [len, rs.length]; exact walk_enum (K := K) (a := a) (xs := vs), fun F1 G H s w st => sqL_mono (s.trans w.fz) sq, fun i d F1 G H x H' s w st e y => ?_⟩
    obtain ⟨T, z, u, rfl, hT, hH, hz, hu⟩ := y
    cases hz
    obtain ⟨d1, d2, q1, q2, rfl⟩ := prsD_get e
    obtain ⟨z', hz, rz⟩ := rs.get q2
    have hu : vs[i]? = some u := hu
    rw [hu] at hz
    cases hz
    have e1 := num q1
    subst e1
    exact pair_ok w hT hH (.int _) (rz.mono s)
  | lst ys =>
    obtain ⟨a, vs, rfl, sq, rs⟩ := frzL_ok r (show frzL (.lst ys) = some xs from h)
    refine ⟨a, vs, rfl, sqL_mono w.fz sq, _, _, by rw [len, rs.length]; exact walk_enum (K := K) (a := a) (xs := vs), fun F1 G H s w st => sqL_mono (s.trans w.fz) sq, fun i d F1 G H x H' s w st e y => ?_⟩
    obtain ⟨T, z, u, rfl, hT, hH, hz, hu⟩ := y
    cases hz
    obtain ⟨d1, d2, q1, q2, rfl⟩ := prsD_get e
    obtain ⟨z', hz, rz⟩ := rs.get q2
    have hu : vs[i]? = some u := hu
    rw [hu] at hz
    cases hz
    have e1 := num q1
    subst e1
    exact pair_ok w hT hH (.int _) (rz.mono s)
  | _ => cases h
def dEnum (t : DA) : DI := fun δ G Q => t δ G fun xs G1 => match xs with
  | [x] => match rlOf x G1 with
    | some ys => Q (prsD (numsD ys.length) ys) (Stays x G1) G1
    | none => False
  | _ => False
theorem di_enum (hg : Gl X "enumerate") (hm : X.mg "enumerate" = none) (ha : PA X [e] (La X.K F₀ t)) (hs : starEach [e] X.env = [(false, eval e X.env)] := by rfl) :
    PI X (.Tuple elts kk tpos) (.Call (.Name "enumerate" p) [e] [] pos) (Li X.K F₀ (dEnum t)) := pi_imp (pi_enum hg hm ha hs) fun σ H R ⟨δ, F, G, Q', s, en, w, q, k⟩ => by
  refine ⟨δ, F, G, _, s, en, w, q, fun xs vs F1 G1 H1 s1 w1 r1 q1 => ?_⟩
  split at q1
  · obtain ⟨v, rfl, r⟩ := rps1 r1
    split at q1
    · rename_i ys e
      obtain ⟨a, us, rfl, hs, it⟩ := dit_enum w1 r e
      exact ⟨a, us, rfl, hs, k _ _ _ F1 G1 H1 s1 w1 it q1⟩
    · exact q1.elim
  · exact q1.elim
/-- zip of two tuples, or of two lists that stand still -/
def dZip (t : DA) : DI := fun δ G Q => t δ G fun xs G1 => match xs with
  | [.tup xs, .tup ys] => Q (prsD xs ys) Sure G1
  | [x, y] => match frzL x, frzL y with
    | some xs, some ys => Q (prsD xs ys) Sure G1
    | _, _ => False
  | _ => False
theorem di_zip (hg : Gl X "zip") (hm : X.mg "zip" = none) (ha : PA X [e, e2] (La X.K F₀ t)) (hs : starEach [e, e2] X.env = (false, eval e X.env) :: starEach [e2] X.env := by rfl) (hpl : (backTo pos (starEach [e2] X.env)).any (·.1) = false := by rfl) :
    PI X (.Tuple elts kk tpos) (.Call (.Name "zip" p) [e, e2] [] pos) (Li X.K F₀ (dZip t)) := pi_imp (RZ.pi_zipA hg hm ha hs hpl) fun σ H R ⟨δ, F, G, Q', s, en, w, q, k⟩ => by
  refine ⟨δ, F, G, _, s, en, w, q, fun zs vs F1 G1 H1 s1 w1 r1 q1 => ?_⟩
  split at q1
  · rename_i xs ys
    obtain ⟨v, u, rfl, ra, rb⟩ := rps2 r1
    cases ra with
    | tup sa qa =>
      cases rb with
      | tup sb qb =>
        rename_i a va b vb
        refine ⟨a, b, va, vb, rfl, .inr ⟨sqT_mono w1.fz sa, sqT_mono w1.fz sb, k _ _ _ F1 G1 H1 s1 w1 ⟨_, _, walk_zipT (K := X.K) (a := a) (b := b) (xs := va) (ys := vb) (by rw [prsD_length, qa.length, qb.length]), fun F2 G2 H2 s2 w2 _ => ⟨sqT_mono (s2.trans w2.fz) sa, sqT_mono (s2.trans w2.fz) sb⟩, fun i d F2 G2 H2 x H' s2 w2 st e y => ?_⟩ q1⟩⟩
        obtain ⟨T, z, u, rfl, hT, hH, hz, hu⟩ := y
        obtain ⟨d1, d2, q1, q2, rfl⟩ := prsD_get e
        obtain ⟨z1, e1, rz⟩ := qa.get q1
        obtain ⟨z2, e2, ru⟩ := qb.get q2
        have hz : va[i]? = some z := hz
        have hu : vb[i]? = some u := hu
        rw [hz] at e1
        rw [hu] at e2
        cases e1; cases e2
        exact pair_ok w2 hT hH (rz.mono s2) (ru.mono s2)
  · obtain ⟨v, u, rfl, ra, rb⟩ := rps2 r1
    split at q1
    · rename_i xs ys ex ey
      obtain ⟨a, va, rfl, sa, qa⟩ := frzL_ok ra ex
      obtain ⟨b, vb, rfl, sb, qb⟩ := frzL_ok rb ey
      refine ⟨a, b, va, vb, rfl, .inl ⟨sqL_mono w1.fz sa, sqL_mono w1.fz sb, k _ _ _ F1 G1 H1 s1 w1 ⟨_, _, walk_zip (K := X.K) (a := a) (b := b) (xs := va) (ys := vb) (by rw [prsD_length, qa.length, qb.length]), fun F2 G2 H2 s2 w2 _ => ⟨sqL_mono (s2.trans w2.fz) sa, sqL_mono (s2.trans w2.fz) sb⟩, fun i d F2 G2 H2 x H' s2 w2 st e y => ?_⟩ q1⟩⟩
      obtain ⟨T, z, u, rfl, hT, hH, hz, hu⟩ := y
      obtain ⟨d1, d2, q1, q2, rfl⟩ := prsD_get e
      obtain ⟨z1, e1, rz⟩ := qa.get q1
      obtain ⟨z2, e2, ru⟩ := qb.get q2
      have hz : va[i]? = some z := hz
      have hu : vb[i]? = some u := hu
      rw [hz] at e1
      rw [hu] at e2
      cases e1; cases e2
      exact pair_ok w2 hT hH (rz.mono s2) (ru.mono s2)
    · exact q1.elim
  · exact q1.elim
end
end DL

/-! The law's own end; showing data (repr). -/
namespace DL
open PySem PySem.Spec PyProof.Rows L2

/-! ### the end -/
section
variable {P : Program} {w : World} {K : PySem.W.Frag} {mg mb : Str → Option Value} {CX : CXT} {k : Nat} {fa a : Addr} {fd : FuncData} {x : Str} {sp : Sp} {s1 : Shared} {vs : List Value} {ns : List Int} {H : Hp}
/-- what is wanted of the law's call -/
abbrev Won (s1 : Shared) : Result → Shared → Prop := fun r s' => r = .ok (.ret (.bool true)) ∧ OldK s1.heap s'.heap ∧ s'.os = s1.os ∧ AllBare s'.gens
/-- from an abstract heap in which the script alone stands -/
theorem law_from (KX : K.In s1.heap) (hns : s1.heap.Ns mainGlobals mg) (hb : s1.heap.Ns builtinsNs mb) (hbb : ∀ x : Str, x ≠ "__name__" → mb x = bootBuiltins x) (hlim : s1.heap.NoLimit) (hg : s1.gens = #[])
    (ha : s1.heap.get? a = some { cls := .type "list", data := .seq vs.toArray }) (hr : Room k callerA)
    (F : ∀ base : Heap, K.In base → base.Ns mainGlobals mg → FnG P w K mg base CX k fa fd [x] sp) (hbind : ∀ (s : Shared) (u : Value), BindsTo s fd ⟨[u], []⟩ [(x, u)])
    (hO : Only H) (hsp : sp [.ref a] H (fun v _ => v = .bl true) fun _ _ _ => False) (hCX : ∀ e s', CX [] H s1 (fun _ _ _ => False) e s' → False)
    (hok : HOk P w H s1.heap) (hA : ∀ b u, H b = some u → b = a) (hK : ∀ u, H a = some u → K.lookup a = none) : codeAny (model P w) callerA (.call (.ref fa) ⟨[.ref a], []⟩) (Won s1) s1 := by
  have still : ∀ {b : Addr} {o : Obj} {es : Array DictEntry} {ep : Nat}, s1.heap.get? b = some o → o.data = .dict es ep → H b = none := fun {b o es ep} e d => by
    cases q : H b with
    | none => rfl
    | some u =>
      have := hA b u q
      subst this
      rw [ha] at e
      cases e
      exact nomatch d
  have ns' : ∀ {b : Addr} {m : Str → Option Value}, s1.heap.Ns b m → (hidT s1.heap H).Ns b m := fun {b m} ⟨o, es, ep, e, d, r⟩ => ⟨o, es, ep, hidT_get e (still e d), d, r⟩
  have kin : K.In (hidT s1.heap H) := fun b o e => hidT_get (KX b o e) (by
    cases q : H b with
    | none => rfl
    | some u =>
      have := hA b u q
      subst this
      rw [hK u q] at e
      cases e)
  obtain ⟨mc, l1, l2⟩ := hlim
  have M : Mod K mg (hidT s1.heap H) := ⟨kin, ns' hns, ⟨mb, ns' hb, hbb⟩, ⟨mc, ns' l1, l2⟩⟩
  have E : Env0 P w K mg (hidT s1.heap H) callerA [] s1 H := ⟨rfl, M, fun b o e => of_hidT e, Nat.le_of_eq (hidT_size _ _), trivial, fun b hb => (nomatch hb), hok, .of_eq hg⟩
  refine codeAny_mono ((F _ kin (ns' hns)).go callerA [] s1 H ⟨[.ref a], []⟩ [.ref a] [.ref a] _ _ hr rfl E (hbind s1 (.ref a)) (.cons rfl .nil) hsp) fun r s' h => ?_
  match r, h with
  | .error e, h => exact (hCX e s' h).elim
  | .ok .next, h => exact h.elim
  | .ok .brk, h => exact h.elim
  | .ok .cont, h => exact h.elim
  | .ok (.ret u), ⟨v, H', os, bare, un, hok', r', q⟩ =>
    have q' : v = .bl true := q
    subst q'
    have ru : u = Value.bool true := r'
    subst ru
    refine ⟨rfl, OldK.of_keep fun b o e => ?_, os, bare⟩
    cases q : H b with
    | none => exact un.keep b o e q (fun z => (nomatch z)) (fun z => (nomatch z))
    | some u =>
      rcases hO b with z | ⟨ob, xs, z⟩
      · rw [q] at z; cases z
      · obtain ⟨e1, _⟩ := hok b _ z
        obtain ⟨e2, _⟩ := hok' b _ (un.frzs b ob _ z)
        rw [e] at e1
        cases e1
        exact e2
theorem law_callG (KX : K.In s1.heap) (hns : s1.heap.Ns mainGlobals mg) (hb : s1.heap.Ns builtinsNs mb) (hbb : ∀ x : Str, x ≠ "__name__" → mb x = bootBuiltins x) (hlim : s1.heap.NoLimit) (hg : s1.gens = #[])
    (ha : s1.heap.get? a = some { cls := .type "list", data := .seq vs.toArray }) (hi : IntsAre vs ns) (hl : ns.length ≤ sizeLine) (hr : Room k callerA)
    (F : ∀ base : Heap, K.In base → base.Ns mainGlobals mg → FnG P w K mg base CX k fa fd [x] sp) (hbind : ∀ (s : Shared) (u : Value), BindsTo s fd ⟨[u], []⟩ [(x, u)])
    (hsp : ∀ H : Hp, Only H → SqL K H a (ns.map V.int) → sp [.ref a] H (fun v _ => v = .bl true) fun _ _ _ => False) (hCX : ∀ H e s', CX [] H s1 (fun _ _ _ => False) e s' → False) :
    codeAny (model P w) callerA (.call (.ref fa) ⟨[.ref a], []⟩) (Won s1) s1 := by
  have rv := vals_ints hi
  have hlen := hi.length
  cases e : K.lookup a with
  | some o =>
    have z := KX a o e
    rw [ha] at z
    cases z
    have hO : Only fun _ => none := fun _ => .inl rfl
    exact law_from KX hns hb hbb hlim hg ha hr F hbind hO (hsp _ hO (.inr ⟨_, vs.toArray, _, e, rfl, rfl, rfl, by rw [List.size_toArray, hlen]; exact hl, by simpa using rv⟩)) (hCX _) (fun _ _ z => nomatch z) (fun _ _ z => nomatch z) fun _ z => nomatch z
  | none =>
    let H0 : Hp := fun b => if b = a then some (.frz { cls := .type "list", data := .seq vs.toArray } (.lst (ns.map V.int))) else none
    have h1 : H0 a = some (.frz { cls := .type "list", data := .seq vs.toArray } (.lst (ns.map V.int))) := if_pos rfl
    have h2 : ∀ b, b ≠ a → H0 b = none := fun b hb => if_neg hb
    have hO : Only H0 := fun b => by
      by_cases hb : b = a
      · exact .inr ⟨_, _, by rw [hb]; exact h1⟩
      · exact .inl (h2 b hb)
    refine law_from (H := H0) KX hns hb hbb hlim hg ha hr F hbind hO (hsp _ hO (.inl (.inr ⟨_, h1⟩))) (hCX _) (fun b u z => ?_) (fun b u z => ?_) fun _ _ => e
    · by_cases hb : b = a
      · subst hb
        rw [h1] at z
        cases z
        exact ⟨ha, by rw [List.length_map]; exact hl, vs, _, rv, ha⟩
      · rw [h2 b hb] at z; cases z
    · by_cases hb : b = a
      · exact hb
      · rw [h2 b hb] at z; cases z
end
/-- the goal that k_head leaves, from the law's promise over trees -/
theorem walk_d {l : PySem.W.OpenLaw} {k : Nat} {q : Program} {loose : List Str} {XP : (Str → Option Value) → Heap → Prop} {YP : World → Heap → Prop} {d : DefRec} {K : Params → PySem.W.Frag} {sp : DSp} {x : Str}
    (hn : l.most = some 63) (hdf : d.params.defaults = []) (hr : Room k callerA) (hY : ∀ (w : World) (h : Heap), YP w h → (K w.params).In h)
    (F : ∀ (w : World) (mg : Str → Option Value) (fa : Addr) (h : Heap), (K w.params).In h → h.Ns mainGlobals mg → mg d.name = some (.ref fa) →
      ∃ fd : FuncData, (∀ (s : Shared) (u : Value), BindsTo s fd ⟨[u], []⟩ [(x, u)]) ∧
        ∀ base : Heap, (K w.params).In base → base.Ns mainGlobals mg → FnG l.prog w (K w.params) mg base CX0 k fa fd [x] (LSp (K w.params) sp))
    (hsp : ∀ (ns : List Int) (G : Gp) (Q : DK), ns.length ≤ 63 → (∀ G', Q (.bl true) G') → sp [.scr (ns.map D.int)] G Q X0) :
    PySem.W.WalkO q loose XP YP l.row.toRowW d [] (fun f vs => PySem.call f vs) := by
  refine Att.attach_call hn hdf fun w s₀ s₁ mg mb fa o pm cd doc a vs ns G Y ho hd hcd hmg hobj hints hlen hg => ?_
  have KX := hY w _ Y
  obtain ⟨fd, hb, hF⟩ := F w mg fa _ KX G.T.g hmg
  refine law_callG KX G.T.g G.T.b G.T.builtins G.T.nolimit hg hobj hints (Nat.le_trans hlen (by decide)) hr hF hb (fun H hO hS => ?_) fun _ _ _ z => z.elim
  exact ⟨H, fun _ => none, [.scr (ns.map D.int)], fun d _ => d = .bl true, X0, .cons (.scr hS (Rps.ofInts ns)) .nil, ⟨Same.refl H, fun _ _ e => nomatch e⟩, hsp ns _ _ hlen fun _ => rfl, fun d v F' G' H' s w r q => by
    subst q
    cases r
    rfl, koe0⟩

/-! ### repr -/
def rRepr (K : PySem.W.Frag) : List V → Hp → VK → Prop := fun vs H Q => ∃ v p, vs = [v] ∧ Dp K H v p ∧ p.showable = true ∧ p.shown.length ≤ sizeLine ∧ p.depth ≤ 100 ∧ Q (.str p.shown) H
theorem dp_nodict {K : PySem.W.Frag} {H : Hp} : ∀ (p : PyData) (v : V), Dp K H v p → p.hasDict = false := by
  have both : (∀ (p : PyData) (v : V), Dp K H v p → p.hasDict = false) ∧ (∀ (ps : List PyData) (vs : List V), DpAll K H vs ps → PyData.hasDictAll ps = false) := by
    refine ⟨fun p v h => ?_, fun ps vs h => ?_⟩
    · exact Dp.rec (motive_1 := fun v p _ => p.hasDict = false) (motive_2 := fun vs ps _ => PyData.hasDictAll ps = false)
        (by simp [PyData.hasDict]) (fun _ => by simp [PyData.hasDict]) (fun _ => by simp [PyData.hasDict]) (fun _ => by simp [PyData.hasDict])
        (fun _ _ ih => by simpa [PyData.hasDict] using ih) (fun _ _ ih => by simpa [PyData.hasDict] using ih) (by simp [PyData.hasDictAll]) (fun _ _ i1 i2 => by simp [PyData.hasDictAll, i1, i2]) h
    · exact DpAll.rec (motive_1 := fun v p _ => p.hasDict = false) (motive_2 := fun vs ps _ => PyData.hasDictAll ps = false)
        (by simp [PyData.hasDict]) (fun _ => by simp [PyData.hasDict]) (fun _ => by simp [PyData.hasDict]) (fun _ => by simp [PyData.hasDict])
        (fun _ _ ih => by simpa [PyData.hasDict] using ih) (fun _ _ ih => by simpa [PyData.hasDict] using ih) (by simp [PyData.hasDictAll]) (fun _ _ i1 i2 => by simp [PyData.hasDictAll, i1, i2]) h
  exact both.1
theorem cr_repr {X : Cx} (hm : Mute X.A) (hu : X.A.units + 120 < cLine) : CallR X (.builtin "repr") (rRepr X.K) := by
  intro pins s σ H vs us Q I r h
  obtain ⟨v, p, rfl, hp, hs, hz, hd, q⟩ := h
  obtain ⟨u, rfl, ru⟩ := vals1 r
  obtain ⟨as, rd⟩ := Dp.reads I p v u hp ru
  have hnd := dp_nodict p v hp
  cases hp with
  | non => cases ru; exact PySem.P.repr_of_none ⟨.str _, H, I.tok _, ⟨_, rfl⟩, q⟩
  | bl b => cases ru; exact PySem.P.repr_of_bool ⟨.str _, H, I.tok _, ⟨_, rfl⟩, q⟩
  | int i =>
    obtain ⟨t, rfl⟩ := ru
    exact PySem.P.repr_of_int (by simpa [PyData.showable] using hs) ⟨.str _, H, I.tok _, ⟨_, rfl⟩, q⟩
  | str x =>
    obtain ⟨t, rfl⟩ := ru
    exact PySem.P.repr_of_str ⟨.str _, H, I.tok _, ⟨_, rfl⟩, q⟩ hz
  | lst a b =>
    cases ru
    exact repr_of_reads' rd hs (by rw [hnd]; intro z; cases z) hm (by omega) (fun _ _ e => e) (fun h' u tk hk => ⟨.str _, H, I.kept hk, ⟨_, rfl⟩, q⟩) hz
  | tup a b =>
    cases ru
    exact repr_of_reads' rd hs (by rw [hnd]; intro z; cases z) hm (by omega) (fun _ _ e => e) (fun h' u tk hk => ⟨.str _, H, I.kept hk, ⟨_, rfl⟩, q⟩) hz
def dRepr : List D → Gp → DK → Prop := fun xs G Q => match xs with
  | [x] => match pyOf x G with
    | some p => p.showable = true ∧ p.shown.length ≤ sizeLine ∧ p.depth ≤ 100 ∧ Q (.str p.shown) G
    | none => False
  | _ => False
theorem cd_repr {K : PySem.W.Frag} {F₀ : Hp} : CallD K F₀ dRepr (rRepr K) := by
  intro F G H xs vs Q' Q s w rx q k
  unfold dRepr at q
  split at q
  · obtain ⟨v, rfl, r⟩ := rps1 rx
    split at q
    · rename_i p e
      exact ⟨v, p, rfl, pyOf_dp w r e, q.1, q.2.1, q.2.2.1, k _ _ F G H (Same.refl F) w (.str _) q.2.2.2⟩
    · exact q.elim
  · exact q.elim
end DL

/-! Rules over trees: {}, comprehensions said at once, op=, t[::-1]. -/
namespace DL
open PySem PySem.Spec PyProof.Rows L2

theorem hu120 {k : Nat} {A : Around} (hr : Room k A) : A.units + 120 < cLine := by
  have := hr.un
  omega
/-! ### t[::-1] of a tuple -/
theorem fm_map {α β : Type} {f : α → Option β} {g : α → β} : ∀ {l : List α}, (∀ m ∈ l, f m = some (g m)) → l.filterMap f = l.map g
  | [], _ => rfl
  | x :: r, h => by
    rw [List.filterMap_cons, h x List.mem_cons_self, List.map_cons, fm_map fun m hm => h m (List.mem_cons_of_mem _ hm)]
theorem revPick (items : Array Value) : ((List.range items.size).filterMap fun (m : Nat) => items[((items.size : Int) - 1 + (m : Int) * (-1)).toNat]?).toArray = items.toList.reverse.toArray := by
  congr 1
  apply List.ext_getElem?
  intro i
  have e : (List.range items.size).filterMap (fun (m : Nat) => items[((items.size : Int) - 1 + (m : Int) * (-1)).toNat]?) = (List.range items.size).map (fun m => items.toList.getD (items.size - 1 - m) .none) := by
    refine fm_map fun m hm => ?_
    have hlt := List.mem_range.mp hm
    have : ((items.size : Int) - 1 + (m : Int) * (-1)).toNat = items.size - 1 - m := by omega
    rw [this]
    have h2 : items.size - 1 - m < items.size := by omega
    simp [h2, List.getD]
  rw [e, List.getElem?_map]
  by_cases hi : i < items.size
  · rw [List.getElem?_range hi, List.getElem?_reverse (by simpa using hi)]
    have h2 : items.size - 1 - i < items.size := by omega
    simp [List.getD, h2]
  · rw [List.getElem?_eq_none (by simpa using hi), List.getElem?_eq_none (by simpa using hi)]
    rfl
section
variable {prog : Program} {w : World} {A : Around} {E : Value → Shared → Prop} {s : Shared}
theorem applied_rev {sl : Addr} {vl vu vs : Value} {n : Nat} {Q : Int × Int × Nat → Shared → Prop} (hs : s.heap.IsSliceOf sl vl vu vs) (pl : IsPart vl none) (pu : IsPart vu none) (ps : IsPart vs (some (-1)))
    (h : Q ((n : Int) - 1, -1, n) s) : wpAny (model prog w) A (Builtin.Slice.sliceApplied (.ref sl) (pure (n : Int))) Q E s := by
  obtain ⟨os, hos, hcs, hds⟩ := id hs
  unfold Builtin.Slice.sliceApplied Builtin.Slice.sliceFields
  refine wpAny_bind (wpAny_bind (wpAny_field hos hds (x := vl) rfl (wpAny_bind (wpAny_field hos hds (x := vu) rfl (wpAny_bind (wpAny_field hos hds (x := vs) rfl (wpAny_pure ?_)))))))
  refine wpAny_bind (HT.slicePart_ ps ?_)
  show wpAny _ _ (if ((-1 : Int) == 0) = true then _ else _) _ _ s
  rw [if_neg (by decide)]
  refine wpAny_bind (HT.slicePart_ pl (wpAny_bind (HT.slicePart_ pu (wpAny_bind (wpAny_pure ?_)))))
  have e : Builtin.Slice.slicePlaces ((n : Int) - 1) (-1) (-1) = n := by
    unfold Builtin.Slice.slicePlaces
    rw [if_neg (by decide)]
    split
    · rw [show -(-1 : Int) = 1 from rfl, Int.ediv_one]
      omega
    · omega
  show wpAny _ _ (pure ((n : Int) - 1, (-1 : Int), Builtin.Slice.slicePlaces ((n : Int) - 1) (-1) (-1))) _ _ s
  rw [e]
  exact wpAny_pure h
theorem getItem_tuple_rev {t sl : Addr} {items : Array Value} {vl vu vs : Value} {Q : Value → Shared → Prop} (ht : IsTup s.heap t items) (hs : s.heap.IsSliceOf sl vl vu vs) (pl : IsPart vl none) (pu : IsPart vu none) (ps : IsPart vs (some (-1)))
    (h : Q (.ref s.heap.objs.size) { s with heap := s.heap.push { cls := .type "tuple", data := .seq items.toList.reverse.toArray } }) (hsz : items.size ≤ sizeLine) : wpAny (model prog w) A (getItem (.ref t) (.ref sl)) Q E s := by
  have hok : sizeOk (.seq items.toList.reverse.toArray) := by
    show items.toList.reverse.toArray.size ≤ sizeLine
    rw [List.size_toArray, List.length_reverse, Array.length_toList]
    exact hsz
  obtain ⟨os, hos, hcs, hds⟩ := id hs
  have hTs : s.TypeIs (.ref sl) "slice" := ⟨os, hos, hcs⟩
  unfold getItem
  refine wpAny_holding ?_
  refine wpAny_bind (wpAny_sequenceKey ht.typeIs (by decide) ?_)
  refine wpAny_bind (wpAny_callSpecial?_slot (name := Str.ofString "__getitem__") ht.typeIs PyProof.Rows.slot_tuple_getitem (wpAny_call_entry PyProof.Rows.slot_tuple_getitem ht.typeIs entry_tuple_getitem ?_ (args_tuple_getitem _ _)))
  show wpAny _ _ (Builtin.Tuple.tupleItemsOf (.ref t) >>= _) _ _ s
  refine wpAny_bind (tupleItemsOf_ ht (wpAny_bind (wpAny_typeOf hTs ?_)))
  rw [if_pos (by decide)]
  refine wpAny_bind (applied_rev hs pl pu ps ?_)
  have hno : ¬ ((((items.size : Int) - 1) == 0 && (-1 : Int) == 1 && items.size == items.size) = true) := by
    intro q
    rw [Bool.and_eq_true, Bool.and_eq_true] at q
    exact absurd q.1.2 (by decide)
  show wpAny _ _ (if (((items.size : Int) - 1) == 0 && (-1 : Int) == 1 && items.size == items.size) = true then _ else _) _ _ s
  rw [if_neg hno, revPick]
  first
    | exact wpAny_bind (m := Builtin.Tuple.tupleExact _) (wpAny_newObj_type (wpAny_pure ⟨_, rfl, wpAny_pure h⟩) hok)
    | exact wpAny_bind (m := Builtin.Tuple.tupleExact _) (wpAny_newObj_type (wpAny_bind (wpAny_pure (wpAny_pure ⟨_, rfl, wpAny_pure h⟩))) hok)
    | exact wpAny_bind (wpAny_bind (m := Builtin.Tuple.tupleExact _) (wpAny_newObj_type (wpAny_pure (wpAny_pure ⟨_, rfl, wpAny_pure h⟩)) hok))
    | exact wpAny_bind (wpAny_bind (m := Builtin.Tuple.tupleExact _) (wpAny_newObj_type (wpAny_pure ⟨_, rfl, wpAny_pure h⟩) hok))
end
/-- t[::-1] -/
def dRevT (t : DE) : DE := fun δ G Q => t δ G fun x G1 => match x with
  | .tup xs => Q (.tup xs.reverse) G1
  | _ => False
section
variable {X : Cx} {F₀ : Hp} {e : Expr} {t : DE} {k : Nat} {p1 p2 p3 pos : Pos}
theorem de_rev (he : PE X e (Le X.K F₀ t)) : PE X (.Subscript e (.Slice none none (some (.UnaryOp .USub (.Constant (.int 1) k p1) p2)) p3) pos) (Le X.K F₀ (dRevT t)) := by
  refine ⟨fun pins s σ H Q I h => ?_⟩
  obtain ⟨δ, F, G, Q', s0, en, w, q, ko⟩ := h
  refine Subscript_ (thn (he.run pins s σ H (fun v H1 => ∃ xs F1 G1, v = v ∧ Same F F1 ∧ Wd X.K F1 G1 H1 ∧ Rp X.K F1 (.tup xs) v ∧ Q' (.tup xs.reverse) G1) I ⟨δ, F, G, _, s0, en, w, q, fun d v F1 G1 H1 s1 w1 r1 q1 => ?_⟩) fun v s1 ⟨x, H1, I1, r1, xs, F1, G1, _, sf, w1, rp, q1⟩ => ?_)
  · cases d with
    | tup xs => exact ⟨xs, F1, G1, rfl, s1, w1, r1, q1⟩
    | _ => exact (show False from q1).elim
  · cases rp with
    | @tup a _ vs0 sq rs =>
      cases r1
      have hst : PO X (some (.UnaryOp .USub (.Constant (.int 1) k p1) p2)) (tPart (tUn (rU fun i => .int (-i)) (tC (.int 1)))) := po_some (pe_un un_neg pe_int)
      refine wpAny_Slice (thn (po_none.run pins s1 σ H1 (fun o H2 => o = none ∧ H2 = H1) I1 ⟨rfl, rfl⟩) fun vl s2 ⟨l, H2, I2, pl, el, e2⟩ => ?_)
      subst el e2
      refine thn (po_none.run pins s2 σ H2 (fun o H3 => o = none ∧ H3 = H2) I2 ⟨rfl, rfl⟩) fun vu s3 ⟨u, H3, I3, pu, eu, e3⟩ => ?_
      subst eu e3
      refine thn (hst.run pins s3 σ H3 (fun o H4 => o = some (-1) ∧ H4 = H3) I3 ⟨1, rfl, -1, rfl, rfl, rfl⟩) fun vs s4 ⟨o, H4, I4, ps, eo, e4⟩ => ?_
      subst eo e4
      have I5 : Inv X pins σ H4 { s4 with heap := s4.heap.push { cls := .type "slice", data := .fields #[vl, vu, vs] } } := I4.kept (t' := s4.toks) fun b ob q => Heap.get?_push_of_some _ q
      obtain ⟨its, r, ht, hz⟩ := I5.tuple (sqT_mono w1.fz sq)
      have hlen := r.length
      refine tail_any (ops := [.ref a, .ref s4.heap.objs.size]) ht.typeIs (PyProof.Rows.slot_tuple_getitem.lookup) ?_ (by with_unfolding_all rfl)
      refine getItem_tuple_rev ht (Heap.IsSliceOf.new _ vl vu vs) pl pu ps ?_ (by rw [List.size_toArray]; omega)
      have hn := I5.hok.fresh (Nat.le_refl _)
      refine ⟨.ref _, _, I5.laid (t' := s4.toks) (o := .tup vs0.reverse) (fun b ob q => Heap.get?_push_of_some _ q) (Nat.le_refl _) ?_, rfl, nT_ok w1 hn rs.reverse q1 (ko.mono sf)⟩
      exact ⟨by rw [List.length_reverse]; exact hz, _, r.reverse, ⟨_, Heap.get?_push_size _ rfl, rfl, 0, rfl⟩⟩
end

/-! ### {} -/
/-- an empty dict that nobody will change, or one that may -/
def dDict0 (m : Bool) : DE := fun _ G Q => match m with
  | false => Q (.dct []) G
  | true => ∀ a, G a = none → Q (.ref a) (gu G a (.dct []))
section
variable {X : Cx} {F₀ : Hp} {pos : Pos}
theorem de_dict0 (m : Bool) : PE X (.Dict [] [] pos) (Le X.K F₀ (dDict0 m)) := pe_imp pe_dnewK fun σ H Q ⟨δ, F, G, Q', s, en, w, q, k⟩ => fun p hp => by
  have hf := w.ffree hp
  cases m with
  | false => exact k _ _ _ _ _ (same_upd hf) (w.newF hp (.dK [])) (.dct upd_same .nil) q
  | true => exact k _ _ F _ _ (Same.refl F) (w.put (g := .dct []) hf ⟨[], upd_same, .nil⟩) (.ref p) (q p (w.gfree hp))
end

/-! ### comprehensions -/
section
variable {X : Cx} {F₀ : Hp} {elt tg iter : Expr} {ifs : List Expr} {scope : Scope} {own : List (Str × Nat)} {pos : Pos} {ti : DI} {g : DG} {tt : DT} {te : DE}
theorem de_lc (m : Bool) (hc : X.calm = true) (hN : X.N.Nodup) (hi : PI X tg iter (Li X.K F₀ ti)) (ok : BlkOk X.N X.env.scope scope own)
    (hg : ∀ (s : Shared) (H : Hp) (C : Addr) (cl : List (Str × Addr)) (fp : List Addr), PG (X.blk s H scope (compEnvC scope cl C X.env) fp) tg (Lg X.K F₀ (own.map (·.2)) g))
    (ht : ∀ (s : Shared) (H : Hp) (C : Addr) (cl : List (Str × Addr)) (fp : List Addr), PTs (X.blk s H scope (compEnvC scope cl C X.env) fp) ifs (Lt X.K F₀ tt))
    (he : ∀ (s : Shared) (H : Hp) (C : Addr) (cl : List (Str × Addr)) (fp : List Addr), PE (X.blk s H scope (compEnvC scope cl C X.env) fp) elt (Le X.K F₀ te)) (hs : ∀ x, foldedSetIterable iter X.env x = pure x := by intro _; rfl) :
    PE X (.ListComp elt [⟨tg, iter, ifs, 0⟩] scope pos) (Le X.K F₀ (dLc m ti g tt te (own.map (·.2)))) := pe_imp (pe_lc hc hN hi ok hg ht he hs) fun _ _ _ => lc_le m
theorem ds_setLc {i : Nat} {y : Str} {py spos : Pos} (hsw : swapsWith (.ListComp elt [⟨tg, iter, ifs, 0⟩] scope pos) (some (.Name y py)) spos.line X.env = pure true) (hy : X.N[i]? = some y) (hyl : X.env.scope.names.lookup y = some .local)
    (m : Bool) (hc : X.calm = true) (hN : X.N.Nodup) (hi : PI X tg iter (Li X.K F₀ ti)) (ok : BlkOk X.N X.env.scope scope own)
    (hg : ∀ (s : Shared) (H : Hp) (C : Addr) (cl : List (Str × Addr)) (fp : List Addr), PG (X.blk s H scope (compEnvC scope cl C X.env) fp) tg (Lg X.K F₀ (own.map (·.2)) g))
    (ht : ∀ (s : Shared) (H : Hp) (C : Addr) (cl : List (Str × Addr)) (fp : List Addr), PTs (X.blk s H scope (compEnvC scope cl C X.env) fp) ifs (Lt X.K F₀ tt))
    (he : ∀ (s : Shared) (H : Hp) (C : Addr) (cl : List (Str × Addr)) (fp : List Addr), PE (X.blk s H scope (compEnvC scope cl C X.env) fp) elt (Le X.K F₀ te)) (hs : ∀ x, foldedSetIterable iter X.env x = pure x := by intro _; rfl) :
    PS X (.Assign [.Name y py] (.ListComp elt [⟨tg, iter, ifs, 0⟩] scope pos) spos) (Ls X.K F₀ (dAsg i (dLc m ti g tt te (own.map (·.2))))) := ps_imp (ps_setLc hc hN hy hyl hsw hi ok hg ht he hs) fun D σ H ⟨δ, F, G, D', s, en, w, q, k⟩ =>
  lc_le m (Q := fun x H1 => gName i x σ H1 D.nx) ⟨δ, F, G, _, s, en, w, q, fun x v F1 G1 H1 s1 w1 r1 q1 => k.nx _ _ F1 G1 H1 s1 ((en.mono s1).set r1 i) w1 q1⟩
end

/-! ### op= -/
def dAugA (i : Nat) (t : DE) : DS := fun D δ G => match δ[i]? with
  | some (some (.int a)) => t δ G fun x G1 => match x with
    | .int b => D.nx (δ.set i (some (.int (a + b)))) G1
    | _ => False
  | _ => False
def dAugIx (to ti t : DE) : DS := fun D δ G => to δ G fun o G1 => ti δ G1 fun i G2 => match o, i with
  | .ref a, .int k => match G2 a with
    | some (.lst xs) => 0 ≤ k ∧ match atI xs k with
      | some (.int n) => t δ G2 fun y G3 => match y with
        | .int b => dSetL o i (.int (n + b)) G3 fun G4 => D.nx δ G4
        | _ => False
      | _ => False
    | _ => False
  | _, _ => False
/-- xs[i], by values -/
def rGetL (K : PySem.W.Frag) : V → V → Hp → VK → Prop := fun x y H Q => ∃ p xs i v, x = .ref p ∧ y = .int i ∧ SqL K H p xs ∧ 0 ≤ i ∧ atI xs i = some v ∧ Q v H
section
variable {X : Cx} {F₀ : Hp} {e o i : Expr} {te to ti : DE} {pos tpos : Pos}
theorem ds_aug {i : Nat} {x : Str} {pos' : Pos} (hN : X.N.Nodup) (hi : X.N[i]? = some x) (hx : Loc X.env.scope x) (he : PE X e (Le X.K F₀ te)) (hf : X.fn x = true ∨ X.env.scope.names.lookup x = some .local := by first | exact .inl rfl | exact .inr rfl | assumption) :
    PS X (.AugAssign (.Name x pos') .Add e pos) (Ls X.K F₀ (dAugA i te)) := ps_imp (ps_aug hN hi hx he ip_add hf) fun D σ H ⟨δ, F, G, D', s, en, w, q, k⟩ => by
  unfold dAugA at q
  split at q
  · rename_i a ea
    obtain ⟨v, ev, rv⟩ := en.2 i _ ea
    cases rv
    refine ⟨_, ev, δ, F, G, _, s, en, w, q, fun y u F1 G1 H1 s1 w1 r1 q1 => ?_⟩
    split at q1
    · cases r1
      exact ⟨_, _, rfl, rfl, k.nx _ _ F1 G1 H1 s1 ((en.mono s1).set (.int _) i) w1 q1⟩
    · exact q1.elim
  · exact q.elim
theorem get_listG : PGet X (rGetL X.K) := by
  intro pins s σ H o i ov iv Q I ro ri h
  obtain ⟨p, xs, j, z, rfl, rfl, hq, h0, he, q⟩ := h
  cases ro
  obtain ⟨t, rfl⟩ := ri
  obtain ⟨its, r, pl, hz⟩ := I.list hq
  obtain ⟨n, h1, h2, h3, h4, h5⟩ := atI_get he
  obtain ⟨u, eu, ru⟩ := r.get h2
  have hl := r.length
  have e1 : j.toNat = n := by
    rw [seqIndex_of h0 h5] at h1
    exact Option.some.inj h1
  have hfit := line63
  exact wpAny_getItem_list pl.isList h0 (by omega) (by rw [e1]; simpa using eu) ⟨z, H, I, ru, q⟩
theorem ds_augix (ho : PE X o (Le X.K F₀ to)) (hi : PE X i (Le X.K F₀ ti)) (he : PE X e (Le X.K F₀ te))
    (ha : ∀ ov iv new, augStore i ov iv new = (do holding [new, ov, iv] (setItem ov iv new); release [new, ov, iv] []; pure .next) := by intros; rfl) : PS X (.AugAssign (.Subscript o i tpos) .Add e pos) (Ls X.K F₀ (dAugIx to ti te)) :=
  ps_imp (ps_augS ho hi get_listG he ip_add set_list ha) fun D σ H ⟨δ, F, G, D', s, en, w, q, k⟩ => by
    refine ⟨δ, F, G, _, s, en, w, q, fun o u F1 G1 H1 s1 w1 r1 q1 => ?_⟩
    refine ⟨δ, F1, G1, _, s.trans s1, en.mono s1, w1, q1, fun i v F2 G2 H2 s2 w2 r2 q2 => ?_⟩
    have r1' := r1.mono s2
    cases o with
    | ref a =>
      cases i with
      | int j =>
        cases r1'
        cases r2
        have q2' : (match G2 a with | some (.lst xs) => 0 ≤ j ∧ (match atI xs j with | some (.int n) => te δ G2 (fun y G3 => match y with | .int b => dSetL (.ref a) (.int j) (.int (n + b)) G3 (fun G4 => D'.nx δ G4) | _ => False) | _ => False) | _ => False) := q2
        split at q2'
        · rename_i xs e
          obtain ⟨h0, q2'⟩ := q2'
          split at q2'
          · rename_i n en2
            obtain ⟨_, us, hu, ru⟩ := w2.lst e
            obtain ⟨z, hz, rz⟩ := ru.at en2
            cases rz
            refine ⟨a, us, j, _, rfl, rfl, .of hu, h0, hz, δ, F2, G2, _, (s.trans s1).trans s2, (en.mono s1).mono s2, w2, q2', fun y t F3 G3 H3 s3 w3 r3 q3 => ?_⟩
            split at q3
            · cases r3
              refine ⟨_, _, rfl, rfl, ?_⟩
              have q4 : (match G3 a with | some (.lst xs) => (match ixN xs.length j with | some jj => D'.nx δ (gu G3 a (.lst (xs.set jj _))) | none => False) | _ => False) := q3
              split at q4
              · rename_i ys e5
                split at q4
                · rename_i jj ej
                  obtain ⟨hF, ws, hw, rw2⟩ := w3.lst e5
                  refine ⟨a, ws, j, jj, rfl, rfl, hw, by rw [← rw2.length]; exact ej, ?_⟩
                  exact k.nx δ σ F3 _ _ ((s1.trans s2).trans s3) (((en.mono s1).mono s2).mono s3) (w3.put (g := .lst (ys.set jj (.int _))) hF ⟨_, upd_same, rw2.set (.int _) jj⟩) q4
                · exact q4.elim
              · exact q4.elim
            · exact q3.elim
          · exact q2'.elim
        · exact q2'.elim
      | _ => exact (show False from q2).elim
    | _ => exact (show False from q2).elim
end
end DL

/-! Words for readings: one line of unfolding, comprehensions, loops, hands. -/
namespace DL
open PySem PySem.Spec PyProof.Rows L2

theorem gd_gu {G : Gp} {p : Addr} {o : GO} (h : G p = none) : gd (gu G p o) p = G := by
  funext b
  unfold gd gu
  by_cases hb : b = p
  · rw [if_pos hb, hb, h]
  · rw [if_neg hb, if_neg hb]
theorem gu_other {G : Gp} {a p : Addr} {o u : GO} (h : G a = some o) (n : G p = none) : gu G p u a = some o := by
  rw [gu_ne (fun z => by rw [z, n] at h; cases h)]
  exact h
theorem ne_free {G : Gp} {a p : Addr} {o : GO} (h : G a = some o) (n : G p = none) : a ≠ p := fun z => by
  rw [z, n] at h; cases h
/-- two lists, item by item -/
inductive Fa2 {α β : Type} (R : α → β → Prop) : List α → List β → Prop
  | nil : Fa2 R [] []
  | cons {a : α} {b : β} {l : List α} {m : List β} : R a b → Fa2 R l m → Fa2 R (a :: l) (b :: m)
theorem Fa2.fn {α β : Type} {R : α → β → Prop} {f : α → β} (h : ∀ a b, R a b → b = f a) : ∀ {l : List α} {m : List β}, Fa2 R l m → m = l.map f
  | _, _, .nil => rfl
  | _, _, .cons r t => by rw [h _ _ r, t.fn h]; rfl
theorem Fa2.length {α β : Type} {R : α → β → Prop} : ∀ {l : List α} {m : List β}, Fa2 R l m → l.length = m.length
  | _, _, .nil => rfl
  | _, _, .cons _ t => by rw [List.length_cons, List.length_cons, t.length]
theorem compL_rel {g : DG} {te : DE} {S : Gp → Prop} {p : Addr} {δ : Sl} {G : Gp} {Q : List D → Gp → Prop} (R : D → D → Prop) (hS : ∀ ys, S (gu G p (.lst ys))) : ∀ (its acc : List D),
    (∀ x ∈ its, ∀ ys (Q : DK), (∀ y, R x y → Q y (gu G p (.lst ys))) → g x δ (gu G p (.lst ys)) fun δ2 G2 => te δ2 G2 Q) → acc.length + its.length ≤ sizeLine →
    (∀ ys, Fa2 R its ys → Q (acc ++ ys) (gu G p (.lst (acc ++ ys)))) → compL g dYes te S p δ its acc (gu G p (.lst acc)) Q
  | [], acc, _, _, q => ⟨hS _, gu_same, by have := q [] .nil; rwa [List.append_nil] at this⟩
  | x :: r, acc, h, hl, q => by
    refine ⟨hS _, gu_same, ?_⟩
    rw [List.length_cons] at hl
    have key := h x List.mem_cons_self acc (fun y G4 => G4 p = some (.lst acc) ∧ acc.length < sizeLine ∧ compL g dYes te S p δ r (acc ++ [y]) (gu G4 p (.lst (acc ++ [y]))) Q) (fun y ry => ⟨gu_same, by omega, by
      rw [gu_gu]
      refine compL_rel R hS r (acc ++ [y]) (fun z hz => h z (List.mem_cons_of_mem _ hz)) (by rw [List.length_append, List.length_singleton]; omega) fun ys hys => ?_
      have := q (y :: ys) (.cons ry hys)
      rw [List.append_assoc]
      exact this⟩)
    exact key
/-- a comprehension whose turns leave all as it is, y of x being told by R -/
theorem lc_rel {g : DG} {te : DE} {S : Gp → Prop} {δ : Sl} {G : Gp} {Q : DK} {its : List D} (R : D → D → Prop) (hl : its.length ≤ sizeLine) (hS : ∀ p ys, G p = none → S (gu G p (.lst ys)))
    (h : ∀ x ∈ its, ∀ p ys (Q : DK), G p = none → (∀ y, R x y → Q y (gu G p (.lst ys))) → g x δ (gu G p (.lst ys)) fun δ2 G2 => te δ2 G2 Q)
    (q : ∀ ys, Fa2 R its ys → Q (.lst ys) G) : ∀ p, G p = none → compL g dYes te S p δ its [] (gu G p (.lst [])) (endLc false Q p) := fun p hp =>
  compL_rel R (fun ys => hS p ys hp) its [] (fun x hx ys Q' k => h x hx p ys Q' hp k) (by simpa using hl) fun ys hys => by
    show Q (.lst ([] ++ ys)) (gd (gu G p _) p)
    rw [gd_gu hp, List.nil_append]
    exact q ys hys
theorem lc_map {g : DG} {te : DE} {S : Gp → Prop} {δ : Sl} {G : Gp} {Q : DK} {its : List D} (f : D → D) (hl : its.length ≤ sizeLine) (hS : ∀ p ys, G p = none → S (gu G p (.lst ys)))
    (h : ∀ x ∈ its, ∀ p ys (Q : DK), G p = none → Q (f x) (gu G p (.lst ys)) → g x δ (gu G p (.lst ys)) fun δ2 G2 => te δ2 G2 Q)
    (q : Q (.lst (its.map f)) G) : ∀ p, G p = none → compL g dYes te S p δ its [] (gu G p (.lst [])) (endLc false Q p) :=
  lc_rel (fun x y => y = f x) hl hS (fun x hx p ys Q' hp k => h x hx p ys Q' hp (k _ rfl)) fun ys hys => by
    rw [Fa2.fn (fun a b e => e) hys]
    exact q
/-- a loop by an invariant over what is left, the turn shown for whatever follows -/
theorem forL_by {g : DG} {tb : DS} {S : Gp → Prop} {E : DEnds} (W : List D → Sl → Gp → Prop) (hS : ∀ l δ G, W l δ G → S G) (hs : ∀ x r δ G (N : Sl → Gp → Prop), W (x :: r) δ G → (∀ δ G, W r δ G → N δ G) → g x δ G fun δ1 G1 => tb { E with nx := N, ct := N, bk := E.nx } δ1 G1)
    (hd : ∀ δ G, W [] δ G → E.nx δ G) : ∀ (its : List D) δ G, W its δ G → forL g tb S its E δ G
  | [], δ, G, w => ⟨hS _ _ _ w, hd δ G w⟩
  | x :: r, δ, G, w => ⟨hS _ _ _ w, hs x r δ G _ w fun δ G w => forL_by W hS hs hd r δ G w⟩
/-! ### drawing -/
/-- a hand that draws: cells, place, digits, two numbers -/
def Hand (xs : List D) : Prop := ∃ (cs : List Int) (p q r t : Int), xs = [.lst (cs.map D.int), .int p, .int q, .int r, .int t] ∧ 0 ≤ p
def isHand (G : Gp) (h : Addr) : Prop := G h = some (.abl Hand)
theorem isHand.gu {G : Gp} {h p : Addr} {o : GO} (i : isHand G h) (n : p ≠ h) : isHand (gu G p o) h := by
  unfold isHand
  rw [gu_ne (Ne.symm n)]
  exact i
theorem isHand.new {G : Gp} {h p : Addr} {o : GO} (i : isHand G h) (n : G p = none) : isHand (DL.gu G p o) h := i.gu (Ne.symm (ne_free i n))
/-- the draw: a number below many, whichever -/
def sp_L_draw : DSp := fun ds G Q _ => match ds with
  | [.ref h, .int m] => isHand G h ∧ 0 < m ∧ m < 2 ^ 60 ∧ ∀ d : Int, 0 ≤ d → d < m → Q (.int d) G
  | _ => False
/-- the same with the hand open -/
def sp_L_draw_o : DSp := fun ds G Q _ => match ds with
  | [.ref h, .int m] => ∃ xs, Hand xs ∧ G h = some (.lst xs) ∧ 0 < m ∧ m < 2 ^ 60 ∧ ∀ (d : Int) ys, Hand ys → 0 ≤ d → d < m → Q (.int d) (gu G h (.lst ys))
  | _ => False
theorem hand_close {P : Program} {w : World} {K : PySem.W.Frag} {mg : Str → Option Value} {base : Heap} {CX : CXT} {k : Nat} {f : Addr} {fd : FuncData} {ps : List Str} (F : FnG P w K mg base CX k f fd ps (LSp K sp_L_draw_o)) : FnG P w K mg base CX k f fd ps (LSp K sp_L_draw) :=
  F.weak fun vs H Q E ⟨F, G, ds, Q', E', r, w, q, ko, ke⟩ => by
    unfold sp_L_draw at q
    split at q
    · rename_i h m
      obtain ⟨hh, m0, m1, q⟩ := q
      obtain ⟨f1, xs, us, hx, hv, rv⟩ := w.mu h _ hh
      have w2 : Wd K F (gu G h (.lst xs)) H := ⟨w.fz, fun a o e => by
        by_cases ha : a = h
        · subst ha; rw [gu_same] at e; cases e; exact ⟨f1, us, hv, rv⟩
        · rw [gu_ne ha] at e; exact w.mu a o e⟩
      refine ⟨F, gu G h (.lst xs), _, fun d G' => ∃ n ys, d = .int n ∧ Hand ys ∧ G' = gu G h (.lst ys) ∧ 0 ≤ n ∧ n < m, E', r, w2, ⟨xs, hx, gu_same, m0, m1, fun d ys hy d0 d1 => ⟨d, ys, rfl, hy, by rw [gu_gu], d0, d1⟩⟩, fun d v F' G' H' s' w' r' q' => ?_, ke⟩
      obtain ⟨n, ys, rfl, hy, rfl, n0, n1⟩ := q'
      obtain ⟨f2, us2, hv2, rv2⟩ := w'.lst (p := h) gu_same
      have w3 : Wd K F' G H' := ⟨w'.fz, fun a o e => by
        by_cases ha : a = h
        · subst ha
          have e2 : some (GO.abl Hand) = some o := hh.symm.trans e
          cases e2
          exact ⟨f2, ys, us2, hy, hv2, rv2⟩
        · exact w'.mu a o (by rw [gu_ne ha]; exact e)⟩
      exact ko _ v F' G H' s' w3 r' (q n n0 n1)
    · exact q.elim
/-- a list is shut: so much is known of it from now on -/
theorem Rt.abl {Q : DK} {a : Addr} {xs : List D} {G : Gp} {P : List D → Prop} (h : G a = some (.lst xs)) (p : P xs) (q : Q (.ref a) (gu G a (.abl P))) : Rt Q (.ref a) G := by
  refine ⟨.ref a, gu G a (.abl P), fun K F H v w r => ⟨F, Same.refl F, ⟨w.fz, fun b o e => ?_⟩, by cases r; exact .ref a⟩, q⟩
  by_cases hb : b = a
  · subst hb
    rw [gu_same] at e
    cases e
    obtain ⟨f1, us, hv, rv⟩ := w.lst h
    exact ⟨f1, xs, us, p, hv, rv⟩
  · rw [gu_ne hb] at e
    exact w.mu b o e

/-! ### one word of unfolding -/
end DL

/-! Plain data and what is asked of it. -/
namespace DL
open PySem PySem.Spec PyProof.Rows L2

mutual
/-- plain data: no list that may change, no class, no instance in it -/
def pd : D → Bool
  | .non | .bl _ | .int _ | .str _ => true
  | .tup xs => pds xs
  | .lst xs => pds xs
  | .dct kvs => pdk kvs
  | _ => false
def pds : List D → Bool
  | [] => true
  | x :: r => pd x && pds r
def pdk : List (Key × D) → Bool
  | [] => true
  | (_, x) :: r => pd x && pdk r
end
def kd : D → String
  | .non => "NoneType" | .bl _ => "bool" | .int _ => "int" | .str _ => "str" | .tup _ => "tuple" | .dct _ => "dict" | _ => "list"
theorem pds_iff : ∀ {xs : List D}, pds xs = true ↔ ∀ x ∈ xs, pd x = true
  | [] => by simp [pds]
  | x :: r => by
    unfold pds
    rw [Bool.and_eq_true, pds_iff]
    simp
theorem pd_tup {xs : List D} : pd (.tup xs) = true ↔ ∀ x ∈ xs, pd x = true := by rw [show pd (.tup xs) = pds xs by rw [pd]]; exact pds_iff
theorem pd_lst {xs : List D} : pd (.lst xs) = true ↔ ∀ x ∈ xs, pd x = true := by rw [show pd (.lst xs) = pds xs by rw [pd]]; exact pds_iff
theorem pd_tup2 {a b : D} : pd (.tup [a, b]) = true ↔ pd a = true ∧ pd b = true := by rw [pd_tup]; simp
@[simp] theorem pd_int {i : Int} : pd (.int i) = true := by unfold pd; rfl
@[simp] theorem pd_str {i : Str} : pd (.str i) = true := by unfold pd; rfl
@[simp] theorem pd_bl {i : Bool} : pd (.bl i) = true := by unfold pd; rfl
@[simp] theorem pd_non : pd .non = true := by unfold pd; rfl
@[simp] theorem pd_dct0 : pd (.dct []) = true := by unfold pd pdk; rfl
theorem ty_pd {x : D} {G : Gp} (h : pd x = true) : tyOf x G = some (kd x) := by
  cases x <;> first | rfl | (unfold pd at h; cases h)
def isI : D → Bool | .int _ => true | _ => false
def isB : D → Bool | .bl _ => true | _ => false
def isT : D → Bool | .tup _ => true | _ => false
def isS : D → Bool | .str _ => true | _ => false
def isL : D → Bool | .lst _ => true | _ => false
def isDc : D → Bool | .dct _ => true | _ => false
theorem kd_int (x : D) : subTy (kd x) "int" = (isI x || isB x) := by cases x <;> rfl
theorem kd_bool (x : D) : subTy (kd x) "bool" = isB x := by cases x <;> rfl
theorem kd_tuple (x : D) : subTy (kd x) "tuple" = isT x := by cases x <;> rfl
theorem kd_str (x : D) : subTy (kd x) "str" = isS x := by cases x <;> rfl
theorem kd_dict (x : D) : subTy (kd x) "dict" = isDc x := by cases x <;> rfl
theorem kd_list {x : D} (h : pd x = true) : subTy (kd x) "list" = isL x := by cases x <;> first | rfl | (unfold pd at h; cases h)
/-- the number told (0 where there is none) -/
def iv : D → Int | .int i => i | _ => 0
def isum (xs : List D) : Int := (xs.map iv).sum
/-- a whole number from lo to hi -/
def isW (x : D) (lo hi : Int) : Bool := match x with | .int i => decide (lo ≤ i) && decide (i ≤ hi) | _ => false
theorem isW_int {i lo hi : Int} : isW (.int i) lo hi = (decide (lo ≤ i) && decide (i ≤ hi)) := rfl
theorem isW_isI {x : D} {lo hi : Int} (h : isW x lo hi = true) : ∃ i, x = .int i ∧ lo ≤ i ∧ i ≤ hi := by
  cases x <;> first | cases h | (unfold isW at h; simp at h; exact ⟨_, rfl, h⟩)
theorem isI_iff {x : D} : isI x = true ↔ ∃ i, x = .int i := by cases x <;> simp [isI]
theorem isT_iff {x : D} : isT x = true ↔ ∃ i, x = .tup i := by cases x <;> simp [isT]
theorem intsOf_isI : ∀ {xs : List D}, (∀ x ∈ xs, isI x = true) → intsOf xs = some (xs.map iv)
  | [], _ => rfl
  | x :: r, h => by
    obtain ⟨i, rfl⟩ := isI_iff.mp (h x List.mem_cons_self)
    unfold intsOf
    rw [intsOf_isI fun y hy => h y (List.mem_cons_of_mem _ hy)]
    rfl
theorem ints_isI {xs : List D} (h : ∀ x ∈ xs, isI x = true) : xs = (xs.map iv).map D.int := by
  induction xs with
  | nil => rfl
  | cons x r ih =>
    obtain ⟨i, rfl⟩ := isI_iff.mp (h x List.mem_cons_self)
    rw [List.map_cons, List.map_cons, ← ih fun y hy => h y (List.mem_cons_of_mem _ hy)]
    rfl
@[simp] theorem at_0 {α : Type} (a : α) (l : List α) : atI (a :: l) 0 = some a := by
  unfold atI ixN
  simp only [List.length_cons]
  rw [if_pos (by omega), if_pos (by omega)]
  rfl
@[simp] theorem at_1 {α : Type} (a b : α) (l : List α) : atI (a :: b :: l) 1 = some b := by
  unfold atI ixN
  simp only [List.length_cons]
  rw [if_pos (by omega), if_pos (by omega)]
  rfl
@[simp] theorem at_2 {α : Type} (a b c : α) (l : List α) : atI (a :: b :: c :: l) 2 = some c := by
  unfold atI ixN
  simp only [List.length_cons]
  rw [if_pos (by omega), if_pos (by omega)]
  rfl
@[simp] theorem at_3 {α : Type} (a b c d : α) (l : List α) : atI (a :: b :: c :: d :: l) 3 = some d := by
  unfold atI ixN
  simp only [List.length_cons]
  rw [if_pos (by omega), if_pos (by omega)]
  rfl
@[simp] theorem at_4 {α : Type} (a b c d e : α) (l : List α) : atI (a :: b :: c :: d :: e :: l) 4 = some e := by
  unfold atI ixN
  simp only [List.length_cons]
  rw [if_pos (by omega), if_pos (by omega)]
  rfl
theorem at_nat {α : Type} {l : List α} {i : Int} (h : 0 ≤ i) : atI l i = l[i.toNat]? := by
  unfold atI ixN
  by_cases hi : i < l.length
  · rw [if_pos h, if_pos hi]
    rfl
  · rw [if_pos h, if_neg hi, List.getElem?_eq_none (by omega)]
    rfl
theorem at_mem {α : Type} {l : List α} {i : Int} (h : 0 ≤ i) (hi : i < l.length) : ∃ y ∈ l, atI l i = some y := by
  have e : l[i.toNat]? = some (l[i.toNat]'(by omega)) := List.getElem?_eq_getElem (by omega)
  exact ⟨_, List.getElem_mem (by omega), (at_nat h).trans e⟩
theorem ixN_lt {n : Nat} {i : Int} (h : 0 ≤ i) (hi : i < n) : ixN n i = some i.toNat := by
  unfold ixN
  rw [if_pos h, if_pos hi]
theorem rt_same {Q : DK} {d : D} {G : Gp} (q : Q d G) : Rt Q d G := Rt.same q
theorem seq_lst {xs : List D} {G : Gp} : seqOf (.lst xs) G = some xs := rfl
theorem seq_tup {xs : List D} {G : Gp} : seqOf (.tup xs) G = some xs := rfl
theorem seq_scr {xs : List D} {G : Gp} : seqOf (.scr xs) G = some xs := rfl
theorem rl_lst {xs : List D} {G : Gp} : rlOf (.lst xs) G = some xs := rfl
theorem rl_scr {xs : List D} {G : Gp} : rlOf (.scr xs) G = some xs := rfl
theorem seq_ref {a : Addr} {xs : List D} {G : Gp} (h : G a = some (.lst xs)) : seqOf (.ref a) G = some xs := by
  show (match G a with | some (.lst xs) => some xs | _ => none) = some xs
  rw [h]
theorem rl_ref {a : Addr} {xs : List D} {G : Gp} (h : G a = some (.lst xs)) : rlOf (.ref a) G = some xs := by
  show (match G a with | some (.lst xs) => some xs | _ => none) = some xs
  rw [h]
theorem lst_ref {a : Addr} {xs : List D} {G : Gp} (h : G a = some (.lst xs)) : lstOf (.ref a) G = some xs := by
  show (match G a with | some (.lst xs) => some xs | _ => none) = some xs
  rw [h]
theorem lst_lst {xs : List D} {G : Gp} : lstOf (.lst xs) G = some xs := rfl
theorem seq_gu {a : Addr} {xs : List D} {G : Gp} : seqOf (.ref a) (gu G a (.lst xs)) = some xs := seq_ref gu_same
theorem rl_gu {a : Addr} {xs : List D} {G : Gp} : rlOf (.ref a) (gu G a (.lst xs)) = some xs := rl_ref gu_same
theorem lst_gu {a : Addr} {xs : List D} {G : Gp} : lstOf (.ref a) (gu G a (.lst xs)) = some xs := lst_ref gu_same
theorem len12 {n : Nat} {k : Int} (h : (n : Int) = k) (h2 : k ≤ 1000) : n ≤ sizeLine := Nat.le_trans (by omega : n ≤ 1000) (by decide)
theorem all_map_id {α : Type} {f : α → Bool} {l : List α} : (l.map f).all id = l.all f := by rw [List.all_map]; rfl
theorem any_map_id {α : Type} {f : α → Bool} {l : List α} : (l.map f).any id = l.any f := by rw [List.any_map]; rfl
theorem tup_of_pd2 {xs : List D} (h : ((xs.length : Int) = 2)) : ∃ a b, xs = [a, b] := by
  match xs with
  | [a, b] => exact ⟨a, b, rfl⟩
  | [] => simp at h
  | [_] => simp at h
  | _ :: _ :: _ :: _ => simp only [List.length_cons] at h; omega
end DL

/-! What the operations do, constructor by constructor (words for the simplifier). -/
namespace DL
open PySem PySem.Spec PyProof.Rows L2
section
variable {G : Gp} {Q : DK} {m : Bool} {i j : Int} {s t : Str} {a b : Bool} {xs ys : List D} {p : Addr} {x y : D}
theorem w_len_str : dLen [.str s] G Q = (s.length ≤ sizeLine ∧ Q (.int s.length) G) := rfl
theorem w_len_tup : dLen [.tup xs] G Q = Q (.int xs.length) G := rfl
theorem w_len_lst : dLen [.lst xs] G Q = Q (.int xs.length) G := rfl
theorem w_len_scr : dLen [.scr xs] G Q = Q (.int xs.length) G := rfl
theorem w_len_ref (h : G p = some (.lst xs)) : dLen [.ref p] G Q = Q (.int xs.length) G := by
  show (match seqOf (.ref p) G with | some ys => Q (.int ys.length) G | none => False) = _
  rw [seq_ref h]
theorem w_len_gu : dLen [.ref p] (gu G p (.lst xs)) Q = Q (.int xs.length) (gu G p (.lst xs)) := w_len_ref gu_same
/-- the item at i -/
def gotI (xs : List D) (i : Int) (G : Gp) (Q : DK) : Prop := match atI xs i with | some d => Q d G | none => False
theorem w_ix_tup : dIx (.tup xs) (.int i) G Q = gotI xs i G Q := rfl
theorem w_ix_lst : dIx (.lst xs) (.int i) G Q = gotI xs i G Q := rfl
theorem w_ix_scr : dIx (.scr xs) (.int i) G Q = gotI xs i G Q := rfl
theorem w_ix_ref (h : G p = some (.lst xs)) : dIx (.ref p) (.int i) G Q = gotI xs i G Q := by
  show (match seqOf (.ref p) G with | some xs => (match atI xs i with | some d => Q d G | none => False) | none => False) = _
  rw [seq_ref h]
  rfl
theorem w_ix_gu : dIx (.ref p) (.int i) (gu G p (.lst xs)) Q = gotI xs i (gu G p (.lst xs)) Q := w_ix_ref gu_same
theorem got_eq {d : D} (h : atI xs i = some d) : gotI xs i G Q = Q d G := by unfold gotI; rw [h]
theorem w_got_0 : gotI (x :: xs) 0 G Q = Q x G := got_eq (at_0 _ _)
theorem w_got_1 {x1 : D} : gotI (x :: x1 :: xs) 1 G Q = Q x1 G := got_eq (at_1 _ _ _)
theorem w_got_2 {x1 x2 : D} : gotI (x :: x1 :: x2 :: xs) 2 G Q = Q x2 G := got_eq (at_2 _ _ _ _)
theorem w_got_3 {x1 x2 x3 : D} : gotI (x :: x1 :: x2 :: x3 :: xs) 3 G Q = Q x3 G := got_eq (at_3 _ _ _ _ _)
theorem w_got_4 {x1 x2 x3 x4 : D} : gotI (x :: x1 :: x2 :: x3 :: x4 :: xs) 4 G Q = Q x4 G := got_eq (at_4 _ _ _ _ _ _)
theorem got_in (h0 : 0 ≤ i) (h1 : i < xs.length) (q : ∀ y ∈ xs, Q y G) : gotI xs i G Q := by
  obtain ⟨y, hy, e⟩ := at_mem (l := xs) h0 h1
  unfold gotI
  rw [e]
  exact q y hy
theorem w_add_int : dAdd m (.int i) (.int j) G Q = Q (.int (i + j)) G := rfl
theorem w_add_str : dAdd m (.str s) (.str t) G Q = (s.length + t.length ≤ sizeLine ∧ Q (.str (s ++ t)) G) := rfl
theorem w_add_tup : dAdd m (.tup xs) (.tup ys) G Q = (xs.length + ys.length ≤ sizeLine ∧ Q (.tup (xs ++ ys)) G) := rfl
theorem w_add_lst : dAdd m (.lst xs) (.lst ys) G Q = (xs.length + ys.length ≤ sizeLine ∧ nL m (xs ++ ys) G Q) := rfl
theorem w_mul_int : dMul m (.int i) (.int j) G Q = (MulOk i j ∧ Q (.int (i * j)) G) := rfl
theorem w_mul_tup : dMul m (.tup xs) (.int j) G Q = (-(2 ^ 63) ≤ j ∧ j ≤ 1000 ∧ xs.length ≤ 1000 ∧ Q (.tup (rep j xs)) G) := rfl
theorem w_mul_lst : dMul m (.lst xs) (.int j) G Q = (-(2 ^ 63) ≤ j ∧ j < 2 ^ 63 ∧ xs.length * j.toNat ≤ sizeLine ∧ nL m (rep j xs) G Q) := rfl
theorem w_eq_int : dEq (.int i) (.int j) G Q = Q (.bl (decide (i = j))) G := rfl
theorem w_eq_str : dEq (.str s) (.str t) G Q = Q (.bl (decide (s = t))) G := rfl
theorem w_eq_bl : dEq (.bl a) (.bl b) G Q = Q (.bl (decide (a = b))) G := rfl
theorem w_ne_int : dNe (.int i) (.int j) G Q = Q (.bl (!decide (i = j))) G := rfl
theorem w_ne_str : dNe (.str s) (.str t) G Q = Q (.bl (!decide (s = t))) G := rfl
theorem w_ne_bl : dNe (.bl a) (.bl b) G Q = Q (.bl (!decide (a = b))) G := rfl
/-- the sum, where all are whole -/
def sumI (xs : List D) (G : Gp) (Q : DK) : Prop := match intsOf xs with | some bs => Q (.int bs.sum) G | none => False
theorem w_sum_tup : dSum [.tup xs] G Q = sumI xs G Q := rfl
theorem w_sum_lst : dSum [.lst xs] G Q = sumI xs G Q := rfl
theorem w_sum_ref (h : G p = some (.lst xs)) : dSum [.ref p] G Q = sumI xs G Q := by
  show (match seqOf (.ref p) G with | some ys => (match intsOf ys with | some bs => Q (.int bs.sum) G | none => False) | none => False) = _
  rw [seq_ref h]
  rfl
theorem w_sum_map {α : Type} {f : α → Int} {l : List α} : sumI (l.map fun x => .int (f x)) G Q = Q (.int (l.map f).sum) G := by unfold sumI; rw [intsOf_map]
theorem w_sum_ints {l : List Int} : sumI (l.map D.int) G Q = Q (.int l.sum) G := by unfold sumI; rw [intsOf_ints]
theorem w_sum_isI (h : ∀ x ∈ xs, isI x = true) : sumI xs G Q = Q (.int (isum xs)) G := by unfold sumI; rw [intsOf_isI h]; rfl
def blsI (f : List Bool → Bool) (xs : List D) (G : Gp) (Q : DK) : Prop := match blsOf xs with | some bs => Q (.bl (f bs)) G | none => False
theorem w_bls_lst {f : List Bool → Bool} : dBls f [.lst xs] G Q = blsI f xs G Q := rfl
theorem w_bls_map {f : List Bool → Bool} {α : Type} {g : α → Bool} {l : List α} : blsI f (l.map fun x => .bl (g x)) G Q = Q (.bl (f (l.map g))) G := by unfold blsI; rw [blsOf_map]
theorem w_all_lst : dAll [.lst xs] G Q = blsI (fun bs => bs.all id) xs G Q := rfl
theorem w_any_lst : dAny [.lst xs] G Q = blsI (fun bs => bs.any id) xs G Q := rfl
theorem w_tupOf_tup : dTupleOf [.tup xs] G Q = Q (.tup xs) G := rfl
theorem w_tupOf_lst : dTupleOf [.lst xs] G Q = Q (.tup xs) G := rfl
theorem w_tupOf_scr : dTupleOf [.scr xs] G Q = Q (.tup xs) G := rfl
theorem w_tupOf_ref (h : G p = some (.lst xs)) : dTupleOf [.ref p] G Q = Q (.tup xs) G := by
  show (match seqOf (.ref p) G with | some ys => Q (.tup ys) G | none => False) = _
  rw [seq_ref h]
theorem w_tupOf_gu : dTupleOf [.ref p] (gu G p (.lst xs)) Q = Q (.tup xs) (gu G p (.lst xs)) := w_tupOf_ref gu_same
theorem w_lstOf_tup : dListOf m [.tup xs] G Q = nL m xs G Q := rfl
theorem w_lstOf_lst : dListOf m [.lst xs] G Q = nL m xs G Q := rfl
theorem w_lstOf_scr : dListOf m [.scr xs] G Q = nL m xs G Q := rfl
theorem w_lstOf_ref (h : G p = some (.lst xs)) : dListOf m [.ref p] G Q = nL m xs G Q := by
  show (match seqOf (.ref p) G with | some ys => nL m ys G Q | none => False) = _
  rw [seq_ref h]
theorem w_nL_f : nL false xs G Q = Q (.lst xs) G := rfl
theorem w_nL_t : nL true xs G Q = ∀ a, G a = none → Q (.ref a) (gu G a (.lst xs)) := rfl
/-- xs[k] = v -/
def setI (xs : List D) (k : Int) (v : D) (Q : List D → Prop) : Prop := match ixN xs.length k with | some j => Q (xs.set j v) | none => False
theorem w_set_ref {N : Gp → Prop} {v : D} (h : G p = some (.lst xs)) : dSetL (.ref p) (.int i) v G N = setI xs i v fun ys => N (gu G p (.lst ys)) := by
  show (match G p with | some (.lst xs) => (match ixN xs.length i with | some j => N (gu G p (.lst (xs.set j v))) | none => False) | _ => False) = _
  rw [h]
  rfl
theorem w_set_gu {N : Gp → Prop} {v : D} : dSetL (.ref p) (.int i) v (gu G p (.lst xs)) N = setI xs i v fun ys => N (gu G p (.lst ys)) := by
  rw [w_set_ref gu_same]
  simp only [gu_gu]
theorem setI_lt {v : D} {N : List D → Prop} (h0 : 0 ≤ i) (h1 : i < xs.length) (q : N (xs.set i.toNat v)) : setI xs i v N := by
  unfold setI
  rw [ixN_lt h0 h1]
  exact q
theorem w_setI_0 {v : D} {N : List D → Prop} : setI (x :: xs) 0 v N = N (v :: xs) := by
  unfold setI
  rw [ixN_lt (by omega) (by simp only [List.length_cons]; omega)]
  rfl
theorem w_setI_1 {v x1 : D} {N : List D → Prop} : setI (x :: x1 :: xs) 1 v N = N (x :: v :: xs) := by
  unfold setI
  rw [ixN_lt (by omega) (by simp only [List.length_cons]; omega)]
  rfl
theorem w_setI_2 {v x1 x2 : D} {N : List D → Prop} : setI (x :: x1 :: x2 :: xs) 2 v N = N (x :: x1 :: v :: xs) := by
  unfold setI
  rw [ixN_lt (by omega) (by simp only [List.length_cons]; omega)]
  rfl
theorem w_setI_3 {v x1 x2 x3 : D} {N : List D → Prop} : setI (x :: x1 :: x2 :: x3 :: xs) 3 v N = N (x :: x1 :: x2 :: v :: xs) := by
  unfold setI
  rw [ixN_lt (by omega) (by simp only [List.length_cons]; omega)]
  rfl
theorem w_setI_4 {v x1 x2 x3 x4 : D} {N : List D → Prop} : setI (x :: x1 :: x2 :: x3 :: x4 :: xs) 4 v N = N (x :: x1 :: x2 :: x3 :: v :: xs) := by
  unfold setI
  rw [ixN_lt (by omega) (by simp only [List.length_cons]; omega)]
  rfl
theorem w_atL_ref {f : Addr → List D → Prop} (h : G p = some (.lst xs)) : atL (.ref p) G f = f p xs := by
  show (match G p with | some (.lst xs) => f p xs | _ => False) = _
  rw [h]
theorem w_atL_gu {f : Addr → List D → Prop} : atL (.ref p) (gu G p (.lst xs)) f = f p xs := w_atL_ref gu_same
theorem rep_one {k : Int} : rep k [x] = List.replicate k.toNat x := by
  unfold rep
  induction k.toNat with
  | zero => rfl
  | succ n ih => rw [List.replicate_succ, List.flatten_cons, ih]; rfl
/-- isinstance of plain data -/
theorem isi_pd {T : String} (h : pd x = true) : dIsi [x, .ty T] G Q = (T ∈ ["int", "bool", "str", "tuple", "list", "dict"] ∧ Q (.bl (subTy (kd x) T)) G) := by
  show (match tyOf x G with | some n => _ ∧ Q (.bl (subTy n T)) G | none => False) = _
  rw [ty_pd h]
theorem isi_int (h : pd x = true) : dIsi [x, .ty "int"] G Q = Q (.bl (isI x || isB x)) G := by rw [isi_pd h, kd_int]; simp
theorem isi_bool (h : pd x = true) : dIsi [x, .ty "bool"] G Q = Q (.bl (isB x)) G := by rw [isi_pd h, kd_bool]; simp
theorem isi_tuple (h : pd x = true) : dIsi [x, .ty "tuple"] G Q = Q (.bl (isT x)) G := by rw [isi_pd h, kd_tuple]; simp
theorem isi_str (h : pd x = true) : dIsi [x, .ty "str"] G Q = Q (.bl (isS x)) G := by rw [isi_pd h, kd_str]; simp
theorem isi_dict (h : pd x = true) : dIsi [x, .ty "dict"] G Q = Q (.bl (isDc x)) G := by rw [isi_pd h, kd_dict]; simp
theorem isi_list (h : pd x = true) : dIsi [x, .ty "list"] G Q = Q (.bl (isL x)) G := by rw [isi_pd h, kd_list h]; simp
theorem repr_bl : dRepr [.bl b] G Q = (PyData.showable (.bool b) = true ∧ (PyData.shown (.bool b)).length ≤ sizeLine ∧ (PyData.depth (.bool b)) ≤ 100 ∧ Q (.str (PyData.shown (.bool b))) G) := rfl
theorem len_seq (h : seqOf x G = some xs) : dLen [x] G Q = Q (.int xs.length) G := by
  cases x with
  | tup ys => cases h; rfl
  | lst ys => cases h; rfl
  | scr ys => cases h; rfl
  | ref a =>
    show (match seqOf (.ref a) G with | some ys => Q (.int ys.length) G | none => False) = _
    rw [h]
  | _ => cases h
theorem ix_seqD (h : seqOf x G = some xs) : dIx x (.int i) G Q = gotI xs i G Q := by
  cases x with
  | tup ys => cases h; rfl
  | lst ys => cases h; rfl
  | scr ys => cases h; rfl
  | ref a =>
    show (match seqOf (.ref a) G with | some xs => (match atI xs i with | some d => Q d G | none => False) | none => False) = _
    rw [h]
    rfl
  | _ => cases h
theorem w_draw {E : DX} : sp_L_draw [.ref p, .int i] G Q E = (isHand G p ∧ 0 < i ∧ i < 2 ^ 60 ∧ ∀ d : Int, 0 ≤ d → d < i → Q (.int d) G) := rfl
end
theorem cut_mem {xs : List D} {lo hi : Option Int} {y : D} (h : y ∈ cutD xs lo hi) : y ∈ xs := List.mem_of_mem_drop (List.mem_of_mem_take h)
theorem cut_len {xs : List D} {lo hi : Option Int} : (cutD xs lo hi).length ≤ xs.length := by
  unfold cutD
  rw [List.length_take, List.length_drop]
  omega
theorem cut_ints {ns : List Int} {lo hi : Option Int} : ∃ ms : List Int, cutD (ns.map D.int) lo hi = ms.map D.int ∧ ms.length ≤ ns.length := by
  refine ⟨(ns.drop (HT.sIx ns.length 0 lo)).take (HT.sIx ns.length ns.length hi - HT.sIx ns.length 0 lo), ?_, ?_⟩
  · unfold cutD
    rw [List.length_map, List.map_take, List.map_drop]
  · rw [List.length_take, List.length_drop]
    omega
theorem cut_to {xs : List D} {i : Int} (h : 0 ≤ i) : cutD xs none (some i) = xs.take i.toNat := by
  unfold cutD HT.sIx
  simp only [if_neg (Int.not_lt.mpr h), List.drop_zero, Nat.sub_zero]
  exact (List.take_eq_take_iff.mpr (by omega))
theorem cut_from {xs : List D} {i : Int} (h : 0 ≤ i) : cutD xs (some i) none = xs.drop i.toNat := by
  unfold cutD HT.sIx
  simp only [if_neg (Int.not_lt.mpr h)]
  rw [List.take_of_length_le (by rw [List.length_drop]; omega)]
  by_cases hl : i.toNat ≤ xs.length
  · rw [Nat.min_eq_left hl]
  · rw [Nat.min_eq_right (by omega), List.drop_eq_nil_of_le (by omega), List.drop_eq_nil_of_le (by omega)]
theorem perm_erase {α : Type} : ∀ {l : List α} {i : Nat} (h : i < l.length), (l[i] :: l.eraseIdx i).Perm l
  | [], _, h => nomatch h
  | x :: r, 0, _ => .refl _
  | x :: r, i + 1, h => by
    have h' : i < r.length := by simpa using h
    show (r[i] :: x :: r.eraseIdx i).Perm (x :: r)
    exact (List.Perm.swap _ _ _).trans ((perm_erase h').cons x)
theorem CPow.lit {i j : Int} (h : (decide (0 ≤ j) && decide (j ≤ 1000000) && decide (i.natAbs < 2 ^ 64)) = true) : CPow i j := by
  rw [Bool.and_eq_true, Bool.and_eq_true, decide_eq_true_iff, decide_eq_true_iff, decide_eq_true_iff] at h
  exact ⟨h.1.1, h.1.2, h.2⟩
theorem DivOk.lit {i j : Int} (h : 0 < j) (h2 : j < 2 ^ 64) : DivOk i j := ⟨h, by
  have : j.natAbs < 2 ^ 64 := by omega
  have h3 : j.natAbs.log2 < 64 := (Nat.log2_lt (by omega)).mpr this
  omega⟩
end DL

/-! Plain facts: numbered lists, orders, sums. -/
namespace DL
open PySem PySem.Spec PyProof.Rows L2
def enumI : Int → List D → List D
  | _, [] => []
  | k, x :: r => .tup [.int k, x] :: enumI (k + 1) r
theorem prs_enumI : ∀ (xs : List D) (k : Int), prsD ((List.range xs.length).map fun i => D.int (k + (i : Nat))) xs = enumI k xs
  | [], _ => by simp [prsD, enumI]
  | x :: r, k => by
    have e : ((List.range (r.length + 1)).map fun i => D.int (k + (i : Nat))) = D.int k :: ((List.range r.length).map fun i => D.int (k + 1 + (i : Nat))) := by
      rw [List.range_succ_eq_map, List.map_cons, List.map_map]
      congr 1
      · simp
      · apply List.map_congr_left
        intro i _
        show D.int (k + ((i + 1 : Nat) : Int)) = _
        congr 1
        omega
    rw [List.length_cons, e]
    show D.tup [.int k, x] :: prsD _ r = _
    rw [prs_enumI r (k + 1)]
    rfl
theorem prs_enum (xs : List D) : prsD (numsD xs.length) xs = enumI 0 xs := by
  rw [← prs_enumI xs 0]
  unfold numsD
  congr 1
  apply List.map_congr_left
  intro i _
  rw [Int.zero_add]
theorem ints_map (l : List Int) : (l.map D.int).map iv = l := by
  rw [List.map_map]
  exact List.map_id' l
/-- an order of whole numbers is one of whole numbers -/
theorem perm_ints {ms : List D} {l : List Int} (h : ms.Perm (l.map D.int)) : ∃ ps : List Int, ms = ps.map D.int ∧ ps.Perm l := by
  refine ⟨ms.map iv, ints_isI fun x hx => ?_, by have := h.map iv; rwa [ints_map] at this⟩
  obtain ⟨i, _, rfl⟩ := List.mem_map.mp (h.mem_iff.mp hx)
  rfl
def upto (n : Int) : List Int := (List.range n.toNat).map fun i => ((i : Nat) : Int)
theorem rgD_upto (n : Int) : rgD 0 n = (upto n).map D.int := by
  unfold rgD upto
  rw [List.map_map]
  rw [show (n - 0).toNat = n.toNat by omega]
  apply List.map_congr_left
  intro i _
  show D.int (0 + (i : Int)) = D.int i
  rw [Int.zero_add]
theorem upto_nodup (n : Int) : (upto n).Nodup := by
  unfold upto
  refine List.Pairwise.map _ ?_ List.nodup_range
  intro a b h e
  exact h (by omega)
theorem upto_mem {n i : Int} : i ∈ upto n ↔ 0 ≤ i ∧ i < n := by
  unfold upto
  rw [List.mem_map]
  constructor
  · rintro ⟨j, hj, rfl⟩
    rw [List.mem_range] at hj
    omega
  · rintro ⟨h0, h1⟩
    exact ⟨i.toNat, by rw [List.mem_range]; omega, by omega⟩
theorem upto_length (n : Int) : (upto n).length = n.toNat := by unfold upto; rw [List.length_map, List.length_range]
theorem sum_set : ∀ (l : List Int) (i : Nat) (v : Int) (h : i < l.length), (l.set i v).sum = l.sum - l[i] + v
  | [], _, _, h => nomatch h
  | x :: r, 0, v, _ => by simp only [List.set_cons_zero, List.sum_cons, List.getElem_cons_zero]; omega
  | x :: r, i + 1, v, h => by
    have h' : i < r.length := by simpa using h
    simp only [List.set_cons_succ, List.sum_cons, List.getElem_cons_succ]
    rw [sum_set r i v h']
    omega
theorem sum_zeros (n : Nat) : (List.replicate n (0 : Int)).sum = 0 := by
  induction n with
  | zero => rfl
  | succ n ih => rw [List.replicate_succ, List.sum_cons, ih]; rfl
theorem map_set_int (l : List Int) (i : Nat) (v : Int) : (l.map D.int).set i (.int v) = (l.set i v).map D.int := by rw [List.map_set]
theorem rep_ints (n v : Int) : rep n [D.int v] = (List.replicate n.toNat v).map D.int := by rw [rep_one, List.map_replicate]
theorem got_ints {l : List Int} {i : Int} {G : Gp} {Q : DK} (h0 : 0 ≤ i) (h1 : i.toNat < l.length) : gotI (l.map D.int) i G Q = Q (.int l[i.toNat]) G := by
  refine got_eq ?_
  rw [at_nat h0, List.getElem?_map, List.getElem?_eq_getElem h1]
  rfl
/-- a condition that is plainly b -/
theorem ifS_mk {c : DT} {t u : DS} {E : DEnds} {δ : Sl} {G : Gp} (b : Bool) (hc : ∀ Q : Bool → Gp → Prop, Q b G → c δ G Q) (ht : b = true → t E δ G) (hu : b = false → u E δ G) : dIfS c t u E δ G :=
  hc _ (by
    cases b with
    | true => exact ht rfl
    | false => exact hu rfl)
theorem ifE_mk {c : DT} {t u : DE} {δ : Sl} {G : Gp} {Q : DK} (b : Bool) (hc : ∀ Q : Bool → Gp → Prop, Q b G → c δ G Q) (ht : b = true → t δ G Q) (hu : b = false → u δ G Q) : dIf c t u δ G Q :=
  hc _ (by
    cases b with
    | true => exact ht rfl
    | false => exact hu rfl)
/-- a pair whose second is a tuple -/
def isPT : D → Bool | .tup [_, .tup _] => true | _ => false
theorem isPT_iff {x : D} : isPT x = true ↔ ∃ a xs, x = .tup [a, .tup xs] := by
  constructor
  · intro h
    unfold isPT at h
    split at h
    · exact ⟨_, _, rfl⟩
    · cases h
  · rintro ⟨a, xs, rfl⟩
    rfl
mutual
/-- plain data, nothing in it longer than N -/
def pl (N : Nat) : D → Bool
  | .non | .bl _ | .int _ | .str _ => true
  | .tup xs => decide (xs.length ≤ N) && pls N xs
  | .lst xs => decide (xs.length ≤ N) && pls N xs
  | .dct kvs => decide (kvs.length ≤ N) && plk N kvs
  | _ => false
def pls (N : Nat) : List D → Bool
  | [] => true
  | x :: r => pl N x && pls N r
def plk (N : Nat) : List (Key × D) → Bool
  | [] => true
  | (_, x) :: r => pl N x && plk N r
end
theorem pls_iff {N : Nat} : ∀ {xs : List D}, pls N xs = true ↔ ∀ x ∈ xs, pl N x = true
  | [] => by simp [pls]
  | x :: r => by
    unfold pls
    rw [Bool.and_eq_true, pls_iff]
    simp
theorem pl_tup {N : Nat} {xs : List D} : pl N (.tup xs) = true ↔ xs.length ≤ N ∧ ∀ x ∈ xs, pl N x = true := by
  rw [show pl N (.tup xs) = (decide (xs.length ≤ N) && pls N xs) by rw [pl], Bool.and_eq_true, decide_eq_true_iff, pls_iff]
theorem pl_lst {N : Nat} {xs : List D} : pl N (.lst xs) = true ↔ xs.length ≤ N ∧ ∀ x ∈ xs, pl N x = true := by
  rw [show pl N (.lst xs) = (decide (xs.length ≤ N) && pls N xs) by rw [pl], Bool.and_eq_true, decide_eq_true_iff, pls_iff]
@[simp] theorem pl_int {N : Nat} {i : Int} : pl N (.int i) = true := by unfold pl; rfl
@[simp] theorem pl_str {N : Nat} {i : Str} : pl N (.str i) = true := by unfold pl; rfl
@[simp] theorem pl_bl {N : Nat} {i : Bool} : pl N (.bl i) = true := by unfold pl; rfl
@[simp] theorem pl_non {N : Nat} : pl N .non = true := by unfold pl; rfl
@[simp] theorem pl_dct0 {N : Nat} : pl N (.dct []) = true := by
  rw [show pl N (.dct []) = (decide (([] : List (Key × D)).length ≤ N) && plk N []) by rw [pl]]
  simp [plk]
mutual
theorem pl_pd {N : Nat} : ∀ x : D, pl N x = true → pd x = true
  | .non, _ => pd_non
  | .bl _, _ => pd_bl
  | .int _, _ => pd_int
  | .str _, _ => pd_str
  | .tup xs, h => by
    rw [pl, Bool.and_eq_true] at h
    rw [pd]
    exact pls_pds xs h.2
  | .lst xs, h => by
    rw [pl, Bool.and_eq_true] at h
    rw [pd]
    exact pls_pds xs h.2
  | .dct xs, h => by
    rw [pl, Bool.and_eq_true] at h
    rw [pd]
    exact plk_pdk xs h.2
  | .ty _, h => by rw [pl] at h <;> first | cases h | simp
  | .scr _, h => by rw [pl] at h <;> first | cases h | simp
  | .obj _ _, h => by rw [pl] at h <;> first | cases h | simp
  | .ref _, h => by rw [pl] at h <;> first | cases h | simp
  | .fn _, h => by rw [pl] at h <;> first | cases h | simp
theorem pls_pds {N : Nat} : ∀ xs : List D, pls N xs = true → pds xs = true
  | [], _ => by rw [pds]
  | x :: r, h => by
    rw [pls, Bool.and_eq_true] at h
    rw [pds, pl_pd x h.1, pls_pds r h.2]
    rfl
theorem plk_pdk {N : Nat} : ∀ xs : List (Key × D), plk N xs = true → pdk xs = true
  | [], _ => by rw [pdk]
  | (k, x) :: r, h => by
    rw [plk, Bool.and_eq_true] at h
    rw [pdk, pl_pd x h.1, plk_pdk r h.2]
    rfl
end
mutual
theorem pl_mono {N M : Nat} (k : N ≤ M) : ∀ x : D, pl N x = true → pl M x = true
  | .non, _ => pl_non
  | .bl _, _ => pl_bl
  | .int _, _ => pl_int
  | .str _, _ => pl_str
  | .tup xs, h => by
    rw [pl, Bool.and_eq_true, decide_eq_true_iff] at h
    rw [pl, Bool.and_eq_true, decide_eq_true_iff]
    exact ⟨by omega, pls_mono k xs h.2⟩
  | .lst xs, h => by
    rw [pl, Bool.and_eq_true, decide_eq_true_iff] at h
    rw [pl, Bool.and_eq_true, decide_eq_true_iff]
    exact ⟨by omega, pls_mono k xs h.2⟩
  | .dct xs, h => by
    rw [pl, Bool.and_eq_true, decide_eq_true_iff] at h
    rw [pl, Bool.and_eq_true, decide_eq_true_iff]
    exact ⟨by omega, plk_mono k xs h.2⟩
  | .ty _, h => by rw [pl] at h <;> first | cases h | simp
  | .scr _, h => by rw [pl] at h <;> first | cases h | simp
  | .obj _ _, h => by rw [pl] at h <;> first | cases h | simp
  | .ref _, h => by rw [pl] at h <;> first | cases h | simp
  | .fn _, h => by rw [pl] at h <;> first | cases h | simp
theorem pls_mono {N M : Nat} (k : N ≤ M) : ∀ xs : List D, pls N xs = true → pls M xs = true
  | [], _ => by rw [pls]
  | x :: r, h => by
    rw [pls, Bool.and_eq_true] at h
    rw [pls, pl_mono k x h.1, pls_mono k r h.2]
    rfl
theorem plk_mono {N M : Nat} (k : N ≤ M) : ∀ xs : List (Key × D), plk N xs = true → plk M xs = true
  | [], _ => by rw [plk]
  | (k', x) :: r, h => by
    rw [plk, Bool.and_eq_true] at h
    rw [plk, pl_mono k x h.1, plk_mono k r h.2]
    rfl
end
end DL

/-! enumerate and zip over lists and tuples in any mixture. -/
namespace DL
open PySem PySem.Spec PyProof.Rows L2

/-- a turn from a walk that hands out new tuples -/
theorem turn_wk {P : Program} {w : World} {K : PySem.W.Frag} {elts : List Expr} {kk : Nat} {tpos : Pos} {J : It} {tn : Nat → Heap → Prop} {wr tf : List Addr} {I : Addr} (mem : I ∈ tf) (sub : ∀ b ∈ wr, b ∈ tf)
    (obj : ∀ i h, tn i h → ∀ b ∈ tf, ∃ o, h.get? b = some o ∧ ∀ v, o.data ≠ .cell v)
    (keep : ∀ i h h', tn i h → (∀ b ∈ tf, ∀ o, h.get? b = some o → h'.get? b = some o) → tn i h')
    (self : ∀ (A : Around) (i : Nat) (s : Shared) (Q : Value → Shared → Prop) (E : Value → Shared → Prop), tn i s.heap → Q (.ref I) s → wpAny (model P w) A (pyIter (.ref I)) Q E s)
    (step : ∀ (X : Cx) (i : Nat) (pins : List (Addr × Obj)) (s : Shared) (σ : L2.St) (H : Hp), X.prog = P → X.w = w → X.K = K → X.calm = true → Inv X pins σ H s → tn i s.heap → J.go i H →
      ∃ (fp : List Addr) (n : Nat) (Pt : Nat → Array Value → Prop) (St : Nat → Heap → Prop) (Mid : Nat → Addr → Heap → Prop), WalksT P w X.A I fp wr n Pt St Mid ∧ i < n ∧ St i s.heap ∧ (∀ j h, St j h → tn j h) ∧
        ∀ vals, Pt i vals → ∃ (xs : List V) (us : List Value), vals = us.toArray ∧ xs.length ≤ sizeLine ∧ Vals xs us ∧ ∀ T, H T = none → J.yld i H (.ref T) (upd H T (.tup xs)))
    (stop : ∀ (X : Cx) (i : Nat) (pins : List (Addr × Obj)) (s : Shared) (σ : L2.St) (H : Hp), X.prog = P → X.w = w → X.K = K → X.calm = true → Inv X pins σ H s → tn i s.heap → J.stop i H →
      ∃ (fp : List Addr) (n : Nat) (Pt : Nat → Array Value → Prop) (St : Nat → Heap → Prop) (Mid : Nat → Addr → Heap → Prop), WalksT P w X.A I fp wr n Pt St Mid ∧ St n s.heap) :
    Turn P w K (.Tuple elts kk tpos) J tf I tn where
  mem := mem
  obj := obj
  keep := keep
  self := self
  item := fun X hP hw hK hc i pins s σ H E Iv hf st hg => by
    obtain ⟨fp, n, Pt, St, Mid, W, hi, hst, back, tell⟩ := step X i pins s σ H hP hw hK hc Iv st hg
    subst hP hw hK
    refine W.item i s _ E hi hst fun T vals h1 tk hPt hle hT hM hk => ?_
    refine ⟨_, rfl, W.go elts kk tpos i T { s with heap := h1, toks := tk } _ _ hM fun h2 hst2 hk2 => ?_⟩
    have out : ∀ b ∈ tf, b ≠ T := fun b hb e => by
      obtain ⟨o, ho, _⟩ := obj i _ st b hb
      exact absurd (Heap.lt_size ho) (by rw [e]; exact Nat.not_lt.mpr hle)
    obtain ⟨xs, us, rfl, hl, rv, hy⟩ := tell vals hPt
    have hTw : T ∉ wr := W.apart i T _ hM
    have hT2 : h2.IsTuple T us.toArray := hT.at fun o e => hk2 T o hTw e
    have new : ObjOk X.prog X.w (upd H T (.tup xs)) h2 T (.tup xs) := ⟨hl, us, rv, hT2⟩
    have I1 : Inv X pins σ (upd H T (.tup xs)) { s with heap := h2, toks := tk } :=
      Iv.turnedNew (ch := tf) (fun b o hb e => hk2 b o (fun z => hb (sub b z)) (hk b o (fun z => hb (sub b z)) e)) hf hle new
    exact ⟨.ref T, _, I1, rfl, hy T (Iv.hok.fresh hle), back _ _ hst2, fun b hb => by rw [upd_ne (out b hb)]; exact (hf b hb).1⟩
  done := fun X hP hw hK hc i pins s σ H E Iv hf st hg => by
    obtain ⟨fp, n, Pt, St, Mid, W, hst⟩ := stop X i pins s σ H hP hw hK hc Iv st hg
    subst hP hw hK
    exact W.done s _ E hst fun h1 tk hk => ⟨rfl, Iv.turnedL (t' := tk) (ch := tf) (fun b o hb e => hk b o (fun z => hb (sub b z)) e) hf⟩

/-- a list (false) or a tuple (true) -/
def SqX (K : PySem.W.Frag) (t : Bool) (H : Hp) (a : Addr) (xs : List V) : Prop := if t then SqT K H a xs else SqL K H a xs
def itX (t : Bool) (h : Heap) (it a : Addr) (i : Nat) : Prop := if t then h.IsTupleIter it a i else h.IsListIter it a i
def arX (t : Bool) (h : Heap) (a : Addr) (items : Array Value) : Prop := if t then h.IsTuple a items else h.IsList a items
theorem sqX_inv {X : Cx} {pins : List (Addr × Obj)} {s : Shared} {σ : L2.St} {H : Hp} {t : Bool} {a : Addr} {xs : List V} (I : Inv X pins σ H s) (h : SqX X.K t H a xs) : ∃ its : List Value, Vals xs its ∧ arX t s.heap a its.toArray := by
  cases t with
  | true =>
    obtain ⟨its, r, p, _⟩ := I.tuple (show SqT X.K H a xs from h)
    exact ⟨its, r, p⟩
  | false =>
    obtain ⟨its, r, p, _⟩ := I.list (show SqL X.K H a xs from h)
    exact ⟨its, r, p.isList⟩
theorem sqX_inj {X : Cx} {pins : List (Addr × Obj)} {s : Shared} {σ : L2.St} {H : Hp} {t : Bool} {a : Addr} {xs ys : List V} (I : Inv X pins σ H s) (h : SqX X.K t H a xs) (h' : SqX X.K t H a ys) : xs = ys := by
  cases t with
  | true => exact I.tuple_inj (show SqT X.K H a xs from h) h'
  | false => exact I.list_inj (show SqL X.K H a xs from h) h'
theorem itX_obj {t : Bool} {h : Heap} {it a : Addr} {i : Nat} (k : itX t h it a i) : ∃ o, h.get? it = some o ∧ ∀ v, o.data ≠ .cell v := by
  cases t with
  | true =>
    obtain ⟨o, e, _, d⟩ := (show h.IsTupleIter it a i from k)
    exact ⟨o, e, fun v q => by rw [d] at q; cases q⟩
  | false =>
    obtain ⟨o, e, _, d⟩ := (show h.IsListIter it a i from k)
    exact ⟨o, e, fun v q => by rw [d] at q; cases q⟩
theorem itX_keep {t : Bool} {h h' : Heap} {it a : Addr} {i : Nat} (k : itX t h it a i) (q : ∀ o, h.get? it = some o → h'.get? it = some o) : itX t h' it a i := by
  cases t with
  | true => exact Heap.IsTupleIter.at (show h.IsTupleIter it a i from k) q
  | false => exact Heap.IsListIter.at (show h.IsListIter it a i from k) q
theorem itX_ne {t : Bool} {h : Heap} {it a : Addr} {i : Nat} {items : Array Value} (k : itX t h it a i) (q : arX t h a items) : a ≠ it := fun z => by
  subst z
  cases t with
  | true =>
    obtain ⟨o, e, c, _⟩ := (show h.IsTupleIter a a i from k)
    obtain ⟨o', e', c', _⟩ := (show h.IsTuple a items from q)
    rw [e] at e'
    cases e'
    rw [c] at c'
    exact absurd (Value.type.inj c') (by decide)
  | false =>
    obtain ⟨o, e, c, _⟩ := (show h.IsListIter a a i from k)
    obtain ⟨o', e', c', _⟩ := (show h.IsList a items from q)
    rw [e] at e'
    cases e'
    rw [c] at c'
    exact absurd (Value.type.inj c') (by decide)
theorem drawsX {prog : Program} {w : World} {A : Around} (t : Bool) (hh : A.handled = none) (it a : Addr) (hne : a ≠ it) (items : Array Value) :
    Draws prog w A it [it, a] items.size (fun i v => items[i]? = some v) (fun i h => itX t h it a i ∧ arX t h a items) := by
  cases t with
  | true => exact .tuple hh it a hne items
  | false => exact .list hh it a hne items
def newX (t : Bool) (a : Addr) : Obj := { cls := .type (if t then "tuple_iterator" else "list_iterator"), data := .fields #[.ref a, .int 0 0] }
theorem beginsX (t : Bool) (a : Addr) (items : Array Value) : Begins (.ref a) (newX t a) fun h => arX t h a items := by
  cases t with
  | true => exact begins_tuple a items
  | false => exact begins_list a items
theorem itX_new {t : Bool} {h : Heap} {it a : Addr} (e : h.get? it = some (newX t a)) : itX t h it a 0 := by
  cases t with
  | true => exact ⟨_, e, rfl, rfl⟩
  | false => exact ⟨_, e, rfl, rfl⟩

/-! ### enumerate -/
def ItE (K : PySem.W.Frag) (t : Bool) (a : Addr) : It :=
  ⟨fun i H => ∃ (xs : List V) (x : V), SqX K t H a xs ∧ xs[i]? = some x,
    fun i H v H' => ∃ (T : Addr) (x : V), v = .ref T ∧ H T = none ∧ H' = upd H T (.tup [.int (i : Nat), x]) ∧ ∀ xs, SqX K t H a xs → xs[i]? = some x,
    fun i H => ∃ xs : List V, SqX K t H a xs ∧ xs.length = i⟩
theorem turn_enumX {P : Program} {w : World} {K : PySem.W.Frag} {elts : List Expr} {kk : Nat} {tpos : Pos} (t : Bool) (a e it : Addr) (hei : e ≠ it) (hea : e ≠ a) :
    Turn P w K (.Tuple elts kk tpos) (ItE K t a) [e, it] e (fun i h => (∃ old, IsEnum h e it ((i : Nat) : Int) old) ∧ itX t h it a i) := by
  refine turn_wk (wr := [e, it]) (by simp) (fun b hb => hb) (fun i h st b hb => ?_) (fun i h h' st k => ?_) (fun A i s Q E st q => ?_) (fun X i pins s σ H hP hw hK hc I st hg => ?_) (fun X i pins s σ H hP hw hK hc I st hg => ?_)
  · obtain ⟨⟨old, he⟩, hi⟩ := st
    have e' : b = e ∨ b = it := by simpa using hb
    rcases e' with z | z
    · subst z
      exact ⟨_, he, fun v q => (nomatch q)⟩
    · subst z
      exact itX_obj hi
  · obtain ⟨⟨old, he⟩, hi⟩ := st
    exact ⟨⟨old, k e (by simp) _ he⟩, itX_keep hi fun o q => k it (by simp) o q⟩
  · obtain ⟨⟨old, he⟩, _⟩ := st
    exact wpAny_pyIter_enum he q
  · obtain ⟨he, hi⟩ := st
    obtain ⟨xs, x, hq, hx⟩ := hg
    subst hP hw hK
    obtain ⟨its, rv, ha⟩ := sqX_inv I hq
    have hl := rv.length
    have D := drawsX (prog := X.prog) (w := X.w) (A := X.A.in1) t (I.ok.hd hc) it a (itX_ne hi ha) its.toArray
    have hlt := (List.getElem?_eq_some_iff.mp hx).1
    refine ⟨_, _, _, _, _, WalksT.enumerateD D e hei (by simp [hei, hea]) (by simp), by simp; omega, ⟨he, hi, ha⟩, fun j h k => ⟨k.1, k.2.1⟩, fun vals hv => ?_⟩
    obtain ⟨tk, u, hu, rfl⟩ := hv
    obtain ⟨u', hu', ru⟩ := rv.get hx
    have eu : u' = u := by
      have : its[i]? = some u := by simpa using hu
      rw [hu'] at this
      exact Option.some.inj this
    subst eu
    exact ⟨[.int (i : Nat), x], [.int i tk, u'], rfl, by show 2 ≤ sizeLine; decide, .cons ⟨_, rfl⟩ (.cons ru .nil), fun T hT => ⟨T, x, rfl, hT, rfl, fun ys hy => by rw [sqX_inj I hy hq]; exact hx⟩⟩
  · obtain ⟨he, hi⟩ := st
    obtain ⟨xs, hq, hx⟩ := hg
    subst hP hw hK
    obtain ⟨its, rv, ha⟩ := sqX_inv I hq
    have hl := rv.length
    have D := drawsX (prog := X.prog) (w := X.w) (A := X.A.in1) t (I.ok.hd hc) it a (itX_ne hi ha) its.toArray
    have en : its.toArray.size = i := by simp; omega
    exact ⟨_, _, _, _, _, WalksT.enumerateD D e hei (by simp [hei, hea]) (by simp), by rw [en]; exact ⟨he, hi, ha⟩⟩
set_option maxHeartbeats 1000000 in
theorem meets_enum1 {v : Value} {o : Obj} {B : Heap → Prop} (b : Begins v o B) :
    Meets (Builtin.«enumerate.__new__» ⟨[.type "enumerate", v], []⟩) (fun _ R s => B s.heap ∧ R (.ok (.ret (.ref (s.heap.push o).objs.size))) { s with heap := (s.heap.push o).push { cls := .type "enumerate", data := .fields #[.none, .bool false, .ref s.heap.objs.size, rawInt 0, .none, .none] } }) :=
  .of_wp fun prog w A R s h => by
    obtain ⟨hp, g, d, tk, os⟩ := s
    obtain ⟨hb, hR⟩ := h
    have hsub := sub_enumerate
    have draw : ∀ {A' : Around} {E : Value → Shared → Prop} {Q : Value → Shared → Prop}, Q (.ref hp.objs.size) ⟨hp.push o, g, d, tk, os⟩ → wpAny (model prog w) A' (pyIter v) Q E ⟨hp, g, d, tk, os⟩ := fun q => b.iter prog w _ _ ⟨hp, g, d, tk, os⟩ _ hb q
    wp_walk using draw
    refine wpAny_stack_any fun st => wpAny_pure ?_
    split
    · rename_i c _ _ _ _ _
      cases (c == Value.type "enumerate") <;> (wp_walk using draw; exact ⟨_, rfl, hR⟩)
    · wp_walk using draw
      exact ⟨_, rfl, hR⟩
theorem call_enum1 {prog : Program} {w : World} {A : Around} {E : Value → Shared → Prop} {s : Shared} {v : Value} {o : Obj} {B : Heap → Prop} {Q : Value → Shared → Prop} (b : Begins v o B) (hb : B s.heap)
    (q : ∀ h', IsEnum h' (s.heap.objs.size + 1) s.heap.objs.size 0 .none → h'.get? s.heap.objs.size = some o → (∀ c x, s.heap.get? c = some x → h'.get? c = some x) → Q (.ref (s.heap.objs.size + 1)) { s with heap := h' }) :
    wpAny (model prog w) A (call (.type "enumerate") [v]) Q E s := by
  refine callType_new F.called_enumerate (by decide) (F.typeCall_enumerate_1 _) (F.newCall_enumerate_1 _) (fun obj => F.args_object_init_2 obj _) F.entry_enumerate_new (meets_enum1 b) ⟨hb, ?_⟩
  have hz : (s.heap.push o).objs.size = s.heap.objs.size + 1 := Heap.size_push ..
  have he := Heap.get?_push_size (s.heap.push o) (o := { cls := .type "enumerate", data := .fields #[.none, .bool false, .ref s.heap.objs.size, rawInt 0, .none, .none] }) rfl
  show _ ∧ _
  rw [hz] at he ⊢
  exact ⟨⟨_, he, rfl⟩, q _ he (Heap.get?_push_of_some _ (Heap.get?_push_size _ b.free)) fun c x e => Heap.get?_push_of_some _ (Heap.get?_push_of_some _ e)⟩
def iEnumX (K : PySem.W.Frag) (ta : TA) : TI := fun σ H R => ta σ H fun vs H1 => ∃ t a xs, vs = [.ref a] ∧ SqX K t H1 a xs ∧ R (ItE K t a) H1
theorem pi_enumX {X : Cx} {e : Expr} {ta : TA} {p pos tpos : Pos} {elts : List Expr} {kk : Nat} (hg : Gl X "enumerate") (hm : X.mg "enumerate" = none) (ha : PA X [e] ta) (hs : starEach [e] X.env = [(false, eval e X.env)] := by rfl) :
    PI X (.Tuple elts kk tpos) (.Call (.Name "enumerate" p) [e] [] pos) (iEnumX X.K ta) := by
  refine ⟨fun pins s σ H R I h => ?_⟩
  refine Call_ (ld_blt I hg hm boot_enumerate (PyProof.Rows.callWith_type1 (thn (ha.run pos pins s σ H _ I h) fun us s1 ⟨vs, H1, I1, r1, q1⟩ => ?_) hs rfl))
  obtain ⟨t, a, xs, ex, hq, q⟩ := q1
  subst ex
  cases r1 with
  | cons r rr =>
    cases rr
    cases r
    obtain ⟨its, rv, har⟩ := sqX_inv I1 hq
    have hal : a < s1.heap.objs.size := by
      cases t with
      | true => obtain ⟨_, e, _⟩ := (show s1.heap.IsTuple a its.toArray from har); exact Heap.lt_size e
      | false => obtain ⟨_, e, _⟩ := (show s1.heap.IsList a its.toArray from har); exact Heap.lt_size e
    refine call_enum1 (beginsX t a its.toArray) har fun h' he hit hk => wpAny_pyIter_enum he ?_
    have I2 : Inv X pins σ H1 { s1 with heap := h' } := I1.kept (t' := s1.toks) hk
    refine ⟨s1.heap.objs.size + 1, [s1.heap.objs.size + 1, s1.heap.objs.size], _, _, H1, rfl, I2, turn_enumX t a _ _ (Nat.succ_ne_self _) (Nat.ne_of_gt (Nat.lt_succ_of_lt hal)), ⟨⟨.none, he⟩, itX_new hit⟩, fun b hb => ?_, q⟩
    have e' : b = s1.heap.objs.size + 1 ∨ b = s1.heap.objs.size := by simpa using hb
    have hle : s1.heap.objs.size ≤ b := by
      rcases e' with z | z
      · rw [z]; exact Nat.le_succ _
      · rw [z]; exact Nat.le_refl _
    exact I1.fpOk hle (I1.hok.fresh hle)
theorem walk_enumX {K : PySem.W.Frag} {t : Bool} {a : Addr} {xs : List V} : Walk (ItE K t a) xs.length (fun H => SqX K t H a xs) (YPair (fun i => some (.int (i : Nat))) (fun i => xs[i]?)) := by
  refine ⟨fun i H hi q => ⟨xs, xs[i], q, List.getElem?_eq_getElem hi⟩, fun H q => ⟨xs, q, rfl⟩, fun i H x H' hi q y => ?_⟩
  obtain ⟨T, u, h1, h2, h3, h4⟩ := y
  exact ⟨T, _, u, h1, h2, h3, rfl, h4 xs q⟩

/-! ### zip -/
def ItZ (K : PySem.W.Frag) (t u : Bool) (a b : Addr) : It :=
  ⟨fun i H => ∃ (xs ys : List V) (x y : V), (SqX K t H a xs ∧ SqX K u H b ys) ∧ xs[i]? = some x ∧ ys[i]? = some y,
    fun i H v H' => ∃ (T : Addr) (x y : V), v = .ref T ∧ H T = none ∧ H' = upd H T (.tup [x, y]) ∧ (∀ xs, SqX K t H a xs → xs[i]? = some x) ∧ ∀ ys, SqX K u H b ys → ys[i]? = some y,
    fun i H => ∃ xs ys : List V, (SqX K t H a xs ∧ SqX K u H b ys) ∧ min xs.length ys.length = i⟩
theorem turn_zipX {P : Program} {w : World} {K : PySem.W.Frag} {elts : List Expr} {kk : Nat} {tpos : Pos} (t u : Bool) (a b N : Addr) (ha : a < N) (hb : b < N) :
    Turn P w K (.Tuple elts kk tpos) (ItZ K t u a b) [N + 4, N + 2, N + 3, N, N + 1] (N + 4) (fun i h => IsZip h (N + 4) (N + 2) (N + 3) .none ∧ IsTupOf2 h (N + 2) (.ref N) (.ref (N + 1)) ∧ (∃ x y, IsTupOf2 h (N + 3) x y) ∧ itX t h N a i ∧ itX u h (N + 1) b i) := by
  have sep : ZipSep2 (N + 4) (N + 2) (N + 3) N (N + 1) [N, a] [N + 1, b] := zip_sep2 (fp1 := [a]) (fp2 := [b]) (fun c hc => by rw [List.mem_singleton.mp hc]; exact ha) (fun c hc => by rw [List.mem_singleton.mp hc]; exact hb)
  refine turn_wk (wr := [N + 4, N + 3, N, N + 1]) (by simp) (fun c hc => ?_) (fun i h st c hc => ?_) (fun i h h' st k => ?_) (fun A i s Q E st q => ?_) (fun X i pins s σ H hP hw hK hc I st hg => ?_) (fun X i pins s σ H hP hw hK hc I st hg => ?_)
  · simp only [List.mem_cons, List.not_mem_nil, or_false] at hc ⊢
    rcases hc with z | z | z | z <;> simp [z]
  · obtain ⟨hz, hTI, ⟨x, y, hTO⟩, h1, h2⟩ := st
    simp only [List.mem_cons, List.not_mem_nil, or_false] at hc
    rcases hc with z | z | z | z | z
    · subst z
      exact ⟨_, hz, fun v q => (nomatch q)⟩
    · subst z
      exact ⟨_, hTI, fun v q => (nomatch q)⟩
    · subst z
      exact ⟨_, hTO, fun v q => (nomatch q)⟩
    · rw [z]; exact itX_obj h1
    · rw [z]; exact itX_obj h2
  · obtain ⟨hz, hTI, ⟨x, y, hTO⟩, h1, h2⟩ := st
    exact ⟨k _ (by simp) _ hz, k _ (by simp) _ hTI, ⟨x, y, k _ (by simp) _ hTO⟩, itX_keep h1 fun o q => k _ (by simp) o q, itX_keep h2 fun o q => k _ (by simp) o q⟩
  · exact wpAny_pyIter_zip st.1 q
  · obtain ⟨hz, hTI, hTO, h1, h2⟩ := st
    obtain ⟨xs, ys, x, y, ⟨hqx, hqy⟩, hx, hy⟩ := hg
    subst hP hw hK
    obtain ⟨its, rv, ra⟩ := sqX_inv I hqx
    obtain ⟨its2, rv2, rb⟩ := sqX_inv I hqy
    have hl := rv.length
    have hl2 := rv2.length
    have D1 := drawsX (prog := X.prog) (w := X.w) (A := X.A.in1) t (I.ok.hd hc) N a (itX_ne h1 ra) its.toArray
    have D2 := drawsX (prog := X.prog) (w := X.w) (A := X.A.in1) u (I.ok.hd hc) (N + 1) b (itX_ne h2 rb) its2.toArray
    have hlt := (List.getElem?_eq_some_iff.mp hx).1
    have hlt2 := (List.getElem?_eq_some_iff.mp hy).1
    refine ⟨_, _, _, _, _, WalksT.zipD2 sep D1 D2, by simp; omega, ⟨hz, hTI, hTO, ⟨h1, ra⟩, ⟨h2, rb⟩⟩, fun j h k => ⟨k.1, k.2.1, k.2.2.1, k.2.2.2.1.1, k.2.2.2.2.1⟩, fun vals hv => ?_⟩
    obtain ⟨u1, u2, hu1, hu2, rfl⟩ := hv
    obtain ⟨v1, hv1, r1⟩ := rv.get hx
    obtain ⟨v2, hv2, r2⟩ := rv2.get hy
    have e1 : v1 = u1 := by
      have : its[i]? = some u1 := by simpa using hu1
      rw [hv1] at this
      exact Option.some.inj this
    have e2 : v2 = u2 := by
      have : its2[i]? = some u2 := by simpa using hu2
      rw [hv2] at this
      exact Option.some.inj this
    subst e1 e2
    exact ⟨[x, y], [v1, v2], rfl, by show 2 ≤ sizeLine; decide, .cons r1 (.cons r2 .nil), fun T hT => ⟨T, x, y, rfl, hT, rfl, fun zs hz' => by rw [sqX_inj I hz' hqx]; exact hx, fun zs hz' => by rw [sqX_inj I hz' hqy]; exact hy⟩⟩
  · obtain ⟨hz, hTI, hTO, h1, h2⟩ := st
    obtain ⟨xs, ys, ⟨hqx, hqy⟩, hend⟩ := hg
    subst hP hw hK
    obtain ⟨its, rv, ra⟩ := sqX_inv I hqx
    obtain ⟨its2, rv2, rb⟩ := sqX_inv I hqy
    have hl := rv.length
    have hl2 := rv2.length
    have D1 := drawsX (prog := X.prog) (w := X.w) (A := X.A.in1) t (I.ok.hd hc) N a (itX_ne h1 ra) its.toArray
    have D2 := drawsX (prog := X.prog) (w := X.w) (A := X.A.in1) u (I.ok.hd hc) (N + 1) b (itX_ne h2 rb) its2.toArray
    have en : min its.toArray.size its2.toArray.size = i := by simp; omega
    exact ⟨_, _, _, _, _, WalksT.zipD2 sep D1 D2, by rw [en]; exact ⟨hz, hTI, hTO, ⟨h1, ra⟩, ⟨h2, rb⟩⟩⟩
def iZipX (K : PySem.W.Frag) (ta : TA) : TI := fun σ H R => ta σ H fun vs H1 => ∃ t u a b xs ys, vs = [.ref a, .ref b] ∧ (SqX K t H1 a xs ∧ SqX K u H1 b ys) ∧ R (ItZ K t u a b) H1
theorem arX_lt {t : Bool} {h : Heap} {a : Addr} {its : Array Value} (k : arX t h a its) : a < h.objs.size := by
  cases t with
  | true => obtain ⟨_, e, _⟩ := (show h.IsTuple a its from k); exact Heap.lt_size e
  | false => obtain ⟨_, e, _⟩ := (show h.IsList a its from k); exact Heap.lt_size e
theorem pi_zipX {X : Cx} {e e2 : Expr} {ta : TA} {p pos tpos : Pos} {elts : List Expr} {kk : Nat} (hg : Gl X "zip") (hm : X.mg "zip" = none) (ha : PA X [e, e2] ta)
    (hs : starEach [e, e2] X.env = (false, eval e X.env) :: starEach [e2] X.env := by rfl) (hpl : (backTo pos (starEach [e2] X.env)).any (·.1) = false := by rfl) :
    PI X (.Tuple elts kk tpos) (.Call (.Name "zip" p) [e, e2] [] pos) (iZipX X.K ta) := by
  refine ⟨fun pins s σ H R I h => ?_⟩
  refine Call_ (ld_blt I hg hm PyProof.Rows.boot_zip (PyProof.Rows.callWith_type1 (thn (ha.run pos pins s σ H _ I h) fun us s1 ⟨vs, H1, I1, r1, q1⟩ => ?_) hs hpl))
  obtain ⟨t, u, a, b, xs, ys, ex, ⟨hqx, hqy⟩, q⟩ := q1
  subst ex
  cases r1 with
  | cons r rr =>
    cases rr with
    | cons r' rr =>
      cases rr
      cases r
      cases r'
      obtain ⟨its, rv, ra⟩ := sqX_inv I1 hqx
      obtain ⟨its2, rv2, rb⟩ := sqX_inv I1 hqy
      refine zip_begins2 (beginsX t a its.toArray) (beginsX u b its2.toArray) ra rb fun h' hz hTI hTO h1 h2 hsz hk => wpAny_pyIter_zip hz ?_
      have I2 : Inv X pins σ H1 { s1 with heap := h' } := I1.kept (t' := s1.toks) hk
      refine ⟨_, _, _, _, H1, rfl, I2, turn_zipX t u a b s1.heap.objs.size (arX_lt ra) (arX_lt rb), ⟨hz, hTI, ⟨_, _, hTO⟩, itX_new h1, itX_new h2⟩, fun c hc => ?_, q⟩
      have hle : s1.heap.objs.size ≤ c := by
        simp only [List.mem_cons, List.not_mem_nil, or_false] at hc
        rcases hc with z | z | z | z | z <;> rw [z]
        · exact Nat.le_add_right _ _
        · exact Nat.le_add_right _ _
        · exact Nat.le_add_right _ _
        · exact Nat.le_refl _
        · exact Nat.le_add_right _ _
      exact I1.fpOk hle (I1.hok.fresh hle)
theorem walk_zipX {K : PySem.W.Frag} {t u : Bool} {a b : Addr} {xs ys : List V} {n : Nat} (hn : n = min xs.length ys.length) : Walk (ItZ K t u a b) n (fun H => SqX K t H a xs ∧ SqX K u H b ys) (YPair (fun i => xs[i]?) (fun i => ys[i]?)) := by
  refine ⟨fun i H hi q => ⟨xs, ys, xs[i]'(by omega), ys[i]'(by omega), q, List.getElem?_eq_getElem _, List.getElem?_eq_getElem _⟩, fun H q => ⟨xs, ys, q, hn.symm⟩, fun i H x H' hi q y => ?_⟩
  obtain ⟨T, x1, y1, h1, h2, h3, h4, h5⟩ := y
  exact ⟨T, _, _, h1, h2, h3, h4 xs q.1, h5 ys q.2⟩
end DL

/-! Rules over trees for enumerate and zip of anything; constants that are tuples. -/
namespace DL
open PySem PySem.Spec PyProof.Rows L2
section
variable {K : PySem.W.Frag} {X : Cx} {F F₀ : Hp} {G : Gp} {H : Hp} {tg e e2 : Expr} {t : DA} {p pos tpos : Pos} {elts : List Expr} {kk : Nat}
theorem seqX_ok {d : D} {v : V} {xs : List D} (w : Wd K F G H) (r : Rp K F d v) (h : seqOf d G = some xs) :
    ∃ t a, v = .ref a ∧ ∀ F1 G1 H1, Same F F1 → Wd K F1 G1 H1 → Stays d G G1 → ∃ vs, SqX K t H1 a vs ∧ Rps K F1 xs vs := by
  cases d with
  | tup ys =>
    cases (show some ys = some xs from h)
    cases r with
    | tup a b => exact ⟨true, _, rfl, fun F1 G1 H1 s w1 _ => ⟨_, sqT_mono (s.trans w1.fz) a, b.mono s⟩⟩
  | scr ys =>
    cases (show some ys = some xs from h)
    cases r with
    | scr a b => exact ⟨false, _, rfl, fun F1 G1 H1 s w1 _ => ⟨_, sqL_mono (s.trans w1.fz) a, b.mono s⟩⟩
  | lst ys =>
    cases (show some ys = some xs from h)
    cases r with
    | lst a b => exact ⟨false, _, rfl, fun F1 G1 H1 s w1 _ => ⟨_, .of (w1.fz _ _ (s _ _ a)), b.mono s⟩⟩
  | ref b =>
    have h' : (match G b with | some (.lst xs) => some xs | _ => none) = some xs := h
    split at h'
    · rename_i ys e
      cases h'
      cases r
      refine ⟨false, b, rfl, fun F1 G1 H1 s w1 st => ?_⟩
      have st' : G1 b = G b := st
      rw [e] at st'
      obtain ⟨_, vs, hv, rv⟩ := w1.lst st'
      exact ⟨vs, .of hv, rv⟩
    · cases h'
  | _ => cases h
theorem stays_refl {d : D} : Stays d G G := by cases d <;> first | exact trivial | exact rfl
theorem numsD_get {n i : Nat} {x : D} (e : (numsD n)[i]? = some x) : x = .int (i : Nat) := by
  unfold numsD at e
  rw [List.getElem?_map] at e
  cases q : (List.range n)[i]? with
  | none => rw [q] at e; cases e
  | some j =>
    rw [q] at e
    cases e
    obtain ⟨h1, h2⟩ := List.getElem?_eq_some_iff.mp q
    rw [List.getElem_range] at h2
    rw [h2]
theorem prs_num_len (xs : List D) : (prsD (numsD xs.length) xs).length = xs.length := by
  rw [prsD_length]
  unfold numsD
  rw [List.length_map, List.length_range, Nat.min_self]
theorem dit_enumX {d : D} {v : V} {xs : List D} (w : Wd K F G H) (r : Rp K F d v) (h : seqOf d G = some xs) : ∃ t a us, v = .ref a ∧ SqX K t H a us ∧ DIt K F (Stays d G) (prsD (numsD xs.length) xs) (ItE K t a) := by
  obtain ⟨t, a, rfl, src⟩ := seqX_ok w r h
  obtain ⟨us, hu, _⟩ := src F G H (Same.refl F) w stays_refl
  refine ⟨t, a, us, rfl, hu, fun H => ∃ vs, SqX K t H a vs ∧ vs.length = xs.length, fun i H x H' => (ItE K t a).yld i H x H', ?_, fun F1 G1 H1 s w1 st => ?_, fun i d F1 G1 H1 x H' s w1 st e y => ?_⟩
  · rw [prs_num_len]
    exact ⟨fun i H hi ⟨vs, hv, hl⟩ => ⟨vs, vs[i]'(by omega), hv, List.getElem?_eq_getElem _⟩, fun H ⟨vs, hv, hl⟩ => ⟨vs, hv, hl⟩, fun i H x H' hi q y => y⟩
  · obtain ⟨vs, hv, rv⟩ := src F1 G1 H1 s w1 st
    exact ⟨vs, hv, rv.length.symm⟩
  · obtain ⟨T, z, rfl, hT, hH, hz⟩ := y
    obtain ⟨vs, hv, rv⟩ := src F1 G1 H1 s w1 st
    obtain ⟨d1, d2, q1, q2, rfl⟩ := prsD_get e
    obtain ⟨z', hz', rz⟩ := rv.get q2
    rw [hz vs hv] at hz'
    cases hz'
    cases numsD_get q1
    exact pair_ok w1 hT hH (.int _) rz
def dEnumX (t : DA) : DI := fun δ G Q => t δ G fun xs G1 => match xs with
  | [x] => match seqOf x G1 with
    | some ys => Q (prsD (numsD ys.length) ys) (Stays x G1) G1
    | none => False
  | _ => False
theorem di_enumX (hg : Gl X "enumerate") (hm : X.mg "enumerate" = none) (ha : PA X [e] (La X.K F₀ t)) (hs : starEach [e] X.env = [(false, eval e X.env)] := by rfl) :
    PI X (.Tuple elts kk tpos) (.Call (.Name "enumerate" p) [e] [] pos) (Li X.K F₀ (dEnumX t)) := pi_imp (pi_enumX hg hm ha hs) fun σ H R ⟨δ, F, G, Q', s, en, w, q, k⟩ => by
  refine ⟨δ, F, G, _, s, en, w, q, fun xs vs F1 G1 H1 s1 w1 r1 q1 => ?_⟩
  split at q1
  · obtain ⟨v, rfl, r⟩ := rps1 r1
    split at q1
    · rename_i ys e
      obtain ⟨tt, a, us, rfl, hs, it⟩ := dit_enumX w1 r e
      exact ⟨tt, a, us, rfl, hs, k _ _ _ F1 G1 H1 s1 w1 it q1⟩
    · exact q1.elim
  · exact q1.elim
theorem dit_zipX {d1 d2 : D} {v1 v2 : V} {xs ys : List D} (w : Wd K F G H) (r1 : Rp K F d1 v1) (r2 : Rp K F d2 v2) (h1 : seqOf d1 G = some xs) (h2 : seqOf d2 G = some ys) :
    ∃ t u a b us ws, v1 = .ref a ∧ v2 = .ref b ∧ (SqX K t H a us ∧ SqX K u H b ws) ∧ DIt K F (fun G' => Stays d1 G G' ∧ Stays d2 G G') (prsD xs ys) (ItZ K t u a b) := by
  obtain ⟨t, a, rfl, src1⟩ := seqX_ok w r1 h1
  obtain ⟨u, b, rfl, src2⟩ := seqX_ok w r2 h2
  obtain ⟨us, hu, _⟩ := src1 F G H (Same.refl F) w stays_refl
  obtain ⟨ws, hw, _⟩ := src2 F G H (Same.refl F) w stays_refl
  refine ⟨t, u, a, b, us, ws, rfl, rfl, ⟨hu, hw⟩, fun H => ∃ vs zs, (SqX K t H a vs ∧ SqX K u H b zs) ∧ vs.length = xs.length ∧ zs.length = ys.length, fun i H x H' => (ItZ K t u a b).yld i H x H', ?_, fun F1 G1 H1 s w1 st => ?_, fun i d F1 G1 H1 x H' s w1 st e y => ?_⟩
  · rw [prsD_length]
    exact ⟨fun i H hi ⟨vs, zs, hv, hl, hl2⟩ => ⟨vs, zs, vs[i]'(by omega), zs[i]'(by omega), hv, List.getElem?_eq_getElem _, List.getElem?_eq_getElem _⟩, fun H ⟨vs, zs, hv, hl, hl2⟩ => ⟨vs, zs, hv, by rw [hl, hl2]⟩, fun i H x H' hi q y => y⟩
  · obtain ⟨vs, hv, rv⟩ := src1 F1 G1 H1 s w1 st.1
    obtain ⟨zs, hz, rz⟩ := src2 F1 G1 H1 s w1 st.2
    exact ⟨vs, zs, ⟨hv, hz⟩, rv.length.symm, rz.length.symm⟩
  · obtain ⟨T, z, z2, rfl, hT, hH, hz, hz2⟩ := y
    obtain ⟨vs, hv, rv⟩ := src1 F1 G1 H1 s w1 st.1
    obtain ⟨zs, hw, rz⟩ := src2 F1 G1 H1 s w1 st.2
    obtain ⟨e1, e2, q1, q2, rfl⟩ := prsD_get e
    obtain ⟨y1, hy1, ry1⟩ := rv.get q1
    obtain ⟨y2, hy2, ry2⟩ := rz.get q2
    rw [hz vs hv] at hy1
    rw [hz2 zs hw] at hy2
    cases hy1
    cases hy2
    exact pair_ok w1 hT hH ry1 ry2
def dZipX (t : DA) : DI := fun δ G Q => t δ G fun xs G1 => match xs with
  | [x, y] => match seqOf x G1, seqOf y G1 with
    | some xs, some ys => Q (prsD xs ys) (fun G' => Stays x G1 G' ∧ Stays y G1 G') G1
    | _, _ => False
  | _ => False
theorem di_zipX (hg : Gl X "zip") (hm : X.mg "zip" = none) (ha : PA X [e, e2] (La X.K F₀ t)) (hs : starEach [e, e2] X.env = (false, eval e X.env) :: starEach [e2] X.env := by rfl) (hpl : (backTo pos (starEach [e2] X.env)).any (·.1) = false := by rfl) :
    PI X (.Tuple elts kk tpos) (.Call (.Name "zip" p) [e, e2] [] pos) (Li X.K F₀ (dZipX t)) := pi_imp (pi_zipX hg hm ha hs hpl) fun σ H R ⟨δ, F, G, Q', s, en, w, q, k⟩ => by
  refine ⟨δ, F, G, _, s, en, w, q, fun zs vs F1 G1 H1 s1 w1 r1 q1 => ?_⟩
  split at q1
  · obtain ⟨v, u, rfl, ra, rb⟩ := rps2 r1
    split at q1
    · rename_i xs ys ex ey
      obtain ⟨tt, uu, a, b, us, ws, rfl, rfl, hs, it⟩ := dit_zipX w1 ra rb ex ey
      exact ⟨tt, uu, a, b, us, ws, rfl, hs, k _ _ _ F1 G1 H1 s1 w1 it q1⟩
    · exact q1.elim
  · exact q1.elim
/-- a name of the program's text that stands for a tuple made at its head -/
theorem de_cT {X : Cx} {a : Addr} {ds : List D} (h : PE X e (tC (.ref a))) (hk : ∃ vs, SqT X.K (fun _ => none) a vs ∧ Rps X.K (fun _ => none) ds vs) : PE X e (Le X.K F₀ (dC (.tup ds))) :=
  de_c h fun F => by
    obtain ⟨vs, h1, h2⟩ := hk
    have e : Same (fun _ => none : Hp) F := fun b o z => by cases z
    exact .tup (sqT_mono e h1) (h2.mono e)
end
end DL

/-! Data that can be shown; fractions. -/
namespace DL
open PySem PySem.Spec PyProof.Rows L2

/-- what repr asks of data -/
structure Rok (k W : Nat) (p : PyData) : Prop where
  sh : p.showable = true
  ln : p.shown.length ≤ W
  dp : p.depth ≤ k
def Rs (k W : Nat) (d : D) : Prop := ∃ p, toPy d = some p ∧ Rok k W p
theorem Rok.mono {k W k' W' : Nat} {p : PyData} (h : Rok k W p) (hk : k ≤ k') (hW : W ≤ W') : Rok k' W' p := ⟨h.sh, Nat.le_trans h.ln hW, Nat.le_trans h.dp hk⟩
theorem Rs.mono {k W k' W' : Nat} {d : D} (h : Rs k W d) (hk : k ≤ k') (hW : W ≤ W') : Rs k' W' d := let ⟨p, e, r⟩ := h; ⟨p, e, r.mono hk hW⟩
theorem rok_int {i : Int} {K : Nat} (h : i.natAbs < 10 ^ K) (h0 : 0 < K) (h1 : K ≤ 470) : Rok 0 (K + 1) (.int i) := by
  refine ⟨?_, ?_, ?_⟩
  · unfold PyData.showable
    rw [decide_eq_true_iff]
    by_cases n : i.natAbs = 0
    · rw [n]; decide
    · refine (Nat.log2_lt n).mpr (Nat.lt_of_lt_of_le h ?_)
      calc 10 ^ K ≤ 16 ^ K := Nat.pow_le_pow_left (by decide) K
        _ = 2 ^ (4 * K) := by rw [Nat.pow_mul]
        _ ≤ 2 ^ 1920 := Nat.pow_le_pow_right (by decide) (by omega)
  · have e := int_text_length_le10 h0 h
    show (Str.ofString (toString i)).length ≤ _
    rw [PySem.ofString_length]
    exact e
  · unfold PyData.depth; exact Nat.le_refl _
theorem rs_intK {i : Int} {K : Nat} (h : i.natAbs < 10 ^ K) (h0 : 0 < K) (h1 : K ≤ 470) : Rs 0 (K + 1) (.int i) := ⟨_, rfl, rok_int h h0 h1⟩
theorem rs_int {i : Int} (h : i.natAbs < 10 ^ 12) : Rs 0 13 (.int i) := rs_intK h (by decide) (by decide)
theorem rs_bl {b : Bool} : Rs 0 5 (.bl b) := ⟨_, rfl, by unfold PyData.showable; rfl, by cases b <;> decide, by unfold PyData.depth; exact Nat.le_refl _⟩
theorem rs_non : Rs 0 4 .non := ⟨_, rfl, by unfold PyData.showable; rfl, by decide, by unfold PyData.depth; exact Nat.le_refl _⟩
theorem rs_all {k W : Nat} : ∀ {xs : List D}, (∀ x ∈ xs, Rs k W x) → ∃ ps, toPys xs = some ps ∧ PyData.showableAll ps = true ∧ PyData.depthAll ps ≤ k ∧ ((PyData.shownAll ps).map (·.length)).sum ≤ xs.length * W ∧ (PyData.shownAll ps).length = xs.length
  | [], _ => ⟨[], rfl, by unfold PyData.showableAll; rfl, by unfold PyData.depthAll; omega, by unfold PyData.shownAll; simp, by unfold PyData.shownAll; rfl⟩
  | x :: r, h => by
    obtain ⟨p, e, a⟩ := h x List.mem_cons_self
    obtain ⟨ps, e2, a1, a3, a4, a5⟩ := rs_all fun y hy => h y (List.mem_cons_of_mem _ hy)
    refine ⟨p :: ps, by unfold toPys; rw [e, e2], ?_, ?_, ?_, ?_⟩
    · unfold PyData.showableAll; rw [a.sh, a1]; rfl
    · unfold PyData.depthAll; exact Nat.max_le.mpr ⟨a.dp, a3⟩
    · unfold PyData.shownAll
      have := a.ln
      rw [List.map_cons, List.sum_cons, List.length_cons, Nat.add_mul]
      omega
    · unfold PyData.shownAll
      rw [List.length_cons, List.length_cons, a5]
theorem rs_tup {k W : Nat} {xs : List D} (h : ∀ x ∈ xs, Rs k W x) : Rs (k + 1) (xs.length * (W + 2) + 3) (.tup xs) := by
  obtain ⟨ps, e, a1, a3, a4, a5⟩ := rs_all h
  refine ⟨.tuple ps, by unfold toPy; rw [e]; rfl, ?_, ?_, ?_⟩
  · unfold PyData.showable; exact a1
  · have := tupleText_len_le (PyData.shownAll ps)
    unfold PyData.shown
    rw [Nat.mul_add]
    omega
  · unfold PyData.depth; omega
theorem rs_lst {k W : Nat} {xs : List D} (h : ∀ x ∈ xs, Rs k W x) : Rs (k + 1) (xs.length * (W + 2) + 3) (.lst xs) := by
  obtain ⟨ps, e, a1, a3, a4, a5⟩ := rs_all h
  refine ⟨.list ps, by unfold toPy; rw [e]; rfl, ?_, ?_, ?_⟩
  · unfold PyData.showable; exact a1
  · have := listText_len_le (PyData.shownAll ps)
    unfold PyData.shown
    rw [Nat.mul_add]
    omega
  · unfold PyData.depth; omega
theorem rs_py {k W : Nat} {d : D} {G : Gp} (h : Rs k W d) : ∃ p, pyOf d G = some p ∧ Rok k W p := by
  obtain ⟨p, e, r⟩ := h
  refine ⟨p, ?_, r⟩
  cases d with
  | ref a => cases e
  | _ => exact e
theorem py_ref {a : Addr} {xs : List D} {G : Gp} (h : G a = some (.lst xs)) : pyOf (.ref a) G = toPy (.lst xs) := by
  show (match G a with | some (.lst xs) => (toPys xs).map PyData.list | _ => none) = _
  rw [h]
  rfl
theorem repr_py {d : D} {G : Gp} {Q : DK} {k W : Nat} {p : PyData} (e : pyOf d G = some p) (r : Rok k W p) (hk : k ≤ 100) (hW : W ≤ sizeLine) (q : Q (.str p.shown) G) : dRepr [d] G Q := by
  show (match pyOf d G with | some p => p.showable = true ∧ p.shown.length ≤ sizeLine ∧ p.depth ≤ 100 ∧ Q (.str p.shown) G | none => False)
  rw [e]
  exact ⟨r.sh, Nat.le_trans r.ln hW, Nat.le_trans r.dp hk, q⟩
/-- two values of which repr is the same: that of data p -/
def Alike (a b : D) (G : Gp) : Prop := ∃ p k W, k ≤ 100 ∧ W ≤ sizeLine ∧ pyOf a G = some p ∧ pyOf b G = some p ∧ Rok k W p
theorem Alike.rs {k W : Nat} {d : D} {G : Gp} (h : Rs k W d) (hk : k ≤ 100) (hW : W ≤ sizeLine) : Alike d d G := by
  obtain ⟨p, e, r⟩ := rs_py (G := G) h
  exact ⟨p, k, W, hk, hW, e, e, r⟩
theorem Alike.bl {b : Bool} {G : Gp} : Alike (.bl b) (.bl b) G := .rs rs_bl (by decide) (by decide)
theorem Alike.non {G : Gp} : Alike .non .non G := .rs rs_non (by decide) (by decide)
/-- one is a list that may change -/
theorem Alike.refL {a : Addr} {xs : List D} {k W : Nat} {G : Gp} (e : G a = some (.lst xs)) (h : Rs k W (.lst xs)) (hk : k ≤ 100) (hW : W ≤ sizeLine) : Alike (.ref a) (.lst xs) G := by
  obtain ⟨p, e2, r⟩ := h
  exact ⟨p, k, W, hk, hW, (py_ref e).trans e2, e2, r⟩
theorem Alike.symm {a b : D} {G : Gp} (h : Alike a b G) : Alike b a G := let ⟨p, k, W, h1, h2, h3, h4, h5⟩ := h; ⟨p, k, W, h1, h2, h4, h3, h5⟩

/-! ### fractions -/
def fr (x : Rat) : D := .tup [.int x.num, .int x.den]
theorem low_num {a : Int} {b : Nat} (hb : b ≠ 0) : (mkRat a b).num = a / (Nat.gcd a.natAbs b : Nat) ∧ (mkRat a b).den = b / Nat.gcd a.natAbs b := by
  rw [← Rat.normalize_eq_mkRat hb]
  unfold Rat.normalize
  rw [Rat.maybeNormalize_eq]
  exact ⟨Int.divExact_eq_ediv (Int.ofNat_dvd_left.mpr (Nat.gcd_dvd_left _ _)), rfl⟩
theorem den_dvd {x : Rat} {L : Nat} {a : Int} (hL : L ≠ 0) (h : x = mkRat a L) : x.den ∣ L := by
  rw [h, (low_num hL).2]
  exact Nat.div_dvd_of_dvd (Nat.gcd_dvd_right _ _)

theorem mkRat_eq_div (a : Int) (b : Nat) : mkRat a b = (a : Rat) / (b : Rat) := Rat.mkRat_eq_div a b
theorem fr_eq (x : Rat) : x = (x.num : Rat) / (x.den : Rat) := by
  rw [← Rat.mkRat_eq_div]
  exact (Rat.mkRat_self x).symm
theorem mkRat_plus (x y : Rat) : mkRat (x.num * y.den + y.num * x.den) (x.den * y.den) = x + y := by
  rw [← Rat.mkRat_add_mkRat _ _ x.den_nz y.den_nz, Rat.mkRat_self, Rat.mkRat_self]

/-- N parts of which L make one -/
def fq (N : Int) (L : Nat) : D := fr (mkRat N L)
theorem fq_plus (N M : Int) {L : Nat} (h : L ≠ 0) : mkRat N L + mkRat M L = mkRat (N + M) L := by
  rw [Rat.mkRat_add_mkRat _ _ h h, Rat.mkRat_eq_iff (Nat.mul_ne_zero h h) h, Int.natCast_mul]
  rw [← Int.add_mul, Int.mul_assoc]
theorem fq_low (t : Int) {b L : Nat} (hb : b ≠ 0) (h : b ∣ L) (hL : L ≠ 0) : mkRat t b = mkRat (t * (L / b : Nat)) L := by
  obtain ⟨k, rfl⟩ := h
  rw [Rat.mkRat_eq_iff hb hL, Nat.mul_div_cancel_left _ (Nat.pos_of_ne_zero hb), Int.natCast_mul]
  rw [Int.mul_assoc, Int.mul_comm (k : Int)]
theorem fq_unit (k : Int) {L : Nat} (hL : L ≠ 0) : fq (k * L) L = .tup [.int k, .int 1] := by
  have e : mkRat (k * L) L = (k : Rat) := by
    have e1 : (k : Rat) = mkRat k 1 := (Rat.mkRat_one k).symm
    rw [e1, Rat.mkRat_eq_iff hL (by decide)]
    rw [Int.natCast_one, Int.mul_one]
  unfold fq fr
  rw [e]
  rfl
theorem fq_zero {L : Nat} (hL : L ≠ 0) : fq 0 L = .tup [.int 0, .int 1] := by
  have := fq_unit 0 hL
  rwa [Int.zero_mul] at this
theorem fq_num {N : Int} {L : Nat} (hN : 0 ≤ N) (hL : L ≠ 0) : 0 ≤ (mkRat N L).num ∧ (mkRat N L).num ≤ N ∧ 0 < (mkRat N L).den ∧ (mkRat N L).den ≤ L := by
  obtain ⟨e1, e2⟩ := low_num (a := N) hL
  have g0 : 0 < Nat.gcd N.natAbs L := Nat.gcd_pos_of_pos_right _ (Nat.pos_of_ne_zero hL)
  refine ⟨?_, ?_, (mkRat N L).den_pos, ?_⟩
  · rw [e1]; exact Int.ediv_nonneg hN (by omega)
  · rw [e1]; exact Int.ediv_le_self _ hN
  · rw [e2]; exact Nat.div_le_self _ _
theorem rs_fq {N : Int} {L : Nat} (hN : 0 ≤ N) (hN2 : N < 10 ^ 12) (hL : L ≠ 0) (hL2 : L < 10 ^ 12) : Rs 1 33 (fq N L) := by
  obtain ⟨h1, h2, h3, h4⟩ := fq_num hN hL
  refine rs_tup (xs := [.int _, .int _]) (k := 0) (W := 13) fun x hx => ?_
  rcases List.mem_cons.mp hx with rfl | hx
  · exact rs_int (by omega)
  · rw [List.mem_singleton.mp hx]
    exact rs_int (by omega)
end DL

/-! Loops and comprehensions over what is told by a list of another kind. -/
namespace DL
open PySem PySem.Spec PyProof.Rows L2
theorem compL_src {α : Type} {g : DG} {te : DE} {S : Gp → Prop} {p : Addr} {δ : Sl} {G : Gp} {Q : List D → Gp → Prop} (s f : α → D) (hS : ∀ ys, S (gu G p (.lst ys))) : ∀ (l : List α) (acc : List D),
    (∀ x ∈ l, ∀ ys (Q : DK), Q (f x) (gu G p (.lst ys)) → g (s x) δ (gu G p (.lst ys)) fun δ2 G2 => te δ2 G2 Q) → acc.length + l.length ≤ sizeLine →
    Q (acc ++ l.map f) (gu G p (.lst (acc ++ l.map f))) → compL g dYes te S p δ (l.map s) acc (gu G p (.lst acc)) Q
  | [], acc, _, _, q => ⟨hS _, gu_same, by rwa [List.map_nil, List.append_nil] at q⟩
  | x :: r, acc, h, hl, q => by
    refine ⟨hS _, gu_same, ?_⟩
    rw [List.length_cons] at hl
    have key := h x List.mem_cons_self acc (fun y G4 => G4 p = some (.lst acc) ∧ acc.length < sizeLine ∧ compL g dYes te S p δ (r.map s) (acc ++ [y]) (gu G4 p (.lst (acc ++ [y]))) Q) ⟨gu_same, by omega, by
      rw [gu_gu]
      refine compL_src s f hS r (acc ++ [f x]) (fun z hz => h z (List.mem_cons_of_mem _ hz)) (by rw [List.length_append, List.length_singleton]; omega) ?_
      rw [List.append_assoc]
      exact q⟩
    exact key
/-- a comprehension over the s x, x in l, that gives the f x -/
theorem lc_src {α : Type} {g : DG} {te : DE} {S : Gp → Prop} {δ : Sl} {G : Gp} {Q : DK} (l : List α) (s f : α → D) {its : List D} (e : its = l.map s) (hl : l.length ≤ sizeLine) (hS : ∀ p ys, G p = none → S (gu G p (.lst ys)))
    (h : ∀ x ∈ l, ∀ p ys (Q : DK), G p = none → Q (f x) (gu G p (.lst ys)) → g (s x) δ (gu G p (.lst ys)) fun δ2 G2 => te δ2 G2 Q)
    (q : Q (.lst (l.map f)) G) : ∀ p, G p = none → compL g dYes te S p δ its [] (gu G p (.lst [])) (endLc false Q p) := fun p hp => by
  subst e
  refine compL_src s f (fun ys => hS p ys hp) l [] (fun x hx ys Q' k => h x hx p ys Q' hp k) (by simpa using hl) ?_
  show Q (.lst ([] ++ l.map f)) (gd (gu G p _) p)
  rw [gd_gu hp, List.nil_append]
  exact q
/-- the same where the list may change later -/
theorem lc_srcM {α : Type} {g : DG} {te : DE} {S : Gp → Prop} {δ : Sl} {G : Gp} {Q : DK} (l : List α) (s f : α → D) {its : List D} (e : its = l.map s) (hl : l.length ≤ sizeLine) (hS : ∀ p ys, G p = none → S (gu G p (.lst ys)))
    (h : ∀ x ∈ l, ∀ p ys (Q : DK), G p = none → Q (f x) (gu G p (.lst ys)) → g (s x) δ (gu G p (.lst ys)) fun δ2 G2 => te δ2 G2 Q)
    (q : ∀ p, G p = none → Q (.ref p) (gu G p (.lst (l.map f)))) : ∀ p, G p = none → compL g dYes te S p δ its [] (gu G p (.lst [])) (endLc true Q p) := fun p hp => by
  subst e
  refine compL_src s f (fun ys => hS p ys hp) l [] (fun x hx ys Q' k => h x hx p ys Q' hp k) (by simpa using hl) ?_
  show Q (.ref p) (gu G p _)
  rw [List.nil_append]
  exact q p hp
/-- a loop over the s x, by an invariant over what is left of l -/
theorem forL_src {α : Type} {g : DG} {tb : DS} {S : Gp → Prop} {E : DEnds} (s : α → D) (W : List α → Sl → Gp → Prop) (hS : ∀ l δ G, W l δ G → S G) (hs : ∀ x r δ G (N : Sl → Gp → Prop), W (x :: r) δ G → (∀ δ G, W r δ G → N δ G) → g (s x) δ G fun δ1 G1 => tb { E with nx := N, ct := N, bk := E.nx } δ1 G1)
    (hd : ∀ δ G, W [] δ G → E.nx δ G) : ∀ (l : List α) (its : List D), its = l.map s → ∀ δ G, W l δ G → forL g tb S its E δ G
  | [], _, rfl, δ, G, w => ⟨hS _ _ _ w, hd δ G w⟩
  | x :: r, _, rfl, δ, G, w => ⟨hS _ _ _ w, hs x r δ G _ w fun δ G w => forL_src s W hS hs hd r _ rfl δ G w⟩
theorem prs_zip {α β : Type} (f : α → D) (g : β → D) : ∀ (l : List α) (k : List β), prsD (l.map f) (k.map g) = (l.zip k).map fun p => .tup [f p.1, g p.2]
  | [], _ => rfl
  | _ :: _, [] => rfl
  | x :: r, y :: q => by
    show D.tup [f x, g y] :: prsD (r.map f) (q.map g) = _
    rw [prs_zip f g r q]
    rfl
theorem enumI_map {α : Type} (f : α → D) : ∀ (l : List α) (k : Nat), enumI k (l.map f) = (l.zipIdx k).map fun p => .tup [.int (p.2 : Nat), f p.1]
  | [], _ => rfl
  | x :: r, k => by
    show D.tup [.int k, f x] :: enumI ((k : Int) + 1) (r.map f) = _
    rw [show ((k : Int) + 1) = ((k + 1 : Nat) : Int) by omega, enumI_map f r (k + 1)]
    rfl
theorem at_neg1 {α : Type} {l : List α} (h : l ≠ []) : atI l (-1) = some (l.getLast h) := by
  have hl : 0 < l.length := List.length_pos_iff.mpr h
  unfold atI ixN
  rw [if_neg (by omega), if_pos (by omega)]
  show l[((-1 : Int) + (l.length : Int)).toNat]? = _
  rw [show ((-1 : Int) + (l.length : Int)).toNat = l.length - 1 by omega, List.getLast_eq_getElem, List.getElem?_eq_getElem]
theorem got_last {l : List D} {G : Gp} {Q : DK} (h : l ≠ []) : gotI l (-1) G Q = Q (l.getLast h) G := got_eq (at_neg1 h)
section
variable {G : Gp} {Q : DK} {m : Bool} {xs ys : List D} {p q : Addr}
theorem w_add_lr (h : G p = some (.lst ys)) : dAdd m (.lst xs) (.ref p) G Q = (xs.length + ys.length ≤ sizeLine ∧ nL m (xs ++ ys) G Q) := by
  show (match lstOf (.lst xs) G, lstOf (.ref p) G with | some a, some b => a.length + b.length ≤ sizeLine ∧ nL m (a ++ b) G Q | _, _ => False) = _
  rw [lst_ref h, lst_lst]
theorem w_add_rl (h : G p = some (.lst ys)) : dAdd m (.ref p) (.lst xs) G Q = (ys.length + xs.length ≤ sizeLine ∧ nL m (ys ++ xs) G Q) := by
  show (match lstOf (.ref p) G, lstOf (.lst xs) G with | some a, some b => a.length + b.length ≤ sizeLine ∧ nL m (a ++ b) G Q | _, _ => False) = _
  rw [lst_ref h, lst_lst]
theorem w_add_rr (h : G p = some (.lst xs)) (h2 : G q = some (.lst ys)) : dAdd m (.ref p) (.ref q) G Q = (xs.length + ys.length ≤ sizeLine ∧ nL m (xs ++ ys) G Q) := by
  show (match lstOf (.ref p) G, lstOf (.ref q) G with | some a, some b => a.length + b.length ≤ sizeLine ∧ nL m (a ++ b) G Q | _, _ => False) = _
  rw [lst_ref h, lst_ref h2]
theorem w_add_lg : dAdd m (.lst xs) (.ref p) (gu G p (.lst ys)) Q = (xs.length + ys.length ≤ sizeLine ∧ nL m (xs ++ ys) (gu G p (.lst ys)) Q) := w_add_lr gu_same
theorem w_add_gl : dAdd m (.ref p) (.lst xs) (gu G p (.lst ys)) Q = (ys.length + xs.length ≤ sizeLine ∧ nL m (ys ++ xs) (gu G p (.lst ys)) Q) := w_add_rl gu_same
end
end DL

/-! Equality of like data. -/
namespace DL
open PySem PySem.Spec PyProof.Rows L2
/-- data that == can hold, no deeper than k -/
def Es (k : Nat) (d : D) : Prop := ∃ p, toPy d = some p ∧ p.canLay0 = true ∧ p.depth ≤ k
theorem es_int {i : Int} : Es 0 (.int i) := ⟨_, rfl, by unfold PyData.canLay0; rfl, by unfold PyData.depth; exact Nat.le_refl _⟩
theorem es_bl {i : Bool} : Es 0 (.bl i) := ⟨_, rfl, by unfold PyData.canLay0; rfl, by unfold PyData.depth; exact Nat.le_refl _⟩
theorem es_non : Es 0 .non := ⟨_, rfl, by unfold PyData.canLay0; rfl, by unfold PyData.depth; exact Nat.le_refl _⟩
theorem Es.mono {k k' : Nat} {d : D} (h : Es k d) (hk : k ≤ k') : Es k' d := let ⟨p, e, a, b⟩ := h; ⟨p, e, a, Nat.le_trans b hk⟩
theorem es_all {k : Nat} : ∀ {xs : List D}, (∀ x ∈ xs, Es k x) → ∃ ps, toPys xs = some ps ∧ PyData.canLayAll0 ps = true ∧ PyData.depthAll ps ≤ k
  | [], _ => ⟨[], rfl, by unfold PyData.canLayAll0; rfl, by unfold PyData.depthAll; omega⟩
  | x :: r, h => by
    obtain ⟨p, e, a, b⟩ := h x List.mem_cons_self
    obtain ⟨ps, e2, a1, a2⟩ := es_all fun y hy => h y (List.mem_cons_of_mem _ hy)
    refine ⟨p :: ps, by unfold toPys; rw [e, e2], ?_, ?_⟩
    · unfold PyData.canLayAll0; rw [a, a1]; rfl
    · unfold PyData.depthAll; exact Nat.max_le.mpr ⟨b, a2⟩
theorem es_tup {k : Nat} {xs : List D} (h : ∀ x ∈ xs, Es k x) : Es (k + 1) (.tup xs) := by
  obtain ⟨ps, e, a1, a2⟩ := es_all h
  exact ⟨.tuple ps, by unfold toPy; rw [e]; rfl, by unfold PyData.canLay0; exact a1, by unfold PyData.depth; omega⟩
theorem es_lst {k : Nat} {xs : List D} (h : ∀ x ∈ xs, Es k x) : Es (k + 1) (.lst xs) := by
  obtain ⟨ps, e, a1, a2⟩ := es_all h
  exact ⟨.list ps, by unfold toPy; rw [e]; rfl, by unfold PyData.canLay0; exact a1, by unfold PyData.depth; omega⟩
theorem Es.shaped {k : Nat} {d : D} (h : Es k d) (hk : k ≤ 64) : ∃ p, toPy d = some p ∧ SeqAt.shaped p = true ∧ p.canLay0 = true := by
  obtain ⟨p, e, a, b⟩ := h
  exact ⟨p, e, by unfold SeqAt.shaped; rw [a, decide_eq_true (by omega)]; rfl, a⟩
section
variable {G : Gp} {Q : DK} {xs ys : List D} {k : Nat}
theorem w_ne_same (h : Es k (.tup xs)) (hk : k ≤ 64) : dNe (.tup xs) (.tup xs) G Q = Q (.bl false) G := by
  obtain ⟨p, e, a, c⟩ := h.shaped hk
  show (match toPy (.tup xs), toPy (.tup xs) with | some p, some q => SeqAt.shaped p = true ∧ SeqAt.shaped q = true ∧ Q (.bl (!PyData.eqv p q)) G | _, _ => False) = _
  rw [e]
  simp only [a, true_and]
  rw [SeqAt.eqv_refl p c]
  rfl
theorem w_eq_same (h : Es k (.tup xs)) (hk : k ≤ 64) : dEq (.tup xs) (.tup xs) G Q = Q (.bl true) G := by
  obtain ⟨p, e, a, c⟩ := h.shaped hk
  show (match toPy (.tup xs), toPy (.tup xs) with | some p, some q => SeqAt.shaped p = true ∧ SeqAt.shaped q = true ∧ Q (.bl (PyData.eqv p q)) G | _, _ => False) = _
  rw [e]
  simp only [a, true_and]
  rw [SeqAt.eqv_refl p c]
end
theorem isi_refL {a : Addr} {xs : List D} {G : Gp} {Q : DK} (h : G a = some (.lst xs)) : dIsi [.ref a, .ty "list"] G Q = Q (.bl true) G := by
  show (match tyOf (.ref a) G with | some n => _ ∧ Q (.bl (subTy n "list")) G | none => False) = _
  rw [show tyOf (.ref a) G = some "list" by show (match G a with | some (.lst _) => some "list" | some (.abl _) => some "list" | some (.dct _) => some "dict" | _ => none) = _; rw [h]]
  simp [subTy]
/-- a condition that is b, so much being known of what stands behind it -/
theorem ifS_mkI {c : DT} {t u : DS} {E : DEnds} {δ : Sl} {G : Gp} (I : Gp → Prop) (b : Bool) (hc : ∀ Q : Bool → Gp → Prop, (∀ G', I G' → Q b G') → c δ G Q) (ht : b = true → ∀ G', I G' → t E δ G') (hu : b = false → ∀ G', I G' → u E δ G') : dIfS c t u E δ G :=
  hc _ fun G' i => by
    cases b with
    | true => exact ht rfl G' i
    | false => exact hu rfl G' i
end DL

/-! Instances of own classes: made, fields read and set, methods. -/
namespace DL
open PySem PySem.Spec PyProof.Rows L2

/-- the class n stands at C -/
def IsC (K : PySem.W.Frag) (n : Str) (C : Addr) : Prop := PySem.W.nsIn K mainGlobals n = some (some (.ref C))
theorem IsC.inj {K : PySem.W.Frag} {n : Str} {C C' : Addr} (h : IsC K n C) (h' : IsC K n C') : C = C' := by
  have e := h.symm.trans h'
  cases e
  rfl
theorem Rpf.lookup {K : PySem.W.Frag} {F : Hp} : ∀ {fs : List (Str × D)} {fv : List (Str × V)} {f : Str} {d : D}, Rpf K F fs fv → fs.lookup f = some d → ∃ v, fv.lookup f = some v ∧ Rp K F d v
  | [], _, _, _, _, h => by simp at h
  | (k, x) :: r, _, f, d, q, h => by
    cases q with
    | cons a b =>
      rename_i v vs
      rw [List.lookup_cons] at h ⊢
      cases e : f == k with
      | true =>
        rw [e] at h
        cases h
        exact ⟨_, rfl, a⟩
      | false =>
        rw [e] at h
        exact b.lookup h
theorem Rpf.none {K : PySem.W.Frag} {F : Hp} : ∀ {fs : List (Str × D)} {fv : List (Str × V)} {f : Str}, Rpf K F fs fv → fs.lookup f = none → fv.lookup f = none
  | [], _, _, q, _ => by cases q; rfl
  | (k, x) :: r, _, f, q, h => by
    cases q with
    | cons a b =>
      rw [List.lookup_cons] at h ⊢
      cases e : f == k with
      | true => rw [e] at h; cases h
      | false =>
        rw [e] at h
        exact b.none h
theorem Rpf.length {K : PySem.W.Frag} {F : Hp} : ∀ {fs : List (Str × D)} {fv : List (Str × V)}, Rpf K F fs fv → fs.length = fv.length
  | [], _, q => by cases q; rfl
  | _ :: _, _, q => by cases q with | cons a b => rw [List.length_cons, List.length_cons, b.length]
/-- a field put -/
def putD (f : Str) (d : D) : List (Str × D) → List (Str × D)
  | [] => [(f, d)]
  | (g, e) :: r => if g = f then (g, d) :: r else (g, e) :: putD f d r
theorem Rpf.put {K : PySem.W.Frag} {F : Hp} {f : Str} {d : D} {v : V} (r : Rp K F d v) : ∀ {fs : List (Str × D)} {fv : List (Str × V)}, Rpf K F fs fv → Rpf K F (putD f d fs) (putF f v fv)
  | [], _, q => by cases q; exact .cons r .nil
  | (g, e) :: fs, _, q => by
    cases q with
    | cons a b =>
      show Rpf K F (if g = f then (g, d) :: fs else (g, e) :: putD f d fs) (if g = f then _ else _)
      by_cases h : g = f
      · rw [if_pos h, if_pos h]; exact .cons r b
      · rw [if_neg h, if_neg h]; exact .cons a (b.put r)
/-- the fields of an instance of the class n -/
def insOf (x : D) (G : Gp) (n : Str) : Option (List (Str × D)) := match x with
  | .ref a => match G a with | some (.ins m fs) => if m = n then some fs else none | _ => none
  | .obj m fs => if m = n then some fs else none
  | _ => none
theorem insOf_ok {K : PySem.W.Frag} {F H : Hp} {G : Gp} {d : D} {v : V} {n : Str} {fs : List (Str × D)} (w : Wd K F G H) (r : Rp K F d v) (h : insOf d G n = some fs) : ∃ a C dx fv, v = .ref a ∧ IsC K n C ∧ H a = some (.ins C dx fv) ∧ Rpf K F fs fv := by
  cases d with
  | ref a =>
    cases r
    have h' : (match G a with | some (.ins m fs) => if m = n then some fs else none | _ => none) = some fs := h
    split at h'
    · rename_i m fs' e
      by_cases hm : m = n
      · rw [if_pos hm] at h'
        cases h'
        subst hm
        obtain ⟨_, C, dx, fv, hn, hH, hr⟩ := w.mu a _ e
        exact ⟨a, C, dx, fv, rfl, hn, hH, hr⟩
      · rw [if_neg hm] at h'; cases h'
    · cases h'
  | obj m fs' =>
    have h' : (if m = n then some fs' else none) = some fs := h
    by_cases hm : m = n
    · rw [if_pos hm] at h'
      cases h'
      subst hm
      cases r with
      | obj hn e b => exact ⟨_, _, _, _, rfl, hn, w.fz _ _ e, b⟩
    · rw [if_neg hm] at h'; cases h'
  | _ => cases h
/-- o.f -/
def dFldR (n f : Str) (x : D) (G : Gp) (Q : DK) : Prop := match insOf x G n with
  | some fs => match fs.lookup f with
    | some d => Q d G
    | none => False
  | none => False
def dFld (n f : Str) (te : DE) : DE := fun δ G Q => te δ G fun x G1 => dFldR n f x G1 Q
section
variable {X : Cx} {F₀ : Hp} {CX : CXT} {k : Nat} {f C : Addr} {fd : FuncData} {ps : List Str} {sp : DSp} {E : XK} {E' : DX} {x m n g : Str} {p pos pos' apos tpos : Pos} {e o value : Expr} {es : List Expr} {ta tv to : DE} {t : DA}
theorem de_fld (hC : IsC X.K n C) (c : Cls X.K C) (na : NoAttr X.K C g) (he : PE X e (Le X.K F₀ ta)) (hb : attributeBase e g X.env (eval e X.env) = eval e X.env := by rfl) : PE X (.Attribute e g pos) (Le X.K F₀ (dFld n g ta)) :=
  pe_imp (pe_fld he hb) fun σ H Q ⟨δ, F, G, Q', s, en, w, q, k⟩ => ⟨δ, F, G, _, s, en, w, q, fun y v F1 G1 H1 s1 w1 r1 q1 => by
    unfold dFldR at q1
    split at q1
    · rename_i fs ei
      obtain ⟨a, C', dx, fv, rfl, hC', hH, hr⟩ := insOf_ok w1 r1 ei
      cases hC.inj hC'
      split at q1
      · rename_i d el
        obtain ⟨u, hu, ru⟩ := hr.lookup el
        exact ⟨a, C, dx, fv, u, rfl, hH, c, na, hu, k d u F1 G1 H1 s1 w1 ru q1⟩
      · exact q1.elim
    · exact q1.elim⟩
/-- o.f = value -/
def setFldR (n f : Str) (x y : D) (G : Gp) (Q : Gp → Prop) : Prop := match x with
  | .ref a => match G a with
    | some (.ins m fs) => m = n ∧ fs.length < 1000 ∧ Q (gu G a (.ins n (putD f y fs)))
    | _ => False
  | _ => False
def dSetFld (n f : Str) (to tv : DE) : DS := fun D δ G => tv δ G fun y G1 => to δ G1 fun x G2 => setFldR n f x y G2 fun G3 => D.nx δ G3
theorem setFld_ok {K : PySem.W.Frag} {F H : Hp} {G : Gp} {d y : D} {v u : V} {Q : Gp → Prop} (w : Wd K F G H) (r : Rp K F d v) (ry : Rp K F y u) (h : setFldR n g d y G Q) : ∃ a C dx fv, v = .ref a ∧ IsC K n C ∧ H a = some (.ins C dx fv) ∧ fv.length < 1000 ∧
    ∃ G', Q G' ∧ Wd K F G' (upd H a (.ins C dx (putF g u fv))) := by
  cases d with
  | ref a =>
    cases r
    have h' : (match G a with | some (.ins m fs) => m = n ∧ fs.length < 1000 ∧ Q (gu G a (.ins n (putD g y fs))) | _ => False) := h
    split at h'
    · rename_i m fs e
      obtain ⟨rfl, hl, hq⟩ := h'
      obtain ⟨hF, C, dx, fv, hn, hH, hr⟩ := w.mu a _ e
      exact ⟨a, C, dx, fv, rfl, hn, hH, by rw [← hr.length]; exact hl, _, hq, w.put (g := .ins m (putD g y fs)) hF ⟨C, dx, _, hn, upd_same, hr.put ry⟩⟩
    · exact h'.elim
  | _ => exact (show False from h).elim
theorem ds_fld (hC : IsC X.K n C) (c : Cls X.K C) (na : NoAttr X.K C g) (ho : PE X o (Le X.K F₀ to)) (hv : PE X value (Le X.K F₀ tv)) (hs : swapsWith value (some (.Attribute o g pos')) pos.line X.env = pure false := by rfl) :
    PS X (.Assign [.Attribute o g pos'] value pos) (Ls X.K F₀ (dSetFld n g to tv)) := ps_imp (ps_fld ho hv hs) fun D σ H ⟨δ, F, G, D', s, en, w, q, k⟩ =>
  ⟨δ, F, G, _, s, en, w, q, fun y u F1 G1 H1 s1 w1 r1 q1 => ⟨δ, F1, G1, _, s.trans s1, en.mono s1, w1, q1, fun d v F2 G2 H2 s2 w2 r2 q2 => by
    obtain ⟨a, C', dx, fv, rfl, hC', hH, hl, G', hq, w'⟩ := setFld_ok w2 r2 (r1.mono s2) q2
    cases hC.inj hC'
    exact ⟨a, C, dx, fv, rfl, hH, c, na, hl, k.nx δ σ F2 G' _ (s1.trans s2) ((en.mono s1).mono s2) w' hq⟩⟩⟩
/-- o.f += value, whole numbers -/
def dAugFld (n f : Str) (to tv : DE) : DS := fun D δ G => to δ G fun x G1 => dFldR n f x G1 fun z G2 => match z with
  | .int i => tv δ G2 fun y G3 => match y with
    | .int j => setFldR n f x (.int (i + j)) G3 fun G4 => D.nx δ G4
    | _ => False
  | _ => False
/-- o.m(e, ..) -/
def dMeth (n m : Str) (sp : DSp) (E' : DX) (to : DE) (t : DA) : DE := fun δ G Q => to δ G fun x G1 => (∃ fs, insOf x G1 n = some fs ∧ fs.lookup m = none) ∧ t δ G1 fun ds G2 => sp (x :: ds) G2 Q E'
theorem de_meth {pl : Sem Bool} (hC : IsC X.K n C) (c : Cls X.K C) (hm : Meth X.K C m f) (F : FnG X.prog X.w X.K X.mg X.base CX k f fd ps (LSp X.K sp)) (hr : Room k X.A) (hmu : Mute X.A) (hb : Binds X.K fd ps []) (hx : Passes CX X E) (ke : KoE X.K F₀ E' E)
    (ho : PE X o (Le X.K F₀ to)) (ha : PA X (e :: es) (La X.K F₀ t))
    (hst : starEach (e :: es) X.env = (false, eval e X.env) :: starEach es X.env := by rfl) (hpl : (backTo pos (starEach es X.env)).any (·.1) = false := by rfl)
    (ht : eval (.Call (.Attribute o m apos) (e :: es) [] pos) X.env = (do
      let ov ← eval o X.env
      standAt apos.atName
      let (f, first) ← holding [ov] (getMethod ov m pl)
      callWith pos f first (backTo pos (starEach (e :: es) X.env)) (backToKw pos (keywordEach [] X.env))) := by rfl) :
    PE X (.Call (.Attribute o m apos) (e :: es) [] pos) (Le X.K F₀ (dMeth n m sp E' to t)) := pe_imp (pe_methG (pl := pl) ho c hm F hr hmu hb hx ha hst hpl ht) fun σ H Q ⟨δ, F, G, Q', s, en, w, q, k⟩ =>
  ⟨δ, F, G, _, s, en, w, q, fun y v F1 G1 H1 s1 w1 r1 q1 => by
    obtain ⟨⟨fs, ei, el⟩, q1⟩ := q1
    obtain ⟨a, C', dx, fv, rfl, hC', hH, hr'⟩ := insOf_ok w1 r1 ei
    cases hC.inj hC'
    exact ⟨a, dx, fv, rfl, hH, hr'.none el, δ, F1, G1, _, s.trans s1, en.mono s1, w1, q1, fun ds vs F2 G2 H2 s2 w2 r2 q2 => ⟨F2, G2, _, Q', E', .cons (r1.mono s2) r2, w2, q2, k.mono (s1.trans s2), ke.mono ((s.trans s1).trans s2)⟩⟩⟩
theorem de_meth0 {pl : Sem Bool} (hC : IsC X.K n C) (c : Cls X.K C) (hm : Meth X.K C m f) (F : FnG X.prog X.w X.K X.mg X.base CX k f fd ps (LSp X.K sp)) (hr : Room k X.A) (hmu : Mute X.A) (hb : Binds X.K fd ps []) (hx : Passes CX X E) (ke : KoE X.K F₀ E' E)
    (ho : PE X o (Le X.K F₀ to))
    (ht : eval (.Call (.Attribute o m apos) [] [] pos) X.env = (do
      let ov ← eval o X.env
      standAt apos.atName
      let (f, first) ← holding [ov] (getMethod ov m pl)
      callWith pos f first (backTo pos (starEach [] X.env)) (backToKw pos (keywordEach [] X.env))) := by rfl) :
    PE X (.Call (.Attribute o m apos) [] [] pos) (Le X.K F₀ (dMeth n m sp E' to aNil)) := pe_imp (pe_methG0 (pl := pl) ho c hm F hr hmu hb hx ht) fun σ H Q ⟨δ, F, G, Q', s, en, w, q, k⟩ =>
  ⟨δ, F, G, _, s, en, w, q, fun y v F1 G1 H1 s1 w1 r1 q1 => by
    obtain ⟨⟨fs, ei, el⟩, q1⟩ := q1
    obtain ⟨a, C', dx, fv, rfl, hC', hH, hr'⟩ := insOf_ok w1 r1 ei
    cases hC.inj hC'
    exact ⟨a, dx, fv, rfl, hH, hr'.none el, F1, G1, _, Q', E', .cons r1 .nil, w1, q1, k.mono s1, ke.mono (s.trans s1)⟩⟩
/-- C(e, ..) -/
def dMake (n : Str) (sp : DSp) (E' : DX) (t : DA) : DE := fun δ G Q => t δ G fun ds G1 => ∀ p, G1 p = none → sp (.ref p :: ds) (gu G1 p (.ins n [])) (fun v G2 => v = .non ∧ Q (.ref p) G2) E'
theorem de_make (hC : IsC X.K n C) (M : Mk X.K C f) (F : FnG X.prog X.w X.K X.mg X.base CX k f fd ps (LSp X.K sp)) (hr : Room (k + 1) X.A) (hmu : Mute X.A) (hg : Gl X x) (hm : X.mg x = some (.ref C)) (hb : Binds X.K fd ps []) (hx : Passes CX X E) (ke : KoE X.K F₀ E' E)
    (ha : PA X (e :: es) (La X.K F₀ t)) (hdb : (x == ("__debug__" : Str)) = false := by decide) (he : starEach (e :: es) X.env = (false, eval e X.env) :: starEach es X.env := by rfl) (hpl : (backTo pos (starEach es X.env)).any (·.1) = false := by rfl) :
    PE X (.Call (.Name x p) (e :: es) [] pos) (Le X.K F₀ (dMake n sp E' t)) := pe_imp (pe_makeG M F hr hmu hg hm hb hx ha hdb he hpl) fun σ H Q ⟨δ, F, G, Q', s, en, w, q, k⟩ =>
  ⟨δ, F, G, _, s, en, w, q, fun ds vs F1 G1 H1 s1 w1 r1 q1 p dx hp hd hne => by
    have g1 := w1.gfree hp
    have w2 := w1.newN hd (.own p)
    have hp2 : upd H1 dx (.own p) p = none := by rw [upd_ne (Ne.symm hne)]; exact hp
    have w3 : Wd X.K F1 (gu G1 p (.ins n [])) (upd (upd H1 dx (.own p)) p (.ins C dx [])) := w2.put (g := .ins n []) (w2.ffree hp2) ⟨C, dx, [], hC, upd_same, .nil⟩
    refine ⟨F1, _, _, _, E', .cons (.ref p) r1, w3, q1 p g1, fun d v F2 G2 H2 s2 w4 r2 q2 => ?_, ke.mono (s.trans s1)⟩
    obtain ⟨rfl, q2⟩ := q2
    cases r2
    exact ⟨rfl, k (.ref p) _ F2 G2 H2 (s1.trans s2) w4 (.ref p) q2⟩⟩
theorem de_make0 (hC : IsC X.K n C) (M : Mk X.K C f) (F : FnG X.prog X.w X.K X.mg X.base CX k f fd ps (LSp X.K sp)) (hr : Room (k + 1) X.A) (hmu : Mute X.A) (hg : Gl X x) (hm : X.mg x = some (.ref C)) (hb : Binds X.K fd ps []) (hx : Passes CX X E) (ke : KoE X.K F₀ E' E)
    (hdb : (x == ("__debug__" : Str)) = false := by decide) :
    PE X (.Call (.Name x p) [] [] pos) (Le X.K F₀ (dMake n sp E' aNil)) := pe_imp (pe_makeG0 M F hr hmu hg hm hb hx hdb) fun σ H Q ⟨δ, F1, G1, Q', s, en, w1, q, k⟩ => fun p dx hp hd hne => by
    have g1 := w1.gfree hp
    have w2 := w1.newN hd (.own p)
    have hp2 : upd H dx (.own p) p = none := by rw [upd_ne (Ne.symm hne)]; exact hp
    have w3 : Wd X.K F1 (gu G1 p (.ins n [])) (upd (upd H dx (.own p)) p (.ins C dx [])) := w2.put (g := .ins n []) (w2.ffree hp2) ⟨C, dx, [], hC, upd_same, .nil⟩
    refine ⟨F1, _, _, _, E', .cons (.ref p) .nil, w3, q p g1, fun d v F2 G2 H2 s2 w4 r2 q2 => ?_, ke.mono s⟩
    obtain ⟨rfl, q2⟩ := q2
    cases r2
    exact ⟨rfl, k (.ref p) _ F2 G2 H2 s2 w4 (.ref p) q2⟩
theorem ds_augfld (hC : IsC X.K n C) (c : Cls X.K C) (na : NoAttr X.K C g) (ho : PE X o (Le X.K F₀ to)) (hv : PE X value (Le X.K F₀ tv)) : PS X (.AugAssign (.Attribute o g tpos) .Add value pos) (Ls X.K F₀ (dAugFld n g to tv)) :=
  ps_imp (ps_fldaug ho hv in_add) fun D σ H ⟨δ, F, G, D', s, en, w, q, k⟩ => ⟨δ, F, G, _, s, en, w, q, fun y v F1 G1 H1 s1 w1 r1 q1 => by
    unfold dFldR at q1
    split at q1
    · rename_i fs ei
      obtain ⟨a, C', dx, fv, rfl, hC', hH, hr⟩ := insOf_ok w1 r1 ei
      cases hC.inj hC'
      split at q1
      · rename_i d el
        obtain ⟨u, hu, ru⟩ := hr.lookup el
        cases d with
        | int i =>
          cases ru
          refine ⟨a, C, dx, fv, _, rfl, hH, c, na, hu, δ, F1, G1, _, s.trans s1, en.mono s1, w1, q1, fun z u2 F2 G2 H2 s2 w2 r2 q2 => ?_⟩
          cases z with
          | int j =>
            cases r2
            obtain ⟨a', C', dx', fv', e', hC', hH', hl', G', hq, w'⟩ := setFld_ok (u := .int (i + j)) w2 (r1.mono s2) (.int _) q2
            cases e'
            cases hC.inj hC'
            exact ⟨_, _, rfl, rfl, dx', fv', hH', hl', k.nx δ σ F2 G' _ (s1.trans s2) ((en.mono s1).mono s2) w' hq⟩
          | _ => exact (show False from q2).elim
        | _ => exact (show False from q1).elim
      · exact q1.elim
    · exact q1.elim⟩
end
end DL

/-! Fractions of any sign; how great they are. -/
namespace DL
open PySem PySem.Spec PyProof.Rows L2

theorem MulOk.big {i j : Int} {a : Nat} (hi : i.natAbs < 2 ^ a) (hj : j.natAbs < 2 ^ a) (ha : 0 < a) (ha2 : a ≤ 500000) : MulOk i j := .w hi hj ha ha (by omega)
/-- told with denominators that divide L, between -C and C -/
structure Sz (L C : Nat) (x : Rat) : Prop where
  dv : x.den ∣ L
  lo : -(C : Rat) ≤ x
  hi : x ≤ (C : Rat)
theorem rat_over {x : Rat} {L : Nat} (hL : L ≠ 0) (h : x.den ∣ L) : x = mkRat (x.num * (L / x.den : Nat)) L := by
  rw [← fq_low _ x.den_nz h hL, Rat.mkRat_self]
theorem Sz.add {L C E : Nat} {x y : Rat} (hL : L ≠ 0) (a : Sz L C x) (b : Sz L E y) : Sz L (C + E) (x + y) := by
  refine ⟨?_, ?_, ?_⟩
  · have e : x + y = mkRat (x.num * (L / x.den : Nat) + y.num * (L / y.den : Nat)) L := by
      rw [← fq_plus _ _ hL, ← rat_over hL a.dv, ← rat_over hL b.dv]
    exact den_dvd hL e
  · have h1 := a.lo
    have h2 := b.lo
    rw [Rat.natCast_add]
    grind
  · have h1 := a.hi
    have h2 := b.hi
    rw [Rat.natCast_add]
    grind
theorem Sz.neg {L C : Nat} {x : Rat} (a : Sz L C x) : Sz L C (-x) := by
  have h1 := a.lo
  have h2 := a.hi
  exact ⟨by rw [Rat.neg_den]; exact a.dv, by grind, by grind⟩
theorem Sz.sub {L C E : Nat} {x y : Rat} (hL : L ≠ 0) (a : Sz L C x) (b : Sz L E y) : Sz L (C + E) (x - y) := by
  rw [Rat.sub_eq_add_neg]
  exact a.add hL b.neg
theorem Sz.mono {L M C E : Nat} {x : Rat} (a : Sz L C x) (h : L ∣ M) (k : C ≤ E) : Sz M E x := by
  have h1 := a.lo
  have h2 := a.hi
  have h3 : (C : Rat) ≤ (E : Rat) := by
    rw [Rat.natCast_le_natCast]
    exact k
  exact ⟨Nat.dvd_trans a.dv h, by grind, by grind⟩
theorem Sz.low {L C : Nat} {t : Int} {b : Nat} (hL : L ≠ 0) (hb : b ≠ 0) (h : b ∣ L) (h1 : -(C * b : Int) ≤ t) (h2 : t ≤ C * b) : Sz L C (mkRat t b) := by
  refine ⟨Nat.dvd_trans (den_dvd hb rfl) h, ?_, ?_⟩
  · have e : mkRat t b * (b : Rat) = (t : Rat) := by
      rw [Rat.mkRat_eq_div, Rat.div_mul_cancel]
      exact fun z => hb (by have := Rat.natCast_pos.mpr (Nat.pos_of_ne_zero hb); rw [z] at this; exact absurd this (by decide))
    refine Rat.le_of_mul_le_mul_right (c := (b : Rat)) ?_ (Rat.natCast_pos.mpr (Nat.pos_of_ne_zero hb))
    rw [e]
    have h3 := Rat.intCast_le_intCast.mpr h1
    rw [Rat.intCast_neg, Rat.intCast_mul, Rat.intCast_natCast, Rat.intCast_natCast] at h3
    grind
  · have e : mkRat t b * (b : Rat) = (t : Rat) := by
      rw [Rat.mkRat_eq_div, Rat.div_mul_cancel]
      exact fun z => hb (by have := Rat.natCast_pos.mpr (Nat.pos_of_ne_zero hb); rw [z] at this; exact absurd this (by decide))
    refine Rat.le_of_mul_le_mul_right (c := (b : Rat)) ?_ (Rat.natCast_pos.mpr (Nat.pos_of_ne_zero hb))
    rw [e]
    have h3 := Rat.intCast_le_intCast.mpr h2
    rw [Rat.intCast_mul, Rat.intCast_natCast, Rat.intCast_natCast] at h3
    exact h3
theorem Sz.num {L C : Nat} {x : Rat} (a : Sz L C x) : x.num.natAbs ≤ C * x.den := by
  have h1 := a.lo
  have h2 := a.hi
  rw [Rat.le_iff] at h1 h2
  simp at h1 h2
  rw [Int.neg_mul] at h1
  have e : ((C * x.den : Nat) : Int) = (C : Int) * x.den := Int.natCast_mul _ _
  omega
theorem Sz.one {L : Nat} {i : Int} {C : Nat} (h : i.natAbs ≤ C) : Sz L C (i : Rat) := by
  refine ⟨?_, ?_, ?_⟩
  · rw [Rat.den_intCast]
    exact Nat.one_dvd L
  · have h3 : ((-(C : Int) : Int) : Rat) ≤ (i : Rat) := Rat.intCast_le_intCast.mpr (by omega)
    rw [Rat.intCast_neg, Rat.intCast_natCast] at h3
    exact h3
  · have h3 : (i : Rat) ≤ ((C : Int) : Rat) := Rat.intCast_le_intCast.mpr (by omega)
    rw [Rat.intCast_natCast] at h3
    exact h3
theorem Sz.den_le {L C : Nat} {x : Rat} (a : Sz L C x) (hL : L ≠ 0) : x.den ≤ L := Nat.le_of_dvd (Nat.pos_of_ne_zero hL) a.dv
theorem Sz.num_le {L C : Nat} {x : Rat} (a : Sz L C x) (hL : L ≠ 0) : x.num.natAbs ≤ C * L := Nat.le_trans a.num (Nat.mul_le_mul_left _ (a.den_le hL))
theorem fr_int (i : Int) : fr (i : Rat) = .tup [.int i, .int 1] := by
  unfold fr
  rw [Rat.num_intCast, Rat.den_intCast]
  rfl
theorem rs_fr {L C K : Nat} {x : Rat} (a : Sz L C x) (hL : L ≠ 0) (h : C * L < 10 ^ K) (hC : 0 < C) (h0 : 0 < K) (h1 : K ≤ 470) : Rs 1 (2 * (K + 3) + 3) (fr x) := by
  have hd := a.den_le hL
  have hn := a.num_le hL
  have hL2 : L ≤ C * L := Nat.le_mul_of_pos_left L hC
  refine rs_tup (xs := [.int _, .int _]) (k := 0) (W := K + 1) fun y hy => ?_
  rcases List.mem_cons.mp hy with rfl | hy
  · exact rs_intK (by omega) h0 h1
  · rw [List.mem_singleton.mp hy]
    exact rs_intK (by rw [Int.natAbs_natCast]; omega) h0 h1
theorem rat_less (x y : Rat) : decide (x.num * (y.den : Int) < y.num * (x.den : Int)) = decide (x < y) := by
  rw [Bool.eq_iff_iff, decide_eq_true_iff, decide_eq_true_iff, Rat.lt_iff]
theorem mkRat_minus (x y : Rat) : mkRat (x.num * y.den - y.num * x.den) (x.den * y.den) = x - y := by
  have h := mkRat_plus x (-y)
  rw [Rat.neg_num, Rat.neg_den, Int.neg_mul] at h
  rw [Rat.sub_eq_add_neg, ← h, Int.sub_eq_add_neg]
theorem fr_inj {x y : Rat} (h : fr x = fr y) : x = y := by
  unfold fr at h
  injection h with h
  injection h with h1 h2
  injection h1 with h1
  injection h2 with h2
  injection h2 with h2
  exact Rat.ext h1 (by omega)
/-- small enough to be reckoned with -/
structure Sm (x : Rat) : Prop where
  n : x.num.natAbs < 2 ^ 3000
  d : x.den < 2 ^ 3000
theorem Sz.sm {L C : Nat} {x : Rat} (a : Sz L C x) (hL : L ≠ 0) (hC : 0 < C) (h : C * L < 2 ^ 3000) : Sm x := by
  have hd := a.den_le hL
  have hn := a.num_le hL
  have hL2 : L ≤ C * L := Nat.le_mul_of_pos_left L hC
  exact ⟨by omega, by omega⟩
def frts (xs : List Rat) : D := .tup (xs.map fr)
theorem Sm.mul {x y : Rat} (a : Sm x) (b : Sm y) : MulOk x.num y.den := .big (a := 3000) a.n (by rw [Int.natAbs_natCast]; exact b.d) (by decide) (by decide)
theorem Sm.den {x y : Rat} (a : Sm x) (b : Sm y) : MulOk (x.den : Int) y.den := .big (a := 3000) (by rw [Int.natAbs_natCast]; exact a.d) (by rw [Int.natAbs_natCast]; exact b.d) (by decide) (by decide)
theorem Sm.dens {x y : Rat} (a : Sm x) (b : Sm y) : (x.den : Int) * y.den = ((x.den * y.den : Nat) : Int) ∧ 0 < x.den * y.den ∧ x.den * y.den < 2 ^ 8000 := by
  refine ⟨(Int.natCast_mul _ _).symm, Nat.mul_pos x.den_pos y.den_pos, ?_⟩
  have h : x.den * y.den ≤ 2 ^ 3000 * 2 ^ 3000 := Nat.mul_le_mul (Nat.le_of_lt a.d) (Nat.le_of_lt b.d)
  rw [← Nat.pow_add] at h
  exact Nat.lt_of_le_of_lt h (Nat.pow_lt_pow_right (by decide) (by decide))
theorem div_8000 {i j : Int} (h : 0 < j) (h2 : j.natAbs < 2 ^ 8000) : DivOk i j := ⟨h, by
  have h3 : j.natAbs.log2 < 8000 := (Nat.log2_lt (by omega)).mpr h2
  omega⟩
end DL

/-! More of lists: count, insert, remove; xs[i] among targets. -/
namespace DL
open PySem PySem.Spec PyProof.Rows L2
section
variable {K : PySem.W.Frag} {F₀ : Hp}
theorem rps_two {F : Hp} {d e : D} {vs : List V} (r : Rps K F [d, e] vs) : ∃ v u, vs = [v, u] ∧ Rp K F d v ∧ Rp K F e u := rps2 r
/-- xs.count(k), whole numbers -/
def dCount : D → List D → Gp → DK → Prop := fun x ys G Q => match ys with
  | [.int k] => match rlOf x G with
    | some xs => match intsOf xs with
      | some ns => Q (.int (ns.count k : Nat)) G
      | none => False
    | none => False
  | _ => False
theorem md_count : MeD K F₀ dCount (rCntI K) := by
  intro F G H x v xs vs Q' Q s w r rs q k
  unfold dCount at q
  split at q
  · rename_i kk
    obtain ⟨u, rfl, ru⟩ := rps1 rs
    cases ru
    split at q
    · rename_i zs e
      obtain ⟨a, us, rfl, sq, rq⟩ := rlOf_ok w r e
      split at q
      · rename_i ns en
        have e2 := intsOf_eq en
        subst e2
        rw [rq.ints] at sq
        exact ⟨a, ns, kk, rfl, rfl, sq, k _ _ F G H (Same.refl F) w (.int _) q⟩
      · exact q.elim
    · exact q.elim
  · exact q.elim
/-- xs.insert(i, y) -/
def dInsert : D → List D → Gp → DK → Prop := fun x ys G Q => match ys with
  | [.int i, y] => atL x G fun a xs => xs.length < sizeLine ∧ 0 ≤ i ∧ i < 2 ^ 63 ∧ Q .non (gu G a (.lst (xs.take i.toNat ++ [y] ++ xs.drop i.toNat)))
  | _ => False
theorem md_insert : MeD K F₀ dInsert (fun x vs H Q => ∃ (l : Addr) (xs : List V) (i : Int) (y : V), x = .ref l ∧ vs = [.int i, y] ∧ H l = some (.lst xs) ∧ xs.length < sizeLine ∧ 0 ≤ i ∧ i < 2 ^ 63 ∧
    Q .non (upd H l (.lst (xs.take i.toNat ++ [y] ++ xs.drop i.toNat)))) := by
  intro F G H x v xs vs Q' Q s w r rs q k
  unfold dInsert at q
  split at q
  · rename_i i y
    obtain ⟨u, u2, rfl, ru, ry⟩ := rps2 rs
    cases ru
    obtain ⟨a, xs, us, rfl, f1, hv, rv, _, h1, h2, h3, q⟩ := atL_ok w r q
    exact ⟨a, us, i, u2, rfl, rfl, hv, by rw [← rv.length]; exact h1, h2, h3, k _ _ F _ _ (Same.refl F) (w.put (g := .lst (xs.take i.toNat ++ [y] ++ xs.drop i.toNat)) f1 ⟨_, upd_same, ((rv.take _).append (.one ry)).append (rv.drop _)⟩) .non q⟩
  · exact q.elim
/-- xs.remove(k), whole numbers -/
def dRemI : D → List D → Gp → DK → Prop := fun x ys G Q => match ys with
  | [.int k] => atL x G fun a xs => ∃ ns : List Int, xs = ns.map D.int ∧ k ∈ ns ∧ Q .non (gu G a (.lst ((ns.eraseIdx (ns.idxOf k)).map D.int)))
  | _ => False
theorem md_remove : MeD K F₀ dRemI rRemI := by
  intro F G H x v xs vs Q' Q s w r rs q k
  unfold dRemI at q
  split at q
  · rename_i kk
    obtain ⟨u, rfl, ru⟩ := rps1 rs
    cases ru
    obtain ⟨a, xs, us, rfl, f1, hv, rv, _, ns, rfl, hm, q⟩ := atL_ok w r q
    rw [rv.ints] at hv
    have hj : ns.idxOf kk < ns.length := List.idxOf_lt_length_iff.mpr hm
    refine ⟨a, ns, kk, ns.idxOf kk, rfl, rfl, hv, ?_, fun m hmj e => ?_, k _ _ F _ _ (Same.refl F) (w.put (g := .lst ((ns.eraseIdx (ns.idxOf kk)).map D.int)) f1 ⟨_, upd_same, Rps.ofInts _⟩) .non q⟩
    · rw [List.getElem?_eq_getElem hj, List.getElem_idxOf hj]
    · have hml : m < ns.length := Nat.lt_trans hmj hj
      rw [List.getElem?_eq_getElem hml] at e
      have e' := Option.some.inj e
      have hn := List.not_of_lt_findIdx (p := (· == kk)) (xs := ns) (i := m) hmj
      rw [e'] at hn
      simp at hn
  · exact q.elim
end
/-- xs[i] among targets -/
def gSb (to ti : DE) : DG := fun v δ G Q => to δ G fun o G1 => ti δ G1 fun i G2 => dSetL o i v G2 fun G3 => Q δ G3
section
variable {X : Cx} {F₀ : Hp} {vs : List Nat} {o i : Expr} {to ti : DE} {pos : Pos}
theorem dg_sub (ho : PE X o (Le X.K F₀ to)) (hi : PE X i (Le X.K F₀ ti))
    (ha : ∀ v, assign (.Subscript o i pos) X.env v = (do
      let ov ← holding [v] (eval o X.env)
      let iv ← holding [v, ov] (eval i X.env)
      standAt pos
      holding [v, ov, iv] (setItem ov iv v)
      release [v, ov, iv] []) := by intro _; rfl) : PG X (.Subscript o i pos) (Lg X.K F₀ vs (gSb to ti)) := pg_imp (pg_sub ho hi set_list ha) fun v σ H Q ⟨d, δ, F, G, Q', s, en, w, r, q, k⟩ => by
  refine ⟨δ, F, G, _, s, en, w, q, fun y u F2 G2 H2 s2 w2 r2 q2 => ?_⟩
  refine ⟨δ, F2, G2, _, s.trans s2, en.mono s2, w2, q2, fun z u3 F3 G3 H3 s3 w3 r3 q3 => ?_⟩
  have r1' := r.mono (s2.trans s3)
  have r2' := r2.mono s3
  unfold dSetL at q3
  split at q3
  · rename_i a kk
    cases r2'
    cases r3
    split at q3
    · rename_i xs e
      split at q3
      · rename_i j ej
        obtain ⟨hF, us, hv, rs⟩ := w3.lst e
        refine ⟨a, us, kk, j, rfl, rfl, hv, by rw [← rs.length]; exact ej, ?_⟩
        exact k δ σ F3 _ _ (s2.trans s3) ((en.mono s2).mono s3) (w3.put (g := .lst (xs.set j d)) hF ⟨_, upd_same, rs.set r1' j⟩) rfl q3
      · exact q3.elim
    · exact q3.elim
  · exact q3.elim
end
end DL

/-! Words for fields; comprehensions that change things. -/
namespace DL
open PySem PySem.Spec PyProof.Rows L2
section
variable {G : Gp} {Q : DK} {N : Gp → Prop} {p : Addr} {n f : Str} {fs : List (Str × D)} {y d : D}
theorem fld_at (e : G p = some (.ins n fs)) (l : fs.lookup f = some d) : dFldR n f (.ref p) G Q = Q d G := by
  have h : insOf (.ref p) G n = some fs := by
    show (match G p with | some (.ins m fs) => if m = n then some fs else none | _ => none) = _
    rw [e]
    simp only [if_true]
  unfold dFldR
  rw [h]
  show (match fs.lookup f with | some d => Q d G | none => False) = _
  rw [l]
theorem setFld_at (e : G p = some (.ins n fs)) : setFldR n f (.ref p) y G N = (fs.length < 1000 ∧ N (gu G p (.ins n (putD f y fs)))) := by
  show (match G p with | some (.ins m fs) => m = n ∧ fs.length < 1000 ∧ N (gu G p (.ins n (putD f y fs))) | _ => False) = _
  rw [e]
  simp only [true_and]
theorem ins_at (e : G p = some (.ins n fs)) : insOf (.ref p) G n = some fs := by
  show (match G p with | some (.ins m fs) => if m = n then some fs else none | _ => none) = _
  rw [e]
  simp only [if_true]
end
/-- a comprehension that changes things, by an invariant over what is left and what was told -/
theorem compL_by {α : Type} {g : DG} {te : DE} {S : Gp → Prop} {p : Addr} {δ : Sl} {Q : List D → Gp → Prop} (s : α → D) (W : List α → List D → Gp → Prop) (hW : ∀ l acc G, W l acc G → S G ∧ G p = some (.lst acc))
    (hs : ∀ x r acc G (M : DK), W (x :: r) acc G → (∀ y G4, G4 p = some (.lst acc) → W r (acc ++ [y]) (gu G4 p (.lst (acc ++ [y]))) → M y G4) → g (s x) δ G fun δ2 G2 => te δ2 G2 M)
    (hd : ∀ acc G, W [] acc G → Q acc G) : ∀ (l : List α) (acc : List D) (G : Gp), acc.length + l.length ≤ sizeLine → W l acc G → compL g dYes te S p δ (l.map s) acc G Q
  | [], acc, G, _, w => ⟨(hW _ _ _ w).1, (hW _ _ _ w).2, hd acc G w⟩
  | x :: r, acc, G, hl, w => by
    rw [List.length_cons] at hl
    exact ⟨(hW _ _ _ w).1, (hW _ _ _ w).2, hs x r acc G _ w fun y G4 e w' => ⟨e, by omega, compL_by s W hW hs hd r _ _ (by rw [List.length_append, List.length_singleton]; omega) w'⟩⟩
end DL

/-! Comprehensions with a condition that is drawn; counts. -/
namespace DL
open PySem PySem.Spec PyProof.Rows L2
/-- a comprehension whose condition may be either way: some of the f x, in order -/
theorem compL_some {α : Type} {g : DG} {tt : DT} {te : DE} {S : Gp → Prop} {p : Addr} {δ : Sl} {G : Gp} {Q : List D → Gp → Prop} (s f : α → D) (hS : ∀ ys, S (gu G p (.lst ys))) : ∀ (l acc : List α),
    (∀ x ∈ l, ∀ ys (M : Gp → Prop) (Q : DK), M (gu G p (.lst ys)) → Q (f x) (gu G p (.lst ys)) → g (s x) δ (gu G p (.lst ys)) fun δ2 G2 => tt δ2 G2 fun b G3 => if b = true then te δ2 G3 Q else M G3) → acc.length + l.length ≤ sizeLine →
    (∀ k : List α, (∀ x ∈ k, x ∈ acc ∨ x ∈ l) → k.length ≤ acc.length + l.length → Q (k.map f) (gu G p (.lst (k.map f)))) → compL g tt te S p δ (l.map s) (acc.map f) (gu G p (.lst (acc.map f))) Q
  | [], acc, _, _, q => ⟨hS _, gu_same, q acc (fun x hx => .inl hx) (by simp)⟩
  | x :: r, acc, h, hl, q => by
    refine ⟨hS _, gu_same, ?_⟩
    rw [List.length_cons] at hl
    have key := h x List.mem_cons_self (acc.map f) (fun G3 => compL g tt te S p δ (r.map s) (acc.map f) G3 Q) (fun y G4 => G4 p = some (.lst (acc.map f)) ∧ (acc.map f).length < sizeLine ∧ compL g tt te S p δ (r.map s) (acc.map f ++ [y]) (gu G4 p (.lst (acc.map f ++ [y]))) Q)
      (compL_some s f hS r acc (fun z hz => h z (List.mem_cons_of_mem _ hz)) (by omega) fun k hk hkl => q k (fun z hz => (hk z hz).imp id (List.mem_cons_of_mem _)) (by rw [List.length_cons]; omega))
      ⟨gu_same, by rw [List.length_map]; omega, by
        rw [gu_gu]
        have e : acc.map f ++ [f x] = (acc ++ [x]).map f := by rw [List.map_append]; rfl
        rw [e]
        refine compL_some s f hS r (acc ++ [x]) (fun z hz => h z (List.mem_cons_of_mem _ hz)) (by rw [List.length_append, List.length_singleton]; omega) fun k hk hkl => q k (fun z hz => ?_) (by rw [List.length_append, List.length_singleton] at hkl; rw [List.length_cons]; omega)
        rcases hk z hz with hz | hz
        · rcases List.mem_append.mp hz with hz | hz
          · exact .inl hz
          · rw [List.mem_singleton.mp hz]; exact .inr List.mem_cons_self
        · exact .inr (List.mem_cons_of_mem _ hz)⟩
    exact key
theorem lc_some {α : Type} {g : DG} {tt : DT} {te : DE} {S : Gp → Prop} {δ : Sl} {G : Gp} {Q : DK} (l : List α) (s f : α → D) {its : List D} (e : its = l.map s) (hl : l.length ≤ sizeLine) (hS : ∀ p ys, G p = none → S (gu G p (.lst ys)))
    (h : ∀ x ∈ l, ∀ p ys (M : Gp → Prop) (Q : DK), G p = none → M (gu G p (.lst ys)) → Q (f x) (gu G p (.lst ys)) → g (s x) δ (gu G p (.lst ys)) fun δ2 G2 => tt δ2 G2 fun b G3 => if b = true then te δ2 G3 Q else M G3)
    (q : ∀ k : List α, (∀ x ∈ k, x ∈ l) → k.length ≤ l.length → Q (.lst (k.map f)) G) : ∀ p, G p = none → compL g tt te S p δ its [] (gu G p (.lst [])) (endLc false Q p) := fun p hp => by
  subst e
  refine compL_some s f (fun ys => hS p ys hp) l [] (fun x hx ys M Q' m k => h x hx p ys M Q' hp m k) (by simpa using hl) fun k hk hkl => ?_
  show Q (.lst (k.map f)) (gd (gu G p _) p)
  rw [gd_gu hp]
  exact q k (fun x hx => (hk x hx).elim (fun z => nomatch z) id) (by simpa using hkl)
/-- how often each number below n stands in l makes the length of l -/
theorem counts_sum (n : Nat) : ∀ l : List Int, (∀ x ∈ l, 0 ≤ x ∧ x < n) → ((List.range n).map fun i => ((l.count ((i : Nat) : Int) : Nat) : Int)).sum = l.length
  | [], _ => by
    have : ((List.range n).map fun i => ((([] : List Int).count ((i : Nat) : Int) : Nat) : Int)) = List.replicate n 0 := by
      rw [List.eq_replicate_iff]
      exact ⟨by simp, fun x hx => by obtain ⟨i, _, rfl⟩ := List.mem_map.mp hx; rfl⟩
    rw [this, sum_zeros]
    rfl
  | x :: r, h => by
    obtain ⟨h0, h1⟩ := h x List.mem_cons_self
    have ih := counts_sum n r fun y hy => h y (List.mem_cons_of_mem _ hy)
    have e : ((List.range n).map fun i => (((x :: r).count ((i : Nat) : Int) : Nat) : Int)) = ((List.range n).map fun i => ((r.count ((i : Nat) : Int) : Nat) : Int)).set x.toNat (((r.count x : Nat) : Int) + 1) := by
      apply List.ext_getElem
      · simp
      · intro i h2 h3
        simp only [List.length_map, List.length_range] at h2
        rw [List.getElem_map, List.getElem_range, List.getElem_set]
        by_cases hi : x.toNat = i
        · rw [if_pos hi]
          have : x = ((i : Nat) : Int) := by omega
          rw [← this, List.count_cons_self]
          omega
        · rw [if_neg hi, List.getElem_map, List.getElem_range, List.count_cons_of_ne (by omega)]
    rw [e, sum_set _ _ _ (by simp; omega), ih, List.getElem_map, List.getElem_range, Int.toNat_of_nonneg h0, List.length_cons]
    omega
end DL

/-! isinstance of one of two kinds; the last item; lists alike. -/
namespace DL
open PySem PySem.Spec PyProof.Rows L2
def kinds : List String := ["int", "bool", "str", "tuple", "list", "dict"]
/-- isinstance(x, (A, B)) -/
def isi2R (A B : String) (x : D) (G1 : Gp) (Q : DK) : Prop := match tyOf x G1 with
  | some n => (A ∈ kinds ∧ B ∈ kinds) ∧ Q (.bl (subTy n A || subTy n B)) G1
  | none => False
def dIsi2 (A B : String) (t : DE) : DE := fun δ G Q => t δ G fun x G1 => isi2R A B x G1 Q
section
variable {X : Cx} {F₀ : Hp} {e : Expr} {t : DE} {A B : String} {xa xb : Str} {p pa pb tpos pos : Pos} {k : Nat}
theorem de_isi2 (hg : Gl X "isinstance") (hm : X.mg "isinstance" = none) (he : PE X e (Le X.K F₀ t)) (ga : Gl X xa) (ma : X.mg xa = none) (va : bootBuiltins xa = some (.type A)) (na : xa ≠ "__name__") (da : (xa == ("__debug__" : Str)) = false) (gb : Gl X xb) (mb : X.mg xb = none) (vb : bootBuiltins xb = some (.type B)) (nb : xb ≠ "__name__") (db : (xb == ("__debug__" : Str)) = false)
    (hs : starEach [e, .Tuple [.Name xa pa, .Name xb pb] k tpos] X.env = (false, eval e X.env) :: starEach [.Tuple [.Name xa pa, .Name xb pb] k tpos] X.env := by rfl) (hpl : (backTo pos (starEach [.Tuple [.Name xa pa, .Name xb pb] k tpos] X.env)).any (·.1) = false := by rfl) :
    PE X (.Call (.Name "isinstance" p) [e, .Tuple [.Name xa pa, .Name xb pb] k tpos] [] pos) (Le X.K F₀ (dIsi2 A B t)) := by
  have ha : PE X (.Name xa pa) (tC (.ty A)) := pe_bltn ga ma va rfl na da
  have hb : PE X (.Name xb pb) (tC (.ty B)) := pe_bltn gb mb vb rfl nb db
  refine pe_imp (pe_callB call_isiT hg hm PyProof.Rows.boot_isinstance (pa_cons he (pa_cons (pe_tup (pa_cons ha (pa_cons hb pa_nil))) pa_nil) hs) (by decide) (by decide) hs hpl) fun σ H Q ⟨δ, F, G, Q', s, en, w, q, ko⟩ => ?_
  refine ⟨δ, F, G, _, s, en, w, q, fun x v F1 G1 H1 s1 w1 r1 q1 => ?_⟩
  refine ⟨by show 2 ≤ sizeLine; decide, fun T hT => ?_⟩
  unfold isi2R at q1
  split at q1
  · rename_i n en2
    obtain ⟨⟨h1, h2⟩, q1⟩ := q1
    have w2 : Wd X.K F1 G1 (upd H1 T (.tup [.ty A, .ty B])) := w1.newN hT _
    refine ⟨v, T, [.ty A, .ty B], .type n, [.type A, .type B], subTy n A || subTy n B, rfl, upd_same, .cons (.ty A) (.cons (.ty B) .nil), tyOf_ok w2 r1 en2, ?_, ko _ _ F1 G1 _ s1 w2 (.bl _) q1⟩
    refine kitAny_cons (kit_sub (tyOf_mem en2) h1) (fun e1 => ?_) (fun e1 => by rw [e1]; rfl)
    rw [e1, Bool.false_or]
    refine kitAny_cons (kit_sub (tyOf_mem en2) h2) (fun e2 => ?_) (fun e2 => e2)
    rw [e2]
    exact kitAny_nil
  · exact q1.elim
end
section
variable {G : Gp} {Q : DK} {xs ys : List D} {k : Nat} {a : Addr}
theorem isi2_tl : ∀ {x : D} {n : String}, tyOf x G = some n → (n = "tuple" ∨ n = "list") → isi2R "tuple" "list" x G Q = Q (.bl true) G := by
  intro x n h hn
  show (match tyOf x G with | some n => _ ∧ Q (.bl (subTy n "tuple" || subTy n "list")) G | none => False) = _
  rw [h]
  rcases hn with rfl | rfl <;> simp [kinds, subTy]
theorem w_neL_same (h : Es k (.lst xs)) (hk : k ≤ 64) : dNe (.lst xs) (.lst xs) G Q = Q (.bl false) G := by
  obtain ⟨p, e, a, c⟩ := h.shaped hk
  show (match toPy (.lst xs), toPy (.lst xs) with | some p, some q => SeqAt.shaped p = true ∧ SeqAt.shaped q = true ∧ Q (.bl (!PyData.eqv p q)) G | _, _ => False) = _
  rw [e]
  simp only [a, true_and]
  rw [SeqAt.eqv_refl p c]
  rfl
theorem w_isi2_tup : isi2R "tuple" "list" (.tup xs) G Q = Q (.bl true) G := isi2_tl (n := "tuple") rfl (.inl rfl)
theorem w_isi2_lst : isi2R "tuple" "list" (.lst xs) G Q = Q (.bl true) G := isi2_tl (n := "list") rfl (.inr rfl)
theorem got_snoc {xs : List D} {x : D} : gotI (xs ++ [x]) (-1) G Q = Q x G := by
  rw [got_last (by simp)]
  simp
theorem setI_snoc {xs : List D} {x v : D} {N : List D → Prop} : setI (xs ++ [x]) (-1) v N = N (xs ++ [v]) := by
  have e : ixN (xs ++ [x]).length (-1) = some xs.length := by
    unfold ixN
    rw [if_neg (by omega), if_pos (by rw [List.length_append, List.length_singleton]; omega)]
    congr 1
    rw [List.length_append, List.length_singleton]
    omega
  unfold setI
  rw [e]
  show N ((xs ++ [x]).set xs.length v) = _
  rw [List.set_append_right _ _ (Nat.le_refl _), Nat.sub_self]
  rfl
end
end DL

/-! a, b, c = e, f, g; fractions compared; draws into a list that may change. -/
namespace DL
open PySem PySem.Spec PyProof.Rows L2
theorem rps3 {K : PySem.W.Frag} {F : Hp} {d e f : D} {vs : List V} (r : Rps K F [d, e, f] vs) : ∃ v u w, vs = [v, u, w] ∧ Rp K F d v ∧ Rp K F e u ∧ Rp K F f w := by
  cases r with
  | cons a b =>
    obtain ⟨u, w, rfl, c1, c2⟩ := rps2 b
    exact ⟨_, u, w, rfl, a, c1, c2⟩
def dPar3 (i j l : Nat) (t : DA) : DS := fun D δ G => t δ G fun xs G1 => match xs with | [x, y, z] => D.nx (((δ.set i (some x)).set j (some y)).set l (some z)) G1 | _ => False
section
variable {X : Cx} {F₀ : Hp} {pos : Pos}
theorem ds_par3 {i j l : Nat} {x y z : Str} {a b c : Expr} {ta : DA} {px py pz pt : Pos} {kt k2 pt2} (hc : X.calm = true) (hN : X.N.Nodup) (hi : X.N[i]? = some x) (hj : X.N[j]? = some y) (hl : X.N[l]? = some z) (hij : i ≠ j) (hil : i ≠ l) (hjl : j ≠ l)
    (hx : X.env.scope.names.lookup x = some .local) (hy : X.env.scope.names.lookup y = some .local) (hz : X.env.scope.names.lookup z = some .local) (ha : PA X [a, b, c] (La X.K F₀ ta))
    (hw : swappedStores [.Tuple [.Name x px, .Name y py, .Name z pz] kt pt] (.Tuple [a, b, c] k2 pt2) X.env = pure (some [x, y, z]))
    (hs : swapsWithSole [.Tuple [.Name x px, .Name y py, .Name z pz] kt pt] (.Tuple [a, b, c] k2 pt2) pos.line X.env = pure false := by rfl) :
    PS X (.Assign [.Tuple [.Name x px, .Name y py, .Name z pz] kt pt] (.Tuple [a, b, c] k2 pt2) pos) (Ls X.K F₀ (dPar3 i j l ta)) := ps_imp (ps_par3 hc hN hi hj hl hij hil hjl hx hy hz ha hw hs) fun D σ H ⟨δ, F, G, D', s, en, w, q, k⟩ => by
  refine ⟨δ, F, G, _, s, en, w, q, fun xs vs F1 G1 H1 s1 w1 r1 q1 => ?_⟩
  split at q1
  · obtain ⟨v, u, t, rfl, ra, rb, rc⟩ := rps3 r1
    exact ⟨v, u, t, rfl, k.nx _ _ F1 G1 H1 s1 ((((en.mono s1).set ra i).set rb j).set rc l) w1 q1⟩
  · exact q1.elim
end
section
variable {G : Gp} {Q : DK}
theorem eqv_fr (x y : Rat) : (PyData.tuple [.int x.num, .int (x.den : Nat)]).eqv (.tuple [.int y.num, .int (y.den : Nat)]) = decide (x = y) := by
  rw [Bool.eq_iff_iff, decide_eq_true_iff]
  simp only [PyData.eqv, PyData.eqvAll, Bool.and_eq_true, Bool.and_true, beq_iff_eq, decide_eq_true_iff]
  constructor
  · rintro ⟨h1, h2⟩
    exact Rat.ext h1 (by omega)
  · rintro rfl
    exact ⟨rfl, rfl⟩
theorem fr_shaped (x : Rat) : SeqAt.shaped (.tuple [.int x.num, .int (x.den : Nat)]) = true := by
  simp [SeqAt.shaped, PyData.canLay0, PyData.canLayAll0, PyData.depth, PyData.depthAll]
theorem w_eq_fr (x y : Rat) : dEq (fr x) (fr y) G Q = Q (.bl (decide (x = y))) G := by
  show (SeqAt.shaped (.tuple [.int x.num, .int (x.den : Nat)]) = true ∧ SeqAt.shaped (.tuple [.int y.num, .int (y.den : Nat)]) = true ∧ Q (.bl ((PyData.tuple [.int x.num, .int (x.den : Nat)]).eqv (.tuple [.int y.num, .int (y.den : Nat)]))) G) = _
  rw [eqv_fr, fr_shaped, fr_shaped]
  simp
theorem w_ne_fr (x y : Rat) : dNe (fr x) (fr y) G Q = Q (.bl (!decide (x = y))) G := by
  show (SeqAt.shaped (.tuple [.int x.num, .int (x.den : Nat)]) = true ∧ SeqAt.shaped (.tuple [.int y.num, .int (y.den : Nat)]) = true ∧ Q (.bl (!(PyData.tuple [.int x.num, .int (x.den : Nat)]).eqv (.tuple [.int y.num, .int (y.den : Nat)]))) G) = _
  rw [eqv_fr, fr_shaped, fr_shaped]
  simp
theorem fr_zero : fr 0 = .tup [.int 0, .int 1] := rfl
/-- 1 / k -/
theorem fr_unit {k : Nat} (h : 0 < k) : fr (mkRat 1 k) = .tup [.int 1, .int (k : Nat)] := by
  obtain ⟨e1, e2⟩ := low_num (a := 1) (b := k) (by omega)
  unfold fr
  rw [e1, e2]
  simp
end
/-- whether a thing is None -/
def isNoD : D → Bool | .non => true | _ => false
section
variable {G : Gp} {Q : DK} {xs : List D} {i : Int} {s : Str} {b : Bool} {a : Addr}
theorem w_isN {x : D} : dIsN x .non G Q = Q (.bl (isNoD x)) G := by cases x <;> rfl
theorem w_notN {x : D} : dNotN x .non G Q = Q (.bl (!isNoD x)) G := by cases x <;> rfl
theorem isNoD_non : isNoD .non = true := rfl
theorem isNoD_int : isNoD (.int i) = false := rfl
theorem isNoD_str : isNoD (.str s) = false := rfl
theorem isNoD_bl : isNoD (.bl b) = false := rfl
theorem isNoD_tup : isNoD (.tup xs) = false := rfl
theorem isNoD_lst : isNoD (.lst xs) = false := rfl
theorem isNoD_ref : isNoD (.ref a) = false := rfl
end
/-- draws into a list that may change -/
theorem lc_relM {g : DG} {te : DE} {S : Gp → Prop} {δ : Sl} {G : Gp} {Q : DK} {its : List D} (R : D → D → Prop) (hl : its.length ≤ sizeLine) (hS : ∀ p ys, G p = none → S (gu G p (.lst ys)))
    (h : ∀ x ∈ its, ∀ p ys (Q : DK), G p = none → (∀ y, R x y → Q y (gu G p (.lst ys))) → g x δ (gu G p (.lst ys)) fun δ2 G2 => te δ2 G2 Q)
    (q : ∀ p ys, G p = none → Fa2 R its ys → Q (.ref p) (gu G p (.lst ys))) : ∀ p, G p = none → compL g dYes te S p δ its [] (gu G p (.lst [])) (endLc true Q p) := fun p hp =>
  compL_rel R (fun ys => hS p ys hp) its [] (fun x hx ys Q' k => h x hx p ys Q' hp k) (by simpa using hl) fun ys hys => by
    show Q (.ref p) (gu G p _)
    rw [List.nil_append]
    exact q p ys hp hys
end DL

/-! sorted of pairs of ints: the same pairs in some order. -/
namespace DL
open PySem PySem.Spec PyProof.Rows L2
def rSortedQ (K : PySem.W.Frag) : List V → Hp → VK → Prop := fun vs H Q => ∃ a xs, vs = [V.ref a] ∧ SqL K H a xs ∧ (∀ x ∈ xs, ∃ t i j, x = V.ref t ∧ SqT K H t [.int i, .int j]) ∧
  ∀ ys p, ys.Perm xs → H p = none → Q (.ref p) (upd H p (.lst ys))
theorem cr_sortedQ {X : Cx} : CallR X (.builtin "sorted") (rSortedQ X.K) := by
  intro pins s σ H vs us Q I r h
  obtain ⟨a, xs, rfl, hs, hx, q⟩ := h
  obtain ⟨its, rv, hl, hz⟩ := I.list hs
  obtain ⟨u, rfl, ru⟩ := vals1 r
  obtain rfl : u = Value.ref a := ru
  obtain ⟨e1, e2⟩ := refs_back rv fun x m => by
    obtain ⟨t, _, _, e, _⟩ := hx x m
    exact ⟨t, e⟩
  refine Srt.sorted_pairs hl.isList (by rw [← rv.length]; exact hz) (fun v hv => ?_) fun h' d out hp k hd hn => ?_
  · obtain ⟨t, rfl⟩ := e2 v hv
    have hm : V.ref t ∈ xs := by rw [e1]; exact List.mem_map.mpr ⟨_, hv, rfl⟩
    obtain ⟨t', i, j, e, ht⟩ := hx _ hm
    cases e
    obtain ⟨its2, r2, ⟨o, ho, hc, n, hd⟩, _⟩ := I.tuple ht
    obtain ⟨u1, u2, rfl, ri, rj⟩ := vals2 r2
    obtain ⟨t1, rfl⟩ := ri
    obtain ⟨t2, rfl⟩ := rj
    exact ⟨i, j, t, o, t1, t2, n, rfl, ho, hc, hd⟩
  · have h3 : ∀ u ∈ out, ∃ a, u = Value.ref a := fun u hu => e2 u (hp.mem_iff.mp hu)
    obtain ⟨n, hn⟩ := hn
    refine ⟨.ref d, upd H d (.lst (out.map backV)), I.laid (t' := s.toks) k hd ⟨?_, out, n, vals_back h3, hn⟩, rfl, q _ d ?_ (I.hok.fresh hd)⟩
    · rw [List.length_map, hp.length_eq, ← rv.length]; exact hz
    · rw [e1]; exact hp.map backV
section
variable {K : PySem.W.Frag} {F₀ F : Hp}
theorem Rps.perm {vs ws : List V} (h : ws.Perm vs) : ∀ {ds : List D}, Rps K F ds vs → ∃ es, es.Perm ds ∧ Rps K F es ws := by
  induction h with
  | nil => exact fun r => ⟨_, .refl _, r⟩
  | @cons x a b _ ih =>
    intro ds r
    cases r with
    | cons r1 r2 =>
      obtain ⟨es, h1, h2⟩ := ih r2
      exact ⟨_, h1.cons _, .cons r1 h2⟩
  | swap x y l =>
    intro ds r
    cases r with
    | cons r1 r2 =>
      cases r2 with
      | cons r2 r3 => exact ⟨_, .swap _ _ _, .cons r2 (.cons r1 r3)⟩
  | trans _ _ i1 i2 =>
    intro ds r
    obtain ⟨es, h1, h2⟩ := i2 r
    obtain ⟨fs, h3, h4⟩ := i1 h2
    exact ⟨fs, h3.trans h1, h4⟩
def isPI : D → Bool | .tup [.int _, .int _] => true | _ => false
/-- sorted of pairs of ints, some order of them -/
def dSortedP (m : Bool) : List D → Gp → DK → Prop := fun xs G Q => match xs with
  | [x] => match rlOf x G with
    | some ys => ys.all isPI = true ∧ ∀ zs : List D, zs.Perm ys → nL m zs G Q
    | none => False
  | _ => False
theorem cd_sortedP (m : Bool) : CallD K F₀ (dSortedP m) (rSortedQ K) := by
  intro F G H xs vs Q' Q s w rx q k
  unfold dSortedP at q
  split at q
  · obtain ⟨v, rfl, r⟩ := rps1 rx
    split at q
    · rename_i ys e
      obtain ⟨a, us, rfl, hs, rs⟩ := rlOf_ok w r e
      obtain ⟨hp, q⟩ := q
      refine ⟨a, us, rfl, hs, fun x hx => ?_, fun zs p hz hp0 => ?_⟩
      · obtain ⟨i, hi, rfl⟩ := List.getElem_of_mem hx
        obtain ⟨d, hd, rd⟩ := rs.getV (List.getElem?_eq_getElem hi)
        have hpd := List.all_eq_true.mp hp d (List.mem_of_getElem? hd)
        unfold isPI at hpd
        split at hpd
        · rename_i i1 i2
          generalize us[i] = x at rd
          cases rd with
          | tup sq rq =>
            obtain ⟨u1, u2, rfl, c1, c2⟩ := rps2 rq
            cases c1; cases c2
            exact ⟨_, _, _, rfl, sqT_mono w.fz sq⟩
        · cases hpd
      · obtain ⟨es, h1, h2⟩ := rs.perm hz
        exact nL_ok w hp0 h2 (q es h1) k
    · exact q.elim
  · exact q.elim
theorem w_sortedP_lst {m : Bool} {ys : List D} {G : Gp} {Q : DK} : dSortedP m [.lst ys] G Q = (ys.all isPI = true ∧ ∀ zs : List D, zs.Perm ys → nL m zs G Q) := rfl
/-- an order of what was told is told by an order -/
theorem perm_src {α : Type} {f : α → D} {g : D → α} (hg : ∀ a, g (f a) = a) {l : List α} {zs : List D} (h : zs.Perm (l.map f)) : ∃ m : List α, m.Perm l ∧ zs = m.map f := by
  refine ⟨zs.map g, ?_, ?_⟩
  · have := h.map g
    rw [List.map_map, show g ∘ f = id from funext hg, List.map_id] at this
    exact this
  · rw [List.map_map]
    apply List.ext_getElem
    · simp
    · intro i h1 h2
      rw [List.getElem_map]
      obtain ⟨a, _, e⟩ := List.mem_map.mp (h.mem_iff.mp (List.getElem_mem h1))
      show zs[i] = f (g zs[i])
      rw [← e, hg]
end
end DL

/-! str of a whole number. -/
namespace DL
open PySem PySem.Spec PyProof.Rows L2
/-- str of a whole number, small -/
def dStr : List D → Gp → DK → Prop := fun xs G Q => match xs with
  | [.int i] => i.natAbs.log2 < 1920 ∧ ∀ s, Q (.str s) G
  | _ => False
theorem cd_str {K : PySem.W.Frag} {F₀ : Hp} : CallD K F₀ dStr (fun xs H Q => ∃ i, xs = [.int i] ∧ i.natAbs.log2 < 1920 ∧ Q (.str (toString i)) H) := by
  intro F G H xs vs Q' Q s w rx q k
  unfold dStr at q
  split at q
  · obtain ⟨v, rfl, r⟩ := rps1 rx
    cases r
    exact ⟨_, rfl, q.1, k _ _ F G H (Same.refl F) w (.str _) (q.2 _)⟩
  · exact q.elim
end DL

/-! A def as a value: named, handed on, called by a local name. -/
namespace DL
open PySem PySem.Spec PyProof.Rows L2
def dCallL (i : Nat) (n : Str) (sp : DSp) (E' : DX) (t : DA) : DE := fun δ G Q => δ[i]? = some (some (.fn n)) ∧ t δ G fun ds G1 => sp ds G1 Q E'
section
variable {X : Cx} {F₀ : Hp} {CX : CXT} {k i : Nat} {f : Addr} {fd : FuncData} {ps : List Str} {sp : DSp} {E : XK} {E' : DX} {x n : Str} {p pos : Pos} {e : Expr} {es : List Expr} {t : DA}
theorem de_callL (F : FnG X.prog X.w X.K X.mg X.base CX k f fd ps (LSp X.K sp)) (hr : Room k X.A) (hmu : Mute X.A) (hN : X.N[i]? = some x) (hv : Vis X.env.scope x) (hn : PySem.W.nsIn X.K mainGlobals n = some (some (.ref f))) (hk : PySem.W.keepIn X.K (.ref f) = true) (hb : Binds X.K fd ps []) (hx : Passes CX X E) (ke : KoE X.K F₀ E' E)
    (ha : PA X (e :: es) (La X.K F₀ t)) (hdb : (x == ("__debug__" : Str)) = false := by decide) (hcd : (x == ("__classdict__" : Str)) = false := by decide) (he : starEach (e :: es) X.env = (false, eval e X.env) :: starEach es X.env := by rfl) (hpl : (backTo pos (starEach es X.env)).any (·.1) = false := by rfl) :
    PE X (.Call (.Name x p) (e :: es) [] pos) (Le X.K F₀ (dCallL i n sp E' t)) := by
  refine ⟨fun pins s σ H Q I h => ?_⟩
  obtain ⟨δ, F', G, Q', sm, en, w, ⟨hi, ht⟩, ko⟩ := h
  obtain ⟨v, hs, rv⟩ := en.2 i _ hi
  cases rv with
  | fn h2 =>
    rename_i f'
    have ef : f' = f := by
      have z := hn.symm.trans h2
      cases z
      rfl
    subst ef
    have q : (fun (σ : L2.St) H Q => La X.K F₀ t σ H fun vs H1 => LSp X.K sp vs H1 Q E) σ H Q := call_lsp ke ⟨δ, F', G, Q', sm, en, w, ht, ko⟩
    refine wpAny_Call_Name_kw (thn ((pe_var (pos := p) hN hv hdb hcd).run pins s σ H (fun v H1 => v = .ref f' ∧ H1 = H) I ⟨.ref f', hs, rfl, rfl⟩) fun u s1 ⟨v, H1, I1, r1, q1⟩ => ?_)
    obtain ⟨rfl, rfl⟩ := q1
    cases r1
    exact PySem.W.callWith_K (h₀ := X.base) I.ok.mod.kin hk (thn (ha.run pos pins s1 σ _ _ I1 q) fun us s2 ⟨vs, H2, I2, r, q2⟩ => ⟨I2.kIn, go_fn F hr hmu hb hx I2 r q2⟩) he hpl
/-- the name of a def -/
theorem de_fn (hg : Gl X x) (hm : X.mg x = some (.ref f)) (hn : PySem.W.nsIn X.K mainGlobals x = some (some (.ref f))) (hdb : (x == ("__debug__" : Str)) = false := by decide) : PE X (.Name x p) (Le X.K F₀ (dC (.fn x))) :=
  de_c (v := .ref f) (d := .fn x) (pe_imp ⟨fun pins s σ H Q I h => ld_glob I hg hm ⟨.ref f, H, I, rfl, h⟩ hdb⟩ fun _ _ _ h => h) fun _ => .fn hn
end
/-- a promise of nothing -/
theorem fnG_no {P : Program} {w : World} {K : PySem.W.Frag} {mg : Str → Option Value} {base : Heap} {CX : CXT} {k : Nat} {f : Addr} {fd : FuncData} {ps : List Str} {sp : DSp} (h : ∀ ds G Q E, ¬ sp ds G Q E) : FnG P w K mg base CX k f fd ps (LSp K sp) :=
  ⟨fun vs H Q E ⟨_, _, _, _, _, _, _, q, _⟩ => (h _ _ _ _ q).elim, fun A outer s H args us vs Q E _ _ _ _ _ ⟨_, _, _, _, _, _, _, q, _⟩ => (h _ _ _ _ q).elim⟩
/-- min of three whole numbers -/
def dMin3 : List D → Gp → DK → Prop := fun xs G Q => match xs with
  | [.int i, .int j, .int k] => Q (.int (min (min i j) k)) G
  | _ => False
theorem rps3' {K : PySem.W.Frag} {F : Hp} {d e f : D} {vs : List V} (r : Rps K F [d, e, f] vs) : ∃ v u w, vs = [v, u, w] ∧ Rp K F d v ∧ Rp K F e u ∧ Rp K F f w := rps3 r
theorem min2V (i j : Int) : nuMin2 (.int i) (.int j) = some (.int (min i j)) := by
  show some (if decide (j < i) = true then V.int j else V.int i) = _
  by_cases h : j < i
  · rw [if_pos (by simpa using h), Int.min_eq_right (by omega)]
  · rw [if_neg (by simpa using h), Int.min_eq_left (by omega)]
theorem cd_min3 {K : PySem.W.Frag} {F₀ : Hp} : CallD K F₀ dMin3 (rNuC3 nuMin3) := by
  intro F G H xs vs Q' Q s w rx q ko
  unfold dMin3 at q
  split at q
  · rename_i i j k
    obtain ⟨u1, u2, u3, rfl, r1, r2, r3⟩ := rps3 rx
    cases r1
    cases r2
    cases r3
    exact ⟨_, _, _, .int (min (min i j) k), rfl, by unfold nuMin3; rw [min2V]; exact min2V _ _, ko _ _ F G H (Same.refl F) w (.int _) q⟩
  · exact q.elim
/-- a or b, by truth: None, flags, tuples -/
def truD : D → Option Bool
  | .non => some false
  | .bl b => some b
  | .tup xs => some (!xs.isEmpty)
  | _ => none
def dOrX (ta tb : DE) : DE := fun δ G Q => ta δ G fun x G1 => match truD x with | some true => Q x G1 | some false => tb δ G1 Q | none => False
section
variable {X : Cx} {F₀ : Hp} {ta tb : DE} {a b : Expr} {rest : List Expr} {pos : Pos}
theorem de_orX (ha : PE X a (Le X.K F₀ ta)) (hb : PE X (.BoolOp .Or (b :: rest) pos) (Le X.K F₀ tb)) : PE X (.BoolOp .Or (a :: b :: rest) pos) (Le X.K F₀ (dOrX ta tb)) := pe_imp (pe_orT ha hb) fun σ H Q ⟨δ, F, G, Q', s, en, w, q, k⟩ => by
  refine ⟨δ, F, G, _, s, en, w, q, fun x v F1 G1 H1 s1 w1 r1 q1 => ?_⟩
  have go : ∀ c, truD x = some c → TruV X.K v H1 c → ∃ k, TruV X.K v H1 k ∧ if k = true then Q v H1 else Le X.K F₀ tb σ H1 Q := fun c e hv => by
    refine ⟨c, hv, ?_⟩
    rw [e] at q1
    cases c with
    | false =>
      rw [if_neg Bool.false_ne_true]
      exact ⟨δ, F1, G1, _, s.trans s1, en.mono s1, w1, q1, k.mono s1⟩
    | true =>
      rw [if_pos rfl]
      exact k _ _ F1 G1 H1 s1 w1 r1 q1
  cases r1 with
  | non => exact go false rfl rfl
  | bl c => exact go c rfl rfl
  | tup h1 h2 =>
    rename_i ds vs
    refine go (!ds.isEmpty) rfl (.inr (.inl ⟨vs, ?_, ?_⟩))
    · rcases h1 with (h1 | ⟨o, h1⟩) | h1
      · exact .inl (.inl (w1.fz _ _ h1))
      · exact .inl (.inr ⟨o, w1.fz _ _ h1⟩)
      · exact .inr h1
    · cases h2 <;> rfl
  | _ => exact q1.elim
theorem w_orX_non : dOrX ta tb = fun δ G Q => ta δ G fun x G1 => match truD x with | some true => Q x G1 | some false => tb δ G1 Q | none => False := rfl
end
/-- max of a list of whole numbers -/
def dMaxL : List D → Gp → DK → Prop := fun xs G Q => match xs with
  | [x] => match lstOf x G with
    | some ys => match intsOf ys with
      | some bs => 0 < bs.length ∧ ∀ m, m ∈ bs → (∀ y, y ∈ bs → y ≤ m) → Q (.int m) G
      | none => False
    | none => False
  | _ => False
theorem cd_maxL {K : PySem.W.Frag} {F₀ : Hp} : CallD K F₀ dMaxL (rMax K) := by
  intro F G H xs vs Q' Q s w rx q k
  unfold dMaxL at q
  split at q
  · obtain ⟨v, rfl, r⟩ := rps1 rx
    split at q
    · rename_i ys e
      obtain ⟨a, us, rfl, hs, rs⟩ := lstOf_ok w r e
      split at q
      · rename_i bs e2
        have e3 := intsOf_eq e2
        subst e3
        rw [rs.ints] at hs
        exact ⟨a, bs, rfl, .inl (.inl hs), q.1, fun m h1 h2 => k _ _ F G H (Same.refl F) w (.int _) (q.2 m h1 h2)⟩
      · exact q.elim
    · exact q.elim
  · exact q.elim
/-- a comprehension with a condition that is known -/
theorem compL_filt {α : Type} {g : DG} {tt : DT} {te : DE} {S : Gp → Prop} {p : Addr} {δ : Sl} {G : Gp} {Q : List D → Gp → Prop} (s f : α → D) (P : α → Bool) (hS : ∀ ys, S (gu G p (.lst ys))) : ∀ (l : List α) (acc : List D),
    (∀ x ∈ l, ∀ ys (M : Gp → Prop) (Q : DK), (P x = false → M (gu G p (.lst ys))) → (P x = true → Q (f x) (gu G p (.lst ys))) → g (s x) δ (gu G p (.lst ys)) fun δ2 G2 => tt δ2 G2 fun b G3 => if b = true then te δ2 G3 Q else M G3) → acc.length + l.length ≤ sizeLine →
    Q (acc ++ (l.filter P).map f) (gu G p (.lst (acc ++ (l.filter P).map f))) → compL g tt te S p δ (l.map s) acc (gu G p (.lst acc)) Q
  | [], acc, _, _, q => ⟨hS _, gu_same, by rwa [List.filter_nil, List.map_nil, List.append_nil] at q⟩
  | x :: r, acc, h, hl, q => by
    refine ⟨hS _, gu_same, ?_⟩
    rw [List.length_cons] at hl
    have key := h x List.mem_cons_self acc (fun G3 => compL g tt te S p δ (r.map s) acc G3 Q) (fun y G4 => G4 p = some (.lst acc) ∧ acc.length < sizeLine ∧ compL g tt te S p δ (r.map s) (acc ++ [y]) (gu G4 p (.lst (acc ++ [y]))) Q)
      (fun e => compL_filt s f P hS r acc (fun z hz => h z (List.mem_cons_of_mem _ hz)) (by omega) (by rwa [List.filter_cons_of_neg (by rw [e]; exact Bool.false_ne_true)] at q))
      (fun e => ⟨gu_same, by omega, by
        rw [gu_gu]
        refine compL_filt s f P hS r (acc ++ [f x]) (fun z hz => h z (List.mem_cons_of_mem _ hz)) (by rw [List.length_append, List.length_singleton]; omega) ?_
        rw [List.filter_cons_of_pos e, List.map_cons] at q
        rw [List.append_assoc]
        exact q⟩)
    exact key
theorem lc_filt {α : Type} {g : DG} {tt : DT} {te : DE} {S : Gp → Prop} {δ : Sl} {G : Gp} {Q : DK} (l : List α) (s f : α → D) (P : α → Bool) {its : List D} (e : its = l.map s) (hl : l.length ≤ sizeLine) (hS : ∀ p ys, G p = none → S (gu G p (.lst ys)))
    (h : ∀ x ∈ l, ∀ p ys (M : Gp → Prop) (Q : DK), G p = none → (P x = false → M (gu G p (.lst ys))) → (P x = true → Q (f x) (gu G p (.lst ys))) → g (s x) δ (gu G p (.lst ys)) fun δ2 G2 => tt δ2 G2 fun b G3 => if b = true then te δ2 G3 Q else M G3)
    (q : Q (.lst ((l.filter P).map f)) G) : ∀ p, G p = none → compL g tt te S p δ its [] (gu G p (.lst [])) (endLc false Q p) := fun p hp => by
  subst e
  refine compL_filt s f P (fun ys => hS p ys hp) l [] (fun x hx ys M Q' m k => h x hx p ys M Q' hp m k) (by simpa using hl) ?_
  show Q (.lst ([] ++ (l.filter P).map f)) (gd (gu G p _) p)
  rw [gd_gu hp, List.nil_append]
  exact q
end DL

set_option maxHeartbeats 2000000
/-! A dict is no whole number. -/
namespace PySem.SeqAt
open AutoSeq1 (wpAny_loadPart')
open MeetsSeq
theorem dl_dict_eq_declines_int (l : Addr) (es : Array DictEntry) (ep : Nat) (dd : Option Addr) (sl : Array (Option Value)) (b : Int) (u : Tok) :
    Meets (Builtin.«dict.__eq__» ⟨[.ref l, .int b u], []⟩) (fun _ R s => s.heap.get? l = some { cls := .type "dict", dict := dd, data := .dict es ep, slots := sl } ∧ R (.ok (.ret .notImplemented)) s) :=
  .of_wp fun prog w A R s h => by obtain ⟨hp, g, d, tk, os⟩ := s; obtain ⟨hl, h⟩ := h; have f1 := F.sub_int_dict; wp_walk using wpAny_loadPart' hl; exact ⟨_, rfl, h⟩
theorem dl_int_eq_declines_dict (b : Int) (u : Tok) (l : Addr) (c : Value) (es : Array DictEntry) (ep : Nat) (dd : Option Addr) (sl : Array (Option Value)) :
    Meets (Builtin.«int.__eq__» ⟨[.int b u, .ref l], []⟩) (fun _ R s => s.heap.get? l = some { cls := c, dict := dd, data := .dict es ep, slots := sl } ∧ R (.ok (.ret .notImplemented)) s) :=
  .of_wp fun prog w A R s h => by obtain ⟨hp, g, d, tk, os⟩ := s; obtain ⟨hl, h⟩ := h; wp_walk using wpAny_loadPart' hl, wpAny_load hl; exact ⟨_, rfl, h⟩
end PySem.SeqAt
namespace PySem.SeqAt
section
variable {M : Model} {A : Around} {E : Value → Shared → Prop} {s : Shared}
theorem RcAt.dl_dict_int {l : Addr} {o : Obj} {es : Array DictEntry} {ep : Nat} (b : Int) (u : Tok) (ho : s.heap.get? l = some o) (hc : o.cls = .type "dict") (hd : o.data = .dict es ep) (hu : A.units < cLine) : RcAt A s (.ref l) (.int b u) false := fun prog w E Q h => by
  obtain ⟨cls, dd, data, sl⟩ := o
  simp only at hc hd
  subst hc hd
  exact rc_eq_decline_or (k := false) ⟨_, ho, rfl⟩ (typeIs_int s b u) (by decide) F.sub_int_dict F.slot_dict_eq F.slot_int_eq_refl
    (fun _ hq => call_meets F.slot_dict_eq ⟨_, ho, rfl⟩ F.entry_dict_eq (F.args_dict_eq_2 _ _) (dl_dict_eq_declines_int l es ep dd sl b u) ⟨ho, hq⟩)
    (fun _ hq => call_meets F.slot_int_eq_refl (typeIs_int s b u) F.entry_int_eq (F.args_int_eq_2 _ _) (dl_int_eq_declines_dict b u l (.type "dict") es ep dd sl) ⟨ho, hq⟩)
    (fun _ hq => wpAny_of_eq (rfl : isSame (.ref l) (.int b u) = pure false) hq) (.inr hu) h
end
end PySem.SeqAt
namespace DL
open PySem PySem.Spec PyProof.Rows L2
/-- a dict and a whole number -/
def rDctInt : R2 := fun x y H Q => ∃ (a : Addr) (kvs : List (Key × V)) (i : Int), x = .ref a ∧ H a = some (.dK kvs) ∧ y = .int i ∧ Q (.bl false) H
theorem op_dctInt {X : Cx} (hu : X.A.units + 64 < cLine) : OpR X (compareOp .Eq) rDctInt := by
  intro pins s σ H x y v u Q I rx ry h
  obtain ⟨a, kvs, i, rfl, ha, rfl, q⟩ := h
  cases rx
  obtain ⟨t, rfl⟩ := ry
  have hx : ObjOk X.prog X.w H s.heap a (.dK kvs) := I.hok a _ ha
  obtain ⟨_, _, vs, _, o, es, ep, ho, hE, hd, _⟩ := hx
  exact PySem.SeqAt.RcAt.dl_dict_int i t ho hE.1 hd (by omega) X.prog X.w X.xe _ ⟨.bl false, H, I, rfl, q⟩
def rEqX (K : PySem.W.Frag) : R2 := fun x y H Q => rEqM K x y H Q ∨ rDctInt x y H Q
theorem op_eqX {X : Cx} (hu : X.A.units + 64 < cLine) : OpR X (compareOp .Eq) (rEqX X.K) := (op_eqM hu).or (op_dctInt hu)
def dEqX : D2 := fun x y G Q => match x, y with
  | .dct _, .int _ => Q (.bl false) G
  | x, y => dEq x y G Q
theorem od_eqX {K : PySem.W.Frag} {F₀ : Hp} : OpD K F₀ dEqX (rEqX K) := by
  intro F G H x y v u Q' Q s w rx ry q k
  unfold dEqX at q
  split at q
  · cases rx with
    | dct h1 h2 =>
      cases ry
      exact .inr ⟨_, _, _, rfl, w.fz _ _ h1, rfl, k _ _ F G H (Same.refl F) w (.bl _) q⟩
  · exact .inl (od_eq F G H _ _ v u Q' Q s w rx ry q k)
end DL

/-! Errors: defs that let them out, raise of an own class without fields. -/
namespace DL
open PySem PySem.Spec PyProof.Rows L2
section
variable {P : Program} {w : World} {K : PySem.W.Frag} {mg : Str → Option Value} {base : Heap}
/-- the context of a def that may let errors out -/
abbrev cxE (P : Program) (w : World) (K : PySem.W.Frag) (mg : Str → Option Value) (base : Heap) (N : List Str) (qual : Str) (sc : Scope) (f : Addr) (cdv : Value) (A : Around) (outer : List Env) (s : Shared) (H : Hp) (E : XK) : Cx :=
  cxOf (L2.CX P w) P w K mg base N qual sc f cdv A outer s H E
theorem takesX {N : List Str} {qual : Str} {sc : Scope} {f : Addr} {cdv : Value} {A : Around} {outer : List Env} {s : Shared} {H : Hp} {E : XK} :
    Takes (cxE P w K mg base N qual sc f cdv A outer s H E) (fun cls d _ H => E cls d H) := takes_of rfl rfl rfl rfl
theorem passX {N : List Str} {qual : Str} {sc : Scope} {f : Addr} {cdv : Value} {A : Around} {outer : List Env} {s : Shared} {H : Hp} {E : XK} :
    Passes (L2.CX P w) (cxE P w K mg base N qual sc f cdv A outer s H E) E := passes_call takesX fun _ _ _ _ h => h
theorem ownX {N : List Str} {qual : Str} {sc : Scope} {f : Addr} {cdv : Value} {A : Around} {outer : List Env} {s : Shared} {H : Hp} {E : XK} :
    PassesOwn (model P w) (cxE P w K mg base N qual sc f cdv A outer s H E).A (cxE P w K mg base N qual sc f cdv A outer s H E).env (cxE P w K mg base N qual sc f cdv A outer s H E).xe := passes_of rfl
/-- where nothing is let out -/
theorem passF {X : Cx} : Passes (L2.CX X.prog X.w) X (fun _ _ _ => False) := passes_call LamX.takes0 fun _ _ _ _ h => h.elim
/-- a def that may let errors out -/
theorem fn_dE {x qual : Str} {st : Stmt} {f : Addr} {fd : FuncData} {N ps : List Str} {k : Nat} {sp : DSp} (F : Fun K x qual st f fd) (S : FnScope N ps (defScope st)) (len : ∀ ds G Q E, sp ds G Q E → ds.length = ps.length)
    (hbody : ∀ (cdv : Value) (A : Around) (outer : List Env) (s : Shared) (H : Hp) (E : XK) (F₀ : Hp) (E' : DX), Room k (A.deeper (envOfC qual (defScope st) s.heap.objs.size f cdv)) → Mute A → KoE K F₀ E' E →
      ∃ t : DS, PSs (cxE P w K mg base N qual (defScope st) f cdv A outer s H E) (defBody st) (Ls K F₀ t) ∧ ∀ ds G Q, sp ds G Q E' → t (endD Q) (startD N ds) G) : FnG P w K mg base (L2.CX P w) (k + 1) f fd ps (LSp K sp) := by
  refine fnG_of F S (fun vs H Q E ⟨F, G, ds, Q', E', r, w, q, _⟩ => by rw [← r.length]; exact len _ _ _ _ q) (fun cdv A outer s H vs Q E hr hmu ⟨F0, G, ds, Q', E', r, w, q, k, ke⟩ => ?_)
  obtain ⟨t, h1, h2⟩ := hbody cdv A outer s H E F0 E' hr hmu ke
  have hl := len _ _ _ _ q
  have hN : ps.length ≤ N.length := by have := congrArg List.length S.pre; rw [List.length_take] at this; omega
  exact ⟨_, h1, ⟨_, F0, G, endD Q', Same.refl F0, En.start N r (by omega), w, h2 _ _ _ q, ke_end k⟩⟩
end
/-! ### raise -/
def dRaise (n : Str) (E' : DX) : DS := fun _ _ G => E' n [] G
section
variable {X : Cx} {F₀ : Hp} {C : Addr} {bmB : List Value} {B newId initId : String} {x : Str} {p p2 pos : Pos} {E : XK} {E' : DX}
/-- X(), X an own exception class without own __init__ -/
theorem pmk_own0 (F : ExcBaseFacts B newId initId bmB) (q : PySem.W.excIn X.K C bmB newId = true) (gC : X.mg x = some (.ref C)) (kC : PySem.W.keepIn X.K (.ref C) = true) (r : Raises X (.ref C)) (hg : Gl X x) (hdb : (x == ("__debug__" : Str)) = false := by decide) :
    PMk X (.Call (.Name x p) [] [] pos) (fun _ H Q => Q (.ref C) none H) := by
  intro pins s σ H Q I h
  refine wpAny_Call_Name_kw (ld_glob I hg gC ?_ hdb)
  refine PySem.W.callWith_K0 I.kIn kC ?_
  show wpAny _ _ (call (.ref C) []) _ _ _
  obtain ⟨bm, N, nm, qn, bs, hdct, sn, sub, ab, col, dd, k0, k1, k2, k3, k5, mN, hC, hN, hni, T⟩ := exc_obj I.kIn q
  refine wpAny_call_exc_subT F T hC hN hni (fun h' e hm => ?_) (by show 0 ≤ sizeLine; exact Nat.zero_le _)
  exact mk_of I hm r h (I.hok.gone hm.new)
/-- what the written part says of an own exception class without fields -/
structure ExN (K : PySem.W.Frag) (mg : Str → Option Value) (n : Str) (C : Addr) : Prop where
  ex : PySem.W.excIn K C [.type "ValueError", .type "Exception", .type "BaseException", .type "object"] "ValueError.__new__" = true
  g : mg n = some (.ref C)
  ns : PySem.W.nsIn K mainGlobals n = some (some (.ref C))
  kp : PySem.W.keepIn K (.ref C) = true
  sb : PySem.W.subIn K (.ref C) (.type "BaseException") = some true
  ty : PySem.W.typeIn K (.ref C) = some (.type "type")
theorem ds_raise (hc : X.calm = true) (tk : Takes X (fun cls d _ H => E cls d H)) (ke : KoE X.K F₀ E' E) (T : ExN X.K X.mg x C) (hg : Gl X x) (hdb : (x == ("__debug__" : Str)) = false := by decide) (hz : x ≠ ZD := by decide) :
    PS X (.Raise (some (.Call (.Name x p) [] [] p2)) none pos) (Ls X.K F₀ (dRaise x E')) :=
  ps_imp (L2.ps_raise hc tk (pmk_own0 F.excBase_ValueError T.ex T.g T.kp (raises_own T.sb T.ty) hg hdb)) fun D σ H ⟨δ, F, G, D', s, en, w, q, k⟩ => ke.1 x C [] none F G H T.ns s w (.inl ⟨rfl, rfl⟩) q hz
end
end DL

/-! Errors met in a try's body, where the slots count; lambdas as values, defs that call what they got. -/
namespace DL
open PySem PySem.Spec PyProof.Rows L2
/-- what is wished of an error: its class's name, its fields, the slots then -/
abbrev DW := Str → List (Str × D) → Sl → Gp → Prop
def KoW (K : PySem.W.Frag) (F : Hp) (W' : DW) (W : WX) : Prop := (∀ n C fs d δ σ F' G' H', PySem.W.nsIn K mainGlobals n = some (some (.ref C)) → Same F F' → En K F' δ σ → Wd K F' G' H' → ErrAt K F' fs d → W' n fs δ G' → n ≠ ZD → W (.ref C) d σ H') ∧
  ∀ d δ σ F' G' H', Same F F' → En K F' δ σ → Wd K F' G' H' → W' ZD [] δ G' → W (.type "ZeroDivisionError") d σ H'
def ownW (E' : DX) : DW := fun n fs _ G => E' n fs G
theorem kow_own {K : PySem.W.Frag} {F : Hp} {E' : DX} {E : XK} (ke : KoE K F E' E) : KoW K F (ownW E') (fun cls d _ H => E cls d H) := ⟨fun n C fs d _ _ F' G' H' h s _ w er q => ke.1 n C fs d F' G' H' h s w er q, fun d _ _ F' G' H' s _ w q => ke.2 d F' G' H' s w q⟩
theorem KoW.up {K : PySem.W.Frag} {F F' : Hp} {W' : DW} {W : WX} (e : Same F F') (k : KoW K F W' W) : KoW K F' W' W := ⟨fun n C fs d δ σ F1 G1 H1 h s en w er q => k.1 n C fs d δ σ F1 G1 H1 h (e.trans s) en w er q, fun d δ σ F1 G1 H1 s en w q => k.2 d δ σ F1 G1 H1 (e.trans s) en w q⟩
theorem KoW.at {K : PySem.W.Frag} {F F' : Hp} {W' : DW} {W : WX} {δ : Sl} {σ : L2.St} (k : KoW K F W' W) (e : Same F F') (en : En K F' δ σ) : KoE K F' (fun n fs G => W' n fs δ G) (WE W σ) :=
  ⟨fun n C fs d F1 G1 H1 h s w er q => k.1 n C fs d δ σ F1 G1 H1 h (e.trans s) (en.mono s) w er q, fun d F1 G1 H1 s w q => k.2 d δ σ F1 G1 H1 (e.trans s) (en.mono s) w q⟩
section
variable {X : Cx} {CX : CXT} {k : Nat} {f C : Addr} {fd : FuncData} {ps : List Str} {sp : Sp} {E : XK} {x m : Str} {p pos apos : Pos} {e o : Expr} {es : List Expr} {ta : TE} {t : TA}
theorem after_callS {pins : List (Addr × Obj)} {σ : L2.St} {H : Hp} {s : Shared} {Q : VK} (hx : PassesAt CX X σ E) (I : Inv X pins σ H s) {r : Result} {s' : Shared} (hq : CR CX X.stack X.prog X.w H s Q E r s') : RRes (EP X pins σ Q) X.xe r s' := by
  match r, hq with
  | .error e, hq => exact hx pins H s e s' I hq
  | .ok (.ret _), hq => exact I.after hq
  | .ok .brk, hq => exact hq
  | .ok .cont, hq => exact hq
  | .ok .next, hq => exact hq
theorem go_fnS {pins : List (Addr × Obj)} {σ : L2.St} {H : Hp} {s : Shared} {Q : VK} {us : List Value} {vs : List V} (F : FnG X.prog X.w X.K X.mg X.base CX k f fd ps sp) (hr : Room k X.A) (hm : Mute X.A) (hb : Binds X.K fd ps []) (hx : PassesAt CX X σ E)
    (I : Inv X pins σ H s) (r : Vals vs us) (h : sp vs H Q E) : wpAny (model X.prog X.w) X.A (call (.ref f) us) (EP X pins σ Q) X.xe s := by
  have hl : (us ++ []).length = ps.length := by rw [List.append_nil, ← r.length]; exact F.arity _ _ _ _ h
  have b := hb s us I.kIn hl
  rw [List.append_nil] at b
  exact wp_call (F.go X.A X.stack s H ⟨us, []⟩ us vs Q E hr hm I.env0 b r h) fun r s' hq => after_callS hx I hq
theorem go_makeS {pins : List (Addr × Obj)} {σ : L2.St} {H : Hp} {s : Shared} {Q : VK} {us : List Value} {vs : List V} (M : Mk X.K C f) (F : FnG X.prog X.w X.K X.mg X.base CX k f fd ps sp) (hr : Room (k + 1) X.A) (hm : Mute X.A) (hb : Binds X.K fd ps [])
    (hx : PassesAt CX X σ E) (I : Inv X pins σ H s) (r : Vals vs us)
    (h : ∀ x dx, H x = none → H dx = none → dx ≠ x → sp (.ref x :: vs) (upd (upd H dx (.own x)) x (.ins C dx [])) (fun v H2 => v = .non ∧ Q (.ref x) H2) E) :
    wpAny (model X.prog X.w) X.A (call (.ref C) us) (EP X pins σ Q) X.xe s := by
  have q := h _ _ (I.hok.fresh (Nat.le_succ s.heap.objs.size)) (I.hok.fresh (Nat.le_refl s.heap.objs.size)) (Nat.ne_of_lt (Nat.lt_succ_self _))
  have J := Inv.made (C := C) I
  have r2 : Vals (V.ref (s.heap.objs.size + 1) :: vs) (Value.ref (s.heap.objs.size + 1) :: us) := .cons rfl r
  have hl : ((Value.ref (s.heap.objs.size + 1) :: us) ++ []).length = ps.length := by rw [List.append_nil, ← r2.length]; exact F.arity _ _ _ _ q
  have b := hb _ (Value.ref (s.heap.objs.size + 1) :: us) J.kIn hl
  rw [List.append_nil] at b
  refine wpAny_call (make_map (f := f) I.kIn M.makes M.init (beq_iff_eq.mp M.fn) (codeAny_mono (F.go _ X.stack _ _ ⟨Value.ref (s.heap.objs.size + 1) :: us, []⟩ _ _ _ E (hr.make C us []) (mute_make hm) (J.env0.make C us []) b r2 q) fun r s' hq => ?_))
  exact go_make.make_back (after_callS hx J hq)
end
/-! ### calls, in a try's body -/
def dCallW (sp : DSp) (W' : DW) (t : DA) : DE := fun δ G Q => t δ G fun ds G1 => sp ds G1 Q fun n fs G2 => W' n fs δ G2
def dMakeW (n : Str) (sp : DSp) (W' : DW) (t : DA) : DE := fun δ G Q => t δ G fun ds G1 => ∀ p, G1 p = none → sp (.ref p :: ds) (gu G1 p (.ins n [])) (fun v G2 => v = .non ∧ Q (.ref p) G2) fun n fs G2 => W' n fs δ G2
section
variable {X : Cx} {F₀ : Hp} {k : Nat} {f C : Addr} {fd : FuncData} {ps : List Str} {sp : DSp} {W : WX} {W' : DW} {x m n : Str} {p pos apos : Pos} {e o : Expr} {es : List Expr} {to : DE} {t : DA}
theorem de_callW (F : FnG X.prog X.w X.K X.mg X.base (L2.CX X.prog X.w) k f fd ps (LSp X.K sp)) (hr : Room k X.A) (hmu : Mute X.A) (hg : Gl X x) (hm : X.mg x = some (.ref f)) (hk : PySem.W.keepIn X.K (.ref f) = true) (hb : Binds X.K fd ps []) (tk : Takes X W) (kw : KoW X.K F₀ W' W)
    (ha : PA X (e :: es) (La X.K F₀ t)) (hdb : (x == ("__debug__" : Str)) = false := by decide) (he : starEach (e :: es) X.env = (false, eval e X.env) :: starEach es X.env := by rfl) (hpl : (backTo pos (starEach es X.env)).any (·.1) = false := by rfl) :
    PE X (.Call (.Name x p) (e :: es) [] pos) (Le X.K F₀ (dCallW sp W' t)) :=
  ⟨fun pins s σ H Q I ⟨δ, F1, G, Q', s0, en, w, q, k⟩ => wpAny_Call_Name_kw (ld_glob I hg hm (PySem.W.callWith_K (h₀ := X.base) I.ok.mod.kin hk (thn (ha.run pos pins s σ H (fun vs H1 => LSp X.K sp vs H1 Q (WE W σ)) I
    ⟨δ, F1, G, _, s0, en, w, q, fun ds vs F2 G2 H2 s2 w2 r2 q2 => ⟨F2, G2, ds, Q', _, r2, w2, q2, k.mono s2, kw.at (s0.trans s2) (en.mono s2)⟩⟩) fun us s1 ⟨vs, H1, I1, r, q⟩ => ⟨I1.kIn, go_fnS F hr hmu hb (passAt tk σ) I1 r q⟩) he hpl) hdb)⟩
theorem de_makeW (hC : IsC X.K n C) (M : Mk X.K C f) (F : FnG X.prog X.w X.K X.mg X.base (L2.CX X.prog X.w) k f fd ps (LSp X.K sp)) (hr : Room (k + 1) X.A) (hmu : Mute X.A) (hg : Gl X x) (hm : X.mg x = some (.ref C)) (hb : Binds X.K fd ps []) (tk : Takes X W) (kw : KoW X.K F₀ W' W)
    (ha : PA X (e :: es) (La X.K F₀ t)) (hdb : (x == ("__debug__" : Str)) = false := by decide) (he : starEach (e :: es) X.env = (false, eval e X.env) :: starEach es X.env := by rfl) (hpl : (backTo pos (starEach es X.env)).any (·.1) = false := by rfl) :
    PE X (.Call (.Name x p) (e :: es) [] pos) (Le X.K F₀ (dMakeW n sp W' t)) := by
  refine ⟨fun pins s σ H Q I ⟨δ, F1, G, Q', s0, en, w, q, k⟩ => wpAny_Call_Name_kw (ld_glob I hg hm (PySem.W.callWith_K (h₀ := X.base) I.ok.mod.kin M.kp (thn (ha.run pos pins s σ H (fun vs H1 => ∀ x dx, H1 x = none → H1 dx = none → dx ≠ x → LSp X.K sp (.ref x :: vs) (upd (upd H1 dx (.own x)) x (.ins C dx [])) (fun v H2 => v = .non ∧ Q (.ref x) H2) (WE W σ)) I
    ⟨δ, F1, G, _, s0, en, w, q, fun ds vs F2 G2 H2 s2 w2 r2 q2 p dx hp hd hne => ?_⟩) fun us s1 ⟨vs, H1, I1, r, q⟩ => ⟨I1.kIn, go_makeS M F hr hmu hb (passAt tk σ) I1 r q⟩) he hpl) hdb)⟩
  have w3 := w2.newN hd (.own p)
  have hp2 : upd H2 dx (.own p) p = none := by rw [upd_ne (Ne.symm hne)]; exact hp
  have w4 : Wd X.K F2 (gu G2 p (.ins n [])) (upd (upd H2 dx (.own p)) p (.ins C dx [])) := w3.put (g := .ins n []) (w3.ffree hp2) ⟨C, dx, [], hC, upd_same, .nil⟩
  refine ⟨F2, _, _, _, _, .cons (.ref p) r2, w4, q2 p (w2.gfree hp), fun d v F3 G3 H3 s3 w5 r3 q3 => ?_, kw.at (s0.trans s2) (en.mono s2)⟩
  obtain ⟨rfl, q3⟩ := q3
  cases r3
  exact ⟨rfl, k (.ref p) _ F3 G3 H3 (s2.trans s3) w5 (.ref p) q3⟩
end
/-! ### lambdas -/
abbrev lamO (cells : List (Str × Addr)) (q : Str) (params : Arguments) (body : Expr) (scope : Scope) (pm : Value) (c' : Addr) (ctv : Value) : Obj := PySem.W.kla_obj "<lambda>" q params body scope (cloFrom cells scope.names []) pm c' ctv
/-- what is known of a lambda -/
def LamR (cells : List (Str × Addr)) (q : Str) (params : Arguments) (body : Expr) (scope : Scope) (F : Hp) (f : Addr) : Prop :=
  ∃ (c' : Addr) (pm ctv : Value), F f = some (StO f (lamO cells q params body scope pm c' ctv)) ∧ F c' = some (LamX.CodeO c' q)
theorem LamR.all {cells : List (Str × Addr)} {q : Str} {params : Arguments} {body : Expr} {scope : Scope} {F : Hp} {f : Addr} (h : LamR cells q params body scope F f) : ∀ F', Same F F' → LamR cells q params body scope F' f := fun F' s => by
  obtain ⟨c', pm, ctv, h1, h2⟩ := h
  exact ⟨c', pm, ctv, s _ _ h1, s _ _ h2⟩
/-- its names: its parameters, captured ones, globals -/
structure LamN (sc scope : Scope) (ps : List Str) : Prop where
  kind : scope.kind = .function
  co : scope.isCoroutine = false
  gen : scope.isGenerator = false
  nd : ps.Nodup
  par : ∀ y ∈ ps, scope.names.lookup y = some .local
  own : ∀ y ∈ scope.names, y.2 ≠ .cell ∧ (y.2 = .local → y.1 ∈ ps)
  free : ∀ y ∈ scope.names, y.2 = .free → sc.names.lookup y.1 = some .cell ∨ sc.names.lookup y.1 = some .free
def lamNB (sc scope : Scope) (ps : List Str) : Bool :=
  decide (scope.kind = .function) && !scope.isCoroutine && !scope.isGenerator && decide ps.Nodup && (ps.all fun y => decide (scope.names.lookup y = some .local)) &&
    scope.names.all fun y => !decide (y.2 = .cell) && (!decide (y.2 = .local) || decide (y.1 ∈ ps)) && (!decide (y.2 = .free) || decide (sc.names.lookup y.1 = some .cell) || decide (sc.names.lookup y.1 = some .free))
theorem lamN_by {sc scope : Scope} {ps : List Str} (h : lamNB sc scope ps = true) : LamN sc scope ps := by
  unfold lamNB at h
  simp only [Bool.and_eq_true, Bool.or_eq_true, Bool.not_eq_true', decide_eq_true_eq, decide_eq_false_iff_not, List.all_eq_true] at h
  obtain ⟨⟨⟨⟨⟨a, b⟩, c⟩, d⟩, e⟩, g⟩ := h
  refine ⟨a, b, c, d, e, fun y hy => ⟨(g y hy).1.1, fun z => (g y hy).1.2.elim (fun n => absurd z n) id⟩, fun y hy z => ?_⟩
  rcases (g y hy).2 with (n | n) | n
  · exact absurd z n
  · exact .inl n
  · exact .inr n
theorem LamN.has {X : Cx} {scope : Scope} {ps : List Str} (L : LamN X.env.scope scope ps) (ok : X.Ok) : ∀ y ∈ scope.names, y.2 = .free → ∃ c, X.env.cells.lookup y.1 = some c := fun y hy e => (L.free y hy e).elim (fun k => ok.has _ (.inl k)) fun k => ok.has _ (.inr k)
/-- the context of a lambda's body -/
def lamC (X : Cx) (A : Around) (outer : List Env) (s : Shared) (H : Hp) (E : XK) (scope : Scope) (ps : List Str) (f c' : Addr) : Cx :=
  { LamX.lamCx X A outer s H E scope f c' with N := ps ++ X.N }
section
variable {X : Cx} {pins : List (Addr × Obj)} {σ : L2.St} {H HZ : Hp} {s s1 : Shared}
theorem lam_in {A : Around} {outer : List Env} {E : XK} {scope : Scope} {ps : List Str} {us : List Value} {vs : List V} {f c' : Addr} {h₁ : Heap} {tk : Nat} (I : Inv X pins σ H s) (L : LamN X.env.scope scope ps) (dj : ∀ y ∈ ps, y ∉ X.N)
    (e0 : Env0 X.prog X.w X.K X.mg X.base A outer s1 HZ) (hd : A.handled = none) (un : Un (frs X.stack) [] H HZ s.heap s1.heap) (r : Vals vs us) (hl : vs.length = ps.length)
    (hns : h₁.Ns s1.heap.objs.size fun y => (ps.zip us).reverse.lookup y) (kp : ∀ b o, s1.heap.get? b = some o → h₁.get? b = some o) :
    Inv (lamC X A outer s1 HZ E scope ps f c') [] (vs.map some ++ σ) HZ { s1 with heap := h₁, toks := tk } := by
  have has := L.has I.ok
  have back : ∀ {y c}, (cloFrom X.env.cells scope.names []).lookup y = some c → X.env.cells.lookup y = some c := fun {y c} e => by
    rcases cloFrom_mem (PySem.mem_of_lookup e) with z | ⟨z1, z2⟩
    · cases z
    · obtain ⟨c1, hc⟩ := has _ z1 rfl
      have hc : X.env.cells.lookup y = some c1 := hc
      rw [hc]
      rw [show X.env.cells.lookup y = some c1 from hc] at z2
      exact congrArg some z2.symm
  have fwd : ∀ {y}, scope.names.lookup y = some .free → ∃ c, (cloFrom X.env.cells scope.names []).lookup y = some c := fun {y} z => by
    have m : (y, NameKind.free) ∈ scope.names := PySem.mem_of_lookup z
    exact mem_lookup (cloFrom_has (cells := X.env.cells) (acc := []) m)
  have stay : ∀ {c : Addr} {v : Option Value}, H c = none → s.heap.IsCell c v → h₁.IsCell c v := fun {c v} n ⟨o, a, b⟩ => by
    obtain ⟨sl, z⟩ := un.any a n (by simp)
    exact ⟨_, kp _ _ z, b⟩
  have noex : ∀ b : Addr, b ∈ (lamC X A outer s1 HZ E scope ps f c').ex → False := fun b z => (nomatch (show b ∈ ([] : List Addr) from z))
  refine ⟨⟨e0.mod, L.kind, rfl, rfl, Nat.le_refl _, fun y z c a b => I.ok.inj y z c (back a) (back b), fun y hy => ?_, fun y c z _ => (nomatch (show false = true from z)), fun _ => hd, Around.frames_deeper e0.frames, .inr ⟨rfl, rfl⟩,
      fun b z => (noex b z).elim, e0.bs, e0.bsz, fun b _ _ z => noex b z, fun b z => (noex b z).elim, e0.funs, e0.frf⟩,
    rfl, e0.bare, Un.kept kp, ⟨_, hns, fun i y v e1 e2 e3 => ?_⟩, fun y c e => ?_, e0.hok.fresh (Nat.le_refl _), fun y c e => ?_, fun q hq => (nomatch (show q ∈ ([] : List (Addr × Obj)) ++ [] from hq)), e0.hok.kept kp, ?_⟩
  · rcases (show scope.names.lookup y = some .cell ∨ scope.names.lookup y = some .free from hy) with z | z
    · exact absurd rfl (L.own _ (PySem.mem_of_lookup z)).1
    · exact fwd z
  · have e1 : (ps ++ X.N)[i]? = some y := e1
    by_cases hi : i < ps.length
    · rw [List.getElem?_append_left hi] at e1
      rw [List.getElem?_append_left (by rw [List.length_map]; omega), List.getElem?_map] at e2
      cases z : vs[i]? with
      | none => rw [z] at e2; cases e2
      | some v0 =>
        rw [z] at e2
        cases e2
        obtain ⟨u, hu, ru⟩ := r.get z
        exact ⟨u, ru, .inl ⟨L.par y (List.mem_of_getElem? e1), NdefX.zip_look L.nd e1 hu⟩⟩
    · rw [List.getElem?_append_right (by omega)] at e1
      rw [List.getElem?_append_right (by rw [List.length_map]; omega), List.length_map, hl] at e2
      have hyN : y ∈ X.N := List.mem_of_getElem? e1
      rcases (show Vis scope y from e3) with z | z | z
      · exact absurd hyN (dj y ((L.own _ (PySem.mem_of_lookup z)).2 rfl))
      · exact absurd rfl (L.own _ (PySem.mem_of_lookup z)).1
      · obtain ⟨m, hn, look⟩ := I.loc
        have vis : Vis X.env.scope y := (L.free _ (PySem.mem_of_lookup z) rfl).elim (fun k => .inr (.inl k)) fun k => .inr (.inr k)
        obtain ⟨w', rw', q⟩ := look _ y v e1 e2 vis
        obtain ⟨c2, h2⟩ := fwd z
        refine ⟨w', rw', .inr ⟨.inr z, c2, h2, ?_⟩⟩
        have c1 := back h2
        rcases q with ⟨k, _⟩ | ⟨_, c3, e', z'⟩
        · have k : X.env.scope.names.lookup y = some .local := k
          rcases L.free _ (PySem.mem_of_lookup z) rfl with k2 | k2 <;> rw [show X.env.scope.names.lookup y = _ from k2] at k <;> cases k
        · rw [c1] at e'
          cases e'
          exact stay (I.freeC y _ c1) z'
  · obtain ⟨w', z⟩ := I.cell y c (back e)
    exact ⟨w', stay (I.freeC y c (back e)) z⟩
  · obtain ⟨v, o, a, _⟩ := I.cell y c (back e)
    exact un.free c o a (I.freeC y c (back e)) (by simp)
  · show (vs.map some ++ σ).length = (ps ++ X.N).length
    rw [List.length_append, List.length_append, List.length_map, hl, I.len]
end
end DL

/-! Lambdas made, handed on, called. -/
namespace DL
open PySem PySem.Spec PyProof.Rows L2
theorem En.front {K : PySem.W.Frag} {F : Hp} {δ : Sl} {σ : L2.St} (h : En K F δ σ) : ∀ {ds : List D} {vs : List V}, Rps K F ds vs → En K F (ds.map some ++ δ) (vs.map some ++ σ)
  | [], _, r => by cases r; exact h
  | d :: ds, _, r => by
    cases r with
    | @cons _ v _ vs a b =>
      have ih := h.front b
      refine ⟨?_, fun i x e => ?_⟩
      · have := ih.1
        simp only [List.map_cons, List.cons_append, List.length_cons]
        omega
      · cases i with
        | zero =>
          simp at e
          subst e
          exact ⟨v, rfl, a⟩
        | succ i => exact ih.2 i x e
/-- a function value that keeps th wherever it is called from the state (H0, h0) on -/
structure WayOk (P : Program) (w : World) (K : PySem.W.Frag) (mg : Str → Option Value) (base : Heap) (k : Nat) (fs : List Addr) (H0 : Hp) (h0 : Heap) (F0 : Hp) (fw : Addr) (n : Nat) (th : DSp) : Prop where
  fn : ∀ (F H : Hp) (h : Heap), Same F0 F → Same F H → HOk P w H h → K.In h → PySem.W.FnAt fw h
  go : ∀ (A : Around) (outer : List Env) (s : Shared) (H : Hp) (us : List Value) (vs : List V) (Q : VK) (E : XK) (F : Hp) (G : Gp) (ds : List D) (Q' : DK) (E' : DX), Room k A → Mute A → Env0 P w K mg base A outer s H → Un fs [] H0 H h0 s.heap → Vals vs us →
    Same F0 F → Wd K F G H → Rps K F ds vs → ds.length = n → th ds G Q' E' → Ko K F Q' Q → KoE K F E' E → codeAny (model P w) A (.call (.ref fw) ⟨us, []⟩) (CR (L2.CX P w) outer P w H s Q E) s
section
variable {X : Cx} {pins : List (Addr × Obj)} {σ : L2.St} {H F F₀ : Hp} {G : Gp} {s : Shared} {δ : Sl}
/-- the lambda f, as its maker knows it at the state s -/
theorem lam_way {k : Nat} {q : Str} {params : Arguments} {body : Expr} {scope : Scope} {ps : List Str} {f : Addr} {tb : DX → DE} (I : Inv X pins σ H s) (L : LamN X.env.scope scope ps) (dj : ∀ y ∈ ps, y ∉ X.N) (hq : X.env.qual ++ "<lambda>" = q) (R : LamR X.env.cells q params body scope F f)
    (en : En X.K F δ σ) (hbind : ∀ (q : Str) (cl : List (Str × Addr)) (pm cv ctv : Value) (us : List Value), us.length = ps.length → bindArgs (PySem.W.kla_fn "<lambda>" q params body scope cl pm cv ctv) ⟨us, []⟩ = pure (ps.zip us))
    (hbody : ∀ (A : Around) (outer : List Env) (s : Shared) (H : Hp) (E : XK) (f c' : Addr) (E' : DX) (F1 : Hp), Room k (A.deeper (LamX.lamEnv X scope s.heap.objs.size f c')) → Mute A → KoE X.K F1 E' E → PE (lamC X A outer s H E scope ps f c') body (Le X.K F1 (tb E'))) :
    WayOk X.prog X.w X.K X.mg X.base (k + 1) (frs X.stack) H s.heap F f ps.length (fun ds G Q E' => tb E' (ds.map some ++ δ) G Q) := by
  obtain ⟨c', pm, ctv, hf, hc⟩ := R
  refine ⟨fun F1 H1 h s1 s2 hok _ => ?_, fun A outer s1 H1 us vs Q E F1 G1 ds Q' E' hr hmu e0 un r sF w rp hl h ko ke => ?_⟩
  · obtain ⟨e, _⟩ := hok f _ (s2 _ _ (s1 _ _ hf))
    exact ⟨_, _, _, _, e⟩
  · obtain ⟨of1, _⟩ := e0.hok f _ (w.fz _ _ (sF _ _ hf))
    obtain ⟨⟨oc, cvs, t, hoc, hdc, hvc⟩, _, _⟩ := e0.hok c' _ (w.fz _ _ (sF _ _ hc))
    have hlv : vs.length = ps.length := by rw [← rp.length, hl]
    have lim : s1.heap.NoLimit := e0.mod.nolimit.keeps fun b o e => (e0.bs b o e).1
    subst hq
    refine PySem.W.kla_callFunE hr.depth of1 rfl L.co L.gen rfl ⟨c', oc, cvs, t, rfl, hoc, hdc, hvc⟩ ?_
    rw [hbind _ _ _ _ _ us (by rw [← r.length, hlv])]
    refine wpAny_pure (wpAny_newFunctionEnv (fun y hy => (L.own y hy).1) (fun y hy => L.par _ (List.of_mem_zip (show (y.1, y.2) ∈ ps.zip us from hy)).1) (fun h₁ hns hsb => ⟨lim.fresh _ hsb, ?_⟩) L.kind)
    show codeAny _ _ (.expr body (LamX.lamEnv X scope s1.heap.objs.size f c')) _ _
    have kp : ∀ b o, s1.heap.get? b = some o → h₁.get? b = some o := fun b o e => hsb.extBut b o (Nat.ne_of_lt (Heap.lt_size e)) (Heap.get?_push_of_some _ e)
    have J := lam_in (E := E) (f := f) (c' := c') (tk := s1.toks + (ps.zip us).length) I L dj e0 hr.hd un r hlv hns kp
    refine PySem.W.kla_codeExpr (wpAny_mono ((hbody A outer s1 H1 E f c' E' F1 (hr.deeper _) hmu ke).run [] _ _ H1 Q J ⟨_, F1, G1, Q', Same.refl F1, (en.mono sF).front rp, w, h, ko⟩) (fun v s' hq => ?_) fun e s' hq => hq)
    obtain ⟨w', H', J', rv, q⟩ := hq
    exact ⟨w', H', J'.os, J'.bare, J'.base, J'.hok, rv, q⟩
/-! ### lambda: body -/
def dLam (P0 : Addr) (q : Str) (R : Hp → Addr → Prop) : DE := fun _ G Q => G P0 = some (.tab q) ∧ Q (.ho R) G
theorem tab_add {F' : Hp} {H' : Hp} {P0 c' f : Addr} {q : Str} {ps' ps2 : Array Value} {uf : HO} (w : Wd X.K F G H) (hP : H P0 = some (.tbl ps')) (hg : G P0 = some (.tab q)) (hto : TriplesOk ps2.toList)
    (hall : ∀ (pos : Pos) (cv : Value), codeAmong pos ps2.toList = some cv → ∃ c, cv = .ref c ∧ upd (upd F c' (LamX.CodeO c' q)) f uf c = some (LamX.CodeO c q)) (nc : H c' = none) (nf : H f = none) (ncf : f ≠ c') :
    Wd X.K (upd (upd F c' (LamX.CodeO c' q)) f uf) G (upd (upd (upd H P0 (.tbl ps2)) c' (LamX.CodeO c' q)) f uf) := by
  have fP : F P0 = none := (w.mu _ _ hg).1
  have Fc := w.ffree nc
  have Ff := w.ffree nf
  have sF : Same F (upd (upd F c' (LamX.CodeO c' q)) f uf) := (same_upd Fc).trans (same_upd (by rw [upd_ne ncf]; exact Ff))
  refine ⟨fun b u e => ?_, fun b u e => ?_⟩
  · by_cases h1 : b = f
    · subst h1; rw [upd_same] at e ⊢; exact e
    · rw [upd_ne h1] at e ⊢
      by_cases h2 : b = c'
      · subst h2; rw [upd_same] at e ⊢; exact e
      · rw [upd_ne h2] at e ⊢
        rw [upd_ne (fun z => by rw [z, fP] at e; cases e)]
        exact w.fz b u e
  · obtain ⟨a, g⟩ := w.mu b u e
    have h1 : b ≠ f := fun z => by rw [z, w.gfree nf] at e; cases e
    have h2 : b ≠ c' := fun z => by rw [z, w.gfree nc] at e; cases e
    refine ⟨by rw [upd_ne h1, upd_ne h2]; exact a, ?_⟩
    by_cases h3 : b = P0
    · subst h3
      rw [hg] at e
      cases e
      exact ⟨ps2, by rw [upd_ne h1, upd_ne h2, upd_same], hto, hall⟩
    · exact g.mono sF (by rw [upd_ne h1, upd_ne h2, upd_ne h3])
theorem de_lam {P0 c : Addr} {q : Str} {params : Arguments} {body : Expr} {scope : Scope} {ps : List Str} {pos : Pos} (TB : LamX.TabB X.base X.mg c P0) (hcode : X.env.code = .ref c) (L : LamN X.env.scope scope ps) (hq : X.env.qual ++ "<lambda>" = q) (hdef : defaultsOf params X.env = ([], [])) :
    PE X (.Lambda params body scope pos) (Le X.K F₀ (dLam P0 q (LamR X.env.cells q params body scope))) := by
  subst hq
  refine ⟨fun pins s σ H Q I ⟨δ, F1, G, Q', s0, en, w, ⟨hg, q1⟩, k⟩ => PySem.W.kla_eval hdef ?_⟩
  obtain ⟨fP, ps', hP, hto, hall⟩ := w.mu P0 _ hg
  have hP' : s.heap.get? P0 = some { cls := .none, data := .fields ps' } := I.hok P0 _ hP
  have bP : s.heap.BuiltinsAt X.mg P0 := TB.bm.keeps I.bk
  cases hcm : codeAmong pos ps'.toList with
  | none =>
    refine PySem.W.kla_makeFunction (mg := X.mg) (c := c) (P := P0) (ps := ps') (closure_ok (L.has I.ok)) I.ok.glob (I.mod.glob.keeps I.bk) hcode (TB.code.keeps I.bk) hP' hto hcm TB.gP bP fun c' ctv h' tk hx hge hlt hrec htb => ?_
    obtain ⟨c2, oc, cvs, t, e2, hoc, hd, hv⟩ := hrec
    cases e2
    have nC : H c' = none := I.hok.fresh hge
    have hsz : s.heap.objs.size ≤ h'.objs.size := Nat.le_trans hge (Nat.le_of_lt hlt)
    have nF : H h'.objs.size = none := I.hok.fresh hsz
    have I1 := LamX.inv_table (t' := tk) (more := #[rawInt pos.line, rawInt pos.col, .ref c']) I hP hx htb hge ⟨oc, cvs, t, hoc, hd, hv⟩
    have I2 := I1.laid (t' := tk) (a := h'.objs.size) (o := StO h'.objs.size (lamO X.env.cells (X.env.qual ++ "<lambda>") params body scope ((X.mg "__name__").getD .none) c' ctv)) (h' := h'.push (lamO X.env.cells (X.env.qual ++ "<lambda>") params body scope ((X.mg "__name__").getD .none) c' ctv))
      (fun b o e => Heap.get?_push_of_some _ e) (Nat.le_refl _) (stO_ok (Heap.get?_push_size _ rfl))
    have ncf : h'.objs.size ≠ c' := Nat.ne_of_gt hlt
    have eL : (ps' ++ #[rawInt pos.line, rawInt pos.col, .ref c']).toList = ps'.toList ++ [rawInt pos.line, rawInt pos.col, .ref c'] := by simp
    have w2 := tab_add (F' := F1) (H' := H) (ps2 := ps' ++ #[rawInt pos.line, rawInt pos.col, .ref c']) (uf := StO h'.objs.size (lamO X.env.cells (X.env.qual ++ "<lambda>") params body scope ((X.mg "__name__").getD .none) c' ctv)) w hP hg (by rw [eL]; exact PySem.TriplesOk_snoc _ _ _ _ hto) (fun p' cv z => ?_) nC nF ncf
    · have sF : Same F1 (upd (upd F1 c' (LamX.CodeO c' (X.env.qual ++ "<lambda>"))) h'.objs.size (StO h'.objs.size (lamO X.env.cells (X.env.qual ++ "<lambda>") params body scope ((X.mg "__name__").getD .none) c' ctv))) :=
        (same_upd (w.ffree nC)).trans (same_upd (by rw [upd_ne ncf]; exact w.ffree nF))
      refine ⟨.ref h'.objs.size, _, I2, rfl, k _ _ _ G _ sF w2 (.ho (LamR.all ⟨c', _, ctv, upd_same, ?_⟩)) q1⟩
      rw [upd_ne (Ne.symm ncf), upd_same]
    · rw [eL] at z
      rcases LamX.among_app _ hto z with z | z
      · obtain ⟨c0, e1, e2⟩ := hall p' cv z
        refine ⟨c0, e1, ?_⟩
        have e3 := w.fz _ _ e2
        rw [upd_ne (fun y => by rw [y, nF] at e3; cases e3), upd_ne (fun y => by rw [y, nC] at e3; cases e3)]
        exact e2
      · exact ⟨c', z, by rw [upd_ne (Ne.symm ncf), upd_same]⟩
  | some cv =>
    obtain ⟨c', e, hco⟩ := hall pos cv hcm
    subst e
    refine PySem.W.kla_makeFunctionHit (mg := X.mg) (c := c) (P := P0) (ps := ps') (closure_ok (L.has I.ok)) I.ok.glob (I.mod.glob.keeps I.bk) hcode (TB.code.keeps I.bk) hP' hto hcm bP fun ctv h' tk hx hsz => ?_
    have nF : H h'.objs.size = none := I.hok.fresh hsz
    have I1 : Inv X pins σ H { s with heap := h', toks := tk } := I.kept hx
    have I2 := I1.laid (t' := tk) (a := h'.objs.size) (o := StO h'.objs.size (lamO X.env.cells (X.env.qual ++ "<lambda>") params body scope ((X.mg "__name__").getD .none) c' ctv)) (h' := h'.push (lamO X.env.cells (X.env.qual ++ "<lambda>") params body scope ((X.mg "__name__").getD .none) c' ctv))
      (fun b o e => Heap.get?_push_of_some _ e) (Nat.le_refl _) (stO_ok (Heap.get?_push_size _ rfl))
    have sF := same_upd (o := StO h'.objs.size (lamO X.env.cells (X.env.qual ++ "<lambda>") params body scope ((X.mg "__name__").getD .none) c' ctv)) (w.ffree nF)
    exact ⟨.ref h'.objs.size, _, I2, rfl, k _ _ _ G _ sF (w.newF nF _) (.ho (LamR.all ⟨c', _, ctv, upd_same, sF _ _ hco⟩)) q1⟩
end
/-! ### a(..), a a parameter that was given a function value -/
def dWay (i : Nat) (fw : Addr) (n : Nat) (th : DSp) (W' : DW) (t : DA) : DE := fun δ G Q => δ[i]? = some (some (.ref fw)) ∧ t δ G fun ds G1 => ds.length = n ∧ th ds G1 Q fun m fs G2 => W' m fs δ G2
section
variable {X : Cx} {F₀ : Hp} {k i n : Nat} {fw : Addr} {th : DSp} {W : WX} {W' : DW} {a : Str} {e : Expr} {es : List Expr} {t : DA} {p pos : Pos}
theorem go_way {pins : List (Addr × Obj)} {σ : L2.St} {H F : Hp} {G : Gp} {s : Shared} {Q : VK} {E : XK} {us : List Value} {vs : List V} {ds : List D} {Q' : DK} {E' : DX} (V : WayOk X.prog X.w X.K X.mg X.base k X.fs X.H_0 X.s_0.heap F₀ fw n th) (hr : Room k X.A) (hmu : Mute X.A) (hex : X.ex = [])
    (hx : PassesAt (L2.CX X.prog X.w) X σ E) (I : Inv X pins σ H s) (r : Vals vs us) (sF : Same F₀ F) (w : Wd X.K F G H) (rp : Rps X.K F ds vs) (hl : ds.length = n) (h : th ds G Q' E') (ko : Ko X.K F Q' Q) (ke : KoE X.K F E' E) :
    wpAny (model X.prog X.w) X.A (call (.ref fw) us) (EP X pins σ Q) X.xe s := by
  have un : Un X.fs [] X.H_0 H X.s_0.heap s.heap := hex ▸ I.base
  exact wp_call (V.go X.A X.stack s H us vs Q E F G ds Q' E' hr hmu I.env0 un r sF w rp hl h ko ke) fun r s' hq => after_callS hx I hq
theorem de_way (V : WayOk X.prog X.w X.K X.mg X.base k X.fs X.H_0 X.s_0.heap F₀ fw n th) (hr : Room k X.A) (hmu : Mute X.A) (hex : X.ex = []) (hN : X.N[i]? = some a) (hv : Vis X.env.scope a) (tk : Takes X W) (kw : KoW X.K F₀ W' W) (ha : PA X (e :: es) (La X.K F₀ t))
    (hd : (a == ("__debug__" : Str)) = false := by decide) (hcd : (a == ("__classdict__" : Str)) = false := by decide) (he : starEach (e :: es) X.env = (false, eval e X.env) :: starEach es X.env := by rfl) (hpl : (backTo pos (starEach es X.env)).any (·.1) = false := by rfl) :
    PE X (.Call (.Name a p) (e :: es) [] pos) (Le X.K F₀ (dWay i fw n th W' t)) := by
  refine ⟨fun pins s σ H Q I ⟨δ, F1, G, Q', s0, en, w, ⟨hs, q⟩, k⟩ => ?_⟩
  obtain ⟨v0, hv0, rv0⟩ := en.2 i _ hs
  cases rv0
  refine wpAny_Call_Name_kw (thn ((pe_var (pos := p) (i := i) hN hv hd hcd).run pins s σ H (fun v H1 => v = .ref fw ∧ H1 = H) I ⟨.ref fw, hv0, rfl, rfl⟩) fun u s1 ⟨v, H1, I1, r1, q1⟩ => ?_)
  obtain ⟨ev, eH⟩ := q1
  subst ev
  rw [eH] at I1
  obtain rfl : u = Value.ref fw := r1
  refine PySem.W.callWith_F (q := fw) (V.fn F1 H s1.heap s0 w.fz I1.hok I1.kIn) (thn (ha.run pos pins s1 σ H _ I1 ⟨δ, F1, G, _, s0, en, w, q, fun ds vs F2 G2 H2 s2 w2 r2 q2 => show ∃ (F : Hp) (G : Gp) (ds : List D), Same F₀ F ∧ Same F1 F ∧ Wd X.K F G H2 ∧ Rps X.K F ds vs ∧ ds.length = n ∧ th ds G Q' (fun m fs G2 => W' m fs δ G2) from ⟨F2, G2, ds, s0.trans s2, s2, w2, r2, q2.1, q2.2⟩⟩) fun us s2 ⟨vs, H2, I2, r2, F2, G2, ds, sa, sb, w2, rp, hl, h⟩ => ?_) he hpl
  exact ⟨V.fn F2 H2 s2.heap sa w2.fz I2.hok I2.kIn, go_way V hr hmu hex (passAt tk σ) I2 r2 sa w2 rp hl h (k.mono sb) (kw.at sa (en.mono sb))⟩
theorem de_way0 (V : WayOk X.prog X.w X.K X.mg X.base k X.fs X.H_0 X.s_0.heap F₀ fw n th) (hr : Room k X.A) (hmu : Mute X.A) (hex : X.ex = []) (hN : X.N[i]? = some a) (hv : Vis X.env.scope a) (tk : Takes X W) (kw : KoW X.K F₀ W' W)
    (hd : (a == ("__debug__" : Str)) = false := by decide) (hcd : (a == ("__classdict__" : Str)) = false := by decide) :
    PE X (.Call (.Name a p) [] [] pos) (Le X.K F₀ (dWay i fw n th W' aNil)) := by
  refine ⟨fun pins s σ H Q I ⟨δ, F1, G, Q', s0, en, w, ⟨hs, q⟩, k⟩ => ?_⟩
  obtain ⟨v0, hv0, rv0⟩ := en.2 i _ hs
  cases rv0
  refine wpAny_Call_Name_kw (thn ((pe_var (pos := p) (i := i) hN hv hd hcd).run pins s σ H (fun v H1 => v = .ref fw ∧ H1 = H) I ⟨.ref fw, hv0, rfl, rfl⟩) fun u s1 ⟨v, H1, I1, r1, q1⟩ => ?_)
  obtain ⟨ev, eH⟩ := q1
  subst ev
  rw [eH] at I1
  obtain rfl : u = Value.ref fw := r1
  exact PySem.W.callWith_F0 (V.fn F1 H s1.heap s0 w.fz I1.hok I1.kIn) (go_way (us := []) (vs := []) V hr hmu hex (passAt tk σ) I1 .nil s0 w .nil q.1 q.2 k (kw.at s0 en))
end
/-! ### a def that gets a function value, as its j-th argument -/
structure FnW (P : Program) (w : World) (K : PySem.W.Frag) (mg : Str → Option Value) (base : Heap) (CX : CXT) (k : Nat) (f : Addr) (fd : FuncData) (ps : List Str) (kk n : Nat) (sp : Addr → DSp → DSp) : Prop where
  arity : ∀ fw th ds G Q E, sp fw th ds G Q E → ds.length = ps.length
  go : ∀ (A : Around) (outer : List Env) (s : Shared) (H : Hp) (args : Args) (us : List Value) (vs : List V) (Q : VK) (E : XK) (fw : Addr) (th : DSp) (F : Hp) (G : Gp) (ds : List D) (Q' : DK) (E' : DX), Room k A → Mute A → Env0 P w K mg base A outer s H → BindsTo s fd args (ps.zip us) → Vals vs us →
    Wd K F G H → Rps K F ds vs → sp fw th ds G Q' E' → Ko K F Q' Q → KoE K F E' E → WayOk P w K mg base kk (frs outer) H s.heap F fw n th → codeAny (model P w) A (.call (.ref f) args) (CR CX outer P w H s Q E) s
theorem FnW.up {P : Program} {w : World} {K : PySem.W.Frag} {mg : Str → Option Value} {base : Heap} {CX : CXT} {j k : Nat} {f : Addr} {fd : FuncData} {ps : List Str} {kk n : Nat} {sp : Addr → DSp → DSp} (F : FnW P w K mg base CX j f fd ps kk n sp) (h : j ≤ k) : FnW P w K mg base CX k f fd ps kk n sp :=
  ⟨F.arity, fun A outer s H args us vs Q E fw th F1 G ds Q' E' hr => F.go A outer s H args us vs Q E fw th F1 G ds Q' E' (hr.mono h)⟩
theorem fn_dW {P : Program} {w : World} {K : PySem.W.Frag} {mg : Str → Option Value} {base : Heap} {x qual : Str} {st : Stmt} {f : Addr} {fd : FuncData} {N ps : List Str} {k kk n : Nat} {sp : Addr → DSp → DSp} (F : Fun K x qual st f fd) (S : FnScope N ps (defScope st))
    (len : ∀ fw th ds G Q E, sp fw th ds G Q E → ds.length = ps.length)
    (hbody : ∀ (cdv : Value) (A : Around) (outer : List Env) (s : Shared) (H : Hp) (E : XK) (F₀ : Hp) (E' : DX) (fw : Addr) (th : DSp), Room k (A.deeper (envOfC qual (defScope st) s.heap.objs.size f cdv)) → Mute A → KoE K F₀ E' E → WayOk P w K mg base kk (frs outer) H s.heap F₀ fw n th →
      ∃ t : DS, PSs (cxE P w K mg base N qual (defScope st) f cdv A outer s H E) (defBody st) (Ls K F₀ t) ∧ ∀ ds G Q, sp fw th ds G Q E' → t (endD Q) (startD N ds) G) : FnW P w K mg base (L2.CX P w) (k + 1) f fd ps kk n sp := by
  obtain ⟨oc, od, kV, doc, pm, an, cdv, ct, osl, rfl, lk, hcd⟩ := F.ex
  refine ⟨len, fun A outer s H args us vs Q E fw th F0 G ds Q' E' hr hm e0 hb r w0 rp hsp ko ke Vw => ?_⟩
  have n1 := len _ _ _ _ _ _ hsp
  have n2 : vs.length = ps.length := by rw [← rp.length]; exact n1
  have hK : K.In s.heap := e0.mod.kin.keeps fun b o e => (e0.bs b o e).1
  have lim : s.heap.NoLimit := e0.mod.nolimit.keeps fun b o e => (e0.bs b o e).1
  have hN : ps.length ≤ N.length := by have := congrArg List.length S.pre; rw [List.length_take] at this; omega
  refine codeAny_call_function hr.depth (hK _ _ lk) rfl S.co S.gen rfl (PySem.W.codeRec_of hK hcd) (hb _ _ _ _ ?_)
  refine wpAny_newFunctionEnv_cells S.kind (fun y hy => ?_) fun env he s1 x => ?_
  · obtain ⟨n, v⟩ := y
    rcases S.par n (List.of_mem_zip hy).1 with q | q
    · exact .inl q
    · exact .inr ⟨q, PySem.W.cellsFrom_some _ _ _ (.inl q)⟩
  · subst he
    refine ⟨lim.keeps x.toInCall.keep, codeAny_func ?_⟩
    obtain ⟨t, ht, q⟩ := hbody cdv A outer s H E F0 E' fw th (hr.deeper _) hm ke Vw
    have I : Inv (cxE P w K mg base N qual (defScope st) f cdv A outer s H E) [] (start N vs) H s1 := inv_start S hr.hd e0 n2 r x
    have h0 : Ls K F0 t { nx := fun _ H' => Q .non H', rt := Q } (start N vs) H := ⟨_, F0, G, endD Q', Same.refl F0, En.start N rp (by omega), w0, q _ _ _ hsp, ke_end ko⟩
    refine wpAny_mono (ht.run [] s1 (start N vs) H _ I h0) (fun fl s' hs => ?_) fun _ _ z => z
    match fl, hs with
    | .ret u, ⟨v, σ', H', J, rv, q⟩ => exact ⟨v, H', J.os, J.bare, J.base, J.hok, rv, q⟩
    | .next, ⟨σ', H', J, q⟩ => exact ⟨V.non, H', J.os, J.bare, J.base, J.hok, rfl, q⟩
    | .brk, ⟨_, _, _, z⟩ => exact z.elim
    | .cont, ⟨_, _, _, z⟩ => exact z.elim
end DL

/-! raise of an own class whose __init__ says super().__init__(x) and keeps x. -/
namespace DL
open PySem PySem.Spec PyProof.Rows L2
/-- the body of such an __init__ -/
abbrev supBody (pa fld : Str) (p0 p1 p2 p3 p4 p5 p6 p7 p8 p9 : Pos) : List Stmt :=
  [.Expr (.Call (.Attribute (.Call (.Name "super" p0) [] [] p1) "__init__" p2) [.Name pa p3] [] p4) p5, .Assign [.Attribute (.Name "self" p6) fld p7] (.Name pa p8) p9]
/-- what the written part says of it -/
structure SupI (P : Program) (K : PySem.W.Frag) (C fI : Addr) (fld pa : Str) where
  qual : Str
  params : Arguments
  scope : Scope
  (dV kV doc pm ct oc : Value)
  (an od : Option Addr)
  osl : Array (Option Value)
  (cda cc : Addr)
  (p0 p1 p2 p3 p4 p5 p6 p7 p8 p9 : Pos)
  lk : K.lookup fI = some ⟨oc, od, .func (PySem.W.fnX "__init__" qual params (supBody pa fld p0 p1 p2 p3 p4 p5 p6 p7 p8 p9) scope [("__class__", cc)] dV kV doc pm an (.ref cda) ct), osl⟩
  code : PySem.W.codeIn K (.ref cda) qual = true
  file : ∃ ccl cdd vs ccs fl tf, K.lookup cda = some ⟨ccl, cdd, .fields vs, ccs⟩ ∧ vs[2]? = some (.str fl tf) ∧ ((P.main.file : Str) == fl) = true
  cell : ∃ cl cld csl, K.lookup cc = some ⟨cl, cld, .cell (some (.ref C)), csl⟩
  head : ∃ ar : Arg, (params.posonlyargs ++ params.args).head? = some ar ∧ ar.arg = "self"
  kind : scope.kind = .function
  co : scope.isCoroutine = false
  gen : scope.isGenerator = false
  nsup : scope.names.lookup ("super" : Str) = some .globalImplicit
  ncls : scope.names.lookup ("__class__" : Str) = some .free
  nself : scope.names.lookup ("self" : Str) = some .local
  npa : scope.names.lookup pa = some .local
  nocell : ∀ y ∈ scope.names, y.2 ≠ .cell
  nofree : ∀ y ∈ scope.names, y.2 = .free → y.1 = "__class__"
  top : (P.main.scope.names.lookup ("super" : Str)).isSome = false
  hsup : PySem.W.nsIn K mainGlobals "super" = some none
  sup : PySem.W.ks_superIn K C C "__init__" = some (some (.builtin "ValueError.__init__"))
  opq : PySem.W.nsIn K cStatics "thirdparty.any" = some none
  ve : PySem.W.subIn K (.ref C) (.type "ValueError") = some true
  own : PySem.W.findIn K (.ref C) fld = some none
  mro : PySem.W.mroIn K C (.ref C) = some true
  fi : PySem.W.findIn K (.ref C) "__init__" = some (some (.ref fI))
  ty : PySem.W.typeIn K (.ref fI) = some (.type "function")
  pl : Addr → Sem Bool
  ev : ∀ L : Addr, eval (.Call (.Attribute (.Call (.Name "super" p0) [] [] p1) "__init__" p2) [.Name pa p3] [] p4) (callEnv (PySem.W.fnX "__init__" qual params (supBody pa fld p0 p1 p2 p3 p4 p5 p6 p7 p8 p9) scope [("__class__", cc)] dV kV doc pm an (.ref cda) ct) L fI) = (do
    let ov ← attributeBase (.Call (.Name "super" p0) [] [] p1) "__init__" (callEnv (PySem.W.fnX "__init__" qual params (supBody pa fld p0 p1 p2 p3 p4 p5 p6 p7 p8 p9) scope [("__class__", cc)] dV kV doc pm an (.ref cda) ct) L fI) (eval (.Call (.Name "super" p0) [] [] p1) (callEnv (PySem.W.fnX "__init__" qual params (supBody pa fld p0 p1 p2 p3 p4 p5 p6 p7 p8 p9) scope [("__class__", cc)] dV kV doc pm an (.ref cda) ct) L fI))
    standAt p2.atName
    let (f, first) ← holding [ov] (getMethod ov "__init__" (pl L))
    callWith p4 f first (backTo p4 (starEach [.Name pa p3] (callEnv (PySem.W.fnX "__init__" qual params (supBody pa fld p0 p1 p2 p3 p4 p5 p6 p7 p8 p9) scope [("__class__", cc)] dV kV doc pm an (.ref cda) ct) L fI))) [])
  sw1 : ∀ L : Addr, swapsWith (.Call (.Attribute (.Call (.Name "super" p0) [] [] p1) "__init__" p2) [.Name pa p3] [] p4) none p5.line (callEnv (PySem.W.fnX "__init__" qual params (supBody pa fld p0 p1 p2 p3 p4 p5 p6 p7 p8 p9) scope [("__class__", cc)] dV kV doc pm an (.ref cda) ct) L fI) = pure false
  sw2 : ∀ L : Addr, swapsWith (.Name pa p8) (some (.Attribute (.Name "self" p6) fld p7)) p9.line (callEnv (PySem.W.fnX "__init__" qual params (supBody pa fld p0 p1 p2 p3 p4 p5 p6 p7 p8 p9) scope [("__class__", cc)] dV kV doc pm an (.ref cda) ct) L fI) = pure false
  pdb : (pa == ("__debug__" : Str)) = false
  pne : (pa == ("self" : Str)) = false
abbrev SupI.fd {P : Program} {K : PySem.W.Frag} {C fI : Addr} {fld pa : Str} (S : SupI P K C fI fld pa) : FuncData :=
  PySem.W.fnX "__init__" S.qual S.params (supBody pa fld S.p0 S.p1 S.p2 S.p3 S.p4 S.p5 S.p6 S.p7 S.p8 S.p9) S.scope [("__class__", S.cc)] S.dV S.kV S.doc S.pm S.an (.ref S.cda) S.ct
/-- the context of its body -/
def supC (P : Program) (w : World) (K : PySem.W.Frag) (mg : Str → Option Value) (base : Heap) (A : Around) (outer : List Env) (s : Shared) (H : Hp) (pa : Str) (env : Env) : Cx where
  prog := P
  w := w
  K := K
  mg := mg
  base := base
  A := A.deeper env
  N := ["self", pa]
  s_0 := s
  H_0 := H
  env := env
  outer := outer
  stack := env :: outer
  ex := []
  fn := fun _ => false
  calm := true
  pn := []
  xe := fun _ _ => False
section
variable {P : Program} {w : World} {K : PySem.W.Frag} {mg : Str → Option Value} {base : Heap} {C fI : Addr} {fld pa : Str} {A : Around} {outer : List Env} {s : Shared} {H : Hp}
theorem sup_start (S : SupI P K C fI fld pa) {a : Addr} {v : V} {u : Value} {h₀ : Heap} {tk : Nat} (e0 : Env0 P w K mg base A outer s H) (hd : A.handled = none) (ru : RelV v u)
    (hns : h₀.Ns s.heap.objs.size fun x => List.lookup x ([("self" : Str), pa].zip [Value.ref a, u]).reverse) (kp : ∀ b o, s.heap.get? b = some o → h₀.get? b = some o) :
    Inv (supC P w K mg base A outer s H pa (callEnv S.fd s.heap.objs.size fI)) [] [some (.ref a), some v] H { s with heap := h₀, toks := tk } := by
  obtain ⟨cl, cld, csl, hcell⟩ := S.cell
  have hcc := e0.bs _ _ (e0.mod.kin _ _ hcell)
  have cells : ∀ {y c}, (callEnv S.fd s.heap.objs.size fI).cells.lookup y = some c → y = "__class__" ∧ c = S.cc := fun {y c} e => by
    have e : List.lookup y [(("__class__" : Str), S.cc)] = some c := e
    unfold List.lookup at e
    split at e
    · rename_i z
      cases e
      exact ⟨eq_of_beq z, rfl⟩
    · cases e
  have noex : ∀ b : Addr, b ∈ (supC P w K mg base A outer s H pa (callEnv S.fd s.heap.objs.size fI)).ex → False := fun b z => (nomatch (show b ∈ ([] : List Addr) from z))
  refine ⟨⟨e0.mod, S.kind, rfl, rfl, Nat.le_refl _, fun y z c p q => (cells p).1.trans (cells q).1.symm, fun y hy => ?_, fun y c z _ => (nomatch (show false = true from z)), fun _ => hd, Around.frames_deeper e0.frames, .inr ⟨rfl, rfl⟩,
      fun b z => (noex b z).elim, e0.bs, e0.bsz, fun b _ _ z => noex b z, fun b z => (noex b z).elim, e0.funs, e0.frf⟩,
    rfl, e0.bare, Un.kept kp, ⟨_, hns, fun i y v' e1 e2 e3 => ?_⟩, fun y c e => ?_, e0.hok.fresh (Nat.le_refl _), fun y c e => ?_, fun q hq => (nomatch (show q ∈ ([] : List (Addr × Obj)) ++ [] from hq)), e0.hok.kept kp, rfl⟩
  · rcases (show S.scope.names.lookup y = some .cell ∨ S.scope.names.lookup y = some .free from hy) with z | z
    · exact absurd rfl (S.nocell _ (PySem.mem_of_lookup z))
    · have := S.nofree _ (PySem.mem_of_lookup z) rfl
      subst this
      exact ⟨S.cc, rfl⟩
  · match i, e1, e2 with
    | 0, e1, e2 =>
      cases e1
      cases e2
      exact ⟨.ref a, rfl, .inl ⟨S.nself, by show List.lookup _ [(pa, u), ("self", Value.ref a)] = _; simp [List.lookup, show (("self" : Str) == pa) = false from by rw [Bool.eq_false_iff]; intro z; have := eq_of_beq z; subst this; exact absurd S.pne (by decide)]⟩⟩
    | 1, e1, e2 =>
      cases e1
      cases e2
      exact ⟨u, ru, .inl ⟨S.npa, by show List.lookup _ [(pa, u), ("self", Value.ref a)] = _; simp [List.lookup]⟩⟩
    | i + 2, e1, e2 => cases e2
  · obtain ⟨rfl, rfl⟩ := cells e
    exact ⟨_, _, kp _ _ hcc.1, rfl⟩
  · obtain ⟨rfl, rfl⟩ := cells e
    exact hcc.2
/-- super().__init__(x) -/
theorem sup_call (S : SupI P K C fI fld pa) (O : OexC K C) {a : Addr} {v : V} {s1 : Shared} {A' : Around} {E : Value → Shared → Prop} {Q : Value → Shared → Prop} (I : Inv (supC P w K mg base A outer s H pa (callEnv S.fd s.heap.objs.size fI)) [] [some (.ref a), some v] H s1) (ha : H a = some (exo a C none))
    (h : ∀ s2, Inv (supC P w K mg base A outer s H pa (callEnv S.fd s.heap.objs.size fI)) [] [some (.ref a), some v] H s2 → Q .none s2) :
    PySem.wpAt (model P w) A' (.func (supBody pa fld S.p0 S.p1 S.p2 S.p3 S.p4 S.p5 S.p6 S.p7 S.p8 S.p9) (callEnv S.fd s.heap.objs.size fI)) (eval (.Call (.Attribute (.Call (.Name "super" S.p0) [] [] S.p1) "__init__" S.p2) [.Name pa S.p3] [] S.p4) (callEnv S.fd s.heap.objs.size fI)) Q E s1 := by
  have KX := I.kIn
  obtain ⟨ccl, cdd, vs, ccs, fl, tf, hcode, hvs, hfl⟩ := S.file
  obtain ⟨cl, cld, csl, hcell⟩ := S.cell
  obtain ⟨ar, har, harg⟩ := S.head
  obtain ⟨nm, q, N, bs, bm, sn, sub, ab, col, dd, k0, k1, k2, k3, k5, hC, hbm⟩ := O.cls
  obtain ⟨mb, hb1, hb2⟩ := I.mod.blt
  obtain ⟨t1, ho⟩ := exo_at I.hok ha
  obtain ⟨m, hns, look⟩ := id I.loc
  obtain ⟨hp, g, d, t, os⟩ := s1
  obtain ⟨us, rus, lus⟩ := look 0 "self" (.ref a) rfl rfl (.inl S.nself)
  obtain ⟨up, rup, lup⟩ := look 1 pa v rfl rfl (.inl S.npa)
  have rus : us = Value.ref a := rus
  subst rus
  have slf : m "self" = some (Value.ref a) := by
    rcases lus with ⟨_, z⟩ | ⟨z, _⟩
    · exact z
    · rcases z with z | z <;> cases S.nself.symm.trans z
  have prm : m pa = some up := by
    rcases lup with ⟨_, z⟩ | ⟨z, _⟩
    · exact z
    · rcases z with z | z <;> cases S.npa.symm.trans z
  refine @ks_wpAt_MethodCall _ _ _ _ _ _ _ _ _ _ _ _ _ ?hh (S.ev _)
  refine ks_wpAt_super_base (f := fI) (cc := S.cda) S.nsup S.ncls (by decide) rfl (KX _ _ S.lk) rfl har rfl (KX _ _ hcode) rfl hvs hfl S.top ?_
  · refine PySem.W.ks_loadName_global S.kind S.nsup (Calls.loadGlobal_builtin (env := callEnv S.fd s.heap.objs.size fI) (I.mod.glob.keeps I.bk) (PySem.W.mg_none_of I.mod.kin I.mod.glob S.hsup) (hb1.keeps I.bk) ((hb2 _ (by decide)).trans (by rfl)) ⟨rfl, ?_⟩)
    refine wpAny_loadName_free S.kind S.ncls rfl ⟨_, KX _ _ hcell, rfl⟩ ?_
    rw [harg]
    refine wpAny_loadName_local S.kind S.nself hns slf ?_
    refine ks_wpAny_isType_cls (KX _ _ hC) rfl ⟨rfl, ?_⟩
    refine ks_wpAny_call_super (KX _ _ hC) rfl ho rfl (fun c e => nomatch e) (PySem.W.looks_mroIn KX S.mro) (fun h' e k => ?_)
    have KX' : K.In h' := KX.keeps k
    have ho' := k _ _ ho
    have hcls : PySem.W.clsIn K C = some { name := nm, bases := bs, mro := .ref C :: bm, ns := N, qualname := q, hasDict := true, slotNames := sn, subclasses := sub, abstract := ab, collection := col, hasDel := false } := by unfold PySem.W.clsIn; rw [hC] <;> rfl
    have J : PySem.W.InstAt h' a ({ cls := .ref C, dict := none, data := .fields #[.ref t1, .none, .none, .none, .bool false, .none] } : Obj) C none := ⟨ho', rfl, rfl, trivial⟩
    have along := S.sup
    unfold PySem.W.ks_superIn at along
    rw [hcls] at along
    refine PySem.W.kxs_getMethod PySem.W.kxs_ValueError (l₀ := .ref C :: bm) e (PySem.W.looks_opaque KX' S.opq) (fun A Q E s k q => wpAny_bind ((PySem.W.looks_clsIn KX' hcls) A _ E s k (wpAny_pure q))) rfl KX' along (J.type.andThen (PySem.W.looks_subIn KX' S.ve)) (PySem.W.ks_ne KX' J hcls) (by decide) ?_
    have hu : (h'.push (PySem.W.kxs_mw "ValueError.__init__" a)).get? h'.objs.size = some (PySem.W.kxs_mw "ValueError.__init__" a) := Heap.get?_push_size _ rfl
    have kp : ∀ b o, hp.get? b = some o → (h'.push (PySem.W.kxs_mw "ValueError.__init__" a)).get? b = some o := fun b o e => Heap.get?_push_of_some _ (k b o e)
    have ns2 := hns.keeps kp
    have ho2 := kp _ _ ho
    have hC2 := (KX.keeps kp) _ _ hC
    refine PySem.W.kxs_callWith (i := "ValueError.__init__") (x := a) rfl (Calls.evalArgs_plain ?_)
    refine Calls.spliced_cons (wpAny_Name (wpAny_loadName_local S.kind S.npa ns2 prm ?_) S.pdb)
    refine Calls.spliced_nil ⟨hu, ?_⟩
    refine wpAny_call (codeAny_of_tree (show wpAny _ A'.in1 (callAny (.ref h'.objs.size) ⟨[up], []⟩) _ _ _ from ?_))
    unfold callAny
    refine wpAny_bind (wpAny_load hu ?_)
    refine PySem.W.KFB.if_so (by rfl) ?_
    refine PySem.W.KFB.if_so (by rfl) ?_
    refine wpAny_bind (PySem.W.check_bound_init F.excBase_ValueError.toExcCallFacts hC2 ho2 rfl ?_)
    refine wpAny_pure ?_
    refine ⟨plainId_quiet F.excBase_ValueError.init.plain _, codeAny_builtin F.excBase_ValueError.initEntry ?_⟩
    refine PySem.W.exc_init_tree (cls := .ref C) (t0 := t1) (dv := none) (c2 := .none) (c3 := .none) (b4 := .bool false) ho2 (by show 1 ≤ sizeLine; rw [sizeLine_eq]; omega) fun h4 k4 e4 _ => ?_
    show Q .none ⟨h4, g, d, t + 1, os⟩
    have I2 := I.kept (t' := t + 1) kp
    have I3 := I2.write (t' := t + 1) (x := a) (e := a) (o := exo a C none) (by rw [ha]; exact True.intro) (.inl rfl) k4 ⟨_, e4⟩ (exo_ok e4)
    have eu : upd H a (exo a C none) = H := by
      funext b
      by_cases hb : b = a
      · subst hb; rw [upd_same, ha]
      · rw [upd_ne hb]
    rw [eu] at I3
    exact h _ I3
/-- the promise of such an __init__ -/
def spI (C : Addr) (fld : Str) : Sp := fun vs H Q _ => ∃ (a : Addr) (v : V), vs = [.ref a, v] ∧ H a = some (exo a C none) ∧ ∀ dx, H dx = none → dx ≠ a → Q .non (upd (upd H dx (exd dx [(fld, v)])) a (exo a C (some dx)))
theorem init_fn (S : SupI P K C fI fld pa) (O : OexC K C) : FnOk P w K mg base CX0 1 fI S.fd ["self", pa] (spI C fld) := by
  refine ⟨fun vs H Q E ⟨a, v, e, _⟩ => by rw [e]; rfl, fun A outer s H args us vs Q E hr e0 hb r ⟨a, v, ev, ha, q⟩ => ?_⟩
  subst ev
  cases r with
  | @cons _ u0 _ us r1 r2 =>
    cases r2 with
    | @cons _ u1 _ us r2 r3 =>
      cases r3
      have r1 : u0 = Value.ref a := r1
      subst r1
      have kin := e0.mod.kin
      have KX : K.In s.heap := kin.keeps fun b o e => (e0.bs b o e).1
      have lim : s.heap.NoLimit := e0.mod.nolimit.keeps fun b o e => (e0.bs b o e).1
      refine ks_codeAny_call_defAt hr.depth (KX _ _ S.lk) rfl lim (PySem.W.codeRec_of KX S.code) rfl hb S.nocell (fun y hy => ?_) (fun h₀ hns kp => ?_) S.co S.gen S.kind
      · have hy : y ∈ [(("self" : Str), Value.ref a), (pa, u1)] := hy
        rcases List.mem_cons.mp hy with rfl | hy
        · exact S.nself
        · rw [List.mem_singleton.mp hy]; exact S.npa
      · have I0 := sup_start (tk := s.toks + 2) S e0 hr.hd r2 hns kp
        refine ks_wpAt_execs_cons (ks_wpAt_Expr_any (sup_call S O I0 ha fun s2 I2 => ?_) I0.quiet (S.sw1 _))
        obtain ⟨m, hn2, look⟩ := id I2.loc
        obtain ⟨uS, rS, lS⟩ := look 0 "self" (.ref a) rfl rfl (.inl S.nself)
        obtain ⟨uP, rP, lP⟩ := look 1 pa v rfl rfl (.inl S.npa)
        have rS : uS = Value.ref a := rS
        subst rS
        have slf : m "self" = some (Value.ref a) := by
          rcases lS with ⟨_, z⟩ | ⟨z, _⟩
          · exact z
          · rcases z with z | z <;> cases S.nself.symm.trans z
        have prm : m pa = some uP := by
          rcases lP with ⟨_, z⟩ | ⟨z, _⟩
          · exact z
          · rcases z with z | z <;> cases S.npa.symm.trans z
        refine wpAt_of_wpAny (wpAny_execs_cons (plainObj_wpAny_Assign_Attribute (wpAny_Name (wpAny_loadName_local S.kind S.npa hn2 prm (wpAny_Name (wpAny_loadName_local S.kind S.nself hn2 slf ?_) (by decide))) S.pdb) (S.sw2 _)))
        refine ost_new (X := supC P w K mg base A outer s H pa (callEnv S.fd s.heap.objs.size fI)) O I2 ha S.own rP fun dx s3 nd ne I3 => ?_
        refine wpAny_execs_nil ?_
        exact ⟨.non, _, I3.os, I3.bare, I3.base, I3.hok, rfl, q dx nd ne⟩
end
/-! ### raise C(e) -/
def dRaiseF (n fld : Str) (W' : DW) (t : DE) : DS := fun _ δ G => t δ G fun v G1 => W' n [(fld, v)] δ G1
/-- what is said of such a class -/
structure ExI (P : Program) (K : PySem.W.Frag) (mg : Str → Option Value) (n fld : Str) (C : Addr) where
  g : mg n = some (.ref C)
  ns : PySem.W.nsIn K mainGlobals n = some (some (.ref C))
  ox : OexC K C
  fI : Addr
  pa : Str
  S : SupI P K C fI fld pa
  b : Binds K S.fd ["self", pa] []
theorem ds_raiseF {X : Cx} {F₀ : Hp} {C : Addr} {n fld : Str} {W : WX} {W' : DW} {e : Expr} {te : DE} {p p2 pos : Pos} (hc : X.calm = true) (tk : Takes X W) (kw : KoW X.K F₀ W' W) (T : ExI X.prog X.K X.mg n fld C) (hr : Room 2 X.A) (hg : Gl X n) (he : PE X e (Le X.K F₀ te))
    (hdb : (n == ("__debug__" : Str)) = false := by decide) (hs : starEach [e] X.env = (false, eval e X.env) :: starEach [] X.env := by rfl) (hz : n ≠ ZD := by decide) :
    PS X (.Raise (some (.Call (.Name n p) [e] [] p2)) none pos) (Ls X.K F₀ (dRaiseF n fld W' te)) := by
  refine ps_imp (L2.ps_raise hc tk (pmk_oex (es := []) (dvs := []) (ds := []) T.ox T.S.fi T.S.ty (init_fn T.S T.ox) hr T.b .nil pass0 hg T.g (da_cons he da_nil hs) hdb hs rfl)) fun D σ H ⟨δ, F, G, D', s, en, w, q, k⟩ => ?_
  refine ⟨δ, F, G, (fun ds G1 => match ds with | [v] => W' n [(fld, v)] δ G1 | _ => False), s, en, w, (show te δ G fun v G1 => W' n [(fld, v)] δ G1 from q), fun ds vs F1 G1 H1 s1 w1 r1 q1 => ?_⟩
  match ds, q1, r1 with
  | [d], q1, r1 =>
    obtain ⟨v, rfl, rv⟩ := rps1 r1
    refine ⟨by show 1 ≤ 1000; decide, fun a ha => ⟨a, v, rfl, upd_same, fun dx hd ne => ⟨rfl, dx, [(fld, v)], upd_same, by rw [upd_ne ne, upd_same], ?_, ?_⟩⟩⟩
    · rw [upd_ne ne] at hd; exact hd
    · have h1 : H1 dx = none := by rw [upd_ne ne] at hd; exact hd
      have eh : upd (del (upd (upd (upd H1 a (exo a C none)) dx (exd dx [(fld, v)])) a (exo a C (some dx))) a) dx (.xd [(fld, v)]) = upd H1 dx (.xd [(fld, v)]) := by
        funext b
        by_cases hb : b = dx
        · subst hb; rw [upd_same, upd_same]
        · rw [upd_ne hb, upd_ne hb]
          by_cases hb2 : b = a
          · subst hb2; rw [del_same, ha]
          · rw [del_ne hb2, upd_ne hb2, upd_ne hb, upd_ne hb2]
      rw [eh]
      have hf := w1.ffree h1
      exact kw.1 n C [(fld, d)] (some dx) δ σ (upd F1 dx (.xd [(fld, v)])) G1 _ T.ns ((s.trans s1).trans (same_upd hf)) ((en.mono s1).mono (same_upd hf)) (w1.newF h1 _) (.inr ⟨dx, [(fld, v)], rfl, upd_same, .cons (rv.mono (same_upd hf)) .nil⟩) q1 hz
end DL

/-! A lambda handed to a def; try .. except X as e; what is asked of e. -/
namespace DL
open PySem PySem.Spec PyProof.Rows L2
/-! ### g(.., lambda: ..) -/
def dCallG (j : Nat) (R : Hp → Addr → Prop) (sp : Addr → DSp → DSp) (TH : Sl → DSp) (W' : DW) (t : DA) : DE := fun δ G Q => t δ G fun ds G1 => ds[j]? = some (.ho R) ∧ ∀ fw, sp fw (TH δ) (ds.set j (.ref fw)) G1 Q fun n fs G2 => W' n fs δ G2
section
variable {X : Cx} {F₀ : Hp} {k kk n j : Nat} {f : Addr} {fd : FuncData} {ps : List Str} {sp : Addr → DSp → DSp} {TH : Sl → DSp} {R : Hp → Addr → Prop} {W : WX} {W' : DW} {x : Str} {p pos : Pos} {e : Expr} {es : List Expr} {t : DA}
theorem Rps.setR {K : PySem.W.Frag} {F : Hp} {R : Hp → Addr → Prop} : ∀ {ds : List D} {vs : List V} {j : Nat}, Rps K F ds vs → ds[j]? = some (.ho R) → ∃ fw, R F fw ∧ Rps K F (ds.set j (.ref fw)) vs
  | [], _, _, _, h => by simp at h
  | d :: ds, _, 0, r, h => by
    cases r with
    | cons a b =>
      simp at h
      subst h
      cases a with
      | ho a => exact ⟨_, a F (Same.refl F), .cons (.ref _) b⟩
  | d :: ds, _, j + 1, r, h => by
    cases r with
    | cons a b =>
      obtain ⟨fw, h1, h2⟩ := b.setR (j := j) (by simpa using h)
      exact ⟨fw, h1, .cons a h2⟩
theorem de_callG (FW : FnW X.prog X.w X.K X.mg X.base (L2.CX X.prog X.w) k f fd ps kk n sp) (hr : Room k X.A) (hmu : Mute X.A) (hg : Gl X x) (hm : X.mg x = some (.ref f)) (hk : PySem.W.keepIn X.K (.ref f) = true) (hb : Binds X.K fd ps []) (tk : Takes X W) (kw : KoW X.K F₀ W' W)
    (way : ∀ pins σ H s F G δ fw, Inv X pins σ H s → Same F₀ F → En X.K F δ σ → Wd X.K F G H → R F fw → WayOk X.prog X.w X.K X.mg X.base kk (frs X.stack) H s.heap F fw n (TH δ))
    (ha : PA X (e :: es) (La X.K F₀ t)) (hdb : (x == ("__debug__" : Str)) = false := by decide) (he : starEach (e :: es) X.env = (false, eval e X.env) :: starEach es X.env := by rfl) (hpl : (backTo pos (starEach es X.env)).any (·.1) = false := by rfl) :
    PE X (.Call (.Name x p) (e :: es) [] pos) (Le X.K F₀ (dCallG j R sp TH W' t)) := by
  refine ⟨fun pins s σ H Q I ⟨δ, F1, G, Q', s0, en, w, q, k⟩ => wpAny_Call_Name_kw (ld_glob I hg hm (PySem.W.callWith_K (h₀ := X.base) I.ok.mod.kin hk (thn (ha.run pos pins s σ H (fun vs H1 => ∃ F2 G2 ds, Same F1 F2 ∧ Wd X.K F2 G2 H1 ∧ Rps X.K F2 ds vs ∧ ds[j]? = some (.ho R) ∧ ∀ fw, sp fw (TH δ) (ds.set j (.ref fw)) G2 Q' fun n fs G2 => W' n fs δ G2) I
    ⟨δ, F1, G, _, s0, en, w, q, fun ds vs F2 G2 H2 s2 w2 r2 q2 => ⟨F2, G2, ds, s2, w2, r2, q2⟩⟩) fun us s1 ⟨vs, H1, I1, r, F2, G2, ds, s2, w2, r2, hj, q2⟩ => ⟨I1.kIn, ?_⟩) he hpl) hdb)⟩
  obtain ⟨fw, hR, r3⟩ := r2.setR hj
  have hl : (us ++ []).length = ps.length := by
    have := FW.arity _ _ _ _ _ _ (q2 fw)
    rw [List.append_nil, ← r.length, ← r3.length, this]
  have b := hb s1 us I1.kIn hl
  rw [List.append_nil] at b
  exact wp_call (FW.go X.A X.stack s1 H1 ⟨us, []⟩ us vs Q (WE W σ) fw (TH δ) F2 G2 _ Q' _ hr hmu I1.env0 b r w2 r3 (q2 fw) (k.mono s2) (kw.at (s0.trans s2) (en.mono s2)) (way pins σ H1 s1 F2 G2 δ fw I1 (s0.trans s2) (en.mono s2) w2 hR)) fun r s' hq => after_callS (passAt tk σ) I1 hq
end
/-- a def of the program as a function value -/
theorem fn_way {P : Program} {w : World} {K : PySem.W.Frag} {mg : Str → Option Value} {base : Heap} {CX : CXT} {k : Nat} {f : Addr} {fd : FuncData} {ps : List Str} {sp : DSp} {fs : List Addr} {H0 : Hp} {h0 : Heap} {F0 : Hp} (F : FnG P w K mg base (L2.CX P w) k f fd ps (LSp K sp))
    (lk : ∃ oc od osl, K.lookup f = some ⟨oc, od, .func fd, osl⟩) (hb : Binds K fd ps []) (kin : K.In h0) (hfz : ∀ b o, K.lookup b = some o → H0 b = none ∧ b ∉ fs) : True := trivial
/-! ### errors that are let go on; none is met -/
theorem kow_no {K : PySem.W.Frag} {F : Hp} : KoW K F (fun _ _ _ _ => False) (fun _ _ _ _ => False) := ⟨fun _ _ _ _ _ _ _ _ _ _ _ _ _ _ z _ => z, fun _ _ _ _ _ _ _ _ _ z => z⟩
/-! ### try -/
/-- the wish of an error that the clause catches (sub: true), or lets go -/
def dAs (i : Nat) (sub : Str → Option Bool) (su : Addr → Str → List (Str × D) → DS) (Wout' : DW) (D : DEnds) : DW := fun n fs δ G => match sub n with
  | some true => ∀ a, su a n fs { nx := fun δ' G' => D.nx (δ'.set i none) G', rt := D.rt, bk := fun δ' G' => D.bk (δ'.set i none) G', ct := fun δ' G' => D.ct (δ'.set i none) G' } (δ.set i (some (.ref a))) G
  | some false => Wout' n fs δ G
  | none => False
def dTryAs (i : Nat) (sub : Str → Option Bool) (tb : DW → DS) (su : Addr → Str → List (Str × D) → DS) (Wout' : DW) : DS := fun D δ G => tb (dAs i sub su Wout' D) D δ G
theorem Ke.wiped {K : PySem.W.Frag} {F : Hp} {D' : DEnds} {D : Ends} (k : Ke K F D' D) (i : Nat) : Ke K F { nx := fun δ' G' => D'.nx (δ'.set i none) G', rt := D'.rt, bk := fun δ' G' => D'.bk (δ'.set i none) G', ct := fun δ' G' => D'.ct (δ'.set i none) G' }
    { nx := fun σ' H' => D.nx (σ'.set i none) H', rt := D.rt, bk := fun σ' H' => D.bk (σ'.set i none) H', ct := fun σ' H' => D.ct (σ'.set i none) H' } :=
  ⟨fun δ σ F' G' H' s en w q => k.nx _ _ F' G' H' s (en.clr i none) w q, k.rt, fun δ σ F' G' H' s en w q => k.bk _ _ F' G' H' s (en.clr i none) w q, fun δ σ F' G' H' s en w q => k.ct _ _ F' G' H' s (en.clr i none) w q⟩
section
variable {X : Cx} {F₀ : Hp} {x n : Str} {c : Value} {i : Nat} {body suite : List Stmt} {b₀ : Stmt} {np pos pos' : Pos} {tb : DW → DS} {su : Addr → Str → List (Str × D) → DS} {sub : Str → Option Bool} {Wout : WX} {Wout' : DW}
theorem ds_try_as (hs : X.stack = X.env :: X.outer) (hf : X.env.frame = some X.env.locals) (hN : X.N.Nodup) (hi : X.N[i]? = some n) (hln : X.env.kindOf n = some .local) (hc : Names X x c) (tk : Takes X Wout) (kw : KoW X.K F₀ Wout' Wout)
    (hsub : ∀ m b C, sub m = some b → PySem.W.nsIn X.K mainGlobals m = some (some (.ref C)) → PySem.W.exmOne X.K (.ref C) c = some b)
    (hb : ∀ (W : WX) (W' : DW) (F1 : Hp) (pn : List (Addr × Obj)) (xe : Value → Shared → Prop), Takes (X.tr pn xe) W → PassesOwn (model X.prog X.w) X.A X.env xe → KoW X.K F1 W' W → Same F₀ F1 → PSs (X.tr pn xe) body (Ls X.K F1 (tb W')))
    (hsu : ∀ (a : Addr) (oe : Obj) (m : Str) (C : Addr) (d : Option Addr) (fs : List (Str × D)) (F1 : Hp) (pn : List (Addr × Obj)), Same F₀ F1 → sub m = some true → PySem.W.nsIn X.K mainGlobals m = some (some (.ref C)) → Zc (.ref C) d oe → (∃ vs, oe.data = .fields vs) → ErrAt X.K F1 fs d →
      PSs (X.suite a ((a, oe) :: pn)) (b₀ :: suite) (Ls X.K F1 (su a m fs))) (hz : sub ZD = none := by rfl) :
    PS X (.Try body [.ExceptHandler (some (.Name x np)) (some n) (b₀ :: suite) pos'] [] [] pos) (Ls X.K F₀ (dTryAs i sub tb su Wout')) := by
  refine ps_imp (L2.ps_try_as (tb := fun W D σ H => ∃ W' F1, KoW X.K F1 W' W ∧ Same F₀ F1 ∧ Ls X.K F1 (tb W') D σ H)
    (ts := fun a cls d D σ H => ∃ m C fs F1, Same F₀ F1 ∧ cls = .ref C ∧ sub m = some true ∧ PySem.W.nsIn X.K mainGlobals m = some (some (.ref C)) ∧ ErrAt X.K F1 fs d ∧ Ls X.K F1 (su a m fs) D σ H)
    hs hf hN hi hln hc tk (fun W pn xe t po => ⟨fun pins s σ H D I ⟨W', F1, k, sF, l⟩ => (hb W W' F1 pn xe t po k sF).run pins s σ H D I l⟩)
    (fun a oe cls d pn hz hv => ⟨fun pins s σ H D I ⟨m, C, fs, F1, sF, e, hm, hC, er, l⟩ => by subst e; exact (hsu a oe m C d fs F1 pn sF hm hC hz hv er).run pins s σ H D I l⟩)) fun D σ H ⟨δ, F, G, D', s, en, w, q, k⟩ => ?_
  refine ⟨dAs i sub su Wout' D', F, ⟨fun m C fs d δ1 σ1 F1 G1 H1 hC s1 en1 w1 er q1 hne => ?_, fun d δ1 σ1 F1 G1 H1 s1 en1 w1 q1 => by unfold dAs at q1; rw [hz] at q1; exact q1.elim⟩, s, δ, F, G, D', Same.refl F, en, w, q, k⟩
  unfold dAs at q1
  split at q1
  · rename_i hm
    exact ⟨true, hsub m true C hm hC, fun _ a _ => ⟨m, C, fs, F1, s.trans s1, rfl, hm, hC, er, _, F1, G1, _, Same.refl F1, en1.set (.ref a) i, w1, q1 a, (k.mono s1).wiped i⟩, (fun z => nomatch z)⟩
  · rename_i hm
    exact ⟨false, hsub m false C hm hC, (fun z => nomatch z), fun _ => kw.1 m C fs d δ1 σ1 F1 G1 H1 hC (s.trans s1) en1 w1 er q1 hne⟩
  · exact q1.elim
end
/-- which classes the clause catches, by a list -/
def subL (l : List (Str × Bool)) (m : Str) : Option Bool := l.lookup m
theorem subL_ok {K : PySem.W.Frag} {c : Value} : ∀ {l : List (Str × Bool)}, (∀ p ∈ l, ∀ C, PySem.W.nsIn K mainGlobals p.1 = some (some (.ref C)) → PySem.W.exmOne K (.ref C) c = some p.2) →
    ∀ m b C, subL l m = some b → PySem.W.nsIn K mainGlobals m = some (some (.ref C)) → PySem.W.exmOne K (.ref C) c = some b := fun {l} h m b C hm hC => h (m, b) (PySem.mem_of_lookup hm) C hC
theorem exm_at {K : PySem.W.Frag} {n : Str} {a : Addr} {c : Value} {b : Bool} (z : PySem.W.nsIn K mainGlobals n = some (some (.ref a))) (h : PySem.W.exmOne K (.ref a) c = some b) : ∀ C, PySem.W.nsIn K mainGlobals n = some (some (.ref C)) → PySem.W.exmOne K (.ref C) c = some b := fun C hC => by
  cases z.symm.trans hC
  exact h
/-- the suite, class by class -/
def suL (l : List (Str × (Addr → List (Str × D) → DS))) (a : Addr) (m : Str) (fs : List (Str × D)) : DS := match l.lookup m with
  | some f => f a fs
  | none => fun _ _ _ => False
theorem suL_ok {X : Cx} {st : List Stmt} {F : Hp} {a : Addr} {m : Str} {fs : List (Str × D)} {l : List (Str × (Addr → List (Str × D) → DS))} (h : ∀ p ∈ l, p.1 = m → PSs X st (Ls X.K F (p.2 a fs))) : PSs X st (Ls X.K F (suL l a m fs)) := by
  unfold suL
  split
  · rename_i f e
    exact h (m, f) (PySem.mem_of_lookup e) rfl
  · exact ⟨fun pins s σ H D I ⟨_, _, _, _, _, _, _, q, _⟩ => q.elim⟩
theorem WayOk.go1 {P : Program} {w : World} {K : PySem.W.Frag} {mg : Str → Option Value} {base : Heap} {k : Nat} {fs : List Addr} {H0 : Hp} {h0 : Heap} {F0 F1 : Hp} {fw : Addr} {n : Nat} {th : DSp} (V : WayOk P w K mg base k fs H0 h0 F0 fw n th) (s : Same F0 F1) : WayOk P w K mg base k fs H0 h0 F1 fw n th :=
  ⟨fun F H h s1 => V.fn F H h (s.trans s1), fun A outer sh H us vs Q E F G ds Q' E' hr hm e u r s1 => V.go A outer sh H us vs Q E F G ds Q' E' hr hm e u r (s.trans s1)⟩
/-- the wish in a lambda's body -/
theorem takesL {X : Cx} {A : Around} {outer : List Env} {s : Shared} {H : Hp} {E : XK} {scope : Scope} {ps : List Str} {f c' : Addr} : Takes (lamC X A outer s H E scope ps f c') (fun cls d _ H => E cls d H) := takes_of rfl rfl rfl rfl
theorem passL {X : Cx} {A : Around} {outer : List Env} {s : Shared} {H : Hp} {E : XK} {scope : Scope} {ps : List Str} {f c' : Addr} : Passes (L2.CX X.prog X.w) (lamC X A outer s H E scope ps f c') E := passes_call takesL fun _ _ _ _ h => h
/-! ### what is asked of the caught error -/
/-- isinstance(e, c) -/
def dIsE (i : Nat) (a : Addr) (b : Bool) : DE := fun δ G Q => δ[i]? = some (some (.ref a)) ∧ Q (.bl b) G
/-- e.f -/
def dXf (i : Nat) (a : Addr) (fs : List (Str × D)) (f : Str) : DE := fun δ G Q => δ[i]? = some (some (.ref a)) ∧ ∃ v, fs.lookup f = some v ∧ Q v G
/-- what the written part says of a class whose instances are asked -/
structure ExA (K : PySem.W.Frag) (C : Addr) : Prop where
  cl : (PySem.W.clsIn K C).isSome = true
  ga : PySem.W.findIn K (.ref C) "__getattribute__" = some (some (.builtin "BaseException.__getattribute__"))
  gg : PySem.W.findIn K (.ref C) "__getattr__" = some none
  be : PySem.W.subIn K (.ref C) (.type "BaseException") = some true
  hd : PySem.W.hasDictIn K C = true
  ca : PySem.W.findIn K (.ref C) "__class__" = some (some (.builtin "object.__class__"))
  cn : PySem.W.specialIn K (.builtin "object.__class__") "__get__" = some (some (.builtin "getset_descriptor.__get__"))
  ct : PySem.W.takesIn K (.builtin "object.__class__") = some true
  ob : PySem.W.mroIn K C (.type "object") = some true
section
variable {X : Cx} {F₀ : Hp} {a C : Addr} {oe : Obj} {d : Option Addr} {fs : List (Str × D)} {pn : List (Addr × Obj)} {i : Nat} {m : Str} {b : Bool} {p pc pe pos : Pos} {n : Str}
theorem call_isErr (T : ExA X.K C) (hz : Zc (.ref C) d oe) (hv : ∃ vs, oe.data = .fields vs) :
    CallR (X.suite a ((a, oe) :: pn)) (.builtin "isinstance") (fun xs H Q => ∃ (c : V) (cv : Value) (b : Bool), xs = [.ref a, c] ∧ (d = none ∨ ∃ dd fs, d = some dd ∧ H dd = some (.xd fs)) ∧ (∀ u, RelV c u → u = cv) ∧ PySem.W.kitOne X.K (.ref C) cv = some b ∧ Q (.bl b) H) := by
  intro pins s σ H xs us Q I r h
  obtain ⟨c, cv, b, rfl, hd, hcv, e, q⟩ := h
  cases r with
  | cons rx rr =>
    cases rr with
    | cons rt rr =>
      cases rr
      cases rx
      have ec := hcv _ rt
      subst ec
      obtain ⟨hget, _⟩ := I.pin (a, oe) (List.mem_append.mpr (.inl List.mem_cons_self))
      obtain ⟨vs, hv⟩ := hv
      obtain ⟨od, J⟩ : ∃ od, PySem.W.InstAt s.heap a oe C od := by
        rcases hd with hd | ⟨dd, fs, hd, hH⟩
        · exact ⟨none, hget, hz.1, by unfold PySem.W.notCls; rw [hv] <;> rfl, by rw [hz.2, hd]; trivial⟩
        · have hx : ObjOk X.prog X.w H s.heap dd (.xd fs) := I.hok dd _ hH
          obtain ⟨mA, hns, _⟩ := hx
          obtain ⟨od, ho, _⟩ := lookIn_ns hns
          exact ⟨some od, hget, hz.1, by unfold PySem.W.notCls; rw [hv] <;> rfl, by rw [hz.2, hd]; exact ho⟩
      exact PySem.W.kia_one (PySem.W.kitx_exc T.cl T.ga T.gg T.be T.ca T.cn T.ct T.ob) I.kIn J e (fun z => nomatch z) fun tk => ⟨.bl b, H, I.kept (t' := tk) fun _ _ z => z, rfl, q⟩
theorem err_d {F H : Hp} {G : Gp} (er : ErrAt X.K F₀ fs d) (s : Same F₀ F) (w : Wd X.K F G H) : d = none ∨ ∃ dd fs, d = some dd ∧ H dd = some (.xd fs) := by
  rcases er with ⟨h, _⟩ | ⟨dd, fv, h, hF, _⟩
  · exact .inl h
  · exact .inr ⟨dd, fv, h, w.fz _ _ (s _ _ hF)⟩
/-- isinstance(e, c), c an own class -/
theorem de_isE {D : Addr} {xc : Str} (T : ExA X.K C) (hz : Zc (.ref C) d oe) (hv : ∃ vs, oe.data = .fields vs) (er : ErrAt X.K F₀ fs d) (hk : PySem.W.kitOne X.K (.ref C) (.ref D) = some b) (hg : Gl (X.suite a ((a, oe) :: pn)) "isinstance") (hm : X.mg "isinstance" = none)
    (hN : X.N[i]? = some n) (hvs : Vis X.env.scope n) (gc : Gl (X.suite a ((a, oe) :: pn)) xc) (mc : X.mg xc = some (.ref D)) (hd : (n == ("__debug__" : Str)) = false := by decide) (hcd : (n == ("__classdict__" : Str)) = false := by decide) (dc : (xc == ("__debug__" : Str)) = false := by decide) :
    PE (X.suite a ((a, oe) :: pn)) (.Call (.Name "isinstance" p) [.Name n pe, .Name xc pc] [] pos) (Le X.K F₀ (dIsE i a b)) := by
  have cd : CallD X.K F₀ (fun xs G Q => match xs with | [.ref a', .ref D'] => a' = a ∧ D' = D ∧ Q (.bl b) G | _ => False) (fun xs H Q => ∃ (c : V) (cv : Value) (b : Bool), xs = [.ref a, c] ∧ (d = none ∨ ∃ dd fs, d = some dd ∧ H dd = some (.xd fs)) ∧ (∀ u, RelV c u → u = cv) ∧ PySem.W.kitOne X.K (.ref C) cv = some b ∧ Q (.bl b) H) := by
    intro F G H xs vs Q' Q s w r q k
    split at q
    · obtain ⟨rfl, rfl, q⟩ := q
      obtain ⟨v1, v2, rfl, r1, r2⟩ := rps2 r
      cases r1
      cases r2
      exact ⟨.ref _, .ref _, b, rfl, err_d er s w, fun u z => z, hk, k _ _ F G H (Same.refl F) w (.bl b) q⟩
    · exact q.elim
  refine pe_imp (de_callB (X := X.suite a ((a, oe) :: pn)) (call_isErr T hz hv) cd hg hm rfl (da_cons (de_var (i := i) (pe_var hN hvs hd hcd)) (da_cons (de_c (v := .ref D) (d := .ref D) (pe_glob gc mc rfl dc) fun _ => .ref D) da_nil))) fun σ H Q ⟨δ, F, G, Q', s, en, w, ⟨h1, q⟩, k⟩ => ⟨δ, F, G, Q', s, en, w, ?_, k⟩
  unfold dCB aCons dVar dC aNil
  rw [h1]
  exact ⟨rfl, rfl, q⟩
/-- isinstance(e, ValueError) -/
theorem de_isV (T : ExA X.K C) (hz : Zc (.ref C) d oe) (hv : ∃ vs, oe.data = .fields vs) (er : ErrAt X.K F₀ fs d) (hk : PySem.W.kitOne X.K (.ref C) (.type "ValueError") = some b) (hg : Gl (X.suite a ((a, oe) :: pn)) "isinstance") (hm : X.mg "isinstance" = none)
    (hN : X.N[i]? = some n) (hvs : Vis X.env.scope n) (gc : Gl (X.suite a ((a, oe) :: pn)) "ValueError") (mc : X.mg "ValueError" = none) (hd : (n == ("__debug__" : Str)) = false := by decide) (hcd : (n == ("__classdict__" : Str)) = false := by decide) :
    PE (X.suite a ((a, oe) :: pn)) (.Call (.Name "isinstance" p) [.Name n pe, .Name "ValueError" pc] [] pos) (Le X.K F₀ (dIsE i a b)) := by
  have cd : CallD X.K F₀ (fun xs G Q => match xs with | [.ref a', .ty T] => a' = a ∧ T = "ValueError" ∧ Q (.bl b) G | _ => False) (fun xs H Q => ∃ (c : V) (cv : Value) (b : Bool), xs = [.ref a, c] ∧ (d = none ∨ ∃ dd fs, d = some dd ∧ H dd = some (.xd fs)) ∧ (∀ u, RelV c u → u = cv) ∧ PySem.W.kitOne X.K (.ref C) cv = some b ∧ Q (.bl b) H) := by
    intro F G H xs vs Q' Q s w r q k
    split at q
    · obtain ⟨rfl, rfl, q⟩ := q
      obtain ⟨v1, v2, rfl, r1, r2⟩ := rps2 r
      cases r1
      cases r2
      exact ⟨.ty _, .type _, b, rfl, err_d er s w, fun u z => z, hk, k _ _ F G H (Same.refl F) w (.bl b) q⟩
    · exact q.elim
  refine pe_imp (de_callB (X := X.suite a ((a, oe) :: pn)) (call_isErr T hz hv) cd hg hm rfl (da_cons (de_var (i := i) (pe_var hN hvs hd hcd)) (da_cons (de_c (v := .ty "ValueError") (d := .ty "ValueError") (pe_bltn gc mc (by decide +kernel) rfl) fun _ => .ty _) da_nil))) fun σ H Q ⟨δ, F, G, Q', s, en, w, ⟨h1, q⟩, k⟩ => ⟨δ, F, G, Q', s, en, w, ?_, k⟩
  unfold dCB aCons dVar dC aNil
  rw [h1]
  exact ⟨rfl, rfl, q⟩
/-- e.f -/
theorem de_xf {f : Str} (T : ExA X.K C) (hno : PySem.W.findIn X.K (.ref C) f = some none) (hz : Zc (.ref C) d oe) (hv : ∃ vs, oe.data = .fields vs) (er : ErrAt X.K F₀ fs d) (hN : X.N[i]? = some n) (hvs : Vis X.env.scope n)
    (hd : (n == ("__debug__" : Str)) = false := by decide) (hcd : (n == ("__classdict__" : Str)) = false := by decide) (hb : attributeBase (.Name n pe) f X.env (eval (.Name n pe) X.env) = eval (.Name n pe) X.env := by rfl) :
    PE (X.suite a ((a, oe) :: pn)) (.Attribute (.Name n pe) f pos) (Le X.K F₀ (dXf i a fs f)) := by
  refine pe_imp (pe_xf ⟨T.ga, T.gg, T.be, T.hd⟩ hno hz hv (pe_var (i := i) hN hvs hd hcd) hb) fun σ H Q ⟨δ, F, G, Q', s, en, w, ⟨h1, v, hl, q⟩, k⟩ => ?_
  obtain ⟨v0, e0, r0⟩ := en.2 i _ h1
  cases r0
  rcases er with ⟨_, rfl⟩ | ⟨dd, fv, rfl, hF, rf⟩
  · cases hl
  · obtain ⟨u, hu, ru⟩ := rf.lookup hl
    exact ⟨.ref a, e0, rfl, rfl, dd, fv, u, rfl, w.fz _ _ (s _ _ hF), hu, k _ _ F G H (Same.refl F) w (ru.mono s) q⟩
end
end DL

/-! xs.count(y), xs.index(y) of flat things; the law's end with tables. -/
namespace DL
open PySem PySem.Spec PyProof.Rows L2
section
variable {X : Cx}
theorem countP_eqU {y : V} : ∀ {ys : List V} {us : List Value}, Vals ys us → ys.all flatV = true → us.countP (eqU y) = ys.countP fun z => eqV z y
  | _, _, .nil, _ => rfl
  | z :: ys, u :: us, .cons r t, f => by
    rw [List.all_cons, Bool.and_eq_true] at f
    rw [List.countP_cons, List.countP_cons, countP_eqU t f.2, eqU_of r f.1]
theorem mt_countF : MtR X "list.count" (fun x xs H Q => ∃ (a : Addr) (ys : List V) (y : V), x = V.ref a ∧ xs = [y] ∧ SqL X.K H a ys ∧ flatV y = true ∧ ys.all flatV = true ∧ Q (.int ((ys.countP fun z => eqV z y : Nat) : Int)) H) := by
  intro pins s σ H x xs v us Q I rx rxs h
  obtain ⟨a, ys, y, rfl, rfl, hs, fy, fys, q⟩ := h
  cases rx
  obtain ⟨u, rfl, ru⟩ := rxs.one
  obtain ⟨its, rv, ⟨⟨c0, dd, data, sl⟩, n, ho, e1, _, e2⟩, _⟩ := I.list hs
  simp only at e1 e2
  subst e1 e2
  refine call_meets PySem.F.slot_list_count ⟨_, ho, rfl⟩ PySem.F.entry_list_count (PySem.F.args_list_count_2 _ _) (SeqAt.list_countAt a its.toArray n dd sl u (eqU y)) ⟨ho, fun u' hu' => mem_eqAt ru fy rv fys u' (by simpa using hu'), ?_⟩
  refine ⟨.int ((ys.countP fun z => eqV z y : Nat) : Int), H, I.tok _, ⟨s.toks, ?_⟩, q⟩
  show Value.int ((its.toArray.toList.countP (eqU y) : Nat) : Int) s.toks = _
  rw [show its.toArray.toList = its from by simp, countP_eqU rv fys]
end
section
variable {K : PySem.W.Frag} {F₀ : Hp}
def dCountF : D → List D → Gp → DK → Prop := fun x ys G Q => match ys with
  | [y] => match rlOf x G with
    | some xs => flatD y = true ∧ xs.all flatD = true ∧ Q (.int ((xs.countP fun z => eqV (toV z) (toV y) : Nat) : Int)) G
    | none => False
  | _ => False
theorem md_countF : MeD K F₀ dCountF (fun x xs H Q => ∃ (a : Addr) (ys : List V) (y : V), x = V.ref a ∧ xs = [y] ∧ SqL K H a ys ∧ flatV y = true ∧ ys.all flatV = true ∧ Q (.int ((ys.countP fun z => eqV z y : Nat) : Int)) H) := by
  intro F G H x v xs vs Q' Q s w rx rxs q k
  unfold dCountF at q
  split at q
  · rename_i y
    split at q
    · rename_i zs hz
      obtain ⟨fy, fz, q⟩ := q
      obtain ⟨a, us, rfl, hs, r⟩ := rlOf_ok w rx hz
      obtain ⟨u, rfl, ru⟩ := rps1 rxs
      obtain ⟨e1, f1⟩ := flat_toV ru fy
      obtain ⟨e2, f2⟩ := flats_toV r fz
      refine ⟨a, us, u, rfl, rfl, hs, f1, f2, k _ _ F G H (Same.refl F) w ?_ q⟩
      rw [e1, e2, List.countP_map]
      exact .int _
    · exact q.elim
  · exact q.elim
def dIndexF : D → List D → Gp → DK → Prop := fun x ys G Q => match ys with
  | [y] => match rlOf x G with
    | some xs => flatD y = true ∧ xs.all flatD = true ∧ ∃ j : Nat, ((xs[j]?).map fun z => eqV (toV z) (toV y)) = some true ∧ ((xs.take j).any fun z => eqV (toV z) (toV y)) = false ∧ Q (.int (j : Nat)) G
    | none => False
  | _ => False
theorem md_indexF : MeD K F₀ dIndexF (rIndex K) := by
  intro F G H x v xs vs Q' Q s w rx rxs q k
  unfold dIndexF at q
  split at q
  · rename_i y
    split at q
    · rename_i zs hz
      obtain ⟨fy, fz, j, hj, hn, q⟩ := q
      obtain ⟨a, us, rfl, hs, r⟩ := rlOf_ok w rx hz
      obtain ⟨u, rfl, ru⟩ := rps1 rxs
      obtain ⟨e1, f1⟩ := flat_toV ru fy
      obtain ⟨e2, f2⟩ := flats_toV r fz
      cases hzj : zs[j]? with
      | none => rw [hzj] at hj; cases hj
      | some z =>
        rw [hzj] at hj
        have hj : eqV (toV z) (toV y) = true := Option.some.inj hj
        refine ⟨a, us, u, j, toV z, rfl, rfl, hs, f1, f2, by rw [e2, List.getElem?_map, hzj]; rfl, by rw [e1]; exact hj, fun m z' hm hz' => ?_, k _ _ F G H (Same.refl F) w (.int _) q⟩
        rw [e2, List.getElem?_map] at hz'
        cases hzm : zs[m]? with
        | none => rw [hzm] at hz'; cases hz'
        | some y' =>
          rw [hzm] at hz'
          have hz' : toV y' = z' := Option.some.inj hz'
          rw [← hz', e1]
          rw [List.any_eq_false] at hn
          have := hn y' (List.mem_of_getElem? (i := m) (by rw [List.getElem?_take_of_lt hm, hzm]))
          simpa using this
    · exact q.elim
  · exact q.elim
end
end DL

/-! Defs whose code object is known; the law's end where tables of code objects may grow. -/
namespace DL
open PySem PySem.Spec PyProof.Rows L2
/-- a def of the top, its code object at c -/
def FunC (K : PySem.W.Frag) (x qual : Str) (st : Stmt) (f : Addr) (fd : FuncData) (c : Addr) : Prop :=
  ∃ oc od kV doc pm an ct osl, fd = PySem.W.fnOf x qual (defArgs st) (defBody st) (defScope st) .none kV doc pm an (.ref c) ct ∧ K.lookup f = some ⟨oc, od, .func fd, osl⟩ ∧ PySem.W.codeIn K (.ref c) qual = true
section
variable {P : Program} {w : World} {K : PySem.W.Frag} {mg : Str → Option Value} {base : Heap}
theorem fnC_of {CX : CXT} {x qual : Str} {st : Stmt} {f c : Addr} {fd : FuncData} {N ps : List Str} {k : Nat} {sp : Sp} (F : FunC K x qual st f fd c) (S : FnScope N ps (defScope st)) (len : ∀ vs H Q E, sp vs H Q E → vs.length = ps.length)
    (hbody : ∀ (A : Around) (outer : List Env) (s : Shared) (H : Hp) (vs : List V) (Q : VK) (E : XK), Room k (A.deeper (envOfC qual (defScope st) s.heap.objs.size f (.ref c))) → Mute A → sp vs H Q E →
      ∃ t, PSs (cxOf CX P w K mg base N qual (defScope st) f (.ref c) A outer s H E) (defBody st) t ∧ t { nx := fun _ H' => Q .non H', rt := Q } (start N vs) H) : FnG P w K mg base CX (k + 1) f fd ps sp := by
  obtain ⟨oc, od, kV, doc, pm, an, ct, osl, rfl, lk, hcd⟩ := F
  refine ⟨len, fun A outer s H args us vs Q E hr hm e0 hb r hsp => ?_⟩
  have hK : K.In s.heap := e0.mod.kin.keeps fun b o e => (e0.bs b o e).1
  have lim : s.heap.NoLimit := e0.mod.nolimit.keeps fun b o e => (e0.bs b o e).1
  refine codeAny_call_function hr.depth (hK _ _ lk) rfl S.co S.gen rfl (PySem.W.codeRec_of hK hcd) (hb _ _ _ _ ?_)
  refine wpAny_newFunctionEnv_cells S.kind (fun y hy => ?_) fun env he s1 x => ?_
  · obtain ⟨n, v⟩ := y
    rcases S.par n (List.of_mem_zip hy).1 with q | q
    · exact .inl q
    · exact .inr ⟨q, PySem.W.cellsFrom_some _ _ _ (.inl q)⟩
  · subst he
    refine ⟨lim.keeps x.toInCall.keep, codeAny_func ?_⟩
    obtain ⟨t, ht, q⟩ := hbody A outer s H vs Q E (hr.deeper _) hm hsp
    refine wpAny_mono (ht.run [] s1 (start N vs) H _ (inv_start S hr.hd e0 (len _ _ _ _ hsp) r x) q) (fun fl s' hs => ?_) fun _ _ z => z
    match fl, hs with
    | .ret u, ⟨v, σ', H', J, rv, q⟩ => exact ⟨v, H', J.os, J.bare, J.base, J.hok, rv, q⟩
    | .next, ⟨σ', H', J, q⟩ => exact ⟨V.non, H', J.os, J.bare, J.base, J.hok, rfl, q⟩
    | .brk, ⟨_, _, _, z⟩ => exact z.elim
    | .cont, ⟨_, _, _, z⟩ => exact z.elim
/-- .. that lets no error out -/
theorem fn_dC {x qual : Str} {st : Stmt} {f c : Addr} {fd : FuncData} {N ps : List Str} {k : Nat} {sp : DSp} (F : FunC K x qual st f fd c) (S : FnScope N ps (defScope st)) (len : ∀ ds G Q E, sp ds G Q E → ds.length = ps.length)
    (hbody : ∀ (A : Around) (outer : List Env) (s : Shared) (H : Hp) (E : XK) (F₀ : Hp), Room k (A.deeper (envOfC qual (defScope st) s.heap.objs.size f (.ref c))) → Mute A →
      ∃ t : DS, PSs (cxOf CX0 P w K mg base N qual (defScope st) f (.ref c) A outer s H E).nox (defBody st) (Ls K F₀ t) ∧ ∀ ds G Q E', sp ds G Q E' → t (endD Q) (startD N ds) G) : FnG P w K mg base CX0 (k + 1) f fd ps (LSp K sp) := by
  refine fnC_of F S (fun vs H Q E ⟨F, G, ds, Q', E', r, w, q, _⟩ => by rw [← r.length]; exact len _ _ _ _ q) (fun A outer s H vs Q E hr hmu ⟨F0, G, ds, Q', E', r, w, q, k, _⟩ => ?_)
  obtain ⟨t, h1, h2⟩ := hbody A outer s H E F0 hr hmu
  have hl := len _ _ _ _ q
  have hN : ps.length ≤ N.length := by have := congrArg List.length S.pre; rw [List.length_take] at this; omega
  exact ⟨_, PSs.nox h1, ⟨_, F0, G, endD Q', Same.refl F0, En.start N r (by omega), w, h2 _ _ _ _ q, ke_end k⟩⟩
/-- .. that may let errors out -/
theorem fn_dEC {x qual : Str} {st : Stmt} {f c : Addr} {fd : FuncData} {N ps : List Str} {k : Nat} {sp : DSp} (F : FunC K x qual st f fd c) (S : FnScope N ps (defScope st)) (len : ∀ ds G Q E, sp ds G Q E → ds.length = ps.length)
    (hbody : ∀ (A : Around) (outer : List Env) (s : Shared) (H : Hp) (E : XK) (F₀ : Hp) (E' : DX), Room k (A.deeper (envOfC qual (defScope st) s.heap.objs.size f (.ref c))) → Mute A → KoE K F₀ E' E →
      ∃ t : DS, PSs (cxE P w K mg base N qual (defScope st) f (.ref c) A outer s H E) (defBody st) (Ls K F₀ t) ∧ ∀ ds G Q, sp ds G Q E' → t (endD Q) (startD N ds) G) : FnG P w K mg base (L2.CX P w) (k + 1) f fd ps (LSp K sp) := by
  refine fnC_of F S (fun vs H Q E ⟨F, G, ds, Q', E', r, w, q, _⟩ => by rw [← r.length]; exact len _ _ _ _ q) (fun A outer s H vs Q E hr hmu ⟨F0, G, ds, Q', E', r, w, q, k, ke⟩ => ?_)
  obtain ⟨t, h1, h2⟩ := hbody A outer s H E F0 E' hr hmu ke
  have hl := len _ _ _ _ q
  have hN : ps.length ≤ N.length := by have := congrArg List.length S.pre; rw [List.length_take] at this; omega
  exact ⟨_, h1, ⟨_, F0, G, endD Q', Same.refl F0, En.start N r (by omega), w, h2 _ _ _ q, ke_end k⟩⟩
end
/-! ### the end -/
section
variable {P : Program} {w : World} {K : PySem.W.Frag} {mg mb : Str → Option Value} {k : Nat} {fa a : Addr} {fd : FuncData} {x : Str} {sp : DSp} {s1 : Shared} {vs : List Value} {ns : List Int} {cs : List (Addr × Addr × Str)}
abbrev tabsOf (cs : List (Addr × Addr × Str)) : List Addr := cs.map fun p => p.2.1
/-- the tables, to begin with -/
def gTab : List (Addr × Addr × Str) → Gp
  | [] => fun _ => none
  | p :: r => gu (gTab r) p.2.1 (.tab p.2.2)
theorem gTab_out {b : Addr} : ∀ {cs : List (Addr × Addr × Str)}, b ∉ tabsOf cs → gTab cs b = none
  | [], _ => rfl
  | p :: r, h => by
    have h1 : b ≠ p.2.1 := fun z => h (by rw [z]; exact List.mem_cons_self)
    show gu (gTab r) p.2.1 (.tab p.2.2) b = none
    rw [gu_ne h1]
    exact gTab_out fun z => h (List.mem_cons_of_mem _ z)
theorem gTab_some {b : Addr} {o : GO} : ∀ {cs : List (Addr × Addr × Str)}, gTab cs b = some o → b ∈ tabsOf cs ∧ ∃ q, o = .tab q
  | [], h => nomatch h
  | p :: r, h => by
    have h : gu (gTab r) p.2.1 (.tab p.2.2) b = some o := h
    by_cases h1 : b = p.2.1
    · subst h1
      rw [gu_same] at h
      cases h
      exact ⟨List.mem_cons_self, _, rfl⟩
    · rw [gu_ne h1] at h
      obtain ⟨i, j⟩ := gTab_some h
      exact ⟨List.mem_cons_of_mem _ i, j⟩
theorem law_tabs (KX : K.In s1.heap) (hns : s1.heap.Ns mainGlobals mg) (hb : s1.heap.Ns builtinsNs mb) (hbb : ∀ x : Str, x ≠ "__name__" → mb x = bootBuiltins x) (hlim : s1.heap.NoLimit) (hg : s1.gens = #[])
    (hbm : ∃ (bm : Addr) (ob : Obj), mg "__builtins__" = some (.ref bm) ∧ bm ≠ builtinsNs ∧ s1.heap.get? bm = some ob ∧ ob.cls = .type "module" ∧ ob.dict = some builtinsNs ∧ ob.data = .plain)
    (hT : ∀ p ∈ cs, s1.heap.get? p.2.1 = some (PySem.W.tabObj #[])) (nT : ∀ p ∈ cs, K.lookup p.2.1 = none) (C : ∀ p ∈ cs, PySem.W.CodeHd s1.heap p.1 p.2.1)
    (ha : s1.heap.get? a = some { cls := .type "list", data := .seq vs.toArray }) (hi : IntsAre vs ns) (hl : ns.length ≤ sizeLine) (hr : Room k callerA)
    (F : ∀ base : Heap, K.In base → base.Ns mainGlobals mg → (∀ p ∈ cs, LamX.TabB base mg p.1 p.2.1) → FnG P w K mg base CX0 k fa fd [x] (LSp K sp)) (hbind : ∀ (s : Shared) (u : Value), BindsTo s fd ⟨[u], []⟩ [(x, u)])
    (hsp : sp [.scr (ns.map D.int)] (gTab cs) (fun d _ => d = .bl true) X0) : codeAny (model P w) callerA (.call (.ref fa) ⟨[.ref a], []⟩) (Won s1) s1 := by
  have rv := vals_ints hi
  have hlen := hi.length
  have tab : ∀ b ∈ tabsOf cs, s1.heap.get? b = some (PySem.W.tabObj #[]) := fun b hb => by
    obtain ⟨p, hp, rfl⟩ := List.mem_map.mp hb
    exact hT p hp
  have tabK : ∀ b ∈ tabsOf cs, K.lookup b = none := fun b hb => by
    obtain ⟨p, hp, rfl⟩ := List.mem_map.mp hb
    exact nT p hp
  have aT : a ∉ tabsOf cs := fun z => by
    have := (tab a z).symm.trans ha
    cases this
  -- the heap: the tables, the script where it is not in K
  let F0 : Hp := fun b => if K.lookup a = none ∧ b = a then some (.frz { cls := .type "list", data := .seq vs.toArray } (.lst (ns.map V.int))) else none
  let H0 : Hp := fun b => if b ∈ tabsOf cs then some (.tbl #[]) else F0 b
  have FT : ∀ b ∈ tabsOf cs, F0 b = none := fun b hb => if_neg (fun z : K.lookup a = none ∧ b = a => aT (z.2 ▸ hb))
  have HT : ∀ b ∈ tabsOf cs, H0 b = some (.tbl #[]) := fun b hb => if_pos hb
  have HF : ∀ b, b ∉ tabsOf cs → H0 b = F0 b := fun b hb => if_neg hb
  have Fa : ∀ b u, F0 b = some u → K.lookup a = none ∧ b = a ∧ u = .frz { cls := .type "list", data := .seq vs.toArray } (.lst (ns.map V.int)) := fun b u e => by
    have e : (if K.lookup a = none ∧ b = a then some (HO.frz { cls := .type "list", data := .seq vs.toArray } (.lst (ns.map V.int))) else none) = some u := e
    split at e
    · rename_i h
      cases e
      exact ⟨h.1, h.2, rfl⟩
    · cases e
  have hok : HOk P w H0 s1.heap := fun b u e => by
    by_cases hb : b ∈ tabsOf cs
    · rw [HT b hb] at e
      cases e
      exact tab b hb
    · rw [HF b hb] at e
      obtain ⟨_, rfl, rfl⟩ := Fa b u e
      exact ⟨ha, by rw [List.length_map]; exact hl, vs, _, rv, ha⟩
  have sl : SqL K F0 a (ns.map V.int) := by
    cases e : K.lookup a with
    | none => exact .inl (.inr ⟨_, if_pos ⟨e, rfl⟩⟩)
    | some o =>
      have z := KX a o e
      rw [ha] at z
      cases z
      exact .inr ⟨_, vs.toArray, _, e, rfl, rfl, rfl, by rw [List.size_toArray, hlen]; exact hl, by simpa using rv⟩
  -- what is not tracked is in the base
  have plain : ∀ {b : Addr} {o : Obj}, s1.heap.get? b = some o → o ≠ PySem.W.tabObj #[] → (∀ vs n, o.data ≠ .seq vs n) → H0 b = none := fun {b o} e h1 h2 => by
    by_cases hb : b ∈ tabsOf cs
    · exact absurd (Option.some.inj (e.symm.trans (tab b hb))) h1
    · rw [HF b hb]
      cases q : F0 b with
      | none => rfl
      | some u =>
        obtain ⟨_, rfl, _⟩ := Fa b u q
        rw [ha] at e
        cases e
        exact absurd rfl (h2 _ _)
  have still : ∀ {b : Addr} {o : Obj} {es : Array DictEntry} {ep : Nat}, s1.heap.get? b = some o → o.data = .dict es ep → H0 b = none := fun {b o es ep} e d => plain e (fun z => by rw [z] at d; cases d) fun vs n z => by rw [d] at z; cases z
  have ns' : ∀ {b : Addr} {m : Str → Option Value}, s1.heap.Ns b m → (hidT s1.heap H0).Ns b m := fun {b m} ⟨o, es, ep, e, d, r⟩ => ⟨o, es, ep, hidT_get e (still e d), d, r⟩
  have kin : K.In (hidT s1.heap H0) := fun b o e => hidT_get (KX b o e) (by
    by_cases hb : b ∈ tabsOf cs
    · rw [tabK b hb] at e; cases e
    · rw [HF b hb]
      cases q : F0 b with
      | none => rfl
      | some u =>
        obtain ⟨z, rfl, _⟩ := Fa b u q
        rw [z] at e; cases e)
  obtain ⟨mc, l1, l2⟩ := hlim
  have M : Mod K mg (hidT s1.heap H0) := ⟨kin, ns' hns, ⟨mb, ns' hb, hbb⟩, ⟨mc, ns' l1, l2⟩⟩
  have E : Env0 P w K mg (hidT s1.heap H0) callerA [] s1 H0 := ⟨rfl, M, fun b o e => of_hidT e, Nat.le_of_eq (hidT_size _ _), trivial, fun b hb => (nomatch hb), hok, .of_eq hg⟩
  have TB : ∀ p ∈ cs, LamX.TabB (hidT s1.heap H0) mg p.1 p.2.1 := fun p hp => by
    have e := hT p hp
    obtain ⟨bm, ob, b1, b2, b3, b4, b5, b6⟩ := hbm
    obtain ⟨oG, esG, epG, eG, dG, _⟩ := hns
    refine ⟨?_, ⟨bm, ob, b1, b2, fun z => ?_, fun z => ?_, hidT_get b3 (plain b3 (fun z => by rw [z] at b6; cases b6) fun vs n z => by rw [b6] at z; cases z), b4, b5, b6⟩, fun z => ?_⟩
    · obtain ⟨o, us, fl, tf, flags, tg, inF, text, tt, e1, r1, r2, r3, r4⟩ := C p hp
      refine ⟨o, us, fl, tf, flags, tg, inF, text, tt, hidT_get e1 (plain e1 (fun z => ?_) fun vs n z => ?_), r1, r2, r3, r4⟩
      · rw [z] at r2
        cases r2
        simp at r3
      · rw [r2] at z; cases z
    · rw [z, eG] at b3; cases b3; rw [dG] at b6; cases b6
    · rw [z, e] at b3; cases b3; cases b6
    · rw [z, e] at eG; cases eG; cases dG
  have W0 : Wd K F0 (gTab cs) H0 := ⟨fun b u e => by rw [HF b (fun hb => by rw [FT b hb] at e; cases e)]; exact e, fun b o e => by
    obtain ⟨hb, q, rfl⟩ := gTab_some e
    exact ⟨FT b hb, #[], HT b hb, trivial, fun pos cv z => by simp [codeAmong] at z⟩⟩
  have hsp' : LSp K sp [.ref a] H0 (fun v _ => v = .bl true) fun _ _ _ => False := ⟨F0, gTab cs, [.scr (ns.map D.int)], fun d _ => d = .bl true, X0, .cons (.scr sl (Rps.ofInts ns)) .nil, W0, hsp, fun d v F' G' H' s w r q => by
    subst q
    cases r
    rfl, koe0⟩
  refine codeAny_mono ((F _ kin (ns' hns) TB).go callerA [] s1 H0 ⟨[.ref a], []⟩ [.ref a] [.ref a] _ _ hr rfl E (hbind s1 (.ref a)) (.cons rfl .nil) hsp') fun r s' h => ?_
  match r, h with
  | .error e, h => exact False.elim h
  | .ok .next, h => exact h.elim
  | .ok .brk, h => exact h.elim
  | .ok .cont, h => exact h.elim
  | .ok (.ret u), ⟨v, H', os, bare, un, hok', r', q⟩ =>
    have q' : v = .bl true := q
    subst q'
    have ru : u = Value.bool true := r'
    subst ru
    have key : ∀ b o, b ∉ tabsOf cs → s1.heap.get? b = some o → s'.heap.get? b = some o := fun b o nb e => by
      cases z : H0 b with
      | none => exact un.keep b o e z (fun z => (nomatch z)) (fun z => (nomatch z))
      | some u =>
        have z2 := z
        rw [HF b nb] at z2
        obtain ⟨_, rfl, rfl⟩ := Fa b u z2
        obtain ⟨e1, _⟩ := hok _ _ z
        obtain ⟨e2, _⟩ := hok' _ _ (un.frzs _ _ _ z)
        rw [e] at e1
        cases e1
        exact e2
    have grown : ∀ b ∈ tabsOf cs, ∃ more : Array Value, s'.heap.get? b = some (PySem.W.tabObj more) := fun b hb => by
      obtain ⟨more, z⟩ := un.tbls b #[] (HT b hb)
      exact ⟨_, hok' b _ z⟩
    refine ⟨rfl, ⟨fun b o e => ?_, fun b o e => ?_⟩, os, bare⟩
    · by_cases hb : b ∈ tabsOf cs
      · obtain ⟨more, hm⟩ := grown b hb
        have e' := (tab b hb).symm.trans e
        cases e'
        obtain ⟨p, hp, rfl⟩ := List.mem_map.mp hb
        exact .inr (.inl ⟨((C p hp).tab (hT p hp)).isCodeTable, rfl, #[], more, rfl, by rw [Array.empty_append]; exact hm⟩)
      · exact .inl (key b o hb e)
    · by_cases hb : b ∈ tabsOf cs
      · obtain ⟨more, hm⟩ := grown b hb
        exact ⟨_, hm⟩
      · exact ⟨o, key b o hb e⟩
end
/-- the goal that k_head leaves, where defs of the text make lambdas -/
theorem walk_t {l : PySem.W.OpenLaw} {k : Nat} {q : Program} {loose : List Str} {XP : (Str → Option Value) → Heap → Prop} {YP : World → Heap → Prop} {d : DefRec} {K : Params → PySem.W.Frag} {x : Str} {ts : List Addr}
    (hn : l.most = some 63) (hdf : d.params.defaults = []) (hr : Room k callerA) (hY : ∀ (w : World) (h : Heap), YP w h → (K w.params).In h) (hT : ∀ (w : World) (h : Heap), YP w h → ∀ P ∈ ts, h.get? P = some (PySem.W.tabObj #[]))
    (F : ∀ (w : World) (mg : Str → Option Value) (fa : Addr) (h : Heap), (K w.params).In h → h.Ns mainGlobals mg → mg d.name = some (.ref fa) →
      ∃ (fd : FuncData) (cs : List (Addr × Addr × Str)) (sp : DSp), (∀ (s : Shared) (u : Value), BindsTo s fd ⟨[u], []⟩ [(x, u)]) ∧ (∀ p ∈ cs, p.2.1 ∈ ts) ∧ (∀ p ∈ cs, (K w.params).lookup p.2.1 = none) ∧ (∀ p ∈ cs, PySem.W.codeHdIn (K w.params) p.1 p.2.1 = true) ∧
        (∀ (ns : List Int) (Q : DK), ns.length ≤ 63 → (∀ G', Q (.bl true) G') → sp [.scr (ns.map D.int)] (gTab cs) Q X0) ∧
        ∀ base : Heap, (K w.params).In base → base.Ns mainGlobals mg → (∀ p ∈ cs, LamX.TabB base mg p.1 p.2.1) → FnG l.prog w (K w.params) mg base CX0 k fa fd [x] (LSp (K w.params) sp)) :
    PySem.W.WalkO q loose XP YP l.row.toRowW d [] (fun f vs => PySem.call f vs) := by
  refine Att.attach_call hn hdf fun w s₀ s₁ mg mb fa o pm cd doc a vs ns G Y ho hd hcd hmg hobj hints hlen hg => ?_
  have KX := hY w _ Y
  obtain ⟨fd, cs, sp, hb, hts, hnT, hC, hsp, hF⟩ := F w mg fa _ KX G.T.g hmg
  exact law_tabs KX G.T.g G.T.b G.T.builtins G.T.nolimit hg G.T.bmain (fun p hp => hT w _ Y _ (hts p hp)) hnT (fun p hp => PySem.W.codeHd_of_K KX (hC p hp)) hobj hints (Nat.le_trans hlen (by decide)) hr hF hb (hsp ns _ hlen fun _ => rfl)
end DL

/-! x in a tuple or a list of things of any depth; steps of try. -/
namespace DL
open PySem PySem.Spec PyProof.Rows L2
/-- equal to one of them -/
def rInP (K : PySem.W.Frag) (neg : Bool) : R2 := fun x y H Q => ∃ d ds c, Dp K H x d ∧ (c = .list ds ∨ c = .tuple ds) ∧ Dp K H y c ∧ SeqAt.shaped d = true ∧ SeqAt.shaped (.list ds) = true ∧ Q (.bl (if neg then !(ds.any fun z => PyData.eqv z d) else ds.any fun z => PyData.eqv z d)) H
theorem op_inP {X : Cx} (neg : Bool) (hu : X.A.units + 65 < cLine) : OpR X (compareOp (if neg then .NotIn else .In)) (rInP X.K neg) := by
  intro pins s σ H x y v u Q I rx ry h
  obtain ⟨d, ds, c, hd, hc, he, sd, se, q⟩ := h
  obtain ⟨as, r1⟩ := Dp.reads I d x v hd rx
  obtain ⟨bs, r2⟩ := Dp.reads I c y u he ry
  cases neg with
  | false =>
    rcases hc with rfl | rfl
    · exact SeqAt.in_list_reads r2 r1 (SeqAt.canLay_of_shaped se) (SeqAt.canLay_of_shaped sd) (PyProof.Rows.room_in_shaped sd hu) ⟨.bl _, H, I, rfl, q⟩
    · exact SeqAt.in_tuple_reads r2 r1 (SeqAt.canLay_of_shaped se) (SeqAt.canLay_of_shaped sd) (PyProof.Rows.room_in_shaped sd hu) ⟨.bl _, H, I, rfl, q⟩
  | true =>
    rcases hc with rfl | rfl
    · exact SeqAt.notIn_list_reads r2 r1 (SeqAt.canLay_of_shaped se) (SeqAt.canLay_of_shaped sd) (PyProof.Rows.room_in_shaped sd hu) ⟨.bl _, H, I, rfl, q⟩
    · exact SeqAt.notIn_tuple_reads r2 r1 (SeqAt.canLay_of_shaped se) (SeqAt.canLay_of_shaped sd) (PyProof.Rows.room_in_shaped sd hu) ⟨.bl _, H, I, rfl, q⟩
theorem units65 {k : Nat} {A : Around} (r : Room k A) : A.units + 65 < cLine := by
  have := r.un
  omega
theorem op_inP0 {X : Cx} (hu : X.A.units + 65 < cLine) : OpR X (compareOp .In) (rInP X.K false) := op_inP false hu
theorem op_inP1 {X : Cx} (hu : X.A.units + 65 < cLine) : OpR X (compareOp .NotIn) (rInP X.K true) := op_inP true hu
/-- the items of data -/
def pyIts : PyData → Option (List PyData) | .list ds => some ds | .tuple ds => some ds | _ => none
def dInP (neg : Bool) : D2 := fun x y G Q => match pyOf x G, (pyOf y G).bind pyIts with
  | some d, some ds => SeqAt.shaped d = true ∧ SeqAt.shaped (.list ds) = true ∧ Q (.bl (if neg then !(ds.any fun z => PyData.eqv z d) else ds.any fun z => PyData.eqv z d)) G
  | _, _ => False
theorem od_inP {K : PySem.W.Frag} {F₀ : Hp} (neg : Bool) : OpD K F₀ (dInP neg) (rInP K neg) := by
  intro F G H x y v u Q' Q s w rx ry q k
  unfold dInP at q
  split at q
  · rename_i d ds h1 h2
    obtain ⟨c, h3, h4⟩ := Option.bind_eq_some_iff.mp h2
    have hc : c = .list ds ∨ c = .tuple ds := by
      cases c with
      | list es => cases h4; exact .inl rfl
      | tuple es => cases h4; exact .inr rfl
      | _ => cases h4
    exact ⟨d, ds, c, pyOf_dp w rx h1, hc, pyOf_dp w ry h3, q.1, q.2.1, k _ _ F G H (Same.refl F) w (.bl _) q.2.2⟩
  · exact q.elim
/-- the suite takes it -/
theorem dAs_at {i : Nat} {sub : Str → Option Bool} {su : Addr → Str → List (Str × D) → DS} {W : DW} {Z : DEnds} {n : Str} {fs : List (Str × D)} {δ : Sl} {G : Gp} (h : sub n = some true)
    (k : ∀ a, su a n fs { nx := fun δ' G' => Z.nx (δ'.set i none) G', rt := Z.rt, bk := fun δ' G' => Z.bk (δ'.set i none) G', ct := fun δ' G' => Z.ct (δ'.set i none) G' } (δ.set i (some (.ref a))) G) : dAs i sub su W Z n fs δ G := by
  unfold dAs
  rw [h]
  exact k
theorem suL_at {l : List (Str × (Addr → List (Str × D) → DS))} {f : Addr → List (Str × D) → DS} {a : Addr} {n : Str} {fs : List (Str × D)} {Z : DEnds} {δ : Sl} {G : Gp} (h : l.lookup n = some f) (k : f a fs Z δ G) : suL l a n fs Z δ G := by
  unfold suL
  rw [h]
  exact k
/-- a str that repr tells in no more than so many letters -/
theorem rs_str {x : Str} {W : Nat} (h : (PyData.showable (.str x) && decide ((PyData.shown (.str x)).length ≤ W)) = true) : Rs 0 W (.str x) := by
  rw [Bool.and_eq_true, decide_eq_true_iff] at h
  exact ⟨_, rfl, h.1, h.2, by unfold PyData.depth; exact Nat.le_refl _⟩
theorem rs_row : Rs 0 20 (.str "row") := rs_str (by decide +kernel)
section
variable {X : Cx} {F₀ : Hp} {k kk n j : Nat} {f : Addr} {fd : FuncData} {ps : List Str} {sp : Addr → DSp → DSp} {TH : Sl → DSp} {R : Hp → Addr → Prop} {W : WX} {W' : DW} {x : Str} {p pos : Pos} {e : Expr} {es : List Expr} {t : DA}
/-- the same, its arguments first -/
theorem de_callG2 (ha : PA X (e :: es) (La X.K F₀ t)) (FW : FnW X.prog X.w X.K X.mg X.base (L2.CX X.prog X.w) k f fd ps kk n sp) (hr : Room k X.A) (hmu : Mute X.A) (hg : Gl X x) (hm : X.mg x = some (.ref f)) (hk : PySem.W.keepIn X.K (.ref f) = true) (hb : Binds X.K fd ps []) (tk : Takes X W) (kw : KoW X.K F₀ W' W)
    (way : ∀ pins σ H s F G δ fw, Inv X pins σ H s → Same F₀ F → En X.K F δ σ → Wd X.K F G H → R F fw → WayOk X.prog X.w X.K X.mg X.base kk (frs X.stack) H s.heap F fw n (TH δ))
    (hdb : (x == ("__debug__" : Str)) = false) (he : starEach (e :: es) X.env = (false, eval e X.env) :: starEach es X.env) (hpl : (backTo pos (starEach es X.env)).any (·.1) = false) :
    PE X (.Call (.Name x p) (e :: es) [] pos) (Le X.K F₀ (dCallG j R sp TH W' t)) := de_callG FW hr hmu hg hm hk hb tk kw way ha hdb he hpl
end
/-- str of a whole number, told -/
def dStrT : List D → Gp → DK → Prop := fun xs G Q => match xs with
  | [.int i] => i.natAbs.log2 < 1920 ∧ Q (.str (toString i)) G
  | _ => False
theorem cd_strT {K : PySem.W.Frag} {F₀ : Hp} : CallD K F₀ dStrT (fun xs H Q => ∃ i, xs = [.int i] ∧ i.natAbs.log2 < 1920 ∧ Q (.str (toString i)) H) := by
  intro F G H xs vs Q' Q s w rx q k
  unfold dStrT at q
  split at q
  · obtain ⟨v, rfl, r⟩ := rps1 rx
    cases r
    exact ⟨_, rfl, q.1, k _ _ F G H (Same.refl F) w (.str _) q.2⟩
  · exact q.elim
theorem strOk_of (x : String) : PyData.strOk (Str.ofString x) = true := by
  rw [Str.ofString_eq_toList]
  unfold PyData.strOk
  rw [Array.all_eq_true']
  intro c hc
  rw [List.mem_toArray, List.mem_map] at hc
  obtain ⟨k, _, rfl⟩ := hc
  have := k.valid
  unfold UInt32.isValidChar Nat.isValidChar at this
  rw [decide_eq_true_iff]
  show k.val.toNat < _
  omega
/-- all that is said of an own error class with a field -/
def exI_by {P : Program} {K : PySem.W.Frag} {mg : Str → Option Value} {n fld : Str} {C fI : Addr} {pa qual : Str} {params : Arguments} {scope : Scope} {dV kV doc pm ct oc : Value} {an od : Option Addr} {osl : Array (Option Value)} {cda cc : Addr} {p0 p1 p2 p3 p4 p5 p6 p7 p8 p9 : Pos}
    {nm q : Str} {N : Addr} {bs bm : List Value} {sn : List Str} {sub : List Value} {ab : Bool} {col : Option Bool} {dd : Option Addr} {k0 k1 k2 k3 k5 : Option Value} {ccl : Value} {cdd : Option Addr} {vs : Array Value} {ccs : Array (Option Value)} {fl : Str} {tf : Tok} {cl : Value} {cld : Option Addr} {csl : Array (Option Value)} {ar : Arg} {pl : Addr → Sem Bool}
    (g : mg n = some (.ref C)) (ns : PySem.W.nsIn K mainGlobals n = some (some (.ref C)))
    (o1 : K.lookup C = some (PySem.excClassObj nm q C N bs bm true sn sub ab col dd k0 k1 k2 k3 k5 "ValueError.__new__")) (o2 : PySem.HandSPX.refsVE bm = true) (o3 : PySem.W.findIn K (.ref C) "__setattr__" = some (some (.builtin "object.__setattr__"))) (o4 : PySem.W.subIn K (.ref C) (.type "BaseException") = some true) (o5 : PySem.W.typeIn K (.ref C) = some (.type "type")) (o6 : PySem.W.keepIn K (.ref C) = true)
    (lk : K.lookup fI = some ⟨oc, od, .func (PySem.W.fnX "__init__" qual params (supBody pa fld p0 p1 p2 p3 p4 p5 p6 p7 p8 p9) scope [("__class__", cc)] dV kV doc pm an (.ref cda) ct), osl⟩)
    (code : PySem.W.codeIn K (.ref cda) qual = true)
    (file1 : K.lookup cda = some ⟨ccl, cdd, .fields vs, ccs⟩) (file2 : vs[2]? = some (.str fl tf)) (file3 : ((P.main.file : Str) == fl) = true)
    (cell : K.lookup cc = some ⟨cl, cld, .cell (some (.ref C)), csl⟩)
    (head1 : (params.posonlyargs ++ params.args).head? = some ar) (head2 : ar.arg = "self")
    (kind : scope.kind = .function)
    (co : scope.isCoroutine = false)
    (gen : scope.isGenerator = false)
    (nsup : scope.names.lookup ("super" : Str) = some .globalImplicit)
    (ncls : scope.names.lookup ("__class__" : Str) = some .free)
    (nself : scope.names.lookup ("self" : Str) = some .local)
    (npa : scope.names.lookup pa = some .local)
    (nocell : ∀ y ∈ scope.names, y.2 ≠ .cell)
    (nofree : ∀ y ∈ scope.names, y.2 = .free → y.1 = "__class__")
    (top : (P.main.scope.names.lookup ("super" : Str)).isSome = false)
    (hsup : PySem.W.nsIn K mainGlobals "super" = some none)
    (sup : PySem.W.ks_superIn K C C "__init__" = some (some (.builtin "ValueError.__init__")))
    (opq : PySem.W.nsIn K cStatics "thirdparty.any" = some none)
    (ve : PySem.W.subIn K (.ref C) (.type "ValueError") = some true)
    (own : PySem.W.findIn K (.ref C) fld = some none)
    (mro : PySem.W.mroIn K C (.ref C) = some true)
    (fi : PySem.W.findIn K (.ref C) "__init__" = some (some (.ref fI)))
    (ty : PySem.W.typeIn K (.ref fI) = some (.type "function"))
    (ev : ∀ L : Addr, eval (.Call (.Attribute (.Call (.Name "super" p0) [] [] p1) "__init__" p2) [.Name pa p3] [] p4) (callEnv (PySem.W.fnX "__init__" qual params (supBody pa fld p0 p1 p2 p3 p4 p5 p6 p7 p8 p9) scope [("__class__", cc)] dV kV doc pm an (.ref cda) ct) L fI) = (do
    let ov ← attributeBase (.Call (.Name "super" p0) [] [] p1) "__init__" (callEnv (PySem.W.fnX "__init__" qual params (supBody pa fld p0 p1 p2 p3 p4 p5 p6 p7 p8 p9) scope [("__class__", cc)] dV kV doc pm an (.ref cda) ct) L fI) (eval (.Call (.Name "super" p0) [] [] p1) (callEnv (PySem.W.fnX "__init__" qual params (supBody pa fld p0 p1 p2 p3 p4 p5 p6 p7 p8 p9) scope [("__class__", cc)] dV kV doc pm an (.ref cda) ct) L fI))
    standAt p2.atName
    let (f, first) ← holding [ov] (getMethod ov "__init__" (pl L))
    callWith p4 f first (backTo p4 (starEach [.Name pa p3] (callEnv (PySem.W.fnX "__init__" qual params (supBody pa fld p0 p1 p2 p3 p4 p5 p6 p7 p8 p9) scope [("__class__", cc)] dV kV doc pm an (.ref cda) ct) L fI))) []))
    (sw1 : ∀ L : Addr, swapsWith (.Call (.Attribute (.Call (.Name "super" p0) [] [] p1) "__init__" p2) [.Name pa p3] [] p4) none p5.line (callEnv (PySem.W.fnX "__init__" qual params (supBody pa fld p0 p1 p2 p3 p4 p5 p6 p7 p8 p9) scope [("__class__", cc)] dV kV doc pm an (.ref cda) ct) L fI) = pure false)
    (sw2 : ∀ L : Addr, swapsWith (.Name pa p8) (some (.Attribute (.Name "self" p6) fld p7)) p9.line (callEnv (PySem.W.fnX "__init__" qual params (supBody pa fld p0 p1 p2 p3 p4 p5 p6 p7 p8 p9) scope [("__class__", cc)] dV kV doc pm an (.ref cda) ct) L fI) = pure false)
    (pdb : (pa == ("__debug__" : Str)) = false)
    (pne : (pa == ("self" : Str)) = false)
    (bb : Binds K (PySem.W.fnX "__init__" qual params (supBody pa fld p0 p1 p2 p3 p4 p5 p6 p7 p8 p9) scope [("__class__", cc)] dV kV doc pm an (.ref cda) ct) ["self", pa] []) : ExI P K mg n fld C where
  g := g
  ns := ns
  ox := ⟨⟨_, _, _, _, _, _, _, _, _, _, _, _, _, _, _, o1, o2⟩, o3, o4, o5, o6⟩
  fI := fI
  pa := pa
  S := { qual := qual, params := params, scope := scope, dV := dV, kV := kV, doc := doc, pm := pm, ct := ct, oc := oc, an := an, od := od, osl := osl, cda := cda, cc := cc, p0 := p0, p1 := p1, p2 := p2, p3 := p3, p4 := p4, p5 := p5, p6 := p6, p7 := p7, p8 := p8, p9 := p9, lk := lk, code := code, file := ⟨_, _, _, _, _, _, file1, file2, file3⟩, cell := ⟨_, _, _, cell⟩, head := ⟨_, head1, head2⟩, kind := kind, co := co, gen := gen, nsup := nsup, ncls := ncls, nself := nself, npa := npa, nocell := nocell, nofree := nofree, top := top, hsup := hsup, sup := sup, opq := opq, ve := ve, own := own, mro := mro, fi := fi, ty := ty, pl := pl, ev := ev, sw1 := sw1, sw2 := sw2, pdb := pdb, pne := pne }
  b := bb
end DL

/-! dicts whose keys are whole numbers and texts: d[k], d[k] = v, k in d, {k: v, ..}; calls of one of several function values. -/
namespace DL
open PySem PySem.Spec PyProof.Rows L2
/-- a key -/
def keyD : D → Option Key | .int i => some (.inl i) | .str x => some (.inr x) | _ => none
def valD (kvs : List (Key × D)) (k : Key) : Option D := (kvs.find? fun kv => decide (kv.1 = k)).map (·.2)
def putD2 (kvs : List (Key × D)) (k : Key) (v : D) : List (Key × D) := if (kvs.any fun kv => decide (kv.1 = k)) = true then kvs.map (fun kv => if kv.1 = k then (kv.1, v) else kv) else kvs ++ [(k, v)]
def dctOf : D → Gp → Option (List (Key × D))
  | .dct kvs, _ => some kvs
  | .ref a, G => match G a with | some (.dct kvs) => some kvs | _ => none
  | _, _ => none
section
variable {K : PySem.W.Frag} {F F₀ H : Hp} {G : Gp}
theorem keyD_ok {y : D} {v : V} {k : Key} (h : keyD y = some k) (r : Rp K F y v) : v = kV k := by
  unfold keyD at h
  split at h
  · cases h; cases r; rfl
  · cases h; cases r; rfl
  · cases h
theorem Rpk.val {k : Key} : ∀ {ds : List (Key × D)} {vs : List (Key × V)} {d : D}, Rpk K F ds vs → valD ds k = some d → ∃ v, valV vs k = some v ∧ Rp K F d v
  | [], _, _, _, h => by cases h
  | (j, e) :: ds, _, d, r, h => by
    cases r with
    | cons a b =>
      by_cases hj : j = k
      · have h : valD ((j, e) :: ds) k = some d := h
        unfold valD at h
        rw [List.find?_cons, decide_eq_true hj] at h
        cases h
        exact ⟨_, valV_pos hj, a⟩
      · have h : valD ((j, e) :: ds) k = some d := h
        unfold valD at h
        rw [List.find?_cons, decide_eq_false hj] at h
        obtain ⟨v, e2, r2⟩ := Rpk.val b h
        exact ⟨v, (valV_neg hj).trans e2, r2⟩
theorem Rpk.keys : ∀ {ds : List (Key × D)} {vs : List (Key × V)} (k : Key), Rpk K F ds vs → (vs.any fun kv => decide (kv.1 = k)) = (ds.any fun kv => decide (kv.1 = k))
  | [], _, _, r => by cases r; rfl
  | (j, e) :: ds, _, k, r => by
    cases r with
    | cons a b => rw [List.any_cons, List.any_cons, Rpk.keys k b]
theorem Rpk.len : ∀ {ds : List (Key × D)} {vs : List (Key × V)}, Rpk K F ds vs → vs.length = ds.length
  | [], _, r => by cases r; rfl
  | (j, e) :: ds, _, r => by
    cases r with
    | cons a b => rw [List.length_cons, List.length_cons, Rpk.len b]
theorem Rpk.snoc {k : Key} {d : D} {v : V} (hv : Rp K F d v) : ∀ {ds : List (Key × D)} {vs : List (Key × V)}, Rpk K F ds vs → Rpk K F (ds ++ [(k, d)]) (vs ++ [(k, v)])
  | [], _, r => by cases r; exact .cons hv .nil
  | (j, e) :: ds, _, r => by
    cases r with
    | cons a b => exact .cons a (Rpk.snoc hv b)
theorem Rpk.sub {k : Key} {d : D} {v : V} (hv : Rp K F d v) : ∀ {ds : List (Key × D)} {vs : List (Key × V)}, Rpk K F ds vs → Rpk K F (ds.map fun kv => if kv.1 = k then (kv.1, d) else kv) (vs.map fun kv => if kv.1 = k then (kv.1, v) else kv)
  | [], _, r => by cases r; exact .nil
  | (j, e) :: ds, _, r => by
    cases r with
    | cons a b =>
      rw [List.map_cons, List.map_cons]
      by_cases hj : j = k
      · rw [if_pos hj, if_pos hj]
        exact .cons hv (Rpk.sub hv b)
      · rw [if_neg hj, if_neg hj]
        exact .cons a (Rpk.sub hv b)
theorem Rpk.put {k : Key} {d : D} {v : V} {ds : List (Key × D)} {vs : List (Key × V)} (r : Rpk K F ds vs) (hv : Rp K F d v) : Rpk K F (putD2 ds k d) (putK vs k v) := by
  unfold putD2 putK
  rw [r.keys k]
  split
  · exact r.sub hv
  · exact r.snoc hv
theorem dctOf_ok {x : D} {v : V} {kvs : List (Key × D)} (w : Wd K F G H) (r : Rp K F x v) (h : dctOf x G = some kvs) : ∃ a vs, v = .ref a ∧ H a = some (.dK vs) ∧ Rpk K F kvs vs := by
  unfold dctOf at h
  split at h
  · cases h
    cases r with
    | dct h1 h2 => exact ⟨_, _, rfl, w.fz _ _ h1, h2⟩
  · rename_i a
    split at h
    · rename_i ks e
      cases h
      cases r
      obtain ⟨_, vs, h1, h2⟩ := w.mu _ _ e
      exact ⟨a, vs, rfl, h1, h2⟩
    · cases h
  · cases h
end
theorem units1 {k : Nat} {A : Around} (r : Room k A) : A.units + 1 < cLine := by
  have := r.un
  omega
def dDGet (td ti : DE) : DE := fun δ G Q => td δ G fun x G1 => ti δ G1 fun y G2 => match dctOf x G2, keyD y with
  | some kvs, some k => match valD kvs k with
    | some d => Q d G2
    | none => False
  | _, _ => False
def dDPut (tv td ti : DE) : DS := fun D δ G => tv δ G fun v G1 => td δ G1 fun x G2 => ti δ G2 fun y G3 => match x, keyD y with
  | .ref a, some k => match G3 a with
    | some (.dct kvs) => kvs.length < sizeLine ∧ D.nx δ (gu G3 a (.dct (putD2 kvs k v)))
    | _ => False
  | _, _ => False
section
variable {X : Cx} {F₀ : Hp} {o i value : Expr} {pos pos' : Pos} {td ti tv : DE}
theorem de_dget (hu : X.A.units + 1 < cLine) (ho : PE X o (Le X.K F₀ td)) (hi : PE X i (Le X.K F₀ ti)) (hs : NoSl i) : PE X (.Subscript o i pos) (Le X.K F₀ (dDGet td ti)) :=
  pe_imp (pe_dget hu ho hi hs) fun σ H Q ⟨δ, F, G, Q', s, en, w, q, k⟩ => by
    refine ⟨δ, F, G, _, s, en, w, q, fun x v F1 G1 H1 s1 w1 r1 q1 => ?_⟩
    refine ⟨δ, F1, G1, _, s.trans s1, en.mono s1, w1, q1, fun y u F2 G2 H2 s2 w2 r2 q2 => ?_⟩
    split at q2
    · rename_i kvs k' h1 h2
      split at q2
      · rename_i d h3
        obtain ⟨a, vs, rfl, hH, rk⟩ := dctOf_ok w2 (r1.mono s2) h1
        obtain ⟨v', e', rv⟩ := rk.val h3
        have ey := keyD_ok h2 r2
        refine ⟨a, v', rfl, ?_, k _ _ F2 G2 H2 (s1.trans s2) w2 rv q2⟩
        rw [ey, ← e']
        exact DGet.k hH
      · exact q2.elim
    · exact q2.elim
theorem ds_dput (hu : X.A.units + 1 < cLine) (hv : PE X value (Le X.K F₀ tv)) (ho : PE X o (Le X.K F₀ td)) (hi : PE X i (Le X.K F₀ ti)) (hs : swapsWith value (some (.Subscript o i pos')) pos.line X.env = pure false := by rfl) :
    PS X (.Assign [.Subscript o i pos'] value pos) (Ls X.K F₀ (dDPut tv td ti)) :=
  ps_imp (ps_dput hu ho hi hv hs) fun D σ H ⟨δ, F, G, D', s, en, w, q, k⟩ => by
    refine ⟨δ, F, G, _, s, en, w, q, fun v v1 F1 G1 H1 s1 w1 r1 q1 => ?_⟩
    refine ⟨δ, F1, G1, _, s.trans s1, en.mono s1, w1, q1, fun x u F2 G2 H2 s2 w2 r2 q2 => ?_⟩
    refine ⟨δ, F2, G2, _, (s.trans s1).trans s2, (en.mono s1).mono s2, w2, q2, fun y u3 F3 G3 H3 s3 w3 r3 q3 => ?_⟩
    split at q3
    · rename_i a k' h2
      split at q3
      · rename_i kvs e
        obtain ⟨hl, q3⟩ := q3
        cases r2
        obtain ⟨fa, vs, hH, rk⟩ := w3.mu _ _ e
        have ey := keyD_ok h2 r3
        have rv := r1.mono (s2.trans s3)
        refine ⟨a, _, rfl, ?_, k.nx _ _ F3 _ _ ((s1.trans s2).trans s3) (((en.mono s1).mono s2).mono s3) (w3.put (g := .dct (putD2 kvs k' v)) fa ⟨_, upd_same, rk.put rv⟩) q3⟩
        rw [ey]
        exact DPut.k hH (by rw [rk.len]; exact hl)
      · exact q3.elim
    · exact q3.elim
end
/-! ### a call with one of several function values -/
def dCallH (j : Nat) (RT : List ((Hp → Addr → Prop) × (Sl → DSp))) (sp : Addr → DSp → DSp) (W' : DW) (t : DA) : DE := fun δ G Q => t δ G fun ds G1 => ∃ p ∈ RT, ds[j]? = some (.ho p.1) ∧ ∀ fw, sp fw (p.2 δ) (ds.set j (.ref fw)) G1 Q fun n fs G2 => W' n fs δ G2
section
variable {X : Cx} {F₀ : Hp} {k kk n j : Nat} {f : Addr} {fd : FuncData} {ps : List Str} {sp : Addr → DSp → DSp} {RT : List ((Hp → Addr → Prop) × (Sl → DSp))} {W : WX} {W' : DW} {x : Str} {p pos : Pos} {e : Expr} {es : List Expr} {t : DA}
theorem de_callH (ha : PA X (e :: es) (La X.K F₀ t)) (FW : FnW X.prog X.w X.K X.mg X.base (L2.CX X.prog X.w) k f fd ps kk n sp) (hr : Room k X.A) (hmu : Mute X.A) (hg : Gl X x) (hm : X.mg x = some (.ref f)) (hk : PySem.W.keepIn X.K (.ref f) = true) (hb : Binds X.K fd ps []) (tk : Takes X W) (kw : KoW X.K F₀ W' W)
    (way : ∀ r ∈ RT, ∀ pins σ H s F G δ fw, Inv X pins σ H s → Same F₀ F → En X.K F δ σ → Wd X.K F G H → r.1 F fw → WayOk X.prog X.w X.K X.mg X.base kk (frs X.stack) H s.heap F fw n (r.2 δ))
    (hdb : (x == ("__debug__" : Str)) = false) (he : starEach (e :: es) X.env = (false, eval e X.env) :: starEach es X.env) (hpl : (backTo pos (starEach es X.env)).any (·.1) = false) :
    PE X (.Call (.Name x p) (e :: es) [] pos) (Le X.K F₀ (dCallH j RT sp W' t)) := by
  refine ⟨fun pins s σ H Q I ⟨δ, F1, G, Q', s0, en, w, q, k⟩ => wpAny_Call_Name_kw (ld_glob I hg hm (PySem.W.callWith_K (h₀ := X.base) I.ok.mod.kin hk (thn (ha.run pos pins s σ H (fun vs H1 => ∃ F2 G2 ds, Same F1 F2 ∧ Wd X.K F2 G2 H1 ∧ Rps X.K F2 ds vs ∧ ∃ r ∈ RT, ds[j]? = some (.ho r.1) ∧ ∀ fw, sp fw (r.2 δ) (ds.set j (.ref fw)) G2 Q' fun n fs G2 => W' n fs δ G2) I
    ⟨δ, F1, G, _, s0, en, w, q, fun ds vs F2 G2 H2 s2 w2 r2 q2 => ⟨F2, G2, ds, s2, w2, r2, q2⟩⟩) fun us s1 ⟨vs, H1, I1, r, F2, G2, ds, s2, w2, r2, rt, hrt, hj, q2⟩ => ⟨I1.kIn, ?_⟩) he hpl) hdb)⟩
  obtain ⟨fw, hR, r3⟩ := r2.setR hj
  have hl : (us ++ []).length = ps.length := by
    have := FW.arity _ _ _ _ _ _ (q2 fw)
    rw [List.append_nil, ← r.length, ← r3.length, this]
  have b := hb s1 us I1.kIn hl
  rw [List.append_nil] at b
  exact wp_call (FW.go X.A X.stack s1 H1 ⟨us, []⟩ us vs Q (WE W σ) fw (rt.2 δ) F2 G2 _ Q' _ hr hmu I1.env0 b r w2 r3 (q2 fw) (k.mono s2) (kw.at (s0.trans s2) (en.mono s2)) (way rt hrt pins σ H1 s1 F2 G2 δ fw I1 (s0.trans s2) (en.mono s2) w2 hR)) fun r s' hq => after_callS (passAt tk σ) I1 hq
end
end DL

/-! {k: v, ..}. -/
namespace DL
open PySem PySem.Spec PyProof.Rows L2
def dPairs : List (DE × DE) → Sl → Gp → (List (D × D) → Gp → Prop) → Prop
  | [], _, G, Q => Q [] G
  | (tk, tv) :: r, δ, G, Q => tk δ G fun x G1 => tv δ G1 fun y G2 => dPairs r δ G2 fun ps G3 => Q ((x, y) :: ps) G3
def keysD : List (D × D) → Option (List (Key × D))
  | [] => some []
  | (x, y) :: r => match keyD x, keysD r with | some k, some l => some ((k, y) :: l) | _, _ => none
def mergeD (kvs more : List (Key × D)) : List (Key × D) := more.foldl (fun acc kv => putD2 acc kv.1 kv.2) kvs
abbrev Rpp (K : PySem.W.Frag) (F : Hp) : List (D × D) → List (V × V) → Prop := Paired fun p q => Rp K F p.1 q.1 ∧ Rp K F p.2 q.2
section
variable {K : PySem.W.Frag} {F F₀ : Hp}
theorem keysD_ok : ∀ {ps : List (D × D)} {vs : List (V × V)} {l : List (Key × D)}, Rpp K F ps vs → keysD ps = some l → ∃ kvs : List (Key × V), vs = kvs.map (fun kv => (kV kv.1, kv.2)) ∧ Rpk K F l kvs
  | [], _, l, r, h => by
    cases r
    cases h
    exact ⟨[], rfl, .nil⟩
  | (x, y) :: ps, _, l, r, h => by
    cases r with
    | cons a b =>
      unfold keysD at h
      split at h
      · rename_i k l' h1 h2
        cases h
        obtain ⟨kvs, rfl, rk⟩ := keysD_ok b h2
        obtain ⟨a1, a2⟩ := a
        refine ⟨(k, _) :: kvs, ?_, .cons a2 rk⟩
        rw [List.map_cons]
        congr 1
        exact Prod.ext (keyD_ok h1 a1) rfl
      · cases h
theorem Rpk.merge : ∀ {more : List (Key × D)} {rs : List (Key × V)} {kvs : List (Key × D)} {vs : List (Key × V)}, Rpk K F more rs → Rpk K F kvs vs → Rpk K F (mergeD kvs more) (mergeK vs rs)
  | [], _, _, _, r, q => by cases r; exact q
  | (k, d) :: more, _, kvs, vs, r, q => by
    cases r with
    | cons a b =>
      show Rpk K F (mergeD (putD2 kvs k d) more) (mergeK (putK vs k _) _)
      exact Rpk.merge b (q.put a)
theorem pairs_le : ∀ (trs : List (DE × DE)) (σ : L2.St) (H : Hp) (Q : List (V × V) → Hp → Prop) (δ : Sl) (F : Hp) (G : Gp) (Q' : List (D × D) → Gp → Prop), Same F₀ F → En K F δ σ → Wd K F G H → dPairs trs δ G Q' →
    (∀ ps vs F1 G1 H1, Same F F1 → Wd K F1 G1 H1 → Rpp K F1 ps vs → Q' ps G1 → Q vs H1) → tPairs (trs.map fun p => (Le K F₀ p.1, Le K F₀ p.2)) σ H Q
  | [], σ, H, Q, δ, F, G, Q', s0, en, w, q, k => k [] [] F G H (Same.refl F) w .nil q
  | (tk, tv) :: r, σ, H, Q, δ, F, G, Q', s0, en, w, q, k => by
    refine ⟨δ, F, G, _, s0, en, w, q, fun x v F1 G1 H1 s1 w1 r1 q1 => ?_⟩
    refine ⟨δ, F1, G1, _, s0.trans s1, en.mono s1, w1, q1, fun y u F2 G2 H2 s2 w2 r2 q2 => ?_⟩
    refine pairs_le r σ H2 _ δ F2 G2 _ ((s0.trans s1).trans s2) ((en.mono s1).mono s2) w2 q2 fun ps vs F3 G3 H3 s3 w3 r3 q3 => ?_
    exact k _ _ F3 G3 H3 ((s1.trans s2).trans s3) w3 (.cons ⟨r1.mono (s2.trans s3), r2.mono s3⟩ r3) q3
end
def dDisp (trs : List (DE × DE)) : DE := fun δ G Q => ∀ p, G p = none → dPairs trs δ (gu G p (.dct [])) fun ps G2 => G2 p = some (.dct []) ∧ ∃ kvs, keysD ps = some kvs ∧ kvs.length ≤ 15 ∧ Q (.ref p) (gu G2 p (.dct (mergeD [] kvs)))
section
variable {X : Cx} {F₀ : Hp} {pos : Pos}
theorem de_disp {keys : List (Option Expr)} {values : List Expr} {trs : List (DE × DE)} (h : PPs X pos keys values (trs.map fun p => (Le X.K F₀ p.1, Le X.K F₀ p.2))) (hall : keys.all (·.isSome) = true := by rfl) (hl : keys.length = values.length := by rfl) (h0 : keys ≠ [] := by intro z; cases z)
    (h15 : keys.length ≤ 15 := by decide) : PE X (.Dict keys values pos) (Le X.K F₀ (dDisp trs)) :=
  pe_imp (pe_disp h hall hl h0 h15) fun σ H Q ⟨δ, F, G, Q', s, en, w, q, k⟩ p hp => by
    have hf := w.ffree hp
    refine pairs_le trs σ _ _ δ F _ _ s en (w.put (g := .dct []) hf ⟨[], upd_same, .nil⟩) (q p (w.gfree hp)) fun ps vs F1 G1 H1 s1 w1 r1 q1 => ?_
    obtain ⟨hG, kvs, hk, hl, q1⟩ := q1
    obtain ⟨fp, vs0, hH, r0⟩ := w1.mu _ _ hG
    cases r0
    obtain ⟨ks, rfl, rk⟩ := keysD_ok r1 hk
    refine ⟨hH, ks, rfl, by rw [rk.len]; exact hl, ?_⟩
    exact k _ _ F1 _ _ s1 (w1.put (g := .dct (mergeD [] kvs)) fp ⟨_, upd_same, rk.merge .nil⟩) (.ref p) q1
theorem dps_nil : PPs X pos [] [] (([] : List (DE × DE)).map fun p => (Le X.K F₀ p.1, Le X.K F₀ p.2)) := pps_nil
theorem dps_cons {k v : Expr} {ks : List (Option Expr)} {vs : List Expr} {tk tv : DE} {trs : List (DE × DE)} (hk : PE X k (Le X.K F₀ tk)) (hv : PE X v (Le X.K F₀ tv)) (hr : PPs X pos ks vs (trs.map fun p => (Le X.K F₀ p.1, Le X.K F₀ p.2))) :
    PPs X pos (some k :: ks) (v :: vs) (((tk, tv) :: trs).map fun p => (Le X.K F₀ p.1, Le X.K F₀ p.2)) := pps_cons hk hv hr
end
end DL

/-! try / except X: without a name. -/
namespace DL
open PySem PySem.Spec PyProof.Rows L2
/-- the wish of an error that the clause without a name catches (sub: true), or lets go -/
def dOn (sub : Str → Option Bool) (su : DS) (Wout' : DW) (D : DEnds) : DW := fun n fs δ G => match sub n with
  | some true => su D δ G
  | some false => Wout' n fs δ G
  | none => False
def dTryOn (sub : Str → Option Bool) (tb : DW → DS) (su : DS) (Wout' : DW) : DS := fun D δ G => tb (dOn sub su Wout' D) D δ G
theorem dOn_in {sub : Str → Option Bool} {su : DS} {Wout' : DW} {E : DEnds} {n : Str} {fs : List (Str × D)} {δ : Sl} {G : Gp} (h : sub n = some true) (q : su E δ G) : dOn sub su Wout' E n fs δ G := by
  unfold dOn
  rw [h]
  exact q
theorem dOn_out {sub : Str → Option Bool} {su : DS} {Wout' : DW} {E : DEnds} {n : Str} {fs : List (Str × D)} {δ : Sl} {G : Gp} (h : sub n = some false) (q : Wout' n fs δ G) : dOn sub su Wout' E n fs δ G := by
  unfold dOn
  rw [h]
  exact q
section
variable {X : Cx} {F₀ : Hp} {x : Str} {c : Value} {body suite : List Stmt} {b₀ : Stmt} {np pos pos' : Pos} {tb : DW → DS} {su : DS} {sub : Str → Option Bool} {Wout : WX} {Wout' : DW}
theorem ds_try_on (hs : X.stack = X.env :: X.outer) (hf : X.env.frame = some X.env.locals) (hc : Names X x c) (tk : Takes X Wout) (kw : KoW X.K F₀ Wout' Wout)
    (hsub : ∀ m b C, sub m = some b → PySem.W.nsIn X.K mainGlobals m = some (some (.ref C)) → PySem.W.exmOne X.K (.ref C) c = some b)
    (hb : ∀ (W : WX) (W' : DW) (F1 : Hp) (pn : List (Addr × Obj)) (xe : Value → Shared → Prop), Takes (X.tr pn xe) W → PassesOwn (model X.prog X.w) X.A X.env xe → KoW X.K F1 W' W → Same F₀ F1 → PSs (X.tr pn xe) body (Ls X.K F1 (tb W')))
    (hsu : ∀ (a : Addr) (oe : Obj) (F1 : Hp) (pn : List (Addr × Obj)), Same F₀ F1 → PSs (X.suite a ((a, oe) :: pn)) (b₀ :: suite) (Ls X.K F1 su)) (hz : sub ZD = none := by rfl) :
    PS X (.Try body [.ExceptHandler (some (.Name x np)) none (b₀ :: suite) pos'] [] [] pos) (Ls X.K F₀ (dTryOn sub tb su Wout')) := by
  refine ps_imp (L2.ps_try_only (tb := fun W D σ H => ∃ W' F1, KoW X.K F1 W' W ∧ Same F₀ F1 ∧ Ls X.K F1 (tb W') D σ H)
    (ts := fun a cls d D σ H => ∃ F1, Same F₀ F1 ∧ Ls X.K F1 su D σ H)
    hs hf hc tk (fun W pn xe t po => ⟨fun pins s σ H D I ⟨W', F1, k, sF, l⟩ => (hb W W' F1 pn xe t po k sF).run pins s σ H D I l⟩)
    (fun a oe cls d pn hz hv => ⟨fun pins s σ H D I ⟨F1, sF, l⟩ => (hsu a oe F1 pn sF).run pins s σ H D I l⟩)) fun D σ H ⟨δ, F, G, D', s, en, w, q, k⟩ => ?_
  refine ⟨dOn sub su Wout' D', F, ⟨fun m C fs d δ1 σ1 F1 G1 H1 hC s1 en1 w1 er q1 hne => ?_, fun d δ1 σ1 F1 G1 H1 s1 en1 w1 q1 => by unfold dOn at q1; rw [hz] at q1; exact q1.elim⟩, s, δ, F, G, D', Same.refl F, en, w, q, k⟩
  unfold dOn at q1
  split at q1
  · rename_i hm
    exact ⟨true, hsub m true C hm hC, fun _ a _ => ⟨F1, s.trans s1, δ1, F1, G1, D', Same.refl F1, en1, w1, q1, k.mono s1⟩, (fun z => nomatch z)⟩
  · rename_i hm
    exact ⟨false, hsub m false C hm hC, (fun z => nomatch z), fun _ => kw.1 m C fs d δ1 σ1 F1 G1 H1 hC (s.trans s1) en1 w1 er q1 hne⟩
  · exact q1.elim
end
end DL

/-! dicts whose keys are tuples (of whole numbers, of such tuples): {}, d[k], d[k] = v, k in d, d.get(k, x), d.setdefault(k, x), len(d). -/
namespace DL
open PySem PySem.Spec PyProof.Rows L2
/-! ### keys -/
mutual
/-- the key that a tree is -/
def keyN : D → Option NestedKey
  | .int i => some (.num i)
  | .non => some .none
  | .tup ds => (keysN ds).map .tup
  | _ => none
def keysN : List D → Option (List NestedKey)
  | [] => some []
  | d :: ds => match keyN d, keysN ds with | some k, some ks => some (k :: ks) | _, _ => none
end
mutual
theorem keyN_eq : ∀ (d : D) (k : NestedKey), keyN d = some k → nkD k = d
  | .int _, _, h => by cases (show some _ = some _ from h); rfl
  | .non, _, h => by cases (show some _ = some _ from h); rfl
  | .tup ds, k, h => by
    simp only [keyN, Option.map_eq_some_iff] at h
    obtain ⟨ks, h1, rfl⟩ := h
    show D.tup (nkDs ks) = _
    rw [keysN_eq ds ks h1]
  | .bl _, _, h => by simp [keyN] at h
  | .str _, _, h => by simp [keyN] at h
  | .ty _, _, h => by simp [keyN] at h
  | .lst _, _, h => by simp [keyN] at h
  | .scr _, _, h => by simp [keyN] at h
  | .dct _, _, h => by simp [keyN] at h
  | .obj _ _, _, h => by simp [keyN] at h
  | .ref _, _, h => by simp [keyN] at h
  | .fn _, _, h => by simp [keyN] at h
  | .ho _, _, h => by simp [keyN] at h
theorem keysN_eq : ∀ (ds : List D) (ks : List NestedKey), keysN ds = some ks → nkDs ks = ds
  | [], _, h => by cases (show some _ = some _ from h); rfl
  | d :: ds, ks, h => by
    simp only [keysN] at h
    split at h
    · rename_i k ks' h1 h2
      cases h
      show nkD k :: nkDs ks' = _
      rw [keyN_eq d k h1, keysN_eq ds ks' h2]
    · cases h
end
mutual
theorem keyN_of : ∀ k : NestedKey, pureK k = true → keyN (nkD k) = some k
  | .none, _ => rfl
  | .num _, _ => rfl
  | .text _, h => by cases h
  | .tup ks, h => by
    show (keysN (nkDs ks)).map NestedKey.tup = _
    rw [keysN_of ks h]
    rfl
theorem keysN_of : ∀ ks : List NestedKey, pureKs ks = true → keysN (nkDs ks) = some ks
  | [], _ => rfl
  | k :: ks, h => by
    unfold pureKs at h
    rw [Bool.and_eq_true] at h
    show (match keyN (nkD k), keysN (nkDs ks) with | some k, some ks => some (k :: ks) | _, _ => none) = _
    rw [keyN_of k h.1, keysN_of ks h.2]
end
mutual
theorem hash_pure (w w' : World) : ∀ k : NestedKey, pureK k = true → k.hash w = k.hash w'
  | .none, _ => rfl
  | .num _, _ => rfl
  | .text _, h => by cases h
  | .tup ks, h => by
    show reduceHash (Builtin.Tuple.tupleHashOf (NestedKey.hashes w ks)) = reduceHash (Builtin.Tuple.tupleHashOf (NestedKey.hashes w' ks))
    rw [hashes_pure w w' ks h]
theorem hashes_pure (w w' : World) : ∀ ks : List NestedKey, pureKs ks = true → NestedKey.hashes w ks = NestedKey.hashes w' ks
  | [], _ => rfl
  | k :: ks, h => by
    unfold pureKs at h
    rw [Bool.and_eq_true] at h
    show NestedKey.hash w k :: NestedKey.hashes w ks = NestedKey.hash w' k :: NestedKey.hashes w' ks
    rw [hash_pure w w' k h.1, hashes_pure w w' ks h.2]
end
theorem keyOk_iff {k : NestedKey} : keyOk k = true ↔ tupK k = true ∧ pureK k = true ∧ k.depth ≤ 8 := by
  unfold keyOk
  rw [Bool.and_eq_true, Bool.and_eq_true, decide_eq_true_iff, and_assoc]
/-! ### what stands for a key -/
def valN {β : Type} (kvs : List (NestedKey × β)) (k : NestedKey) : Option β := (kvs.find? fun p => decide (p.1 = k)).map (·.2)
def putN {β : Type} (kvs : List (NestedKey × β)) (k : NestedKey) (v : β) : List (NestedKey × β) := if (valN kvs k).isSome = true then kvs.map (fun p => if p.1 = k then (p.1, v) else p) else kvs ++ [(k, v)]
theorem valN_cons {β : Type} {p : NestedKey × β} {kvs : List (NestedKey × β)} {k : NestedKey} : valN (p :: kvs) k = if p.1 = k then some p.2 else valN kvs k := by
  unfold valN
  rw [List.find?_cons]
  by_cases h : p.1 = k <;> simp [h]
section
variable {K : PySem.W.Frag} {F : Hp}
abbrev RelN (K : PySem.W.Frag) (F : Hp) : NestedKey × D → NestedKey × Addr × Value → Prop := fun p q => p.1 = q.1 ∧ Rp K F (nkD p.1) (.ref q.2.1) ∧ ∃ v, RelV v q.2.2 ∧ Rp K F p.2 v
theorem atKey_cons {q : NestedKey × Addr × Value} {xs : List (NestedKey × Addr × Value)} {k : NestedKey} : atKey (q :: xs) k = if q.1 = k then some q.2 else atKey xs k := by
  unfold atKey
  rw [List.find?_cons]
  by_cases h : q.1 = k <;> simp [h]
theorem relN_val {k : NestedKey} : ∀ {kvs : List (NestedKey × D)} {xs : List (NestedKey × Addr × Value)}, Paired (RelN K F) kvs xs → (valN kvs k = none ∧ atKey xs k = none) ∨ ∃ d b r v, valN kvs k = some d ∧ atKey xs k = some (b, r) ∧ RelV v r ∧ Rp K F d v
  | _, _, .nil => .inl ⟨rfl, rfl⟩
  | _, _, .cons (a := p) (b := q) h t => by
    rw [valN_cons, atKey_cons]
    obtain ⟨e, _, v, r1, r2⟩ := h
    by_cases hk : p.1 = k
    · rw [if_pos hk, if_pos (e ▸ hk)]
      exact .inr ⟨_, q.2.1, q.2.2, v, rfl, rfl, r1, r2⟩
    · rw [if_neg hk, if_neg (e ▸ hk)]
      exact relN_val t
theorem relN_put {k : NestedKey} {d : D} {b : Addr} {r : Value} {v : V} (hk : Rp K F (nkD k) (.ref b)) (rv : RelV v r) (rd : Rp K F d v) {kvs : List (NestedKey × D)} {xs : List (NestedKey × Addr × Value)} (h : Paired (RelN K F) kvs xs) : Paired (RelN K F) (putN kvs k d) (storedH xs k b r) := by
  have e : (valN kvs k).isSome = (atKey xs k).isSome := by
    rcases relN_val (k := k) h with ⟨e1, e2⟩ | ⟨_, _, _, _, e1, e2, _⟩ <;> rw [e1, e2] <;> rfl
  unfold putN storedH
  rw [e]
  split
  · clear e
    rename_i z
    clear z
    induction h with
    | nil => exact .nil
    | cons h t ih =>
      rw [List.map_cons, List.map_cons]
      refine .cons ?_ ih
      obtain ⟨e, h1, h2⟩ := h
      rename_i p q l1 l2
      unfold putAt
      by_cases z : p.1 = k
      · rw [if_pos z, if_pos (e ▸ z)]
        exact ⟨e, h1, v, rv, rd⟩
      · rw [if_neg z, if_neg (e ▸ z)]
        exact ⟨e, h1, h2⟩
  · clear e
    rename_i z
    clear z
    induction h with
    | nil => exact .cons ⟨rfl, hk, v, rv, rd⟩ .nil
    | cons h t ih =>
      rw [List.cons_append, List.cons_append]
      exact .cons h ih
theorem putN_len {β : Type} {kvs : List (NestedKey × β)} {k : NestedKey} {v : β} : (putN kvs k v).length ≤ kvs.length + 1 := by
  unfold putN
  split <;> simp
theorem putN_keys {β : Type} {kvs : List (NestedKey × β)} {k : NestedKey} {v : β} (h : ∀ p ∈ kvs, keyOk p.1 = true) (hk : keyOk k = true) : ∀ p ∈ putN kvs k v, keyOk p.1 = true := by
  intro p hp
  unfold putN at hp
  split at hp
  · obtain ⟨q, hq, rfl⟩ := List.mem_map.mp hp
    have := h q hq
    split
    · exact this
    · exact this
  · rcases List.mem_append.mp hp with hp | hp
    · exact h p hp
    · rw [List.mem_singleton.mp hp]
      exact hk
end
/-! ### in the heap -/
section
variable {X : Cx} {pins : List (Addr × Obj)} {σ : L2.St} {F H : Hp} {G : Gp} {s : Shared}
mutual
theorem nk_is (I : Inv X pins σ H s) (sF : Same F H) : ∀ (k : NestedKey) (v : V) (u : Value), Rp X.K F (nkD k) v → RelV v u → NestedIs s.heap k u
  | .none, _, u, h, r => by
    cases h
    obtain rfl : u = .none := r
    exact .none
  | .num i, _, u, h, r => by
    cases h
    obtain ⟨t, rfl⟩ := r
    exact .int i t
  | .text x, _, u, h, r => by
    cases h
    obtain ⟨t, rfl⟩ := r
    exact .text x t
  | .tup ks, _, u, h, r => by
    cases h with
    | tup h1 h2 =>
      obtain rfl : u = .ref _ := r
      obtain ⟨its, rv, ⟨o, e1, e2, n, e3⟩, _⟩ := I.tuple (sqT_mono sF h1)
      exact .tup e1 e2 e3 (by simpa using nks_is I sF ks _ _ h2 rv)
theorem nks_is (I : Inv X pins σ H s) (sF : Same F H) : ∀ (ks : List NestedKey) (vs : List V) (us : List Value), Rps X.K F (nkDs ks) vs → Vals vs us → NestedAll s.heap ks us
  | [], _, us, h, r => by
    cases h
    cases r
    exact .nil
  | k :: ks, _, us, h, r => by
    cases h with
    | cons h1 h2 =>
      cases r with
      | cons r1 r2 => exact .cons (nk_is I sF k _ _ h1 r1) (nks_is I sF ks _ _ h2 r2)
end
theorem nd_at (I : Inv X pins σ H s) (sF : Same F H) {a : Addr} {ob : Obj} {kvs : List (NestedKey × D)} (h : NdOk X.K F H a ob kvs) :
    ∃ xs : List (NestedKey × Addr × Value), s.heap.DictOfH (nestedKind X.prog X.w) a xs ∧ Paired (RelN X.K F) kvs xs ∧ xs.length = kvs.length ∧ Mut (H a) := by
  obtain ⟨es, ep, xs, hH, hx, hd, he, hn, r⟩ := h.ob
  have ho : s.heap.get? a = some ob := (I.hok a _ hH).1
  refine ⟨xs, ⟨ob, es, ep, ho, hx, hd, he X.w, fun x hx => ?_, hn⟩, r, (Paired.length r).symm, by rw [hH]; trivial⟩
  obtain ⟨i, hi, rfl⟩ := List.getElem_of_mem hx
  have hi2 : i < kvs.length := by rw [Paired.length r]; exact hi
  obtain ⟨b, hb, e, hr, _⟩ := paired_get r (List.getElem?_eq_getElem hi2)
  rw [List.getElem?_eq_getElem hi] at hb
  cases hb
  have hk := keyOk_iff.mp (h.ks _ (List.getElem_mem hi2))
  rw [e] at hr hk
  exact ⟨nk_is I sF _ _ _ hr rfl, hk.2.2⟩
/-- a dict as the library left it -/
theorem nd_new {P : Program} {w : World} {K : PySem.W.Frag} {F H : Hp} {h : Heap} {a : Addr} {kvs : List (NestedKey × D)} {xs : List (NestedKey × Addr × Value)} (dd : h.DictOfH (nestedKind P w) a xs) (sm : (a == sysModules) = false) (sz : kvs.length ≤ sizeLine)
    (ks : ∀ p ∈ kvs, keyOk p.1 = true) (r : Paired (RelN K F) kvs xs) : ∃ o, h.get? a = some o ∧ NdOk K F (upd H a (StO a o)) a o kvs := by
  obtain ⟨o, es, ep, ho, hx, hd, he, _, hn⟩ := dd
  refine ⟨o, ho, sm, sz, ks, es, ep, xs, upd_same, hx, hd, fun w' => ?_, hn, r⟩
  rw [he]
  apply List.map_congr_left
  intro x hx
  obtain ⟨i, hi, rfl⟩ := List.getElem_of_mem hx
  have hi2 : i < kvs.length := by rw [Paired.length r]; exact hi
  obtain ⟨b, hb, e, _⟩ := paired_get r (List.getElem?_eq_getElem hi2)
  rw [List.getElem?_eq_getElem hi] at hb
  cases hb
  have hk := keyOk_iff.mp (ks _ (List.getElem_mem hi2))
  rw [e] at hk
  show (⟨(xs[i].1).hash w, .ref xs[i].2.1, xs[i].2.2⟩ : DictEntry) = ⟨(xs[i].1).hash w', .ref xs[i].2.1, xs[i].2.2⟩
  rw [hash_pure w w' _ hk.2.1]
theorem key_at (I : Inv X pins σ H s) (sF : Same F H) {k : NestedKey} {y : V} {u : Value} (hk : keyOk k = true) (r : Rp X.K F (nkD k) y) (ru : RelV y u) : ∃ b, u = .ref b ∧ y = .ref b ∧ (nestedKind X.prog X.w).is s.heap k b := by
  obtain ⟨h1, h2, h3⟩ := keyOk_iff.mp hk
  cases k with
  | tup ks =>
    cases r with
    | tup a1 a2 =>
      obtain rfl : u = .ref _ := ru
      exact ⟨_, rfl, rfl, nk_is I sF _ _ _ (.tup a1 a2) rfl, h3⟩
  | _ => cases h1
variable {A : Around} {E : Value → Shared → Prop}
theorem n_get {a : Addr} {ob : Obj} {kvs : List (NestedKey × D)} {k : NestedKey} {d : D} {y : V} {u : Value} {Q : Value → Shared → Prop} (hu : A.in1.units + 8 < cLine) (I : Inv X pins σ H s) (sF : Same F H) (h : NdOk X.K F H a ob kvs) (hk : keyOk k = true) (r : Rp X.K F (nkD k) y) (ru : RelV y u) (hv : valN kvs k = some d)
    (q : ∀ v u' s', Inv X pins σ H s' → RelV v u' → Rp X.K F d v → Q u' s') : wpAny (model X.prog X.w) A (getItem (.ref a) u) Q E s := by
  obtain ⟨xs, dd, rel, _, _⟩ := nd_at I sF h
  obtain ⟨b, rfl, rfl, hb⟩ := key_at I sF hk r ru
  rcases relN_val (k := k) rel with ⟨e1, _⟩ | ⟨d', b', r', v, e1, e2, rv, rd⟩
  · rw [e1] at hv; cases hv
  · rw [e1] at hv
    cases hv
    exact wpAny_getItem_heap hu hb dd e2 (q v r' _ (I.tok _) rv rd)
theorem n_in {a : Addr} {ob : Obj} {kvs : List (NestedKey × D)} {k : NestedKey} {y : V} {u : Value} {Q : Value → Shared → Prop} (hu : A.in1.units + 8 < cLine) (I : Inv X pins σ H s) (sF : Same F H) (h : NdOk X.K F H a ob kvs) (hk : keyOk k = true) (r : Rp X.K F (nkD k) y) (ru : RelV y u)
    (q : ∀ s', Inv X pins σ H s' → Q (.bool (valN kvs k).isSome) s') : wpAny (model X.prog X.w) A (compareOp .In u (.ref a)) Q E s := by
  obtain ⟨xs, dd, rel, _, _⟩ := nd_at I sF h
  obtain ⟨b, rfl, rfl, hb⟩ := key_at I sF hk r ru
  refine wpAny_in_heap hu hb h.sm dd ?_
  rcases relN_val (k := k) rel with ⟨e1, e2⟩ | ⟨d', b', r', v, e1, e2, rv, rd⟩
  · rw [e1] at q; rw [e2]; exact q _ (I.tok _)
  · rw [e1] at q; rw [e2]; exact q _ (I.tok _)
theorem n_notIn {a : Addr} {ob : Obj} {kvs : List (NestedKey × D)} {k : NestedKey} {y : V} {u : Value} {Q : Value → Shared → Prop} (hu : A.in1.units + 8 < cLine) (I : Inv X pins σ H s) (sF : Same F H) (h : NdOk X.K F H a ob kvs) (hk : keyOk k = true) (r : Rp X.K F (nkD k) y) (ru : RelV y u)
    (q : ∀ s', Inv X pins σ H s' → Q (.bool (!(valN kvs k).isSome)) s') : wpAny (model X.prog X.w) A (compareOp .NotIn u (.ref a)) Q E s := by
  obtain ⟨xs, dd, rel, _, _⟩ := nd_at I sF h
  obtain ⟨b, rfl, rfl, hb⟩ := key_at I sF hk r ru
  refine wpAny_notIn_heap hu hb h.sm dd ?_
  rcases relN_val (k := k) rel with ⟨e1, e2⟩ | ⟨d', b', r', v, e1, e2, rv, rd⟩
  · rw [e1] at q; rw [e2]; exact q _ (I.tok _)
  · rw [e1] at q; rw [e2]; exact q _ (I.tok _)
theorem n_put {a : Addr} {ob : Obj} {kvs : List (NestedKey × D)} {k : NestedKey} {d : D} {y z : V} {u r : Value} {Q : Unit → Shared → Prop} (hu : A.in1.units + 8 < cLine) (I : Inv X pins σ H s) (sF : Same F H) (h : NdOk X.K F H a ob kvs) (hl : kvs.length < sizeLine) (hk : keyOk k = true) (rk : Rp X.K F (nkD k) y) (ru : RelV y u)
    (rz : Rp X.K F d z) (rr : RelV z r) (q : ∀ o s', Inv X pins σ (upd H a (StO a o)) s' → NdOk X.K F (upd H a (StO a o)) a o (putN kvs k d) → Q () s') : wpAny (model X.prog X.w) A (setItem (.ref a) u r) Q E s := by
  obtain ⟨xs, dd, rel, hxl, mu⟩ := nd_at I sF h
  obtain ⟨b, rfl, rfl, hb⟩ := key_at I sF hk rk ru
  refine wpAny_setItem_heap (hsz := by omega) hu hb dd fun h' dd' sb => ?_
  obtain ⟨o, ho, nd⟩ := nd_new (H := H) dd' h.sm (Nat.le_trans putN_len hl) (putN_keys h.ks hk) (relN_put rk rr rz rel)
  exact q o _ (d_write I mu sb ⟨o, ho⟩ (stO_ok ho)) nd
theorem n_get2 {a : Addr} {ob : Obj} {kvs : List (NestedKey × D)} {k : NestedKey} {x : D} {y z : V} {u r : Value} {Q : Value → Shared → Prop} (hu : A.in1.units + 8 < cLine) (I : Inv X pins σ H s) (sF : Same F H) (h : NdOk X.K F H a ob kvs) (hk : keyOk k = true) (rk : Rp X.K F (nkD k) y) (ru : RelV y u)
    (rz : Rp X.K F x z) (rr : RelV z r) (q : ∀ v u' s', Inv X pins σ H s' → RelV v u' → Rp X.K F ((valN kvs k).getD x) v → Q u' s') : wpAny (model X.prog X.w) A (call (.builtin "dict.get") [.ref a, u, r]) Q E s := by
  obtain ⟨xs, dd, rel, _, _⟩ := nd_at I sF h
  obtain ⟨b, rfl, rfl, hb⟩ := key_at I sF hk rk ru
  refine call_meetsIn PySem.F.slot_dict_get dd.typeIs PySem.F.entry_dict_get (PySem.F.args_dict_get_3 _ _ _) (meetsH_dict_get_default (nestedKind X.prog X.w) a b h.sm r) ⟨hu, k, xs, hb, dd, ?_⟩
  rcases relN_val (k := k) rel with ⟨e1, e2⟩ | ⟨d', b', r', v, e1, e2, rv, rd⟩
  · rw [e1] at q; rw [e2]; exact q z r _ (I.tok _) rr rz
  · rw [e1] at q; rw [e2]; exact q v r' _ (I.tok _) rv rd
theorem n_ty (I : Inv X pins σ H s) (sF : Same F H) {a : Addr} {ob : Obj} {kvs : List (NestedKey × D)} (h : NdOk X.K F H a ob kvs) : s.TypeIs (.ref a) "dict" ∧ ∀ b, Value.ref a = .ref b → ∃ ob, s.heap.get? b = some ob ∧ ob.dict = none := by
  obtain ⟨es, ep, xs, hH, hx, _⟩ := h.ob
  have ho : s.heap.get? a = some ob := (I.hok a _ hH).1
  refine ⟨⟨ob, ho, hx.1⟩, fun b e => ?_⟩
  cases e
  exact ⟨ob, ho, hx.2.1⟩
end
/-- the dict with tuple keys that stands there -/
def nOf (x : D) (G : Gp) : Option (Addr × Obj × List (NestedKey × D)) := match x with
  | .ref a => match G a with
    | some (.dctN o kvs) => some (a, o, kvs)
    | _ => none
  | _ => none
theorem nOf_ok {K : PySem.W.Frag} {F H : Hp} {G : Gp} {x : D} {v : V} {a : Addr} {o : Obj} {kvs : List (NestedKey × D)} (w : Wd K F G H) (r : Rp K F x v) (h : nOf x G = some (a, o, kvs)) : v = .ref a ∧ x = .ref a ∧ F a = none ∧ NdOk K F H a o kvs ∧ G a = some (.dctN o kvs) := by
  unfold nOf at h
  split at h
  · rename_i a'
    split at h
    · rename_i ks e
      cases h
      cases r
      obtain ⟨h1, h2⟩ := w.mu _ _ e
      exact ⟨rfl, rfl, h1, h2, e⟩
    · cases h
  · cases h
theorem nOf_ref {G : Gp} {a : Addr} {o : Obj} {kvs : List (NestedKey × D)} (h : G a = some (.dctN o kvs)) : nOf (.ref a) G = some (a, o, kvs) := by
  unfold nOf
  simp only
  rw [h]
theorem units9 {k : Nat} {A : Around} (r : Room k A) : A.in1.units + 8 < cLine := by
  have := r.un
  show A.units + 1 + 8 < cLine
  omega
/-! ### readings -/
def dNGet (td ti : DE) : DE := fun δ G Q => td δ G fun x G1 => ti δ G1 fun y G2 => ∃ a o kvs k d, nOf x G2 = some (a, o, kvs) ∧ keyN y = some k ∧ keyOk k = true ∧ valN kvs k = some d ∧ Q d G2
def dNIn (neg : Bool) (ti td : DE) : DE := fun δ G Q => ti δ G fun y G1 => td δ G1 fun x G2 => ∃ a o kvs k, nOf x G2 = some (a, o, kvs) ∧ keyN y = some k ∧ keyOk k = true ∧ Q (.bl (if neg then !(valN kvs k).isSome else (valN kvs k).isSome)) G2
def dNPut (tv td ti : DE) : DS := fun D δ G => tv δ G fun v G1 => td δ G1 fun x G2 => ti δ G2 fun y G3 => ∃ a o kvs k, nOf x G3 = some (a, o, kvs) ∧ keyN y = some k ∧ keyOk k = true ∧ kvs.length < sizeLine ∧ ∀ o', D.nx δ (gu G3 a (.dctN o' (putN kvs k v)))
def dNNew : DE := fun _ G Q => ∀ a o, G a = none → Q (.ref a) (gu G a (.dctN o []))
section
variable {X : Cx} {F₀ : Hp} {o i value : Expr} {pos pos' : Pos} {td ti tv : DE}
theorem le_run {e : Expr} {t : DE} (h : PE X e (Le X.K F₀ t)) {pins : List (Addr × Obj)} {σ : L2.St} {H F : Hp} {G : Gp} {s : Shared} {δ : Sl} {Q' : DK} (I : Inv X pins σ H s) (s0 : Same F₀ F) (en : En X.K F δ σ) (w : Wd X.K F G H) (q : t δ G Q') :
    wpAny (model X.prog X.w) X.A (eval e X.env) (EP X pins σ fun v H1 => ∃ d F1 G1, Same F F1 ∧ Wd X.K F1 G1 H1 ∧ Rp X.K F1 d v ∧ Q' d G1) X.xe s :=
  h.run pins s σ H _ I ⟨δ, F, G, Q', s0, en, w, q, fun d v F1 G1 H1 s1 w1 r1 q1 => ⟨d, F1, G1, s1, w1, r1, q1⟩⟩
theorem de_nget (hu : X.A.in1.units + 8 < cLine) (ho : PE X o (Le X.K F₀ td)) (hi : PE X i (Le X.K F₀ ti)) (hs : NoSl i) : PE X (.Subscript o i pos) (Le X.K F₀ (dNGet td ti)) := by
  refine ⟨fun pins s σ H Q I ⟨δ, F, G, Q', s0, en, w, q, k⟩ => ?_⟩
  refine subD_of PySem.F.slot_dict_getitem.lookup hs (thn (le_run ho I s0 en w q) fun u s1 ⟨v1, H1, I1, r1, x, F1, G1, sa, w1, rx, q1⟩ => thn (le_run hi I1 (s0.trans sa) (en.mono sa) w1 q1) fun iv s2 ⟨v2, H2, I2, r2, y, F2, G2, sb, w2, ry, a, ob, kvs, kk, d, hn, hk, hok, hv, q2⟩ => ?_)
  obtain ⟨rfl, rfl, fa, nd, _⟩ := nOf_ok w2 (rx.mono sb) hn
  obtain rfl : u = .ref a := r1
  rw [← keyN_eq _ _ hk] at ry
  exact ⟨(n_ty I2 w2.fz nd).1, n_get hu I2 w2.fz nd hok ry r2 hv fun v u' s3 I3 rv rd => ⟨v, H2, I3, rv, k d v F2 G2 H2 (sa.trans sb) w2 rd q2⟩⟩
theorem de_nin (hu : X.A.in1.units + 8 < cLine) (hm : behindInMarks .In o = false) (hi : PE X i (Le X.K F₀ ti)) (ho : PE X o (Le X.K F₀ td)) : PE X (.Compare i [.In] [o] pos) (Le X.K F₀ (dNIn false ti td)) := by
  refine pe_cmp ⟨fun pins s σ H Q I ⟨δ, F, G, Q', s0, en, w, q, k⟩ => ?_⟩ hm
  refine thn (le_run hi I s0 en w q) fun iv s1 ⟨v1, H1, I1, r1, y, F1, G1, sa, w1, ry, q1⟩ => thn (le_run ho I1 (s0.trans sa) (en.mono sa) w1 q1) fun u s2 ⟨v2, H2, I2, r2, x, F2, G2, sb, w2, rx, a, ob, kvs, kk, hn, hk, hok, q2⟩ => ?_
  obtain ⟨rfl, rfl, fa, nd, _⟩ := nOf_ok w2 rx hn
  obtain rfl : u = .ref a := r2
  have ry := ry.mono sb
  rw [← keyN_eq _ _ hk] at ry
  exact n_in hu I2 w2.fz nd hok ry r1 fun s3 I3 => ⟨.bl _, H2, I3, rfl, k _ _ F2 G2 H2 (sa.trans sb) w2 (.bl _) q2⟩
theorem de_nnin (hu : X.A.in1.units + 8 < cLine) (hm : behindInMarks .NotIn o = false) (hi : PE X i (Le X.K F₀ ti)) (ho : PE X o (Le X.K F₀ td)) : PE X (.Compare i [.NotIn] [o] pos) (Le X.K F₀ (dNIn true ti td)) := by
  refine pe_cmp ⟨fun pins s σ H Q I ⟨δ, F, G, Q', s0, en, w, q, k⟩ => ?_⟩ hm
  refine thn (le_run hi I s0 en w q) fun iv s1 ⟨v1, H1, I1, r1, y, F1, G1, sa, w1, ry, q1⟩ => thn (le_run ho I1 (s0.trans sa) (en.mono sa) w1 q1) fun u s2 ⟨v2, H2, I2, r2, x, F2, G2, sb, w2, rx, a, ob, kvs, kk, hn, hk, hok, q2⟩ => ?_
  obtain ⟨rfl, rfl, fa, nd, _⟩ := nOf_ok w2 rx hn
  obtain rfl : u = .ref a := r2
  have ry := ry.mono sb
  rw [← keyN_eq _ _ hk] at ry
  exact n_notIn hu I2 w2.fz nd hok ry r1 fun s3 I3 => ⟨.bl _, H2, I3, rfl, k _ _ F2 G2 H2 (sa.trans sb) w2 (.bl _) q2⟩
theorem ds_nput (hu : X.A.in1.units + 8 < cLine) (hv : PE X value (Le X.K F₀ tv)) (ho : PE X o (Le X.K F₀ td)) (hi : PE X i (Le X.K F₀ ti)) (hs : swapsWith value (some (.Subscript o i pos')) pos.line X.env = pure false := by rfl) :
    PS X (.Assign [.Subscript o i pos'] value pos) (Ls X.K F₀ (dNPut tv td ti)) := by
  refine ⟨fun pins s σ H D I ⟨δ, F, G, D', s0, en, w, q, k⟩ => ?_⟩
  refine wpAny_Assign_Subscript (thn (le_run hv I s0 en w q) fun r s1 ⟨v0, H1, I1, r0, v, F1, G1, sa, w1, rv, q1⟩ => thn (le_run ho I1 (s0.trans sa) (en.mono sa) w1 q1) fun u s2 ⟨v2, H2, I2, r2, x, F2, G2, sb, w2, rx, q2⟩ =>
    thn (le_run hi I2 ((s0.trans sa).trans sb) ((en.mono sa).mono sb) w2 q2) fun iv s3 ⟨v3, H3, I3, r3, y, F3, G3, sc, w3, ry, a, ob, kvs, kk, hn, hk, hok, hl, q3⟩ => ?_) hs
  obtain ⟨rfl, rfl, fa, nd, hG⟩ := nOf_ok w3 (rx.mono sc) hn
  obtain rfl : u = .ref a := r2
  rw [← keyN_eq _ _ hk] at ry
  refine n_put hu I3 w3.fz nd hl hok ry r3 (rv.mono (sb.trans sc)) r0 fun ob4 s4 I4 nd4 => ⟨σ, _, I4, k.nx δ σ F3 _ _ ((sa.trans sb).trans sc) (((en.mono sa).mono sb).mono sc) (w3.put (g := .dctN ob4 _) fa nd4) (q3 ob4)⟩
theorem de_nnew : PE X (.Dict [] [] pos) (Le X.K F₀ dNNew) := by
  refine ⟨fun pins s σ H Q I ⟨δ, F, G, Q', s0, en, w, q, k⟩ => wpAny_Dict_empty ?_⟩
  have nH : H s.heap.objs.size = none := I.hok.fresh (Nat.le_refl _)
  obtain ⟨ob, ho, nd⟩ := nd_new (H := H) (K := X.K) (F := F) (Heap.DictOfH.new (knd := nestedKind X.prog X.w) s.heap) (beq_eq_false_iff_ne.mpr (Ne.symm (Nat.ne_of_lt I.big))) (Nat.zero_le _) (fun p hp => absurd hp List.not_mem_nil) (.nil : Paired (RelN X.K F) [] [])
  refine ⟨.ref s.heap.objs.size, _, I.laid (a := s.heap.objs.size) (o := StO s.heap.objs.size ob) (t' := s.toks) (fun _ _ e => Heap.get?_push_of_some _ e) (Nat.le_refl _) (stO_ok ho), rfl, ?_⟩
  exact k _ _ F _ _ (Same.refl F) (w.put (g := .dctN ob []) (w.ffree nH) nd) (.ref _) (q _ ob (w.gfree nH))
end
end DL

/-! sorted of data of any depth: of a list, of a dict with tuple keys; len of such a dict; its keys walked. -/
namespace DL
open PySem PySem.Spec PyProof.Rows L2
open PySem.W (EachIs AllAlike Sortable dataLe dataKind SortsAt)
/-- what Python orders a tree by -/
def encD (d : D) : PyData := (toPy d).getD .none
noncomputable def leD (x y : D) : Bool := dataLe false encD x y
noncomputable def sortD (ds : List D) : List D := ds.mergeSort leD
/-- what can be sorted: data of one form -/
def SortOk (ds : List D) : Prop := (∀ d ∈ ds, ∃ p, toPy d = some p ∧ p.depth ≤ 30) ∧ AllAlike (ds.map encD) ∧ Sortable (ds.map encD) ∧ ds.length ≤ sizeLine
section
variable {K : PySem.W.Frag} {F : Hp}
theorem each_rp : ∀ {ds : List D} {vs : List V} {us : List Value}, Rps K F ds vs → Vals vs us → EachIs (fun u d => ∃ v, RelV v u ∧ Rp K F d v) us ds
  | [], _, _, h, r => by
    cases h
    cases r
    exact .nil
  | d :: ds, _, _, h, r => by
    cases h with
    | cons h1 h2 =>
      cases r with
      | cons r1 r2 => exact .cons ⟨_, r1, h1⟩ (each_rp h2 r2)
theorem rp_each : ∀ {ds : List D} {us : List Value}, EachIs (fun u d => ∃ v, RelV v u ∧ Rp K F d v) us ds → ∃ vs, Rps K F ds vs ∧ Vals vs us
  | _, _, .nil => ⟨[], .nil, .nil⟩
  | _, _, .cons ⟨v, r1, h1⟩ t => let ⟨vs, h2, r2⟩ := rp_each t; ⟨v :: vs, .cons h1 h2, .cons r1 r2⟩
end
section
variable {X : Cx} {pins : List (Addr × Obj)} {σ : L2.St} {F H : Hp} {s : Shared}
theorem each_reads (I : Inv X pins σ H s) (sF : Same F H) : ∀ {ds : List D} {us : List Value}, (∀ d ∈ ds, ∃ p, toPy d = some p ∧ p.depth ≤ 30) → EachIs (fun u d => ∃ v, RelV v u ∧ Rp X.K F d v) us ds → EachIs (fun u d => ∃ as, Reads s.heap u (encD d) as) us ds
  | _, _, _, .nil => .nil
  | d :: _, _, hp, .cons ⟨v, r1, h1⟩ t => by
    obtain ⟨p, e, _⟩ := hp d List.mem_cons_self
    refine .cons ?_ (each_reads I sF (fun x hx => hp x (List.mem_cons_of_mem _ hx)) t)
    unfold encD
    rw [e]
    exact Dp.reads I p v _ (toPy_dp sF d v p h1 e) r1
theorem enc_depth {ds : List D} (h : ∀ d ∈ ds, ∃ p, toPy d = some p ∧ p.depth ≤ 30) : ∀ d ∈ ds, (encD d).depth ≤ 30 := fun d hd => by
  obtain ⟨p, e, h1⟩ := h d hd
  unfold encD
  rw [e]
  exact h1
end
/-- sorted(x), x a list or such a dict -/
def rSortN (K : PySem.W.Frag) : List V → Hp → VK → Prop := fun vs H Q => ∃ (F : Hp) (a : Addr) (ds : List D), vs = [V.ref a] ∧ Same F H ∧ ((∃ xs, SqL K H a xs ∧ Rps K F ds xs) ∨ ∃ ob kvs, NdOk K F H a ob kvs ∧ ds = kvs.map fun p => nkD p.1) ∧ SortOk ds ∧
  ∀ ys p, H p = none → Rps K F (sortD ds) ys → Q (.ref p) (upd H p (.lst ys))
section
variable {X : Cx}
theorem keys_each {K : PySem.W.Frag} {F : Hp} : ∀ {kvs : List (NestedKey × D)} {xs : List (NestedKey × Addr × Value)}, Paired (RelN K F) kvs xs → EachIs (fun u d => ∃ v, RelV v u ∧ Rp K F d v) (xs.map fun x => Value.ref x.2.1) (kvs.map fun p => nkD p.1)
  | _, _, .nil => .nil
  | _, _, .cons ⟨_, h, _⟩ t => .cons ⟨.ref _, rfl, h⟩ (keys_each t)
theorem cr_sortN (hc : X.calm = true) (hu : X.A.units + 60 < cLine) : CallR X (.builtin "sorted") (rSortN X.K) := by
  intro pins s σ H vs us Q I r ⟨F, a, ds, e0, sF, src, ⟨hp, hal, hso, hsz⟩, q⟩
  subst e0
  rw [Vals.ref1 r]
  rcases src with ⟨xs, hs, rp⟩ | ⟨ob, kvs, nd, e1⟩
  · obtain ⟨its, rv, hl, hz⟩ := I.list hs
    have he := each_rp rp rv
    refine PySem.W.sorted_data (R := fun u d => ∃ v, RelV v u ∧ Rp X.K F d v) (enc := encD) hl.isList he (each_reads I sF hp he) hal hso hsz (fun b hb => by have := enc_depth hp b hb; omega) fun out h1 h2 => ?_
    obtain ⟨ep, he'⟩ := PyProof.Rows.sortedAll_at s.heap its out.toArray
    obtain ⟨ys, r1, r2⟩ := rp_each h2
    have hlen : ys.length ≤ sizeLine := by rw [← r1.length, List.length_mergeSort]; exact hsz
    exact ⟨.ref _, upd H (s.heap.objs.size + 1) (.lst ys), I.laid (t' := s.toks) (fun _ _ => PyProof.Rows.sortedAll_old) (Nat.le_succ _) ⟨hlen, out, ep, r2, he'⟩, rfl, q ys _ (I.hok.fresh (Nat.le_succ _)) r1⟩
  · obtain ⟨es, ep, xs, hH, hx, hd, hes, hn, rel⟩ := nd.ob
    have ho : s.heap.get? a = some ob := (I.hok a _ hH).1
    have hel : es.size = xs.length := by rw [← Array.length_toList, hes X.w, List.length_map]
    have hkl : kvs.length = xs.length := Paired.length rel
    have he : ∀ j (hj : j < es.size), es[j].key = Value.ref (xs[j]'(by omega)).2.1 := fun j hj => by
      have e2 : es.toList[j]'(by rw [Array.length_toList]; exact hj) = entN X.w (xs[j]'(by omega)) := by simp [hes X.w]
      rw [Array.getElem_toList] at e2
      rw [e2]
      rfl
    have hk := keys_each rel
    rw [← e1] at hk
    refine Calls.call_function_entry PyProof.Rows.kind_sorted PyProof.Rows.plain_sorted PyProof.Rows.entry_sorted (PyProof.Rows.args_sorted1 _) ?_
    unfold Builtin.«sorted»
    refine wpAny_bind (m := checkCount "sorted" 1 1 _) (wpAny_pure ?_)
    refine wpAny_bind (PySem.W.kdu_collect (A := X.A.in1) (PySem.KdlSrc.rawDict (es := es) (ep := ep) nd.sm) (I.ok.hd hc) (show s.heap.DictRaw a es ep from ⟨ob, ho, hx, hd⟩) (by rw [hel, ← hkl]; exact nd.sz) fun h' tk acc hkp hacc => ?_)
    have hal2 : acc.toList = xs.map fun x => Value.ref x.2.1 := by
      apply List.ext_getElem
      · rw [Array.length_toList, hacc.1, List.length_map, hel]
      · intro j h1 h2
        obtain ⟨hj, e3⟩ := hacc.2 j _ (Array.getElem?_eq_getElem (by simpa using h1))
        rw [Array.getElem_toList, e3, he j hj, List.getElem_map]
    have I1 : Inv X pins σ H { s with heap := h', toks := tk } := I.kept hkp
    refine wpAny_bind (wpAny_newList ?_ (by rw [hal2, List.length_map, ← hkl]; exact nd.sz))
    have hoL : (h'.push (PyProof.Rows.seqObj "list" acc.toList.toArray 0)).get? h'.objs.size = some (PyProof.Rows.seqObj "list" acc.toList.toArray 0) := Heap.get?_push_size _ rfl
    have I2 : Inv X pins σ H { s with heap := h'.push (PyProof.Rows.seqObj "list" acc.toList.toArray 0), toks := tk } := I1.kept fun b o e => Heap.get?_push_of_some _ e
    show wpAny _ _ _ _ _ { s with heap := h'.push (PyProof.Rows.seqObj "list" acc.toList.toArray 0), toks := tk }
    have er := each_reads I2 sF hp hk
    rw [← hal2] at er hk
    have er2 : EachIs (fun v b => ∃ as, Reads (PySem.W.sortingHeap (h'.push (PyProof.Rows.seqObj "list" acc.toList.toArray 0)) h'.objs.size acc.toList) v (encD b) as) acc.toList ds := by
      have nL : ∀ (v : Value) (d : D), (∃ v0, RelV v0 v ∧ Rp X.K F d v0) → ∀ p, toPy d = some p → True := fun _ _ _ _ _ => trivial
      have er1 := each_reads I1 sF hp hk
      refine er1.mono fun v b ⟨as, rd⟩ => ⟨as, PyProof.Rows.Reads.keeps (fun c o e => ?_) rd⟩
      exact PySem.W.sortingHeap_old (Nat.ne_of_lt (Heap.lt_size e)) (Heap.get?_push_of_some _ e)
    refine wpAny_bind (wpAny_holding (wpAny_call_entry PyProof.Rows.slot_list_sort ⟨_, hoL, rfl⟩ PyProof.Rows.entry_list_sort
      (PySem.W.list_sort_vals (s := { s with heap := h'.push (PyProof.Rows.seqObj "list" acc.toList.toArray 0), toks := tk }) hoL (SortsAt.data (PySem.W.each_map (R := fun v d => ∃ as, Reads _ v d as) encD er2) hal hso (fun d hd => ?_)) (by rw [hal2, List.length_map, ← hkl]; exact nd.sz) ⟨_, rfl, ?_⟩) (PyProof.Rows.args_list_sort _)))
    · obtain ⟨b, hb, rfl⟩ := List.mem_map.mp hd
      have := enc_depth hp b hb
      show X.A.in1.in1.units + (encD b).depth < cLine
      have e4 : X.A.in1.in1.units = X.A.units + 2 := rfl
      omega
    · have so := PySem.W.sortVals_data (R := fun u d => ∃ v, RelV v u ∧ Rp X.K F d v) false hk er2 hal
      obtain ⟨ys, r1, r2⟩ := rp_each so
      generalize hout : PySem.W.sortVals (dataKind _ (ds.map encD)) false acc.toList acc.toList = out at so r2 ⊢
      obtain ⟨ep2, he'⟩ := PyProof.Rows.sortedHeap_at (vs := acc.toList) (out := out.toArray) hoL
      have hlen : ys.length ≤ sizeLine := by rw [← r1.length, List.length_mergeSort]; exact hsz
      have nH : H h'.objs.size = none := I1.hok.fresh (Nat.le_refl _)
      refine wpAny_pure ⟨_, rfl, .ref _, upd H h'.objs.size (.lst ys), I1.laid (t' := tk) (fun b o e => ?_) (Nat.le_refl _) ⟨hlen, out, ep2, r2, he'⟩, rfl, q ys _ nH r1⟩
      show (PyProof.Rows.sortedHeap (h'.push (PyProof.Rows.seqObj "list" acc.toList.toArray 0)) h'.objs.size acc.toList out.toArray).get? b = some o
      rw [PyProof.Rows.sortedHeap_old (Nat.ne_of_lt (Heap.lt_size e)) (Heap.lt_size (Heap.get?_push_of_some _ e))]
      exact Heap.get?_push_of_some _ e
end
end DL

/-! sorted, len, for over dicts with tuple keys: readings. -/
namespace DL
open PySem PySem.Spec PyProof.Rows L2
/-- what is sorted: a list's items, a dict's keys -/
def srcN (x : D) (G : Gp) : Option (List D) := match rlOf x G with
  | some xs => some xs
  | none => match nOf x G with
    | some (_, _, kvs) => some (kvs.map fun p => nkD p.1)
    | none => none
def dSortN (m : Bool) : List D → Gp → DK → Prop := fun xs G Q => match xs with
  | [x] => match srcN x G with
    | some ds => SortOk ds ∧ nL m (sortD ds) G Q
    | none => False
  | _ => False
def dLenN : List D → Gp → DK → Prop := fun xs G Q => match xs with
  | [x] => match nOf x G with
    | some (_, _, kvs) => Q (.int kvs.length) G
    | none => False
  | _ => False
section
variable {K : PySem.W.Frag} {F₀ : Hp}
theorem cd_sortN (m : Bool) : CallD K F₀ (dSortN m) (rSortN K) := by
  intro F G H xs vs Q' Q s0 w r q k
  unfold dSortN at q
  split at q
  · rename_i x
    obtain ⟨v, rfl, rx⟩ := rps1 r
    split at q
    · rename_i ds e
      unfold srcN at e
      split at e
      · rename_i ys e2
        cases e
        obtain ⟨a, us, rfl, sq, rs⟩ := rlOf_ok w rx e2
        exact ⟨F, a, ds, rfl, w.fz, .inl ⟨us, sq, rs⟩, q.1, fun zs p hp rz => nL_ok w hp rz q.2 k⟩
      · split at e
        · rename_i a o kvs e2
          cases e
          obtain ⟨rfl, rfl, fa, nd, hG⟩ := nOf_ok w rx e2
          exact ⟨F, a, _, rfl, w.fz, .inr ⟨o, kvs, nd, rfl⟩, q.1, fun zs p hp rz => nL_ok w hp rz q.2 k⟩
        · cases e
    · exact q.elim
  · exact q.elim
def rLenN (K : PySem.W.Frag) : List V → Hp → VK → Prop := fun xs H Q => ∃ (F : Hp) (a : Addr) (ob : Obj) (kvs : List (NestedKey × D)), xs = [.ref a] ∧ Same F H ∧ NdOk K F H a ob kvs ∧ Q (.int ((kvs.length : Nat) : Int)) H
theorem call_lenN {X : Cx} : CallR X (.builtin "len") (rLenN X.K) := by
  intro pins s σ H xs us Q I r ⟨F, a, ob, kvs, e, sF, nd, q⟩
  subst e
  rw [Vals.ref1 r]
  obtain ⟨ys, dd, rel, hl, _⟩ := nd_at I sF nd
  refine call_len_dictH nd.sm dd (by have := nd.sz; rw [hl]; rw [sizeLine_eq] at this; omega) ?_
  rw [hl]
  exact ⟨.int ((kvs.length : Nat) : Int), H, I.tok _, ⟨_, rfl⟩, q⟩
theorem cd_lenN : CallD K F₀ dLenN (rLenN K) := by
  intro F G H xs vs Q' Q s0 w r q k
  unfold dLenN at q
  split at q
  · rename_i x
    obtain ⟨v, rfl, rx⟩ := rps1 r
    split at q
    · rename_i a o kvs e2
      obtain ⟨rfl, rfl, fa, nd, hG⟩ := nOf_ok w rx e2
      exact ⟨F, a, o, kvs, rfl, w.fz, nd, k _ _ F G H (Same.refl F) w (.int _) q⟩
    · exact q.elim
  · exact q.elim
end
/-! ### its keys, one by one -/
def Itn (K : PySem.W.Frag) (F : Hp) (a : Addr) (o : Obj) (kvs : List (NestedKey × D)) : It :=
  ⟨fun i H => H a = some (StO a o) ∧ i < kvs.length, fun i H x H' => H' = H ∧ ∃ p, kvs[i]? = some p ∧ Rp K F (nkD p.1) x, fun i H => H a = some (StO a o) ∧ kvs.length ≤ i⟩
theorem walk_n {K : PySem.W.Frag} {F : Hp} {a : Addr} {o : Obj} {kvs : List (NestedKey × D)} : Walk (Itn K F a o kvs) kvs.length (fun H => H a = some (StO a o)) (fun i H x H' => H' = H ∧ ∃ p, kvs[i]? = some p ∧ Rp K F (nkD p.1) x) :=
  ⟨fun _ _ hi h => ⟨h, hi⟩, fun _ h => ⟨h, Nat.le_refl _⟩, fun _ _ _ _ _ _ h => h⟩
theorem turn_n {P : Program} {w : World} {K : PySem.W.Frag} {tg : Expr} {F : Hp} {a : Addr} {o : Obj} {kvs : List (NestedKey × D)} {es : Array DictEntry} {ep : Nat} {xs : List (NestedKey × Addr × Value)} (it : Addr) (hod : o.data = .dict es ep) (hes : ∀ w, es.toList = xs.map (entN w)) (rel : Paired (RelN K F) kvs xs) :
    Turn P w K tg (Itn K F a o kvs) [it] it (fun i h => h.IsKeyIter it a i kvs.length ep) where
  mem := List.mem_singleton.mpr rfl
  obj := fun i h st b hb => by
    rw [List.mem_singleton.mp hb]
    obtain ⟨oi, e, c, dd⟩ := st
    exact ⟨oi, e, fun v z => by rw [dd] at z; cases z⟩
  keep := fun i h h' st kp => st.at fun oi e => kp it (List.mem_singleton.mpr rfl) oi e
  item := by
    intro X hP hw hK hc i pins s σ H E I hf st hg
    subst hP hw hK
    obtain ⟨hH, hi⟩ := hg
    have hgd : s.heap.get? a = some o := (I.hok a _ hH).1
    obtain ⟨f0, f1, f2, f3, f4, f5⟩ := hf it (List.mem_singleton.mpr rfl)
    have hkl : kvs.length = xs.length := Paired.length rel
    have hsz : es.size = kvs.length := by rw [← Array.length_toList, hes X.w, List.length_map, hkl]
    obtain ⟨b, hb, _, rk, _⟩ := paired_get rel (List.getElem?_eq_getElem hi)
    have hen : es[i]? = some (entN X.w b) := by rw [← Array.getElem?_toList, hes X.w, List.getElem?_map, hb]; rfl
    refine next_key_item st hgd hod hsz hen fun h' st' sb => ?_
    have I1 : Inv X pins σ H { s with heap := h' } := I.turned (t' := s.toks) (fun c ob hc e => (sb.2 c hc).trans e) f0 f1 f3 f4 f5
    obtain ⟨oi, e, c, dd⟩ := id st'
    exact ⟨_, rfl, go_of (s := { s with heap := h' }) e c dd (by decide) ⟨.ref b.2.1, H, I1, rfl, ⟨rfl, _, List.getElem?_eq_getElem hi, rk⟩, st', fun c hc => (hf c hc).1⟩⟩
  done := by
    intro X hP hw hK hc i pins s σ H E I hf st hg
    subst hP hw hK
    obtain ⟨hH, hi⟩ := hg
    have hgd : s.heap.get? a = some o := (I.hok a _ hH).1
    obtain ⟨f0, f1, f2, f3, f4, f5⟩ := hf it (List.mem_singleton.mpr rfl)
    have hsz : es.size = kvs.length := by rw [← Array.length_toList, hes X.w, List.length_map, Paired.length rel]
    exact next_key_end (I.ok.hd hc) st hgd hod hsz hi fun h' eb => ⟨rfl, I.turned (t' := s.toks) (fun c ob hc e => eb c ob hc e) f0 f1 f3 f4 f5⟩
  self := fun A i s Q E st h => by
    refine wpAny_pyIter_slot st.typeIs PySem.F.slot_dict_keyiterator_iter (wpAny_call_entry PySem.F.slot_dict_keyiterator_iter st.typeIs PySem.F.entry_dict_keyiterator_iter ?_ (PySem.F.args_dict_keyiterator_iter_1 _))
    show wpAny _ _ (PySem.ret (.ref it)) _ _ s
    exact wpAny_pure ⟨_, rfl, "dict_keyiterator", _, st.typeIs, PySem.F.slot_dict_keyiterator_next.lookup, h⟩
def dKeysN (t : DE) : DI := fun δ G Q => t δ G fun x G1 => match nOf x G1 with
  | some (_, _, kvs) => Q (kvs.map fun p => nkD p.1) (Stays x G1) G1
  | none => False
section
variable {X : Cx} {F₀ : Hp} {tg e : Expr} {ta : DE}
theorem di_keysN (he : PE X e (Le X.K F₀ ta)) : PI X tg e (Li X.K F₀ (dKeysN ta)) := by
  refine ⟨fun pins s σ H R I ⟨δ, F, G, Q', s0, en, w, q, k⟩ => ?_⟩
  refine thn (le_run he I s0 en w q) fun u s1 ⟨v1, H1, I1, r1, x, F1, G1, sa, w1, rx, q1⟩ => ?_
  split at q1
  · rename_i a o kvs hn
    obtain ⟨rfl, rfl, fa, nd, hG⟩ := nOf_ok w1 rx hn
    obtain rfl : u = .ref a := r1
    obtain ⟨es, ep, xs, hH, hx, hd, hes, hnd, rel⟩ := nd.ob
    have hgd : s1.heap.get? a = some o := (I1.hok a _ hH).1
    have hsz : es.size = kvs.length := by rw [← Array.length_toList, hes X.w, List.length_map, Paired.length rel]
    refine iter_keys nd.sm hgd hx hd (pi_one (tk := s1.toks) I1 _ (turn_n (K := X.K) (F := F1) _ hd hes rel) ⟨_, Heap.get?_push_size _ rfl, rfl, by rw [hsz]; rfl⟩ ?_)
    refine k _ _ _ F1 G1 H1 sa w1 ⟨_, _, by rw [List.length_map]; exact walk_n, fun F2 G2 H2 s2 w2 st => ?_, fun i d F2 G2 H2 z H3 s2 w2 st e2 y => ?_⟩ q1
    · have hG2 : G2 a = some (.dctN o kvs) := (show G2 a = G1 a from st).trans hG
      obtain ⟨_, nd2⟩ := w2.mu a _ hG2
      obtain ⟨_, _, _, hH2, _⟩ := nd2.ob
      exact hH2
    · obtain ⟨rfl, p, e3, rp⟩ := y
      rw [List.getElem?_map, e3] at e2
      cases e2
      exact ⟨F2, Same.refl F2, w2, rp.mono s2⟩
  · exact q1.elim
end
end DL

/-! {k: v for .. in .. if ..}, the keys tuples. -/
namespace DL
open PySem PySem.Spec PyProof.Rows L2
theorem n_dictSet {X : Cx} {pins : List (Addr × Obj)} {σ : L2.St} {F H : Hp} {s : Shared} {E : Value → Shared → Prop} {a : Addr} {ob : Obj} {kvs : List (NestedKey × D)} {k : NestedKey} {d : D} {y z : V} {u r : Value} {Q : Unit → Shared → Prop} (hu : X.A.units + 8 < cLine) (I : Inv X pins σ H s) (sF : Same F H) (h : NdOk X.K F H a ob kvs) (hl : kvs.length < sizeLine) (hk : keyOk k = true) (rk : Rp X.K F (nkD k) y) (ru : RelV y u)
    (rz : Rp X.K F d z) (rr : RelV z r) (q : ∀ o s', Inv X pins σ (upd H a (StO a o)) s' → NdOk X.K F (upd H a (StO a o)) a o (putN kvs k d) → Q () s') : wpAny (model X.prog X.w) X.A (dictSet a u r) Q E s := by
  obtain ⟨xs, dd, rel, hxl, mu⟩ := nd_at I sF h
  obtain ⟨b, rfl, rfl, hb⟩ := key_at I sF hk rk ru
  refine wpAny_dictSet_heap (hsz := by omega) hu hb dd fun h' dd' sb => ?_
  obtain ⟨o, ho, nd⟩ := nd_new (H := H) dd' h.sm (Nat.le_trans putN_len hl) (putN_keys h.ks hk) (relN_put rk rr rz rel)
  exact q o _ (d_write I mu sb ⟨o, ho⟩ (stO_ok ho)) nd
/-- a new pair is put in -/
def StoreN (K : PySem.W.Frag) (p : Addr) (y z : V) (H : Hp) (N : Hp → Prop) : Prop := ∃ (F : Hp) (ob : Obj) (kvs : List (NestedKey × D)) (k : NestedKey) (d : D), Same F H ∧ NdOk K F H p ob kvs ∧ kvs.length < sizeLine ∧ keyOk k = true ∧ Rp K F (nkD k) y ∧ Rp K F d z ∧
  ∀ o, NdOk K F (upd H p (StO p o)) p o (putN kvs k d) → N (upd H p (StO p o))
def tDcN (K : PySem.W.Frag) (wi : TI) (g : TG) (tt : TT) (tk tv : TE) (vs : List Nat) : TE := fun σ H Q => wi σ H fun J H1 => ∀ p o, H1 p = none → (∀ F, NdOk K F (upd H1 p (StO p o)) p o []) → ∃ W : Nat → Nat → Hp → Prop, (∃ m, W 0 m (upd H1 p (StO p o))) ∧ ∀ i m H, W i m H →
  (J.stop i H ∧ Q (.ref p) H) ∨ (J.go i H ∧ ∃ N : Hp → Prop, (∀ H', N H' → ∃ m', m' < m ∧ W (i + 1) m' H') ∧ ∀ x H', J.yld i H x H' → g x (wipe σ vs) H' fun σ2 H2 => wipe σ2 vs = wipe σ vs ∧ tt σ2 H2 fun b H3 =>
    if b = true then tk σ2 H3 fun y H4 => tv σ2 H4 fun z H5 => StoreN K p y z H5 N else N H3)
section
variable {X : Cx}
theorem dcN_core {kx vx tg iter : Expr} {ifs : List Expr} {scope : Scope} {own : List (Str × Nat)} {pos : Pos} {wi : TI} {g : TG} {tt : TT} {tk tv : TE} (hu : X.A.units + 8 < cLine) (hc : X.calm = true) (hN : X.N.Nodup) (hi : PI X tg iter wi) (ok : BlkOk X.N X.env.scope scope own)
    (hg : ∀ (sh : Shared) (Hb : Hp) (C : Addr) (cl : List (Str × Addr)) (fp : List Addr), PG (X.blk sh Hb scope (compEnvC scope cl C X.env) fp) tg g)
    (ht : ∀ (sh : Shared) (Hb : Hp) (C : Addr) (cl : List (Str × Addr)) (fp : List Addr), PTs (X.blk sh Hb scope (compEnvC scope cl C X.env) fp) ifs tt)
    (hk : ∀ (sh : Shared) (Hb : Hp) (C : Addr) (cl : List (Str × Addr)) (fp : List Addr), PE (X.blk sh Hb scope (compEnvC scope cl C X.env) fp) kx tk)
    (he : ∀ (sh : Shared) (Hb : Hp) (C : Addr) (cl : List (Str × Addr)) (fp : List Addr), PE (X.blk sh Hb scope (compEnvC scope cl C X.env) fp) vx tv)
    (hs : ∀ x, foldedSetIterable iter X.env x = pure x := by intro _; rfl) : PE X (.DictComp kx vx [⟨tg, iter, ifs, 0⟩] scope pos) (tDcN X.K wi g tt tk tv (own.map (·.2))) := by
  refine ⟨fun pins s σ H Q I h => ?_⟩
  rw [arm_eval_DictComp]
  have bound : ∀ y ∈ scope.names, y.2 = .free → ∃ c, X.env.cells.lookup y.1 = some c := fun y hy e => (ok.free y hy e).elim (fun z => I.ok.has _ (.inl z)) fun z => I.ok.has _ (.inr z)
  refine wpAny_comprehension_free (use := none) rfl hs (closure_ok bound) ok.kind (fun y hy e => by rw [ok.uniq y hy, e]) (thn (hi.run pins s σ H _ I h) fun xv sa hxa => thn hxa fun itv sb hsb => ?_)
  obtain ⟨it, fp, tn, J, Hb, eit, Ib, Tn, stb, fpb, qb⟩ := hsb
  subst eit
  refine wpAny_newObj_type (newEnv_comp ?_)
  generalize hp : sb.heap.objs.size = p
  have pNew : Hb p = none := Ib.hok.fresh (Nat.le_of_eq hp)
  obtain ⟨ob, hob, _⟩ := nd_new (H := Hb) (K := X.K) (F := Hb) (Heap.DictOfH.new (knd := nestedKind X.prog X.w) sb.heap) (beq_eq_false_iff_ne.mpr (Ne.symm (Nat.ne_of_lt Ib.big))) (Nat.zero_le _) (fun p hp => absurd hp List.not_mem_nil) (.nil : Paired (RelN X.K Hb) [] [])
  have ndE : ∀ F, NdOk X.K F (upd Hb p (StO p ob)) p ob [] := fun F => by
    obtain ⟨ob2, hob2, nd2⟩ := nd_new (H := Hb) (K := X.K) (F := F) (Heap.DictOfH.new (knd := nestedKind X.prog X.w) sb.heap) (beq_eq_false_iff_ne.mpr (Ne.symm (Nat.ne_of_lt Ib.big))) (Nat.zero_le _) (fun p hp => absurd hp List.not_mem_nil) (.nil : Paired (RelN X.K F) [] [])
    rw [hob] at hob2
    cases hob2
    rw [← hp]
    exact nd2
  obtain ⟨W, ⟨m0, w0⟩, turn⟩ := qb p ob pNew ndE
  generalize hsc : ({ sb with heap := sb.heap.push { cls := .type "dict", data := .dict #[] } } : Shared) = sc
  generalize hHc : upd Hb p (StO p ob) = Hc at w0
  have hpc : sc.heap = sb.heap.push { cls := .type "dict", data := .dict #[] } := by rw [← hsc]
  have Ic : Inv X pins σ Hc sc := by
    rw [← hsc, ← hHc]
    refine Ib.laid (t' := sb.toks) (fun c o e => Heap.get?_push_of_some _ e) (Nat.le_of_eq hp) ?_
    rw [← hp]
    exact stO_ok hob
  have low : ∀ c ∈ fp, c < sb.heap.objs.size := fun c hcm => let ⟨o, e, _⟩ := Tn.obj _ _ stb c hcm; Heap.lt_size e
  have fpc : ∀ c ∈ fp, FpOk X pins Hc c ∧ c < sc.heap.objs.size := fun c hcm => by
    have lt := low c hcm
    refine ⟨⟨?_, (fpb c hcm).2⟩, by rw [hpc, Heap.size_push]; exact Nat.lt_succ_of_lt lt⟩
    rw [← hHc, upd_ne (by rw [← hp]; exact Nat.ne_of_lt lt)]
    exact (fpb c hcm).1
  have stc : tn 0 sc.heap := Tn.keep _ _ _ stb fun c _ o e => by rw [hpc]; exact Heap.get?_push_of_some _ e
  have Id := block_start Ic ok hN fpc
  have pg := hg sc Hc sc.heap.objs.size (cellsFrom (sc.heap.objs.size + 1) scope.names (cloFrom X.env.cells scope.names [])) fp
  have pt := ht sc Hc sc.heap.objs.size (cellsFrom (sc.heap.objs.size + 1) scope.names (cloFrom X.env.cells scope.names [])) fp
  have pk := hk sc Hc sc.heap.objs.size (cellsFrom (sc.heap.objs.size + 1) scope.names (cloFrom X.env.cells scope.names [])) fp
  have pv := he sc Hc sc.heap.objs.size (cellsFrom (sc.heap.objs.size + 1) scope.names (cloFrom X.env.cells scope.names [])) fp
  have nofp : ∀ c ∈ fp, Hc c = none := fun c hcm => (fpc c hcm).1.1
  show codeAny _ _ (.compStart (.DictComp kx vx [⟨tg, iter, ifs, 0⟩] scope pos) 0 (.ref it) (.ref p) (compEnvC scope (cellsFrom (sc.heap.objs.size + 1) scope.names (cloFrom X.env.cells scope.names [])) sc.heap.objs.size X.env)) (compPost (model X.prog X.w) X.A X.xe none (EP X pins σ Q) (.ref p) sc.heap.objs.size) { sc with heap := pushCells (sc.heap.push { cls := .type "dict", data := .dict #[] }) scope.names }
  generalize hce : compEnvC scope (cellsFrom (sc.heap.objs.size + 1) scope.names (cloFrom X.env.cells scope.names [])) sc.heap.objs.size X.env = ce at Id pg pt pk pv ⊢
  have eL : ce.locals = sc.heap.objs.size := by subst hce; rfl
  generalize hsd : ({ sc with heap := pushCells (sc.heap.push { cls := .type "dict", data := .dict #[] }) scope.names } : Shared) = sd at Id ⊢
  have std : tn 0 sd.heap := Tn.keep _ _ _ stc fun c _ o e => by rw [← hsd]; exact pushCells_keeps _ _ _ _ (Heap.get?_push_of_some _ e)
  have still : ∀ {σ' : L2.St} {H' : Hp} {s' : Shared}, Inv (X.blk sc Hc scope ce fp) [] σ' H' s' → (∀ c ∈ fp, H' c = none) → ∀ c ∈ fp, FpOk (X.blk sc Hc scope ce fp) [] H' c := fun {σ' H' s'} I' no c hcm =>
    ⟨no c hcm, (I'.ok.exf c hcm).1, I'.ok.exfs c hcm, .inl hcm, fun x y e => (I'.ok.exf c hcm).2 x y e, fun q hq => absurd (show q ∈ ([] : List (Addr × Obj)) ++ [] from hq) (by simp)⟩
  have loop : codeAny (model X.prog X.w) X.A (.compLoop (.DictComp kx vx [⟨tg, iter, ifs, 0⟩] scope pos) 0 (.ref it) (.ref p) ce) (compPost (model X.prog X.w) X.A X.xe none (EP X pins σ Q) (.ref p) sc.heap.objs.size) sd := by
    refine compLoop_anyD (fun n s' => ∃ i H', Inv (X.blk sc Hc scope ce fp) [] (wipe σ (own.map (·.2))) H' s' ∧ tn i s'.heap ∧ (∀ c ∈ fp, H' c = none) ∧ W i n H') ?_ m0 ⟨0, Hc, Id, std, nofp, w0⟩
    rintro n se ⟨i, He, Ie, ste, noe, we⟩
    rcases turn i n He we with ⟨stop, qq⟩ | ⟨go, N, hNx, step⟩
    · have td := Tn.done (X.blk sc Hc scope ce fp) rfl rfl rfl hc i [] se _ He (fun _ _ => False) Ie (still Ie noe) ste stop
      refine thnF td fun r sf ⟨er, If⟩ => ?_
      subst er
      have Ig : Inv X pins σ He sf := Ic.call' (ch := fp) If.os If.base If.hok If.bare fun c hcm => ⟨(fpc c hcm).1.2.2.2.1, (fpc c hcm).1.2.1, (fpc c hcm).1.2.2.2.2.1, (fpc c hcm).1.2.2.2.2.2⟩
      have nC : He sc.heap.objs.size = none := eL ▸ (show He ce.locals = none from If.free)
      obtain ⟨m, hn, _⟩ := If.loc
      have hn : sf.heap.Ns sc.heap.objs.size m := eL ▸ (show sf.heap.Ns ce.locals m from hn)
      obtain ⟨f0, f1, f2, f3, f4, f5⟩ := Ic.fpOk (Nat.le_refl _) nC
      exact ⟨m, hn, fun h'' sbu => ⟨.ref p, He, Ig.turned (t' := sf.toks) (fun c o hb e => (sbu.2 c hb).trans e) f0 f1 f3 f4 f5, rfl, qq⟩⟩
    · have ti := Tn.item (X.blk sc Hc scope ce fp) rfl rfl rfl hc i [] se _ He (fun _ _ => False) Ie (still Ie noe) ste go
      refine thnF ti fun r sf ⟨u, er, hf⟩ => ?_
      subst er
      refine thnF hf fun _ sg ⟨x, Hg, Ig, rg, yg, stg, nog⟩ => ?_
      have Ig' := Ig.pinned (still Ig nog) (Tn.obj _ _ stg)
      refine thnF (pg.run _ sg _ Hg x u _ Ig' rg (step x Hg yg)) fun _ sh ⟨σh, Hh, Ih, hw, qh⟩ => ?_
      refine thnF (pt.run _ sh σh Hh _ Ih qh) fun b sj ⟨Hj, Ij, qj⟩ => ?_
      have fin : ∀ {s' : Shared} {H' : Hp}, Inv (X.blk sc Hc scope ce fp) ([] ++ pinsAt fp sg.heap) σh H' s' → N H' → ∃ m, m < n ∧ ∃ i H', Inv (X.blk sc Hc scope ce fp) [] (wipe σ (own.map (·.2))) H' s' ∧ tn i s'.heap ∧ (∀ c ∈ fp, H' c = none) ∧ W i m H' := fun {s' H'} I' nx => by
        obtain ⟨m', hm, w'⟩ := hNx H' nx
        have pin' : ∀ c ∈ fp, ∀ o, sg.heap.get? c = some o → s'.heap.get? c = some o ∧ H' c = none := fun c hcm o e =>
          let z := I'.pin (c, o) (List.mem_append_right _ (List.mem_append_right _ (mem_pinsAt hcm e)))
          ⟨z.1, z.2.1⟩
        have hln : (wipe σ (own.map (·.2))).length = σh.length := by rw [← hw, wipe_length]
        refine ⟨m', hm, i + 1, H', (I'.unpinned (pins := [])).weak hln (fun j v e => ?_), Tn.keep _ _ _ stg fun c hcm o e => (pin' c hcm o e).1, fun c hcm => ?_, w'⟩
        · rw [← hw] at e
          exact (wipe_some e).1
        · obtain ⟨o, e, _⟩ := Tn.obj _ _ stg c hcm
          exact (pin' c hcm o e).2
      cases b with
      | false =>
        simp only [Bool.false_eq_true, if_false] at qj ⊢
        exact fin Ij qj
      | true =>
        simp only [if_true] at qj ⊢
        refine thnF (pk.run _ sj σh Hj _ Ij qj) fun kv sk ⟨yk, Hk, Ik, rk, qk⟩ => ?_
        refine thnF (pv.run _ sk σh Hk _ Ik qk) fun vv sl ⟨yv, Hl, Il, rl, F, ob1, kvs, k, d, sF, nd, hlen, hok, r1, r2, nx⟩ => ?_
        exact n_dictSet (X := X.blk sc Hc scope ce fp) hu Il sF nd hlen hok r1 rk r2 rl fun o sm Im nd2 => fin Im (nx o nd2)
  exact codeAny_compStart_dict loop (Tn.self X.A 0 _ _ _ std loop)
end
end DL

/-! dict comprehensions: readings; d.get(k, x), d.setdefault(k, x). -/
namespace DL
open PySem PySem.Spec PyProof.Rows L2
def dcL (g : DG) (tt : DT) (tk tv : DE) (S : Gp → Prop) (p : Addr) (δ : Sl) : List D → Gp → (Gp → Prop) → Prop
  | [], G, Q => S G ∧ Q G
  | x :: r, G, Q => S G ∧ g x δ G fun δ2 G2 => tt δ2 G2 fun b G3 => if b = true then tk δ2 G3 fun y G4 => tv δ2 G4 fun z G5 => ∃ o kvs k, G5 p = some (.dctN o kvs) ∧ keyN y = some k ∧ keyOk k = true ∧ kvs.length < sizeLine ∧
      ∀ o', dcL g tt tk tv S p δ r (gu G5 p (.dctN o' (putN kvs k z))) Q else dcL g tt tk tv S p δ r G3 Q
def dDcN (ti : DI) (g : DG) (tt : DT) (tk tv : DE) (vs : List Nat) : DE := fun δ G Q => ti δ G fun its S G1 => ∀ p o, G1 p = none → dcL g tt tk tv S p (wipeD δ vs) its (gu G1 p (.dctN o [])) fun G2 => Q (.ref p) G2
theorem dcL_stays {g : DG} {tt : DT} {tk tv : DE} {S : Gp → Prop} {p : Addr} {δ : Sl} {l : List D} {G : Gp} {Q : Gp → Prop} (h : dcL g tt tk tv S p δ l G Q) : S G := by
  cases l with
  | nil => exact h.1
  | cons x r => exact h.1
section
variable {X : Cx} {F₀ : Hp} {tg iter kx vx : Expr} {ti : DI} {g : DG} {tt : DT} {tk tv : DE} {ifs : List Expr} {scope : Scope} {own : List (Str × Nat)} {pos : Pos}
theorem dc_le {σ : L2.St} {H : Hp} {Q : VK} {vs : List Nat} (h : Le X.K F₀ (dDcN ti g tt tk tv vs) σ H Q) : tDcN X.K (Li X.K F₀ ti) (Lg X.K F₀ vs g) (Lt X.K F₀ tt) (Le X.K F₀ tk) (Le X.K F₀ tv) vs σ H Q := by
  obtain ⟨δ, F, G, Q', s, en, w, q, k⟩ := h
  refine ⟨δ, F, G, _, s, en, w, q, fun its S J F1 G1 H1 s1 w1 it q1 => fun p o hp nd => ?_⟩
  obtain ⟨Gc, Y, W, hgc, hy⟩ := it.ok
  have q1 := q1 p o (w1.gfree hp)
  have w1' : Wd X.K F1 (gu G1 p (.dctN o [])) (upd H1 p (StO p o)) := w1.put (g := .dctN o []) (w1.ffree hp) (nd F1)
  refine ⟨fun i m H => m = its.length - i ∧ i ≤ its.length ∧ ∃ F2 G2, Same F1 F2 ∧ Wd X.K F2 G2 H ∧ dcL g tt tk tv S p (wipeD δ vs) (its.drop i) G2 fun G2 => Q' (.ref p) G2, ⟨its.length, by simp, Nat.zero_le _, F1, _, Same.refl F1, w1', by rw [List.drop_zero]; exact q1⟩, ?_⟩
  rintro i m H ⟨rfl, hi, F2, G2, s2, w2, q2⟩
  have hG := hgc F2 G2 H s2 w2 (dcL_stays q2)
  by_cases hlt : i < its.length
  · rw [List.drop_eq_getElem_cons hlt] at q2
    obtain ⟨st, q2⟩ := q2
    refine .inr ⟨W.goes i H hlt hG, fun H' => i + 1 ≤ its.length ∧ ∃ F2 G2, Same F1 F2 ∧ Wd X.K F2 G2 H' ∧ dcL g tt tk tv S p (wipeD δ vs) (its.drop (i + 1)) G2 fun G2 => Q' (.ref p) G2, fun H' n => ⟨_, by omega, rfl, n⟩, fun x H' yl => ?_⟩
    obtain ⟨F3, s3, w3, r3⟩ := hy i its[i] F2 G2 H x H' s2 w2 st (List.getElem?_eq_getElem hlt) (W.yields i H x H' hlt hG yl)
    have s03 := ((s.trans s1).trans s2).trans s3
    refine ⟨_, wipeD δ vs, F3, G2, _, s03, (((en.mono s1).mono s2).mono s3).wipe vs, w3, r3, q2, fun δ4 σ4 F4 G4 H4 s4 en4 w4 e4 q4 => ⟨?_, ?_⟩⟩
    · rw [e4]
      exact wipe_wipe vs fun v hv => hv
    · refine ⟨δ4, F4, G4, _, s03.trans s4, en4, w4, q4, fun b F5 G5 H5 s5 w5 q5 => ?_⟩
      cases b with
      | true =>
        rw [if_pos rfl] at q5 ⊢
        refine ⟨δ4, F5, G5, _, (s03.trans s4).trans s5, en4.mono s5, w5, q5, fun y v F6 G6 H6 s6 w6 r6 q6 => ?_⟩
        refine ⟨δ4, F6, G6, _, ((s03.trans s4).trans s5).trans s6, (en4.mono s5).mono s6, w6, q6, fun z u F7 G7 H7 s7 w7 r7 q7 => ?_⟩
        obtain ⟨ob, kvs, kk, hGp, hk, hok, hl, q7⟩ := q7
        obtain ⟨fp, nd7⟩ := w7.mu p _ hGp
        have r6 := r6.mono s7
        rw [← keyN_eq _ _ hk] at r6
        refine ⟨F7, ob, kvs, kk, z, w7.fz, nd7, hl, hok, r6, r7, fun o' nd8 => ⟨by omega, F7, _, ((((s2.trans s3).trans s4).trans s5).trans s6).trans s7, w7.put (g := .dctN o' _) fp nd8, q7 o'⟩⟩
      | false =>
        rw [if_neg Bool.false_ne_true] at q5 ⊢
        exact ⟨by omega, F5, G5, ((s2.trans s3).trans s4).trans s5, w5, q5⟩
  · have e : i = its.length := by omega
    subst e
    rw [List.drop_length] at q2
    exact .inl ⟨W.stops H hG, k (.ref p) _ F2 G2 H (s1.trans s2) w2 (.ref p) q2.2⟩
theorem de_dcN (hu : X.A.units + 8 < cLine) (hc : X.calm = true) (hN : X.N.Nodup) (hi : PI X tg iter (Li X.K F₀ ti)) (ok : BlkOk X.N X.env.scope scope own)
    (hg : ∀ (sh : Shared) (Hb : Hp) (C : Addr) (cl : List (Str × Addr)) (fp : List Addr), PG (X.blk sh Hb scope (compEnvC scope cl C X.env) fp) tg (Lg X.K F₀ (own.map (·.2)) g))
    (ht : ∀ (sh : Shared) (Hb : Hp) (C : Addr) (cl : List (Str × Addr)) (fp : List Addr), PTs (X.blk sh Hb scope (compEnvC scope cl C X.env) fp) ifs (Lt X.K F₀ tt))
    (hk : ∀ (sh : Shared) (Hb : Hp) (C : Addr) (cl : List (Str × Addr)) (fp : List Addr), PE (X.blk sh Hb scope (compEnvC scope cl C X.env) fp) kx (Le X.K F₀ tk))
    (he : ∀ (sh : Shared) (Hb : Hp) (C : Addr) (cl : List (Str × Addr)) (fp : List Addr), PE (X.blk sh Hb scope (compEnvC scope cl C X.env) fp) vx (Le X.K F₀ tv))
    (hs : ∀ x, foldedSetIterable iter X.env x = pure x := by intro _; rfl) : PE X (.DictComp kx vx [⟨tg, iter, ifs, 0⟩] scope pos) (Le X.K F₀ (dDcN ti g tt tk tv (own.map (·.2)))) :=
  pe_imp (dcN_core hu hc hN hi ok hg ht hk he hs) fun _ _ _ => dc_le
end
/-! ### d.get(k, x), d.setdefault(k, x): keys whole numbers or texts -/
def dGet2 (td ti tx : DE) : DE := fun δ G Q => td δ G fun x G1 => (dctOf x G1).isSome = true ∧ ti δ G1 fun y G2 => tx δ G2 fun z G3 => match dctOf x G3, keyD y with
  | some kvs, some k => Q ((valD kvs k).getD z) G3
  | _, _ => False
def dSetd (td ti tx : DE) : DE := fun δ G Q => td δ G fun x G1 => (dctOf x G1).isSome = true ∧ ti δ G1 fun y G2 => tx δ G2 fun z G3 => match x, keyD y with
  | .ref a, some k => match G3 a with
    | some (.dct kvs) => kvs.length < sizeLine ∧ (match valD kvs k with
      | some d => Q d G3
      | none => Q z (gu G3 a (.dct (putD2 kvs k z))))
    | _ => False
  | _, _ => False
section
variable {X : Cx} {F₀ : Hp} {o e f : Expr} {apos cpos : Pos} {td ti tx : DE}
theorem Rpk.none {K : PySem.W.Frag} {F : Hp} {k : Key} : ∀ {ds : List (Key × D)} {vs : List (Key × V)}, Rpk K F ds vs → valD ds k = none → valV vs k = none
  | [], _, r, _ => by cases r; rfl
  | (j, e) :: ds, _, r, h => by
    cases r with
    | cons a b =>
      unfold valD at h
      rw [List.find?_cons] at h
      by_cases hj : j = k
      · rw [decide_eq_true hj] at h; cases h
      · rw [decide_eq_false hj] at h
        exact (valV_neg hj).trans (Rpk.none b h)
theorem de_get2 (hu : X.A.units + 1 < cLine) (m : M2 X o "get" apos e f cpos) (ho : PE X o (Le X.K F₀ td)) (he : PE X e (Le X.K F₀ ti)) (hf : PE X f (Le X.K F₀ tx)) : PE X (.Call (.Attribute o "get" apos) [e, f] [] cpos) (Le X.K F₀ (dGet2 td ti tx)) :=
  pe_imp (pe_dget2 hu ho he hf m) fun σ H Q ⟨δ, F, G, Q', s, en, w, q, k⟩ => by
    refine ⟨δ, F, G, _, s, en, w, q, fun x v F1 G1 H1 s1 w1 r1 q1 => ?_⟩
    obtain ⟨hx, q1⟩ := q1
    obtain ⟨kvs0, e0⟩ := Option.isSome_iff_exists.mp hx
    obtain ⟨a, vs0, rfl, hH0, _⟩ := dctOf_ok w1 r1 e0
    refine ⟨a, rfl, .inl ⟨_, .inl hH0⟩, δ, F1, G1, _, s.trans s1, en.mono s1, w1, q1, fun y u F2 G2 H2 s2 w2 r2 q2 => ?_⟩
    refine ⟨δ, F2, G2, _, (s.trans s1).trans s2, (en.mono s1).mono s2, w2, q2, fun z u3 F3 G3 H3 s3 w3 r3 q3 => ?_⟩
    split at q3
    · rename_i kvs k' h1 h2
      obtain ⟨a', vs, ea, hH, rk⟩ := dctOf_ok w3 (r1.mono (s2.trans s3)) h1
      cases ea
      have ey := keyD_ok h2 r2
      subst ey
      refine ⟨valV vs k', DGet.k hH, ?_⟩
      cases hv : valD kvs k' with
      | some d =>
        rw [hv] at q3
        obtain ⟨v', e', rv⟩ := rk.val hv
        rw [e']
        exact k _ _ F3 G3 H3 ((s1.trans s2).trans s3) w3 rv q3
      | none =>
        rw [hv] at q3
        rw [rk.none hv]
        exact k _ _ F3 G3 H3 ((s1.trans s2).trans s3) w3 r3 q3
    · exact q3.elim
theorem de_setd (m : M2 X o "setdefault" apos e f cpos) (ho : PE X o (Le X.K F₀ td)) (he : PE X e (Le X.K F₀ ti)) (hf : PE X f (Le X.K F₀ tx)) : PE X (.Call (.Attribute o "setdefault" apos) [e, f] [] cpos) (Le X.K F₀ (dSetd td ti tx)) :=
  pe_imp (pe_dsetd ho he hf m) fun σ H Q ⟨δ, F, G, Q', s, en, w, q, k⟩ => by
    refine ⟨δ, F, G, _, s, en, w, q, fun x v F1 G1 H1 s1 w1 r1 q1 => ?_⟩
    obtain ⟨hx, q1⟩ := q1
    obtain ⟨kvs0, e0⟩ := Option.isSome_iff_exists.mp hx
    obtain ⟨a, vs0, rfl, hH0, _⟩ := dctOf_ok w1 r1 e0
    refine ⟨a, rfl, .inl ⟨_, .inl hH0⟩, δ, F1, G1, _, s.trans s1, en.mono s1, w1, q1, fun y u F2 G2 H2 s2 w2 r2 q2 => ?_⟩
    refine ⟨δ, F2, G2, _, (s.trans s1).trans s2, (en.mono s1).mono s2, w2, q2, fun z u3 F3 G3 H3 s3 w3 r3 q3 => ?_⟩
    split at q3
    · rename_i a' k' h2
      split at q3
      · rename_i kvs hG
        obtain ⟨hl, q3⟩ := q3
        cases r1
        obtain ⟨fa, vs, hH, rk⟩ := w3.mu _ _ hG
        have ey := keyD_ok h2 r2
        subst ey
        refine ⟨vs, k', hH, rfl, by rw [rk.len]; exact hl, fun v' hv => ?_, fun hv => ?_⟩
        · cases hd : valD kvs k' with
          | some d =>
            rw [hd] at q3
            obtain ⟨v2, e', rv⟩ := rk.val hd
            rw [hv] at e'
            cases e'
            exact k _ _ F3 G3 H3 ((s1.trans s2).trans s3) w3 rv q3
          | none => rw [rk.none hd] at hv; cases hv
        · cases hd : valD kvs k' with
          | some d =>
            obtain ⟨v2, e', rv⟩ := rk.val hd
            rw [hv] at e'
            cases e'
          | none =>
            rw [hd] at q3
            exact k _ _ F3 _ _ ((s1.trans s2).trans s3) (w3.put (g := .dct (putD2 kvs k' z)) fa ⟨_, upd_same, rk.put r3⟩) r3 q3
      · exact q3.elim
    · exact q3.elim
end
end DL

/-! xs.remove(k), k a key; d.update(d2). -/
namespace DL
open PySem PySem.Spec PyProof.Rows L2
/-- the items are keys -/
def nkL (xs : List D) : Option (List NestedKey) := keysN xs
theorem nkDs_map (ks : List NestedKey) : nkDs ks = ks.map nkD := by
  induction ks with
  | nil => rfl
  | cons k ks ih => show nkD k :: nkDs ks = _; rw [ih]; rfl
def rRemN (K : PySem.W.Frag) : V → List V → Hp → VK → Prop := fun x vs H Q => ∃ (F : Hp) (l : Addr) (ks : List NestedKey) (k : NestedKey) (xs : List V) (y : V), x = .ref l ∧ vs = [y] ∧ Same F H ∧ H l = some (.lst xs) ∧ Rps K F (nkDs ks) xs ∧ Rp K F (nkD k) y ∧ k.depth ≤ 30 ∧ k ∈ ks ∧
  Q .non (upd H l (.lst (xs.eraseIdx (ks.idxOf k))))
theorem nks_get {h : Heap} : ∀ {ks : List NestedKey} {us : List Value}, NestedAll h ks us → ∀ (j : Nat) (u : Value), us[j]? = some u → ∃ k, ks[j]? = some k ∧ NestedIs h k u
  | _, _, .nil, j, u, e => by simp at e
  | _, _, .cons a b, 0, u, e => by simp at e; subst e; exact ⟨_, rfl, a⟩
  | _, _, .cons a b, j + 1, u, e => by simpa using nks_get b j u (by simpa using e)
section
variable {X : Cx}
open Classical in
theorem mt_removeN (hu : X.A.units + 40 < cLine) : MtM X "list.remove" (rRemN X.K) := by
  intro pins s σ H x vs v us Q I rx rv ⟨F, l, ks, k, xs, y, e1, e2, sF, hH, rks, rk, hd, hm, q⟩
  subst e1 e2
  cases rx
  obtain ⟨u, rfl, ru⟩ := rv.one
  obtain ⟨z, its, n, r, hl, e⟩ := I.lstM hH
  have hk := nk_is I sF k y u rk ru
  have hks := nks_is I sF ks xs its rks r
  have hln : its.length = ks.length := NestedAll.length _ _ hks
  have hj : ks.idxOf k < ks.length := List.idxOf_lt_length_iff.mpr hm
  have hjl : ks.idxOf k < its.toArray.size := by rw [List.size_toArray]; omega
  have at_ : ∀ m (hm : m < its.toArray.size), ∃ km, ks[m]? = some km ∧ NestedIs s.heap km its.toArray[m] := fun m hm => nks_get hks m _ (by simp)
  have eE : ∀ w ∈ its.toArray, PySem.SeqAt.EqAt X.A.in1 s w u (decide (NestedIs s.heap k w)) := fun w hw => by
    obtain ⟨m, hm, rfl⟩ := Array.getElem_of_mem hw
    obtain ⟨km, _, hkm⟩ := at_ m hm
    have h1 := eqAt_key km k X.A.in1 s _ _ hkm hk (by show X.A.units + 1 + _ < _; omega)
    rw [show decide (NestedIs s.heap k its.toArray[m]) = NestedKey.beq km k by
      rw [← NestedKey.decide_eq, decide_eq_decide]
      exact ⟨fun z => NestedIs.inj _ _ _ hkm z, fun z => z ▸ hkm⟩]
    exact h1
  refine call_meets PySem.F.slot_list_remove ⟨_, e, rfl⟩ PySem.F.entry_list_remove (PySem.F.args_list_remove_2 _ _)
    (PySem.SeqAt.list_removeAt l its.toArray n none #[] u (fun w => decide (NestedIs s.heap k w)) (ks.idxOf k) hjl ?_ ?_ (by rw [List.size_toArray]; omega)) ⟨e, eE, ?_⟩
  · obtain ⟨km, e3, hkm⟩ := at_ _ hjl
    rw [List.getElem?_eq_getElem hj, List.getElem_idxOf hj] at e3
    cases e3
    exact decide_eq_true hkm
  · intro m hml hmj
    obtain ⟨km, e3, hkm⟩ := at_ _ hml
    refine decide_eq_false fun z => ?_
    have e4 := NestedIs.inj _ _ _ hkm z
    subst e4
    have hmn : m < ks.length := by omega
    rw [List.getElem?_eq_getElem hmn] at e3
    have hn := List.not_of_lt_findIdx (p := (· == km)) (xs := ks) (i := m) hmj
    rw [Option.some.inj e3] at hn
    simp at hn
  · have rr := r.eraseIdx (ks.idxOf k)
    refine ⟨.non, _, I.lset (its' := its.eraseIdx (ks.idxOf k)) (t' := s.toks) hH e ?_ rr ?_, rfl, q⟩
    · show its.toArray.eraseIdxIfInBounds (ks.idxOf k) = (its.eraseIdx (ks.idxOf k)).toArray
      rw [List.eraseIdxIfInBounds_toArray]
    · have z2 : (xs.eraseIdx (ks.idxOf k)).length ≤ xs.length := by
        rw [List.length_eraseIdx]
        split <;> omega
      omega
end
def dRemN : D → List D → Gp → DK → Prop := fun x ys G Q => match ys with
  | [y] => atL x G fun a xs => ∃ k ks, keyN y = some k ∧ keysN xs = some ks ∧ k.depth ≤ 30 ∧ k ∈ ks ∧ Q .non (gu G a (.lst (xs.eraseIdx (ks.idxOf k))))
  | _ => False
theorem md_removeN {K : PySem.W.Frag} {F₀ : Hp} : MeD K F₀ dRemN (rRemN K) := by
  intro F G H x v xs vs Q' Q s w r rs q k
  unfold dRemN at q
  split at q
  · rename_i y
    obtain ⟨u, rfl, ru⟩ := rps1 rs
    obtain ⟨a, ys, us, rfl, f1, hv, rv, _, kk, ks, h1, h2, h3, h4, q⟩ := atL_ok w r q
    have e1 := keyN_eq _ _ h1
    have e2 := keysN_eq _ _ h2
    refine ⟨F, a, ks, kk, us, u, rfl, rfl, w.fz, hv, by rw [e2]; exact rv, by rw [e1]; exact ru, h3, h4, ?_⟩
    exact k _ _ F _ _ (Same.refl F) (w.put (g := .lst (ys.eraseIdx (ks.idxOf kk))) f1 ⟨_, upd_same, erase_rps _ rv⟩) .non q
  · exact q.elim
/-! ### d.update(d2), d not empty -/
def mergeN {β : Type} (kvs more : List (NestedKey × β)) : List (NestedKey × β) := more.foldl (fun acc p => putN acc p.1 p.2) kvs
section
variable {K : PySem.W.Frag} {F : Hp}
theorem relN_merge : ∀ {more : List (NestedKey × D)} {ys : List (NestedKey × Addr × Value)} {kvs : List (NestedKey × D)} {xs : List (NestedKey × Addr × Value)}, Paired (RelN K F) more ys → Paired (RelN K F) kvs xs → Paired (RelN K F) (mergeN kvs more) (PySem.storedAllH xs ys)
  | _, _, _, _, .nil, h => h
  | (k, d) :: more, (k', b, r) :: ys, kvs, xs, .cons ⟨e, h1, v, h2, h3⟩ t, h => by
    cases (show k = k' from e)
    show Paired (RelN K F) (mergeN (putN kvs k d) more) (PySem.storedAllH (storedH xs k b r) ys)
    exact relN_merge (more := more) (ys := ys) t (relN_put h1 h2 h3 h)
theorem mergeN_len {β : Type} : ∀ {more kvs : List (NestedKey × β)}, (mergeN kvs more).length ≤ kvs.length + more.length
  | [], _ => by unfold mergeN; simp
  | p :: more, kvs => by
    have h1 := mergeN_len (more := more) (kvs := putN kvs p.1 p.2)
    have h2 := putN_len (kvs := kvs) (k := p.1) (v := p.2)
    show (mergeN (putN kvs p.1 p.2) more).length ≤ _
    rw [List.length_cons]
    omega
theorem mergeN_keys {β : Type} : ∀ {more kvs : List (NestedKey × β)}, (∀ p ∈ kvs, keyOk p.1 = true) → (∀ p ∈ more, keyOk p.1 = true) → ∀ p ∈ mergeN kvs more, keyOk p.1 = true
  | [], _, h, _ => h
  | p :: more, kvs, h, h2 => mergeN_keys (more := more) (putN_keys h (h2 p List.mem_cons_self)) fun q hq => h2 q (List.mem_cons_of_mem _ hq)
end
def dNUpd (td tm : DE) : DE := fun δ G Q => td δ G fun x G1 => (nOf x G1).isSome = true ∧ tm δ G1 fun y G2 => ∃ a o kvs b o2 more, nOf x G2 = some (a, o, kvs) ∧ nOf y G2 = some (b, o2, more) ∧ a ≠ b ∧ kvs ≠ [] ∧ kvs.length + more.length ≤ sizeLine ∧ ∀ o', Q .non (gu G2 a (.dctN o' (mergeN kvs more)))
section
variable {X : Cx} {F₀ : Hp} {o e : Expr} {apos cpos : Pos} {td tm : DE}
theorem de_nupd (hu : X.A.in1.units + 8 < cLine) (m : M1 X o "update" apos e cpos) (ho : PE X o (Le X.K F₀ td)) (he : PE X e (Le X.K F₀ tm)) : PE X (.Call (.Attribute o "update" apos) [e] [] cpos) (Le X.K F₀ (dNUpd td tm)) := by
  refine ⟨fun pins s σ H Q I ⟨δ, F, G, Q', s0, en, w, q, k⟩ => ?_⟩
  refine wpAny_Call_method m.base m.few m.line PySem.F.plainAttrs_dict PySem.F.slot_dict_update PySem.F.type_dict_update (thn (le_run ho I s0 en w q) fun u s1 ⟨v1, H1, I1, r1, x, F1, G1, sa, w1, rx, hx, q1⟩ => ?_)
  obtain ⟨⟨a0, o0, kvs0⟩, e0⟩ := Option.isSome_iff_exists.mp hx
  obtain ⟨rfl, rfl, fa0, nd0, _⟩ := nOf_ok w1 rx e0
  obtain rfl : u = .ref a0 := r1
  obtain ⟨t1, t2⟩ := n_ty I1 w1.fz nd0
  refine ⟨t1, t2, ?_⟩
  rw [m.trees]
  refine Calls.callWith_builtin rfl (Calls.evalArgs_plain (Calls.spliced_cons (thn (le_run he I1 (s0.trans sa) (en.mono sa) w1 q1) fun iv s2 ⟨v2, H2, I2, r2, y, F2, G2, sb, w2, ry, a, ob, kvs, b, ob2, more, hn, hn2, hab, hne, hsz, q2⟩ => Calls.spliced_nil ?_)))
  obtain ⟨e3, e4, fa, nd, hG⟩ := nOf_ok w2 (rx.mono sb) hn
  cases e4
  obtain ⟨rfl, rfl, fb, nd2, hG2⟩ := nOf_ok w2 ry hn2
  obtain rfl : iv = .ref b := r2
  obtain ⟨xs, dd, rel, hxl, mu⟩ := nd_at I2 w2.fz nd
  obtain ⟨ys, dd2, rel2, hyl, _⟩ := nd_at I2 w2.fz nd2
  have hxn : xs ≠ [] := fun z => hne (List.length_eq_zero_iff.mp (by rw [← hxl, z]; rfl))
  refine call_update_dictH hu hab nd2.sm dd dd2 (.inl hxn) (by omega) fun h' d1 d2 sbu => ?_
  obtain ⟨on, ho2, nd3⟩ := nd_new (H := H2) d1 nd.sm (Nat.le_trans mergeN_len hsz) (mergeN_keys nd.ks nd2.ks) (relN_merge rel2 rel)
  exact ⟨.non, _, d_write I2 mu sbu ⟨on, ho2⟩ (stO_ok ho2), rfl, k .non _ F2 _ _ (sa.trans sb) (w2.put (g := .dctN on _) fa nd3) .non (q2 on)⟩
end
end DL

/-! {k: v}, k a tuple. -/
namespace DL
open PySem PySem.Spec PyProof.Rows L2
def dDispN (tk tv : DE) : DE := fun δ G Q => ∀ p o, G p = none → tk δ (gu G p (.dctN o [])) fun y G1 => tv δ G1 fun z G2 => ∃ o1 k, G2 p = some (.dctN o1 []) ∧ keyN y = some k ∧ keyOk k = true ∧ ∀ o', Q (.ref p) (gu G2 p (.dctN o' [(k, z)]))
section
variable {X : Cx} {F₀ : Hp} {ke ve : Expr} {pos : Pos} {tk tv : DE}
theorem de_dispN (hu : X.A.units + 8 < cLine) (hk : PE X ke (Le X.K F₀ tk)) (hv : PE X ve (Le X.K F₀ tv)) : PE X (.Dict [some ke] [ve] pos) (Le X.K F₀ (dDispN tk tv)) := by
  refine ⟨fun pins s σ H Q I ⟨δ, F, G, Q', s0, en, w, q, k⟩ => ?_⟩
  have nH : H s.heap.objs.size = none := I.hok.fresh (Nat.le_refl _)
  obtain ⟨ob, ho, nd⟩ := nd_new (H := H) (K := X.K) (F := F) (Heap.DictOfH.new (knd := nestedKind X.prog X.w) s.heap) (beq_eq_false_iff_ne.mpr (Ne.symm (Nat.ne_of_lt I.big))) (Nat.zero_le _) (fun p hp => absurd hp List.not_mem_nil) (.nil : Paired (RelN X.K F) [] [])
  have I1 : Inv X pins σ (upd H s.heap.objs.size (StO s.heap.objs.size ob)) { s with heap := s.heap.push { cls := .type "dict", data := .dict #[] } } := I.laid (t' := s.toks) (fun _ _ e => Heap.get?_push_of_some _ e) (Nat.le_refl _) (stO_ok ho)
  have w1 : Wd X.K F (gu G s.heap.objs.size (.dctN ob [])) (upd H s.heap.objs.size (StO s.heap.objs.size ob)) := w.put (w.ffree nH) nd
  have q1 := q s.heap.objs.size ob (w.gfree nH)
  rw [arm_eval_Dict, zip_pairTrees [some ke] [ve] X.env pos rfl rfl, dictDisplay_pairs (pairTrees [some ke] [ve] X.env pos) (by intro z; cases z) (by show 1 < 17; decide)]
  refine wpAny_bind (wpAny_standAt (wpAny_bind (wpAny_subDictH (knd := nestedKind X.prog X.w) hu (by show 1 ≤ 15; decide) ?_)))
  refine pairTrees_cons_walk (thn (le_run hk I1 s0 en w1 q1) fun kv s1 ⟨v1, H1, I2, r1, y, F1, G1, sa, w2, ry, q2⟩ => thn (le_run hv I2 (s0.trans sa) (en.mono sa) w2 q2) fun vv s2 ⟨v2, H2, I3, r2, z, F2, G2, sb, w3, rz, o1, kk, hG, hkk, hok, q3⟩ => pairTrees_nil_walk ?_)
  obtain ⟨fp, nd3⟩ := w3.mu _ _ hG
  have ry := ry.mono sb
  rw [← keyN_eq _ _ hkk] at ry
  obtain ⟨b, rfl, rfl, hb⟩ := key_at I3 w3.fz hok ry r1
  obtain ⟨xs, dd, rel, _, mu⟩ := nd_at I3 w3.fz nd3
  cases rel
  refine ⟨[(kk, b, vv)], ⟨rfl, rfl, hb, trivial⟩, dd, fun h' tk' d1 sbu => wpAny_pure ?_⟩
  obtain ⟨on, hon, nd4⟩ := nd_new (H := H2) d1 nd3.sm (kvs := [(kk, z)]) (by show 1 ≤ sizeLine; decide) (fun p hp => by rw [List.mem_singleton.mp hp]; exact hok) (relN_merge (kvs := []) (xs := []) (more := [(kk, z)]) (.cons ⟨rfl, ry, v2, r2, rz⟩ .nil) .nil)
  exact ⟨.ref _, _, d_write (t' := tk') I3 mu sbu ⟨on, hon⟩ (stO_ok hon), rfl, k _ _ F2 _ _ (sa.trans sb) (w3.put (g := .dctN on [(kk, z)]) fp nd4) (.ref _) (q3 on)⟩
end
theorem units8 {k : Nat} {A : Around} (r : Room k A) : A.units + 8 < cLine := by
  have := r.un
  omega
theorem units60 {k : Nat} {A : Around} (r : Room k A) : A.units + 60 < cLine := by
  have := r.un
  omega
theorem units40 {k : Nat} {A : Around} (r : Room k A) : A.units + 40 < cLine := by
  have := r.un
  omega
end DL

/-! list(range(a, b)). -/
namespace DL
open PySem PySem.Spec PyProof.Rows L2
section
variable {X : Cx} {F₀ : Hp} {ta tb : DE} {a b : Expr} {p pos p2 pos2 : Pos}
theorem de_listRg2 (m : Bool) (hc : X.calm = true) (hg : Gl X "list") (hm : X.mg "list" = none) (hg2 : Gl X "range") (hm2 : X.mg "range" = none) (ha : PE X a (Le X.K F₀ ta)) (hb : PE X b (Le X.K F₀ tb))
    (na : starEach [a, b] X.env = (false, eval a X.env) :: starEach [b] X.env := by rfl) (nb : starEach [b] X.env = (false, eval b X.env) :: starEach [] X.env := by rfl)
    (nc : starEach [Expr.Call (.Name "range" p2) [a, b] [] pos2] X.env = (false, eval (Expr.Call (.Name "range" p2) [a, b] [] pos2) X.env) :: starEach [] X.env := by rfl) (hp : (backTo pos2 (starEach [b] X.env)).any (·.1) = false := by rfl) :
    PE X (.Call (.Name "list" p) [.Call (.Name "range" p2) [a, b] [] pos2] [] pos) (Le X.K F₀ (dRg2 m ta tb)) := pe_imp (pe_listRg hc hg hm (prg_2 hg2 hm2 ha hb na nb hp) nc) fun σ H Q ⟨δ, F, G, Q', s, en, w, q, k⟩ => by
  refine ⟨δ, F, G, _, s, en, w, q, fun x v F1 G1 H1 s1 w1 r1 q1 => ?_⟩
  refine ⟨δ, F1, G1, _, s.trans s1, en.mono s1, w1, q1, fun y u F2 G2 H2 s2 w2 r2 q2 => ?_⟩
  split at q2
  · cases r1
    cases r2
    exact ⟨_, _, rfl, rfl, q2.1, fun p hp => nL_ok w2 hp (rgD_rp _ _) q2.2 (k.mono (s1.trans s2))⟩
  · exact q2.elim
end
end DL

/-! x is True, x is not True, of flags. -/
namespace DL
open PySem PySem.Spec PyProof.Rows L2
def dIsB (neg : Bool) : D2 := fun x y G Q => match x, y with
  | .bl a, .bl b => Q (.bl (if neg = true then !decide (a = b) else decide (a = b))) G
  | _, _ => False
section
variable {K : PySem.W.Frag} {F₀ : Hp}
theorem od_isB : OpD K F₀ (dIsB false) (fun x y H Q => ∃ a b, x = .bl a ∧ y = .bl b ∧ Q (.bl (decide (a = b))) H) := by
  intro F G H x y v u Q' Q s w rx ry q k
  unfold dIsB at q
  split at q
  · cases rx
    cases ry
    exact ⟨_, _, rfl, rfl, k _ _ F G H (Same.refl F) w (.bl _) q⟩
  · exact q.elim
theorem od_notB : OpD K F₀ (dIsB true) (fun x y H Q => ∃ a b, x = .bl a ∧ y = .bl b ∧ Q (.bl (!decide (a = b))) H) := by
  intro F G H x y v u Q' Q s w rx ry q k
  unfold dIsB at q
  split at q
  · cases rx
    cases ry
    exact ⟨_, _, rfl, rfl, k _ _ F G H (Same.refl F) w (.bl _) q⟩
  · exact q.elim
end
section
variable {X : Cx} {F₀ : Hp} {o i : Expr} {pos : Pos} {td ti : DE}
theorem pc_nin (hu : X.A.in1.units + 8 < cLine) (hi : PE X i (Le X.K F₀ ti)) (ho : PE X o (Le X.K F₀ td)) : PC X .In i o (Le X.K F₀ (dNIn false ti td)) := by
  refine ⟨fun pins s σ H Q I ⟨δ, F, G, Q', s0, en, w, q, k⟩ => ?_⟩
  refine thn (le_run hi I s0 en w q) fun iv s1 ⟨v1, H1, I1, r1, y, F1, G1, sa, w1, ry, q1⟩ => thn (le_run ho I1 (s0.trans sa) (en.mono sa) w1 q1) fun u s2 ⟨v2, H2, I2, r2, x, F2, G2, sb, w2, rx, a, ob, kvs, kk, hn, hk, hok, q2⟩ => ?_
  obtain ⟨rfl, rfl, fa, nd, _⟩ := nOf_ok w2 rx hn
  obtain rfl : u = .ref a := r2
  have ry := ry.mono sb
  rw [← keyN_eq _ _ hk] at ry
  exact n_in hu I2 w2.fz nd hok ry r1 fun s3 I3 => ⟨.bl _, H2, I3, rfl, k _ _ F2 G2 H2 (sa.trans sb) w2 (.bl _) q2⟩
theorem pc_nnin (hu : X.A.in1.units + 8 < cLine) (hi : PE X i (Le X.K F₀ ti)) (ho : PE X o (Le X.K F₀ td)) : PC X .NotIn i o (Le X.K F₀ (dNIn true ti td)) := by
  refine ⟨fun pins s σ H Q I ⟨δ, F, G, Q', s0, en, w, q, k⟩ => ?_⟩
  refine thn (le_run hi I s0 en w q) fun iv s1 ⟨v1, H1, I1, r1, y, F1, G1, sa, w1, ry, q1⟩ => thn (le_run ho I1 (s0.trans sa) (en.mono sa) w1 q1) fun u s2 ⟨v2, H2, I2, r2, x, F2, G2, sb, w2, rx, a, ob, kvs, kk, hn, hk, hok, q2⟩ => ?_
  obtain ⟨rfl, rfl, fa, nd, _⟩ := nOf_ok w2 rx hn
  obtain rfl : u = .ref a := r2
  have ry := ry.mono sb
  rw [← keyN_eq _ _ hk] at ry
  exact n_notIn hu I2 w2.fz nd hok ry r1 fun s3 I3 => ⟨.bl _, H2, I3, rfl, k _ _ F2 G2 H2 (sa.trans sb) w2 (.bl _) q2⟩
theorem dt_nin (hu : X.A.in1.units + 8 < cLine) (hm : behindInMarks .In o = false) (hi : PE X i (Le X.K F₀ ti)) (ho : PE X o (Le X.K F₀ td)) : PT X (.Compare i [.In] [o] pos) (Lt X.K F₀ (dB (dNIn false ti td))) :=
  pt_imp (pt_cmp (pc_nin hu hi ho) hm) fun _ _ _ h => lt_of_le h
theorem dt_nnin (hu : X.A.in1.units + 8 < cLine) (hm : behindInMarks .NotIn o = false) (hi : PE X i (Le X.K F₀ ti)) (ho : PE X o (Le X.K F₀ td)) : PT X (.Compare i [.NotIn] [o] pos) (Lt X.K F₀ (dB (dNIn true ti td))) :=
  pt_imp (pt_cmp (pc_nnin hu hi ho) hm) fun _ _ _ h => lt_of_le h
end
/-- a comprehension in another one that names nothing of what stands around -/
theorem blkOk_any {N : List Str} {sc scope : Scope} {own : List (Str × Nat)} (sc0 : Scope) (h0 : sc0.names = []) (h : blkC N sc0 scope own = true) : BlkOk N sc scope own := by
  refine blkOk_by ?_
  unfold blkC at h ⊢
  rw [Bool.and_eq_true] at h ⊢
  refine ⟨h.1, ?_⟩
  have h4 := h.2
  rw [List.all_eq_true] at h4 ⊢
  intro y hy
  have := h4 y hy
  rw [h0] at this
  cases hk : y.2 <;> rw [hk] at this <;> first | exact this | (simp at this)
end DL

/-! comprehensions inside others. -/
namespace DL
open PySem PySem.Spec PyProof.Rows L2
/-- a comprehension in another one that names some of what stands around -/
theorem blkOk_fr {N : List Str} {sc scope : Scope} {own : List (Str × Nat)} (fr : List Str) (hf : ∀ y ∈ fr, sc.names.lookup y = some .cell ∨ sc.names.lookup y = some .free) (h : blkC N ⟨.function, fr.map fun y => (y, .free), false, false, []⟩ scope own = true) : BlkOk N sc scope own := by
  refine blkOk_by ?_
  unfold blkC at h ⊢
  rw [Bool.and_eq_true] at h ⊢
  refine ⟨h.1, ?_⟩
  have h4 := h.2
  rw [List.all_eq_true] at h4 ⊢
  intro y hy
  have := h4 y hy
  cases hk : y.2 <;> rw [hk] at this <;> first | exact this | skip
  have hl : ∀ l : List Str, y.1 ∉ l → (l.map fun y => (y, NameKind.free)).lookup y.1 = none := fun l => by
    induction l with
    | nil => exact fun _ => rfl
    | cons a l ih =>
      intro hn
      have hne : y.1 ≠ a := fun z => hn (by rw [z]; exact List.mem_cons_self)
      rw [List.map_cons, List.lookup_cons, beq_eq_false_iff_ne.mpr hne]
      exact ih fun z => hn (List.mem_cons_of_mem _ z)
  have hy1 : y.1 ∈ fr := by
    rcases Classical.em (y.1 ∈ fr) with z | z
    · exact z
    · simp only at this
      rw [hl fr z] at this
      cases this
  rcases hf _ hy1 with e | e <;> rw [e]
end DL

/-! Texts: the signs of a text one by one, a sign in a text, split, join, int of a text. -/
namespace DL
open PySem PySem.Spec PyProof.Rows L2
/-- the signs of a text -/
def sgD (x : Str) : List D := x.cps.toList.map fun c => .str ⟨#[c]⟩
def dStrI (t : DE) : DI := fun δ G Q => t δ G fun x G1 => match x with
  | .str z => Q (sgD z) Sure G1
  | _ => False
section
variable {X : Cx} {F₀ : Hp} {tg e : Expr} {ta : DE}
theorem di_str (he : PE X e (Le X.K F₀ ta)) : PI X tg e (Li X.K F₀ (dStrI ta)) := by
  refine pi_imp (pi_str he) fun σ H R ⟨δ, F, G, Q', s, en, w, q, k⟩ => ?_
  refine ⟨δ, F, G, _, s, en, w, q, fun x v F1 G1 H1 s1 w1 r1 q1 => ?_⟩
  cases x with
  | str z =>
    cases r1
    refine ⟨z, rfl, k (sgD z) Sure _ F1 G1 H1 s1 w1 ⟨_, _, by rw [show (sgD z).length = z.cps.size by unfold sgD; rw [List.length_map, Array.length_toList]]; exact walk_str, fun _ _ _ _ _ _ => trivial, fun i d F2 G2 H2 x H' s2 w2 _ e y => ?_⟩ q1⟩
    obtain ⟨rfl, c, hc, rfl⟩ := y
    unfold sgD at e
    rw [List.getElem?_map, Array.getElem?_toList, hc] at e
    cases e
    exact ⟨F2, Same.refl F2, w2, .str _⟩
  | _ => exact q1.elim
end
/-- a sign in a text -/
def dInS (neg : Bool) : D2 := fun x y G Q => ∃ (c : Nat) (z : Str), x = .str ⟨#[c]⟩ ∧ y = .str z ∧ Q (.bl (if neg then !decide (c ∈ z.cps.toList) else decide (c ∈ z.cps.toList))) G
section
variable {K : PySem.W.Frag} {F₀ : Hp}
theorem od_inS : OpD K F₀ (dInS false) (fun x y H Q => ∃ (c : Nat) (z : Str), x = .str ⟨#[c]⟩ ∧ y = .str z ∧ Q (.bl (decide (c ∈ z.cps.toList))) H) := by
  intro F G H x y v u Q' Q s w rx ry q k
  obtain ⟨c, z, rfl, rfl, q⟩ := q
  cases rx
  cases ry
  exact ⟨c, z, rfl, rfl, k _ _ F G H (Same.refl F) w (.bl _) q⟩
theorem od_notInS : OpD K F₀ (dInS true) (fun x y H Q => ∃ (c : Nat) (z : Str), x = .str ⟨#[c]⟩ ∧ y = .str z ∧ Q (.bl (!decide (c ∈ z.cps.toList))) H) := by
  intro F G H x y v u Q' Q s w rx ry q k
  obtain ⟨c, z, rfl, rfl, q⟩ := q
  cases rx
  cases ry
  exact ⟨c, z, rfl, rfl, k _ _ F G H (Same.refl F) w (.bl _) q⟩
/-- int(text) -/
def dIntS : List D → Gp → DK → Prop := fun xs G Q => ∃ a n, xs = [.str a] ∧ PySem.intText? a = some n ∧ a.length ≤ 640 ∧ Q (.int n) G
theorem cd_intS : CallD K F₀ dIntS (fun xs H Q => ∃ a n, xs = [.str a] ∧ PySem.intText? a = some n ∧ a.length ≤ 640 ∧ Q (.int n) H) := by
  intro F G H xs vs Q' Q s w r q k
  obtain ⟨a, n, rfl, h1, h2, q⟩ := q
  obtain ⟨v, rfl, rx⟩ := rps1 r
  cases rx
  exact ⟨a, n, rfl, h1, h2, k _ _ F G H (Same.refl F) w (.int _) q⟩
theorem rps_strsW {F : Hp} : ∀ ys : List Str, Rps K F (ys.map D.str) (ys.map V.str)
  | [] => .nil
  | y :: ys => .cons (.str y) (rps_strsW ys)
theorem rps_strsV {F : Hp} : ∀ {ys : List Str} {vs : List V}, Rps K F (ys.map D.str) vs → vs = ys.map V.str
  | [], _, h => by cases h; rfl
  | y :: ys, _, h => by
    cases h with
    | cons a b =>
      cases a
      rw [rps_strsV b]
      rfl
end
/-- a.split(b) -/
def dSplit (m : Bool) (to te : DE) : DE := fun δ G Q => to δ G fun x G1 => (∃ a, x = .str a) ∧ te δ G1 fun y G2 => ∃ a b : Str, x = .str a ∧ y = .str b ∧ (b.length == 0) = false ∧ a.length + 2 ≤ sizeLine ∧ nL m ((Txt.split a b).map D.str) G2 Q
/-- a.join(l) -/
def dJoin (to te : DE) : DE := fun δ G Q => to δ G fun x G1 => (∃ a, x = .str a) ∧ te δ G1 fun y G2 => ∃ (a : Str) (ys : List Str), x = .str a ∧ seqOf y G2 = some (ys.map D.str) ∧ (ys.map (·.length)).sum + ys.length * a.length ≤ 16777216 ∧ Q (.str (Txt.join a ys)) G2
section
variable {X : Cx} {F₀ : Hp} {o e : Expr} {ta tb : DE} {apos pos : Pos}
theorem de_split (m : Bool) (ho : PE X o (Le X.K F₀ ta)) (he : PE X e (Le X.K F₀ tb)) (hs : starEach [e] X.env = [(false, eval e X.env)] := by rfl) (hbase : attributeBase o "split" X.env (eval o X.env) = eval o X.env := by rfl) (hline : (apos.endLine == pos.line) = true := by rfl) :
    PE X (.Call (.Attribute o "split" apos) [e] [] pos) (Le X.K F₀ (dSplit m ta tb)) := by
  refine pe_imp (pe_split ho he hs hbase hline) fun σ H Q ⟨δ, F, G, Q', s, en, w, q, k⟩ => ?_
  refine ⟨δ, F, G, _, s, en, w, q, fun x v F1 G1 H1 s1 w1 r1 q1 => ?_⟩
  obtain ⟨⟨a, rfl⟩, q1⟩ := q1
  cases r1
  refine ⟨⟨a, rfl⟩, ⟨δ, F1, G1, _, s.trans s1, en.mono s1, w1, q1, fun y u F2 G2 H2 s2 w2 r2 q2 => ?_⟩⟩
  obtain ⟨a', b, e1, rfl, h1, h2, q2⟩ := q2
  cases e1
  cases r2
  refine ⟨a, b, rfl, rfl, h1, h2, fun p hp => ?_⟩
  exact nL_ok w2 hp (rps_strsW _) q2 (k.mono (s1.trans s2))
theorem de_join (ho : PE X o (Le X.K F₀ ta)) (he : PE X e (Le X.K F₀ tb)) (hs : starEach [e] X.env = [(false, eval e X.env)] := by rfl) (hbase : attributeBase o "join" X.env (eval o X.env) = eval o X.env := by rfl) (hline : (apos.endLine == pos.line) = true := by rfl) :
    PE X (.Call (.Attribute o "join" apos) [e] [] pos) (Le X.K F₀ (dJoin ta tb)) := by
  refine pe_imp (pe_join ho he hs hbase hline) fun σ H Q ⟨δ, F, G, Q', s, en, w, q, k⟩ => ?_
  refine ⟨δ, F, G, _, s, en, w, q, fun x v F1 G1 H1 s1 w1 r1 q1 => ?_⟩
  obtain ⟨⟨a, rfl⟩, q1⟩ := q1
  cases r1
  refine ⟨⟨a, rfl⟩, ⟨δ, F1, G1, _, s.trans s1, en.mono s1, w1, q1, fun y u F2 G2 H2 s2 w2 r2 q2 => ?_⟩⟩
  obtain ⟨a', ys, e1, hy, h1, q2⟩ := q2
  cases e1
  obtain ⟨p, vs, rfl, hsq, rv⟩ := seqOf_ok w2 r2 hy
  obtain rfl := rps_strsV rv
  exact ⟨a, p, ys, rfl, rfl, hsq, h1, k _ _ F2 G2 H2 (s1.trans s2) w2 (.str _) q2⟩
end
end DL

/-! The head by one kernel run (HandSHeadRun), its facts read by a Hook of my own; the law's end over it. -/
namespace DL
open PySem PySem.Spec PyProof.Rows L2
section
variable {fa : List He.Fa} {fn : List He.DefD} {fi : List InD} {ex : List (PySem.W.Frag → Bool)} {tf : List He.Defn} {h : Heap} {K : PySem.W.Frag}
theorem SaysH.def_ (c : SaysH fa fn fi ex tf h K) (i : Nat) {x q : Str} {a : Str × Option Str} {st : Stmt} (e : fn[i]? = some ⟨a, x, q, defArgs st, defBody st, defScope st, [], []⟩) : ∃ fd, Fun K x q st (He.fAd K a) fd := by
  obtain ⟨fd, F⟩ := c.d.def_ i e
  exact ⟨fd, He5.fun_of F⟩
end
/-! ### constants of the top -/
mutual
theorem repB_ok {K : PySem.W.Frag} {F : Hp} : ∀ (n : Nat) (d : D) (v : Value), repB K n d v = true → ∃ u : V, RelV u v ∧ Rp K F d u
  | 0, _, _, h => by cases h
  | m + 1, d, v, h => by
    match d, v, h with
    | .tup ds, .ref a, h =>
      have h : (match K.lookup a with
        | some ⟨.type c, _, .seq its _, _⟩ => decide (c = "tuple") && (decide (its.size ≤ sizeLine) && repsB K m ds its.toList)
        | _ => false) = true := h
      split at h
      · rename_i c od its k sl hk
        obtain ⟨h1, h2⟩ := He.ba h
        obtain ⟨h3, h4⟩ := He.ba h2
        obtain ⟨us, r1, r2⟩ := repsB_ok (F := F) m ds its.toList h4
        exact ⟨.ref a, rfl, .tup (.inr ⟨_, its, k, hk, congrArg Value.type (of_decide_eq_true h1), rfl, of_decide_eq_true h3, r1⟩) r2⟩
      · cases h
    | .non, .none, _ => exact ⟨.non, rfl, .non⟩
    | .bl b, .bool c, h => have e : b = c := eq_of_beq h; subst e; exact ⟨.bl _, rfl, .bl _⟩
    | .int i, .int j _, h => have e : i = j := of_decide_eq_true h; subst e; exact ⟨.int _, ⟨_, rfl⟩, .int _⟩
    | .str x, .str y _, h => have e : x = y := of_decide_eq_true h; subst e; exact ⟨.str _, ⟨_, rfl⟩, .str _⟩
theorem repsB_ok {K : PySem.W.Frag} {F : Hp} : ∀ (n : Nat) (ds : List D) (vs : List Value), repsB K n ds vs = true → ∃ us : List V, Vals us vs ∧ Rps K F ds us
  | 0, _, _, h => by cases h
  | m + 1, ds, vs, h => by
    match ds, vs, h with
    | [], [], _ => exact ⟨[], .nil, .nil⟩
    | d :: ds, v :: vs, h =>
      obtain ⟨h1, h2⟩ := He.ba (show (repB K m d v && repsB K m ds vs) = true from h)
      obtain ⟨u, a, b⟩ := repB_ok (F := F) m d v h1
      obtain ⟨us, a2, b2⟩ := repsB_ok (F := F) m ds vs h2
      exact ⟨u :: us, .cons a a2, .cons b b2⟩
end
theorem conTB_ok {K : PySem.W.Frag} {h : Heap} {mg : Str → Option Value} (X : K.In h) (G : h.Ns mainGlobals mg) {x : Str} {n : Nat} {ds : List D} (c : conTB x n ds K = true) : mg x = some (.ref (He.ga K x)) ∧ ∃ vs, SqT K (fun _ => none) (He.ga K x) vs ∧ Rps K (fun _ => none) ds vs := by
  obtain ⟨h1, h2⟩ := He.ba c
  refine ⟨PySem.W.mg_of X G (He.eqO_ok h1), ?_⟩
  obtain ⟨u, r, p⟩ := repB_ok (F := fun _ => none) _ _ _ h2
  cases p with
  | tup a b =>
    cases r
    exact ⟨_, a, b⟩
theorem kitH_ok {x y : Str} {b : Bool} {K : PySem.W.Frag} (c : kitH x y b K = true) : PySem.W.kitOne K (.ref (He.ga K x)) (.ref (He.ga K y)) = some b := of_decide_eq_true c
theorem kitV_ok {x : Str} {K : PySem.W.Frag} (c : kitV x K = true) : PySem.W.kitOne K (.ref (He.ga K x)) (.type "ValueError") = some true := of_decide_eq_true c
theorem exmZ_ok {K : PySem.W.Frag} (c : exmZ K = true) : PySem.W.exmOne K (.type "ZeroDivisionError") (.type "ZeroDivisionError") = some true := of_decide_eq_true c
/-! ### the law's end over such a head -/
theorem walk_dH {l : PySem.W.OpenLaw} {k : Nat} {q : Program} {loose : List Str} {XP : (Str → Option Value) → Heap → Prop} {YP : World → Heap → Prop} {d : DefRec} {sp : DSp} {x : Str}
    (hn : l.most = some 63) (hdf : d.params.defaults = []) (hr : Room k callerA)
    (F : ∀ (w : World) (mg : Str → Option Value) (fa : Addr) (h : Heap), YP w h → h.Ns mainGlobals mg → mg d.name = some (.ref fa) →
      ∃ (K : PySem.W.Frag) (fd : FuncData), K.In h ∧ (∀ (s : Shared) (u : Value), BindsTo s fd ⟨[u], []⟩ [(x, u)]) ∧
        ∀ base : Heap, K.In base → base.Ns mainGlobals mg → FnG l.prog w K mg base CX0 k fa fd [x] (LSp K sp))
    (hsp : ∀ (ns : List Int) (G : Gp) (Q : DK), ns.length ≤ 63 → (∀ G', Q (.bl true) G') → sp [.scr (ns.map D.int)] G Q X0) :
    PySem.W.WalkO q loose XP YP l.row.toRowW d [] (fun f vs => PySem.call f vs) := by
  refine Att.attach_call hn hdf fun w s₀ s₁ mg mb fa o pm cd doc a vs ns G Y ho hd hcd hmg hobj hints hlen hg => ?_
  obtain ⟨K, fd, KX, hb, hF⟩ := F w mg fa _ Y G.T.g hmg
  refine law_callG KX G.T.g G.T.b G.T.builtins G.T.nolimit hg hobj hints (Nat.le_trans hlen (by decide)) hr hF hb (fun H hO hS => ?_) fun _ _ _ z => z.elim
  exact ⟨H, fun _ => none, [.scr (ns.map D.int)], fun d _ => d = .bl true, X0, .cons (.scr hS (Rps.ofInts ns)) .nil, ⟨Same.refl H, fun _ _ e => nomatch e⟩, hsp ns _ _ hlen fun _ => rfl, fun d v F' G' H' s w r q => by
    subst q
    cases r
    rfl, koe0⟩
end DL

/-! The head by one kernel run, part two: error classes, tables of code objects. -/
namespace DL
open PySem PySem.Spec PyProof.Rows L2
/-! ### questions asked of an error -/
theorem exaN_ok {K : PySem.W.Frag} {n : Str} (h : exaN n K = true) : ExA K (He.ga K n) := by
  unfold exaN exaH at h
  simp only [Bool.and_eq_true, decide_eq_true_iff] at h
  obtain ⟨⟨⟨⟨⟨⟨⟨⟨h1, h2⟩, h3⟩, h4⟩, h5⟩, h6⟩, h7⟩, h8⟩, h9⟩ := h
  exact ⟨h1, h2, h3, h4, h5, h6, h7, h8, h9⟩
theorem exN_H {K : PySem.W.Frag} {h : Heap} {mg : Str → Option Value} (X : K.In h) (G : h.Ns mainGlobals mg) {n : Str} (c : (He.Fa.exc n).ok K = true) (z : (He.Fa.glo n).ok K = true) : ExN K mg n (He.ga K n) := by
  obtain ⟨h1, h2, h3, h4⟩ := He.exc_ok c
  exact ⟨h1, He.glo_ok X G z, glo_ns z, h2, h3, h4⟩
/-! ### an own error class with a field -/
theorem exclB_ok {K : PySem.W.Frag} {C : Addr} (h : exclB K C = true) : ∃ nm q N bs bm sn sub ab col dd k0 k1 k2 k3 k5, K.lookup C = some (PySem.excClassObj nm q C N bs bm true sn sub ab col dd k0 k1 k2 k3 k5 "ValueError.__new__") ∧ PySem.HandSPX.refsVE bm = true := by
  unfold exclB at h
  split at h
  · rename_i t dd cd sl hk
    obtain ⟨h0, h⟩ := He.ba h
    split at h
    · rename_i C' bm k0 k1 k2 k3 n k5 hm hs
      obtain ⟨h1, h⟩ := He.ba h
      obtain ⟨h2, h⟩ := He.ba h
      obtain ⟨h3, h⟩ := He.ba h
      obtain ⟨h4, h5⟩ := He.ba h
      have e0 := of_decide_eq_true h0
      have e1 := of_decide_eq_true h1
      have e2 := of_decide_eq_true h2
      subst e0 e1 e2
      obtain ⟨nm, bs, mro, ns, qn, hd, sn, sub, ab, col, del⟩ := cd
      dsimp only at hm h3 h4
      have e3 : del = false := by simpa using h3
      subst hm e3 h4
      have hsl : sl = #[k0, k1, k2, k3, some (.builtin "ValueError.__new__"), k5] := by
        obtain ⟨l⟩ := sl
        simp only at hs
        rw [hs]
      subst hsl
      exact ⟨_, _, _, _, _, _, _, _, _, _, _, _, _, _, _, hk, h5⟩
    · cases h
  · cases h
abbrev supFd (qual : Str) (st : Stmt) (pa fld : Str) (p0 p1 p2 p3 p4 p5 p6 p7 p8 p9 : Pos) (kV doc pm ct : Value) (an : Option Addr) (cda cc : Addr) : FuncData :=
  PySem.W.fnX "__init__" qual (defArgs st) (supBody pa fld p0 p1 p2 p3 p4 p5 p6 p7 p8 p9) (defScope st) [("__class__", cc)] .none kV doc pm an (.ref cda) ct
abbrev supW (qual : Str) (st : Stmt) (pa fld : Str) (p0 p1 p2 p3 p4 p5 p6 p7 p8 p9 : Pos) : InW := some (("__init__" : Str), qual, defArgs st, FuncBody.stmts (supBody pa fld p0 p1 p2 p3 p4 p5 p6 p7 p8 p9), defScope st, mainGlobals, [("__class__" : Str)], builtinsNs)
theorem initB_ok {K : PySem.W.Frag} {file : Str} {C f : Addr} {qual : Str} {st : Stmt} {pa fld : Str} {p0 p1 p2 p3 p4 p5 p6 p7 p8 p9 : Pos} (h : initB K file C f = true)
    (hw : (match K.lookup f with
      | some ⟨_, _, .func fd, _⟩ => (some (fd.name, fd.qualname, fd.params, fd.body, fd.scope, fd.globals, fd.closure.map (·.1), fd.builtins) : InW)
      | _ => none) = supW qual st pa fld p0 p1 p2 p3 p4 p5 p6 p7 p8 p9) :
    ∃ (oc : Value) (od : Option Addr) (kV doc pm ct : Value) (an : Option Addr) (cda cc : Addr) (osl : Array (Option Value)), K.lookup f = some ⟨oc, od, .func (supFd qual st pa fld p0 p1 p2 p3 p4 p5 p6 p7 p8 p9 kV doc pm ct an cda cc), osl⟩ ∧ PySem.W.codeIn K (.ref cda) qual = true ∧
      (∃ ccl cdd vs ccs fl tf, K.lookup cda = some ⟨ccl, cdd, .fields vs, ccs⟩ ∧ vs[2]? = some (.str fl tf) ∧ (file == fl) = true) ∧ ∃ cl cld csl, K.lookup cc = some ⟨cl, cld, .cell (some (.ref C)), csl⟩ := by
  unfold initB at h
  cases q : K.lookup f with
  | none => rw [q] at h; cases h
  | some o =>
    obtain ⟨oc, od, dt, osl⟩ := o
    rw [q] at h hw
    cases dt with
    | func fd =>
      obtain ⟨n1, n2, n3, n4, n5, n6, n7, n8, n9, n10, n11, n12, n13, n14, n15⟩ := fd
      have hw2 : some (n1, n2, n3, n4, n5, n6, n7.map (·.1), n15) = some (("__init__" : Str), qual, defArgs st, FuncBody.stmts (supBody pa fld p0 p1 p2 p3 p4 p5 p6 p7 p8 p9), defScope st, mainGlobals, [("__class__" : Str)], builtinsNs) := hw
      simp only [Option.some.injEq, Prod.mk.injEq] at hw2
      obtain ⟨e1, e2, e3, e4, e5, e6, e7, e8⟩ := hw2
      subst e1 e2 e3 e4 e5 e6 e8
      obtain ⟨h1, h⟩ := He.ba h
      obtain ⟨h2, h⟩ := He.ba h
      obtain ⟨h3, h4⟩ := He.ba h
      dsimp only at h1 h2 h3 h4
      obtain ⟨c, rfl⟩ := He.codeIn_ref h1
      have e9 : n8 = .none := by
        cases n8 <;> first | rfl | cases h4
      subst e9
      have h7 : ∃ cc, n7 = [(("__class__" : Str), cc)] := by
        match n7, e7 with
        | [(x, cc)], e7 =>
          have : x = ("__class__" : Str) := by simpa using e7
          subst this
          exact ⟨cc, rfl⟩
      obtain ⟨cc, rfl⟩ := h7
      refine ⟨oc, od, n9, n10, n11, n14, n12, c, cc, osl, rfl, h1, ?_, ?_⟩
      · unfold fileB at h2
        dsimp only at h2
        split at h2
        · rename_i a b vs d hc
          split at h2
          · rename_i fl tf hv
            exact ⟨_, _, vs, _, fl, tf, hc, hv, h2⟩
          · cases h2
        · cases h2
      · unfold cellB at h3
        dsimp only at h3
        split at h3
        · rename_i a b C' d hc
          have := of_decide_eq_true h3
          subst this
          exact ⟨_, _, _, hc⟩
        · cases h3
    | _ => cases h
theorem exI_H {P : Program} {K : PySem.W.Frag} {h : Heap} {mg : Str → Option Value} (X : K.In h) (G : h.Ns mainGlobals mg) {n fld pa qual : Str} {st : Stmt} {p0 p1 p2 p3 p4 p5 p6 p7 p8 p9 : Pos} {ar : Arg}
    (z : (He.Fa.glo n).ok K = true) (cB : exiB P.main.file n fld K = true) (ci : inW K n = supW qual st pa fld p0 p1 p2 p3 p4 p5 p6 p7 p8 p9)
    (head1 : ((defArgs st).posonlyargs ++ (defArgs st).args).head? = some ar) (head2 : ar.arg = "self")
    (kind : (defScope st).kind = .function) (co : (defScope st).isCoroutine = false) (gen : (defScope st).isGenerator = false)
    (nsup : (defScope st).names.lookup ("super" : Str) = some .globalImplicit) (ncls : (defScope st).names.lookup ("__class__" : Str) = some .free) (nself : (defScope st).names.lookup ("self" : Str) = some .local) (npa : (defScope st).names.lookup pa = some .local)
    (nocell : ∀ y ∈ (defScope st).names, y.2 ≠ .cell) (nofree : ∀ y ∈ (defScope st).names, y.2 = .free → y.1 = "__class__") (top : (P.main.scope.names.lookup ("super" : Str)).isSome = false)
    (ev : ∀ (kV doc pm ct : Value) (an : Option Addr) (cda cc fI : Addr), ∃ pl : Addr → Sem Bool, ∀ L : Addr, eval (.Call (.Attribute (.Call (.Name "super" p0) [] [] p1) "__init__" p2) [.Name pa p3] [] p4) (callEnv (supFd qual st pa fld p0 p1 p2 p3 p4 p5 p6 p7 p8 p9 kV doc pm ct an cda cc) L fI) = (do
      let ov ← attributeBase (.Call (.Name "super" p0) [] [] p1) "__init__" (callEnv (supFd qual st pa fld p0 p1 p2 p3 p4 p5 p6 p7 p8 p9 kV doc pm ct an cda cc) L fI) (eval (.Call (.Name "super" p0) [] [] p1) (callEnv (supFd qual st pa fld p0 p1 p2 p3 p4 p5 p6 p7 p8 p9 kV doc pm ct an cda cc) L fI))
      standAt p2.atName
      let (f, first) ← holding [ov] (getMethod ov "__init__" (pl L))
      callWith p4 f first (backTo p4 (starEach [.Name pa p3] (callEnv (supFd qual st pa fld p0 p1 p2 p3 p4 p5 p6 p7 p8 p9 kV doc pm ct an cda cc) L fI))) []))
    (sw1 : ∀ (kV doc pm ct : Value) (an : Option Addr) (cda cc fI L : Addr), swapsWith (.Call (.Attribute (.Call (.Name "super" p0) [] [] p1) "__init__" p2) [.Name pa p3] [] p4) none p5.line (callEnv (supFd qual st pa fld p0 p1 p2 p3 p4 p5 p6 p7 p8 p9 kV doc pm ct an cda cc) L fI) = pure false)
    (sw2 : ∀ (kV doc pm ct : Value) (an : Option Addr) (cda cc fI L : Addr), swapsWith (.Name pa p8) (some (.Attribute (.Name "self" p6) fld p7)) p9.line (callEnv (supFd qual st pa fld p0 p1 p2 p3 p4 p5 p6 p7 p8 p9 kV doc pm ct an cda cc) L fI) = pure false)
    (pdb : (pa == ("__debug__" : Str)) = false) (pne : (pa == ("self" : Str)) = false)
    (bb : ∀ (kV doc pm ct : Value) (an : Option Addr) (cda cc : Addr), Binds K (supFd qual st pa fld p0 p1 p2 p3 p4 p5 p6 p7 p8 p9 kV doc pm ct an cda cc) ["self", pa] []) : Nonempty (ExI P K mg n fld (He.ga K n)) := by
  unfold exiB at cB
  simp only [Bool.and_eq_true, decide_eq_true_iff] at cB
  obtain ⟨⟨⟨⟨⟨⟨⟨⟨⟨⟨⟨⟨⟨c1, c2⟩, c3⟩, c4⟩, c5⟩, c6⟩, c7⟩, c8⟩, c9⟩, c10⟩, c11⟩, c12⟩, c13⟩, c14⟩ := cB
  obtain ⟨oc, od, kV, doc, pm, ct, an, cda, cc, osl, lk, cd, ⟨ccl, cdd, vs, ccs, fl, tf, f1, f2, f3⟩, ⟨cl, cld, csl, ce⟩⟩ := initB_ok (qual := qual) (st := st) c2 ci
  obtain ⟨nm, q, N, bs, bm, sn, sub, ab, col, dd, k0, k1, k2, k3, k5, o1, o2⟩ := exclB_ok c1
  obtain ⟨pl, hev⟩ := ev kV doc pm ct an cda cc (He.ma K (He.ga K n) "__init__")
  exact ⟨exI_by (He.glo_ok X G z) (glo_ns z) o1 o2 c3 c4 c5 c6 lk cd f1 f2 f3 ce head1 head2 kind co gen nsup ncls nself npa nocell nofree top c7 c8 c9 c10 c11 c12 c13 c14 hev (sw1 kV doc pm ct an cda cc _) (sw2 kV doc pm ct an cda cc _) pdb pne (bb kV doc pm ct an cda cc)⟩
/-! ### defs that make lambdas -/
theorem funC_H {K : PySem.W.Frag} {x q : Str} {st : Stmt} {p : He.Defn} {fd : FuncData} (F : Fun K x q st (He.fAd K p) fd) : FunC K x q st (He.fAd K p) fd (He.codeOf K p) := by
  obtain ⟨oc, od, kV, doc, pm, an, cdv, ct, osl, rfl, lk, hcd⟩ := F.ex
  obtain ⟨c, rfl⟩ := He.codeIn_ref hcd
  rw [He.codeOf_eq lk rfl]
  exact ⟨oc, od, kV, doc, pm, an, ct, osl, rfl, lk, hcd⟩
theorem tabNe_ok {p q : He.Defn} {K : PySem.W.Frag} (c : tabNe p q K = true) : (He.cT K p).2 ≠ (He.cT K q).2 := of_decide_eq_true c
theorem walk_tH {l : PySem.W.OpenLaw} {k : Nat} {q : Program} {loose : List Str} {XP : (Str → Option Value) → Heap → Prop} {YP : World → Heap → Prop} {d : DefRec} {x : Str}
    (hn : l.most = some 63) (hdf : d.params.defaults = []) (hr : Room k callerA)
    (F : ∀ (w : World) (mg : Str → Option Value) (fa : Addr) (h : Heap), YP w h → h.Ns mainGlobals mg → mg d.name = some (.ref fa) →
      ∃ (K : PySem.W.Frag) (fd : FuncData) (cs : List (Addr × Addr × Str)) (sp : DSp), K.In h ∧ (∀ (s : Shared) (u : Value), BindsTo s fd ⟨[u], []⟩ [(x, u)]) ∧ (∀ p ∈ cs, h.get? p.2.1 = some (PySem.W.tabObj #[])) ∧ (∀ p ∈ cs, K.lookup p.2.1 = none) ∧ (∀ p ∈ cs, PySem.W.codeHdIn K p.1 p.2.1 = true) ∧
        (∀ (ns : List Int) (Q : DK), ns.length ≤ 63 → (∀ G', Q (.bl true) G') → sp [.scr (ns.map D.int)] (gTab cs) Q X0) ∧
        ∀ base : Heap, K.In base → base.Ns mainGlobals mg → (∀ p ∈ cs, LamX.TabB base mg p.1 p.2.1) → FnG l.prog w K mg base CX0 k fa fd [x] (LSp K sp)) :
    PySem.W.WalkO q loose XP YP l.row.toRowW d [] (fun f vs => PySem.call f vs) := by
  refine Att.attach_call hn hdf fun w s₀ s₁ mg mb fa o pm cd doc a vs ns G Y ho hd hcd hmg hobj hints hlen hg => ?_
  obtain ⟨K, fd, cs, sp, KX, hb, hts, hnT, hC, hsp, hF⟩ := F w mg fa _ Y G.T.g hmg
  exact law_tabs KX G.T.g G.T.b G.T.builtins G.T.nolimit hg G.T.bmain hts hnT (fun p hp => PySem.W.codeHd_of_K KX (hC p hp)) hobj hints (Nat.le_trans hlen (by decide)) hr hF hb (hsp ns _ hlen fun _ => rfl)
end DL

namespace Tx
open PySem PySem.Spec PyProof.Rows L2 DL
local macro_rules | `(tactic| walk_at "dl") => `(tactic| (try simp only [endD, startD, dVar, dC, dOp, dB, dChain, dAnd, dOr, dNot, dAndV, dOrV, dNotV, dIf, dI, dI0, dSub, dDiv, dMod, dPow, dLt, dLe, dGt, dGe, w_nL_t, w_nL_f, aNil, aCons, dTup, dLst, dCB, w_isN, w_notN, isNoD_non, isNoD_int, isNoD_str, isNoD_bl, isNoD_tup, isNoD_lst, isNoD_ref,
  dUn, dNegR, dSl, oNone, oSome, dInt, dAbs, dMax2, dMin2, dCall, dNext, dAsg, dRet, dRetN, dDrop, dIfS, dBreak, dCont, dNever, gN, gsNil, gsCons, gT, dAsgG, dPar, dSetIx, dFor, dSeqI, dRange1, dRange2, dEnumX, dZipX, prs_enum, dLc, dYes, dMeL, dAppend, dPop, dPopAt, dExtend,
  dRevT, dDict0, dAugA, dAugIx, dRg1, dCount, dInsert, dRemI, gSb, dFld, dSetFld, dAugFld, dMeth, dMake, dPar3, dIsi2, dMin3, dCallL, dOrX, dIsB, dRg2, dNGet, dNIn, dNPut, dNNew, dDispN, dGet2, dSetd, dRemN, dNUpd, dKeysN, dDcN, dcL, dSortN, dLenN, dDGet, dDPut, truD, w_isi2_tup, w_isi2_lst,
  w_len_str, w_len_tup, w_len_lst, w_len_scr, w_len_gu, w_ix_tup, w_ix_lst, w_ix_scr, w_ix_gu, w_got_0, w_got_1, w_got_2, w_got_3, w_got_4, w_add_int, w_add_str, w_add_tup, w_add_lst, w_mul_int, w_mul_tup, w_mul_lst, w_eq_int, w_eq_str, w_eq_bl, w_ne_int, w_ne_str, w_ne_bl, w_sum_tup, w_sum_lst, w_sum_map, w_sum_ints, w_bls_lst, w_bls_map, w_all_lst, w_any_lst,
  w_tupOf_tup, w_tupOf_lst, w_tupOf_scr, w_tupOf_gu, w_lstOf_tup, w_lstOf_lst, w_lstOf_scr, w_set_gu, w_setI_0, w_setI_1, w_setI_2, w_setI_3, w_setI_4, w_atL_gu, w_add_lg, w_add_gl, Option.isSome_some, w_draw,
  List.map_cons, List.map_nil, List.length_cons, List.length_nil, List.replicate, List.cons_append, List.nil_append, List.append_nil, List.getElem?_cons_zero, List.getElem?_cons_succ, List.set_cons_zero, List.set_cons_succ, wipeD, lst_lst, seq_gu, rl_gu, lst_gu, gu_same, gu_gu, blsOf_map, intsOf_map, intsOf_ints, all_map_id, any_map_id, Stays, Nat.add_sub_cancel, Nat.sub_self,
  if_true, if_false, Bool.false_eq_true, Bool.not_true, Bool.not_false, and_true, true_and, at_0, at_1, at_2, at_3, at_4, seq_lst, seq_tup, seq_scr, rl_lst, rl_scr]))
local macro_rules | `(tactic| walk_at "sd") => `(tactic| repeat (refine And.intro (by first | decide | omega | exact Nat.le_trans (by omega : _ ≤ 1000000) (by decide) | exact CPow.lit (by decide) | exact MulOk.l (by omega) (by omega) | exact MulOk.r (by omega) (by omega) | exact DivOk.lit (by omega) (by omega) | assumption) ?_))
local macro_rules | `(tactic| walk_at "all") => `(tactic| simp only [List.mem_cons, List.not_mem_nil, or_false, forall_eq_or_imp, forall_eq])
local macro_rules | `(tactic| walk_at "dx") => `(tactic| (try simp only [endD, startD, dVar, dC, dOp, dB, dChain, dAnd, dOr, dNot, dAndV, dOrV, dNotV, dIf, dI, dI0, dSub, dDiv, dMod, dPow, dLt, dLe, dGt, dGe, w_nL_t, w_nL_f, aNil, aCons, dTup, dLst, dCB, w_isN, w_notN, isNoD_non, isNoD_int, isNoD_str, isNoD_bl, isNoD_tup, isNoD_lst, isNoD_ref,
  dUn, dNegR, dSl, oNone, oSome, dInt, dAbs, dMax2, dMin2, dCall, dNext, dAsg, dRet, dRetN, dDrop, dIfS, dBreak, dCont, dNever, gN, gsNil, gsCons, gT, dAsgG, dPar, dSetIx, dFor, dSeqI, dRange1, dRange2, dEnumX, dZipX, prs_enum, dLc, dYes, dMeL, dAppend, dPop, dPopAt, dExtend,
  dRevT, dDict0, dAugA, dAugIx, dRg1, dCount, dInsert, dRemI, gSb, dFld, dSetFld, dAugFld, dMeth, dMake, dPar3, dIsi2, dMin3, dCallL, dOrX, dIsB, dRg2, dNGet, dNIn, dNPut, dNNew, dDispN, dGet2, dSetd, dRemN, dNUpd, dKeysN, dDcN, dcL, dSortN, dLenN, dDGet, dDPut, truD, w_isi2_tup, w_isi2_lst,
  w_len_str, w_len_tup, w_len_lst, w_len_scr, w_len_gu, w_ix_tup, w_ix_lst, w_ix_scr, w_ix_gu, w_got_0, w_got_1, w_got_2, w_got_3, w_got_4, w_add_int, w_add_str, w_add_tup, w_add_lst, w_mul_int, w_mul_tup, w_mul_lst, w_eq_int, w_eq_str, w_eq_bl, w_ne_int, w_ne_str, w_ne_bl, w_sum_tup, w_sum_lst, w_sum_map, w_sum_ints, w_bls_lst, w_bls_map, w_all_lst, w_any_lst,
  w_tupOf_tup, w_tupOf_lst, w_tupOf_scr, w_tupOf_gu, w_lstOf_tup, w_lstOf_lst, w_lstOf_scr, w_set_gu, w_setI_0, w_setI_1, w_setI_2, w_setI_3, w_setI_4, w_atL_gu, w_add_lg, w_add_gl, Option.isSome_some, w_draw,
  List.map_cons, List.map_nil, List.length_cons, List.length_nil, List.replicate, List.cons_append, List.nil_append, List.append_nil, List.getElem?_cons_zero, List.getElem?_cons_succ, List.set_cons_zero, List.set_cons_succ, wipeD, lst_lst, seq_gu, rl_gu, lst_gu, gu_same, gu_gu, blsOf_map, intsOf_map, intsOf_ints, all_map_id, any_map_id, Stays, Nat.add_sub_cancel, Nat.sub_self,
  if_true, if_false, Bool.false_eq_true, Bool.not_true, Bool.not_false, and_true, true_and, at_0, at_1, at_2, at_3, at_4, seq_lst, seq_tup, seq_scr, rl_lst, rl_scr, dCallW, dMakeW, dCallG, dWay, dLam, dRaise, dRaiseF, ownW, dIsE, dXf, dTryAs, dCountF, dIndexF, dDisp, dPairs, dDPut, dDGet, dCallH, dTryOn]))
theorem gcd_step (a b : Int) : Int.gcd b (a % b) = Int.gcd a b := by
  rw [Int.gcd_comm a b, Int.emod_def]
  simp
/-- the greatest common part -/
abbrev sp_divisor : DSp := fun ds G Q _ => ∃ a b : Int, ds = [.int a, .int b] ∧ 0 ≤ b ∧ Q (.int (Int.gcd a b : Nat)) G
def t_divisor : DS :=
  (dSeq (dWhile (dB (dOp dNe (dVar 1) (dC (.int 0)))) (dPar 0 1 (aCons (dVar 1) (aCons (dOp dMod (dVar 0) (dVar 1)) aNil))))
  (dRet (dCB dAbs (aCons (dVar 0) aNil))))
theorem len_divisor : ∀ ds G Q E, sp_divisor ds G Q E → ds.length = ["one", "other"].length := by
  intro ds G Q E h
  first | (obtain ⟨rfl, _⟩ := h; rfl) | (obtain ⟨_, rfl, _⟩ := h; rfl) | (obtain ⟨_, _, rfl, _⟩ := h; rfl) | (obtain ⟨_, _, _, rfl, _⟩ := h; rfl) | (obtain ⟨_, _, _, _, rfl, _⟩ := h; rfl) | (obtain ⟨_, _, _, _, _, rfl, _⟩ := h; rfl) | (obtain ⟨_, _, _, _, _, _, rfl, _⟩ := h; rfl) | (obtain ⟨_, _, _, _, _, _, _, rfl, _⟩ := h; rfl) | (obtain ⟨_, _, _, _, _, _, _, _, rfl, _⟩ := h; rfl) | (obtain ⟨_, _, _, _, _, _, _, _, _, rfl, _⟩ := h; rfl) | (obtain ⟨_, _, _, _, _, _, _, _, _, _, rfl, _⟩ := h; rfl) | (obtain ⟨_, _, _, _, _, _, _, _, _, _, _, rfl, _⟩ := h; rfl) | (obtain ⟨_, _, _, _, _, _, _, _, _, _, _, _, rfl, _⟩ := h; rfl) | (obtain ⟨_, _, _, _, _, _, _, _, _, _, _, _, _, rfl, _⟩ := h; rfl) | (obtain ⟨_, _, _, _, _, _, _, _, _, _, _, _, _, _, rfl, _⟩ := h; rfl) | (obtain ⟨_, _, _, _, _, _, _, _, _, _, _, _, _, _, _, rfl, _⟩ := h; rfl)
theorem rd_divisor : ∀ ds G Q E', sp_divisor ds G Q E' → t_divisor (endD Q) (startD ["one", "other"] ds) G := by
  rintro ds G Q E' ⟨a, b, rfl, hb, q⟩
  unfold t_divisor
  refine dSeq_mk ?_
  walk_at "dl"
  refine ⟨fun k δ G' => ∃ x y : Int, δ = [some (.int x), some (.int y)] ∧ G' = G ∧ 0 ≤ y ∧ y.toNat = k ∧ Int.gcd x y = Int.gcd a b, ⟨_, _, _, rfl, rfl, hb, rfl, rfl⟩, ?_⟩
  rintro k δ G' ⟨x, y, rfl, rfl, hy, hk, hg⟩
  walk_at "dl"
  cases h : decide (y = 0) with
  | true =>
    have h := of_decide_eq_true h
    subst h
    walk_at "dl"
    rw [← hg, Int.gcd_zero_right] at q
    have e : (if x < 0 then -x else x) = ((x.natAbs : Nat) : Int) := by split <;> omega
    rw [← e] at q
    exact Rt.same q
  | false =>
    have h := of_decide_eq_false h
    walk_at "dl"
    refine ⟨by omega, ?_⟩
    have m0 := Int.emod_nonneg x h
    have m1 := Int.emod_lt_of_pos x (show 0 < y by omega)
    exact ⟨(x % y).toNat, by omega, _, _, rfl, m0, rfl, (gcd_step x y).trans hg⟩
abbrev sp_is_integer : DSp := fun ds G Q _ => ∃ x, ds = [x] ∧ pd x = true ∧ Q (.bl (isI x)) G
def t_is_integer : DS :=
  (dRet (dAndV (dCB dIsi (aCons (dVar 0) (aCons (dC (.ty "int")) aNil))) (dNotV (dCB dIsi (aCons (dVar 0) (aCons (dC (.ty "bool")) aNil))))))
theorem len_is_integer : ∀ ds G Q E, sp_is_integer ds G Q E → ds.length = ["thing"].length := by
  intro ds G Q E h
  first | (obtain ⟨rfl, _⟩ := h; rfl) | (obtain ⟨_, rfl, _⟩ := h; rfl) | (obtain ⟨_, _, rfl, _⟩ := h; rfl) | (obtain ⟨_, _, _, rfl, _⟩ := h; rfl) | (obtain ⟨_, _, _, _, rfl, _⟩ := h; rfl) | (obtain ⟨_, _, _, _, _, rfl, _⟩ := h; rfl) | (obtain ⟨_, _, _, _, _, _, rfl, _⟩ := h; rfl) | (obtain ⟨_, _, _, _, _, _, _, rfl, _⟩ := h; rfl) | (obtain ⟨_, _, _, _, _, _, _, _, rfl, _⟩ := h; rfl) | (obtain ⟨_, _, _, _, _, _, _, _, _, rfl, _⟩ := h; rfl) | (obtain ⟨_, _, _, _, _, _, _, _, _, _, rfl, _⟩ := h; rfl) | (obtain ⟨_, _, _, _, _, _, _, _, _, _, _, rfl, _⟩ := h; rfl) | (obtain ⟨_, _, _, _, _, _, _, _, _, _, _, _, rfl, _⟩ := h; rfl) | (obtain ⟨_, _, _, _, _, _, _, _, _, _, _, _, _, rfl, _⟩ := h; rfl) | (obtain ⟨_, _, _, _, _, _, _, _, _, _, _, _, _, _, rfl, _⟩ := h; rfl) | (obtain ⟨_, _, _, _, _, _, _, _, _, _, _, _, _, _, _, rfl, _⟩ := h; rfl)
theorem rd_is_integer : ∀ ds G Q E', sp_is_integer ds G Q E' → t_is_integer (endD Q) (startD ["thing"] ds) G := by
  rintro ds G Q E' ⟨x, rfl, hp, q⟩
  unfold t_is_integer
  walk_at "dl"
  simp only [isi_int hp, isi_bool hp]
  cases x <;> exact Rt.same q
/-- a tuple of two -/
def isP : D → Bool | .tup xs => decide (xs.length = 2) | _ => false
abbrev sp_is_pair : DSp := fun ds G Q _ => ∃ x, ds = [x] ∧ pd x = true ∧ Q (.bl (isP x)) G
def t_is_pair : DS :=
  (dRet (dAndV (dCB dIsi (aCons (dVar 0) (aCons (dC (.ty "tuple")) aNil))) (dOp dEq (dCB dLen (aCons (dVar 0) aNil)) (dC (.int 2)))))
theorem len_is_pair : ∀ ds G Q E, sp_is_pair ds G Q E → ds.length = ["thing"].length := by
  intro ds G Q E h
  first | (obtain ⟨rfl, _⟩ := h; rfl) | (obtain ⟨_, rfl, _⟩ := h; rfl) | (obtain ⟨_, _, rfl, _⟩ := h; rfl) | (obtain ⟨_, _, _, rfl, _⟩ := h; rfl) | (obtain ⟨_, _, _, _, rfl, _⟩ := h; rfl) | (obtain ⟨_, _, _, _, _, rfl, _⟩ := h; rfl) | (obtain ⟨_, _, _, _, _, _, rfl, _⟩ := h; rfl) | (obtain ⟨_, _, _, _, _, _, _, rfl, _⟩ := h; rfl) | (obtain ⟨_, _, _, _, _, _, _, _, rfl, _⟩ := h; rfl) | (obtain ⟨_, _, _, _, _, _, _, _, _, rfl, _⟩ := h; rfl) | (obtain ⟨_, _, _, _, _, _, _, _, _, _, rfl, _⟩ := h; rfl) | (obtain ⟨_, _, _, _, _, _, _, _, _, _, _, rfl, _⟩ := h; rfl) | (obtain ⟨_, _, _, _, _, _, _, _, _, _, _, _, rfl, _⟩ := h; rfl) | (obtain ⟨_, _, _, _, _, _, _, _, _, _, _, _, _, rfl, _⟩ := h; rfl) | (obtain ⟨_, _, _, _, _, _, _, _, _, _, _, _, _, _, rfl, _⟩ := h; rfl) | (obtain ⟨_, _, _, _, _, _, _, _, _, _, _, _, _, _, _, rfl, _⟩ := h; rfl)
theorem rd_is_pair : ∀ ds G Q E', sp_is_pair ds G Q E' → t_is_pair (endD Q) (startD ["thing"] ds) G := by
  rintro ds G Q E' ⟨x, rfl, hp, q⟩
  unfold t_is_pair
  walk_at "dl"
  simp only [isi_tuple hp]
  cases x with
  | tup xs =>
    have : decide ((xs.length : Int) = 2) = decide (xs.length = 2) := by
      rw [Bool.eq_iff_iff, decide_eq_true_iff, decide_eq_true_iff]; omega
    walk_at "dl"
    show Rt Q _ G
    refine Rt.same ?_
    rw [this]
    exact q
  | _ => exact Rt.same q
theorem low_fr {a b : Int} (h1 : 0 < b) : fr (mkRat a b.toNat) = .tup [.int (a / (Int.gcd a b : Nat)), .int (b / (Int.gcd a b : Nat))] := by
  obtain ⟨y, rfl⟩ := Int.eq_ofNat_of_zero_le (Int.le_of_lt h1)
  obtain ⟨e1, e2⟩ := low_num (a := a) (b := y) (by omega)
  unfold fr
  rw [Int.toNat_natCast, e1, e2, Int.natCast_ediv]
  rfl
/-- a fraction in lowest terms -/
abbrev sp_lowest : DSp := fun ds G Q _ => ∃ a b : Int, ds = [.int a, .int b] ∧ (0 < b ∧ b.natAbs < 2 ^ 8000) ∧ Q (fr (mkRat a b.toNat)) G
abbrev sp_is_within : DSp := fun ds G Q _ => ∃ x lo hi, ds = [x, .int lo, .int hi] ∧ pd x = true ∧ Q (.bl (isW x lo hi)) G
def t_is_within : DS :=
  (dRet (dAndV (dCall sp_is_integer X0 (aCons (dVar 0) aNil)) (dChain dLe dLe (dVar 1) (dVar 0) (dVar 2))))
theorem len_is_within : ∀ ds G Q E, sp_is_within ds G Q E → ds.length = ["thing", "low", "high"].length := by
  intro ds G Q E h
  first | (obtain ⟨rfl, _⟩ := h; rfl) | (obtain ⟨_, rfl, _⟩ := h; rfl) | (obtain ⟨_, _, rfl, _⟩ := h; rfl) | (obtain ⟨_, _, _, rfl, _⟩ := h; rfl) | (obtain ⟨_, _, _, _, rfl, _⟩ := h; rfl) | (obtain ⟨_, _, _, _, _, rfl, _⟩ := h; rfl) | (obtain ⟨_, _, _, _, _, _, rfl, _⟩ := h; rfl) | (obtain ⟨_, _, _, _, _, _, _, rfl, _⟩ := h; rfl) | (obtain ⟨_, _, _, _, _, _, _, _, rfl, _⟩ := h; rfl) | (obtain ⟨_, _, _, _, _, _, _, _, _, rfl, _⟩ := h; rfl) | (obtain ⟨_, _, _, _, _, _, _, _, _, _, rfl, _⟩ := h; rfl) | (obtain ⟨_, _, _, _, _, _, _, _, _, _, _, rfl, _⟩ := h; rfl) | (obtain ⟨_, _, _, _, _, _, _, _, _, _, _, _, rfl, _⟩ := h; rfl) | (obtain ⟨_, _, _, _, _, _, _, _, _, _, _, _, _, rfl, _⟩ := h; rfl) | (obtain ⟨_, _, _, _, _, _, _, _, _, _, _, _, _, _, rfl, _⟩ := h; rfl) | (obtain ⟨_, _, _, _, _, _, _, _, _, _, _, _, _, _, _, rfl, _⟩ := h; rfl)
theorem rd_is_within : ∀ ds G Q E', sp_is_within ds G Q E' → t_is_within (endD Q) (startD ["thing", "low", "high"] ds) G := by
  rintro ds G Q E' ⟨x, lo, hi, rfl, hp, q⟩
  unfold t_is_within
  walk_at "dl"
  refine ⟨_, rfl, hp, ?_⟩
  cases x with
  | int i =>
    rw [isW_int] at q
    simp only [isI, if_true]
    cases h1 : decide (lo ≤ i) with
    | true => rw [h1] at q; exact Rt.same q
    | false => rw [h1] at q; exact Rt.same q
  | _ => exact Rt.same q
theorem isP_iff {x : D} : isP x = true ↔ ∃ a b, x = .tup [a, b] := by
  cases x with
  | tup xs =>
    show decide (xs.length = 2) = true ↔ _
    rw [decide_eq_true_iff]
    constructor
    · intro h
      obtain ⟨a, b, rfl⟩ := tup_of_pd2 (xs := xs) (by omega)
      exact ⟨a, b, rfl⟩
    · rintro ⟨a, b, h⟩
      cases h
      rfl
  | _ => exact ⟨fun h => (nomatch h), fun ⟨_, _, h⟩ => (nomatch h)⟩
/-- whether a thing is a row of shares for n people, m things -/
def areSh (n m : Int) : D → Bool
  | .tup [a, .tup xs] => isW a 1 360 && decide ((xs.length : Int) = n) && xs.all (fun t => isW t 0 (iv a)) && decide (isum xs = m * iv a)
  | _ => false
theorem areSh_no {n m : Int} {x : D} (h : isP x = false) : areSh n m x = false := by
  unfold areSh
  split
  · cases h
  · rfl
theorem areSh_no1 {n m : Int} {a b : D} (h : isT b = false) : areSh n m (.tup [a, b]) = false := by
  unfold areSh
  split
  · rename_i e
    cases e
    cases h
  · rfl
abbrev sp_are_shares : DSp := fun ds G Q _ => ∃ (n m : Int) (x : D), ds = [.int n, .int m, x] ∧ n ≤ 12 ∧ (1 ≤ m ∧ m ≤ 12) ∧ pd x = true ∧ Q (.bl (areSh n m x)) G
def t_are_shares : DS :=
  (dSeq (dIfS (dOr (dNot (dB (dCall sp_is_pair X0 (aCons (dVar 2) aNil)))) (dOr (dNot (dB (dCall sp_is_within X0 (aCons (dOp dIx (dVar 2) (dC (.int 0))) (aCons (dC (.int 1)) (aCons (dC (.int 360)) aNil)))))) (dNot (dB (dCB dIsi (aCons (dOp dIx (dVar 2) (dC (.int 1))) (aCons (dC (.ty "tuple")) aNil))))))) (dRet (dC (.bl false))) dNext)
  (dSeq (dIfS (dOr (dB (dOp dNe (dCB dLen (aCons (dOp dIx (dVar 2) (dC (.int 1))) aNil)) (dVar 0))) (dNot (dB (dCB dAll (aCons (dLc false (dSeqI (dOp dIx (dVar 2) (dC (.int 1)))) (gN 3) dYes (dCall sp_is_within X0 (aCons (dVar 3) (aCons (dC (.int 0)) (aCons (dOp dIx (dVar 2) (dC (.int 0))) aNil)))) [3]) aNil))))) (dRet (dC (.bl false))) dNext)
  (dRet (dOp dEq (dCB dSum (aCons (dOp dIx (dVar 2) (dC (.int 1))) aNil)) (dOp (dMul false) (dVar 1) (dOp dIx (dVar 2) (dC (.int 0))))))))
theorem len_are_shares : ∀ ds G Q E, sp_are_shares ds G Q E → ds.length = ["n", "m", "thing"].length := by
  intro ds G Q E h
  first | (obtain ⟨rfl, _⟩ := h; rfl) | (obtain ⟨_, rfl, _⟩ := h; rfl) | (obtain ⟨_, _, rfl, _⟩ := h; rfl) | (obtain ⟨_, _, _, rfl, _⟩ := h; rfl) | (obtain ⟨_, _, _, _, rfl, _⟩ := h; rfl) | (obtain ⟨_, _, _, _, _, rfl, _⟩ := h; rfl) | (obtain ⟨_, _, _, _, _, _, rfl, _⟩ := h; rfl) | (obtain ⟨_, _, _, _, _, _, _, rfl, _⟩ := h; rfl) | (obtain ⟨_, _, _, _, _, _, _, _, rfl, _⟩ := h; rfl) | (obtain ⟨_, _, _, _, _, _, _, _, _, rfl, _⟩ := h; rfl) | (obtain ⟨_, _, _, _, _, _, _, _, _, _, rfl, _⟩ := h; rfl) | (obtain ⟨_, _, _, _, _, _, _, _, _, _, _, rfl, _⟩ := h; rfl) | (obtain ⟨_, _, _, _, _, _, _, _, _, _, _, _, rfl, _⟩ := h; rfl) | (obtain ⟨_, _, _, _, _, _, _, _, _, _, _, _, _, rfl, _⟩ := h; rfl) | (obtain ⟨_, _, _, _, _, _, _, _, _, _, _, _, _, _, rfl, _⟩ := h; rfl) | (obtain ⟨_, _, _, _, _, _, _, _, _, _, _, _, _, _, _, rfl, _⟩ := h; rfl)
theorem rd_are_shares : ∀ ds G Q E', sp_are_shares ds G Q E' → t_are_shares (endD Q) (startD ["n", "m", "thing", "top"] ds) G := by
  rintro ds G Q E' ⟨n, m, x, rfl, hn, hm, hp, q⟩
  unfold t_are_shares
  refine dSeq_mk ?_
  walk_at "dl"
  refine ⟨_, rfl, hp, ?_⟩
  cases hx : isP x with
  | false =>
    rw [areSh_no hx] at q
    exact Rt.same q
  | true =>
    obtain ⟨a, b, rfl⟩ := isP_iff.mp hx
    obtain ⟨ha, hb⟩ := pd_tup2.mp hp
    walk_at "dl"
    refine ⟨_, _, _, rfl, ha, ?_⟩
    cases hw : isW a 1 360 with
    | false =>
      refine Rt.same ?_
      have : areSh n m (.tup [a, b]) = false := by
        unfold areSh
        split
        · rename_i e
          cases e
          rw [hw]
          rfl
        · rfl
      rw [this] at q
      exact q
    | true =>
      obtain ⟨bt, rfl, h1, h2⟩ := isW_isI hw
      walk_at "dl"
      simp only [isi_tuple hb]
      cases hT : isT b with
      | false =>
        rw [areSh_no1 hT] at q
        exact Rt.same q
      | true =>
        obtain ⟨xs, rfl⟩ := isT_iff.mp hT
        rw [show areSh n m (.tup [.int bt, .tup xs]) = (isW (.int bt) 1 360 && decide ((xs.length : Int) = n) && xs.all (fun t => isW t 0 bt) && decide (isum xs = m * bt)) from rfl, hw] at q
        walk_at "dl"
        refine dSeq_mk ?_
        walk_at "dl"
        cases hl : decide ((xs.length : Int) = n) with
        | false =>
          rw [hl] at q
          exact Rt.same q
        | true =>
          have hl' := of_decide_eq_true hl
          walk_at "dl"
          refine lc_map (fun x => .bl (isW x 0 bt)) (len12 hl' (by omega)) (fun _ _ _ => trivial) (fun x hx p ys Q' hp' k => ?_) ?_
          · walk_at "dl"
            exact ⟨_, _, _, rfl, pd_tup.mp hb x hx, k⟩
          · walk_at "dl"
            rw [hl] at q
            cases hw2 : xs.all fun t => isW t 0 bt with
            | false =>
              rw [hw2] at q
              exact Rt.same q
            | true =>
              rw [hw2] at q
              walk_at "dl"
              rw [w_sum_isI (fun x hx => by
                obtain ⟨i, rfl, _⟩ := isW_isI (List.all_eq_true.mp hw2 x hx)
                rfl)]
              exact ⟨.l (by omega) (by omega), Rt.same q⟩
/-- a fraction in lowest terms -/
def isFr : D → Bool
  | .tup [.int a, .int b] => decide (1 ≤ b) && decide (Int.gcd a b = 1)
  | _ => false
def toR : D → Rat
  | .tup [.int a, .int b] => mkRat a b.toNat
  | _ => 0
theorem isFr_no {x : D} (h : isP x = false) : isFr x = false := by
  unfold isFr
  split
  · cases h
  · rfl
theorem isFr_noI {a b : D} (h : isI a = false ∨ isI b = false) : isFr (.tup [a, b]) = false := by
  unfold isFr
  split
  · rename_i e
    cases e
    rcases h with h | h <;> cases h
  · rfl
theorem isFr_fr {x : D} (h : isFr x = true) : x = fr (toR x) := by
  unfold isFr at h
  split at h
  · rename_i a b
    rw [Bool.and_eq_true, decide_eq_true_iff, decide_eq_true_iff] at h
    show _ = fr (mkRat a b.toNat)
    rw [low_fr (by omega), h.2]
    simp
  · cases h
theorem fr_isFr (x : Rat) : isFr (fr x) = true := by
  show (decide ((1 : Int) ≤ (x.den : Nat)) && decide (Int.gcd x.num (x.den : Nat) = 1)) = true
  have h1 := x.den_pos
  have h2 := x.reduced
  rw [decide_eq_true (by omega), decide_eq_true (show Int.gcd x.num (x.den : Nat) = 1 from h2)]
  rfl
theorem toR_fr (x : Rat) : toR (fr x) = x := by
  show mkRat x.num ((x.den : Nat) : Int).toNat = x
  rw [Int.toNat_natCast, Rat.mkRat_self]
abbrev sp_is_fraction : DSp := fun ds G Q _ => ∃ x, ds = [x] ∧ pd x = true ∧ Q (.bl (isFr x)) G
def t_is_fraction : DS :=
  (dSeq (dIfS (dOr (dNot (dB (dCall sp_is_pair X0 (aCons (dVar 0) aNil)))) (dOr (dNot (dB (dCall sp_is_integer X0 (aCons (dOp dIx (dVar 0) (dC (.int 0))) aNil)))) (dOr (dNot (dB (dCall sp_is_integer X0 (aCons (dOp dIx (dVar 0) (dC (.int 1))) aNil)))) (dB (dOp dLt (dOp dIx (dVar 0) (dC (.int 1))) (dC (.int 1))))))) (dRet (dC (.bl false))) dNext)
  (dRet (dOp dEq (dCall sp_divisor X0 (aCons (dOp dIx (dVar 0) (dC (.int 0))) (aCons (dOp dIx (dVar 0) (dC (.int 1))) aNil))) (dC (.int 1)))))
theorem len_is_fraction : ∀ ds G Q E, sp_is_fraction ds G Q E → ds.length = ["thing"].length := by
  intro ds G Q E h
  first | (obtain ⟨rfl, _⟩ := h; rfl) | (obtain ⟨_, rfl, _⟩ := h; rfl) | (obtain ⟨_, _, rfl, _⟩ := h; rfl) | (obtain ⟨_, _, _, rfl, _⟩ := h; rfl) | (obtain ⟨_, _, _, _, rfl, _⟩ := h; rfl) | (obtain ⟨_, _, _, _, _, rfl, _⟩ := h; rfl) | (obtain ⟨_, _, _, _, _, _, rfl, _⟩ := h; rfl) | (obtain ⟨_, _, _, _, _, _, _, rfl, _⟩ := h; rfl) | (obtain ⟨_, _, _, _, _, _, _, _, rfl, _⟩ := h; rfl) | (obtain ⟨_, _, _, _, _, _, _, _, _, rfl, _⟩ := h; rfl) | (obtain ⟨_, _, _, _, _, _, _, _, _, _, rfl, _⟩ := h; rfl) | (obtain ⟨_, _, _, _, _, _, _, _, _, _, _, rfl, _⟩ := h; rfl) | (obtain ⟨_, _, _, _, _, _, _, _, _, _, _, _, rfl, _⟩ := h; rfl) | (obtain ⟨_, _, _, _, _, _, _, _, _, _, _, _, _, rfl, _⟩ := h; rfl) | (obtain ⟨_, _, _, _, _, _, _, _, _, _, _, _, _, _, rfl, _⟩ := h; rfl) | (obtain ⟨_, _, _, _, _, _, _, _, _, _, _, _, _, _, _, rfl, _⟩ := h; rfl)
theorem rd_is_fraction : ∀ ds G Q E', sp_is_fraction ds G Q E' → t_is_fraction (endD Q) (startD ["thing"] ds) G := by
  rintro ds G Q E' ⟨x, rfl, hp, q⟩
  unfold t_is_fraction
  refine dSeq_mk ?_
  walk_at "dl"
  refine ⟨_, rfl, hp, ?_⟩
  cases hx : isP x with
  | false =>
    rw [isFr_no hx] at q
    walk_at "dl"
    exact Rt.same q
  | true =>
    obtain ⟨a, b, rfl⟩ := isP_iff.mp hx
    obtain ⟨ha, hb⟩ := pd_tup2.mp hp
    walk_at "dl"
    refine ⟨_, rfl, ha, ?_⟩
    cases hia : isI a with
    | false =>
      rw [isFr_noI (.inl hia)] at q
      walk_at "dl"
      exact Rt.same q
    | true =>
      walk_at "dl"
      refine ⟨_, rfl, hb, ?_⟩
      cases hib : isI b with
      | false =>
        rw [isFr_noI (.inr hib)] at q
        walk_at "dl"
        exact Rt.same q
      | true =>
        obtain ⟨i, rfl⟩ := isI_iff.mp hia
        obtain ⟨j, rfl⟩ := isI_iff.mp hib
        have q : Rt Q (.bl (decide (1 ≤ j) && decide (Int.gcd i j = 1))) G := Rt.same q
        walk_at "dl"
        cases hj : decide (j < 1) with
        | true =>
          have := of_decide_eq_true hj
          rw [decide_eq_false (by omega)] at q
          walk_at "dl"
          exact q
        | false =>
          have := of_decide_eq_false hj
          rw [decide_eq_true (by omega), Bool.true_and] at q
          walk_at "dl"
          refine ⟨_, _, rfl, by omega, ?_⟩
          walk_at "dl"
          rw [show decide (((Int.gcd i j : Nat) : Int) = 1) = decide (Int.gcd i j = 1) by rw [decide_eq_decide]; omega]
          exact q
open TL
/-! texts: numbers, pieces -/
abbrev nT (i : Int) : Str := toString i
theorem tl_nT (n : Nat) : tl (nT (n : Nat)) = numL n := tl_num n
theorem nT_len {n k : Nat} (hk : 0 < k) (h : n < 10 ^ k) : (nT (n : Nat)).length ≤ k := by
  rw [len_tl, tl_nT]
  exact numL_len hk h
/-- the number that a word is -/
def dig (c : Nat) : Bool := decide (48 ≤ c) && decide (c ≤ 57)
def numB (x : Str) : Bool := decide (1 ≤ x.length) && decide (x.length ≤ 9) && (tl x).all dig && !(decide (1 < x.length) && decide ((tl x).head? = some 48))
def numIn (x : Str) : Option Nat := if numB x = true then some (NumText.digitsVal (tl x)) else none
def optD : Option Nat → D
  | none => .non
  | some k => .int (k : Nat)
theorem dig_ok {l : List Nat} : l.all dig = true ↔ NumText.AllDigits l := by
  rw [List.all_eq_true]
  unfold dig NumText.AllDigits
  simp only [Bool.and_eq_true, decide_eq_true_eq]
theorem numL_head {n : Nat} (h : 10 ≤ n) : (numL n).head? ≠ some 48 := by
  induction n using Nat.strongRecOn with
  | _ n ih =>
    rw [numL_step h]
    by_cases h2 : n / 10 < 10
    · rw [numL_lt h2]
      have : 0 < n / 10 := by omega
      simp
      omega
    · have e := ih (n / 10) (by omega) (by omega)
      have ne := numL_ne (n / 10)
      cases hq : numL (n / 10) with
      | nil => exact absurd hq ne
      | cons c r => rw [hq] at e; exact e
theorem numIn_nT {n : Nat} (h : n < 10 ^ 9) : numIn (nT (n : Nat)) = some n := by
  have hl := nT_len (k := 9) (by decide) h
  have e0 : (nT (n : Nat)).length = (numL n).length := by rw [len_tl, tl_nT]
  have hne : 1 ≤ (numL n).length := List.length_pos_iff.mpr (numL_ne n)
  unfold numIn
  rw [if_pos, tl_nT, numL_val]
  unfold numB
  rw [tl_nT, decide_eq_true (by omega), decide_eq_true hl, dig_ok.mpr (numL_digits n)]
  by_cases h10 : n < 10
  · have : (numL n).length = 1 := by rw [numL_lt h10]; rfl
    rw [decide_eq_false (by omega : ¬ 1 < (nT (n : Nat)).length)]
    rfl
  · rw [decide_eq_false (numL_head (by omega))]
    simp
/-- the pieces of a text -/
theorem joinL_len (S : List Nat) : ∀ {ps : List (List Nat)} {p : List Nat}, p ∈ ps → p.length ≤ (joinL S ps).length
  | [q], p, h => by
    rw [List.mem_singleton.mp h]
    exact Nat.le_refl _
  | q :: q2 :: r, p, h => by
    show p.length ≤ (q ++ (S ++ joinL S (q2 :: r))).length
    rw [List.length_append, List.length_append]
    rcases List.mem_cons.mp h with rfl | h
    · omega
    · have := joinL_len S h
      omega
theorem split_len {x y p : Str} (h : p ∈ Txt.split x y) : p.length ≤ x.length := by
  have e := congrArg tl (PySem.StrLaws.join_split x y)
  rw [tl_join] at e
  rw [len_tl, len_tl x, ← e]
  exact joinL_len _ (List.mem_map_of_mem h)
theorem split_num {x y : Str} : (Txt.split x y).length ≤ x.length + 2 := PyProof.Rows.split_le x y
def mapO {α β : Type} (f : α → Option β) : List α → Option (List β)
  | [] => some []
  | x :: l => match f x, mapO f l with
    | some y, some m => some (y :: m)
    | _, _ => none
theorem mapO_none {α β : Type} {f : α → Option β} : ∀ {l : List α}, mapO f l = none ↔ ∃ x ∈ l, f x = none
  | [] => by simp [mapO]
  | x :: l => by
    unfold mapO
    cases h : f x with
    | none => simp [h]
    | some y =>
      cases h2 : mapO f l with
      | none =>
        simp only [List.mem_cons, exists_eq_or_imp, h]
        simp
        exact mapO_none.mp h2
      | some m =>
        simp only [List.mem_cons, exists_eq_or_imp, h]
        simp
        intro z hz hn
        have := mapO_none.mpr ⟨z, hz, hn⟩
        rw [h2] at this
        cases this
theorem mapO_map {α β γ : Type} {f : α → Option β} {g : γ → α} {k : γ → β} : ∀ {l : List γ}, (∀ x ∈ l, f (g x) = some (k x)) → mapO f (l.map g) = some (l.map k)
  | [], _ => rfl
  | x :: l, h => by
    rw [List.map_cons]
    unfold mapO
    rw [h x List.mem_cons_self, mapO_map fun y hy => h y (List.mem_cons_of_mem _ hy)]
    rfl
theorem mapO_some {α β : Type} {f : α → Option β} : ∀ {l : List α} {m : List β}, mapO f l = some m → l.map f = m.map some
  | [], m, h => by cases h; rfl
  | x :: l, m, h => by
    unfold mapO at h
    cases hx : f x with
    | none => rw [hx] at h; cases h
    | some y =>
      cases hl : mapO f l with
      | none => rw [hx, hl] at h; cases h
      | some r =>
        rw [hx, hl] at h
        cases h
        rw [List.map_cons, List.map_cons, hx, mapO_some hl]
abbrev sComma : Str := ","
abbrev sBlank : Str := " "
abbrev sLine : Str := "\n"
def nbsIn (w : Str) : Option (List Nat) := mapO numIn (Txt.split w sComma)
def intsT (l : List Nat) : D := .tup (l.map fun k => .int (k : Nat))
def optL : Option (List Nat) → D
  | none => .non
  | some l => intsT l
/-- numbers, joined -/
abbrev nsT (l : List Int) : Str := Txt.join sComma (l.map nT)
theorem free_nT {n : Nat} {s : Nat} (h : s < 48 ∨ 57 < s) : s ∉ tl (nT (n : Nat)) := by
  rw [tl_nT]
  exact numL_free h
theorem nbsIn_nsT {l : List Nat} (hne : l ≠ []) (h : ∀ k ∈ l, k < 10 ^ 9) : nbsIn (nsT (l.map Int.ofNat)) = some l := by
  unfold nbsIn
  have e : Txt.split (nsT (l.map Int.ofNat)) sComma = (l.map Int.ofNat).map nT := split_join (s := 44) (S := []) (by rfl) (by decide +kernel) (by simpa using hne) fun p hp => by
    obtain ⟨i, hi, rfl⟩ := List.mem_map.mp hp
    obtain ⟨k, _, rfl⟩ := List.mem_map.mp hi
    exact free_nT (.inl (by decide))
  rw [e, List.map_map]
  exact (mapO_map (g := nT ∘ Int.ofNat) (k := id) fun k hk => numIn_nT (h k hk)).trans (by rw [List.map_id])
theorem tl_joinT (y : Str) (l : List Str) : tl (Txt.join y l) = joinL (tl y) (l.map tl) := by
  rw [join_eq, tl_join]
theorem joinL_nil : ∀ ps : List (List Nat), joinL [] ps = ps.flatten
  | [] => rfl
  | [p] => by simp [joinL]
  | p :: q :: r => by
    show p ++ ([] ++ joinL [] (q :: r)) = _
    rw [joinL_nil (q :: r)]
    simp
theorem joinL_free {s c : Nat} {S : List Nat} (hs : c ∉ S) : ∀ {ps : List (List Nat)}, (∀ p ∈ ps, c ∉ p) → c ∉ joinL S ps
  | [], _ => by simp [joinL]
  | [p], h => h p (List.mem_singleton_self _)
  | p :: q :: r, h => by
    show c ∉ p ++ (S ++ joinL S (q :: r))
    have := joinL_free (s := s) hs (ps := q :: r) fun z hz => h z (List.mem_cons_of_mem _ hz)
    simp only [List.mem_append, not_or]
    exact ⟨h p List.mem_cons_self, hs, this⟩
theorem nsT_free {l : List Nat} {c : Nat} (h : (c < 48 ∨ 57 < c) ∧ c ≠ 44) : c ∉ tl (nsT (l.map Int.ofNat)) := by
  rw [tl_joinT]
  refine joinL_free (s := 0) (show c ∉ [44] by simpa using h.2) fun p hp => ?_
  rw [List.map_map, List.mem_map] at hp
  obtain ⟨i, hi, rfl⟩ := hp
  obtain ⟨k, _, rfl⟩ := List.mem_map.mp hi
  exact free_nT h.1
theorem joinL_bd {S : List Nat} {b : Nat} : ∀ {ps : List (List Nat)}, (∀ p ∈ ps, p.length ≤ b) → (joinL S ps).length ≤ ps.length * (b + S.length)
  | [], _ => by simp [joinL]
  | [p], h => by
    have := h p (List.mem_singleton_self _)
    show p.length ≤ _
    rw [List.length_singleton]
    omega
  | p :: q :: r, h => by
    show (p ++ (S ++ joinL S (q :: r))).length ≤ _
    have h1 := joinL_bd (S := S) (b := b) (ps := q :: r) fun z hz => h z (List.mem_cons_of_mem _ hz)
    have h2 := h p List.mem_cons_self
    rw [List.length_append, List.length_append, List.length_cons (a := p), Nat.add_mul]
    omega
theorem nsT_len {l : List Nat} {k : Nat} (hk : 0 < k) (h : ∀ i ∈ l, i < 10 ^ k) : (nsT (l.map Int.ofNat)).length ≤ l.length * (k + 1) := by
  rw [len_tl, tl_joinT]
  have := joinL_bd (S := tl sComma) (b := k) (ps := ((l.map Int.ofNat).map nT).map tl) fun p hp => by
    rw [List.map_map, List.mem_map] at hp
    obtain ⟨i, hi, rfl⟩ := hp
    obtain ⟨j, hj, rfl⟩ := List.mem_map.mp hi
    have := nT_len hk (h j hj)
    rwa [len_tl] at this
  rw [List.length_map, List.length_map, List.length_map] at this
  exact this
open TL
theorem log_small {i : Int} (h : i.natAbs < 2 ^ 1000) : i.natAbs.log2 < 1920 := by
  rcases Nat.eq_zero_or_pos i.natAbs with z | z
  · rw [z]
    decide
  · exact (Nat.log2_lt (by omega)).mpr (Nat.lt_of_lt_of_le h (Nat.pow_le_pow_right (by decide) (by decide)))
theorem nT_lenI {i : Int} {k : Nat} (hk : 0 < k) (h : 0 ≤ i ∧ i < 10 ^ k) : (nT i).length ≤ k := by
  obtain ⟨n, rfl⟩ : ∃ n : Nat, i = (n : Int) := ⟨i.toNat, by omega⟩
  refine nT_len hk ?_
  have h2 := h.2
  have e : ((10 : Int) ^ k) = ((10 ^ k : Nat) : Int) := by simp
  rw [e] at h2
  exact Int.ofNat_lt.mp h2
theorem sumT_le {k : Nat} (hk : 0 < k) : ∀ {l : List Int}, (∀ i ∈ l, 0 ≤ i ∧ i < 10 ^ k) → ((l.map nT).map (·.length)).sum ≤ l.length * k
  | [], _ => by simp
  | i :: l, h => by
    have h1 := nT_lenI hk (h i List.mem_cons_self)
    have h2 := sumT_le hk (l := l) fun j hj => h j (List.mem_cons_of_mem _ hj)
    simp only [List.map_cons, List.sum_cons, List.length_cons, Nat.add_mul]
    omega
theorem small_log {i : Int} (h : 0 ≤ i ∧ i < 10 ^ 9) : i.natAbs.log2 < 1920 := by
  refine log_small (Nat.lt_of_lt_of_le (by omega : i.natAbs < 2 ^ 30) (Nat.pow_le_pow_right (by decide) (by decide)))
abbrev sp_numbers_text : DSp := fun ds G Q _ => ∃ l : List Int, ds = [.tup (l.map D.int)] ∧ l.length ≤ 10000 ∧ (∀ i ∈ l, 0 ≤ i ∧ i < 10 ^ 9) ∧ Q (.str (nsT l)) G
def t_numbers_text : DS :=
  (dRet (dJoin (dC (.str ",")) (dLc false (dSeqI (dVar 0)) (gN 1) dYes (dCB dStrT (aCons (dVar 1) aNil)) [1])))
theorem len_numbers_text : ∀ ds G Q E, sp_numbers_text ds G Q E → ds.length = ["numbers"].length := by
  intro ds G Q E h
  first | (obtain ⟨rfl, _⟩ := h; rfl) | (obtain ⟨_, rfl, _⟩ := h; rfl) | (obtain ⟨_, _, rfl, _⟩ := h; rfl) | (obtain ⟨_, _, _, rfl, _⟩ := h; rfl) | (obtain ⟨_, _, _, _, rfl, _⟩ := h; rfl) | (obtain ⟨_, _, _, _, _, rfl, _⟩ := h; rfl) | (obtain ⟨_, _, _, _, _, _, rfl, _⟩ := h; rfl) | (obtain ⟨_, _, _, _, _, _, _, rfl, _⟩ := h; rfl) | (obtain ⟨_, _, _, _, _, _, _, _, rfl, _⟩ := h; rfl) | (obtain ⟨_, _, _, _, _, _, _, _, _, rfl, _⟩ := h; rfl) | (obtain ⟨_, _, _, _, _, _, _, _, _, _, rfl, _⟩ := h; rfl) | (obtain ⟨_, _, _, _, _, _, _, _, _, _, _, rfl, _⟩ := h; rfl) | (obtain ⟨_, _, _, _, _, _, _, _, _, _, _, _, rfl, _⟩ := h; rfl) | (obtain ⟨_, _, _, _, _, _, _, _, _, _, _, _, _, rfl, _⟩ := h; rfl) | (obtain ⟨_, _, _, _, _, _, _, _, _, _, _, _, _, _, rfl, _⟩ := h; rfl) | (obtain ⟨_, _, _, _, _, _, _, _, _, _, _, _, _, _, _, rfl, _⟩ := h; rfl)
theorem rd_numbers_text : ∀ ds G Q E', sp_numbers_text ds G Q E' → t_numbers_text (endD Q) (startD ["numbers", "number"] ds) G := by
  rintro ds G Q E' ⟨l, rfl, hl, hb, q⟩
  unfold t_numbers_text
  walk_at "dl"
  refine ⟨⟨_, rfl⟩, ?_⟩
  show ∀ p, G p = none → compL _ _ _ (fun _ => True) p _ (l.map D.int) [] _ _
  refine lc_src l D.int (fun i => .str (nT i)) rfl (Nat.le_trans hl (by decide)) (fun _ _ _ => trivial) (fun i hi p ys Q' hp k => ?_) ?_
  · walk_at "dl"
    exact ⟨small_log (hb i hi), k⟩
  · refine ⟨_, l.map nT, rfl, by rw [List.map_map]; rfl, ?_, Rt.same q⟩
    have := sumT_le (k := 9) (by decide) hb
    rw [List.length_map, show sComma.length = 1 by decide +kernel]
    omega
/-- an ascending tuple of numbers below another one -/
def ascD : List D → Bool
  | [] => true
  | [_] => true
  | x :: y :: r => decide (iv x < iv y) && ascD (y :: r)
def lotB (n : Int) : D → Bool
  | .tup xs => xs.all (fun x => isW x 0 (n - 1)) && ascD xs
  | _ => false
theorem ascD_zip : ∀ xs : List D, (xs.zip xs.tail).all (fun p => decide (iv p.1 < iv p.2)) = ascD xs
  | [] => rfl
  | [_] => rfl
  | x :: y :: r => by
    show (decide (iv x < iv y) && ((y :: r).zip (y :: r).tail).all _) = _
    rw [ascD_zip (y :: r)]
    rfl
theorem ascI_zip : ∀ xs : List Int, (xs.zip xs.tail).all (fun p => decide (p.1 < p.2)) = ascD (xs.map D.int)
  | [] => rfl
  | [_] => rfl
  | x :: y :: r => by
    show (decide (x < y) && ((y :: r).zip (y :: r).tail).all _) = (decide (x < y) && ascD ((y :: r).map D.int))
    rw [ascI_zip (y :: r)]
theorem cut1 (xs : List D) : DL.cutD xs (some 1) none = xs.tail := by
  cases xs with
  | nil => rfl
  | cons x r =>
    unfold DL.cutD
    have e1 : HT.sIx (x :: r).length 0 (some 1) = 1 := by
      unfold HT.sIx
      simp
    have e2 : HT.sIx (x :: r).length (x :: r).length none = r.length + 1 := rfl
    rw [e1, e2, Nat.add_sub_cancel, List.drop_succ_cons, List.drop_zero, List.take_length]
    rfl
abbrev sp_is_lot : DSp := fun ds G Q _ => ∃ (x : D) (n : Int), ds = [x, .int n] ∧ pd x = true ∧ (∀ xs, x = .tup xs → xs.length ≤ 1000000) ∧ Q (.bl (lotB n x)) G
def t_is_lot : DS :=
  (dSeq (dIfS (dOr (dNot (dB (dCB dIsi (aCons (dVar 0) (aCons (dC (.ty "tuple")) aNil))))) (dNot (dB (dCB dAll (aCons (dLc false (dSeqI (dVar 0)) (gN 2) dYes (dCall sp_is_within X0 (aCons (dVar 2) (aCons (dC (.int 0)) (aCons (dOp dSub (dVar 1) (dC (.int 1))) aNil)))) [2]) aNil))))) (dRet (dC (.bl false))) dNext)
  (dRet (dCB dAll (aCons (dLc false (dZipX (aCons (dVar 0) (aCons (dSl false (dVar 0) (oSome (dC (.int 1))) oNone) aNil))) (gT 2 (gsCons (gN 2) (gsCons (gN 3) gsNil))) dYes (dOp dLt (dVar 2) (dVar 3)) [2, 3]) aNil))))
theorem len_is_lot : ∀ ds G Q E, sp_is_lot ds G Q E → ds.length = ["thing", "many"].length := by
  intro ds G Q E h
  first | (obtain ⟨rfl, _⟩ := h; rfl) | (obtain ⟨_, rfl, _⟩ := h; rfl) | (obtain ⟨_, _, rfl, _⟩ := h; rfl) | (obtain ⟨_, _, _, rfl, _⟩ := h; rfl) | (obtain ⟨_, _, _, _, rfl, _⟩ := h; rfl) | (obtain ⟨_, _, _, _, _, rfl, _⟩ := h; rfl) | (obtain ⟨_, _, _, _, _, _, rfl, _⟩ := h; rfl) | (obtain ⟨_, _, _, _, _, _, _, rfl, _⟩ := h; rfl) | (obtain ⟨_, _, _, _, _, _, _, _, rfl, _⟩ := h; rfl) | (obtain ⟨_, _, _, _, _, _, _, _, _, rfl, _⟩ := h; rfl) | (obtain ⟨_, _, _, _, _, _, _, _, _, _, rfl, _⟩ := h; rfl) | (obtain ⟨_, _, _, _, _, _, _, _, _, _, _, rfl, _⟩ := h; rfl) | (obtain ⟨_, _, _, _, _, _, _, _, _, _, _, _, rfl, _⟩ := h; rfl) | (obtain ⟨_, _, _, _, _, _, _, _, _, _, _, _, _, rfl, _⟩ := h; rfl) | (obtain ⟨_, _, _, _, _, _, _, _, _, _, _, _, _, _, rfl, _⟩ := h; rfl) | (obtain ⟨_, _, _, _, _, _, _, _, _, _, _, _, _, _, _, rfl, _⟩ := h; rfl)
theorem rd_is_lot : ∀ ds G Q E', sp_is_lot ds G Q E' → t_is_lot (endD Q) (startD ["thing", "many", "one", "other"] ds) G := by
  rintro ds G Q E' ⟨x, n, rfl, hp, hl, q⟩
  unfold t_is_lot
  refine dSeq_mk ?_
  walk_at "dl"
  rw [isi_tuple hp]
  cases hx : isT x with
  | false =>
    rw [show lotB n x = false by cases x <;> first | rfl | cases hx] at q
    exact Rt.same q
  | true =>
    obtain ⟨xs, rfl⟩ := isT_iff.mp hx
    have hl := hl xs rfl
    rw [show lotB n (.tup xs) = (xs.all (fun x => isW x 0 (n - 1)) && ascD xs) from rfl] at q
    walk_at "dl"
    refine lc_map (fun x => .bl (isW x 0 (n - 1))) (Nat.le_trans hl (by decide)) (fun _ _ _ => trivial) (fun x hx p ys Q' hp' k => ?_) ?_
    · walk_at "dl"
      exact ⟨_, _, _, rfl, pd_tup.mp hp x hx, k⟩
    · walk_at "dl"
      cases hw : xs.all fun t => isW t 0 (n - 1) with
      | false =>
        rw [hw] at q
        walk_at "dl"
        exact Rt.same q
      | true =>
        rw [hw] at q
        obtain ⟨is, rfl⟩ : ∃ is : List Int, xs = is.map D.int := ⟨xs.map iv, by
          rw [List.map_map]
          refine (List.map_id' _).symm.trans (List.map_congr_left fun x hx => ?_)
          obtain ⟨i, rfl, _⟩ := isW_isI (List.all_eq_true.mp hw x hx)
          rfl⟩
        walk_at "dl"
        rw [cut1, show (is.map D.int).tail = is.tail.map D.int from List.map_tail.symm, prs_zip]
        refine lc_src (is.zip is.tail) (fun p => .tup [.int p.1, .int p.2]) (fun p => .bl (decide (p.1 < p.2))) rfl (by rw [List.length_zip]; rw [List.length_map] at hl; exact Nat.le_trans (by omega : _ ≤ 1000000) (by decide)) (fun _ _ _ => trivial) (fun p _ p2 ys Q' hp2 k => ?_) ?_
        · walk_at "dl"
          exact k
        · rw [w_all_lst, w_bls_map, List.all_map, show (id ∘ fun p : Int × Int => decide (p.1 < p.2)) = fun p : Int × Int => decide (p.1 < p.2) from rfl, ascI_zip]
          rw [Bool.true_and] at q
          exact Rt.same q
/-- lots of people -/
def lotsD : D → Bool
  | .tup xs => decide (xs.length ≤ 400) && xs.all (lotB 12)
  | _ => false
abbrev sp_check_lots : DSp := fun ds G Q E => ∃ x, ds = [x] ∧ pd x = true ∧ (∀ xs, x = .tup xs → ∀ y ∈ xs, ∀ ys, y = .tup ys → ys.length ≤ 1000000) ∧ (lotsD x = false → E "NoLots" [] G) ∧ (lotsD x = true → Q .non G)
def t_check_lots (E' : DX) : DS :=
  (dIfS (dOr (dNot (dB (dCB dIsi (aCons (dVar 0) (aCons (dC (.ty "tuple")) aNil))))) (dOr (dB (dOp dGt (dCB dLen (aCons (dVar 0) aNil)) (dC (.int 400)))) (dNot (dB (dCB dAll (aCons (dLc false (dSeqI (dVar 0)) (gN 1) dYes (dCall sp_is_lot X0 (aCons (dVar 1) (aCons (dC (.int 12)) aNil))) [1]) aNil)))))) (dRaise "NoLots" E') dNext)
theorem len_check_lots : ∀ ds G Q E, sp_check_lots ds G Q E → ds.length = ["lots"].length := by
  intro ds G Q E h
  first | (obtain ⟨rfl, _⟩ := h; rfl) | (obtain ⟨_, rfl, _⟩ := h; rfl) | (obtain ⟨_, _, rfl, _⟩ := h; rfl) | (obtain ⟨_, _, _, rfl, _⟩ := h; rfl) | (obtain ⟨_, _, _, _, rfl, _⟩ := h; rfl) | (obtain ⟨_, _, _, _, _, rfl, _⟩ := h; rfl) | (obtain ⟨_, _, _, _, _, _, rfl, _⟩ := h; rfl) | (obtain ⟨_, _, _, _, _, _, _, rfl, _⟩ := h; rfl) | (obtain ⟨_, _, _, _, _, _, _, _, rfl, _⟩ := h; rfl) | (obtain ⟨_, _, _, _, _, _, _, _, _, rfl, _⟩ := h; rfl) | (obtain ⟨_, _, _, _, _, _, _, _, _, _, rfl, _⟩ := h; rfl) | (obtain ⟨_, _, _, _, _, _, _, _, _, _, _, rfl, _⟩ := h; rfl) | (obtain ⟨_, _, _, _, _, _, _, _, _, _, _, _, rfl, _⟩ := h; rfl) | (obtain ⟨_, _, _, _, _, _, _, _, _, _, _, _, _, rfl, _⟩ := h; rfl) | (obtain ⟨_, _, _, _, _, _, _, _, _, _, _, _, _, _, rfl, _⟩ := h; rfl) | (obtain ⟨_, _, _, _, _, _, _, _, _, _, _, _, _, _, _, rfl, _⟩ := h; rfl)
theorem rd_check_lots (E' : DX) : ∀ ds G Q, sp_check_lots ds G Q E' → t_check_lots E' (endD Q) (startD ["lots", "lot"] ds) G := by
  rintro ds G Q ⟨x, rfl, hp, hl, he, hq⟩
  unfold t_check_lots
  walk_at "dl"
  rw [isi_tuple hp]
  walk_at "dl"
  cases x with
  | tup xs =>
    walk_at "dl"
    have e : lotsD (.tup xs) = (decide (xs.length ≤ 400) && xs.all (lotB 12)) := rfl
    by_cases h : xs.length ≤ 400
    · rw [if_neg (by show ¬ (!true) = true; decide), decide_eq_false (by omega), if_neg (by decide)]
      refine lc_src xs id (fun y => .bl (lotB 12 y)) (by rw [List.map_id]) (Nat.le_trans h (by decide)) (fun _ _ _ => trivial) (fun y hy p ys Q' hp' k => ?_) ?_
      · walk_at "dl"
        exact ⟨y, 12, rfl, pd_tup.mp hp y hy, hl xs rfl y hy, k⟩
      · walk_at "dl"
        rw [decide_eq_true h, Bool.true_and] at e
        cases ha : xs.all (lotB 12) with
        | false => exact he (by rw [e, ha])
        | true => exact Rt.same (hq (by rw [e, ha]))
    · rw [if_neg (by show ¬ (!true) = true; decide), decide_eq_true (by omega), if_pos rfl]
      exact he (by rw [e, decide_eq_false h]; rfl)
  | _ => first | exact he rfl | (rw [if_pos (by decide)]; exact he rfl)
open TL
abbrev lotI (l : List Int) : D := .tup (l.map D.int)
abbrev sDash : Str := "-"
def lotT (l : List Int) : Str := (if 0 < l.length then nsT l else sDash) ++ sLine
def lotsT (ls : List (List Int)) : Str := Txt.join Str.empty (ls.map lotT)
/-- a lot's numbers -/
structure Lot12 (l : List Int) : Prop where
  ln : l.length ≤ 12
  bd : ∀ i ∈ l, 0 ≤ i ∧ i ≤ 11
theorem nsT_lenI {l : List Int} {k : Nat} (hk : 0 < k) (h : ∀ i ∈ l, 0 ≤ i ∧ i < 10 ^ k) : (nsT l).length ≤ l.length * (k + 1) := by
  rw [len_tl, tl_joinT]
  have := joinL_bd (S := tl sComma) (b := k) (ps := (l.map nT).map tl) fun p hp => by
    rw [List.map_map, List.mem_map] at hp
    obtain ⟨i, hi, rfl⟩ := hp
    have := nT_lenI hk (h i hi)
    rwa [len_tl] at this
  rw [List.length_map, List.length_map] at this
  exact this
theorem app_len (x y : Str) : (x ++ y).length = x.length + y.length := by
  rw [len_tl, len_tl x, len_tl y, tl_append, List.length_append]
theorem Lot12.len {l : List Int} (h : Lot12 l) : (lotT l).length ≤ 40 := by
  unfold lotT
  rw [app_len, show sLine.length = 1 by decide +kernel]
  by_cases z : 0 < l.length
  · rw [if_pos z]
    have := nsT_lenI (k := 2) (by decide) (l := l) fun i hi => by have := h.bd i hi; omega
    have := h.ln
    omega
  · rw [if_neg z, show sDash.length = 1 by decide +kernel]
    omega
theorem sum_bd {b : Nat} : ∀ {l : List Nat}, (∀ x ∈ l, x ≤ b) → l.sum ≤ l.length * b
  | [], _ => by simp
  | x :: l, h => by
    have h1 := h x List.mem_cons_self
    have h2 := sum_bd (l := l) fun y hy => h y (List.mem_cons_of_mem _ hy)
    simp only [List.sum_cons, List.length_cons, Nat.add_mul]
    omega
abbrev sp_lots_text : DSp := fun ds G Q E => ∃ x, ds = [x] ∧ pd x = true ∧ (∀ xs, x = .tup xs → ∀ y ∈ xs, ∀ ys, y = .tup ys → ys.length ≤ 1000000) ∧ (lotsD x = false → E "NoLots" [] G) ∧ (lotsD x = true → ∃ ls : List (List Int), x = .tup (ls.map lotI) ∧ (∀ l ∈ ls, Lot12 l) ∧ ls.length ≤ 400 ∧ Q (.str (lotsT ls)) G)
def t_lots_text (E' : DX) : DS :=
  (dSeq (dDrop (dCall sp_check_lots E' (aCons (dVar 0) aNil)))
  (dRet (dJoin (dC (.str "")) (dLc false (dSeqI (dVar 0)) (gN 1) dYes (dOp (dAdd false) (dIf (dB (dOp dGt (dCB dLen (aCons (dVar 1) aNil)) (dC (.int 0)))) (dCall sp_numbers_text X0 (aCons (dVar 1) aNil)) (dC (.str "-"))) (dC (.str "\n"))) [1]))))
theorem len_lots_text : ∀ ds G Q E, sp_lots_text ds G Q E → ds.length = ["lots"].length := by
  intro ds G Q E h
  first | (obtain ⟨rfl, _⟩ := h; rfl) | (obtain ⟨_, rfl, _⟩ := h; rfl) | (obtain ⟨_, _, rfl, _⟩ := h; rfl) | (obtain ⟨_, _, _, rfl, _⟩ := h; rfl) | (obtain ⟨_, _, _, _, rfl, _⟩ := h; rfl) | (obtain ⟨_, _, _, _, _, rfl, _⟩ := h; rfl) | (obtain ⟨_, _, _, _, _, _, rfl, _⟩ := h; rfl) | (obtain ⟨_, _, _, _, _, _, _, rfl, _⟩ := h; rfl) | (obtain ⟨_, _, _, _, _, _, _, _, rfl, _⟩ := h; rfl) | (obtain ⟨_, _, _, _, _, _, _, _, _, rfl, _⟩ := h; rfl) | (obtain ⟨_, _, _, _, _, _, _, _, _, _, rfl, _⟩ := h; rfl) | (obtain ⟨_, _, _, _, _, _, _, _, _, _, _, rfl, _⟩ := h; rfl) | (obtain ⟨_, _, _, _, _, _, _, _, _, _, _, _, rfl, _⟩ := h; rfl) | (obtain ⟨_, _, _, _, _, _, _, _, _, _, _, _, _, rfl, _⟩ := h; rfl) | (obtain ⟨_, _, _, _, _, _, _, _, _, _, _, _, _, _, rfl, _⟩ := h; rfl) | (obtain ⟨_, _, _, _, _, _, _, _, _, _, _, _, _, _, _, rfl, _⟩ := h; rfl)
theorem rd_lots_text (E' : DX) : ∀ ds G Q, sp_lots_text ds G Q E' → t_lots_text E' (endD Q) (startD ["lots", "lot"] ds) G := by
  rintro ds G Q ⟨x, rfl, hp, hl, he, hq⟩
  unfold t_lots_text
  refine dSeq_mk ?_
  walk_at "dl"
  refine ⟨x, rfl, hp, hl, he, fun hx => ?_⟩
  obtain ⟨ls, rfl, hb, hn, q⟩ := hq hx
  refine ⟨⟨_, rfl⟩, ?_⟩
  show ∀ p, G p = none → compL _ _ _ (fun _ => True) p _ (ls.map lotI) [] _ _
  refine lc_src ls lotI (fun l => .str (lotT l)) rfl (Nat.le_trans hn (by decide)) (fun _ _ _ => trivial) (fun l hl p ys Q' hp' k => ?_) ?_
  · have hb := hb l hl
    walk_at "dl"
    have hz : (10 : Int) ^ 9 = 1000000000 := by decide
    have e : decide (0 < ((l.map D.int).length : Int)) = decide (0 < l.length) := by rw [List.length_map]; exact decide_eq_decide.mpr (by omega)
    rw [e]
    unfold lotT at k
    by_cases z : 0 < l.length
    · rw [if_pos z] at k
      rw [decide_eq_true z, if_pos rfl]
      have hln := nsT_lenI (k := 2) (by decide) (l := l) fun i hi => by have := hb.bd i hi; omega
      refine ⟨l, rfl, by have := hb.ln; omega, fun i hi => by have := hb.bd i hi; omega, ?_⟩
      walk_at "dl"
      refine ⟨?_, k⟩
      have := hb.ln
      rw [show (Str.ofString "\n").length = 1 by decide +kernel]
      exact Nat.le_trans (by omega : _ ≤ 100) (by decide)
    · rw [if_neg z] at k
      rw [decide_eq_false z, if_neg (by decide)]
      exact ⟨by decide +kernel, k⟩
  · refine ⟨_, ls.map lotT, rfl, by rw [List.map_map]; rfl, ?_, Rt.same q⟩
    have := sum_bd (b := 40) (l := (ls.map lotT).map (·.length)) fun x hx => by
      rw [List.map_map, List.mem_map] at hx
      obtain ⟨l, hl, rfl⟩ := hx
      exact (hb l hl).len
    rw [List.length_map, List.length_map] at this
    rw [List.length_map, show (Str.ofString "").length = 0 by decide +kernel]
    omega
open TL
abbrev sSlash : Str := "/"
def frT (r : Rat) : Str := if r.den = 1 then nT r.num else nT r.num ++ sSlash ++ nT (r.den : Nat)
def FrB (r : Rat) : Prop := r.num.natAbs < 2 ^ 1000 ∧ r.den < 2 ^ 1000
abbrev sp_fraction_text : DSp := fun ds G Q E => ∃ x, ds = [x] ∧ pd x = true ∧ (isFr x = false → E "NoFraction" [] G) ∧ (isFr x = true → ∃ r : Rat, x = fr r ∧ FrB r ∧ Q (.str (frT r)) G)
def t_fraction_text (E' : DX) : DS :=
  (dSeq (dIfS (dNot (dB (dCall sp_is_fraction X0 (aCons (dVar 0) aNil)))) (dRaise "NoFraction" E') dNext)
  (dRet (dIf (dB (dOp dEq (dOp dIx (dVar 0) (dC (.int 1))) (dC (.int 1)))) (dCB dStrT (aCons (dOp dIx (dVar 0) (dC (.int 0))) aNil)) (dOp (dAdd false) (dOp (dAdd false) (dCB dStrT (aCons (dOp dIx (dVar 0) (dC (.int 0))) aNil)) (dC (.str "/"))) (dCB dStrT (aCons (dOp dIx (dVar 0) (dC (.int 1))) aNil))))))
theorem len_fraction_text : ∀ ds G Q E, sp_fraction_text ds G Q E → ds.length = ["thing"].length := by
  intro ds G Q E h
  first | (obtain ⟨rfl, _⟩ := h; rfl) | (obtain ⟨_, rfl, _⟩ := h; rfl) | (obtain ⟨_, _, rfl, _⟩ := h; rfl) | (obtain ⟨_, _, _, rfl, _⟩ := h; rfl) | (obtain ⟨_, _, _, _, rfl, _⟩ := h; rfl) | (obtain ⟨_, _, _, _, _, rfl, _⟩ := h; rfl) | (obtain ⟨_, _, _, _, _, _, rfl, _⟩ := h; rfl) | (obtain ⟨_, _, _, _, _, _, _, rfl, _⟩ := h; rfl) | (obtain ⟨_, _, _, _, _, _, _, _, rfl, _⟩ := h; rfl) | (obtain ⟨_, _, _, _, _, _, _, _, _, rfl, _⟩ := h; rfl) | (obtain ⟨_, _, _, _, _, _, _, _, _, _, rfl, _⟩ := h; rfl) | (obtain ⟨_, _, _, _, _, _, _, _, _, _, _, rfl, _⟩ := h; rfl) | (obtain ⟨_, _, _, _, _, _, _, _, _, _, _, _, rfl, _⟩ := h; rfl) | (obtain ⟨_, _, _, _, _, _, _, _, _, _, _, _, _, rfl, _⟩ := h; rfl) | (obtain ⟨_, _, _, _, _, _, _, _, _, _, _, _, _, _, rfl, _⟩ := h; rfl) | (obtain ⟨_, _, _, _, _, _, _, _, _, _, _, _, _, _, _, rfl, _⟩ := h; rfl)
theorem rd_fraction_text (E' : DX) : ∀ ds G Q, sp_fraction_text ds G Q E' → t_fraction_text E' (endD Q) (startD ["thing"] ds) G := by
  rintro ds G Q ⟨x, rfl, hp, he, hq⟩
  unfold t_fraction_text
  refine dSeq_mk ?_
  walk_at "dx"
  refine ⟨x, rfl, hp, ?_⟩
  cases hx : isFr x with
  | false => exact he hx
  | true =>
    obtain ⟨r, rfl, hs, q⟩ := hq hx
    rw [show fr r = .tup [.int r.num, .int (r.den : Nat)] from rfl]
    walk_at "dx"
    have hd : decide (((r.den : Nat) : Int) = 1) = decide (r.den = 1) := decide_eq_decide.mpr (by omega)
    rw [hd]
    unfold frT at q
    have l1 : r.num.natAbs.log2 < 1920 := log_small hs.1
    have l2 : ((r.den : Nat) : Int).natAbs.log2 < 1920 := log_small (by rw [Int.natAbs_natCast]; exact hs.2)
    have l3 := PyProof.Rows.int_text_len_1921 l1
    have l4 := PyProof.Rows.int_text_len_1921 l2
    have l5 : (Str.ofString "/").length = 1 := by decide +kernel
    by_cases hd1 : r.den = 1
    · rw [if_pos hd1] at q
      rw [decide_eq_true hd1, if_pos rfl]
      exact ⟨l1, Rt.same q⟩
    · rw [if_neg hd1] at q
      rw [decide_eq_false hd1, if_neg (by decide)]
      refine ⟨l1, Nat.le_trans (by omega : _ ≤ 10000) (by decide), l2, Nat.le_trans (by rw [app_len]; omega : _ ≤ 10000) (by decide), Rt.same q⟩
open TL
abbrev sp_L_fraction_told : DSp := fun ds G Q _ => ∃ r : Rat, ds = [fr r] ∧ FrB r ∧ Q (.str (frT r)) G
def t_L_fraction_told : DS :=
  (dRet (dIf (dB (dOp dEq (dOp dIx (dVar 0) (dC (.int 1))) (dC (.int 1)))) (dCB dStrT (aCons (dOp dIx (dVar 0) (dC (.int 0))) aNil)) (dOp (dAdd false) (dOp (dAdd false) (dCB dStrT (aCons (dOp dIx (dVar 0) (dC (.int 0))) aNil)) (dC (.str "/"))) (dCB dStrT (aCons (dOp dIx (dVar 0) (dC (.int 1))) aNil)))))
theorem len_L_fraction_told : ∀ ds G Q E, sp_L_fraction_told ds G Q E → ds.length = ["_law_one"].length := by
  intro ds G Q E h
  first | (obtain ⟨rfl, _⟩ := h; rfl) | (obtain ⟨_, rfl, _⟩ := h; rfl) | (obtain ⟨_, _, rfl, _⟩ := h; rfl) | (obtain ⟨_, _, _, rfl, _⟩ := h; rfl) | (obtain ⟨_, _, _, _, rfl, _⟩ := h; rfl) | (obtain ⟨_, _, _, _, _, rfl, _⟩ := h; rfl) | (obtain ⟨_, _, _, _, _, _, rfl, _⟩ := h; rfl) | (obtain ⟨_, _, _, _, _, _, _, rfl, _⟩ := h; rfl) | (obtain ⟨_, _, _, _, _, _, _, _, rfl, _⟩ := h; rfl) | (obtain ⟨_, _, _, _, _, _, _, _, _, rfl, _⟩ := h; rfl) | (obtain ⟨_, _, _, _, _, _, _, _, _, _, rfl, _⟩ := h; rfl) | (obtain ⟨_, _, _, _, _, _, _, _, _, _, _, rfl, _⟩ := h; rfl) | (obtain ⟨_, _, _, _, _, _, _, _, _, _, _, _, rfl, _⟩ := h; rfl) | (obtain ⟨_, _, _, _, _, _, _, _, _, _, _, _, _, rfl, _⟩ := h; rfl) | (obtain ⟨_, _, _, _, _, _, _, _, _, _, _, _, _, _, rfl, _⟩ := h; rfl) | (obtain ⟨_, _, _, _, _, _, _, _, _, _, _, _, _, _, _, rfl, _⟩ := h; rfl)
theorem rd_L_fraction_told : ∀ ds G Q E', sp_L_fraction_told ds G Q E' → t_L_fraction_told (endD Q) (startD ["_law_one"] ds) G := by
  rintro ds G Q E' ⟨r, rfl, hs, q⟩
  unfold t_L_fraction_told
  rw [show fr r = .tup [.int r.num, .int (r.den : Nat)] from rfl]
  walk_at "dx"
  have hd : decide (((r.den : Nat) : Int) = 1) = decide (r.den = 1) := decide_eq_decide.mpr (by omega)
  rw [hd]
  unfold frT at q
  have l1 : r.num.natAbs.log2 < 1920 := log_small hs.1
  have l2 : ((r.den : Nat) : Int).natAbs.log2 < 1920 := log_small (by rw [Int.natAbs_natCast]; exact hs.2)
  have l3 := PyProof.Rows.int_text_len_1921 l1
  have l4 := PyProof.Rows.int_text_len_1921 l2
  have l5 : (Str.ofString "/").length = 1 := by decide +kernel
  by_cases hd1 : r.den = 1
  · rw [if_pos hd1] at q
    rw [decide_eq_true hd1, if_pos rfl]
    exact ⟨l1, Rt.same q⟩
  · rw [if_neg hd1] at q
    rw [decide_eq_false hd1, if_neg (by decide)]
    refine ⟨l1, Nat.le_trans (by omega : _ ≤ 10000) (by decide), l2, Nat.le_trans (by rw [app_len]; omega : _ ≤ 10000) (by decide), Rt.same q⟩
theorem len_L_draw : ∀ ds G Q E, sp_L_draw_o ds G Q E → ds.length = ["_law_hand_here", "_law_many"].length := by
  intro ds G Q E h
  unfold sp_L_draw_o at h
  split at h
  · rfl
  · exact h.elim
theorem mod31 {a m : Int} (h : 0 < m) (h2 : m < 2 ^ 40) : -(2 ^ 64) < a % m ∧ a % m < 2 ^ 64 := by
  have := Int.emod_nonneg a (show m ≠ 0 by omega)
  have := Int.emod_lt_of_pos a h
  omega
def t_L_draw : DS :=
  (dSeq (dIfS (dAnd (dB (dOp dEq (dOp dIx (dVar 0) (dC (.int 2))) (dC (.int 0)))) (dB (dOp dLt (dOp dIx (dVar 0) (dC (.int 1))) (dCB dLen (aCons (dOp dIx (dVar 0) (dC (.int 0))) aNil))))) (dSeq (dAsg 2 (dOp dIx (dOp dIx (dVar 0) (dC (.int 0))) (dOp dIx (dVar 0) (dC (.int 1)))))
  (dSeq (dSetIx (dOp (dAdd false) (dOp dIx (dVar 0) (dC (.int 1))) (dC (.int 1))) (dVar 0) (dC (.int 1)))
  (dSeq (dSetIx (dOp dMod (dCB dInt (aCons (dOp (dAdd false) (dOp (dAdd false) (dOp (dMul false) (dOp dIx (dVar 0) (dC (.int 3))) (dC (.int 69621))) (dVar 2)) (dC (.int 11))) aNil)) (dC (.int 2147483629))) (dVar 0) (dC (.int 3)))
  (dIfS (dB (dOp dGe (dVar 2) (dOp dPow (dC (.int 10)) (dC (.int 18))))) (dSetIx (dVar 2) (dVar 0) (dC (.int 2))) dNext)))) dNext)
  (dSeq (dIfS (dB (dOp dGt (dOp dIx (dVar 0) (dC (.int 2))) (dC (.int 0)))) (dSeq (dAsg 3 (dOp dMod (dCB dInt (aCons (dOp dIx (dVar 0) (dC (.int 2))) aNil)) (dVar 1)))
  (dSeq (dSetIx (dOp dDiv (dOp dIx (dVar 0) (dC (.int 2))) (dVar 1)) (dVar 0) (dC (.int 2)))
  (dRet (dVar 3)))) dNext)
  (dSeq (dSetIx (dOp (dAdd false) (dOp dIx (dVar 0) (dC (.int 4))) (dC (.int 1))) (dVar 0) (dC (.int 4)))
  (dSeq (dAsg 4 (dOp dMod (dCB dInt (aCons (dOp (dMul false) (dCB dInt (aCons (dOp (dAdd false) (dOp dIx (dVar 0) (dC (.int 3))) (dOp (dMul false) (dC (.int 7919)) (dOp dIx (dVar 0) (dC (.int 4))))) aNil)) (dC (.int 48271))) aNil)) (dC (.int 2147483647))))
  (dSeq (dAsg 4 (dOp dMod (dCB dInt (aCons (dOp (dMul false) (dVar 4) (dOp (dAdd false) (dOp dDiv (dVar 4) (dC (.int 1009))) (dC (.int 69621)))) aNil)) (dC (.int 2147483647))))
  (dSeq (dAsg 4 (dOp dMod (dCB dInt (aCons (dOp (dMul false) (dVar 4) (dOp (dAdd false) (dOp dDiv (dVar 4) (dC (.int 2003))) (dC (.int 40692)))) aNil)) (dC (.int 2147483399))))
  (dRet (dOp dMod (dCB dInt (aCons (dOp dDiv (dVar 4) (dC (.int 16))) aNil)) (dVar 1)))))))))
theorem rd_L_draw : ∀ ds G Q E', sp_L_draw_o ds G Q E' → t_L_draw (endD Q) (startD ["_law_hand_here", "_law_many", "_law_cell", "_law_digit", "_law_number"] ds) G := by
  intro ds G Q E' h
  unfold sp_L_draw_o at h
  split at h
  · rename_i h m
    obtain ⟨xs, ⟨cs, p, c, r, t, rfl, hp⟩, hx, m0, m1, q⟩ := h
    obtain ⟨G0, rfl⟩ : ∃ G0, G = gu G0 h (.lst [.lst (cs.map D.int), .int p, .int c, .int r, .int t]) := ⟨G, (gu_self hx).symm⟩
    unfold t_L_draw
    refine ⟨fun δ G' => ∃ cell p c r t, 0 ≤ p ∧ δ = [some (.ref h), some (.int m), cell, none, none] ∧ G' = gu G0 h (.lst [.lst (cs.map D.int), .int p, .int c, .int r, .int t]), ?_, ?_⟩
    · walk_at "dl"
      have stay : ∃ cell p1 c1 r1 t1, 0 ≤ p1 ∧ [some (D.ref h), some (D.int m), none, none, none] = [some (.ref h), some (.int m), cell, none, none] ∧ gu G0 h (.lst [.lst (cs.map D.int), .int p, .int c, .int r, .int t]) = gu G0 h (.lst [.lst (cs.map D.int), .int p1, .int c1, .int r1, .int t1]) := ⟨_, _, _, _, _, hp, rfl, rfl⟩
      cases h1 : decide (c = 0) with
      | false =>
        walk_at "dl"
        exact ⟨_, _, _, _, _, hp, rfl, rfl⟩
      | true =>
        walk_at "dl"
        rw [List.length_map]
        cases h2 : decide (p < (cs.length : Int)) with
        | false =>
          walk_at "dl"
          exact ⟨_, _, _, _, _, hp, rfl, rfl⟩
        | true =>
          have hlt := of_decide_eq_true h2
          walk_at "dl"
          refine dSeq_mk ?_
          walk_at "dl"
          obtain ⟨y, hy, ey⟩ := at_mem (l := cs.map D.int) hp (by rw [List.length_map]; exact hlt)
          obtain ⟨k, _, rfl⟩ := List.mem_map.mp hy
          rw [got_eq ey]
          refine dSeq_mk ?_
          walk_at "dl"
          refine dSeq_mk ?_
          walk_at "dl"
          walk_at "sd"
          cases h3 : decide ((10 : Int) ^ (Int.toNat 18) ≤ k) with
          | false =>
            walk_at "dl"
            exact ⟨_, _, _, _, _, by omega, rfl, rfl⟩
          | true =>
            walk_at "dl"
            exact ⟨_, _, _, _, _, by omega, rfl, rfl⟩
    · clear hx
      rintro δ G' ⟨cell, p, c, r, t, hp, rfl, rfl⟩
      refine dSeq_mk ?_
      walk_at "dl"
      cases hc : decide ((0 : Int) < c) with
      | true =>
        walk_at "dl"
        refine dSeq_mk ?_
        walk_at "dl"
        refine ⟨m0, ?_⟩
        refine dSeq_mk ?_
        walk_at "dl"
        refine ⟨.lit m0 (by omega), ?_⟩
        have q' := q (c % m) _ ⟨cs, p, c / m, r, t, rfl, hp⟩ (Int.emod_nonneg _ (by omega)) (Int.emod_lt_of_pos _ m0)
        rw [gu_gu] at q'
        exact Rt.same q'
      | false =>
        walk_at "dl"
        refine dSeq_mk ?_
        walk_at "dl"
        refine dSeq_mk ?_
        walk_at "dl"
        walk_at "sd"
        refine dSeq_mk ?_
        walk_at "dl"
        refine ⟨.lit (by omega) (by omega), ?_⟩
        refine ⟨.l (mod31 (by omega) (by omega)).1 (mod31 (by omega) (by omega)).2, by omega, ?_⟩
        refine dSeq_mk ?_
        walk_at "dl"
        refine ⟨.lit (by omega) (by omega), ?_⟩
        refine ⟨.l (mod31 (by omega) (by omega)).1 (mod31 (by omega) (by omega)).2, by omega, ?_⟩
        refine ⟨.lit (by omega) (by omega), m0, ?_⟩
        have q' := fun d d0 d1 => q d [.lst (cs.map D.int), .int p, .int c, .int r, .int (t + 1)] ⟨cs, p, c, r, t + 1, rfl, hp⟩ d0 d1
        simp only [gu_gu] at q'
        exact Rt.same (q' _ (Int.emod_nonneg _ (by omega)) (Int.emod_lt_of_pos _ m0))
  · exact h.elim
abbrev sp_L_any : DSp := fun ds G Q _ => ∃ h x xs, ds = [.ref h, x] ∧ isHand G h ∧ seqOf x G = some xs ∧ (0 < xs.length ∧ xs.length < 2 ^ 60) ∧ (∀ y ∈ xs, Q y G)
def t_L_any : DS :=
  (dRet (dOp dIx (dVar 1) (dCall sp_L_draw X0 (aCons (dVar 0) (aCons (dCB dLen (aCons (dVar 1) aNil)) aNil)))))
theorem len_L_any : ∀ ds G Q E, sp_L_any ds G Q E → ds.length = ["_law_hand_here", "_law_some"].length := by
  intro ds G Q E h
  first | (obtain ⟨rfl, _⟩ := h; rfl) | (obtain ⟨_, rfl, _⟩ := h; rfl) | (obtain ⟨_, _, rfl, _⟩ := h; rfl) | (obtain ⟨_, _, _, rfl, _⟩ := h; rfl) | (obtain ⟨_, _, _, _, rfl, _⟩ := h; rfl) | (obtain ⟨_, _, _, _, _, rfl, _⟩ := h; rfl) | (obtain ⟨_, _, _, _, _, _, rfl, _⟩ := h; rfl) | (obtain ⟨_, _, _, _, _, _, _, rfl, _⟩ := h; rfl) | (obtain ⟨_, _, _, _, _, _, _, _, rfl, _⟩ := h; rfl) | (obtain ⟨_, _, _, _, _, _, _, _, _, rfl, _⟩ := h; rfl) | (obtain ⟨_, _, _, _, _, _, _, _, _, _, rfl, _⟩ := h; rfl) | (obtain ⟨_, _, _, _, _, _, _, _, _, _, _, rfl, _⟩ := h; rfl) | (obtain ⟨_, _, _, _, _, _, _, _, _, _, _, _, rfl, _⟩ := h; rfl) | (obtain ⟨_, _, _, _, _, _, _, _, _, _, _, _, _, rfl, _⟩ := h; rfl) | (obtain ⟨_, _, _, _, _, _, _, _, _, _, _, _, _, _, rfl, _⟩ := h; rfl) | (obtain ⟨_, _, _, _, _, _, _, _, _, _, _, _, _, _, _, rfl, _⟩ := h; rfl)
theorem rd_L_any : ∀ ds G Q E', sp_L_any ds G Q E' → t_L_any (endD Q) (startD ["_law_hand_here", "_law_some"] ds) G := by
  rintro ds G Q E' ⟨h, x, xs, rfl, hh, hx, ⟨h0, h1⟩, q⟩
  unfold t_L_any
  walk_at "dl"
  rw [len_seq hx]
  walk_at "dl"
  refine ⟨hh, by omega, by omega, fun d d0 d1 => ?_⟩
  rw [ix_seqD hx]
  exact got_in d0 d1 fun y hy => Rt.same (q y hy)
theorem gcd_stepB (a b : Int) : Int.gcd b (a % b) = Int.gcd a b := by
  rw [Int.gcd_comm a b, Int.emod_def]
  simp
abbrev sp_L_lowest : DSp := fun ds G Q _ => ∃ a b : Int, ds = [.int a, .int b] ∧ (0 < b ∧ b.natAbs < 2 ^ 8000) ∧ Q (fr (mkRat a b.toNat)) G
def t_L_lowest : DS :=
  (dSeq (dPar 2 3 (aCons (dCB dAbs (aCons (dVar 0) aNil)) (aCons (dVar 1) aNil)))
  (dSeq (dWhile (dB (dOp dGt (dVar 3) (dC (.int 0)))) (dPar 2 3 (aCons (dVar 3) (aCons (dOp dMod (dCB dInt (aCons (dVar 2) aNil)) (dVar 3)) aNil))))
  (dRet (dTup (aCons (dOp dDiv (dVar 0) (dVar 2)) (aCons (dOp dDiv (dVar 1) (dVar 2)) aNil))))))
theorem len_L_lowest : ∀ ds G Q E, sp_L_lowest ds G Q E → ds.length = ["_law_top", "_law_bottom"].length := by
  intro ds G Q E h
  first | (obtain ⟨rfl, _⟩ := h; rfl) | (obtain ⟨_, rfl, _⟩ := h; rfl) | (obtain ⟨_, _, rfl, _⟩ := h; rfl) | (obtain ⟨_, _, _, rfl, _⟩ := h; rfl) | (obtain ⟨_, _, _, _, rfl, _⟩ := h; rfl) | (obtain ⟨_, _, _, _, _, rfl, _⟩ := h; rfl) | (obtain ⟨_, _, _, _, _, _, rfl, _⟩ := h; rfl) | (obtain ⟨_, _, _, _, _, _, _, rfl, _⟩ := h; rfl) | (obtain ⟨_, _, _, _, _, _, _, _, rfl, _⟩ := h; rfl) | (obtain ⟨_, _, _, _, _, _, _, _, _, rfl, _⟩ := h; rfl) | (obtain ⟨_, _, _, _, _, _, _, _, _, _, rfl, _⟩ := h; rfl) | (obtain ⟨_, _, _, _, _, _, _, _, _, _, _, rfl, _⟩ := h; rfl) | (obtain ⟨_, _, _, _, _, _, _, _, _, _, _, _, rfl, _⟩ := h; rfl) | (obtain ⟨_, _, _, _, _, _, _, _, _, _, _, _, _, rfl, _⟩ := h; rfl) | (obtain ⟨_, _, _, _, _, _, _, _, _, _, _, _, _, _, rfl, _⟩ := h; rfl) | (obtain ⟨_, _, _, _, _, _, _, _, _, _, _, _, _, _, _, rfl, _⟩ := h; rfl)
theorem rd_L_lowest : ∀ ds G Q E', sp_L_lowest ds G Q E' → t_L_lowest (endD Q) (startD ["_law_top", "_law_bottom", "_law_one", "_law_other"] ds) G := by
  rintro ds G Q E' ⟨a, b, rfl, ⟨hb, hb2⟩, q⟩
  unfold t_L_lowest
  refine dSeq_mk ?_
  walk_at "dl"
  have ea : (if a < 0 then -a else a) = ((a.natAbs : Nat) : Int) := by split <;> omega
  rw [ea]
  have g0 : 0 < Int.gcd a b := Int.gcd_pos_of_ne_zero_right _ (by omega)
  have g1 : ((Int.gcd a b : Nat) : Int) ≤ b := Int.le_of_dvd hb (Int.gcd_dvd_right _ _)
  have dv : ∀ i : Int, DivOk i ((Int.gcd a b : Nat) : Int) := fun i => div_8000 (by omega) (by omega)
  refine dSeq_mk ?_
  refine ⟨fun k δ G' => ∃ x y : Int, δ = [some (.int a), some (.int b), some (.int x), some (.int y)] ∧ G' = G ∧ 0 ≤ x ∧ 0 ≤ y ∧ y.toNat = k ∧ Int.gcd x y = Int.gcd a b, ⟨_, _, _, rfl, rfl, by omega, by omega, rfl, by show Nat.gcd (Int.natAbs (a.natAbs : Nat)) b.natAbs = Nat.gcd a.natAbs b.natAbs; rw [Int.natAbs_natCast]⟩, ?_⟩
  rintro k δ G' ⟨x, y, rfl, rfl, hx, hy, hk, hg⟩
  walk_at "dl"
  cases h : decide (0 < y) with
  | false =>
    have h := of_decide_eq_false h
    have : y = 0 := by omega
    subst this
    rw [Int.gcd_zero_right] at hg
    walk_at "dl"
    have e : x = ((Int.gcd a b : Nat) : Int) := by omega
    rw [e]
    refine ⟨dv _, dv _, by decide, ?_⟩
    rw [low_fr hb] at q
    exact Rt.same q
  | true =>
    have h := of_decide_eq_true h
    walk_at "dl"
    refine ⟨h, ?_⟩
    have m0 := Int.emod_nonneg x (by omega : y ≠ 0)
    have m1 := Int.emod_lt_of_pos x h
    exact ⟨(x % y).toNat, by omega, _, _, rfl, hy, m0, rfl, (gcd_stepB x y).trans hg⟩
open TL
theorem fig_dig (c : Nat) : decide (c ∈ (Str.ofString "0123456789").cps.toList) = dig c := by
  have e : (Str.ofString "0123456789").cps.toList = [48, 49, 50, 51, 52, 53, 54, 55, 56, 57] := by decide +kernel
  rw [e, Bool.eq_iff_iff]
  unfold dig
  simp
  omega
theorem one_zero (c : Nat) : decide ((⟨#[c]⟩ : Str) = Str.ofString "0") = decide (c = 48) := by
  have e : Str.ofString "0" = ⟨#[48]⟩ := by decide +kernel
  rw [e, Bool.eq_iff_iff]
  simp
theorem numB_none {w : Str} {Q : DK} {G : Gp} (h : numB w = false) (q : Q (optD (numIn w)) G) : Q .non G := by
  unfold numIn at q
  rw [if_neg (by rw [h]; decide)] at q
  exact q
abbrev sp_number_in : DSp := fun ds G Q _ => ∃ w : Str, ds = [.str w] ∧ w.length ≤ sizeLine ∧ Q (optD (numIn w)) G
def t_number_in : DS :=
  (dSeq (dIfS (dOr (dNot (dB (dChain dLe dLe (dC (.int 1)) (dCB dLen (aCons (dVar 0) aNil)) (dC (.int 9))))) (dNot (dB (dCB dAll (aCons (dLc false (dStrI (dVar 0)) (gN 1) dYes (dOp (dInS false) (dVar 1) (dC (.str "0123456789"))) [1]) aNil))))) (dRet (dC .non)) dNext)
  (dRet (dIf (dAnd (dB (dOp dGt (dCB dLen (aCons (dVar 0) aNil)) (dC (.int 1)))) (dB (dOp dEq (dOp dIx (dVar 0) (dC (.int 0))) (dC (.str "0"))))) (dC .non) (dCB dIntS (aCons (dVar 0) aNil)))))
theorem len_number_in : ∀ ds G Q E, sp_number_in ds G Q E → ds.length = ["word"].length := by
  intro ds G Q E h
  first | (obtain ⟨rfl, _⟩ := h; rfl) | (obtain ⟨_, rfl, _⟩ := h; rfl) | (obtain ⟨_, _, rfl, _⟩ := h; rfl) | (obtain ⟨_, _, _, rfl, _⟩ := h; rfl) | (obtain ⟨_, _, _, _, rfl, _⟩ := h; rfl) | (obtain ⟨_, _, _, _, _, rfl, _⟩ := h; rfl) | (obtain ⟨_, _, _, _, _, _, rfl, _⟩ := h; rfl) | (obtain ⟨_, _, _, _, _, _, _, rfl, _⟩ := h; rfl) | (obtain ⟨_, _, _, _, _, _, _, _, rfl, _⟩ := h; rfl) | (obtain ⟨_, _, _, _, _, _, _, _, _, rfl, _⟩ := h; rfl) | (obtain ⟨_, _, _, _, _, _, _, _, _, _, rfl, _⟩ := h; rfl) | (obtain ⟨_, _, _, _, _, _, _, _, _, _, _, rfl, _⟩ := h; rfl) | (obtain ⟨_, _, _, _, _, _, _, _, _, _, _, _, rfl, _⟩ := h; rfl) | (obtain ⟨_, _, _, _, _, _, _, _, _, _, _, _, _, rfl, _⟩ := h; rfl) | (obtain ⟨_, _, _, _, _, _, _, _, _, _, _, _, _, _, rfl, _⟩ := h; rfl) | (obtain ⟨_, _, _, _, _, _, _, _, _, _, _, _, _, _, _, rfl, _⟩ := h; rfl)
theorem rd_number_in : ∀ ds G Q E', sp_number_in ds G Q E' → t_number_in (endD Q) (startD ["word", "sign"] ds) G := by
  rintro ds G Q E' ⟨w, rfl, hw, q⟩
  unfold t_number_in
  refine dSeq_mk ?_
  walk_at "dl"
  refine ⟨hw, ?_⟩
  have hB : numB w = (decide (1 ≤ w.length) && decide (w.length ≤ 9) && (tl w).all dig && !(decide (1 < w.length) && decide ((tl w).head? = some 48))) := rfl
  by_cases h1 : 1 ≤ w.length
  · rw [decide_eq_true (by omega : (1 : Int) ≤ (w.length : Nat)), if_pos rfl]
    by_cases h9 : w.length ≤ 9
    · rw [decide_eq_true (by omega : ((w.length : Nat) : Int) ≤ 9), if_neg (by decide)]
      show ∀ p, G p = none → compL _ _ _ Sure p _ (sgD w) [] _ _
      refine lc_src (tl w) (fun c => .str ⟨#[c]⟩) (fun c => .bl (dig c)) rfl (by rw [← len_tl]; exact hw) (fun _ _ _ => trivial) (fun c hc p ys Q' hp k => ?_) ?_
      · walk_at "dl"
        refine ⟨c, _, rfl, rfl, ?_⟩
        rw [if_neg (by decide), fig_dig]
        exact k
      · walk_at "dl"
        by_cases hd : (tl w).all dig = true
        · rw [hd, if_neg (by decide)]
          refine ⟨hw, ?_⟩
          have fin : numB w = true → dIntS [.str w] G (Rt Q) := fun hb => by
            have hne : tl w ≠ [] := fun z => by rw [len_tl, z] at h1; simp at h1
            refine ⟨w, _, rfl, intText_digits (dig_ok.mp hd) hne (by omega), by omega, ?_⟩
            unfold numIn at q
            rw [if_pos hb] at q
            exact Rt.same q
          rw [decide_eq_true h1, decide_eq_true h9, hd] at hB
          by_cases h2 : 1 < w.length
          · rw [decide_eq_true (by omega : (1 : Int) < (w.length : Nat)), if_pos rfl]
            cases e : tl w with
            | nil => rw [len_tl, e] at h1; simp at h1
            | cons c r =>
              show (match atI w.cps.toList 0 with | some c => w.length ≤ sizeLine ∧ _ | none => False)
              rw [show w.cps.toList = c :: r from e, show atI (c :: r) 0 = some c from at_0 _ _]
              refine ⟨hw, ?_⟩
              walk_at "dl"
              rw [one_zero]
              rw [decide_eq_true h2, e] at hB
              by_cases hc : c = 48
              · rw [decide_eq_true hc, if_pos rfl]
                refine Rt.same (numB_none ?_ q)
                rw [hB, hc]
                rfl
              · rw [decide_eq_false hc, if_neg (by decide)]
                refine fin ?_
                rw [hB]
                simpa using hc
          · rw [decide_eq_false (by omega : ¬ (1 : Int) < (w.length : Nat)), if_neg (by decide)]
            refine fin ?_
            rw [hB, decide_eq_false h2]
            rfl
        · rw [(Bool.eq_false_iff).mpr hd, if_pos (by decide)]
          refine Rt.same (numB_none ?_ q)
          rw [hB, (Bool.eq_false_iff).mpr hd]
          simp
    · rw [decide_eq_false (by omega : ¬ ((w.length : Nat) : Int) ≤ 9), if_pos (by decide)]
      refine Rt.same (numB_none ?_ q)
      rw [hB, decide_eq_false h9]
      simp
  · rw [decide_eq_false (by omega : ¬ (1 : Int) ≤ (w.length : Nat)), if_neg (by decide)]
    refine Rt.same (numB_none ?_ q)
    rw [hB, decide_eq_false h1]
    simp
open TL
theorem optD_flat (o : Option Nat) : flatD (optD o) = true := by cases o <;> rfl
theorem inNon : ∀ l : List (Option Nat), DL.inD .non (l.map optD) = l.any (· == none)
  | [] => rfl
  | none :: l => rfl
  | some k :: l => inNon l
abbrev sp_numbers_in : DSp := fun ds G Q _ => ∃ w : Str, ds = [.str w] ∧ w.length + 2 ≤ sizeLine ∧ Q (optL (nbsIn w)) G
def t_numbers_in : DS :=
  (dSeq (dAsg 1 (dCB dTupleOf (aCons (dLc false (dSeqI (dSplit false (dVar 0) (dC (.str ",")))) (gN 2) dYes (dCall sp_number_in X0 (aCons (dVar 2) aNil)) [2]) aNil)))
  (dRet (dIf (dB (dOp (dIn false) (dC .non) (dVar 1))) (dC .non) (dVar 1))))
theorem len_numbers_in : ∀ ds G Q E, sp_numbers_in ds G Q E → ds.length = ["word"].length := by
  intro ds G Q E h
  first | (obtain ⟨rfl, _⟩ := h; rfl) | (obtain ⟨_, rfl, _⟩ := h; rfl) | (obtain ⟨_, _, rfl, _⟩ := h; rfl) | (obtain ⟨_, _, _, rfl, _⟩ := h; rfl) | (obtain ⟨_, _, _, _, rfl, _⟩ := h; rfl) | (obtain ⟨_, _, _, _, _, rfl, _⟩ := h; rfl) | (obtain ⟨_, _, _, _, _, _, rfl, _⟩ := h; rfl) | (obtain ⟨_, _, _, _, _, _, _, rfl, _⟩ := h; rfl) | (obtain ⟨_, _, _, _, _, _, _, _, rfl, _⟩ := h; rfl) | (obtain ⟨_, _, _, _, _, _, _, _, _, rfl, _⟩ := h; rfl) | (obtain ⟨_, _, _, _, _, _, _, _, _, _, rfl, _⟩ := h; rfl) | (obtain ⟨_, _, _, _, _, _, _, _, _, _, _, rfl, _⟩ := h; rfl) | (obtain ⟨_, _, _, _, _, _, _, _, _, _, _, _, rfl, _⟩ := h; rfl) | (obtain ⟨_, _, _, _, _, _, _, _, _, _, _, _, _, rfl, _⟩ := h; rfl) | (obtain ⟨_, _, _, _, _, _, _, _, _, _, _, _, _, _, rfl, _⟩ := h; rfl) | (obtain ⟨_, _, _, _, _, _, _, _, _, _, _, _, _, _, _, rfl, _⟩ := h; rfl)
theorem rd_numbers_in : ∀ ds G Q E', sp_numbers_in ds G Q E' → t_numbers_in (endD Q) (startD ["word", "found", "one"] ds) G := by
  rintro ds G Q E' ⟨w, rfl, hw, q⟩
  unfold t_numbers_in
  refine dSeq_mk ?_
  walk_at "dl"
  refine ⟨⟨_, rfl⟩, w, _, rfl, rfl, by decide +kernel, hw, ?_⟩
  show ∀ p, G p = none → compL _ _ _ (fun _ => True) p _ ((Txt.split w sComma).map D.str) [] _ _
  refine lc_src (Txt.split w sComma) D.str (fun y => optD (numIn y)) rfl (Nat.le_trans split_num hw) (fun _ _ _ => trivial) (fun y hy p ys Q' hp k => ?_) ?_
  · walk_at "dl"
    exact ⟨y, rfl, Nat.le_trans (split_len hy) (by omega), k⟩
  · walk_at "dl"
    rw [show (Txt.split w sComma).map (fun y => optD (numIn y)) = ((Txt.split w sComma).map numIn).map optD by rw [List.map_map]; rfl]
    refine ⟨rfl, ?_, ?_⟩
    · rw [List.all_map, List.all_eq_true]
      exact fun o _ => optD_flat o
    · rw [if_neg (by decide), inNon]
      cases hn : nbsIn w with
      | none =>
        obtain ⟨y, hy, e⟩ := mapO_none.mp hn
        rw [show ((Txt.split w sComma).map numIn).any (· == none) = true from List.any_eq_true.mpr ⟨none, List.mem_map.mpr ⟨y, hy, e⟩, by decide⟩]
        walk_at "dl"
        rw [hn] at q
        exact Rt.same q
      | some l =>
        have e := mapO_some hn
        rw [e, show (l.map some).any (· == none) = false by rw [List.any_map]; simp]
        walk_at "dl"
        rw [hn] at q
        rw [List.map_map]
        exact Rt.same q
theorem cut_but (xs : List D) : DL.cutD xs none (some (-1)) = xs.dropLast := by
  unfold DL.cutD
  have e1 : HT.sIx xs.length 0 none = 0 := rfl
  have e2 : HT.sIx xs.length xs.length (some (-1)) = xs.length - 1 := by
    unfold HT.sIx
    simp
    omega
  rw [e1, e2, List.drop_zero, Nat.sub_zero, List.dropLast_eq_take]
open TL
abbrev sp_lines_in : DSp := fun ds G Q E => ∃ x, ds = [x] ∧ pd x = true ∧ (isS x = false → E "BadText" [("line", .int 0)] G) ∧ ∀ s : Str, x = .str s → s.length + 2 ≤ sizeLine ∧ ∀ ls last, Txt.split s sLine = ls ++ [last] → Q (.tup [.lst (ls.map D.str), .str last]) G
def t_lines_in (E' : DX) : DS :=
  (dSeq (dIfS (dNot (dB (dCB dIsi (aCons (dVar 0) (aCons (dC (.ty "str")) aNil))))) (dRaiseF "BadText" "line" (ownW E') (dC (.int 0))) dNext)
  (dSeq (dAsg 1 (dSplit false (dVar 0) (dC (.str "\n"))))
  (dRet (dTup (aCons (dSl false (dVar 1) oNone (oSome (dUn dNegR (dC (.int 1))))) (aCons (dOp dIx (dVar 1) (dUn dNegR (dC (.int 1)))) aNil))))))
theorem len_lines_in : ∀ ds G Q E, sp_lines_in ds G Q E → ds.length = ["text"].length := by
  intro ds G Q E h
  first | (obtain ⟨rfl, _⟩ := h; rfl) | (obtain ⟨_, rfl, _⟩ := h; rfl) | (obtain ⟨_, _, rfl, _⟩ := h; rfl) | (obtain ⟨_, _, _, rfl, _⟩ := h; rfl) | (obtain ⟨_, _, _, _, rfl, _⟩ := h; rfl) | (obtain ⟨_, _, _, _, _, rfl, _⟩ := h; rfl) | (obtain ⟨_, _, _, _, _, _, rfl, _⟩ := h; rfl) | (obtain ⟨_, _, _, _, _, _, _, rfl, _⟩ := h; rfl) | (obtain ⟨_, _, _, _, _, _, _, _, rfl, _⟩ := h; rfl) | (obtain ⟨_, _, _, _, _, _, _, _, _, rfl, _⟩ := h; rfl) | (obtain ⟨_, _, _, _, _, _, _, _, _, _, rfl, _⟩ := h; rfl) | (obtain ⟨_, _, _, _, _, _, _, _, _, _, _, rfl, _⟩ := h; rfl) | (obtain ⟨_, _, _, _, _, _, _, _, _, _, _, _, rfl, _⟩ := h; rfl) | (obtain ⟨_, _, _, _, _, _, _, _, _, _, _, _, _, rfl, _⟩ := h; rfl) | (obtain ⟨_, _, _, _, _, _, _, _, _, _, _, _, _, _, rfl, _⟩ := h; rfl) | (obtain ⟨_, _, _, _, _, _, _, _, _, _, _, _, _, _, _, rfl, _⟩ := h; rfl)
theorem rd_lines_in (E' : DX) : ∀ ds G Q, sp_lines_in ds G Q E' → t_lines_in E' (endD Q) (startD ["text", "lines"] ds) G := by
  rintro ds G Q ⟨x, rfl, hp, he, hs⟩
  unfold t_lines_in
  refine dSeq_mk ?_
  walk_at "dl"
  rw [isi_str hp]
  walk_at "dl"
  cases hx : isS x with
  | false => exact he hx
  | true =>
    cases x with
    | str s =>
      obtain ⟨hl, q⟩ := hs s rfl
      refine dSeq_mk ?_
      refine ⟨⟨_, rfl⟩, s, _, rfl, rfl, by decide +kernel, hl, ?_⟩
      have hne : Txt.split s sLine ≠ [] := List.ne_nil_of_length_pos (PyProof.Rows.split_pos s sLine)
      have hn : (Txt.split s sLine).length ≤ sizeLine := Nat.le_trans split_num hl
      obtain ⟨ls, last, e⟩ : ∃ ls last, Txt.split s sLine = ls ++ [last] := ⟨_, _, (List.dropLast_concat_getLast hne).symm⟩
      have q := q ls last e
      rw [e] at hn ⊢
      unfold nL
      walk_at "dl"
      rw [got_last (by simp), show (((ls ++ [last]).map D.str).getLast (by simp)) = .str last by simp]
      refine ⟨by decide, ?_⟩
      rw [show DL.cutD ((ls ++ [last]).map D.str) none (some (-1)) = ls.map D.str by rw [cut_but]; simp]
      exact Rt.same q
    | _ => cases hx
/-- a row of shares, as told -/
def shD (s : Int × List Int) : D := .tup [.int s.1, .tup (s.2.map D.int)]
/-- debts behind one more row of shares -/
def grow (s : Int × List Int) (xs : List Rat) : List Rat := (xs.zip s.2).map fun p => p.1 + mkRat p.2 s.1.toNat
/-- shares of which all is small -/
structure ShSm (s : Int × List Int) : Prop where
  b1 : 1 ≤ s.1
  b2 : s.1 ≤ 1000
  ln : s.2.length ≤ 1000
  tp : ∀ t ∈ s.2, 0 ≤ t ∧ t ≤ s.1
theorem sm_small {t b : Int} (h0 : 0 ≤ t) (h1 : t ≤ 1000) (hb : 0 < b) (hb2 : b ≤ 1000) : Sm (mkRat t b.toNat) := by
  obtain ⟨f1, f2, f3, f4⟩ := fq_num (N := t) (L := b.toNat) h0 (by omega)
  have e : (1000 : Nat) < 2 ^ 3000 := Nat.lt_of_lt_of_le (by decide : 1000 < 2 ^ 10) (Nat.pow_le_pow_right (by decide) (by decide))
  exact ⟨by omega, by omega⟩
abbrev sp_with_shares : DSp := fun ds G Q _ => ∃ (xs : List Rat) (s : Int × List Int), ds = [frts xs, shD s] ∧ ShSm s ∧ (∀ x ∈ xs, Sm x) ∧ Q (frts (grow s xs)) G
def bestOf (xs : List Rat) : List (Rat × Nat) → Nat → Nat
  | [], f => f
  | p :: r, f => bestOf xs r (if xs.getD f 0 < p.1 then p.2 else f)
/-- the first of the greatest -/
def taker (xs : List Rat) : Nat := bestOf xs xs.zipIdx 0
theorem zipIdx_lt {α : Type} {l : List α} {p : α × Nat} (h : p ∈ l.zipIdx) : p.2 < l.length := by
  obtain ⟨x, i⟩ := p
  have := (List.mem_zipIdx h).2.1
  simpa using this
theorem bestOf_lt {xs : List Rat} : ∀ {r : List (Rat × Nat)} {f : Nat}, (∀ p ∈ r, p.2 < xs.length) → f < xs.length → bestOf xs r f < xs.length
  | [], _, _, hf => hf
  | p :: r, f, h, hf => by
    unfold bestOf
    split
    · exact bestOf_lt (fun q hq => h q (List.mem_cons_of_mem _ hq)) (h p List.mem_cons_self)
    · exact bestOf_lt (fun q hq => h q (List.mem_cons_of_mem _ hq)) hf
theorem taker_lt {xs : List Rat} (h : 0 < xs.length) : taker xs < xs.length := bestOf_lt (fun _ hp => zipIdx_lt hp) h
theorem got_fr {xs : List Rat} {i : Nat} {G : Gp} {Q : DK} (h : i < xs.length) : gotI (xs.map fr) (i : Nat) G Q = Q (fr (xs.getD i 0)) G := by
  refine got_eq ?_
  rw [at_nat (by omega), Int.toNat_natCast, List.getElem?_map, List.getElem?_eq_getElem h, List.getD_eq_getElem?_getD, List.getElem?_eq_getElem h]
  rfl
theorem getD_mem {xs : List Rat} {i : Nat} (h : i < xs.length) : xs.getD i 0 ∈ xs := by
  rw [List.getD_eq_getElem?_getD, List.getElem?_eq_getElem h]
  exact List.getElem_mem h
abbrev sp_taker_of : DSp := fun ds G Q _ => ∃ xs : List Rat, ds = [frts xs] ∧ (∀ x ∈ xs, Sm x) ∧ 0 < xs.length ∧ Q (.int (taker xs : Nat)) G
/-- debts where one person has got a thing -/
def pay (xs : List Rat) (p : Nat) : List Rat := xs.set p (xs.getD p 0 - 1)
theorem one_sm : Sm 1 := ⟨by decide, by decide⟩
theorem fr_one : fr 1 = .tup [.int 1, .int 1] := rfl
theorem set_cut {α : Type} {l : List α} {i : Nat} {v : α} (h : i < l.length) : l.take i ++ [v] ++ l.drop (i + 1) = l.set i v := by
  rw [List.set_eq_take_append_cons_drop, if_pos h, List.append_assoc]
  rfl
abbrev sp_paid : DSp := fun ds G Q _ => ∃ (xs : List Rat) (p : Nat), ds = [frts xs, .int (p : Nat)] ∧ (∀ x ∈ xs, Sm x) ∧ p < xs.length ∧ xs.length ≤ 1000 ∧ Q (frts (pay xs p)) G
/-- the fields of a dealer -/
def dlF (xs : List Rat) (a : Addr) (k : Int) : List (Str × D) := [("kept_debts", frts xs), ("kept_things", .ref a), ("kept_beats", .int k)]
theorem dl_debts {xs : List Rat} {a : Addr} {k : Int} : (dlF xs a k).lookup ("kept_debts" : Str) = some (frts xs) := rfl
theorem dl_things {xs : List Rat} {a : Addr} {k : Int} : (dlF xs a k).lookup ("kept_things" : Str) = some (.ref a) := rfl
theorem dl_beats {xs : List Rat} {a : Addr} {k : Int} : (dlF xs a k).lookup ("kept_beats" : Str) = some (.int k) := rfl
theorem dl_put1 {xs ys : List Rat} {a : Addr} {k : Int} : putD "kept_debts" (frts ys) (dlF xs a k) = dlF ys a k := rfl
theorem dl_put2 {xs : List Rat} {a b : Addr} {k : Int} : putD "kept_things" (.ref b) (dlF xs a k) = dlF xs b k := rfl
theorem dl_put3 {xs : List Rat} {a : Addr} {k j : Int} : putD "kept_beats" (.int j) (dlF xs a k) = dlF xs a j := rfl
/-- a dealer at p, its things at a -/
structure isDl (G : Gp) (p a : Addr) (xs : List Rat) (ts : List Int) (k : Int) : Prop where
  ne : a ≠ p
  at_ : G p = some (.ins "Dealer" (dlF xs a k))
  th : G a = some (.lst (ts.map D.int))
/-- the same, put there -/
def dlG (G : Gp) (p a : Addr) (xs : List Rat) (ts : List Int) (k : Int) : Gp := gu (gu G a (.lst (ts.map D.int))) p (.ins "Dealer" (dlF xs a k))
theorem isDl.mk' {G : Gp} {p a : Addr} {xs : List Rat} {ts : List Int} {k : Int} (h : a ≠ p) : isDl (dlG G p a xs ts k) p a xs ts k := ⟨h, gu_same, by unfold dlG; rw [gu_ne h, gu_same]⟩
theorem dlG_dlG {G : Gp} {p a : Addr} {xs ys : List Rat} {ts us : List Int} {k j : Int} (h : a ≠ p) : dlG (dlG G p a xs ts k) p a ys us j = dlG G p a ys us j := by
  unfold dlG
  rw [gu_comm (Ne.symm h), gu_gu, gu_gu]
theorem dlG_ne {G : Gp} {p a b : Addr} {xs : List Rat} {ts : List Int} {k : Int} (h : b ≠ p) (h2 : b ≠ a) : dlG G p a xs ts k b = G b := by
  unfold dlG
  rw [gu_ne h, gu_ne h2]
theorem isDl.self {G : Gp} {p a : Addr} {xs : List Rat} {ts : List Int} {k : Int} (h : isDl G p a xs ts k) : dlG G p a xs ts k = G := by
  unfold dlG
  rw [gu_self h.th, gu_self h.at_]
abbrev sp_Dealer___init__ : DSp := fun ds G Q _ => ∃ (p : Addr) (n : Int), ds = [.ref p, .int n] ∧ G p = some (.ins "Dealer" []) ∧ (1 ≤ n ∧ n ≤ 12) ∧ (∀ a, G a = none → a ≠ p → Q .non (dlG G p a (List.replicate n.toNat 0) (List.replicate n.toNat 0) 0))
/-- things where one person has got one more -/
def bump (ts : List Int) (p : Nat) : List Int := ts.set p (ts.getD p 0 + 1)
theorem grow_len {s : Int × List Int} {xs : List Rat} (h : s.2.length = xs.length) : (grow s xs).length = xs.length := by
  unfold grow
  rw [List.length_map, List.length_zip, h, Nat.min_self]
abbrev sp_Dealer_give : DSp := fun ds G Q _ => ∃ (p a : Addr) (xs : List Rat) (ts : List Int) (k : Int) (s : Int × List Int) (i : Nat), ds = [.ref p, shD s, .int (i : Nat)] ∧ isDl G p a xs ts k ∧ xs.length ≤ 1000 ∧ ts.length = xs.length ∧ ShSm s ∧ s.2.length = xs.length ∧
  (∀ x ∈ xs, Sm x) ∧ (∀ x ∈ grow s xs, Sm x) ∧ i < xs.length ∧ Q .non (dlG G p a (pay (grow s xs) i) (bump ts i) (k + 1))
/-- all debts told with denominators that divide L, between -C and C -/
def Szs (L C : Nat) (xs : List Rat) : Prop := ∀ x ∈ xs, Sz L C x
theorem szs_grow {L C : Nat} {s : Int × List Int} {xs : List Rat} (hL : L ≠ 0) (hs : ShSm s) (h : Szs L C xs) : Szs (L * s.1.toNat) (C + 1) (grow s xs) := by
  intro x hx
  unfold grow at hx
  obtain ⟨p, hp, rfl⟩ := List.mem_map.mp hx
  obtain ⟨h1, h2⟩ := List.of_mem_zip hp
  obtain ⟨t0, t1⟩ := hs.tp _ h2
  have b1 := hs.b1
  have hb : s.1.toNat ≠ 0 := by omega
  have hL2 : L * s.1.toNat ≠ 0 := Nat.mul_ne_zero hL hb
  refine Sz.add hL2 ((h _ h1).mono (Nat.dvd_mul_right _ _) (Nat.le_refl _)) (Sz.low hL2 hb (Nat.dvd_mul_left _ _) ?_ ?_)
  · omega
  · omega
/-- where the bottom divides L already -/
theorem szs_growL {L C : Nat} {s : Int × List Int} {xs : List Rat} (hL : L ≠ 0) (hd : s.1.toNat ∣ L) (hs : ShSm s) (h : Szs L C xs) : Szs L (C + 1) (grow s xs) := by
  intro x hx
  unfold grow at hx
  obtain ⟨p, hp, rfl⟩ := List.mem_map.mp hx
  obtain ⟨h1, h2⟩ := List.of_mem_zip hp
  obtain ⟨t0, t1⟩ := hs.tp _ h2
  have b1 := hs.b1
  have hb : s.1.toNat ≠ 0 := by omega
  refine Sz.add hL (h _ h1) (Sz.low hL hb hd ?_ ?_)
  · omega
  · omega
theorem szs_pay {L C i : Nat} {xs : List Rat} (hL : L ≠ 0) (hi : i < xs.length) (h : Szs L C xs) : Szs L (C + 1) (pay xs i) := by
  intro x hx
  unfold pay at hx
  rcases List.mem_or_eq_of_mem_set hx with hx | rfl
  · exact (h x hx).mono (Nat.dvd_refl _) (by omega)
  · exact Sz.sub hL (h _ (getD_mem hi)) (Sz.one (i := 1) (by decide))
theorem szs_zero {L : Nat} (n : Nat) : Szs L 0 (List.replicate n 0) := fun x hx => by
  rw [(List.mem_replicate.mp hx).2]
  exact Sz.one (i := 0) (by decide)
theorem szs_mono {L M C E : Nat} {xs : List Rat} (h : Szs L C xs) (hd : L ∣ M) (hk : C ≤ E) : Szs M E xs := fun x hx => (h x hx).mono hd hk
theorem szs_sm {L C : Nat} {xs : List Rat} (h : Szs L C xs) (hL : L ≠ 0) (hB : (C + 1) * L < 2 ^ 3000) : ∀ x ∈ xs, Sm x := fun x hx => ((h x hx).mono (Nat.dvd_refl _) (Nat.le_succ C)).sm hL (by omega) hB
theorem rs_frts {L C K : Nat} {xs : List Rat} (h : Szs L C xs) (hL : L ≠ 0) (hB : (C + 1) * L < 10 ^ K) (h0 : 0 < K) (h1 : K ≤ 470) : Rs 2 (xs.length * (2 * (K + 3) + 3 + 2) + 3) (frts xs) := by
  have := rs_tup (k := 1) (W := 2 * (K + 3) + 3) (xs := xs.map fr) fun x hx => by
    obtain ⟨y, hy, rfl⟩ := List.mem_map.mp hx
    exact rs_fr ((h y hy).mono (Nat.dvd_refl _) (Nat.le_succ C)) hL hB (by omega) h0 h1
  rwa [List.length_map] at this
theorem es_fr (x : Rat) : Es 1 (fr x) := es_tup (k := 0) fun y hy => by
  rcases List.mem_cons.mp hy with rfl | hy
  · exact es_int
  · rw [List.mem_singleton.mp hy]; exact es_int
theorem es_frts (xs : List Rat) : Es 2 (frts xs) := es_tup (k := 1) fun y hy => by
  obtain ⟨x, _, rfl⟩ := List.mem_map.mp hy
  exact es_fr x
def fwI (n m : Int) : Int → List D → D
  | _, [] => .non
  | k, x :: r => if areSh n m x = true then fwI n m (k + 1) r else .int k
/-- the first beat that is no row of shares -/
def fw (n m : Int) : D → D
  | .tup xs => if xs.length ≤ 400 then fwI n m 0 xs else .int (-1)
  | _ => .int (-1)
/-- a row -/
def isRow (n m : Int) : D → Bool
  | .tup xs => decide (xs.length ≤ 400) && xs.all (areSh n m)
  | _ => false
def isNo : D → Bool | .non => true | _ => false
theorem fwI_all (n m : Int) : ∀ (xs : List D) (k : Int), isNo (fwI n m k xs) = xs.all (areSh n m)
  | [], _ => rfl
  | x :: r, k => by
    unfold fwI
    rw [List.all_cons]
    cases h : areSh n m x with
    | true => rw [if_pos rfl, fwI_all n m r (k + 1)]; rfl
    | false => rw [if_neg Bool.false_ne_true]; rfl
theorem fw_isRow (n m : Int) (x : D) : isNo (fw n m x) = isRow n m x := by
  cases x with
  | tup xs =>
    show isNo (if xs.length ≤ 400 then fwI n m 0 xs else .int (-1)) = (decide (xs.length ≤ 400) && xs.all (areSh n m))
    by_cases h : xs.length ≤ 400
    · rw [if_pos h, fwI_all, decide_eq_true h]; rfl
    · rw [if_neg h, decide_eq_false h]; rfl
  | _ => rfl
theorem fw_non {n m : Int} {x : D} (h : isRow n m x = true) : fw n m x = .non := by
  have e := fw_isRow n m x
  rw [h] at e
  cases q : fw n m x <;> rw [q] at e <;> first | rfl | cases e
theorem fw_no1 {n m : Int} {x : D} (h : isT x = false) : fw n m x = .int (-1) := by cases x <;> first | rfl | cases h
abbrev sp_first_wrong : DSp := fun ds G Q _ => ∃ (n m : Int) (x : D), ds = [.int n, .int m, x] ∧ n ≤ 12 ∧ (1 ≤ m ∧ m ≤ 12) ∧ pd x = true ∧ Q (fw n m x) G
def t_first_wrong : DS :=
  (dSeq (dIfS (dOr (dNot (dB (dCB dIsi (aCons (dVar 2) (aCons (dC (.ty "tuple")) aNil))))) (dB (dOp dGt (dCB dLen (aCons (dVar 2) aNil)) (dC (.int 400))))) (dRet (dUn dNegR (dC (.int 1)))) dNext)
  (dSeq (dFor (dEnumX (aCons (dVar 2) aNil)) (gT 2 (gsCons (gN 3) (gsCons (gN 4) gsNil))) (dIfS (dNot (dB (dCall sp_are_shares X0 (aCons (dVar 0) (aCons (dVar 1) (aCons (dVar 4) aNil)))))) (dRet (dVar 3)) dNext))
  (dRet (dC .non))))
theorem len_first_wrong : ∀ ds G Q E, sp_first_wrong ds G Q E → ds.length = ["n", "m", "row"].length := by
  intro ds G Q E h
  first | (obtain ⟨rfl, _⟩ := h; rfl) | (obtain ⟨_, rfl, _⟩ := h; rfl) | (obtain ⟨_, _, rfl, _⟩ := h; rfl) | (obtain ⟨_, _, _, rfl, _⟩ := h; rfl) | (obtain ⟨_, _, _, _, rfl, _⟩ := h; rfl) | (obtain ⟨_, _, _, _, _, rfl, _⟩ := h; rfl) | (obtain ⟨_, _, _, _, _, _, rfl, _⟩ := h; rfl) | (obtain ⟨_, _, _, _, _, _, _, rfl, _⟩ := h; rfl) | (obtain ⟨_, _, _, _, _, _, _, _, rfl, _⟩ := h; rfl) | (obtain ⟨_, _, _, _, _, _, _, _, _, rfl, _⟩ := h; rfl) | (obtain ⟨_, _, _, _, _, _, _, _, _, _, rfl, _⟩ := h; rfl) | (obtain ⟨_, _, _, _, _, _, _, _, _, _, _, rfl, _⟩ := h; rfl) | (obtain ⟨_, _, _, _, _, _, _, _, _, _, _, _, rfl, _⟩ := h; rfl) | (obtain ⟨_, _, _, _, _, _, _, _, _, _, _, _, _, rfl, _⟩ := h; rfl) | (obtain ⟨_, _, _, _, _, _, _, _, _, _, _, _, _, _, rfl, _⟩ := h; rfl) | (obtain ⟨_, _, _, _, _, _, _, _, _, _, _, _, _, _, _, rfl, _⟩ := h; rfl)
theorem rd_first_wrong : ∀ ds G Q E', sp_first_wrong ds G Q E' → t_first_wrong (endD Q) (startD ["n", "m", "row", "at", "shares"] ds) G := by
  rintro ds G Q E' ⟨n, m, x, rfl, hn, hm, hp, q⟩
  unfold t_first_wrong
  refine dSeq_mk ?_
  walk_at "dl"
  simp only [isi_tuple hp]
  cases hx : isT x with
  | false =>
    rw [fw_no1 hx] at q
    exact Rt.same q
  | true =>
    obtain ⟨xs, rfl⟩ := isT_iff.mp hx
    walk_at "dl"
    have e : fw n m (.tup xs) = if xs.length ≤ 400 then fwI n m 0 xs else .int (-1) := rfl
    cases hl : decide ((400 : Int) < xs.length) with
    | true =>
      rw [e, if_neg (by have := of_decide_eq_true hl; omega)] at q
      exact Rt.same q
    | false =>
      rw [e, if_pos (by have := of_decide_eq_false hl; omega)] at q
      walk_at "dl"
      refine dSeq_mk ?_
      walk_at "dl"
      refine forL_by (fun r δ G2 => G2 = G ∧ ∃ (k : Int) (zs : List D) (s3 s4 : Option D), r = enumI k zs ∧ (∀ z ∈ zs, pd z = true) ∧ fwI n m 0 xs = fwI n m k zs ∧ δ = [some (.int n), some (.int m), some (.tup xs), s3, s4]) (fun _ _ _ _ => trivial) ?_ ?_ _ _ _ ⟨rfl, 0, xs, _, _, rfl, pd_tup.mp hp, rfl, rfl⟩
      · rintro x r δ G2 N ⟨rfl, k, zs, s3, s4, er, hz, hf, rfl⟩ kN
        cases zs with
        | nil => cases er
        | cons z zs =>
          cases er
          walk_at "dl"
          refine ⟨_, _, _, rfl, hn, hm, hz z List.mem_cons_self, ?_⟩
          cases ha : areSh n m z with
          | true =>
            walk_at "dl"
            exact kN _ _ ⟨rfl, k + 1, zs, _, _, rfl, fun y hy => hz y (List.mem_cons_of_mem _ hy), by rw [hf]; show (if areSh n m z = true then _ else _) = _; rw [if_pos ha], rfl⟩
          | false =>
            rw [hf, show fwI n m k (z :: zs) = .int k by show (if areSh n m z = true then _ else _) = _; rw [ha, if_neg Bool.false_ne_true]] at q
            exact Rt.same q
      · rintro δ G2 ⟨rfl, k, zs, s3, s4, er, hz, hf, rfl⟩
        cases zs with
        | cons z zs => cases er
        | nil =>
          rw [hf] at q
          exact Rt.same q
theorem dlG_gu {G : Gp} {p a q : Addr} {o : GO} {xs : List Rat} {ts : List Int} {k : Int} (h : q ≠ p) (h2 : q ≠ a) : dlG (gu G q o) p a xs ts k = gu (dlG G p a xs ts k) q o := by
  unfold dlG
  rw [gu_comm h2, gu_comm h]
/-- who gets the thing, beat by beat -/
def dealL : List (Int × List Int) → List Rat → List Nat
  | [], _ => []
  | s :: r, xs => taker (grow s xs) :: dealL r (pay (grow s xs) (taker (grow s xs)))
/-- all that is reckoned with on the way is small -/
def SmRun : List (Int × List Int) → List Rat → Prop
  | [], xs => ∀ x ∈ xs, Sm x
  | s :: r, xs => (∀ x ∈ xs, Sm x) ∧ (∀ x ∈ grow s xs, Sm x) ∧ SmRun r (pay (grow s xs) (taker (grow s xs)))
theorem SmRun.now : ∀ {r : List (Int × List Int)} {xs : List Rat}, SmRun r xs → ∀ x ∈ xs, Sm x
  | [], _, h => h
  | _ :: _, _, h => h.1
/-- shares that are right for n people, one thing -/
structure ShR (n : Nat) (s : Int × List Int) : Prop where
  sm : ShSm s
  ln : s.2.length = n
  ar : areSh (n : Int) 1 (shD s) = true
  pd : pd (shD s) = true
theorem row_R {n : Nat} {r : List (Int × List Int)} (h : ∀ s ∈ r, ShR n s) (hl : r.length ≤ 400) : isRow (n : Int) 1 (.tup (r.map shD)) = true := by
  show (decide ((r.map shD).length ≤ 400) && (r.map shD).all (areSh n 1)) = true
  rw [List.length_map, decide_eq_true hl, List.all_map, Bool.true_and, List.all_eq_true]
  exact fun s hs => (h s hs).ar
theorem row_Rpd {n : Nat} {r : List (Int × List Int)} (h : ∀ s ∈ r, ShR n s) : pd (.tup (r.map shD)) = true := pd_tup.mpr fun x hx => by
  obtain ⟨s, hs, rfl⟩ := List.mem_map.mp hx
  exact (h s hs).pd
theorem pay_len {xs : List Rat} {i : Nat} : (pay xs i).length = xs.length := by unfold pay; rw [List.length_set]
theorem bump_len {xs : List Int} {i : Nat} : (bump xs i).length = xs.length := by unfold bump; rw [List.length_set]
/-- what each bottom divides -/
def LL : Nat := 1023374153587642418778356466089656253893600127255900962059080782591411445978443733860337281801110194627254537091995830991955790186447751593143264093038752000
theorem LL_all : ((List.range 361).all fun b => b == 0 || LL % b == 0) = true := by decide +kernel
theorem LL_dvd {b : Int} (h1 : 1 ≤ b) (h2 : b ≤ 360) : b.toNat ∣ LL := by
  have h := List.all_eq_true.mp LL_all b.toNat (List.mem_range.mpr (by omega))
  rw [Bool.or_eq_true, beq_iff_eq, beq_iff_eq] at h
  rcases h with h | h
  · omega
  · exact Nat.dvd_of_mod_eq_zero h
theorem LL_ne : LL ≠ 0 := by decide +kernel
theorem LL_bd {C : Nat} (h : C ≤ 5000) : (C + 1) * LL < 10 ^ 170 ∧ (C + 1) * LL < 2 ^ 3000 := by
  have h1 : (C + 1) * LL ≤ 5001 * LL := Nat.mul_le_mul_right _ (by omega)
  have h2 : 5001 * LL < 10 ^ 170 := by decide +kernel
  have h3 : 5001 * LL < 2 ^ 3000 := by decide +kernel
  exact ⟨Nat.lt_of_le_of_lt h1 h2, Nat.lt_of_le_of_lt h1 h3⟩
theorem LL_sm {C : Nat} {xs : List Rat} (h : Szs LL C xs) (hC : C ≤ 5000) : ∀ x ∈ xs, Sm x := szs_sm h LL_ne (LL_bd hC).2
/-- shares of a right form, all small -/
structure ShB (n : Nat) (s : Int × List Int) : Prop extends ShR n s where
  b3 : s.1 ≤ 360
theorem ShB.dv {n : Nat} {s : Int × List Int} (h : ShB n s) : s.1.toNat ∣ LL := LL_dvd h.sm.b1 h.b3
theorem LL_grow {n C : Nat} {s : Int × List Int} {xs : List Rat} (hs : ShB n s) (h : Szs LL C xs) : Szs LL (C + 1) (grow s xs) := szs_growL LL_ne hs.dv hs.sm h
theorem LL_pay {C i : Nat} {xs : List Rat} (hi : i < xs.length) (h : Szs LL C xs) : Szs LL (C + 1) (pay xs i) := szs_pay LL_ne hi h
theorem LL_run {n : Nat} (hn : 0 < n) : ∀ (r : List (Int × List Int)) (xs : List Rat) (C : Nat), (∀ s ∈ r, ShB n s) → xs.length = n → Szs LL C xs → C + 2 * r.length ≤ 5000 → SmRun r xs
  | [], xs, C, _, _, h, hC => LL_sm h (by simp at hC; exact hC)
  | s :: r, xs, C, hr, hl, h, hC => by
    rw [List.length_cons] at hC
    have hs := hr s List.mem_cons_self
    have gl : (grow s xs).length = xs.length := grow_len (by rw [hs.ln, hl])
    have hg := LL_grow hs h
    have ht : taker (grow s xs) < (grow s xs).length := taker_lt (by omega)
    exact ⟨LL_sm h (by omega), LL_sm hg (by omega), LL_run hn r _ (C + 2) (fun z hz => hr z (List.mem_cons_of_mem _ hz)) (by rw [pay_len, gl, hl]) (LL_pay ht hg) (by omega)⟩
theorem got_nat {ts : List Int} {i : Nat} {G : Gp} {Q : DK} (h : i < ts.length) : gotI (ts.map D.int) (i : Nat) G Q = Q (.int (ts.getD i 0)) G := by
  refine got_eq ?_
  rw [at_nat (by omega), Int.toNat_natCast, List.getElem?_map, List.getElem?_eq_getElem h, List.getD_eq_getElem?_getD, List.getElem?_eq_getElem h]
  rfl
theorem upD_drop {lo : Int} {n i : Nat} (h : i < n) : (upD lo n).drop i = .int (lo + (i : Nat)) :: (upD lo n).drop (i + 1) := by
  have hl : i < (upD lo n).length := by unfold upD; rw [List.length_map, List.length_range]; exact h
  have e : (upD lo n)[i]'hl = .int (lo + (i : Nat)) := by simp [upD]
  rw [List.drop_eq_getElem_cons hl, e]
theorem upD_end {lo : Int} {n i : Nat} (h : n ≤ i) : (upD lo n).drop i = [] := List.drop_eq_nil_of_le (by unfold upD; rw [List.length_map, List.length_range]; exact h)
theorem forL_rng {g : DG} {tb : DS} {E : DEnds} {n : Nat} (W : Nat → Sl → Gp → Prop) (hs : ∀ (i : Nat) δ G (N : Sl → Gp → Prop), i < n → W i δ G → (∀ δ G, W (i + 1) δ G → N δ G) → g (.int (i : Nat)) δ G fun δ1 G1 => tb { E with nx := N, ct := N, bk := E.nx } δ1 G1)
    (hd : ∀ δ G, W n δ G → E.nx δ G) (δ : Sl) (G : Gp) (h : W 0 δ G) : forL g tb Sure (upD 0 n) E δ G := by
  refine forL_by (fun its δ G => ∃ i : Nat, its = (upD 0 n).drop i ∧ i ≤ n ∧ W i δ G) (fun _ _ _ _ => trivial) ?_ ?_ _ _ _ ⟨0, rfl, Nat.zero_le _, h⟩
  · rintro x its δ G N ⟨i, ei, hi, w⟩ kN
    have hlt : i < n := by
      rcases Nat.lt_or_ge i n with z | z
      · exact z
      · rw [upD_end z] at ei; cases ei
    rw [upD_drop hlt, Int.zero_add] at ei
    cases ei
    exact hs i δ G N hlt w fun δ G w => kN δ G ⟨i + 1, rfl, hlt, w⟩
  · rintro δ G ⟨i, ei, hi, w⟩
    have : i = n := by
      rcases Nat.lt_or_ge i n with z | z
      · rw [upD_drop z] at ei; cases ei
      · omega
    subst this
    exact hd δ G w
abbrev Th := Nat × Nat
abbrev Win := Nat × Option Nat
def lastD : Option Nat → D
  | none => .non
  | some t => .int (t : Nat)
def winD (w : Win) : D := .tup [.int (w.1 : Nat), lastD w.2]
def thD (t : Th) : D := .tup [.int (t.1 : Nat), .int (t.2 : Nat)]
def kT (t : Th) : NestedKey := .tup [.num (t.1 : Nat), .num (t.2 : Nat)]
def wayD (p : Th × Nat) : D := .tup [thD p.1, .int (p.2 : Nat)]
theorem nkD_kT (t : Th) : nkD (kT t) = thD t := rfl
theorem keyN_th (t : Th) : keyN (thD t) = some (kT t) := rfl
theorem keyOk_th (t : Th) : keyOk (kT t) = true := rfl
theorem kT_inj {s t : Th} (h : kT s = kT t) : s = t := by
  injection h with h
  injection h with h1 h
  injection h with h2 _
  injection h1 with h1
  injection h2 with h2
  exact Prod.ext (by omega) (by omega)
theorem thD_inj {s t : Th} (h : thD s = thD t) : s = t := by
  injection h with h
  injection h with h1 h
  injection h with h2 _
  injection h1 with h1
  injection h2 with h2
  exact Prod.ext (by omega) (by omega)
/-- the windows of one person's things, by what its shares come to behind each beat -/
def padW (w : List Win) (k t : Nat) : List Win := w ++ List.replicate (k - w.length) (t, none)
def endW : List Win → Nat → Nat → List Win
  | [], _, _ => []
  | w :: ws, 0, _ => w :: ws
  | w :: ws, k + 1, t => (w.1, match w.2 with | none => some t | some x => some x) :: endW ws k t
def winsF : List Rat → Nat → List Win → List Win
  | [], _, w => w
  | v :: vs, t, w => winsF vs (t + 1) (endW (padW w v.ceil.toNat t) v.floor.toNat t)
theorem endW_len : ∀ (ws : List Win) (k t : Nat), (endW ws k t).length = ws.length
  | [], _, _ => rfl
  | _ :: _, 0, _ => rfl
  | _ :: ws, k + 1, t => by
    unfold endW
    rw [List.length_cons, List.length_cons, endW_len ws k t]
theorem endW_zero : ∀ (ws : List Win) (t : Nat), endW ws 0 t = ws
  | [], _ => rfl
  | _ :: _, _ => rfl
theorem endW_succ : ∀ (ws : List Win) (k t : Nat), k < ws.length → endW ws (k + 1) t = (match (endW ws k t)[k]? with | some (a, none) => (endW ws k t).set k (a, some t) | _ => endW ws k t)
  | [], _, _, h => by simp at h
  | (a, none) :: ws, 0, t, _ => by simp [endW, endW_zero]
  | (a, some x) :: ws, 0, t, _ => by simp [endW, endW_zero]
  | w :: ws, k + 1, t, h => by
    have ih := endW_succ ws k t (by simpa using h)
    show _ :: endW ws (k + 1) t = _
    rw [ih]
    show _ = match (_ :: endW ws k t)[k + 1]? with | some (a, none) => (_ :: endW ws k t).set (k + 1) (a, some t) | _ => _ :: endW ws k t
    rw [List.getElem?_cons_succ]
    cases (endW ws k t)[k]? with
    | none => rfl
    | some q =>
      obtain ⟨a, o⟩ := q
      cases o with
      | none => rfl
      | some x => rfl
theorem padW_len (w : List Win) (k t : Nat) : (padW w k t).length = max w.length k := by
  unfold padW
  rw [List.length_append, List.length_replicate]
  omega
theorem floor_nd (x : Rat) : x.num / (x.den : Int) = x.floor := by
  unfold Rat.floor
  split
  · rename_i h
    rw [h]
    simp
  · rfl
theorem ceil_nd (x : Rat) : -(-x.num / (x.den : Int)) = x.ceil := by
  have e : -x.num / (x.den : Int) = (-x).floor := by
    rw [← floor_nd]
    rfl
  rw [e]
  apply Int.le_antisymm
  · have h : -x.ceil ≤ (-x).floor := Rat.le_floor_iff.mpr (by
      have := Rat.ceil_le_iff.mp (Int.le_refl x.ceil)
      rw [Rat.intCast_neg]
      grind)
    omega
  · refine Rat.ceil_le_iff.mpr ?_
    have := Rat.floor_le (-x)
    rw [Rat.intCast_neg]
    grind
theorem got_frP {ys : List Rat} {p : Nat} {G : Gp} {Q : DK} (h : p < ys.length) : gotI (ys.map fr) (p : Nat) G Q = Q (fr (ys.getD p 0)) G := by
  refine got_eq ?_
  rw [at_nat (by omega), Int.toNat_natCast, List.getElem?_map, List.getElem?_eq_getElem h, List.getD_eq_getElem?_getD, List.getElem?_eq_getElem h]
  rfl
theorem got_map {α : Type} {f : α → D} {xs : List α} {i : Nat} {x : α} {G : Gp} {Q : DK} (h : xs[i]? = some x) : gotI (xs.map f) (i : Nat) G Q = Q (f x) G := by
  refine got_eq ?_
  rw [at_nat (by omega), Int.toNat_natCast, List.getElem?_map, h]
  rfl
theorem smdiv {x : Rat} (h : Sm x) (i : Int) : DivOk i x.den := by
  have := x.den_pos
  have h2 := h.d
  have h3 : x.den.log2 < 3000 := (Nat.log2_lt (by omega)).mpr h2
  exact ⟨by omega, by rw [Int.natAbs_natCast]; omega⟩
theorem forL_en {α : Type} {f : α → D} {g : DG} {tb : DS} {S : Gp → Prop} {E : DEnds} {ys : List α} (W : Nat → Sl → Gp → Prop) (hS : ∀ i δ G, W i δ G → S G)
    (hs : ∀ (i : Nat) (y : α) δ G (N : Sl → Gp → Prop), ys[i]? = some y → W i δ G → (∀ δ G, W (i + 1) δ G → N δ G) → g (.tup [.int (i : Nat), f y]) δ G fun δ1 G1 => tb { E with nx := N, ct := N, bk := E.nx } δ1 G1)
    (hd : ∀ δ G, W ys.length δ G → E.nx δ G) (δ : Sl) (G : Gp) (h : W 0 δ G) : forL g tb S (enumI 0 (ys.map f)) E δ G := by
  refine forL_by (fun its δ G => ∃ i : Nat, its = enumI (i : Nat) ((ys.drop i).map f) ∧ i ≤ ys.length ∧ W i δ G) (fun _ _ _ ⟨_, _, _, w⟩ => hS _ _ _ w) ?_ ?_ _ _ _ ⟨0, rfl, Nat.zero_le _, h⟩
  · rintro x its δ G N ⟨i, ei, hi, w⟩ kN
    rcases Nat.lt_or_ge i ys.length with z | z
    · rw [List.drop_eq_getElem_cons z] at ei
      cases ei
      exact hs i _ δ G N (List.getElem?_eq_getElem z) w fun δ G w => kN δ G ⟨i + 1, rfl, z, w⟩
    · rw [List.drop_eq_nil_of_le z] at ei
      cases ei
  · rintro δ G ⟨i, ei, hi, w⟩
    rcases Nat.lt_or_ge i ys.length with z | z
    · rw [List.drop_eq_getElem_cons z] at ei
      cases ei
    · have : i = ys.length := by omega
      subst this
      exact hd δ G w
theorem forL_ls {α : Type} {f : α → D} {g : DG} {tb : DS} {S : Gp → Prop} {E : DEnds} {ys : List α} (W : Nat → Sl → Gp → Prop) (hS : ∀ i δ G, W i δ G → S G)
    (hs : ∀ (i : Nat) (y : α) δ G (N : Sl → Gp → Prop), ys[i]? = some y → W i δ G → (∀ δ G, W (i + 1) δ G → N δ G) → g (f y) δ G fun δ1 G1 => tb { E with nx := N, ct := N, bk := E.nx } δ1 G1)
    (hd : ∀ δ G, W ys.length δ G → E.nx δ G) (δ : Sl) (G : Gp) (h : W 0 δ G) : forL g tb S (ys.map f) E δ G := by
  refine forL_by (fun its δ G => ∃ i : Nat, its = (ys.drop i).map f ∧ i ≤ ys.length ∧ W i δ G) (fun _ _ _ ⟨_, _, _, w⟩ => hS _ _ _ w) ?_ ?_ _ _ _ ⟨0, rfl, Nat.zero_le _, h⟩
  · rintro x its δ G N ⟨i, ei, hi, w⟩ kN
    rcases Nat.lt_or_ge i ys.length with z | z
    · rw [List.drop_eq_getElem_cons z] at ei
      cases ei
      exact hs i _ δ G N (List.getElem?_eq_getElem z) w fun δ G w => kN δ G ⟨i + 1, rfl, z, w⟩
    · rw [List.drop_eq_nil_of_le z] at ei
      cases ei
  · rintro δ G ⟨i, ei, hi, w⟩
    rcases Nat.lt_or_ge i ys.length with z | z
    · rw [List.drop_eq_getElem_cons z] at ei
      cases ei
    · have : i = ys.length := by omega
      subst this
      exact hd δ G w
/-! dicts by things -/
def dcT {β : Type} (f : β → D) (l : List (Th × β)) : List (NestedKey × D) := l.map fun q => (kT q.1, f q.2)
theorem valN_dcT {β : Type} {f : β → D} {t : Th} : ∀ l : List (Th × β), valN (dcT f l) (kT t) = (l.lookup t).map f
  | [] => rfl
  | (s, b) :: l => by
    show valN ((kT s, f b) :: dcT f l) (kT t) = _
    rw [valN_cons, valN_dcT l, List.lookup_cons]
    by_cases h : s = t
    · subst h
      simp
    · have h1 : ¬ kT s = kT t := fun z => h (kT_inj z)
      have h2 : (t == s) = false := by
        rw [beq_eq_false_iff_ne]
        exact fun z => h z.symm
      rw [if_neg h1, h2]
theorem putN_new {β : Type} {kvs : List (NestedKey × β)} {k : NestedKey} {v : β} (h : valN kvs k = none) : putN kvs k v = kvs ++ [(k, v)] := by
  unfold putN
  rw [h]
  rfl
theorem look_none {β : Type} {l : List (Th × β)} {t : Th} (h : t ∉ l.map (·.1)) : l.lookup t = none := by
  rw [List.lookup_eq_none_iff]
  intro p hp
  rw [bne_iff_ne]
  exact fun z => h (List.mem_map.mpr ⟨p, hp, z.symm⟩)
theorem putN_dcT {β : Type} {f : β → D} {l : List (Th × β)} {t : Th} {b : β} (h : t ∉ l.map (·.1)) : putN (dcT f l) (kT t) (f b) = dcT f (l ++ [(t, b)]) := by
  rw [putN_new (by rw [valN_dcT, look_none h]; rfl)]
  unfold dcT
  rw [List.map_append]
  rfl
/-- the first that is none -/
def fstN {α β : Type} (f : α → Option β) : List α → Option Nat
  | [] => none
  | x :: l => match f x with
    | none => some 0
    | some _ => (fstN f l).map (· + 1)
theorem mapO_snoc {α β : Type} {f : α → Option β} {x : α} {y : β} (hx : f x = some y) : ∀ {l : List α} {m : List β}, mapO f l = some m → mapO f (l ++ [x]) = some (m ++ [y])
  | [], m, h => by
    cases h
    rw [List.nil_append]
    unfold mapO
    rw [hx]
    rfl
  | z :: l, m, h => by
    unfold mapO at h
    rw [List.cons_append]
    cases hz : f z with
    | none => rw [hz] at h; cases h
    | some u =>
      cases hl : mapO f l with
      | none => rw [hz, hl] at h; cases h
      | some r =>
        rw [hz, hl] at h
        cases h
        unfold mapO
        rw [hz, mapO_snoc hx hl]
        rfl
theorem fstN_some {α β : Type} {f : α → Option β} : ∀ {l : List α} {k : Nat} {x : α} {m : List β}, mapO f (l.take k) = some m → l[k]? = some x → f x = none → fstN f l = some k
  | [], k, x, m, _, h, _ => by simp at h
  | z :: l, 0, x, m, _, h, hn => by
    cases h
    unfold fstN
    rw [hn]
  | z :: l, k + 1, x, m, hm, h, hn => by
    rw [List.take_succ_cons] at hm
    unfold mapO at hm
    cases hz : f z with
    | none => rw [hz] at hm; cases hm
    | some u =>
      cases hl : mapO f (l.take k) with
      | none => rw [hz, hl] at hm; cases hm
      | some r =>
        unfold fstN
        rw [hz]
        show (fstN f l).map _ = _
        rw [fstN_some hl (by simpa using h) hn]
        rfl
theorem fstN_none {α β : Type} {f : α → Option β} : ∀ {l : List α} {m : List β}, mapO f l = some m → fstN f l = none
  | [], _, _ => rfl
  | z :: l, m, h => by
    unfold mapO at h
    cases hz : f z with
    | none => rw [hz] at h; cases h
    | some u =>
      cases hl : mapO f l with
      | none => rw [hz, hl] at h; cases h
      | some r =>
        unfold fstN
        rw [hz]
        show (fstN f l).map _ = _
        rw [fstN_none hl]
        rfl
theorem mapO_len {α β : Type} {f : α → Option β} {l : List α} {m : List β} (h : mapO f l = some m) : l.length = m.length := by
  have := congrArg List.length (mapO_some h)
  rwa [List.length_map, List.length_map] at this
open TL
def lotIn (w : Str) : Option (List Nat) := if w = sDash then some [] else nbsIn w
abbrev sp_read_lots : DSp := fun ds G Q E => ∃ x, ds = [x] ∧ pd x = true ∧ (isS x = false → E "BadText" [("line", .int 0)] G) ∧ ∀ s : Str, x = .str s → s.length ≤ 900000 ∧ ∀ ls last, Txt.split s sLine = ls ++ [last] →
  (∀ (k : Nat) G', fstN lotIn ls = some k → GLe G G' → E "BadText" [("line", .int ((k : Nat) + 1))] G') ∧
  ∀ ys, mapO lotIn ls = some ys → (last ≠ Str.empty → ∀ G', GLe G G' → E "BadText" [("line", .int ((ls.length : Nat) + 1))] G') ∧ (last = Str.empty → (lotsD (.tup (ys.map intsT)) = false → ∀ G', GLe G G' → E "NoLots" [] G') ∧ (lotsD (.tup (ys.map intsT)) = true → Q (.tup (ys.map intsT)) G))
theorem lotIn_len {w : Str} {l : List Nat} (h : lotIn w = some l) : l.length ≤ w.length + 2 := by
  unfold lotIn at h
  split at h
  · cases h
    simp
  · rw [← mapO_len h]
    exact split_num
def t_read_lots (E' : DX) : DS :=
  (dSeq (dAsgG (gT 2 (gsCons (gN 1) (gsCons (gN 2) gsNil))) (dCall sp_lines_in E' (aCons (dVar 0) aNil)))
  (dSeq (dAsg 3 (dLst true aNil))
  (dSeq (dFor (dEnumX (aCons (dVar 1) aNil)) (gT 2 (gsCons (gN 4) (gsCons (gN 5) gsNil))) (dSeq (dAsg 6 (dIf (dB (dOp dEq (dVar 5) (dC (.str "-")))) (dTup aNil) (dCall sp_numbers_in X0 (aCons (dVar 5) aNil))))
  (dSeq (dIfS (dB (dOp dIsN (dVar 6) (dC .non))) (dRaiseF "BadText" "line" (ownW E') (dOp (dAdd false) (dVar 4) (dC (.int 1)))) dNext)
  (dDrop (dMeL dAppend (dVar 3) (aCons (dVar 6) aNil))))))
  (dSeq (dIfS (dB (dOp dNe (dVar 2) (dC (.str "")))) (dRaiseF "BadText" "line" (ownW E') (dOp (dAdd false) (dCB dLen (aCons (dVar 1) aNil)) (dC (.int 1)))) dNext)
  (dSeq (dDrop (dCall sp_check_lots E' (aCons (dCB dTupleOf (aCons (dVar 3) aNil)) aNil)))
  (dRet (dCB dTupleOf (aCons (dVar 3) aNil))))))))
theorem len_read_lots : ∀ ds G Q E, sp_read_lots ds G Q E → ds.length = ["text"].length := by
  intro ds G Q E h
  first | (obtain ⟨rfl, _⟩ := h; rfl) | (obtain ⟨_, rfl, _⟩ := h; rfl) | (obtain ⟨_, _, rfl, _⟩ := h; rfl) | (obtain ⟨_, _, _, rfl, _⟩ := h; rfl) | (obtain ⟨_, _, _, _, rfl, _⟩ := h; rfl) | (obtain ⟨_, _, _, _, _, rfl, _⟩ := h; rfl) | (obtain ⟨_, _, _, _, _, _, rfl, _⟩ := h; rfl) | (obtain ⟨_, _, _, _, _, _, _, rfl, _⟩ := h; rfl) | (obtain ⟨_, _, _, _, _, _, _, _, rfl, _⟩ := h; rfl) | (obtain ⟨_, _, _, _, _, _, _, _, _, rfl, _⟩ := h; rfl) | (obtain ⟨_, _, _, _, _, _, _, _, _, _, rfl, _⟩ := h; rfl) | (obtain ⟨_, _, _, _, _, _, _, _, _, _, _, rfl, _⟩ := h; rfl) | (obtain ⟨_, _, _, _, _, _, _, _, _, _, _, _, rfl, _⟩ := h; rfl) | (obtain ⟨_, _, _, _, _, _, _, _, _, _, _, _, _, rfl, _⟩ := h; rfl) | (obtain ⟨_, _, _, _, _, _, _, _, _, _, _, _, _, _, rfl, _⟩ := h; rfl) | (obtain ⟨_, _, _, _, _, _, _, _, _, _, _, _, _, _, _, rfl, _⟩ := h; rfl)
theorem rd_read_lots (E' : DX) : ∀ ds G Q, sp_read_lots ds G Q E' → t_read_lots E' (endD Q) (startD ["text", "lines", "rest", "found", "at", "line", "lot"] ds) G := by
  rintro ds G Q ⟨x, rfl, hp, he, hs⟩
  unfold t_read_lots
  have hz : (900004 : Nat) ≤ sizeLine := by decide
  refine dSeq_mk ?_
  walk_at "dx"
  refine ⟨x, rfl, hp, he, fun s hx => ⟨?_, fun ls last e => ?_⟩⟩
  · have := (hs s hx).1
    omega
  obtain ⟨hl, hq⟩ := hs s hx
  obtain ⟨h1, h2⟩ := hq ls last e
  have hpl : ∀ p ∈ ls, p.length ≤ 900000 := fun p hp => by
    have := split_len (x := s) (y := sLine) (p := p) (by rw [e]; simp [hp])
    omega
  have hnl : ls.length + 1 ≤ 900002 := by
    have := split_num (x := s) (y := sLine)
    rw [e, List.length_append, List.length_singleton] at this
    omega
  subst hx
  walk_at "dx"
  refine dSeq_mk ?_
  walk_at "dx"
  refine ⟨by decide, fun c hc => ?_⟩
  have hle : ∀ zs, GLe G (gu G c (.lst zs)) := fun zs => GLe.new hc
  refine dSeq_mk ?_
  walk_at "dx"
  refine forL_en (fun k δ G' => ∃ (ys : List (List Nat)) (s4 s5 s6 : Option D), mapO lotIn (ls.take k) = some ys ∧ G' = gu G c (.lst (ys.map intsT)) ∧ δ = [some (.str s), some (.lst (ls.map D.str)), some (.str last), some (.ref c), s4, s5, s6]) (fun _ _ _ _ => trivial) ?_ ?_ _ _ ⟨[], none, none, none, rfl, rfl, rfl⟩
  · rintro k w δ G' N hk ⟨ys, s4, s5, s6, hm, rfl, rfl⟩ kN
    have hwl := hpl w (List.mem_of_getElem? hk)
    have hkr : k < ls.length := by
      rcases Nat.lt_or_ge k ls.length with z | z
      · exact z
      · rw [List.getElem?_eq_none z] at hk; cases hk
    walk_at "dx"
    refine ⟨fun δ G1 => gu G c (.lst (ys.map intsT)) = G1 ∧ δ = [some (.str s), some (.lst (ls.map D.str)), some (.str last), some (.ref c), some (.int (k : Nat)), some (.str w), some (optL (lotIn w))], ?_, ?_⟩
    · walk_at "dx"
      by_cases hw : w = Str.ofString "-"
      · rw [decide_eq_true hw, if_pos rfl]
        have e1 : lotIn w = some [] := if_pos hw
        rw [e1]
        exact ⟨by decide, rfl⟩
      · rw [decide_eq_false hw, if_neg (by decide)]
        have e1 : lotIn w = nbsIn w := if_neg hw
        rw [e1]
        exact ⟨w, rfl, by omega, rfl, rfl⟩
    · rintro δ G1 ⟨rfl, rfl⟩
      refine dSeq_mk ?_
      cases hw : lotIn w with
      | none =>
        walk_at "dx"
        exact h1 k _ (fstN_some hm hk hw) (hle _)
      | some l =>
        have e2 : mapO lotIn (ls.take (k + 1)) = some (ys ++ [l]) := by
          rw [List.take_add_one, hk]
          exact mapO_snoc hw hm
        have hyl := mapO_len hm
        rw [List.length_take] at hyl
        walk_at "dx"
        rw [if_neg (by show ¬ false = true; decide), List.length_map]
        refine ⟨by omega, kN _ _ ⟨ys ++ [l], _, _, _, e2, ?_, rfl⟩⟩
        rw [List.map_append]
        rfl
  · rintro δ G' ⟨ys, s4, s5, s6, hm, rfl, rfl⟩
    rw [List.take_length] at hm
    obtain ⟨h3, h4⟩ := h2 ys hm
    have hyl := mapO_len hm
    have hc2 : gu G c (.lst (ys.map intsT)) c = some (.lst (ys.map intsT)) := gu_same
    walk_at "dx"
    refine dSeq_mk ?_
    by_cases hL : last = Str.empty
    · obtain ⟨h5, h6⟩ := h4 hL
      walk_at "dx"
      rw [decide_eq_true (show last = Str.ofString "" from hL)]
      walk_at "dx"
      refine dSeq_mk ?_
      walk_at "dx"
      refine ⟨_, rfl, pd_tup.mpr fun y hy => ?_, fun xs ex y hy zs ez => ?_, fun z => h5 z _ (hle _), fun z => ?_⟩
      · obtain ⟨l, _, rfl⟩ := List.mem_map.mp hy
        exact pd_tup.mpr fun z hz => by
          obtain ⟨i, _, rfl⟩ := List.mem_map.mp hz
          exact pd_int
      · cases ex
        obtain ⟨l, hl2, rfl⟩ := List.mem_map.mp hy
        cases ez
        have : some l ∈ ls.map lotIn := by rw [mapO_some hm]; exact List.mem_map_of_mem hl2
        obtain ⟨w, hw, ew⟩ := List.mem_map.mp this
        have h7 := lotIn_len ew
        have h8 := hpl w hw
        rw [List.length_map]
        omega
      · walk_at "dx"
        exact Rt.less (hle _) (h6 z)
    · have h5 := h3 hL
      walk_at "dx"
      rw [decide_eq_false (show ¬ last = Str.ofString "" from hL)]
      walk_at "dx"
      rw [List.length_map]
      exact h5 _ (hle _)
open TL
abbrev sp_L_lots_told : DSp := fun ds G Q _ => ∃ ls : List (List Int), ds = [.tup (ls.map lotI)] ∧ (∀ l ∈ ls, Lot12 l) ∧ ls.length ≤ 400 ∧ Q (.str (lotsT ls)) G
def t_L_lots_told : DS :=
  (dRet (dJoin (dC (.str "")) (dLc false (dSeqI (dVar 0)) (gN 2) dYes (dIf (dB (dOp dGt (dCB dLen (aCons (dVar 2) aNil)) (dC (.int 0)))) (dOp (dAdd false) (dJoin (dC (.str ",")) (dLc false (dSeqI (dVar 2)) (gN 1) dYes (dCB dStrT (aCons (dVar 1) aNil)) [1])) (dC (.str "\n"))) (dC (.str "-\n"))) [2])))
theorem len_L_lots_told : ∀ ds G Q E, sp_L_lots_told ds G Q E → ds.length = ["_law_lots_here"].length := by
  intro ds G Q E h
  first | (obtain ⟨rfl, _⟩ := h; rfl) | (obtain ⟨_, rfl, _⟩ := h; rfl) | (obtain ⟨_, _, rfl, _⟩ := h; rfl) | (obtain ⟨_, _, _, rfl, _⟩ := h; rfl) | (obtain ⟨_, _, _, _, rfl, _⟩ := h; rfl) | (obtain ⟨_, _, _, _, _, rfl, _⟩ := h; rfl) | (obtain ⟨_, _, _, _, _, _, rfl, _⟩ := h; rfl) | (obtain ⟨_, _, _, _, _, _, _, rfl, _⟩ := h; rfl) | (obtain ⟨_, _, _, _, _, _, _, _, rfl, _⟩ := h; rfl) | (obtain ⟨_, _, _, _, _, _, _, _, _, rfl, _⟩ := h; rfl) | (obtain ⟨_, _, _, _, _, _, _, _, _, _, rfl, _⟩ := h; rfl) | (obtain ⟨_, _, _, _, _, _, _, _, _, _, _, rfl, _⟩ := h; rfl) | (obtain ⟨_, _, _, _, _, _, _, _, _, _, _, _, rfl, _⟩ := h; rfl) | (obtain ⟨_, _, _, _, _, _, _, _, _, _, _, _, _, rfl, _⟩ := h; rfl) | (obtain ⟨_, _, _, _, _, _, _, _, _, _, _, _, _, _, rfl, _⟩ := h; rfl) | (obtain ⟨_, _, _, _, _, _, _, _, _, _, _, _, _, _, _, rfl, _⟩ := h; rfl)
theorem rd_L_lots_told : ∀ ds G Q E', sp_L_lots_told ds G Q E' → t_L_lots_told (endD Q) (startD ["_law_lots_here", "_law_one", "_law_lot"] ds) G := by
  rintro ds G Q E' ⟨ls, rfl, hb, hn, q⟩
  unfold t_L_lots_told
  walk_at "dl"
  refine ⟨⟨_, rfl⟩, ?_⟩
  show ∀ p, G p = none → compL _ _ _ (fun _ => True) p _ (ls.map lotI) [] _ _
  refine lc_src ls lotI (fun l => .str (lotT l)) rfl (Nat.le_trans hn (by decide)) (fun _ _ _ => trivial) (fun l hl p ys Q' hp' k => ?_) ?_
  · have hb := hb l hl
    walk_at "dl"
    have e : decide (0 < ((l.map D.int).length : Int)) = decide (0 < l.length) := by rw [List.length_map]; exact decide_eq_decide.mpr (by omega)
    rw [e]
    unfold lotT at k
    by_cases z : 0 < l.length
    · rw [if_pos z] at k
      rw [decide_eq_true z, if_pos rfl]
      have hln := nsT_lenI (k := 2) (by decide) (l := l) fun i hi => by have := hb.bd i hi; omega
      refine ⟨⟨_, rfl⟩, ?_⟩
      show ∀ p2, gu G p (.lst ys) p2 = none → compL _ _ _ (fun _ => True) p2 _ (l.map D.int) [] _ _
      refine lc_src l D.int (fun i => .str (nT i)) rfl (Nat.le_trans hb.ln (by decide)) (fun _ _ _ => trivial) (fun i hi p3 zs Q3 hp3 k3 => ?_) ?_
      · walk_at "dl"
        exact ⟨small_log (by have := hb.bd i hi; omega), k3⟩
      · refine ⟨_, l.map nT, rfl, show some _ = some _ from congrArg some (by rw [List.map_map]; rfl), ?_, ?_, k⟩
        · have := sumT_le (k := 9) (by decide) (l := l) fun i hi => by have := hb.bd i hi; omega
          have := hb.ln
          rw [List.length_map, show (Str.ofString ",").length = 1 by decide +kernel]
          omega
        · have := hb.ln
          rw [show (Str.ofString "\n").length = 1 by decide +kernel]
          exact Nat.le_trans (show (nsT l).length + 1 ≤ 100 by omega) (by decide)
    · rw [if_neg z] at k
      rw [decide_eq_false z, if_neg (by decide)]
      rw [show Str.ofString "-\n" = sDash ++ sLine by decide +kernel]
      exact k
  · refine ⟨_, ls.map lotT, rfl, show some _ = some _ from congrArg some (by rw [List.map_map]; rfl), ?_, Rt.same q⟩
    have := sum_bd (b := 40) (l := (ls.map lotT).map (·.length)) fun x hx => by
      rw [List.map_map, List.mem_map] at hx
      obtain ⟨l, hl, rfl⟩ := hx
      exact (hb l hl).len
    rw [List.length_map, List.length_map] at this
    rw [List.length_map, show (Str.ofString "").length = 0 by decide +kernel]
    omega
/-- what comes of numbers of people and things -/
def chk2 (x y : D) (E : DX) (G : Gp) (P : Int → Int → Prop) : Prop :=
  (isW x 1 12 = false → E "NoPeople" [] G) ∧ ∀ n : Int, x = .int n → 1 ≤ n → n ≤ 12 → (isW y 1 n = false → E "NoThings" [] G) ∧ ∀ m : Int, y = .int m → 1 ≤ m → m ≤ n → P n m
theorem chk2.imp {x y : D} {E : DX} {G : Gp} {P P' : Int → Int → Prop} (h : chk2 x y E G P) (k : ∀ n m : Int, x = .int n → y = .int m → 1 ≤ n → n ≤ 12 → 1 ≤ m → m ≤ n → P n m → P' n m) : chk2 x y E G P' :=
  ⟨h.1, fun n e n0 n1 => ⟨(h.2 n e n0 n1).1, fun m e2 m0 m1 => k n m e e2 n0 n1 m0 m1 ((h.2 n e n0 n1).2 m e2 m0 m1)⟩⟩
abbrev sp_check_people : DSp := fun ds G Q E => ∃ x, ds = [x] ∧ pd x = true ∧ (isW x 1 12 = true → Q .non G) ∧ (isW x 1 12 = false → E "NoPeople" [] G)
def t_check_people (E' : DX) : DS :=
  (dIfS (dNot (dB (dCall sp_is_within X0 (aCons (dVar 0) (aCons (dC (.int 1)) (aCons (dC (.int 12)) aNil)))))) (dRaise "NoPeople" E') dNext)
theorem len_check_people : ∀ ds G Q E, sp_check_people ds G Q E → ds.length = ["n"].length := by
  intro ds G Q E h
  first | (obtain ⟨rfl, _⟩ := h; rfl) | (obtain ⟨_, rfl, _⟩ := h; rfl) | (obtain ⟨_, _, rfl, _⟩ := h; rfl) | (obtain ⟨_, _, _, rfl, _⟩ := h; rfl) | (obtain ⟨_, _, _, _, rfl, _⟩ := h; rfl) | (obtain ⟨_, _, _, _, _, rfl, _⟩ := h; rfl) | (obtain ⟨_, _, _, _, _, _, rfl, _⟩ := h; rfl) | (obtain ⟨_, _, _, _, _, _, _, rfl, _⟩ := h; rfl) | (obtain ⟨_, _, _, _, _, _, _, _, rfl, _⟩ := h; rfl) | (obtain ⟨_, _, _, _, _, _, _, _, _, rfl, _⟩ := h; rfl) | (obtain ⟨_, _, _, _, _, _, _, _, _, _, rfl, _⟩ := h; rfl) | (obtain ⟨_, _, _, _, _, _, _, _, _, _, _, rfl, _⟩ := h; rfl) | (obtain ⟨_, _, _, _, _, _, _, _, _, _, _, _, rfl, _⟩ := h; rfl) | (obtain ⟨_, _, _, _, _, _, _, _, _, _, _, _, _, rfl, _⟩ := h; rfl) | (obtain ⟨_, _, _, _, _, _, _, _, _, _, _, _, _, _, rfl, _⟩ := h; rfl) | (obtain ⟨_, _, _, _, _, _, _, _, _, _, _, _, _, _, _, rfl, _⟩ := h; rfl)
theorem rd_check_people (E' : DX) : ∀ ds G Q, sp_check_people ds G Q E' → t_check_people E' (endD Q) (startD ["n"] ds) G := by
  rintro ds G Q ⟨x, rfl, hp, q, e⟩
  unfold t_check_people
  walk_at "dl"
  refine ⟨_, _, _, rfl, hp, ?_⟩
  cases hw : isW x 1 12 with
  | false => exact e hw
  | true => exact Rt.same (q hw)
abbrev sp_check_things : DSp := fun ds G Q E => ∃ x y, ds = [x, y] ∧ pd x = true ∧ pd y = true ∧ chk2 x y E G fun _ _ => Q .non G
def t_check_things (E' : DX) : DS :=
  (dSeq (dDrop (dCall sp_check_people E' (aCons (dVar 0) aNil)))
  (dIfS (dNot (dB (dCall sp_is_within X0 (aCons (dVar 1) (aCons (dC (.int 1)) (aCons (dVar 0) aNil)))))) (dRaise "NoThings" E') dNext))
theorem len_check_things : ∀ ds G Q E, sp_check_things ds G Q E → ds.length = ["n", "m"].length := by
  intro ds G Q E h
  first | (obtain ⟨rfl, _⟩ := h; rfl) | (obtain ⟨_, rfl, _⟩ := h; rfl) | (obtain ⟨_, _, rfl, _⟩ := h; rfl) | (obtain ⟨_, _, _, rfl, _⟩ := h; rfl) | (obtain ⟨_, _, _, _, rfl, _⟩ := h; rfl) | (obtain ⟨_, _, _, _, _, rfl, _⟩ := h; rfl) | (obtain ⟨_, _, _, _, _, _, rfl, _⟩ := h; rfl) | (obtain ⟨_, _, _, _, _, _, _, rfl, _⟩ := h; rfl) | (obtain ⟨_, _, _, _, _, _, _, _, rfl, _⟩ := h; rfl) | (obtain ⟨_, _, _, _, _, _, _, _, _, rfl, _⟩ := h; rfl) | (obtain ⟨_, _, _, _, _, _, _, _, _, _, rfl, _⟩ := h; rfl) | (obtain ⟨_, _, _, _, _, _, _, _, _, _, _, rfl, _⟩ := h; rfl) | (obtain ⟨_, _, _, _, _, _, _, _, _, _, _, _, rfl, _⟩ := h; rfl) | (obtain ⟨_, _, _, _, _, _, _, _, _, _, _, _, _, rfl, _⟩ := h; rfl) | (obtain ⟨_, _, _, _, _, _, _, _, _, _, _, _, _, _, rfl, _⟩ := h; rfl) | (obtain ⟨_, _, _, _, _, _, _, _, _, _, _, _, _, _, _, rfl, _⟩ := h; rfl)
theorem rd_check_things (E' : DX) : ∀ ds G Q, sp_check_things ds G Q E' → t_check_things E' (endD Q) (startD ["n", "m"] ds) G := by
  rintro ds G Q ⟨x, y, rfl, hx, hy, h1, h2⟩
  unfold t_check_things
  refine dSeq_mk ?_
  walk_at "dl"
  refine ⟨x, rfl, hx, fun w => ?_, h1⟩
  obtain ⟨n, rfl, n0, n1⟩ := isW_isI w
  obtain ⟨k1, k2⟩ := h2 n rfl n0 n1
  walk_at "dl"
  refine ⟨_, _, _, rfl, hy, ?_⟩
  cases hw : isW y 1 n with
  | false => exact k1 hw
  | true =>
    obtain ⟨m, rfl, m0, m1⟩ := isW_isI hw
    exact Rt.same (k2 m rfl m0 m1)
abbrev sp_check_row : DSp := fun ds G Q E => ∃ x y z, ds = [x, y, z] ∧ pd x = true ∧ pd y = true ∧ pd z = true ∧ chk2 x y E G fun n m => (isRow n m z = false → E "NoRow" [("at", fw n m z)] G) ∧ (isRow n m z = true → Q .non G)
def t_check_row (E' : DX) : DS :=
  (dSeq (dDrop (dCall sp_check_things E' (aCons (dVar 0) (aCons (dVar 1) aNil))))
  (dSeq (dAsg 3 (dCall sp_first_wrong X0 (aCons (dVar 0) (aCons (dVar 1) (aCons (dVar 2) aNil)))))
  (dIfS (dB (dOp dNotN (dVar 3) (dC .non))) (dRaiseF "NoRow" "at" (ownW E') (dVar 3)) dNext)))
theorem len_check_row : ∀ ds G Q E, sp_check_row ds G Q E → ds.length = ["n", "m", "row"].length := by
  intro ds G Q E h
  first | (obtain ⟨rfl, _⟩ := h; rfl) | (obtain ⟨_, rfl, _⟩ := h; rfl) | (obtain ⟨_, _, rfl, _⟩ := h; rfl) | (obtain ⟨_, _, _, rfl, _⟩ := h; rfl) | (obtain ⟨_, _, _, _, rfl, _⟩ := h; rfl) | (obtain ⟨_, _, _, _, _, rfl, _⟩ := h; rfl) | (obtain ⟨_, _, _, _, _, _, rfl, _⟩ := h; rfl) | (obtain ⟨_, _, _, _, _, _, _, rfl, _⟩ := h; rfl) | (obtain ⟨_, _, _, _, _, _, _, _, rfl, _⟩ := h; rfl) | (obtain ⟨_, _, _, _, _, _, _, _, _, rfl, _⟩ := h; rfl) | (obtain ⟨_, _, _, _, _, _, _, _, _, _, rfl, _⟩ := h; rfl) | (obtain ⟨_, _, _, _, _, _, _, _, _, _, _, rfl, _⟩ := h; rfl) | (obtain ⟨_, _, _, _, _, _, _, _, _, _, _, _, rfl, _⟩ := h; rfl) | (obtain ⟨_, _, _, _, _, _, _, _, _, _, _, _, _, rfl, _⟩ := h; rfl) | (obtain ⟨_, _, _, _, _, _, _, _, _, _, _, _, _, _, rfl, _⟩ := h; rfl) | (obtain ⟨_, _, _, _, _, _, _, _, _, _, _, _, _, _, _, rfl, _⟩ := h; rfl)
theorem rd_check_row (E' : DX) : ∀ ds G Q, sp_check_row ds G Q E' → t_check_row E' (endD Q) (startD ["n", "m", "row", "at"] ds) G := by
  rintro ds G Q ⟨x, y, z, rfl, hx, hy, hz, h⟩
  unfold t_check_row
  refine dSeq_mk ?_
  walk_at "dl"
  refine ⟨x, y, rfl, hx, hy, h.imp fun n m en em n0 n1 m0 m1 k => ?_⟩
  subst en em
  obtain ⟨k1, k2⟩ := k
  refine dSeq_mk ?_
  walk_at "dl"
  refine ⟨_, _, _, rfl, n1, ⟨m0, by omega⟩, hz, ?_⟩
  walk_at "dl"
  rw [← fw_isRow] at k1 k2
  have hd : isNoD (fw n m z) = isNo (fw n m z) := by cases fw n m z <;> rfl
  simp only [hd]
  cases hn : isNo (fw n m z) with
  | false => exact k1 hn
  | true => exact Rt.same (k2 hn)
open TL
abbrev sRow : Str := "row"
abbrev sShares : Str := "shares"
def headInL : List Str → Option (Nat × Nat)
  | [a, b, c] => if a = sRow then (match numIn b, numIn c with | some n, some m => some (n, m) | _, _ => none) else none
  | _ => none
def headIn (x : Str) : Option (Nat × Nat) := headInL (Txt.split x sBlank)
theorem headInL_3 {a b c : Str} (h : a = sRow) : headInL [a, b, c] = (match numIn b, numIn c with | some n, some m => some (n, m) | _, _ => none) := by
  show (if a = sRow then _ else _) = _
  rw [if_pos h]
theorem headInL_no {a b c : Str} (h : ¬ a = sRow) : headInL [a, b, c] = none := by
  show (if a = sRow then _ else _) = _
  rw [if_neg h]
def optH : Option (Nat × Nat) → D
  | none => .non
  | some p => .tup [.int (p.1 : Nat), .int (p.2 : Nat)]
theorem three {l : List Str} (h : l.length = 3) : ∃ a b c, l = [a, b, c] := by
  match l, h with
  | [a, b, c], _ => exact ⟨a, b, c, rfl⟩
abbrev sp_head_in : DSp := fun ds G Q _ => ∃ w : Str, ds = [.str w] ∧ w.length + 2 ≤ sizeLine ∧ Q (optH (headIn w)) G
def t_head_in : DS :=
  (dSeq (dAsg 1 (dSplit false (dVar 0) (dC (.str " "))))
  (dSeq (dIfS (dOr (dB (dOp dNe (dCB dLen (aCons (dVar 1) aNil)) (dC (.int 3)))) (dB (dOp dNe (dOp dIx (dVar 1) (dC (.int 0))) (dC (.str "row"))))) (dRet (dC .non)) dNext)
  (dSeq (dAsg 2 (dTup (aCons (dCall sp_number_in X0 (aCons (dOp dIx (dVar 1) (dC (.int 1))) aNil)) (aCons (dCall sp_number_in X0 (aCons (dOp dIx (dVar 1) (dC (.int 2))) aNil)) aNil))))
  (dRet (dIf (dB (dOp (dIn false) (dC .non) (dVar 2))) (dC .non) (dVar 2))))))
theorem len_head_in : ∀ ds G Q E, sp_head_in ds G Q E → ds.length = ["line"].length := by
  intro ds G Q E h
  first | (obtain ⟨rfl, _⟩ := h; rfl) | (obtain ⟨_, rfl, _⟩ := h; rfl) | (obtain ⟨_, _, rfl, _⟩ := h; rfl) | (obtain ⟨_, _, _, rfl, _⟩ := h; rfl) | (obtain ⟨_, _, _, _, rfl, _⟩ := h; rfl) | (obtain ⟨_, _, _, _, _, rfl, _⟩ := h; rfl) | (obtain ⟨_, _, _, _, _, _, rfl, _⟩ := h; rfl) | (obtain ⟨_, _, _, _, _, _, _, rfl, _⟩ := h; rfl) | (obtain ⟨_, _, _, _, _, _, _, _, rfl, _⟩ := h; rfl) | (obtain ⟨_, _, _, _, _, _, _, _, _, rfl, _⟩ := h; rfl) | (obtain ⟨_, _, _, _, _, _, _, _, _, _, rfl, _⟩ := h; rfl) | (obtain ⟨_, _, _, _, _, _, _, _, _, _, _, rfl, _⟩ := h; rfl) | (obtain ⟨_, _, _, _, _, _, _, _, _, _, _, _, rfl, _⟩ := h; rfl) | (obtain ⟨_, _, _, _, _, _, _, _, _, _, _, _, _, rfl, _⟩ := h; rfl) | (obtain ⟨_, _, _, _, _, _, _, _, _, _, _, _, _, _, rfl, _⟩ := h; rfl) | (obtain ⟨_, _, _, _, _, _, _, _, _, _, _, _, _, _, _, rfl, _⟩ := h; rfl)
theorem rd_head_in : ∀ ds G Q E', sp_head_in ds G Q E' → t_head_in (endD Q) (startD ["line", "words", "found"] ds) G := by
  rintro ds G Q E' ⟨w, rfl, hw, q⟩
  unfold t_head_in
  refine dSeq_mk ?_
  refine ⟨⟨_, rfl⟩, w, _, rfl, rfl, by decide +kernel, hw, ?_⟩
  have hln : ∀ p ∈ Txt.split w sBlank, p.length ≤ sizeLine := fun p hp => Nat.le_trans (split_len hp) (by omega)
  unfold headIn at q
  show ({ nx := _, rt := _ : DEnds } : DEnds).nx _ _
  generalize Txt.split w (Str.ofString " ") = ls at *
  refine dSeq_mk ?_
  walk_at "dl"
  by_cases hl : ls.length = 3
  · obtain ⟨a, b, c, rfl⟩ := three hl
    rw [if_neg (by simp)]
    walk_at "dl"
    have hb := hln b (by simp)
    have hc := hln c (by simp)
    by_cases ha : a = sRow
    · rw [decide_eq_true ha, if_neg (by decide)]
      rw [headInL_3 ha] at q
      refine dSeq_mk ?_
      walk_at "dl"
      refine ⟨b, rfl, hb, c, rfl, hc, by decide, ?_⟩
      walk_at "dl"
      rw [show [optD (numIn b), optD (numIn c)] = [numIn b, numIn c].map optD from rfl]
      refine ⟨rfl, by rw [List.all_map, List.all_eq_true]; exact fun o _ => optD_flat o, ?_⟩
      rw [if_neg (by decide), inNon]
      cases h1 : numIn b with
      | none =>
        rw [h1] at q
        walk_at "dl"
        exact Rt.same q
      | some n =>
        cases h2 : numIn c with
        | none =>
          rw [h1, h2] at q
          walk_at "dl"
          exact Rt.same q
        | some m =>
          rw [h1, h2] at q
          walk_at "dl"
          exact Rt.same q
    · rw [decide_eq_false ha, if_pos (by decide)]
      rw [headInL_no ha] at q
      exact Rt.same q
  · rw [if_pos (by rw [List.length_map, decide_eq_false (by omega)]; rfl)]
    have q : Q (optH none) G := by
      match ls, hl, q with
      | [], _, q => exact q
      | [_], _, q => exact q
      | [_, _], _, q => exact q
      | [_, _, _], hl, _ => exact absurd rfl hl
      | _ :: _ :: _ :: _ :: _, _, q => exact q
    exact Rt.same q
open TL
def sharesInL : List Str → Option (Nat × List Nat)
  | [a, b, c] => if a = sShares then (match numIn b, nbsIn c with | some n, some m => some (n, m) | _, _ => none) else none
  | _ => none
def sharesIn (x : Str) : Option (Nat × List Nat) := sharesInL (Txt.split x sBlank)
theorem sharesInL_3 {a b c : Str} (h : a = sShares) : sharesInL [a, b, c] = (match numIn b, nbsIn c with | some n, some m => some (n, m) | _, _ => none) := by
  show (if a = sShares then _ else _) = _
  rw [if_pos h]
theorem sharesInL_no {a b c : Str} (h : ¬ a = sShares) : sharesInL [a, b, c] = none := by
  show (if a = sShares then _ else _) = _
  rw [if_neg h]
def optS : Option (Nat × List Nat) → D
  | none => .non
  | some p => .tup [.int (p.1 : Nat), intsT p.2]
theorem inP_non {x y : D} {k : Nat} {p q : PyData} {G : Gp} {Q : DK} (ex : Es k x) (ey : Es k y) (hk : k + 1 ≤ 64) (hx : toPy x = some p) (hy : toPy y = some q) : dInP false .non (.tup [x, y]) G Q = Q (.bl (PyData.eqv p .none || PyData.eqv q .none)) G := by
  have ep : toPys [x, y] = some [p, q] := by
    unfold toPys
    rw [hx]
    unfold toPys
    rw [hy]
    rfl
  obtain ⟨z, e, sh, _⟩ := (es_lst (xs := [x, y]) (by simp; exact ⟨ex, ey⟩)).shaped hk
  have e : (toPys [x, y]).map PyData.list = some z := e
  rw [ep] at e
  cases e
  have e1 : pyOf .non G = some .none := rfl
  have e2 : (pyOf (.tup [x, y]) G).bind pyIts = some [p, q] := by
    show ((toPys [x, y]).map PyData.tuple).bind pyIts = _
    rw [ep]
    rfl
  obtain ⟨z, e3, sn, _⟩ := (es_non).shaped (by decide : 0 ≤ 64)
  cases e3
  unfold dInP
  rw [e1, e2]
  simp [sh, sn]
theorem es_intsT (l : List Nat) : Es 1 (intsT l) := es_tup fun x hx => by
  obtain ⟨k, _, rfl⟩ := List.mem_map.mp hx
  exact es_int
theorem py_intsT (l : List Nat) : ∃ p, toPy (intsT l) = some p ∧ PyData.eqv p .none = false := by
  obtain ⟨p, e, _⟩ := es_intsT l
  refine ⟨p, e, ?_⟩
  have e : (toPys (l.map fun k => .int (k : Nat))).map PyData.tuple = some p := e
  obtain ⟨ps, _, rfl⟩ := Option.map_eq_some_iff.mp e
  simp [PyData.eqv]
abbrev sp_shares_in : DSp := fun ds G Q _ => ∃ w : Str, ds = [.str w] ∧ w.length + 4 ≤ sizeLine ∧ Q (optS (sharesIn w)) G
def t_shares_in : DS :=
  (dSeq (dAsg 1 (dSplit false (dVar 0) (dC (.str " "))))
  (dSeq (dIfS (dOr (dB (dOp dNe (dCB dLen (aCons (dVar 1) aNil)) (dC (.int 3)))) (dB (dOp dNe (dOp dIx (dVar 1) (dC (.int 0))) (dC (.str "shares"))))) (dRet (dC .non)) dNext)
  (dSeq (dAsg 2 (dTup (aCons (dCall sp_number_in X0 (aCons (dOp dIx (dVar 1) (dC (.int 1))) aNil)) (aCons (dCall sp_numbers_in X0 (aCons (dOp dIx (dVar 1) (dC (.int 2))) aNil)) aNil))))
  (dRet (dIf (dB (dOp (dInP false) (dC .non) (dVar 2))) (dC .non) (dVar 2))))))
theorem len_shares_in : ∀ ds G Q E, sp_shares_in ds G Q E → ds.length = ["line"].length := by
  intro ds G Q E h
  first | (obtain ⟨rfl, _⟩ := h; rfl) | (obtain ⟨_, rfl, _⟩ := h; rfl) | (obtain ⟨_, _, rfl, _⟩ := h; rfl) | (obtain ⟨_, _, _, rfl, _⟩ := h; rfl) | (obtain ⟨_, _, _, _, rfl, _⟩ := h; rfl) | (obtain ⟨_, _, _, _, _, rfl, _⟩ := h; rfl) | (obtain ⟨_, _, _, _, _, _, rfl, _⟩ := h; rfl) | (obtain ⟨_, _, _, _, _, _, _, rfl, _⟩ := h; rfl) | (obtain ⟨_, _, _, _, _, _, _, _, rfl, _⟩ := h; rfl) | (obtain ⟨_, _, _, _, _, _, _, _, _, rfl, _⟩ := h; rfl) | (obtain ⟨_, _, _, _, _, _, _, _, _, _, rfl, _⟩ := h; rfl) | (obtain ⟨_, _, _, _, _, _, _, _, _, _, _, rfl, _⟩ := h; rfl) | (obtain ⟨_, _, _, _, _, _, _, _, _, _, _, _, rfl, _⟩ := h; rfl) | (obtain ⟨_, _, _, _, _, _, _, _, _, _, _, _, _, rfl, _⟩ := h; rfl) | (obtain ⟨_, _, _, _, _, _, _, _, _, _, _, _, _, _, rfl, _⟩ := h; rfl) | (obtain ⟨_, _, _, _, _, _, _, _, _, _, _, _, _, _, _, rfl, _⟩ := h; rfl)
theorem rd_shares_in : ∀ ds G Q E', sp_shares_in ds G Q E' → t_shares_in (endD Q) (startD ["line", "words", "found"] ds) G := by
  rintro ds G Q E' ⟨w, rfl, hw, q⟩
  unfold t_shares_in
  refine dSeq_mk ?_
  refine ⟨⟨_, rfl⟩, w, _, rfl, rfl, by decide +kernel, by omega, ?_⟩
  have hln : ∀ p ∈ Txt.split w sBlank, p.length + 2 ≤ sizeLine := fun p hp => by have := split_len hp; omega
  unfold sharesIn at q
  show ({ nx := _, rt := _ : DEnds } : DEnds).nx _ _
  generalize Txt.split w (Str.ofString " ") = ls at *
  refine dSeq_mk ?_
  walk_at "dl"
  by_cases hl : ls.length = 3
  · obtain ⟨a, b, c, rfl⟩ := three hl
    rw [if_neg (by simp)]
    walk_at "dl"
    have hb := hln b (by simp)
    have hc := hln c (by simp)
    by_cases ha : a = sShares
    · rw [decide_eq_true ha, if_neg (by decide)]
      rw [sharesInL_3 ha] at q
      refine dSeq_mk ?_
      walk_at "dl"
      refine ⟨b, rfl, by omega, c, rfl, hc, by decide, ?_⟩
      cases h1 : numIn b with
      | none =>
        rw [h1] at q
        cases h2 : nbsIn c with
        | none =>
          show dInP false .non (.tup [.non, .non]) G _
          rw [inP_non (k := 1) (es_non.mono (by decide)) (es_non.mono (by decide)) (by decide) rfl rfl, show PyData.eqv .none .none = true by simp [PyData.eqv]]
          walk_at "dl"
          exact Rt.same q
        | some m =>
          obtain ⟨p, e, z⟩ := py_intsT m
          show dInP false .non (.tup [.non, intsT m]) G _
          rw [inP_non (k := 1) (es_non.mono (by decide)) (es_intsT m) (by decide) rfl e, show PyData.eqv .none .none = true by simp [PyData.eqv]]
          walk_at "dl"
          exact Rt.same q
      | some n =>
        cases h2 : nbsIn c with
        | none =>
          rw [h1, h2] at q
          show dInP false .non (.tup [.int (n : Nat), .non]) G _
          rw [inP_non (k := 1) (es_int.mono (by decide)) (es_non.mono (by decide)) (by decide) rfl rfl, show PyData.eqv .none .none = true by simp [PyData.eqv], Bool.or_true]
          walk_at "dl"
          exact Rt.same q
        | some m =>
          rw [h1, h2] at q
          obtain ⟨p, e, z⟩ := py_intsT m
          show dInP false .non (.tup [.int (n : Nat), intsT m]) G _
          rw [inP_non (k := 1) (es_int.mono (by decide)) (es_intsT m) (by decide) rfl e, z, show PyData.eqv (.int (n : Nat)) .none = false by simp [PyData.eqv]]
          walk_at "dl"
          exact Rt.same q
    · rw [decide_eq_false ha, if_pos (by decide)]
      rw [sharesInL_no ha] at q
      exact Rt.same q
  · rw [if_pos (by rw [List.length_map, decide_eq_false (by omega)]; rfl)]
    have q : Q (optS none) G := by
      match ls, hl, q with
      | [], _, q => exact q
      | [_], _, q => exact q
      | [_, _], _, q => exact q
      | [_, _, _], hl, _ => exact absurd rfl hl
      | _ :: _ :: _ :: _ :: _, _, q => exact q
    exact Rt.same q
open TL
/-- shares of m things among n people, as they are told -/
structure ShT (n m : Nat) (s : Int × List Int) : Prop where
  b1 : 1 ≤ s.1
  b2 : s.1 ≤ 360
  ln : s.2.length = n
  tp : ∀ t ∈ s.2, 0 ≤ t ∧ t ≤ s.1
  sm : s.2.sum = (m : Int) * s.1
theorem ShT.are {n m : Nat} {s : Int × List Int} (h : ShT n m s) : areSh (n : Int) (m : Int) (shD s) = true := by
  obtain ⟨b, ts⟩ := s
  show (isW (.int b) 1 360 && decide (((ts.map D.int).length : Int) = n) && (ts.map D.int).all (fun t => isW t 0 b) && decide (isum (ts.map D.int) = m * b)) = true
  have e : isum (ts.map D.int) = ts.sum := by unfold isum; rw [DL.ints_map]
  have h1 : 1 ≤ b := h.b1
  have h2 : b ≤ 360 := h.b2
  have h3 : ts.length = n := h.ln
  have h4 : ts.sum = (m : Int) * b := h.sm
  rw [e, List.length_map, isW_int, decide_eq_true h1, decide_eq_true h2, decide_eq_true (show (ts.length : Int) = n by omega), decide_eq_true h4]
  rw [List.all_map]
  simp only [Bool.and_true, Bool.true_and, List.all_eq_true]
  intro t ht
  obtain ⟨t0, t1⟩ := h.tp t ht
  show isW (.int t) 0 b = true
  rw [isW_int, decide_eq_true t0, decide_eq_true (show t ≤ b from t1)]
  rfl
theorem rowT_isRow {n m : Nat} {r : List (Int × List Int)} (h : ∀ s ∈ r, ShT n m s) (hl : r.length ≤ 400) : isRow (n : Int) (m : Int) (.tup (r.map shD)) = true := by
  show (decide ((r.map shD).length ≤ 400) && (r.map shD).all (areSh n m)) = true
  rw [List.length_map, decide_eq_true hl, List.all_map, Bool.true_and, List.all_eq_true]
  exact fun s hs => (h s hs).are
theorem rowT_pd (r : List (Int × List Int)) : pd (.tup (r.map shD)) = true := pd_tup.mpr fun x hx => by
  obtain ⟨s, _, rfl⟩ := List.mem_map.mp hx
  unfold shD
  rw [pd_tup2]
  refine ⟨pd_int, pd_tup.mpr fun x hx => ?_⟩
  obtain ⟨i, _, rfl⟩ := List.mem_map.mp hx
  exact pd_int
/-- a beat's line -/
def shT (s : Int × List Int) : Str := Str.ofString "shares " ++ nT s.1 ++ sBlank ++ nsT s.2
def headT (n m : Int) : Str := Str.ofString "row " ++ nT n ++ sBlank ++ nT m
def rowT (n m : Int) (r : List (Int × List Int)) : Str := Txt.join Str.empty ((headT n m :: r.map shT).map (· ++ sLine))
theorem nT_len3 {i : Int} (h : 0 ≤ i ∧ i ≤ 360) : (nT i).length ≤ 3 := nT_lenI (by decide) ⟨h.1, by omega⟩
theorem ShT.nsl {n m : Nat} {s : Int × List Int} (h : ShT n m s) : (nsT s.2).length ≤ 4 * n := by
  have := nsT_lenI (k := 3) (by decide) (l := s.2) fun i hi => by have := h.tp i hi; have := h.b2; omega
  have := h.ln
  omega
theorem ShT.len {n m : Nat} {s : Int × List Int} (h : ShT n m s) : (shT s).length ≤ 11 + 4 * n := by
  have h1 := h.nsl
  have h2 := nT_len3 (i := s.1) ⟨by have := h.b1; omega, h.b2⟩
  unfold shT
  rw [app_len, app_len, app_len, show (Str.ofString "shares ").length = 7 by decide +kernel, show sBlank.length = 1 by decide +kernel]
  omega
open TL
def shP2 (p : Nat × List Nat) : Int × List Int := ((p.1 : Nat), p.2.map Int.ofNat)
/-- the first line of a row's text that is wrong -/
def rdBad : List Str → Option Nat
  | [] => none
  | h :: r => match headIn h with
    | none => some 0
    | some _ => (fstN sharesIn r).map (· + 1)
theorem optS_sh (p : Nat × List Nat) : optS (some p) = shD (shP2 p) := by
  show D.tup [.int (p.1 : Nat), intsT p.2] = .tup [.int (p.1 : Nat), .tup ((p.2.map Int.ofNat).map D.int)]
  rw [List.map_map]
  rfl
/-- what has been read so far -/
def RdSt (ls : List Str) (k : Nat) (ys : List (Nat × List Nat)) (hd : D) : Prop := (k = 0 ∧ ys = [] ∧ hd = .non) ∨ ∃ h r n m, ls = h :: r ∧ headIn h = some (n, m) ∧ 1 ≤ k ∧ mapO sharesIn (r.take (k - 1)) = some ys ∧ hd = .tup [.int (n : Nat), .int (m : Nat)]
theorem rdBad_cons {h : Str} {r : List Str} {q : Nat × Nat} (e : headIn h = some q) : rdBad (h :: r) = (fstN sharesIn r).map (· + 1) := by
  simp only [rdBad, e]
theorem rdBad_no {h : Str} {r : List Str} (e : headIn h = none) : rdBad (h :: r) = some 0 := by
  simp only [rdBad, e]
abbrev sp_read_row : DSp := fun ds G Q E => ∃ x, ds = [x] ∧ pd x = true ∧ (isS x = false → E "BadText" [("line", .int 0)] G) ∧ ∀ s : Str, x = .str s → s.length ≤ 900000 ∧ ∀ ls last, Txt.split s sLine = ls ++ [last] →
  (∀ (k : Nat) G', rdBad ls = some k → GLe G G' → E "BadText" [("line", .int ((k : Nat) + 1))] G') ∧
  (rdBad ls = none → (last ≠ Str.empty ∨ ls = [] → ∀ G', GLe G G' → E "BadText" [("line", .int ((ls.length : Nat) + 1))] G') ∧
    (last = Str.empty → ∀ h r n m ys, ls = h :: r → headIn h = some (n, m) → mapO sharesIn r = some ys → ∀ G', GLe G G' → chk2 (.int (n : Nat)) (.int (m : Nat)) E G' fun i j => (isRow i j (.tup ((ys.map shP2).map shD)) = false → E "NoRow" [("at", fw i j (.tup ((ys.map shP2).map shD)))] G') ∧ (isRow i j (.tup ((ys.map shP2).map shD)) = true → Q (.tup [.int (n : Nat), .int (m : Nat), .tup ((ys.map shP2).map shD)]) G)))
def t_read_row (E' : DX) : DS :=
  (dSeq (dAsgG (gT 2 (gsCons (gN 1) (gsCons (gN 2) gsNil))) (dCall sp_lines_in E' (aCons (dVar 0) aNil)))
  (dSeq (dPar 3 4 (aCons (dC .non) (aCons (dLst true aNil) aNil)))
  (dSeq (dFor (dEnumX (aCons (dVar 1) aNil)) (gT 2 (gsCons (gN 5) (gsCons (gN 6) gsNil))) (dSeq (dAsg 7 (dIf (dB (dOp dEq (dVar 5) (dC (.int 0)))) (dCall sp_head_in X0 (aCons (dVar 6) aNil)) (dCall sp_shares_in X0 (aCons (dVar 6) aNil))))
  (dSeq (dIfS (dB (dOp dIsN (dVar 7) (dC .non))) (dRaiseF "BadText" "line" (ownW E') (dOp (dAdd false) (dVar 5) (dC (.int 1)))) dNext)
  (dIfS (dB (dOp dEq (dVar 5) (dC (.int 0)))) (dAsg 3 (dVar 7)) (dDrop (dMeL dAppend (dVar 4) (aCons (dVar 7) aNil)))))))
  (dSeq (dIfS (dOr (dB (dOp dNe (dVar 2) (dC (.str "")))) (dB (dOp dIsN (dVar 3) (dC .non)))) (dRaiseF "BadText" "line" (ownW E') (dOp (dAdd false) (dCB dLen (aCons (dVar 1) aNil)) (dC (.int 1)))) dNext)
  (dSeq (dDrop (dCall sp_check_row E' (aCons (dOp dIx (dVar 3) (dC (.int 0))) (aCons (dOp dIx (dVar 3) (dC (.int 1))) (aCons (dCB dTupleOf (aCons (dVar 4) aNil)) aNil)))))
  (dRet (dTup (aCons (dOp dIx (dVar 3) (dC (.int 0))) (aCons (dOp dIx (dVar 3) (dC (.int 1))) (aCons (dCB dTupleOf (aCons (dVar 4) aNil)) aNil))))))))))
theorem len_read_row : ∀ ds G Q E, sp_read_row ds G Q E → ds.length = ["text"].length := by
  intro ds G Q E h
  first | (obtain ⟨rfl, _⟩ := h; rfl) | (obtain ⟨_, rfl, _⟩ := h; rfl) | (obtain ⟨_, _, rfl, _⟩ := h; rfl) | (obtain ⟨_, _, _, rfl, _⟩ := h; rfl) | (obtain ⟨_, _, _, _, rfl, _⟩ := h; rfl) | (obtain ⟨_, _, _, _, _, rfl, _⟩ := h; rfl) | (obtain ⟨_, _, _, _, _, _, rfl, _⟩ := h; rfl) | (obtain ⟨_, _, _, _, _, _, _, rfl, _⟩ := h; rfl) | (obtain ⟨_, _, _, _, _, _, _, _, rfl, _⟩ := h; rfl) | (obtain ⟨_, _, _, _, _, _, _, _, _, rfl, _⟩ := h; rfl) | (obtain ⟨_, _, _, _, _, _, _, _, _, _, rfl, _⟩ := h; rfl) | (obtain ⟨_, _, _, _, _, _, _, _, _, _, _, rfl, _⟩ := h; rfl) | (obtain ⟨_, _, _, _, _, _, _, _, _, _, _, _, rfl, _⟩ := h; rfl) | (obtain ⟨_, _, _, _, _, _, _, _, _, _, _, _, _, rfl, _⟩ := h; rfl) | (obtain ⟨_, _, _, _, _, _, _, _, _, _, _, _, _, _, rfl, _⟩ := h; rfl) | (obtain ⟨_, _, _, _, _, _, _, _, _, _, _, _, _, _, _, rfl, _⟩ := h; rfl)
theorem rd_read_row (E' : DX) : ∀ ds G Q, sp_read_row ds G Q E' → t_read_row E' (endD Q) (startD ["text", "lines", "rest", "head", "row", "at", "line", "found"] ds) G := by
  rintro ds G Q ⟨x, rfl, hp, he, hs⟩
  unfold t_read_row
  have hz : (900004 : Nat) ≤ sizeLine := by decide
  refine dSeq_mk ?_
  walk_at "dx"
  refine ⟨x, rfl, hp, he, fun s hx => ⟨?_, fun ls last e => ?_⟩⟩
  · have := (hs s hx).1
    omega
  obtain ⟨hl, hq⟩ := hs s hx
  obtain ⟨h1, h2⟩ := hq ls last e
  have hpl : ∀ p ∈ ls, p.length ≤ 900000 := fun p hp => by
    have := split_len (x := s) (y := sLine) (p := p) (by rw [e]; simp [hp])
    omega
  have hnl : ls.length + 1 ≤ 900002 := by
    have := split_num (x := s) (y := sLine)
    rw [e, List.length_append, List.length_singleton] at this
    omega
  subst hx
  walk_at "dx"
  refine dSeq_mk ?_
  walk_at "dx"
  refine ⟨by decide, fun c hc => ?_⟩
  have hle : ∀ zs, GLe G (gu G c (.lst zs)) := fun zs => GLe.new hc
  refine dSeq_mk ?_
  walk_at "dx"
  refine forL_en (fun k δ G' => ∃ (ys : List (Nat × List Nat)) (hd : D) (s5 s6 s7 : Option D), RdSt ls k ys hd ∧ gu G c (.lst ((ys.map shP2).map shD)) = G' ∧ δ = [some (.str s), some (.lst (ls.map D.str)), some (.str last), some hd, some (.ref c), s5, s6, s7]) (fun _ _ _ _ => trivial) ?_ ?_ _ _ ⟨[], .non, none, none, none, .inl ⟨rfl, rfl, rfl⟩, rfl, rfl⟩
  · rintro k w δ G' N hk ⟨ys, hd, s5, s6, s7, hst, rfl, rfl⟩ kN
    have hwl := hpl w (List.mem_of_getElem? hk)
    have hkr : k < ls.length := by
      rcases Nat.lt_or_ge k ls.length with z | z
      · exact z
      · rw [List.getElem?_eq_none z] at hk; cases hk
    rcases hst with ⟨rfl, rfl, rfl⟩ | ⟨h, r, n, m, rfl, hh, hk1, hm, rfl⟩
    · walk_at "dx"
      refine dSeq_mk ?_
      walk_at "dx"
      rw [show decide (((0 : Nat) : Int) = 0) = true from rfl, if_pos rfl]
      refine ⟨w, rfl, by omega, ?_⟩
      cases ls with
      | nil => simp at hkr
      | cons h r =>
        obtain rfl : h = w := by simpa using hk
        refine dSeq_mk ?_
        cases hw : headIn h with
        | none =>
          walk_at "dx"
          exact h1 0 _ (rdBad_no hw) (hle _)
        | some p =>
          obtain ⟨n, m⟩ := p
          walk_at "dx"
          rw [if_neg (by show ¬ false = true; decide)]
          walk_at "dx"
          rw [show decide (((0 : Nat) : Int) = 0) = true from rfl, if_pos rfl]
          exact kN _ _ ⟨[], _, _, _, _, .inr ⟨h, r, n, m, rfl, hw, Nat.le_refl _, rfl, rfl⟩, rfl, rfl⟩
    · obtain ⟨j, rfl⟩ : ∃ j, k = j + 1 := ⟨k - 1, by omega⟩
      rw [List.getElem?_cons_succ] at hk
      rw [Nat.add_sub_cancel] at hm
      have hj : decide (((j + 1 : Nat) : Int) = 0) = false := decide_eq_false (by omega)
      walk_at "dx"
      refine dSeq_mk ?_
      walk_at "dx"
      rw [hj, if_neg (by decide)]
      refine ⟨w, rfl, by omega, ?_⟩
      refine dSeq_mk ?_
      cases hw : sharesIn w with
      | none =>
        walk_at "dx"
        refine h1 (j + 1) _ ?_ (hle _)
        rw [rdBad_cons hh, fstN_some hm hk hw]
        rfl
      | some p =>
        have e2 : mapO sharesIn (r.take (j + 1)) = some (ys ++ [p]) := by
          rw [List.take_add_one, hk]
          exact mapO_snoc hw hm
        have hyl := mapO_len hm
        rw [List.length_take] at hyl
        rw [optS_sh]
        walk_at "dx"
        rw [if_neg (by show ¬ false = true; decide)]
        walk_at "dx"
        rw [hj, if_neg (by decide)]
        walk_at "dx"
        rw [List.length_map, List.length_map]
        refine ⟨by omega, kN _ _ ⟨ys ++ [p], _, _, _, _, .inr ⟨h, r, n, m, rfl, hh, by omega, e2, rfl⟩, ?_, rfl⟩⟩
        rw [List.map_append, List.map_append]
        rfl
  · rintro δ G' ⟨ys, hd, s5, s6, s7, hst, rfl, rfl⟩
    have hbad : rdBad ls = none := by
      rcases hst with ⟨hl0, _, _⟩ | ⟨h, r, n, m, rfl, hh, hk1, hm, rfl⟩
      · rw [List.length_eq_zero_iff.mp hl0]
        rfl
      · rw [List.length_cons, Nat.add_sub_cancel, List.take_length] at hm
        rw [rdBad_cons hh, fstN_none hm]
        rfl
    obtain ⟨h3, h4⟩ := h2 hbad
    walk_at "dx"
    refine dSeq_mk ?_
    walk_at "dx"
    by_cases hL : last = Str.empty
    · rw [decide_eq_true (show last = Str.ofString "" from hL), if_neg (by decide)]
      rcases hst with ⟨hl0, _, rfl⟩ | ⟨h, r, n, m, rfl, hh, hk1, hm, rfl⟩
      · walk_at "dx"
        rw [List.length_map]
        exact h3 (.inr (List.length_eq_zero_iff.mp hl0)) _ (hle _)
      · rw [List.length_cons, Nat.add_sub_cancel, List.take_length] at hm
        walk_at "dx"
        refine dSeq_mk ?_
        walk_at "dx"
        refine ⟨_, _, _, rfl, pd_int, pd_int, rowT_pd _, (h4 hL h r n m ys rfl hh hm _ (hle _)).imp fun i j ei ej i0 i1 j0 j1 k => ⟨k.1, fun z => ?_⟩⟩
        walk_at "dx"
        refine ⟨by decide, Rt.less (hle _) (k.2 z)⟩
    · rw [decide_eq_false (show ¬ last = Str.ofString "" from hL), if_pos (by decide)]
      walk_at "dx"
      rw [List.length_map]
      exact h3 (.inl hL) _ (hle _)
open TL
abbrev sp_row_text : DSp := fun ds G Q E => ∃ x y z, ds = [x, y, z] ∧ pd x = true ∧ pd y = true ∧ pd z = true ∧ chk2 x y E G fun n m => (isRow n m z = false → E "NoRow" [("at", fw n m z)] G) ∧ (isRow n m z = true → ∃ (r : List (Int × List Int)), z = .tup (r.map shD) ∧ (∀ s ∈ r, ShT n.toNat m.toNat s) ∧ r.length ≤ 400 ∧ Q (.str (rowT n m r)) G)
def t_row_text (E' : DX) : DS :=
  (dSeq (dDrop (dCall sp_check_row E' (aCons (dVar 0) (aCons (dVar 1) (aCons (dVar 2) aNil)))))
  (dSeq (dAsg 3 (dLst true (aCons (dOp (dAdd false) (dOp (dAdd false) (dOp (dAdd false) (dC (.str "row ")) (dCB dStrT (aCons (dVar 0) aNil))) (dC (.str " "))) (dCB dStrT (aCons (dVar 1) aNil))) aNil)))
  (dSeq (dFor (dSeqI (dVar 2)) (gT 2 (gsCons (gN 4) (gsCons (gN 5) gsNil))) (dDrop (dMeL dAppend (dVar 3) (aCons (dOp (dAdd false) (dOp (dAdd false) (dOp (dAdd false) (dC (.str "shares ")) (dCB dStrT (aCons (dVar 4) aNil))) (dC (.str " "))) (dCall sp_numbers_text X0 (aCons (dVar 5) aNil))) aNil))))
  (dRet (dJoin (dC (.str "")) (dLc false (dSeqI (dVar 3)) (gN 6) dYes (dOp (dAdd false) (dVar 6) (dC (.str "\n"))) [6]))))))
theorem len_row_text : ∀ ds G Q E, sp_row_text ds G Q E → ds.length = ["n", "m", "row"].length := by
  intro ds G Q E h
  first | (obtain ⟨rfl, _⟩ := h; rfl) | (obtain ⟨_, rfl, _⟩ := h; rfl) | (obtain ⟨_, _, rfl, _⟩ := h; rfl) | (obtain ⟨_, _, _, rfl, _⟩ := h; rfl) | (obtain ⟨_, _, _, _, rfl, _⟩ := h; rfl) | (obtain ⟨_, _, _, _, _, rfl, _⟩ := h; rfl) | (obtain ⟨_, _, _, _, _, _, rfl, _⟩ := h; rfl) | (obtain ⟨_, _, _, _, _, _, _, rfl, _⟩ := h; rfl) | (obtain ⟨_, _, _, _, _, _, _, _, rfl, _⟩ := h; rfl) | (obtain ⟨_, _, _, _, _, _, _, _, _, rfl, _⟩ := h; rfl) | (obtain ⟨_, _, _, _, _, _, _, _, _, _, rfl, _⟩ := h; rfl) | (obtain ⟨_, _, _, _, _, _, _, _, _, _, _, rfl, _⟩ := h; rfl) | (obtain ⟨_, _, _, _, _, _, _, _, _, _, _, _, rfl, _⟩ := h; rfl) | (obtain ⟨_, _, _, _, _, _, _, _, _, _, _, _, _, rfl, _⟩ := h; rfl) | (obtain ⟨_, _, _, _, _, _, _, _, _, _, _, _, _, _, rfl, _⟩ := h; rfl) | (obtain ⟨_, _, _, _, _, _, _, _, _, _, _, _, _, _, _, rfl, _⟩ := h; rfl)
theorem rd_row_text (E' : DX) : ∀ ds G Q, sp_row_text ds G Q E' → t_row_text E' (endD Q) (startD ["n", "m", "row", "found", "bottom", "tops", "line"] ds) G := by
  rintro ds G Q ⟨x, y, z, rfl, hx, hy, hz, h⟩
  unfold t_row_text
  refine dSeq_mk ?_
  walk_at "dx"
  refine ⟨x, y, z, rfl, hx, hy, hz, h.imp fun n m en em n0 n1 m0 m1 k => ⟨k.1, fun hr => ?_⟩⟩
  obtain ⟨r, rfl, hS, hl, q⟩ := k.2 hr
  subst en em
  refine dSeq_mk ?_
  walk_at "dx"
  have hz : (1000000 : Nat) ≤ sizeLine := by decide
  have l1 : (Str.ofString (toString n)).length ≤ 3 := nT_len3 (i := n) ⟨by omega, by omega⟩
  have l2 : (Str.ofString (toString m)).length ≤ 3 := nT_len3 (i := m) ⟨by omega, by omega⟩
  have l3 : (Str.ofString "row ").length = 4 := by decide +kernel
  have l4 : (Str.ofString " ").length = 1 := by decide +kernel
  have l5 : (Str.ofString "shares ").length = 7 := by decide +kernel
  have l6 : (Str.ofString "\n").length = 1 := by decide +kernel
  have nn : n.toNat ≤ 12 := by omega
  refine ⟨small_log ⟨by omega, by omega⟩, by rw [l3]; omega, by rw [app_len, l3, l4]; omega, small_log ⟨by omega, by omega⟩, by rw [app_len, app_len, l3, l4]; omega, by decide, fun c hc => ?_⟩
  have hhl : (headT n m).length ≤ 11 := by
    show (Str.ofString "row " ++ Str.ofString (toString n) ++ Str.ofString " " ++ Str.ofString (toString m)).length ≤ 11
    rw [app_len, app_len, app_len, l3, l4]
    omega
  refine dSeq_mk ?_
  walk_at "dx"
  refine forL_src shD (fun zs δ G' => ∃ (dn : List (Int × List Int)) (s4 s5 : Option D), dn ++ zs = r ∧ G' = gu G c (.lst ((headT n m :: dn.map shT).map D.str)) ∧ δ = [some (.int n), some (.int m), some (.tup (r.map shD)), some (.ref c), s4, s5, none]) (fun _ _ _ _ => trivial) ?_ ?_ r _ rfl _ _ ⟨[], _, _, rfl, rfl, rfl⟩
  · rintro s zs δ G' N ⟨dn, s4, s5, hd, rfl, rfl⟩ kN
    have hs := hS s (by rw [← hd]; simp)
    have hb1 := hs.b1
    have hb2 := hs.b2
    have hnl := hs.nsl
    have hdl := congrArg List.length hd
    rw [List.length_append, List.length_cons] at hdl
    have l7 : (Str.ofString (toString s.1)).length ≤ 3 := nT_len3 ⟨by omega, hb2⟩
    have l8 : (nsT s.2).length ≤ 48 := by omega
    rw [show shD s = .tup [.int s.1, .tup (s.2.map D.int)] from rfl]
    walk_at "dx"
    refine ⟨small_log ⟨by omega, by omega⟩, by rw [l5]; omega, by rw [app_len, l5, l4]; omega, s.2, rfl, by have := hs.ln; omega, fun i hi => by have := hs.tp i hi; omega, ?_⟩
    refine ⟨by rw [app_len, app_len, l5, l4]; omega, ?_⟩
    walk_at "dx"
    try rw [w_atL_ref gu_same]
    refine ⟨by rw [List.length_map, List.length_map]; omega, kN _ _ ⟨dn ++ [s], _, _, by rw [List.append_assoc]; exact hd, ?_, rfl⟩⟩
    rw [List.map_cons, List.map_append, List.map_append]
    rfl
  · rintro δ G' ⟨dn, s4, s5, hd, rfl, rfl⟩
    rw [List.append_nil] at hd
    subst hd
    walk_at "dx"
    refine ⟨⟨_, rfl⟩, ?_⟩
    show (match seqOf (.ref c) (gu G c _) with | some xs => ∀ p, gu G c _ p = none → compL _ _ _ (Stays (.ref c) (gu G c _)) p _ xs [] _ _ | none => False)
    rw [seq_gu]
    refine lc_src (headT n m :: dn.map shT) D.str (fun x => .str (x ++ sLine)) rfl (by rw [List.length_cons, List.length_map]; omega) (fun p ys hp => gu_ne (fun z => by rw [← z, gu_same] at hp; cases hp)) (fun x hx p ys Q' hp' k => ?_) ?_
    · walk_at "dx"
      refine ⟨?_, k⟩
      have : x.length ≤ 60 := by
        rcases List.mem_cons.mp hx with rfl | hx
        · omega
        · obtain ⟨s, hs, rfl⟩ := List.mem_map.mp hx
          have := (hS s hs).len
          omega
      rw [l6]
      omega
    · refine ⟨_, (headT n m :: dn.map shT).map (· ++ sLine), rfl, show some _ = some _ from congrArg some (by rw [List.map_map]; rfl), ?_, Rt.less (GLe.new hc) q⟩
      have := sum_bd (b := 61) (l := ((headT n m :: dn.map shT).map (· ++ sLine)).map (·.length)) fun x hx => by
        rw [List.map_map, List.mem_map] at hx
        obtain ⟨y, hy, rfl⟩ := hx
        show (y ++ sLine).length ≤ 61
        rw [app_len, show sLine.length = 1 from l6]
        rcases List.mem_cons.mp hy with rfl | hy
        · omega
        · obtain ⟨s, hs, rfl⟩ := List.mem_map.mp hy
          have := (hS s hs).len
          omega
      rw [List.length_map, List.length_map, List.length_cons, List.length_map] at this
      rw [List.length_map, List.length_cons, List.length_map, show (Str.ofString "").length = 0 by decide +kernel]
      omega
open TL
theorem tl_rowT (n m : Int) (r : List (Int × List Int)) : tl (rowT n m r) = (((headT n m :: r.map shT).map (· ++ sLine)).map tl).flatten := by
  unfold rowT
  rw [tl_joinT]
  exact joinL_nil _
theorem rowT_snoc (n m : Int) (r : List (Int × List Int)) (s : Int × List Int) : rowT n m r ++ Str.ofString "shares " ++ nT s.1 ++ sBlank ++ nsT s.2 ++ sLine = rowT n m (r ++ [s]) := by
  refine ext_tl ?_
  rw [tl_append, tl_append, tl_append, tl_append, tl_append, tl_rowT, tl_rowT]
  simp only [List.map_cons, List.map_append, List.flatten_cons, List.flatten_append, List.map_nil, List.flatten_nil, List.append_nil, List.append_assoc]
  unfold shT
  simp only [tl_append, List.append_assoc]
theorem rowT_nil (n m : Int) : Str.ofString "row " ++ nT n ++ sBlank ++ nT m ++ sLine = rowT n m [] := by
  refine ext_tl ?_
  rw [tl_rowT]
  unfold headT
  simp
theorem rowT_len {n m : Nat} {r : List (Int × List Int)} (hn : n ≤ 12) (hm : m ≤ 12) (hS : ∀ s ∈ r, ShT n m s) : (rowT (n : Nat) (m : Nat) r).length ≤ 61 * (r.length + 1) := by
  have l1 : (nT (n : Nat)).length ≤ 3 := nT_len3 ⟨by omega, by omega⟩
  have l2 : (nT (m : Nat)).length ≤ 3 := nT_len3 ⟨by omega, by omega⟩
  rw [len_tl, tl_rowT, List.length_flatten]
  have := sum_bd (b := 61) (l := ((((headT (n : Nat) (m : Nat) :: r.map shT).map (· ++ sLine)).map tl).map List.length)) fun x hx => by
    rw [List.map_map, List.map_map, List.mem_map] at hx
    obtain ⟨y, hy, rfl⟩ := hx
    show (tl (y ++ sLine)).length ≤ 61
    rw [← len_tl, app_len, show sLine.length = 1 by decide +kernel]
    rcases List.mem_cons.mp hy with rfl | hy
    · unfold headT
      rw [app_len, app_len, app_len, show (Str.ofString "row ").length = 4 by decide +kernel, show sBlank.length = 1 by decide +kernel]
      omega
    · obtain ⟨s, hs, rfl⟩ := List.mem_map.mp hy
      have := (hS s hs).len
      omega
  rw [List.length_map, List.length_map, List.length_map, List.length_cons, List.length_map] at this
  omega
abbrev sp_L_row_told : DSp := fun ds G Q _ => ∃ (n m : Nat) (r : List (Int × List Int)), ds = [.int (n : Nat), .int (m : Nat), .tup (r.map shD)] ∧ (1 ≤ n ∧ n ≤ 12) ∧ (1 ≤ m ∧ m ≤ n) ∧ (∀ s ∈ r, ShT n m s) ∧ r.length ≤ 400 ∧ Q (.str (rowT (n : Nat) (m : Nat) r)) G
def t_L_row_told : DS :=
  (dSeq (dAsg 3 (dOp (dAdd false) (dOp (dAdd false) (dOp (dAdd false) (dOp (dAdd false) (dC (.str "row ")) (dCB dStrT (aCons (dVar 0) aNil))) (dC (.str " "))) (dCB dStrT (aCons (dVar 1) aNil))) (dC (.str "\n"))))
  (dSeq (dFor (dSeqI (dVar 2)) (gT 2 (gsCons (gN 4) (gsCons (gN 5) gsNil))) (dAsg 3 (dOp (dAdd false) (dOp (dAdd false) (dOp (dAdd false) (dOp (dAdd false) (dOp (dAdd false) (dVar 3) (dC (.str "shares "))) (dCB dStrT (aCons (dVar 4) aNil))) (dC (.str " "))) (dJoin (dC (.str ",")) (dLc false (dSeqI (dVar 5)) (gN 6) dYes (dCB dStrT (aCons (dVar 6) aNil)) [6]))) (dC (.str "\n")))))
  (dRet (dVar 3))))
theorem len_L_row_told : ∀ ds G Q E, sp_L_row_told ds G Q E → ds.length = ["_law_n", "_law_m", "_law_row_here"].length := by
  intro ds G Q E h
  first | (obtain ⟨rfl, _⟩ := h; rfl) | (obtain ⟨_, rfl, _⟩ := h; rfl) | (obtain ⟨_, _, rfl, _⟩ := h; rfl) | (obtain ⟨_, _, _, rfl, _⟩ := h; rfl) | (obtain ⟨_, _, _, _, rfl, _⟩ := h; rfl) | (obtain ⟨_, _, _, _, _, rfl, _⟩ := h; rfl) | (obtain ⟨_, _, _, _, _, _, rfl, _⟩ := h; rfl) | (obtain ⟨_, _, _, _, _, _, _, rfl, _⟩ := h; rfl) | (obtain ⟨_, _, _, _, _, _, _, _, rfl, _⟩ := h; rfl) | (obtain ⟨_, _, _, _, _, _, _, _, _, rfl, _⟩ := h; rfl) | (obtain ⟨_, _, _, _, _, _, _, _, _, _, rfl, _⟩ := h; rfl) | (obtain ⟨_, _, _, _, _, _, _, _, _, _, _, rfl, _⟩ := h; rfl) | (obtain ⟨_, _, _, _, _, _, _, _, _, _, _, _, rfl, _⟩ := h; rfl) | (obtain ⟨_, _, _, _, _, _, _, _, _, _, _, _, _, rfl, _⟩ := h; rfl) | (obtain ⟨_, _, _, _, _, _, _, _, _, _, _, _, _, _, rfl, _⟩ := h; rfl) | (obtain ⟨_, _, _, _, _, _, _, _, _, _, _, _, _, _, _, rfl, _⟩ := h; rfl)
theorem rd_L_row_told : ∀ ds G Q E', sp_L_row_told ds G Q E' → t_L_row_told (endD Q) (startD ["_law_n", "_law_m", "_law_row_here", "_law_found", "_law_bottom", "_law_tops", "_law_top"] ds) G := by
  rintro ds G Q E' ⟨n, m, r, rfl, hn, hm, hS, hl, q⟩
  unfold t_L_row_told
  have hz : (1000000 : Nat) ≤ sizeLine := by decide
  have l1 : (Str.ofString (toString ((n : Nat) : Int))).length ≤ 3 := nT_len3 ⟨by omega, by omega⟩
  have l2 : (Str.ofString (toString ((m : Nat) : Int))).length ≤ 3 := nT_len3 ⟨by omega, by omega⟩
  have l3 : (Str.ofString "row ").length = 4 := by decide +kernel
  have l4 : (Str.ofString " ").length = 1 := by decide +kernel
  have l5 : (Str.ofString "shares ").length = 7 := by decide +kernel
  have l6 : (Str.ofString "\n").length = 1 := by decide +kernel
  refine dSeq_mk ?_
  walk_at "dl"
  refine ⟨small_log ⟨by omega, by omega⟩, by rw [l3]; omega, by rw [app_len, l3, l4]; omega, small_log ⟨by omega, by omega⟩, by rw [app_len, app_len, l3, l4]; omega, by rw [app_len, app_len, app_len, l3, l4, l6]; omega, ?_⟩
  rw [show Str.ofString "row " ++ Str.ofString (toString ((n : Nat) : Int)) ++ Str.ofString " " ++ Str.ofString (toString ((m : Nat) : Int)) ++ Str.ofString "\n" = rowT (n : Nat) (m : Nat) [] from rowT_nil _ _]
  refine dSeq_mk ?_
  walk_at "dl"
  refine forL_src shD (fun zs δ G' => ∃ (dn : List (Int × List Int)) (s4 s5 : Option D), dn ++ zs = r ∧ G = G' ∧ δ = [some (.int (n : Nat)), some (.int (m : Nat)), some (.tup (r.map shD)), some (.str (rowT (n : Nat) (m : Nat) dn)), s4, s5, none]) (fun _ _ _ _ => trivial) ?_ ?_ r _ rfl _ _ ⟨[], _, _, rfl, rfl, rfl⟩
  · rintro s zs δ G' N ⟨dn, s4, s5, hd, rfl, rfl⟩ kN
    have hs := hS s (by rw [← hd]; simp)
    have hb1 := hs.b1
    have hb2 := hs.b2
    have hnl := hs.nsl
    have hdl := congrArg List.length hd
    rw [List.length_append, List.length_cons] at hdl
    have hrl := rowT_len (n := n) (m := m) (r := dn) (by omega) (by omega) fun z hz => hS z (by rw [← hd]; simp [hz])
    have l7 : (Str.ofString (toString s.1)).length ≤ 3 := nT_len3 ⟨by omega, hb2⟩
    have l8 : (nsT s.2).length ≤ 48 := by omega
    rw [show shD s = .tup [.int s.1, .tup (s.2.map D.int)] from rfl]
    walk_at "dl"
    refine ⟨by rw [l5]; omega, small_log ⟨by omega, by omega⟩, by rw [app_len, l5]; omega, by rw [app_len, app_len, l5, l4]; omega, ⟨_, rfl⟩, ?_⟩
    show ∀ p2, G p2 = none → compL _ _ _ (fun _ => True) p2 _ (s.2.map D.int) [] _ _
    refine lc_src s.2 D.int (fun i => .str (nT i)) rfl (by have := hs.ln; omega) (fun _ _ _ => trivial) (fun i hi p3 zs Q3 hp3 k3 => ?_) ?_
    · walk_at "dl"
      exact ⟨small_log (by have := hs.tp i hi; omega), k3⟩
    · refine ⟨_, s.2.map nT, rfl, show some _ = some _ from congrArg some (by rw [List.map_map]; rfl), ?_, ?_, ?_, ?_⟩
      · have := sumT_le (k := 9) (by decide) (l := s.2) fun i hi => by have := hs.tp i hi; omega
        have := hs.ln
        rw [List.length_map, show (Str.ofString ",").length = 1 by decide +kernel]
        omega
      · rw [app_len, app_len, app_len, l5, l4]
        show _ + (nsT s.2).length ≤ sizeLine
        omega
      · rw [app_len, app_len, app_len, app_len, l5, l4, l6]
        show _ + (nsT s.2).length + 1 ≤ sizeLine
        omega
      · exact kN _ _ ⟨dn ++ [s], _, _, by rw [List.append_assoc]; exact hd, rfl, by rw [← rowT_snoc]⟩
  · rintro δ G' ⟨dn, s4, s5, hd, rfl, rfl⟩
    rw [List.append_nil] at hd
    subst hd
    walk_at "dl"
    exact Rt.same q
abbrev sp_L_shares : DSp := fun ds G Q _ => ∃ (h : Addr) (n m : Nat), ds = [.ref h, .int (n : Nat), .int (m : Nat)] ∧ isHand G h ∧ (1 ≤ n ∧ n ≤ 12) ∧ (1 ≤ m ∧ m ≤ n) ∧ ∀ s : Int × List Int, ShT n m s → Q (shD s) G
theorem sum_lt {b : Int} : ∀ {ts : List Int}, (∀ t ∈ ts, b ≤ t) → (ts.length : Int) * b ≤ ts.sum
  | [], _ => by simp
  | t :: ts, h => by
    have h1 := h t List.mem_cons_self
    have h2 := sum_lt (ts := ts) fun y hy => h y (List.mem_cons_of_mem _ hy)
    rw [List.sum_cons, List.length_cons, Int.natCast_add, Int.add_mul]
    omega
theorem sum_setI : ∀ (l : List Int) (i : Nat) (x : Int), i < l.length → (l.set i x).sum = l.sum - l.getD i 0 + x
  | [], i, x, h => by simp at h
  | y :: l, 0, x, h => by simp; omega
  | y :: l, i + 1, x, h => by
    rw [List.set_cons_succ, List.sum_cons, List.sum_cons, sum_setI l i x (by simpa using h)]
    simp
    omega
theorem getD_memI {l : List Int} {i : Nat} (h : i < l.length) : l.getD i 0 ∈ l := by
  rw [List.getD_eq_getElem?_getD, List.getElem?_eq_getElem h]
  exact List.getElem_mem h
def t_L_shares : DS :=
  (dSeq (dAsg 3 (dCall sp_L_any X0 (aCons (dVar 0) (aCons (dLst false (aCons (dC (.int 1)) (aCons (dC (.int 2)) (aCons (dC (.int 3)) (aCons (dC (.int 7)) (aCons (dC (.int 60)) (aCons (dC (.int 360)) (aCons (dOp (dAdd false) (dC (.int 1)) (dCall sp_L_draw X0 (aCons (dVar 0) (aCons (dC (.int 360)) aNil)))) aNil)))))))) aNil))))
  (dSeq (dAsg 4 (dOp (dMul true) (dLst false (aCons (dC (.int 0)) aNil)) (dVar 1)))
  (dSeq (dAsg 5 (dOp (dMul false) (dVar 2) (dVar 3)))
  (dSeq (dWhile (dB (dOp dGt (dVar 5) (dC (.int 0)))) (dSeq (dPar 6 7 (aCons (dCall sp_L_draw X0 (aCons (dVar 0) (aCons (dVar 1) aNil))) (aCons (dOp (dAdd false) (dC (.int 1)) (dCall sp_L_draw X0 (aCons (dVar 0) (aCons (dVar 5) aNil)))) aNil)))
  (dSeq (dAsg 7 (dCB dMin2 (aCons (dVar 7) (aCons (dOp dSub (dVar 3) (dOp dIx (dVar 4) (dVar 6))) aNil))))
  (dSeq (dIfS (dB (dOp dEq (dVar 7) (dC (.int 0)))) (dSeq (dAsg 6 (dOp dIx (dLc false (dRange1 (aCons (dVar 1) aNil)) (gN 8) (dB (dOp dLt (dOp dIx (dVar 4) (dVar 8)) (dVar 3))) (dVar 8) [8]) (dC (.int 0))))
  (dAsg 7 (dCB dMin2 (aCons (dVar 5) (aCons (dOp dSub (dVar 3) (dOp dIx (dVar 4) (dVar 6))) aNil))))) dNext)
  (dAsgG (gT 2 (gsCons (gSb (dVar 4) (dVar 6)) (gsCons (gN 5) gsNil))) (dTup (aCons (dOp (dAdd false) (dOp dIx (dVar 4) (dVar 6)) (dVar 7)) (aCons (dOp dSub (dVar 5) (dVar 7)) aNil))))))))
  (dRet (dTup (aCons (dVar 3) (aCons (dCB dTupleOf (aCons (dVar 4) aNil)) aNil))))))))
theorem len_L_shares : ∀ ds G Q E, sp_L_shares ds G Q E → ds.length = ["_law_hand_here", "_law_n", "_law_m"].length := by
  intro ds G Q E h
  first | (obtain ⟨rfl, _⟩ := h; rfl) | (obtain ⟨_, rfl, _⟩ := h; rfl) | (obtain ⟨_, _, rfl, _⟩ := h; rfl) | (obtain ⟨_, _, _, rfl, _⟩ := h; rfl) | (obtain ⟨_, _, _, _, rfl, _⟩ := h; rfl) | (obtain ⟨_, _, _, _, _, rfl, _⟩ := h; rfl) | (obtain ⟨_, _, _, _, _, _, rfl, _⟩ := h; rfl) | (obtain ⟨_, _, _, _, _, _, _, rfl, _⟩ := h; rfl) | (obtain ⟨_, _, _, _, _, _, _, _, rfl, _⟩ := h; rfl) | (obtain ⟨_, _, _, _, _, _, _, _, _, rfl, _⟩ := h; rfl) | (obtain ⟨_, _, _, _, _, _, _, _, _, _, rfl, _⟩ := h; rfl) | (obtain ⟨_, _, _, _, _, _, _, _, _, _, _, rfl, _⟩ := h; rfl) | (obtain ⟨_, _, _, _, _, _, _, _, _, _, _, _, rfl, _⟩ := h; rfl) | (obtain ⟨_, _, _, _, _, _, _, _, _, _, _, _, _, rfl, _⟩ := h; rfl) | (obtain ⟨_, _, _, _, _, _, _, _, _, _, _, _, _, _, rfl, _⟩ := h; rfl) | (obtain ⟨_, _, _, _, _, _, _, _, _, _, _, _, _, _, _, rfl, _⟩ := h; rfl)
theorem rd_L_shares : ∀ ds G Q E', sp_L_shares ds G Q E' → t_L_shares (endD Q) (startD ["_law_hand_here", "_law_n", "_law_m", "_law_bottom", "_law_tops", "_law_left", "_law_person", "_law_part", "_law_one"] ds) G := by
  rintro ds G Q E' ⟨h, n, m, rfl, hh, hn, hm, q⟩
  unfold t_L_shares
  refine dSeq_mk ?_
  walk_at "dl"
  refine ⟨hh, by decide, by decide, fun d0 d1 d2 => ?_⟩
  refine ⟨by decide, _, _, _, rfl, hh, rfl, by simp, fun y hy => ?_⟩
  obtain ⟨b, rfl, b1, b2⟩ : ∃ p : Int, y = .int p ∧ 1 ≤ p ∧ p ≤ 360 := by
    revert y
    walk_at "all"
    repeat' apply And.intro
    all_goals exact ⟨_, rfl, by omega, by omega⟩
  clear hy
  refine dSeq_mk ?_
  walk_at "dl"
  refine ⟨by decide, by omega, by omega, Nat.le_trans (by omega : _ ≤ 12) (by decide), fun a ha => ?_⟩
  rw [rep_ints]
  have hha : ∀ zs, isHand (gu G a (.lst zs)) h := fun zs => hh.new ha
  have hle : ∀ zs, GLe G (gu G a (.lst zs)) := fun zs => GLe.new ha
  have hmb : (m : Int) * b ≤ 12 * 360 := Int.mul_le_mul (by omega) b2 (by omega) (by omega)
  have hmb0 : 0 ≤ (m : Int) * b := Int.mul_nonneg (by omega) (by omega)
  have hnm : (m : Int) * b ≤ (n : Int) * b := Int.mul_le_mul_of_nonneg_right (by omega) (by omega)
  refine dSeq_mk ?_
  walk_at "dl"
  refine ⟨MulOk.l (by omega) (by omega), ?_⟩
  refine dSeq_mk ?_
  refine ⟨fun k δ G' => ∃ (ts : List Int) (l : Int) (s6 s7 s8 : Option D), gu G a (.lst (ts.map D.int)) = G' ∧ ts.length = n ∧ (∀ t ∈ ts, 0 ≤ t ∧ t ≤ b) ∧ 0 ≤ l ∧ ts.sum + l = (m : Int) * b ∧ l.toNat = k ∧ δ = [some (.ref h), some (.int (n : Nat)), some (.int (m : Nat)), some (.int b), some (.ref a), some (.int l), s6, s7, s8], ⟨_, List.replicate n 0, (m : Int) * b, none, none, none, by rw [Int.toNat_natCast], List.length_replicate, fun t ht => ?_, hmb0, ?_, rfl, rfl⟩, ?_⟩
  · rw [(List.mem_replicate.mp ht).2]
    omega
  · rw [show (List.replicate n (0 : Int)).sum = 0 by simp]
    omega
  rintro k δ G' ⟨ts, l, s6, s7, s8, rfl, hln, htb, l0, hsum, hk, rfl⟩
  have hs0 : 0 ≤ ts.sum := by
    have := sum_lt (b := 0) fun t ht => (htb t ht).1
    omega
  have hga : gu G a (.lst (ts.map D.int)) a = some (.lst (ts.map D.int)) := gu_same
  walk_at "dl"
  cases hl : decide (0 < l) with
  | false =>
    have hl := of_decide_eq_false hl
    walk_at "dl"
    refine ⟨by decide, Rt.less (hle _) (q (b, ts) ⟨b1, b2, hln, htb, ?_⟩)⟩
    show ts.sum = (m : Int) * b
    omega
  | true =>
    have hl := of_decide_eq_true hl
    walk_at "dl"
    refine dSeq_mk ?_
    walk_at "dl"
    refine ⟨hha _, by omega, by omega, fun p p0 p1 => ⟨hha _, by omega, by omega, fun d d0 d1 => ?_⟩⟩
    refine dSeq_mk ?_
    walk_at "dl"
    obtain ⟨p, rfl⟩ : ∃ i : Nat, p = (i : Int) := ⟨p.toNat, by omega⟩
    have hp : p < ts.length := by omega
    have hx0 := htb _ (getD_memI hp)
    rw [got_nat hp]
    walk_at "dl"
    refine ⟨fun δ G' => ∃ (i : Nat) (x : Int) (s8 : Option D), gu G a (.lst (ts.map D.int)) = G' ∧ i < n ∧ 0 < x ∧ x ≤ l ∧ ts.getD i 0 + x ≤ b ∧ δ = [some (.ref h), some (.int (n : Nat)), some (.int (m : Nat)), some (.int b), some (.ref a), some (.int l), some (.int (i : Nat)), some (.int x), s8], ?_, ?_⟩
    · walk_at "dl"
      cases hz : decide (min (1 + d) (b - ts.getD p 0) = 0) with
      | false =>
        have hz := of_decide_eq_false hz
        walk_at "dl"
        exact ⟨p, min (1 + d) (b - ts.getD p 0), _, by omega, by omega, by omega, by omega, rfl⟩
      | true =>
        refine dSeq_mk ?_
        walk_at "dl"
        refine ⟨by omega, by omega, ?_⟩
        rw [Int.toNat_natCast]
        refine lc_filt (List.range n) (fun i : Nat => .int (0 + (i : Nat))) (fun i => .int (i : Nat)) (fun i => decide (ts.getD i 0 < b)) (by unfold upD; rfl) (Nat.le_trans (by rw [List.length_range]; omega : _ ≤ 12) (by decide)) (fun _ _ _ => trivial) (fun i hi p2 zs M Q3 hp2 km kt => ?_) ?_
        · have hi := List.mem_range.mp hi
          have hap : a ≠ p2 := fun z => by rw [← z, gu_same] at hp2; cases hp2
          rw [Int.zero_add]
          walk_at "dl"
          rw [w_ix_ref (show gu (gu G a (.lst (ts.map D.int))) p2 (.lst zs) a = some (.lst (ts.map D.int)) by rw [gu_ne hap]; exact hga), got_nat (by omega)]
          walk_at "dl"
          cases hc : decide (ts.getD i 0 < b) with
          | true => exact kt hc
          | false => exact km hc
        · have hne : (List.range n).filter (fun i => decide (ts.getD i 0 < b)) ≠ [] := fun z => by
            have h1 := sum_lt (ts := ts) (b := b) fun t ht => by
              obtain ⟨i, hi, rfl⟩ := List.getElem_of_mem ht
              have := List.filter_eq_nil_iff.mp z i (List.mem_range.mpr (by omega))
              simp only [decide_eq_true_eq] at this
              rw [List.getD_eq_getElem?_getD, List.getElem?_eq_getElem hi] at this
              exact Int.not_lt.mp this
            rw [hln] at h1
            omega
          cases hf : (List.range n).filter (fun i => decide (ts.getD i 0 < b)) with
          | nil => exact absurd hf hne
          | cons i r =>
            have him : i ∈ (List.range n).filter (fun i => decide (ts.getD i 0 < b)) := by rw [hf]; exact List.mem_cons_self
            rw [List.mem_filter] at him
            have hi := List.mem_range.mp him.1
            have hib := of_decide_eq_true him.2
            walk_at "dl"
            rw [got_nat (by omega)]
            walk_at "dl"
            exact ⟨i, min l (b - ts.getD i 0), _, by omega, by omega, by omega, by omega, rfl⟩
    · rintro δ G' ⟨i, x, s8, rfl, hi, x0, x1, xb, rfl⟩
      walk_at "dl"
      rw [got_nat (by omega)]
      walk_at "dl"
      refine ⟨by decide, setI_lt (by omega) (by rw [List.length_map]; omega) ?_⟩
      rw [map_set_int, Int.toNat_natCast]
      have hi0 := htb _ (getD_memI (l := ts) (i := i) (by omega))
      refine ⟨(l - x).toNat, by omega, ts.set i (ts.getD i 0 + x), l - x, _, _, _, rfl, by rw [List.length_set]; exact hln, fun t ht => ?_, by omega, ?_, rfl, rfl⟩
      · rcases List.mem_or_eq_of_mem_set ht with ht | ht
        · exact htb t ht
        · omega
      · rw [sum_setI _ _ _ (by omega)]
        omega
abbrev sp_L_row : DSp := fun ds G Q _ => ∃ (h : Addr) (n m k : Nat), ds = [.ref h, .int (n : Nat), .int (m : Nat), .int (k : Nat)] ∧ isHand G h ∧ (1 ≤ n ∧ n ≤ 12) ∧ (1 ≤ m ∧ m ≤ n) ∧ k ≤ 1000 ∧ ∀ r : List (Int × List Int), (∀ s ∈ r, ShT n m s) → r.length ≤ k → Q (.tup (r.map shD)) G
theorem rel_sh {n m : Nat} : ∀ {its ys : List D}, Fa2 (fun _ y => ∃ s, ShT n m s ∧ y = shD s) its ys → ∃ r : List (Int × List Int), ys = r.map shD ∧ (∀ s ∈ r, ShT n m s) ∧ r.length = its.length
  | [], _, .nil => ⟨[], rfl, (fun _ h => nomatch h), rfl⟩
  | _ :: _, _, .cons a t => by
    obtain ⟨s, hs, rfl⟩ := a
    obtain ⟨r, rfl, h1, h2⟩ := rel_sh t
    refine ⟨s :: r, rfl, fun z hz => ?_, by rw [List.length_cons, List.length_cons, h2]⟩
    rcases List.mem_cons.mp hz with rfl | hz
    · exact hs
    · exact h1 z hz
def t_L_row : DS :=
  (dRet (dCB dTupleOf (aCons (dLc false (dRange1 (aCons (dCall sp_L_draw X0 (aCons (dVar 0) (aCons (dOp (dAdd false) (dVar 3) (dC (.int 1))) aNil))) aNil)) (gN 4) dYes (dCall sp_L_shares X0 (aCons (dVar 0) (aCons (dVar 1) (aCons (dVar 2) aNil)))) [4]) aNil)))
theorem len_L_row : ∀ ds G Q E, sp_L_row ds G Q E → ds.length = ["_law_hand_here", "_law_n", "_law_m", "_law_most"].length := by
  intro ds G Q E h
  first | (obtain ⟨rfl, _⟩ := h; rfl) | (obtain ⟨_, rfl, _⟩ := h; rfl) | (obtain ⟨_, _, rfl, _⟩ := h; rfl) | (obtain ⟨_, _, _, rfl, _⟩ := h; rfl) | (obtain ⟨_, _, _, _, rfl, _⟩ := h; rfl) | (obtain ⟨_, _, _, _, _, rfl, _⟩ := h; rfl) | (obtain ⟨_, _, _, _, _, _, rfl, _⟩ := h; rfl) | (obtain ⟨_, _, _, _, _, _, _, rfl, _⟩ := h; rfl) | (obtain ⟨_, _, _, _, _, _, _, _, rfl, _⟩ := h; rfl) | (obtain ⟨_, _, _, _, _, _, _, _, _, rfl, _⟩ := h; rfl) | (obtain ⟨_, _, _, _, _, _, _, _, _, _, rfl, _⟩ := h; rfl) | (obtain ⟨_, _, _, _, _, _, _, _, _, _, _, rfl, _⟩ := h; rfl) | (obtain ⟨_, _, _, _, _, _, _, _, _, _, _, _, rfl, _⟩ := h; rfl) | (obtain ⟨_, _, _, _, _, _, _, _, _, _, _, _, _, rfl, _⟩ := h; rfl) | (obtain ⟨_, _, _, _, _, _, _, _, _, _, _, _, _, _, rfl, _⟩ := h; rfl) | (obtain ⟨_, _, _, _, _, _, _, _, _, _, _, _, _, _, _, rfl, _⟩ := h; rfl)
theorem rd_L_row : ∀ ds G Q E', sp_L_row ds G Q E' → t_L_row (endD Q) (startD ["_law_hand_here", "_law_n", "_law_m", "_law_most", "_law_beat"] ds) G := by
  rintro ds G Q E' ⟨h, n, m, k, rfl, hh, hn, hm, hk, q⟩
  unfold t_L_row
  walk_at "dl"
  refine ⟨hh, by omega, by omega, fun d d0 d1 => ?_⟩
  refine ⟨by omega, by omega, ?_⟩
  refine lc_rel (fun _ y => ∃ s, ShT n m s ∧ y = shD s) (Nat.le_trans (by unfold upD; rw [List.length_map, List.length_range]; omega : _ ≤ 1000) (by decide)) (fun _ _ _ => trivial) (fun x _ p ys Q' hp k => ?_) (fun ys hys => ?_)
  · walk_at "dl"
    exact ⟨h, n, m, rfl, hh.new hp, hn, hm, fun s hs => k _ ⟨s, hs, rfl⟩⟩
  · obtain ⟨r, rfl, h1, h2⟩ := rel_sh hys
    walk_at "dl"
    exact Rt.same (q r h1 (by rw [h2]; unfold upD; rw [List.length_map, List.length_range]; omega))
theorem compL_sub {α : Type} {g : DG} {tt : DT} {te : DE} {S : Gp → Prop} {p : Addr} {δ : Sl} {G : Gp} {Q : List D → Gp → Prop} (s f : α → D) (P : α → Bool) (hS : ∀ ys, S (gu G p (.lst ys))) : ∀ (l : List α) (acc : List D),
    (∀ x ∈ l, ∀ ys (M : Gp → Prop) (Q : DK), M (gu G p (.lst ys)) → (P x = true → Q (f x) (gu G p (.lst ys))) → g (s x) δ (gu G p (.lst ys)) fun δ2 G2 => tt δ2 G2 fun b G3 => if b = true then te δ2 G3 Q else M G3) → acc.length + l.length ≤ sizeLine →
    (∀ k : List α, k.Sublist (l.filter P) → Q (acc ++ k.map f) (gu G p (.lst (acc ++ k.map f)))) → compL g tt te S p δ (l.map s) acc (gu G p (.lst acc)) Q
  | [], acc, _, _, q => ⟨hS _, gu_same, by have := q [] (.refl _); rwa [List.map_nil, List.append_nil] at this⟩
  | x :: r, acc, h, hl, q => by
    refine ⟨hS _, gu_same, ?_⟩
    rw [List.length_cons] at hl
    exact h x List.mem_cons_self acc (fun G3 => compL g tt te S p δ (r.map s) acc G3 Q) (fun y G4 => G4 p = some (.lst acc) ∧ acc.length < sizeLine ∧ compL g tt te S p δ (r.map s) (acc ++ [y]) (gu G4 p (.lst (acc ++ [y]))) Q)
      (compL_sub s f P hS r acc (fun z hz => h z (List.mem_cons_of_mem _ hz)) (by omega) fun k hk => q k (hk.trans ((List.sublist_cons_self x r).filter P)))
      fun hP => ⟨gu_same, by omega, by
        rw [gu_gu]
        refine compL_sub s f P hS r (acc ++ [f x]) (fun z hz => h z (List.mem_cons_of_mem _ hz)) (by rw [List.length_append, List.length_singleton]; omega) fun k hk => ?_
        have := q (x :: k) (by rw [List.filter_cons, if_pos hP]; exact hk.cons₂ _)
        rw [List.append_assoc]
        exact this⟩
/-- a comprehension with a condition that may be either way: a part of the list, in its order -/
theorem lc_sub {α : Type} {g : DG} {tt : DT} {te : DE} {S : Gp → Prop} {δ : Sl} {G : Gp} {Q : DK} (l : List α) (s f : α → D) {its : List D} (e : its = l.map s) (hl : l.length ≤ sizeLine) (hS : ∀ p ys, G p = none → S (gu G p (.lst ys)))
    (P : α → Bool) (h : ∀ x ∈ l, ∀ p ys (M : Gp → Prop) (Q : DK), G p = none → M (gu G p (.lst ys)) → (P x = true → Q (f x) (gu G p (.lst ys))) → g (s x) δ (gu G p (.lst ys)) fun δ2 G2 => tt δ2 G2 fun b G3 => if b = true then te δ2 G3 Q else M G3)
    (q : ∀ k : List α, k.Sublist (l.filter P) → Q (.lst (k.map f)) G) : ∀ p, G p = none → compL g tt te S p δ its [] (gu G p (.lst [])) (endLc false Q p) := fun p hp => by
  subst e
  refine compL_sub s f P (fun ys => hS p ys hp) l [] (fun x hx ys M Q' m k => h x hx p ys M Q' hp m k) (by simpa using hl) fun k hk => ?_
  show Q (.lst ([] ++ k.map f)) (gd (gu G p _) p)
  rw [gd_gu hp, List.nil_append]
  exact q k hk
theorem upD_btD (n : Nat) : upD 0 n = (List.range n).map fun i : Nat => D.int (i : Nat) := by
  unfold upD
  apply List.map_congr_left
  intro i _
  rw [Int.zero_add]
theorem sub_range {n : Nat} {k : List Nat} (h : k.Sublist (List.range n)) : k.Pairwise (· < ·) ∧ ∀ p ∈ k, p < n := ⟨List.pairwise_lt_range.sublist h, fun p hp => List.mem_range.mp (h.subset hp)⟩
theorem upD_nat (a k : Nat) : upD (a : Nat) k = ((List.range k).map (a + ·)).map fun i : Nat => D.int (i : Nat) := by
  unfold upD
  rw [List.map_map]
  apply List.map_congr_left
  intro i _
  show D.int ((a : Nat) + (i : Nat)) = D.int ((a + i : Nat) : Int)
  rw [Int.natCast_add]
theorem sub_from {a k n : Nat} (h : a + k ≤ n) {l : List Nat} (hl : l.Sublist ((List.range k).map (a + ·))) : l.Pairwise (· < ·) ∧ ∀ p ∈ l, p < n := by
  refine ⟨List.Pairwise.sublist hl ?_, fun p hp => ?_⟩
  · rw [List.pairwise_map]
    exact List.pairwise_lt_range.imp fun h => by omega
  · obtain ⟨i, hi, rfl⟩ := List.mem_map.mp (hl.subset hp)
    have := List.mem_range.mp hi
    omega
/-- an ascending lot of people -/
structure LotA (l : List Nat) : Prop where
  asc : l.Pairwise (· < ·)
  bd : ∀ p ∈ l, p < 12
theorem LotA.len {l : List Nat} (h : LotA l) : l.length ≤ 12 := by
  have key : ∀ (l : List Nat) (a : Nat), l.Pairwise (· < ·) → (∀ p ∈ l, a ≤ p ∧ p < 12) → l.length ≤ 12 - a := by
    intro l
    induction l with
    | nil => intro a _ _; simp
    | cons x l ih =>
      intro a hp hb
      rw [List.pairwise_cons] at hp
      have := ih (x + 1) hp.2 fun p hm => ⟨hp.1 p hm, (hb p (List.mem_cons_of_mem _ hm)).2⟩
      have := hb x List.mem_cons_self
      rw [List.length_cons]
      omega
  exact key l 0 h.asc fun p hp => ⟨Nat.zero_le _, h.bd p hp⟩
theorem LotA.l12 {l : List Nat} (h : LotA l) : Lot12 (l.map Int.ofNat) := ⟨by rw [List.length_map]; exact h.len, fun i hi => by
  obtain ⟨p, hp, rfl⟩ := List.mem_map.mp hi
  have := h.bd p hp
  simp
  omega⟩
theorem ascD_nat : ∀ {l : List Nat}, l.Pairwise (· < ·) → ascD ((l.map Int.ofNat).map D.int) = true
  | [], _ => rfl
  | [_], _ => rfl
  | x :: y :: r, h => by
    rw [List.pairwise_cons] at h
    show (decide ((x : Int) < (y : Int)) && ascD (((y :: r).map Int.ofNat).map D.int)) = true
    rw [ascD_nat h.2, decide_eq_true (by have := h.1 y List.mem_cons_self; omega)]
    rfl
theorem LotA.lotB {l : List Nat} (h : LotA l) : lotB 12 (lotI (l.map Int.ofNat)) = true := by
  show ((((l.map Int.ofNat).map D.int).all fun x => isW x 0 (12 - 1)) && ascD _) = true
  rw [ascD_nat h.asc, Bool.and_true, List.all_map, List.all_map, List.all_eq_true]
  intro p hp
  have := h.bd p hp
  show isW (.int (p : Nat)) 0 (12 - 1) = true
  rw [isW_int, decide_eq_true (by omega), decide_eq_true (by omega)]
  rfl
abbrev sp_L_lots : DSp := fun ds G Q _ => ∃ (h : Addr) (k : Nat), ds = [.ref h, .int (k : Nat)] ∧ isHand G h ∧ k ≤ 1000 ∧ ∀ ls : List (List Nat), (∀ l ∈ ls, LotA l) → ls.length ≤ k → Q (.tup ((ls.map fun l => l.map Int.ofNat).map lotI)) G
def t_L_lots : DS :=
  (dSeq (dAsg 2 (dLst true aNil))
  (dSeq (dFor (dRange1 (aCons (dCall sp_L_draw X0 (aCons (dVar 0) (aCons (dOp (dAdd false) (dVar 1) (dC (.int 1))) aNil))) aNil)) (gN 3) (dSeq (dAsg 4 (dCall sp_L_any X0 (aCons (dVar 0) (aCons (dLst false (aCons (dC (.int 2)) (aCons (dC (.int 3)) (aCons (dC (.int 12)) aNil)))) aNil))))
  (dDrop (dMeL dAppend (dVar 2) (aCons (dCB dTupleOf (aCons (dLc false (dRange1 (aCons (dC (.int 12)) aNil)) (gN 5) (dB (dOp dEq (dCall sp_L_draw X0 (aCons (dVar 0) (aCons (dVar 4) aNil))) (dC (.int 0)))) (dVar 5) [5]) aNil)) aNil)))))
  (dRet (dCB dTupleOf (aCons (dVar 2) aNil)))))
theorem len_L_lots : ∀ ds G Q E, sp_L_lots ds G Q E → ds.length = ["_law_hand_here", "_law_most"].length := by
  intro ds G Q E h
  first | (obtain ⟨rfl, _⟩ := h; rfl) | (obtain ⟨_, rfl, _⟩ := h; rfl) | (obtain ⟨_, _, rfl, _⟩ := h; rfl) | (obtain ⟨_, _, _, rfl, _⟩ := h; rfl) | (obtain ⟨_, _, _, _, rfl, _⟩ := h; rfl) | (obtain ⟨_, _, _, _, _, rfl, _⟩ := h; rfl) | (obtain ⟨_, _, _, _, _, _, rfl, _⟩ := h; rfl) | (obtain ⟨_, _, _, _, _, _, _, rfl, _⟩ := h; rfl) | (obtain ⟨_, _, _, _, _, _, _, _, rfl, _⟩ := h; rfl) | (obtain ⟨_, _, _, _, _, _, _, _, _, rfl, _⟩ := h; rfl) | (obtain ⟨_, _, _, _, _, _, _, _, _, _, rfl, _⟩ := h; rfl) | (obtain ⟨_, _, _, _, _, _, _, _, _, _, _, rfl, _⟩ := h; rfl) | (obtain ⟨_, _, _, _, _, _, _, _, _, _, _, _, rfl, _⟩ := h; rfl) | (obtain ⟨_, _, _, _, _, _, _, _, _, _, _, _, _, rfl, _⟩ := h; rfl) | (obtain ⟨_, _, _, _, _, _, _, _, _, _, _, _, _, _, rfl, _⟩ := h; rfl) | (obtain ⟨_, _, _, _, _, _, _, _, _, _, _, _, _, _, _, rfl, _⟩ := h; rfl)
theorem rd_L_lots : ∀ ds G Q E', sp_L_lots ds G Q E' → t_L_lots (endD Q) (startD ["_law_hand_here", "_law_most", "_law_found", "_law_beat", "_law_rare", "_law_one"] ds) G := by
  rintro ds G Q E' ⟨h, k, rfl, hh, hk, q⟩
  unfold t_L_lots
  refine dSeq_mk ?_
  walk_at "dl"
  refine ⟨by decide, fun c hc => ?_⟩
  have hhc : ∀ zs, isHand (gu G c (.lst zs)) h := fun zs => hh.new hc
  refine dSeq_mk ?_
  walk_at "dl"
  refine ⟨hhc _, by omega, by omega, fun d d0 d1 => ?_⟩
  refine ⟨by omega, by omega, ?_⟩
  refine forL_rng (n := d.toNat) (fun kk δ G' => ∃ (ls : List (List Nat)) (s3 s4 s5 : Option D), ls.length = kk ∧ (∀ l ∈ ls, LotA l) ∧ gu G c (.lst ((ls.map fun l => l.map Int.ofNat).map lotI)) = G' ∧ δ = [some (.ref h), some (.int (k : Nat)), some (.ref c), s3, s4, s5]) ?_ ?_ _ _ ⟨[], _, _, _, rfl, (fun _ h => nomatch h), rfl, rfl⟩
  · rintro j δ G' N hj ⟨ls, s3, s4, s5, hln, hls, rfl, rfl⟩ kN
    have hgc : gu G c (.lst ((ls.map fun l => l.map Int.ofNat).map lotI)) c = some (.lst ((ls.map fun l => l.map Int.ofNat).map lotI)) := gu_same
    walk_at "dl"
    refine dSeq_mk ?_
    walk_at "dl"
    refine ⟨by decide, _, _, _, rfl, hhc _, rfl, by simp, fun y hy => ?_⟩
    obtain ⟨b, rfl, b1, b2⟩ : ∃ p : Int, y = .int p ∧ 2 ≤ p ∧ p ≤ 12 := by
      revert y
      walk_at "all"
      repeat' apply And.intro
      all_goals exact ⟨_, rfl, by omega, by omega⟩
    clear hy
    walk_at "dl"
    refine ⟨by decide, by decide, ?_⟩
    refine lc_sub (List.range 12) (fun i : Nat => .int (i : Nat)) (fun i => .int (i : Nat)) (upD_btD 12) (by rw [List.length_range]; decide) (fun _ _ _ => trivial) (fun _ => true) (fun i hi p2 zs M Q3 hp2 km kt => ?_) (fun l hl => ?_)
    · walk_at "dl"
      refine ⟨(hhc _).new hp2, by omega, by omega, fun e _ _ => ?_⟩
      cases decide (e = 0) with
      | true => exact kt rfl
      | false => exact km
    · walk_at "dl"
      have hl2 : l.Sublist (List.range 12) := hl.trans List.filter_sublist
      obtain ⟨a1, a2⟩ := sub_range hl2
      rw [List.length_map, List.length_map]
      refine ⟨Nat.lt_of_lt_of_le (by omega : _ < 10000) (by decide), ?_⟩
      refine kN _ _ ⟨ls ++ [l], _, _, _, by rw [List.length_append, hln]; rfl, fun z hz => ?_, ?_, rfl⟩
      · rcases List.mem_append.mp hz with hz | hz
        · exact hls z hz
        · rw [List.mem_singleton.mp hz]
          exact ⟨a1, a2⟩
      · rw [List.map_append, List.map_append]
        congr 3
        show [lotI (l.map Int.ofNat)] = _
        show [D.tup ((l.map Int.ofNat).map D.int)] = [D.tup (l.map fun i => .int (i : Nat))]
        rw [List.map_map]
        rfl
  · rintro δ G' ⟨ls, s3, s4, s5, hln, hls, rfl, rfl⟩
    walk_at "dl"
    exact Rt.less (GLe.new hc) (q ls hls (by omega))
/-- a hand that draws, from the script -/
abbrev sp_L_hand : DSp := fun ds G Q _ => ∃ ns : List Int, ds = [.scr (ns.map D.int)] ∧ ns.length ≤ 63 ∧ (∀ a, G a = none → Q (.ref a) (gu G a (.abl Hand)))
def t_L_hand : DS :=
  (dSeq (dAsg 1 (dLc false (dSeqI (dSl false (dVar 0) oNone (oSome (dC (.int 63))))) (gN 2) dYes (dCB dAbs (aCons (dCB dInt (aCons (dVar 2) aNil)) aNil)) [2]))
  (dRet (dLst true (aCons (dVar 1) (aCons (dC (.int 0)) (aCons (dC (.int 0)) (aCons (dOp (dAdd false) (dC (.int 1)) (dCB dLen (aCons (dVar 1) aNil))) (aCons (dC (.int 0)) aNil))))))))
theorem len_L_hand : ∀ ds G Q E, sp_L_hand ds G Q E → ds.length = ["_law_script"].length := by
  intro ds G Q E h
  first | (obtain ⟨rfl, _⟩ := h; rfl) | (obtain ⟨_, rfl, _⟩ := h; rfl) | (obtain ⟨_, _, rfl, _⟩ := h; rfl) | (obtain ⟨_, _, _, rfl, _⟩ := h; rfl) | (obtain ⟨_, _, _, _, rfl, _⟩ := h; rfl) | (obtain ⟨_, _, _, _, _, rfl, _⟩ := h; rfl) | (obtain ⟨_, _, _, _, _, _, rfl, _⟩ := h; rfl) | (obtain ⟨_, _, _, _, _, _, _, rfl, _⟩ := h; rfl) | (obtain ⟨_, _, _, _, _, _, _, _, rfl, _⟩ := h; rfl) | (obtain ⟨_, _, _, _, _, _, _, _, _, rfl, _⟩ := h; rfl) | (obtain ⟨_, _, _, _, _, _, _, _, _, _, rfl, _⟩ := h; rfl) | (obtain ⟨_, _, _, _, _, _, _, _, _, _, _, rfl, _⟩ := h; rfl) | (obtain ⟨_, _, _, _, _, _, _, _, _, _, _, _, rfl, _⟩ := h; rfl) | (obtain ⟨_, _, _, _, _, _, _, _, _, _, _, _, _, rfl, _⟩ := h; rfl) | (obtain ⟨_, _, _, _, _, _, _, _, _, _, _, _, _, _, rfl, _⟩ := h; rfl) | (obtain ⟨_, _, _, _, _, _, _, _, _, _, _, _, _, _, _, rfl, _⟩ := h; rfl)
theorem rd_L_hand : ∀ ds G Q E', sp_L_hand ds G Q E' → t_L_hand (endD Q) (startD ["_law_script", "_law_cells", "_law_cell"] ds) G := by
  rintro ds G Q E' ⟨ns, rfl, hn, q⟩
  unfold t_L_hand
  refine dSeq_mk ?_
  walk_at "dl"
  obtain ⟨ms, e, hm⟩ := cut_ints (ns := ns) (lo := none) (hi := some 63)
  rw [e]
  refine lc_map (fun x => .int (if iv x < 0 then -iv x else iv x)) (Nat.le_trans (by rw [List.length_map]; omega : _ ≤ 63) (by decide)) (fun _ _ _ => trivial) (fun x hx p ys Q' hp' k => ?_) ?_
  · obtain ⟨i, _, rfl⟩ := List.mem_map.mp hx
    walk_at "dl"
    exact k
  · walk_at "dl"
    refine ⟨by decide, fun a ha => ?_⟩
    have e2 : (List.map (fun x => D.int (if iv x < 0 then -iv x else iv x)) (List.map D.int ms)) = (ms.map fun i => if i < 0 then -i else i).map D.int := by
      rw [List.map_map, List.map_map]
      rfl
    rw [e2]
    exact Rt.abl (P := Hand) gu_same ⟨_, 0, 0, _, 0, rfl, by decide⟩ (by rw [gu_gu]; exact q a ha)
theorem chk2_yes {n m : Nat} {E : DX} {G : Gp} {P : Int → Int → Prop} (hn : 1 ≤ n ∧ n ≤ 12) (hm : 1 ≤ m ∧ m ≤ n) (h : P (n : Nat) (m : Nat)) : chk2 (.int (n : Nat)) (.int (m : Nat)) E G P := by
  refine ⟨fun hw => ?_, fun i hi _ _ => ?_⟩
  · rw [isW_int, decide_eq_true (by omega : (1 : Int) ≤ (n : Nat)), decide_eq_true (by omega : ((n : Nat) : Int) ≤ 12)] at hw
    cases hw
  · injection hi with hi
    subst hi
    refine ⟨fun hw => ?_, fun j hj _ _ => ?_⟩
    · rw [isW_int, decide_eq_true (by omega : (1 : Int) ≤ (m : Nat)), decide_eq_true (by omega : ((m : Nat) : Int) ≤ (n : Nat))] at hw
      cases hw
    · injection hj with hj
      subst hj
      exact h
open TL
/-! a text that is told, read again -/
theorem joinL_end (S : List Nat) : ∀ ps : List (List Nat), joinL S (ps ++ [[]]) = (ps.map (· ++ S)).flatten
  | [] => rfl
  | [p] => by
    show p ++ (S ++ []) = (p ++ S) ++ []
    simp
  | p :: q :: r => by
    show p ++ (S ++ joinL S (q :: r ++ [[]])) = (p ++ S) ++ ((q :: r).map (· ++ S)).flatten
    rw [joinL_end S (q :: r)]
    simp
theorem join_lines (ls : List Str) : Txt.join Str.empty (ls.map (· ++ sLine)) = Txt.join sLine (ls ++ [Str.empty]) := by
  refine ext_tl ?_
  rw [tl_joinT, tl_joinT, show tl Str.empty = [] from rfl, joinL_nil, List.map_append, show [Str.empty].map tl = [[]] from rfl, joinL_end, List.map_map, List.map_map]
  congr 1
  exact List.map_congr_left fun x _ => tl_append x sLine
theorem split_lines {ls : List Str} (h : ∀ p ∈ ls, 10 ∉ tl p) : Txt.split (Txt.join Str.empty (ls.map (· ++ sLine))) sLine = ls ++ [Str.empty] := by
  rw [join_lines]
  refine split_join (s := 10) (S := []) (by decide +kernel) (by decide +kernel) (by simp) fun p hp => ?_
  rcases List.mem_append.mp hp with hp | hp
  · exact h p hp
  · rw [List.mem_singleton.mp hp]
    decide +kernel
theorem join3 (a b c : Str) : a ++ sBlank ++ b ++ sBlank ++ c = Txt.join sBlank [a, b, c] := by
  refine ext_tl ?_
  rw [tl_joinT, tl_append, tl_append, tl_append, tl_append]
  show _ = tl a ++ (tl sBlank ++ (tl b ++ (tl sBlank ++ tl c)))
  simp
theorem split3 {a b c : Str} (ha : 32 ∉ tl a) (hb : 32 ∉ tl b) (hc : 32 ∉ tl c) : Txt.split (Txt.join sBlank [a, b, c]) sBlank = [a, b, c] :=
  split_join (s := 32) (S := []) (by decide +kernel) (by decide +kernel) (by simp) fun p hp => by
    simp only [List.mem_cons, List.not_mem_nil, or_false] at hp
    rcases hp with rfl | rfl | rfl <;> assumption
theorem headT_join (n m : Int) : headT n m = Txt.join sBlank [sRow, nT n, nT m] := by
  rw [← join3]
  unfold headT
  rw [show Str.ofString "row " = sRow ++ sBlank by decide +kernel]
theorem shT_join (s : Int × List Int) : shT s = Txt.join sBlank [sShares, nT s.1, nsT s.2] := by
  rw [← join3]
  unfold shT
  rw [show Str.ofString "shares " = sShares ++ sBlank by decide +kernel]
theorem headIn_T {n m : Nat} (hn : n < 10 ^ 9) (hm : m < 10 ^ 9) : headIn (headT (n : Nat) (m : Nat)) = some (n, m) := by
  unfold headIn
  rw [headT_join, split3 (by decide +kernel) (free_nT (.inl (by decide))) (free_nT (.inl (by decide))), headInL_3 rfl, numIn_nT hn, numIn_nT hm]
theorem sharesIn_T {b : Nat} {ts : List Nat} (hb : b < 10 ^ 9) (hne : ts ≠ []) (ht : ∀ t ∈ ts, t < 10 ^ 9) : sharesIn (shT ((b : Nat), ts.map Int.ofNat)) = some (b, ts) := by
  unfold sharesIn
  rw [shT_join, split3 (by decide +kernel) (free_nT (.inl (by decide))) (nsT_free ⟨.inl (by decide), by decide⟩), sharesInL_3 rfl, numIn_nT hb, nbsIn_nsT hne ht]
/-- shares, as natural numbers -/
def shN (s : Int × List Int) : Nat × List Nat := (s.1.toNat, s.2.map Int.toNat)
theorem shN_back {n m : Nat} {s : Int × List Int} (h : ShT n m s) : shP2 (shN s) = s := by
  obtain ⟨b, ts⟩ := s
  have h1 := h.b1
  unfold shN shP2
  simp only
  have e1 : ((b.toNat : Nat) : Int) = b := by
    have : 1 ≤ b := h1
    omega
  have e2 : (ts.map Int.toNat).map Int.ofNat = ts := by
    rw [List.map_map]
    refine (List.map_congr_left fun t ht => ?_).trans (List.map_id _)
    have := (h.tp t ht).1
    show ((t.toNat : Nat) : Int) = t
    omega
  rw [e1, e2]
theorem shIn_ok {n m : Nat} {s : Int × List Int} (hn : 1 ≤ n) (h : ShT n m s) : sharesIn (shT s) = some (shN s) := by
  have e : shT s = shT (((shN s).1 : Nat), (shN s).2.map Int.ofNat) := by
    conv => lhs; rw [← shN_back h]
    rfl
  rw [e]
  have b1 := h.b1
  have b2 := h.b2
  refine sharesIn_T (by unfold shN; simp only; omega) (fun z => ?_) fun t ht => ?_
  · have := congrArg List.length z
    unfold shN at this
    simp only [List.length_map, List.length_nil] at this
    have := h.ln
    omega
  · unfold shN at ht
    obtain ⟨i, hi, rfl⟩ := List.mem_map.mp ht
    have := h.tp i hi
    omega
theorem shT_free {n m : Nat} {s : Int × List Int} (h : ShT n m s) : 10 ∉ tl (shT s) := by
  have e : shT s = shT (((shN s).1 : Nat), (shN s).2.map Int.ofNat) := by
    conv => lhs; rw [← shN_back h]
    rfl
  rw [e]
  unfold shT
  rw [tl_append, tl_append, tl_append]
  simp only [List.mem_append, not_or]
  exact ⟨⟨⟨by decide +kernel, free_nT (.inl (by decide))⟩, by decide +kernel⟩, nsT_free ⟨.inl (by decide), by decide⟩⟩
theorem headT_free (n m : Nat) : 10 ∉ tl (headT (n : Nat) (m : Nat)) := by
  unfold headT
  rw [tl_append, tl_append, tl_append]
  simp only [List.mem_append, not_or]
  exact ⟨⟨⟨by decide +kernel, free_nT (.inl (by decide))⟩, by decide +kernel⟩, free_nT (.inl (by decide))⟩
theorem rowT_split {n m : Nat} {r : List (Int × List Int)} (h : ∀ s ∈ r, ShT n m s) : Txt.split (rowT (n : Nat) (m : Nat) r) sLine = (headT (n : Nat) (m : Nat) :: r.map shT) ++ [Str.empty] := by
  unfold rowT
  refine split_lines fun p hp => ?_
  rcases List.mem_cons.mp hp with rfl | hp
  · exact headT_free n m
  · obtain ⟨s, hs, rfl⟩ := List.mem_map.mp hp
    exact shT_free (h s hs)
/-- a lot's line -/
def lotL (l : List Nat) : Str := if 0 < l.length then nsT (l.map Int.ofNat) else sDash
theorem lotT_L (l : List Nat) : lotT (l.map Int.ofNat) = lotL l ++ sLine := by
  unfold lotT lotL
  rw [List.length_map]
theorem lotIn_L {l : List Nat} (h : ∀ p ∈ l, p < 10 ^ 9) : lotIn (lotL l) = some l := by
  unfold lotL
  by_cases z : 0 < l.length
  · rw [if_pos z]
    unfold lotIn
    rw [if_neg, nbsIn_nsT (List.length_pos_iff.mp z) h]
    intro e
    have h1 : 45 ∉ tl (nsT (l.map Int.ofNat)) := nsT_free ⟨.inl (by decide), by decide⟩
    rw [e] at h1
    exact h1 (by decide +kernel)
  · rw [if_neg z, List.length_eq_zero_iff.mp (by omega : l.length = 0)]
    unfold lotIn
    rw [if_pos rfl]
theorem lotsT_split {ls : List (List Nat)} : Txt.split (lotsT (ls.map fun l => l.map Int.ofNat)) sLine = ls.map lotL ++ [Str.empty] := by
  have e : (ls.map fun l => l.map Int.ofNat).map lotT = (ls.map lotL).map (· ++ sLine) := by
    rw [List.map_map, List.map_map]
    exact List.map_congr_left fun l _ => lotT_L l
  unfold lotsT
  rw [e]
  refine split_lines fun p hp => ?_
  obtain ⟨l, _, rfl⟩ := List.mem_map.mp hp
  unfold lotL
  split
  · exact nsT_free ⟨.inl (by decide), by decide⟩
  · decide +kernel
open TL
theorem repr_at {x : D} {k W : Nat} (h : Rs k W x) (hk : k ≤ 100) (hW : W ≤ sizeLine) (G : Gp) : ∃ s : Str, ∀ Q : DK, Q (.str s) G → dRepr [x] G Q := by
  obtain ⟨p, e, r⟩ := rs_py (G := G) h
  refine ⟨p.shown, fun Q q => ?_⟩
  show (match pyOf x G with | some p => p.showable = true ∧ p.shown.length ≤ sizeLine ∧ p.depth ≤ 100 ∧ Q (.str p.shown) G | none => False)
  rw [e]
  exact ⟨r.sh, Nat.le_trans r.ln hW, Nat.le_trans r.dp hk, q⟩
theorem rs_lotI {l : List Int} (h : Lot12 l) : Rs 1 200 (lotI l) := (rs_tup (k := 0) (W := 13) fun x hx => by
  obtain ⟨i, hi, rfl⟩ := List.mem_map.mp hx
  exact rs_int (by have := h.bd i hi; omega)).mono (Nat.le_refl _) (by rw [List.length_map]; have := h.ln; omega)
theorem rs_lots {ls : List (List Int)} (h : ∀ l ∈ ls, Lot12 l) (hl : ls.length ≤ 400) : Rs 2 90000 (.tup (ls.map lotI)) := (rs_tup (k := 1) (W := 200) fun x hx => by
  obtain ⟨l, hl, rfl⟩ := List.mem_map.mp hx
  exact rs_lotI (h l hl)).mono (Nat.le_refl _) (by rw [List.length_map]; omega)
theorem rs_shT {n m : Nat} {s : Int × List Int} (hn : n ≤ 12) (h : ShT n m s) : Rs 2 500 (shD s) := (rs_tup (k := 1) (W := 200) (xs := [.int s.1, .tup (s.2.map D.int)]) fun x hx => by
  have b1 := h.b1
  have b2 := h.b2
  simp only [List.mem_cons, List.not_mem_nil, or_false] at hx
  rcases hx with rfl | rfl
  · exact (rs_int (by omega)).mono (by decide) (by decide)
  · refine (rs_tup (k := 0) (W := 13) fun x hx => ?_).mono (Nat.le_refl _) (by rw [List.length_map, h.ln]; omega)
    obtain ⟨i, hi, rfl⟩ := List.mem_map.mp hx
    exact rs_int (by have := h.tp i hi; omega)).mono (Nat.le_refl _) (by simp)
theorem rs_nmr {n m : Nat} {r : List (Int × List Int)} (hn : n ≤ 12) (hm : m ≤ 12) (h : ∀ s ∈ r, ShT n m s) (hl : r.length ≤ 400) : Rs 4 1000000 (.tup [.int (n : Nat), .int (m : Nat), .tup (r.map shD)]) := (rs_tup (k := 3) (W := 300000) fun x hx => by
  simp only [List.mem_cons, List.not_mem_nil, or_false] at hx
  rcases hx with rfl | rfl | rfl
  · exact (rs_int (by omega)).mono (by decide) (by decide)
  · exact (rs_int (by omega)).mono (by decide) (by decide)
  · refine (rs_tup (k := 2) (W := 500) fun x hx => ?_).mono (Nat.le_refl _) (by rw [List.length_map]; omega)
    obtain ⟨s, hs, rfl⟩ := List.mem_map.mp hx
    exact rs_shT hn (h s hs)).mono (Nat.le_refl _) (by simp)
theorem frB_mk {a b : Int} (hb : 0 < b) (ha : a.natAbs < 2 ^ 1000) (hb2 : b.natAbs < 2 ^ 1000) : FrB (mkRat a b.toNat) := by
  have e := low_fr (a := a) hb
  have e : D.tup [.int (mkRat a b.toNat).num, .int ((mkRat a b.toNat).den : Nat)] = .tup [.int (a / (Int.gcd a b : Nat)), .int (b / (Int.gcd a b : Nat))] := e
  simp only [D.tup.injEq, List.cons.injEq, D.int.injEq, and_true] at e
  refine ⟨?_, ?_⟩
  · rw [e.1]
    exact Nat.lt_of_le_of_lt (Int.natAbs_ediv_le_natAbs _ _) ha
  · have h := congrArg Int.natAbs e.2
    rw [Int.natAbs_natCast] at h
    rw [h]
    exact Nat.lt_of_le_of_lt (Int.natAbs_ediv_le_natAbs _ _) hb2
abbrev sp_law : DSp := fun ds G Q _ => ∃ ns : List Int, ds = [.scr (ns.map D.int)] ∧ ns.length ≤ 63 ∧ (∀ G', Q (.bl true) G')
def t_law : DS :=
  (dSeq (dAsg 1 (dCall sp_L_hand X0 (aCons (dVar 0) aNil)))
  (dSeq (dAsg 2 (dOp dEq (dCall sp_L_draw X0 (aCons (dVar 1) (aCons (dC (.int 40)) aNil))) (dC (.int 0))))
  (dSeq (dFor (dRange1 (aCons (dC (.int 3)) aNil)) (gN 3) (dSeq (dAsg 4 (dOp (dAdd false) (dC (.int 1)) (dCall sp_L_draw X0 (aCons (dVar 1) (aCons (dC (.int 12)) aNil)))))
  (dSeq (dAsg 5 (dOp (dAdd false) (dC (.int 1)) (dCall sp_L_draw X0 (aCons (dVar 1) (aCons (dVar 4) aNil)))))
  (dSeq (dPar 6 7 (aCons (dCall sp_L_row X0 (aCons (dVar 1) (aCons (dVar 4) (aCons (dVar 5) (aCons (dC (.int 12)) aNil))))) (aCons (dCall sp_L_lots X0 (aCons (dVar 1) (aCons (dC (.int 12)) aNil))) aNil)))
  (dSeq (dIfS (dAnd (dB (dVar 2)) (dB (dOp dEq (dVar 3) (dC (.int 0))))) (dPar 6 7 (aCons (dOp (dMul false) (dTup (aCons (dCall sp_L_shares X0 (aCons (dVar 1) (aCons (dVar 4) (aCons (dVar 5) aNil)))) aNil)) (dC (.int 400))) (aCons (dOp (dMul false) (dTup (aCons (dTup (aCons (dC (.int 0)) (aCons (dC (.int 3)) (aCons (dC (.int 11)) aNil)))) (aCons (dTup aNil) aNil))) (dC (.int 200))) aNil))) dNext)
  (dSeq (dAsg 8 (dCall sp_L_row_told X0 (aCons (dVar 4) (aCons (dVar 5) (aCons (dVar 6) aNil)))))
  (dSeq (dIfS (dOr (dB (dOp dNe (dCall sp_row_text X0 (aCons (dVar 4) (aCons (dVar 5) (aCons (dVar 6) aNil)))) (dVar 8))) (dB (dOp dNe (dCB dRepr (aCons (dCall sp_read_row X0 (aCons (dVar 8) aNil)) aNil)) (dCB dRepr (aCons (dTup (aCons (dVar 4) (aCons (dVar 5) (aCons (dVar 6) aNil)))) aNil))))) (dRet (dC (.bl false))) dNext)
  (dSeq (dAsg 8 (dCall sp_L_lots_told X0 (aCons (dVar 7) aNil)))
  (dSeq (dIfS (dOr (dB (dOp dNe (dCall sp_lots_text X0 (aCons (dVar 7) aNil)) (dVar 8))) (dB (dOp dNe (dCB dRepr (aCons (dCall sp_read_lots X0 (aCons (dVar 8) aNil)) aNil)) (dCB dRepr (aCons (dVar 7) aNil))))) (dRet (dC (.bl false))) dNext)
  (dSeq (dAsg 9 (dCall sp_L_any X0 (aCons (dVar 1) (aCons (dLst false (aCons (dC (.int 0)) (aCons (dC (.int 1)) (aCons (dUn dNegR (dC (.int 1))) (aCons (dC (.int 7)) (aCons (dOp dPow (dC (.int 10)) (dC (.int 30))) (aCons (dUn dNegR (dOp dPow (dC (.int 10)) (dC (.int 30)))) (aCons (dCall sp_L_draw X0 (aCons (dVar 1) (aCons (dC (.int 1000)) aNil))) (aCons (dUn dNegR (dCall sp_L_draw X0 (aCons (dVar 1) (aCons (dC (.int 1000)) aNil)))) aNil))))))))) aNil))))
  (dSeq (dAsg 10 (dCall sp_L_lowest X0 (aCons (dVar 9) (aCons (dCall sp_L_any X0 (aCons (dVar 1) (aCons (dLst false (aCons (dC (.int 1)) (aCons (dC (.int 2)) (aCons (dC (.int 3)) (aCons (dC (.int 360)) (aCons (dC (.int 27720)) (aCons (dOp (dAdd false) (dOp dPow (dC (.int 10)) (dC (.int 30))) (dC (.int 1))) aNil))))))) aNil))) aNil))))
  (dIfS (dB (dOp dNe (dCall sp_fraction_text X0 (aCons (dVar 10) aNil)) (dCall sp_L_fraction_told X0 (aCons (dVar 10) aNil)))) (dRet (dC (.bl false))) dNext))))))))))))
  (dRet (dC (.bl true))))))
theorem len_law : ∀ ds G Q E, sp_law ds G Q E → ds.length = ["_law_script"].length := by
  intro ds G Q E h
  first | (obtain ⟨rfl, _⟩ := h; rfl) | (obtain ⟨_, rfl, _⟩ := h; rfl) | (obtain ⟨_, _, rfl, _⟩ := h; rfl) | (obtain ⟨_, _, _, rfl, _⟩ := h; rfl) | (obtain ⟨_, _, _, _, rfl, _⟩ := h; rfl) | (obtain ⟨_, _, _, _, _, rfl, _⟩ := h; rfl) | (obtain ⟨_, _, _, _, _, _, rfl, _⟩ := h; rfl) | (obtain ⟨_, _, _, _, _, _, _, rfl, _⟩ := h; rfl) | (obtain ⟨_, _, _, _, _, _, _, _, rfl, _⟩ := h; rfl) | (obtain ⟨_, _, _, _, _, _, _, _, _, rfl, _⟩ := h; rfl) | (obtain ⟨_, _, _, _, _, _, _, _, _, _, rfl, _⟩ := h; rfl) | (obtain ⟨_, _, _, _, _, _, _, _, _, _, _, rfl, _⟩ := h; rfl) | (obtain ⟨_, _, _, _, _, _, _, _, _, _, _, _, rfl, _⟩ := h; rfl) | (obtain ⟨_, _, _, _, _, _, _, _, _, _, _, _, _, rfl, _⟩ := h; rfl) | (obtain ⟨_, _, _, _, _, _, _, _, _, _, _, _, _, _, rfl, _⟩ := h; rfl) | (obtain ⟨_, _, _, _, _, _, _, _, _, _, _, _, _, _, _, rfl, _⟩ := h; rfl)
theorem rd_law : ∀ ds G Q E', sp_law ds G Q E' → t_law (endD Q) (startD ["_law_script", "_law_hand_here", "_law_is_great", "_law_turn", "_law_n", "_law_m", "_law_row_here", "_law_lots_here", "_law_text", "_law_top", "_law_one"] ds) G := by
  rintro ds G Q E' ⟨ns, rfl, hl, q⟩
  unfold t_law
  refine dSeq_mk ?_
  walk_at "dl"
  refine ⟨_, rfl, hl, fun h hf => ?_⟩
  have hH : isHand (gu G h (.abl Hand)) h := gu_same
  generalize gu G h (.abl Hand) = G at *
  clear hf
  refine dSeq_mk ?_
  walk_at "dl"
  refine ⟨hH, by decide, by decide, fun f f0 f1 => ?_⟩
  refine dSeq_mk ?_
  walk_at "dl"
  refine ⟨by decide, by decide, ?_⟩
  refine forL_rng (n := 3) (fun k δ G' => ∃ (s3 s4 s5 s6 s7 s8 s9 s10 : Option D), G = G' ∧ δ = [some (.scr (ns.map D.int)), some (.ref h), some (.bl (decide (f = 0))), s3, s4, s5, s6, s7, s8, s9, s10]) ?_ ?_ _ _ ⟨_, _, _, _, _, _, _, _, rfl, rfl⟩
  · rintro k δ G' N hk ⟨s3, s4, s5, s6, s7, s8, s9, s10, rfl, rfl⟩ kN
    walk_at "dl"
    refine dSeq_mk ?_
    walk_at "dl"
    refine ⟨hH, by decide, by decide, fun d d0 d1 => ?_⟩
    obtain ⟨n, hn', hn⟩ : ∃ n : Nat, 1 + d = (n : Int) ∧ (1 ≤ n ∧ n ≤ 12) := ⟨(1 + d).toNat, by omega, by omega, by omega⟩
    rw [hn']
    refine dSeq_mk ?_
    walk_at "dl"
    refine ⟨hH, by omega, by omega, fun d d0 d1 => ?_⟩
    obtain ⟨m, hm', hm⟩ : ∃ n' : Nat, 1 + d = (n' : Int) ∧ (1 ≤ n' ∧ n' ≤ n) := ⟨(1 + d).toNat, by omega, by omega, by omega⟩
    rw [hm']
    refine dSeq_mk ?_
    walk_at "dl"
    refine ⟨h, n, m, 12, rfl, hH, hn, hm, by decide, fun r hS hrl => ?_⟩
    refine ⟨h, 12, rfl, hH, by decide, fun ls hL hll => ?_⟩
    -- whatever row, whatever lots
    refine ⟨fun δ G' => ∃ (r : List (Int × List Int)) (ls : List (List Nat)), G = G' ∧ (∀ s ∈ r, ShT n m s) ∧ r.length ≤ 400 ∧ (∀ l ∈ ls, LotA l) ∧ ls.length ≤ 400 ∧ δ = [some (.scr (ns.map D.int)), some (.ref h), some (.bl (decide (f = 0))), some (.int (k : Nat)), some (.int (n : Nat)), some (.int (m : Nat)), some (.tup (r.map shD)), some (.tup ((ls.map fun l => l.map Int.ofNat).map lotI)), s8, s9, s10], ?_, ?_⟩
    · walk_at "dl"
      cases hf0 : decide (f = 0) with
      | false =>
        rw [if_neg (by decide)]
        exact ⟨r, ls, hS, by omega, hL, by omega, rfl⟩
      | true =>
        rw [if_pos rfl]
        cases hk0 : decide (((k : Nat) : Int) = 0) with
        | false =>
          rw [if_neg (by decide)]
          exact ⟨r, ls, hS, by omega, hL, by omega, rfl⟩
        | true =>
          rw [if_pos rfl]
          refine ⟨h, n, m, rfl, hH, hn, hm, fun s hs => ?_⟩
          refine ⟨by decide, by decide, by decide, by decide, by decide, by decide, by decide, by decide, by decide, by decide, List.replicate 400 s, (List.replicate 200 [[0, 3, 11], []]).flatten, ?_⟩
          refine ⟨rfl, fun s' hs' => by rw [(List.mem_replicate.mp hs').2]; exact hs, by rw [List.length_replicate]; decide, fun l hl => ?_, by decide +kernel, ?_⟩
          · obtain ⟨x, hx, hlx⟩ := List.mem_flatten.mp hl
            rw [(List.mem_replicate.mp hx).2] at hlx
            simp only [List.mem_cons, List.not_mem_nil, or_false] at hlx
            rcases hlx with rfl | rfl
            · exact ⟨by decide, by decide⟩
            · exact ⟨by decide, by decide⟩
          · rw [rep_one, show rep 200 [D.tup [D.int 0, D.int 3, D.int 11], D.tup []] = (((List.replicate 200 [[0, 3, 11], []]).flatten).map fun l : List Nat => l.map Int.ofNat).map lotI from ?_]
            · rw [List.map_replicate]
              rfl
            · unfold rep
              rw [List.map_map, List.map_flatten, List.map_replicate]
              rfl
    · rintro δ G' ⟨r, ls, rfl, hS, hrl, hL, hll, rfl⟩
      have hL12 : ∀ l ∈ ls.map fun l => l.map Int.ofNat, Lot12 l := fun l hl => by
        obtain ⟨l0, hl0, rfl⟩ := List.mem_map.mp hl
        exact (hL l0 hl0).l12
      refine dSeq_mk ?_
      walk_at "dl"
      refine ⟨n, m, r, rfl, hn, hm, hS, hrl, ?_⟩
      refine dSeq_mk ?_
      walk_at "dx"
      have hR := rowT_isRow hS hrl
      refine ⟨_, _, _, rfl, pd_int, pd_int, rowT_pd r, chk2_yes hn hm ⟨fun z => ?_, fun _ => ⟨r, rfl, by simpa using hS, hrl, ?_⟩⟩⟩
      · rw [hR] at z
        cases z
      walk_at "dx"
      rw [if_neg (by decide)]
      have hlen := rowT_len (n := n) (m := m) (by omega) (by omega) hS
      refine ⟨_, rfl, pd_str, (fun z => nomatch z), fun s hs => ?_⟩
      cases hs
      refine ⟨by omega, fun l1 last e => ?_⟩
      rw [rowT_split hS] at e
      obtain ⟨rfl, e2⟩ := List.append_inj' e rfl
      obtain rfl : Str.empty = last := by simpa using e2
      have hmo : mapO sharesIn (r.map shT) = some (r.map shN) := mapO_map fun s hs => shIn_ok hn.1 (hS s hs)
      have hbk : (r.map shN).map shP2 = r := by
        rw [List.map_map]
        exact (List.map_congr_left fun s hs => shN_back (hS s hs)).trans (List.map_id _)
      have hhd := headIn_T (n := n) (m := m) (by omega) (by omega)
      have hbad : rdBad (headT (n : Nat) (m : Nat) :: r.map shT) = none := by
        rw [rdBad_cons hhd, fstN_none hmo]
        rfl
      refine ⟨fun k2 G' hb _ => ?_, fun _ => ⟨fun z => ?_, fun _ h2 r2 n2 m2 ys e3 e4 e5 G' hle => ?_⟩⟩
      · rw [hbad] at hb
        cases hb
      · rcases z with z | z
        · exact absurd rfl z
        · cases z
      cases e3
      rw [hhd] at e4
      cases e4
      rw [hmo] at e5
      cases e5
      rw [hbk]
      refine chk2_yes hn hm ⟨fun z => ?_, fun _ => ?_⟩
      · rw [hR] at z
        cases z
      obtain ⟨sr, hsr⟩ := repr_at (rs_nmr (n := n) (m := m) (by omega) (by omega) hS hrl) (by decide) (by decide) G
      refine hsr _ ⟨by decide, hsr _ ?_⟩
      walk_at "dx"
      rw [if_neg (by decide)]
      refine dSeq_mk ?_
      walk_at "dx"
      refine ⟨_, rfl, hL12, by rw [List.length_map]; exact hll, ?_⟩
      refine dSeq_mk ?_
      walk_at "dx"
      have hLD : lotsD (.tup ((ls.map fun l => l.map Int.ofNat).map lotI)) = true := by
        show (decide (_ ≤ 400) && _) = true
        rw [List.length_map, List.length_map, decide_eq_true hll, Bool.true_and, List.all_map, List.all_map, List.all_eq_true]
        exact fun l hl0 => (hL l hl0).lotB
      have hLp : pd (.tup ((ls.map fun l => l.map Int.ofNat).map lotI)) = true := pd_tup.mpr fun x hx => by
        obtain ⟨l, _, rfl⟩ := List.mem_map.mp hx
        exact pd_tup.mpr fun y hy => by
          obtain ⟨i, _, rfl⟩ := List.mem_map.mp hy
          exact pd_int
      refine ⟨_, rfl, hLp, fun xs ex y hy ys ey => ?_, fun z => ?_, fun _ => ⟨_, rfl, hL12, by rw [List.length_map]; exact hll, ?_⟩⟩
      · cases ex
        obtain ⟨l, hl0, rfl⟩ := List.mem_map.mp hy
        cases ey
        have := (hL12 l hl0).ln
        rw [List.length_map]
        omega
      · rw [hLD] at z
        cases z
      walk_at "dx"
      rw [if_neg (by decide)]
      have hlen2 : (lotsT (ls.map fun l => l.map Int.ofNat)).length ≤ 900000 := by
        unfold lotsT
        rw [len_tl, tl_joinT, show tl Str.empty = [] from rfl, joinL_nil, List.length_flatten]
        have := sum_bd (b := 40) (l := ((((ls.map fun l => l.map Int.ofNat).map lotT).map tl).map List.length)) fun x hx => by
          rw [List.map_map, List.map_map, List.mem_map] at hx
          obtain ⟨l, hl0, rfl⟩ := hx
          show (tl (lotT l)).length ≤ 40
          rw [← len_tl]
          exact (hL12 l hl0).len
        rw [List.length_map, List.length_map, List.length_map, List.length_map] at this
        omega
      refine ⟨_, rfl, pd_str, (fun z => nomatch z), fun s hs => ?_⟩
      cases hs
      refine ⟨hlen2, fun l1 last e => ?_⟩
      rw [lotsT_split] at e
      obtain ⟨rfl, e2⟩ := List.append_inj' e rfl
      obtain rfl : Str.empty = last := by simpa using e2
      have hmo : mapO lotIn (ls.map lotL) = some ls := (mapO_map (k := id) fun l hl0 => lotIn_L fun p hp => by have := (hL l hl0).bd p hp; omega).trans (by rw [List.map_id])
      have eI : ls.map intsT = (ls.map fun l => l.map Int.ofNat).map lotI := by
        rw [List.map_map]
        refine List.map_congr_left fun l _ => ?_
        show D.tup _ = D.tup _
        rw [List.map_map]
        rfl
      refine ⟨fun k2 G' hb _ => ?_, fun ys e3 => ?_⟩
      · rw [fstN_none hmo] at hb
        cases hb
      rw [hmo] at e3
      cases e3
      rw [eI]
      refine ⟨fun z => absurd rfl z, fun _ => ⟨fun z => ?_, fun _ => ?_⟩⟩
      · rw [hLD] at z
        cases z
      obtain ⟨sr, hsr⟩ := repr_at (rs_lots hL12 (by rw [List.length_map]; exact hll)) (by decide) (by decide) G
      refine hsr _ (hsr _ ?_)
      walk_at "dx"
      rw [if_neg (by decide)]
      refine dSeq_mk ?_
      walk_at "dx"
      have e30 : (10 : Int) ^ Int.toNat 30 = 1000000000000000000000000000000 := by decide
      refine ⟨CPow.lit (by decide), CPow.lit (by decide), hH, by decide, by decide, fun u u0 u1 => ⟨hH, by decide, by decide, fun v v0 v1 => ⟨by decide, _, _, _, rfl, hH, rfl, by simp, fun y hy => ?_⟩⟩⟩
      rw [e30] at hy
      obtain ⟨a, rfl, ha⟩ : ∃ p : Int, y = .int p ∧ p.natAbs ≤ 1000000000000000000000000000000 := by
        revert y
        walk_at "all"
        repeat' apply And.intro
        all_goals exact ⟨_, rfl, by omega⟩
      clear hy
      refine dSeq_mk ?_
      walk_at "dx"
      refine ⟨CPow.lit (by decide), by decide, _, _, _, rfl, hH, rfl, by simp, fun y hy => ?_⟩
      rw [e30] at hy
      obtain ⟨b, rfl, b0, b1⟩ : ∃ p : Int, y = .int p ∧ 0 < p ∧ p.natAbs ≤ 1000000000000000000000000000001 := by
        revert y
        walk_at "all"
        repeat' apply And.intro
        all_goals exact ⟨_, rfl, by omega, by omega⟩
      clear hy
      have e8 : (1000000000000000000000000000001 : Nat) < 2 ^ 1000 := Nat.lt_of_lt_of_le (by decide : _ < 2 ^ 200) (Nat.pow_le_pow_right (by decide) (by decide))
      have e9 : (1000000000000000000000000000001 : Nat) < 2 ^ 8000 := Nat.lt_of_lt_of_le (by decide : _ < 2 ^ 200) (Nat.pow_le_pow_right (by decide) (by decide))
      refine ⟨a, b, rfl, ⟨b0, by omega⟩, ?_⟩
      have hfb : FrB (mkRat a b.toNat) := frB_mk b0 (by omega) (by omega)
      generalize mkRat a b.toNat = x at *
      walk_at "dx"
      refine ⟨_, rfl, pd_tup2.mpr ⟨pd_int, pd_int⟩, fun z => ?_, fun _ => ⟨x, rfl, hfb, x, rfl, hfb, ?_⟩⟩
      · rw [fr_isFr] at z
        cases z
      walk_at "dx"
      rw [if_neg (by decide)]
      exact kN _ _ ⟨_, _, _, _, _, _, _, _, rfl, rfl⟩
  · rintro δ G' ⟨s3, s4, s5, s6, s7, s8, s9, s10, rfl, rfl⟩
    walk_at "dl"
    exact Rt.same (q _)
end Tx
namespace Tx
open PySem PySem.Spec PyProof.Rows L2 DL
theorem sc_divisor : FnScope ["one", "other"] ["one", "other"] (defScope s_divisor) := ⟨rfl, rfl, rfl, by decide +kernel, rfl, by decide +kernel, by decide +kernel⟩
theorem sc_is_integer : FnScope ["thing"] ["thing"] (defScope s_is_integer) := ⟨rfl, rfl, rfl, by decide +kernel, rfl, by decide +kernel, by decide +kernel⟩
theorem sc_is_pair : FnScope ["thing"] ["thing"] (defScope s_is_pair) := ⟨rfl, rfl, rfl, by decide +kernel, rfl, by decide +kernel, by decide +kernel⟩
theorem sc_is_fraction : FnScope ["thing"] ["thing"] (defScope s_is_fraction) := ⟨rfl, rfl, rfl, by decide +kernel, rfl, by decide +kernel, by decide +kernel⟩
theorem sc_fraction_text : FnScope ["thing"] ["thing"] (defScope s_fraction_text) := ⟨rfl, rfl, rfl, by decide +kernel, rfl, by decide +kernel, by decide +kernel⟩
theorem sc_L_fraction_told : FnScope ["_law_one"] ["_law_one"] (defScope s_L_fraction_told) := ⟨rfl, rfl, rfl, by decide +kernel, rfl, by decide +kernel, by decide +kernel⟩
theorem sc_L_draw : FnScope ["_law_hand_here", "_law_many", "_law_cell", "_law_digit", "_law_number"] ["_law_hand_here", "_law_many"] (defScope s_L_draw) := ⟨rfl, rfl, rfl, by decide +kernel, rfl, by decide +kernel, by decide +kernel⟩
theorem sc_L_any : FnScope ["_law_hand_here", "_law_some"] ["_law_hand_here", "_law_some"] (defScope s_L_any) := ⟨rfl, rfl, rfl, by decide +kernel, rfl, by decide +kernel, by decide +kernel⟩
theorem sc_L_lowest : FnScope ["_law_top", "_law_bottom", "_law_one", "_law_other"] ["_law_top", "_law_bottom"] (defScope s_L_lowest) := ⟨rfl, rfl, rfl, by decide +kernel, rfl, by decide +kernel, by decide +kernel⟩
theorem sc_is_within : FnScope ["thing", "low", "high"] ["thing", "low", "high"] (defScope s_is_within) := ⟨rfl, rfl, rfl, by decide +kernel, rfl, by decide +kernel, by decide +kernel⟩
theorem sc_is_lot : FnScope ["thing", "many", "one", "other"] ["thing", "many"] (defScope s_is_lot) := ⟨rfl, rfl, rfl, by decide +kernel, rfl, by decide +kernel, by decide +kernel⟩
theorem sc_check_lots : FnScope ["lots", "lot"] ["lots"] (defScope s_check_lots) := ⟨rfl, rfl, rfl, by decide +kernel, rfl, by decide +kernel, by decide +kernel⟩
theorem sc_number_in : FnScope ["word", "sign"] ["word"] (defScope s_number_in) := ⟨rfl, rfl, rfl, by decide +kernel, rfl, by decide +kernel, by decide +kernel⟩
theorem sc_numbers_in : FnScope ["word", "found", "one"] ["word"] (defScope s_numbers_in) := ⟨rfl, rfl, rfl, by decide +kernel, rfl, by decide +kernel, by decide +kernel⟩
theorem sc_lines_in : FnScope ["text", "lines"] ["text"] (defScope s_lines_in) := ⟨rfl, rfl, rfl, by decide +kernel, rfl, by decide +kernel, by decide +kernel⟩
theorem sc_read_lots : FnScope ["text", "lines", "rest", "found", "at", "line", "lot"] ["text"] (defScope s_read_lots) := ⟨rfl, rfl, rfl, by decide +kernel, rfl, by decide +kernel, by decide +kernel⟩
theorem sc_numbers_text : FnScope ["numbers", "number"] ["numbers"] (defScope s_numbers_text) := ⟨rfl, rfl, rfl, by decide +kernel, rfl, by decide +kernel, by decide +kernel⟩
theorem sc_lots_text : FnScope ["lots", "lot"] ["lots"] (defScope s_lots_text) := ⟨rfl, rfl, rfl, by decide +kernel, rfl, by decide +kernel, by decide +kernel⟩
theorem sc_L_lots_told : FnScope ["_law_lots_here", "_law_one", "_law_lot"] ["_law_lots_here"] (defScope s_L_lots_told) := ⟨rfl, rfl, rfl, by decide +kernel, rfl, by decide +kernel, by decide +kernel⟩
theorem sc_are_shares : FnScope ["n", "m", "thing", "top"] ["n", "m", "thing"] (defScope s_are_shares) := ⟨rfl, rfl, rfl, by decide +kernel, rfl, by decide +kernel, by decide +kernel⟩
theorem sc_first_wrong : FnScope ["n", "m", "row", "at", "shares"] ["n", "m", "row"] (defScope s_first_wrong) := ⟨rfl, rfl, rfl, by decide +kernel, rfl, by decide +kernel, by decide +kernel⟩
theorem sc_check_people : FnScope ["n"] ["n"] (defScope s_check_people) := ⟨rfl, rfl, rfl, by decide +kernel, rfl, by decide +kernel, by decide +kernel⟩
theorem sc_check_things : FnScope ["n", "m"] ["n", "m"] (defScope s_check_things) := ⟨rfl, rfl, rfl, by decide +kernel, rfl, by decide +kernel, by decide +kernel⟩
theorem sc_check_row : FnScope ["n", "m", "row", "at"] ["n", "m", "row"] (defScope s_check_row) := ⟨rfl, rfl, rfl, by decide +kernel, rfl, by decide +kernel, by decide +kernel⟩
theorem sc_head_in : FnScope ["line", "words", "found"] ["line"] (defScope s_head_in) := ⟨rfl, rfl, rfl, by decide +kernel, rfl, by decide +kernel, by decide +kernel⟩
theorem sc_shares_in : FnScope ["line", "words", "found"] ["line"] (defScope s_shares_in) := ⟨rfl, rfl, rfl, by decide +kernel, rfl, by decide +kernel, by decide +kernel⟩
theorem sc_read_row : FnScope ["text", "lines", "rest", "head", "row", "at", "line", "found"] ["text"] (defScope s_read_row) := ⟨rfl, rfl, rfl, by decide +kernel, rfl, by decide +kernel, by decide +kernel⟩
theorem sc_row_text : FnScope ["n", "m", "row", "found", "bottom", "tops", "line"] ["n", "m", "row"] (defScope s_row_text) := ⟨rfl, rfl, rfl, by decide +kernel, rfl, by decide +kernel, by decide +kernel⟩
theorem sc_L_row_told : FnScope ["_law_n", "_law_m", "_law_row_here", "_law_found", "_law_bottom", "_law_tops", "_law_top"] ["_law_n", "_law_m", "_law_row_here"] (defScope s_L_row_told) := ⟨rfl, rfl, rfl, by decide +kernel, rfl, by decide +kernel, by decide +kernel⟩
theorem sc_L_shares : FnScope ["_law_hand_here", "_law_n", "_law_m", "_law_bottom", "_law_tops", "_law_left", "_law_person", "_law_part", "_law_one"] ["_law_hand_here", "_law_n", "_law_m"] (defScope s_L_shares) := ⟨rfl, rfl, rfl, by decide +kernel, rfl, by decide +kernel, by decide +kernel⟩
theorem sc_L_row : FnScope ["_law_hand_here", "_law_n", "_law_m", "_law_most", "_law_beat"] ["_law_hand_here", "_law_n", "_law_m", "_law_most"] (defScope s_L_row) := ⟨rfl, rfl, rfl, by decide +kernel, rfl, by decide +kernel, by decide +kernel⟩
theorem sc_L_lots : FnScope ["_law_hand_here", "_law_most", "_law_found", "_law_beat", "_law_rare", "_law_one"] ["_law_hand_here", "_law_most"] (defScope s_L_lots) := ⟨rfl, rfl, rfl, by decide +kernel, rfl, by decide +kernel, by decide +kernel⟩
theorem sc_L_hand : FnScope ["_law_script", "_law_cells", "_law_cell"] ["_law_script"] (defScope s_L_hand) := ⟨rfl, rfl, rfl, by decide +kernel, rfl, by decide +kernel, by decide +kernel⟩
theorem sc_law : FnScope ["_law_script", "_law_hand_here", "_law_is_great", "_law_turn", "_law_n", "_law_m", "_law_row_here", "_law_lots_here", "_law_text", "_law_top", "_law_one"] ["_law_script"] (defScope s_law) := ⟨rfl, rfl, rfl, by decide +kernel, rfl, by decide +kernel, by decide +kernel⟩
set_option genInjectivity false
set_option genSizeOf false
set_option maxHeartbeats 4000000 in
structure Txt (K : PySem.W.Frag) (mg : Str → Option Value) where
  a_divisor : Addr
  d_divisor : FuncData
  F_divisor : Fun K "divisor" "divisor" s_divisor a_divisor d_divisor
  g_divisor : mg "divisor" = some (.ref a_divisor)
  b_divisor : Binds K d_divisor ["one", "other"] []
  a_is_integer : Addr
  d_is_integer : FuncData
  F_is_integer : Fun K "is_integer" "is_integer" s_is_integer a_is_integer d_is_integer
  g_is_integer : mg "is_integer" = some (.ref a_is_integer)
  b_is_integer : Binds K d_is_integer ["thing"] []
  a_is_pair : Addr
  d_is_pair : FuncData
  F_is_pair : Fun K "is_pair" "is_pair" s_is_pair a_is_pair d_is_pair
  g_is_pair : mg "is_pair" = some (.ref a_is_pair)
  b_is_pair : Binds K d_is_pair ["thing"] []
  a_is_fraction : Addr
  d_is_fraction : FuncData
  F_is_fraction : Fun K "is_fraction" "is_fraction" s_is_fraction a_is_fraction d_is_fraction
  g_is_fraction : mg "is_fraction" = some (.ref a_is_fraction)
  b_is_fraction : Binds K d_is_fraction ["thing"] []
  a_fraction_text : Addr
  d_fraction_text : FuncData
  F_fraction_text : Fun K "fraction_text" "fraction_text" s_fraction_text a_fraction_text d_fraction_text
  g_fraction_text : mg "fraction_text" = some (.ref a_fraction_text)
  b_fraction_text : Binds K d_fraction_text ["thing"] []
  a_L_fraction_told : Addr
  d_L_fraction_told : FuncData
  F_L_fraction_told : Fun K "_law_fraction_told" "_law_fraction_told" s_L_fraction_told a_L_fraction_told d_L_fraction_told
  g_L_fraction_told : mg "_law_fraction_told" = some (.ref a_L_fraction_told)
  b_L_fraction_told : Binds K d_L_fraction_told ["_law_one"] []
  a_L_draw : Addr
  d_L_draw : FuncData
  F_L_draw : Fun K "_law_draw" "_law_draw" s_L_draw a_L_draw d_L_draw
  g_L_draw : mg "_law_draw" = some (.ref a_L_draw)
  b_L_draw : Binds K d_L_draw ["_law_hand_here", "_law_many"] []
  a_L_any : Addr
  d_L_any : FuncData
  F_L_any : Fun K "_law_any" "_law_any" s_L_any a_L_any d_L_any
  g_L_any : mg "_law_any" = some (.ref a_L_any)
  b_L_any : Binds K d_L_any ["_law_hand_here", "_law_some"] []
  a_L_lowest : Addr
  d_L_lowest : FuncData
  F_L_lowest : Fun K "_law_lowest" "_law_lowest" s_L_lowest a_L_lowest d_L_lowest
  g_L_lowest : mg "_law_lowest" = some (.ref a_L_lowest)
  b_L_lowest : Binds K d_L_lowest ["_law_top", "_law_bottom"] []
  a_is_within : Addr
  d_is_within : FuncData
  F_is_within : Fun K "is_within" "is_within" s_is_within a_is_within d_is_within
  g_is_within : mg "is_within" = some (.ref a_is_within)
  b_is_within : Binds K d_is_within ["thing", "low", "high"] []
  a_is_lot : Addr
  d_is_lot : FuncData
  F_is_lot : Fun K "is_lot" "is_lot" s_is_lot a_is_lot d_is_lot
  g_is_lot : mg "is_lot" = some (.ref a_is_lot)
  b_is_lot : Binds K d_is_lot ["thing", "many"] []
  a_check_lots : Addr
  d_check_lots : FuncData
  F_check_lots : Fun K "check_lots" "check_lots" s_check_lots a_check_lots d_check_lots
  g_check_lots : mg "check_lots" = some (.ref a_check_lots)
  b_check_lots : Binds K d_check_lots ["lots"] []
  a_number_in : Addr
  d_number_in : FuncData
  F_number_in : Fun K "number_in" "number_in" s_number_in a_number_in d_number_in
  g_number_in : mg "number_in" = some (.ref a_number_in)
  b_number_in : Binds K d_number_in ["word"] []
  a_numbers_in : Addr
  d_numbers_in : FuncData
  F_numbers_in : Fun K "numbers_in" "numbers_in" s_numbers_in a_numbers_in d_numbers_in
  g_numbers_in : mg "numbers_in" = some (.ref a_numbers_in)
  b_numbers_in : Binds K d_numbers_in ["word"] []
  a_lines_in : Addr
  d_lines_in : FuncData
  F_lines_in : Fun K "lines_in" "lines_in" s_lines_in a_lines_in d_lines_in
  g_lines_in : mg "lines_in" = some (.ref a_lines_in)
  b_lines_in : Binds K d_lines_in ["text"] []
  a_read_lots : Addr
  d_read_lots : FuncData
  F_read_lots : Fun K "read_lots" "read_lots" s_read_lots a_read_lots d_read_lots
  g_read_lots : mg "read_lots" = some (.ref a_read_lots)
  b_read_lots : Binds K d_read_lots ["text"] []
  a_numbers_text : Addr
  d_numbers_text : FuncData
  F_numbers_text : Fun K "numbers_text" "numbers_text" s_numbers_text a_numbers_text d_numbers_text
  g_numbers_text : mg "numbers_text" = some (.ref a_numbers_text)
  b_numbers_text : Binds K d_numbers_text ["numbers"] []
  a_lots_text : Addr
  d_lots_text : FuncData
  F_lots_text : Fun K "lots_text" "lots_text" s_lots_text a_lots_text d_lots_text
  g_lots_text : mg "lots_text" = some (.ref a_lots_text)
  b_lots_text : Binds K d_lots_text ["lots"] []
  a_L_lots_told : Addr
  d_L_lots_told : FuncData
  F_L_lots_told : Fun K "_law_lots_told" "_law_lots_told" s_L_lots_told a_L_lots_told d_L_lots_told
  g_L_lots_told : mg "_law_lots_told" = some (.ref a_L_lots_told)
  b_L_lots_told : Binds K d_L_lots_told ["_law_lots_here"] []
  a_are_shares : Addr
  d_are_shares : FuncData
  F_are_shares : Fun K "are_shares" "are_shares" s_are_shares a_are_shares d_are_shares
  g_are_shares : mg "are_shares" = some (.ref a_are_shares)
  b_are_shares : Binds K d_are_shares ["n", "m", "thing"] []
  a_first_wrong : Addr
  d_first_wrong : FuncData
  F_first_wrong : Fun K "first_wrong" "first_wrong" s_first_wrong a_first_wrong d_first_wrong
  g_first_wrong : mg "first_wrong" = some (.ref a_first_wrong)
  b_first_wrong : Binds K d_first_wrong ["n", "m", "row"] []
  a_check_people : Addr
  d_check_people : FuncData
  F_check_people : Fun K "check_people" "check_people" s_check_people a_check_people d_check_people
  g_check_people : mg "check_people" = some (.ref a_check_people)
  b_check_people : Binds K d_check_people ["n"] []
  a_check_things : Addr
  d_check_things : FuncData
  F_check_things : Fun K "check_things" "check_things" s_check_things a_check_things d_check_things
  g_check_things : mg "check_things" = some (.ref a_check_things)
  b_check_things : Binds K d_check_things ["n", "m"] []
  a_check_row : Addr
  d_check_row : FuncData
  F_check_row : Fun K "check_row" "check_row" s_check_row a_check_row d_check_row
  g_check_row : mg "check_row" = some (.ref a_check_row)
  b_check_row : Binds K d_check_row ["n", "m", "row"] []
  a_head_in : Addr
  d_head_in : FuncData
  F_head_in : Fun K "head_in" "head_in" s_head_in a_head_in d_head_in
  g_head_in : mg "head_in" = some (.ref a_head_in)
  b_head_in : Binds K d_head_in ["line"] []
  a_shares_in : Addr
  d_shares_in : FuncData
  F_shares_in : Fun K "shares_in" "shares_in" s_shares_in a_shares_in d_shares_in
  g_shares_in : mg "shares_in" = some (.ref a_shares_in)
  b_shares_in : Binds K d_shares_in ["line"] []
  a_read_row : Addr
  d_read_row : FuncData
  F_read_row : Fun K "read_row" "read_row" s_read_row a_read_row d_read_row
  g_read_row : mg "read_row" = some (.ref a_read_row)
  b_read_row : Binds K d_read_row ["text"] []
  a_row_text : Addr
  d_row_text : FuncData
  F_row_text : Fun K "row_text" "row_text" s_row_text a_row_text d_row_text
  g_row_text : mg "row_text" = some (.ref a_row_text)
  b_row_text : Binds K d_row_text ["n", "m", "row"] []
  a_L_row_told : Addr
  d_L_row_told : FuncData
  F_L_row_told : Fun K "_law_row_told" "_law_row_told" s_L_row_told a_L_row_told d_L_row_told
  g_L_row_told : mg "_law_row_told" = some (.ref a_L_row_told)
  b_L_row_told : Binds K d_L_row_told ["_law_n", "_law_m", "_law_row_here"] []
  a_L_shares : Addr
  d_L_shares : FuncData
  F_L_shares : Fun K "_law_shares" "_law_shares" s_L_shares a_L_shares d_L_shares
  g_L_shares : mg "_law_shares" = some (.ref a_L_shares)
  b_L_shares : Binds K d_L_shares ["_law_hand_here", "_law_n", "_law_m"] []
  a_L_row : Addr
  d_L_row : FuncData
  F_L_row : Fun K "_law_row" "_law_row" s_L_row a_L_row d_L_row
  g_L_row : mg "_law_row" = some (.ref a_L_row)
  b_L_row : Binds K d_L_row ["_law_hand_here", "_law_n", "_law_m", "_law_most"] []
  a_L_lots : Addr
  d_L_lots : FuncData
  F_L_lots : Fun K "_law_lots" "_law_lots" s_L_lots a_L_lots d_L_lots
  g_L_lots : mg "_law_lots" = some (.ref a_L_lots)
  b_L_lots : Binds K d_L_lots ["_law_hand_here", "_law_most"] []
  a_L_hand : Addr
  d_L_hand : FuncData
  F_L_hand : Fun K "_law_hand" "_law_hand" s_L_hand a_L_hand d_L_hand
  g_L_hand : mg "_law_hand" = some (.ref a_L_hand)
  b_L_hand : Binds K d_L_hand ["_law_script"] []
  a_law : Addr
  d_law : FuncData
  F_law : Fun K "law" "law" s_law a_law d_law
  g_law : mg "law" = some (.ref a_law)
  b_law : Binds K d_law ["_law_script"] []
  a_BadText : Addr
  z_BadText : PySem.W.nsIn K mainGlobals "BadText" = some (some (.ref a_BadText))
  g_BadText : mg "BadText" = some (.ref a_BadText)
  a_NoFraction : Addr
  z_NoFraction : PySem.W.nsIn K mainGlobals "NoFraction" = some (some (.ref a_NoFraction))
  g_NoFraction : mg "NoFraction" = some (.ref a_NoFraction)
  a_NoLots : Addr
  z_NoLots : PySem.W.nsIn K mainGlobals "NoLots" = some (some (.ref a_NoLots))
  g_NoLots : mg "NoLots" = some (.ref a_NoLots)
  a_NoPeople : Addr
  z_NoPeople : PySem.W.nsIn K mainGlobals "NoPeople" = some (some (.ref a_NoPeople))
  g_NoPeople : mg "NoPeople" = some (.ref a_NoPeople)
  a_NoRow : Addr
  z_NoRow : PySem.W.nsIn K mainGlobals "NoRow" = some (some (.ref a_NoRow))
  g_NoRow : mg "NoRow" = some (.ref a_NoRow)
  a_NoThings : Addr
  z_NoThings : PySem.W.nsIn K mainGlobals "NoThings" = some (some (.ref a_NoThings))
  g_NoThings : mg "NoThings" = some (.ref a_NoThings)
  e_BadText : ExI PR K mg "BadText" "line" a_BadText
  e_NoFraction : ExN K mg "NoFraction" a_NoFraction
  e_NoLots : ExN K mg "NoLots" a_NoLots
  e_NoPeople : ExN K mg "NoPeople" a_NoPeople
  e_NoRow : ExI PR K mg "NoRow" "at" a_NoRow
  e_NoThings : ExN K mg "NoThings" a_NoThings
  m_abs : mg "abs" = none
  m_all : mg "all" = none
  m_bool : mg "bool" = none
  m_enumerate : mg "enumerate" = none
  m_int : mg "int" = none
  m_isinstance : mg "isinstance" = none
  m_len : mg "len" = none
  m_min : mg "min" = none
  m_range : mg "range" = none
  m_repr : mg "repr" = none
  m_str : mg "str" = none
  m_sum : mg "sum" = none
  m_tuple : mg "tuple" = none
  m_zip : mg "zip" = none
  t_FIGURES : Tok
  c_FIGURES : True ∧ mg "FIGURES" = some (.str "0123456789" t_FIGURES)
  t_MOST_BEATS : Tok
  c_MOST_BEATS : True ∧ mg "MOST_BEATS" = some (.int 400 t_MOST_BEATS)
  t_MOST_BOTTOM : Tok
  c_MOST_BOTTOM : True ∧ mg "MOST_BOTTOM" = some (.int 360 t_MOST_BOTTOM)
  t_MOST_FIGURES : Tok
  c_MOST_FIGURES : True ∧ mg "MOST_FIGURES" = some (.int 9 t_MOST_FIGURES)
  t_MOST_PEOPLE : Tok
  c_MOST_PEOPLE : True ∧ mg "MOST_PEOPLE" = some (.int 12 t_MOST_PEOPLE)
  t_NO_LOT : Tok
  c_NO_LOT : True ∧ mg "NO_LOT" = some (.str "-" t_NO_LOT)
section
variable {P : Program} {w : World} {K : PySem.W.Frag} {mg : Str → Option Value} {base : Heap}
theorem ok_divisor (T : Txt K mg) : FnG PR w K mg base CX0 1 T.a_divisor T.d_divisor ["one", "other"] (LSp K sp_divisor) := by
  refine fn_d T.F_divisor sc_divisor len_divisor (fun cdv A outer s H E F0 hr hmu => ⟨t_divisor, ?_, rd_divisor⟩)
  exact (dss_cons (ds_while PassesOwn.never (dt_cmp (op_neM hr.units) od_ne (nomark _) (de_var (pv 1)) de_int) (dss_one (ds_par (i := 0) (j := 1) rfl sc_divisor.nd rfl rfl (by decide) rfl rfl (da_cons (de_var (pv 1)) (da_cons (de_op op_mod od_mod (de_var (pv 0)) (de_var (pv 1))) da_nil)) (by rfl))))
    (dss_one (ds_ret (de_callB call_abs cd_abs (by rfl) T.m_abs (by decide +kernel) (da_cons (de_var (pv 0)) da_nil)))))
theorem ok_is_integer (T : Txt K mg) : FnG PR w K mg base CX0 1 T.a_is_integer T.d_is_integer ["thing"] (LSp K sp_is_integer) := by
  refine fn_d T.F_is_integer sc_is_integer len_is_integer (fun cdv A outer s H E F0 hr hmu => ⟨t_is_integer, ?_, rd_is_integer⟩)
  exact (dss_one (ds_ret (de_and (de_callB call_isi cd_isi (by rfl) T.m_isinstance (by decide +kernel) (da_cons (de_var (pv 0)) (da_cons (de_c (v := .ty "int") (d := .ty "int") (pe_bltn (by rfl) T.m_int (by decide +kernel) rfl) fun _ => .ty _) da_nil))) (pe_one (de_not (de_callB call_isi cd_isi (by rfl) T.m_isinstance (by decide +kernel) (da_cons (de_var (pv 0)) (da_cons (de_c (v := .ty "bool") (d := .ty "bool") (pe_bltn (by rfl) T.m_bool (by decide +kernel) rfl) fun _ => .ty _) da_nil))))))))
theorem ok_is_pair (T : Txt K mg) : FnG PR w K mg base CX0 1 T.a_is_pair T.d_is_pair ["thing"] (LSp K sp_is_pair) := by
  refine fn_d T.F_is_pair sc_is_pair len_is_pair (fun cdv A outer s H E F0 hr hmu => ⟨t_is_pair, ?_, rd_is_pair⟩)
  exact (dss_one (ds_ret (de_and (de_callB call_isi cd_isi (by rfl) T.m_isinstance (by decide +kernel) (da_cons (de_var (pv 0)) (da_cons (de_c (v := .ty "tuple") (d := .ty "tuple") (pe_bltn (by rfl) T.m_tuple (by decide +kernel) rfl) fun _ => .ty _) da_nil))) (pe_one (de_cmp (op_eqM hr.units) od_eq (nomark _) (de_callB call_len cd_len (by rfl) T.m_len (by decide +kernel) (da_cons (de_var (pv 0)) da_nil)) de_int)))))
theorem ok_is_fraction (T : Txt K mg) : FnG PR w K mg base CX0 2 T.a_is_fraction T.d_is_fraction ["thing"] (LSp K sp_is_fraction) := by
  refine fn_d T.F_is_fraction sc_is_fraction len_is_fraction (fun cdv A outer s H E F0 hr hmu => ⟨t_is_fraction, ?_, rd_is_fraction⟩)
  exact (dss_cons (ds_if (PW.pt (dw_or (dt_not (dt_val (de_call ((ok_is_pair T).up (by decide)) hr hmu (by rfl) T.g_is_pair T.F_is_pair.kp T.b_is_pair pass0 koe0 (da_cons (de_var (pv 0)) da_nil)))) (dw_or (dt_not (dt_val (de_call ((ok_is_integer T).up (by decide)) hr hmu (by rfl) T.g_is_integer T.F_is_integer.kp T.b_is_integer pass0 koe0 (da_cons (de_ix (de_var (pv 0)) de_int (fun _ _ => rfl)) da_nil)))) (dw_or (dt_not (dt_val (de_call ((ok_is_integer T).up (by decide)) hr hmu (by rfl) T.g_is_integer T.F_is_integer.kp T.b_is_integer pass0 koe0 (da_cons (de_ix (de_var (pv 0)) de_int (fun _ _ => rfl)) da_nil)))) (pw_or1 (dt_cmp op_lt od_lt (nomark _) (de_ix (de_var (pv 0)) de_int (fun _ _ => rfl)) de_int)))))) (dss_one (ds_ret de_bl)) dss_nil)
    (dss_one (ds_ret (de_cmp (op_eqM hr.units) od_eq (nomark _) (de_call ((ok_divisor T).up (by decide)) hr hmu (by rfl) T.g_divisor T.F_divisor.kp T.b_divisor pass0 koe0 (da_cons (de_ix (de_var (pv 0)) de_int (fun _ _ => rfl)) (da_cons (de_ix (de_var (pv 0)) de_int (fun _ _ => rfl)) da_nil))) de_int))))
theorem ok_fraction_text (T : Txt K mg) : FnG PR w K mg base (L2.CX PR w) 3 T.a_fraction_text T.d_fraction_text ["thing"] (LSp K sp_fraction_text) := by
  refine fn_dE T.F_fraction_text sc_fraction_text len_fraction_text (fun cdv A outer s H E F0 E' hr hmu ke => ⟨t_fraction_text E', ?_, rd_fraction_text E'⟩)
  exact (dss_cons (ds_if (dt_not (dt_val (de_call ((ok_is_fraction T).up (by decide)) hr hmu (by rfl) T.g_is_fraction T.F_is_fraction.kp T.b_is_fraction pass0 koe0 (da_cons (de_var (pv 0)) da_nil)))) (dss_one (ds_raise rfl takesX ke T.e_NoFraction (by rfl))) dss_nil)
    (dss_one (ds_ret (de_if (dt_cmp (op_eqM hr.units) od_eq (nomark _) (de_ix (de_var (pv 0)) de_int (fun _ _ => rfl)) de_int) (de_callTy call_str_int cd_strT (by rfl) T.m_str (by decide +kernel) (da_cons (de_ix (de_var (pv 0)) de_int (fun _ _ => rfl)) da_nil)) (de_op op_addM (od_add false) (de_op op_addM (od_add false) (de_callTy call_str_int cd_strT (by rfl) T.m_str (by decide +kernel) (da_cons (de_ix (de_var (pv 0)) de_int (fun _ _ => rfl)) da_nil)) de_str) (de_callTy call_str_int cd_strT (by rfl) T.m_str (by decide +kernel) (da_cons (de_ix (de_var (pv 0)) de_int (fun _ _ => rfl)) da_nil)))))))
theorem ok_L_fraction_told (T : Txt K mg) : FnG PR w K mg base CX0 1 T.a_L_fraction_told T.d_L_fraction_told ["_law_one"] (LSp K sp_L_fraction_told) := by
  refine fn_d T.F_L_fraction_told sc_L_fraction_told len_L_fraction_told (fun cdv A outer s H E F0 hr hmu => ⟨t_L_fraction_told, ?_, rd_L_fraction_told⟩)
  exact (dss_one (ds_ret (de_if (dt_cmp (op_eqM hr.units) od_eq (nomark _) (de_ix (de_var (pv 0)) de_int (fun _ _ => rfl)) de_int) (de_callTy call_str_int cd_strT (by rfl) T.m_str (by decide +kernel) (da_cons (de_ix (de_var (pv 0)) de_int (fun _ _ => rfl)) da_nil)) (de_op op_addM (od_add false) (de_op op_addM (od_add false) (de_callTy call_str_int cd_strT (by rfl) T.m_str (by decide +kernel) (da_cons (de_ix (de_var (pv 0)) de_int (fun _ _ => rfl)) da_nil)) de_str) (de_callTy call_str_int cd_strT (by rfl) T.m_str (by decide +kernel) (da_cons (de_ix (de_var (pv 0)) de_int (fun _ _ => rfl)) da_nil))))))
theorem ok_L_draw (T : Txt K mg) : FnG PR w K mg base CX0 1 T.a_L_draw T.d_L_draw ["_law_hand_here", "_law_many"] (LSp K sp_L_draw) := by
  refine hand_close ?_
  refine fn_d T.F_L_draw sc_L_draw len_L_draw (fun cdv A outer s H E F0 hr hmu => ⟨t_L_draw, ?_, rd_L_draw⟩)
  exact (dss_cons (ds_if (PW.pt (dw_and (dt_cmp (op_eqM hr.units) od_eq (nomark _) (de_ix (de_var (pv 0)) de_int (fun _ _ => rfl)) de_int) (pw_and1 (dt_cmp op_lt od_lt (nomark _) (de_ix (de_var (pv 0)) de_int (fun _ _ => rfl)) (de_callB call_len cd_len (by rfl) T.m_len (by decide +kernel) (da_cons (de_ix (de_var (pv 0)) de_int (fun _ _ => rfl)) da_nil)))))) (dss_cons (ds_set (i := 2) sc_L_draw.nd rfl (.inl rfl) (de_ix (de_ix (de_var (pv 0)) de_int (fun _ _ => rfl)) (de_ix (de_var (pv 0)) de_int (fun _ _ => rfl)) (fun _ _ => rfl)))
    (dss_cons (ds_setix (de_op op_addM (od_add false) (de_ix (de_var (pv 0)) de_int (fun _ _ => rfl)) de_int) (de_var (pv 0)) de_int)
    (dss_cons (ds_setix (de_op op_mod od_mod (de_callTy call_int1 cd_int (by rfl) T.m_int (by decide +kernel) (da_cons (de_op op_addM (od_add false) (de_op op_addM (od_add false) (de_op op_mulA (od_mul false) (de_ix (de_var (pv 0)) de_int (fun _ _ => rfl)) de_int) (de_var (pv 2))) de_int) da_nil)) de_int) (de_var (pv 0)) de_int)
    (dss_one (ds_if (dt_cmp op_ge od_ge (nomark _) (de_var (pv 2)) (de_op op_pow od_pow de_int de_int)) (dss_one (ds_setix (de_var (pv 2)) (de_var (pv 0)) de_int)) dss_nil))))) dss_nil)
    (dss_cons (ds_if (dt_cmp op_gt od_gt (nomark _) (de_ix (de_var (pv 0)) de_int (fun _ _ => rfl)) de_int) (dss_cons (ds_set (i := 3) sc_L_draw.nd rfl (.inl rfl) (de_op op_mod od_mod (de_callTy call_int1 cd_int (by rfl) T.m_int (by decide +kernel) (da_cons (de_ix (de_var (pv 0)) de_int (fun _ _ => rfl)) da_nil)) (de_var (pv 1))))
    (dss_cons (ds_setix (de_op op_fdivM od_div (de_ix (de_var (pv 0)) de_int (fun _ _ => rfl)) (de_var (pv 1))) (de_var (pv 0)) de_int)
    (dss_one (ds_ret (de_var (pv 3)))))) dss_nil)
    (dss_cons (ds_setix (de_op op_addM (od_add false) (de_ix (de_var (pv 0)) de_int (fun _ _ => rfl)) de_int) (de_var (pv 0)) de_int)
    (dss_cons (ds_set (i := 4) sc_L_draw.nd rfl (.inl rfl) (de_op op_mod od_mod (de_callTy call_int1 cd_int (by rfl) T.m_int (by decide +kernel) (da_cons (de_op op_mulA (od_mul false) (de_callTy call_int1 cd_int (by rfl) T.m_int (by decide +kernel) (da_cons (de_op op_addM (od_add false) (de_ix (de_var (pv 0)) de_int (fun _ _ => rfl)) (de_op op_mulA (od_mul false) de_int (de_ix (de_var (pv 0)) de_int (fun _ _ => rfl)))) da_nil)) de_int) da_nil)) de_int))
    (dss_cons (ds_set (i := 4) sc_L_draw.nd rfl (.inl rfl) (de_op op_mod od_mod (de_callTy call_int1 cd_int (by rfl) T.m_int (by decide +kernel) (da_cons (de_op op_mulA (od_mul false) (de_var (pv 4)) (de_op op_addM (od_add false) (de_op op_fdivM od_div (de_var (pv 4)) de_int) de_int)) da_nil)) de_int))
    (dss_cons (ds_set (i := 4) sc_L_draw.nd rfl (.inl rfl) (de_op op_mod od_mod (de_callTy call_int1 cd_int (by rfl) T.m_int (by decide +kernel) (da_cons (de_op op_mulA (od_mul false) (de_var (pv 4)) (de_op op_addM (od_add false) (de_op op_fdivM od_div (de_var (pv 4)) de_int) de_int)) da_nil)) de_int))
    (dss_one (ds_ret (de_op op_mod od_mod (de_callTy call_int1 cd_int (by rfl) T.m_int (by decide +kernel) (da_cons (de_op op_fdivM od_div (de_var (pv 4)) de_int) da_nil)) (de_var (pv 1)))))))))))
theorem ok_L_any (T : Txt K mg) : FnG PR w K mg base CX0 2 T.a_L_any T.d_L_any ["_law_hand_here", "_law_some"] (LSp K sp_L_any) := by
  refine fn_d T.F_L_any sc_L_any len_L_any (fun cdv A outer s H E F0 hr hmu => ⟨t_L_any, ?_, rd_L_any⟩)
  exact (dss_one (ds_ret (de_ix (de_var (pv 1)) (de_call ((ok_L_draw T).up (by decide)) hr hmu (by rfl) T.g_L_draw T.F_L_draw.kp T.b_L_draw pass0 koe0 (da_cons (de_var (pv 0)) (da_cons (de_callB call_len cd_len (by rfl) T.m_len (by decide +kernel) (da_cons (de_var (pv 1)) da_nil)) da_nil))) (fun _ _ => rfl))))
theorem ok_L_lowest (T : Txt K mg) : FnG PR w K mg base CX0 1 T.a_L_lowest T.d_L_lowest ["_law_top", "_law_bottom"] (LSp K sp_L_lowest) := by
  refine fn_d T.F_L_lowest sc_L_lowest len_L_lowest (fun cdv A outer s H E F0 hr hmu => ⟨t_L_lowest, ?_, rd_L_lowest⟩)
  exact (dss_cons (ds_par (i := 2) (j := 3) rfl sc_L_lowest.nd rfl rfl (by decide) rfl rfl (da_cons (de_callB call_abs cd_abs (by rfl) T.m_abs (by decide +kernel) (da_cons (de_var (pv 0)) da_nil)) (da_cons (de_var (pv 1)) da_nil)) (by rfl))
    (dss_cons (ds_while PassesOwn.never (dt_cmp op_gt od_gt (nomark _) (de_var (pv 3)) de_int) (dss_one (ds_par (i := 2) (j := 3) rfl sc_L_lowest.nd rfl rfl (by decide) rfl rfl (da_cons (de_var (pv 3)) (da_cons (de_op op_mod od_mod (de_callTy call_int1 cd_int (by rfl) T.m_int (by decide +kernel) (da_cons (de_var (pv 2)) da_nil)) (de_var (pv 3))) da_nil)) (by rfl))))
    (dss_one (ds_ret (de_tup (da_cons (de_op op_fdivM od_div (de_var (pv 0)) (de_var (pv 2))) (da_cons (de_op op_fdivM od_div (de_var (pv 1)) (de_var (pv 2))) da_nil)))))))
theorem ok_is_within (T : Txt K mg) : FnG PR w K mg base CX0 2 T.a_is_within T.d_is_within ["thing", "low", "high"] (LSp K sp_is_within) := by
  refine fn_d T.F_is_within sc_is_within len_is_within (fun cdv A outer s H E F0 hr hmu => ⟨t_is_within, ?_, rd_is_within⟩)
  exact (dss_one (ds_ret (de_and (de_call ((ok_is_integer T).up (by decide)) hr hmu (by rfl) T.g_is_integer T.F_is_integer.kp T.b_is_integer pass0 koe0 (da_cons (de_var (pv 0)) da_nil)) (pe_one (de_chain op_le od_le op_le od_le (de_var (pv 1)) (de_var (pv 0)) (de_var (pv 2)))))))
theorem ok_is_lot (T : Txt K mg) : FnG PR w K mg base CX0 3 T.a_is_lot T.d_is_lot ["thing", "many"] (LSp K sp_is_lot) := by
  refine fn_d T.F_is_lot sc_is_lot len_is_lot (fun cdv A outer s H E F0 hr hmu => ⟨t_is_lot, ?_, rd_is_lot⟩)
  exact (dss_cons (ds_if (PW.pt (dw_or (dt_not (dt_val (de_callB call_isi cd_isi (by rfl) T.m_isinstance (by decide +kernel) (da_cons (de_var (pv 0)) (da_cons (de_c (v := .ty "tuple") (d := .ty "tuple") (pe_bltn (by rfl) T.m_tuple (by decide +kernel) rfl) fun _ => .ty _) da_nil))))) (pw_or1 (dt_not (dt_val (de_callB (cr_all rfl) cd_all (by rfl) T.m_all (by decide +kernel) (da_cons (de_lc (own := [("one", 2)]) false rfl sc_is_lot.nd (di_seq (de_var (pv 0))) (blkOk_by (N := ["thing", "many", "one", "other"]) (sc := defScope s_is_lot) (by decide +kernel)) (fun _ _ _ _ _ => (dg_name (i := 2) sc_is_lot.nd rfl (Or.inl rfl) (by decide))) (fun _ _ _ _ _ => dts_nil) (fun _ _ _ _ _ => (de_call ((ok_is_within T).up (by decide)) hr hmu (by rfl) T.g_is_within T.F_is_within.kp T.b_is_within pass0 koe0 (da_cons (de_var (pv 2)) (da_cons de_int (da_cons (de_op op_sub od_sub (de_var (pv 1)) de_int) da_nil)))))) da_nil))))))) (dss_one (ds_ret de_bl)) dss_nil)
    (dss_one (ds_ret (de_callB (cr_all rfl) cd_all (by rfl) T.m_all (by decide +kernel) (da_cons (de_lc (own := [("one", 2), ("other", 3)]) false rfl sc_is_lot.nd (di_zipX (by rfl) T.m_zip (da_cons (de_var (pv 0)) (da_cons (de_slice false (de_var (pv 0)) (do_some de_int) do_none) da_nil))) (blkOk_by (N := ["thing", "many", "one", "other"]) (sc := defScope s_is_lot) (by decide +kernel)) (fun _ _ _ _ _ => (dg_tup rfl (dgs_cons (dg_name (i := 2) sc_is_lot.nd rfl (Or.inl rfl) (by decide)) (dgs_cons (dg_name (i := 3) sc_is_lot.nd rfl (Or.inl rfl) (by decide)) dgs_nil)))) (fun _ _ _ _ _ => dts_nil) (fun _ _ _ _ _ => (de_cmp op_lt od_lt (nomark _) (de_var (pv 2)) (de_var (pv 3))))) da_nil)))))
theorem ok_check_lots (T : Txt K mg) : FnG PR w K mg base (L2.CX PR w) 4 T.a_check_lots T.d_check_lots ["lots"] (LSp K sp_check_lots) := by
  refine fn_dE T.F_check_lots sc_check_lots len_check_lots (fun cdv A outer s H E F0 E' hr hmu ke => ⟨t_check_lots E', ?_, rd_check_lots E'⟩)
  exact (dss_one (ds_if (PW.pt (dw_or (dt_not (dt_val (de_callB call_isi cd_isi (by rfl) T.m_isinstance (by decide +kernel) (da_cons (de_var (pv 0)) (da_cons (de_c (v := .ty "tuple") (d := .ty "tuple") (pe_bltn (by rfl) T.m_tuple (by decide +kernel) rfl) fun _ => .ty _) da_nil))))) (dw_or (dt_cmp op_gt od_gt (nomark _) (de_callB call_len cd_len (by rfl) T.m_len (by decide +kernel) (da_cons (de_var (pv 0)) da_nil)) (de_c (v := .int 400) (d := .int 400) (pe_glob (by rfl) T.c_MOST_BEATS.2 ⟨_, rfl⟩) fun _ => .int _)) (pw_or1 (dt_not (dt_val (de_callB (cr_all rfl) cd_all (by rfl) T.m_all (by decide +kernel) (da_cons (de_lc (own := [("lot", 1)]) false rfl sc_check_lots.nd (di_seq (de_var (pv 0))) (blkOk_by (N := ["lots", "lot"]) (sc := defScope s_check_lots) (by decide +kernel)) (fun _ _ _ _ _ => (dg_name (i := 1) sc_check_lots.nd rfl (Or.inl rfl) (by decide))) (fun _ _ _ _ _ => dts_nil) (fun _ _ _ _ _ => (de_call ((ok_is_lot T).up (by decide)) hr hmu (by rfl) T.g_is_lot T.F_is_lot.kp T.b_is_lot pass0 koe0 (da_cons (de_var (pv 1)) (da_cons (de_c (v := .int 12) (d := .int 12) (pe_glob (by rfl) T.c_MOST_PEOPLE.2 ⟨_, rfl⟩) fun _ => .int _) da_nil))))) da_nil)))))))) (dss_one (ds_raise rfl takesX ke T.e_NoLots (by rfl))) dss_nil))
theorem ok_number_in (T : Txt K mg) : FnG PR w K mg base CX0 1 T.a_number_in T.d_number_in ["word"] (LSp K sp_number_in) := by
  refine fn_d T.F_number_in sc_number_in len_number_in (fun cdv A outer s H E F0 hr hmu => ⟨t_number_in, ?_, rd_number_in⟩)
  exact (dss_cons (ds_if (PW.pt (dw_or (dt_not (dt_chain op_le od_le op_le od_le de_int (de_callB call_len cd_len (by rfl) T.m_len (by decide +kernel) (da_cons (de_var (pv 0)) da_nil)) (de_c (v := .int 9) (d := .int 9) (pe_glob (by rfl) T.c_MOST_FIGURES.2 ⟨_, rfl⟩) fun _ => .int _))) (pw_or1 (dt_not (dt_val (de_callB (cr_all rfl) cd_all (by rfl) T.m_all (by decide +kernel) (da_cons (de_lc (own := [("sign", 1)]) false rfl sc_number_in.nd (di_str (de_var (pv 0))) (blkOk_by (N := ["word", "sign"]) (sc := defScope s_number_in) (by decide +kernel)) (fun _ _ _ _ _ => (dg_name (i := 1) sc_number_in.nd rfl (Or.inl rfl) (by decide))) (fun _ _ _ _ _ => dts_nil) (fun _ _ _ _ _ => (de_cmp op_in_sign od_inS (by rfl) (de_var (pv 1)) (de_c (v := .str "0123456789") (d := .str "0123456789") (pe_glob (by rfl) T.c_FIGURES.2 ⟨_, rfl⟩) fun _ => .str _)))) da_nil))))))) (dss_one (ds_ret de_non)) dss_nil)
    (dss_one (ds_ret (de_if (PW.pt (dw_and (dt_cmp op_gt od_gt (nomark _) (de_callB call_len cd_len (by rfl) T.m_len (by decide +kernel) (da_cons (de_var (pv 0)) da_nil)) de_int) (pw_and1 (dt_cmp (op_eqM hr.units) od_eq (nomark _) (de_ix (de_var (pv 0)) de_int (fun _ _ => rfl)) de_str)))) de_non (de_callTy call_int_str cd_intS (by rfl) T.m_int (by decide +kernel) (da_cons (de_var (pv 0)) da_nil))))))
theorem ok_numbers_in (T : Txt K mg) : FnG PR w K mg base CX0 2 T.a_numbers_in T.d_numbers_in ["word"] (LSp K sp_numbers_in) := by
  refine fn_d T.F_numbers_in sc_numbers_in len_numbers_in (fun cdv A outer s H E F0 hr hmu => ⟨t_numbers_in, ?_, rd_numbers_in⟩)
  exact (dss_cons (ds_set (i := 1) sc_numbers_in.nd rfl (.inl rfl) (de_callTy call_tuple_of cd_tuple (by rfl) T.m_tuple (by decide +kernel) (da_cons (de_lc (own := [("one", 2)]) false rfl sc_numbers_in.nd (di_seq (de_split false (de_var (pv 0)) de_str)) (blkOk_by (N := ["word", "found", "one"]) (sc := defScope s_numbers_in) (by decide +kernel)) (fun _ _ _ _ _ => (dg_name (i := 2) sc_numbers_in.nd rfl (Or.inl rfl) (by decide))) (fun _ _ _ _ _ => dts_nil) (fun _ _ _ _ _ => (de_call ((ok_number_in T).up (by decide)) hr hmu (by rfl) T.g_number_in T.F_number_in.kp T.b_number_in pass0 koe0 (da_cons (de_var (pv 2)) da_nil)))) da_nil)))
    (dss_one (ds_ret (de_if (dt_cmp op_in_seq (od_in false) (by rfl) de_non (de_var (pv 1))) de_non (de_var (pv 1))))))
theorem ok_lines_in (T : Txt K mg) : FnG PR w K mg base (L2.CX PR w) 3 T.a_lines_in T.d_lines_in ["text"] (LSp K sp_lines_in) := by
  refine fn_dE T.F_lines_in sc_lines_in len_lines_in (fun cdv A outer s H E F0 E' hr hmu ke => ⟨t_lines_in E', ?_, rd_lines_in E'⟩)
  exact (dss_cons (ds_if (dt_not (dt_val (de_callB call_isi cd_isi (by rfl) T.m_isinstance (by decide +kernel) (da_cons (de_var (pv 0)) (da_cons (de_c (v := .ty "str") (d := .ty "str") (pe_bltn (by rfl) T.m_str (by decide +kernel) rfl) fun _ => .ty _) da_nil))))) (dss_one (ds_raiseF rfl takesX (kow_own ke) T.e_BadText (hr.mono (by decide)) (by rfl) de_int)) dss_nil)
    (dss_cons (ds_set (i := 1) sc_lines_in.nd rfl (.inl rfl) (de_split false (de_var (pv 0)) de_str))
    (dss_one (ds_ret (de_tup (da_cons (de_slice false (de_var (pv 1)) do_none (do_some (de_neg de_int))) (da_cons (de_ix (de_var (pv 1)) (de_neg de_int) (fun _ _ => rfl)) da_nil)))))))
theorem ok_read_lots (T : Txt K mg) : FnG PR w K mg base (L2.CX PR w) 5 T.a_read_lots T.d_read_lots ["text"] (LSp K sp_read_lots) := by
  refine fn_dE T.F_read_lots sc_read_lots len_read_lots (fun cdv A outer s H E F0 E' hr hmu ke => ⟨t_read_lots E', ?_, rd_read_lots E'⟩)
  exact (dss_cons (ds_asg (vs := [1, 2]) (de_call ((ok_lines_in T).up (by decide)) hr hmu (by rfl) T.g_lines_in T.F_lines_in.kp T.b_lines_in passX ke (da_cons (de_var (pv 0)) da_nil)) (dg_tup rfl (dgs_cons (dg_name (i := 1) sc_read_lots.nd rfl (Or.inl rfl) (by decide)) (dgs_cons (dg_name (i := 2) sc_read_lots.nd rfl (Or.inl rfl) (by decide)) dgs_nil))))
    (dss_cons (ds_set (i := 3) sc_read_lots.nd rfl (.inl rfl) (de_lst true da_nil))
    (dss_cons (ds_for (vs := [4, 5]) ownX rfl (di_enumX (by rfl) T.m_enumerate (da_cons (de_var (pv 1)) da_nil)) (dg_tup rfl (dgs_cons (dg_name (i := 4) sc_read_lots.nd rfl (Or.inl rfl) (by decide)) (dgs_cons (dg_name (i := 5) sc_read_lots.nd rfl (Or.inl rfl) (by decide)) dgs_nil))) (dss_cons (ds_set (i := 6) sc_read_lots.nd rfl (.inl rfl) (de_if (dt_cmp (op_eqM hr.units) od_eq (nomark _) (de_var (pv 5)) (de_c (v := .str "-") (d := .str "-") (pe_glob (by rfl) T.c_NO_LOT.2 ⟨_, rfl⟩) fun _ => .str _)) (de_tup da_nil) (de_call ((ok_numbers_in T).up (by decide)) hr hmu (by rfl) T.g_numbers_in T.F_numbers_in.kp T.b_numbers_in pass0 koe0 (da_cons (de_var (pv 5)) da_nil))))
    (dss_cons (ds_if (dt_cmp op_isN od_isN (nomark _) (de_var (pv 6)) de_non) (dss_one (ds_raiseF rfl takesX (kow_own ke) T.e_BadText (hr.mono (by decide)) (by rfl) (de_op op_addM (od_add false) (de_var (pv 4)) de_int))) dss_nil)
    (dss_one (ds_expr (de_meL PySem.F.slot_list_append PySem.F.type_list_append mt_append md_append (de_var (pv 3)) (da_cons (de_var (pv 6)) da_nil)))))))
    (dss_cons (ds_if (dt_cmp (op_neM hr.units) od_ne (nomark _) (de_var (pv 2)) de_str) (dss_one (ds_raiseF rfl takesX (kow_own ke) T.e_BadText (hr.mono (by decide)) (by rfl) (de_op op_addM (od_add false) (de_callB call_len cd_len (by rfl) T.m_len (by decide +kernel) (da_cons (de_var (pv 1)) da_nil)) de_int))) dss_nil)
    (dss_cons (ds_expr (de_call ((ok_check_lots T).up (by decide)) hr hmu (by rfl) T.g_check_lots T.F_check_lots.kp T.b_check_lots passX ke (da_cons (de_callTy call_tuple_of cd_tuple (by rfl) T.m_tuple (by decide +kernel) (da_cons (de_var (pv 3)) da_nil)) da_nil)))
    (dss_one (ds_ret (de_callTy call_tuple_of cd_tuple (by rfl) T.m_tuple (by decide +kernel) (da_cons (de_var (pv 3)) da_nil)))))))))
theorem ok_numbers_text (T : Txt K mg) : FnG PR w K mg base CX0 1 T.a_numbers_text T.d_numbers_text ["numbers"] (LSp K sp_numbers_text) := by
  refine fn_d T.F_numbers_text sc_numbers_text len_numbers_text (fun cdv A outer s H E F0 hr hmu => ⟨t_numbers_text, ?_, rd_numbers_text⟩)
  exact (dss_one (ds_ret (de_join de_str (de_lc (own := [("number", 1)]) false rfl sc_numbers_text.nd (di_seq (de_var (pv 0))) (blkOk_by (N := ["numbers", "number"]) (sc := defScope s_numbers_text) (by decide +kernel)) (fun _ _ _ _ _ => (dg_name (i := 1) sc_numbers_text.nd rfl (Or.inl rfl) (by decide))) (fun _ _ _ _ _ => dts_nil) (fun _ _ _ _ _ => (de_callTy call_str_int cd_strT (by rfl) T.m_str (by decide +kernel) (da_cons (de_var (pv 1)) da_nil)))))))
theorem ok_lots_text (T : Txt K mg) : FnG PR w K mg base (L2.CX PR w) 5 T.a_lots_text T.d_lots_text ["lots"] (LSp K sp_lots_text) := by
  refine fn_dE T.F_lots_text sc_lots_text len_lots_text (fun cdv A outer s H E F0 E' hr hmu ke => ⟨t_lots_text E', ?_, rd_lots_text E'⟩)
  exact (dss_cons (ds_expr (de_call ((ok_check_lots T).up (by decide)) hr hmu (by rfl) T.g_check_lots T.F_check_lots.kp T.b_check_lots passX ke (da_cons (de_var (pv 0)) da_nil)))
    (dss_one (ds_ret (de_join de_str (de_lc (own := [("lot", 1)]) false rfl sc_lots_text.nd (di_seq (de_var (pv 0))) (blkOk_by (N := ["lots", "lot"]) (sc := defScope s_lots_text) (by decide +kernel)) (fun _ _ _ _ _ => (dg_name (i := 1) sc_lots_text.nd rfl (Or.inl rfl) (by decide))) (fun _ _ _ _ _ => dts_nil) (fun _ _ _ _ _ => (de_op op_addM (od_add false) (de_if (dt_cmp op_gt od_gt (nomark _) (de_callB call_len cd_len (by rfl) T.m_len (by decide +kernel) (da_cons (de_var (pv 1)) da_nil)) de_int) (de_call ((ok_numbers_text T).up (by decide)) hr hmu (by rfl) T.g_numbers_text T.F_numbers_text.kp T.b_numbers_text pass0 koe0 (da_cons (de_var (pv 1)) da_nil)) (de_c (v := .str "-") (d := .str "-") (pe_glob (by rfl) T.c_NO_LOT.2 ⟨_, rfl⟩) fun _ => .str _)) de_str)))))))
theorem ok_L_lots_told (T : Txt K mg) : FnG PR w K mg base CX0 1 T.a_L_lots_told T.d_L_lots_told ["_law_lots_here"] (LSp K sp_L_lots_told) := by
  refine fn_d T.F_L_lots_told sc_L_lots_told len_L_lots_told (fun cdv A outer s H E F0 hr hmu => ⟨t_L_lots_told, ?_, rd_L_lots_told⟩)
  exact (dss_one (ds_ret (de_join de_str (de_lc (own := [("_law_lot", 2)]) false rfl sc_L_lots_told.nd (di_seq (de_var (pv 0))) (blkOk_by (N := ["_law_lots_here", "_law_one", "_law_lot"]) (sc := defScope s_L_lots_told) (by decide +kernel)) (fun _ _ _ _ _ => (dg_name (i := 2) sc_L_lots_told.nd rfl (Or.inl rfl) (by decide))) (fun _ _ _ _ _ => dts_nil) (fun _ _ _ _ _ => (de_if (dt_cmp op_gt od_gt (nomark _) (de_callB call_len cd_len (by rfl) T.m_len (by decide +kernel) (da_cons (de_var (pv 2)) da_nil)) de_int) (de_op op_addM (od_add false) (de_join de_str (de_lc (own := [("_law_one", 1)]) false rfl sc_L_lots_told.nd (di_seq (de_var (pv 2))) (blkOk_any (N := ["_law_lots_here", "_law_one", "_law_lot"]) ⟨.function, [], false, false, []⟩ rfl (by decide +kernel)) (fun _ _ _ _ _ => (dg_name (i := 1) sc_L_lots_told.nd rfl (Or.inl rfl) (by decide))) (fun _ _ _ _ _ => dts_nil) (fun _ _ _ _ _ => (de_callTy call_str_int cd_strT (by rfl) T.m_str (by decide +kernel) (da_cons (de_var (pv 1)) da_nil))))) de_str) de_str))))))
theorem ok_are_shares (T : Txt K mg) : FnG PR w K mg base CX0 3 T.a_are_shares T.d_are_shares ["n", "m", "thing"] (LSp K sp_are_shares) := by
  refine fn_d T.F_are_shares sc_are_shares len_are_shares (fun cdv A outer s H E F0 hr hmu => ⟨t_are_shares, ?_, rd_are_shares⟩)
  exact (dss_cons (ds_if (PW.pt (dw_or (dt_not (dt_val (de_call ((ok_is_pair T).up (by decide)) hr hmu (by rfl) T.g_is_pair T.F_is_pair.kp T.b_is_pair pass0 koe0 (da_cons (de_var (pv 2)) da_nil)))) (dw_or (dt_not (dt_val (de_call ((ok_is_within T).up (by decide)) hr hmu (by rfl) T.g_is_within T.F_is_within.kp T.b_is_within pass0 koe0 (da_cons (de_ix (de_var (pv 2)) de_int (fun _ _ => rfl)) (da_cons de_int (da_cons (de_c (v := .int 360) (d := .int 360) (pe_glob (by rfl) T.c_MOST_BOTTOM.2 ⟨_, rfl⟩) fun _ => .int _) da_nil)))))) (pw_or1 (dt_not (dt_val (de_callB call_isi cd_isi (by rfl) T.m_isinstance (by decide +kernel) (da_cons (de_ix (de_var (pv 2)) de_int (fun _ _ => rfl)) (da_cons (de_c (v := .ty "tuple") (d := .ty "tuple") (pe_bltn (by rfl) T.m_tuple (by decide +kernel) rfl) fun _ => .ty _) da_nil))))))))) (dss_one (ds_ret de_bl)) dss_nil)
    (dss_cons (ds_if (PW.pt (dw_or (dt_cmp (op_neM hr.units) od_ne (nomark _) (de_callB call_len cd_len (by rfl) T.m_len (by decide +kernel) (da_cons (de_ix (de_var (pv 2)) de_int (fun _ _ => rfl)) da_nil)) (de_var (pv 0))) (pw_or1 (dt_not (dt_val (de_callB (cr_all rfl) cd_all (by rfl) T.m_all (by decide +kernel) (da_cons (de_lc (own := [("top", 3)]) false rfl sc_are_shares.nd (di_seq (de_ix (de_var (pv 2)) de_int (fun _ _ => rfl))) (blkOk_by (N := ["n", "m", "thing", "top"]) (sc := defScope s_are_shares) (by decide +kernel)) (fun _ _ _ _ _ => (dg_name (i := 3) sc_are_shares.nd rfl (Or.inl rfl) (by decide))) (fun _ _ _ _ _ => dts_nil) (fun _ _ _ _ _ => (de_call ((ok_is_within T).up (by decide)) hr hmu (by rfl) T.g_is_within T.F_is_within.kp T.b_is_within pass0 koe0 (da_cons (de_var (pv 3)) (da_cons de_int (da_cons (de_ix (de_var (pv 2)) de_int (fun _ _ => rfl)) da_nil)))))) da_nil))))))) (dss_one (ds_ret de_bl)) dss_nil)
    (dss_one (ds_ret (de_cmp (op_eqM hr.units) od_eq (nomark _) (de_callB (cr_sumA rfl) cd_sum (by rfl) T.m_sum (by decide +kernel) (da_cons (de_ix (de_var (pv 2)) de_int (fun _ _ => rfl)) da_nil)) (de_op op_mulA (od_mul false) (de_var (pv 1)) (de_ix (de_var (pv 2)) de_int (fun _ _ => rfl))))))))
theorem ok_first_wrong (T : Txt K mg) : FnG PR w K mg base CX0 4 T.a_first_wrong T.d_first_wrong ["n", "m", "row"] (LSp K sp_first_wrong) := by
  refine fn_d T.F_first_wrong sc_first_wrong len_first_wrong (fun cdv A outer s H E F0 hr hmu => ⟨t_first_wrong, ?_, rd_first_wrong⟩)
  exact (dss_cons (ds_if (PW.pt (dw_or (dt_not (dt_val (de_callB call_isi cd_isi (by rfl) T.m_isinstance (by decide +kernel) (da_cons (de_var (pv 2)) (da_cons (de_c (v := .ty "tuple") (d := .ty "tuple") (pe_bltn (by rfl) T.m_tuple (by decide +kernel) rfl) fun _ => .ty _) da_nil))))) (pw_or1 (dt_cmp op_gt od_gt (nomark _) (de_callB call_len cd_len (by rfl) T.m_len (by decide +kernel) (da_cons (de_var (pv 2)) da_nil)) (de_c (v := .int 400) (d := .int 400) (pe_glob (by rfl) T.c_MOST_BEATS.2 ⟨_, rfl⟩) fun _ => .int _))))) (dss_one (ds_ret (de_neg de_int))) dss_nil)
    (dss_cons (ds_for (vs := [3, 4]) PassesOwn.never rfl (di_enumX (by rfl) T.m_enumerate (da_cons (de_var (pv 2)) da_nil)) (dg_tup rfl (dgs_cons (dg_name (i := 3) sc_first_wrong.nd rfl (Or.inl rfl) (by decide)) (dgs_cons (dg_name (i := 4) sc_first_wrong.nd rfl (Or.inl rfl) (by decide)) dgs_nil))) (dss_one (ds_if (dt_not (dt_val (de_call ((ok_are_shares T).up (by decide)) hr hmu (by rfl) T.g_are_shares T.F_are_shares.kp T.b_are_shares pass0 koe0 (da_cons (de_var (pv 0)) (da_cons (de_var (pv 1)) (da_cons (de_var (pv 4)) da_nil)))))) (dss_one (ds_ret (de_var (pv 3)))) dss_nil)))
    (dss_one (ds_ret de_non))))
theorem ok_check_people (T : Txt K mg) : FnG PR w K mg base (L2.CX PR w) 3 T.a_check_people T.d_check_people ["n"] (LSp K sp_check_people) := by
  refine fn_dE T.F_check_people sc_check_people len_check_people (fun cdv A outer s H E F0 E' hr hmu ke => ⟨t_check_people E', ?_, rd_check_people E'⟩)
  exact (dss_one (ds_if (dt_not (dt_val (de_call ((ok_is_within T).up (by decide)) hr hmu (by rfl) T.g_is_within T.F_is_within.kp T.b_is_within pass0 koe0 (da_cons (de_var (pv 0)) (da_cons de_int (da_cons (de_c (v := .int 12) (d := .int 12) (pe_glob (by rfl) T.c_MOST_PEOPLE.2 ⟨_, rfl⟩) fun _ => .int _) da_nil)))))) (dss_one (ds_raise rfl takesX ke T.e_NoPeople (by rfl))) dss_nil))
theorem ok_check_things (T : Txt K mg) : FnG PR w K mg base (L2.CX PR w) 4 T.a_check_things T.d_check_things ["n", "m"] (LSp K sp_check_things) := by
  refine fn_dE T.F_check_things sc_check_things len_check_things (fun cdv A outer s H E F0 E' hr hmu ke => ⟨t_check_things E', ?_, rd_check_things E'⟩)
  exact (dss_cons (ds_expr (de_call ((ok_check_people T).up (by decide)) hr hmu (by rfl) T.g_check_people T.F_check_people.kp T.b_check_people passX ke (da_cons (de_var (pv 0)) da_nil)))
    (dss_one (ds_if (dt_not (dt_val (de_call ((ok_is_within T).up (by decide)) hr hmu (by rfl) T.g_is_within T.F_is_within.kp T.b_is_within pass0 koe0 (da_cons (de_var (pv 1)) (da_cons de_int (da_cons (de_var (pv 0)) da_nil)))))) (dss_one (ds_raise rfl takesX ke T.e_NoThings (by rfl))) dss_nil)))
theorem ok_check_row (T : Txt K mg) : FnG PR w K mg base (L2.CX PR w) 5 T.a_check_row T.d_check_row ["n", "m", "row"] (LSp K sp_check_row) := by
  refine fn_dE T.F_check_row sc_check_row len_check_row (fun cdv A outer s H E F0 E' hr hmu ke => ⟨t_check_row E', ?_, rd_check_row E'⟩)
  exact (dss_cons (ds_expr (de_call ((ok_check_things T).up (by decide)) hr hmu (by rfl) T.g_check_things T.F_check_things.kp T.b_check_things passX ke (da_cons (de_var (pv 0)) (da_cons (de_var (pv 1)) da_nil))))
    (dss_cons (ds_set (i := 3) sc_check_row.nd rfl (.inl rfl) (de_call ((ok_first_wrong T).up (by decide)) hr hmu (by rfl) T.g_first_wrong T.F_first_wrong.kp T.b_first_wrong pass0 koe0 (da_cons (de_var (pv 0)) (da_cons (de_var (pv 1)) (da_cons (de_var (pv 2)) da_nil)))))
    (dss_one (ds_if (dt_cmp op_notN od_notN (nomark _) (de_var (pv 3)) de_non) (dss_one (ds_raiseF rfl takesX (kow_own ke) T.e_NoRow (hr.mono (by decide)) (by rfl) (de_var (pv 3)))) dss_nil))))
theorem ok_head_in (T : Txt K mg) : FnG PR w K mg base CX0 2 T.a_head_in T.d_head_in ["line"] (LSp K sp_head_in) := by
  refine fn_d T.F_head_in sc_head_in len_head_in (fun cdv A outer s H E F0 hr hmu => ⟨t_head_in, ?_, rd_head_in⟩)
  exact (dss_cons (ds_set (i := 1) sc_head_in.nd rfl (.inl rfl) (de_split false (de_var (pv 0)) de_str))
    (dss_cons (ds_if (PW.pt (dw_or (dt_cmp (op_neM hr.units) od_ne (nomark _) (de_callB call_len cd_len (by rfl) T.m_len (by decide +kernel) (da_cons (de_var (pv 1)) da_nil)) de_int) (pw_or1 (dt_cmp (op_neM hr.units) od_ne (nomark _) (de_ix (de_var (pv 1)) de_int (fun _ _ => rfl)) de_str)))) (dss_one (ds_ret de_non)) dss_nil)
    (dss_cons (ds_set (i := 2) sc_head_in.nd rfl (.inl rfl) (de_tup (da_cons (de_call ((ok_number_in T).up (by decide)) hr hmu (by rfl) T.g_number_in T.F_number_in.kp T.b_number_in pass0 koe0 (da_cons (de_ix (de_var (pv 1)) de_int (fun _ _ => rfl)) da_nil)) (da_cons (de_call ((ok_number_in T).up (by decide)) hr hmu (by rfl) T.g_number_in T.F_number_in.kp T.b_number_in pass0 koe0 (da_cons (de_ix (de_var (pv 1)) de_int (fun _ _ => rfl)) da_nil)) da_nil))))
    (dss_one (ds_ret (de_if (dt_cmp op_in_seq (od_in false) (by rfl) de_non (de_var (pv 2))) de_non (de_var (pv 2))))))))
theorem ok_shares_in (T : Txt K mg) : FnG PR w K mg base CX0 3 T.a_shares_in T.d_shares_in ["line"] (LSp K sp_shares_in) := by
  refine fn_d T.F_shares_in sc_shares_in len_shares_in (fun cdv A outer s H E F0 hr hmu => ⟨t_shares_in, ?_, rd_shares_in⟩)
  exact (dss_cons (ds_set (i := 1) sc_shares_in.nd rfl (.inl rfl) (de_split false (de_var (pv 0)) de_str))
    (dss_cons (ds_if (PW.pt (dw_or (dt_cmp (op_neM hr.units) od_ne (nomark _) (de_callB call_len cd_len (by rfl) T.m_len (by decide +kernel) (da_cons (de_var (pv 1)) da_nil)) de_int) (pw_or1 (dt_cmp (op_neM hr.units) od_ne (nomark _) (de_ix (de_var (pv 1)) de_int (fun _ _ => rfl)) de_str)))) (dss_one (ds_ret de_non)) dss_nil)
    (dss_cons (ds_set (i := 2) sc_shares_in.nd rfl (.inl rfl) (de_tup (da_cons (de_call ((ok_number_in T).up (by decide)) hr hmu (by rfl) T.g_number_in T.F_number_in.kp T.b_number_in pass0 koe0 (da_cons (de_ix (de_var (pv 1)) de_int (fun _ _ => rfl)) da_nil)) (da_cons (de_call ((ok_numbers_in T).up (by decide)) hr hmu (by rfl) T.g_numbers_in T.F_numbers_in.kp T.b_numbers_in pass0 koe0 (da_cons (de_ix (de_var (pv 1)) de_int (fun _ _ => rfl)) da_nil)) da_nil))))
    (dss_one (ds_ret (de_if (dt_cmp (op_inP0 (units65 hr)) (od_inP false) (by rfl) de_non (de_var (pv 2))) de_non (de_var (pv 2))))))))
theorem ok_read_row (T : Txt K mg) : FnG PR w K mg base (L2.CX PR w) 6 T.a_read_row T.d_read_row ["text"] (LSp K sp_read_row) := by
  refine fn_dE T.F_read_row sc_read_row len_read_row (fun cdv A outer s H E F0 E' hr hmu ke => ⟨t_read_row E', ?_, rd_read_row E'⟩)
  exact (dss_cons (ds_asg (vs := [1, 2]) (de_call ((ok_lines_in T).up (by decide)) hr hmu (by rfl) T.g_lines_in T.F_lines_in.kp T.b_lines_in passX ke (da_cons (de_var (pv 0)) da_nil)) (dg_tup rfl (dgs_cons (dg_name (i := 1) sc_read_row.nd rfl (Or.inl rfl) (by decide)) (dgs_cons (dg_name (i := 2) sc_read_row.nd rfl (Or.inl rfl) (by decide)) dgs_nil))))
    (dss_cons (ds_par (i := 3) (j := 4) rfl sc_read_row.nd rfl rfl (by decide) rfl rfl (da_cons de_non (da_cons (de_lst true da_nil) da_nil)) (by rfl))
    (dss_cons (ds_for (vs := [5, 6]) ownX rfl (di_enumX (by rfl) T.m_enumerate (da_cons (de_var (pv 1)) da_nil)) (dg_tup rfl (dgs_cons (dg_name (i := 5) sc_read_row.nd rfl (Or.inl rfl) (by decide)) (dgs_cons (dg_name (i := 6) sc_read_row.nd rfl (Or.inl rfl) (by decide)) dgs_nil))) (dss_cons (ds_set (i := 7) sc_read_row.nd rfl (.inl rfl) (de_if (dt_cmp (op_eqM hr.units) od_eq (nomark _) (de_var (pv 5)) de_int) (de_call ((ok_head_in T).up (by decide)) hr hmu (by rfl) T.g_head_in T.F_head_in.kp T.b_head_in pass0 koe0 (da_cons (de_var (pv 6)) da_nil)) (de_call ((ok_shares_in T).up (by decide)) hr hmu (by rfl) T.g_shares_in T.F_shares_in.kp T.b_shares_in pass0 koe0 (da_cons (de_var (pv 6)) da_nil))))
    (dss_cons (ds_if (dt_cmp op_isN od_isN (nomark _) (de_var (pv 7)) de_non) (dss_one (ds_raiseF rfl takesX (kow_own ke) T.e_BadText (hr.mono (by decide)) (by rfl) (de_op op_addM (od_add false) (de_var (pv 5)) de_int))) dss_nil)
    (dss_one (ds_if (dt_cmp (op_eqM hr.units) od_eq (nomark _) (de_var (pv 5)) de_int) (dss_one (ds_set (i := 3) sc_read_row.nd rfl (.inl rfl) (de_var (pv 7)))) (dss_one (ds_expr (de_meL PySem.F.slot_list_append PySem.F.type_list_append mt_append md_append (de_var (pv 4)) (da_cons (de_var (pv 7)) da_nil)))))))))
    (dss_cons (ds_if (PW.pt (dw_or (dt_cmp (op_neM hr.units) od_ne (nomark _) (de_var (pv 2)) de_str) (pw_or1 (dt_cmp op_isN od_isN (nomark _) (de_var (pv 3)) de_non)))) (dss_one (ds_raiseF rfl takesX (kow_own ke) T.e_BadText (hr.mono (by decide)) (by rfl) (de_op op_addM (od_add false) (de_callB call_len cd_len (by rfl) T.m_len (by decide +kernel) (da_cons (de_var (pv 1)) da_nil)) de_int))) dss_nil)
    (dss_cons (ds_expr (de_call ((ok_check_row T).up (by decide)) hr hmu (by rfl) T.g_check_row T.F_check_row.kp T.b_check_row passX ke (da_cons (de_ix (de_var (pv 3)) de_int (fun _ _ => rfl)) (da_cons (de_ix (de_var (pv 3)) de_int (fun _ _ => rfl)) (da_cons (de_callTy call_tuple_of cd_tuple (by rfl) T.m_tuple (by decide +kernel) (da_cons (de_var (pv 4)) da_nil)) da_nil)))))
    (dss_one (ds_ret (de_tup (da_cons (de_ix (de_var (pv 3)) de_int (fun _ _ => rfl)) (da_cons (de_ix (de_var (pv 3)) de_int (fun _ _ => rfl)) (da_cons (de_callTy call_tuple_of cd_tuple (by rfl) T.m_tuple (by decide +kernel) (da_cons (de_var (pv 4)) da_nil)) da_nil)))))))))))
theorem ok_row_text (T : Txt K mg) : FnG PR w K mg base (L2.CX PR w) 6 T.a_row_text T.d_row_text ["n", "m", "row"] (LSp K sp_row_text) := by
  refine fn_dE T.F_row_text sc_row_text len_row_text (fun cdv A outer s H E F0 E' hr hmu ke => ⟨t_row_text E', ?_, rd_row_text E'⟩)
  exact (dss_cons (ds_expr (de_call ((ok_check_row T).up (by decide)) hr hmu (by rfl) T.g_check_row T.F_check_row.kp T.b_check_row passX ke (da_cons (de_var (pv 0)) (da_cons (de_var (pv 1)) (da_cons (de_var (pv 2)) da_nil)))))
    (dss_cons (ds_set (i := 3) sc_row_text.nd rfl (.inl rfl) (de_lst true (da_cons (de_op op_addM (od_add false) (de_op op_addM (od_add false) (de_op op_addM (od_add false) de_str (de_callTy call_str_int cd_strT (by rfl) T.m_str (by decide +kernel) (da_cons (de_var (pv 0)) da_nil))) de_str) (de_callTy call_str_int cd_strT (by rfl) T.m_str (by decide +kernel) (da_cons (de_var (pv 1)) da_nil))) da_nil)))
    (dss_cons (ds_for (vs := [4, 5]) ownX rfl (di_seq (de_var (pv 2))) (dg_tup rfl (dgs_cons (dg_name (i := 4) sc_row_text.nd rfl (Or.inl rfl) (by decide)) (dgs_cons (dg_name (i := 5) sc_row_text.nd rfl (Or.inl rfl) (by decide)) dgs_nil))) (dss_one (ds_expr (de_meL PySem.F.slot_list_append PySem.F.type_list_append mt_append md_append (de_var (pv 3)) (da_cons (de_op op_addM (od_add false) (de_op op_addM (od_add false) (de_op op_addM (od_add false) de_str (de_callTy call_str_int cd_strT (by rfl) T.m_str (by decide +kernel) (da_cons (de_var (pv 4)) da_nil))) de_str) (de_call ((ok_numbers_text T).up (by decide)) hr hmu (by rfl) T.g_numbers_text T.F_numbers_text.kp T.b_numbers_text pass0 koe0 (da_cons (de_var (pv 5)) da_nil))) da_nil)))))
    (dss_one (ds_ret (de_join de_str (de_lc (own := [("line", 6)]) false rfl sc_row_text.nd (di_seq (de_var (pv 3))) (blkOk_by (N := ["n", "m", "row", "found", "bottom", "tops", "line"]) (sc := defScope s_row_text) (by decide +kernel)) (fun _ _ _ _ _ => (dg_name (i := 6) sc_row_text.nd rfl (Or.inl rfl) (by decide))) (fun _ _ _ _ _ => dts_nil) (fun _ _ _ _ _ => (de_op op_addM (od_add false) (de_var (pv 6)) de_str)))))))))
theorem ok_L_row_told (T : Txt K mg) : FnG PR w K mg base CX0 1 T.a_L_row_told T.d_L_row_told ["_law_n", "_law_m", "_law_row_here"] (LSp K sp_L_row_told) := by
  refine fn_d T.F_L_row_told sc_L_row_told len_L_row_told (fun cdv A outer s H E F0 hr hmu => ⟨t_L_row_told, ?_, rd_L_row_told⟩)
  exact (dss_cons (ds_set (i := 3) sc_L_row_told.nd rfl (.inl rfl) (de_op op_addM (od_add false) (de_op op_addM (od_add false) (de_op op_addM (od_add false) (de_op op_addM (od_add false) de_str (de_callTy call_str_int cd_strT (by rfl) T.m_str (by decide +kernel) (da_cons (de_var (pv 0)) da_nil))) de_str) (de_callTy call_str_int cd_strT (by rfl) T.m_str (by decide +kernel) (da_cons (de_var (pv 1)) da_nil))) de_str))
    (dss_cons (ds_for (vs := [4, 5]) PassesOwn.never rfl (di_seq (de_var (pv 2))) (dg_tup rfl (dgs_cons (dg_name (i := 4) sc_L_row_told.nd rfl (Or.inl rfl) (by decide)) (dgs_cons (dg_name (i := 5) sc_L_row_told.nd rfl (Or.inl rfl) (by decide)) dgs_nil))) (dss_one (ds_set (i := 3) sc_L_row_told.nd rfl (.inl rfl) (de_op op_addM (od_add false) (de_op op_addM (od_add false) (de_op op_addM (od_add false) (de_op op_addM (od_add false) (de_op op_addM (od_add false) (de_var (pv 3)) de_str) (de_callTy call_str_int cd_strT (by rfl) T.m_str (by decide +kernel) (da_cons (de_var (pv 4)) da_nil))) de_str) (de_join de_str (de_lc (own := [("_law_top", 6)]) false rfl sc_L_row_told.nd (di_seq (de_var (pv 5))) (blkOk_by (N := ["_law_n", "_law_m", "_law_row_here", "_law_found", "_law_bottom", "_law_tops", "_law_top"]) (sc := defScope s_L_row_told) (by decide +kernel)) (fun _ _ _ _ _ => (dg_name (i := 6) sc_L_row_told.nd rfl (Or.inl rfl) (by decide))) (fun _ _ _ _ _ => dts_nil) (fun _ _ _ _ _ => (de_callTy call_str_int cd_strT (by rfl) T.m_str (by decide +kernel) (da_cons (de_var (pv 6)) da_nil)))))) de_str))))
    (dss_one (ds_ret (de_var (pv 3))))))
theorem ok_L_shares (T : Txt K mg) : FnG PR w K mg base CX0 3 T.a_L_shares T.d_L_shares ["_law_hand_here", "_law_n", "_law_m"] (LSp K sp_L_shares) := by
  refine fn_d T.F_L_shares sc_L_shares len_L_shares (fun cdv A outer s H E F0 hr hmu => ⟨t_L_shares, ?_, rd_L_shares⟩)
  exact (dss_cons (ds_set (i := 3) sc_L_shares.nd rfl (.inr rfl) (de_call ((ok_L_any T).up (by decide)) hr hmu (by rfl) T.g_L_any T.F_L_any.kp T.b_L_any pass0 koe0 (da_cons (de_var (pv 0)) (da_cons (de_lst false (da_cons de_int (da_cons de_int (da_cons de_int (da_cons de_int (da_cons de_int (da_cons de_int (da_cons (de_op op_addM (od_add false) de_int (de_call ((ok_L_draw T).up (by decide)) hr hmu (by rfl) T.g_L_draw T.F_L_draw.kp T.b_L_draw pass0 koe0 (da_cons (de_var (pv 0)) (da_cons de_int da_nil)))) da_nil)))))))) da_nil))))
    (dss_cons (ds_set (i := 4) sc_L_shares.nd rfl (.inr rfl) (de_op op_mulA (od_mul true) (de_lst false (da_cons de_int da_nil)) (de_var (pv 1))))
    (dss_cons (ds_set (i := 5) sc_L_shares.nd rfl (.inl rfl) (de_op op_mulA (od_mul false) (de_var (pv 2)) (de_var (pv 3))))
    (dss_cons (ds_while PassesOwn.never (dt_cmp op_gt od_gt (nomark _) (de_var (pv 5)) de_int) (dss_cons (ds_par (i := 6) (j := 7) rfl sc_L_shares.nd rfl rfl (by decide) rfl rfl (da_cons (de_call ((ok_L_draw T).up (by decide)) hr hmu (by rfl) T.g_L_draw T.F_L_draw.kp T.b_L_draw pass0 koe0 (da_cons (de_var (pv 0)) (da_cons (de_var (pv 1)) da_nil))) (da_cons (de_op op_addM (od_add false) de_int (de_call ((ok_L_draw T).up (by decide)) hr hmu (by rfl) T.g_L_draw T.F_L_draw.kp T.b_L_draw pass0 koe0 (da_cons (de_var (pv 0)) (da_cons (de_var (pv 5)) da_nil)))) da_nil)) (by rfl))
    (dss_cons (ds_set (i := 7) sc_L_shares.nd rfl (.inl rfl) (de_callB (call_min2 rfl) cd_min2 (by rfl) T.m_min (by decide +kernel) (da_cons (de_var (pv 7)) (da_cons (de_op op_sub od_sub (de_var (pv 3)) (de_ix (de_var (pv 4)) (de_var (pv 6)) (fun _ _ => rfl))) da_nil))))
    (dss_cons (ds_if (dt_cmp (op_eqM hr.units) od_eq (nomark _) (de_var (pv 7)) de_int) (dss_cons (ds_set (i := 6) sc_L_shares.nd rfl (.inl rfl) (de_ix (de_lc (own := [("_law_one", 8)]) false rfl sc_L_shares.nd (di_range1 (by rfl) T.m_range (da_cons (de_var (pv 1)) da_nil)) (blkOk_by (N := ["_law_hand_here", "_law_n", "_law_m", "_law_bottom", "_law_tops", "_law_left", "_law_person", "_law_part", "_law_one"]) (sc := defScope s_L_shares) (by decide +kernel)) (fun _ _ _ _ _ => (dg_name (i := 8) sc_L_shares.nd rfl (Or.inl rfl) (by decide))) (fun _ _ _ _ _ => (dts_one (dt_cmp op_lt od_lt (nomark _) (de_ix (de_var (pv 4)) (de_var (pv 8)) (fun _ _ => rfl)) (de_var (pv 3))))) (fun _ _ _ _ _ => (de_var (pv 8)))) de_int (fun _ _ => rfl)))
    (dss_one (ds_set (i := 7) sc_L_shares.nd rfl (.inl rfl) (de_callB (call_min2 rfl) cd_min2 (by rfl) T.m_min (by decide +kernel) (da_cons (de_var (pv 5)) (da_cons (de_op op_sub od_sub (de_var (pv 3)) (de_ix (de_var (pv 4)) (de_var (pv 6)) (fun _ _ => rfl))) da_nil)))))) dss_nil)
    (dss_one (ds_asg (vs := [5]) (de_tup (da_cons (de_op op_addM (od_add false) (de_ix (de_var (pv 4)) (de_var (pv 6)) (fun _ _ => rfl)) (de_var (pv 7))) (da_cons (de_op op_sub od_sub (de_var (pv 5)) (de_var (pv 7))) da_nil))) (dg_tup rfl (dgs_cons (dg_sub (de_var (pv 4)) (de_var (pv 6))) (dgs_cons (dg_name (i := 5) sc_L_shares.nd rfl (Or.inl rfl) (by decide)) dgs_nil)))))))))
    (dss_one (ds_ret (de_tup (da_cons (de_var (pv 3)) (da_cons (de_callTy call_tuple_of cd_tuple (by rfl) T.m_tuple (by decide +kernel) (da_cons (de_var (pv 4)) da_nil)) da_nil)))))))))
theorem ok_L_row (T : Txt K mg) : FnG PR w K mg base CX0 4 T.a_L_row T.d_L_row ["_law_hand_here", "_law_n", "_law_m", "_law_most"] (LSp K sp_L_row) := by
  refine fn_d T.F_L_row sc_L_row len_L_row (fun cdv A outer s H E F0 hr hmu => ⟨t_L_row, ?_, rd_L_row⟩)
  exact (dss_one (ds_ret (de_callTy call_tuple_of cd_tuple (by rfl) T.m_tuple (by decide +kernel) (da_cons (de_lc (own := [("_law_beat", 4)]) false rfl sc_L_row.nd (di_range1 (by rfl) T.m_range (da_cons (de_call ((ok_L_draw T).up (by decide)) hr hmu (by rfl) T.g_L_draw T.F_L_draw.kp T.b_L_draw pass0 koe0 (da_cons (de_var (pv 0)) (da_cons (de_op op_addM (od_add false) (de_var (pv 3)) de_int) da_nil))) da_nil)) (blkOk_by (N := ["_law_hand_here", "_law_n", "_law_m", "_law_most", "_law_beat"]) (sc := defScope s_L_row) (by decide +kernel)) (fun _ _ _ _ _ => (dg_name (i := 4) sc_L_row.nd rfl (Or.inl rfl) (by decide))) (fun _ _ _ _ _ => dts_nil) (fun _ _ _ _ _ => (de_call ((ok_L_shares T).up (by decide)) hr hmu (by rfl) T.g_L_shares T.F_L_shares.kp T.b_L_shares pass0 koe0 (da_cons (de_var (pv 0)) (da_cons (de_var (pv 1)) (da_cons (de_var (pv 2)) da_nil)))))) da_nil))))
theorem ok_L_lots (T : Txt K mg) : FnG PR w K mg base CX0 3 T.a_L_lots T.d_L_lots ["_law_hand_here", "_law_most"] (LSp K sp_L_lots) := by
  refine fn_d T.F_L_lots sc_L_lots len_L_lots (fun cdv A outer s H E F0 hr hmu => ⟨t_L_lots, ?_, rd_L_lots⟩)
  exact (dss_cons (ds_set (i := 2) sc_L_lots.nd rfl (.inl rfl) (de_lst true da_nil))
    (dss_cons (ds_for (vs := [3]) PassesOwn.never rfl (di_range1 (by rfl) T.m_range (da_cons (de_call ((ok_L_draw T).up (by decide)) hr hmu (by rfl) T.g_L_draw T.F_L_draw.kp T.b_L_draw pass0 koe0 (da_cons (de_var (pv 0)) (da_cons (de_op op_addM (od_add false) (de_var (pv 1)) de_int) da_nil))) da_nil)) (dg_name (i := 3) sc_L_lots.nd rfl (Or.inl rfl) (by decide)) (dss_cons (ds_set (i := 4) sc_L_lots.nd rfl (.inr rfl) (de_call ((ok_L_any T).up (by decide)) hr hmu (by rfl) T.g_L_any T.F_L_any.kp T.b_L_any pass0 koe0 (da_cons (de_var (pv 0)) (da_cons (de_lst false (da_cons de_int (da_cons de_int (da_cons de_int da_nil)))) da_nil))))
    (dss_one (ds_expr (de_meL PySem.F.slot_list_append PySem.F.type_list_append mt_append md_append (de_var (pv 2)) (da_cons (de_callTy call_tuple_of cd_tuple (by rfl) T.m_tuple (by decide +kernel) (da_cons (de_lc (own := [("_law_one", 5)]) false rfl sc_L_lots.nd (di_range1 (by rfl) T.m_range (da_cons de_int da_nil)) (blkOk_by (N := ["_law_hand_here", "_law_most", "_law_found", "_law_beat", "_law_rare", "_law_one"]) (sc := defScope s_L_lots) (by decide +kernel)) (fun _ _ _ _ _ => (dg_name (i := 5) sc_L_lots.nd rfl (Or.inl rfl) (by decide))) (fun _ _ _ _ _ => (dts_one (dt_cmp (op_eqM hr.units) od_eq (nomark _) (de_call ((ok_L_draw T).up (by decide)) hr hmu (by rfl) T.g_L_draw T.F_L_draw.kp T.b_L_draw pass0 koe0 (da_cons (de_var (pv 0)) (da_cons (de_var (pv 4)) da_nil))) de_int))) (fun _ _ _ _ _ => (de_var (pv 5)))) da_nil)) da_nil))))))
    (dss_one (ds_ret (de_callTy call_tuple_of cd_tuple (by rfl) T.m_tuple (by decide +kernel) (da_cons (de_var (pv 2)) da_nil))))))
theorem ok_L_hand (T : Txt K mg) : FnG PR w K mg base CX0 1 T.a_L_hand T.d_L_hand ["_law_script"] (LSp K sp_L_hand) := by
  refine fn_d T.F_L_hand sc_L_hand len_L_hand (fun cdv A outer s H E F0 hr hmu => ⟨t_L_hand, ?_, rd_L_hand⟩)
  exact (dss_cons (ds_setLc (i := 1) (sw_true rfl rfl rfl (by decide +kernel)) rfl rfl (own := [("_law_cell", 2)]) false rfl sc_L_hand.nd (di_seq (de_slice false (de_var (pv 0)) do_none (do_some de_int))) (blkOk_by (N := ["_law_script", "_law_cells", "_law_cell"]) (sc := defScope s_L_hand) (by decide +kernel)) (fun _ _ _ _ _ => (dg_name (i := 2) sc_L_hand.nd rfl (Or.inl rfl) (by decide))) (fun _ _ _ _ _ => dts_nil) (fun _ _ _ _ _ => (de_callB call_abs cd_abs (by rfl) T.m_abs (by decide +kernel) (da_cons (de_callTy call_int1 cd_int (by rfl) T.m_int (by decide +kernel) (da_cons (de_var (pv 2)) da_nil)) da_nil))))
    (dss_one (ds_ret (de_lst true (da_cons (de_var (pv 1)) (da_cons de_int (da_cons de_int (da_cons (de_op op_addM (od_add false) de_int (de_callB call_len cd_len (by rfl) T.m_len (by decide +kernel) (da_cons (de_var (pv 1)) da_nil))) (da_cons de_int da_nil)))))))))
theorem ok_law (T : Txt K mg) : FnG PR w K mg base CX0 7 T.a_law T.d_law ["_law_script"] (LSp K sp_law) := by
  refine fn_d T.F_law sc_law len_law (fun cdv A outer s H E F0 hr hmu => ⟨t_law, ?_, rd_law⟩)
  exact (dss_cons (ds_set (i := 1) sc_law.nd rfl (.inl rfl) (de_call ((ok_L_hand T).up (by decide)) hr hmu (by rfl) T.g_L_hand T.F_L_hand.kp T.b_L_hand pass0 koe0 (da_cons (de_var (pv 0)) da_nil)))
    (dss_cons (ds_set (i := 2) sc_law.nd rfl (.inl rfl) (de_cmp (op_eqM hr.units) od_eq (nomark _) (de_call ((ok_L_draw T).up (by decide)) hr hmu (by rfl) T.g_L_draw T.F_L_draw.kp T.b_L_draw pass0 koe0 (da_cons (de_var (pv 1)) (da_cons de_int da_nil))) de_int))
    (dss_cons (ds_for (vs := [3]) PassesOwn.never rfl (di_range1 (by rfl) T.m_range (da_cons de_int da_nil)) (dg_name (i := 3) sc_law.nd rfl (Or.inl rfl) (by decide)) (dss_cons (ds_set (i := 4) sc_law.nd rfl (.inl rfl) (de_op op_addM (od_add false) de_int (de_call ((ok_L_draw T).up (by decide)) hr hmu (by rfl) T.g_L_draw T.F_L_draw.kp T.b_L_draw pass0 koe0 (da_cons (de_var (pv 1)) (da_cons de_int da_nil)))))
    (dss_cons (ds_set (i := 5) sc_law.nd rfl (.inl rfl) (de_op op_addM (od_add false) de_int (de_call ((ok_L_draw T).up (by decide)) hr hmu (by rfl) T.g_L_draw T.F_L_draw.kp T.b_L_draw pass0 koe0 (da_cons (de_var (pv 1)) (da_cons (de_var (pv 4)) da_nil)))))
    (dss_cons (ds_par (i := 6) (j := 7) rfl sc_law.nd rfl rfl (by decide) rfl rfl (da_cons (de_call ((ok_L_row T).up (by decide)) hr hmu (by rfl) T.g_L_row T.F_L_row.kp T.b_L_row pass0 koe0 (da_cons (de_var (pv 1)) (da_cons (de_var (pv 4)) (da_cons (de_var (pv 5)) (da_cons de_int da_nil))))) (da_cons (de_call ((ok_L_lots T).up (by decide)) hr hmu (by rfl) T.g_L_lots T.F_L_lots.kp T.b_L_lots pass0 koe0 (da_cons (de_var (pv 1)) (da_cons de_int da_nil))) da_nil)) (by rfl))
    (dss_cons (ds_if (PW.pt (dw_and (dt_val (de_var (pv 2))) (pw_and1 (dt_cmp (op_eqM hr.units) od_eq (nomark _) (de_var (pv 3)) de_int)))) (dss_one (ds_par (i := 6) (j := 7) rfl sc_law.nd rfl rfl (by decide) rfl rfl (da_cons (de_op op_mulA (od_mul false) (de_tup (da_cons (de_call ((ok_L_shares T).up (by decide)) hr hmu (by rfl) T.g_L_shares T.F_L_shares.kp T.b_L_shares pass0 koe0 (da_cons (de_var (pv 1)) (da_cons (de_var (pv 4)) (da_cons (de_var (pv 5)) da_nil)))) da_nil)) de_int) (da_cons (de_op op_mulA (od_mul false) (de_tup (da_cons (de_tup (da_cons de_int (da_cons de_int (da_cons de_int da_nil)))) (da_cons (de_tup da_nil) da_nil))) de_int) da_nil)) (by rfl))) dss_nil)
    (dss_cons (ds_set (i := 8) sc_law.nd rfl (.inl rfl) (de_call ((ok_L_row_told T).up (by decide)) hr hmu (by rfl) T.g_L_row_told T.F_L_row_told.kp T.b_L_row_told pass0 koe0 (da_cons (de_var (pv 4)) (da_cons (de_var (pv 5)) (da_cons (de_var (pv 6)) da_nil)))))
    (dss_cons (ds_if (PW.pt (dw_or (dt_cmp (op_neM hr.units) od_ne (nomark _) (de_call ((ok_row_text T).up (by decide)) hr hmu (by rfl) T.g_row_text T.F_row_text.kp T.b_row_text passF koe0 (da_cons (de_var (pv 4)) (da_cons (de_var (pv 5)) (da_cons (de_var (pv 6)) da_nil)))) (de_var (pv 8))) (pw_or1 (dt_cmp (op_neM hr.units) od_ne (nomark _) (de_callB (cr_repr hmu (hu120 hr)) cd_repr (by rfl) T.m_repr (by decide +kernel) (da_cons (de_call ((ok_read_row T).up (by decide)) hr hmu (by rfl) T.g_read_row T.F_read_row.kp T.b_read_row passF koe0 (da_cons (de_var (pv 8)) da_nil)) da_nil)) (de_callB (cr_repr hmu (hu120 hr)) cd_repr (by rfl) T.m_repr (by decide +kernel) (da_cons (de_tup (da_cons (de_var (pv 4)) (da_cons (de_var (pv 5)) (da_cons (de_var (pv 6)) da_nil)))) da_nil)))))) (dss_one (ds_ret de_bl)) dss_nil)
    (dss_cons (ds_set (i := 8) sc_law.nd rfl (.inl rfl) (de_call ((ok_L_lots_told T).up (by decide)) hr hmu (by rfl) T.g_L_lots_told T.F_L_lots_told.kp T.b_L_lots_told pass0 koe0 (da_cons (de_var (pv 7)) da_nil)))
    (dss_cons (ds_if (PW.pt (dw_or (dt_cmp (op_neM hr.units) od_ne (nomark _) (de_call ((ok_lots_text T).up (by decide)) hr hmu (by rfl) T.g_lots_text T.F_lots_text.kp T.b_lots_text passF koe0 (da_cons (de_var (pv 7)) da_nil)) (de_var (pv 8))) (pw_or1 (dt_cmp (op_neM hr.units) od_ne (nomark _) (de_callB (cr_repr hmu (hu120 hr)) cd_repr (by rfl) T.m_repr (by decide +kernel) (da_cons (de_call ((ok_read_lots T).up (by decide)) hr hmu (by rfl) T.g_read_lots T.F_read_lots.kp T.b_read_lots passF koe0 (da_cons (de_var (pv 8)) da_nil)) da_nil)) (de_callB (cr_repr hmu (hu120 hr)) cd_repr (by rfl) T.m_repr (by decide +kernel) (da_cons (de_var (pv 7)) da_nil)))))) (dss_one (ds_ret de_bl)) dss_nil)
    (dss_cons (ds_set (i := 9) sc_law.nd rfl (.inl rfl) (de_call ((ok_L_any T).up (by decide)) hr hmu (by rfl) T.g_L_any T.F_L_any.kp T.b_L_any pass0 koe0 (da_cons (de_var (pv 1)) (da_cons (de_lst false (da_cons de_int (da_cons de_int (da_cons (de_neg de_int) (da_cons de_int (da_cons (de_op op_pow od_pow de_int de_int) (da_cons (de_neg (de_op op_pow od_pow de_int de_int)) (da_cons (de_call ((ok_L_draw T).up (by decide)) hr hmu (by rfl) T.g_L_draw T.F_L_draw.kp T.b_L_draw pass0 koe0 (da_cons (de_var (pv 1)) (da_cons de_int da_nil))) (da_cons (de_neg (de_call ((ok_L_draw T).up (by decide)) hr hmu (by rfl) T.g_L_draw T.F_L_draw.kp T.b_L_draw pass0 koe0 (da_cons (de_var (pv 1)) (da_cons de_int da_nil)))) da_nil))))))))) da_nil))))
    (dss_cons (ds_set (i := 10) sc_law.nd rfl (.inl rfl) (de_call ((ok_L_lowest T).up (by decide)) hr hmu (by rfl) T.g_L_lowest T.F_L_lowest.kp T.b_L_lowest pass0 koe0 (da_cons (de_var (pv 9)) (da_cons (de_call ((ok_L_any T).up (by decide)) hr hmu (by rfl) T.g_L_any T.F_L_any.kp T.b_L_any pass0 koe0 (da_cons (de_var (pv 1)) (da_cons (de_lst false (da_cons de_int (da_cons de_int (da_cons de_int (da_cons de_int (da_cons de_int (da_cons (de_op op_addM (od_add false) (de_op op_pow od_pow de_int de_int) de_int) da_nil))))))) da_nil))) da_nil))))
    (dss_one (ds_if (dt_cmp (op_neM hr.units) od_ne (nomark _) (de_call ((ok_fraction_text T).up (by decide)) hr hmu (by rfl) T.g_fraction_text T.F_fraction_text.kp T.b_fraction_text passF koe0 (da_cons (de_var (pv 10)) da_nil)) (de_call ((ok_L_fraction_told T).up (by decide)) hr hmu (by rfl) T.g_L_fraction_told T.F_L_fraction_told.kp T.b_L_fraction_told pass0 koe0 (da_cons (de_var (pv 10)) da_nil))) (dss_one (ds_ret de_bl)) dss_nil)))))))))))))
    (dss_one (ds_ret de_bl)))))
end
set_option maxHeartbeats 0 in
theorem all_mk {w : World} {K : PySem.W.Frag} {h : Heap} {mg : Str → Option Value} {fa : Addr} (X : K.In h) (G : h.Ns mainGlobals mg) (hlaw : mg "law" = some (.ref fa)) (c : SaysH hfa hfn hfi hex htf h K) :
    ∃ fd : FuncData, (∀ (s : Shared) (v : Value), BindsTo s fd ⟨[v], []⟩ [("_law_script", v)]) ∧ ∀ base : Heap, K.In base → base.Ns mainGlobals mg → FnG PR w K mg base CX0 7 fa fd ["_law_script"] (LSp K sp_law) := by
  have e : He.ga K "law" = fa := by
    have e := hlaw.symm.trans (He.glo_ok X G (c.fact 33 rfl))
    cases e
    rfl
  subst e
  obtain ⟨d_divisor, F_divisor⟩ := c.def_ 0 (x := "divisor") (q := "divisor") (a := ("divisor", none)) (st := s_divisor) rfl
  obtain ⟨d_is_integer, F_is_integer⟩ := c.def_ 1 (x := "is_integer") (q := "is_integer") (a := ("is_integer", none)) (st := s_is_integer) rfl
  obtain ⟨d_is_pair, F_is_pair⟩ := c.def_ 2 (x := "is_pair") (q := "is_pair") (a := ("is_pair", none)) (st := s_is_pair) rfl
  obtain ⟨d_is_fraction, F_is_fraction⟩ := c.def_ 3 (x := "is_fraction") (q := "is_fraction") (a := ("is_fraction", none)) (st := s_is_fraction) rfl
  obtain ⟨d_fraction_text, F_fraction_text⟩ := c.def_ 4 (x := "fraction_text") (q := "fraction_text") (a := ("fraction_text", none)) (st := s_fraction_text) rfl
  obtain ⟨d_L_fraction_told, F_L_fraction_told⟩ := c.def_ 5 (x := "_law_fraction_told") (q := "_law_fraction_told") (a := ("_law_fraction_told", none)) (st := s_L_fraction_told) rfl
  obtain ⟨d_L_draw, F_L_draw⟩ := c.def_ 6 (x := "_law_draw") (q := "_law_draw") (a := ("_law_draw", none)) (st := s_L_draw) rfl
  obtain ⟨d_L_any, F_L_any⟩ := c.def_ 7 (x := "_law_any") (q := "_law_any") (a := ("_law_any", none)) (st := s_L_any) rfl
  obtain ⟨d_L_lowest, F_L_lowest⟩ := c.def_ 8 (x := "_law_lowest") (q := "_law_lowest") (a := ("_law_lowest", none)) (st := s_L_lowest) rfl
  obtain ⟨d_is_within, F_is_within⟩ := c.def_ 9 (x := "is_within") (q := "is_within") (a := ("is_within", none)) (st := s_is_within) rfl
  obtain ⟨d_is_lot, F_is_lot⟩ := c.def_ 10 (x := "is_lot") (q := "is_lot") (a := ("is_lot", none)) (st := s_is_lot) rfl
  obtain ⟨d_check_lots, F_check_lots⟩ := c.def_ 11 (x := "check_lots") (q := "check_lots") (a := ("check_lots", none)) (st := s_check_lots) rfl
  obtain ⟨d_number_in, F_number_in⟩ := c.def_ 12 (x := "number_in") (q := "number_in") (a := ("number_in", none)) (st := s_number_in) rfl
  obtain ⟨d_numbers_in, F_numbers_in⟩ := c.def_ 13 (x := "numbers_in") (q := "numbers_in") (a := ("numbers_in", none)) (st := s_numbers_in) rfl
  obtain ⟨d_lines_in, F_lines_in⟩ := c.def_ 14 (x := "lines_in") (q := "lines_in") (a := ("lines_in", none)) (st := s_lines_in) rfl
  obtain ⟨d_read_lots, F_read_lots⟩ := c.def_ 15 (x := "read_lots") (q := "read_lots") (a := ("read_lots", none)) (st := s_read_lots) rfl
  obtain ⟨d_numbers_text, F_numbers_text⟩ := c.def_ 16 (x := "numbers_text") (q := "numbers_text") (a := ("numbers_text", none)) (st := s_numbers_text) rfl
  obtain ⟨d_lots_text, F_lots_text⟩ := c.def_ 17 (x := "lots_text") (q := "lots_text") (a := ("lots_text", none)) (st := s_lots_text) rfl
  obtain ⟨d_L_lots_told, F_L_lots_told⟩ := c.def_ 18 (x := "_law_lots_told") (q := "_law_lots_told") (a := ("_law_lots_told", none)) (st := s_L_lots_told) rfl
  obtain ⟨d_are_shares, F_are_shares⟩ := c.def_ 19 (x := "are_shares") (q := "are_shares") (a := ("are_shares", none)) (st := s_are_shares) rfl
  obtain ⟨d_first_wrong, F_first_wrong⟩ := c.def_ 20 (x := "first_wrong") (q := "first_wrong") (a := ("first_wrong", none)) (st := s_first_wrong) rfl
  obtain ⟨d_check_people, F_check_people⟩ := c.def_ 21 (x := "check_people") (q := "check_people") (a := ("check_people", none)) (st := s_check_people) rfl
  obtain ⟨d_check_things, F_check_things⟩ := c.def_ 22 (x := "check_things") (q := "check_things") (a := ("check_things", none)) (st := s_check_things) rfl
  obtain ⟨d_check_row, F_check_row⟩ := c.def_ 23 (x := "check_row") (q := "check_row") (a := ("check_row", none)) (st := s_check_row) rfl
  obtain ⟨d_head_in, F_head_in⟩ := c.def_ 24 (x := "head_in") (q := "head_in") (a := ("head_in", none)) (st := s_head_in) rfl
  obtain ⟨d_shares_in, F_shares_in⟩ := c.def_ 25 (x := "shares_in") (q := "shares_in") (a := ("shares_in", none)) (st := s_shares_in) rfl
  obtain ⟨d_read_row, F_read_row⟩ := c.def_ 26 (x := "read_row") (q := "read_row") (a := ("read_row", none)) (st := s_read_row) rfl
  obtain ⟨d_row_text, F_row_text⟩ := c.def_ 27 (x := "row_text") (q := "row_text") (a := ("row_text", none)) (st := s_row_text) rfl
  obtain ⟨d_L_row_told, F_L_row_told⟩ := c.def_ 28 (x := "_law_row_told") (q := "_law_row_told") (a := ("_law_row_told", none)) (st := s_L_row_told) rfl
  obtain ⟨d_L_shares, F_L_shares⟩ := c.def_ 29 (x := "_law_shares") (q := "_law_shares") (a := ("_law_shares", none)) (st := s_L_shares) rfl
  obtain ⟨d_L_row, F_L_row⟩ := c.def_ 30 (x := "_law_row") (q := "_law_row") (a := ("_law_row", none)) (st := s_L_row) rfl
  obtain ⟨d_L_lots, F_L_lots⟩ := c.def_ 31 (x := "_law_lots") (q := "_law_lots") (a := ("_law_lots", none)) (st := s_L_lots) rfl
  obtain ⟨d_L_hand, F_L_hand⟩ := c.def_ 32 (x := "_law_hand") (q := "_law_hand") (a := ("_law_hand", none)) (st := s_L_hand) rfl
  obtain ⟨d_law, F_law⟩ := c.def_ 33 (x := "law") (q := "law") (a := ("law", none)) (st := s_law) rfl
  have ei_BadText := c.init 0 (d := ⟨"BadText", "BadText.__init__", defArgs (topC 10 0), defBody (topC 10 0), defScope (topC 10 0)⟩) rfl
  obtain ⟨e_BadText⟩ : Nonempty (ExI PR K mg "BadText" "line" (He.ga K "BadText")) := exI_H X G (st := topC 10 0) (c.fact 34 rfl) (c.exf 0 rfl) ei_BadText rfl rfl rfl rfl rfl rfl rfl rfl rfl (by decide +kernel) (by decide +kernel) rfl (fun _ _ _ _ _ _ _ _ => ⟨_, fun L => rfl⟩) (fun _ _ _ _ _ _ _ _ L => rfl) (fun _ _ _ _ _ _ _ _ L => rfl) (by decide) (by decide) (fun _ _ _ _ _ _ _ s us _ hl => match us, hl with | [_, _], _ => .of_eq rfl)
  have ei_NoRow := c.init 1 (d := ⟨"NoRow", "NoRow.__init__", defArgs (topC 9 0), defBody (topC 9 0), defScope (topC 9 0)⟩) rfl
  obtain ⟨e_NoRow⟩ : Nonempty (ExI PR K mg "NoRow" "at" (He.ga K "NoRow")) := exI_H X G (st := topC 9 0) (c.fact 38 rfl) (c.exf 1 rfl) ei_NoRow rfl rfl rfl rfl rfl rfl rfl rfl rfl (by decide +kernel) (by decide +kernel) rfl (fun _ _ _ _ _ _ _ _ => ⟨_, fun L => rfl⟩) (fun _ _ _ _ _ _ _ _ L => rfl) (fun _ _ _ _ _ _ _ _ L => rfl) (by decide) (by decide) (fun _ _ _ _ _ _ _ s us _ hl => match us, hl with | [_, _], _ => .of_eq rfl)
  obtain ⟨t_FIGURES, ic_FIGURES⟩ := He.str_ok X G (x := "FIGURES") (z := "0123456789") (c.fact 58 rfl)
  obtain ⟨t_MOST_BEATS, ic_MOST_BEATS⟩ := He.int_ok X G (x := "MOST_BEATS") (i := 400) (c.fact 59 rfl)
  obtain ⟨t_MOST_BOTTOM, ic_MOST_BOTTOM⟩ := He.int_ok X G (x := "MOST_BOTTOM") (i := 360) (c.fact 60 rfl)
  obtain ⟨t_MOST_FIGURES, ic_MOST_FIGURES⟩ := He.int_ok X G (x := "MOST_FIGURES") (i := 9) (c.fact 61 rfl)
  obtain ⟨t_MOST_PEOPLE, ic_MOST_PEOPLE⟩ := He.int_ok X G (x := "MOST_PEOPLE") (i := 12) (c.fact 62 rfl)
  obtain ⟨t_NO_LOT, ic_NO_LOT⟩ := He.str_ok X G (x := "NO_LOT") (z := "-") (c.fact 63 rfl)
  let T : Txt K mg := {
    a_divisor := He.fAd K ("divisor", none),
    d_divisor := d_divisor,
    F_divisor := F_divisor,
    g_divisor := He.glo_ok X G (c.fact 0 rfl),
    b_divisor := F_divisor.binds (ps := ["one", "other"]) fun _ _ _ _ _ _ us hl => match us, hl with | [_, _], _ => rfl,
    a_is_integer := He.fAd K ("is_integer", none),
    d_is_integer := d_is_integer,
    F_is_integer := F_is_integer,
    g_is_integer := He.glo_ok X G (c.fact 1 rfl),
    b_is_integer := F_is_integer.binds (ps := ["thing"]) fun _ _ _ _ _ _ us hl => match us, hl with | [_], _ => rfl,
    a_is_pair := He.fAd K ("is_pair", none),
    d_is_pair := d_is_pair,
    F_is_pair := F_is_pair,
    g_is_pair := He.glo_ok X G (c.fact 2 rfl),
    b_is_pair := F_is_pair.binds (ps := ["thing"]) fun _ _ _ _ _ _ us hl => match us, hl with | [_], _ => rfl,
    a_is_fraction := He.fAd K ("is_fraction", none),
    d_is_fraction := d_is_fraction,
    F_is_fraction := F_is_fraction,
    g_is_fraction := He.glo_ok X G (c.fact 3 rfl),
    b_is_fraction := F_is_fraction.binds (ps := ["thing"]) fun _ _ _ _ _ _ us hl => match us, hl with | [_], _ => rfl,
    a_fraction_text := He.fAd K ("fraction_text", none),
    d_fraction_text := d_fraction_text,
    F_fraction_text := F_fraction_text,
    g_fraction_text := He.glo_ok X G (c.fact 4 rfl),
    b_fraction_text := F_fraction_text.binds (ps := ["thing"]) fun _ _ _ _ _ _ us hl => match us, hl with | [_], _ => rfl,
    a_L_fraction_told := He.fAd K ("_law_fraction_told", none),
    d_L_fraction_told := d_L_fraction_told,
    F_L_fraction_told := F_L_fraction_told,
    g_L_fraction_told := He.glo_ok X G (c.fact 5 rfl),
    b_L_fraction_told := F_L_fraction_told.binds (ps := ["_law_one"]) fun _ _ _ _ _ _ us hl => match us, hl with | [_], _ => rfl,
    a_L_draw := He.fAd K ("_law_draw", none),
    d_L_draw := d_L_draw,
    F_L_draw := F_L_draw,
    g_L_draw := He.glo_ok X G (c.fact 6 rfl),
    b_L_draw := F_L_draw.binds (ps := ["_law_hand_here", "_law_many"]) fun _ _ _ _ _ _ us hl => match us, hl with | [_, _], _ => rfl,
    a_L_any := He.fAd K ("_law_any", none),
    d_L_any := d_L_any,
    F_L_any := F_L_any,
    g_L_any := He.glo_ok X G (c.fact 7 rfl),
    b_L_any := F_L_any.binds (ps := ["_law_hand_here", "_law_some"]) fun _ _ _ _ _ _ us hl => match us, hl with | [_, _], _ => rfl,
    a_L_lowest := He.fAd K ("_law_lowest", none),
    d_L_lowest := d_L_lowest,
    F_L_lowest := F_L_lowest,
    g_L_lowest := He.glo_ok X G (c.fact 8 rfl),
    b_L_lowest := F_L_lowest.binds (ps := ["_law_top", "_law_bottom"]) fun _ _ _ _ _ _ us hl => match us, hl with | [_, _], _ => rfl,
    a_is_within := He.fAd K ("is_within", none),
    d_is_within := d_is_within,
    F_is_within := F_is_within,
    g_is_within := He.glo_ok X G (c.fact 9 rfl),
    b_is_within := F_is_within.binds (ps := ["thing", "low", "high"]) fun _ _ _ _ _ _ us hl => match us, hl with | [_, _, _], _ => rfl,
    a_is_lot := He.fAd K ("is_lot", none),
    d_is_lot := d_is_lot,
    F_is_lot := F_is_lot,
    g_is_lot := He.glo_ok X G (c.fact 10 rfl),
    b_is_lot := F_is_lot.binds (ps := ["thing", "many"]) fun _ _ _ _ _ _ us hl => match us, hl with | [_, _], _ => rfl,
    a_check_lots := He.fAd K ("check_lots", none),
    d_check_lots := d_check_lots,
    F_check_lots := F_check_lots,
    g_check_lots := He.glo_ok X G (c.fact 11 rfl),
    b_check_lots := F_check_lots.binds (ps := ["lots"]) fun _ _ _ _ _ _ us hl => match us, hl with | [_], _ => rfl,
    a_number_in := He.fAd K ("number_in", none),
    d_number_in := d_number_in,
    F_number_in := F_number_in,
    g_number_in := He.glo_ok X G (c.fact 12 rfl),
    b_number_in := F_number_in.binds (ps := ["word"]) fun _ _ _ _ _ _ us hl => match us, hl with | [_], _ => rfl,
    a_numbers_in := He.fAd K ("numbers_in", none),
    d_numbers_in := d_numbers_in,
    F_numbers_in := F_numbers_in,
    g_numbers_in := He.glo_ok X G (c.fact 13 rfl),
    b_numbers_in := F_numbers_in.binds (ps := ["word"]) fun _ _ _ _ _ _ us hl => match us, hl with | [_], _ => rfl,
    a_lines_in := He.fAd K ("lines_in", none),
    d_lines_in := d_lines_in,
    F_lines_in := F_lines_in,
    g_lines_in := He.glo_ok X G (c.fact 14 rfl),
    b_lines_in := F_lines_in.binds (ps := ["text"]) fun _ _ _ _ _ _ us hl => match us, hl with | [_], _ => rfl,
    a_read_lots := He.fAd K ("read_lots", none),
    d_read_lots := d_read_lots,
    F_read_lots := F_read_lots,
    g_read_lots := He.glo_ok X G (c.fact 15 rfl),
    b_read_lots := F_read_lots.binds (ps := ["text"]) fun _ _ _ _ _ _ us hl => match us, hl with | [_], _ => rfl,
    a_numbers_text := He.fAd K ("numbers_text", none),
    d_numbers_text := d_numbers_text,
    F_numbers_text := F_numbers_text,
    g_numbers_text := He.glo_ok X G (c.fact 16 rfl),
    b_numbers_text := F_numbers_text.binds (ps := ["numbers"]) fun _ _ _ _ _ _ us hl => match us, hl with | [_], _ => rfl,
    a_lots_text := He.fAd K ("lots_text", none),
    d_lots_text := d_lots_text,
    F_lots_text := F_lots_text,
    g_lots_text := He.glo_ok X G (c.fact 17 rfl),
    b_lots_text := F_lots_text.binds (ps := ["lots"]) fun _ _ _ _ _ _ us hl => match us, hl with | [_], _ => rfl,
    a_L_lots_told := He.fAd K ("_law_lots_told", none),
    d_L_lots_told := d_L_lots_told,
    F_L_lots_told := F_L_lots_told,
    g_L_lots_told := He.glo_ok X G (c.fact 18 rfl),
    b_L_lots_told := F_L_lots_told.binds (ps := ["_law_lots_here"]) fun _ _ _ _ _ _ us hl => match us, hl with | [_], _ => rfl,
    a_are_shares := He.fAd K ("are_shares", none),
    d_are_shares := d_are_shares,
    F_are_shares := F_are_shares,
    g_are_shares := He.glo_ok X G (c.fact 19 rfl),
    b_are_shares := F_are_shares.binds (ps := ["n", "m", "thing"]) fun _ _ _ _ _ _ us hl => match us, hl with | [_, _, _], _ => rfl,
    a_first_wrong := He.fAd K ("first_wrong", none),
    d_first_wrong := d_first_wrong,
    F_first_wrong := F_first_wrong,
    g_first_wrong := He.glo_ok X G (c.fact 20 rfl),
    b_first_wrong := F_first_wrong.binds (ps := ["n", "m", "row"]) fun _ _ _ _ _ _ us hl => match us, hl with | [_, _, _], _ => rfl,
    a_check_people := He.fAd K ("check_people", none),
    d_check_people := d_check_people,
    F_check_people := F_check_people,
    g_check_people := He.glo_ok X G (c.fact 21 rfl),
    b_check_people := F_check_people.binds (ps := ["n"]) fun _ _ _ _ _ _ us hl => match us, hl with | [_], _ => rfl,
    a_check_things := He.fAd K ("check_things", none),
    d_check_things := d_check_things,
    F_check_things := F_check_things,
    g_check_things := He.glo_ok X G (c.fact 22 rfl),
    b_check_things := F_check_things.binds (ps := ["n", "m"]) fun _ _ _ _ _ _ us hl => match us, hl with | [_, _], _ => rfl,
    a_check_row := He.fAd K ("check_row", none),
    d_check_row := d_check_row,
    F_check_row := F_check_row,
    g_check_row := He.glo_ok X G (c.fact 23 rfl),
    b_check_row := F_check_row.binds (ps := ["n", "m", "row"]) fun _ _ _ _ _ _ us hl => match us, hl with | [_, _, _], _ => rfl,
    a_head_in := He.fAd K ("head_in", none),
    d_head_in := d_head_in,
    F_head_in := F_head_in,
    g_head_in := He.glo_ok X G (c.fact 24 rfl),
    b_head_in := F_head_in.binds (ps := ["line"]) fun _ _ _ _ _ _ us hl => match us, hl with | [_], _ => rfl,
    a_shares_in := He.fAd K ("shares_in", none),
    d_shares_in := d_shares_in,
    F_shares_in := F_shares_in,
    g_shares_in := He.glo_ok X G (c.fact 25 rfl),
    b_shares_in := F_shares_in.binds (ps := ["line"]) fun _ _ _ _ _ _ us hl => match us, hl with | [_], _ => rfl,
    a_read_row := He.fAd K ("read_row", none),
    d_read_row := d_read_row,
    F_read_row := F_read_row,
    g_read_row := He.glo_ok X G (c.fact 26 rfl),
    b_read_row := F_read_row.binds (ps := ["text"]) fun _ _ _ _ _ _ us hl => match us, hl with | [_], _ => rfl,
    a_row_text := He.fAd K ("row_text", none),
    d_row_text := d_row_text,
    F_row_text := F_row_text,
    g_row_text := He.glo_ok X G (c.fact 27 rfl),
    b_row_text := F_row_text.binds (ps := ["n", "m", "row"]) fun _ _ _ _ _ _ us hl => match us, hl with | [_, _, _], _ => rfl,
    a_L_row_told := He.fAd K ("_law_row_told", none),
    d_L_row_told := d_L_row_told,
    F_L_row_told := F_L_row_told,
    g_L_row_told := He.glo_ok X G (c.fact 28 rfl),
    b_L_row_told := F_L_row_told.binds (ps := ["_law_n", "_law_m", "_law_row_here"]) fun _ _ _ _ _ _ us hl => match us, hl with | [_, _, _], _ => rfl,
    a_L_shares := He.fAd K ("_law_shares", none),
    d_L_shares := d_L_shares,
    F_L_shares := F_L_shares,
    g_L_shares := He.glo_ok X G (c.fact 29 rfl),
    b_L_shares := F_L_shares.binds (ps := ["_law_hand_here", "_law_n", "_law_m"]) fun _ _ _ _ _ _ us hl => match us, hl with | [_, _, _], _ => rfl,
    a_L_row := He.fAd K ("_law_row", none),
    d_L_row := d_L_row,
    F_L_row := F_L_row,
    g_L_row := He.glo_ok X G (c.fact 30 rfl),
    b_L_row := F_L_row.binds (ps := ["_law_hand_here", "_law_n", "_law_m", "_law_most"]) fun _ _ _ _ _ _ us hl => match us, hl with | [_, _, _, _], _ => rfl,
    a_L_lots := He.fAd K ("_law_lots", none),
    d_L_lots := d_L_lots,
    F_L_lots := F_L_lots,
    g_L_lots := He.glo_ok X G (c.fact 31 rfl),
    b_L_lots := F_L_lots.binds (ps := ["_law_hand_here", "_law_most"]) fun _ _ _ _ _ _ us hl => match us, hl with | [_, _], _ => rfl,
    a_L_hand := He.fAd K ("_law_hand", none),
    d_L_hand := d_L_hand,
    F_L_hand := F_L_hand,
    g_L_hand := He.glo_ok X G (c.fact 32 rfl),
    b_L_hand := F_L_hand.binds (ps := ["_law_script"]) fun _ _ _ _ _ _ us hl => match us, hl with | [_], _ => rfl,
    a_law := He.fAd K ("law", none),
    d_law := d_law,
    F_law := F_law,
    g_law := He.glo_ok X G (c.fact 33 rfl),
    b_law := F_law.binds (ps := ["_law_script"]) fun _ _ _ _ _ _ us hl => match us, hl with | [_], _ => rfl,
    a_BadText := He.ga K "BadText",
    g_BadText := He.glo_ok X G (c.fact 34 rfl),
    z_BadText := glo_ns (c.fact 34 rfl),
    a_NoFraction := He.ga K "NoFraction",
    g_NoFraction := He.glo_ok X G (c.fact 35 rfl),
    z_NoFraction := glo_ns (c.fact 35 rfl),
    a_NoLots := He.ga K "NoLots",
    g_NoLots := He.glo_ok X G (c.fact 36 rfl),
    z_NoLots := glo_ns (c.fact 36 rfl),
    a_NoPeople := He.ga K "NoPeople",
    g_NoPeople := He.glo_ok X G (c.fact 37 rfl),
    z_NoPeople := glo_ns (c.fact 37 rfl),
    a_NoRow := He.ga K "NoRow",
    g_NoRow := He.glo_ok X G (c.fact 38 rfl),
    z_NoRow := glo_ns (c.fact 38 rfl),
    a_NoThings := He.ga K "NoThings",
    g_NoThings := He.glo_ok X G (c.fact 39 rfl),
    z_NoThings := glo_ns (c.fact 39 rfl),
    e_BadText := e_BadText,
    e_NoFraction := exN_H X G (c.fact 40 rfl) (c.fact 35 rfl),
    e_NoLots := exN_H X G (c.fact 41 rfl) (c.fact 36 rfl),
    e_NoPeople := exN_H X G (c.fact 42 rfl) (c.fact 37 rfl),
    e_NoRow := e_NoRow,
    e_NoThings := exN_H X G (c.fact 43 rfl) (c.fact 39 rfl),
    m_abs := He.free_ok X G (c.fact 44 rfl),
    m_all := He.free_ok X G (c.fact 45 rfl),
    m_bool := He.free_ok X G (c.fact 46 rfl),
    m_enumerate := He.free_ok X G (c.fact 47 rfl),
    m_int := He.free_ok X G (c.fact 48 rfl),
    m_isinstance := He.free_ok X G (c.fact 49 rfl),
    m_len := He.free_ok X G (c.fact 50 rfl),
    m_min := He.free_ok X G (c.fact 51 rfl),
    m_range := He.free_ok X G (c.fact 52 rfl),
    m_repr := He.free_ok X G (c.fact 53 rfl),
    m_str := He.free_ok X G (c.fact 54 rfl),
    m_sum := He.free_ok X G (c.fact 55 rfl),
    m_tuple := He.free_ok X G (c.fact 56 rfl),
    m_zip := He.free_ok X G (c.fact 57 rfl),
    t_FIGURES := t_FIGURES,
    c_FIGURES := ⟨trivial, ic_FIGURES⟩,
    t_MOST_BEATS := t_MOST_BEATS,
    c_MOST_BEATS := ⟨trivial, ic_MOST_BEATS⟩,
    t_MOST_BOTTOM := t_MOST_BOTTOM,
    c_MOST_BOTTOM := ⟨trivial, ic_MOST_BOTTOM⟩,
    t_MOST_FIGURES := t_MOST_FIGURES,
    c_MOST_FIGURES := ⟨trivial, ic_MOST_FIGURES⟩,
    t_MOST_PEOPLE := t_MOST_PEOPLE,
    c_MOST_PEOPLE := ⟨trivial, ic_MOST_PEOPLE⟩,
    t_NO_LOT := t_NO_LOT,
    c_NO_LOT := ⟨trivial, ic_NO_LOT⟩
  }
  exact ⟨_, (by obtain ⟨_, _, _, _, _, _, _, _, _, rfl, _⟩ := F_law.ex; exact fun s v => .of_eq rfl), fun base _ _ => ok_law T⟩
end Tx
open PySem PySem.W PySem.Calls PyProof.Rows
set_option maxHeartbeats 0 in
theorem PySem.Challenge.cw_harmonicdues_k45_whole_texts_of_rows_lot_holds : PySem.Challenge.rw_harmonicdues_k45_whole_texts_of_rows_lot.Holds := by
  w_on; o_law
  refine HandSHeadRun.head_any (r := (OpenLaw.row PySem.Challenge.rw_harmonicdues_k45_whole_texts_of_rows_lot)) (q := view (OpenLaw.row PySem.Challenge.rw_harmonicdues_k45_whole_texts_of_rows_lot).prog [52]) (H := Tx.hhk) (ob := Tx.hob) (M := 40000) (loose := Tx.hnames) (d := HandSHeadRun.topDef (OpenLaw.row PySem.Challenge.rw_harmonicdues_k45_whole_texts_of_rows_lot).prog 52) (kwd := []) Tx.hob_eq (by kernel_rfl) (fun s => by kernel_rfl) Tx.hrun (by kernel_rfl) (by kernel_rfl) (by kernel_rfl) (by rfl) (by first | assumption | decide +kernel) (by decide +kernel) ⟨rfl, rfl, rfl, rfl, rfl, by decide +kernel⟩ ?hw ?hc
  case hw => w_witness2
  case hc =>
    refine DL.walk_dH (l := PySem.Challenge.rw_harmonicdues_k45_whole_texts_of_rows_lot) (k := 7) (x := "_law_script") (sp := Tx.sp_law) rfl (by kernel_rfl) ⟨rfl, by decide, by decide⟩ ?F (fun ns G Q h k => ⟨ns, rfl, h, k⟩)
    intro w mg fa h Y G hmg0
    obtain ⟨K, KX, c⟩ := Y
    have hmg : mg ("law" : PySem.Str) = some (.ref fa) := by
      have e : (HandSHeadRun.topDef (OpenLaw.row PySem.Challenge.rw_harmonicdues_k45_whole_texts_of_rows_lot).prog 52).name = ("law" : PySem.Str) := by kernel_rfl
      rw [← e]
      exact hmg0
    obtain ⟨fd, hb, hF⟩ := Tx.all_mk KX G hmg c
    exact ⟨K, fd, KX, hb, hF⟩
