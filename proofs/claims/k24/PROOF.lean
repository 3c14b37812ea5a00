import PyProof.Rows.All
import Wide.All
import OpenK.AllK
import Wide.FinOn
import HandS.ForMost
import HandS.Wide
import HandS.IsInst
import HandS.Exc
import HandS.TupMul
import KE.KTupSum
import HandS.Lambda
import KE.KDictKeyed
import HandS.TupAny
import HandS.Conv
import HandS.SortInts
import HandS.Deep
import HandS.Zip
import HandS.Walk
import HandS.SetFor
import HandS.Style
import KE.KRevSl
import KE.GoesZip
import KE.GoesMore
import KE.GoesEnum
import PyProof.P3Eq
import HandS.More
import HandS.Sort
import HandS.Call
import HandS.Flt
import HandS.Flow
import PyProof.EqKinds
import PyProof.FactsAll.dict_1
import HandS.Small
import HandS.Nested
import HandS.ExcInit
import HandS.ExcField
import KE.KExcSuper
import KE.KExcIs
import HandS.EndTab
import KE.KNestM
import PyProof.Rows.InDataRows
import HandS.Dict
import HandS.TryOnly
import KE.SortData
import KE.KDictSum
import HandS.TupLen
import HandS.Iter
import HandS.DictComp
import HandS.SetKeys
import KE.DataFind
import KE.KDictDisplayH
import HandS.TupLe
import HandS.Comp
import HandS.WordsDict
import KE.KDictLaws
import KE.KDictCopyH
import PyProof.TupleOfSeq
import PySem.Challenge.RW_harmonicdues_k24_whole_steps_of_games
set_option Elab.async false
set_option linter.all false
set_option maxRecDepth 100000
/-! The value layer: data as trees (D), what may change by address (Gp), over HandS. -/
namespace DL
open PySem PySem.Spec PyProof.Rows L2

/-- a value as a tree: tuples, and lists, dicts, instances that nobody changes any more; ref: a thing that may change, a class, a def -/
inductive D where
  | non | bl (b : Bool) | int (i : Int) | str (x : Str) | ty (n : String)
  | tup (xs : List D) | lst (xs : List D) | scr (xs : List D) | dct (kvs : List (Key × D)) | obj (C : Str) (fs : List (Str × D))
  | ref (a : Addr) | fn (n : Str)
  /-- a thing of which R is known -/
  | ho (R : Hp → Addr → Prop)

mutual
inductive Rp (K : PySem.W.Frag) (F : Hp) : D → V → Prop
  | non : Rp K F .non .non
  | bl (b : Bool) : Rp K F (.bl b) (.bl b)
  | int (i : Int) : Rp K F (.int i) (.int i)
  | str (x : Str) : Rp K F (.str x) (.str x)
  | ty (n : String) : Rp K F (.ty n) (.ty n)
  | tup {a : Addr} {ds : List D} {vs : List V} : SqT K F a vs → Rps K F ds vs → Rp K F (.tup ds) (.ref a)
  | lst {a : Addr} {ds : List D} {vs : List V} : F a = some (.lst vs) → Rps K F ds vs → Rp K F (.lst ds) (.ref a)
  | scr {a : Addr} {ds : List D} {vs : List V} : SqL K F a vs → Rps K F ds vs → Rp K F (.scr ds) (.ref a)
  | dct {a : Addr} {ks : List (Key × D)} {kv : List (Key × V)} : F a = some (.dK kv) → Rpk K F ks kv → Rp K F (.dct ks) (.ref a)
  | obj {a C dx : Addr} {n : Str} {fs : List (Str × D)} {fv : List (Str × V)} : PySem.W.nsIn K mainGlobals n = some (some (.ref C)) → F a = some (.ins C dx fv) → Rpf K F fs fv → Rp K F (.obj n fs) (.ref a)
  | ref (a : Addr) : Rp K F (.ref a) (.ref a)
  | fn {n : Str} {f : Addr} : PySem.W.nsIn K mainGlobals n = some (some (.ref f)) → Rp K F (.fn n) (.ref f)
  | ho {R : Hp → Addr → Prop} {a : Addr} : (∀ F', Same F F' → R F' a) → Rp K F (.ho R) (.ref a)
inductive Rps (K : PySem.W.Frag) (F : Hp) : List D → List V → Prop
  | nil : Rps K F [] []
  | cons {d : D} {v : V} {ds : List D} {vs : List V} : Rp K F d v → Rps K F ds vs → Rps K F (d :: ds) (v :: vs)
inductive Rpk (K : PySem.W.Frag) (F : Hp) : List (Key × D) → List (Key × V) → Prop
  | nil : Rpk K F [] []
  | cons {k : Key} {d : D} {v : V} {ds : List (Key × D)} {vs : List (Key × V)} : Rp K F d v → Rpk K F ds vs → Rpk K F ((k, d) :: ds) ((k, v) :: vs)
inductive Rpf (K : PySem.W.Frag) (F : Hp) : List (Str × D) → List (Str × V) → Prop
  | nil : Rpf K F [] []
  | cons {k : Str} {d : D} {v : V} {ds : List (Str × D)} {vs : List (Str × V)} : Rp K F d v → Rpf K F ds vs → Rpf K F ((k, d) :: ds) ((k, v) :: vs)
end

theorem sqT_mono {K : PySem.W.Frag} {F F' : Hp} {a : Addr} {xs : List V} (e : Same F F') (h : SqT K F a xs) : SqT K F' a xs := by
  rcases h with (h | ⟨o, h⟩) | h
  · exact .inl (.inl (e _ _ h))
  · exact .inl (.inr ⟨o, e _ _ h⟩)
  · exact .inr h
theorem sqL_mono {K : PySem.W.Frag} {F F' : Hp} {a : Addr} {xs : List V} (e : Same F F') (h : SqL K F a xs) : SqL K F' a xs := e.seq h

section
variable {K : PySem.W.Frag} {F F' : Hp}
mutual
theorem Rp.mono (e : Same F F') : ∀ (d : D) (v : V), Rp K F d v → Rp K F' d v
  | .non, _, h => by cases h; exact .non
  | .bl _, _, h => by cases h; exact .bl _
  | .int _, _, h => by cases h; exact .int _
  | .str _, _, h => by cases h; exact .str _
  | .ty _, _, h => by cases h; exact .ty _
  | .ref _, _, h => by cases h; exact .ref _
  | .fn _, _, h => by
    cases h with
    | fn a => exact .fn a
  | .ho _, _, h => by
    cases h with
    | ho a => exact .ho fun F'' e' => a F'' (e.trans e')
  | .tup ds, _, h => by
    cases h with
    | tup a b => exact .tup (sqT_mono e a) (Rps.mono e ds _ b)
  | .lst ds, _, h => by
    cases h with
    | lst a b => exact .lst (e _ _ a) (Rps.mono e ds _ b)
  | .scr ds, _, h => by
    cases h with
    | scr a b => exact .scr (sqL_mono e a) (Rps.mono e ds _ b)
  | .dct ds, _, h => by
    cases h with
    | dct a b => exact .dct (e _ _ a) (Rpk.mono e ds _ b)
  | .obj C ds, _, h => by
    cases h with
    | obj n a b => exact .obj n (e _ _ a) (Rpf.mono e ds _ b)
theorem Rps.mono (e : Same F F') : ∀ (ds : List D) (vs : List V), Rps K F ds vs → Rps K F' ds vs
  | [], _, h => by cases h; exact .nil
  | d :: ds, _, h => by
    cases h with
    | cons a b => exact .cons (Rp.mono e d _ a) (Rps.mono e ds _ b)
theorem Rpk.mono (e : Same F F') : ∀ (ds : List (Key × D)) (vs : List (Key × V)), Rpk K F ds vs → Rpk K F' ds vs
  | [], _, h => by cases h; exact .nil
  | (k, d) :: ds, _, h => by
    cases h with
    | cons a b => exact .cons (Rp.mono e d _ a) (Rpk.mono e ds _ b)
theorem Rpf.mono (e : Same F F') : ∀ (ds : List (Str × D)) (vs : List (Str × V)), Rpf K F ds vs → Rpf K F' ds vs
  | [], _, h => by cases h; exact .nil
  | (k, d) :: ds, _, h => by
    cases h with
    | cons a b => exact .cons (Rp.mono e d _ a) (Rpf.mono e ds _ b)
end

theorem Rps.length : ∀ {ds : List D} {vs : List V}, Rps K F ds vs → ds.length = vs.length
  | [], _, h => by cases h; rfl
  | _ :: _, _, h => by cases h with | cons a b => rw [List.length_cons, List.length_cons, b.length]
theorem Rps.get : ∀ {ds : List D} {vs : List V} {i : Nat} {d : D}, Rps K F ds vs → ds[i]? = some d → ∃ v, vs[i]? = some v ∧ Rp K F d v
  | [], _, _, _, _, h => by simp at h
  | _ :: _, _, 0, _, r, h => by
    cases r with
    | cons a b =>
      simp at h
      subst h
      exact ⟨_, rfl, a⟩
  | _ :: _, _, i + 1, _, r, h => by
    cases r with
    | cons a b =>
      obtain ⟨v, e, q⟩ := b.get (i := i) (by simpa using h)
      exact ⟨v, by simpa using e, q⟩
theorem Rps.getV : ∀ {ds : List D} {vs : List V} {i : Nat} {v : V}, Rps K F ds vs → vs[i]? = some v → ∃ d, ds[i]? = some d ∧ Rp K F d v
  | [], _, _, _, r, h => by cases r; simp at h
  | _ :: _, _, 0, _, r, h => by
    cases r with
    | cons a b =>
      simp at h
      subst h
      exact ⟨_, rfl, a⟩
  | _ :: _, _, i + 1, _, r, h => by
    cases r with
    | cons a b =>
      obtain ⟨v, e, q⟩ := b.getV (i := i) (by simpa using h)
      exact ⟨v, by simpa using e, q⟩
theorem Rps.append : ∀ {ds es : List D} {vs ws : List V}, Rps K F ds vs → Rps K F es ws → Rps K F (ds ++ es) (vs ++ ws)
  | [], _, _, _, a, b => by cases a; exact b
  | _ :: _, _, _, _, a, b => by cases a with | cons x y => exact .cons x (y.append b)
theorem Rps.one {d : D} {v : V} (h : Rp K F d v) : Rps K F [d] [v] := .cons h .nil
theorem Rps.take : ∀ {ds : List D} {vs : List V} (n : Nat), Rps K F ds vs → Rps K F (ds.take n) (vs.take n)
  | _, _, 0, _ => by simpa using Rps.nil
  | [], _, n + 1, r => by cases r; exact .nil
  | _ :: _, _, n + 1, r => by cases r with | cons a b => exact .cons a (b.take n)
theorem Rps.drop : ∀ {ds : List D} {vs : List V} (n : Nat), Rps K F ds vs → Rps K F (ds.drop n) (vs.drop n)
  | _, _, 0, r => by simpa using r
  | [], _, n + 1, r => by cases r; exact .nil
  | _ :: _, _, n + 1, r => by cases r with | cons a b => simpa using b.drop n
theorem Rps.set {d : D} {v : V} (h : Rp K F d v) : ∀ {ds : List D} {vs : List V} (n : Nat), Rps K F ds vs → Rps K F (ds.set n d) (vs.set n v)
  | [], _, _, r => by cases r; exact .nil
  | _ :: _, _, 0, r => by cases r with | cons a b => exact .cons h b
  | _ :: _, _, n + 1, r => by cases r with | cons a b => exact .cons a (b.set h n)
theorem Rps.reverse {ds : List D} {vs : List V} (r : Rps K F ds vs) : Rps K F ds.reverse vs.reverse := by
  induction ds generalizing vs with
  | nil => cases r; exact .nil
  | cons d ds ih =>
    cases r with
    | cons a b =>
      rw [List.reverse_cons, List.reverse_cons]
      exact (ih b).append (.one a)
theorem Rps.ints : ∀ {ns : List Int} {vs : List V}, Rps K F (ns.map D.int) vs → vs = ns.map V.int
  | [], _, r => by cases r; rfl
  | n :: ns, _, r => by
    cases r with
    | cons a b =>
      cases a
      rw [Rps.ints b]
      rfl
theorem Rps.ofInts (ns : List Int) : Rps K F (ns.map D.int) (ns.map V.int) := by
  induction ns with
  | nil => exact .nil
  | cons n ns ih => exact .cons (.int n) ih
theorem Rps.bls : ∀ {ns : List Bool} {vs : List V}, Rps K F (ns.map D.bl) vs → vs = ns.map V.bl
  | [], _, r => by cases r; rfl
  | n :: ns, _, r => by
    cases r with
    | cons a b =>
      cases a
      rw [Rps.bls b]
      rfl
end

/-! ### what may change -/
inductive GO where
  | lst (xs : List D)
  | dct (kvs : List (Key × D))
  /-- a dict whose keys are tuples of whole numbers, of such tuples -/
  | dctN (o : Obj) (kvs : List (NestedKey × D))
  | ins (C : Str) (fs : List (Str × D))
  /-- some list of which so much is known -/
  | abl (P : List D → Prop)
  /-- a table of code objects, each of the name q -/
  | tab (q : Str)
abbrev Gp := Addr → Option GO
def gu (G : Gp) (a : Addr) (o : GO) : Gp := fun b => if b = a then some o else G b
def gd (G : Gp) (a : Addr) : Gp := fun b => if b = a then none else G b
theorem gu_same {G : Gp} {a : Addr} {o : GO} : gu G a o a = some o := by unfold gu; rw [if_pos rfl]
theorem gu_ne {G : Gp} {a b : Addr} {o : GO} (h : b ≠ a) : gu G a o b = G b := by unfold gu; rw [if_neg h]
theorem gu_gu {G : Gp} {a : Addr} {o u : GO} : gu (gu G a o) a u = gu G a u := by
  funext b; unfold gu; split <;> rfl
theorem gu_self {G : Gp} {a : Addr} {o : GO} (h : G a = some o) : gu G a o = G := by
  funext b; unfold gu; split
  · rename_i e; rw [e, h]
  · rfl
theorem gu_comm {G : Gp} {a b : Addr} {o u : GO} (h : a ≠ b) : gu (gu G a o) b u = gu (gu G b u) a o := by
  funext c; unfold gu
  by_cases h1 : c = a
  · have h2 : c ≠ b := fun e => h (h1.symm.trans e)
    simp [h1, h]
  · simp [h1]
theorem gu_none {G : Gp} {a b : Addr} {o : GO} : gu G a o b = none ↔ b ≠ a ∧ G b = none := by
  unfold gu
  by_cases h : b = a <;> simp [h]
def GLe (G G' : Gp) : Prop := ∀ a o, G a = some o → G' a = some o
theorem GLe.refl {G : Gp} : GLe G G := fun _ _ h => h
theorem GLe.trans {G G1 G2 : Gp} (a : GLe G G1) (b : GLe G1 G2) : GLe G G2 := fun x o h => b x o (a x o h)
theorem GLe.new {G : Gp} {a : Addr} {o : GO} (h : G a = none) : GLe G (gu G a o) := fun b u e => by
  rw [gu_ne (fun z => by rw [z, h] at e; cases e)]
  exact e
theorem GLe.newR {G G' : Gp} {a : Addr} {o : GO} (k : GLe G G') (h : G a = none) : GLe G (gu G' a o) := fun b u e => by
  rw [gu_ne (fun z => by rw [z, h] at e; cases e)]
  exact k b u e

/-! ### dicts whose keys are tuples -/
/-- an object that stands -/
def StO (a : Addr) (o : Obj) : HO := .ext fun h => h.get? a = some o
theorem stO_ok {P : Program} {w : World} {H : Hp} {h : Heap} {a : Addr} {o : Obj} (e : h.get? a = some o) : ObjOk P w H h a (StO a o) := ⟨e, ⟨o, e⟩, fun _ _ z k => k _ z⟩
mutual
/-- a key as a tree -/
def nkD : NestedKey → D
  | .none => .non
  | .num i => .int i
  | .text x => .str x
  | .tup ks => .tup (nkDs ks)
def nkDs : List NestedKey → List D
  | [] => []
  | k :: ks => nkD k :: nkDs ks
end
mutual
/-- no text within: its hash is the same in every world -/
def pureK : NestedKey → Bool
  | .none => true
  | .num _ => true
  | .text _ => false
  | .tup ks => pureKs ks
def pureKs : List NestedKey → Bool
  | [] => true
  | k :: ks => pureK k && pureKs ks
end
def tupK : NestedKey → Bool
  | .tup _ => true
  | _ => false
/-- a key that such a dict takes -/
def keyOk (k : NestedKey) : Bool := tupK k && pureK k && decide (k.depth ≤ 8)
def entN (w : World) (x : NestedKey × Addr × Value) : DictEntry := ⟨x.1.hash w, .ref x.2.1, x.2.2⟩
structure NdOk (K : PySem.W.Frag) (F H : Hp) (a : Addr) (o : Obj) (kvs : List (NestedKey × D)) : Prop where
  sm : (a == sysModules) = false
  sz : kvs.length ≤ sizeLine
  ks : ∀ p ∈ kvs, keyOk p.1 = true
  ob : ∃ (es : Array DictEntry) (ep : Nat) (xs : List (NestedKey × Addr × Value)), H a = some (StO a o) ∧ o.ExactDict ∧ o.data = .dict es ep ∧ (∀ w, es.toList = xs.map (entN w)) ∧ (xs.map (·.1)).Nodup ∧
    Paired (fun (p : NestedKey × D) (q : NestedKey × Addr × Value) => p.1 = q.1 ∧ Rp K F (nkD p.1) (.ref q.2.1) ∧ ∃ v, RelV v q.2.2 ∧ Rp K F p.2 v) kvs xs
theorem NdOk.mono {K : PySem.W.Frag} {F F' H H' : Hp} {a : Addr} {o : Obj} {kvs : List (NestedKey × D)} (e : Same F F') (k : H' a = H a) (h : NdOk K F H a o kvs) : NdOk K F' H' a o kvs :=
  let ⟨es, ep, xs, h1, h2, h3, h4, h5, r⟩ := h.ob
  ⟨h.sm, h.sz, h.ks, es, ep, xs, k.trans h1, h2, h3, h4, h5, Paired.mapP r fun _ _ ⟨z1, z2, v, z3, z4⟩ => ⟨z1, z2.mono e, v, z3, z4.mono e⟩⟩
theorem NdOk.there {K : PySem.W.Frag} {F H : Hp} {a : Addr} {o : Obj} {kvs : List (NestedKey × D)} (h : NdOk K F H a o kvs) : ∃ u, H a = some u := let ⟨_, _, _, h1, _⟩ := h.ob; ⟨_, h1⟩

def GOk (K : PySem.W.Frag) (F H : Hp) (a : Addr) : GO → Prop
  | .lst xs => ∃ vs, H a = some (.lst vs) ∧ Rps K F xs vs
  | .dct kvs => ∃ kv, H a = some (.dK kv) ∧ Rpk K F kvs kv
  | .dctN o kvs => NdOk K F H a o kvs
  | .ins n fs => ∃ C dx fv, PySem.W.nsIn K mainGlobals n = some (some (.ref C)) ∧ H a = some (.ins C dx fv) ∧ Rpf K F fs fv
  | .abl P => ∃ xs vs, P xs ∧ H a = some (.lst vs) ∧ Rps K F xs vs
  | .tab q => ∃ ps : Array Value, H a = some (.tbl ps) ∧ TriplesOk ps.toList ∧ ∀ (pos : Pos) (cv : Value), codeAmong pos ps.toList = some cv → ∃ c, cv = .ref c ∧ F c = some (LamX.CodeO c q)
theorem GOk.mono {K : PySem.W.Frag} {F F' H H' : Hp} {a : Addr} (e : Same F F') (k : H' a = H a) : ∀ {o : GO}, GOk K F H a o → GOk K F' H' a o
  | .lst _, ⟨vs, h, r⟩ => ⟨vs, k.trans h, r.mono e⟩
  | .dct _, ⟨vs, h, r⟩ => ⟨vs, k.trans h, r.mono e⟩
  | .dctN _ _, h => NdOk.mono e k h
  | .ins _ _, ⟨C, dx, vs, n, h, r⟩ => ⟨C, dx, vs, n, k.trans h, r.mono e⟩
  | .abl _, ⟨xs, vs, p, h, r⟩ => ⟨xs, vs, p, k.trans h, r.mono e⟩
  | .tab _, ⟨ps, h, o, r⟩ => ⟨ps, k.trans h, o, fun pos cv z => let ⟨c, e1, e2⟩ := r pos cv z; ⟨c, e1, e _ _ e2⟩⟩
theorem GOk.there {K : PySem.W.Frag} {F H : Hp} {a : Addr} : ∀ {o : GO}, GOk K F H a o → ∃ u, H a = some u
  | .lst _, ⟨_, h, _⟩ => ⟨_, h⟩
  | .dct _, ⟨_, h, _⟩ => ⟨_, h⟩
  | .dctN _ _, h => NdOk.there h
  | .ins _ _, ⟨_, _, _, _, h, _⟩ => ⟨_, h⟩
  | .abl _, ⟨_, _, _, h, _⟩ => ⟨_, h⟩
  | .tab _, ⟨_, h, _⟩ => ⟨_, h⟩

/-- the world: what is frozen stands, what may change stands as G says, apart from it -/
structure Wd (K : PySem.W.Frag) (F : Hp) (G : Gp) (H : Hp) : Prop where
  fz : Same F H
  mu : ∀ a o, G a = some o → F a = none ∧ GOk K F H a o
section
variable {K : PySem.W.Frag} {F F' H : Hp} {G G' : Gp} {p : Addr}
theorem Wd.gfree (W : Wd K F G H) (h : H p = none) : G p = none := by
  cases e : G p with
  | none => rfl
  | some o =>
    obtain ⟨_, k⟩ := W.mu p o e
    obtain ⟨u, q⟩ := k.there
    rw [h] at q; cases q
theorem Wd.ffree (W : Wd K F G H) (h : H p = none) : F p = none := by
  cases e : F p with
  | none => rfl
  | some o =>
    rw [W.fz p o e] at h; cases h
theorem same_upd {F : Hp} {p : Addr} {o : HO} (h : F p = none) : Same F (upd F p o) := fun b x e => by
  rw [upd_ne (ne_of_none e h)]
  exact e
theorem same_upd2 {F H : Hp} {p : Addr} {o : HO} (e : Same F H) (h : F p = none) : Same F (upd H p o) := fun b x q => by
  rw [upd_ne (ne_of_none q h)]
  exact e b x q
/-- a new frozen object -/
theorem Wd.newF (W : Wd K F G H) (h : H p = none) (o : HO) : Wd K (upd F p o) G (upd H p o) := by
  refine ⟨fun b u e => ?_, fun b u e => ?_⟩
  · by_cases hb : b = p
    · subst hb; rw [upd_same] at e ⊢; exact e
    · rw [upd_ne hb] at e ⊢; exact W.fz b u e
  · have hb : b ≠ p := fun z => by rw [z, W.gfree h] at e; cases e
    obtain ⟨a, k⟩ := W.mu b u e
    exact ⟨by rw [upd_ne hb]; exact a, k.mono (same_upd (W.ffree h)) (upd_ne hb)⟩
/-- a new object that nobody asks for -/
theorem Wd.newN (W : Wd K F G H) (h : H p = none) (o : HO) : Wd K F G (upd H p o) :=
  ⟨same_upd2 W.fz (W.ffree h), fun b u e => by
    have hb : b ≠ p := fun z => by rw [z, W.gfree h] at e; cases e
    obtain ⟨a, k⟩ := W.mu b u e
    exact ⟨a, k.mono (Same.refl F) (upd_ne hb)⟩⟩
/-- an object that may change is written, or a new one laid -/
theorem Wd.put (W : Wd K F G H) {o : HO} {g : GO} (hF : F p = none) (k : GOk K F (upd H p o) p g) : Wd K F (gu G p g) (upd H p o) :=
  ⟨same_upd2 W.fz hF, fun b u e => by
    by_cases hb : b = p
    · subst hb; rw [gu_same] at e; cases e; exact ⟨hF, k⟩
    · rw [gu_ne hb] at e
      obtain ⟨a, z⟩ := W.mu b u e
      exact ⟨a, z.mono (Same.refl F) (upd_ne hb)⟩⟩
theorem Wd.less (W : Wd K F G H) (k : GLe G' G) : Wd K F G' H := ⟨W.fz, fun a o e => W.mu a o (k a o e)⟩
theorem Wd.lst (W : Wd K F G H) {xs : List D} (h : G p = some (.lst xs)) : F p = none ∧ ∃ vs, H p = some (.lst vs) ∧ Rps K F xs vs := W.mu p _ h
/-- a list that may change is frozen -/
theorem Wd.freeze (W : Wd K F G H) {xs : List D} (h : G p = some (.lst xs)) (k : ∀ b o, G' b = some o → b ≠ p ∧ G b = some o) : ∃ F', Same F F' ∧ Wd K F' G' H ∧ Rp K F' (.lst xs) (.ref p) := by
  obtain ⟨f, vs, hv, r⟩ := W.lst h
  refine ⟨upd F p (.lst vs), same_upd f, ⟨fun b u e => ?_, fun b u e => ?_⟩, .lst upd_same (r.mono (same_upd f))⟩
  · by_cases hb : b = p
    · subst hb; rw [upd_same] at e; rw [← e]; exact hv
    · rw [upd_ne hb] at e; exact W.fz b u e
  · obtain ⟨hb, e'⟩ := k b u e
    obtain ⟨a, z⟩ := W.mu b u e'
    exact ⟨by rw [upd_ne hb]; exact a, z.mono (same_upd f) rfl⟩
end

/-! ### slots -/
abbrev Sl := List (Option D)
def En (K : PySem.W.Frag) (F : Hp) (δ : Sl) (σ : L2.St) : Prop := δ.length = σ.length ∧ ∀ (i : Nat) (d : D), δ[i]? = some (some d) → ∃ v, σ[i]? = some (some v) ∧ Rp K F d v
section
variable {K : PySem.W.Frag} {F F' : Hp} {δ : Sl} {σ : L2.St}
theorem En.mono (e : Same F F') (h : En K F δ σ) : En K F' δ σ := ⟨h.1, fun i d q => let ⟨v, a, b⟩ := h.2 i d q; ⟨v, a, b.mono e⟩⟩
theorem En.set {d : D} {v : V} (h : En K F δ σ) (r : Rp K F d v) (i : Nat) : En K F (δ.set i (some d)) (σ.set i (some v)) := by
  refine ⟨by rw [List.length_set, List.length_set, h.1], fun j x e => ?_⟩
  by_cases hj : i = j
  · subst hj
    by_cases hl : i < δ.length
    · rw [List.getElem?_set_self hl] at e
      cases e
      exact ⟨v, by rw [List.getElem?_set_self (by rw [← h.1]; exact hl)], r⟩
    · rw [List.getElem?_eq_none (by rw [List.length_set]; omega)] at e; cases e
  · rw [List.getElem?_set_ne hj] at e
    obtain ⟨v', a, b⟩ := h.2 j x e
    exact ⟨v', by rw [List.getElem?_set_ne hj]; exact a, b⟩
theorem En.clr (h : En K F δ σ) (i : Nat) (o : Option V) : En K F (δ.set i none) (σ.set i o) := by
  refine ⟨by rw [List.length_set, List.length_set, h.1], fun j x e => ?_⟩
  by_cases hj : i = j
  · subst hj
    by_cases hl : i < δ.length
    · rw [List.getElem?_set_self hl] at e
      cases e
    · rw [List.getElem?_eq_none (by rw [List.length_set]; omega)] at e; cases e
  · rw [List.getElem?_set_ne hj] at e
    obtain ⟨v', a, b⟩ := h.2 j x e
    exact ⟨v', by rw [List.getElem?_set_ne hj]; exact a, b⟩
theorem En.start {ds : List D} {vs : List V} (N : List Str) (r : Rps K F ds vs) (hl : ds.length ≤ N.length) : En K F (ds.map some ++ List.replicate (N.length - ds.length) none) (start N vs) := by
  have e := r.length
  refine ⟨by unfold L2.start; simp [e], fun i d q => ?_⟩
  by_cases hi : i < ds.length
  · rw [List.getElem?_append_left (by simpa using hi), List.getElem?_map] at q
    cases z : ds[i]? with
    | none => rw [z] at q; cases q
    | some d' =>
      rw [z] at q
      cases q
      obtain ⟨v, a, b⟩ := r.get z
      refine ⟨v, ?_, b⟩
      unfold L2.start
      rw [List.getElem?_append_left (by rw [List.length_map, ← e]; exact hi), List.getElem?_map, a]
      rfl
  · rw [List.getElem?_append_right (by simpa using hi), List.getElem?_replicate] at q
    split at q <;> cases q
end

/-! ### readings over trees -/
abbrev DK := D → Gp → Prop
abbrev DE := Sl → Gp → DK → Prop
abbrev DT := Sl → Gp → (Bool → Gp → Prop) → Prop
abbrev DA := Sl → Gp → (List D → Gp → Prop) → Prop
structure DEnds where
  nx : Sl → Gp → Prop
  rt : DK
  bk : Sl → Gp → Prop := fun _ _ => False
  ct : Sl → Gp → Prop := fun _ _ => False
abbrev DS := DEnds → Sl → Gp → Prop

/-- what follows, by trees and by values -/
def Ko (K : PySem.W.Frag) (F : Hp) (Q' : DK) (Q : VK) : Prop := ∀ d v F' G' H', Same F F' → Wd K F' G' H' → Rp K F' d v → Q' d G' → Q v H'
theorem Ko.mono {K : PySem.W.Frag} {F F' : Hp} {Q' : DK} {Q : VK} (e : Same F F') (k : Ko K F Q' Q) : Ko K F' Q' Q := fun d v F2 G2 H2 s w r q => k d v F2 G2 H2 (e.trans s) w r q

def Le (K : PySem.W.Frag) (F₀ : Hp) (t : DE) : TE := fun σ H Q => ∃ δ F G Q', Same F₀ F ∧ En K F δ σ ∧ Wd K F G H ∧ t δ G Q' ∧ Ko K F Q' Q
def Lt (K : PySem.W.Frag) (F₀ : Hp) (t : DT) : TT := fun σ H Q => ∃ δ F G Q', Same F₀ F ∧ En K F δ σ ∧ Wd K F G H ∧ t δ G Q' ∧ ∀ b F' G' H', Same F F' → Wd K F' G' H' → Q' b G' → Q b H'
def La (K : PySem.W.Frag) (F₀ : Hp) (t : DA) : TA := fun σ H Q => ∃ δ F G Q', Same F₀ F ∧ En K F δ σ ∧ Wd K F G H ∧ t δ G Q' ∧ ∀ ds vs F' G' H', Same F F' → Wd K F' G' H' → Rps K F' ds vs → Q' ds G' → Q vs H'
structure Ke (K : PySem.W.Frag) (F : Hp) (D' : DEnds) (D : Ends) : Prop where
  nx : ∀ δ σ F' G' H', Same F F' → En K F' δ σ → Wd K F' G' H' → D'.nx δ G' → D.nx σ H'
  rt : Ko K F D'.rt D.rt
  bk : ∀ δ σ F' G' H', Same F F' → En K F' δ σ → Wd K F' G' H' → D'.bk δ G' → D.bk σ H'
  ct : ∀ δ σ F' G' H', Same F F' → En K F' δ σ → Wd K F' G' H' → D'.ct δ G' → D.ct σ H'
theorem Ke.mono {K : PySem.W.Frag} {F F' : Hp} {D' : DEnds} {D : Ends} (e : Same F F') (k : Ke K F D' D) : Ke K F' D' D :=
  ⟨fun δ σ F2 G2 H2 s => k.nx δ σ F2 G2 H2 (e.trans s), k.rt.mono e, fun δ σ F2 G2 H2 s => k.bk δ σ F2 G2 H2 (e.trans s), fun δ σ F2 G2 H2 s => k.ct δ σ F2 G2 H2 (e.trans s)⟩
def Ls (K : PySem.W.Frag) (F₀ : Hp) (t : DS) : TS := fun D σ H => ∃ δ F G D', Same F₀ F ∧ En K F δ σ ∧ Wd K F G H ∧ t D' δ G ∧ Ke K F D' D

section
variable {X : Cx} {F₀ : Hp}
theorem pe_imp {e : Expr} {t t' : TE} (h : PE X e t) (i : ∀ σ H Q, t' σ H Q → t σ H Q) : PE X e t' := ⟨fun pins s σ H Q I w => h.run pins s σ H Q I (i σ H Q w)⟩
theorem pt_imp {e : Expr} {t t' : TT} (h : PT X e t) (i : ∀ σ H Q, t' σ H Q → t σ H Q) : PT X e t' := ⟨fun pins s σ H Q I w => h.run pins s σ H Q I (i σ H Q w)⟩
theorem pw_imp {e : Expr} {t t' : TT} (h : PW X e t) (i : ∀ σ H Q, t' σ H Q → t σ H Q) : PW X e t' := ⟨fun wh pins s σ H Q I w => h.run wh pins s σ H Q I (i σ H Q w)⟩
theorem pa_imp {e : List Expr} {t t' : TA} (h : PA X e t) (i : ∀ σ H Q, t' σ H Q → t σ H Q) : PA X e t' := ⟨fun pos pins s σ H Q I w => h.run pos pins s σ H Q I (i σ H Q w)⟩
theorem ps_imp {e : Stmt} {t t' : TS} (h : PS X e t) (i : ∀ D σ H, t' D σ H → t D σ H) : PS X e t' := ⟨fun pins s σ H D I w => h.run pins s σ H D I (i D σ H w)⟩
theorem pss_imp {e : List Stmt} {t t' : TS} (h : PSs X e t) (i : ∀ D σ H, t' D σ H → t D σ H) : PSs X e t' := ⟨fun pins s σ H D I w => h.run pins s σ H D I (i D σ H w)⟩
end
end DL

/-! Rules over trees: expressions. -/
namespace DL
open PySem PySem.Spec PyProof.Rows L2

/-! ### names, constants -/
def dVar (i : Nat) : DE := fun δ G Q => match δ[i]? with | some (some d) => Q d G | _ => False
def dC (d : D) : DE := fun _ G Q => Q d G
section
variable {X : Cx} {F₀ : Hp} {e a b c : Expr} {pos : Pos}
theorem de_var {i : Nat} (h : PE X e (tVar i)) : PE X e (Le X.K F₀ (dVar i)) := pe_imp h fun σ H Q ⟨δ, F, G, Q', s, en, w, q, k⟩ => by
  unfold dVar at q
  split at q
  · rename_i d e
    obtain ⟨v, e', r⟩ := en.2 i d e
    exact ⟨v, e', k d v F G H (Same.refl F) w r q⟩
  · exact q.elim
/-- a value that needs nothing of the heap -/
theorem de_c {v : V} {d : D} (h : PE X e (tC v)) (r : ∀ F, Rp X.K F d v) : PE X e (Le X.K F₀ (dC d)) := pe_imp h fun σ H Q ⟨δ, F, G, Q', s, en, w, q, k⟩ => k d v F G H (Same.refl F) w (r F) q
theorem de_int {i j} : PE X (.Constant (.int i) j pos) (Le X.K F₀ (dC (.int i))) := de_c pe_int fun _ => .int i
theorem de_bl {i j} : PE X (.Constant (.bool i) j pos) (Le X.K F₀ (dC (.bl i))) := de_c pe_bl fun _ => .bl i
theorem de_non {j} : PE X (.Constant .none j pos) (Le X.K F₀ (dC .non)) := de_c pe_non fun _ => .non
theorem de_str {i j} : PE X (.Constant (.str i) j pos) (Le X.K F₀ (dC (.str i))) := de_c pe_str fun _ => .str i
end

/-! ### two operands -/
abbrev D2 := D → D → Gp → DK → Prop
def OpD (K : PySem.W.Frag) (F₀ : Hp) (r' : D2) (r : R2) : Prop := ∀ F G H x y v u Q' Q, Same F₀ F → Wd K F G H → Rp K F x v → Rp K F y u → r' x y G Q' → Ko K F Q' Q → r v u H Q
def dOp (r : D2) (ta tb : DE) : DE := fun δ G Q => ta δ G fun x G1 => tb δ G1 fun y G2 => r x y G2 Q
section
variable {K : PySem.W.Frag} {X : Cx} {F₀ : Hp} {r' r1' : D2} {r r1 : R2} {ta tb tc : DE} {e a b c : Expr} {pos : Pos}
theorem op_le (od : OpD K F₀ r' r) {σ : L2.St} {H : Hp} {Q : VK} (h : Le K F₀ (dOp r' ta tb) σ H Q) : tOp r (Le K F₀ ta) (Le K F₀ tb) σ H Q := by
  obtain ⟨δ, F, G, Q', s, en, w, q, k⟩ := h
  refine ⟨δ, F, G, fun x G1 => tb δ G1 fun y G2 => r' x y G2 Q', s, en, w, q, fun x v F1 G1 H1 s1 w1 r1 q1 => ?_⟩
  refine ⟨δ, F1, G1, fun y G2 => r' x y G2 Q', s.trans s1, en.mono s1, w1, q1, fun y u F2 G2 H2 s2 w2 r2 q2 => ?_⟩
  exact od F2 G2 H2 x y v u Q' Q ((s.trans s1).trans s2) w2 (r1.mono s2) r2 q2 (k.mono (s1.trans s2))
theorem de_op {op : Operator} (ho : OpR X (binaryOp op) r) (od : OpD X.K F₀ r' r) (ha : PE X a (Le X.K F₀ ta)) (hb : PE X b (Le X.K F₀ tb)) : PE X (.BinOp a op b pos) (Le X.K F₀ (dOp r' ta tb)) :=
  pe_imp (pe_op ho ha hb) fun _ _ _ => op_le od
theorem de_cmp {op : CmpOp} (ho : OpR X (compareOp op) r) (od : OpD X.K F₀ r' r) (hm : behindInMarks op b = false) (ha : PE X a (Le X.K F₀ ta)) (hb : PE X b (Le X.K F₀ tb)) : PE X (.Compare a [op] [b] pos) (Le X.K F₀ (dOp r' ta tb)) :=
  pe_imp (pe_cmpR ho ha hb hm) fun _ _ _ => op_le od
/-- a truth value as a test -/
def dB (t : DE) : DT := fun δ G Q => t δ G fun d G1 => match d with | .bl b => Q b G1 | _ => False
theorem lt_of_le {t : DE} {σ : L2.St} {H : Hp} {Q : Bool → Hp → Prop} (h : Lt K F₀ (dB t) σ H Q) : Le K F₀ t σ H fun x H1 => ∃ k, x = .bl k ∧ Q k H1 := by
  obtain ⟨δ, F, G, Q', s, en, w, q, k⟩ := h
  refine ⟨δ, F, G, _, s, en, w, q, fun d v F1 G1 H1 s1 w1 r1 q1 => ?_⟩
  split at q1
  · rename_i b
    cases r1
    exact ⟨b, rfl, k b F1 G1 H1 s1 w1 q1⟩
  · exact q1.elim
theorem dt_cmp {op : CmpOp} (ho : OpR X (compareOp op) r) (od : OpD X.K F₀ r' r) (hm : behindInMarks op b = false) (ha : PE X a (Le X.K F₀ ta)) (hb : PE X b (Le X.K F₀ tb)) : PT X (.Compare a [op] [b] pos) (Lt X.K F₀ (dB (dOp r' ta tb))) :=
  pt_imp (pt_cmpR ho ha hb hm) fun _ _ _ h => op_le (Q := fun x H' => ∃ k, x = .bl k ∧ _) od (lt_of_le h)
theorem dt_val {t : DE} (h : PE X e (Le X.K F₀ t)) (he : ∀ whole, isTrue e X.env whole = (do let v ← whole; standAt e.pos; holding [v] (truthy v)) := by intro _; rfl) : PT X e (Lt X.K F₀ (dB t)) :=
  pt_imp (pt_val h he) fun _ _ _ h => lt_of_le h
/-- a < b < c -/
def dChain (r r1 : D2) (ta tb tc : DE) : DE := fun δ G Q => ta δ G fun x G1 => tb δ G1 fun y G2 => r x y G2 fun z G3 => match z with
  | .bl k => if k = true then tc δ G3 fun u G4 => r1 y u G4 Q else Q (.bl false) G3
  | _ => False
theorem chain_le (od : OpD K F₀ r' r) (od1 : OpD K F₀ r1' r1) {σ : L2.St} {H : Hp} {Q : VK} (h : Le K F₀ (dChain r' r1' ta tb tc) σ H Q) : tChain r r1 (Le K F₀ ta) (Le K F₀ tb) (Le K F₀ tc) σ H Q := by
  obtain ⟨δ, F, G, Q', s, en, w, q, k⟩ := h
  refine ⟨δ, F, G, _, s, en, w, q, fun x v F1 G1 H1 s1 w1 r1 q1 => ?_⟩
  refine ⟨δ, F1, G1, _, s.trans s1, en.mono s1, w1, q1, fun y u F2 G2 H2 s2 w2 r2 q2 => ?_⟩
  refine od F2 G2 H2 x y v u _ _ ((s.trans s1).trans s2) w2 (r1.mono s2) r2 q2 fun z zv F3 G3 H3 s3 w3 r3 q3 => ?_
  split at q3
  · rename_i kb
    cases r3
    refine ⟨kb, rfl, ?_⟩
    cases kb with
    | true =>
      rw [if_pos rfl] at q3 ⊢
      refine ⟨δ, F3, G3, _, ((s.trans s1).trans s2).trans s3, ((en.mono s1).mono s2).mono s3, w3, q3, fun z zv F4 G4 H4 s4 w4 r4 q4 => ?_⟩
      exact od1 F4 G4 H4 y z u zv Q' Q ((((s.trans s1).trans s2).trans s3).trans s4) w4 (r2.mono (s3.trans s4)) r4 q4 (k.mono (((s1.trans s2).trans s3).trans s4))
    | false =>
      rw [if_neg Bool.false_ne_true] at q3 ⊢
      exact k _ _ F3 G3 H3 ((s1.trans s2).trans s3) w3 (.bl false) q3
  · exact q3.elim
theorem de_chain {op op' : CmpOp} (ho : OpR X (compareOp op) r) (od : OpD X.K F₀ r' r) (ho1 : OpR X (compareOp op') r1) (od1 : OpD X.K F₀ r1' r1) (ha : PE X a (Le X.K F₀ ta)) (hb : PE X b (Le X.K F₀ tb)) (hc : PE X c (Le X.K F₀ tc))
    (hm : lastMarks [op, op'] [b, c] = false := by with_unfolding_all rfl) : PE X (.Compare a [op, op'] [b, c] pos) (Le X.K F₀ (dChain r' r1' ta tb tc)) := pe_imp (pe_chain ho ho1 ha hb hc hm) fun _ _ _ => chain_le od od1
theorem dt_chain {op op' : CmpOp} (ho : OpR X (compareOp op) r) (od : OpD X.K F₀ r' r) (ho1 : OpR X (compareOp op') r1) (od1 : OpD X.K F₀ r1' r1) (ha : PE X a (Le X.K F₀ ta)) (hb : PE X b (Le X.K F₀ tb)) (hc : PE X c (Le X.K F₀ tc))
    (hm : lastMarks [op, op'] [b, c] = false := by with_unfolding_all rfl) : PT X (.Compare a [op, op'] [b, c] pos) (Lt X.K F₀ (dB (dChain r' r1' ta tb tc))) :=
  pt_imp (pt_chain ho ho1 ha hb hc hm) fun _ _ _ h => chain_le (Q := fun x H' => ∃ k, x = .bl k ∧ _) od od1 (lt_of_le h)
end

/-! ### and, or, not, if-else -/
def dAnd (t u : DT) : DT := fun δ G Q => t δ G fun c G1 => if c = true then u δ G1 Q else Q false G1
def dOr (t u : DT) : DT := fun δ G Q => t δ G fun c G1 => if c = true then Q true G1 else u δ G1 Q
def dNot (t : DT) : DT := fun δ G Q => t δ G fun c G1 => Q (!c) G1
def dAndV (ta tb : DE) : DE := fun δ G Q => ta δ G fun x G1 => match x with | .bl c => if c = true then tb δ G1 Q else Q (.bl false) G1 | _ => False
def dOrV (ta tb : DE) : DE := fun δ G Q => ta δ G fun x G1 => match x with | .bl c => if c = true then Q (.bl true) G1 else tb δ G1 Q | _ => False
def dNotV (ta : DE) : DE := fun δ G Q => ta δ G fun x G1 => match x with | .bl c => Q (.bl (!c)) G1 | _ => False
def dIf (t : DT) (ta tb : DE) : DE := fun δ G Q => t δ G fun c G1 => if c = true then ta δ G1 Q else tb δ G1 Q
section
variable {K : PySem.W.Frag} {X : Cx} {F₀ : Hp} {ta tb tc : DE} {t u : DT} {e a b c : Expr} {rest : List Expr} {pos : Pos}
theorem dw_and (ha : PT X a (Lt X.K F₀ t)) (hb : PW X (.BoolOp .And (b :: rest) pos) (Lt X.K F₀ u)) : PW X (.BoolOp .And (a :: b :: rest) pos) (Lt X.K F₀ (dAnd t u)) := pw_imp (pw_and ha hb) fun σ H Q ⟨δ, F, G, Q', s, en, w, q, k⟩ => by
  refine ⟨δ, F, G, _, s, en, w, q, fun c F1 G1 H1 s1 w1 q1 => ?_⟩
  cases c with
  | true =>
    rw [if_pos rfl] at q1 ⊢
    exact ⟨δ, F1, G1, _, s.trans s1, en.mono s1, w1, q1, fun c F2 G2 H2 s2 w2 q2 => k c F2 G2 H2 (s1.trans s2) w2 q2⟩
  | false =>
    rw [if_neg Bool.false_ne_true] at q1 ⊢
    exact k _ F1 G1 H1 s1 w1 q1
theorem dw_or (ha : PT X a (Lt X.K F₀ t)) (hb : PW X (.BoolOp .Or (b :: rest) pos) (Lt X.K F₀ u)) : PW X (.BoolOp .Or (a :: b :: rest) pos) (Lt X.K F₀ (dOr t u)) := pw_imp (pw_or ha hb) fun σ H Q ⟨δ, F, G, Q', s, en, w, q, k⟩ => by
  refine ⟨δ, F, G, _, s, en, w, q, fun c F1 G1 H1 s1 w1 q1 => ?_⟩
  cases c with
  | false =>
    rw [if_neg Bool.false_ne_true] at q1 ⊢
    exact ⟨δ, F1, G1, _, s.trans s1, en.mono s1, w1, q1, fun c F2 G2 H2 s2 w2 q2 => k c F2 G2 H2 (s1.trans s2) w2 q2⟩
  | true =>
    rw [if_pos rfl] at q1 ⊢
    exact k _ F1 G1 H1 s1 w1 q1
theorem dt_not (ha : PT X a (Lt X.K F₀ t)) : PT X (.UnaryOp .Not a pos) (Lt X.K F₀ (dNot t)) := pt_imp (pt_not ha) fun σ H Q ⟨δ, F, G, Q', s, en, w, q, k⟩ =>
  ⟨δ, F, G, _, s, en, w, q, fun c F1 G1 H1 s1 w1 q1 => k _ F1 G1 H1 s1 w1 q1⟩
theorem de_and (ha : PE X a (Le X.K F₀ ta)) (hb : PE X (.BoolOp .And (b :: rest) pos) (Le X.K F₀ tb)) : PE X (.BoolOp .And (a :: b :: rest) pos) (Le X.K F₀ (dAndV ta tb)) := pe_imp (pe_and ha hb) fun σ H Q ⟨δ, F, G, Q', s, en, w, q, k⟩ => by
  refine ⟨δ, F, G, _, s, en, w, q, fun x v F1 G1 H1 s1 w1 r1 q1 => ?_⟩
  split at q1
  · rename_i c
    cases r1
    refine ⟨c, rfl, ?_⟩
    cases c with
    | true =>
      rw [if_pos rfl] at q1 ⊢
      exact ⟨δ, F1, G1, _, s.trans s1, en.mono s1, w1, q1, k.mono s1⟩
    | false =>
      rw [if_neg Bool.false_ne_true] at q1 ⊢
      exact k _ _ F1 G1 H1 s1 w1 (.bl false) q1
  · exact q1.elim
theorem de_or (ha : PE X a (Le X.K F₀ ta)) (hb : PE X (.BoolOp .Or (b :: rest) pos) (Le X.K F₀ tb)) : PE X (.BoolOp .Or (a :: b :: rest) pos) (Le X.K F₀ (dOrV ta tb)) := pe_imp (pe_or ha hb) fun σ H Q ⟨δ, F, G, Q', s, en, w, q, k⟩ => by
  refine ⟨δ, F, G, _, s, en, w, q, fun x v F1 G1 H1 s1 w1 r1 q1 => ?_⟩
  split at q1
  · rename_i c
    cases r1
    refine ⟨c, rfl, ?_⟩
    cases c with
    | false =>
      rw [if_neg Bool.false_ne_true] at q1 ⊢
      exact ⟨δ, F1, G1, _, s.trans s1, en.mono s1, w1, q1, k.mono s1⟩
    | true =>
      rw [if_pos rfl] at q1 ⊢
      exact k _ _ F1 G1 H1 s1 w1 (.bl true) q1
  · exact q1.elim
theorem de_not (ha : PE X a (Le X.K F₀ ta)) : PE X (.UnaryOp .Not a pos) (Le X.K F₀ (dNotV ta)) := pe_imp (pe_not ha) fun σ H Q ⟨δ, F, G, Q', s, en, w, q, k⟩ => by
  refine ⟨δ, F, G, _, s, en, w, q, fun x v F1 G1 H1 s1 w1 r1 q1 => ?_⟩
  split at q1
  · rename_i c
    cases r1
    exact ⟨c, rfl, k _ _ F1 G1 H1 s1 w1 (.bl _) q1⟩
  · exact q1.elim
theorem de_if (hc : PT X c (Lt X.K F₀ t)) (ha : PE X a (Le X.K F₀ ta)) (hb : PE X b (Le X.K F₀ tb)) : PE X (.IfExp c a b pos) (Le X.K F₀ (dIf t ta tb)) := pe_imp (pe_ifExp hc ha hb) fun σ H Q ⟨δ, F, G, Q', s, en, w, q, k⟩ => by
  refine ⟨δ, F, G, _, s, en, w, q, fun c F1 G1 H1 s1 w1 q1 => ?_⟩
  cases c with
  | false =>
    rw [if_neg Bool.false_ne_true] at q1 ⊢
    exact ⟨δ, F1, G1, _, s.trans s1, en.mono s1, w1, q1, k.mono s1⟩
  | true =>
    rw [if_pos rfl] at q1 ⊢
    exact ⟨δ, F1, G1, _, s.trans s1, en.mono s1, w1, q1, k.mono s1⟩
end

/-! ### ints -/
def dI (C : Int → Int → Prop) (g : Int → Int → D) : D2 := fun x y G Q => match x, y with | .int i, .int j => C i j ∧ Q (g i j) G | _, _ => False
def dI0 (g : Int → Int → D) : D2 := fun x y G Q => match x, y with | .int i, .int j => Q (g i j) G | _, _ => False
section
variable {K : PySem.W.Frag} {F₀ : Hp}
theorem od_I {C C' : Int → Int → Prop} {g : Int → Int → D} {g' : Int → Int → V} (h : ∀ i j, C i j → C' i j) (hg : ∀ F i j, C i j → Rp K F (g i j) (g' i j)) : OpD K F₀ (dI C g) (rI C' g') := by
  intro F G H x y v u Q' Q s w rx ry q k
  unfold dI at q
  split at q
  · rename_i i j
    cases rx; cases ry
    exact ⟨i, j, rfl, rfl, h i j q.1, k _ _ F G H (Same.refl F) w (hg F i j q.1) q.2⟩
  · exact q.elim
theorem od_I0 {g : Int → Int → D} {g' : Int → Int → V} (hg : ∀ F i j, Rp K F (g i j) (g' i j)) : OpD K F₀ (dI0 g) (rI0 g') := by
  intro F G H x y v u Q' Q s w rx ry q k
  unfold dI0 at q
  split at q
  · rename_i i j
    cases rx; cases ry
    exact ⟨i, j, rfl, rfl, k _ _ F G H (Same.refl F) w (hg F i j) q⟩
  · exact q.elim
end
/-- a product that the machine holds -/
def MulOk (i j : Int) : Prop := CMul i j ∨ CMulW i j
theorem MulOk.l {i j : Int} (h1 : -(2 ^ 64) < i) (h2 : i < 2 ^ 64) : MulOk i j := .inl (.inl ⟨h1, h2⟩)
theorem MulOk.r {i j : Int} (h1 : -(2 ^ 64) < j) (h2 : j < 2 ^ 64) : MulOk i j := .inl (.inr ⟨h1, h2⟩)
theorem MulOk.w {i j : Int} {a b : Nat} (ha : i.natAbs < 2 ^ a) (hb : j.natAbs < 2 ^ b) (h0 : 0 < a) (h1 : 0 < b) (h : a + b ≤ 1000000) : MulOk i j := .inr (wide_mul ha hb h0 h1 h)
theorem op_mulM {X : Cx} : OpR X (binaryOp .Mult) (rI MulOk fun i j => .int (i * j)) := opI fun _ _ _ _ _ _ _ hc q => mul_int q (hc.elim CMul.ok CMulW.ok)
/-- // and % by a positive divisor -/
def DivOk (_ j : Int) : Prop := 0 < j ∧ j.natAbs.log2 < 9000
theorem op_fdivM {X : Cx} : OpR X (binaryOp .FloorDiv) (rI DivOk fun i j => .int (i / j)) := op_fdivW
def dSub : D2 := dI0 fun i j => .int (i - j)
def dDiv : D2 := dI DivOk fun i j => .int (i / j)
def dMod : D2 := dI (fun _ j => 0 < j) fun i j => .int (i % j)
def dPow : D2 := dI CPow fun i j => .int (i ^ j.toNat)
def dLt : D2 := dI0 fun i j => .bl (decide (i < j))
def dLe : D2 := dI0 fun i j => .bl (decide (i ≤ j))
def dGt : D2 := dI0 fun i j => .bl (decide (j < i))
def dGe : D2 := dI0 fun i j => .bl (decide (j ≤ i))
section
variable {K : PySem.W.Frag} {F₀ : Hp}
theorem od_sub : OpD K F₀ dSub (rI0 fun i j => .int (i - j)) := od_I0 fun _ _ _ => .int _
theorem od_div : OpD K F₀ dDiv (rI DivOk fun i j => .int (i / j)) := od_I (fun _ _ h => h) fun _ _ _ _ => .int _
theorem od_mod : OpD K F₀ dMod (rI (fun _ j => 0 < j) fun i j => .int (i % j)) := od_I (fun _ _ h => h) fun _ _ _ _ => .int _
theorem od_pow : OpD K F₀ dPow (rI CPow fun i j => .int (i ^ j.toNat)) := od_I (fun _ _ h => h) fun _ _ _ _ => .int _
theorem od_lt : OpD K F₀ dLt (rI0 fun i j => .bl (decide (i < j))) := od_I0 fun _ _ _ => .bl _
theorem od_le : OpD K F₀ dLe (rI0 fun i j => .bl (decide (i ≤ j))) := od_I0 fun _ _ _ => .bl _
theorem od_gt : OpD K F₀ dGt (rI0 fun i j => .bl (decide (j < i))) := od_I0 fun _ _ _ => .bl _
theorem od_ge : OpD K F₀ dGe (rI0 fun i j => .bl (decide (j ≤ i))) := od_I0 fun _ _ _ => .bl _
end

/-! ### new lists -/
/-- a new list: one that may change (m), or that nobody will change -/
def nL (m : Bool) (xs : List D) (G : Gp) (Q : DK) : Prop := match m with
  | true => ∀ a, G a = none → Q (.ref a) (gu G a (.lst xs))
  | false => Q (.lst xs) G
/-- the items of a list -/
def lstOf : D → Gp → Option (List D)
  | .lst xs, _ => some xs
  | .ref a, G => match G a with | some (.lst xs) => some xs | _ => none
  | _, _ => none
/-- the items of a list or a tuple -/
def seqOf : D → Gp → Option (List D)
  | .tup xs, _ => some xs
  | .scr xs, _ => some xs
  | .lst xs, _ => some xs
  | .ref a, G => match G a with | some (.lst xs) => some xs | _ => none
  | _, _ => none
section
variable {K : PySem.W.Frag} {F F₀ : Hp} {G : Gp} {H : Hp} {d : D} {v : V} {xs : List D}
theorem lstOf_ok (w : Wd K F G H) (r : Rp K F d v) (h : lstOf d G = some xs) : ∃ a vs, v = .ref a ∧ H a = some (.lst vs) ∧ Rps K F xs vs := by
  cases d with
  | lst ys =>
    cases (show some ys = some xs from h)
    cases r with
    | lst a b => exact ⟨_, _, rfl, w.fz _ _ a, b⟩
  | ref a =>
    cases r
    have h' : (match G a with | some (.lst xs) => some xs | _ => none) = some xs := h
    split at h'
    · rename_i ys e
      cases h'
      obtain ⟨_, vs, hv, q⟩ := w.lst e
      exact ⟨a, vs, rfl, hv, q⟩
    · cases h'
  | _ => cases h
theorem seqOf_ok (w : Wd K F G H) (r : Rp K F d v) (h : seqOf d G = some xs) : ∃ a vs, v = .ref a ∧ (SqL K H a vs ∨ SqT K H a vs) ∧ Rps K F xs vs := by
  cases d with
  | tup ys =>
    cases (show some ys = some xs from h)
    cases r with
    | tup a b => exact ⟨_, _, rfl, .inr (sqT_mono w.fz a), b⟩
  | scr ys =>
    cases (show some ys = some xs from h)
    cases r with
    | scr a b => exact ⟨_, _, rfl, .inl (sqL_mono w.fz a), b⟩
  | lst ys =>
    obtain ⟨a, vs, e, s, q⟩ := lstOf_ok w r (show lstOf (.lst ys) G = some xs from h)
    exact ⟨a, vs, e, .inl (.of s), q⟩
  | ref b =>
    obtain ⟨a, vs, e, s, q⟩ := lstOf_ok w r (show lstOf (.ref b) G = some xs from h)
    exact ⟨a, vs, e, .inl (.of s), q⟩
  | _ => cases h
theorem nL_ok {m : Bool} {p : Addr} {vs : List V} {Q' : DK} {Q : VK} (w : Wd K F G H) (hp : H p = none) (r : Rps K F xs vs) (q : nL m xs G Q') (k : Ko K F Q' Q) : Q (.ref p) (upd H p (.lst vs)) := by
  cases m with
  | true =>
    have w2 : Wd K F (gu G p (.lst xs)) (upd H p (.lst vs)) := w.put (w.ffree hp) ⟨vs, upd_same, r⟩
    exact k _ _ F _ _ (Same.refl F) w2 (.ref p) (q p (w.gfree hp))
  | false =>
    have hf := w.ffree hp
    exact k _ _ _ _ _ (same_upd hf) (w.newF hp _) (.lst upd_same (r.mono (same_upd hf))) q
theorem nT_ok {p : Addr} {vs : List V} {Q' : DK} {Q : VK} (w : Wd K F G H) (hp : H p = none) (r : Rps K F xs vs) (q : Q' (.tup xs) G) (k : Ko K F Q' Q) : Q (.ref p) (upd H p (.tup vs)) := by
  have hf := w.ffree hp
  exact k _ _ _ _ _ (same_upd hf) (w.newF hp _) (.tup (.inl (.inl upd_same)) (r.mono (same_upd hf))) q
end

/-! ### arguments, displays -/
def aNil : DA := fun _ G Q => Q [] G
def aCons (t : DE) (u : DA) : DA := fun δ G Q => t δ G fun x G1 => u δ G1 fun xs G2 => Q (x :: xs) G2
def dTup (t : DA) : DE := fun δ G Q => t δ G fun xs G1 => xs.length ≤ sizeLine ∧ Q (.tup xs) G1
def dLst (m : Bool) (t : DA) : DE := fun δ G Q => t δ G fun xs G1 => xs.length ≤ sizeLine ∧ nL m xs G1 Q
section
variable {K : PySem.W.Frag} {X : Cx} {F₀ : Hp} {ta tb tc : DE} {t u : DA} {e a b c : Expr} {es : List Expr} {pos : Pos}
theorem da_nil : PA X [] (La X.K F₀ aNil) := pa_imp pa_nil fun σ H Q ⟨δ, F, G, Q', s, en, w, q, k⟩ => k [] [] F G H (Same.refl F) w .nil q
theorem da_cons (ha : PE X e (Le X.K F₀ ta)) (hr : PA X es (La X.K F₀ t)) (hs : starEach (e :: es) X.env = (false, eval e X.env) :: starEach es X.env := by rfl) : PA X (e :: es) (La X.K F₀ (aCons ta t)) :=
  pa_imp (pa_cons ha hr hs) fun σ H Q ⟨δ, F, G, Q', s, en, w, q, k⟩ =>
    ⟨δ, F, G, _, s, en, w, q, fun x v F1 G1 H1 s1 w1 r1 q1 => ⟨δ, F1, G1, _, s.trans s1, en.mono s1, w1, q1, fun xs vs F2 G2 H2 s2 w2 r2 q2 => k _ _ F2 G2 H2 (s1.trans s2) w2 (.cons (r1.mono s2) r2) q2⟩⟩
theorem de_tup {x1} (h : PA X es (La X.K F₀ t)) : PE X (.Tuple es x1 pos) (Le X.K F₀ (dTup t)) := pe_imp (pe_tup h) fun σ H Q ⟨δ, F, G, Q', s, en, w, q, k⟩ =>
  ⟨δ, F, G, _, s, en, w, q, fun xs vs F1 G1 H1 s1 w1 r1 q1 => ⟨by rw [← r1.length]; exact q1.1, fun p hp => nT_ok w1 hp r1 q1.2 (k.mono s1)⟩⟩
theorem de_lst (m : Bool) (h : PA X es (La X.K F₀ t)) : PE X (.List es pos) (Le X.K F₀ (dLst m t)) := pe_imp (pe_lst h) fun σ H Q ⟨δ, F, G, Q', s, en, w, q, k⟩ =>
  ⟨δ, F, G, _, s, en, w, q, fun xs vs F1 G1 H1 s1 w1 r1 q1 => ⟨by rw [← r1.length]; exact q1.1, fun p hp => nL_ok w1 hp r1 q1.2 (k.mono s1)⟩⟩
end

/-! ### calls -/
def CallD (K : PySem.W.Frag) (F₀ : Hp) (r' : List D → Gp → DK → Prop) (r : List V → Hp → VK → Prop) : Prop := ∀ F G H xs vs Q' Q, Same F₀ F → Wd K F G H → Rps K F xs vs → r' xs G Q' → Ko K F Q' Q → r vs H Q
def dCB (r : List D → Gp → DK → Prop) (t : DA) : DE := fun δ G Q => t δ G fun vs G1 => r vs G1 Q
section
variable {K : PySem.W.Frag} {X : Cx} {F₀ : Hp} {r' : List D → Gp → DK → Prop} {r : List V → Hp → VK → Prop} {t : DA}
theorem call_le (cd : CallD K F₀ r' r) {σ : L2.St} {H : Hp} {Q : VK} (h : Le K F₀ (dCB r' t) σ H Q) : tCB r (La K F₀ t) σ H Q := by
  obtain ⟨δ, F, G, Q', s, en, w, q, k⟩ := h
  exact ⟨δ, F, G, _, s, en, w, q, fun xs vs F1 G1 H1 s1 w1 r1 q1 => cd F1 G1 H1 xs vs Q' Q (s.trans s1) w1 r1 q1 (k.mono s1)⟩
end
end DL

/-! Rules over trees: operators, built-ins, subscripts. -/
namespace DL
open PySem PySem.Spec PyProof.Rows L2

/-! ### + -/
def dAdd (m : Bool) : D2 := fun x y G Q => match x, y with
  | .int i, .int j => Q (.int (i + j)) G
  | .str i, .str j => i.length + j.length ≤ sizeLine ∧ Q (.str (i ++ j)) G
  | .tup a, .tup b => a.length + b.length ≤ sizeLine ∧ Q (.tup (a ++ b)) G
  | x, y => match lstOf x G, lstOf y G with
    | some a, some b => a.length + b.length ≤ sizeLine ∧ nL m (a ++ b) G Q
    | _, _ => False
def rAddM (K : PySem.W.Frag) : R2 := fun x y H Q => (∃ i j, x = .int i ∧ y = .int j ∧ Q (.int (i + j)) H) ∨ (∃ i j, x = .str i ∧ y = .str j ∧ i.length + j.length ≤ sizeLine ∧ Q (.str (i ++ j)) H) ∨ rCatA K x y H Q ∨ rCat x y H Q
theorem op_addM {X : Cx} : OpR X (binaryOp .Add) (rAddM X.K) := op_add.or (op_add_str.or (op_catA.or op_cat))
section
variable {K : PySem.W.Frag} {F₀ : Hp}
theorem Rps.nil_iff {F : Hp} {ds : List D} {vs : List V} (r : Rps K F ds vs) : vs = [] ↔ ds = [] := by
  cases r <;> simp
theorem od_add (m : Bool) : OpD K F₀ (dAdd m) (rAddM K) := by
  intro F G H x y v u Q' Q s w rx ry q k
  unfold dAdd at q
  split at q
  · cases rx; cases ry
    exact .inl ⟨_, _, rfl, rfl, k _ _ F G H (Same.refl F) w (.int _) q⟩
  · cases rx; cases ry
    exact .inr (.inl ⟨_, _, rfl, rfl, q.1, k _ _ F G H (Same.refl F) w (.str _) q.2⟩)
  · rename_i a b
    cases rx with
    | tup s1 r1 =>
      cases ry with
      | tup s2 r2 =>
        refine .inr (.inr (.inl ⟨_, _, _, _, rfl, rfl, sqT_mono w.fz s1, sqT_mono w.fz s2, by rw [← r1.length, ← r2.length]; exact q.1, fun e => ?_, fun e e2 => ?_, fun e e2 p hp => ?_⟩))
        · have e' := r1.nil_iff.mp e
          subst e'
          exact k _ _ F G H (Same.refl F) w (.tup s2 r2) q.2
        · have e' := r2.nil_iff.mp e2
          subst e'
          have q2 := q.2
          rw [List.append_nil] at q2
          exact k _ _ F G H (Same.refl F) w (.tup s1 r1) q2
        · exact nT_ok w hp (r1.append r2) q.2 k
  · split at q
    · rename_i a b ea eb
      obtain ⟨l, vs, rfl, hl, r1⟩ := lstOf_ok w rx ea
      obtain ⟨l2, vs2, rfl, hl2, r2⟩ := lstOf_ok w ry eb
      exact .inr (.inr (.inr ⟨_, _, _, _, rfl, rfl, hl, hl2, by rw [← r1.length, ← r2.length]; exact q.1, fun p hp => nL_ok w hp (r1.append r2) q.2 k⟩))
    · exact q.elim
end

/-! ### * -/
/-- a tuple, nothing or once -/
theorem tuple_mulSame (l : Addr) (items : Array Value) (n : Nat) (dd : Option Addr) (sl : Array (Option Value)) (x : Int) (u : Tok) (c0 : (decide (x < -(2 ^ 63)) || decide (x ≥ 2 ^ 63)) = false) (c1 : (items.isEmpty || x == 1) = true) :
    Meets (Builtin.«tuple.__mul__» ⟨[.ref l, .int x u], []⟩) (fun _ R s => s.heap.get? l = some { cls := .type "tuple", dict := dd, data := .seq items n, slots := sl } ∧
      R (.ok (.ret (Value.ref l))) s) :=
  .of_wp fun prog w A R s h => by
    obtain ⟨hp, g, d, tk, os⟩ := s
    obtain ⟨hl, h⟩ := h
    have f1 := AutoSeq1.idx_int
    wp_walk using wpAny_loadPart' hl
    repeat (first
      | (refine wpAny_ite_false (decide_eq_false (by rw [c0]; exact Bool.false_ne_true)) ?_; wp_walk using wpAny_loadPart' hl)
      | (refine wpAny_ite_true (decide_eq_true (by rw [c1])) ?_; wp_walk using wpAny_loadPart' hl))
    all_goals first | exact ⟨_, rfl, h⟩ | trace_state
theorem tuple_mulNone (l : Addr) (items : Array Value) (n : Nat) (dd : Option Addr) (sl : Array (Option Value)) (x : Int) (u : Tok) (c0 : (decide (x < -(2 ^ 63)) || decide (x ≥ 2 ^ 63)) = false) (c1 : (items.isEmpty || x == 1) = false) (c2 : (decide (x ≤ 0) || items.isEmpty) = true) :
    Meets (Builtin.«tuple.__mul__» ⟨[.ref l, .int x u], []⟩) (fun _ R s => s.heap.get? l = some { cls := .type "tuple", dict := dd, data := .seq items n, slots := sl } ∧
      R (.ok (.ret (Value.ref s.heap.objs.size))) { s with heap := s.heap.push { cls := Value.type "tuple", data := Data.seq #[] }, toks := s.toks }) :=
  .of_wp fun prog w A R s h => by
    obtain ⟨hp, g, d, tk, os⟩ := s
    obtain ⟨hl, h⟩ := h
    have f1 := AutoSeq1.idx_int
    wp_walk using wpAny_loadPart' hl
    repeat (first
      | (refine wpAny_ite_false (decide_eq_false (by rw [c0]; exact Bool.false_ne_true)) ?_; wp_walk using wpAny_loadPart' hl)
      | (refine wpAny_ite_false (decide_eq_false (by rw [c1]; exact Bool.false_ne_true)) ?_; wp_walk using wpAny_loadPart' hl)
      | (refine wpAny_ite_true (decide_eq_true (by rw [c2])) ?_; wp_walk using wpAny_loadPart' hl))
    all_goals first | exact ⟨_, rfl, h⟩ | trace_state
/-- a tuple times an int, any -/
def rRepA (K : PySem.W.Frag) : R2 := fun x y H Q => ∃ l k xs, x = .ref l ∧ y = .int k ∧ SqT K H l xs ∧ -(2 ^ 63) ≤ k ∧ k ≤ 1000 ∧ xs.length ≤ 1000 ∧ (xs = [] ∨ k = 1 → Q (.ref l) H) ∧ (¬ (xs = [] ∨ k = 1) → ∀ p, H p = none → Q (.ref p) (upd H p (.tup (List.replicate k.toNat xs).flatten)))
theorem op_repA {X : Cx} : OpR X (binaryOp .Mult) (rRepA X.K) := by
  intro pins s σ H x y v u Q I rx ry h
  obtain ⟨l, k, xs, rfl, rfl, hT, h1, h2, hz, q1, q2⟩ := h
  by_cases hsame : xs = [] ∨ k = 1
  · cases rx
    obtain ⟨t, rfl⟩ := ry
    obtain ⟨its, r, ⟨⟨cls, dd, data, sl⟩, ho, hc, n, hd⟩, hs⟩ := I.tuple hT
    simp only at hc hd
    subst hc hd
    have c0 : (decide (k < -(2 ^ 63)) || decide (k ≥ 2 ^ 63)) = false := by
      rw [decide_eq_false (by omega), decide_eq_false (by omega)] <;> rfl
    have c1 : (its.toArray.isEmpty || k == 1) = true := by
      rcases hsame with e | e
      · subst e
        cases r
        rfl
      · subst e
        simp
    refine wpAny_binaryOp_repeat_ref (T := "tuple") (U := "int") (by decide) ⟨_, ho, rfl⟩ (fun s' => typeIs_int s' k t) noFill_tuple_mul F.fills_int_mul F.slot_int_rmul repeat_tuple F.slot_int_index.lookup
      (call_meets F.slot_int_rmul (typeIs_int s k t) F.entry_int_rmul (F.args_int_rmul_2 _ _) (int_rmul_tuple k t l its.toArray n dd sl)
        ⟨ho, rfl, ⟨_, ho, rfl⟩, call_meets F.slot_tuple_mul ⟨_, ho, rfl⟩ F.entry_tuple_mul (F.args_tuple_mul_2 _ _) (tuple_mulSame l its.toArray n dd sl k t c0 c1) ⟨ho, ?_⟩⟩)
    exact ⟨.ref l, H, I, rfl, q1 hsame⟩
  · by_cases hk : 2 ≤ k
    · exact op_repT pins s σ H _ _ v u Q I rx ry ⟨l, k, xs, rfl, rfl, hT, fun e => hsame (.inl e), hk, h2, hz, q2 hsame⟩
    · cases rx
      obtain ⟨t, rfl⟩ := ry
      obtain ⟨its, r, ⟨⟨cls, dd, data, sl⟩, ho, hc, n, hd⟩, hs⟩ := I.tuple hT
      simp only at hc hd
      subst hc hd
      have k1 : k ≠ 1 := fun e => hsame (.inr e)
      have xs1 : xs ≠ [] := fun e => hsame (.inl e)
      have c0 : (decide (k < -(2 ^ 63)) || decide (k ≥ 2 ^ 63)) = false := by
        rw [decide_eq_false (by omega), decide_eq_false (by omega)] <;> rfl
      have hi : its.toArray.isEmpty = false := by
        cases r with
        | nil => exact absurd rfl xs1
        | cons a b => rfl
      have c1 : (its.toArray.isEmpty || k == 1) = false := by
        rw [hi, Bool.false_or]
        exact beq_eq_false_iff_ne.mpr k1
      have c2 : (decide (k ≤ 0) || its.toArray.isEmpty) = true := by
        rw [hi, Bool.or_false]
        exact decide_eq_true (by omega)
      refine wpAny_binaryOp_repeat_ref (T := "tuple") (U := "int") (by decide) ⟨_, ho, rfl⟩ (fun s' => typeIs_int s' k t) noFill_tuple_mul F.fills_int_mul F.slot_int_rmul repeat_tuple F.slot_int_index.lookup
        (call_meets F.slot_int_rmul (typeIs_int s k t) F.entry_int_rmul (F.args_int_rmul_2 _ _) (int_rmul_tuple k t l its.toArray n dd sl)
          ⟨ho, rfl, ⟨_, ho, rfl⟩, call_meets F.slot_tuple_mul ⟨_, ho, rfl⟩ F.entry_tuple_mul (F.args_tuple_mul_2 _ _) (tuple_mulNone l its.toArray n dd sl k t c0 c1 c2) ⟨ho, ?_⟩⟩)
      have e0 : k.toNat = 0 := by omega
      have q3 := q2 hsame
      rw [e0] at q3
      refine ⟨.ref s.heap.objs.size, _, I.laid (t' := s.toks) (o := .tup []) (fun b ob q => Heap.get?_push_of_some _ q) (Nat.le_refl _) ?_, rfl, q3 _ (I.hok.fresh (Nat.le_refl _))⟩
      exact ⟨Nat.zero_le _, [], .nil, IsTup.new _ _⟩
def rMulM (K : PySem.W.Frag) : R2 := fun x y H Q => (∃ i j, x = .int i ∧ y = .int j ∧ MulOk i j ∧ Q (.int (i * j)) H) ∨ rRepA K x y H Q ∨ rRep x y H Q
theorem op_mulA {X : Cx} : OpR X (binaryOp .Mult) (rMulM X.K) := op_mulM.or (op_repA.or op_rep)
def rep (n : Int) (xs : List D) : List D := (List.replicate n.toNat xs).flatten
def dMul (m : Bool) : D2 := fun x y G Q => match x, y with
  | .int i, .int j => MulOk i j ∧ Q (.int (i * j)) G
  | .tup a, .int k => -(2 ^ 63) ≤ k ∧ k ≤ 1000 ∧ a.length ≤ 1000 ∧ Q (.tup (rep k a)) G
  | x, .int k => match lstOf x G with
    | some a => -(2 ^ 63) ≤ k ∧ k < 2 ^ 63 ∧ a.length * k.toNat ≤ sizeLine ∧ nL m (rep k a) G Q
    | none => False
  | _, _ => False
section
variable {K : PySem.W.Frag} {F₀ : Hp}
theorem Rps.rep {F : Hp} {xs : List D} {vs : List V} (h : Rps K F xs vs) : ∀ k : Nat, Rps K F (List.replicate k xs).flatten (List.replicate k vs).flatten
  | 0 => .nil
  | k + 1 => by
    rw [List.replicate_succ, List.replicate_succ, List.flatten_cons, List.flatten_cons]
    exact h.append (h.rep k)
theorem od_mul (m : Bool) : OpD K F₀ (dMul m) (rMulM K) := by
  intro F G H x y v u Q' Q s w rx ry q k
  unfold dMul at q
  split at q
  · cases rx; cases ry
    exact .inl ⟨_, _, rfl, rfl, q.1, k _ _ F G H (Same.refl F) w (.int _) q.2⟩
  · rename_i a n
    cases ry
    cases rx with
    | tup s1 r1 =>
      obtain ⟨h1, h2, h3, q⟩ := q
      refine .inr (.inl ⟨_, _, _, rfl, rfl, sqT_mono w.fz s1, h1, h2, by rw [← r1.length]; exact h3, fun e => ?_, fun e p hp => nT_ok w hp (r1.rep _) q k⟩)
      have e' : DL.rep n a = a := by
        rcases e with e | e
        · have e2 := r1.nil_iff.mp e
          subst e2
          unfold DL.rep
          simp
        · subst e
          unfold DL.rep
          simp
      rw [e'] at q
      exact k _ _ F G H (Same.refl F) w (.tup s1 r1) q
  · split at q
    · rename_i a ea
      cases ry
      obtain ⟨l, vs, rfl, hl, r1⟩ := lstOf_ok w rx ea
      obtain ⟨h1, h2, h3, q⟩ := q
      exact .inr (.inr ⟨_, _, _, rfl, rfl, hl, h1, h2, by rw [← r1.length]; exact h3, fun p hp => nL_ok w hp (r1.rep _) q k⟩)
    · exact q.elim
  · exact q.elim
end

/-! ### == of data -/
mutual
def toPy : D → Option PyData
  | .non => some .none
  | .bl b => some (.bool b)
  | .int i => some (.int i)
  | .str x => some (.str x)
  | .tup xs => (toPys xs).map .tuple
  | .lst xs => (toPys xs).map .list
  | _ => none
def toPys : List D → Option (List PyData)
  | [] => some []
  | x :: xs => match toPy x, toPys xs with | some p, some ps => some (p :: ps) | _, _ => none
end
/-- data, a list that may change among them at the top -/
def pyOf : D → Gp → Option PyData
  | .ref a, G => match G a with | some (.lst xs) => (toPys xs).map .list | _ => none
  | d, _ => toPy d
section
variable {K : PySem.W.Frag} {F F₀ H : Hp} {G : Gp}
mutual
theorem toPy_dp (e : Same F H) : ∀ (d : D) (v : V) (p : PyData), Rp K F d v → toPy d = some p → Dp K H v p
  | .non, _, _, r, h => by cases r; cases (show some _ = some _ from h); exact .non
  | .bl _, _, _, r, h => by cases r; cases (show some _ = some _ from h); exact .bl _
  | .int _, _, _, r, h => by cases r; cases (show some _ = some _ from h); exact .int _
  | .str _, _, _, r, h => by cases r; cases (show some _ = some _ from h); exact .str _
  | .tup xs, _, _, r, h => by
    cases r with
    | tup a b =>
      simp only [toPy, Option.map_eq_some_iff] at h
      obtain ⟨ps, h1, rfl⟩ := h
      exact .tup (sqT_mono e a) (toPys_dp e xs _ _ b h1)
  | .lst xs, _, _, r, h => by
    cases r with
    | lst a b =>
      simp only [toPy, Option.map_eq_some_iff] at h
      obtain ⟨ps, h1, rfl⟩ := h
      exact .lst (.of (e _ _ a)) (toPys_dp e xs _ _ b h1)
  | .ty _, _, _, _, h => by simp [toPy] at h
  | .scr _, _, _, _, h => by simp [toPy] at h
  | .dct _, _, _, _, h => by simp [toPy] at h
  | .obj _ _, _, _, _, h => by simp [toPy] at h
  | .ref _, _, _, _, h => by simp [toPy] at h
  | .fn _, _, _, _, h => by simp [toPy] at h
theorem toPys_dp (e : Same F H) : ∀ (ds : List D) (vs : List V) (ps : List PyData), Rps K F ds vs → toPys ds = some ps → DpAll K H vs ps
  | [], _, _, r, h => by cases r; cases (show some _ = some _ from h); exact .nil
  | d :: ds, _, _, r, h => by
    cases r with
    | cons a b =>
      simp only [toPys] at h
      split at h
      · rename_i p ps h1 h2
        cases h
        exact .cons (toPy_dp e d _ _ a h1) (toPys_dp e ds _ _ b h2)
      · cases h
end
theorem pyOf_dp (w : Wd K F G H) {d : D} {v : V} {p : PyData} (r : Rp K F d v) (h : pyOf d G = some p) : Dp K H v p := by
  cases d with
  | ref a =>
    cases r
    have h' : (match G a with | some (.lst xs) => (toPys xs).map .list | _ => none) = some p := h
    split at h'
    · rename_i ys e
      obtain ⟨_, vs, hv, q⟩ := w.lst e
      simp only [Option.map_eq_some_iff] at h'
      obtain ⟨ps, h1, rfl⟩ := h'
      exact .lst (.of hv) (toPys_dp w.fz ys _ _ q h1)
    · cases h'
  | _ => exact toPy_dp w.fz _ _ _ r h
end
def dEq : D2 := fun x y G Q => match x, y with
  | .int i, .int j => Q (.bl (decide (i = j))) G
  | .str i, .str j => Q (.bl (decide (i = j))) G
  | .bl i, .bl j => Q (.bl (decide (i = j))) G
  | x, y => match pyOf x G, pyOf y G with
    | some p, some q => SeqAt.shaped p = true ∧ SeqAt.shaped q = true ∧ Q (.bl (PyData.eqv p q)) G
    | _, _ => False
def dNe : D2 := fun x y G Q => match x, y with
  | .int i, .int j => Q (.bl (!decide (i = j))) G
  | .str i, .str j => Q (.bl (!decide (i = j))) G
  | .bl i, .bl j => Q (.bl (!decide (i = j))) G
  | x, y => match pyOf x G, pyOf y G with
    | some p, some q => SeqAt.shaped p = true ∧ SeqAt.shaped q = true ∧ Q (.bl (!PyData.eqv p q)) G
    | _, _ => False
def rEqM (K : PySem.W.Frag) : R2 := fun x y H Q => rEq x y H Q ∨ rEqD K x y H Q
def rNeM (K : PySem.W.Frag) : R2 := fun x y H Q => rNe x y H Q ∨ rNeD K x y H Q
theorem op_eqM {X : Cx} (hu : X.A.units + 64 < cLine) : OpR X (compareOp .Eq) (rEqM X.K) := op_eq.or (op_eqD hu)
theorem op_neM {X : Cx} (hu : X.A.units + 64 < cLine) : OpR X (compareOp .NotEq) (rNeM X.K) := op_ne.or (op_neD hu)
section
variable {K : PySem.W.Frag} {F₀ : Hp}
theorem od_eq : OpD K F₀ dEq (rEqM K) := by
  intro F G H x y v u Q' Q s w rx ry q k
  unfold dEq at q
  split at q
  · cases rx; cases ry
    exact .inl ⟨rfl, by simpa using k _ _ F G H (Same.refl F) w (.bl _) q⟩
  · cases rx; cases ry
    exact .inl ⟨rfl, by simpa using k _ _ F G H (Same.refl F) w (.bl _) q⟩
  · cases rx; cases ry
    exact .inl ⟨rfl, by simpa using k _ _ F G H (Same.refl F) w (.bl _) q⟩
  · split at q
    · rename_i p p2 h1 h2
      exact .inr ⟨p, p2, pyOf_dp w rx h1, pyOf_dp w ry h2, q.1, q.2.1, k _ _ F G H (Same.refl F) w (.bl _) q.2.2⟩
    · exact q.elim
theorem od_ne : OpD K F₀ dNe (rNeM K) := by
  intro F G H x y v u Q' Q s w rx ry q k
  unfold dNe at q
  split at q
  · cases rx; cases ry
    exact .inl ⟨rfl, by simpa using k _ _ F G H (Same.refl F) w (.bl _) q⟩
  · cases rx; cases ry
    exact .inl ⟨rfl, by simpa using k _ _ F G H (Same.refl F) w (.bl _) q⟩
  · cases rx; cases ry
    exact .inl ⟨rfl, by simpa using k _ _ F G H (Same.refl F) w (.bl _) q⟩
  · split at q
    · rename_i p p2 h1 h2
      exact .inr ⟨p, p2, pyOf_dp w rx h1, pyOf_dp w ry h2, q.1, q.2.1, k _ _ F G H (Same.refl F) w (.bl _) q.2.2⟩
    · exact q.elim
end
/-! ### is None -/
def dIsN : D2 := fun x y G Q => match y with | .non => Q (.bl (match x with | .non => true | _ => false)) G | _ => False
def dNotN : D2 := fun x y G Q => match y with | .non => Q (.bl (match x with | .non => false | _ => true)) G | _ => False
section
variable {K : PySem.W.Frag} {F₀ : Hp}
theorem od_isN : OpD K F₀ dIsN (fun x y H Q => y = .non ∧ Q (.bl (decide (x = .non))) H) := by
  intro F G H x y v u Q' Q s w rx ry q k
  unfold dIsN at q
  split at q
  · cases ry
    refine ⟨rfl, k (.bl (decide (v = .non))) _ F G H (Same.refl F) w (.bl _) ?_⟩
    cases rx <;> simpa using q
  · exact q.elim
theorem od_notN : OpD K F₀ dNotN (fun x y H Q => y = .non ∧ Q (.bl (!decide (x = .non))) H) := by
  intro F G H x y v u Q' Q s w rx ry q k
  unfold dNotN at q
  split at q
  · cases ry
    refine ⟨rfl, k (.bl (!decide (v = .non))) _ F G H (Same.refl F) w (.bl _) ?_⟩
    cases rx <;> simpa using q
  · exact q.elim
end
/-! ### x in a written or made list, tuple of flat things -/
def flatD : D → Bool
  | .non | .bl _ | .int _ | .str _ => true
  | _ => false
def toV : D → V
  | .bl b => .bl b
  | .int i => .int i
  | .str x => .str x
  | _ => .non
def inD (x : D) (xs : List D) : Bool := inV (toV x) (xs.map toV)
def dIn (neg : Bool) : D2 := fun x y G Q => match seqOf y G with
  | some xs => flatD x = true ∧ xs.all flatD = true ∧ Q (.bl (if neg then !inD x xs else inD x xs)) G
  | none => False
section
variable {K : PySem.W.Frag} {F₀ : Hp}
theorem flat_toV {F : Hp} {d : D} {v : V} (r : Rp K F d v) (h : flatD d = true) : v = toV d ∧ flatV v = true := by
  cases r <;> simp_all [flatD, toV, flatV]
theorem flats_toV {F : Hp} : ∀ {ds : List D} {vs : List V}, Rps K F ds vs → ds.all flatD = true → vs = ds.map toV ∧ vs.all flatV = true
  | [], _, r, _ => by cases r; exact ⟨rfl, rfl⟩
  | d :: ds, _, r, h => by
    cases r with
    | cons a b =>
      rw [List.all_cons, Bool.and_eq_true] at h
      obtain ⟨e1, f1⟩ := flat_toV a h.1
      obtain ⟨e2, f2⟩ := flats_toV b h.2
      exact ⟨by rw [e1, e2]; rfl, by rw [List.all_cons, f1, f2]; rfl⟩
theorem od_in (neg : Bool) : OpD K F₀ (dIn neg) (rIn K neg) := by
  intro F G H x y v u Q' Q s w rx ry q k
  unfold dIn at q
  split at q
  · rename_i xs e
    obtain ⟨a, vs, rfl, hs, r⟩ := seqOf_ok w ry e
    obtain ⟨h1, h2, q⟩ := q
    obtain ⟨e1, f1⟩ := flat_toV rx h1
    obtain ⟨e2, f2⟩ := flats_toV r h2
    subst e1 e2
    exact ⟨a, _, rfl, hs, f1, f2, k _ _ F G H (Same.refl F) w (.bl _) q⟩
  · exact q.elim
end
end DL

/-! Rules over trees: subscripts, slices, built-ins, methods, calls of defs. -/
namespace DL
open PySem PySem.Spec PyProof.Rows L2

/-! ### one operand -/
def dUn (r : D → Gp → DK → Prop) (t : DE) : DE := fun δ G Q => t δ G fun x G1 => r x G1 Q
def UnD (K : PySem.W.Frag) (F₀ : Hp) (r' : D → Gp → DK → Prop) (r : V → Hp → VK → Prop) : Prop := ∀ F G H x v Q' Q, Same F₀ F → Wd K F G H → Rp K F x v → r' x G Q' → Ko K F Q' Q → r v H Q
section
variable {K : PySem.W.Frag} {X : Cx} {F₀ : Hp} {r' : D → Gp → DK → Prop} {r : V → Hp → VK → Prop} {t : DE} {e a : Expr} {pos : Pos}
theorem un_le (od : UnD K F₀ r' r) {σ : L2.St} {H : Hp} {Q : VK} (h : Le K F₀ (dUn r' t) σ H Q) : (fun (σ : L2.St) H Q => Le K F₀ t σ H fun x H1 => r x H1 Q) σ H Q := by
  obtain ⟨δ, F, G, Q', s, en, w, q, k⟩ := h
  exact ⟨δ, F, G, _, s, en, w, q, fun x v F1 G1 H1 s1 w1 r1 q1 => od F1 G1 H1 x v Q' Q (s.trans s1) w1 r1 q1 (k.mono s1)⟩
def dNegR : D → Gp → DK → Prop := fun x G Q => match x with | .int i => Q (.int (-i)) G | _ => False
theorem ud_neg : UnD K F₀ dNegR (rU fun i => .int (-i)) := by
  intro F G H x v Q' Q s w rx q k
  unfold dNegR at q
  split at q
  · cases rx
    exact ⟨_, rfl, k _ _ F G H (Same.refl F) w (.int _) q⟩
  · exact q.elim
theorem de_neg (ha : PE X a (Le X.K F₀ t)) : PE X (.UnaryOp .USub a pos) (Le X.K F₀ (dUn dNegR t)) := pe_imp (pe_un un_neg ha) fun _ _ _ => un_le ud_neg
end

/-! ### subscripts -/
def dIx : D2 := fun x y G Q => match x, y with
  | .str z, .int i => match atI z.cps.toList i with
    | some c => z.length ≤ sizeLine ∧ Q (.str ⟨#[c]⟩) G
    | none => False
  | x, .int i => match seqOf x G with
    | some xs => match atI xs i with
      | some d => Q d G
      | none => False
    | none => False
  | _, _ => False
section
variable {K : PySem.W.Frag} {X : Cx} {F₀ : Hp} {ta tb : DE} {e a b : Expr} {pos : Pos}
theorem Rps.at {F : Hp} {ds : List D} {vs : List V} {i : Int} {d : D} (r : Rps K F ds vs) (h : atI ds i = some d) : ∃ v, atI vs i = some v ∧ Rp K F d v := by
  unfold atI at h ⊢
  rw [← r.length]
  cases e : ixN ds.length i with
  | none => rw [e] at h; cases h
  | some j =>
    rw [e] at h
    exact r.get h
theorem od_ix : OpD K F₀ dIx (rIx K) := by
  intro F G H x y v u Q' Q s w rx ry q k
  unfold dIx at q
  split at q
  · split at q
    · rename_i c e
      cases rx; cases ry
      exact .inr (.inr ⟨_, _, c, rfl, rfl, q.1, e, k _ _ F G H (Same.refl F) w (.str _) q.2⟩)
    · exact q.elim
  · split at q
    · rename_i xs e
      split at q
      · rename_i d e2
        cases ry
        obtain ⟨a, vs, rfl, hs, r⟩ := seqOf_ok w rx e
        obtain ⟨z, hz, rz⟩ := r.at e2
        have q2 := k _ _ F G H (Same.refl F) w rz q
        rcases hs with hs | hs
        · exact .inl ⟨a, vs, _, z, rfl, rfl, hs, hz, q2⟩
        · exact .inr (.inl ⟨a, vs, _, z, rfl, rfl, hs, hz, q2⟩)
      · exact q.elim
    · exact q.elim
  · exact q.elim
theorem de_ix (ha : PE X a (Le X.K F₀ ta)) (hb : PE X b (Le X.K F₀ tb)) (hs : PlainIx b) : PE X (.Subscript a b pos) (Le X.K F₀ (dOp dIx ta tb)) := pe_imp (pe_ix ix_seq ha hb hs) fun _ _ _ => op_le od_ix
end
/-- the items of a list that is read -/
def rlOf : D → Gp → Option (List D)
  | .scr xs, _ => some xs
  | .lst xs, _ => some xs
  | .ref a, G => match G a with | some (.lst xs) => some xs | _ => none
  | _, _ => none
theorem rlOf_ok {K : PySem.W.Frag} {F : Hp} {G : Gp} {H : Hp} {d : D} {v : V} {xs : List D} (w : Wd K F G H) (r : Rp K F d v) (h : rlOf d G = some xs) : ∃ a vs, v = .ref a ∧ SqL K H a vs ∧ Rps K F xs vs := by
  cases d with
  | scr ys =>
    cases (show some ys = some xs from h)
    cases r with
    | scr a b => exact ⟨_, _, rfl, sqL_mono w.fz a, b⟩
  | lst ys =>
    obtain ⟨a, vs, e, s, q⟩ := lstOf_ok w r (show lstOf (.lst ys) G = some xs from h)
    exact ⟨a, vs, e, .of s, q⟩
  | ref b =>
    obtain ⟨a, vs, e, s, q⟩ := lstOf_ok w r (show lstOf (.ref b) G = some xs from h)
    exact ⟨a, vs, e, .of s, q⟩
  | _ => cases h
/-! ### slices -/
def cutD (xs : List D) (lo hi : Option Int) : List D := (xs.drop (HT.sIx xs.length 0 lo)).take (HT.sIx xs.length xs.length hi - HT.sIx xs.length 0 lo)
abbrev DO := Sl → Gp → (Option Int → Gp → Prop) → Prop
def oNone : DO := fun _ G Q => Q none G
def oSome (t : DE) : DO := fun δ G Q => t δ G fun x G1 => match x with | .int i => Q (some i) G1 | _ => False
def dSl (m : Bool) (t : DE) (l u : DO) : DE := fun δ G Q => t δ G fun x G1 => l δ G1 fun lo G2 => u δ G2 fun hi G3 => match x with
  | .tup xs => Q (.tup (cutD xs lo hi)) G3
  | .str z => z.length ≤ sizeLine ∧ Q (.str (cutS z lo hi)) G3
  | x => match rlOf x G3 with
    | some xs => nL m (cutD xs lo hi) G3 Q
    | none => False
def Lo (K : PySem.W.Frag) (F₀ : Hp) (t : DO) : TO := fun σ H Q => ∃ δ F G Q', Same F₀ F ∧ En K F δ σ ∧ Wd K F G H ∧ t δ G Q' ∧ ∀ o F' G' H', Same F F' → Wd K F' G' H' → Q' o G' → Q o H'
section
variable {K : PySem.W.Frag} {X : Cx} {F₀ : Hp} {t : DE} {tl th : DO} {e a b : Expr} {lo hi : Option Expr} {pos p2 : Pos}
theorem do_none : PO X none (Lo X.K F₀ oNone) := ⟨fun pins s σ H Q I ⟨δ, F, G, Q', s1, en, w, q, k⟩ => po_none.run pins s σ H Q I (k none F G H (Same.refl F) w q)⟩
theorem do_some (h : PE X e (Le X.K F₀ t)) : PO X (some e) (Lo X.K F₀ (oSome t)) := ⟨fun pins s σ H Q I ⟨δ, F, G, Q', s1, en, w, q, k⟩ => (po_some h).run pins s σ H Q I (by
  refine ⟨δ, F, G, _, s1, en, w, q, fun x v F1 G1 H1 s2 w1 r1 q1 => ?_⟩
  split at q1
  · cases r1
    exact ⟨_, rfl, k _ F1 G1 H1 s2 w1 q1⟩
  · exact q1.elim)⟩
theorem Rps.cut {F : Hp} {ds : List D} {vs : List V} (r : Rps K F ds vs) (lo hi : Option Int) : Rps K F (cutD ds lo hi) (cutV vs lo hi) := by
  unfold cutD cutV
  rw [← r.length]
  exact (r.drop _).take _
theorem de_slice (m : Bool) (he : PE X e (Le X.K F₀ t)) (hl : PO X lo (Lo X.K F₀ tl)) (hu : PO X hi (Lo X.K F₀ th)) : PE X (.Subscript e (.Slice lo hi none p2) pos) (Le X.K F₀ (dSl m t tl th)) :=
  pe_imp (pe_slice (sl_tupA.or (sl_list.or sl_str)) he hl hu) fun σ H Q ⟨δ, F, G, Q', s, en, w, q, k⟩ => by
    refine ⟨δ, F, G, _, s, en, w, q, fun x v F1 G1 H1 s1 w1 r1 q1 => ?_⟩
    refine ⟨δ, F1, G1, _, s.trans s1, en.mono s1, w1, q1, fun lo F2 G2 H2 s2 w2 q2 => ?_⟩
    refine ⟨δ, F2, G2, _, (s.trans s1).trans s2, (en.mono s1).mono s2, w2, q2, fun hi F3 G3 H3 s3 w3 q3 => ?_⟩
    have r3 := r1.mono (s2.trans s3)
    have k3 := k.mono ((s1.trans s2).trans s3)
    split at q3
    · rename_i xs
      cases r3 with
      | tup sq rs =>
        refine .inl ⟨_, _, rfl, sqT_mono w3.fz sq, fun hw => ?_, fun hw p hp => nT_ok w3 hp (rs.cut lo hi) q3 k3⟩
        have e1 : cutD xs lo hi = xs := by
          unfold cutD
          rw [rs.length, hw.1, hw.2, List.drop_zero, Nat.sub_zero, ← rs.length, List.take_length]
        rw [e1] at q3
        exact k3 _ _ F3 G3 H3 (Same.refl F3) w3 (.tup sq rs) q3
    · cases r3
      exact .inr (.inr ⟨_, rfl, q3.1, k3 _ _ F3 G3 H3 (Same.refl F3) w3 (.str _) q3.2⟩)
    · split at q3
      · rename_i xs e
        obtain ⟨a, vs, rfl, hs, rs⟩ := rlOf_ok w3 r3 e
        exact .inr (.inl ⟨a, vs, rfl, hs, fun p hp => nL_ok w3 hp (rs.cut lo hi) q3 k3⟩)
      · exact q3.elim
end

/-! ### built-ins -/
section
variable {K : PySem.W.Frag} {X : Cx} {F₀ : Hp} {r' : List D → Gp → DK → Prop} {r : List V → Hp → VK → Prop} {t : DA} {x : Str} {p pos : Pos} {e : Expr} {es : List Expr} {id T : String}
theorem de_callB (hc : CallR X (.builtin id) r) (cd : CallD X.K F₀ r' r) (hg : Gl X x) (hm : X.mg x = none) (hv : bootBuiltins x = some (.builtin id)) (ha : PA X (e :: es) (La X.K F₀ t)) (hn : x ≠ "__name__" := by decide) (hdb : (x == ("__debug__" : Str)) = false := by decide)
    (he : starEach (e :: es) X.env = (false, eval e X.env) :: starEach es X.env := by rfl) (hpl : (backTo pos (starEach es X.env)).any (·.1) = false := by rfl) : PE X (.Call (.Name x p) (e :: es) [] pos) (Le X.K F₀ (dCB r' t)) :=
  pe_imp (pe_callB hc hg hm hv ha hn hdb he hpl) fun _ _ _ => call_le cd
theorem de_callTy (hc : CallR X (.type T) r) (cd : CallD X.K F₀ r' r) (hg : Gl X x) (hm : X.mg x = none) (hv : bootBuiltins x = some (.type T)) (ha : PA X (e :: es) (La X.K F₀ t)) (hn : x ≠ "__name__" := by decide) (hdb : (x == ("__debug__" : Str)) = false := by decide)
    (he : starEach (e :: es) X.env = (false, eval e X.env) :: starEach es X.env := by rfl) (hpl : (backTo pos (starEach es X.env)).any (·.1) = false := by rfl) : PE X (.Call (.Name x p) (e :: es) [] pos) (Le X.K F₀ (dCB r' t)) :=
  pe_imp (pe_callTy hc hg hm hv ha hn hdb he hpl) fun _ _ _ => call_le cd
end
section
variable {K : PySem.W.Frag} {F F₀ : Hp} {G : Gp} {H : Hp}
theorem rps1 {d : D} {vs : List V} (r : Rps K F [d] vs) : ∃ v, vs = [v] ∧ Rp K F d v := by
  cases r with
  | cons a b => cases b; exact ⟨_, rfl, a⟩
theorem rps2 {d e : D} {vs : List V} (r : Rps K F [d, e] vs) : ∃ v u, vs = [v, u] ∧ Rp K F d v ∧ Rp K F e u := by
  cases r with
  | cons a b =>
    obtain ⟨u, rfl, c⟩ := rps1 b
    exact ⟨_, u, rfl, a, c⟩
/-- len -/
def dLen : List D → Gp → DK → Prop := fun xs G Q => match xs with
  | [.str z] => z.length ≤ sizeLine ∧ Q (.int z.length) G
  | [x] => match seqOf x G with
    | some ys => Q (.int ys.length) G
    | none => False
  | _ => False
theorem cd_len : CallD K F₀ dLen (fun xs H Q => ∃ x n, xs = [x] ∧ LenV K x H n ∧ Q (.int n) H) := by
  intro F G H xs vs Q' Q s w rx q k
  unfold dLen at q
  split at q
  · obtain ⟨v, rfl, r⟩ := rps1 rx
    cases r
    exact ⟨_, _, rfl, ⟨q.1, rfl⟩, k _ _ F G H (Same.refl F) w (.int _) q.2⟩
  · obtain ⟨v, rfl, r⟩ := rps1 rx
    split at q
    · rename_i ys e
      obtain ⟨a, us, rfl, hs, rs⟩ := seqOf_ok w r e
      refine ⟨_, us.length, rfl, ?_, k _ _ F G H (Same.refl F) w (.int _) (by rw [← rs.length]; exact q)⟩
      rcases hs with hs | hs
      · exact .inl ⟨us, hs, rfl⟩
      · exact .inr ⟨us, hs, rfl⟩
    · exact q.elim
  · exact q.elim
/-- int -/
def dInt : List D → Gp → DK → Prop := fun xs G Q => match xs with
  | [.int i] => Q (.int i) G
  | [.bl b] => Q (.int (if b then 1 else 0)) G
  | _ => False
theorem cd_int : CallD K F₀ dInt (fun xs H Q => (∃ i, xs = [.int i] ∧ Q (.int i) H) ∨ ∃ k, xs = [.bl k] ∧ Q (.int (if k then 1 else 0)) H) := by
  intro F G H xs vs Q' Q s w rx q k
  unfold dInt at q
  split at q
  · obtain ⟨v, rfl, r⟩ := rps1 rx
    cases r
    exact .inl ⟨_, rfl, k _ _ F G H (Same.refl F) w (.int _) q⟩
  · obtain ⟨v, rfl, r⟩ := rps1 rx
    cases r
    exact .inr ⟨_, rfl, k _ _ F G H (Same.refl F) w (.int _) q⟩
  · exact q.elim
/-- abs, min, max of ints -/
def dAbs : List D → Gp → DK → Prop := fun xs G Q => match xs with
  | [.int i] => Q (.int (if i < 0 then -i else i)) G
  | _ => False
theorem cd_abs : CallD K F₀ dAbs (fun xs H Q => ∃ i, xs = [.int i] ∧ Q (.int (if i < 0 then -i else i)) H) := by
  intro F G H xs vs Q' Q s w rx q k
  unfold dAbs at q
  split at q
  · obtain ⟨v, rfl, r⟩ := rps1 rx
    cases r
    exact ⟨_, rfl, k _ _ F G H (Same.refl F) w (.int _) q⟩
  · exact q.elim
def dMax2 : List D → Gp → DK → Prop := fun xs G Q => match xs with
  | [.int i, .int j] => Q (.int (max i j)) G
  | _ => False
def dMin2 : List D → Gp → DK → Prop := fun xs G Q => match xs with
  | [.int i, .int j] => Q (.int (min i j)) G
  | _ => False
theorem cd_max2 : CallD K F₀ dMax2 (fun xs H Q => ∃ i j, xs = [.int i, .int j] ∧ Q (.int (if j > i then j else i)) H) := by
  intro F G H xs vs Q' Q s w rx q k
  unfold dMax2 at q
  split at q
  · rename_i i j
    obtain ⟨v, u, rfl, r, r2⟩ := rps2 rx
    cases r; cases r2
    have e : max i j = if j > i then j else i := by omega
    rw [e] at q
    exact ⟨_, _, rfl, k _ _ F G H (Same.refl F) w (.int _) q⟩
  · exact q.elim
theorem cd_min2 : CallD K F₀ dMin2 (fun xs H Q => ∃ i j, xs = [.int i, .int j] ∧ Q (.int (if j < i then j else i)) H) := by
  intro F G H xs vs Q' Q s w rx q k
  unfold dMin2 at q
  split at q
  · rename_i i j
    obtain ⟨v, u, rfl, r, r2⟩ := rps2 rx
    cases r; cases r2
    have e : min i j = if j < i then j else i := by omega
    rw [e] at q
    exact ⟨_, _, rfl, k _ _ F G H (Same.refl F) w (.int _) q⟩
  · exact q.elim
/-- tuple(..), list(..) of a list or a tuple -/
def dTupleOf : List D → Gp → DK → Prop := fun xs G Q => match xs with
  | [x] => match seqOf x G with
    | some ys => Q (.tup ys) G
    | none => False
  | _ => False
def dListOf (m : Bool) : List D → Gp → DK → Prop := fun xs G Q => match xs with
  | [x] => match seqOf x G with
    | some ys => nL m ys G Q
    | none => False
  | _ => False
theorem cd_tuple : CallD K F₀ dTupleOf (fun xs H Q => ∃ p ys, xs = [.ref p] ∧ ((SqL K H p ys ∧ ∀ l, H l = none → Q (.ref l) (upd H l (.tup ys))) ∨ (SqT K H p ys ∧ Q (.ref p) H))) := by
  intro F G H xs vs Q' Q s w rx q k
  unfold dTupleOf at q
  split at q
  · rename_i x
    obtain ⟨v, rfl, r⟩ := rps1 rx
    cases x with
    | tup ys =>
      cases r with
      | tup a b => exact ⟨_, _, rfl, .inr ⟨sqT_mono w.fz a, k _ _ F G H (Same.refl F) w (.tup a b) q⟩⟩
    | scr ys =>
      obtain ⟨a, us, rfl, hs, rs⟩ := rlOf_ok w r (show rlOf (.scr ys) G = some ys from rfl)
      exact ⟨_, _, rfl, .inl ⟨hs, fun p hp => nT_ok w hp rs q k⟩⟩
    | lst ys =>
      obtain ⟨a, us, rfl, hs, rs⟩ := rlOf_ok w r (show rlOf (.lst ys) G = some ys from rfl)
      exact ⟨_, _, rfl, .inl ⟨hs, fun p hp => nT_ok w hp rs q k⟩⟩
    | ref b =>
      split at q
      · rename_i ys e
        obtain ⟨a, us, e2, hs, rs⟩ := rlOf_ok w r (show rlOf (.ref b) G = some ys from e)
        subst e2
        exact ⟨_, _, rfl, .inl ⟨hs, fun p hp => nT_ok w hp rs q k⟩⟩
      · exact q.elim
    | _ => exact (show False from q).elim
  · exact q.elim
theorem cd_list (m : Bool) : CallD K F₀ (dListOf m) (fun xs H Q => ∃ p ys, xs = [.ref p] ∧ (SqL K H p ys ∨ SqT K H p ys) ∧ ∀ l, H l = none → Q (.ref l) (upd H l (.lst ys))) := by
  intro F G H xs vs Q' Q s w rx q k
  unfold dListOf at q
  split at q
  · obtain ⟨v, rfl, r⟩ := rps1 rx
    split at q
    · rename_i ys e
      obtain ⟨a, us, rfl, hs, rs⟩ := seqOf_ok w r e
      exact ⟨_, _, rfl, hs, fun p hp => nL_ok w hp rs q k⟩
    · exact q.elim
  · exact q.elim
/-- all, any of truth values; sum of ints -/
def blsOf : List D → Option (List Bool)
  | [] => some []
  | .bl b :: r => (blsOf r).map (b :: ·)
  | _ => none
def intsOf : List D → Option (List Int)
  | [] => some []
  | .int b :: r => (intsOf r).map (b :: ·)
  | _ => none
theorem blsOf_eq : ∀ {xs : List D} {bs : List Bool}, blsOf xs = some bs → xs = bs.map D.bl
  | [], _, h => by cases (show some [] = some _ from h); rfl
  | x :: r, bs, h => by
    cases x <;> simp [blsOf] at h
    obtain ⟨a, h1, rfl⟩ := h
    rw [blsOf_eq h1]
    rfl
theorem intsOf_eq : ∀ {xs : List D} {bs : List Int}, intsOf xs = some bs → xs = bs.map D.int
  | [], _, h => by cases (show some [] = some _ from h); rfl
  | x :: r, bs, h => by
    cases x <;> simp [intsOf] at h
    obtain ⟨a, h1, rfl⟩ := h
    rw [intsOf_eq h1]
    rfl
@[simp] theorem blsOf_map {α : Type} (f : α → Bool) : ∀ l : List α, blsOf (l.map fun x => .bl (f x)) = some (l.map f)
  | [] => rfl
  | x :: r => by
    rw [List.map_cons, List.map_cons]
    unfold blsOf
    rw [blsOf_map f r]
    rfl
@[simp] theorem intsOf_map {α : Type} (f : α → Int) : ∀ l : List α, intsOf (l.map fun x => .int (f x)) = some (l.map f)
  | [] => rfl
  | x :: r => by
    rw [List.map_cons, List.map_cons]
    unfold intsOf
    rw [intsOf_map f r]
    rfl
@[simp] theorem intsOf_ints (l : List Int) : intsOf (l.map D.int) = some l := by
  have := intsOf_map (fun x : Int => x) l
  rwa [List.map_id'] at this
@[simp] theorem blsOf_bls (l : List Bool) : blsOf (l.map D.bl) = some l := by
  have := blsOf_map (fun x : Bool => x) l
  rwa [List.map_id'] at this
def dBls (f : List Bool → Bool) : List D → Gp → DK → Prop := fun xs G Q => match xs with
  | [x] => match rlOf x G with
    | some ys => match blsOf ys with
      | some bs => Q (.bl (f bs)) G
      | none => False
    | none => False
  | _ => False
def dAll := dBls fun bs => bs.all id
def dAny := dBls fun bs => bs.any id
theorem cd_bls (f : List Bool → Bool) : CallD K F₀ (dBls f) (fun vs H Q => ∃ (a : Addr) (bs : List Bool), vs = [V.ref a] ∧ SqL K H a (bs.map V.bl) ∧ Q (.bl (f bs)) H) := by
  intro F G H xs vs Q' Q s w rx q k
  unfold dBls at q
  split at q
  · obtain ⟨v, rfl, r⟩ := rps1 rx
    split at q
    · rename_i ys e
      obtain ⟨a, us, rfl, hs, rs⟩ := rlOf_ok w r e
      split at q
      · rename_i bs e2
        have e3 := blsOf_eq e2
        subst e3
        rw [rs.bls] at hs
        exact ⟨a, bs, rfl, hs, k _ _ F G H (Same.refl F) w (.bl _) q⟩
      · exact q.elim
    · exact q.elim
  · exact q.elim
theorem cd_all : CallD K F₀ dAll (rAll K) := cd_bls _
theorem cd_any : CallD K F₀ dAny (rAny K) := cd_bls _
/-- sum of ints, in a list or a tuple -/
def rSumA (K : PySem.W.Frag) : List V → Hp → VK → Prop := fun vs H Q => rSum K vs H Q ∨ ∃ (a : Addr) (ns : List Int), vs = [V.ref a] ∧ SqT K H a (ns.map V.int) ∧ Q (.int ns.sum) H
theorem cr_sumA {X : Cx} (hc : X.calm = true) : CallR X (.builtin "sum") (rSumA X.K) := (cr_sum hc).or (by
  intro pins s σ H vs us Q I r h
  obtain ⟨a, ns, rfl, hs, q⟩ := h
  obtain ⟨its, rv, ht, _⟩ := I.tuple hs
  rw [Vals.ref1 r]
  have hi := rv.ints
  obtain ⟨xs, e⟩ := hi.allInts.items
  have hn : numsOf (intItems xs).toList = ns := by rw [← e]; exact hi.numsOf
  rw [nums_intItems] at hn
  rw [e] at ht
  refine PySem.W.ktm_sumG (I.ok.hd hc) (show s.heap.IsTuple a (intItems xs) from ht) fun h' tk t' hk => ⟨.int _, H, I.kept hk, ⟨t', ?_⟩, q⟩
  rw [preSum_eq, List.take_of_length_le (by simp), hn])
def dSum : List D → Gp → DK → Prop := fun xs G Q => match xs with
  | [x] => match seqOf x G with
    | some ys => match intsOf ys with
      | some bs => Q (.int bs.sum) G
      | none => False
    | none => False
  | _ => False
theorem cd_sum : CallD K F₀ dSum (rSumA K) := by
  intro F G H xs vs Q' Q s w rx q k
  unfold dSum at q
  split at q
  · obtain ⟨v, rfl, r⟩ := rps1 rx
    split at q
    · rename_i ys e
      obtain ⟨a, us, rfl, hs, rs⟩ := seqOf_ok w r e
      split at q
      · rename_i bs e2
        have e3 := intsOf_eq e2
        subst e3
        rw [rs.ints] at hs
        have q2 := k _ _ F G H (Same.refl F) w (.int _) q
        rcases hs with hs | hs
        · exact .inl ⟨a, bs, rfl, hs, q2⟩
        · exact .inr ⟨a, bs, rfl, hs, q2⟩
      · exact q.elim
    · exact q.elim
  · exact q.elim
/-- sorted of ints -/
def dSortedI (m : Bool) : List D → Gp → DK → Prop := fun xs G Q => match xs with
  | [x] => match rlOf x G with
    | some ys => match intsOf ys with
      | some bs => ∀ cs : List Int, cs.Perm bs → cs.Pairwise (· ≤ ·) → nL m (cs.map D.int) G Q
      | none => False
    | none => False
  | _ => False
theorem cd_sortedI (m : Bool) : CallD K F₀ (dSortedI m) (rSortedI K) := by
  intro F G H xs vs Q' Q s w rx q k
  unfold dSortedI at q
  split at q
  · obtain ⟨v, rfl, r⟩ := rps1 rx
    split at q
    · rename_i ys e
      obtain ⟨a, us, rfl, hs, rs⟩ := rlOf_ok w r e
      split at q
      · rename_i bs e2
        have e3 := intsOf_eq e2
        subst e3
        rw [rs.ints] at hs
        exact ⟨a, bs, rfl, hs, fun cs p h1 h2 h3 => nL_ok w h3 (Rps.ofInts cs) (q cs h1 h2) k⟩
      · exact q.elim
    · exact q.elim
  · exact q.elim
/-- isinstance(x, T), T built in -/
def tyOf : D → Gp → Option String
  | .non, _ => some "NoneType"
  | .bl _, _ => some "bool"
  | .int _, _ => some "int"
  | .str _, _ => some "str"
  | .tup _, _ => some "tuple"
  | .lst _, _ => some "list"
  | .dct _, _ => some "dict"
  | .ref a, G => match G a with | some (.lst _) => some "list" | some (.abl _) => some "list" | some (.dct _) => some "dict" | _ => none
  | _, _ => none
def subTy (a b : String) : Bool := a == b || (a == "bool" && b == "int")
theorem tyOf_ok (w : Wd K F G H) {d : D} {v : V} {n : String} (r : Rp K F d v) (h : tyOf d G = some n) : TyX K H v (.type n) := by
  cases r with
  | non => cases (show some _ = some _ from h); exact .base .non
  | bl b => cases (show some _ = some _ from h); exact .base (.bl b)
  | int b => cases (show some _ = some _ from h); exact .base (.int b)
  | str b => cases (show some _ = some _ from h); exact .base (.str b)
  | tup a b =>
    cases (show some _ = some _ from h)
    rcases a with (a | ⟨o, a⟩) | ⟨o, its, n, hk, hc, _⟩
    · exact .base (.tup (w.fz _ _ a))
    · exact .fTuple (w.fz _ _ a)
    · exact .kTuple hk hc
  | lst a b => cases (show some _ = some _ from h); exact .base (.lst (w.fz _ _ a))
  | dct a b => cases (show some _ = some _ from h); exact .base (.dK (w.fz _ _ a))
  | ref a =>
    have h' : (match G a with | some (.lst _) => some "list" | some (.abl _) => some "list" | some (.dct _) => some "dict" | _ => none) = some n := h
    split at h'
    · rename_i ys e
      cases h'
      obtain ⟨_, vs, hv, _⟩ := w.mu a _ e
      exact .base (.lst hv)
    · rename_i ys e
      cases h'
      obtain ⟨_, xs, vs, _, hv, _⟩ := w.mu a _ e
      exact .base (.lst hv)
    · rename_i ys e
      cases h'
      obtain ⟨_, vs, hv, _⟩ := w.mu a _ e
      exact .base (.dK hv)
    · cases h'
  | ty n => cases h
  | scr a b => cases h
  | obj a b => cases h
  | fn a => cases h
  | ho a => cases h
def tyNames : List String := ["NoneType", "bool", "int", "str", "tuple", "list", "dict"]
theorem tyOf_mem {d : D} {n : String} (h : tyOf d G = some n) : n ∈ tyNames := by
  cases d with
  | ref a =>
    have h' : (match G a with | some (.lst _) => some "list" | some (.abl _) => some "list" | some (.dct _) => some "dict" | _ => none) = some n := h
    split at h' <;> first | (cases h'; decide) | cases h'
  | _ => first | (cases (show some _ = some _ from h); decide) | cases h
theorem kit_all : (tyNames.all fun a => (["int", "bool", "str", "tuple", "list", "dict"].all fun b => kitB a b == some (subTy a b))) = true := by decide +kernel
theorem kit_sub {a b : String} (ha : a ∈ tyNames) (hb : b ∈ ["int", "bool", "str", "tuple", "list", "dict"]) : PySem.W.kitOne K (.type a) (.type b) = some (subTy a b) :=
  kit_ty (by
    have h := kit_all
    rw [List.all_eq_true] at h
    have h2 := h a ha
    rw [List.all_eq_true] at h2
    exact beq_iff_eq.mp (h2 b hb))
def dIsi : List D → Gp → DK → Prop := fun xs G Q => match xs with
  | [x, .ty T] => match tyOf x G with
    | some n => T ∈ ["int", "bool", "str", "tuple", "list", "dict"] ∧ Q (.bl (subTy n T)) G
    | none => False
  | _ => False
theorem cd_isi : CallD K F₀ dIsi (rIsi K) := by
  intro F G H xs vs Q' Q s w rx q k
  unfold dIsi at q
  split at q
  · obtain ⟨v, u, rfl, r, r2⟩ := rps2 rx
    cases r2
    split at q
    · rename_i n e
      exact ⟨v, _, _, _, _, rfl, .ty _, tyOf_ok w r e, kit_sub (tyOf_mem e) q.1, k _ _ F G H (Same.refl F) w (.bl _) q.2⟩
    · exact q.elim
  · exact q.elim
/-- list(range(a, b)) -/
def rgD (a b : Int) : List D := (List.range (b - a).toNat).map fun i => D.int (a + (i : Nat))
theorem rgD_rp (a b : Int) : Rps K F (rgD a b) (rgV a b) := by
  unfold rgD rgV
  induction (List.range (b - a).toNat) with
  | nil => exact .nil
  | cons x r ih => exact .cons (.int _) ih
def dRg1 (m : Bool) (t : DE) : DE := fun δ G Q => t δ G fun x G1 => match x with | .int n => RgOk 0 n ∧ nL m (rgD 0 n) G1 Q | _ => False
def dRg2 (m : Bool) (t u : DE) : DE := fun δ G Q => t δ G fun x G1 => u δ G1 fun y G2 => match x, y with | .int n, .int k => RgOk n k ∧ nL m (rgD n k) G2 Q | _, _ => False
end
section
variable {X : Cx} {F₀ : Hp} {ta tb : DE} {a b : Expr} {p pos p2 pos2 : Pos}
theorem de_listRg1 (m : Bool) (hc : X.calm = true) (hg : Gl X "list") (hm : X.mg "list" = none) (hg2 : Gl X "range") (hm2 : X.mg "range" = none) (ha : PE X a (Le X.K F₀ ta))
    (na : starEach [a] X.env = (false, eval a X.env) :: starEach [] X.env := by rfl) (nb : starEach [Expr.Call (.Name "range" p2) [a] [] pos2] X.env = (false, eval (Expr.Call (.Name "range" p2) [a] [] pos2) X.env) :: starEach [] X.env := by rfl) :
    PE X (.Call (.Name "list" p) [.Call (.Name "range" p2) [a] [] pos2] [] pos) (Le X.K F₀ (dRg1 m ta)) := pe_imp (pe_listRg hc hg hm (prg_1 hg2 hm2 ha na) nb) fun σ H Q ⟨δ, F, G, Q', s, en, w, q, k⟩ => by
  refine ⟨δ, F, G, _, s, en, w, q, fun x v F1 G1 H1 s1 w1 r1 q1 => ?_⟩
  split at q1
  · cases r1
    exact ⟨_, rfl, q1.1, fun p hp => nL_ok w1 hp (rgD_rp _ _) q1.2 (k.mono s1)⟩
  · exact q1.elim
end
end DL

/-! Promises of defs that are called while nothing is being shown (repr asks that). -/
namespace DL
open PySem PySem.Spec PyProof.Rows L2

/-- nothing is being shown -/
abbrev Mute (A : Around) : Prop := A.guards = some []
/-- the def at f keeps sp wherever it is called with nothing being shown -/
structure FnG (P : Program) (w : World) (K : PySem.W.Frag) (mg : Str → Option Value) (base : Heap) (CX : CXT) (k : Nat) (f : Addr) (fd : FuncData) (ps : List Str) (sp : Sp) : Prop where
  arity : ∀ vs H Q E, sp vs H Q E → vs.length = ps.length
  go : ∀ (A : Around) (outer : List Env) (s : Shared) (H : Hp) (args : Args) (us : List Value) (vs : List V) (Q : VK) (E : XK), Room k A → Mute A → Env0 P w K mg base A outer s H →
    BindsTo s fd args (ps.zip us) → Vals vs us → sp vs H Q E → codeAny (model P w) A (.call (.ref f) args) (CR CX outer P w H s Q E) s
section
variable {P : Program} {w : World} {K : PySem.W.Frag} {mg : Str → Option Value} {base : Heap} {CX : CXT} {j k : Nat} {f : Addr} {fd : FuncData} {ps : List Str} {sp sp' : Sp}
theorem FnG.ofOk (F : FnOk P w K mg base CX k f fd ps sp) : FnG P w K mg base CX k f fd ps sp := ⟨F.len, fun A outer s H args us vs Q E hr _ => F.run A outer s H args us vs Q E hr⟩
theorem FnG.up (F : FnG P w K mg base CX j f fd ps sp) (h : j ≤ k) : FnG P w K mg base CX k f fd ps sp := ⟨F.arity, fun A outer s H args us vs Q E hr => F.go A outer s H args us vs Q E (hr.mono h)⟩
theorem FnG.weak (F : FnG P w K mg base CX k f fd ps sp) (h : ∀ vs H Q E, sp' vs H Q E → sp vs H Q E) : FnG P w K mg base CX k f fd ps sp' :=
  ⟨fun vs H Q E q => F.arity vs H Q E (h vs H Q E q), fun A outer s H args us vs Q E hr hm e0 hb r q => F.go A outer s H args us vs Q E hr hm e0 hb r (h vs H Q E q)⟩
end
section
variable {X : Cx} {CX : CXT} {k : Nat} {f C : Addr} {fd : FuncData} {ps : List Str} {sp : Sp} {E : XK} {x m : Str} {p pos apos : Pos} {e o : Expr} {es : List Expr} {ta : TE} {t : TA}
/-- a result, by what is wanted of a value and of an error -/
def RRes (Q E : Value → Shared → Prop) : Result → Shared → Prop
  | .ok (.ret u), s => Q u s
  | .ok .next, _ => False
  | .ok .brk, _ => False
  | .ok .cont, _ => False
  | .error e, s => E e s
/-- a result of a callee is one of the caller's expression -/
theorem after_call {pins : List (Addr × Obj)} {σ : L2.St} {H : Hp} {s : Shared} {Q : VK} (hx : Passes CX X E) (I : Inv X pins σ H s) {r : Result} {s' : Shared} (hq : CR CX X.stack X.prog X.w H s Q E r s') :
    RRes (EP X pins σ Q) X.xe r s' := by
  match r, hq with
  | .ok (.ret _), hq => exact I.after hq
  | .ok .next, hq => exact hq
  | .ok .brk, hq => exact hq
  | .ok .cont, hq => exact hq
  | .error e, hq => exact hx pins σ H s e s' I hq
theorem wp_call {Q : Value → Shared → Prop} {fv : Value} {args : List Value} {s : Shared} {R : Result → Shared → Prop} (h : codeAny (model X.prog X.w) X.A (.call fv ⟨args, []⟩) R s)
    (hR : ∀ r s', R r s' → RRes Q X.xe r s') : wpAny (model X.prog X.w) X.A (call fv args) Q X.xe s := by
  refine wpAny_call (codeAny_mono h fun r s' hr => ?_)
  have := hR r s' hr
  match r, this with
  | .ok (.ret _), h => exact h
  | .ok .next, h => exact h.elim
  | .ok .brk, h => exact h.elim
  | .ok .cont, h => exact h.elim
  | .error _, h => exact h
theorem go_fn {pins : List (Addr × Obj)} {σ : L2.St} {H : Hp} {s : Shared} {Q : VK} {us : List Value} {vs : List V} (F : FnG X.prog X.w X.K X.mg X.base CX k f fd ps sp) (hr : Room k X.A) (hm : Mute X.A) (hb : Binds X.K fd ps []) (hx : Passes CX X E)
    (I : Inv X pins σ H s) (r : Vals vs us) (h : sp vs H Q E) : wpAny (model X.prog X.w) X.A (call (.ref f) us) (EP X pins σ Q) X.xe s := by
  have hl : (us ++ []).length = ps.length := by rw [List.append_nil, ← r.length]; exact F.arity _ _ _ _ h
  have hb' := hb s us I.kIn hl
  rw [List.append_nil] at hb'
  exact wp_call (F.go X.A X.stack s H ⟨us, []⟩ us vs Q E hr hm I.env0 hb' r h) fun r s' hq => after_call hx I hq
/-- f(e, ..) -/
theorem pe_callG (F : FnG X.prog X.w X.K X.mg X.base CX k f fd ps sp) (hr : Room k X.A) (hmu : Mute X.A) (hg : Gl X x) (hm : X.mg x = some (.ref f)) (hk : PySem.W.keepIn X.K (.ref f) = true) (hb : Binds X.K fd ps []) (hx : Passes CX X E)
    (ha : PA X (e :: es) t) (hdb : (x == ("__debug__" : Str)) = false := by decide) (he : starEach (e :: es) X.env = (false, eval e X.env) :: starEach es X.env := by rfl) (hpl : (backTo pos (starEach es X.env)).any (·.1) = false := by rfl) :
    PE X (.Call (.Name x p) (e :: es) [] pos) (fun σ H Q => t σ H fun vs H1 => sp vs H1 Q E) :=
  ⟨fun pins s σ H Q I h => wpAny_Call_Name_kw (ld_glob I hg hm (PySem.W.callWith_K (h₀ := X.base) I.ok.mod.kin hk (thn (ha.run pos pins s σ H _ I h) fun us s1 ⟨vs, H1, I1, r, q⟩ => ⟨I1.kIn, go_fn F hr hmu hb hx I1 r q⟩) he hpl) hdb)⟩
/-- f() -/
theorem pe_callG0 (F : FnG X.prog X.w X.K X.mg X.base CX k f fd ps sp) (hr : Room k X.A) (hmu : Mute X.A) (hg : Gl X x) (hm : X.mg x = some (.ref f)) (hk : PySem.W.keepIn X.K (.ref f) = true) (hb : Binds X.K fd ps []) (hx : Passes CX X E)
    (hdb : (x == ("__debug__" : Str)) = false := by decide) : PE X (.Call (.Name x p) [] [] pos) (fun σ H Q => sp [] H Q E) :=
  ⟨fun pins s σ H Q I h => wpAny_Call_Name_kw (ld_glob I hg hm (PySem.W.callWith_K0 I.kIn hk (go_fn (us := []) F hr hmu hb hx I .nil h)) hdb)⟩
/-- o.m(e, ..), o.m() of an instance of the class at C -/
theorem pe_methG {pl : Sem Bool} (he : PE X o ta) (c : Cls X.K C) (hm : Meth X.K C m f) (F : FnG X.prog X.w X.K X.mg X.base CX k f fd ps sp) (hr : Room k X.A) (hmu : Mute X.A) (hb : Binds X.K fd ps []) (hx : Passes CX X E) (ha : PA X (e :: es) t)
    (hst : starEach (e :: es) X.env = (false, eval e X.env) :: starEach es X.env := by rfl) (hpl : (backTo pos (starEach es X.env)).any (·.1) = false := by rfl)
    (ht : eval (.Call (.Attribute o m apos) (e :: es) [] pos) X.env = (do
      let ov ← eval o X.env
      standAt apos.atName
      let (f, first) ← holding [ov] (getMethod ov m pl)
      callWith pos f first (backTo pos (starEach (e :: es) X.env)) (backToKw pos (keywordEach [] X.env))) := by rfl) :
    PE X (.Call (.Attribute o m apos) (e :: es) [] pos) (fun σ H Q => ta σ H fun x H1 => ∃ a dx fs, x = .ref a ∧ H1 a = some (.ins C dx fs) ∧ fs.lookup m = none ∧ t σ H1 fun vs H2 => sp (x :: vs) H2 Q E) := by
  refine ⟨fun pins s σ H Q I h => PySem.W.methodCall_KW (pl := pl) (thn (he.run pins s σ H _ I h) fun u s1 hu => ?_) ht⟩
  obtain ⟨v, H1, I1, rv, a, dx, fs, rfl, ea, l, q⟩ := hu
  cases rv
  refine getmeth_ok I1 ea c hm l (PySem.W.callWith_K (first := [.ref a]) (h₀ := X.base) I.ok.mod.kin hm.kp (thn (ha.run pos pins s1 σ H1 _ I1 q) fun us s2 h2 => ?_) hst hpl)
  obtain ⟨vs, H2, I2, r, q2⟩ := h2
  exact ⟨I2.kIn, go_fn (us := .ref a :: us) (vs := .ref a :: vs) F hr hmu hb hx I2 (.cons rfl r) q2⟩
theorem pe_methG0 {pl : Sem Bool} (he : PE X o ta) (c : Cls X.K C) (hm : Meth X.K C m f) (F : FnG X.prog X.w X.K X.mg X.base CX k f fd ps sp) (hr : Room k X.A) (hmu : Mute X.A) (hb : Binds X.K fd ps []) (hx : Passes CX X E)
    (ht : eval (.Call (.Attribute o m apos) [] [] pos) X.env = (do
      let ov ← eval o X.env
      standAt apos.atName
      let (f, first) ← holding [ov] (getMethod ov m pl)
      callWith pos f first (backTo pos (starEach [] X.env)) (backToKw pos (keywordEach [] X.env))) := by rfl) :
    PE X (.Call (.Attribute o m apos) [] [] pos) (fun σ H Q => ta σ H fun x H1 => ∃ a dx fs, x = .ref a ∧ H1 a = some (.ins C dx fs) ∧ fs.lookup m = none ∧ sp [x] H1 Q E) := by
  refine ⟨fun pins s σ H Q I h => PySem.W.methodCall_KW (pl := pl) (thn (he.run pins s σ H _ I h) fun u s1 hu => ?_) ht⟩
  obtain ⟨v, H1, I1, rv, a, dx, fs, rfl, ea, l, q⟩ := hu
  cases rv
  exact getmeth_ok I1 ea c hm l (PySem.W.callWith_K0 (first := [.ref a]) I1.kIn hm.kp (go_fn (us := [.ref a]) (vs := [.ref a]) F hr hmu hb hx I1 (.cons rfl .nil) q))
theorem mute_make {A : Around} {us : List Value} (h : Mute A) : Mute (A.under (.builtin "type.__call__" ⟨.ref C :: us, []⟩)) := by
  have e : (A.under (.builtin "type.__call__" ⟨.ref C :: us, []⟩)).guards = A.guards := by
    first | rfl | simp [Around.under, Code.guards, Code.isGuard, pushGuards, guardIds]
  exact e.trans h
/-- C(e, ..) of an own class with an __init__ at f -/
theorem go_make {pins : List (Addr × Obj)} {σ : L2.St} {H : Hp} {s : Shared} {Q : VK} {us : List Value} {vs : List V} (M : Mk X.K C f) (F : FnG X.prog X.w X.K X.mg X.base CX k f fd ps sp) (hr : Room (k + 1) X.A) (hm : Mute X.A) (hb : Binds X.K fd ps [])
    (hx : Passes CX X E) (I : Inv X pins σ H s) (r : Vals vs us)
    (h : ∀ x dx, H x = none → H dx = none → dx ≠ x → sp (.ref x :: vs) (upd (upd H dx (.own x)) x (.ins C dx [])) (fun v H2 => v = .non ∧ Q (.ref x) H2) E) :
    wpAny (model X.prog X.w) X.A (call (.ref C) us) (EP X pins σ Q) X.xe s := by
  have n1 : H (s.heap.objs.size + 1) = none := I.hok.fresh (Nat.le_succ _)
  have n0 : H s.heap.objs.size = none := I.hok.fresh (Nat.le_refl _)
  have q := h _ _ n1 n0 (Nat.ne_of_lt (Nat.lt_succ_self _))
  have J := Inv.made (C := C) I
  have r2 : Vals (V.ref (s.heap.objs.size + 1) :: vs) (Value.ref (s.heap.objs.size + 1) :: us) := .cons rfl r
  have hl : ((Value.ref (s.heap.objs.size + 1) :: us) ++ []).length = ps.length := by rw [List.append_nil, ← r2.length]; exact F.arity _ _ _ _ q
  have hb' := hb _ (Value.ref (s.heap.objs.size + 1) :: us) J.kIn hl
  rw [List.append_nil] at hb'
  refine wpAny_call (make_map (f := f) I.kIn M.makes M.init (beq_iff_eq.mp M.fn) (codeAny_mono (F.go _ X.stack _ _ ⟨Value.ref (s.heap.objs.size + 1) :: us, []⟩ _ _ _ E (hr.make C us []) (mute_make hm) (J.env0.make C us []) hb' r2 q) fun r s' hq => ?_))
  exact make_back (after_call hx J hq)
where
  make_back {pins : List (Addr × Obj)} {σ : L2.St} {Q : VK} {x : Addr} {s' : Shared} : ∀ {r : Result}, RRes (EP X pins σ fun v H2 => v = .non ∧ Q (.ref x) H2) X.xe r s' → PySem.W.InitBack x (fun r s' => match r with | .ok (.ret u) => EP X pins σ Q u s' | .ok _ => False | .error e => X.xe e s') r s' := by
    intro r h
    match r, h with
    | .ok (.ret u), ⟨v, H', I3, rv, ev, q3⟩ =>
      subst ev
      exact ⟨rv, ⟨V.ref x, H', I3, rfl, q3⟩⟩
    | .ok .next, z => exact z
    | .ok .brk, z => exact z
    | .ok .cont, z => exact z
    | .error e, z => exact z
theorem pe_makeG (M : Mk X.K C f) (F : FnG X.prog X.w X.K X.mg X.base CX k f fd ps sp) (hr : Room (k + 1) X.A) (hmu : Mute X.A) (hg : Gl X x) (hm : X.mg x = some (.ref C)) (hb : Binds X.K fd ps []) (hx : Passes CX X E)
    (ha : PA X (e :: es) t) (hdb : (x == ("__debug__" : Str)) = false := by decide) (he : starEach (e :: es) X.env = (false, eval e X.env) :: starEach es X.env := by rfl) (hpl : (backTo pos (starEach es X.env)).any (·.1) = false := by rfl) :
    PE X (.Call (.Name x p) (e :: es) [] pos) (fun σ H Q => t σ H fun vs H1 => ∀ x dx, H1 x = none → H1 dx = none → dx ≠ x → sp (.ref x :: vs) (upd (upd H1 dx (.own x)) x (.ins C dx [])) (fun v H2 => v = .non ∧ Q (.ref x) H2) E) :=
  ⟨fun pins s σ H Q I h => wpAny_Call_Name_kw (ld_glob I hg hm (PySem.W.callWith_K (h₀ := X.base) I.ok.mod.kin M.kp (thn (ha.run pos pins s σ H _ I h) fun us s1 ⟨vs, H1, I1, r, q⟩ => ⟨I1.kIn, go_make M F hr hmu hb hx I1 r q⟩) he hpl) hdb)⟩
theorem pe_makeG0 (M : Mk X.K C f) (F : FnG X.prog X.w X.K X.mg X.base CX k f fd ps sp) (hr : Room (k + 1) X.A) (hmu : Mute X.A) (hg : Gl X x) (hm : X.mg x = some (.ref C)) (hb : Binds X.K fd ps []) (hx : Passes CX X E)
    (hdb : (x == ("__debug__" : Str)) = false := by decide) :
    PE X (.Call (.Name x p) [] [] pos) (fun σ H Q => ∀ x dx, H x = none → H dx = none → dx ≠ x → sp [.ref x] (upd (upd H dx (.own x)) x (.ins C dx [])) (fun v H2 => v = .non ∧ Q (.ref x) H2) E) :=
  ⟨fun pins s σ H Q I h => wpAny_Call_Name_kw (ld_glob I hg hm (PySem.W.callWith_K0 I.kIn M.kp (go_make (us := []) (vs := []) M F hr hmu hb hx I .nil h)) hdb)⟩
end

/-! ### a def by its body -/
section
variable {P : Program} {w : World} {K : PySem.W.Frag} {mg : Str → Option Value} {base : Heap}
theorem fnG_of {CX : CXT} {x qual : Str} {st : Stmt} {f : Addr} {fd : FuncData} {N ps : List Str} {k : Nat} {sp : Sp} (F : Fun K x qual st f fd) (S : FnScope N ps (defScope st)) (len : ∀ vs H Q E, sp vs H Q E → vs.length = ps.length)
    (hbody : ∀ (cdv : Value) (A : Around) (outer : List Env) (s : Shared) (H : Hp) (vs : List V) (Q : VK) (E : XK), Room k (A.deeper (envOfC qual (defScope st) s.heap.objs.size f cdv)) → Mute A → sp vs H Q E →
      ∃ t, PSs (cxOf CX P w K mg base N qual (defScope st) f cdv A outer s H E) (defBody st) t ∧ t { nx := fun _ H' => Q .non H', rt := Q } (start N vs) H) : FnG P w K mg base CX (k + 1) f fd ps sp := by
  obtain ⟨oc, od, kV, doc, pm, an, cdv, ct, osl, rfl, lk, hcd⟩ := F.ex
  refine ⟨len, fun A outer s H args us vs Q E hr hm e0 hb r hsp => ?_⟩
  have n := len _ _ _ _ hsp
  have hK : K.In s.heap := e0.mod.kin.keeps fun b o e => (e0.bs b o e).1
  have lim : s.heap.NoLimit := e0.mod.nolimit.keeps fun b o e => (e0.bs b o e).1
  refine codeAny_call_function hr.depth (hK _ _ lk) rfl S.co S.gen rfl (PySem.W.codeRec_of hK hcd) (hb _ _ _ _ ?_)
  refine wpAny_newFunctionEnv_cells S.kind (fun y hy => ?_) fun env he s1 x => ?_
  · obtain ⟨n, v⟩ := y
    rcases S.par n (List.of_mem_zip hy).1 with q | q
    · exact .inl q
    · exact .inr ⟨q, PySem.W.cellsFrom_some _ _ _ (.inl q)⟩
  · subst he
    refine ⟨lim.keeps x.toInCall.keep, codeAny_func ?_⟩
    obtain ⟨t, ht, q⟩ := hbody cdv A outer s H vs Q E (hr.deeper _) hm hsp
    have I : Inv (cxOf CX P w K mg base N qual (defScope st) f cdv A outer s H E) [] (start N vs) H s1 := inv_start S hr.hd e0 n r x
    refine wpAny_mono (ht.run [] s1 (start N vs) H _ I q) (fun fl s' hs => ?_) fun _ _ z => z
    match fl, hs with
    | .ret u, ⟨v, σ', H', J, rv, q⟩ => exact ⟨v, H', J.os, J.bare, J.base, J.hok, rv, q⟩
    | .next, ⟨σ', H', J, q⟩ => exact ⟨V.non, H', J.os, J.bare, J.base, J.hok, rfl, q⟩
    | .brk, ⟨_, _, _, z⟩ => exact z.elim
    | .cont, ⟨_, _, _, z⟩ => exact z.elim
end
end DL

/-! Rules over trees: calls of defs, statements, loops, comprehensions. -/
namespace DL
open PySem PySem.Spec PyProof.Rows L2

/-! ### defs -/
/-- an error: its class's name, its fields -/
abbrev DX := Str → List (Str × D) → Gp → Prop
def ErrAt (K : PySem.W.Frag) (F : Hp) (fs : List (Str × D)) (d : Option Addr) : Prop := (d = none ∧ fs = []) ∨ ∃ dd fv, d = some dd ∧ F dd = some (.xd fv) ∧ Rpf K F fs fv
def KoE (K : PySem.W.Frag) (F : Hp) (E' : DX) (E : XK) : Prop := ∀ n C fs d F' G' H', PySem.W.nsIn K mainGlobals n = some (some (.ref C)) → Same F F' → Wd K F' G' H' → ErrAt K F' fs d → E' n fs G' → E (.ref C) d H'
theorem KoE.mono {K : PySem.W.Frag} {F F' : Hp} {E' : DX} {E : XK} (e : Same F F') (k : KoE K F E' E) : KoE K F' E' E := fun n C fs d F2 G2 H2 hn s w r q => k n C fs d F2 G2 H2 hn (e.trans s) w r q
abbrev X0 : DX := fun _ _ _ => False
theorem koe0 {K : PySem.W.Frag} {F : Hp} {E : XK} : KoE K F X0 E := fun _ _ _ _ _ _ _ _ _ _ _ h => h.elim
abbrev DSp := List D → Gp → DK → DX → Prop
def LSp (K : PySem.W.Frag) (sp : DSp) : Sp := fun vs H Q E => ∃ F G ds Q' E', Rps K F ds vs ∧ Wd K F G H ∧ sp ds G Q' E' ∧ Ko K F Q' Q ∧ KoE K F E' E
def dCall (sp : DSp) (E' : DX) (t : DA) : DE := fun δ G Q => t δ G fun ds G1 => sp ds G1 Q E'
section
variable {X : Cx} {F₀ : Hp} {CX : CXT} {k : Nat} {f C : Addr} {fd : FuncData} {ps : List Str} {sp : DSp} {E : XK} {E' : DX} {x m : Str} {p pos apos : Pos} {e o : Expr} {es : List Expr} {ta : DE} {t : DA}
theorem call_lsp {σ : L2.St} {H : Hp} {Q : VK} (ke : KoE X.K F₀ E' E) (h : Le X.K F₀ (dCall sp E' t) σ H Q) : (fun (σ : L2.St) H Q => La X.K F₀ t σ H fun vs H1 => LSp X.K sp vs H1 Q E) σ H Q := by
  obtain ⟨δ, F, G, Q', s, en, w, q, k⟩ := h
  exact ⟨δ, F, G, _, s, en, w, q, fun ds vs F1 G1 H1 s1 w1 r1 q1 => ⟨F1, G1, ds, Q', E', r1, w1, q1, k.mono s1, ke.mono (s.trans s1)⟩⟩
theorem de_call (F : FnG X.prog X.w X.K X.mg X.base CX k f fd ps (LSp X.K sp)) (hr : Room k X.A) (hmu : Mute X.A) (hg : Gl X x) (hm : X.mg x = some (.ref f)) (hk : PySem.W.keepIn X.K (.ref f) = true) (hb : Binds X.K fd ps []) (hx : Passes CX X E) (ke : KoE X.K F₀ E' E)
    (ha : PA X (e :: es) (La X.K F₀ t)) (hdb : (x == ("__debug__" : Str)) = false := by decide) (he : starEach (e :: es) X.env = (false, eval e X.env) :: starEach es X.env := by rfl) (hpl : (backTo pos (starEach es X.env)).any (·.1) = false := by rfl) :
    PE X (.Call (.Name x p) (e :: es) [] pos) (Le X.K F₀ (dCall sp E' t)) := pe_imp (pe_callG F hr hmu hg hm hk hb hx ha hdb he hpl) fun _ _ _ => call_lsp ke
theorem de_call0 (F : FnG X.prog X.w X.K X.mg X.base CX k f fd ps (LSp X.K sp)) (hr : Room k X.A) (hmu : Mute X.A) (hg : Gl X x) (hm : X.mg x = some (.ref f)) (hk : PySem.W.keepIn X.K (.ref f) = true) (hb : Binds X.K fd ps []) (hx : Passes CX X E) (ke : KoE X.K F₀ E' E)
    (hdb : (x == ("__debug__" : Str)) = false := by decide) :
    PE X (.Call (.Name x p) [] [] pos) (Le X.K F₀ (dCall sp E' aNil)) := pe_imp (pe_callG0 F hr hmu hg hm hk hb hx hdb) fun σ H Q h => by
  obtain ⟨δ, F, G, Q', s, en, w, q, k⟩ := h
  exact ⟨F, G, [], Q', E', .nil, w, q, k, ke.mono s⟩
end
/-- what is handed back, some of what may change forgotten or frozen -/
def Rt (Q : DK) : DK := fun d G => ∃ d' G', (∀ (K : PySem.W.Frag) (F H : Hp) (v : V), Wd K F G H → Rp K F d v → ∃ F', Same F F' ∧ Wd K F' G' H ∧ Rp K F' d' v) ∧ Q d' G'
theorem Rt.less {Q : DK} {d : D} {G G' : Gp} (k : GLe G' G) (q : Q d G') : Rt Q d G := ⟨d, G', fun K F H v w r => ⟨F, Same.refl F, w.less k, r⟩, q⟩
theorem Rt.same {Q : DK} {d : D} {G : Gp} (q : Q d G) : Rt Q d G := Rt.less GLe.refl q
theorem Rt.frz {Q : DK} {a : Addr} {xs : List D} {G G' : Gp} (h : G a = some (.lst xs)) (k : ∀ b o, G' b = some o → b ≠ a ∧ G b = some o) (q : Q (.lst xs) G') : Rt Q (.ref a) G := by
  refine ⟨.lst xs, G', fun K F H v w r => ?_, q⟩
  cases r
  obtain ⟨F', s, w', r'⟩ := w.freeze h k
  exact ⟨F', s, w', r'⟩
/-- the commonest: the list that was made here -/
theorem Rt.frzNew {Q : DK} {a : Addr} {xs : List D} {G : Gp} (n : G a = none) (q : Q (.lst xs) G) : Rt Q (.ref a) (gu G a (.lst xs)) :=
  Rt.frz (G' := G) gu_same (fun b o e => by
    have z : b ≠ a := fun z => by rw [z, n] at e; cases e
    exact ⟨z, (gu_ne z).trans e⟩) q
abbrev startD (N : List Str) (ds : List D) : Sl := ds.map some ++ List.replicate (N.length - ds.length) none
abbrev endD (Q : DK) : DEnds := { nx := fun _ G => Rt Q .non G, rt := Rt Q }
theorem ke_end {K : PySem.W.Frag} {F : Hp} {Q' : DK} {Q : VK} (k : Ko K F Q' Q) : Ke K F (endD Q') { nx := fun _ H' => Q .non H', rt := Q } := by
  have h : Ko K F (Rt Q') Q := fun d v F' G' H' s w r q => by
    obtain ⟨d', G2, hv, q⟩ := q
    obtain ⟨F2, s2, w2, r2⟩ := hv K F' H' v w r
    exact k d' v F2 G2 H' (s.trans s2) w2 r2 q
  exact ⟨fun δ σ F' G' H' s en w q => h .non .non F' G' H' s w .non q, h, fun _ _ _ _ _ _ _ _ z => z.elim, fun _ _ _ _ _ _ _ _ z => z.elim⟩
section
variable {P : Program} {w : World} {K : PySem.W.Frag} {mg : Str → Option Value} {base : Heap}
theorem fn_d {x qual : Str} {st : Stmt} {f : Addr} {fd : FuncData} {N ps : List Str} {k : Nat} {sp : DSp} (F : Fun K x qual st f fd) (S : FnScope N ps (defScope st)) (len : ∀ ds G Q E, sp ds G Q E → ds.length = ps.length)
    (hbody : ∀ (cdv : Value) (A : Around) (outer : List Env) (s : Shared) (H : Hp) (E : XK) (F₀ : Hp), Room k (A.deeper (envOfC qual (defScope st) s.heap.objs.size f cdv)) → Mute A →
      ∃ t : DS, PSs (cxOf CX0 P w K mg base N qual (defScope st) f cdv A outer s H E).nox (defBody st) (Ls K F₀ t) ∧ ∀ ds G Q E', sp ds G Q E' → t (endD Q) (startD N ds) G) : FnG P w K mg base CX0 (k + 1) f fd ps (LSp K sp) := by
  refine fnG_of F S (fun vs H Q E ⟨F, G, ds, Q', E', r, w, q, _⟩ => by rw [← r.length]; exact len _ _ _ _ q) (fun cdv A outer s H vs Q E hr hmu ⟨F0, G, ds, Q', E', r, w, q, k, ke⟩ => ?_)
  obtain ⟨t, h1, h2⟩ := hbody cdv A outer s H E F0 hr hmu
  have hl := len _ _ _ _ q
  have hN : ps.length ≤ N.length := by have := congrArg List.length S.pre; rw [List.length_take] at this; omega
  exact ⟨_, h1.nox, ⟨_, F0, G, endD Q', Same.refl F0, En.start N r (by omega), w, h2 _ _ _ _ q, ke_end k⟩⟩
end

/-! ### statements -/
def dNext : DS := fun D δ G => D.nx δ G
def dSeq (t u : DS) : DS := fun D δ G => ∃ R, t { D with nx := R } δ G ∧ ∀ δ' G', R δ' G' → u D δ' G'
theorem dSeq_mk {t u : DS} {D : DEnds} {δ : Sl} {G : Gp} (h : t { D with nx := u D } δ G) : dSeq t u D δ G := ⟨u D, h, fun _ _ q => q⟩
def dAsg (i : Nat) (t : DE) : DS := fun D δ G => t δ G fun x G1 => D.nx (δ.set i (some x)) G1
def dRet (t : DE) : DS := fun D δ G => t δ G D.rt
def dRetN : DS := fun D _ G => D.rt .non G
def dDrop (t : DE) : DS := fun D δ G => t δ G fun _ G1 => D.nx δ G1
def dIfS (c : DT) (t u : DS) : DS := fun D δ G => c δ G fun b G1 => if b = true then t D δ G1 else u D δ G1
def dBreak : DS := fun D δ G => D.bk δ G
def dCont : DS := fun D δ G => D.ct δ G
def dNever : DS := fun _ _ _ => False
section
variable {X : Cx} {F₀ : Hp} {st : Stmt} {rest : List Stmt} {t u : DS} {te : DE} {tc : DT} {e c : Expr} {a b : List Stmt} {pos : Pos}
theorem dss_nil : PSs X [] (Ls X.K F₀ dNext) := pss_imp pss_nil fun D σ H ⟨δ, F, G, D', s, en, w, q, k⟩ => k.nx δ σ F G H (Same.refl F) en w q
theorem dss_one (h : PS X st (Ls X.K F₀ t)) : PSs X [st] (Ls X.K F₀ t) := pss_one h
theorem dss_cons (h1 : PS X st (Ls X.K F₀ t)) (h2 : PSs X rest (Ls X.K F₀ u)) : PSs X (st :: rest) (Ls X.K F₀ (dSeq t u)) := pss_imp (pss_cons h1 h2) fun D σ H ⟨δ, F, G, D', s, en, w, q, k⟩ => by
  obtain ⟨R, q1, q2⟩ := q
  exact ⟨δ, F, G, { D' with nx := R }, s, en, w, q1, ⟨fun δ1 σ1 F1 G1 H1 s1 en1 w1 r1 => ⟨δ1, F1, G1, D', s.trans s1, en1, w1, q2 _ _ r1, k.mono s1⟩, k.rt, k.bk, k.ct⟩⟩
theorem ds_set {i : Nat} {x : Str} {pos' : Pos} (hN : X.N.Nodup) (hi : X.N[i]? = some x) (hx : Loc X.env.scope x) (he : PE X e (Le X.K F₀ te)) (hs : swapsWith e (some (.Name x pos')) pos.line X.env = pure false := by rfl) (hf : X.fn x = true ∨ X.env.scope.names.lookup x = some .local := by first | exact .inl rfl | exact .inr rfl | assumption) :
    PS X (.Assign [.Name x pos'] e pos) (Ls X.K F₀ (dAsg i te)) := ps_imp (ps_set hN hi hx he hs hf) fun D σ H ⟨δ, F, G, D', s, en, w, q, k⟩ =>
  ⟨δ, F, G, _, s, en, w, q, fun x v F1 G1 H1 s1 w1 r1 q1 => k.nx _ _ F1 G1 H1 s1 ((en.mono s1).set r1 i) w1 q1⟩
theorem ds_ret (he : PE X e (Le X.K F₀ te)) : PS X (.Return (some e) pos) (Ls X.K F₀ (dRet te)) := ps_imp (ps_ret he) fun D σ H ⟨δ, F, G, D', s, en, w, q, k⟩ => ⟨δ, F, G, _, s, en, w, q, k.rt⟩
theorem ds_retN : PS X (.Return none pos) (Ls X.K F₀ dRetN) := ps_imp ps_retN fun D σ H ⟨δ, F, G, D', s, en, w, q, k⟩ => k.rt .non .non F G H (Same.refl F) w .non q
theorem ds_expr (he : PE X e (Le X.K F₀ te)) (hs : swapsWith e none pos.line X.env = pure false := by rfl) : PS X (.Expr e pos) (Ls X.K F₀ (dDrop te)) := ps_imp (ps_expr he hs) fun D σ H ⟨δ, F, G, D', s, en, w, q, k⟩ =>
  ⟨δ, F, G, _, s, en, w, q, fun x v F1 G1 H1 s1 w1 r1 q1 => k.nx _ _ F1 G1 H1 s1 (en.mono s1) w1 q1⟩
theorem ds_if (hc : PT X c (Lt X.K F₀ tc)) (ha : PSs X a (Ls X.K F₀ t)) (hb : PSs X b (Ls X.K F₀ u)) : PS X (.If c a b pos) (Ls X.K F₀ (dIfS tc t u)) := ps_imp (ps_if hc ha hb) fun D σ H ⟨δ, F, G, D', s, en, w, q, k⟩ => by
  refine ⟨δ, F, G, _, s, en, w, q, fun c F1 G1 H1 s1 w1 q1 => ?_⟩
  cases c with
  | true =>
    rw [if_pos rfl] at q1 ⊢
    exact ⟨δ, F1, G1, D', s.trans s1, en.mono s1, w1, q1, k.mono s1⟩
  | false =>
    rw [if_neg Bool.false_ne_true] at q1 ⊢
    exact ⟨δ, F1, G1, D', s.trans s1, en.mono s1, w1, q1, k.mono s1⟩
theorem ds_break : PS X (.Break pos) (Ls X.K F₀ dBreak) := ps_imp ps_break fun D σ H ⟨δ, F, G, D', s, en, w, q, k⟩ => k.bk δ σ F G H (Same.refl F) en w q
theorem ds_continue : PS X (.Continue pos) (Ls X.K F₀ dCont) := ps_imp ps_continue fun D σ H ⟨δ, F, G, D', s, en, w, q, k⟩ => k.ct δ σ F G H (Same.refl F) en w q
theorem ds_pass : PS X (.Pass pos) (Ls X.K F₀ dNext) := ps_imp ps_pass fun D σ H ⟨δ, F, G, D', s, en, w, q, k⟩ => k.nx δ σ F G H (Same.refl F) en w q
theorem ds_never : PS X st (Ls X.K F₀ dNever) := ps_imp ps_never fun D σ H ⟨δ, F, G, D', s, en, w, q, k⟩ => q
end

/-! ### targets -/
abbrev DG := D → Sl → Gp → (Sl → Gp → Prop) → Prop
abbrev DGs := List D → Sl → Gp → (Sl → Gp → Prop) → Prop
def wipeD (δ : Sl) : List Nat → Sl
  | [] => δ
  | v :: vs => (wipeD δ vs).set v none
theorem En.wipe {K : PySem.W.Frag} {F : Hp} {δ : Sl} {σ : L2.St} (h : En K F δ σ) : ∀ vs : List Nat, En K F (wipeD δ vs) (wipe σ vs)
  | [] => h
  | v :: vs => (h.wipe vs).clr v none
theorem wipe_set {σ : L2.St} {o : Option V} {i : Nat} : ∀ {vs : List Nat}, i ∈ vs → wipe (σ.set i o) vs = wipe σ vs
  | v :: vs, h => by
    unfold wipe
    by_cases hi : i ∈ vs
    · rw [wipe_set hi]
    · have e : i = v := by
        rcases List.mem_cons.mp h with e | e
        · exact e
        · exact absurd e hi
      subst e
      apply List.ext_getElem?
      intro j
      by_cases hj : i = j
      · subst hj
        have l1 := wipe_length (σ.set i o) vs
        have l2 := wipe_length σ vs
        rw [List.length_set] at l1
        by_cases hl : i < σ.length
        · rw [List.getElem?_set_self (by omega), List.getElem?_set_self (by omega)]
        · rw [List.getElem?_eq_none (by rw [List.length_set]; omega), List.getElem?_eq_none (by rw [List.length_set]; omega)]
      · rw [List.getElem?_set_ne hj, List.getElem?_set_ne hj]
        exact wipe_ne hj
where
  wipe_ne {σ : L2.St} {o : Option V} {i j : Nat} (hj : i ≠ j) : ∀ {vs : List Nat}, (wipe (σ.set i o) vs)[j]? = (wipe σ vs)[j]?
    | [] => by unfold wipe; rw [List.getElem?_set_ne hj]
    | v :: vs => by
      unfold wipe
      by_cases hv : v = j
      · subst hv
        have l1 := wipe_length (σ.set i o) vs
        have l2 := wipe_length σ vs
        rw [List.length_set] at l1
        by_cases hl : v < σ.length
        · rw [List.getElem?_set_self (by omega), List.getElem?_set_self (by omega)]
        · rw [List.getElem?_eq_none (by rw [List.length_set]; omega), List.getElem?_eq_none (by rw [List.length_set]; omega)]
      · rw [List.getElem?_set_ne hv, List.getElem?_set_ne hv]
        exact wipe_ne hj
theorem wipe_wipe {σ : L2.St} (vs : List Nat) : ∀ {us : List Nat}, (∀ v ∈ vs, v ∈ us) → wipe (wipe σ vs) us = wipe σ us := by
  induction vs with
  | nil => intro us _; rfl
  | cons v vs ih =>
    intro us h
    show wipe ((wipe σ vs).set v none) us = _
    rw [wipe_set (h v List.mem_cons_self)]
    exact ih fun u hu => h u (List.mem_cons_of_mem _ hu)
/-- a target that stores to the slots vs alone -/
def Lg (K : PySem.W.Frag) (F₀ : Hp) (vs : List Nat) (g : DG) : TG := fun v σ H Q => ∃ d δ F G Q', Same F₀ F ∧ En K F δ σ ∧ Wd K F G H ∧ Rp K F d v ∧ g d δ G Q' ∧ ∀ δ' σ' F' G' H', Same F F' → En K F' δ' σ' → Wd K F' G' H' → wipe σ' vs = wipe σ vs → Q' δ' G' → Q σ' H'
def Lgs (K : PySem.W.Frag) (F₀ : Hp) (vs : List Nat) (g : DGs) : TGs := fun v σ H Q => ∃ d δ F G Q', Same F₀ F ∧ En K F δ σ ∧ Wd K F G H ∧ Rps K F d v ∧ g d δ G Q' ∧ ∀ δ' σ' F' G' H', Same F F' → En K F' δ' σ' → Wd K F' G' H' → wipe σ' vs = wipe σ vs → Q' δ' G' → Q σ' H'
def gN (i : Nat) : DG := fun d δ G Q => Q (δ.set i (some d)) G
def gsNil : DGs := fun ds δ G Q => ds = [] ∧ Q δ G
def gsCons (t : DG) (u : DGs) : DGs := fun ds δ G Q => match ds with | d :: r => t d δ G fun δ' G' => u r δ' G' Q | [] => False
def gT (n : Nat) (t : DGs) : DG := fun d δ G Q => match d with | .tup xs => xs.length = n ∧ t xs δ G Q | _ => False
section
variable {X : Cx} {F₀ : Hp} {vs : List Nat} {pos : Pos}
theorem pg_imp {e : Expr} {t t' : TG} (h : PG X e t) (i : ∀ v σ H Q, t' v σ H Q → t v σ H Q) : PG X e t' := ⟨fun pins s σ H v u Q I r w => h.run pins s σ H v u Q I r (i v σ H Q w)⟩
theorem pgs_imp {e : List Expr} {t t' : TGs} (h : PGs X e t) (i : ∀ v σ H Q, t' v σ H Q → t v σ H Q) : PGs X e t' := ⟨fun pins s σ H v u Q I r w => h.run pins s σ H v u Q I r (i v σ H Q w)⟩
theorem dg_name {i : Nat} {x : Str} (hN : X.N.Nodup) (hi : X.N[i]? = some x) (hx : Loc X.env.scope x) (hv : i ∈ vs) (hf : X.fn x = true ∨ X.env.scope.names.lookup x = some .local := by first | exact .inl rfl | exact .inr rfl | assumption) : PG X (.Name x pos) (Lg X.K F₀ vs (gN i)) :=
  pg_imp (pg_name hN hi hx hf) fun v σ H Q ⟨d, δ, F, G, Q', s, en, w, r, q, k⟩ => k _ _ F G H (Same.refl F) (en.set r i) w (wipe_set hv) q
theorem dgs_nil : PGs X [] (Lgs X.K F₀ vs gsNil) := pgs_imp pgs_nil fun v σ H Q ⟨d, δ, F, G, Q', s, en, w, r, q, k⟩ => by
  obtain ⟨e, q⟩ := q
  subst e
  cases r
  exact ⟨rfl, k δ σ F G H (Same.refl F) en w rfl q⟩
theorem dgs_cons {e : Expr} {es : List Expr} {t : DG} {u : DGs} (h1 : PG X e (Lg X.K F₀ vs t)) (h2 : PGs X es (Lgs X.K F₀ vs u)) (hs : (assignEach (e :: es) X.env).map (·.2) = assign e X.env :: (assignEach es X.env).map (·.2) := by rfl) : PGs X (e :: es) (Lgs X.K F₀ vs (gsCons t u)) :=
  pgs_imp (pgs_cons h1 h2 hs) fun v σ H Q ⟨ds, δ, F, G, Q', s, en, w, r, q, k⟩ => by
    cases r with
    | nil => exact q.elim
    | cons r1 r2 =>
      refine ⟨_, _, rfl, _, δ, F, G, _, s, en, w, r1, q, fun δ1 σ1 F1 G1 H1 s1 en1 w1 e1 q1 => ?_⟩
      exact ⟨_, δ1, F1, G1, _, s.trans s1, en1, w1, r2.mono s1, q1, fun δ2 σ2 F2 G2 H2 s2 en2 w2 e2 q2 => k δ2 σ2 F2 G2 H2 (s1.trans s2) en2 w2 (e2.trans e1) q2⟩
theorem dg_tup {es : List Expr} {k : Nat} {t : DGs} {n : Nat} (hc : X.calm = true) (h : PGs X es (Lgs X.K F₀ vs t)) (hn : (assignEach es X.env).length = n := by rfl) (hst : (assignEach es X.env).findIdx? (·.1) = none := by rfl) : PG X (.Tuple es k pos) (Lg X.K F₀ vs (gT n t)) :=
  pg_imp (pg_tup hc h hn hst) fun v σ H Q ⟨d, δ, F, G, Q', s, en, w, r, q, k⟩ => by
    cases r with
    | tup sq rs => exact ⟨_, _, rfl, sqT_mono w.fz sq, by rw [← rs.length]; exact q.1, _, δ, F, G, _, s, en, w, rs, q.2, k⟩
    | _ => exact (show False from q).elim
/-- target = e -/
def dAsgG (g : DG) (t : DE) : DS := fun D δ G => t δ G fun x G1 => g x δ G1 D.nx
theorem ds_asg {tg e : Expr} {te : DE} {g : DG} (he : PE X e (Le X.K F₀ te)) (hg : PG X tg (Lg X.K F₀ vs g)) (hs : swapsWithSole [tg] e pos.line X.env = pure false := by rfl) (hw : swappedStores [tg] e X.env = pure none := by rfl)
    (h1 : (assignEach [tg] X.env).map (·.2) = [assign tg X.env] := by rfl) : PS X (.Assign [tg] e pos) (Ls X.K F₀ (dAsgG g te)) := ps_imp (ps_asg he hg hs hw h1) fun D σ H ⟨δ, F, G, D', s, en, w, q, k⟩ =>
  ⟨δ, F, G, _, s, en, w, q, fun x v F1 G1 H1 s1 w1 r1 q1 => ⟨x, δ, F1, G1, _, s.trans s1, en.mono s1, w1, r1, q1, fun δ2 σ2 F2 G2 H2 s2 en2 w2 e2 q2 => k.nx δ2 σ2 F2 G2 H2 (s1.trans s2) en2 w2 q2⟩⟩
/-- a, b = e, f -/
def dPar (i j : Nat) (t : DA) : DS := fun D δ G => t δ G fun xs G1 => match xs with | [x, y] => D.nx ((δ.set i (some x)).set j (some y)) G1 | _ => False
theorem ds_par {i j : Nat} {x y : Str} {a b : Expr} {ta : DA} {px py pt : Pos} {kt k2 pt2} (hc : X.calm = true) (hN : X.N.Nodup) (hi : X.N[i]? = some x) (hj : X.N[j]? = some y) (hij : i ≠ j)
    (hx : X.env.scope.names.lookup x = some .local) (hy : X.env.scope.names.lookup y = some .local) (ha : PA X [a, b] (La X.K F₀ ta))
    (hw : swappedStores [.Tuple [.Name x px, .Name y py] kt pt] (.Tuple [a, b] k2 pt2) X.env = pure (some [x, y]))
    (hs : swapsWithSole [.Tuple [.Name x px, .Name y py] kt pt] (.Tuple [a, b] k2 pt2) pos.line X.env = pure false := by rfl) :
    PS X (.Assign [.Tuple [.Name x px, .Name y py] kt pt] (.Tuple [a, b] k2 pt2) pos) (Ls X.K F₀ (dPar i j ta)) := ps_imp (ps_par hc hN hi hj hij hx hy ha hw hs) fun D σ H ⟨δ, F, G, D', s, en, w, q, k⟩ => by
  refine ⟨δ, F, G, _, s, en, w, q, fun xs vs F1 G1 H1 s1 w1 r1 q1 => ?_⟩
  split at q1
  · obtain ⟨v, u, rfl, ra, rb⟩ := rps2 r1
    exact ⟨v, u, rfl, k.nx _ _ F1 G1 H1 s1 (((en.mono s1).set ra i).set rb j) w1 q1⟩
  · exact q1.elim
/-- xs[i] = e -/
def dSetL : D → D → D → Gp → (Gp → Prop) → Prop := fun o i v G Q => match o, i with
  | .ref a, .int k => match G a with
    | some (.lst xs) => match ixN xs.length k with
      | some j => Q (gu G a (.lst (xs.set j v)))
      | none => False
    | _ => False
  | _, _ => False
def dSetIx (te to ti : DE) : DS := fun D δ G => te δ G fun v G1 => to δ G1 fun o G2 => ti δ G2 fun i G3 => dSetL o i v G3 fun G4 => D.nx δ G4
theorem ds_setix {o i e : Expr} {to ti te : DE} {pos' : Pos} (he : PE X e (Le X.K F₀ te)) (ho : PE X o (Le X.K F₀ to)) (hi : PE X i (Le X.K F₀ ti))
    (ha : ∀ v, assign (.Subscript o i pos') X.env v = (do
      let ov ← holding [v] (eval o X.env)
      let iv ← holding [v, ov] (eval i X.env)
      standAt pos'
      holding [v, ov, iv] (setItem ov iv v)
      release [v, ov, iv] []) := by intro _; rfl)
    (hs : swapsWithSole [.Subscript o i pos'] e pos.line X.env = pure false := by rfl) (hw : swappedStores [.Subscript o i pos'] e X.env = pure none := by rfl)
    (h1 : (assignEach [.Subscript o i pos'] X.env).map (·.2) = [assign (.Subscript o i pos') X.env] := by rfl) : PS X (.Assign [.Subscript o i pos'] e pos) (Ls X.K F₀ (dSetIx te to ti)) :=
  ps_imp (ps_asg he (pg_sub ho hi set_list ha) hs hw h1) fun D σ H ⟨δ, F, G, D', s, en, w, q, k⟩ => by
    refine ⟨δ, F, G, _, s, en, w, q, fun x v F1 G1 H1 s1 w1 r1 q1 => ?_⟩
    refine ⟨δ, F1, G1, _, s.trans s1, en.mono s1, w1, q1, fun y u F2 G2 H2 s2 w2 r2 q2 => ?_⟩
    refine ⟨δ, F2, G2, _, (s.trans s1).trans s2, (en.mono s1).mono s2, w2, q2, fun z u3 F3 G3 H3 s3 w3 r3 q3 => ?_⟩
    have r1' := r1.mono (s2.trans s3)
    have r2' := r2.mono s3
    unfold dSetL at q3
    split at q3
    · rename_i a kk
      cases r2'
      cases r3
      split at q3
      · rename_i xs e
        split at q3
        · rename_i j ej
          obtain ⟨hF, us, hv, rs⟩ := w3.lst e
          refine ⟨a, us, kk, j, rfl, rfl, hv, by rw [← rs.length]; exact ej, ?_⟩
          exact k.nx δ σ F3 _ _ ((s1.trans s2).trans s3) (((en.mono s1).mono s2).mono s3) (w3.put (g := .lst (xs.set j x)) hF ⟨_, upd_same, rs.set r1' j⟩) q3
        · exact q3.elim
      · exact q3.elim
    · exact q3.elim
end
end DL

/-! Rules over trees: what is walked, for, while, comprehensions, methods. -/
namespace DL
open PySem PySem.Spec PyProof.Rows L2

/-! ### what is walked -/
/-- while S stands it gives the items one by one -/
structure DIt (K : PySem.W.Frag) (F : Hp) (S : Gp → Prop) (its : List D) (J : It) : Prop where
  ok : ∃ (Gc : Hp → Prop) (Y : Nat → Hp → V → Hp → Prop), Walk J its.length Gc Y ∧ (∀ F1 G H, Same F F1 → Wd K F1 G H → S G → Gc H) ∧
    ∀ i d F1 G H x H', Same F F1 → Wd K F1 G H → S G → its[i]? = some d → Y i H x H' → ∃ F2, Same F1 F2 ∧ Wd K F2 G H' ∧ Rp K F2 d x
abbrev DI := Sl → Gp → (List D → (Gp → Prop) → Gp → Prop) → Prop
def Li (K : PySem.W.Frag) (F₀ : Hp) (ti : DI) : TI := fun σ H R => ∃ δ F G Q', Same F₀ F ∧ En K F δ σ ∧ Wd K F G H ∧ ti δ G Q' ∧ ∀ its S J F' G' H', Same F F' → Wd K F' G' H' → DIt K F' S its J → Q' its S G' → R J H'
/-- that the list at hand is as it was: nothing to say of what is frozen -/
def Stays (d : D) (G : Gp) : Gp → Prop := match d with
  | .ref a => fun G' => G' a = G a
  | _ => fun _ => True
def dSeqI (t : DE) : DI := fun δ G Q => t δ G fun x G1 => match seqOf x G1 with
  | some xs => Q xs (Stays x G1) G1
  | none => False
section
variable {K : PySem.W.Frag} {F F₀ : Hp} {G : Gp} {H : Hp} {d : D} {v : V} {xs : List D} {a : Addr}
theorem dit_list {S : Gp → Prop} (h : ∀ F1 G H, Same F F1 → Wd K F1 G H → S G → ∃ vs, SqL K H a vs ∧ Rps K F1 xs vs) (vs0 : List V) (hv : ∀ F1 G H vs, Same F F1 → Wd K F1 G H → S G → SqL K H a vs → Rps K F1 xs vs → vs = vs0) (hl : xs.length = vs0.length) : DIt K F S xs (Itl K a) := by
  refine ⟨_, _, by rw [hl]; exact walk_list (K := K) (a := a) (xs := vs0), fun F1 G H s w st => ?_, fun i d F1 G H x H' s w st e y => ?_⟩
  · obtain ⟨vs, h1, h2⟩ := h F1 G H s w st
    rw [← hv F1 G H vs s w st h1 h2]
    exact h1
  · obtain ⟨rfl, y⟩ := y
    obtain ⟨vs, h1, h2⟩ := h F1 G _ s w st
    have e2 := hv F1 G _ vs s w st h1 h2
    subst e2
    obtain ⟨z, hz, rz⟩ := h2.get e
    rw [y] at hz
    cases hz
    exact ⟨F1, Same.refl F1, w, rz⟩
theorem dit_seq (w : Wd K F G H) (r : Rp K F d v) (h : seqOf d G = some xs) : ∃ a, v = .ref a ∧ (((∃ us, SqL K H a us) ∧ DIt K F (Stays d G) xs (Itl K a)) ∨ ((∃ us, SqT K H a us) ∧ DIt K F (Stays d G) xs (Itt K a))) := by
  cases d with
  | tup ys =>
    cases (show some ys = some xs from h)
    cases r with
    | tup sq rs =>
      rename_i a vs
      refine ⟨a, rfl, .inr ⟨⟨_, sqT_mono w.fz sq⟩, _, _, by rw [rs.length]; exact walk_tup (K := K) (a := a) (xs := vs), fun F1 G H s w st => sqT_mono (s.trans w.fz) sq, fun i d F1 G H x H' s w st e y => ?_⟩⟩
      obtain ⟨rfl, y⟩ := y
      obtain ⟨z, hz, rz⟩ := rs.get e
      rw [y] at hz
      cases hz
      exact ⟨F1, Same.refl F1, w, rz.mono s⟩
  | scr ys =>
    cases (show some ys = some xs from h)
    cases r with
    | scr sq rs =>
      rename_i a vs
      refine ⟨a, rfl, .inl ⟨⟨_, sqL_mono w.fz sq⟩, _, _, by rw [rs.length]; exact walk_list (K := K) (a := a) (xs := vs), fun F1 G H s w st => sqL_mono (s.trans w.fz) sq, fun i d F1 G H x H' s w st e y => ?_⟩⟩
      obtain ⟨rfl, y⟩ := y
      obtain ⟨z, hz, rz⟩ := rs.get e
      rw [y] at hz
      cases hz
      exact ⟨F1, Same.refl F1, w, rz.mono s⟩
  | lst ys =>
    cases (show some ys = some xs from h)
    cases r with
    | lst sq rs =>
      rename_i a vs
      refine ⟨a, rfl, .inl ⟨⟨_, .of (w.fz _ _ sq)⟩, _, _, by rw [rs.length]; exact walk_list (K := K) (a := a) (xs := vs), fun F1 G H s w st => SqL.of (w.fz _ _ (s _ _ sq)), fun i d F1 G H x H' s w st e y => ?_⟩⟩
      obtain ⟨rfl, y⟩ := y
      obtain ⟨z, hz, rz⟩ := rs.get e
      rw [y] at hz
      cases hz
      exact ⟨F1, Same.refl F1, w, rz.mono s⟩
  | ref b =>
    cases r
    have h' : (match G b with | some (.lst xs) => some xs | _ => none) = some xs := h
    split at h'
    · rename_i ys e
      cases h'
      obtain ⟨_, us, hu, ru⟩ := w.lst e
      refine ⟨b, rfl, .inl ⟨⟨_, .of hu⟩, fun H => ∃ vs, H b = some (.lst vs) ∧ vs.length = xs.length, fun i H x H' => H' = H ∧ ∃ vs, H b = some (.lst vs) ∧ vs[i]? = some x, ⟨fun i H hi q => ?_, fun H q => ?_, fun i H x H' hi q y => ?_⟩, fun F1 G1 H s w st => ?_, fun i d F1 G1 H x H' s w st e2 y => ?_⟩⟩
      · obtain ⟨vs, hv, hl⟩ := q
        exact ⟨vs, vs[i]'(by omega), .of hv, by simp⟩
      · obtain ⟨vs, hv, hl⟩ := q
        exact ⟨vs, .of hv, by omega⟩
      · obtain ⟨vs, hv, hl⟩ := q
        exact ⟨y.1, vs, hv, y.2 vs (.of hv)⟩
      · have st' : G1 b = G b := st
        rw [e] at st'
        obtain ⟨_, vs, hv, rv⟩ := w.lst st'
        exact ⟨vs, hv, rv.length.symm⟩
      · have st' : G1 b = G b := st
        rw [e] at st'
        obtain ⟨_, vs, hv, rv⟩ := w.lst st'
        obtain ⟨rfl, ws, hw, hx⟩ := y
        rw [hv] at hw
        cases hw
        obtain ⟨z, hz, rz⟩ := rv.get e2
        rw [hx] at hz
        cases hz
        exact ⟨F1, Same.refl F1, w, rz⟩
    · cases h'
  | _ => cases h
end
section
variable {X : Cx} {F₀ : Hp} {tg e a b : Expr} {ta tb : DE} {t : DA} {p pos tpos : Pos} {elts : List Expr} {kk : Nat}
theorem pi_or {w1 w2 : TI} (h1 : PI X tg e w1) (h2 : PI X tg e w2) : PI X tg e (fun σ H R => w1 σ H R ∨ w2 σ H R) := ⟨fun pins s σ H R I h => h.elim (h1.run pins s σ H R I) (h2.run pins s σ H R I)⟩
/-- over a list or a tuple, whichever it is -/
theorem pi_any {te : TE} (he : PE X e te) : PI X tg e (fun σ H R => te σ H fun x H1 => ∃ a, x = .ref a ∧ (((∃ xs, SqL X.K H1 a xs) ∧ R (Itl X.K a) H1) ∨ ((∃ xs, SqT X.K H1 a xs) ∧ R (Itt X.K a) H1))) := by
  refine ⟨fun pins s σ H R I h => ?_⟩
  refine thn (he.run pins s σ H _ I h) fun v s1 ⟨x, H1, I1, r1, q1⟩ => ?_
  obtain ⟨a, e, q⟩ := q1
  subst e
  cases r1
  rcases q with ⟨⟨xs, hq⟩, q⟩ | ⟨⟨xs, hq⟩, q⟩
  · obtain ⟨its, rv, p, hz⟩ := I1.list hq
    refine wpAny_pyIter_list p.isList ?_
    refine ⟨s1.heap.objs.size, [s1.heap.objs.size], _, _, H1, rfl, I1.kept (t' := s1.toks) fun b o e => Heap.get?_push_of_some _ e, turn_list a _, ⟨_, Heap.get?_push_size _ rfl, rfl, rfl⟩, fun b hb => ?_, q⟩
    have e : b = s1.heap.objs.size := by simpa using hb
    subst e
    exact I1.fpOk (Nat.le_refl _) (I1.hok.fresh (Nat.le_refl _))
  · obtain ⟨its, rv, p, hz⟩ := I1.tuple hq
    refine wpAny_pyIter_tuple (show s1.heap.IsTuple a its.toArray from p) ?_
    refine ⟨s1.heap.objs.size, [s1.heap.objs.size], _, _, H1, rfl, I1.kept (t' := s1.toks) fun b o e => Heap.get?_push_of_some _ e, turn_tuple a _, ⟨_, Heap.get?_push_size _ rfl, rfl, rfl⟩, fun b hb => ?_, q⟩
    have e : b = s1.heap.objs.size := by simpa using hb
    subst e
    exact I1.fpOk (Nat.le_refl _) (I1.hok.fresh (Nat.le_refl _))
theorem pi_imp {w w' : TI} (h : PI X tg e w) (i : ∀ σ H R, w' σ H R → w σ H R) : PI X tg e w' := ⟨fun pins s σ H R I q => h.run pins s σ H R I (i σ H R q)⟩
theorem di_seq (he : PE X e (Le X.K F₀ ta)) : PI X tg e (Li X.K F₀ (dSeqI ta)) := pi_imp (pi_any he) fun σ H R ⟨δ, F, G, Q', s, en, w, q, k⟩ => by
  refine ⟨δ, F, G, _, s, en, w, q, fun x v F1 G1 H1 s1 w1 r1 q1 => ?_⟩
  split at q1
  · rename_i xs e
    obtain ⟨a, ev, h⟩ := dit_seq w1 r1 e
    refine ⟨a, ev, ?_⟩
    rcases h with ⟨h1, h2⟩ | ⟨h1, h2⟩
    · exact .inl ⟨h1, k xs _ _ F1 G1 H1 s1 w1 h2 q1⟩
    · exact .inr ⟨h1, k xs _ _ F1 G1 H1 s1 w1 h2 q1⟩
  · exact q1.elim
/-- range -/
def upD (lo : Int) (n : Nat) : List D := (List.range n).map fun i => D.int (lo + (i : Nat))
abbrev Sure : Gp → Prop := fun _ => True
theorem dit_range {K : PySem.W.Frag} {F : Hp} (lo : Int) (n : Nat) : DIt K F Sure (upD lo n) (Itr lo n) := by
  refine ⟨fun _ => True, _, by unfold upD; rw [List.length_map, List.length_range]; exact walk_range, fun _ _ _ _ _ _ => trivial, fun i d F1 G H x H' s w st e y => ?_⟩
  obtain ⟨rfl, rfl⟩ := y
  have hi : i < n := by
    have := (List.getElem?_eq_some_iff.mp e).1
    unfold upD at this
    rwa [List.length_map, List.length_range] at this
  unfold upD at e
  rw [List.getElem?_map, List.getElem?_range hi] at e
  cases e
  exact ⟨F1, Same.refl F1, w, .int _⟩
def dRange1 (t : DA) : DI := fun δ G Q => t δ G fun xs G1 => match xs with | [.int n] => -(2 ^ 62) ≤ n ∧ n < 2 ^ 62 ∧ Q (upD 0 n.toNat) Sure G1 | _ => False
def dRange2 (t : DA) : DI := fun δ G Q => t δ G fun xs G1 => match xs with | [.int i, .int n] => (-(2 ^ 62) ≤ i ∧ i < 2 ^ 62 ∧ -(2 ^ 62) ≤ n ∧ n < 2 ^ 62) ∧ Q (upD i (n - i).toNat) Sure G1 | _ => False
theorem di_range1 (hg : Gl X "range") (hm : X.mg "range" = none) (ha : PA X [a] (La X.K F₀ t)) (hs : starEach [a] X.env = [(false, eval a X.env)] := by rfl) : PI X tg (.Call (.Name "range" p) [a] [] pos) (Li X.K F₀ (dRange1 t)) :=
  pi_imp (pi_range1 hg hm ha hs) fun σ H R ⟨δ, F, G, Q', s, en, w, q, k⟩ => by
    refine ⟨δ, F, G, _, s, en, w, q, fun xs vs F1 G1 H1 s1 w1 r1 q1 => ?_⟩
    split at q1
    · obtain ⟨v, rfl, r⟩ := rps1 r1
      cases r
      exact ⟨_, rfl, q1.1, q1.2.1, k _ _ _ F1 G1 H1 s1 w1 (dit_range _ _) q1.2.2⟩
    · exact q1.elim
theorem di_range2 (hg : Gl X "range") (hm : X.mg "range" = none) (ha : PA X [a, b] (La X.K F₀ t)) (hs : starEach [a, b] X.env = [(false, eval a X.env), (false, eval b X.env)] := by rfl) (hs2 : starEach [b] X.env = [(false, eval b X.env)] := by rfl) :
    PI X tg (.Call (.Name "range" p) [a, b] [] pos) (Li X.K F₀ (dRange2 t)) :=
  pi_imp (pi_range2 hg hm ha hs hs2) fun σ H R ⟨δ, F, G, Q', s, en, w, q, k⟩ => by
    refine ⟨δ, F, G, _, s, en, w, q, fun xs vs F1 G1 H1 s1 w1 r1 q1 => ?_⟩
    split at q1
    · obtain ⟨v, u, rfl, r, r2⟩ := rps2 r1
      cases r; cases r2
      exact ⟨_, _, rfl, q1.1, k _ _ _ F1 G1 H1 s1 w1 (dit_range _ _) q1.2⟩
    · exact q1.elim
end

/-! ### for -/
def forL (g : DG) (tb : DS) (S : Gp → Prop) : List D → DS
  | [] => fun D δ G => S G ∧ D.nx δ G
  | x :: r => fun D δ G => S G ∧ g x δ G fun δ1 G1 => tb { D with nx := forL g tb S r D, ct := forL g tb S r D, bk := D.nx } δ1 G1
def dFor (ti : DI) (g : DG) (tb : DS) : DS := fun D δ G => ti δ G fun its S G1 => forL g tb S its D δ G1
theorem forL_stays {g : DG} {tb : DS} {S : Gp → Prop} {l : List D} {D : DEnds} {δ : Sl} {G : Gp} (h : forL g tb S l D δ G) : S G := by
  cases l with
  | nil => exact h.1
  | cons x r => exact h.1
section
variable {X : Cx} {F₀ : Hp} {tg iter : Expr} {body : List Stmt} {ti : DI} {g : DG} {tb : DS} {vs : List Nat} {pos : Pos}
theorem ds_for (hp : PassesOwn (model X.prog X.w) X.A X.env X.xe) (hc : X.calm = true) (hi : PI X tg iter (Li X.K F₀ ti)) (hg : PG X tg (Lg X.K F₀ vs g)) (hb : PSs X body (Ls X.K F₀ tb))
    (hs : ∀ x, foldedSetIterable iter X.env x = pure x := by intro _; rfl) : PS X (.For tg iter body [] pos) (Ls X.K F₀ (dFor ti g tb)) := ps_imp (ps_for hp hc hi hg hb hs) fun D σ H ⟨δ, F, G, D', s, en, w, q, k⟩ => by
  refine ⟨δ, F, G, _, s, en, w, q, fun its S J F1 G1 H1 s1 w1 it q1 => ?_⟩
  obtain ⟨Gc, Y, W, hgc, hy⟩ := it.ok
  refine for_it W (fun i σ H => ∃ δ F2 G2, Same F1 F2 ∧ En X.K F2 δ σ ∧ Wd X.K F2 G2 H ∧ forL g tb S (its.drop i) D' δ G2) ⟨δ, F1, G1, Same.refl F1, en.mono s1, w1, by rw [List.drop_zero]; exact q1⟩ (fun i σ H hi ⟨δ, F2, G2, s2, en2, w2, q2⟩ => hgc F2 G2 H s2 w2 (forL_stays q2)) (fun i x σ H H' hi ⟨δ, F2, G2, s2, en2, w2, q2⟩ y => ?_) (fun σ H ⟨δ, F2, G2, s2, en2, w2, q2⟩ => ?_)
  · have ei : its[i]? = some its[i] := List.getElem?_eq_getElem hi
    rw [List.drop_eq_getElem_cons hi] at q2
    obtain ⟨st, q2⟩ := q2
    obtain ⟨F3, s3, w3, r3⟩ := hy i its[i] F2 G2 H x H' s2 w2 st ei y
    refine ⟨_, δ, F3, G2, _, ((s.trans s1).trans s2).trans s3, en2.mono s3, w3, r3, q2, fun δ4 σ4 F4 G4 H4 s4 en4 w4 e4 q4 => ?_⟩
    have s04 := (((s.trans s1).trans s2).trans s3).trans s4
    refine ⟨δ4, F4, G4, _, s04, en4, w4, q4, ⟨fun δ5 σ5 F5 G5 H5 s5 en5 w5 q5 => ?_, k.rt.mono (((s1.trans s2).trans s3).trans s4), fun δ5 σ5 F5 G5 H5 s5 en5 w5 q5 => ?_, fun δ5 σ5 F5 G5 H5 s5 en5 w5 q5 => ?_⟩⟩
    · exact ⟨δ5, F5, G5, ((s2.trans s3).trans s4).trans s5, en5, w5, q5⟩
    · exact k.nx δ5 σ5 F5 G5 H5 ((((s1.trans s2).trans s3).trans s4).trans s5) en5 w5 q5
    · exact ⟨δ5, F5, G5, ((s2.trans s3).trans s4).trans s5, en5, w5, q5⟩
  · rw [List.drop_length] at q2
    exact k.nx δ σ F2 G2 H (s1.trans s2) en2 w2 q2.2
/-- while: an invariant with a measure -/
def dWhile (c : DT) (tb : DS) : DS := fun D δ G => ∃ W : Nat → Sl → Gp → Prop, (∃ m, W m δ G) ∧ ∀ m δ G, W m δ G →
  c δ G fun b G1 => if b = true then tb { D with nx := fun δ' G' => ∃ m', m' < m ∧ W m' δ' G', ct := fun δ' G' => ∃ m', m' < m ∧ W m' δ' G', bk := D.nx } δ G1 else D.nx δ G1
theorem ds_while {c : Expr} {tc : DT} (hp : PassesOwn (model X.prog X.w) X.A X.env X.xe) (hc : PT X c (Lt X.K F₀ tc)) (hb : PSs X body (Ls X.K F₀ tb)) : PS X (.While c body [] pos) (Ls X.K F₀ (dWhile tc tb)) := ps_imp (ps_while hp hc hb) fun D σ H ⟨δ, F, G, D', s, en, w, q, k⟩ => by
  obtain ⟨W, ⟨m0, h0⟩, hW⟩ := q
  refine ⟨fun m σ H => ∃ δ F2 G2, Same F F2 ∧ En X.K F2 δ σ ∧ Wd X.K F2 G2 H ∧ W m δ G2, ⟨m0, δ, F, G, Same.refl F, en, w, h0⟩, fun m σ H ⟨δ, F2, G2, s2, en2, w2, q2⟩ => ?_⟩
  refine ⟨δ, F2, G2, _, s.trans s2, en2, w2, hW m δ G2 q2, fun b F3 G3 H3 s3 w3 q3 => ?_⟩
  cases b with
  | true =>
    rw [if_pos rfl] at q3 ⊢
    refine ⟨fun σ H => ∃ m', m' < m ∧ ∃ δ F2 G2, Same F F2 ∧ En X.K F2 δ σ ∧ Wd X.K F2 G2 H ∧ W m' δ G2, fun σ H h => h, δ, F3, G3, _, (s.trans s2).trans s3, en2.mono s3, w3, q3, ⟨fun δ5 σ5 F5 G5 H5 s5 en5 w5 q5 => ?_, k.rt.mono (s2.trans s3), fun δ5 σ5 F5 G5 H5 s5 en5 w5 q5 => ?_, fun δ5 σ5 F5 G5 H5 s5 en5 w5 q5 => ?_⟩⟩
    · obtain ⟨m', h1, h2⟩ := q5
      exact ⟨m', h1, δ5, F5, G5, (s2.trans s3).trans s5, en5, w5, h2⟩
    · exact k.nx δ5 σ5 F5 G5 H5 ((s2.trans s3).trans s5) en5 w5 q5
    · obtain ⟨m', h1, h2⟩ := q5
      exact ⟨m', h1, δ5, F5, G5, (s2.trans s3).trans s5, en5, w5, h2⟩
  | false =>
    rw [if_neg Bool.false_ne_true] at q3 ⊢
    exact k.nx δ σ F3 G3 H3 (s2.trans s3) (en2.mono s3) w3 q3
end

/-! ### comprehensions -/
def compL (g : DG) (tt : DT) (te : DE) (S : Gp → Prop) (p : Addr) (δ : Sl) : List D → List D → Gp → (List D → Gp → Prop) → Prop
  | [], acc, G, Q => S G ∧ G p = some (.lst acc) ∧ Q acc G
  | x :: r, acc, G, Q => S G ∧ G p = some (.lst acc) ∧ g x δ G fun δ2 G2 => tt δ2 G2 fun b G3 =>
    if b = true then te δ2 G3 fun y G4 => G4 p = some (.lst acc) ∧ acc.length < sizeLine ∧ compL g tt te S p δ r (acc ++ [y]) (gu G4 p (.lst (acc ++ [y]))) Q else compL g tt te S p δ r acc G3 Q
def dYes : DT := fun _ G Q => Q true G
def endLc (m : Bool) (Q : DK) (p : Addr) (acc : List D) (G : Gp) : Prop := match m with
  | true => Q (.ref p) G
  | false => Q (.lst acc) (gd G p)
def dLc (m : Bool) (ti : DI) (g : DG) (tt : DT) (te : DE) (vs : List Nat) : DE := fun δ G Q => ti δ G fun its S G1 => ∀ p, G1 p = none →
  compL g tt te S p (wipeD δ vs) its [] (gu G1 p (.lst [])) (endLc m Q p)
theorem compL_stays {g : DG} {tt : DT} {te : DE} {S : Gp → Prop} {p : Addr} {δ : Sl} {l acc : List D} {G : Gp} {Q : List D → Gp → Prop} (h : compL g tt te S p δ l acc G Q) : S G := by
  cases l with
  | nil => exact h.1
  | cons x r => exact h.1
section
variable {X : Cx} {F₀ : Hp} {tg iter elt : Expr} {ti : DI} {g : DG} {tt : DT} {te : DE} {ifs : List Expr} {scope : Scope} {own : List (Str × Nat)} {pos : Pos}
theorem pts_imp {t t' : TT} (h : PTs X ifs t) (i : ∀ σ H Q, t' σ H Q → t σ H Q) : PTs X ifs t' := ⟨fun pins s σ H Q I w => h.run pins s σ H Q I (i σ H Q w)⟩
theorem dts_nil : PTs X [] (Lt X.K F₀ dYes) := pts_imp pts_nil fun σ H Q ⟨δ, F, G, Q', s, en, w, q, k⟩ => k true F G H (Same.refl F) w q
theorem dts_one {c : Expr} {t : DT} (h : PT X c (Lt X.K F₀ t)) : PTs X [c] (Lt X.K F₀ t) := pts_one h
theorem lc_le (m : Bool) {σ : L2.St} {H : Hp} {Q : VK} {vs : List Nat} (h : Le X.K F₀ (dLc m ti g tt te vs) σ H Q) : tLc (Li X.K F₀ ti) (Lg X.K F₀ vs g) (Lt X.K F₀ tt) (Le X.K F₀ te) vs σ H Q := by
  obtain ⟨δ, F, G, Q', s, en, w, q, k⟩ := h
  refine ⟨δ, F, G, _, s, en, w, q, fun its S J F1 G1 H1 s1 w1 it q1 => fun p hp => ?_⟩
  obtain ⟨Gc, Y, W, hgc, hy⟩ := it.ok
  have q1 := q1 p (w1.gfree hp)
  have w1' : Wd X.K F1 (gu G1 p (.lst [])) (upd H1 p (.lst [])) := w1.put (g := .lst []) (w1.ffree hp) ⟨[], upd_same, .nil⟩
  refine lc_it W (fun i H => ∃ acc F2 G2, Same F1 F2 ∧ Wd X.K F2 G2 H ∧ G2 p = some (.lst acc) ∧ compL g tt te S p (wipeD δ vs) (its.drop i) acc G2 (endLc m Q' p)) ⟨[], F1, _, Same.refl F1, w1', gu_same, by rw [List.drop_zero]; exact q1⟩
    (fun i H hi ⟨acc, F2, G2, s2, w2, _, q2⟩ => hgc F2 G2 H s2 w2 (compL_stays q2)) (fun i x H H' hi ⟨acc, F2, G2, s2, w2, gp, q2⟩ y => ?_) (fun H ⟨acc, F2, G2, s2, w2, gp, q2⟩ => ?_)
  · have ei : its[i]? = some its[i] := List.getElem?_eq_getElem hi
    rw [List.drop_eq_getElem_cons hi] at q2
    obtain ⟨st, _, q2⟩ := q2
    obtain ⟨F3, s3, w3, r3⟩ := hy i its[i] F2 G2 H x H' s2 w2 st ei y
    have s03 := ((s.trans s1).trans s2).trans s3
    refine ⟨_, wipeD δ vs, F3, G2, _, s03, (((en.mono s1).mono s2).mono s3).wipe vs, w3, r3, q2, fun δ4 σ4 F4 G4 H4 s4 en4 w4 e4 q4 => ⟨?_, ?_⟩⟩
    · rw [e4]
      exact wipe_wipe vs fun v hv => hv
    · refine ⟨δ4, F4, G4, _, s03.trans s4, en4, w4, q4, fun b F5 G5 H5 s5 w5 q5 => ?_⟩
      cases b with
      | true =>
        rw [if_pos rfl] at q5 ⊢
        refine ⟨δ4, F5, G5, _, (s03.trans s4).trans s5, en4.mono s5, w5, q5, fun d v F6 G6 H6 s6 w6 r6 q6 => ?_⟩
        obtain ⟨gp6, hl6, q6⟩ := q6
        obtain ⟨f6, us, hu, ru⟩ := w6.lst gp6
        exact ⟨us, hu, by rw [← ru.length]; exact hl6, acc ++ [d], F6, _, (((s2.trans s3).trans s4).trans s5).trans s6, w6.put (g := .lst (acc ++ [d])) f6 ⟨_, upd_same, ru.append (.one r6)⟩, gu_same, q6⟩
      | false =>
        rw [if_neg Bool.false_ne_true] at q5 ⊢
        exact ⟨acc, F5, G5, ((s2.trans s3).trans s4).trans s5, w5, compL_at q5, q5⟩
  · rw [List.drop_length] at q2
    obtain ⟨_, gp2, q2⟩ := q2
    have k2 := k.mono (s1.trans s2)
    cases m with
    | true => exact k2 _ _ F2 G2 H (Same.refl F2) w2 (.ref p) q2
    | false =>
      obtain ⟨F3, s3, w3, r3⟩ := w2.freeze (G' := gd G2 p) gp2 (fun b o e => by
        unfold gd at e
        by_cases hb : b = p
        · rw [if_pos hb] at e; cases e
        · rw [if_neg hb] at e; exact ⟨hb, e⟩)
      exact k2 _ _ F3 _ H s3 w3 r3 q2
where
  compL_at {g : DG} {tt : DT} {te : DE} {S : Gp → Prop} {p : Addr} {δ : Sl} {l acc : List D} {G : Gp} {Q : List D → Gp → Prop} (h : compL g tt te S p δ l acc G Q) : G p = some (.lst acc) := by
    cases l with
    | nil => exact h.2.1
    | cons x r => exact h.2.1
end
end DL

/-! Rules over trees: methods of lists; enumerate, zip. -/
namespace DL
open PySem PySem.Spec PyProof.Rows L2

/-! ### methods of lists -/
def dMeL (r : D → List D → Gp → DK → Prop) (to : DE) (t : DA) : DE := fun δ G Q => to δ G fun x G1 => (rlOf x G1).isSome = true ∧ t δ G1 fun xs G2 => r x xs G2 Q
def MeD (K : PySem.W.Frag) (F₀ : Hp) (r' : D → List D → Gp → DK → Prop) (r : V → List V → Hp → VK → Prop) : Prop := ∀ F G H x v xs vs Q' Q, Same F₀ F → Wd K F G H → Rp K F x v → Rps K F xs vs → r' x xs G Q' → Ko K F Q' Q → r v vs H Q
section
variable {K : PySem.W.Frag} {X : Cx} {F F₀ : Hp} {G : Gp} {H : Hp} {r' : D → List D → Gp → DK → Prop} {r : V → List V → Hp → VK → Prop} {to : DE} {t : DA} {o e : Expr} {es : List Expr} {name : Str} {id : String} {apos cpos : Pos}
theorem tyV_list {d : D} {v : V} (w : Wd K F G H) (rp : Rp K F d v) (h : (rlOf d G).isSome = true) : tyV K "list" v H := by
  obtain ⟨xs, e⟩ := Option.isSome_iff_exists.mp h
  obtain ⟨a, vs, rfl, s, _⟩ := rlOf_ok w rp e
  exact .inl ⟨rfl, vs, s⟩
theorem de_meL (slot : Slot "list" name id) (hty : typeOf (.builtin id) = pure (.type "method_descriptor")) (hm : MtR X id r) (md : MeD X.K F₀ r' r) (ho : PE X o (Le X.K F₀ to)) (ha : PA X (e :: es) (La X.K F₀ t))
    (hbase : attributeBase o name X.env (eval o X.env) = eval o X.env := by rfl)
    (hfew : ((backTo cpos (starEach (e :: es) X.env)).all (fun x => !x.1) && (backToKw cpos (keywordEach [] X.env)).all (fun x => x.1.isSome)
      && decide ((e :: es).length + ([] : List Keyword).length + (if ([] : List Keyword).isEmpty then 0 else 1) < 30)) = true := by rfl)
    (hline : (apos.endLine == cpos.line) = true := by rfl) (hs : starEach (e :: es) X.env = (false, eval e X.env) :: starEach es X.env := by rfl) (hplain : (backTo cpos (starEach es X.env)).any (·.1) = false := by rfl) :
    PE X (.Call (.Attribute o name apos) (e :: es) [] cpos) (Le X.K F₀ (dMeL r' to t)) := pe_imp (pe_bm PySem.F.plainAttrs_list slot hty hm ho ha hbase hfew hline hs hplain) fun σ H Q ⟨δ, F, G, Q', s, en, w, q, k⟩ => by
  refine ⟨δ, F, G, _, s, en, w, q, fun x v F1 G1 H1 s1 w1 r1 q1 => ⟨tyV_list w1 r1 q1.1, ?_⟩⟩
  refine ⟨δ, F1, G1, _, s.trans s1, en.mono s1, w1, q1.2, fun xs vs F2 G2 H2 s2 w2 r2 q2 => ?_⟩
  exact md F2 G2 H2 x v xs vs Q' Q ((s.trans s1).trans s2) w2 (r1.mono s2) r2 q2 (k.mono (s1.trans s2))
theorem de_meL0 (slot : Slot "list" name id) (hty : typeOf (.builtin id) = pure (.type "method_descriptor")) (hm : MtR X id r) (md : MeD X.K F₀ r' r) (ho : PE X o (Le X.K F₀ to))
    (hbase : attributeBase o name X.env (eval o X.env) = eval o X.env := by rfl) (hline : (apos.endLine == cpos.line) = true := by rfl) :
    PE X (.Call (.Attribute o name apos) [] [] cpos) (Le X.K F₀ (dMeL r' to aNil)) := pe_imp (pe_bm0 PySem.F.plainAttrs_list slot hty hm ho hbase hline) fun σ H Q ⟨δ, F, G, Q', s, en, w, q, k⟩ => by
  refine ⟨δ, F, G, _, s, en, w, q, fun x v F1 G1 H1 s1 w1 r1 q1 => ⟨tyV_list w1 r1 q1.1, ?_⟩⟩
  exact md F1 G1 H1 x v [] [] Q' Q (s.trans s1) w1 r1 .nil q1.2 (k.mono s1)
/-- a list at an address that may change -/
def atL (x : D) (G : Gp) (f : Addr → List D → Prop) : Prop := match x with
  | .ref a => match G a with
    | some (.lst xs) => f a xs
    | _ => False
  | _ => False
theorem atL_ok {x : D} {v : V} {f : Addr → List D → Prop} (w : Wd K F G H) (r : Rp K F x v) (h : atL x G f) : ∃ a xs vs, v = .ref a ∧ F a = none ∧ H a = some (.lst vs) ∧ Rps K F xs vs ∧ G a = some (.lst xs) ∧ f a xs := by
  cases x with
  | ref a =>
    cases r
    have h' : (match G a with | some (.lst xs) => f a xs | _ => False) := h
    split at h'
    · rename_i xs e
      obtain ⟨f1, vs, hv, rv⟩ := w.lst e
      exact ⟨a, xs, vs, rfl, f1, hv, rv, e, h'⟩
    · exact h'.elim
  | _ => exact (show False from h).elim
def dAppend : D → List D → Gp → DK → Prop := fun x ys G Q => match ys with
  | [y] => atL x G fun a xs => xs.length < sizeLine ∧ Q .non (gu G a (.lst (xs ++ [y])))
  | _ => False
theorem md_append : MeD K F₀ dAppend rAppend := by
  intro F G H x v xs vs Q' Q s w r rs q k
  unfold dAppend at q
  split at q
  · rename_i y
    obtain ⟨u, rfl, ru⟩ := rps1 rs
    obtain ⟨a, xs, us, rfl, f1, hv, rv, _, h1, q⟩ := atL_ok w r q
    exact ⟨a, us, u, rfl, rfl, hv, by rw [← rv.length]; exact h1, k _ _ F _ _ (Same.refl F) (w.put (g := .lst (xs ++ [y])) f1 ⟨_, upd_same, rv.append (.one ru)⟩) .non q⟩
  · exact q.elim
theorem dropLast_rps {ds : List D} {vs : List V} (r : Rps K F ds vs) : Rps K F ds.dropLast vs.dropLast := by
  rw [List.dropLast_eq_take, List.dropLast_eq_take, r.length]
  exact r.take _
def dPop : D → List D → Gp → DK → Prop := fun x ys G Q => match ys with
  | [] => atL x G fun a xs => match xs[xs.length - 1]? with
    | some y => Q y (gu G a (.lst xs.dropLast))
    | none => False
  | _ => False
theorem md_pop : MeD K F₀ dPop rPop := by
  intro F G H x v xs vs Q' Q s w r rs q k
  unfold dPop at q
  split at q
  · cases rs
    obtain ⟨a, xs, us, rfl, f1, hv, rv, _, q⟩ := atL_ok w r q
    split at q
    · rename_i y e
      obtain ⟨z, hz, rz⟩ := rv.get e
      rw [rv.length] at hz
      exact ⟨a, us, z, rfl, rfl, hv, hz, k _ _ F _ _ (Same.refl F) (w.put (g := .lst xs.dropLast) f1 ⟨_, upd_same, dropLast_rps rv⟩) rz q⟩
    · exact q.elim
  · exact q.elim
theorem erase_rps : ∀ {ds : List D} {vs : List V} (i : Nat), Rps K F ds vs → Rps K F (ds.eraseIdx i) (vs.eraseIdx i)
  | [], _, _, r => by cases r; exact .nil
  | _ :: _, _, 0, r => by cases r with | cons a b => exact b
  | _ :: _, _, i + 1, r => by cases r with | cons a b => exact .cons a (erase_rps i b)
/-- xs.pop(i), i from the front -/
def dPopAt : D → List D → Gp → DK → Prop := fun x ys G Q => match ys with
  | [.int i] => atL x G fun a xs => 0 ≤ i ∧ i < 2 ^ 63 ∧ match xs[i.toNat]? with
    | some y => Q y (gu G a (.lst (xs.eraseIdx i.toNat)))
    | none => False
  | _ => False
theorem md_popAt : MeD K F₀ dPopAt rPopAt := by
  intro F G H x v xs vs Q' Q s w r rs q k
  unfold dPopAt at q
  split at q
  · rename_i i
    obtain ⟨u, rfl, ru⟩ := rps1 rs
    cases ru
    obtain ⟨a, xs, us, rfl, f1, hv, rv, _, h0, h1, q⟩ := atL_ok w r q
    split at q
    · rename_i y e
      obtain ⟨z, hz, rz⟩ := rv.get e
      have hlt := (List.getElem?_eq_some_iff.mp hz).1
      refine ⟨a, us, i, i.toNat, z, rfl, rfl, hv, by omega, h1, PySem.StrLaws.seqIndex_nonneg h0 (by omega), hz, k _ _ F _ _ (Same.refl F) (w.put (g := .lst (xs.eraseIdx i.toNat)) f1 ⟨_, upd_same, erase_rps _ rv⟩) rz q⟩
    · exact q.elim
  · exact q.elim
/-- xs.extend(ys), ys another list -/
def dExtend : D → List D → Gp → DK → Prop := fun x ys G Q => match ys with
  | [y] => match lstOf y G with
    | some zs => atL x G fun a xs => xs.length + zs.length ≤ sizeLine ∧ Q .non (gu G a (.lst (xs ++ zs)))
    | none => False
  | _ => False
theorem md_extend : MeD K F₀ dExtend rExtend := by
  intro F G H x v xs vs Q' Q s w r rs q k
  unfold dExtend at q
  split at q
  · obtain ⟨u, rfl, ru⟩ := rps1 rs
    split at q
    · rename_i zs e
      obtain ⟨b, ws, rfl, hb, rw'⟩ := lstOf_ok w ru e
      obtain ⟨a, xs, us, rfl, f1, hv, rv, _, h1, q⟩ := atL_ok w r q
      exact ⟨a, b, us, ws, rfl, rfl, hv, hb, by rw [← rv.length, ← rw'.length]; exact h1, k _ _ F _ _ (Same.refl F) (w.put (g := .lst (xs ++ zs)) f1 ⟨_, upd_same, rv.append rw'⟩) .non q⟩
    · exact q.elim
  · exact q.elim
end

/-! ### enumerate, zip -/
def prsD : List D → List D → List D
  | x :: xs, y :: ys => .tup [x, y] :: prsD xs ys
  | _, _ => []
theorem prsD_length : ∀ xs ys : List D, (prsD xs ys).length = min xs.length ys.length
  | [], _ => by simp [prsD]
  | _ :: _, [] => by simp [prsD]
  | _ :: xs, _ :: ys => by
    show (prsD xs ys).length + 1 = _
    rw [prsD_length xs ys, List.length_cons, List.length_cons]
    omega
theorem prsD_get : ∀ {xs ys : List D} {i : Nat} {d : D}, (prsD xs ys)[i]? = some d → ∃ x y, xs[i]? = some x ∧ ys[i]? = some y ∧ d = .tup [x, y]
  | [], _, _, _, h => by simp [prsD] at h
  | _ :: _, [], _, _, h => by simp [prsD] at h
  | x :: xs, y :: ys, 0, _, h => by
    simp [prsD] at h
    exact ⟨x, y, rfl, rfl, h.symm⟩
  | x :: xs, y :: ys, i + 1, _, h => by
    obtain ⟨a, b, h1, h2, h3⟩ := prsD_get (xs := xs) (ys := ys) (i := i) (by simpa [prsD] using h)
    exact ⟨a, b, by simpa using h1, by simpa using h2, h3⟩
def numsD (n : Nat) : List D := (List.range n).map fun i => D.int (i : Nat)
theorem walk_zipT {K : PySem.W.Frag} {a b : Addr} {xs ys : List V} {n : Nat} (hn : n = min xs.length ys.length) : Walk (RZ.ItzT K a b) n (fun H => SqT K H a xs ∧ SqT K H b ys) (YPair (fun i => xs[i]?) (fun i => ys[i]?)) := by
  subst hn
  refine ⟨fun i _ hi q => ?_, fun _ q => ⟨xs, ys, q.1, q.2, by omega⟩, fun i H v H' _ q y => ?_⟩
  · have h1 : i < xs.length := by omega
    have h2 : i < ys.length := by omega
    exact ⟨xs, ys, xs[i], ys[i], q.1, q.2, by simp [h1], by simp [h2]⟩
  · obtain ⟨T, x, z, h1, h2, h3, h4, h5⟩ := y
    exact ⟨T, x, z, h1, h2, h3, h4 xs q.1, h5 ys q.2⟩
section
variable {K : PySem.W.Frag} {X : Cx} {F F₀ : Hp} {G : Gp} {H : Hp} {tg e e2 : Expr} {t : DA} {p pos tpos : Pos} {elts : List Expr} {kk : Nat}
/-- a list of trees that will not change, read -/
def frzL : D → Option (List D)
  | .lst xs => some xs
  | .scr xs => some xs
  | _ => none
theorem frzL_ok {d : D} {v : V} {xs : List D} (r : Rp K F d v) (h : frzL d = some xs) : ∃ a vs, v = .ref a ∧ SqL K F a vs ∧ Rps K F xs vs := by
  cases d with
  | scr ys =>
    cases (show some ys = some xs from h)
    cases r with
    | scr a b => exact ⟨_, _, rfl, a, b⟩
  | lst ys =>
    cases (show some ys = some xs from h)
    cases r with
    | lst a b => exact ⟨_, _, rfl, .of a, b⟩
  | _ => cases h
theorem pair_ok {F1 : Hp} {G1 : Gp} {H1 H' : Hp} {T : Addr} {x y : D} {v u : V} (w : Wd K F1 G1 H1) (hT : H1 T = none) (e : H' = upd H1 T (.tup [v, u])) (rx : Rp K F1 x v) (ry : Rp K F1 y u) : ∃ F2, Same F1 F2 ∧ Wd K F2 G1 H' ∧ Rp K F2 (.tup [x, y]) (.ref T) := by
  subst e
  have hf := w.ffree hT
  exact ⟨_, same_upd hf, w.newF hT _, .tup (.inl (.inl upd_same)) (.cons (rx.mono (same_upd hf)) (.cons (ry.mono (same_upd hf)) .nil))⟩
theorem dit_enum {d : D} {v : V} {xs : List D} (w : Wd K F G H) (r : Rp K F d v) (h : rlOf d G = some xs) : ∃ a us, v = .ref a ∧ SqL K H a us ∧ DIt K F (Stays d G) (prsD (numsD xs.length) xs) (Ite K a) := by
  have len : (prsD (numsD xs.length) xs).length = xs.length := by
    rw [prsD_length]
    unfold numsD
    rw [List.length_map, List.length_range, Nat.min_self]
  have num : ∀ {i : Nat} {x : D}, (numsD xs.length)[i]? = some x → x = .int (i : Nat) := fun {i x} e => by
    unfold numsD at e
    rw [List.getElem?_map] at e
    cases q : (List.range xs.length)[i]? with
    | none => rw [q] at e; cases e
    | some j =>
      rw [q] at e
      cases e
      rw [List.getElem?_eq_some_iff] at q
      obtain ⟨h1, h2⟩ := q
      rw [List.getElem_range] at h2
      rw [h2]
  cases d with
  | ref b =>
    cases r
    have h' : (match G b with | some (.lst xs) => some xs | _ => none) = some xs := h
    split at h'
    · rename_i ys e
      cases h'
      obtain ⟨_, us, hu, ru⟩ := w.lst e
      refine ⟨b, us, rfl, .of hu, fun H => ∃ vs, H b = some (.lst vs) ∧ vs.length = xs.length, fun i H v H' => ∃ T x vs, v = .ref T ∧ H T = none ∧ H' = upd H T (.tup [.int (i : Nat), x]) ∧ H b = some (.lst vs) ∧ vs[i]? = some x, ⟨fun i H hi q => ?_, fun H q => ?_, fun i H x H' hi q y => ?_⟩, fun F1 G1 H s w st => ?_, fun i d F1 G1 H x H' s w st e2 y => ?_⟩
      · obtain ⟨vs, hv, hl⟩ := q
        exact ⟨vs, vs[i]'(by omega), .of hv, by simp⟩
      · obtain ⟨vs, hv, hl⟩ := q
        exact ⟨vs, .of hv, by omega⟩
      · obtain ⟨vs, hv, hl⟩ := q
        obtain ⟨T, z, h1, h2, h3, h4⟩ := y
        exact ⟨T, z, vs, h1, h2, h3, hv, h4 vs (.of hv)⟩
      · have st' : G1 b = G b := st
        rw [e] at st'
        obtain ⟨_, vs, hv, rv⟩ := w.lst st'
        exact ⟨vs, hv, rv.length.symm⟩
      · have st' : G1 b = G b := st
        rw [e] at st'
        obtain ⟨_, vs, hv, rv⟩ := w.lst st'
        obtain ⟨T, z, ws, rfl, hT, hH, hw, hx⟩ := y
        rw [hv] at hw
        cases hw
        obtain ⟨d1, d2, q1, q2, rfl⟩ := prsD_get e2
        obtain ⟨z', hz, rz⟩ := rv.get q2
        rw [hx] at hz
        cases hz
        have e1 := num q1
        subst e1
        exact pair_ok w hT hH (.int _) rz
    · cases h'
  | scr ys =>
    obtain ⟨a, vs, rfl, sq, rs⟩ := frzL_ok r (show frzL (.scr ys) = some xs from h)
    refine ⟨a, vs, rfl, sqL_mono w.fz sq, _, _, by rw [len, rs.length]; exact walk_enum (K := K) (a := a) (xs := vs), fun F1 G H s w st => sqL_mono (s.trans w.fz) sq, fun i d F1 G H x H' s w st e y => ?_⟩
    obtain ⟨T, z, u, rfl, hT, hH, hz, hu⟩ := y
    cases hz
    obtain ⟨d1, d2, q1, q2, rfl⟩ := prsD_get e
    obtain ⟨z', hz, rz⟩ := rs.get q2
    have hu : vs[i]? = some u := hu
    rw [hu] at hz
    cases hz
    have e1 := num q1
    subst e1
    exact pair_ok w hT hH (.int _) (rz.mono s)
  | lst ys =>
    obtain ⟨a, vs, rfl, sq, rs⟩ := frzL_ok r (show frzL (.lst ys) = some xs from h)
    refine ⟨a, vs, rfl, sqL_mono w.fz sq, _, _, by rw [len, rs.length]; exact walk_enum (K := K) (a := a) (xs := vs), fun F1 G H s w st => sqL_mono (s.trans w.fz) sq, fun i d F1 G H x H' s w st e y => ?_⟩
    obtain ⟨T, z, u, rfl, hT, hH, hz, hu⟩ := y
    cases hz
    obtain ⟨d1, d2, q1, q2, rfl⟩ := prsD_get e
    obtain ⟨z', hz, rz⟩ := rs.get q2
    have hu : vs[i]? = some u := hu
    rw [hu] at hz
    cases hz
    have e1 := num q1
    subst e1
    exact pair_ok w hT hH (.int _) (rz.mono s)
  | _ => cases h
def dEnum (t : DA) : DI := fun δ G Q => t δ G fun xs G1 => match xs with
  | [x] => match rlOf x G1 with
    | some ys => Q (prsD (numsD ys.length) ys) (Stays x G1) G1
    | none => False
  | _ => False
theorem di_enum (hg : Gl X "enumerate") (hm : X.mg "enumerate" = none) (ha : PA X [e] (La X.K F₀ t)) (hs : starEach [e] X.env = [(false, eval e X.env)] := by rfl) :
    PI X (.Tuple elts kk tpos) (.Call (.Name "enumerate" p) [e] [] pos) (Li X.K F₀ (dEnum t)) := pi_imp (pi_enum hg hm ha hs) fun σ H R ⟨δ, F, G, Q', s, en, w, q, k⟩ => by
  refine ⟨δ, F, G, _, s, en, w, q, fun xs vs F1 G1 H1 s1 w1 r1 q1 => ?_⟩
  split at q1
  · obtain ⟨v, rfl, r⟩ := rps1 r1
    split at q1
    · rename_i ys e
      obtain ⟨a, us, rfl, hs, it⟩ := dit_enum w1 r e
      exact ⟨a, us, rfl, hs, k _ _ _ F1 G1 H1 s1 w1 it q1⟩
    · exact q1.elim
  · exact q1.elim
/-- zip of two tuples, or of two lists that stand still -/
def dZip (t : DA) : DI := fun δ G Q => t δ G fun xs G1 => match xs with
  | [.tup xs, .tup ys] => Q (prsD xs ys) Sure G1
  | [x, y] => match frzL x, frzL y with
    | some xs, some ys => Q (prsD xs ys) Sure G1
    | _, _ => False
  | _ => False
theorem di_zip (hg : Gl X "zip") (hm : X.mg "zip" = none) (ha : PA X [e, e2] (La X.K F₀ t)) (hs : starEach [e, e2] X.env = (false, eval e X.env) :: starEach [e2] X.env := by rfl) (hpl : (backTo pos (starEach [e2] X.env)).any (·.1) = false := by rfl) :
    PI X (.Tuple elts kk tpos) (.Call (.Name "zip" p) [e, e2] [] pos) (Li X.K F₀ (dZip t)) := pi_imp (RZ.pi_zipA hg hm ha hs hpl) fun σ H R ⟨δ, F, G, Q', s, en, w, q, k⟩ => by
  refine ⟨δ, F, G, _, s, en, w, q, fun zs vs F1 G1 H1 s1 w1 r1 q1 => ?_⟩
  split at q1
  · rename_i xs ys
    obtain ⟨v, u, rfl, ra, rb⟩ := rps2 r1
    cases ra with
    | tup sa qa =>
      cases rb with
      | tup sb qb =>
        rename_i a va b vb
        refine ⟨a, b, va, vb, rfl, .inr ⟨sqT_mono w1.fz sa, sqT_mono w1.fz sb, k _ _ _ F1 G1 H1 s1 w1 ⟨_, _, walk_zipT (K := X.K) (a := a) (b := b) (xs := va) (ys := vb) (by rw [prsD_length, qa.length, qb.length]), fun F2 G2 H2 s2 w2 _ => ⟨sqT_mono (s2.trans w2.fz) sa, sqT_mono (s2.trans w2.fz) sb⟩, fun i d F2 G2 H2 x H' s2 w2 st e y => ?_⟩ q1⟩⟩
        obtain ⟨T, z, u, rfl, hT, hH, hz, hu⟩ := y
        obtain ⟨d1, d2, q1, q2, rfl⟩ := prsD_get e
        obtain ⟨z1, e1, rz⟩ := qa.get q1
        obtain ⟨z2, e2, ru⟩ := qb.get q2
        have hz : va[i]? = some z := hz
        have hu : vb[i]? = some u := hu
        rw [hz] at e1
        rw [hu] at e2
        cases e1; cases e2
        exact pair_ok w2 hT hH (rz.mono s2) (ru.mono s2)
  · obtain ⟨v, u, rfl, ra, rb⟩ := rps2 r1
    split at q1
    · rename_i xs ys ex ey
      obtain ⟨a, va, rfl, sa, qa⟩ := frzL_ok ra ex
      obtain ⟨b, vb, rfl, sb, qb⟩ := frzL_ok rb ey
      refine ⟨a, b, va, vb, rfl, .inl ⟨sqL_mono w1.fz sa, sqL_mono w1.fz sb, k _ _ _ F1 G1 H1 s1 w1 ⟨_, _, walk_zip (K := X.K) (a := a) (b := b) (xs := va) (ys := vb) (by rw [prsD_length, qa.length, qb.length]), fun F2 G2 H2 s2 w2 _ => ⟨sqL_mono (s2.trans w2.fz) sa, sqL_mono (s2.trans w2.fz) sb⟩, fun i d F2 G2 H2 x H' s2 w2 st e y => ?_⟩ q1⟩⟩
      obtain ⟨T, z, u, rfl, hT, hH, hz, hu⟩ := y
      obtain ⟨d1, d2, q1, q2, rfl⟩ := prsD_get e
      obtain ⟨z1, e1, rz⟩ := qa.get q1
      obtain ⟨z2, e2, ru⟩ := qb.get q2
      have hz : va[i]? = some z := hz
      have hu : vb[i]? = some u := hu
      rw [hz] at e1
      rw [hu] at e2
      cases e1; cases e2
      exact pair_ok w2 hT hH (rz.mono s2) (ru.mono s2)
    · exact q1.elim
  · exact q1.elim
end
end DL

/-! The law's own end; showing data (repr). -/
namespace DL
open PySem PySem.Spec PyProof.Rows L2

/-! ### the end -/
section
variable {P : Program} {w : World} {K : PySem.W.Frag} {mg mb : Str → Option Value} {CX : CXT} {k : Nat} {fa a : Addr} {fd : FuncData} {x : Str} {sp : Sp} {s1 : Shared} {vs : List Value} {ns : List Int} {H : Hp}
/-- what is wanted of the law's call -/
abbrev Won (s1 : Shared) : Result → Shared → Prop := fun r s' => r = .ok (.ret (.bool true)) ∧ OldK s1.heap s'.heap ∧ s'.os = s1.os ∧ AllBare s'.gens
/-- from an abstract heap in which the script alone stands -/
theorem law_from (KX : K.In s1.heap) (hns : s1.heap.Ns mainGlobals mg) (hb : s1.heap.Ns builtinsNs mb) (hbb : ∀ x : Str, x ≠ "__name__" → mb x = bootBuiltins x) (hlim : s1.heap.NoLimit) (hg : s1.gens = #[])
    (ha : s1.heap.get? a = some { cls := .type "list", data := .seq vs.toArray }) (hr : Room k callerA)
    (F : ∀ base : Heap, K.In base → base.Ns mainGlobals mg → FnG P w K mg base CX k fa fd [x] sp) (hbind : ∀ (s : Shared) (u : Value), BindsTo s fd ⟨[u], []⟩ [(x, u)])
    (hO : Only H) (hsp : sp [.ref a] H (fun v _ => v = .bl true) fun _ _ _ => False) (hCX : ∀ e s', CX [] H s1 (fun _ _ _ => False) e s' → False)
    (hok : HOk P w H s1.heap) (hA : ∀ b u, H b = some u → b = a) (hK : ∀ u, H a = some u → K.lookup a = none) : codeAny (model P w) callerA (.call (.ref fa) ⟨[.ref a], []⟩) (Won s1) s1 := by
  have still : ∀ {b : Addr} {o : Obj} {es : Array DictEntry} {ep : Nat}, s1.heap.get? b = some o → o.data = .dict es ep → H b = none := fun {b o es ep} e d => by
    cases q : H b with
    | none => rfl
    | some u =>
      have := hA b u q
      subst this
      rw [ha] at e
      cases e
      exact nomatch d
  have ns' : ∀ {b : Addr} {m : Str → Option Value}, s1.heap.Ns b m → (hidT s1.heap H).Ns b m := fun {b m} ⟨o, es, ep, e, d, r⟩ => ⟨o, es, ep, hidT_get e (still e d), d, r⟩
  have kin : K.In (hidT s1.heap H) := fun b o e => hidT_get (KX b o e) (by
    cases q : H b with
    | none => rfl
    | some u =>
      have := hA b u q
      subst this
      rw [hK u q] at e
      cases e)
  obtain ⟨mc, l1, l2⟩ := hlim
  have M : Mod K mg (hidT s1.heap H) := ⟨kin, ns' hns, ⟨mb, ns' hb, hbb⟩, ⟨mc, ns' l1, l2⟩⟩
  have E : Env0 P w K mg (hidT s1.heap H) callerA [] s1 H := ⟨rfl, M, fun b o e => of_hidT e, Nat.le_of_eq (hidT_size _ _), trivial, fun b hb => (nomatch hb), hok, .of_eq hg⟩
  refine codeAny_mono ((F _ kin (ns' hns)).go callerA [] s1 H ⟨[.ref a], []⟩ [.ref a] [.ref a] _ _ hr rfl E (hbind s1 (.ref a)) (.cons rfl .nil) hsp) fun r s' h => ?_
  match r, h with
  | .error e, h => exact (hCX e s' h).elim
  | .ok .next, h => exact h.elim
  | .ok .brk, h => exact h.elim
  | .ok .cont, h => exact h.elim
  | .ok (.ret u), ⟨v, H', os, bare, un, hok', r', q⟩ =>
    have q' : v = .bl true := q
    subst q'
    have ru : u = Value.bool true := r'
    subst ru
    refine ⟨rfl, OldK.of_keep fun b o e => ?_, os, bare⟩
    cases q : H b with
    | none => exact un.keep b o e q (fun z => (nomatch z)) (fun z => (nomatch z))
    | some u =>
      rcases hO b with z | ⟨ob, xs, z⟩
      · rw [q] at z; cases z
      · obtain ⟨e1, _⟩ := hok b _ z
        obtain ⟨e2, _⟩ := hok' b _ (un.frzs b ob _ z)
        rw [e] at e1
        cases e1
        exact e2
theorem law_callG (KX : K.In s1.heap) (hns : s1.heap.Ns mainGlobals mg) (hb : s1.heap.Ns builtinsNs mb) (hbb : ∀ x : Str, x ≠ "__name__" → mb x = bootBuiltins x) (hlim : s1.heap.NoLimit) (hg : s1.gens = #[])
    (ha : s1.heap.get? a = some { cls := .type "list", data := .seq vs.toArray }) (hi : IntsAre vs ns) (hl : ns.length ≤ sizeLine) (hr : Room k callerA)
    (F : ∀ base : Heap, K.In base → base.Ns mainGlobals mg → FnG P w K mg base CX k fa fd [x] sp) (hbind : ∀ (s : Shared) (u : Value), BindsTo s fd ⟨[u], []⟩ [(x, u)])
    (hsp : ∀ H : Hp, Only H → SqL K H a (ns.map V.int) → sp [.ref a] H (fun v _ => v = .bl true) fun _ _ _ => False) (hCX : ∀ H e s', CX [] H s1 (fun _ _ _ => False) e s' → False) :
    codeAny (model P w) callerA (.call (.ref fa) ⟨[.ref a], []⟩) (Won s1) s1 := by
  have rv := vals_ints hi
  have hlen := hi.length
  cases e : K.lookup a with
  | some o =>
    have z := KX a o e
    rw [ha] at z
    cases z
    have hO : Only fun _ => none := fun _ => .inl rfl
    exact law_from KX hns hb hbb hlim hg ha hr F hbind hO (hsp _ hO (.inr ⟨_, vs.toArray, _, e, rfl, rfl, rfl, by rw [List.size_toArray, hlen]; exact hl, by simpa using rv⟩)) (hCX _) (fun _ _ z => nomatch z) (fun _ _ z => nomatch z) fun _ z => nomatch z
  | none =>
    let H0 : Hp := fun b => if b = a then some (.frz { cls := .type "list", data := .seq vs.toArray } (.lst (ns.map V.int))) else none
    have h1 : H0 a = some (.frz { cls := .type "list", data := .seq vs.toArray } (.lst (ns.map V.int))) := if_pos rfl
    have h2 : ∀ b, b ≠ a → H0 b = none := fun b hb => if_neg hb
    have hO : Only H0 := fun b => by
      by_cases hb : b = a
      · exact .inr ⟨_, _, by rw [hb]; exact h1⟩
      · exact .inl (h2 b hb)
    refine law_from (H := H0) KX hns hb hbb hlim hg ha hr F hbind hO (hsp _ hO (.inl (.inr ⟨_, h1⟩))) (hCX _) (fun b u z => ?_) (fun b u z => ?_) fun _ _ => e
    · by_cases hb : b = a
      · subst hb
        rw [h1] at z
        cases z
        exact ⟨ha, by rw [List.length_map]; exact hl, vs, _, rv, ha⟩
      · rw [h2 b hb] at z; cases z
    · by_cases hb : b = a
      · exact hb
      · rw [h2 b hb] at z; cases z
end
/-- the goal that k_head leaves, from the law's promise over trees -/
theorem walk_d {l : PySem.W.OpenLaw} {k : Nat} {q : Program} {loose : List Str} {XP : (Str → Option Value) → Heap → Prop} {YP : World → Heap → Prop} {d : DefRec} {K : Params → PySem.W.Frag} {sp : DSp} {x : Str}
    (hn : l.most = some 63) (hdf : d.params.defaults = []) (hr : Room k callerA) (hY : ∀ (w : World) (h : Heap), YP w h → (K w.params).In h)
    (F : ∀ (w : World) (mg : Str → Option Value) (fa : Addr) (h : Heap), (K w.params).In h → h.Ns mainGlobals mg → mg d.name = some (.ref fa) →
      ∃ fd : FuncData, (∀ (s : Shared) (u : Value), BindsTo s fd ⟨[u], []⟩ [(x, u)]) ∧
        ∀ base : Heap, (K w.params).In base → base.Ns mainGlobals mg → FnG l.prog w (K w.params) mg base CX0 k fa fd [x] (LSp (K w.params) sp))
    (hsp : ∀ (ns : List Int) (G : Gp) (Q : DK), ns.length ≤ 63 → (∀ G', Q (.bl true) G') → sp [.scr (ns.map D.int)] G Q X0) :
    PySem.W.WalkO q loose XP YP l.row.toRowW d [] (fun f vs => PySem.call f vs) := by
  refine Att.attach_call hn hdf fun w s₀ s₁ mg mb fa o pm cd doc a vs ns G Y ho hd hcd hmg hobj hints hlen hg => ?_
  have KX := hY w _ Y
  obtain ⟨fd, hb, hF⟩ := F w mg fa _ KX G.T.g hmg
  refine law_callG KX G.T.g G.T.b G.T.builtins G.T.nolimit hg hobj hints (Nat.le_trans hlen (by decide)) hr hF hb (fun H hO hS => ?_) fun _ _ _ z => z.elim
  exact ⟨H, fun _ => none, [.scr (ns.map D.int)], fun d _ => d = .bl true, X0, .cons (.scr hS (Rps.ofInts ns)) .nil, ⟨Same.refl H, fun _ _ e => nomatch e⟩, hsp ns _ _ hlen fun _ => rfl, fun d v F' G' H' s w r q => by
    subst q
    cases r
    rfl, koe0⟩

/-! ### repr -/
def rRepr (K : PySem.W.Frag) : List V → Hp → VK → Prop := fun vs H Q => ∃ v p, vs = [v] ∧ Dp K H v p ∧ p.showable = true ∧ p.shown.length ≤ sizeLine ∧ p.depth ≤ 100 ∧ Q (.str p.shown) H
theorem dp_nodict {K : PySem.W.Frag} {H : Hp} : ∀ (p : PyData) (v : V), Dp K H v p → p.hasDict = false := by
  have both : (∀ (p : PyData) (v : V), Dp K H v p → p.hasDict = false) ∧ (∀ (ps : List PyData) (vs : List V), DpAll K H vs ps → PyData.hasDictAll ps = false) := by
    refine ⟨fun p v h => ?_, fun ps vs h => ?_⟩
    · exact Dp.rec (motive_1 := fun v p _ => p.hasDict = false) (motive_2 := fun vs ps _ => PyData.hasDictAll ps = false)
        (by simp [PyData.hasDict]) (fun _ => by simp [PyData.hasDict]) (fun _ => by simp [PyData.hasDict]) (fun _ => by simp [PyData.hasDict])
        (fun _ _ ih => by simpa [PyData.hasDict] using ih) (fun _ _ ih => by simpa [PyData.hasDict] using ih) (by simp [PyData.hasDictAll]) (fun _ _ i1 i2 => by simp [PyData.hasDictAll, i1, i2]) h
    · exact DpAll.rec (motive_1 := fun v p _ => p.hasDict = false) (motive_2 := fun vs ps _ => PyData.hasDictAll ps = false)
        (by simp [PyData.hasDict]) (fun _ => by simp [PyData.hasDict]) (fun _ => by simp [PyData.hasDict]) (fun _ => by simp [PyData.hasDict])
        (fun _ _ ih => by simpa [PyData.hasDict] using ih) (fun _ _ ih => by simpa [PyData.hasDict] using ih) (by simp [PyData.hasDictAll]) (fun _ _ i1 i2 => by simp [PyData.hasDictAll, i1, i2]) h
  exact both.1
theorem cr_repr {X : Cx} (hm : Mute X.A) (hu : X.A.units + 120 < cLine) : CallR X (.builtin "repr") (rRepr X.K) := by
  intro pins s σ H vs us Q I r h
  obtain ⟨v, p, rfl, hp, hs, hz, hd, q⟩ := h
  obtain ⟨u, rfl, ru⟩ := vals1 r
  obtain ⟨as, rd⟩ := Dp.reads I p v u hp ru
  have hnd := dp_nodict p v hp
  cases hp with
  | non => cases ru; exact PySem.P.repr_of_none ⟨.str _, H, I.tok _, ⟨_, rfl⟩, q⟩
  | bl b => cases ru; exact PySem.P.repr_of_bool ⟨.str _, H, I.tok _, ⟨_, rfl⟩, q⟩
  | int i =>
    obtain ⟨t, rfl⟩ := ru
    exact PySem.P.repr_of_int (by simpa [PyData.showable] using hs) ⟨.str _, H, I.tok _, ⟨_, rfl⟩, q⟩
  | str x =>
    obtain ⟨t, rfl⟩ := ru
    exact PySem.P.repr_of_str ⟨.str _, H, I.tok _, ⟨_, rfl⟩, q⟩ hz
  | lst a b =>
    cases ru
    exact repr_of_reads' rd hs (by rw [hnd]; intro z; cases z) hm (by omega) (fun _ _ e => e) (fun h' u tk hk => ⟨.str _, H, I.kept hk, ⟨_, rfl⟩, q⟩) hz
  | tup a b =>
    cases ru
    exact repr_of_reads' rd hs (by rw [hnd]; intro z; cases z) hm (by omega) (fun _ _ e => e) (fun h' u tk hk => ⟨.str _, H, I.kept hk, ⟨_, rfl⟩, q⟩) hz
def dRepr : List D → Gp → DK → Prop := fun xs G Q => match xs with
  | [x] => match pyOf x G with
    | some p => p.showable = true ∧ p.shown.length ≤ sizeLine ∧ p.depth ≤ 100 ∧ Q (.str p.shown) G
    | none => False
  | _ => False
theorem cd_repr {K : PySem.W.Frag} {F₀ : Hp} : CallD K F₀ dRepr (rRepr K) := by
  intro F G H xs vs Q' Q s w rx q k
  unfold dRepr at q
  split at q
  · obtain ⟨v, rfl, r⟩ := rps1 rx
    split at q
    · rename_i p e
      exact ⟨v, p, rfl, pyOf_dp w r e, q.1, q.2.1, q.2.2.1, k _ _ F G H (Same.refl F) w (.str _) q.2.2.2⟩
    · exact q.elim
  · exact q.elim
end DL

/-! Rules over trees: {}, comprehensions said at once, op=, t[::-1]. -/
namespace DL
open PySem PySem.Spec PyProof.Rows L2

theorem hu120 {k : Nat} {A : Around} (hr : Room k A) : A.units + 120 < cLine := by
  have := hr.un
  omega
/-! ### t[::-1] of a tuple -/
theorem fm_map {α β : Type} {f : α → Option β} {g : α → β} : ∀ {l : List α}, (∀ m ∈ l, f m = some (g m)) → l.filterMap f = l.map g
  | [], _ => rfl
  | x :: r, h => by
    rw [List.filterMap_cons, h x List.mem_cons_self, List.map_cons, fm_map fun m hm => h m (List.mem_cons_of_mem _ hm)]
theorem revPick (items : Array Value) : ((List.range items.size).filterMap fun (m : Nat) => items[((items.size : Int) - 1 + (m : Int) * (-1)).toNat]?).toArray = items.toList.reverse.toArray := by
  congr 1
  apply List.ext_getElem?
  intro i
  have e : (List.range items.size).filterMap (fun (m : Nat) => items[((items.size : Int) - 1 + (m : Int) * (-1)).toNat]?) = (List.range items.size).map (fun m => items.toList.getD (items.size - 1 - m) .none) := by
    refine fm_map fun m hm => ?_
    have hlt := List.mem_range.mp hm
    have : ((items.size : Int) - 1 + (m : Int) * (-1)).toNat = items.size - 1 - m := by omega
    rw [this]
    have h2 : items.size - 1 - m < items.size := by omega
    simp [h2, List.getD]
  rw [e, List.getElem?_map]
  by_cases hi : i < items.size
  · rw [List.getElem?_range hi, List.getElem?_reverse (by simpa using hi)]
    have h2 : items.size - 1 - i < items.size := by omega
    simp [List.getD, h2]
  · rw [List.getElem?_eq_none (by simpa using hi), List.getElem?_eq_none (by simpa using hi)]
    rfl
section
variable {prog : Program} {w : World} {A : Around} {E : Value → Shared → Prop} {s : Shared}
theorem applied_rev {sl : Addr} {vl vu vs : Value} {n : Nat} {Q : Int × Int × Nat → Shared → Prop} (hs : s.heap.IsSliceOf sl vl vu vs) (pl : IsPart vl none) (pu : IsPart vu none) (ps : IsPart vs (some (-1)))
    (h : Q ((n : Int) - 1, -1, n) s) : wpAny (model prog w) A (Builtin.Slice.sliceApplied (.ref sl) (pure (n : Int))) Q E s := by
  obtain ⟨os, hos, hcs, hds⟩ := id hs
  unfold Builtin.Slice.sliceApplied Builtin.Slice.sliceFields
  refine wpAny_bind (wpAny_bind (wpAny_field hos hds (x := vl) rfl (wpAny_bind (wpAny_field hos hds (x := vu) rfl (wpAny_bind (wpAny_field hos hds (x := vs) rfl (wpAny_pure ?_)))))))
  refine wpAny_bind (HT.slicePart_ ps ?_)
  show wpAny _ _ (if ((-1 : Int) == 0) = true then _ else _) _ _ s
  rw [if_neg (by decide)]
  refine wpAny_bind (HT.slicePart_ pl (wpAny_bind (HT.slicePart_ pu (wpAny_bind (wpAny_pure ?_)))))
  have e : Builtin.Slice.slicePlaces ((n : Int) - 1) (-1) (-1) = n := by
    unfold Builtin.Slice.slicePlaces
    rw [if_neg (by decide)]
    split
    · rw [show -(-1 : Int) = 1 from rfl, Int.ediv_one]
      omega
    · omega
  show wpAny _ _ (pure ((n : Int) - 1, (-1 : Int), Builtin.Slice.slicePlaces ((n : Int) - 1) (-1) (-1))) _ _ s
  rw [e]
  exact wpAny_pure h
theorem getItem_tuple_rev {t sl : Addr} {items : Array Value} {vl vu vs : Value} {Q : Value → Shared → Prop} (ht : IsTup s.heap t items) (hs : s.heap.IsSliceOf sl vl vu vs) (pl : IsPart vl none) (pu : IsPart vu none) (ps : IsPart vs (some (-1)))
    (h : Q (.ref s.heap.objs.size) { s with heap := s.heap.push { cls := .type "tuple", data := .seq items.toList.reverse.toArray } }) (hsz : items.size ≤ sizeLine) : wpAny (model prog w) A (getItem (.ref t) (.ref sl)) Q E s := by
  have hok : sizeOk (.seq items.toList.reverse.toArray) := by
    show items.toList.reverse.toArray.size ≤ sizeLine
    rw [List.size_toArray, List.length_reverse, Array.length_toList]
    exact hsz
  obtain ⟨os, hos, hcs, hds⟩ := id hs
  have hTs : s.TypeIs (.ref sl) "slice" := ⟨os, hos, hcs⟩
  unfold getItem
  refine wpAny_holding ?_
  refine wpAny_bind (wpAny_sequenceKey ht.typeIs (by decide) ?_)
  refine wpAny_bind (wpAny_callSpecial?_slot (name := Str.ofString "__getitem__") ht.typeIs PyProof.Rows.slot_tuple_getitem (wpAny_call_entry PyProof.Rows.slot_tuple_getitem ht.typeIs entry_tuple_getitem ?_ (args_tuple_getitem _ _)))
  show wpAny _ _ (Builtin.Tuple.tupleItemsOf (.ref t) >>= _) _ _ s
  refine wpAny_bind (tupleItemsOf_ ht (wpAny_bind (wpAny_typeOf hTs ?_)))
  rw [if_pos (by decide)]
  refine wpAny_bind (applied_rev hs pl pu ps ?_)
  have hno : ¬ ((((items.size : Int) - 1) == 0 && (-1 : Int) == 1 && items.size == items.size) = true) := by
    intro q
    rw [Bool.and_eq_true, Bool.and_eq_true] at q
    exact absurd q.1.2 (by decide)
  show wpAny _ _ (if (((items.size : Int) - 1) == 0 && (-1 : Int) == 1 && items.size == items.size) = true then _ else _) _ _ s
  rw [if_neg hno, revPick]
  first
    | exact wpAny_bind (m := Builtin.Tuple.tupleExact _) (wpAny_newObj_type (wpAny_pure ⟨_, rfl, wpAny_pure h⟩) hok)
    | exact wpAny_bind (m := Builtin.Tuple.tupleExact _) (wpAny_newObj_type (wpAny_bind (wpAny_pure (wpAny_pure ⟨_, rfl, wpAny_pure h⟩))) hok)
    | exact wpAny_bind (wpAny_bind (m := Builtin.Tuple.tupleExact _) (wpAny_newObj_type (wpAny_pure (wpAny_pure ⟨_, rfl, wpAny_pure h⟩)) hok))
    | exact wpAny_bind (wpAny_bind (m := Builtin.Tuple.tupleExact _) (wpAny_newObj_type (wpAny_pure ⟨_, rfl, wpAny_pure h⟩) hok))
end
/-- t[::-1] -/
def dRevT (t : DE) : DE := fun δ G Q => t δ G fun x G1 => match x with
  | .tup xs => Q (.tup xs.reverse) G1
  | _ => False
section
variable {X : Cx} {F₀ : Hp} {e : Expr} {t : DE} {k : Nat} {p1 p2 p3 pos : Pos}
theorem de_rev (he : PE X e (Le X.K F₀ t)) : PE X (.Subscript e (.Slice none none (some (.UnaryOp .USub (.Constant (.int 1) k p1) p2)) p3) pos) (Le X.K F₀ (dRevT t)) := by
  refine ⟨fun pins s σ H Q I h => ?_⟩
  obtain ⟨δ, F, G, Q', s0, en, w, q, ko⟩ := h
  refine Subscript_ (thn (he.run pins s σ H (fun v H1 => ∃ xs F1 G1, v = v ∧ Same F F1 ∧ Wd X.K F1 G1 H1 ∧ Rp X.K F1 (.tup xs) v ∧ Q' (.tup xs.reverse) G1) I ⟨δ, F, G, _, s0, en, w, q, fun d v F1 G1 H1 s1 w1 r1 q1 => ?_⟩) fun v s1 ⟨x, H1, I1, r1, xs, F1, G1, _, sf, w1, rp, q1⟩ => ?_)
  · cases d with
    | tup xs => exact ⟨xs, F1, G1, rfl, s1, w1, r1, q1⟩
    | _ => exact (show False from q1).elim
  · cases rp with
    | @tup a _ vs0 sq rs =>
      cases r1
      have hst : PO X (some (.UnaryOp .USub (.Constant (.int 1) k p1) p2)) (tPart (tUn (rU fun i => .int (-i)) (tC (.int 1)))) := po_some (pe_un un_neg pe_int)
      refine wpAny_Slice (thn (po_none.run pins s1 σ H1 (fun o H2 => o = none ∧ H2 = H1) I1 ⟨rfl, rfl⟩) fun vl s2 ⟨l, H2, I2, pl, el, e2⟩ => ?_)
      subst el e2
      refine thn (po_none.run pins s2 σ H2 (fun o H3 => o = none ∧ H3 = H2) I2 ⟨rfl, rfl⟩) fun vu s3 ⟨u, H3, I3, pu, eu, e3⟩ => ?_
      subst eu e3
      refine thn (hst.run pins s3 σ H3 (fun o H4 => o = some (-1) ∧ H4 = H3) I3 ⟨1, rfl, -1, rfl, rfl, rfl⟩) fun vs s4 ⟨o, H4, I4, ps, eo, e4⟩ => ?_
      subst eo e4
      have I5 : Inv X pins σ H4 { s4 with heap := s4.heap.push { cls := .type "slice", data := .fields #[vl, vu, vs] } } := I4.kept (t' := s4.toks) fun b ob q => Heap.get?_push_of_some _ q
      obtain ⟨its, r, ht, hz⟩ := I5.tuple (sqT_mono w1.fz sq)
      have hlen := r.length
      refine tail_any (ops := [.ref a, .ref s4.heap.objs.size]) ht.typeIs (PyProof.Rows.slot_tuple_getitem.lookup) ?_ (by with_unfolding_all rfl)
      refine getItem_tuple_rev ht (Heap.IsSliceOf.new _ vl vu vs) pl pu ps ?_ (by rw [List.size_toArray]; omega)
      have hn := I5.hok.fresh (Nat.le_refl _)
      refine ⟨.ref _, _, I5.laid (t' := s4.toks) (o := .tup vs0.reverse) (fun b ob q => Heap.get?_push_of_some _ q) (Nat.le_refl _) ?_, rfl, nT_ok w1 hn rs.reverse q1 (ko.mono sf)⟩
      exact ⟨by rw [List.length_reverse]; exact hz, _, r.reverse, ⟨_, Heap.get?_push_size _ rfl, rfl, 0, rfl⟩⟩
end

/-! ### {} -/
/-- an empty dict that nobody will change, or one that may -/
def dDict0 (m : Bool) : DE := fun _ G Q => match m with
  | false => Q (.dct []) G
  | true => ∀ a, G a = none → Q (.ref a) (gu G a (.dct []))
section
variable {X : Cx} {F₀ : Hp} {pos : Pos}
theorem de_dict0 (m : Bool) : PE X (.Dict [] [] pos) (Le X.K F₀ (dDict0 m)) := pe_imp pe_dnewK fun σ H Q ⟨δ, F, G, Q', s, en, w, q, k⟩ => fun p hp => by
  have hf := w.ffree hp
  cases m with
  | false => exact k _ _ _ _ _ (same_upd hf) (w.newF hp (.dK [])) (.dct upd_same .nil) q
  | true => exact k _ _ F _ _ (Same.refl F) (w.put (g := .dct []) hf ⟨[], upd_same, .nil⟩) (.ref p) (q p (w.gfree hp))
end

/-! ### comprehensions -/
section
variable {X : Cx} {F₀ : Hp} {elt tg iter : Expr} {ifs : List Expr} {scope : Scope} {own : List (Str × Nat)} {pos : Pos} {ti : DI} {g : DG} {tt : DT} {te : DE}
theorem de_lc (m : Bool) (hc : X.calm = true) (hN : X.N.Nodup) (hi : PI X tg iter (Li X.K F₀ ti)) (ok : BlkOk X.N X.env.scope scope own)
    (hg : ∀ (s : Shared) (H : Hp) (C : Addr) (cl : List (Str × Addr)) (fp : List Addr), PG (X.blk s H scope (compEnvC scope cl C X.env) fp) tg (Lg X.K F₀ (own.map (·.2)) g))
    (ht : ∀ (s : Shared) (H : Hp) (C : Addr) (cl : List (Str × Addr)) (fp : List Addr), PTs (X.blk s H scope (compEnvC scope cl C X.env) fp) ifs (Lt X.K F₀ tt))
    (he : ∀ (s : Shared) (H : Hp) (C : Addr) (cl : List (Str × Addr)) (fp : List Addr), PE (X.blk s H scope (compEnvC scope cl C X.env) fp) elt (Le X.K F₀ te)) (hs : ∀ x, foldedSetIterable iter X.env x = pure x := by intro _; rfl) :
    PE X (.ListComp elt [⟨tg, iter, ifs, 0⟩] scope pos) (Le X.K F₀ (dLc m ti g tt te (own.map (·.2)))) := pe_imp (pe_lc hc hN hi ok hg ht he hs) fun _ _ _ => lc_le m
theorem ds_setLc {i : Nat} {y : Str} {py spos : Pos} (hsw : swapsWith (.ListComp elt [⟨tg, iter, ifs, 0⟩] scope pos) (some (.Name y py)) spos.line X.env = pure true) (hy : X.N[i]? = some y) (hyl : X.env.scope.names.lookup y = some .local)
    (m : Bool) (hc : X.calm = true) (hN : X.N.Nodup) (hi : PI X tg iter (Li X.K F₀ ti)) (ok : BlkOk X.N X.env.scope scope own)
    (hg : ∀ (s : Shared) (H : Hp) (C : Addr) (cl : List (Str × Addr)) (fp : List Addr), PG (X.blk s H scope (compEnvC scope cl C X.env) fp) tg (Lg X.K F₀ (own.map (·.2)) g))
    (ht : ∀ (s : Shared) (H : Hp) (C : Addr) (cl : List (Str × Addr)) (fp : List Addr), PTs (X.blk s H scope (compEnvC scope cl C X.env) fp) ifs (Lt X.K F₀ tt))
    (he : ∀ (s : Shared) (H : Hp) (C : Addr) (cl : List (Str × Addr)) (fp : List Addr), PE (X.blk s H scope (compEnvC scope cl C X.env) fp) elt (Le X.K F₀ te)) (hs : ∀ x, foldedSetIterable iter X.env x = pure x := by intro _; rfl) :
    PS X (.Assign [.Name y py] (.ListComp elt [⟨tg, iter, ifs, 0⟩] scope pos) spos) (Ls X.K F₀ (dAsg i (dLc m ti g tt te (own.map (·.2))))) := ps_imp (ps_setLc hc hN hy hyl hsw hi ok hg ht he hs) fun D σ H ⟨δ, F, G, D', s, en, w, q, k⟩ =>
  lc_le m (Q := fun x H1 => gName i x σ H1 D.nx) ⟨δ, F, G, _, s, en, w, q, fun x v F1 G1 H1 s1 w1 r1 q1 => k.nx _ _ F1 G1 H1 s1 ((en.mono s1).set r1 i) w1 q1⟩
end

/-! ### op= -/
def dAugA (i : Nat) (t : DE) : DS := fun D δ G => match δ[i]? with
  | some (some (.int a)) => t δ G fun x G1 => match x with
    | .int b => D.nx (δ.set i (some (.int (a + b)))) G1
    | _ => False
  | _ => False
def dAugIx (to ti t : DE) : DS := fun D δ G => to δ G fun o G1 => ti δ G1 fun i G2 => match o, i with
  | .ref a, .int k => match G2 a with
    | some (.lst xs) => 0 ≤ k ∧ match atI xs k with
      | some (.int n) => t δ G2 fun y G3 => match y with
        | .int b => dSetL o i (.int (n + b)) G3 fun G4 => D.nx δ G4
        | _ => False
      | _ => False
    | _ => False
  | _, _ => False
/-- xs[i], by values -/
def rGetL (K : PySem.W.Frag) : V → V → Hp → VK → Prop := fun x y H Q => ∃ p xs i v, x = .ref p ∧ y = .int i ∧ SqL K H p xs ∧ 0 ≤ i ∧ atI xs i = some v ∧ Q v H
section
variable {X : Cx} {F₀ : Hp} {e o i : Expr} {te to ti : DE} {pos tpos : Pos}
theorem ds_aug {i : Nat} {x : Str} {pos' : Pos} (hN : X.N.Nodup) (hi : X.N[i]? = some x) (hx : Loc X.env.scope x) (he : PE X e (Le X.K F₀ te)) (hf : X.fn x = true ∨ X.env.scope.names.lookup x = some .local := by first | exact .inl rfl | exact .inr rfl | assumption) :
    PS X (.AugAssign (.Name x pos') .Add e pos) (Ls X.K F₀ (dAugA i te)) := ps_imp (ps_aug hN hi hx he ip_add hf) fun D σ H ⟨δ, F, G, D', s, en, w, q, k⟩ => by
  unfold dAugA at q
  split at q
  · rename_i a ea
    obtain ⟨v, ev, rv⟩ := en.2 i _ ea
    cases rv
    refine ⟨_, ev, δ, F, G, _, s, en, w, q, fun y u F1 G1 H1 s1 w1 r1 q1 => ?_⟩
    split at q1
    · cases r1
      exact ⟨_, _, rfl, rfl, k.nx _ _ F1 G1 H1 s1 ((en.mono s1).set (.int _) i) w1 q1⟩
    · exact q1.elim
  · exact q.elim
theorem get_listG : PGet X (rGetL X.K) := by
  intro pins s σ H o i ov iv Q I ro ri h
  obtain ⟨p, xs, j, z, rfl, rfl, hq, h0, he, q⟩ := h
  cases ro
  obtain ⟨t, rfl⟩ := ri
  obtain ⟨its, r, pl, hz⟩ := I.list hq
  obtain ⟨n, h1, h2, h3, h4, h5⟩ := atI_get he
  obtain ⟨u, eu, ru⟩ := r.get h2
  have hl := r.length
  have e1 : j.toNat = n := by
    rw [seqIndex_of h0 h5] at h1
    exact Option.some.inj h1
  have hfit := line63
  exact wpAny_getItem_list pl.isList h0 (by omega) (by rw [e1]; simpa using eu) ⟨z, H, I, ru, q⟩
theorem ds_augix (ho : PE X o (Le X.K F₀ to)) (hi : PE X i (Le X.K F₀ ti)) (he : PE X e (Le X.K F₀ te))
    (ha : ∀ ov iv new, augStore i ov iv new = (do holding [new, ov, iv] (setItem ov iv new); release [new, ov, iv] []; pure .next) := by intros; rfl) : PS X (.AugAssign (.Subscript o i tpos) .Add e pos) (Ls X.K F₀ (dAugIx to ti te)) :=
  ps_imp (ps_augS ho hi get_listG he ip_add set_list ha) fun D σ H ⟨δ, F, G, D', s, en, w, q, k⟩ => by
    refine ⟨δ, F, G, _, s, en, w, q, fun o u F1 G1 H1 s1 w1 r1 q1 => ?_⟩
    refine ⟨δ, F1, G1, _, s.trans s1, en.mono s1, w1, q1, fun i v F2 G2 H2 s2 w2 r2 q2 => ?_⟩
    have r1' := r1.mono s2
    cases o with
    | ref a =>
      cases i with
      | int j =>
        cases r1'
        cases r2
        have q2' : (match G2 a with | some (.lst xs) => 0 ≤ j ∧ (match atI xs j with | some (.int n) => te δ G2 (fun y G3 => match y with | .int b => dSetL (.ref a) (.int j) (.int (n + b)) G3 (fun G4 => D'.nx δ G4) | _ => False) | _ => False) | _ => False) := q2
        split at q2'
        · rename_i xs e
          obtain ⟨h0, q2'⟩ := q2'
          split at q2'
          · rename_i n en2
            obtain ⟨_, us, hu, ru⟩ := w2.lst e
            obtain ⟨z, hz, rz⟩ := ru.at en2
            cases rz
            refine ⟨a, us, j, _, rfl, rfl, .of hu, h0, hz, δ, F2, G2, _, (s.trans s1).trans s2, (en.mono s1).mono s2, w2, q2', fun y t F3 G3 H3 s3 w3 r3 q3 => ?_⟩
            split at q3
            · cases r3
              refine ⟨_, _, rfl, rfl, ?_⟩
              have q4 : (match G3 a with | some (.lst xs) => (match ixN xs.length j with | some jj => D'.nx δ (gu G3 a (.lst (xs.set jj _))) | none => False) | _ => False) := q3
              split at q4
              · rename_i ys e5
                split at q4
                · rename_i jj ej
                  obtain ⟨hF, ws, hw, rw2⟩ := w3.lst e5
                  refine ⟨a, ws, j, jj, rfl, rfl, hw, by rw [← rw2.length]; exact ej, ?_⟩
                  exact k.nx δ σ F3 _ _ ((s1.trans s2).trans s3) (((en.mono s1).mono s2).mono s3) (w3.put (g := .lst (ys.set jj (.int _))) hF ⟨_, upd_same, rw2.set (.int _) jj⟩) q4
                · exact q4.elim
              · exact q4.elim
            · exact q3.elim
          · exact q2'.elim
        · exact q2'.elim
      | _ => exact (show False from q2).elim
    | _ => exact (show False from q2).elim
end
end DL

/-! Words for readings: one line of unfolding, comprehensions, loops, hands. -/
namespace DL
open PySem PySem.Spec PyProof.Rows L2

theorem gd_gu {G : Gp} {p : Addr} {o : GO} (h : G p = none) : gd (gu G p o) p = G := by
  funext b
  unfold gd gu
  by_cases hb : b = p
  · rw [if_pos hb, hb, h]
  · rw [if_neg hb, if_neg hb]
theorem gu_other {G : Gp} {a p : Addr} {o u : GO} (h : G a = some o) (n : G p = none) : gu G p u a = some o := by
  rw [gu_ne (fun z => by rw [z, n] at h; cases h)]
  exact h
theorem ne_free {G : Gp} {a p : Addr} {o : GO} (h : G a = some o) (n : G p = none) : a ≠ p := fun z => by
  rw [z, n] at h; cases h
/-- two lists, item by item -/
inductive Fa2 {α β : Type} (R : α → β → Prop) : List α → List β → Prop
  | nil : Fa2 R [] []
  | cons {a : α} {b : β} {l : List α} {m : List β} : R a b → Fa2 R l m → Fa2 R (a :: l) (b :: m)
theorem Fa2.fn {α β : Type} {R : α → β → Prop} {f : α → β} (h : ∀ a b, R a b → b = f a) : ∀ {l : List α} {m : List β}, Fa2 R l m → m = l.map f
  | _, _, .nil => rfl
  | _, _, .cons r t => by rw [h _ _ r, t.fn h]; rfl
theorem Fa2.length {α β : Type} {R : α → β → Prop} : ∀ {l : List α} {m : List β}, Fa2 R l m → l.length = m.length
  | _, _, .nil => rfl
  | _, _, .cons _ t => by rw [List.length_cons, List.length_cons, t.length]
theorem compL_rel {g : DG} {te : DE} {S : Gp → Prop} {p : Addr} {δ : Sl} {G : Gp} {Q : List D → Gp → Prop} (R : D → D → Prop) (hS : ∀ ys, S (gu G p (.lst ys))) : ∀ (its acc : List D),
    (∀ x ∈ its, ∀ ys (Q : DK), (∀ y, R x y → Q y (gu G p (.lst ys))) → g x δ (gu G p (.lst ys)) fun δ2 G2 => te δ2 G2 Q) → acc.length + its.length ≤ sizeLine →
    (∀ ys, Fa2 R its ys → Q (acc ++ ys) (gu G p (.lst (acc ++ ys)))) → compL g dYes te S p δ its acc (gu G p (.lst acc)) Q
  | [], acc, _, _, q => ⟨hS _, gu_same, by have := q [] .nil; rwa [List.append_nil] at this⟩
  | x :: r, acc, h, hl, q => by
    refine ⟨hS _, gu_same, ?_⟩
    rw [List.length_cons] at hl
    have key := h x List.mem_cons_self acc (fun y G4 => G4 p = some (.lst acc) ∧ acc.length < sizeLine ∧ compL g dYes te S p δ r (acc ++ [y]) (gu G4 p (.lst (acc ++ [y]))) Q) (fun y ry => ⟨gu_same, by omega, by
      rw [gu_gu]
      refine compL_rel R hS r (acc ++ [y]) (fun z hz => h z (List.mem_cons_of_mem _ hz)) (by rw [List.length_append, List.length_singleton]; omega) fun ys hys => ?_
      have := q (y :: ys) (.cons ry hys)
      rw [List.append_assoc]
      exact this⟩)
    exact key
/-- a comprehension whose turns leave all as it is, y of x being told by R -/
theorem lc_rel {g : DG} {te : DE} {S : Gp → Prop} {δ : Sl} {G : Gp} {Q : DK} {its : List D} (R : D → D → Prop) (hl : its.length ≤ sizeLine) (hS : ∀ p ys, G p = none → S (gu G p (.lst ys)))
    (h : ∀ x ∈ its, ∀ p ys (Q : DK), G p = none → (∀ y, R x y → Q y (gu G p (.lst ys))) → g x δ (gu G p (.lst ys)) fun δ2 G2 => te δ2 G2 Q)
    (q : ∀ ys, Fa2 R its ys → Q (.lst ys) G) : ∀ p, G p = none → compL g dYes te S p δ its [] (gu G p (.lst [])) (endLc false Q p) := fun p hp =>
  compL_rel R (fun ys => hS p ys hp) its [] (fun x hx ys Q' k => h x hx p ys Q' hp k) (by simpa using hl) fun ys hys => by
    show Q (.lst ([] ++ ys)) (gd (gu G p _) p)
    rw [gd_gu hp, List.nil_append]
    exact q ys hys
theorem lc_map {g : DG} {te : DE} {S : Gp → Prop} {δ : Sl} {G : Gp} {Q : DK} {its : List D} (f : D → D) (hl : its.length ≤ sizeLine) (hS : ∀ p ys, G p = none → S (gu G p (.lst ys)))
    (h : ∀ x ∈ its, ∀ p ys (Q : DK), G p = none → Q (f x) (gu G p (.lst ys)) → g x δ (gu G p (.lst ys)) fun δ2 G2 => te δ2 G2 Q)
    (q : Q (.lst (its.map f)) G) : ∀ p, G p = none → compL g dYes te S p δ its [] (gu G p (.lst [])) (endLc false Q p) :=
  lc_rel (fun x y => y = f x) hl hS (fun x hx p ys Q' hp k => h x hx p ys Q' hp (k _ rfl)) fun ys hys => by
    rw [Fa2.fn (fun a b e => e) hys]
    exact q
/-- a loop by an invariant over what is left, the turn shown for whatever follows -/
theorem forL_by {g : DG} {tb : DS} {S : Gp → Prop} {E : DEnds} (W : List D → Sl → Gp → Prop) (hS : ∀ l δ G, W l δ G → S G) (hs : ∀ x r δ G (N : Sl → Gp → Prop), W (x :: r) δ G → (∀ δ G, W r δ G → N δ G) → g x δ G fun δ1 G1 => tb { E with nx := N, ct := N, bk := E.nx } δ1 G1)
    (hd : ∀ δ G, W [] δ G → E.nx δ G) : ∀ (its : List D) δ G, W its δ G → forL g tb S its E δ G
  | [], δ, G, w => ⟨hS _ _ _ w, hd δ G w⟩
  | x :: r, δ, G, w => ⟨hS _ _ _ w, hs x r δ G _ w fun δ G w => forL_by W hS hs hd r δ G w⟩
/-! ### drawing -/
/-- a hand that draws: cells, place, digits, two numbers -/
def Hand (xs : List D) : Prop := ∃ (cs : List Int) (p q r t : Int), xs = [.lst (cs.map D.int), .int p, .int q, .int r, .int t] ∧ 0 ≤ p
def isHand (G : Gp) (h : Addr) : Prop := G h = some (.abl Hand)
theorem isHand.gu {G : Gp} {h p : Addr} {o : GO} (i : isHand G h) (n : p ≠ h) : isHand (gu G p o) h := by
  unfold isHand
  rw [gu_ne (Ne.symm n)]
  exact i
theorem isHand.new {G : Gp} {h p : Addr} {o : GO} (i : isHand G h) (n : G p = none) : isHand (DL.gu G p o) h := i.gu (Ne.symm (ne_free i n))
/-- the draw: a number below many, whichever -/
def sp_L_draw : DSp := fun ds G Q _ => match ds with
  | [.ref h, .int m] => isHand G h ∧ 0 < m ∧ m < 2 ^ 60 ∧ ∀ d : Int, 0 ≤ d → d < m → Q (.int d) G
  | _ => False
/-- the same with the hand open -/
def sp_L_draw_o : DSp := fun ds G Q _ => match ds with
  | [.ref h, .int m] => ∃ xs, Hand xs ∧ G h = some (.lst xs) ∧ 0 < m ∧ m < 2 ^ 60 ∧ ∀ (d : Int) ys, Hand ys → 0 ≤ d → d < m → Q (.int d) (gu G h (.lst ys))
  | _ => False
theorem hand_close {P : Program} {w : World} {K : PySem.W.Frag} {mg : Str → Option Value} {base : Heap} {CX : CXT} {k : Nat} {f : Addr} {fd : FuncData} {ps : List Str} (F : FnG P w K mg base CX k f fd ps (LSp K sp_L_draw_o)) : FnG P w K mg base CX k f fd ps (LSp K sp_L_draw) :=
  F.weak fun vs H Q E ⟨F, G, ds, Q', E', r, w, q, ko, ke⟩ => by
    unfold sp_L_draw at q
    split at q
    · rename_i h m
      obtain ⟨hh, m0, m1, q⟩ := q
      obtain ⟨f1, xs, us, hx, hv, rv⟩ := w.mu h _ hh
      have w2 : Wd K F (gu G h (.lst xs)) H := ⟨w.fz, fun a o e => by
        by_cases ha : a = h
        · subst ha; rw [gu_same] at e; cases e; exact ⟨f1, us, hv, rv⟩
        · rw [gu_ne ha] at e; exact w.mu a o e⟩
      refine ⟨F, gu G h (.lst xs), _, fun d G' => ∃ n ys, d = .int n ∧ Hand ys ∧ G' = gu G h (.lst ys) ∧ 0 ≤ n ∧ n < m, E', r, w2, ⟨xs, hx, gu_same, m0, m1, fun d ys hy d0 d1 => ⟨d, ys, rfl, hy, by rw [gu_gu], d0, d1⟩⟩, fun d v F' G' H' s' w' r' q' => ?_, ke⟩
      obtain ⟨n, ys, rfl, hy, rfl, n0, n1⟩ := q'
      obtain ⟨f2, us2, hv2, rv2⟩ := w'.lst (p := h) gu_same
      have w3 : Wd K F' G H' := ⟨w'.fz, fun a o e => by
        by_cases ha : a = h
        · subst ha
          have e2 : some (GO.abl Hand) = some o := hh.symm.trans e
          cases e2
          exact ⟨f2, ys, us2, hy, hv2, rv2⟩
        · exact w'.mu a o (by rw [gu_ne ha]; exact e)⟩
      exact ko _ v F' G H' s' w3 r' (q n n0 n1)
    · exact q.elim
/-- a list is shut: so much is known of it from now on -/
theorem Rt.abl {Q : DK} {a : Addr} {xs : List D} {G : Gp} {P : List D → Prop} (h : G a = some (.lst xs)) (p : P xs) (q : Q (.ref a) (gu G a (.abl P))) : Rt Q (.ref a) G := by
  refine ⟨.ref a, gu G a (.abl P), fun K F H v w r => ⟨F, Same.refl F, ⟨w.fz, fun b o e => ?_⟩, by cases r; exact .ref a⟩, q⟩
  by_cases hb : b = a
  · subst hb
    rw [gu_same] at e
    cases e
    obtain ⟨f1, us, hv, rv⟩ := w.lst h
    exact ⟨f1, xs, us, p, hv, rv⟩
  · rw [gu_ne hb] at e
    exact w.mu b o e

/-! ### one word of unfolding -/
end DL

/-! Plain data and what is asked of it. -/
namespace DL
open PySem PySem.Spec PyProof.Rows L2

mutual
/-- plain data: no list that may change, no class, no instance in it -/
def pd : D → Bool
  | .non | .bl _ | .int _ | .str _ => true
  | .tup xs => pds xs
  | .lst xs => pds xs
  | .dct kvs => pdk kvs
  | _ => false
def pds : List D → Bool
  | [] => true
  | x :: r => pd x && pds r
def pdk : List (Key × D) → Bool
  | [] => true
  | (_, x) :: r => pd x && pdk r
end
def kd : D → String
  | .non => "NoneType" | .bl _ => "bool" | .int _ => "int" | .str _ => "str" | .tup _ => "tuple" | .dct _ => "dict" | _ => "list"
theorem pds_iff : ∀ {xs : List D}, pds xs = true ↔ ∀ x ∈ xs, pd x = true
  | [] => by simp [pds]
  | x :: r => by
    unfold pds
    rw [Bool.and_eq_true, pds_iff]
    simp
theorem pd_tup {xs : List D} : pd (.tup xs) = true ↔ ∀ x ∈ xs, pd x = true := by rw [show pd (.tup xs) = pds xs by rw [pd]]; exact pds_iff
theorem pd_lst {xs : List D} : pd (.lst xs) = true ↔ ∀ x ∈ xs, pd x = true := by rw [show pd (.lst xs) = pds xs by rw [pd]]; exact pds_iff
theorem pd_tup2 {a b : D} : pd (.tup [a, b]) = true ↔ pd a = true ∧ pd b = true := by rw [pd_tup]; simp
@[simp] theorem pd_int {i : Int} : pd (.int i) = true := by unfold pd; rfl
@[simp] theorem pd_str {i : Str} : pd (.str i) = true := by unfold pd; rfl
@[simp] theorem pd_bl {i : Bool} : pd (.bl i) = true := by unfold pd; rfl
@[simp] theorem pd_non : pd .non = true := by unfold pd; rfl
@[simp] theorem pd_dct0 : pd (.dct []) = true := by unfold pd pdk; rfl
theorem ty_pd {x : D} {G : Gp} (h : pd x = true) : tyOf x G = some (kd x) := by
  cases x <;> first | rfl | (unfold pd at h; cases h)
def isI : D → Bool | .int _ => true | _ => false
def isB : D → Bool | .bl _ => true | _ => false
def isT : D → Bool | .tup _ => true | _ => false
def isS : D → Bool | .str _ => true | _ => false
def isL : D → Bool | .lst _ => true | _ => false
def isDc : D → Bool | .dct _ => true | _ => false
theorem kd_int (x : D) : subTy (kd x) "int" = (isI x || isB x) := by cases x <;> rfl
theorem kd_bool (x : D) : subTy (kd x) "bool" = isB x := by cases x <;> rfl
theorem kd_tuple (x : D) : subTy (kd x) "tuple" = isT x := by cases x <;> rfl
theorem kd_str (x : D) : subTy (kd x) "str" = isS x := by cases x <;> rfl
theorem kd_dict (x : D) : subTy (kd x) "dict" = isDc x := by cases x <;> rfl
theorem kd_list {x : D} (h : pd x = true) : subTy (kd x) "list" = isL x := by cases x <;> first | rfl | (unfold pd at h; cases h)
/-- the number told (0 where there is none) -/
def iv : D → Int | .int i => i | _ => 0
def isum (xs : List D) : Int := (xs.map iv).sum
/-- a whole number from lo to hi -/
def isW (x : D) (lo hi : Int) : Bool := match x with | .int i => decide (lo ≤ i) && decide (i ≤ hi) | _ => false
theorem isW_int {i lo hi : Int} : isW (.int i) lo hi = (decide (lo ≤ i) && decide (i ≤ hi)) := rfl
theorem isW_isI {x : D} {lo hi : Int} (h : isW x lo hi = true) : ∃ i, x = .int i ∧ lo ≤ i ∧ i ≤ hi := by
  cases x <;> first | cases h | (unfold isW at h; simp at h; exact ⟨_, rfl, h⟩)
theorem isI_iff {x : D} : isI x = true ↔ ∃ i, x = .int i := by cases x <;> simp [isI]
theorem isT_iff {x : D} : isT x = true ↔ ∃ i, x = .tup i := by cases x <;> simp [isT]
theorem intsOf_isI : ∀ {xs : List D}, (∀ x ∈ xs, isI x = true) → intsOf xs = some (xs.map iv)
  | [], _ => rfl
  | x :: r, h => by
    obtain ⟨i, rfl⟩ := isI_iff.mp (h x List.mem_cons_self)
    unfold intsOf
    rw [intsOf_isI fun y hy => h y (List.mem_cons_of_mem _ hy)]
    rfl
theorem ints_isI {xs : List D} (h : ∀ x ∈ xs, isI x = true) : xs = (xs.map iv).map D.int := by
  induction xs with
  | nil => rfl
  | cons x r ih =>
    obtain ⟨i, rfl⟩ := isI_iff.mp (h x List.mem_cons_self)
    rw [List.map_cons, List.map_cons, ← ih fun y hy => h y (List.mem_cons_of_mem _ hy)]
    rfl
@[simp] theorem at_0 {α : Type} (a : α) (l : List α) : atI (a :: l) 0 = some a := by
  unfold atI ixN
  simp only [List.length_cons]
  rw [if_pos (by omega), if_pos (by omega)]
  rfl
@[simp] theorem at_1 {α : Type} (a b : α) (l : List α) : atI (a :: b :: l) 1 = some b := by
  unfold atI ixN
  simp only [List.length_cons]
  rw [if_pos (by omega), if_pos (by omega)]
  rfl
@[simp] theorem at_2 {α : Type} (a b c : α) (l : List α) : atI (a :: b :: c :: l) 2 = some c := by
  unfold atI ixN
  simp only [List.length_cons]
  rw [if_pos (by omega), if_pos (by omega)]
  rfl
@[simp] theorem at_3 {α : Type} (a b c d : α) (l : List α) : atI (a :: b :: c :: d :: l) 3 = some d := by
  unfold atI ixN
  simp only [List.length_cons]
  rw [if_pos (by omega), if_pos (by omega)]
  rfl
@[simp] theorem at_4 {α : Type} (a b c d e : α) (l : List α) : atI (a :: b :: c :: d :: e :: l) 4 = some e := by
  unfold atI ixN
  simp only [List.length_cons]
  rw [if_pos (by omega), if_pos (by omega)]
  rfl
theorem at_nat {α : Type} {l : List α} {i : Int} (h : 0 ≤ i) : atI l i = l[i.toNat]? := by
  unfold atI ixN
  by_cases hi : i < l.length
  · rw [if_pos h, if_pos hi]
    rfl
  · rw [if_pos h, if_neg hi, List.getElem?_eq_none (by omega)]
    rfl
theorem at_mem {α : Type} {l : List α} {i : Int} (h : 0 ≤ i) (hi : i < l.length) : ∃ y ∈ l, atI l i = some y := by
  have e : l[i.toNat]? = some (l[i.toNat]'(by omega)) := List.getElem?_eq_getElem (by omega)
  exact ⟨_, List.getElem_mem (by omega), (at_nat h).trans e⟩
theorem ixN_lt {n : Nat} {i : Int} (h : 0 ≤ i) (hi : i < n) : ixN n i = some i.toNat := by
  unfold ixN
  rw [if_pos h, if_pos hi]
theorem rt_same {Q : DK} {d : D} {G : Gp} (q : Q d G) : Rt Q d G := Rt.same q
theorem seq_lst {xs : List D} {G : Gp} : seqOf (.lst xs) G = some xs := rfl
theorem seq_tup {xs : List D} {G : Gp} : seqOf (.tup xs) G = some xs := rfl
theorem seq_scr {xs : List D} {G : Gp} : seqOf (.scr xs) G = some xs := rfl
theorem rl_lst {xs : List D} {G : Gp} : rlOf (.lst xs) G = some xs := rfl
theorem rl_scr {xs : List D} {G : Gp} : rlOf (.scr xs) G = some xs := rfl
theorem seq_ref {a : Addr} {xs : List D} {G : Gp} (h : G a = some (.lst xs)) : seqOf (.ref a) G = some xs := by
  show (match G a with | some (.lst xs) => some xs | _ => none) = some xs
  rw [h]
theorem rl_ref {a : Addr} {xs : List D} {G : Gp} (h : G a = some (.lst xs)) : rlOf (.ref a) G = some xs := by
  show (match G a with | some (.lst xs) => some xs | _ => none) = some xs
  rw [h]
theorem lst_ref {a : Addr} {xs : List D} {G : Gp} (h : G a = some (.lst xs)) : lstOf (.ref a) G = some xs := by
  show (match G a with | some (.lst xs) => some xs | _ => none) = some xs
  rw [h]
theorem lst_lst {xs : List D} {G : Gp} : lstOf (.lst xs) G = some xs := rfl
theorem seq_gu {a : Addr} {xs : List D} {G : Gp} : seqOf (.ref a) (gu G a (.lst xs)) = some xs := seq_ref gu_same
theorem rl_gu {a : Addr} {xs : List D} {G : Gp} : rlOf (.ref a) (gu G a (.lst xs)) = some xs := rl_ref gu_same
theorem lst_gu {a : Addr} {xs : List D} {G : Gp} : lstOf (.ref a) (gu G a (.lst xs)) = some xs := lst_ref gu_same
theorem len12 {n : Nat} {k : Int} (h : (n : Int) = k) (h2 : k ≤ 1000) : n ≤ sizeLine := Nat.le_trans (by omega : n ≤ 1000) (by decide)
theorem all_map_id {α : Type} {f : α → Bool} {l : List α} : (l.map f).all id = l.all f := by rw [List.all_map]; rfl
theorem any_map_id {α : Type} {f : α → Bool} {l : List α} : (l.map f).any id = l.any f := by rw [List.any_map]; rfl
theorem tup_of_pd2 {xs : List D} (h : ((xs.length : Int) = 2)) : ∃ a b, xs = [a, b] := by
  match xs with
  | [a, b] => exact ⟨a, b, rfl⟩
  | [] => simp at h
  | [_] => simp at h
  | _ :: _ :: _ :: _ => simp only [List.length_cons] at h; omega
end DL

/-! What the operations do, constructor by constructor (words for the simplifier). -/
namespace DL
open PySem PySem.Spec PyProof.Rows L2
section
variable {G : Gp} {Q : DK} {m : Bool} {i j : Int} {s t : Str} {a b : Bool} {xs ys : List D} {p : Addr} {x y : D}
theorem w_len_str : dLen [.str s] G Q = (s.length ≤ sizeLine ∧ Q (.int s.length) G) := rfl
theorem w_len_tup : dLen [.tup xs] G Q = Q (.int xs.length) G := rfl
theorem w_len_lst : dLen [.lst xs] G Q = Q (.int xs.length) G := rfl
theorem w_len_scr : dLen [.scr xs] G Q = Q (.int xs.length) G := rfl
theorem w_len_ref (h : G p = some (.lst xs)) : dLen [.ref p] G Q = Q (.int xs.length) G := by
  show (match seqOf (.ref p) G with | some ys => Q (.int ys.length) G | none => False) = _
  rw [seq_ref h]
theorem w_len_gu : dLen [.ref p] (gu G p (.lst xs)) Q = Q (.int xs.length) (gu G p (.lst xs)) := w_len_ref gu_same
/-- the item at i -/
def gotI (xs : List D) (i : Int) (G : Gp) (Q : DK) : Prop := match atI xs i with | some d => Q d G | none => False
theorem w_ix_tup : dIx (.tup xs) (.int i) G Q = gotI xs i G Q := rfl
theorem w_ix_lst : dIx (.lst xs) (.int i) G Q = gotI xs i G Q := rfl
theorem w_ix_scr : dIx (.scr xs) (.int i) G Q = gotI xs i G Q := rfl
theorem w_ix_ref (h : G p = some (.lst xs)) : dIx (.ref p) (.int i) G Q = gotI xs i G Q := by
  show (match seqOf (.ref p) G with | some xs => (match atI xs i with | some d => Q d G | none => False) | none => False) = _
  rw [seq_ref h]
  rfl
theorem w_ix_gu : dIx (.ref p) (.int i) (gu G p (.lst xs)) Q = gotI xs i (gu G p (.lst xs)) Q := w_ix_ref gu_same
theorem got_eq {d : D} (h : atI xs i = some d) : gotI xs i G Q = Q d G := by unfold gotI; rw [h]
theorem w_got_0 : gotI (x :: xs) 0 G Q = Q x G := got_eq (at_0 _ _)
theorem w_got_1 {x1 : D} : gotI (x :: x1 :: xs) 1 G Q = Q x1 G := got_eq (at_1 _ _ _)
theorem w_got_2 {x1 x2 : D} : gotI (x :: x1 :: x2 :: xs) 2 G Q = Q x2 G := got_eq (at_2 _ _ _ _)
theorem w_got_3 {x1 x2 x3 : D} : gotI (x :: x1 :: x2 :: x3 :: xs) 3 G Q = Q x3 G := got_eq (at_3 _ _ _ _ _)
theorem w_got_4 {x1 x2 x3 x4 : D} : gotI (x :: x1 :: x2 :: x3 :: x4 :: xs) 4 G Q = Q x4 G := got_eq (at_4 _ _ _ _ _ _)
theorem got_in (h0 : 0 ≤ i) (h1 : i < xs.length) (q : ∀ y ∈ xs, Q y G) : gotI xs i G Q := by
  obtain ⟨y, hy, e⟩ := at_mem (l := xs) h0 h1
  unfold gotI
  rw [e]
  exact q y hy
theorem w_add_int : dAdd m (.int i) (.int j) G Q = Q (.int (i + j)) G := rfl
theorem w_add_str : dAdd m (.str s) (.str t) G Q = (s.length + t.length ≤ sizeLine ∧ Q (.str (s ++ t)) G) := rfl
theorem w_add_tup : dAdd m (.tup xs) (.tup ys) G Q = (xs.length + ys.length ≤ sizeLine ∧ Q (.tup (xs ++ ys)) G) := rfl
theorem w_add_lst : dAdd m (.lst xs) (.lst ys) G Q = (xs.length + ys.length ≤ sizeLine ∧ nL m (xs ++ ys) G Q) := rfl
theorem w_mul_int : dMul m (.int i) (.int j) G Q = (MulOk i j ∧ Q (.int (i * j)) G) := rfl
theorem w_mul_tup : dMul m (.tup xs) (.int j) G Q = (-(2 ^ 63) ≤ j ∧ j ≤ 1000 ∧ xs.length ≤ 1000 ∧ Q (.tup (rep j xs)) G) := rfl
theorem w_mul_lst : dMul m (.lst xs) (.int j) G Q = (-(2 ^ 63) ≤ j ∧ j < 2 ^ 63 ∧ xs.length * j.toNat ≤ sizeLine ∧ nL m (rep j xs) G Q) := rfl
theorem w_eq_int : dEq (.int i) (.int j) G Q = Q (.bl (decide (i = j))) G := rfl
theorem w_eq_str : dEq (.str s) (.str t) G Q = Q (.bl (decide (s = t))) G := rfl
theorem w_eq_bl : dEq (.bl a) (.bl b) G Q = Q (.bl (decide (a = b))) G := rfl
theorem w_ne_int : dNe (.int i) (.int j) G Q = Q (.bl (!decide (i = j))) G := rfl
theorem w_ne_str : dNe (.str s) (.str t) G Q = Q (.bl (!decide (s = t))) G := rfl
theorem w_ne_bl : dNe (.bl a) (.bl b) G Q = Q (.bl (!decide (a = b))) G := rfl
/-- the sum, where all are whole -/
def sumI (xs : List D) (G : Gp) (Q : DK) : Prop := match intsOf xs with | some bs => Q (.int bs.sum) G | none => False
theorem w_sum_tup : dSum [.tup xs] G Q = sumI xs G Q := rfl
theorem w_sum_lst : dSum [.lst xs] G Q = sumI xs G Q := rfl
theorem w_sum_ref (h : G p = some (.lst xs)) : dSum [.ref p] G Q = sumI xs G Q := by
  show (match seqOf (.ref p) G with | some ys => (match intsOf ys with | some bs => Q (.int bs.sum) G | none => False) | none => False) = _
  rw [seq_ref h]
  rfl
theorem w_sum_map {α : Type} {f : α → Int} {l : List α} : sumI (l.map fun x => .int (f x)) G Q = Q (.int (l.map f).sum) G := by unfold sumI; rw [intsOf_map]
theorem w_sum_ints {l : List Int} : sumI (l.map D.int) G Q = Q (.int l.sum) G := by unfold sumI; rw [intsOf_ints]
theorem w_sum_isI (h : ∀ x ∈ xs, isI x = true) : sumI xs G Q = Q (.int (isum xs)) G := by unfold sumI; rw [intsOf_isI h]; rfl
def blsI (f : List Bool → Bool) (xs : List D) (G : Gp) (Q : DK) : Prop := match blsOf xs with | some bs => Q (.bl (f bs)) G | none => False
theorem w_bls_lst {f : List Bool → Bool} : dBls f [.lst xs] G Q = blsI f xs G Q := rfl
theorem w_bls_map {f : List Bool → Bool} {α : Type} {g : α → Bool} {l : List α} : blsI f (l.map fun x => .bl (g x)) G Q = Q (.bl (f (l.map g))) G := by unfold blsI; rw [blsOf_map]
theorem w_all_lst : dAll [.lst xs] G Q = blsI (fun bs => bs.all id) xs G Q := rfl
theorem w_any_lst : dAny [.lst xs] G Q = blsI (fun bs => bs.any id) xs G Q := rfl
theorem w_tupOf_tup : dTupleOf [.tup xs] G Q = Q (.tup xs) G := rfl
theorem w_tupOf_lst : dTupleOf [.lst xs] G Q = Q (.tup xs) G := rfl
theorem w_tupOf_scr : dTupleOf [.scr xs] G Q = Q (.tup xs) G := rfl
theorem w_tupOf_ref (h : G p = some (.lst xs)) : dTupleOf [.ref p] G Q = Q (.tup xs) G := by
  show (match seqOf (.ref p) G with | some ys => Q (.tup ys) G | none => False) = _
  rw [seq_ref h]
theorem w_tupOf_gu : dTupleOf [.ref p] (gu G p (.lst xs)) Q = Q (.tup xs) (gu G p (.lst xs)) := w_tupOf_ref gu_same
theorem w_lstOf_tup : dListOf m [.tup xs] G Q = nL m xs G Q := rfl
theorem w_lstOf_lst : dListOf m [.lst xs] G Q = nL m xs G Q := rfl
theorem w_lstOf_scr : dListOf m [.scr xs] G Q = nL m xs G Q := rfl
theorem w_lstOf_ref (h : G p = some (.lst xs)) : dListOf m [.ref p] G Q = nL m xs G Q := by
  show (match seqOf (.ref p) G with | some ys => nL m ys G Q | none => False) = _
  rw [seq_ref h]
theorem w_nL_f : nL false xs G Q = Q (.lst xs) G := rfl
theorem w_nL_t : nL true xs G Q = ∀ a, G a = none → Q (.ref a) (gu G a (.lst xs)) := rfl
/-- xs[k] = v -/
def setI (xs : List D) (k : Int) (v : D) (Q : List D → Prop) : Prop := match ixN xs.length k with | some j => Q (xs.set j v) | none => False
theorem w_set_ref {N : Gp → Prop} {v : D} (h : G p = some (.lst xs)) : dSetL (.ref p) (.int i) v G N = setI xs i v fun ys => N (gu G p (.lst ys)) := by
  show (match G p with | some (.lst xs) => (match ixN xs.length i with | some j => N (gu G p (.lst (xs.set j v))) | none => False) | _ => False) = _
  rw [h]
  rfl
theorem w_set_gu {N : Gp → Prop} {v : D} : dSetL (.ref p) (.int i) v (gu G p (.lst xs)) N = setI xs i v fun ys => N (gu G p (.lst ys)) := by
  rw [w_set_ref gu_same]
  simp only [gu_gu]
theorem setI_lt {v : D} {N : List D → Prop} (h0 : 0 ≤ i) (h1 : i < xs.length) (q : N (xs.set i.toNat v)) : setI xs i v N := by
  unfold setI
  rw [ixN_lt h0 h1]
  exact q
theorem w_setI_0 {v : D} {N : List D → Prop} : setI (x :: xs) 0 v N = N (v :: xs) := by
  unfold setI
  rw [ixN_lt (by omega) (by simp only [List.length_cons]; omega)]
  rfl
theorem w_setI_1 {v x1 : D} {N : List D → Prop} : setI (x :: x1 :: xs) 1 v N = N (x :: v :: xs) := by
  unfold setI
  rw [ixN_lt (by omega) (by simp only [List.length_cons]; omega)]
  rfl
theorem w_setI_2 {v x1 x2 : D} {N : List D → Prop} : setI (x :: x1 :: x2 :: xs) 2 v N = N (x :: x1 :: v :: xs) := by
  unfold setI
  rw [ixN_lt (by omega) (by simp only [List.length_cons]; omega)]
  rfl
theorem w_setI_3 {v x1 x2 x3 : D} {N : List D → Prop} : setI (x :: x1 :: x2 :: x3 :: xs) 3 v N = N (x :: x1 :: x2 :: v :: xs) := by
  unfold setI
  rw [ixN_lt (by omega) (by simp only [List.length_cons]; omega)]
  rfl
theorem w_setI_4 {v x1 x2 x3 x4 : D} {N : List D → Prop} : setI (x :: x1 :: x2 :: x3 :: x4 :: xs) 4 v N = N (x :: x1 :: x2 :: x3 :: v :: xs) := by
  unfold setI
  rw [ixN_lt (by omega) (by simp only [List.length_cons]; omega)]
  rfl
theorem w_atL_ref {f : Addr → List D → Prop} (h : G p = some (.lst xs)) : atL (.ref p) G f = f p xs := by
  show (match G p with | some (.lst xs) => f p xs | _ => False) = _
  rw [h]
theorem w_atL_gu {f : Addr → List D → Prop} : atL (.ref p) (gu G p (.lst xs)) f = f p xs := w_atL_ref gu_same
theorem rep_one {k : Int} : rep k [x] = List.replicate k.toNat x := by
  unfold rep
  induction k.toNat with
  | zero => rfl
  | succ n ih => rw [List.replicate_succ, List.flatten_cons, ih]; rfl
/-- isinstance of plain data -/
theorem isi_pd {T : String} (h : pd x = true) : dIsi [x, .ty T] G Q = (T ∈ ["int", "bool", "str", "tuple", "list", "dict"] ∧ Q (.bl (subTy (kd x) T)) G) := by
  show (match tyOf x G with | some n => _ ∧ Q (.bl (subTy n T)) G | none => False) = _
  rw [ty_pd h]
theorem isi_int (h : pd x = true) : dIsi [x, .ty "int"] G Q = Q (.bl (isI x || isB x)) G := by rw [isi_pd h, kd_int]; simp
theorem isi_bool (h : pd x = true) : dIsi [x, .ty "bool"] G Q = Q (.bl (isB x)) G := by rw [isi_pd h, kd_bool]; simp
theorem isi_tuple (h : pd x = true) : dIsi [x, .ty "tuple"] G Q = Q (.bl (isT x)) G := by rw [isi_pd h, kd_tuple]; simp
theorem isi_str (h : pd x = true) : dIsi [x, .ty "str"] G Q = Q (.bl (isS x)) G := by rw [isi_pd h, kd_str]; simp
theorem isi_dict (h : pd x = true) : dIsi [x, .ty "dict"] G Q = Q (.bl (isDc x)) G := by rw [isi_pd h, kd_dict]; simp
theorem isi_list (h : pd x = true) : dIsi [x, .ty "list"] G Q = Q (.bl (isL x)) G := by rw [isi_pd h, kd_list h]; simp
theorem repr_bl : dRepr [.bl b] G Q = (PyData.showable (.bool b) = true ∧ (PyData.shown (.bool b)).length ≤ sizeLine ∧ (PyData.depth (.bool b)) ≤ 100 ∧ Q (.str (PyData.shown (.bool b))) G) := rfl
theorem len_seq (h : seqOf x G = some xs) : dLen [x] G Q = Q (.int xs.length) G := by
  cases x with
  | tup ys => cases h; rfl
  | lst ys => cases h; rfl
  | scr ys => cases h; rfl
  | ref a =>
    show (match seqOf (.ref a) G with | some ys => Q (.int ys.length) G | none => False) = _
    rw [h]
  | _ => cases h
theorem ix_seqD (h : seqOf x G = some xs) : dIx x (.int i) G Q = gotI xs i G Q := by
  cases x with
  | tup ys => cases h; rfl
  | lst ys => cases h; rfl
  | scr ys => cases h; rfl
  | ref a =>
    show (match seqOf (.ref a) G with | some xs => (match atI xs i with | some d => Q d G | none => False) | none => False) = _
    rw [h]
    rfl
  | _ => cases h
theorem w_draw {E : DX} : sp_L_draw [.ref p, .int i] G Q E = (isHand G p ∧ 0 < i ∧ i < 2 ^ 60 ∧ ∀ d : Int, 0 ≤ d → d < i → Q (.int d) G) := rfl
end
theorem cut_mem {xs : List D} {lo hi : Option Int} {y : D} (h : y ∈ cutD xs lo hi) : y ∈ xs := List.mem_of_mem_drop (List.mem_of_mem_take h)
theorem cut_len {xs : List D} {lo hi : Option Int} : (cutD xs lo hi).length ≤ xs.length := by
  unfold cutD
  rw [List.length_take, List.length_drop]
  omega
theorem cut_ints {ns : List Int} {lo hi : Option Int} : ∃ ms : List Int, cutD (ns.map D.int) lo hi = ms.map D.int ∧ ms.length ≤ ns.length := by
  refine ⟨(ns.drop (HT.sIx ns.length 0 lo)).take (HT.sIx ns.length ns.length hi - HT.sIx ns.length 0 lo), ?_, ?_⟩
  · unfold cutD
    rw [List.length_map, List.map_take, List.map_drop]
  · rw [List.length_take, List.length_drop]
    omega
theorem cut_to {xs : List D} {i : Int} (h : 0 ≤ i) : cutD xs none (some i) = xs.take i.toNat := by
  unfold cutD HT.sIx
  simp only [if_neg (Int.not_lt.mpr h), List.drop_zero, Nat.sub_zero]
  exact (List.take_eq_take_iff.mpr (by omega))
theorem cut_from {xs : List D} {i : Int} (h : 0 ≤ i) : cutD xs (some i) none = xs.drop i.toNat := by
  unfold cutD HT.sIx
  simp only [if_neg (Int.not_lt.mpr h)]
  rw [List.take_of_length_le (by rw [List.length_drop]; omega)]
  by_cases hl : i.toNat ≤ xs.length
  · rw [Nat.min_eq_left hl]
  · rw [Nat.min_eq_right (by omega), List.drop_eq_nil_of_le (by omega), List.drop_eq_nil_of_le (by omega)]
theorem perm_erase {α : Type} : ∀ {l : List α} {i : Nat} (h : i < l.length), (l[i] :: l.eraseIdx i).Perm l
  | [], _, h => nomatch h
  | x :: r, 0, _ => .refl _
  | x :: r, i + 1, h => by
    have h' : i < r.length := by simpa using h
    show (r[i] :: x :: r.eraseIdx i).Perm (x :: r)
    exact (List.Perm.swap _ _ _).trans ((perm_erase h').cons x)
theorem CPow.lit {i j : Int} (h : (decide (0 ≤ j) && decide (j ≤ 1000000) && decide (i.natAbs < 2 ^ 64)) = true) : CPow i j := by
  rw [Bool.and_eq_true, Bool.and_eq_true, decide_eq_true_iff, decide_eq_true_iff, decide_eq_true_iff] at h
  exact ⟨h.1.1, h.1.2, h.2⟩
theorem DivOk.lit {i j : Int} (h : 0 < j) (h2 : j < 2 ^ 64) : DivOk i j := ⟨h, by
  have : j.natAbs < 2 ^ 64 := by omega
  have h3 : j.natAbs.log2 < 64 := (Nat.log2_lt (by omega)).mpr this
  omega⟩
end DL

/-! Plain facts: numbered lists, orders, sums. -/
namespace DL
open PySem PySem.Spec PyProof.Rows L2
def enumI : Int → List D → List D
  | _, [] => []
  | k, x :: r => .tup [.int k, x] :: enumI (k + 1) r
theorem prs_enumI : ∀ (xs : List D) (k : Int), prsD ((List.range xs.length).map fun i => D.int (k + (i : Nat))) xs = enumI k xs
  | [], _ => by simp [prsD, enumI]
  | x :: r, k => by
    have e : ((List.range (r.length + 1)).map fun i => D.int (k + (i : Nat))) = D.int k :: ((List.range r.length).map fun i => D.int (k + 1 + (i : Nat))) := by
      rw [List.range_succ_eq_map, List.map_cons, List.map_map]
      congr 1
      · simp
      · apply List.map_congr_left
        intro i _
        show D.int (k + ((i + 1 : Nat) : Int)) = _
        congr 1
        omega
    rw [List.length_cons, e]
    show D.tup [.int k, x] :: prsD _ r = _
    rw [prs_enumI r (k + 1)]
    rfl
theorem prs_enum (xs : List D) : prsD (numsD xs.length) xs = enumI 0 xs := by
  rw [← prs_enumI xs 0]
  unfold numsD
  congr 1
  apply List.map_congr_left
  intro i _
  rw [Int.zero_add]
theorem ints_map (l : List Int) : (l.map D.int).map iv = l := by
  rw [List.map_map]
  exact List.map_id' l
/-- an order of whole numbers is one of whole numbers -/
theorem perm_ints {ms : List D} {l : List Int} (h : ms.Perm (l.map D.int)) : ∃ ps : List Int, ms = ps.map D.int ∧ ps.Perm l := by
  refine ⟨ms.map iv, ints_isI fun x hx => ?_, by have := h.map iv; rwa [ints_map] at this⟩
  obtain ⟨i, _, rfl⟩ := List.mem_map.mp (h.mem_iff.mp hx)
  rfl
def upto (n : Int) : List Int := (List.range n.toNat).map fun i => ((i : Nat) : Int)
theorem rgD_upto (n : Int) : rgD 0 n = (upto n).map D.int := by
  unfold rgD upto
  rw [List.map_map]
  rw [show (n - 0).toNat = n.toNat by omega]
  apply List.map_congr_left
  intro i _
  show D.int (0 + (i : Int)) = D.int i
  rw [Int.zero_add]
theorem upto_nodup (n : Int) : (upto n).Nodup := by
  unfold upto
  refine List.Pairwise.map _ ?_ List.nodup_range
  intro a b h e
  exact h (by omega)
theorem upto_mem {n i : Int} : i ∈ upto n ↔ 0 ≤ i ∧ i < n := by
  unfold upto
  rw [List.mem_map]
  constructor
  · rintro ⟨j, hj, rfl⟩
    rw [List.mem_range] at hj
    omega
  · rintro ⟨h0, h1⟩
    exact ⟨i.toNat, by rw [List.mem_range]; omega, by omega⟩
theorem upto_length (n : Int) : (upto n).length = n.toNat := by unfold upto; rw [List.length_map, List.length_range]
theorem sum_set : ∀ (l : List Int) (i : Nat) (v : Int) (h : i < l.length), (l.set i v).sum = l.sum - l[i] + v
  | [], _, _, h => nomatch h
  | x :: r, 0, v, _ => by simp only [List.set_cons_zero, List.sum_cons, List.getElem_cons_zero]; omega
  | x :: r, i + 1, v, h => by
    have h' : i < r.length := by simpa using h
    simp only [List.set_cons_succ, List.sum_cons, List.getElem_cons_succ]
    rw [sum_set r i v h']
    omega
theorem sum_zeros (n : Nat) : (List.replicate n (0 : Int)).sum = 0 := by
  induction n with
  | zero => rfl
  | succ n ih => rw [List.replicate_succ, List.sum_cons, ih]; rfl
theorem map_set_int (l : List Int) (i : Nat) (v : Int) : (l.map D.int).set i (.int v) = (l.set i v).map D.int := by rw [List.map_set]
theorem rep_ints (n v : Int) : rep n [D.int v] = (List.replicate n.toNat v).map D.int := by rw [rep_one, List.map_replicate]
theorem got_ints {l : List Int} {i : Int} {G : Gp} {Q : DK} (h0 : 0 ≤ i) (h1 : i.toNat < l.length) : gotI (l.map D.int) i G Q = Q (.int l[i.toNat]) G := by
  refine got_eq ?_
  rw [at_nat h0, List.getElem?_map, List.getElem?_eq_getElem h1]
  rfl
/-- a condition that is plainly b -/
theorem ifS_mk {c : DT} {t u : DS} {E : DEnds} {δ : Sl} {G : Gp} (b : Bool) (hc : ∀ Q : Bool → Gp → Prop, Q b G → c δ G Q) (ht : b = true → t E δ G) (hu : b = false → u E δ G) : dIfS c t u E δ G :=
  hc _ (by
    cases b with
    | true => exact ht rfl
    | false => exact hu rfl)
theorem ifE_mk {c : DT} {t u : DE} {δ : Sl} {G : Gp} {Q : DK} (b : Bool) (hc : ∀ Q : Bool → Gp → Prop, Q b G → c δ G Q) (ht : b = true → t δ G Q) (hu : b = false → u δ G Q) : dIf c t u δ G Q :=
  hc _ (by
    cases b with
    | true => exact ht rfl
    | false => exact hu rfl)
/-- a pair whose second is a tuple -/
def isPT : D → Bool | .tup [_, .tup _] => true | _ => false
theorem isPT_iff {x : D} : isPT x = true ↔ ∃ a xs, x = .tup [a, .tup xs] := by
  constructor
  · intro h
    unfold isPT at h
    split at h
    · exact ⟨_, _, rfl⟩
    · cases h
  · rintro ⟨a, xs, rfl⟩
    rfl
mutual
/-- plain data, nothing in it longer than N -/
def pl (N : Nat) : D → Bool
  | .non | .bl _ | .int _ | .str _ => true
  | .tup xs => decide (xs.length ≤ N) && pls N xs
  | .lst xs => decide (xs.length ≤ N) && pls N xs
  | .dct kvs => decide (kvs.length ≤ N) && plk N kvs
  | _ => false
def pls (N : Nat) : List D → Bool
  | [] => true
  | x :: r => pl N x && pls N r
def plk (N : Nat) : List (Key × D) → Bool
  | [] => true
  | (_, x) :: r => pl N x && plk N r
end
theorem pls_iff {N : Nat} : ∀ {xs : List D}, pls N xs = true ↔ ∀ x ∈ xs, pl N x = true
  | [] => by simp [pls]
  | x :: r => by
    unfold pls
    rw [Bool.and_eq_true, pls_iff]
    simp
theorem pl_tup {N : Nat} {xs : List D} : pl N (.tup xs) = true ↔ xs.length ≤ N ∧ ∀ x ∈ xs, pl N x = true := by
  rw [show pl N (.tup xs) = (decide (xs.length ≤ N) && pls N xs) by rw [pl], Bool.and_eq_true, decide_eq_true_iff, pls_iff]
theorem pl_lst {N : Nat} {xs : List D} : pl N (.lst xs) = true ↔ xs.length ≤ N ∧ ∀ x ∈ xs, pl N x = true := by
  rw [show pl N (.lst xs) = (decide (xs.length ≤ N) && pls N xs) by rw [pl], Bool.and_eq_true, decide_eq_true_iff, pls_iff]
@[simp] theorem pl_int {N : Nat} {i : Int} : pl N (.int i) = true := by unfold pl; rfl
@[simp] theorem pl_str {N : Nat} {i : Str} : pl N (.str i) = true := by unfold pl; rfl
@[simp] theorem pl_bl {N : Nat} {i : Bool} : pl N (.bl i) = true := by unfold pl; rfl
@[simp] theorem pl_non {N : Nat} : pl N .non = true := by unfold pl; rfl
@[simp] theorem pl_dct0 {N : Nat} : pl N (.dct []) = true := by
  rw [show pl N (.dct []) = (decide (([] : List (Key × D)).length ≤ N) && plk N []) by rw [pl]]
  simp [plk]
mutual
theorem pl_pd {N : Nat} : ∀ x : D, pl N x = true → pd x = true
  | .non, _ => pd_non
  | .bl _, _ => pd_bl
  | .int _, _ => pd_int
  | .str _, _ => pd_str
  | .tup xs, h => by
    rw [pl, Bool.and_eq_true] at h
    rw [pd]
    exact pls_pds xs h.2
  | .lst xs, h => by
    rw [pl, Bool.and_eq_true] at h
    rw [pd]
    exact pls_pds xs h.2
  | .dct xs, h => by
    rw [pl, Bool.and_eq_true] at h
    rw [pd]
    exact plk_pdk xs h.2
  | .ty _, h => by rw [pl] at h <;> first | cases h | simp
  | .scr _, h => by rw [pl] at h <;> first | cases h | simp
  | .obj _ _, h => by rw [pl] at h <;> first | cases h | simp
  | .ref _, h => by rw [pl] at h <;> first | cases h | simp
  | .fn _, h => by rw [pl] at h <;> first | cases h | simp
theorem pls_pds {N : Nat} : ∀ xs : List D, pls N xs = true → pds xs = true
  | [], _ => by rw [pds]
  | x :: r, h => by
    rw [pls, Bool.and_eq_true] at h
    rw [pds, pl_pd x h.1, pls_pds r h.2]
    rfl
theorem plk_pdk {N : Nat} : ∀ xs : List (Key × D), plk N xs = true → pdk xs = true
  | [], _ => by rw [pdk]
  | (k, x) :: r, h => by
    rw [plk, Bool.and_eq_true] at h
    rw [pdk, pl_pd x h.1, plk_pdk r h.2]
    rfl
end
mutual
theorem pl_mono {N M : Nat} (k : N ≤ M) : ∀ x : D, pl N x = true → pl M x = true
  | .non, _ => pl_non
  | .bl _, _ => pl_bl
  | .int _, _ => pl_int
  | .str _, _ => pl_str
  | .tup xs, h => by
    rw [pl, Bool.and_eq_true, decide_eq_true_iff] at h
    rw [pl, Bool.and_eq_true, decide_eq_true_iff]
    exact ⟨by omega, pls_mono k xs h.2⟩
  | .lst xs, h => by
    rw [pl, Bool.and_eq_true, decide_eq_true_iff] at h
    rw [pl, Bool.and_eq_true, decide_eq_true_iff]
    exact ⟨by omega, pls_mono k xs h.2⟩
  | .dct xs, h => by
    rw [pl, Bool.and_eq_true, decide_eq_true_iff] at h
    rw [pl, Bool.and_eq_true, decide_eq_true_iff]
    exact ⟨by omega, plk_mono k xs h.2⟩
  | .ty _, h => by rw [pl] at h <;> first | cases h | simp
  | .scr _, h => by rw [pl] at h <;> first | cases h | simp
  | .obj _ _, h => by rw [pl] at h <;> first | cases h | simp
  | .ref _, h => by rw [pl] at h <;> first | cases h | simp
  | .fn _, h => by rw [pl] at h <;> first | cases h | simp
theorem pls_mono {N M : Nat} (k : N ≤ M) : ∀ xs : List D, pls N xs = true → pls M xs = true
  | [], _ => by rw [pls]
  | x :: r, h => by
    rw [pls, Bool.and_eq_true] at h
    rw [pls, pl_mono k x h.1, pls_mono k r h.2]
    rfl
theorem plk_mono {N M : Nat} (k : N ≤ M) : ∀ xs : List (Key × D), plk N xs = true → plk M xs = true
  | [], _ => by rw [plk]
  | (k', x) :: r, h => by
    rw [plk, Bool.and_eq_true] at h
    rw [plk, pl_mono k x h.1, plk_mono k r h.2]
    rfl
end
end DL

/-! enumerate and zip over lists and tuples in any mixture. -/
namespace DL
open PySem PySem.Spec PyProof.Rows L2

/-- a turn from a walk that hands out new tuples -/
theorem turn_wk {P : Program} {w : World} {K : PySem.W.Frag} {elts : List Expr} {kk : Nat} {tpos : Pos} {J : It} {tn : Nat → Heap → Prop} {wr tf : List Addr} {I : Addr} (mem : I ∈ tf) (sub : ∀ b ∈ wr, b ∈ tf)
    (obj : ∀ i h, tn i h → ∀ b ∈ tf, ∃ o, h.get? b = some o ∧ ∀ v, o.data ≠ .cell v)
    (keep : ∀ i h h', tn i h → (∀ b ∈ tf, ∀ o, h.get? b = some o → h'.get? b = some o) → tn i h')
    (self : ∀ (A : Around) (i : Nat) (s : Shared) (Q : Value → Shared → Prop) (E : Value → Shared → Prop), tn i s.heap → Q (.ref I) s → wpAny (model P w) A (pyIter (.ref I)) Q E s)
    (step : ∀ (X : Cx) (i : Nat) (pins : List (Addr × Obj)) (s : Shared) (σ : L2.St) (H : Hp), X.prog = P → X.w = w → X.K = K → X.calm = true → Inv X pins σ H s → tn i s.heap → J.go i H →
      ∃ (fp : List Addr) (n : Nat) (Pt : Nat → Array Value → Prop) (St : Nat → Heap → Prop) (Mid : Nat → Addr → Heap → Prop), WalksT P w X.A I fp wr n Pt St Mid ∧ i < n ∧ St i s.heap ∧ (∀ j h, St j h → tn j h) ∧
        ∀ vals, Pt i vals → ∃ (xs : List V) (us : List Value), vals = us.toArray ∧ xs.length ≤ sizeLine ∧ Vals xs us ∧ ∀ T, H T = none → J.yld i H (.ref T) (upd H T (.tup xs)))
    (stop : ∀ (X : Cx) (i : Nat) (pins : List (Addr × Obj)) (s : Shared) (σ : L2.St) (H : Hp), X.prog = P → X.w = w → X.K = K → X.calm = true → Inv X pins σ H s → tn i s.heap → J.stop i H →
      ∃ (fp : List Addr) (n : Nat) (Pt : Nat → Array Value → Prop) (St : Nat → Heap → Prop) (Mid : Nat → Addr → Heap → Prop), WalksT P w X.A I fp wr n Pt St Mid ∧ St n s.heap) :
    Turn P w K (.Tuple elts kk tpos) J tf I tn where
  mem := mem
  obj := obj
  keep := keep
  self := self
  item := fun X hP hw hK hc i pins s σ H E Iv hf st hg => by
    obtain ⟨fp, n, Pt, St, Mid, W, hi, hst, back, tell⟩ := step X i pins s σ H hP hw hK hc Iv st hg
    subst hP hw hK
    refine W.item i s _ E hi hst fun T vals h1 tk hPt hle hT hM hk => ?_
    refine ⟨_, rfl, W.go elts kk tpos i T { s with heap := h1, toks := tk } _ _ hM fun h2 hst2 hk2 => ?_⟩
    have out : ∀ b ∈ tf, b ≠ T := fun b hb e => by
      obtain ⟨o, ho, _⟩ := obj i _ st b hb
      exact absurd (Heap.lt_size ho) (by rw [e]; exact Nat.not_lt.mpr hle)
    obtain ⟨xs, us, rfl, hl, rv, hy⟩ := tell vals hPt
    have hTw : T ∉ wr := W.apart i T _ hM
    have hT2 : h2.IsTuple T us.toArray := hT.at fun o e => hk2 T o hTw e
    have new : ObjOk X.prog X.w (upd H T (.tup xs)) h2 T (.tup xs) := ⟨hl, us, rv, hT2⟩
    have I1 : Inv X pins σ (upd H T (.tup xs)) { s with heap := h2, toks := tk } :=
      Iv.turnedNew (ch := tf) (fun b o hb e => hk2 b o (fun z => hb (sub b z)) (hk b o (fun z => hb (sub b z)) e)) hf hle new
    exact ⟨.ref T, _, I1, rfl, hy T (Iv.hok.fresh hle), back _ _ hst2, fun b hb => by rw [upd_ne (out b hb)]; exact (hf b hb).1⟩
  done := fun X hP hw hK hc i pins s σ H E Iv hf st hg => by
    obtain ⟨fp, n, Pt, St, Mid, W, hst⟩ := stop X i pins s σ H hP hw hK hc Iv st hg
    subst hP hw hK
    exact W.done s _ E hst fun h1 tk hk => ⟨rfl, Iv.turnedL (t' := tk) (ch := tf) (fun b o hb e => hk b o (fun z => hb (sub b z)) e) hf⟩

/-- a list (false) or a tuple (true) -/
def SqX (K : PySem.W.Frag) (t : Bool) (H : Hp) (a : Addr) (xs : List V) : Prop := if t then SqT K H a xs else SqL K H a xs
def itX (t : Bool) (h : Heap) (it a : Addr) (i : Nat) : Prop := if t then h.IsTupleIter it a i else h.IsListIter it a i
def arX (t : Bool) (h : Heap) (a : Addr) (items : Array Value) : Prop := if t then h.IsTuple a items else h.IsList a items
theorem sqX_inv {X : Cx} {pins : List (Addr × Obj)} {s : Shared} {σ : L2.St} {H : Hp} {t : Bool} {a : Addr} {xs : List V} (I : Inv X pins σ H s) (h : SqX X.K t H a xs) : ∃ its : List Value, Vals xs its ∧ arX t s.heap a its.toArray := by
  cases t with
  | true =>
    obtain ⟨its, r, p, _⟩ := I.tuple (show SqT X.K H a xs from h)
    exact ⟨its, r, p⟩
  | false =>
    obtain ⟨its, r, p, _⟩ := I.list (show SqL X.K H a xs from h)
    exact ⟨its, r, p.isList⟩
theorem sqX_inj {X : Cx} {pins : List (Addr × Obj)} {s : Shared} {σ : L2.St} {H : Hp} {t : Bool} {a : Addr} {xs ys : List V} (I : Inv X pins σ H s) (h : SqX X.K t H a xs) (h' : SqX X.K t H a ys) : xs = ys := by
  cases t with
  | true => exact I.tuple_inj (show SqT X.K H a xs from h) h'
  | false => exact I.list_inj (show SqL X.K H a xs from h) h'
theorem itX_obj {t : Bool} {h : Heap} {it a : Addr} {i : Nat} (k : itX t h it a i) : ∃ o, h.get? it = some o ∧ ∀ v, o.data ≠ .cell v := by
  cases t with
  | true =>
    obtain ⟨o, e, _, d⟩ := (show h.IsTupleIter it a i from k)
    exact ⟨o, e, fun v q => by rw [d] at q; cases q⟩
  | false =>
    obtain ⟨o, e, _, d⟩ := (show h.IsListIter it a i from k)
    exact ⟨o, e, fun v q => by rw [d] at q; cases q⟩
theorem itX_keep {t : Bool} {h h' : Heap} {it a : Addr} {i : Nat} (k : itX t h it a i) (q : ∀ o, h.get? it = some o → h'.get? it = some o) : itX t h' it a i := by
  cases t with
  | true => exact Heap.IsTupleIter.at (show h.IsTupleIter it a i from k) q
  | false => exact Heap.IsListIter.at (show h.IsListIter it a i from k) q
theorem itX_ne {t : Bool} {h : Heap} {it a : Addr} {i : Nat} {items : Array Value} (k : itX t h it a i) (q : arX t h a items) : a ≠ it := fun z => by
  subst z
  cases t with
  | true =>
    obtain ⟨o, e, c, _⟩ := (show h.IsTupleIter a a i from k)
    obtain ⟨o', e', c', _⟩ := (show h.IsTuple a items from q)
    rw [e] at e'
    cases e'
    rw [c] at c'
    exact absurd (Value.type.inj c') (by decide)
  | false =>
    obtain ⟨o, e, c, _⟩ := (show h.IsListIter a a i from k)
    obtain ⟨o', e', c', _⟩ := (show h.IsList a items from q)
    rw [e] at e'
    cases e'
    rw [c] at c'
    exact absurd (Value.type.inj c') (by decide)
theorem drawsX {prog : Program} {w : World} {A : Around} (t : Bool) (hh : A.handled = none) (it a : Addr) (hne : a ≠ it) (items : Array Value) :
    Draws prog w A it [it, a] items.size (fun i v => items[i]? = some v) (fun i h => itX t h it a i ∧ arX t h a items) := by
  cases t with
  | true => exact .tuple hh it a hne items
  | false => exact .list hh it a hne items
def newX (t : Bool) (a : Addr) : Obj := { cls := .type (if t then "tuple_iterator" else "list_iterator"), data := .fields #[.ref a, .int 0 0] }
theorem beginsX (t : Bool) (a : Addr) (items : Array Value) : Begins (.ref a) (newX t a) fun h => arX t h a items := by
  cases t with
  | true => exact begins_tuple a items
  | false => exact begins_list a items
theorem itX_new {t : Bool} {h : Heap} {it a : Addr} (e : h.get? it = some (newX t a)) : itX t h it a 0 := by
  cases t with
  | true => exact ⟨_, e, rfl, rfl⟩
  | false => exact ⟨_, e, rfl, rfl⟩

/-! ### enumerate -/
def ItE (K : PySem.W.Frag) (t : Bool) (a : Addr) : It :=
  ⟨fun i H => ∃ (xs : List V) (x : V), SqX K t H a xs ∧ xs[i]? = some x,
    fun i H v H' => ∃ (T : Addr) (x : V), v = .ref T ∧ H T = none ∧ H' = upd H T (.tup [.int (i : Nat), x]) ∧ ∀ xs, SqX K t H a xs → xs[i]? = some x,
    fun i H => ∃ xs : List V, SqX K t H a xs ∧ xs.length = i⟩
theorem turn_enumX {P : Program} {w : World} {K : PySem.W.Frag} {elts : List Expr} {kk : Nat} {tpos : Pos} (t : Bool) (a e it : Addr) (hei : e ≠ it) (hea : e ≠ a) :
    Turn P w K (.Tuple elts kk tpos) (ItE K t a) [e, it] e (fun i h => (∃ old, IsEnum h e it ((i : Nat) : Int) old) ∧ itX t h it a i) := by
  refine turn_wk (wr := [e, it]) (by simp) (fun b hb => hb) (fun i h st b hb => ?_) (fun i h h' st k => ?_) (fun A i s Q E st q => ?_) (fun X i pins s σ H hP hw hK hc I st hg => ?_) (fun X i pins s σ H hP hw hK hc I st hg => ?_)
  · obtain ⟨⟨old, he⟩, hi⟩ := st
    have e' : b = e ∨ b = it := by simpa using hb
    rcases e' with z | z
    · subst z
      exact ⟨_, he, fun v q => (nomatch q)⟩
    · subst z
      exact itX_obj hi
  · obtain ⟨⟨old, he⟩, hi⟩ := st
    exact ⟨⟨old, k e (by simp) _ he⟩, itX_keep hi fun o q => k it (by simp) o q⟩
  · obtain ⟨⟨old, he⟩, _⟩ := st
    exact wpAny_pyIter_enum he q
  · obtain ⟨he, hi⟩ := st
    obtain ⟨xs, x, hq, hx⟩ := hg
    subst hP hw hK
    obtain ⟨its, rv, ha⟩ := sqX_inv I hq
    have hl := rv.length
    have D := drawsX (prog := X.prog) (w := X.w) (A := X.A.in1) t (I.ok.hd hc) it a (itX_ne hi ha) its.toArray
    have hlt := (List.getElem?_eq_some_iff.mp hx).1
    refine ⟨_, _, _, _, _, WalksT.enumerateD D e hei (by simp [hei, hea]) (by simp), by simp; omega, ⟨he, hi, ha⟩, fun j h k => ⟨k.1, k.2.1⟩, fun vals hv => ?_⟩
    obtain ⟨tk, u, hu, rfl⟩ := hv
    obtain ⟨u', hu', ru⟩ := rv.get hx
    have eu : u' = u := by
      have : its[i]? = some u := by simpa using hu
      rw [hu'] at this
      exact Option.some.inj this
    subst eu
    exact ⟨[.int (i : Nat), x], [.int i tk, u'], rfl, by show 2 ≤ sizeLine; decide, .cons ⟨_, rfl⟩ (.cons ru .nil), fun T hT => ⟨T, x, rfl, hT, rfl, fun ys hy => by rw [sqX_inj I hy hq]; exact hx⟩⟩
  · obtain ⟨he, hi⟩ := st
    obtain ⟨xs, hq, hx⟩ := hg
    subst hP hw hK
    obtain ⟨its, rv, ha⟩ := sqX_inv I hq
    have hl := rv.length
    have D := drawsX (prog := X.prog) (w := X.w) (A := X.A.in1) t (I.ok.hd hc) it a (itX_ne hi ha) its.toArray
    have en : its.toArray.size = i := by simp; omega
    exact ⟨_, _, _, _, _, WalksT.enumerateD D e hei (by simp [hei, hea]) (by simp), by rw [en]; exact ⟨he, hi, ha⟩⟩
set_option maxHeartbeats 1000000 in
theorem meets_enum1 {v : Value} {o : Obj} {B : Heap → Prop} (b : Begins v o B) :
    Meets (Builtin.«enumerate.__new__» ⟨[.type "enumerate", v], []⟩) (fun _ R s => B s.heap ∧ R (.ok (.ret (.ref (s.heap.push o).objs.size))) { s with heap := (s.heap.push o).push { cls := .type "enumerate", data := .fields #[.none, .bool false, .ref s.heap.objs.size, rawInt 0, .none, .none] } }) :=
  .of_wp fun prog w A R s h => by
    obtain ⟨hp, g, d, tk, os⟩ := s
    obtain ⟨hb, hR⟩ := h
    have hsub := sub_enumerate
    have draw : ∀ {A' : Around} {E : Value → Shared → Prop} {Q : Value → Shared → Prop}, Q (.ref hp.objs.size) ⟨hp.push o, g, d, tk, os⟩ → wpAny (model prog w) A' (pyIter v) Q E ⟨hp, g, d, tk, os⟩ := fun q => b.iter prog w _ _ ⟨hp, g, d, tk, os⟩ _ hb q
    wp_walk using draw
    refine wpAny_stack_any fun st => wpAny_pure ?_
    split
    · rename_i c _ _ _ _ _
      cases (c == Value.type "enumerate") <;> (wp_walk using draw; exact ⟨_, rfl, hR⟩)
    · wp_walk using draw
      exact ⟨_, rfl, hR⟩
theorem call_enum1 {prog : Program} {w : World} {A : Around} {E : Value → Shared → Prop} {s : Shared} {v : Value} {o : Obj} {B : Heap → Prop} {Q : Value → Shared → Prop} (b : Begins v o B) (hb : B s.heap)
    (q : ∀ h', IsEnum h' (s.heap.objs.size + 1) s.heap.objs.size 0 .none → h'.get? s.heap.objs.size = some o → (∀ c x, s.heap.get? c = some x → h'.get? c = some x) → Q (.ref (s.heap.objs.size + 1)) { s with heap := h' }) :
    wpAny (model prog w) A (call (.type "enumerate") [v]) Q E s := by
  refine callType_new F.called_enumerate (by decide) (F.typeCall_enumerate_1 _) (F.newCall_enumerate_1 _) (fun obj => F.args_object_init_2 obj _) F.entry_enumerate_new (meets_enum1 b) ⟨hb, ?_⟩
  have hz : (s.heap.push o).objs.size = s.heap.objs.size + 1 := Heap.size_push ..
  have he := Heap.get?_push_size (s.heap.push o) (o := { cls := .type "enumerate", data := .fields #[.none, .bool false, .ref s.heap.objs.size, rawInt 0, .none, .none] }) rfl
  show _ ∧ _
  rw [hz] at he ⊢
  exact ⟨⟨_, he, rfl⟩, q _ he (Heap.get?_push_of_some _ (Heap.get?_push_size _ b.free)) fun c x e => Heap.get?_push_of_some _ (Heap.get?_push_of_some _ e)⟩
def iEnumX (K : PySem.W.Frag) (ta : TA) : TI := fun σ H R => ta σ H fun vs H1 => ∃ t a xs, vs = [.ref a] ∧ SqX K t H1 a xs ∧ R (ItE K t a) H1
theorem pi_enumX {X : Cx} {e : Expr} {ta : TA} {p pos tpos : Pos} {elts : List Expr} {kk : Nat} (hg : Gl X "enumerate") (hm : X.mg "enumerate" = none) (ha : PA X [e] ta) (hs : starEach [e] X.env = [(false, eval e X.env)] := by rfl) :
    PI X (.Tuple elts kk tpos) (.Call (.Name "enumerate" p) [e] [] pos) (iEnumX X.K ta) := by
  refine ⟨fun pins s σ H R I h => ?_⟩
  refine Call_ (ld_blt I hg hm boot_enumerate (PyProof.Rows.callWith_type1 (thn (ha.run pos pins s σ H _ I h) fun us s1 ⟨vs, H1, I1, r1, q1⟩ => ?_) hs rfl))
  obtain ⟨t, a, xs, ex, hq, q⟩ := q1
  subst ex
  cases r1 with
  | cons r rr =>
    cases rr
    cases r
    obtain ⟨its, rv, har⟩ := sqX_inv I1 hq
    have hal : a < s1.heap.objs.size := by
      cases t with
      | true => obtain ⟨_, e, _⟩ := (show s1.heap.IsTuple a its.toArray from har); exact Heap.lt_size e
      | false => obtain ⟨_, e, _⟩ := (show s1.heap.IsList a its.toArray from har); exact Heap.lt_size e
    refine call_enum1 (beginsX t a its.toArray) har fun h' he hit hk => wpAny_pyIter_enum he ?_
    have I2 : Inv X pins σ H1 { s1 with heap := h' } := I1.kept (t' := s1.toks) hk
    refine ⟨s1.heap.objs.size + 1, [s1.heap.objs.size + 1, s1.heap.objs.size], _, _, H1, rfl, I2, turn_enumX t a _ _ (Nat.succ_ne_self _) (Nat.ne_of_gt (Nat.lt_succ_of_lt hal)), ⟨⟨.none, he⟩, itX_new hit⟩, fun b hb => ?_, q⟩
    have e' : b = s1.heap.objs.size + 1 ∨ b = s1.heap.objs.size := by simpa using hb
    have hle : s1.heap.objs.size ≤ b := by
      rcases e' with z | z
      · rw [z]; exact Nat.le_succ _
      · rw [z]; exact Nat.le_refl _
    exact I1.fpOk hle (I1.hok.fresh hle)
theorem walk_enumX {K : PySem.W.Frag} {t : Bool} {a : Addr} {xs : List V} : Walk (ItE K t a) xs.length (fun H => SqX K t H a xs) (YPair (fun i => some (.int (i : Nat))) (fun i => xs[i]?)) := by
  refine ⟨fun i H hi q => ⟨xs, xs[i], q, List.getElem?_eq_getElem hi⟩, fun H q => ⟨xs, q, rfl⟩, fun i H x H' hi q y => ?_⟩
  obtain ⟨T, u, h1, h2, h3, h4⟩ := y
  exact ⟨T, _, u, h1, h2, h3, rfl, h4 xs q⟩

/-! ### zip -/
def ItZ (K : PySem.W.Frag) (t u : Bool) (a b : Addr) : It :=
  ⟨fun i H => ∃ (xs ys : List V) (x y : V), (SqX K t H a xs ∧ SqX K u H b ys) ∧ xs[i]? = some x ∧ ys[i]? = some y,
    fun i H v H' => ∃ (T : Addr) (x y : V), v = .ref T ∧ H T = none ∧ H' = upd H T (.tup [x, y]) ∧ (∀ xs, SqX K t H a xs → xs[i]? = some x) ∧ ∀ ys, SqX K u H b ys → ys[i]? = some y,
    fun i H => ∃ xs ys : List V, (SqX K t H a xs ∧ SqX K u H b ys) ∧ min xs.length ys.length = i⟩
theorem turn_zipX {P : Program} {w : World} {K : PySem.W.Frag} {elts : List Expr} {kk : Nat} {tpos : Pos} (t u : Bool) (a b N : Addr) (ha : a < N) (hb : b < N) :
    Turn P w K (.Tuple elts kk tpos) (ItZ K t u a b) [N + 4, N + 2, N + 3, N, N + 1] (N + 4) (fun i h => IsZip h (N + 4) (N + 2) (N + 3) .none ∧ IsTupOf2 h (N + 2) (.ref N) (.ref (N + 1)) ∧ (∃ x y, IsTupOf2 h (N + 3) x y) ∧ itX t h N a i ∧ itX u h (N + 1) b i) := by
  have sep : ZipSep2 (N + 4) (N + 2) (N + 3) N (N + 1) [N, a] [N + 1, b] := zip_sep2 (fp1 := [a]) (fp2 := [b]) (fun c hc => by rw [List.mem_singleton.mp hc]; exact ha) (fun c hc => by rw [List.mem_singleton.mp hc]; exact hb)
  refine turn_wk (wr := [N + 4, N + 3, N, N + 1]) (by simp) (fun c hc => ?_) (fun i h st c hc => ?_) (fun i h h' st k => ?_) (fun A i s Q E st q => ?_) (fun X i pins s σ H hP hw hK hc I st hg => ?_) (fun X i pins s σ H hP hw hK hc I st hg => ?_)
  · simp only [List.mem_cons, List.not_mem_nil, or_false] at hc ⊢
    rcases hc with z | z | z | z <;> simp [z]
  · obtain ⟨hz, hTI, ⟨x, y, hTO⟩, h1, h2⟩ := st
    simp only [List.mem_cons, List.not_mem_nil, or_false] at hc
    rcases hc with z | z | z | z | z
    · subst z
      exact ⟨_, hz, fun v q => (nomatch q)⟩
    · subst z
      exact ⟨_, hTI, fun v q => (nomatch q)⟩
    · subst z
      exact ⟨_, hTO, fun v q => (nomatch q)⟩
    · rw [z]; exact itX_obj h1
    · rw [z]; exact itX_obj h2
  · obtain ⟨hz, hTI, ⟨x, y, hTO⟩, h1, h2⟩ := st
    exact ⟨k _ (by simp) _ hz, k _ (by simp) _ hTI, ⟨x, y, k _ (by simp) _ hTO⟩, itX_keep h1 fun o q => k _ (by simp) o q, itX_keep h2 fun o q => k _ (by simp) o q⟩
  · exact wpAny_pyIter_zip st.1 q
  · obtain ⟨hz, hTI, hTO, h1, h2⟩ := st
    obtain ⟨xs, ys, x, y, ⟨hqx, hqy⟩, hx, hy⟩ := hg
    subst hP hw hK
    obtain ⟨its, rv, ra⟩ := sqX_inv I hqx
    obtain ⟨its2, rv2, rb⟩ := sqX_inv I hqy
    have hl := rv.length
    have hl2 := rv2.length
    have D1 := drawsX (prog := X.prog) (w := X.w) (A := X.A.in1) t (I.ok.hd hc) N a (itX_ne h1 ra) its.toArray
    have D2 := drawsX (prog := X.prog) (w := X.w) (A := X.A.in1) u (I.ok.hd hc) (N + 1) b (itX_ne h2 rb) its2.toArray
    have hlt := (List.getElem?_eq_some_iff.mp hx).1
    have hlt2 := (List.getElem?_eq_some_iff.mp hy).1
    refine ⟨_, _, _, _, _, WalksT.zipD2 sep D1 D2, by simp; omega, ⟨hz, hTI, hTO, ⟨h1, ra⟩, ⟨h2, rb⟩⟩, fun j h k => ⟨k.1, k.2.1, k.2.2.1, k.2.2.2.1.1, k.2.2.2.2.1⟩, fun vals hv => ?_⟩
    obtain ⟨u1, u2, hu1, hu2, rfl⟩ := hv
    obtain ⟨v1, hv1, r1⟩ := rv.get hx
    obtain ⟨v2, hv2, r2⟩ := rv2.get hy
    have e1 : v1 = u1 := by
      have : its[i]? = some u1 := by simpa using hu1
      rw [hv1] at this
      exact Option.some.inj this
    have e2 : v2 = u2 := by
      have : its2[i]? = some u2 := by simpa using hu2
      rw [hv2] at this
      exact Option.some.inj this
    subst e1 e2
    exact ⟨[x, y], [v1, v2], rfl, by show 2 ≤ sizeLine; decide, .cons r1 (.cons r2 .nil), fun T hT => ⟨T, x, y, rfl, hT, rfl, fun zs hz' => by rw [sqX_inj I hz' hqx]; exact hx, fun zs hz' => by rw [sqX_inj I hz' hqy]; exact hy⟩⟩
  · obtain ⟨hz, hTI, hTO, h1, h2⟩ := st
    obtain ⟨xs, ys, ⟨hqx, hqy⟩, hend⟩ := hg
    subst hP hw hK
    obtain ⟨its, rv, ra⟩ := sqX_inv I hqx
    obtain ⟨its2, rv2, rb⟩ := sqX_inv I hqy
    have hl := rv.length
    have hl2 := rv2.length
    have D1 := drawsX (prog := X.prog) (w := X.w) (A := X.A.in1) t (I.ok.hd hc) N a (itX_ne h1 ra) its.toArray
    have D2 := drawsX (prog := X.prog) (w := X.w) (A := X.A.in1) u (I.ok.hd hc) (N + 1) b (itX_ne h2 rb) its2.toArray
    have en : min its.toArray.size its2.toArray.size = i := by simp; omega
    exact ⟨_, _, _, _, _, WalksT.zipD2 sep D1 D2, by rw [en]; exact ⟨hz, hTI, hTO, ⟨h1, ra⟩, ⟨h2, rb⟩⟩⟩
def iZipX (K : PySem.W.Frag) (ta : TA) : TI := fun σ H R => ta σ H fun vs H1 => ∃ t u a b xs ys, vs = [.ref a, .ref b] ∧ (SqX K t H1 a xs ∧ SqX K u H1 b ys) ∧ R (ItZ K t u a b) H1
theorem arX_lt {t : Bool} {h : Heap} {a : Addr} {its : Array Value} (k : arX t h a its) : a < h.objs.size := by
  cases t with
  | true => obtain ⟨_, e, _⟩ := (show h.IsTuple a its from k); exact Heap.lt_size e
  | false => obtain ⟨_, e, _⟩ := (show h.IsList a its from k); exact Heap.lt_size e
theorem pi_zipX {X : Cx} {e e2 : Expr} {ta : TA} {p pos tpos : Pos} {elts : List Expr} {kk : Nat} (hg : Gl X "zip") (hm : X.mg "zip" = none) (ha : PA X [e, e2] ta)
    (hs : starEach [e, e2] X.env = (false, eval e X.env) :: starEach [e2] X.env := by rfl) (hpl : (backTo pos (starEach [e2] X.env)).any (·.1) = false := by rfl) :
    PI X (.Tuple elts kk tpos) (.Call (.Name "zip" p) [e, e2] [] pos) (iZipX X.K ta) := by
  refine ⟨fun pins s σ H R I h => ?_⟩
  refine Call_ (ld_blt I hg hm PyProof.Rows.boot_zip (PyProof.Rows.callWith_type1 (thn (ha.run pos pins s σ H _ I h) fun us s1 ⟨vs, H1, I1, r1, q1⟩ => ?_) hs hpl))
  obtain ⟨t, u, a, b, xs, ys, ex, ⟨hqx, hqy⟩, q⟩ := q1
  subst ex
  cases r1 with
  | cons r rr =>
    cases rr with
    | cons r' rr =>
      cases rr
      cases r
      cases r'
      obtain ⟨its, rv, ra⟩ := sqX_inv I1 hqx
      obtain ⟨its2, rv2, rb⟩ := sqX_inv I1 hqy
      refine zip_begins2 (beginsX t a its.toArray) (beginsX u b its2.toArray) ra rb fun h' hz hTI hTO h1 h2 hsz hk => wpAny_pyIter_zip hz ?_
      have I2 : Inv X pins σ H1 { s1 with heap := h' } := I1.kept (t' := s1.toks) hk
      refine ⟨_, _, _, _, H1, rfl, I2, turn_zipX t u a b s1.heap.objs.size (arX_lt ra) (arX_lt rb), ⟨hz, hTI, ⟨_, _, hTO⟩, itX_new h1, itX_new h2⟩, fun c hc => ?_, q⟩
      have hle : s1.heap.objs.size ≤ c := by
        simp only [List.mem_cons, List.not_mem_nil, or_false] at hc
        rcases hc with z | z | z | z | z <;> rw [z]
        · exact Nat.le_add_right _ _
        · exact Nat.le_add_right _ _
        · exact Nat.le_add_right _ _
        · exact Nat.le_refl _
        · exact Nat.le_add_right _ _
      exact I1.fpOk hle (I1.hok.fresh hle)
theorem walk_zipX {K : PySem.W.Frag} {t u : Bool} {a b : Addr} {xs ys : List V} {n : Nat} (hn : n = min xs.length ys.length) : Walk (ItZ K t u a b) n (fun H => SqX K t H a xs ∧ SqX K u H b ys) (YPair (fun i => xs[i]?) (fun i => ys[i]?)) := by
  refine ⟨fun i H hi q => ⟨xs, ys, xs[i]'(by omega), ys[i]'(by omega), q, List.getElem?_eq_getElem _, List.getElem?_eq_getElem _⟩, fun H q => ⟨xs, ys, q, hn.symm⟩, fun i H x H' hi q y => ?_⟩
  obtain ⟨T, x1, y1, h1, h2, h3, h4, h5⟩ := y
  exact ⟨T, _, _, h1, h2, h3, h4 xs q.1, h5 ys q.2⟩
end DL

/-! Rules over trees for enumerate and zip of anything; constants that are tuples. -/
namespace DL
open PySem PySem.Spec PyProof.Rows L2
section
variable {K : PySem.W.Frag} {X : Cx} {F F₀ : Hp} {G : Gp} {H : Hp} {tg e e2 : Expr} {t : DA} {p pos tpos : Pos} {elts : List Expr} {kk : Nat}
theorem seqX_ok {d : D} {v : V} {xs : List D} (w : Wd K F G H) (r : Rp K F d v) (h : seqOf d G = some xs) :
    ∃ t a, v = .ref a ∧ ∀ F1 G1 H1, Same F F1 → Wd K F1 G1 H1 → Stays d G G1 → ∃ vs, SqX K t H1 a vs ∧ Rps K F1 xs vs := by
  cases d with
  | tup ys =>
    cases (show some ys = some xs from h)
    cases r with
    | tup a b => exact ⟨true, _, rfl, fun F1 G1 H1 s w1 _ => ⟨_, sqT_mono (s.trans w1.fz) a, b.mono s⟩⟩
  | scr ys =>
    cases (show some ys = some xs from h)
    cases r with
    | scr a b => exact ⟨false, _, rfl, fun F1 G1 H1 s w1 _ => ⟨_, sqL_mono (s.trans w1.fz) a, b.mono s⟩⟩
  | lst ys =>
    cases (show some ys = some xs from h)
    cases r with
    | lst a b => exact ⟨false, _, rfl, fun F1 G1 H1 s w1 _ => ⟨_, .of (w1.fz _ _ (s _ _ a)), b.mono s⟩⟩
  | ref b =>
    have h' : (match G b with | some (.lst xs) => some xs | _ => none) = some xs := h
    split at h'
    · rename_i ys e
      cases h'
      cases r
      refine ⟨false, b, rfl, fun F1 G1 H1 s w1 st => ?_⟩
      have st' : G1 b = G b := st
      rw [e] at st'
      obtain ⟨_, vs, hv, rv⟩ := w1.lst st'
      exact ⟨vs, .of hv, rv⟩
    · cases h'
  | _ => cases h
theorem stays_refl {d : D} : Stays d G G := by cases d <;> first | exact trivial | exact rfl
theorem numsD_get {n i : Nat} {x : D} (e : (numsD n)[i]? = some x) : x = .int (i : Nat) := by
  unfold numsD at e
  rw [List.getElem?_map] at e
  cases q : (List.range n)[i]? with
  | none => rw [q] at e; cases e
  | some j =>
    rw [q] at e
    cases e
    obtain ⟨h1, h2⟩ := List.getElem?_eq_some_iff.mp q
    rw [List.getElem_range] at h2
    rw [h2]
theorem prs_num_len (xs : List D) : (prsD (numsD xs.length) xs).length = xs.length := by
  rw [prsD_length]
  unfold numsD
  rw [List.length_map, List.length_range, Nat.min_self]
theorem dit_enumX {d : D} {v : V} {xs : List D} (w : Wd K F G H) (r : Rp K F d v) (h : seqOf d G = some xs) : ∃ t a us, v = .ref a ∧ SqX K t H a us ∧ DIt K F (Stays d G) (prsD (numsD xs.length) xs) (ItE K t a) := by
  obtain ⟨t, a, rfl, src⟩ := seqX_ok w r h
  obtain ⟨us, hu, _⟩ := src F G H (Same.refl F) w stays_refl
  refine ⟨t, a, us, rfl, hu, fun H => ∃ vs, SqX K t H a vs ∧ vs.length = xs.length, fun i H x H' => (ItE K t a).yld i H x H', ?_, fun F1 G1 H1 s w1 st => ?_, fun i d F1 G1 H1 x H' s w1 st e y => ?_⟩
  · rw [prs_num_len]
    exact ⟨fun i H hi ⟨vs, hv, hl⟩ => ⟨vs, vs[i]'(by omega), hv, List.getElem?_eq_getElem _⟩, fun H ⟨vs, hv, hl⟩ => ⟨vs, hv, hl⟩, fun i H x H' hi q y => y⟩
  · obtain ⟨vs, hv, rv⟩ := src F1 G1 H1 s w1 st
    exact ⟨vs, hv, rv.length.symm⟩
  · obtain ⟨T, z, rfl, hT, hH, hz⟩ := y
    obtain ⟨vs, hv, rv⟩ := src F1 G1 H1 s w1 st
    obtain ⟨d1, d2, q1, q2, rfl⟩ := prsD_get e
    obtain ⟨z', hz', rz⟩ := rv.get q2
    rw [hz vs hv] at hz'
    cases hz'
    cases numsD_get q1
    exact pair_ok w1 hT hH (.int _) rz
def dEnumX (t : DA) : DI := fun δ G Q => t δ G fun xs G1 => match xs with
  | [x] => match seqOf x G1 with
    | some ys => Q (prsD (numsD ys.length) ys) (Stays x G1) G1
    | none => False
  | _ => False
theorem di_enumX (hg : Gl X "enumerate") (hm : X.mg "enumerate" = none) (ha : PA X [e] (La X.K F₀ t)) (hs : starEach [e] X.env = [(false, eval e X.env)] := by rfl) :
    PI X (.Tuple elts kk tpos) (.Call (.Name "enumerate" p) [e] [] pos) (Li X.K F₀ (dEnumX t)) := pi_imp (pi_enumX hg hm ha hs) fun σ H R ⟨δ, F, G, Q', s, en, w, q, k⟩ => by
  refine ⟨δ, F, G, _, s, en, w, q, fun xs vs F1 G1 H1 s1 w1 r1 q1 => ?_⟩
  split at q1
  · obtain ⟨v, rfl, r⟩ := rps1 r1
    split at q1
    · rename_i ys e
      obtain ⟨tt, a, us, rfl, hs, it⟩ := dit_enumX w1 r e
      exact ⟨tt, a, us, rfl, hs, k _ _ _ F1 G1 H1 s1 w1 it q1⟩
    · exact q1.elim
  · exact q1.elim
theorem dit_zipX {d1 d2 : D} {v1 v2 : V} {xs ys : List D} (w : Wd K F G H) (r1 : Rp K F d1 v1) (r2 : Rp K F d2 v2) (h1 : seqOf d1 G = some xs) (h2 : seqOf d2 G = some ys) :
    ∃ t u a b us ws, v1 = .ref a ∧ v2 = .ref b ∧ (SqX K t H a us ∧ SqX K u H b ws) ∧ DIt K F (fun G' => Stays d1 G G' ∧ Stays d2 G G') (prsD xs ys) (ItZ K t u a b) := by
  obtain ⟨t, a, rfl, src1⟩ := seqX_ok w r1 h1
  obtain ⟨u, b, rfl, src2⟩ := seqX_ok w r2 h2
  obtain ⟨us, hu, _⟩ := src1 F G H (Same.refl F) w stays_refl
  obtain ⟨ws, hw, _⟩ := src2 F G H (Same.refl F) w stays_refl
  refine ⟨t, u, a, b, us, ws, rfl, rfl, ⟨hu, hw⟩, fun H => ∃ vs zs, (SqX K t H a vs ∧ SqX K u H b zs) ∧ vs.length = xs.length ∧ zs.length = ys.length, fun i H x H' => (ItZ K t u a b).yld i H x H', ?_, fun F1 G1 H1 s w1 st => ?_, fun i d F1 G1 H1 x H' s w1 st e y => ?_⟩
  · rw [prsD_length]
    exact ⟨fun i H hi ⟨vs, zs, hv, hl, hl2⟩ => ⟨vs, zs, vs[i]'(by omega), zs[i]'(by omega), hv, List.getElem?_eq_getElem _, List.getElem?_eq_getElem _⟩, fun H ⟨vs, zs, hv, hl, hl2⟩ => ⟨vs, zs, hv, by rw [hl, hl2]⟩, fun i H x H' hi q y => y⟩
  · obtain ⟨vs, hv, rv⟩ := src1 F1 G1 H1 s w1 st.1
    obtain ⟨zs, hz, rz⟩ := src2 F1 G1 H1 s w1 st.2
    exact ⟨vs, zs, ⟨hv, hz⟩, rv.length.symm, rz.length.symm⟩
  · obtain ⟨T, z, z2, rfl, hT, hH, hz, hz2⟩ := y
    obtain ⟨vs, hv, rv⟩ := src1 F1 G1 H1 s w1 st.1
    obtain ⟨zs, hw, rz⟩ := src2 F1 G1 H1 s w1 st.2
    obtain ⟨e1, e2, q1, q2, rfl⟩ := prsD_get e
    obtain ⟨y1, hy1, ry1⟩ := rv.get q1
    obtain ⟨y2, hy2, ry2⟩ := rz.get q2
    rw [hz vs hv] at hy1
    rw [hz2 zs hw] at hy2
    cases hy1
    cases hy2
    exact pair_ok w1 hT hH ry1 ry2
def dZipX (t : DA) : DI := fun δ G Q => t δ G fun xs G1 => match xs with
  | [x, y] => match seqOf x G1, seqOf y G1 with
    | some xs, some ys => Q (prsD xs ys) (fun G' => Stays x G1 G' ∧ Stays y G1 G') G1
    | _, _ => False
  | _ => False
theorem di_zipX (hg : Gl X "zip") (hm : X.mg "zip" = none) (ha : PA X [e, e2] (La X.K F₀ t)) (hs : starEach [e, e2] X.env = (false, eval e X.env) :: starEach [e2] X.env := by rfl) (hpl : (backTo pos (starEach [e2] X.env)).any (·.1) = false := by rfl) :
    PI X (.Tuple elts kk tpos) (.Call (.Name "zip" p) [e, e2] [] pos) (Li X.K F₀ (dZipX t)) := pi_imp (pi_zipX hg hm ha hs hpl) fun σ H R ⟨δ, F, G, Q', s, en, w, q, k⟩ => by
  refine ⟨δ, F, G, _, s, en, w, q, fun zs vs F1 G1 H1 s1 w1 r1 q1 => ?_⟩
  split at q1
  · obtain ⟨v, u, rfl, ra, rb⟩ := rps2 r1
    split at q1
    · rename_i xs ys ex ey
      obtain ⟨tt, uu, a, b, us, ws, rfl, rfl, hs, it⟩ := dit_zipX w1 ra rb ex ey
      exact ⟨tt, uu, a, b, us, ws, rfl, hs, k _ _ _ F1 G1 H1 s1 w1 it q1⟩
    · exact q1.elim
  · exact q1.elim
/-- a name of the program's text that stands for a tuple made at its head -/
theorem de_cT {X : Cx} {a : Addr} {ds : List D} (h : PE X e (tC (.ref a))) (hk : ∃ vs, SqT X.K (fun _ => none) a vs ∧ Rps X.K (fun _ => none) ds vs) : PE X e (Le X.K F₀ (dC (.tup ds))) :=
  de_c h fun F => by
    obtain ⟨vs, h1, h2⟩ := hk
    have e : Same (fun _ => none : Hp) F := fun b o z => by cases z
    exact .tup (sqT_mono e h1) (h2.mono e)
end
end DL

/-! Data that can be shown; fractions. -/
namespace DL
open PySem PySem.Spec PyProof.Rows L2

/-- what repr asks of data -/
structure Rok (k W : Nat) (p : PyData) : Prop where
  sh : p.showable = true
  ln : p.shown.length ≤ W
  dp : p.depth ≤ k
def Rs (k W : Nat) (d : D) : Prop := ∃ p, toPy d = some p ∧ Rok k W p
theorem Rok.mono {k W k' W' : Nat} {p : PyData} (h : Rok k W p) (hk : k ≤ k') (hW : W ≤ W') : Rok k' W' p := ⟨h.sh, Nat.le_trans h.ln hW, Nat.le_trans h.dp hk⟩
theorem Rs.mono {k W k' W' : Nat} {d : D} (h : Rs k W d) (hk : k ≤ k') (hW : W ≤ W') : Rs k' W' d := let ⟨p, e, r⟩ := h; ⟨p, e, r.mono hk hW⟩
theorem rok_int {i : Int} {K : Nat} (h : i.natAbs < 10 ^ K) (h0 : 0 < K) (h1 : K ≤ 470) : Rok 0 (K + 1) (.int i) := by
  refine ⟨?_, ?_, ?_⟩
  · unfold PyData.showable
    rw [decide_eq_true_iff]
    by_cases n : i.natAbs = 0
    · rw [n]; decide
    · refine (Nat.log2_lt n).mpr (Nat.lt_of_lt_of_le h ?_)
      calc 10 ^ K ≤ 16 ^ K := Nat.pow_le_pow_left (by decide) K
        _ = 2 ^ (4 * K) := by rw [Nat.pow_mul]
        _ ≤ 2 ^ 1920 := Nat.pow_le_pow_right (by decide) (by omega)
  · have e := int_text_length_le10 h0 h
    show (Str.ofString (toString i)).length ≤ _
    rw [PySem.ofString_length]
    exact e
  · unfold PyData.depth; exact Nat.le_refl _
theorem rs_intK {i : Int} {K : Nat} (h : i.natAbs < 10 ^ K) (h0 : 0 < K) (h1 : K ≤ 470) : Rs 0 (K + 1) (.int i) := ⟨_, rfl, rok_int h h0 h1⟩
theorem rs_int {i : Int} (h : i.natAbs < 10 ^ 12) : Rs 0 13 (.int i) := rs_intK h (by decide) (by decide)
theorem rs_bl {b : Bool} : Rs 0 5 (.bl b) := ⟨_, rfl, by unfold PyData.showable; rfl, by cases b <;> decide, by unfold PyData.depth; exact Nat.le_refl _⟩
theorem rs_non : Rs 0 4 .non := ⟨_, rfl, by unfold PyData.showable; rfl, by decide, by unfold PyData.depth; exact Nat.le_refl _⟩
theorem rs_all {k W : Nat} : ∀ {xs : List D}, (∀ x ∈ xs, Rs k W x) → ∃ ps, toPys xs = some ps ∧ PyData.showableAll ps = true ∧ PyData.depthAll ps ≤ k ∧ ((PyData.shownAll ps).map (·.length)).sum ≤ xs.length * W ∧ (PyData.shownAll ps).length = xs.length
  | [], _ => ⟨[], rfl, by unfold PyData.showableAll; rfl, by unfold PyData.depthAll; omega, by unfold PyData.shownAll; simp, by unfold PyData.shownAll; rfl⟩
  | x :: r, h => by
    obtain ⟨p, e, a⟩ := h x List.mem_cons_self
    obtain ⟨ps, e2, a1, a3, a4, a5⟩ := rs_all fun y hy => h y (List.mem_cons_of_mem _ hy)
    refine ⟨p :: ps, by unfold toPys; rw [e, e2], ?_, ?_, ?_, ?_⟩
    · unfold PyData.showableAll; rw [a.sh, a1]; rfl
    · unfold PyData.depthAll; exact Nat.max_le.mpr ⟨a.dp, a3⟩
    · unfold PyData.shownAll
      have := a.ln
      rw [List.map_cons, List.sum_cons, List.length_cons, Nat.add_mul]
      omega
    · unfold PyData.shownAll
      rw [List.length_cons, List.length_cons, a5]
theorem rs_tup {k W : Nat} {xs : List D} (h : ∀ x ∈ xs, Rs k W x) : Rs (k + 1) (xs.length * (W + 2) + 3) (.tup xs) := by
  obtain ⟨ps, e, a1, a3, a4, a5⟩ := rs_all h
  refine ⟨.tuple ps, by unfold toPy; rw [e]; rfl, ?_, ?_, ?_⟩
  · unfold PyData.showable; exact a1
  · have := tupleText_len_le (PyData.shownAll ps)
    unfold PyData.shown
    rw [Nat.mul_add]
    omega
  · unfold PyData.depth; omega
theorem rs_lst {k W : Nat} {xs : List D} (h : ∀ x ∈ xs, Rs k W x) : Rs (k + 1) (xs.length * (W + 2) + 3) (.lst xs) := by
  obtain ⟨ps, e, a1, a3, a4, a5⟩ := rs_all h
  refine ⟨.list ps, by unfold toPy; rw [e]; rfl, ?_, ?_, ?_⟩
  · unfold PyData.showable; exact a1
  · have := listText_len_le (PyData.shownAll ps)
    unfold PyData.shown
    rw [Nat.mul_add]
    omega
  · unfold PyData.depth; omega
theorem rs_py {k W : Nat} {d : D} {G : Gp} (h : Rs k W d) : ∃ p, pyOf d G = some p ∧ Rok k W p := by
  obtain ⟨p, e, r⟩ := h
  refine ⟨p, ?_, r⟩
  cases d with
  | ref a => cases e
  | _ => exact e
theorem py_ref {a : Addr} {xs : List D} {G : Gp} (h : G a = some (.lst xs)) : pyOf (.ref a) G = toPy (.lst xs) := by
  show (match G a with | some (.lst xs) => (toPys xs).map PyData.list | _ => none) = _
  rw [h]
  rfl
theorem repr_py {d : D} {G : Gp} {Q : DK} {k W : Nat} {p : PyData} (e : pyOf d G = some p) (r : Rok k W p) (hk : k ≤ 100) (hW : W ≤ sizeLine) (q : Q (.str p.shown) G) : dRepr [d] G Q := by
  show (match pyOf d G with | some p => p.showable = true ∧ p.shown.length ≤ sizeLine ∧ p.depth ≤ 100 ∧ Q (.str p.shown) G | none => False)
  rw [e]
  exact ⟨r.sh, Nat.le_trans r.ln hW, Nat.le_trans r.dp hk, q⟩
/-- two values of which repr is the same: that of data p -/
def Alike (a b : D) (G : Gp) : Prop := ∃ p k W, k ≤ 100 ∧ W ≤ sizeLine ∧ pyOf a G = some p ∧ pyOf b G = some p ∧ Rok k W p
theorem Alike.rs {k W : Nat} {d : D} {G : Gp} (h : Rs k W d) (hk : k ≤ 100) (hW : W ≤ sizeLine) : Alike d d G := by
  obtain ⟨p, e, r⟩ := rs_py (G := G) h
  exact ⟨p, k, W, hk, hW, e, e, r⟩
theorem Alike.bl {b : Bool} {G : Gp} : Alike (.bl b) (.bl b) G := .rs rs_bl (by decide) (by decide)
theorem Alike.non {G : Gp} : Alike .non .non G := .rs rs_non (by decide) (by decide)
/-- one is a list that may change -/
theorem Alike.refL {a : Addr} {xs : List D} {k W : Nat} {G : Gp} (e : G a = some (.lst xs)) (h : Rs k W (.lst xs)) (hk : k ≤ 100) (hW : W ≤ sizeLine) : Alike (.ref a) (.lst xs) G := by
  obtain ⟨p, e2, r⟩ := h
  exact ⟨p, k, W, hk, hW, (py_ref e).trans e2, e2, r⟩
theorem Alike.symm {a b : D} {G : Gp} (h : Alike a b G) : Alike b a G := let ⟨p, k, W, h1, h2, h3, h4, h5⟩ := h; ⟨p, k, W, h1, h2, h4, h3, h5⟩

/-! ### fractions -/
def fr (x : Rat) : D := .tup [.int x.num, .int x.den]
theorem low_num {a : Int} {b : Nat} (hb : b ≠ 0) : (mkRat a b).num = a / (Nat.gcd a.natAbs b : Nat) ∧ (mkRat a b).den = b / Nat.gcd a.natAbs b := by
  rw [← Rat.normalize_eq_mkRat hb]
  unfold Rat.normalize
  rw [Rat.maybeNormalize_eq]
  exact ⟨Int.divExact_eq_ediv (Int.ofNat_dvd_left.mpr (Nat.gcd_dvd_left _ _)), rfl⟩
theorem den_dvd {x : Rat} {L : Nat} {a : Int} (hL : L ≠ 0) (h : x = mkRat a L) : x.den ∣ L := by
  rw [h, (low_num hL).2]
  exact Nat.div_dvd_of_dvd (Nat.gcd_dvd_right _ _)

theorem mkRat_eq_div (a : Int) (b : Nat) : mkRat a b = (a : Rat) / (b : Rat) := Rat.mkRat_eq_div a b
theorem fr_eq (x : Rat) : x = (x.num : Rat) / (x.den : Rat) := by
  rw [← Rat.mkRat_eq_div]
  exact (Rat.mkRat_self x).symm
theorem mkRat_plus (x y : Rat) : mkRat (x.num * y.den + y.num * x.den) (x.den * y.den) = x + y := by
  rw [← Rat.mkRat_add_mkRat _ _ x.den_nz y.den_nz, Rat.mkRat_self, Rat.mkRat_self]

/-- N parts of which L make one -/
def fq (N : Int) (L : Nat) : D := fr (mkRat N L)
theorem fq_plus (N M : Int) {L : Nat} (h : L ≠ 0) : mkRat N L + mkRat M L = mkRat (N + M) L := by
  rw [Rat.mkRat_add_mkRat _ _ h h, Rat.mkRat_eq_iff (Nat.mul_ne_zero h h) h, Int.natCast_mul]
  rw [← Int.add_mul, Int.mul_assoc]
theorem fq_low (t : Int) {b L : Nat} (hb : b ≠ 0) (h : b ∣ L) (hL : L ≠ 0) : mkRat t b = mkRat (t * (L / b : Nat)) L := by
  obtain ⟨k, rfl⟩ := h
  rw [Rat.mkRat_eq_iff hb hL, Nat.mul_div_cancel_left _ (Nat.pos_of_ne_zero hb), Int.natCast_mul]
  rw [Int.mul_assoc, Int.mul_comm (k : Int)]
theorem fq_unit (k : Int) {L : Nat} (hL : L ≠ 0) : fq (k * L) L = .tup [.int k, .int 1] := by
  have e : mkRat (k * L) L = (k : Rat) := by
    have e1 : (k : Rat) = mkRat k 1 := (Rat.mkRat_one k).symm
    rw [e1, Rat.mkRat_eq_iff hL (by decide)]
    rw [Int.natCast_one, Int.mul_one]
  unfold fq fr
  rw [e]
  rfl
theorem fq_zero {L : Nat} (hL : L ≠ 0) : fq 0 L = .tup [.int 0, .int 1] := by
  have := fq_unit 0 hL
  rwa [Int.zero_mul] at this
theorem fq_num {N : Int} {L : Nat} (hN : 0 ≤ N) (hL : L ≠ 0) : 0 ≤ (mkRat N L).num ∧ (mkRat N L).num ≤ N ∧ 0 < (mkRat N L).den ∧ (mkRat N L).den ≤ L := by
  obtain ⟨e1, e2⟩ := low_num (a := N) hL
  have g0 : 0 < Nat.gcd N.natAbs L := Nat.gcd_pos_of_pos_right _ (Nat.pos_of_ne_zero hL)
  refine ⟨?_, ?_, (mkRat N L).den_pos, ?_⟩
  · rw [e1]; exact Int.ediv_nonneg hN (by omega)
  · rw [e1]; exact Int.ediv_le_self _ hN
  · rw [e2]; exact Nat.div_le_self _ _
theorem rs_fq {N : Int} {L : Nat} (hN : 0 ≤ N) (hN2 : N < 10 ^ 12) (hL : L ≠ 0) (hL2 : L < 10 ^ 12) : Rs 1 33 (fq N L) := by
  obtain ⟨h1, h2, h3, h4⟩ := fq_num hN hL
  refine rs_tup (xs := [.int _, .int _]) (k := 0) (W := 13) fun x hx => ?_
  rcases List.mem_cons.mp hx with rfl | hx
  · exact rs_int (by omega)
  · rw [List.mem_singleton.mp hx]
    exact rs_int (by omega)
end DL

/-! Loops and comprehensions over what is told by a list of another kind. -/
namespace DL
open PySem PySem.Spec PyProof.Rows L2
theorem compL_src {α : Type} {g : DG} {te : DE} {S : Gp → Prop} {p : Addr} {δ : Sl} {G : Gp} {Q : List D → Gp → Prop} (s f : α → D) (hS : ∀ ys, S (gu G p (.lst ys))) : ∀ (l : List α) (acc : List D),
    (∀ x ∈ l, ∀ ys (Q : DK), Q (f x) (gu G p (.lst ys)) → g (s x) δ (gu G p (.lst ys)) fun δ2 G2 => te δ2 G2 Q) → acc.length + l.length ≤ sizeLine →
    Q (acc ++ l.map f) (gu G p (.lst (acc ++ l.map f))) → compL g dYes te S p δ (l.map s) acc (gu G p (.lst acc)) Q
  | [], acc, _, _, q => ⟨hS _, gu_same, by rwa [List.map_nil, List.append_nil] at q⟩
  | x :: r, acc, h, hl, q => by
    refine ⟨hS _, gu_same, ?_⟩
    rw [List.length_cons] at hl
    have key := h x List.mem_cons_self acc (fun y G4 => G4 p = some (.lst acc) ∧ acc.length < sizeLine ∧ compL g dYes te S p δ (r.map s) (acc ++ [y]) (gu G4 p (.lst (acc ++ [y]))) Q) ⟨gu_same, by omega, by
      rw [gu_gu]
      refine compL_src s f hS r (acc ++ [f x]) (fun z hz => h z (List.mem_cons_of_mem _ hz)) (by rw [List.length_append, List.length_singleton]; omega) ?_
      rw [List.append_assoc]
      exact q⟩
    exact key
/-- a comprehension over the s x, x in l, that gives the f x -/
theorem lc_src {α : Type} {g : DG} {te : DE} {S : Gp → Prop} {δ : Sl} {G : Gp} {Q : DK} (l : List α) (s f : α → D) {its : List D} (e : its = l.map s) (hl : l.length ≤ sizeLine) (hS : ∀ p ys, G p = none → S (gu G p (.lst ys)))
    (h : ∀ x ∈ l, ∀ p ys (Q : DK), G p = none → Q (f x) (gu G p (.lst ys)) → g (s x) δ (gu G p (.lst ys)) fun δ2 G2 => te δ2 G2 Q)
    (q : Q (.lst (l.map f)) G) : ∀ p, G p = none → compL g dYes te S p δ its [] (gu G p (.lst [])) (endLc false Q p) := fun p hp => by
  subst e
  refine compL_src s f (fun ys => hS p ys hp) l [] (fun x hx ys Q' k => h x hx p ys Q' hp k) (by simpa using hl) ?_
  show Q (.lst ([] ++ l.map f)) (gd (gu G p _) p)
  rw [gd_gu hp, List.nil_append]
  exact q
/-- the same where the list may change later -/
theorem lc_srcM {α : Type} {g : DG} {te : DE} {S : Gp → Prop} {δ : Sl} {G : Gp} {Q : DK} (l : List α) (s f : α → D) {its : List D} (e : its = l.map s) (hl : l.length ≤ sizeLine) (hS : ∀ p ys, G p = none → S (gu G p (.lst ys)))
    (h : ∀ x ∈ l, ∀ p ys (Q : DK), G p = none → Q (f x) (gu G p (.lst ys)) → g (s x) δ (gu G p (.lst ys)) fun δ2 G2 => te δ2 G2 Q)
    (q : ∀ p, G p = none → Q (.ref p) (gu G p (.lst (l.map f)))) : ∀ p, G p = none → compL g dYes te S p δ its [] (gu G p (.lst [])) (endLc true Q p) := fun p hp => by
  subst e
  refine compL_src s f (fun ys => hS p ys hp) l [] (fun x hx ys Q' k => h x hx p ys Q' hp k) (by simpa using hl) ?_
  show Q (.ref p) (gu G p _)
  rw [List.nil_append]
  exact q p hp
/-- a loop over the s x, by an invariant over what is left of l -/
theorem forL_src {α : Type} {g : DG} {tb : DS} {S : Gp → Prop} {E : DEnds} (s : α → D) (W : List α → Sl → Gp → Prop) (hS : ∀ l δ G, W l δ G → S G) (hs : ∀ x r δ G (N : Sl → Gp → Prop), W (x :: r) δ G → (∀ δ G, W r δ G → N δ G) → g (s x) δ G fun δ1 G1 => tb { E with nx := N, ct := N, bk := E.nx } δ1 G1)
    (hd : ∀ δ G, W [] δ G → E.nx δ G) : ∀ (l : List α) (its : List D), its = l.map s → ∀ δ G, W l δ G → forL g tb S its E δ G
  | [], _, rfl, δ, G, w => ⟨hS _ _ _ w, hd δ G w⟩
  | x :: r, _, rfl, δ, G, w => ⟨hS _ _ _ w, hs x r δ G _ w fun δ G w => forL_src s W hS hs hd r _ rfl δ G w⟩
theorem prs_zip {α β : Type} (f : α → D) (g : β → D) : ∀ (l : List α) (k : List β), prsD (l.map f) (k.map g) = (l.zip k).map fun p => .tup [f p.1, g p.2]
  | [], _ => rfl
  | _ :: _, [] => rfl
  | x :: r, y :: q => by
    show D.tup [f x, g y] :: prsD (r.map f) (q.map g) = _
    rw [prs_zip f g r q]
    rfl
theorem enumI_map {α : Type} (f : α → D) : ∀ (l : List α) (k : Nat), enumI k (l.map f) = (l.zipIdx k).map fun p => .tup [.int (p.2 : Nat), f p.1]
  | [], _ => rfl
  | x :: r, k => by
    show D.tup [.int k, f x] :: enumI ((k : Int) + 1) (r.map f) = _
    rw [show ((k : Int) + 1) = ((k + 1 : Nat) : Int) by omega, enumI_map f r (k + 1)]
    rfl
theorem at_neg1 {α : Type} {l : List α} (h : l ≠ []) : atI l (-1) = some (l.getLast h) := by
  have hl : 0 < l.length := List.length_pos_iff.mpr h
  unfold atI ixN
  rw [if_neg (by omega), if_pos (by omega)]
  show l[((-1 : Int) + (l.length : Int)).toNat]? = _
  rw [show ((-1 : Int) + (l.length : Int)).toNat = l.length - 1 by omega, List.getLast_eq_getElem, List.getElem?_eq_getElem]
theorem got_last {l : List D} {G : Gp} {Q : DK} (h : l ≠ []) : gotI l (-1) G Q = Q (l.getLast h) G := got_eq (at_neg1 h)
section
variable {G : Gp} {Q : DK} {m : Bool} {xs ys : List D} {p q : Addr}
theorem w_add_lr (h : G p = some (.lst ys)) : dAdd m (.lst xs) (.ref p) G Q = (xs.length + ys.length ≤ sizeLine ∧ nL m (xs ++ ys) G Q) := by
  show (match lstOf (.lst xs) G, lstOf (.ref p) G with | some a, some b => a.length + b.length ≤ sizeLine ∧ nL m (a ++ b) G Q | _, _ => False) = _
  rw [lst_ref h, lst_lst]
theorem w_add_rl (h : G p = some (.lst ys)) : dAdd m (.ref p) (.lst xs) G Q = (ys.length + xs.length ≤ sizeLine ∧ nL m (ys ++ xs) G Q) := by
  show (match lstOf (.ref p) G, lstOf (.lst xs) G with | some a, some b => a.length + b.length ≤ sizeLine ∧ nL m (a ++ b) G Q | _, _ => False) = _
  rw [lst_ref h, lst_lst]
theorem w_add_rr (h : G p = some (.lst xs)) (h2 : G q = some (.lst ys)) : dAdd m (.ref p) (.ref q) G Q = (xs.length + ys.length ≤ sizeLine ∧ nL m (xs ++ ys) G Q) := by
  show (match lstOf (.ref p) G, lstOf (.ref q) G with | some a, some b => a.length + b.length ≤ sizeLine ∧ nL m (a ++ b) G Q | _, _ => False) = _
  rw [lst_ref h, lst_ref h2]
theorem w_add_lg : dAdd m (.lst xs) (.ref p) (gu G p (.lst ys)) Q = (xs.length + ys.length ≤ sizeLine ∧ nL m (xs ++ ys) (gu G p (.lst ys)) Q) := w_add_lr gu_same
theorem w_add_gl : dAdd m (.ref p) (.lst xs) (gu G p (.lst ys)) Q = (ys.length + xs.length ≤ sizeLine ∧ nL m (ys ++ xs) (gu G p (.lst ys)) Q) := w_add_rl gu_same
end
end DL

/-! Equality of like data. -/
namespace DL
open PySem PySem.Spec PyProof.Rows L2
/-- data that == can hold, no deeper than k -/
def Es (k : Nat) (d : D) : Prop := ∃ p, toPy d = some p ∧ p.canLay0 = true ∧ p.depth ≤ k
theorem es_int {i : Int} : Es 0 (.int i) := ⟨_, rfl, by unfold PyData.canLay0; rfl, by unfold PyData.depth; exact Nat.le_refl _⟩
theorem es_bl {i : Bool} : Es 0 (.bl i) := ⟨_, rfl, by unfold PyData.canLay0; rfl, by unfold PyData.depth; exact Nat.le_refl _⟩
theorem es_non : Es 0 .non := ⟨_, rfl, by unfold PyData.canLay0; rfl, by unfold PyData.depth; exact Nat.le_refl _⟩
theorem Es.mono {k k' : Nat} {d : D} (h : Es k d) (hk : k ≤ k') : Es k' d := let ⟨p, e, a, b⟩ := h; ⟨p, e, a, Nat.le_trans b hk⟩
theorem es_all {k : Nat} : ∀ {xs : List D}, (∀ x ∈ xs, Es k x) → ∃ ps, toPys xs = some ps ∧ PyData.canLayAll0 ps = true ∧ PyData.depthAll ps ≤ k
  | [], _ => ⟨[], rfl, by unfold PyData.canLayAll0; rfl, by unfold PyData.depthAll; omega⟩
  | x :: r, h => by
    obtain ⟨p, e, a, b⟩ := h x List.mem_cons_self
    obtain ⟨ps, e2, a1, a2⟩ := es_all fun y hy => h y (List.mem_cons_of_mem _ hy)
    refine ⟨p :: ps, by unfold toPys; rw [e, e2], ?_, ?_⟩
    · unfold PyData.canLayAll0; rw [a, a1]; rfl
    · unfold PyData.depthAll; exact Nat.max_le.mpr ⟨b, a2⟩
theorem es_tup {k : Nat} {xs : List D} (h : ∀ x ∈ xs, Es k x) : Es (k + 1) (.tup xs) := by
  obtain ⟨ps, e, a1, a2⟩ := es_all h
  exact ⟨.tuple ps, by unfold toPy; rw [e]; rfl, by unfold PyData.canLay0; exact a1, by unfold PyData.depth; omega⟩
theorem es_lst {k : Nat} {xs : List D} (h : ∀ x ∈ xs, Es k x) : Es (k + 1) (.lst xs) := by
  obtain ⟨ps, e, a1, a2⟩ := es_all h
  exact ⟨.list ps, by unfold toPy; rw [e]; rfl, by unfold PyData.canLay0; exact a1, by unfold PyData.depth; omega⟩
theorem Es.shaped {k : Nat} {d : D} (h : Es k d) (hk : k ≤ 64) : ∃ p, toPy d = some p ∧ SeqAt.shaped p = true ∧ p.canLay0 = true := by
  obtain ⟨p, e, a, b⟩ := h
  exact ⟨p, e, by unfold SeqAt.shaped; rw [a, decide_eq_true (by omega)]; rfl, a⟩
section
variable {G : Gp} {Q : DK} {xs ys : List D} {k : Nat}
theorem w_ne_same (h : Es k (.tup xs)) (hk : k ≤ 64) : dNe (.tup xs) (.tup xs) G Q = Q (.bl false) G := by
  obtain ⟨p, e, a, c⟩ := h.shaped hk
  show (match toPy (.tup xs), toPy (.tup xs) with | some p, some q => SeqAt.shaped p = true ∧ SeqAt.shaped q = true ∧ Q (.bl (!PyData.eqv p q)) G | _, _ => False) = _
  rw [e]
  simp only [a, true_and]
  rw [SeqAt.eqv_refl p c]
  rfl
theorem w_eq_same (h : Es k (.tup xs)) (hk : k ≤ 64) : dEq (.tup xs) (.tup xs) G Q = Q (.bl true) G := by
  obtain ⟨p, e, a, c⟩ := h.shaped hk
  show (match toPy (.tup xs), toPy (.tup xs) with | some p, some q => SeqAt.shaped p = true ∧ SeqAt.shaped q = true ∧ Q (.bl (PyData.eqv p q)) G | _, _ => False) = _
  rw [e]
  simp only [a, true_and]
  rw [SeqAt.eqv_refl p c]
end
theorem isi_refL {a : Addr} {xs : List D} {G : Gp} {Q : DK} (h : G a = some (.lst xs)) : dIsi [.ref a, .ty "list"] G Q = Q (.bl true) G := by
  show (match tyOf (.ref a) G with | some n => _ ∧ Q (.bl (subTy n "list")) G | none => False) = _
  rw [show tyOf (.ref a) G = some "list" by show (match G a with | some (.lst _) => some "list" | some (.abl _) => some "list" | some (.dct _) => some "dict" | _ => none) = _; rw [h]]
  simp [subTy]
/-- a condition that is b, so much being known of what stands behind it -/
theorem ifS_mkI {c : DT} {t u : DS} {E : DEnds} {δ : Sl} {G : Gp} (I : Gp → Prop) (b : Bool) (hc : ∀ Q : Bool → Gp → Prop, (∀ G', I G' → Q b G') → c δ G Q) (ht : b = true → ∀ G', I G' → t E δ G') (hu : b = false → ∀ G', I G' → u E δ G') : dIfS c t u E δ G :=
  hc _ fun G' i => by
    cases b with
    | true => exact ht rfl G' i
    | false => exact hu rfl G' i
end DL

/-! Instances of own classes: made, fields read and set, methods. -/
namespace DL
open PySem PySem.Spec PyProof.Rows L2

/-- the class n stands at C -/
def IsC (K : PySem.W.Frag) (n : Str) (C : Addr) : Prop := PySem.W.nsIn K mainGlobals n = some (some (.ref C))
theorem IsC.inj {K : PySem.W.Frag} {n : Str} {C C' : Addr} (h : IsC K n C) (h' : IsC K n C') : C = C' := by
  have e := h.symm.trans h'
  cases e
  rfl
theorem Rpf.lookup {K : PySem.W.Frag} {F : Hp} : ∀ {fs : List (Str × D)} {fv : List (Str × V)} {f : Str} {d : D}, Rpf K F fs fv → fs.lookup f = some d → ∃ v, fv.lookup f = some v ∧ Rp K F d v
  | [], _, _, _, _, h => by simp at h
  | (k, x) :: r, _, f, d, q, h => by
    cases q with
    | cons a b =>
      rename_i v vs
      rw [List.lookup_cons] at h ⊢
      cases e : f == k with
      | true =>
        rw [e] at h
        cases h
        exact ⟨_, rfl, a⟩
      | false =>
        rw [e] at h
        exact b.lookup h
theorem Rpf.none {K : PySem.W.Frag} {F : Hp} : ∀ {fs : List (Str × D)} {fv : List (Str × V)} {f : Str}, Rpf K F fs fv → fs.lookup f = none → fv.lookup f = none
  | [], _, _, q, _ => by cases q; rfl
  | (k, x) :: r, _, f, q, h => by
    cases q with
    | cons a b =>
      rw [List.lookup_cons] at h ⊢
      cases e : f == k with
      | true => rw [e] at h; cases h
      | false =>
        rw [e] at h
        exact b.none h
theorem Rpf.length {K : PySem.W.Frag} {F : Hp} : ∀ {fs : List (Str × D)} {fv : List (Str × V)}, Rpf K F fs fv → fs.length = fv.length
  | [], _, q => by cases q; rfl
  | _ :: _, _, q => by cases q with | cons a b => rw [List.length_cons, List.length_cons, b.length]
/-- a field put -/
def putD (f : Str) (d : D) : List (Str × D) → List (Str × D)
  | [] => [(f, d)]
  | (g, e) :: r => if g = f then (g, d) :: r else (g, e) :: putD f d r
theorem Rpf.put {K : PySem.W.Frag} {F : Hp} {f : Str} {d : D} {v : V} (r : Rp K F d v) : ∀ {fs : List (Str × D)} {fv : List (Str × V)}, Rpf K F fs fv → Rpf K F (putD f d fs) (putF f v fv)
  | [], _, q => by cases q; exact .cons r .nil
  | (g, e) :: fs, _, q => by
    cases q with
    | cons a b =>
      show Rpf K F (if g = f then (g, d) :: fs else (g, e) :: putD f d fs) (if g = f then _ else _)
      by_cases h : g = f
      · rw [if_pos h, if_pos h]; exact .cons r b
      · rw [if_neg h, if_neg h]; exact .cons a (b.put r)
/-- the fields of an instance of the class n -/
def insOf (x : D) (G : Gp) (n : Str) : Option (List (Str × D)) := match x with
  | .ref a => match G a with | some (.ins m fs) => if m = n then some fs else none | _ => none
  | .obj m fs => if m = n then some fs else none
  | _ => none
theorem insOf_ok {K : PySem.W.Frag} {F H : Hp} {G : Gp} {d : D} {v : V} {n : Str} {fs : List (Str × D)} (w : Wd K F G H) (r : Rp K F d v) (h : insOf d G n = some fs) : ∃ a C dx fv, v = .ref a ∧ IsC K n C ∧ H a = some (.ins C dx fv) ∧ Rpf K F fs fv := by
  cases d with
  | ref a =>
    cases r
    have h' : (match G a with | some (.ins m fs) => if m = n then some fs else none | _ => none) = some fs := h
    split at h'
    · rename_i m fs' e
      by_cases hm : m = n
      · rw [if_pos hm] at h'
        cases h'
        subst hm
        obtain ⟨_, C, dx, fv, hn, hH, hr⟩ := w.mu a _ e
        exact ⟨a, C, dx, fv, rfl, hn, hH, hr⟩
      · rw [if_neg hm] at h'; cases h'
    · cases h'
  | obj m fs' =>
    have h' : (if m = n then some fs' else none) = some fs := h
    by_cases hm : m = n
    · rw [if_pos hm] at h'
      cases h'
      subst hm
      cases r with
      | obj hn e b => exact ⟨_, _, _, _, rfl, hn, w.fz _ _ e, b⟩
    · rw [if_neg hm] at h'; cases h'
  | _ => cases h
/-- o.f -/
def dFldR (n f : Str) (x : D) (G : Gp) (Q : DK) : Prop := match insOf x G n with
  | some fs => match fs.lookup f with
    | some d => Q d G
    | none => False
  | none => False
def dFld (n f : Str) (te : DE) : DE := fun δ G Q => te δ G fun x G1 => dFldR n f x G1 Q
section
variable {X : Cx} {F₀ : Hp} {CX : CXT} {k : Nat} {f C : Addr} {fd : FuncData} {ps : List Str} {sp : DSp} {E : XK} {E' : DX} {x m n g : Str} {p pos pos' apos tpos : Pos} {e o value : Expr} {es : List Expr} {ta tv to : DE} {t : DA}
theorem de_fld (hC : IsC X.K n C) (c : Cls X.K C) (na : NoAttr X.K C g) (he : PE X e (Le X.K F₀ ta)) (hb : attributeBase e g X.env (eval e X.env) = eval e X.env := by rfl) : PE X (.Attribute e g pos) (Le X.K F₀ (dFld n g ta)) :=
  pe_imp (pe_fld he hb) fun σ H Q ⟨δ, F, G, Q', s, en, w, q, k⟩ => ⟨δ, F, G, _, s, en, w, q, fun y v F1 G1 H1 s1 w1 r1 q1 => by
    unfold dFldR at q1
    split at q1
    · rename_i fs ei
      obtain ⟨a, C', dx, fv, rfl, hC', hH, hr⟩ := insOf_ok w1 r1 ei
      cases hC.inj hC'
      split at q1
      · rename_i d el
        obtain ⟨u, hu, ru⟩ := hr.lookup el
        exact ⟨a, C, dx, fv, u, rfl, hH, c, na, hu, k d u F1 G1 H1 s1 w1 ru q1⟩
      · exact q1.elim
    · exact q1.elim⟩
/-- o.f = value -/
def setFldR (n f : Str) (x y : D) (G : Gp) (Q : Gp → Prop) : Prop := match x with
  | .ref a => match G a with
    | some (.ins m fs) => m = n ∧ fs.length < 1000 ∧ Q (gu G a (.ins n (putD f y fs)))
    | _ => False
  | _ => False
def dSetFld (n f : Str) (to tv : DE) : DS := fun D δ G => tv δ G fun y G1 => to δ G1 fun x G2 => setFldR n f x y G2 fun G3 => D.nx δ G3
theorem setFld_ok {K : PySem.W.Frag} {F H : Hp} {G : Gp} {d y : D} {v u : V} {Q : Gp → Prop} (w : Wd K F G H) (r : Rp K F d v) (ry : Rp K F y u) (h : setFldR n g d y G Q) : ∃ a C dx fv, v = .ref a ∧ IsC K n C ∧ H a = some (.ins C dx fv) ∧ fv.length < 1000 ∧
    ∃ G', Q G' ∧ Wd K F G' (upd H a (.ins C dx (putF g u fv))) := by
  cases d with
  | ref a =>
    cases r
    have h' : (match G a with | some (.ins m fs) => m = n ∧ fs.length < 1000 ∧ Q (gu G a (.ins n (putD g y fs))) | _ => False) := h
    split at h'
    · rename_i m fs e
      obtain ⟨rfl, hl, hq⟩ := h'
      obtain ⟨hF, C, dx, fv, hn, hH, hr⟩ := w.mu a _ e
      exact ⟨a, C, dx, fv, rfl, hn, hH, by rw [← hr.length]; exact hl, _, hq, w.put (g := .ins m (putD g y fs)) hF ⟨C, dx, _, hn, upd_same, hr.put ry⟩⟩
    · exact h'.elim
  | _ => exact (show False from h).elim
theorem ds_fld (hC : IsC X.K n C) (c : Cls X.K C) (na : NoAttr X.K C g) (ho : PE X o (Le X.K F₀ to)) (hv : PE X value (Le X.K F₀ tv)) (hs : swapsWith value (some (.Attribute o g pos')) pos.line X.env = pure false := by rfl) :
    PS X (.Assign [.Attribute o g pos'] value pos) (Ls X.K F₀ (dSetFld n g to tv)) := ps_imp (ps_fld ho hv hs) fun D σ H ⟨δ, F, G, D', s, en, w, q, k⟩ =>
  ⟨δ, F, G, _, s, en, w, q, fun y u F1 G1 H1 s1 w1 r1 q1 => ⟨δ, F1, G1, _, s.trans s1, en.mono s1, w1, q1, fun d v F2 G2 H2 s2 w2 r2 q2 => by
    obtain ⟨a, C', dx, fv, rfl, hC', hH, hl, G', hq, w'⟩ := setFld_ok w2 r2 (r1.mono s2) q2
    cases hC.inj hC'
    exact ⟨a, C, dx, fv, rfl, hH, c, na, hl, k.nx δ σ F2 G' _ (s1.trans s2) ((en.mono s1).mono s2) w' hq⟩⟩⟩
/-- o.f += value, whole numbers -/
def dAugFld (n f : Str) (to tv : DE) : DS := fun D δ G => to δ G fun x G1 => dFldR n f x G1 fun z G2 => match z with
  | .int i => tv δ G2 fun y G3 => match y with
    | .int j => setFldR n f x (.int (i + j)) G3 fun G4 => D.nx δ G4
    | _ => False
  | _ => False
/-- o.m(e, ..) -/
def dMeth (n m : Str) (sp : DSp) (E' : DX) (to : DE) (t : DA) : DE := fun δ G Q => to δ G fun x G1 => (∃ fs, insOf x G1 n = some fs ∧ fs.lookup m = none) ∧ t δ G1 fun ds G2 => sp (x :: ds) G2 Q E'
theorem de_meth {pl : Sem Bool} (hC : IsC X.K n C) (c : Cls X.K C) (hm : Meth X.K C m f) (F : FnG X.prog X.w X.K X.mg X.base CX k f fd ps (LSp X.K sp)) (hr : Room k X.A) (hmu : Mute X.A) (hb : Binds X.K fd ps []) (hx : Passes CX X E) (ke : KoE X.K F₀ E' E)
    (ho : PE X o (Le X.K F₀ to)) (ha : PA X (e :: es) (La X.K F₀ t))
    (hst : starEach (e :: es) X.env = (false, eval e X.env) :: starEach es X.env := by rfl) (hpl : (backTo pos (starEach es X.env)).any (·.1) = false := by rfl)
    (ht : eval (.Call (.Attribute o m apos) (e :: es) [] pos) X.env = (do
      let ov ← eval o X.env
      standAt apos.atName
      let (f, first) ← holding [ov] (getMethod ov m pl)
      callWith pos f first (backTo pos (starEach (e :: es) X.env)) (backToKw pos (keywordEach [] X.env))) := by rfl) :
    PE X (.Call (.Attribute o m apos) (e :: es) [] pos) (Le X.K F₀ (dMeth n m sp E' to t)) := pe_imp (pe_methG (pl := pl) ho c hm F hr hmu hb hx ha hst hpl ht) fun σ H Q ⟨δ, F, G, Q', s, en, w, q, k⟩ =>
  ⟨δ, F, G, _, s, en, w, q, fun y v F1 G1 H1 s1 w1 r1 q1 => by
    obtain ⟨⟨fs, ei, el⟩, q1⟩ := q1
    obtain ⟨a, C', dx, fv, rfl, hC', hH, hr'⟩ := insOf_ok w1 r1 ei
    cases hC.inj hC'
    exact ⟨a, dx, fv, rfl, hH, hr'.none el, δ, F1, G1, _, s.trans s1, en.mono s1, w1, q1, fun ds vs F2 G2 H2 s2 w2 r2 q2 => ⟨F2, G2, _, Q', E', .cons (r1.mono s2) r2, w2, q2, k.mono (s1.trans s2), ke.mono ((s.trans s1).trans s2)⟩⟩⟩
theorem de_meth0 {pl : Sem Bool} (hC : IsC X.K n C) (c : Cls X.K C) (hm : Meth X.K C m f) (F : FnG X.prog X.w X.K X.mg X.base CX k f fd ps (LSp X.K sp)) (hr : Room k X.A) (hmu : Mute X.A) (hb : Binds X.K fd ps []) (hx : Passes CX X E) (ke : KoE X.K F₀ E' E)
    (ho : PE X o (Le X.K F₀ to))
    (ht : eval (.Call (.Attribute o m apos) [] [] pos) X.env = (do
      let ov ← eval o X.env
      standAt apos.atName
      let (f, first) ← holding [ov] (getMethod ov m pl)
      callWith pos f first (backTo pos (starEach [] X.env)) (backToKw pos (keywordEach [] X.env))) := by rfl) :
    PE X (.Call (.Attribute o m apos) [] [] pos) (Le X.K F₀ (dMeth n m sp E' to aNil)) := pe_imp (pe_methG0 (pl := pl) ho c hm F hr hmu hb hx ht) fun σ H Q ⟨δ, F, G, Q', s, en, w, q, k⟩ =>
  ⟨δ, F, G, _, s, en, w, q, fun y v F1 G1 H1 s1 w1 r1 q1 => by
    obtain ⟨⟨fs, ei, el⟩, q1⟩ := q1
    obtain ⟨a, C', dx, fv, rfl, hC', hH, hr'⟩ := insOf_ok w1 r1 ei
    cases hC.inj hC'
    exact ⟨a, dx, fv, rfl, hH, hr'.none el, F1, G1, _, Q', E', .cons r1 .nil, w1, q1, k.mono s1, ke.mono (s.trans s1)⟩⟩
/-- C(e, ..) -/
def dMake (n : Str) (sp : DSp) (E' : DX) (t : DA) : DE := fun δ G Q => t δ G fun ds G1 => ∀ p, G1 p = none → sp (.ref p :: ds) (gu G1 p (.ins n [])) (fun v G2 => v = .non ∧ Q (.ref p) G2) E'
theorem de_make (hC : IsC X.K n C) (M : Mk X.K C f) (F : FnG X.prog X.w X.K X.mg X.base CX k f fd ps (LSp X.K sp)) (hr : Room (k + 1) X.A) (hmu : Mute X.A) (hg : Gl X x) (hm : X.mg x = some (.ref C)) (hb : Binds X.K fd ps []) (hx : Passes CX X E) (ke : KoE X.K F₀ E' E)
    (ha : PA X (e :: es) (La X.K F₀ t)) (hdb : (x == ("__debug__" : Str)) = false := by decide) (he : starEach (e :: es) X.env = (false, eval e X.env) :: starEach es X.env := by rfl) (hpl : (backTo pos (starEach es X.env)).any (·.1) = false := by rfl) :
    PE X (.Call (.Name x p) (e :: es) [] pos) (Le X.K F₀ (dMake n sp E' t)) := pe_imp (pe_makeG M F hr hmu hg hm hb hx ha hdb he hpl) fun σ H Q ⟨δ, F, G, Q', s, en, w, q, k⟩ =>
  ⟨δ, F, G, _, s, en, w, q, fun ds vs F1 G1 H1 s1 w1 r1 q1 p dx hp hd hne => by
    have g1 := w1.gfree hp
    have w2 := w1.newN hd (.own p)
    have hp2 : upd H1 dx (.own p) p = none := by rw [upd_ne (Ne.symm hne)]; exact hp
    have w3 : Wd X.K F1 (gu G1 p (.ins n [])) (upd (upd H1 dx (.own p)) p (.ins C dx [])) := w2.put (g := .ins n []) (w2.ffree hp2) ⟨C, dx, [], hC, upd_same, .nil⟩
    refine ⟨F1, _, _, _, E', .cons (.ref p) r1, w3, q1 p g1, fun d v F2 G2 H2 s2 w4 r2 q2 => ?_, ke.mono (s.trans s1)⟩
    obtain ⟨rfl, q2⟩ := q2
    cases r2
    exact ⟨rfl, k (.ref p) _ F2 G2 H2 (s1.trans s2) w4 (.ref p) q2⟩⟩
theorem de_make0 (hC : IsC X.K n C) (M : Mk X.K C f) (F : FnG X.prog X.w X.K X.mg X.base CX k f fd ps (LSp X.K sp)) (hr : Room (k + 1) X.A) (hmu : Mute X.A) (hg : Gl X x) (hm : X.mg x = some (.ref C)) (hb : Binds X.K fd ps []) (hx : Passes CX X E) (ke : KoE X.K F₀ E' E)
    (hdb : (x == ("__debug__" : Str)) = false := by decide) :
    PE X (.Call (.Name x p) [] [] pos) (Le X.K F₀ (dMake n sp E' aNil)) := pe_imp (pe_makeG0 M F hr hmu hg hm hb hx hdb) fun σ H Q ⟨δ, F1, G1, Q', s, en, w1, q, k⟩ => fun p dx hp hd hne => by
    have g1 := w1.gfree hp
    have w2 := w1.newN hd (.own p)
    have hp2 : upd H dx (.own p) p = none := by rw [upd_ne (Ne.symm hne)]; exact hp
    have w3 : Wd X.K F1 (gu G1 p (.ins n [])) (upd (upd H dx (.own p)) p (.ins C dx [])) := w2.put (g := .ins n []) (w2.ffree hp2) ⟨C, dx, [], hC, upd_same, .nil⟩
    refine ⟨F1, _, _, _, E', .cons (.ref p) .nil, w3, q p g1, fun d v F2 G2 H2 s2 w4 r2 q2 => ?_, ke.mono s⟩
    obtain ⟨rfl, q2⟩ := q2
    cases r2
    exact ⟨rfl, k (.ref p) _ F2 G2 H2 s2 w4 (.ref p) q2⟩
theorem ds_augfld (hC : IsC X.K n C) (c : Cls X.K C) (na : NoAttr X.K C g) (ho : PE X o (Le X.K F₀ to)) (hv : PE X value (Le X.K F₀ tv)) : PS X (.AugAssign (.Attribute o g tpos) .Add value pos) (Ls X.K F₀ (dAugFld n g to tv)) :=
  ps_imp (ps_fldaug ho hv in_add) fun D σ H ⟨δ, F, G, D', s, en, w, q, k⟩ => ⟨δ, F, G, _, s, en, w, q, fun y v F1 G1 H1 s1 w1 r1 q1 => by
    unfold dFldR at q1
    split at q1
    · rename_i fs ei
      obtain ⟨a, C', dx, fv, rfl, hC', hH, hr⟩ := insOf_ok w1 r1 ei
      cases hC.inj hC'
      split at q1
      · rename_i d el
        obtain ⟨u, hu, ru⟩ := hr.lookup el
        cases d with
        | int i =>
          cases ru
          refine ⟨a, C, dx, fv, _, rfl, hH, c, na, hu, δ, F1, G1, _, s.trans s1, en.mono s1, w1, q1, fun z u2 F2 G2 H2 s2 w2 r2 q2 => ?_⟩
          cases z with
          | int j =>
            cases r2
            obtain ⟨a', C', dx', fv', e', hC', hH', hl', G', hq, w'⟩ := setFld_ok (u := .int (i + j)) w2 (r1.mono s2) (.int _) q2
            cases e'
            cases hC.inj hC'
            exact ⟨_, _, rfl, rfl, dx', fv', hH', hl', k.nx δ σ F2 G' _ (s1.trans s2) ((en.mono s1).mono s2) w' hq⟩
          | _ => exact (show False from q2).elim
        | _ => exact (show False from q1).elim
      · exact q1.elim
    · exact q1.elim⟩
end
end DL

/-! Fractions of any sign; how great they are. -/
namespace DL
open PySem PySem.Spec PyProof.Rows L2

theorem MulOk.big {i j : Int} {a : Nat} (hi : i.natAbs < 2 ^ a) (hj : j.natAbs < 2 ^ a) (ha : 0 < a) (ha2 : a ≤ 500000) : MulOk i j := .w hi hj ha ha (by omega)
/-- told with denominators that divide L, between -C and C -/
structure Sz (L C : Nat) (x : Rat) : Prop where
  dv : x.den ∣ L
  lo : -(C : Rat) ≤ x
  hi : x ≤ (C : Rat)
theorem rat_over {x : Rat} {L : Nat} (hL : L ≠ 0) (h : x.den ∣ L) : x = mkRat (x.num * (L / x.den : Nat)) L := by
  rw [← fq_low _ x.den_nz h hL, Rat.mkRat_self]
theorem Sz.add {L C E : Nat} {x y : Rat} (hL : L ≠ 0) (a : Sz L C x) (b : Sz L E y) : Sz L (C + E) (x + y) := by
  refine ⟨?_, ?_, ?_⟩
  · have e : x + y = mkRat (x.num * (L / x.den : Nat) + y.num * (L / y.den : Nat)) L := by
      rw [← fq_plus _ _ hL, ← rat_over hL a.dv, ← rat_over hL b.dv]
    exact den_dvd hL e
  · have h1 := a.lo
    have h2 := b.lo
    rw [Rat.natCast_add]
    grind
  · have h1 := a.hi
    have h2 := b.hi
    rw [Rat.natCast_add]
    grind
theorem Sz.neg {L C : Nat} {x : Rat} (a : Sz L C x) : Sz L C (-x) := by
  have h1 := a.lo
  have h2 := a.hi
  exact ⟨by rw [Rat.neg_den]; exact a.dv, by grind, by grind⟩
theorem Sz.sub {L C E : Nat} {x y : Rat} (hL : L ≠ 0) (a : Sz L C x) (b : Sz L E y) : Sz L (C + E) (x - y) := by
  rw [Rat.sub_eq_add_neg]
  exact a.add hL b.neg
theorem Sz.mono {L M C E : Nat} {x : Rat} (a : Sz L C x) (h : L ∣ M) (k : C ≤ E) : Sz M E x := by
  have h1 := a.lo
  have h2 := a.hi
  have h3 : (C : Rat) ≤ (E : Rat) := by
    rw [Rat.natCast_le_natCast]
    exact k
  exact ⟨Nat.dvd_trans a.dv h, by grind, by grind⟩
theorem Sz.low {L C : Nat} {t : Int} {b : Nat} (hL : L ≠ 0) (hb : b ≠ 0) (h : b ∣ L) (h1 : -(C * b : Int) ≤ t) (h2 : t ≤ C * b) : Sz L C (mkRat t b) := by
  refine ⟨Nat.dvd_trans (den_dvd hb rfl) h, ?_, ?_⟩
  · have e : mkRat t b * (b : Rat) = (t : Rat) := by
      rw [Rat.mkRat_eq_div, Rat.div_mul_cancel]
      exact fun z => hb (by have := Rat.natCast_pos.mpr (Nat.pos_of_ne_zero hb); rw [z] at this; exact absurd this (by decide))
    refine Rat.le_of_mul_le_mul_right (c := (b : Rat)) ?_ (Rat.natCast_pos.mpr (Nat.pos_of_ne_zero hb))
    rw [e]
    have h3 := Rat.intCast_le_intCast.mpr h1
    rw [Rat.intCast_neg, Rat.intCast_mul, Rat.intCast_natCast, Rat.intCast_natCast] at h3
    grind
  · have e : mkRat t b * (b : Rat) = (t : Rat) := by
      rw [Rat.mkRat_eq_div, Rat.div_mul_cancel]
      exact fun z => hb (by have := Rat.natCast_pos.mpr (Nat.pos_of_ne_zero hb); rw [z] at this; exact absurd this (by decide))
    refine Rat.le_of_mul_le_mul_right (c := (b : Rat)) ?_ (Rat.natCast_pos.mpr (Nat.pos_of_ne_zero hb))
    rw [e]
    have h3 := Rat.intCast_le_intCast.mpr h2
    rw [Rat.intCast_mul, Rat.intCast_natCast, Rat.intCast_natCast] at h3
    exact h3
theorem Sz.num {L C : Nat} {x : Rat} (a : Sz L C x) : x.num.natAbs ≤ C * x.den := by
  have h1 := a.lo
  have h2 := a.hi
  rw [Rat.le_iff] at h1 h2
  simp at h1 h2
  rw [Int.neg_mul] at h1
  have e : ((C * x.den : Nat) : Int) = (C : Int) * x.den := Int.natCast_mul _ _
  omega
theorem Sz.one {L : Nat} {i : Int} {C : Nat} (h : i.natAbs ≤ C) : Sz L C (i : Rat) := by
  refine ⟨?_, ?_, ?_⟩
  · rw [Rat.den_intCast]
    exact Nat.one_dvd L
  · have h3 : ((-(C : Int) : Int) : Rat) ≤ (i : Rat) := Rat.intCast_le_intCast.mpr (by omega)
    rw [Rat.intCast_neg, Rat.intCast_natCast] at h3
    exact h3
  · have h3 : (i : Rat) ≤ ((C : Int) : Rat) := Rat.intCast_le_intCast.mpr (by omega)
    rw [Rat.intCast_natCast] at h3
    exact h3
theorem Sz.den_le {L C : Nat} {x : Rat} (a : Sz L C x) (hL : L ≠ 0) : x.den ≤ L := Nat.le_of_dvd (Nat.pos_of_ne_zero hL) a.dv
theorem Sz.num_le {L C : Nat} {x : Rat} (a : Sz L C x) (hL : L ≠ 0) : x.num.natAbs ≤ C * L := Nat.le_trans a.num (Nat.mul_le_mul_left _ (a.den_le hL))
theorem fr_int (i : Int) : fr (i : Rat) = .tup [.int i, .int 1] := by
  unfold fr
  rw [Rat.num_intCast, Rat.den_intCast]
  rfl
theorem rs_fr {L C K : Nat} {x : Rat} (a : Sz L C x) (hL : L ≠ 0) (h : C * L < 10 ^ K) (hC : 0 < C) (h0 : 0 < K) (h1 : K ≤ 470) : Rs 1 (2 * (K + 3) + 3) (fr x) := by
  have hd := a.den_le hL
  have hn := a.num_le hL
  have hL2 : L ≤ C * L := Nat.le_mul_of_pos_left L hC
  refine rs_tup (xs := [.int _, .int _]) (k := 0) (W := K + 1) fun y hy => ?_
  rcases List.mem_cons.mp hy with rfl | hy
  · exact rs_intK (by omega) h0 h1
  · rw [List.mem_singleton.mp hy]
    exact rs_intK (by rw [Int.natAbs_natCast]; omega) h0 h1
theorem rat_less (x y : Rat) : decide (x.num * (y.den : Int) < y.num * (x.den : Int)) = decide (x < y) := by
  rw [Bool.eq_iff_iff, decide_eq_true_iff, decide_eq_true_iff, Rat.lt_iff]
theorem mkRat_minus (x y : Rat) : mkRat (x.num * y.den - y.num * x.den) (x.den * y.den) = x - y := by
  have h := mkRat_plus x (-y)
  rw [Rat.neg_num, Rat.neg_den, Int.neg_mul] at h
  rw [Rat.sub_eq_add_neg, ← h, Int.sub_eq_add_neg]
theorem fr_inj {x y : Rat} (h : fr x = fr y) : x = y := by
  unfold fr at h
  injection h with h
  injection h with h1 h2
  injection h1 with h1
  injection h2 with h2
  injection h2 with h2
  exact Rat.ext h1 (by omega)
/-- small enough to be reckoned with -/
structure Sm (x : Rat) : Prop where
  n : x.num.natAbs < 2 ^ 3000
  d : x.den < 2 ^ 3000
theorem Sz.sm {L C : Nat} {x : Rat} (a : Sz L C x) (hL : L ≠ 0) (hC : 0 < C) (h : C * L < 2 ^ 3000) : Sm x := by
  have hd := a.den_le hL
  have hn := a.num_le hL
  have hL2 : L ≤ C * L := Nat.le_mul_of_pos_left L hC
  exact ⟨by omega, by omega⟩
def frts (xs : List Rat) : D := .tup (xs.map fr)
theorem Sm.mul {x y : Rat} (a : Sm x) (b : Sm y) : MulOk x.num y.den := .big (a := 3000) a.n (by rw [Int.natAbs_natCast]; exact b.d) (by decide) (by decide)
theorem Sm.den {x y : Rat} (a : Sm x) (b : Sm y) : MulOk (x.den : Int) y.den := .big (a := 3000) (by rw [Int.natAbs_natCast]; exact a.d) (by rw [Int.natAbs_natCast]; exact b.d) (by decide) (by decide)
theorem Sm.dens {x y : Rat} (a : Sm x) (b : Sm y) : (x.den : Int) * y.den = ((x.den * y.den : Nat) : Int) ∧ 0 < x.den * y.den ∧ x.den * y.den < 2 ^ 8000 := by
  refine ⟨(Int.natCast_mul _ _).symm, Nat.mul_pos x.den_pos y.den_pos, ?_⟩
  have h : x.den * y.den ≤ 2 ^ 3000 * 2 ^ 3000 := Nat.mul_le_mul (Nat.le_of_lt a.d) (Nat.le_of_lt b.d)
  rw [← Nat.pow_add] at h
  exact Nat.lt_of_le_of_lt h (Nat.pow_lt_pow_right (by decide) (by decide))
theorem div_8000 {i j : Int} (h : 0 < j) (h2 : j.natAbs < 2 ^ 8000) : DivOk i j := ⟨h, by
  have h3 : j.natAbs.log2 < 8000 := (Nat.log2_lt (by omega)).mpr h2
  omega⟩
end DL

/-! More of lists: count, insert, remove; xs[i] among targets. -/
namespace DL
open PySem PySem.Spec PyProof.Rows L2
section
variable {K : PySem.W.Frag} {F₀ : Hp}
theorem rps_two {F : Hp} {d e : D} {vs : List V} (r : Rps K F [d, e] vs) : ∃ v u, vs = [v, u] ∧ Rp K F d v ∧ Rp K F e u := rps2 r
/-- xs.count(k), whole numbers -/
def dCount : D → List D → Gp → DK → Prop := fun x ys G Q => match ys with
  | [.int k] => match rlOf x G with
    | some xs => match intsOf xs with
      | some ns => Q (.int (ns.count k : Nat)) G
      | none => False
    | none => False
  | _ => False
theorem md_count : MeD K F₀ dCount (rCntI K) := by
  intro F G H x v xs vs Q' Q s w r rs q k
  unfold dCount at q
  split at q
  · rename_i kk
    obtain ⟨u, rfl, ru⟩ := rps1 rs
    cases ru
    split at q
    · rename_i zs e
      obtain ⟨a, us, rfl, sq, rq⟩ := rlOf_ok w r e
      split at q
      · rename_i ns en
        have e2 := intsOf_eq en
        subst e2
        rw [rq.ints] at sq
        exact ⟨a, ns, kk, rfl, rfl, sq, k _ _ F G H (Same.refl F) w (.int _) q⟩
      · exact q.elim
    · exact q.elim
  · exact q.elim
/-- xs.insert(i, y) -/
def dInsert : D → List D → Gp → DK → Prop := fun x ys G Q => match ys with
  | [.int i, y] => atL x G fun a xs => xs.length < sizeLine ∧ 0 ≤ i ∧ i < 2 ^ 63 ∧ Q .non (gu G a (.lst (xs.take i.toNat ++ [y] ++ xs.drop i.toNat)))
  | _ => False
theorem md_insert : MeD K F₀ dInsert (fun x vs H Q => ∃ (l : Addr) (xs : List V) (i : Int) (y : V), x = .ref l ∧ vs = [.int i, y] ∧ H l = some (.lst xs) ∧ xs.length < sizeLine ∧ 0 ≤ i ∧ i < 2 ^ 63 ∧
    Q .non (upd H l (.lst (xs.take i.toNat ++ [y] ++ xs.drop i.toNat)))) := by
  intro F G H x v xs vs Q' Q s w r rs q k
  unfold dInsert at q
  split at q
  · rename_i i y
    obtain ⟨u, u2, rfl, ru, ry⟩ := rps2 rs
    cases ru
    obtain ⟨a, xs, us, rfl, f1, hv, rv, _, h1, h2, h3, q⟩ := atL_ok w r q
    exact ⟨a, us, i, u2, rfl, rfl, hv, by rw [← rv.length]; exact h1, h2, h3, k _ _ F _ _ (Same.refl F) (w.put (g := .lst (xs.take i.toNat ++ [y] ++ xs.drop i.toNat)) f1 ⟨_, upd_same, ((rv.take _).append (.one ry)).append (rv.drop _)⟩) .non q⟩
  · exact q.elim
/-- xs.remove(k), whole numbers -/
def dRemI : D → List D → Gp → DK → Prop := fun x ys G Q => match ys with
  | [.int k] => atL x G fun a xs => ∃ ns : List Int, xs = ns.map D.int ∧ k ∈ ns ∧ Q .non (gu G a (.lst ((ns.eraseIdx (ns.idxOf k)).map D.int)))
  | _ => False
theorem md_remove : MeD K F₀ dRemI rRemI := by
  intro F G H x v xs vs Q' Q s w r rs q k
  unfold dRemI at q
  split at q
  · rename_i kk
    obtain ⟨u, rfl, ru⟩ := rps1 rs
    cases ru
    obtain ⟨a, xs, us, rfl, f1, hv, rv, _, ns, rfl, hm, q⟩ := atL_ok w r q
    rw [rv.ints] at hv
    have hj : ns.idxOf kk < ns.length := List.idxOf_lt_length_iff.mpr hm
    refine ⟨a, ns, kk, ns.idxOf kk, rfl, rfl, hv, ?_, fun m hmj e => ?_, k _ _ F _ _ (Same.refl F) (w.put (g := .lst ((ns.eraseIdx (ns.idxOf kk)).map D.int)) f1 ⟨_, upd_same, Rps.ofInts _⟩) .non q⟩
    · rw [List.getElem?_eq_getElem hj, List.getElem_idxOf hj]
    · have hml : m < ns.length := Nat.lt_trans hmj hj
      rw [List.getElem?_eq_getElem hml] at e
      have e' := Option.some.inj e
      have hn := List.not_of_lt_findIdx (p := (· == kk)) (xs := ns) (i := m) hmj
      rw [e'] at hn
      simp at hn
  · exact q.elim
end
/-- xs[i] among targets -/
def gSb (to ti : DE) : DG := fun v δ G Q => to δ G fun o G1 => ti δ G1 fun i G2 => dSetL o i v G2 fun G3 => Q δ G3
section
variable {X : Cx} {F₀ : Hp} {vs : List Nat} {o i : Expr} {to ti : DE} {pos : Pos}
theorem dg_sub (ho : PE X o (Le X.K F₀ to)) (hi : PE X i (Le X.K F₀ ti))
    (ha : ∀ v, assign (.Subscript o i pos) X.env v = (do
      let ov ← holding [v] (eval o X.env)
      let iv ← holding [v, ov] (eval i X.env)
      standAt pos
      holding [v, ov, iv] (setItem ov iv v)
      release [v, ov, iv] []) := by intro _; rfl) : PG X (.Subscript o i pos) (Lg X.K F₀ vs (gSb to ti)) := pg_imp (pg_sub ho hi set_list ha) fun v σ H Q ⟨d, δ, F, G, Q', s, en, w, r, q, k⟩ => by
  refine ⟨δ, F, G, _, s, en, w, q, fun y u F2 G2 H2 s2 w2 r2 q2 => ?_⟩
  refine ⟨δ, F2, G2, _, s.trans s2, en.mono s2, w2, q2, fun z u3 F3 G3 H3 s3 w3 r3 q3 => ?_⟩
  have r1' := r.mono (s2.trans s3)
  have r2' := r2.mono s3
  unfold dSetL at q3
  split at q3
  · rename_i a kk
    cases r2'
    cases r3
    split at q3
    · rename_i xs e
      split at q3
      · rename_i j ej
        obtain ⟨hF, us, hv, rs⟩ := w3.lst e
        refine ⟨a, us, kk, j, rfl, rfl, hv, by rw [← rs.length]; exact ej, ?_⟩
        exact k δ σ F3 _ _ (s2.trans s3) ((en.mono s2).mono s3) (w3.put (g := .lst (xs.set j d)) hF ⟨_, upd_same, rs.set r1' j⟩) rfl q3
      · exact q3.elim
    · exact q3.elim
  · exact q3.elim
end
end DL

/-! Words for fields; comprehensions that change things. -/
namespace DL
open PySem PySem.Spec PyProof.Rows L2
section
variable {G : Gp} {Q : DK} {N : Gp → Prop} {p : Addr} {n f : Str} {fs : List (Str × D)} {y d : D}
theorem fld_at (e : G p = some (.ins n fs)) (l : fs.lookup f = some d) : dFldR n f (.ref p) G Q = Q d G := by
  have h : insOf (.ref p) G n = some fs := by
    show (match G p with | some (.ins m fs) => if m = n then some fs else none | _ => none) = _
    rw [e]
    simp only [if_true]
  unfold dFldR
  rw [h]
  show (match fs.lookup f with | some d => Q d G | none => False) = _
  rw [l]
theorem setFld_at (e : G p = some (.ins n fs)) : setFldR n f (.ref p) y G N = (fs.length < 1000 ∧ N (gu G p (.ins n (putD f y fs)))) := by
  show (match G p with | some (.ins m fs) => m = n ∧ fs.length < 1000 ∧ N (gu G p (.ins n (putD f y fs))) | _ => False) = _
  rw [e]
  simp only [true_and]
theorem ins_at (e : G p = some (.ins n fs)) : insOf (.ref p) G n = some fs := by
  show (match G p with | some (.ins m fs) => if m = n then some fs else none | _ => none) = _
  rw [e]
  simp only [if_true]
end
/-- a comprehension that changes things, by an invariant over what is left and what was told -/
theorem compL_by {α : Type} {g : DG} {te : DE} {S : Gp → Prop} {p : Addr} {δ : Sl} {Q : List D → Gp → Prop} (s : α → D) (W : List α → List D → Gp → Prop) (hW : ∀ l acc G, W l acc G → S G ∧ G p = some (.lst acc))
    (hs : ∀ x r acc G (M : DK), W (x :: r) acc G → (∀ y G4, G4 p = some (.lst acc) → W r (acc ++ [y]) (gu G4 p (.lst (acc ++ [y]))) → M y G4) → g (s x) δ G fun δ2 G2 => te δ2 G2 M)
    (hd : ∀ acc G, W [] acc G → Q acc G) : ∀ (l : List α) (acc : List D) (G : Gp), acc.length + l.length ≤ sizeLine → W l acc G → compL g dYes te S p δ (l.map s) acc G Q
  | [], acc, G, _, w => ⟨(hW _ _ _ w).1, (hW _ _ _ w).2, hd acc G w⟩
  | x :: r, acc, G, hl, w => by
    rw [List.length_cons] at hl
    exact ⟨(hW _ _ _ w).1, (hW _ _ _ w).2, hs x r acc G _ w fun y G4 e w' => ⟨e, by omega, compL_by s W hW hs hd r _ _ (by rw [List.length_append, List.length_singleton]; omega) w'⟩⟩
end DL

/-! Comprehensions with a condition that is drawn; counts. -/
namespace DL
open PySem PySem.Spec PyProof.Rows L2
/-- a comprehension whose condition may be either way: some of the f x, in order -/
theorem compL_some {α : Type} {g : DG} {tt : DT} {te : DE} {S : Gp → Prop} {p : Addr} {δ : Sl} {G : Gp} {Q : List D → Gp → Prop} (s f : α → D) (hS : ∀ ys, S (gu G p (.lst ys))) : ∀ (l acc : List α),
    (∀ x ∈ l, ∀ ys (M : Gp → Prop) (Q : DK), M (gu G p (.lst ys)) → Q (f x) (gu G p (.lst ys)) → g (s x) δ (gu G p (.lst ys)) fun δ2 G2 => tt δ2 G2 fun b G3 => if b = true then te δ2 G3 Q else M G3) → acc.length + l.length ≤ sizeLine →
    (∀ k : List α, (∀ x ∈ k, x ∈ acc ∨ x ∈ l) → k.length ≤ acc.length + l.length → Q (k.map f) (gu G p (.lst (k.map f)))) → compL g tt te S p δ (l.map s) (acc.map f) (gu G p (.lst (acc.map f))) Q
  | [], acc, _, _, q => ⟨hS _, gu_same, q acc (fun x hx => .inl hx) (by simp)⟩
  | x :: r, acc, h, hl, q => by
    refine ⟨hS _, gu_same, ?_⟩
    rw [List.length_cons] at hl
    have key := h x List.mem_cons_self (acc.map f) (fun G3 => compL g tt te S p δ (r.map s) (acc.map f) G3 Q) (fun y G4 => G4 p = some (.lst (acc.map f)) ∧ (acc.map f).length < sizeLine ∧ compL g tt te S p δ (r.map s) (acc.map f ++ [y]) (gu G4 p (.lst (acc.map f ++ [y]))) Q)
      (compL_some s f hS r acc (fun z hz => h z (List.mem_cons_of_mem _ hz)) (by omega) fun k hk hkl => q k (fun z hz => (hk z hz).imp id (List.mem_cons_of_mem _)) (by rw [List.length_cons]; omega))
      ⟨gu_same, by rw [List.length_map]; omega, by
        rw [gu_gu]
        have e : acc.map f ++ [f x] = (acc ++ [x]).map f := by rw [List.map_append]; rfl
        rw [e]
        refine compL_some s f hS r (acc ++ [x]) (fun z hz => h z (List.mem_cons_of_mem _ hz)) (by rw [List.length_append, List.length_singleton]; omega) fun k hk hkl => q k (fun z hz => ?_) (by rw [List.length_append, List.length_singleton] at hkl; rw [List.length_cons]; omega)
        rcases hk z hz with hz | hz
        · rcases List.mem_append.mp hz with hz | hz
          · exact .inl hz
          · rw [List.mem_singleton.mp hz]; exact .inr List.mem_cons_self
        · exact .inr (List.mem_cons_of_mem _ hz)⟩
    exact key
theorem lc_some {α : Type} {g : DG} {tt : DT} {te : DE} {S : Gp → Prop} {δ : Sl} {G : Gp} {Q : DK} (l : List α) (s f : α → D) {its : List D} (e : its = l.map s) (hl : l.length ≤ sizeLine) (hS : ∀ p ys, G p = none → S (gu G p (.lst ys)))
    (h : ∀ x ∈ l, ∀ p ys (M : Gp → Prop) (Q : DK), G p = none → M (gu G p (.lst ys)) → Q (f x) (gu G p (.lst ys)) → g (s x) δ (gu G p (.lst ys)) fun δ2 G2 => tt δ2 G2 fun b G3 => if b = true then te δ2 G3 Q else M G3)
    (q : ∀ k : List α, (∀ x ∈ k, x ∈ l) → k.length ≤ l.length → Q (.lst (k.map f)) G) : ∀ p, G p = none → compL g tt te S p δ its [] (gu G p (.lst [])) (endLc false Q p) := fun p hp => by
  subst e
  refine compL_some s f (fun ys => hS p ys hp) l [] (fun x hx ys M Q' m k => h x hx p ys M Q' hp m k) (by simpa using hl) fun k hk hkl => ?_
  show Q (.lst (k.map f)) (gd (gu G p _) p)
  rw [gd_gu hp]
  exact q k (fun x hx => (hk x hx).elim (fun z => nomatch z) id) (by simpa using hkl)
/-- how often each number below n stands in l makes the length of l -/
theorem counts_sum (n : Nat) : ∀ l : List Int, (∀ x ∈ l, 0 ≤ x ∧ x < n) → ((List.range n).map fun i => ((l.count ((i : Nat) : Int) : Nat) : Int)).sum = l.length
  | [], _ => by
    have : ((List.range n).map fun i => ((([] : List Int).count ((i : Nat) : Int) : Nat) : Int)) = List.replicate n 0 := by
      rw [List.eq_replicate_iff]
      exact ⟨by simp, fun x hx => by obtain ⟨i, _, rfl⟩ := List.mem_map.mp hx; rfl⟩
    rw [this, sum_zeros]
    rfl
  | x :: r, h => by
    obtain ⟨h0, h1⟩ := h x List.mem_cons_self
    have ih := counts_sum n r fun y hy => h y (List.mem_cons_of_mem _ hy)
    have e : ((List.range n).map fun i => (((x :: r).count ((i : Nat) : Int) : Nat) : Int)) = ((List.range n).map fun i => ((r.count ((i : Nat) : Int) : Nat) : Int)).set x.toNat (((r.count x : Nat) : Int) + 1) := by
      apply List.ext_getElem
      · simp
      · intro i h2 h3
        simp only [List.length_map, List.length_range] at h2
        rw [List.getElem_map, List.getElem_range, List.getElem_set]
        by_cases hi : x.toNat = i
        · rw [if_pos hi]
          have : x = ((i : Nat) : Int) := by omega
          rw [← this, List.count_cons_self]
          omega
        · rw [if_neg hi, List.getElem_map, List.getElem_range, List.count_cons_of_ne (by omega)]
    rw [e, sum_set _ _ _ (by simp; omega), ih, List.getElem_map, List.getElem_range, Int.toNat_of_nonneg h0, List.length_cons]
    omega
end DL

/-! isinstance of one of two kinds; the last item; lists alike. -/
namespace DL
open PySem PySem.Spec PyProof.Rows L2
def kinds : List String := ["int", "bool", "str", "tuple", "list", "dict"]
/-- isinstance(x, (A, B)) -/
def isi2R (A B : String) (x : D) (G1 : Gp) (Q : DK) : Prop := match tyOf x G1 with
  | some n => (A ∈ kinds ∧ B ∈ kinds) ∧ Q (.bl (subTy n A || subTy n B)) G1
  | none => False
def dIsi2 (A B : String) (t : DE) : DE := fun δ G Q => t δ G fun x G1 => isi2R A B x G1 Q
section
variable {X : Cx} {F₀ : Hp} {e : Expr} {t : DE} {A B : String} {xa xb : Str} {p pa pb tpos pos : Pos} {k : Nat}
theorem de_isi2 (hg : Gl X "isinstance") (hm : X.mg "isinstance" = none) (he : PE X e (Le X.K F₀ t)) (ga : Gl X xa) (ma : X.mg xa = none) (va : bootBuiltins xa = some (.type A)) (na : xa ≠ "__name__") (da : (xa == ("__debug__" : Str)) = false) (gb : Gl X xb) (mb : X.mg xb = none) (vb : bootBuiltins xb = some (.type B)) (nb : xb ≠ "__name__") (db : (xb == ("__debug__" : Str)) = false)
    (hs : starEach [e, .Tuple [.Name xa pa, .Name xb pb] k tpos] X.env = (false, eval e X.env) :: starEach [.Tuple [.Name xa pa, .Name xb pb] k tpos] X.env := by rfl) (hpl : (backTo pos (starEach [.Tuple [.Name xa pa, .Name xb pb] k tpos] X.env)).any (·.1) = false := by rfl) :
    PE X (.Call (.Name "isinstance" p) [e, .Tuple [.Name xa pa, .Name xb pb] k tpos] [] pos) (Le X.K F₀ (dIsi2 A B t)) := by
  have ha : PE X (.Name xa pa) (tC (.ty A)) := pe_bltn ga ma va rfl na da
  have hb : PE X (.Name xb pb) (tC (.ty B)) := pe_bltn gb mb vb rfl nb db
  refine pe_imp (pe_callB call_isiT hg hm PyProof.Rows.boot_isinstance (pa_cons he (pa_cons (pe_tup (pa_cons ha (pa_cons hb pa_nil))) pa_nil) hs) (by decide) (by decide) hs hpl) fun σ H Q ⟨δ, F, G, Q', s, en, w, q, ko⟩ => ?_
  refine ⟨δ, F, G, _, s, en, w, q, fun x v F1 G1 H1 s1 w1 r1 q1 => ?_⟩
  refine ⟨by show 2 ≤ sizeLine; decide, fun T hT => ?_⟩
  unfold isi2R at q1
  split at q1
  · rename_i n en2
    obtain ⟨⟨h1, h2⟩, q1⟩ := q1
    have w2 : Wd X.K F1 G1 (upd H1 T (.tup [.ty A, .ty B])) := w1.newN hT _
    refine ⟨v, T, [.ty A, .ty B], .type n, [.type A, .type B], subTy n A || subTy n B, rfl, upd_same, .cons (.ty A) (.cons (.ty B) .nil), tyOf_ok w2 r1 en2, ?_, ko _ _ F1 G1 _ s1 w2 (.bl _) q1⟩
    refine kitAny_cons (kit_sub (tyOf_mem en2) h1) (fun e1 => ?_) (fun e1 => by rw [e1]; rfl)
    rw [e1, Bool.false_or]
    refine kitAny_cons (kit_sub (tyOf_mem en2) h2) (fun e2 => ?_) (fun e2 => e2)
    rw [e2]
    exact kitAny_nil
  · exact q1.elim
end
section
variable {G : Gp} {Q : DK} {xs ys : List D} {k : Nat} {a : Addr}
theorem isi2_tl : ∀ {x : D} {n : String}, tyOf x G = some n → (n = "tuple" ∨ n = "list") → isi2R "tuple" "list" x G Q = Q (.bl true) G := by
  intro x n h hn
  show (match tyOf x G with | some n => _ ∧ Q (.bl (subTy n "tuple" || subTy n "list")) G | none => False) = _
  rw [h]
  rcases hn with rfl | rfl <;> simp [kinds, subTy]
theorem w_neL_same (h : Es k (.lst xs)) (hk : k ≤ 64) : dNe (.lst xs) (.lst xs) G Q = Q (.bl false) G := by
  obtain ⟨p, e, a, c⟩ := h.shaped hk
  show (match toPy (.lst xs), toPy (.lst xs) with | some p, some q => SeqAt.shaped p = true ∧ SeqAt.shaped q = true ∧ Q (.bl (!PyData.eqv p q)) G | _, _ => False) = _
  rw [e]
  simp only [a, true_and]
  rw [SeqAt.eqv_refl p c]
  rfl
theorem w_isi2_tup : isi2R "tuple" "list" (.tup xs) G Q = Q (.bl true) G := isi2_tl (n := "tuple") rfl (.inl rfl)
theorem w_isi2_lst : isi2R "tuple" "list" (.lst xs) G Q = Q (.bl true) G := isi2_tl (n := "list") rfl (.inr rfl)
theorem got_snoc {xs : List D} {x : D} : gotI (xs ++ [x]) (-1) G Q = Q x G := by
  rw [got_last (by simp)]
  simp
theorem setI_snoc {xs : List D} {x v : D} {N : List D → Prop} : setI (xs ++ [x]) (-1) v N = N (xs ++ [v]) := by
  have e : ixN (xs ++ [x]).length (-1) = some xs.length := by
    unfold ixN
    rw [if_neg (by omega), if_pos (by rw [List.length_append, List.length_singleton]; omega)]
    congr 1
    rw [List.length_append, List.length_singleton]
    omega
  unfold setI
  rw [e]
  show N ((xs ++ [x]).set xs.length v) = _
  rw [List.set_append_right _ _ (Nat.le_refl _), Nat.sub_self]
  rfl
end
end DL

/-! a, b, c = e, f, g; fractions compared; draws into a list that may change. -/
namespace DL
open PySem PySem.Spec PyProof.Rows L2
theorem rps3 {K : PySem.W.Frag} {F : Hp} {d e f : D} {vs : List V} (r : Rps K F [d, e, f] vs) : ∃ v u w, vs = [v, u, w] ∧ Rp K F d v ∧ Rp K F e u ∧ Rp K F f w := by
  cases r with
  | cons a b =>
    obtain ⟨u, w, rfl, c1, c2⟩ := rps2 b
    exact ⟨_, u, w, rfl, a, c1, c2⟩
def dPar3 (i j l : Nat) (t : DA) : DS := fun D δ G => t δ G fun xs G1 => match xs with | [x, y, z] => D.nx (((δ.set i (some x)).set j (some y)).set l (some z)) G1 | _ => False
section
variable {X : Cx} {F₀ : Hp} {pos : Pos}
theorem ds_par3 {i j l : Nat} {x y z : Str} {a b c : Expr} {ta : DA} {px py pz pt : Pos} {kt k2 pt2} (hc : X.calm = true) (hN : X.N.Nodup) (hi : X.N[i]? = some x) (hj : X.N[j]? = some y) (hl : X.N[l]? = some z) (hij : i ≠ j) (hil : i ≠ l) (hjl : j ≠ l)
    (hx : X.env.scope.names.lookup x = some .local) (hy : X.env.scope.names.lookup y = some .local) (hz : X.env.scope.names.lookup z = some .local) (ha : PA X [a, b, c] (La X.K F₀ ta))
    (hw : swappedStores [.Tuple [.Name x px, .Name y py, .Name z pz] kt pt] (.Tuple [a, b, c] k2 pt2) X.env = pure (some [x, y, z]))
    (hs : swapsWithSole [.Tuple [.Name x px, .Name y py, .Name z pz] kt pt] (.Tuple [a, b, c] k2 pt2) pos.line X.env = pure false := by rfl) :
    PS X (.Assign [.Tuple [.Name x px, .Name y py, .Name z pz] kt pt] (.Tuple [a, b, c] k2 pt2) pos) (Ls X.K F₀ (dPar3 i j l ta)) := ps_imp (ps_par3 hc hN hi hj hl hij hil hjl hx hy hz ha hw hs) fun D σ H ⟨δ, F, G, D', s, en, w, q, k⟩ => by
  refine ⟨δ, F, G, _, s, en, w, q, fun xs vs F1 G1 H1 s1 w1 r1 q1 => ?_⟩
  split at q1
  · obtain ⟨v, u, t, rfl, ra, rb, rc⟩ := rps3 r1
    exact ⟨v, u, t, rfl, k.nx _ _ F1 G1 H1 s1 ((((en.mono s1).set ra i).set rb j).set rc l) w1 q1⟩
  · exact q1.elim
end
section
variable {G : Gp} {Q : DK}
theorem eqv_fr (x y : Rat) : (PyData.tuple [.int x.num, .int (x.den : Nat)]).eqv (.tuple [.int y.num, .int (y.den : Nat)]) = decide (x = y) := by
  rw [Bool.eq_iff_iff, decide_eq_true_iff]
  simp only [PyData.eqv, PyData.eqvAll, Bool.and_eq_true, Bool.and_true, beq_iff_eq, decide_eq_true_iff]
  constructor
  · rintro ⟨h1, h2⟩
    exact Rat.ext h1 (by omega)
  · rintro rfl
    exact ⟨rfl, rfl⟩
theorem fr_shaped (x : Rat) : SeqAt.shaped (.tuple [.int x.num, .int (x.den : Nat)]) = true := by
  simp [SeqAt.shaped, PyData.canLay0, PyData.canLayAll0, PyData.depth, PyData.depthAll]
theorem w_eq_fr (x y : Rat) : dEq (fr x) (fr y) G Q = Q (.bl (decide (x = y))) G := by
  show (SeqAt.shaped (.tuple [.int x.num, .int (x.den : Nat)]) = true ∧ SeqAt.shaped (.tuple [.int y.num, .int (y.den : Nat)]) = true ∧ Q (.bl ((PyData.tuple [.int x.num, .int (x.den : Nat)]).eqv (.tuple [.int y.num, .int (y.den : Nat)]))) G) = _
  rw [eqv_fr, fr_shaped, fr_shaped]
  simp
theorem w_ne_fr (x y : Rat) : dNe (fr x) (fr y) G Q = Q (.bl (!decide (x = y))) G := by
  show (SeqAt.shaped (.tuple [.int x.num, .int (x.den : Nat)]) = true ∧ SeqAt.shaped (.tuple [.int y.num, .int (y.den : Nat)]) = true ∧ Q (.bl (!(PyData.tuple [.int x.num, .int (x.den : Nat)]).eqv (.tuple [.int y.num, .int (y.den : Nat)]))) G) = _
  rw [eqv_fr, fr_shaped, fr_shaped]
  simp
theorem fr_zero : fr 0 = .tup [.int 0, .int 1] := rfl
/-- 1 / k -/
theorem fr_unit {k : Nat} (h : 0 < k) : fr (mkRat 1 k) = .tup [.int 1, .int (k : Nat)] := by
  obtain ⟨e1, e2⟩ := low_num (a := 1) (b := k) (by omega)
  unfold fr
  rw [e1, e2]
  simp
end
/-- whether a thing is None -/
def isNoD : D → Bool | .non => true | _ => false
section
variable {G : Gp} {Q : DK} {xs : List D} {i : Int} {s : Str} {b : Bool} {a : Addr}
theorem w_isN {x : D} : dIsN x .non G Q = Q (.bl (isNoD x)) G := by cases x <;> rfl
theorem w_notN {x : D} : dNotN x .non G Q = Q (.bl (!isNoD x)) G := by cases x <;> rfl
theorem isNoD_non : isNoD .non = true := rfl
theorem isNoD_int : isNoD (.int i) = false := rfl
theorem isNoD_str : isNoD (.str s) = false := rfl
theorem isNoD_bl : isNoD (.bl b) = false := rfl
theorem isNoD_tup : isNoD (.tup xs) = false := rfl
theorem isNoD_lst : isNoD (.lst xs) = false := rfl
theorem isNoD_ref : isNoD (.ref a) = false := rfl
end
/-- draws into a list that may change -/
theorem lc_relM {g : DG} {te : DE} {S : Gp → Prop} {δ : Sl} {G : Gp} {Q : DK} {its : List D} (R : D → D → Prop) (hl : its.length ≤ sizeLine) (hS : ∀ p ys, G p = none → S (gu G p (.lst ys)))
    (h : ∀ x ∈ its, ∀ p ys (Q : DK), G p = none → (∀ y, R x y → Q y (gu G p (.lst ys))) → g x δ (gu G p (.lst ys)) fun δ2 G2 => te δ2 G2 Q)
    (q : ∀ p ys, G p = none → Fa2 R its ys → Q (.ref p) (gu G p (.lst ys))) : ∀ p, G p = none → compL g dYes te S p δ its [] (gu G p (.lst [])) (endLc true Q p) := fun p hp =>
  compL_rel R (fun ys => hS p ys hp) its [] (fun x hx ys Q' k => h x hx p ys Q' hp k) (by simpa using hl) fun ys hys => by
    show Q (.ref p) (gu G p _)
    rw [List.nil_append]
    exact q p ys hp hys
end DL

/-! sorted of pairs of ints: the same pairs in some order. -/
namespace DL
open PySem PySem.Spec PyProof.Rows L2
def rSortedQ (K : PySem.W.Frag) : List V → Hp → VK → Prop := fun vs H Q => ∃ a xs, vs = [V.ref a] ∧ SqL K H a xs ∧ (∀ x ∈ xs, ∃ t i j, x = V.ref t ∧ SqT K H t [.int i, .int j]) ∧
  ∀ ys p, ys.Perm xs → H p = none → Q (.ref p) (upd H p (.lst ys))
theorem cr_sortedQ {X : Cx} : CallR X (.builtin "sorted") (rSortedQ X.K) := by
  intro pins s σ H vs us Q I r h
  obtain ⟨a, xs, rfl, hs, hx, q⟩ := h
  obtain ⟨its, rv, hl, hz⟩ := I.list hs
  obtain ⟨u, rfl, ru⟩ := vals1 r
  obtain rfl : u = Value.ref a := ru
  obtain ⟨e1, e2⟩ := refs_back rv fun x m => by
    obtain ⟨t, _, _, e, _⟩ := hx x m
    exact ⟨t, e⟩
  refine Srt.sorted_pairs hl.isList (by rw [← rv.length]; exact hz) (fun v hv => ?_) fun h' d out hp k hd hn => ?_
  · obtain ⟨t, rfl⟩ := e2 v hv
    have hm : V.ref t ∈ xs := by rw [e1]; exact List.mem_map.mpr ⟨_, hv, rfl⟩
    obtain ⟨t', i, j, e, ht⟩ := hx _ hm
    cases e
    obtain ⟨its2, r2, ⟨o, ho, hc, n, hd⟩, _⟩ := I.tuple ht
    obtain ⟨u1, u2, rfl, ri, rj⟩ := vals2 r2
    obtain ⟨t1, rfl⟩ := ri
    obtain ⟨t2, rfl⟩ := rj
    exact ⟨i, j, t, o, t1, t2, n, rfl, ho, hc, hd⟩
  · have h3 : ∀ u ∈ out, ∃ a, u = Value.ref a := fun u hu => e2 u (hp.mem_iff.mp hu)
    obtain ⟨n, hn⟩ := hn
    refine ⟨.ref d, upd H d (.lst (out.map backV)), I.laid (t' := s.toks) k hd ⟨?_, out, n, vals_back h3, hn⟩, rfl, q _ d ?_ (I.hok.fresh hd)⟩
    · rw [List.length_map, hp.length_eq, ← rv.length]; exact hz
    · rw [e1]; exact hp.map backV
section
variable {K : PySem.W.Frag} {F₀ F : Hp}
theorem Rps.perm {vs ws : List V} (h : ws.Perm vs) : ∀ {ds : List D}, Rps K F ds vs → ∃ es, es.Perm ds ∧ Rps K F es ws := by
  induction h with
  | nil => exact fun r => ⟨_, .refl _, r⟩
  | @cons x a b _ ih =>
    intro ds r
    cases r with
    | cons r1 r2 =>
      obtain ⟨es, h1, h2⟩ := ih r2
      exact ⟨_, h1.cons _, .cons r1 h2⟩
  | swap x y l =>
    intro ds r
    cases r with
    | cons r1 r2 =>
      cases r2 with
      | cons r2 r3 => exact ⟨_, .swap _ _ _, .cons r2 (.cons r1 r3)⟩
  | trans _ _ i1 i2 =>
    intro ds r
    obtain ⟨es, h1, h2⟩ := i2 r
    obtain ⟨fs, h3, h4⟩ := i1 h2
    exact ⟨fs, h3.trans h1, h4⟩
def isPI : D → Bool | .tup [.int _, .int _] => true | _ => false
/-- sorted of pairs of ints, some order of them -/
def dSortedP (m : Bool) : List D → Gp → DK → Prop := fun xs G Q => match xs with
  | [x] => match rlOf x G with
    | some ys => ys.all isPI = true ∧ ∀ zs : List D, zs.Perm ys → nL m zs G Q
    | none => False
  | _ => False
theorem cd_sortedP (m : Bool) : CallD K F₀ (dSortedP m) (rSortedQ K) := by
  intro F G H xs vs Q' Q s w rx q k
  unfold dSortedP at q
  split at q
  · obtain ⟨v, rfl, r⟩ := rps1 rx
    split at q
    · rename_i ys e
      obtain ⟨a, us, rfl, hs, rs⟩ := rlOf_ok w r e
      obtain ⟨hp, q⟩ := q
      refine ⟨a, us, rfl, hs, fun x hx => ?_, fun zs p hz hp0 => ?_⟩
      · obtain ⟨i, hi, rfl⟩ := List.getElem_of_mem hx
        obtain ⟨d, hd, rd⟩ := rs.getV (List.getElem?_eq_getElem hi)
        have hpd := List.all_eq_true.mp hp d (List.mem_of_getElem? hd)
        unfold isPI at hpd
        split at hpd
        · rename_i i1 i2
          generalize us[i] = x at rd
          cases rd with
          | tup sq rq =>
            obtain ⟨u1, u2, rfl, c1, c2⟩ := rps2 rq
            cases c1; cases c2
            exact ⟨_, _, _, rfl, sqT_mono w.fz sq⟩
        · cases hpd
      · obtain ⟨es, h1, h2⟩ := rs.perm hz
        exact nL_ok w hp0 h2 (q es h1) k
    · exact q.elim
  · exact q.elim
theorem w_sortedP_lst {m : Bool} {ys : List D} {G : Gp} {Q : DK} : dSortedP m [.lst ys] G Q = (ys.all isPI = true ∧ ∀ zs : List D, zs.Perm ys → nL m zs G Q) := rfl
/-- an order of what was told is told by an order -/
theorem perm_src {α : Type} {f : α → D} {g : D → α} (hg : ∀ a, g (f a) = a) {l : List α} {zs : List D} (h : zs.Perm (l.map f)) : ∃ m : List α, m.Perm l ∧ zs = m.map f := by
  refine ⟨zs.map g, ?_, ?_⟩
  · have := h.map g
    rw [List.map_map, show g ∘ f = id from funext hg, List.map_id] at this
    exact this
  · rw [List.map_map]
    apply List.ext_getElem
    · simp
    · intro i h1 h2
      rw [List.getElem_map]
      obtain ⟨a, _, e⟩ := List.mem_map.mp (h.mem_iff.mp (List.getElem_mem h1))
      show zs[i] = f (g zs[i])
      rw [← e, hg]
end
end DL

/-! str of a whole number. -/
namespace DL
open PySem PySem.Spec PyProof.Rows L2
/-- str of a whole number, small -/
def dStr : List D → Gp → DK → Prop := fun xs G Q => match xs with
  | [.int i] => i.natAbs.log2 < 1920 ∧ ∀ s, Q (.str s) G
  | _ => False
theorem cd_str {K : PySem.W.Frag} {F₀ : Hp} : CallD K F₀ dStr (fun xs H Q => ∃ i, xs = [.int i] ∧ i.natAbs.log2 < 1920 ∧ Q (.str (toString i)) H) := by
  intro F G H xs vs Q' Q s w rx q k
  unfold dStr at q
  split at q
  · obtain ⟨v, rfl, r⟩ := rps1 rx
    cases r
    exact ⟨_, rfl, q.1, k _ _ F G H (Same.refl F) w (.str _) (q.2 _)⟩
  · exact q.elim
end DL

/-! A def as a value: named, handed on, called by a local name. -/
namespace DL
open PySem PySem.Spec PyProof.Rows L2
def dCallL (i : Nat) (n : Str) (sp : DSp) (E' : DX) (t : DA) : DE := fun δ G Q => δ[i]? = some (some (.fn n)) ∧ t δ G fun ds G1 => sp ds G1 Q E'
section
variable {X : Cx} {F₀ : Hp} {CX : CXT} {k i : Nat} {f : Addr} {fd : FuncData} {ps : List Str} {sp : DSp} {E : XK} {E' : DX} {x n : Str} {p pos : Pos} {e : Expr} {es : List Expr} {t : DA}
theorem de_callL (F : FnG X.prog X.w X.K X.mg X.base CX k f fd ps (LSp X.K sp)) (hr : Room k X.A) (hmu : Mute X.A) (hN : X.N[i]? = some x) (hv : Vis X.env.scope x) (hn : PySem.W.nsIn X.K mainGlobals n = some (some (.ref f))) (hk : PySem.W.keepIn X.K (.ref f) = true) (hb : Binds X.K fd ps []) (hx : Passes CX X E) (ke : KoE X.K F₀ E' E)
    (ha : PA X (e :: es) (La X.K F₀ t)) (hdb : (x == ("__debug__" : Str)) = false := by decide) (hcd : (x == ("__classdict__" : Str)) = false := by decide) (he : starEach (e :: es) X.env = (false, eval e X.env) :: starEach es X.env := by rfl) (hpl : (backTo pos (starEach es X.env)).any (·.1) = false := by rfl) :
    PE X (.Call (.Name x p) (e :: es) [] pos) (Le X.K F₀ (dCallL i n sp E' t)) := by
  refine ⟨fun pins s σ H Q I h => ?_⟩
  obtain ⟨δ, F', G, Q', sm, en, w, ⟨hi, ht⟩, ko⟩ := h
  obtain ⟨v, hs, rv⟩ := en.2 i _ hi
  cases rv with
  | fn h2 =>
    rename_i f'
    have ef : f' = f := by
      have z := hn.symm.trans h2
      cases z
      rfl
    subst ef
    have q : (fun (σ : L2.St) H Q => La X.K F₀ t σ H fun vs H1 => LSp X.K sp vs H1 Q E) σ H Q := call_lsp ke ⟨δ, F', G, Q', sm, en, w, ht, ko⟩
    refine wpAny_Call_Name_kw (thn ((pe_var (pos := p) hN hv hdb hcd).run pins s σ H (fun v H1 => v = .ref f' ∧ H1 = H) I ⟨.ref f', hs, rfl, rfl⟩) fun u s1 ⟨v, H1, I1, r1, q1⟩ => ?_)
    obtain ⟨rfl, rfl⟩ := q1
    cases r1
    exact PySem.W.callWith_K (h₀ := X.base) I.ok.mod.kin hk (thn (ha.run pos pins s1 σ _ _ I1 q) fun us s2 ⟨vs, H2, I2, r, q2⟩ => ⟨I2.kIn, go_fn F hr hmu hb hx I2 r q2⟩) he hpl
/-- the name of a def -/
theorem de_fn (hg : Gl X x) (hm : X.mg x = some (.ref f)) (hn : PySem.W.nsIn X.K mainGlobals x = some (some (.ref f))) (hdb : (x == ("__debug__" : Str)) = false := by decide) : PE X (.Name x p) (Le X.K F₀ (dC (.fn x))) :=
  de_c (v := .ref f) (d := .fn x) (pe_imp ⟨fun pins s σ H Q I h => ld_glob I hg hm ⟨.ref f, H, I, rfl, h⟩ hdb⟩ fun _ _ _ h => h) fun _ => .fn hn
end
/-- a promise of nothing -/
theorem fnG_no {P : Program} {w : World} {K : PySem.W.Frag} {mg : Str → Option Value} {base : Heap} {CX : CXT} {k : Nat} {f : Addr} {fd : FuncData} {ps : List Str} {sp : DSp} (h : ∀ ds G Q E, ¬ sp ds G Q E) : FnG P w K mg base CX k f fd ps (LSp K sp) :=
  ⟨fun vs H Q E ⟨_, _, _, _, _, _, _, q, _⟩ => (h _ _ _ _ q).elim, fun A outer s H args us vs Q E _ _ _ _ _ ⟨_, _, _, _, _, _, _, q, _⟩ => (h _ _ _ _ q).elim⟩
/-- min of three whole numbers -/
def dMin3 : List D → Gp → DK → Prop := fun xs G Q => match xs with
  | [.int i, .int j, .int k] => Q (.int (min (min i j) k)) G
  | _ => False
theorem rps3' {K : PySem.W.Frag} {F : Hp} {d e f : D} {vs : List V} (r : Rps K F [d, e, f] vs) : ∃ v u w, vs = [v, u, w] ∧ Rp K F d v ∧ Rp K F e u ∧ Rp K F f w := rps3 r
theorem min2V (i j : Int) : nuMin2 (.int i) (.int j) = some (.int (min i j)) := by
  show some (if decide (j < i) = true then V.int j else V.int i) = _
  by_cases h : j < i
  · rw [if_pos (by simpa using h), Int.min_eq_right (by omega)]
  · rw [if_neg (by simpa using h), Int.min_eq_left (by omega)]
theorem cd_min3 {K : PySem.W.Frag} {F₀ : Hp} : CallD K F₀ dMin3 (rNuC3 nuMin3) := by
  intro F G H xs vs Q' Q s w rx q ko
  unfold dMin3 at q
  split at q
  · rename_i i j k
    obtain ⟨u1, u2, u3, rfl, r1, r2, r3⟩ := rps3 rx
    cases r1
    cases r2
    cases r3
    exact ⟨_, _, _, .int (min (min i j) k), rfl, by unfold nuMin3; rw [min2V]; exact min2V _ _, ko _ _ F G H (Same.refl F) w (.int _) q⟩
  · exact q.elim
/-- a or b, by truth: None, flags, tuples -/
def truD : D → Option Bool
  | .non => some false
  | .bl b => some b
  | .tup xs => some (!xs.isEmpty)
  | _ => none
def dOrX (ta tb : DE) : DE := fun δ G Q => ta δ G fun x G1 => match truD x with | some true => Q x G1 | some false => tb δ G1 Q | none => False
section
variable {X : Cx} {F₀ : Hp} {ta tb : DE} {a b : Expr} {rest : List Expr} {pos : Pos}
theorem de_orX (ha : PE X a (Le X.K F₀ ta)) (hb : PE X (.BoolOp .Or (b :: rest) pos) (Le X.K F₀ tb)) : PE X (.BoolOp .Or (a :: b :: rest) pos) (Le X.K F₀ (dOrX ta tb)) := pe_imp (pe_orT ha hb) fun σ H Q ⟨δ, F, G, Q', s, en, w, q, k⟩ => by
  refine ⟨δ, F, G, _, s, en, w, q, fun x v F1 G1 H1 s1 w1 r1 q1 => ?_⟩
  have go : ∀ c, truD x = some c → TruV X.K v H1 c → ∃ k, TruV X.K v H1 k ∧ if k = true then Q v H1 else Le X.K F₀ tb σ H1 Q := fun c e hv => by
    refine ⟨c, hv, ?_⟩
    rw [e] at q1
    cases c with
    | false =>
      rw [if_neg Bool.false_ne_true]
      exact ⟨δ, F1, G1, _, s.trans s1, en.mono s1, w1, q1, k.mono s1⟩
    | true =>
      rw [if_pos rfl]
      exact k _ _ F1 G1 H1 s1 w1 r1 q1
  cases r1 with
  | non => exact go false rfl rfl
  | bl c => exact go c rfl rfl
  | tup h1 h2 =>
    rename_i ds vs
    refine go (!ds.isEmpty) rfl (.inr (.inl ⟨vs, ?_, ?_⟩))
    · rcases h1 with (h1 | ⟨o, h1⟩) | h1
      · exact .inl (.inl (w1.fz _ _ h1))
      · exact .inl (.inr ⟨o, w1.fz _ _ h1⟩)
      · exact .inr h1
    · cases h2 <;> rfl
  | _ => exact q1.elim
theorem w_orX_non : dOrX ta tb = fun δ G Q => ta δ G fun x G1 => match truD x with | some true => Q x G1 | some false => tb δ G1 Q | none => False := rfl
end
/-- max of a list of whole numbers -/
def dMaxL : List D → Gp → DK → Prop := fun xs G Q => match xs with
  | [x] => match lstOf x G with
    | some ys => match intsOf ys with
      | some bs => 0 < bs.length ∧ ∀ m, m ∈ bs → (∀ y, y ∈ bs → y ≤ m) → Q (.int m) G
      | none => False
    | none => False
  | _ => False
theorem cd_maxL {K : PySem.W.Frag} {F₀ : Hp} : CallD K F₀ dMaxL (rMax K) := by
  intro F G H xs vs Q' Q s w rx q k
  unfold dMaxL at q
  split at q
  · obtain ⟨v, rfl, r⟩ := rps1 rx
    split at q
    · rename_i ys e
      obtain ⟨a, us, rfl, hs, rs⟩ := lstOf_ok w r e
      split at q
      · rename_i bs e2
        have e3 := intsOf_eq e2
        subst e3
        rw [rs.ints] at hs
        exact ⟨a, bs, rfl, .inl (.inl hs), q.1, fun m h1 h2 => k _ _ F G H (Same.refl F) w (.int _) (q.2 m h1 h2)⟩
      · exact q.elim
    · exact q.elim
  · exact q.elim
/-- a comprehension with a condition that is known -/
theorem compL_filt {α : Type} {g : DG} {tt : DT} {te : DE} {S : Gp → Prop} {p : Addr} {δ : Sl} {G : Gp} {Q : List D → Gp → Prop} (s f : α → D) (P : α → Bool) (hS : ∀ ys, S (gu G p (.lst ys))) : ∀ (l : List α) (acc : List D),
    (∀ x ∈ l, ∀ ys (M : Gp → Prop) (Q : DK), (P x = false → M (gu G p (.lst ys))) → (P x = true → Q (f x) (gu G p (.lst ys))) → g (s x) δ (gu G p (.lst ys)) fun δ2 G2 => tt δ2 G2 fun b G3 => if b = true then te δ2 G3 Q else M G3) → acc.length + l.length ≤ sizeLine →
    Q (acc ++ (l.filter P).map f) (gu G p (.lst (acc ++ (l.filter P).map f))) → compL g tt te S p δ (l.map s) acc (gu G p (.lst acc)) Q
  | [], acc, _, _, q => ⟨hS _, gu_same, by rwa [List.filter_nil, List.map_nil, List.append_nil] at q⟩
  | x :: r, acc, h, hl, q => by
    refine ⟨hS _, gu_same, ?_⟩
    rw [List.length_cons] at hl
    have key := h x List.mem_cons_self acc (fun G3 => compL g tt te S p δ (r.map s) acc G3 Q) (fun y G4 => G4 p = some (.lst acc) ∧ acc.length < sizeLine ∧ compL g tt te S p δ (r.map s) (acc ++ [y]) (gu G4 p (.lst (acc ++ [y]))) Q)
      (fun e => compL_filt s f P hS r acc (fun z hz => h z (List.mem_cons_of_mem _ hz)) (by omega) (by rwa [List.filter_cons_of_neg (by rw [e]; exact Bool.false_ne_true)] at q))
      (fun e => ⟨gu_same, by omega, by
        rw [gu_gu]
        refine compL_filt s f P hS r (acc ++ [f x]) (fun z hz => h z (List.mem_cons_of_mem _ hz)) (by rw [List.length_append, List.length_singleton]; omega) ?_
        rw [List.filter_cons_of_pos e, List.map_cons] at q
        rw [List.append_assoc]
        exact q⟩)
    exact key
theorem lc_filt {α : Type} {g : DG} {tt : DT} {te : DE} {S : Gp → Prop} {δ : Sl} {G : Gp} {Q : DK} (l : List α) (s f : α → D) (P : α → Bool) {its : List D} (e : its = l.map s) (hl : l.length ≤ sizeLine) (hS : ∀ p ys, G p = none → S (gu G p (.lst ys)))
    (h : ∀ x ∈ l, ∀ p ys (M : Gp → Prop) (Q : DK), G p = none → (P x = false → M (gu G p (.lst ys))) → (P x = true → Q (f x) (gu G p (.lst ys))) → g (s x) δ (gu G p (.lst ys)) fun δ2 G2 => tt δ2 G2 fun b G3 => if b = true then te δ2 G3 Q else M G3)
    (q : Q (.lst ((l.filter P).map f)) G) : ∀ p, G p = none → compL g tt te S p δ its [] (gu G p (.lst [])) (endLc false Q p) := fun p hp => by
  subst e
  refine compL_filt s f P (fun ys => hS p ys hp) l [] (fun x hx ys M Q' m k => h x hx p ys M Q' hp m k) (by simpa using hl) ?_
  show Q (.lst ([] ++ (l.filter P).map f)) (gd (gu G p _) p)
  rw [gd_gu hp, List.nil_append]
  exact q
end DL

set_option maxHeartbeats 2000000
/-! A dict is no whole number. -/
namespace PySem.SeqAt
open AutoSeq1 (wpAny_loadPart')
open MeetsSeq
theorem dl_dict_eq_declines_int (l : Addr) (es : Array DictEntry) (ep : Nat) (dd : Option Addr) (sl : Array (Option Value)) (b : Int) (u : Tok) :
    Meets (Builtin.«dict.__eq__» ⟨[.ref l, .int b u], []⟩) (fun _ R s => s.heap.get? l = some { cls := .type "dict", dict := dd, data := .dict es ep, slots := sl } ∧ R (.ok (.ret .notImplemented)) s) :=
  .of_wp fun prog w A R s h => by obtain ⟨hp, g, d, tk, os⟩ := s; obtain ⟨hl, h⟩ := h; have f1 := F.sub_int_dict; wp_walk using wpAny_loadPart' hl; exact ⟨_, rfl, h⟩
theorem dl_int_eq_declines_dict (b : Int) (u : Tok) (l : Addr) (c : Value) (es : Array DictEntry) (ep : Nat) (dd : Option Addr) (sl : Array (Option Value)) :
    Meets (Builtin.«int.__eq__» ⟨[.int b u, .ref l], []⟩) (fun _ R s => s.heap.get? l = some { cls := c, dict := dd, data := .dict es ep, slots := sl } ∧ R (.ok (.ret .notImplemented)) s) :=
  .of_wp fun prog w A R s h => by obtain ⟨hp, g, d, tk, os⟩ := s; obtain ⟨hl, h⟩ := h; wp_walk using wpAny_loadPart' hl, wpAny_load hl; exact ⟨_, rfl, h⟩
end PySem.SeqAt
namespace PySem.SeqAt
section
variable {M : Model} {A : Around} {E : Value → Shared → Prop} {s : Shared}
theorem RcAt.dl_dict_int {l : Addr} {o : Obj} {es : Array DictEntry} {ep : Nat} (b : Int) (u : Tok) (ho : s.heap.get? l = some o) (hc : o.cls = .type "dict") (hd : o.data = .dict es ep) (hu : A.units < cLine) : RcAt A s (.ref l) (.int b u) false := fun prog w E Q h => by
  obtain ⟨cls, dd, data, sl⟩ := o
  simp only at hc hd
  subst hc hd
  exact rc_eq_decline_or (k := false) ⟨_, ho, rfl⟩ (typeIs_int s b u) (by decide) F.sub_int_dict F.slot_dict_eq F.slot_int_eq_refl
    (fun _ hq => call_meets F.slot_dict_eq ⟨_, ho, rfl⟩ F.entry_dict_eq (F.args_dict_eq_2 _ _) (dl_dict_eq_declines_int l es ep dd sl b u) ⟨ho, hq⟩)
    (fun _ hq => call_meets F.slot_int_eq_refl (typeIs_int s b u) F.entry_int_eq (F.args_int_eq_2 _ _) (dl_int_eq_declines_dict b u l (.type "dict") es ep dd sl) ⟨ho, hq⟩)
    (fun _ hq => wpAny_of_eq (rfl : isSame (.ref l) (.int b u) = pure false) hq) (.inr hu) h
end
end PySem.SeqAt
namespace DL
open PySem PySem.Spec PyProof.Rows L2
/-- a dict and a whole number -/
def rDctInt : R2 := fun x y H Q => ∃ (a : Addr) (kvs : List (Key × V)) (i : Int), x = .ref a ∧ H a = some (.dK kvs) ∧ y = .int i ∧ Q (.bl false) H
theorem op_dctInt {X : Cx} (hu : X.A.units + 64 < cLine) : OpR X (compareOp .Eq) rDctInt := by
  intro pins s σ H x y v u Q I rx ry h
  obtain ⟨a, kvs, i, rfl, ha, rfl, q⟩ := h
  cases rx
  obtain ⟨t, rfl⟩ := ry
  have hx : ObjOk X.prog X.w H s.heap a (.dK kvs) := I.hok a _ ha
  obtain ⟨_, _, vs, _, o, es, ep, ho, hE, hd, _⟩ := hx
  exact PySem.SeqAt.RcAt.dl_dict_int i t ho hE.1 hd (by omega) X.prog X.w X.xe _ ⟨.bl false, H, I, rfl, q⟩
def rEqX (K : PySem.W.Frag) : R2 := fun x y H Q => rEqM K x y H Q ∨ rDctInt x y H Q
theorem op_eqX {X : Cx} (hu : X.A.units + 64 < cLine) : OpR X (compareOp .Eq) (rEqX X.K) := (op_eqM hu).or (op_dctInt hu)
def dEqX : D2 := fun x y G Q => match x, y with
  | .dct _, .int _ => Q (.bl false) G
  | x, y => dEq x y G Q
theorem od_eqX {K : PySem.W.Frag} {F₀ : Hp} : OpD K F₀ dEqX (rEqX K) := by
  intro F G H x y v u Q' Q s w rx ry q k
  unfold dEqX at q
  split at q
  · cases rx with
    | dct h1 h2 =>
      cases ry
      exact .inr ⟨_, _, _, rfl, w.fz _ _ h1, rfl, k _ _ F G H (Same.refl F) w (.bl _) q⟩
  · exact .inl (od_eq F G H _ _ v u Q' Q s w rx ry q k)
end DL

/-! Errors: defs that let them out, raise of an own class without fields. -/
namespace DL
open PySem PySem.Spec PyProof.Rows L2
section
variable {P : Program} {w : World} {K : PySem.W.Frag} {mg : Str → Option Value} {base : Heap}
/-- the context of a def that may let errors out -/
abbrev cxE (P : Program) (w : World) (K : PySem.W.Frag) (mg : Str → Option Value) (base : Heap) (N : List Str) (qual : Str) (sc : Scope) (f : Addr) (cdv : Value) (A : Around) (outer : List Env) (s : Shared) (H : Hp) (E : XK) : Cx :=
  cxOf (L2.CX P w) P w K mg base N qual sc f cdv A outer s H E
theorem takesX {N : List Str} {qual : Str} {sc : Scope} {f : Addr} {cdv : Value} {A : Around} {outer : List Env} {s : Shared} {H : Hp} {E : XK} :
    Takes (cxE P w K mg base N qual sc f cdv A outer s H E) (fun cls d _ H => E cls d H) := takes_of rfl rfl rfl rfl
theorem passX {N : List Str} {qual : Str} {sc : Scope} {f : Addr} {cdv : Value} {A : Around} {outer : List Env} {s : Shared} {H : Hp} {E : XK} :
    Passes (L2.CX P w) (cxE P w K mg base N qual sc f cdv A outer s H E) E := passes_call takesX fun _ _ _ _ h => h
theorem ownX {N : List Str} {qual : Str} {sc : Scope} {f : Addr} {cdv : Value} {A : Around} {outer : List Env} {s : Shared} {H : Hp} {E : XK} :
    PassesOwn (model P w) (cxE P w K mg base N qual sc f cdv A outer s H E).A (cxE P w K mg base N qual sc f cdv A outer s H E).env (cxE P w K mg base N qual sc f cdv A outer s H E).xe := passes_of rfl
/-- where nothing is let out -/
theorem passF {X : Cx} : Passes (L2.CX X.prog X.w) X (fun _ _ _ => False) := passes_call LamX.takes0 fun _ _ _ _ h => h.elim
/-- a def that may let errors out -/
theorem fn_dE {x qual : Str} {st : Stmt} {f : Addr} {fd : FuncData} {N ps : List Str} {k : Nat} {sp : DSp} (F : Fun K x qual st f fd) (S : FnScope N ps (defScope st)) (len : ∀ ds G Q E, sp ds G Q E → ds.length = ps.length)
    (hbody : ∀ (cdv : Value) (A : Around) (outer : List Env) (s : Shared) (H : Hp) (E : XK) (F₀ : Hp) (E' : DX), Room k (A.deeper (envOfC qual (defScope st) s.heap.objs.size f cdv)) → Mute A → KoE K F₀ E' E →
      ∃ t : DS, PSs (cxE P w K mg base N qual (defScope st) f cdv A outer s H E) (defBody st) (Ls K F₀ t) ∧ ∀ ds G Q, sp ds G Q E' → t (endD Q) (startD N ds) G) : FnG P w K mg base (L2.CX P w) (k + 1) f fd ps (LSp K sp) := by
  refine fnG_of F S (fun vs H Q E ⟨F, G, ds, Q', E', r, w, q, _⟩ => by rw [← r.length]; exact len _ _ _ _ q) (fun cdv A outer s H vs Q E hr hmu ⟨F0, G, ds, Q', E', r, w, q, k, ke⟩ => ?_)
  obtain ⟨t, h1, h2⟩ := hbody cdv A outer s H E F0 E' hr hmu ke
  have hl := len _ _ _ _ q
  have hN : ps.length ≤ N.length := by have := congrArg List.length S.pre; rw [List.length_take] at this; omega
  exact ⟨_, h1, ⟨_, F0, G, endD Q', Same.refl F0, En.start N r (by omega), w, h2 _ _ _ q, ke_end k⟩⟩
end
/-! ### raise -/
def dRaise (n : Str) (E' : DX) : DS := fun _ _ G => E' n [] G
section
variable {X : Cx} {F₀ : Hp} {C : Addr} {bmB : List Value} {B newId initId : String} {x : Str} {p p2 pos : Pos} {E : XK} {E' : DX}
/-- X(), X an own exception class without own __init__ -/
theorem pmk_own0 (F : ExcBaseFacts B newId initId bmB) (q : PySem.W.excIn X.K C bmB newId = true) (gC : X.mg x = some (.ref C)) (kC : PySem.W.keepIn X.K (.ref C) = true) (r : Raises X (.ref C)) (hg : Gl X x) (hdb : (x == ("__debug__" : Str)) = false := by decide) :
    PMk X (.Call (.Name x p) [] [] pos) (fun _ H Q => Q (.ref C) none H) := by
  intro pins s σ H Q I h
  refine wpAny_Call_Name_kw (ld_glob I hg gC ?_ hdb)
  refine PySem.W.callWith_K0 I.kIn kC ?_
  show wpAny _ _ (call (.ref C) []) _ _ _
  obtain ⟨bm, N, nm, qn, bs, hdct, sn, sub, ab, col, dd, k0, k1, k2, k3, k5, mN, hC, hN, hni, T⟩ := exc_obj I.kIn q
  refine wpAny_call_exc_subT F T hC hN hni (fun h' e hm => ?_) (by show 0 ≤ sizeLine; exact Nat.zero_le _)
  exact mk_of I hm r h (I.hok.gone hm.new)
/-- what the written part says of an own exception class without fields -/
structure ExN (K : PySem.W.Frag) (mg : Str → Option Value) (n : Str) (C : Addr) : Prop where
  ex : PySem.W.excIn K C [.type "ValueError", .type "Exception", .type "BaseException", .type "object"] "ValueError.__new__" = true
  g : mg n = some (.ref C)
  ns : PySem.W.nsIn K mainGlobals n = some (some (.ref C))
  kp : PySem.W.keepIn K (.ref C) = true
  sb : PySem.W.subIn K (.ref C) (.type "BaseException") = some true
  ty : PySem.W.typeIn K (.ref C) = some (.type "type")
theorem ds_raise (hc : X.calm = true) (tk : Takes X (fun cls d _ H => E cls d H)) (ke : KoE X.K F₀ E' E) (T : ExN X.K X.mg x C) (hg : Gl X x) (hdb : (x == ("__debug__" : Str)) = false := by decide) :
    PS X (.Raise (some (.Call (.Name x p) [] [] p2)) none pos) (Ls X.K F₀ (dRaise x E')) :=
  ps_imp (L2.ps_raise hc tk (pmk_own0 F.excBase_ValueError T.ex T.g T.kp (raises_own T.sb T.ty) hg hdb)) fun D σ H ⟨δ, F, G, D', s, en, w, q, k⟩ => ke x C [] none F G H T.ns s w (.inl ⟨rfl, rfl⟩) q
end
end DL

/-! Errors met in a try's body, where the slots count; lambdas as values, defs that call what they got. -/
namespace DL
open PySem PySem.Spec PyProof.Rows L2
/-- what is wished of an error: its class's name, its fields, the slots then -/
abbrev DW := Str → List (Str × D) → Sl → Gp → Prop
def KoW (K : PySem.W.Frag) (F : Hp) (W' : DW) (W : WX) : Prop := ∀ n C fs d δ σ F' G' H', PySem.W.nsIn K mainGlobals n = some (some (.ref C)) → Same F F' → En K F' δ σ → Wd K F' G' H' → ErrAt K F' fs d → W' n fs δ G' → W (.ref C) d σ H'
def ownW (E' : DX) : DW := fun n fs _ G => E' n fs G
theorem kow_own {K : PySem.W.Frag} {F : Hp} {E' : DX} {E : XK} (ke : KoE K F E' E) : KoW K F (ownW E') (fun cls d _ H => E cls d H) := fun n C fs d _ _ F' G' H' h s _ w er q => ke n C fs d F' G' H' h s w er q
theorem KoW.up {K : PySem.W.Frag} {F F' : Hp} {W' : DW} {W : WX} (e : Same F F') (k : KoW K F W' W) : KoW K F' W' W := fun n C fs d δ σ F1 G1 H1 h s en w er q => k n C fs d δ σ F1 G1 H1 h (e.trans s) en w er q
theorem KoW.at {K : PySem.W.Frag} {F F' : Hp} {W' : DW} {W : WX} {δ : Sl} {σ : L2.St} (k : KoW K F W' W) (e : Same F F') (en : En K F' δ σ) : KoE K F' (fun n fs G => W' n fs δ G) (WE W σ) :=
  fun n C fs d F1 G1 H1 h s w er q => k n C fs d δ σ F1 G1 H1 h (e.trans s) (en.mono s) w er q
section
variable {X : Cx} {CX : CXT} {k : Nat} {f C : Addr} {fd : FuncData} {ps : List Str} {sp : Sp} {E : XK} {x m : Str} {p pos apos : Pos} {e o : Expr} {es : List Expr} {ta : TE} {t : TA}
theorem after_callS {pins : List (Addr × Obj)} {σ : L2.St} {H : Hp} {s : Shared} {Q : VK} (hx : PassesAt CX X σ E) (I : Inv X pins σ H s) {r : Result} {s' : Shared} (hq : CR CX X.stack X.prog X.w H s Q E r s') : RRes (EP X pins σ Q) X.xe r s' := by
  match r, hq with
  | .error e, hq => exact hx pins H s e s' I hq
  | .ok (.ret _), hq => exact I.after hq
  | .ok .brk, hq => exact hq
  | .ok .cont, hq => exact hq
  | .ok .next, hq => exact hq
theorem go_fnS {pins : List (Addr × Obj)} {σ : L2.St} {H : Hp} {s : Shared} {Q : VK} {us : List Value} {vs : List V} (F : FnG X.prog X.w X.K X.mg X.base CX k f fd ps sp) (hr : Room k X.A) (hm : Mute X.A) (hb : Binds X.K fd ps []) (hx : PassesAt CX X σ E)
    (I : Inv X pins σ H s) (r : Vals vs us) (h : sp vs H Q E) : wpAny (model X.prog X.w) X.A (call (.ref f) us) (EP X pins σ Q) X.xe s := by
  have hl : (us ++ []).length = ps.length := by rw [List.append_nil, ← r.length]; exact F.arity _ _ _ _ h
  have b := hb s us I.kIn hl
  rw [List.append_nil] at b
  exact wp_call (F.go X.A X.stack s H ⟨us, []⟩ us vs Q E hr hm I.env0 b r h) fun r s' hq => after_callS hx I hq
theorem go_makeS {pins : List (Addr × Obj)} {σ : L2.St} {H : Hp} {s : Shared} {Q : VK} {us : List Value} {vs : List V} (M : Mk X.K C f) (F : FnG X.prog X.w X.K X.mg X.base CX k f fd ps sp) (hr : Room (k + 1) X.A) (hm : Mute X.A) (hb : Binds X.K fd ps [])
    (hx : PassesAt CX X σ E) (I : Inv X pins σ H s) (r : Vals vs us)
    (h : ∀ x dx, H x = none → H dx = none → dx ≠ x → sp (.ref x :: vs) (upd (upd H dx (.own x)) x (.ins C dx [])) (fun v H2 => v = .non ∧ Q (.ref x) H2) E) :
    wpAny (model X.prog X.w) X.A (call (.ref C) us) (EP X pins σ Q) X.xe s := by
  have q := h _ _ (I.hok.fresh (Nat.le_succ s.heap.objs.size)) (I.hok.fresh (Nat.le_refl s.heap.objs.size)) (Nat.ne_of_lt (Nat.lt_succ_self _))
  have J := Inv.made (C := C) I
  have r2 : Vals (V.ref (s.heap.objs.size + 1) :: vs) (Value.ref (s.heap.objs.size + 1) :: us) := .cons rfl r
  have hl : ((Value.ref (s.heap.objs.size + 1) :: us) ++ []).length = ps.length := by rw [List.append_nil, ← r2.length]; exact F.arity _ _ _ _ q
  have b := hb _ (Value.ref (s.heap.objs.size + 1) :: us) J.kIn hl
  rw [List.append_nil] at b
  refine wpAny_call (make_map (f := f) I.kIn M.makes M.init (beq_iff_eq.mp M.fn) (codeAny_mono (F.go _ X.stack _ _ ⟨Value.ref (s.heap.objs.size + 1) :: us, []⟩ _ _ _ E (hr.make C us []) (mute_make hm) (J.env0.make C us []) b r2 q) fun r s' hq => ?_))
  exact go_make.make_back (after_callS hx J hq)
end
/-! ### calls, in a try's body -/
def dCallW (sp : DSp) (W' : DW) (t : DA) : DE := fun δ G Q => t δ G fun ds G1 => sp ds G1 Q fun n fs G2 => W' n fs δ G2
def dMakeW (n : Str) (sp : DSp) (W' : DW) (t : DA) : DE := fun δ G Q => t δ G fun ds G1 => ∀ p, G1 p = none → sp (.ref p :: ds) (gu G1 p (.ins n [])) (fun v G2 => v = .non ∧ Q (.ref p) G2) fun n fs G2 => W' n fs δ G2
section
variable {X : Cx} {F₀ : Hp} {k : Nat} {f C : Addr} {fd : FuncData} {ps : List Str} {sp : DSp} {W : WX} {W' : DW} {x m n : Str} {p pos apos : Pos} {e o : Expr} {es : List Expr} {to : DE} {t : DA}
theorem de_callW (F : FnG X.prog X.w X.K X.mg X.base (L2.CX X.prog X.w) k f fd ps (LSp X.K sp)) (hr : Room k X.A) (hmu : Mute X.A) (hg : Gl X x) (hm : X.mg x = some (.ref f)) (hk : PySem.W.keepIn X.K (.ref f) = true) (hb : Binds X.K fd ps []) (tk : Takes X W) (kw : KoW X.K F₀ W' W)
    (ha : PA X (e :: es) (La X.K F₀ t)) (hdb : (x == ("__debug__" : Str)) = false := by decide) (he : starEach (e :: es) X.env = (false, eval e X.env) :: starEach es X.env := by rfl) (hpl : (backTo pos (starEach es X.env)).any (·.1) = false := by rfl) :
    PE X (.Call (.Name x p) (e :: es) [] pos) (Le X.K F₀ (dCallW sp W' t)) :=
  ⟨fun pins s σ H Q I ⟨δ, F1, G, Q', s0, en, w, q, k⟩ => wpAny_Call_Name_kw (ld_glob I hg hm (PySem.W.callWith_K (h₀ := X.base) I.ok.mod.kin hk (thn (ha.run pos pins s σ H (fun vs H1 => LSp X.K sp vs H1 Q (WE W σ)) I
    ⟨δ, F1, G, _, s0, en, w, q, fun ds vs F2 G2 H2 s2 w2 r2 q2 => ⟨F2, G2, ds, Q', _, r2, w2, q2, k.mono s2, kw.at (s0.trans s2) (en.mono s2)⟩⟩) fun us s1 ⟨vs, H1, I1, r, q⟩ => ⟨I1.kIn, go_fnS F hr hmu hb (passAt tk σ) I1 r q⟩) he hpl) hdb)⟩
theorem de_makeW (hC : IsC X.K n C) (M : Mk X.K C f) (F : FnG X.prog X.w X.K X.mg X.base (L2.CX X.prog X.w) k f fd ps (LSp X.K sp)) (hr : Room (k + 1) X.A) (hmu : Mute X.A) (hg : Gl X x) (hm : X.mg x = some (.ref C)) (hb : Binds X.K fd ps []) (tk : Takes X W) (kw : KoW X.K F₀ W' W)
    (ha : PA X (e :: es) (La X.K F₀ t)) (hdb : (x == ("__debug__" : Str)) = false := by decide) (he : starEach (e :: es) X.env = (false, eval e X.env) :: starEach es X.env := by rfl) (hpl : (backTo pos (starEach es X.env)).any (·.1) = false := by rfl) :
    PE X (.Call (.Name x p) (e :: es) [] pos) (Le X.K F₀ (dMakeW n sp W' t)) := by
  refine ⟨fun pins s σ H Q I ⟨δ, F1, G, Q', s0, en, w, q, k⟩ => wpAny_Call_Name_kw (ld_glob I hg hm (PySem.W.callWith_K (h₀ := X.base) I.ok.mod.kin M.kp (thn (ha.run pos pins s σ H (fun vs H1 => ∀ x dx, H1 x = none → H1 dx = none → dx ≠ x → LSp X.K sp (.ref x :: vs) (upd (upd H1 dx (.own x)) x (.ins C dx [])) (fun v H2 => v = .non ∧ Q (.ref x) H2) (WE W σ)) I
    ⟨δ, F1, G, _, s0, en, w, q, fun ds vs F2 G2 H2 s2 w2 r2 q2 p dx hp hd hne => ?_⟩) fun us s1 ⟨vs, H1, I1, r, q⟩ => ⟨I1.kIn, go_makeS M F hr hmu hb (passAt tk σ) I1 r q⟩) he hpl) hdb)⟩
  have w3 := w2.newN hd (.own p)
  have hp2 : upd H2 dx (.own p) p = none := by rw [upd_ne (Ne.symm hne)]; exact hp
  have w4 : Wd X.K F2 (gu G2 p (.ins n [])) (upd (upd H2 dx (.own p)) p (.ins C dx [])) := w3.put (g := .ins n []) (w3.ffree hp2) ⟨C, dx, [], hC, upd_same, .nil⟩
  refine ⟨F2, _, _, _, _, .cons (.ref p) r2, w4, q2 p (w2.gfree hp), fun d v F3 G3 H3 s3 w5 r3 q3 => ?_, kw.at (s0.trans s2) (en.mono s2)⟩
  obtain ⟨rfl, q3⟩ := q3
  cases r3
  exact ⟨rfl, k (.ref p) _ F3 G3 H3 (s2.trans s3) w5 (.ref p) q3⟩
end
/-! ### lambdas -/
abbrev lamO (cells : List (Str × Addr)) (q : Str) (params : Arguments) (body : Expr) (scope : Scope) (pm : Value) (c' : Addr) (ctv : Value) : Obj := PySem.W.kla_obj "<lambda>" q params body scope (cloFrom cells scope.names []) pm c' ctv
/-- what is known of a lambda -/
def LamR (cells : List (Str × Addr)) (q : Str) (params : Arguments) (body : Expr) (scope : Scope) (F : Hp) (f : Addr) : Prop :=
  ∃ (c' : Addr) (pm ctv : Value), F f = some (StO f (lamO cells q params body scope pm c' ctv)) ∧ F c' = some (LamX.CodeO c' q)
theorem LamR.all {cells : List (Str × Addr)} {q : Str} {params : Arguments} {body : Expr} {scope : Scope} {F : Hp} {f : Addr} (h : LamR cells q params body scope F f) : ∀ F', Same F F' → LamR cells q params body scope F' f := fun F' s => by
  obtain ⟨c', pm, ctv, h1, h2⟩ := h
  exact ⟨c', pm, ctv, s _ _ h1, s _ _ h2⟩
/-- its names: its parameters, captured ones, globals -/
structure LamN (sc scope : Scope) (ps : List Str) : Prop where
  kind : scope.kind = .function
  co : scope.isCoroutine = false
  gen : scope.isGenerator = false
  nd : ps.Nodup
  par : ∀ y ∈ ps, scope.names.lookup y = some .local
  own : ∀ y ∈ scope.names, y.2 ≠ .cell ∧ (y.2 = .local → y.1 ∈ ps)
  free : ∀ y ∈ scope.names, y.2 = .free → sc.names.lookup y.1 = some .cell ∨ sc.names.lookup y.1 = some .free
def lamNB (sc scope : Scope) (ps : List Str) : Bool :=
  decide (scope.kind = .function) && !scope.isCoroutine && !scope.isGenerator && decide ps.Nodup && (ps.all fun y => decide (scope.names.lookup y = some .local)) &&
    scope.names.all fun y => !decide (y.2 = .cell) && (!decide (y.2 = .local) || decide (y.1 ∈ ps)) && (!decide (y.2 = .free) || decide (sc.names.lookup y.1 = some .cell) || decide (sc.names.lookup y.1 = some .free))
theorem lamN_by {sc scope : Scope} {ps : List Str} (h : lamNB sc scope ps = true) : LamN sc scope ps := by
  unfold lamNB at h
  simp only [Bool.and_eq_true, Bool.or_eq_true, Bool.not_eq_true', decide_eq_true_eq, decide_eq_false_iff_not, List.all_eq_true] at h
  obtain ⟨⟨⟨⟨⟨a, b⟩, c⟩, d⟩, e⟩, g⟩ := h
  refine ⟨a, b, c, d, e, fun y hy => ⟨(g y hy).1.1, fun z => (g y hy).1.2.elim (fun n => absurd z n) id⟩, fun y hy z => ?_⟩
  rcases (g y hy).2 with (n | n) | n
  · exact absurd z n
  · exact .inl n
  · exact .inr n
theorem LamN.has {X : Cx} {scope : Scope} {ps : List Str} (L : LamN X.env.scope scope ps) (ok : X.Ok) : ∀ y ∈ scope.names, y.2 = .free → ∃ c, X.env.cells.lookup y.1 = some c := fun y hy e => (L.free y hy e).elim (fun k => ok.has _ (.inl k)) fun k => ok.has _ (.inr k)
/-- the context of a lambda's body -/
def lamC (X : Cx) (A : Around) (outer : List Env) (s : Shared) (H : Hp) (E : XK) (scope : Scope) (ps : List Str) (f c' : Addr) : Cx :=
  { LamX.lamCx X A outer s H E scope f c' with N := ps ++ X.N }
section
variable {X : Cx} {pins : List (Addr × Obj)} {σ : L2.St} {H HZ : Hp} {s s1 : Shared}
theorem lam_in {A : Around} {outer : List Env} {E : XK} {scope : Scope} {ps : List Str} {us : List Value} {vs : List V} {f c' : Addr} {h₁ : Heap} {tk : Nat} (I : Inv X pins σ H s) (L : LamN X.env.scope scope ps) (dj : ∀ y ∈ ps, y ∉ X.N)
    (e0 : Env0 X.prog X.w X.K X.mg X.base A outer s1 HZ) (hd : A.handled = none) (un : Un (frs X.stack) [] H HZ s.heap s1.heap) (r : Vals vs us) (hl : vs.length = ps.length)
    (hns : h₁.Ns s1.heap.objs.size fun y => (ps.zip us).reverse.lookup y) (kp : ∀ b o, s1.heap.get? b = some o → h₁.get? b = some o) :
    Inv (lamC X A outer s1 HZ E scope ps f c') [] (vs.map some ++ σ) HZ { s1 with heap := h₁, toks := tk } := by
  have has := L.has I.ok
  have back : ∀ {y c}, (cloFrom X.env.cells scope.names []).lookup y = some c → X.env.cells.lookup y = some c := fun {y c} e => by
    rcases cloFrom_mem (PySem.mem_of_lookup e) with z | ⟨z1, z2⟩
    · cases z
    · obtain ⟨c1, hc⟩ := has _ z1 rfl
      have hc : X.env.cells.lookup y = some c1 := hc
      rw [hc]
      rw [show X.env.cells.lookup y = some c1 from hc] at z2
      exact congrArg some z2.symm
  have fwd : ∀ {y}, scope.names.lookup y = some .free → ∃ c, (cloFrom X.env.cells scope.names []).lookup y = some c := fun {y} z => by
    have m : (y, NameKind.free) ∈ scope.names := PySem.mem_of_lookup z
    exact mem_lookup (cloFrom_has (cells := X.env.cells) (acc := []) m)
  have stay : ∀ {c : Addr} {v : Option Value}, H c = none → s.heap.IsCell c v → h₁.IsCell c v := fun {c v} n ⟨o, a, b⟩ => by
    obtain ⟨sl, z⟩ := un.any a n (by simp)
    exact ⟨_, kp _ _ z, b⟩
  have noex : ∀ b : Addr, b ∈ (lamC X A outer s1 HZ E scope ps f c').ex → False := fun b z => (nomatch (show b ∈ ([] : List Addr) from z))
  refine ⟨⟨e0.mod, L.kind, rfl, rfl, Nat.le_refl _, fun y z c a b => I.ok.inj y z c (back a) (back b), fun y hy => ?_, fun y c z _ => (nomatch (show false = true from z)), fun _ => hd, Around.frames_deeper e0.frames, .inr ⟨rfl, rfl⟩,
      fun b z => (noex b z).elim, e0.bs, e0.bsz, fun b _ _ z => noex b z, fun b z => (noex b z).elim, e0.funs, e0.frf⟩,
    rfl, e0.bare, Un.kept kp, ⟨_, hns, fun i y v e1 e2 e3 => ?_⟩, fun y c e => ?_, e0.hok.fresh (Nat.le_refl _), fun y c e => ?_, fun q hq => (nomatch (show q ∈ ([] : List (Addr × Obj)) ++ [] from hq)), e0.hok.kept kp, ?_⟩
  · rcases (show scope.names.lookup y = some .cell ∨ scope.names.lookup y = some .free from hy) with z | z
    · exact absurd rfl (L.own _ (PySem.mem_of_lookup z)).1
    · exact fwd z
  · have e1 : (ps ++ X.N)[i]? = some y := e1
    by_cases hi : i < ps.length
    · rw [List.getElem?_append_left hi] at e1
      rw [List.getElem?_append_left (by rw [List.length_map]; omega), List.getElem?_map] at e2
      cases z : vs[i]? with
      | none => rw [z] at e2; cases e2
      | some v0 =>
        rw [z] at e2
        cases e2
        obtain ⟨u, hu, ru⟩ := r.get z
        exact ⟨u, ru, .inl ⟨L.par y (List.mem_of_getElem? e1), NdefX.zip_look L.nd e1 hu⟩⟩
    · rw [List.getElem?_append_right (by omega)] at e1
      rw [List.getElem?_append_right (by rw [List.length_map]; omega), List.length_map, hl] at e2
      have hyN : y ∈ X.N := List.mem_of_getElem? e1
      rcases (show Vis scope y from e3) with z | z | z
      · exact absurd hyN (dj y ((L.own _ (PySem.mem_of_lookup z)).2 rfl))
      · exact absurd rfl (L.own _ (PySem.mem_of_lookup z)).1
      · obtain ⟨m, hn, look⟩ := I.loc
        have vis : Vis X.env.scope y := (L.free _ (PySem.mem_of_lookup z) rfl).elim (fun k => .inr (.inl k)) fun k => .inr (.inr k)
        obtain ⟨w', rw', q⟩ := look _ y v e1 e2 vis
        obtain ⟨c2, h2⟩ := fwd z
        refine ⟨w', rw', .inr ⟨.inr z, c2, h2, ?_⟩⟩
        have c1 := back h2
        rcases q with ⟨k, _⟩ | ⟨_, c3, e', z'⟩
        · have k : X.env.scope.names.lookup y = some .local := k
          rcases L.free _ (PySem.mem_of_lookup z) rfl with k2 | k2 <;> rw [show X.env.scope.names.lookup y = _ from k2] at k <;> cases k
        · rw [c1] at e'
          cases e'
          exact stay (I.freeC y _ c1) z'
  · obtain ⟨w', z⟩ := I.cell y c (back e)
    exact ⟨w', stay (I.freeC y c (back e)) z⟩
  · obtain ⟨v, o, a, _⟩ := I.cell y c (back e)
    exact un.free c o a (I.freeC y c (back e)) (by simp)
  · show (vs.map some ++ σ).length = (ps ++ X.N).length
    rw [List.length_append, List.length_append, List.length_map, hl, I.len]
end
end DL

/-! Lambdas made, handed on, called. -/
namespace DL
open PySem PySem.Spec PyProof.Rows L2
theorem En.front {K : PySem.W.Frag} {F : Hp} {δ : Sl} {σ : L2.St} (h : En K F δ σ) : ∀ {ds : List D} {vs : List V}, Rps K F ds vs → En K F (ds.map some ++ δ) (vs.map some ++ σ)
  | [], _, r => by cases r; exact h
  | d :: ds, _, r => by
    cases r with
    | @cons _ v _ vs a b =>
      have ih := h.front b
      refine ⟨?_, fun i x e => ?_⟩
      · have := ih.1
        simp only [List.map_cons, List.cons_append, List.length_cons]
        omega
      · cases i with
        | zero =>
          simp at e
          subst e
          exact ⟨v, rfl, a⟩
        | succ i => exact ih.2 i x e
/-- a function value that keeps th wherever it is called from the state (H0, h0) on -/
structure WayOk (P : Program) (w : World) (K : PySem.W.Frag) (mg : Str → Option Value) (base : Heap) (k : Nat) (fs : List Addr) (H0 : Hp) (h0 : Heap) (F0 : Hp) (fw : Addr) (n : Nat) (th : DSp) : Prop where
  fn : ∀ (F H : Hp) (h : Heap), Same F0 F → Same F H → HOk P w H h → PySem.W.FnAt fw h
  go : ∀ (A : Around) (outer : List Env) (s : Shared) (H : Hp) (us : List Value) (vs : List V) (Q : VK) (E : XK) (F : Hp) (G : Gp) (ds : List D) (Q' : DK) (E' : DX), Room k A → Mute A → Env0 P w K mg base A outer s H → Un fs [] H0 H h0 s.heap → Vals vs us →
    Same F0 F → Wd K F G H → Rps K F ds vs → ds.length = n → th ds G Q' E' → Ko K F Q' Q → KoE K F E' E → codeAny (model P w) A (.call (.ref fw) ⟨us, []⟩) (CR (L2.CX P w) outer P w H s Q E) s
section
variable {X : Cx} {pins : List (Addr × Obj)} {σ : L2.St} {H F F₀ : Hp} {G : Gp} {s : Shared} {δ : Sl}
/-- the lambda f, as its maker knows it at the state s -/
theorem lam_way {k : Nat} {q : Str} {params : Arguments} {body : Expr} {scope : Scope} {ps : List Str} {f : Addr} {tb : DX → DE} (I : Inv X pins σ H s) (L : LamN X.env.scope scope ps) (dj : ∀ y ∈ ps, y ∉ X.N) (hq : X.env.qual ++ "<lambda>" = q) (R : LamR X.env.cells q params body scope F f)
    (en : En X.K F δ σ) (hbind : ∀ (q : Str) (cl : List (Str × Addr)) (pm cv ctv : Value) (us : List Value), us.length = ps.length → bindArgs (PySem.W.kla_fn "<lambda>" q params body scope cl pm cv ctv) ⟨us, []⟩ = pure (ps.zip us))
    (hbody : ∀ (A : Around) (outer : List Env) (s : Shared) (H : Hp) (E : XK) (f c' : Addr) (E' : DX) (F1 : Hp), Room k (A.deeper (LamX.lamEnv X scope s.heap.objs.size f c')) → Mute A → KoE X.K F1 E' E → PE (lamC X A outer s H E scope ps f c') body (Le X.K F1 (tb E'))) :
    WayOk X.prog X.w X.K X.mg X.base (k + 1) (frs X.stack) H s.heap F f ps.length (fun ds G Q E' => tb E' (ds.map some ++ δ) G Q) := by
  obtain ⟨c', pm, ctv, hf, hc⟩ := R
  refine ⟨fun F1 H1 h s1 s2 hok => ?_, fun A outer s1 H1 us vs Q E F1 G1 ds Q' E' hr hmu e0 un r sF w rp hl h ko ke => ?_⟩
  · obtain ⟨e, _⟩ := hok f _ (s2 _ _ (s1 _ _ hf))
    exact ⟨_, _, _, _, e⟩
  · obtain ⟨of1, _⟩ := e0.hok f _ (w.fz _ _ (sF _ _ hf))
    obtain ⟨⟨oc, cvs, t, hoc, hdc, hvc⟩, _, _⟩ := e0.hok c' _ (w.fz _ _ (sF _ _ hc))
    have hlv : vs.length = ps.length := by rw [← rp.length, hl]
    have lim : s1.heap.NoLimit := e0.mod.nolimit.keeps fun b o e => (e0.bs b o e).1
    subst hq
    refine PySem.W.kla_callFunE hr.depth of1 rfl L.co L.gen rfl ⟨c', oc, cvs, t, rfl, hoc, hdc, hvc⟩ ?_
    rw [hbind _ _ _ _ _ us (by rw [← r.length, hlv])]
    refine wpAny_pure (wpAny_newFunctionEnv (fun y hy => (L.own y hy).1) (fun y hy => L.par _ (List.of_mem_zip (show (y.1, y.2) ∈ ps.zip us from hy)).1) (fun h₁ hns hsb => ⟨lim.fresh _ hsb, ?_⟩) L.kind)
    show codeAny _ _ (.expr body (LamX.lamEnv X scope s1.heap.objs.size f c')) _ _
    have kp : ∀ b o, s1.heap.get? b = some o → h₁.get? b = some o := fun b o e => hsb.extBut b o (Nat.ne_of_lt (Heap.lt_size e)) (Heap.get?_push_of_some _ e)
    have J := lam_in (E := E) (f := f) (c' := c') (tk := s1.toks + (ps.zip us).length) I L dj e0 hr.hd un r hlv hns kp
    refine PySem.W.kla_codeExpr (wpAny_mono ((hbody A outer s1 H1 E f c' E' F1 (hr.deeper _) hmu ke).run [] _ _ H1 Q J ⟨_, F1, G1, Q', Same.refl F1, (en.mono sF).front rp, w, h, ko⟩) (fun v s' hq => ?_) fun e s' hq => hq)
    obtain ⟨w', H', J', rv, q⟩ := hq
    exact ⟨w', H', J'.os, J'.bare, J'.base, J'.hok, rv, q⟩
/-! ### lambda: body -/
def dLam (P0 : Addr) (q : Str) (R : Hp → Addr → Prop) : DE := fun _ G Q => G P0 = some (.tab q) ∧ Q (.ho R) G
theorem tab_add {F' : Hp} {H' : Hp} {P0 c' f : Addr} {q : Str} {ps' ps2 : Array Value} {uf : HO} (w : Wd X.K F G H) (hP : H P0 = some (.tbl ps')) (hg : G P0 = some (.tab q)) (hto : TriplesOk ps2.toList)
    (hall : ∀ (pos : Pos) (cv : Value), codeAmong pos ps2.toList = some cv → ∃ c, cv = .ref c ∧ upd (upd F c' (LamX.CodeO c' q)) f uf c = some (LamX.CodeO c q)) (nc : H c' = none) (nf : H f = none) (ncf : f ≠ c') :
    Wd X.K (upd (upd F c' (LamX.CodeO c' q)) f uf) G (upd (upd (upd H P0 (.tbl ps2)) c' (LamX.CodeO c' q)) f uf) := by
  have fP : F P0 = none := (w.mu _ _ hg).1
  have Fc := w.ffree nc
  have Ff := w.ffree nf
  have sF : Same F (upd (upd F c' (LamX.CodeO c' q)) f uf) := (same_upd Fc).trans (same_upd (by rw [upd_ne ncf]; exact Ff))
  refine ⟨fun b u e => ?_, fun b u e => ?_⟩
  · by_cases h1 : b = f
    · subst h1; rw [upd_same] at e ⊢; exact e
    · rw [upd_ne h1] at e ⊢
      by_cases h2 : b = c'
      · subst h2; rw [upd_same] at e ⊢; exact e
      · rw [upd_ne h2] at e ⊢
        rw [upd_ne (fun z => by rw [z, fP] at e; cases e)]
        exact w.fz b u e
  · obtain ⟨a, g⟩ := w.mu b u e
    have h1 : b ≠ f := fun z => by rw [z, w.gfree nf] at e; cases e
    have h2 : b ≠ c' := fun z => by rw [z, w.gfree nc] at e; cases e
    refine ⟨by rw [upd_ne h1, upd_ne h2]; exact a, ?_⟩
    by_cases h3 : b = P0
    · subst h3
      rw [hg] at e
      cases e
      exact ⟨ps2, by rw [upd_ne h1, upd_ne h2, upd_same], hto, hall⟩
    · exact g.mono sF (by rw [upd_ne h1, upd_ne h2, upd_ne h3])
theorem de_lam {P0 c : Addr} {q : Str} {params : Arguments} {body : Expr} {scope : Scope} {ps : List Str} {pos : Pos} (TB : LamX.TabB X.base X.mg c P0) (hcode : X.env.code = .ref c) (L : LamN X.env.scope scope ps) (hq : X.env.qual ++ "<lambda>" = q) (hdef : defaultsOf params X.env = ([], [])) :
    PE X (.Lambda params body scope pos) (Le X.K F₀ (dLam P0 q (LamR X.env.cells q params body scope))) := by
  subst hq
  refine ⟨fun pins s σ H Q I ⟨δ, F1, G, Q', s0, en, w, ⟨hg, q1⟩, k⟩ => PySem.W.kla_eval hdef ?_⟩
  obtain ⟨fP, ps', hP, hto, hall⟩ := w.mu P0 _ hg
  have hP' : s.heap.get? P0 = some { cls := .none, data := .fields ps' } := I.hok P0 _ hP
  have bP : s.heap.BuiltinsAt X.mg P0 := TB.bm.keeps I.bk
  cases hcm : codeAmong pos ps'.toList with
  | none =>
    refine PySem.W.kla_makeFunction (mg := X.mg) (c := c) (P := P0) (ps := ps') (closure_ok (L.has I.ok)) I.ok.glob (I.mod.glob.keeps I.bk) hcode (TB.code.keeps I.bk) hP' hto hcm TB.gP bP fun c' ctv h' tk hx hge hlt hrec htb => ?_
    obtain ⟨c2, oc, cvs, t, e2, hoc, hd, hv⟩ := hrec
    cases e2
    have nC : H c' = none := I.hok.fresh hge
    have hsz : s.heap.objs.size ≤ h'.objs.size := Nat.le_trans hge (Nat.le_of_lt hlt)
    have nF : H h'.objs.size = none := I.hok.fresh hsz
    have I1 := LamX.inv_table (t' := tk) (more := #[rawInt pos.line, rawInt pos.col, .ref c']) I hP hx htb hge ⟨oc, cvs, t, hoc, hd, hv⟩
    have I2 := I1.laid (t' := tk) (a := h'.objs.size) (o := StO h'.objs.size (lamO X.env.cells (X.env.qual ++ "<lambda>") params body scope ((X.mg "__name__").getD .none) c' ctv)) (h' := h'.push (lamO X.env.cells (X.env.qual ++ "<lambda>") params body scope ((X.mg "__name__").getD .none) c' ctv))
      (fun b o e => Heap.get?_push_of_some _ e) (Nat.le_refl _) (stO_ok (Heap.get?_push_size _ rfl))
    have ncf : h'.objs.size ≠ c' := Nat.ne_of_gt hlt
    have eL : (ps' ++ #[rawInt pos.line, rawInt pos.col, .ref c']).toList = ps'.toList ++ [rawInt pos.line, rawInt pos.col, .ref c'] := by simp
    have w2 := tab_add (F' := F1) (H' := H) (ps2 := ps' ++ #[rawInt pos.line, rawInt pos.col, .ref c']) (uf := StO h'.objs.size (lamO X.env.cells (X.env.qual ++ "<lambda>") params body scope ((X.mg "__name__").getD .none) c' ctv)) w hP hg (by rw [eL]; exact PySem.TriplesOk_snoc _ _ _ _ hto) (fun p' cv z => ?_) nC nF ncf
    · have sF : Same F1 (upd (upd F1 c' (LamX.CodeO c' (X.env.qual ++ "<lambda>"))) h'.objs.size (StO h'.objs.size (lamO X.env.cells (X.env.qual ++ "<lambda>") params body scope ((X.mg "__name__").getD .none) c' ctv))) :=
        (same_upd (w.ffree nC)).trans (same_upd (by rw [upd_ne ncf]; exact w.ffree nF))
      refine ⟨.ref h'.objs.size, _, I2, rfl, k _ _ _ G _ sF w2 (.ho (LamR.all ⟨c', _, ctv, upd_same, ?_⟩)) q1⟩
      rw [upd_ne (Ne.symm ncf), upd_same]
    · rw [eL] at z
      rcases LamX.among_app _ hto z with z | z
      · obtain ⟨c0, e1, e2⟩ := hall p' cv z
        refine ⟨c0, e1, ?_⟩
        have e3 := w.fz _ _ e2
        rw [upd_ne (fun y => by rw [y, nF] at e3; cases e3), upd_ne (fun y => by rw [y, nC] at e3; cases e3)]
        exact e2
      · exact ⟨c', z, by rw [upd_ne (Ne.symm ncf), upd_same]⟩
  | some cv =>
    obtain ⟨c', e, hco⟩ := hall pos cv hcm
    subst e
    refine PySem.W.kla_makeFunctionHit (mg := X.mg) (c := c) (P := P0) (ps := ps') (closure_ok (L.has I.ok)) I.ok.glob (I.mod.glob.keeps I.bk) hcode (TB.code.keeps I.bk) hP' hto hcm bP fun ctv h' tk hx hsz => ?_
    have nF : H h'.objs.size = none := I.hok.fresh hsz
    have I1 : Inv X pins σ H { s with heap := h', toks := tk } := I.kept hx
    have I2 := I1.laid (t' := tk) (a := h'.objs.size) (o := StO h'.objs.size (lamO X.env.cells (X.env.qual ++ "<lambda>") params body scope ((X.mg "__name__").getD .none) c' ctv)) (h' := h'.push (lamO X.env.cells (X.env.qual ++ "<lambda>") params body scope ((X.mg "__name__").getD .none) c' ctv))
      (fun b o e => Heap.get?_push_of_some _ e) (Nat.le_refl _) (stO_ok (Heap.get?_push_size _ rfl))
    have sF := same_upd (o := StO h'.objs.size (lamO X.env.cells (X.env.qual ++ "<lambda>") params body scope ((X.mg "__name__").getD .none) c' ctv)) (w.ffree nF)
    exact ⟨.ref h'.objs.size, _, I2, rfl, k _ _ _ G _ sF (w.newF nF _) (.ho (LamR.all ⟨c', _, ctv, upd_same, sF _ _ hco⟩)) q1⟩
end
/-! ### a(..), a a parameter that was given a function value -/
def dWay (i : Nat) (fw : Addr) (n : Nat) (th : DSp) (W' : DW) (t : DA) : DE := fun δ G Q => δ[i]? = some (some (.ref fw)) ∧ t δ G fun ds G1 => ds.length = n ∧ th ds G1 Q fun m fs G2 => W' m fs δ G2
section
variable {X : Cx} {F₀ : Hp} {k i n : Nat} {fw : Addr} {th : DSp} {W : WX} {W' : DW} {a : Str} {e : Expr} {es : List Expr} {t : DA} {p pos : Pos}
theorem go_way {pins : List (Addr × Obj)} {σ : L2.St} {H F : Hp} {G : Gp} {s : Shared} {Q : VK} {E : XK} {us : List Value} {vs : List V} {ds : List D} {Q' : DK} {E' : DX} (V : WayOk X.prog X.w X.K X.mg X.base k X.fs X.H_0 X.s_0.heap F₀ fw n th) (hr : Room k X.A) (hmu : Mute X.A) (hex : X.ex = [])
    (hx : PassesAt (L2.CX X.prog X.w) X σ E) (I : Inv X pins σ H s) (r : Vals vs us) (sF : Same F₀ F) (w : Wd X.K F G H) (rp : Rps X.K F ds vs) (hl : ds.length = n) (h : th ds G Q' E') (ko : Ko X.K F Q' Q) (ke : KoE X.K F E' E) :
    wpAny (model X.prog X.w) X.A (call (.ref fw) us) (EP X pins σ Q) X.xe s := by
  have un : Un X.fs [] X.H_0 H X.s_0.heap s.heap := hex ▸ I.base
  exact wp_call (V.go X.A X.stack s H us vs Q E F G ds Q' E' hr hmu I.env0 un r sF w rp hl h ko ke) fun r s' hq => after_callS hx I hq
theorem de_way (V : WayOk X.prog X.w X.K X.mg X.base k X.fs X.H_0 X.s_0.heap F₀ fw n th) (hr : Room k X.A) (hmu : Mute X.A) (hex : X.ex = []) (hN : X.N[i]? = some a) (hv : Vis X.env.scope a) (tk : Takes X W) (kw : KoW X.K F₀ W' W) (ha : PA X (e :: es) (La X.K F₀ t))
    (hd : (a == ("__debug__" : Str)) = false := by decide) (hcd : (a == ("__classdict__" : Str)) = false := by decide) (he : starEach (e :: es) X.env = (false, eval e X.env) :: starEach es X.env := by rfl) (hpl : (backTo pos (starEach es X.env)).any (·.1) = false := by rfl) :
    PE X (.Call (.Name a p) (e :: es) [] pos) (Le X.K F₀ (dWay i fw n th W' t)) := by
  refine ⟨fun pins s σ H Q I ⟨δ, F1, G, Q', s0, en, w, ⟨hs, q⟩, k⟩ => ?_⟩
  obtain ⟨v0, hv0, rv0⟩ := en.2 i _ hs
  cases rv0
  refine wpAny_Call_Name_kw (thn ((pe_var (pos := p) (i := i) hN hv hd hcd).run pins s σ H (fun v H1 => v = .ref fw ∧ H1 = H) I ⟨.ref fw, hv0, rfl, rfl⟩) fun u s1 ⟨v, H1, I1, r1, q1⟩ => ?_)
  obtain ⟨ev, eH⟩ := q1
  subst ev
  rw [eH] at I1
  obtain rfl : u = Value.ref fw := r1
  refine PySem.W.callWith_F (q := fw) (V.fn F1 H s1.heap s0 w.fz I1.hok) (thn (ha.run pos pins s1 σ H _ I1 ⟨δ, F1, G, _, s0, en, w, q, fun ds vs F2 G2 H2 s2 w2 r2 q2 => show ∃ (F : Hp) (G : Gp) (ds : List D), Same F₀ F ∧ Same F1 F ∧ Wd X.K F G H2 ∧ Rps X.K F ds vs ∧ ds.length = n ∧ th ds G Q' (fun m fs G2 => W' m fs δ G2) from ⟨F2, G2, ds, s0.trans s2, s2, w2, r2, q2.1, q2.2⟩⟩) fun us s2 ⟨vs, H2, I2, r2, F2, G2, ds, sa, sb, w2, rp, hl, h⟩ => ?_) he hpl
  exact ⟨V.fn F2 H2 s2.heap sa w2.fz I2.hok, go_way V hr hmu hex (passAt tk σ) I2 r2 sa w2 rp hl h (k.mono sb) (kw.at sa (en.mono sb))⟩
theorem de_way0 (V : WayOk X.prog X.w X.K X.mg X.base k X.fs X.H_0 X.s_0.heap F₀ fw n th) (hr : Room k X.A) (hmu : Mute X.A) (hex : X.ex = []) (hN : X.N[i]? = some a) (hv : Vis X.env.scope a) (tk : Takes X W) (kw : KoW X.K F₀ W' W)
    (hd : (a == ("__debug__" : Str)) = false := by decide) (hcd : (a == ("__classdict__" : Str)) = false := by decide) :
    PE X (.Call (.Name a p) [] [] pos) (Le X.K F₀ (dWay i fw n th W' aNil)) := by
  refine ⟨fun pins s σ H Q I ⟨δ, F1, G, Q', s0, en, w, ⟨hs, q⟩, k⟩ => ?_⟩
  obtain ⟨v0, hv0, rv0⟩ := en.2 i _ hs
  cases rv0
  refine wpAny_Call_Name_kw (thn ((pe_var (pos := p) (i := i) hN hv hd hcd).run pins s σ H (fun v H1 => v = .ref fw ∧ H1 = H) I ⟨.ref fw, hv0, rfl, rfl⟩) fun u s1 ⟨v, H1, I1, r1, q1⟩ => ?_)
  obtain ⟨ev, eH⟩ := q1
  subst ev
  rw [eH] at I1
  obtain rfl : u = Value.ref fw := r1
  exact PySem.W.callWith_F0 (V.fn F1 H s1.heap s0 w.fz I1.hok) (go_way (us := []) (vs := []) V hr hmu hex (passAt tk σ) I1 .nil s0 w .nil q.1 q.2 k (kw.at s0 en))
end
/-! ### a def that gets a function value, as its j-th argument -/
structure FnW (P : Program) (w : World) (K : PySem.W.Frag) (mg : Str → Option Value) (base : Heap) (CX : CXT) (k : Nat) (f : Addr) (fd : FuncData) (ps : List Str) (kk n : Nat) (sp : Addr → DSp → DSp) : Prop where
  arity : ∀ fw th ds G Q E, sp fw th ds G Q E → ds.length = ps.length
  go : ∀ (A : Around) (outer : List Env) (s : Shared) (H : Hp) (args : Args) (us : List Value) (vs : List V) (Q : VK) (E : XK) (fw : Addr) (th : DSp) (F : Hp) (G : Gp) (ds : List D) (Q' : DK) (E' : DX), Room k A → Mute A → Env0 P w K mg base A outer s H → BindsTo s fd args (ps.zip us) → Vals vs us →
    Wd K F G H → Rps K F ds vs → sp fw th ds G Q' E' → Ko K F Q' Q → KoE K F E' E → WayOk P w K mg base kk (frs outer) H s.heap F fw n th → codeAny (model P w) A (.call (.ref f) args) (CR CX outer P w H s Q E) s
theorem FnW.up {P : Program} {w : World} {K : PySem.W.Frag} {mg : Str → Option Value} {base : Heap} {CX : CXT} {j k : Nat} {f : Addr} {fd : FuncData} {ps : List Str} {kk n : Nat} {sp : Addr → DSp → DSp} (F : FnW P w K mg base CX j f fd ps kk n sp) (h : j ≤ k) : FnW P w K mg base CX k f fd ps kk n sp :=
  ⟨F.arity, fun A outer s H args us vs Q E fw th F1 G ds Q' E' hr => F.go A outer s H args us vs Q E fw th F1 G ds Q' E' (hr.mono h)⟩
theorem fn_dW {P : Program} {w : World} {K : PySem.W.Frag} {mg : Str → Option Value} {base : Heap} {x qual : Str} {st : Stmt} {f : Addr} {fd : FuncData} {N ps : List Str} {k kk n : Nat} {sp : Addr → DSp → DSp} (F : Fun K x qual st f fd) (S : FnScope N ps (defScope st))
    (len : ∀ fw th ds G Q E, sp fw th ds G Q E → ds.length = ps.length)
    (hbody : ∀ (cdv : Value) (A : Around) (outer : List Env) (s : Shared) (H : Hp) (E : XK) (F₀ : Hp) (E' : DX) (fw : Addr) (th : DSp), Room k (A.deeper (envOfC qual (defScope st) s.heap.objs.size f cdv)) → Mute A → KoE K F₀ E' E → WayOk P w K mg base kk (frs outer) H s.heap F₀ fw n th →
      ∃ t : DS, PSs (cxE P w K mg base N qual (defScope st) f cdv A outer s H E) (defBody st) (Ls K F₀ t) ∧ ∀ ds G Q, sp fw th ds G Q E' → t (endD Q) (startD N ds) G) : FnW P w K mg base (L2.CX P w) (k + 1) f fd ps kk n sp := by
  obtain ⟨oc, od, kV, doc, pm, an, cdv, ct, osl, rfl, lk, hcd⟩ := F.ex
  refine ⟨len, fun A outer s H args us vs Q E fw th F0 G ds Q' E' hr hm e0 hb r w0 rp hsp ko ke Vw => ?_⟩
  have n1 := len _ _ _ _ _ _ hsp
  have n2 : vs.length = ps.length := by rw [← rp.length]; exact n1
  have hK : K.In s.heap := e0.mod.kin.keeps fun b o e => (e0.bs b o e).1
  have lim : s.heap.NoLimit := e0.mod.nolimit.keeps fun b o e => (e0.bs b o e).1
  have hN : ps.length ≤ N.length := by have := congrArg List.length S.pre; rw [List.length_take] at this; omega
  refine codeAny_call_function hr.depth (hK _ _ lk) rfl S.co S.gen rfl (PySem.W.codeRec_of hK hcd) (hb _ _ _ _ ?_)
  refine wpAny_newFunctionEnv_cells S.kind (fun y hy => ?_) fun env he s1 x => ?_
  · obtain ⟨n, v⟩ := y
    rcases S.par n (List.of_mem_zip hy).1 with q | q
    · exact .inl q
    · exact .inr ⟨q, PySem.W.cellsFrom_some _ _ _ (.inl q)⟩
  · subst he
    refine ⟨lim.keeps x.toInCall.keep, codeAny_func ?_⟩
    obtain ⟨t, ht, q⟩ := hbody cdv A outer s H E F0 E' fw th (hr.deeper _) hm ke Vw
    have I : Inv (cxE P w K mg base N qual (defScope st) f cdv A outer s H E) [] (start N vs) H s1 := inv_start S hr.hd e0 n2 r x
    have h0 : Ls K F0 t { nx := fun _ H' => Q .non H', rt := Q } (start N vs) H := ⟨_, F0, G, endD Q', Same.refl F0, En.start N rp (by omega), w0, q _ _ _ hsp, ke_end ko⟩
    refine wpAny_mono (ht.run [] s1 (start N vs) H _ I h0) (fun fl s' hs => ?_) fun _ _ z => z
    match fl, hs with
    | .ret u, ⟨v, σ', H', J, rv, q⟩ => exact ⟨v, H', J.os, J.bare, J.base, J.hok, rv, q⟩
    | .next, ⟨σ', H', J, q⟩ => exact ⟨V.non, H', J.os, J.bare, J.base, J.hok, rfl, q⟩
    | .brk, ⟨_, _, _, z⟩ => exact z.elim
    | .cont, ⟨_, _, _, z⟩ => exact z.elim
end DL

/-! raise of an own class whose __init__ says super().__init__(x) and keeps x. -/
namespace DL
open PySem PySem.Spec PyProof.Rows L2
/-- the body of such an __init__ -/
abbrev supBody (pa fld : Str) (p0 p1 p2 p3 p4 p5 p6 p7 p8 p9 : Pos) : List Stmt :=
  [.Expr (.Call (.Attribute (.Call (.Name "super" p0) [] [] p1) "__init__" p2) [.Name pa p3] [] p4) p5, .Assign [.Attribute (.Name "self" p6) fld p7] (.Name pa p8) p9]
/-- what the written part says of it -/
structure SupI (P : Program) (K : PySem.W.Frag) (C fI : Addr) (fld pa : Str) where
  qual : Str
  params : Arguments
  scope : Scope
  (dV kV doc pm ct oc : Value)
  (an od : Option Addr)
  osl : Array (Option Value)
  (cda cc : Addr)
  (p0 p1 p2 p3 p4 p5 p6 p7 p8 p9 : Pos)
  lk : K.lookup fI = some ⟨oc, od, .func (PySem.W.fnX "__init__" qual params (supBody pa fld p0 p1 p2 p3 p4 p5 p6 p7 p8 p9) scope [("__class__", cc)] dV kV doc pm an (.ref cda) ct), osl⟩
  code : PySem.W.codeIn K (.ref cda) qual = true
  file : ∃ ccl cdd vs ccs fl tf, K.lookup cda = some ⟨ccl, cdd, .fields vs, ccs⟩ ∧ vs[2]? = some (.str fl tf) ∧ ((P.main.file : Str) == fl) = true
  cell : ∃ cl cld csl, K.lookup cc = some ⟨cl, cld, .cell (some (.ref C)), csl⟩
  head : ∃ ar : Arg, (params.posonlyargs ++ params.args).head? = some ar ∧ ar.arg = "self"
  kind : scope.kind = .function
  co : scope.isCoroutine = false
  gen : scope.isGenerator = false
  nsup : scope.names.lookup ("super" : Str) = some .globalImplicit
  ncls : scope.names.lookup ("__class__" : Str) = some .free
  nself : scope.names.lookup ("self" : Str) = some .local
  npa : scope.names.lookup pa = some .local
  nocell : ∀ y ∈ scope.names, y.2 ≠ .cell
  nofree : ∀ y ∈ scope.names, y.2 = .free → y.1 = "__class__"
  top : (P.main.scope.names.lookup ("super" : Str)).isSome = false
  hsup : PySem.W.nsIn K mainGlobals "super" = some none
  sup : PySem.W.ks_superIn K C C "__init__" = some (some (.builtin "ValueError.__init__"))
  opq : PySem.W.nsIn K cStatics "thirdparty.any" = some none
  ve : PySem.W.subIn K (.ref C) (.type "ValueError") = some true
  own : PySem.W.findIn K (.ref C) fld = some none
  mro : PySem.W.mroIn K C (.ref C) = some true
  fi : PySem.W.findIn K (.ref C) "__init__" = some (some (.ref fI))
  ty : PySem.W.typeIn K (.ref fI) = some (.type "function")
  pl : Addr → Sem Bool
  ev : ∀ L : Addr, eval (.Call (.Attribute (.Call (.Name "super" p0) [] [] p1) "__init__" p2) [.Name pa p3] [] p4) (callEnv (PySem.W.fnX "__init__" qual params (supBody pa fld p0 p1 p2 p3 p4 p5 p6 p7 p8 p9) scope [("__class__", cc)] dV kV doc pm an (.ref cda) ct) L fI) = (do
    let ov ← attributeBase (.Call (.Name "super" p0) [] [] p1) "__init__" (callEnv (PySem.W.fnX "__init__" qual params (supBody pa fld p0 p1 p2 p3 p4 p5 p6 p7 p8 p9) scope [("__class__", cc)] dV kV doc pm an (.ref cda) ct) L fI) (eval (.Call (.Name "super" p0) [] [] p1) (callEnv (PySem.W.fnX "__init__" qual params (supBody pa fld p0 p1 p2 p3 p4 p5 p6 p7 p8 p9) scope [("__class__", cc)] dV kV doc pm an (.ref cda) ct) L fI))
    standAt p2.atName
    let (f, first) ← holding [ov] (getMethod ov "__init__" (pl L))
    callWith p4 f first (backTo p4 (starEach [.Name pa p3] (callEnv (PySem.W.fnX "__init__" qual params (supBody pa fld p0 p1 p2 p3 p4 p5 p6 p7 p8 p9) scope [("__class__", cc)] dV kV doc pm an (.ref cda) ct) L fI))) [])
  sw1 : ∀ L : Addr, swapsWith (.Call (.Attribute (.Call (.Name "super" p0) [] [] p1) "__init__" p2) [.Name pa p3] [] p4) none p5.line (callEnv (PySem.W.fnX "__init__" qual params (supBody pa fld p0 p1 p2 p3 p4 p5 p6 p7 p8 p9) scope [("__class__", cc)] dV kV doc pm an (.ref cda) ct) L fI) = pure false
  sw2 : ∀ L : Addr, swapsWith (.Name pa p8) (some (.Attribute (.Name "self" p6) fld p7)) p9.line (callEnv (PySem.W.fnX "__init__" qual params (supBody pa fld p0 p1 p2 p3 p4 p5 p6 p7 p8 p9) scope [("__class__", cc)] dV kV doc pm an (.ref cda) ct) L fI) = pure false
  pdb : (pa == ("__debug__" : Str)) = false
  pne : (pa == ("self" : Str)) = false
abbrev SupI.fd {P : Program} {K : PySem.W.Frag} {C fI : Addr} {fld pa : Str} (S : SupI P K C fI fld pa) : FuncData :=
  PySem.W.fnX "__init__" S.qual S.params (supBody pa fld S.p0 S.p1 S.p2 S.p3 S.p4 S.p5 S.p6 S.p7 S.p8 S.p9) S.scope [("__class__", S.cc)] S.dV S.kV S.doc S.pm S.an (.ref S.cda) S.ct
/-- the context of its body -/
def supC (P : Program) (w : World) (K : PySem.W.Frag) (mg : Str → Option Value) (base : Heap) (A : Around) (outer : List Env) (s : Shared) (H : Hp) (pa : Str) (env : Env) : Cx where
  prog := P
  w := w
  K := K
  mg := mg
  base := base
  A := A.deeper env
  N := ["self", pa]
  s_0 := s
  H_0 := H
  env := env
  outer := outer
  stack := env :: outer
  ex := []
  fn := fun _ => false
  calm := true
  pn := []
  xe := fun _ _ => False
section
variable {P : Program} {w : World} {K : PySem.W.Frag} {mg : Str → Option Value} {base : Heap} {C fI : Addr} {fld pa : Str} {A : Around} {outer : List Env} {s : Shared} {H : Hp}
theorem sup_start (S : SupI P K C fI fld pa) {a : Addr} {v : V} {u : Value} {h₀ : Heap} {tk : Nat} (e0 : Env0 P w K mg base A outer s H) (hd : A.handled = none) (ru : RelV v u)
    (hns : h₀.Ns s.heap.objs.size fun x => List.lookup x ([("self" : Str), pa].zip [Value.ref a, u]).reverse) (kp : ∀ b o, s.heap.get? b = some o → h₀.get? b = some o) :
    Inv (supC P w K mg base A outer s H pa (callEnv S.fd s.heap.objs.size fI)) [] [some (.ref a), some v] H { s with heap := h₀, toks := tk } := by
  obtain ⟨cl, cld, csl, hcell⟩ := S.cell
  have hcc := e0.bs _ _ (e0.mod.kin _ _ hcell)
  have cells : ∀ {y c}, (callEnv S.fd s.heap.objs.size fI).cells.lookup y = some c → y = "__class__" ∧ c = S.cc := fun {y c} e => by
    have e : List.lookup y [(("__class__" : Str), S.cc)] = some c := e
    unfold List.lookup at e
    split at e
    · rename_i z
      cases e
      exact ⟨eq_of_beq z, rfl⟩
    · cases e
  have noex : ∀ b : Addr, b ∈ (supC P w K mg base A outer s H pa (callEnv S.fd s.heap.objs.size fI)).ex → False := fun b z => (nomatch (show b ∈ ([] : List Addr) from z))
  refine ⟨⟨e0.mod, S.kind, rfl, rfl, Nat.le_refl _, fun y z c p q => (cells p).1.trans (cells q).1.symm, fun y hy => ?_, fun y c z _ => (nomatch (show false = true from z)), fun _ => hd, Around.frames_deeper e0.frames, .inr ⟨rfl, rfl⟩,
      fun b z => (noex b z).elim, e0.bs, e0.bsz, fun b _ _ z => noex b z, fun b z => (noex b z).elim, e0.funs, e0.frf⟩,
    rfl, e0.bare, Un.kept kp, ⟨_, hns, fun i y v' e1 e2 e3 => ?_⟩, fun y c e => ?_, e0.hok.fresh (Nat.le_refl _), fun y c e => ?_, fun q hq => (nomatch (show q ∈ ([] : List (Addr × Obj)) ++ [] from hq)), e0.hok.kept kp, rfl⟩
  · rcases (show S.scope.names.lookup y = some .cell ∨ S.scope.names.lookup y = some .free from hy) with z | z
    · exact absurd rfl (S.nocell _ (PySem.mem_of_lookup z))
    · have := S.nofree _ (PySem.mem_of_lookup z) rfl
      subst this
      exact ⟨S.cc, rfl⟩
  · match i, e1, e2 with
    | 0, e1, e2 =>
      cases e1
      cases e2
      exact ⟨.ref a, rfl, .inl ⟨S.nself, by show List.lookup _ [(pa, u), ("self", Value.ref a)] = _; simp [List.lookup, show (("self" : Str) == pa) = false from by rw [Bool.eq_false_iff]; intro z; have := eq_of_beq z; subst this; exact absurd S.pne (by decide)]⟩⟩
    | 1, e1, e2 =>
      cases e1
      cases e2
      exact ⟨u, ru, .inl ⟨S.npa, by show List.lookup _ [(pa, u), ("self", Value.ref a)] = _; simp [List.lookup]⟩⟩
    | i + 2, e1, e2 => cases e2
  · obtain ⟨rfl, rfl⟩ := cells e
    exact ⟨_, _, kp _ _ hcc.1, rfl⟩
  · obtain ⟨rfl, rfl⟩ := cells e
    exact hcc.2
/-- super().__init__(x) -/
theorem sup_call (S : SupI P K C fI fld pa) (O : OexC K C) {a : Addr} {v : V} {s1 : Shared} {A' : Around} {E : Value → Shared → Prop} {Q : Value → Shared → Prop} (I : Inv (supC P w K mg base A outer s H pa (callEnv S.fd s.heap.objs.size fI)) [] [some (.ref a), some v] H s1) (ha : H a = some (exo a C none))
    (h : ∀ s2, Inv (supC P w K mg base A outer s H pa (callEnv S.fd s.heap.objs.size fI)) [] [some (.ref a), some v] H s2 → Q .none s2) :
    PySem.wpAt (model P w) A' (.func (supBody pa fld S.p0 S.p1 S.p2 S.p3 S.p4 S.p5 S.p6 S.p7 S.p8 S.p9) (callEnv S.fd s.heap.objs.size fI)) (eval (.Call (.Attribute (.Call (.Name "super" S.p0) [] [] S.p1) "__init__" S.p2) [.Name pa S.p3] [] S.p4) (callEnv S.fd s.heap.objs.size fI)) Q E s1 := by
  have KX := I.kIn
  obtain ⟨ccl, cdd, vs, ccs, fl, tf, hcode, hvs, hfl⟩ := S.file
  obtain ⟨cl, cld, csl, hcell⟩ := S.cell
  obtain ⟨ar, har, harg⟩ := S.head
  obtain ⟨nm, q, N, bs, bm, sn, sub, ab, col, dd, k0, k1, k2, k3, k5, hC, hbm⟩ := O.cls
  obtain ⟨mb, hb1, hb2⟩ := I.mod.blt
  obtain ⟨t1, ho⟩ := exo_at I.hok ha
  obtain ⟨m, hns, look⟩ := id I.loc
  obtain ⟨hp, g, d, t, os⟩ := s1
  obtain ⟨us, rus, lus⟩ := look 0 "self" (.ref a) rfl rfl (.inl S.nself)
  obtain ⟨up, rup, lup⟩ := look 1 pa v rfl rfl (.inl S.npa)
  have rus : us = Value.ref a := rus
  subst rus
  have slf : m "self" = some (Value.ref a) := by
    rcases lus with ⟨_, z⟩ | ⟨z, _⟩
    · exact z
    · rcases z with z | z <;> cases S.nself.symm.trans z
  have prm : m pa = some up := by
    rcases lup with ⟨_, z⟩ | ⟨z, _⟩
    · exact z
    · rcases z with z | z <;> cases S.npa.symm.trans z
  refine @ks_wpAt_MethodCall _ _ _ _ _ _ _ _ _ _ _ _ _ ?hh (S.ev _)
  refine ks_wpAt_super_base (f := fI) (cc := S.cda) S.nsup S.ncls (by decide) rfl (KX _ _ S.lk) rfl har rfl (KX _ _ hcode) rfl hvs hfl S.top ?_
  · refine PySem.W.ks_loadName_global S.kind S.nsup (Calls.loadGlobal_builtin (env := callEnv S.fd s.heap.objs.size fI) (I.mod.glob.keeps I.bk) (PySem.W.mg_none_of I.mod.kin I.mod.glob S.hsup) (hb1.keeps I.bk) ((hb2 _ (by decide)).trans (by rfl)) ⟨rfl, ?_⟩)
    refine wpAny_loadName_free S.kind S.ncls rfl ⟨_, KX _ _ hcell, rfl⟩ ?_
    rw [harg]
    refine wpAny_loadName_local S.kind S.nself hns slf ?_
    refine ks_wpAny_isType_cls (KX _ _ hC) rfl ⟨rfl, ?_⟩
    refine ks_wpAny_call_super (KX _ _ hC) rfl ho rfl (fun c e => nomatch e) (PySem.W.looks_mroIn KX S.mro) (fun h' e k => ?_)
    have KX' : K.In h' := KX.keeps k
    have ho' := k _ _ ho
    have hcls : PySem.W.clsIn K C = some { name := nm, bases := bs, mro := .ref C :: bm, ns := N, qualname := q, hasDict := true, slotNames := sn, subclasses := sub, abstract := ab, collection := col, hasDel := false } := by unfold PySem.W.clsIn; rw [hC] <;> rfl
    have J : PySem.W.InstAt h' a ({ cls := .ref C, dict := none, data := .fields #[.ref t1, .none, .none, .none, .bool false, .none] } : Obj) C none := ⟨ho', rfl, rfl, trivial⟩
    have along := S.sup
    unfold PySem.W.ks_superIn at along
    rw [hcls] at along
    refine PySem.W.kxs_getMethod PySem.W.kxs_ValueError (l₀ := .ref C :: bm) e (PySem.W.looks_opaque KX' S.opq) (fun A Q E s k q => wpAny_bind ((PySem.W.looks_clsIn KX' hcls) A _ E s k (wpAny_pure q))) rfl KX' along (J.type.andThen (PySem.W.looks_subIn KX' S.ve)) (PySem.W.ks_ne KX' J hcls) (by decide) ?_
    have hu : (h'.push (PySem.W.kxs_mw "ValueError.__init__" a)).get? h'.objs.size = some (PySem.W.kxs_mw "ValueError.__init__" a) := Heap.get?_push_size _ rfl
    have kp : ∀ b o, hp.get? b = some o → (h'.push (PySem.W.kxs_mw "ValueError.__init__" a)).get? b = some o := fun b o e => Heap.get?_push_of_some _ (k b o e)
    have ns2 := hns.keeps kp
    have ho2 := kp _ _ ho
    have hC2 := (KX.keeps kp) _ _ hC
    refine PySem.W.kxs_callWith (i := "ValueError.__init__") (x := a) rfl (Calls.evalArgs_plain ?_)
    refine Calls.spliced_cons (wpAny_Name (wpAny_loadName_local S.kind S.npa ns2 prm ?_) S.pdb)
    refine Calls.spliced_nil ⟨hu, ?_⟩
    refine wpAny_call (codeAny_of_tree (show wpAny _ A'.in1 (callAny (.ref h'.objs.size) ⟨[up], []⟩) _ _ _ from ?_))
    unfold callAny
    refine wpAny_bind (wpAny_load hu ?_)
    refine PySem.W.KFB.if_so (by rfl) ?_
    refine PySem.W.KFB.if_so (by rfl) ?_
    refine wpAny_bind (PySem.W.check_bound_init F.excBase_ValueError.toExcCallFacts hC2 ho2 rfl ?_)
    refine wpAny_pure ?_
    refine ⟨plainId_quiet F.excBase_ValueError.init.plain _, codeAny_builtin F.excBase_ValueError.initEntry ?_⟩
    refine PySem.W.exc_init_tree (cls := .ref C) (t0 := t1) (dv := none) (c2 := .none) (c3 := .none) (b4 := .bool false) ho2 (by show 1 ≤ sizeLine; rw [sizeLine_eq]; omega) fun h4 k4 e4 _ => ?_
    show Q .none ⟨h4, g, d, t + 1, os⟩
    have I2 := I.kept (t' := t + 1) kp
    have I3 := I2.write (t' := t + 1) (x := a) (e := a) (o := exo a C none) (by rw [ha]; exact True.intro) (.inl rfl) k4 ⟨_, e4⟩ (exo_ok e4)
    have eu : upd H a (exo a C none) = H := by
      funext b
      by_cases hb : b = a
      · subst hb; rw [upd_same, ha]
      · rw [upd_ne hb]
    rw [eu] at I3
    exact h _ I3
/-- the promise of such an __init__ -/
def spI (C : Addr) (fld : Str) : Sp := fun vs H Q _ => ∃ (a : Addr) (v : V), vs = [.ref a, v] ∧ H a = some (exo a C none) ∧ ∀ dx, H dx = none → dx ≠ a → Q .non (upd (upd H dx (exd dx [(fld, v)])) a (exo a C (some dx)))
theorem init_fn (S : SupI P K C fI fld pa) (O : OexC K C) : FnOk P w K mg base CX0 1 fI S.fd ["self", pa] (spI C fld) := by
  refine ⟨fun vs H Q E ⟨a, v, e, _⟩ => by rw [e]; rfl, fun A outer s H args us vs Q E hr e0 hb r ⟨a, v, ev, ha, q⟩ => ?_⟩
  subst ev
  cases r with
  | @cons _ u0 _ us r1 r2 =>
    cases r2 with
    | @cons _ u1 _ us r2 r3 =>
      cases r3
      have r1 : u0 = Value.ref a := r1
      subst r1
      have kin := e0.mod.kin
      have KX : K.In s.heap := kin.keeps fun b o e => (e0.bs b o e).1
      have lim : s.heap.NoLimit := e0.mod.nolimit.keeps fun b o e => (e0.bs b o e).1
      refine ks_codeAny_call_defAt hr.depth (KX _ _ S.lk) rfl lim (PySem.W.codeRec_of KX S.code) rfl hb S.nocell (fun y hy => ?_) (fun h₀ hns kp => ?_) S.co S.gen S.kind
      · have hy : y ∈ [(("self" : Str), Value.ref a), (pa, u1)] := hy
        rcases List.mem_cons.mp hy with rfl | hy
        · exact S.nself
        · rw [List.mem_singleton.mp hy]; exact S.npa
      · have I0 := sup_start (tk := s.toks + 2) S e0 hr.hd r2 hns kp
        refine ks_wpAt_execs_cons (ks_wpAt_Expr_any (sup_call S O I0 ha fun s2 I2 => ?_) I0.quiet (S.sw1 _))
        obtain ⟨m, hn2, look⟩ := id I2.loc
        obtain ⟨uS, rS, lS⟩ := look 0 "self" (.ref a) rfl rfl (.inl S.nself)
        obtain ⟨uP, rP, lP⟩ := look 1 pa v rfl rfl (.inl S.npa)
        have rS : uS = Value.ref a := rS
        subst rS
        have slf : m "self" = some (Value.ref a) := by
          rcases lS with ⟨_, z⟩ | ⟨z, _⟩
          · exact z
          · rcases z with z | z <;> cases S.nself.symm.trans z
        have prm : m pa = some uP := by
          rcases lP with ⟨_, z⟩ | ⟨z, _⟩
          · exact z
          · rcases z with z | z <;> cases S.npa.symm.trans z
        refine wpAt_of_wpAny (wpAny_execs_cons (plainObj_wpAny_Assign_Attribute (wpAny_Name (wpAny_loadName_local S.kind S.npa hn2 prm (wpAny_Name (wpAny_loadName_local S.kind S.nself hn2 slf ?_) (by decide))) S.pdb) (S.sw2 _)))
        refine ost_new (X := supC P w K mg base A outer s H pa (callEnv S.fd s.heap.objs.size fI)) O I2 ha S.own rP fun dx s3 nd ne I3 => ?_
        refine wpAny_execs_nil ?_
        exact ⟨.non, _, I3.os, I3.bare, I3.base, I3.hok, rfl, q dx nd ne⟩
end
/-! ### raise C(e) -/
def dRaiseF (n fld : Str) (W' : DW) (t : DE) : DS := fun _ δ G => t δ G fun v G1 => W' n [(fld, v)] δ G1
/-- what is said of such a class -/
structure ExI (P : Program) (K : PySem.W.Frag) (mg : Str → Option Value) (n fld : Str) (C : Addr) where
  g : mg n = some (.ref C)
  ns : PySem.W.nsIn K mainGlobals n = some (some (.ref C))
  ox : OexC K C
  fI : Addr
  pa : Str
  S : SupI P K C fI fld pa
  b : Binds K S.fd ["self", pa] []
theorem ds_raiseF {X : Cx} {F₀ : Hp} {C : Addr} {n fld : Str} {W : WX} {W' : DW} {e : Expr} {te : DE} {p p2 pos : Pos} (hc : X.calm = true) (tk : Takes X W) (kw : KoW X.K F₀ W' W) (T : ExI X.prog X.K X.mg n fld C) (hr : Room 2 X.A) (hg : Gl X n) (he : PE X e (Le X.K F₀ te))
    (hdb : (n == ("__debug__" : Str)) = false := by decide) (hs : starEach [e] X.env = (false, eval e X.env) :: starEach [] X.env := by rfl) :
    PS X (.Raise (some (.Call (.Name n p) [e] [] p2)) none pos) (Ls X.K F₀ (dRaiseF n fld W' te)) := by
  refine ps_imp (L2.ps_raise hc tk (pmk_oex (es := []) (dvs := []) (ds := []) T.ox T.S.fi T.S.ty (init_fn T.S T.ox) hr T.b .nil pass0 hg T.g (da_cons he da_nil hs) hdb hs rfl)) fun D σ H ⟨δ, F, G, D', s, en, w, q, k⟩ => ?_
  refine ⟨δ, F, G, (fun ds G1 => match ds with | [v] => W' n [(fld, v)] δ G1 | _ => False), s, en, w, (show te δ G fun v G1 => W' n [(fld, v)] δ G1 from q), fun ds vs F1 G1 H1 s1 w1 r1 q1 => ?_⟩
  match ds, q1, r1 with
  | [d], q1, r1 =>
    obtain ⟨v, rfl, rv⟩ := rps1 r1
    refine ⟨by show 1 ≤ 1000; decide, fun a ha => ⟨a, v, rfl, upd_same, fun dx hd ne => ⟨rfl, dx, [(fld, v)], upd_same, by rw [upd_ne ne, upd_same], ?_, ?_⟩⟩⟩
    · rw [upd_ne ne] at hd; exact hd
    · have h1 : H1 dx = none := by rw [upd_ne ne] at hd; exact hd
      have eh : upd (del (upd (upd (upd H1 a (exo a C none)) dx (exd dx [(fld, v)])) a (exo a C (some dx))) a) dx (.xd [(fld, v)]) = upd H1 dx (.xd [(fld, v)]) := by
        funext b
        by_cases hb : b = dx
        · subst hb; rw [upd_same, upd_same]
        · rw [upd_ne hb, upd_ne hb]
          by_cases hb2 : b = a
          · subst hb2; rw [del_same, ha]
          · rw [del_ne hb2, upd_ne hb2, upd_ne hb, upd_ne hb2]
      rw [eh]
      have hf := w1.ffree h1
      exact kw n C [(fld, d)] (some dx) δ σ (upd F1 dx (.xd [(fld, v)])) G1 _ T.ns ((s.trans s1).trans (same_upd hf)) ((en.mono s1).mono (same_upd hf)) (w1.newF h1 _) (.inr ⟨dx, [(fld, v)], rfl, upd_same, .cons (rv.mono (same_upd hf)) .nil⟩) q1
end DL

/-! A lambda handed to a def; try .. except X as e; what is asked of e. -/
namespace DL
open PySem PySem.Spec PyProof.Rows L2
/-! ### g(.., lambda: ..) -/
def dCallG (j : Nat) (R : Hp → Addr → Prop) (sp : Addr → DSp → DSp) (TH : Sl → DSp) (W' : DW) (t : DA) : DE := fun δ G Q => t δ G fun ds G1 => ds[j]? = some (.ho R) ∧ ∀ fw, sp fw (TH δ) (ds.set j (.ref fw)) G1 Q fun n fs G2 => W' n fs δ G2
section
variable {X : Cx} {F₀ : Hp} {k kk n j : Nat} {f : Addr} {fd : FuncData} {ps : List Str} {sp : Addr → DSp → DSp} {TH : Sl → DSp} {R : Hp → Addr → Prop} {W : WX} {W' : DW} {x : Str} {p pos : Pos} {e : Expr} {es : List Expr} {t : DA}
theorem Rps.setR {K : PySem.W.Frag} {F : Hp} {R : Hp → Addr → Prop} : ∀ {ds : List D} {vs : List V} {j : Nat}, Rps K F ds vs → ds[j]? = some (.ho R) → ∃ fw, R F fw ∧ Rps K F (ds.set j (.ref fw)) vs
  | [], _, _, _, h => by simp at h
  | d :: ds, _, 0, r, h => by
    cases r with
    | cons a b =>
      simp at h
      subst h
      cases a with
      | ho a => exact ⟨_, a F (Same.refl F), .cons (.ref _) b⟩
  | d :: ds, _, j + 1, r, h => by
    cases r with
    | cons a b =>
      obtain ⟨fw, h1, h2⟩ := b.setR (j := j) (by simpa using h)
      exact ⟨fw, h1, .cons a h2⟩
theorem de_callG (FW : FnW X.prog X.w X.K X.mg X.base (L2.CX X.prog X.w) k f fd ps kk n sp) (hr : Room k X.A) (hmu : Mute X.A) (hg : Gl X x) (hm : X.mg x = some (.ref f)) (hk : PySem.W.keepIn X.K (.ref f) = true) (hb : Binds X.K fd ps []) (tk : Takes X W) (kw : KoW X.K F₀ W' W)
    (way : ∀ pins σ H s F G δ fw, Inv X pins σ H s → Same F₀ F → En X.K F δ σ → Wd X.K F G H → R F fw → WayOk X.prog X.w X.K X.mg X.base kk (frs X.stack) H s.heap F fw n (TH δ))
    (ha : PA X (e :: es) (La X.K F₀ t)) (hdb : (x == ("__debug__" : Str)) = false := by decide) (he : starEach (e :: es) X.env = (false, eval e X.env) :: starEach es X.env := by rfl) (hpl : (backTo pos (starEach es X.env)).any (·.1) = false := by rfl) :
    PE X (.Call (.Name x p) (e :: es) [] pos) (Le X.K F₀ (dCallG j R sp TH W' t)) := by
  refine ⟨fun pins s σ H Q I ⟨δ, F1, G, Q', s0, en, w, q, k⟩ => wpAny_Call_Name_kw (ld_glob I hg hm (PySem.W.callWith_K (h₀ := X.base) I.ok.mod.kin hk (thn (ha.run pos pins s σ H (fun vs H1 => ∃ F2 G2 ds, Same F1 F2 ∧ Wd X.K F2 G2 H1 ∧ Rps X.K F2 ds vs ∧ ds[j]? = some (.ho R) ∧ ∀ fw, sp fw (TH δ) (ds.set j (.ref fw)) G2 Q' fun n fs G2 => W' n fs δ G2) I
    ⟨δ, F1, G, _, s0, en, w, q, fun ds vs F2 G2 H2 s2 w2 r2 q2 => ⟨F2, G2, ds, s2, w2, r2, q2⟩⟩) fun us s1 ⟨vs, H1, I1, r, F2, G2, ds, s2, w2, r2, hj, q2⟩ => ⟨I1.kIn, ?_⟩) he hpl) hdb)⟩
  obtain ⟨fw, hR, r3⟩ := r2.setR hj
  have hl : (us ++ []).length = ps.length := by
    have := FW.arity _ _ _ _ _ _ (q2 fw)
    rw [List.append_nil, ← r.length, ← r3.length, this]
  have b := hb s1 us I1.kIn hl
  rw [List.append_nil] at b
  exact wp_call (FW.go X.A X.stack s1 H1 ⟨us, []⟩ us vs Q (WE W σ) fw (TH δ) F2 G2 _ Q' _ hr hmu I1.env0 b r w2 r3 (q2 fw) (k.mono s2) (kw.at (s0.trans s2) (en.mono s2)) (way pins σ H1 s1 F2 G2 δ fw I1 (s0.trans s2) (en.mono s2) w2 hR)) fun r s' hq => after_callS (passAt tk σ) I1 hq
end
/-- a def of the program as a function value -/
theorem fn_way {P : Program} {w : World} {K : PySem.W.Frag} {mg : Str → Option Value} {base : Heap} {CX : CXT} {k : Nat} {f : Addr} {fd : FuncData} {ps : List Str} {sp : DSp} {fs : List Addr} {H0 : Hp} {h0 : Heap} {F0 : Hp} (F : FnG P w K mg base (L2.CX P w) k f fd ps (LSp K sp))
    (lk : ∃ oc od osl, K.lookup f = some ⟨oc, od, .func fd, osl⟩) (hb : Binds K fd ps []) (kin : K.In h0) (hfz : ∀ b o, K.lookup b = some o → H0 b = none ∧ b ∉ fs) : True := trivial
/-! ### errors that are let go on; none is met -/
theorem kow_no {K : PySem.W.Frag} {F : Hp} : KoW K F (fun _ _ _ _ => False) (fun _ _ _ _ => False) := fun _ _ _ _ _ _ _ _ _ _ _ _ _ _ z => z
/-! ### try -/
/-- the wish of an error that the clause catches (sub: true), or lets go -/
def dAs (i : Nat) (sub : Str → Option Bool) (su : Addr → Str → List (Str × D) → DS) (Wout' : DW) (D : DEnds) : DW := fun n fs δ G => match sub n with
  | some true => ∀ a, su a n fs { nx := fun δ' G' => D.nx (δ'.set i none) G', rt := D.rt, bk := fun δ' G' => D.bk (δ'.set i none) G', ct := fun δ' G' => D.ct (δ'.set i none) G' } (δ.set i (some (.ref a))) G
  | some false => Wout' n fs δ G
  | none => False
def dTryAs (i : Nat) (sub : Str → Option Bool) (tb : DW → DS) (su : Addr → Str → List (Str × D) → DS) (Wout' : DW) : DS := fun D δ G => tb (dAs i sub su Wout' D) D δ G
theorem Ke.wiped {K : PySem.W.Frag} {F : Hp} {D' : DEnds} {D : Ends} (k : Ke K F D' D) (i : Nat) : Ke K F { nx := fun δ' G' => D'.nx (δ'.set i none) G', rt := D'.rt, bk := fun δ' G' => D'.bk (δ'.set i none) G', ct := fun δ' G' => D'.ct (δ'.set i none) G' }
    { nx := fun σ' H' => D.nx (σ'.set i none) H', rt := D.rt, bk := fun σ' H' => D.bk (σ'.set i none) H', ct := fun σ' H' => D.ct (σ'.set i none) H' } :=
  ⟨fun δ σ F' G' H' s en w q => k.nx _ _ F' G' H' s (en.clr i none) w q, k.rt, fun δ σ F' G' H' s en w q => k.bk _ _ F' G' H' s (en.clr i none) w q, fun δ σ F' G' H' s en w q => k.ct _ _ F' G' H' s (en.clr i none) w q⟩
section
variable {X : Cx} {F₀ : Hp} {x n : Str} {c : Value} {i : Nat} {body suite : List Stmt} {b₀ : Stmt} {np pos pos' : Pos} {tb : DW → DS} {su : Addr → Str → List (Str × D) → DS} {sub : Str → Option Bool} {Wout : WX} {Wout' : DW}
theorem ds_try_as (hs : X.stack = X.env :: X.outer) (hf : X.env.frame = some X.env.locals) (hN : X.N.Nodup) (hi : X.N[i]? = some n) (hln : X.env.kindOf n = some .local) (hc : Names X x c) (tk : Takes X Wout) (kw : KoW X.K F₀ Wout' Wout)
    (hsub : ∀ m b C, sub m = some b → PySem.W.nsIn X.K mainGlobals m = some (some (.ref C)) → PySem.W.exmOne X.K (.ref C) c = some b)
    (hb : ∀ (W : WX) (W' : DW) (F1 : Hp) (pn : List (Addr × Obj)) (xe : Value → Shared → Prop), Takes (X.tr pn xe) W → PassesOwn (model X.prog X.w) X.A X.env xe → KoW X.K F1 W' W → Same F₀ F1 → PSs (X.tr pn xe) body (Ls X.K F1 (tb W')))
    (hsu : ∀ (a : Addr) (oe : Obj) (m : Str) (C : Addr) (d : Option Addr) (fs : List (Str × D)) (F1 : Hp) (pn : List (Addr × Obj)), Same F₀ F1 → sub m = some true → PySem.W.nsIn X.K mainGlobals m = some (some (.ref C)) → Zc (.ref C) d oe → (∃ vs, oe.data = .fields vs) → ErrAt X.K F1 fs d →
      PSs (X.suite a ((a, oe) :: pn)) (b₀ :: suite) (Ls X.K F1 (su a m fs))) :
    PS X (.Try body [.ExceptHandler (some (.Name x np)) (some n) (b₀ :: suite) pos'] [] [] pos) (Ls X.K F₀ (dTryAs i sub tb su Wout')) := by
  refine ps_imp (L2.ps_try_as (tb := fun W D σ H => ∃ W' F1, KoW X.K F1 W' W ∧ Same F₀ F1 ∧ Ls X.K F1 (tb W') D σ H)
    (ts := fun a cls d D σ H => ∃ m C fs F1, Same F₀ F1 ∧ cls = .ref C ∧ sub m = some true ∧ PySem.W.nsIn X.K mainGlobals m = some (some (.ref C)) ∧ ErrAt X.K F1 fs d ∧ Ls X.K F1 (su a m fs) D σ H)
    hs hf hN hi hln hc tk (fun W pn xe t po => ⟨fun pins s σ H D I ⟨W', F1, k, sF, l⟩ => (hb W W' F1 pn xe t po k sF).run pins s σ H D I l⟩)
    (fun a oe cls d pn hz hv => ⟨fun pins s σ H D I ⟨m, C, fs, F1, sF, e, hm, hC, er, l⟩ => by subst e; exact (hsu a oe m C d fs F1 pn sF hm hC hz hv er).run pins s σ H D I l⟩)) fun D σ H ⟨δ, F, G, D', s, en, w, q, k⟩ => ?_
  refine ⟨dAs i sub su Wout' D', F, fun m C fs d δ1 σ1 F1 G1 H1 hC s1 en1 w1 er q1 => ?_, s, δ, F, G, D', Same.refl F, en, w, q, k⟩
  unfold dAs at q1
  split at q1
  · rename_i hm
    exact ⟨true, hsub m true C hm hC, fun _ a _ => ⟨m, C, fs, F1, s.trans s1, rfl, hm, hC, er, _, F1, G1, _, Same.refl F1, en1.set (.ref a) i, w1, q1 a, (k.mono s1).wiped i⟩, (fun z => nomatch z)⟩
  · rename_i hm
    exact ⟨false, hsub m false C hm hC, (fun z => nomatch z), fun _ => kw m C fs d δ1 σ1 F1 G1 H1 hC (s.trans s1) en1 w1 er q1⟩
  · exact q1.elim
end
/-- which classes the clause catches, by a list -/
def subL (l : List (Str × Bool)) (m : Str) : Option Bool := l.lookup m
theorem subL_ok {K : PySem.W.Frag} {c : Value} : ∀ {l : List (Str × Bool)}, (∀ p ∈ l, ∀ C, PySem.W.nsIn K mainGlobals p.1 = some (some (.ref C)) → PySem.W.exmOne K (.ref C) c = some p.2) →
    ∀ m b C, subL l m = some b → PySem.W.nsIn K mainGlobals m = some (some (.ref C)) → PySem.W.exmOne K (.ref C) c = some b := fun {l} h m b C hm hC => h (m, b) (PySem.mem_of_lookup hm) C hC
theorem exm_at {K : PySem.W.Frag} {n : Str} {a : Addr} {c : Value} {b : Bool} (z : PySem.W.nsIn K mainGlobals n = some (some (.ref a))) (h : PySem.W.exmOne K (.ref a) c = some b) : ∀ C, PySem.W.nsIn K mainGlobals n = some (some (.ref C)) → PySem.W.exmOne K (.ref C) c = some b := fun C hC => by
  cases z.symm.trans hC
  exact h
/-- the suite, class by class -/
def suL (l : List (Str × (Addr → List (Str × D) → DS))) (a : Addr) (m : Str) (fs : List (Str × D)) : DS := match l.lookup m with
  | some f => f a fs
  | none => fun _ _ _ => False
theorem suL_ok {X : Cx} {st : List Stmt} {F : Hp} {a : Addr} {m : Str} {fs : List (Str × D)} {l : List (Str × (Addr → List (Str × D) → DS))} (h : ∀ p ∈ l, p.1 = m → PSs X st (Ls X.K F (p.2 a fs))) : PSs X st (Ls X.K F (suL l a m fs)) := by
  unfold suL
  split
  · rename_i f e
    exact h (m, f) (PySem.mem_of_lookup e) rfl
  · exact ⟨fun pins s σ H D I ⟨_, _, _, _, _, _, _, q, _⟩ => q.elim⟩
theorem WayOk.go1 {P : Program} {w : World} {K : PySem.W.Frag} {mg : Str → Option Value} {base : Heap} {k : Nat} {fs : List Addr} {H0 : Hp} {h0 : Heap} {F0 F1 : Hp} {fw : Addr} {n : Nat} {th : DSp} (V : WayOk P w K mg base k fs H0 h0 F0 fw n th) (s : Same F0 F1) : WayOk P w K mg base k fs H0 h0 F1 fw n th :=
  ⟨fun F H h s1 => V.fn F H h (s.trans s1), fun A outer sh H us vs Q E F G ds Q' E' hr hm e u r s1 => V.go A outer sh H us vs Q E F G ds Q' E' hr hm e u r (s.trans s1)⟩
/-- the wish in a lambda's body -/
theorem takesL {X : Cx} {A : Around} {outer : List Env} {s : Shared} {H : Hp} {E : XK} {scope : Scope} {ps : List Str} {f c' : Addr} : Takes (lamC X A outer s H E scope ps f c') (fun cls d _ H => E cls d H) := takes_of rfl rfl rfl rfl
theorem passL {X : Cx} {A : Around} {outer : List Env} {s : Shared} {H : Hp} {E : XK} {scope : Scope} {ps : List Str} {f c' : Addr} : Passes (L2.CX X.prog X.w) (lamC X A outer s H E scope ps f c') E := passes_call takesL fun _ _ _ _ h => h
/-! ### what is asked of the caught error -/
/-- isinstance(e, c) -/
def dIsE (i : Nat) (a : Addr) (b : Bool) : DE := fun δ G Q => δ[i]? = some (some (.ref a)) ∧ Q (.bl b) G
/-- e.f -/
def dXf (i : Nat) (a : Addr) (fs : List (Str × D)) (f : Str) : DE := fun δ G Q => δ[i]? = some (some (.ref a)) ∧ ∃ v, fs.lookup f = some v ∧ Q v G
/-- what the written part says of a class whose instances are asked -/
structure ExA (K : PySem.W.Frag) (C : Addr) : Prop where
  cl : (PySem.W.clsIn K C).isSome = true
  ga : PySem.W.findIn K (.ref C) "__getattribute__" = some (some (.builtin "BaseException.__getattribute__"))
  gg : PySem.W.findIn K (.ref C) "__getattr__" = some none
  be : PySem.W.subIn K (.ref C) (.type "BaseException") = some true
  hd : PySem.W.hasDictIn K C = true
  ca : PySem.W.findIn K (.ref C) "__class__" = some (some (.builtin "object.__class__"))
  cn : PySem.W.specialIn K (.builtin "object.__class__") "__get__" = some (some (.builtin "getset_descriptor.__get__"))
  ct : PySem.W.takesIn K (.builtin "object.__class__") = some true
  ob : PySem.W.mroIn K C (.type "object") = some true
section
variable {X : Cx} {F₀ : Hp} {a C : Addr} {oe : Obj} {d : Option Addr} {fs : List (Str × D)} {pn : List (Addr × Obj)} {i : Nat} {m : Str} {b : Bool} {p pc pe pos : Pos} {n : Str}
theorem call_isErr (T : ExA X.K C) (hz : Zc (.ref C) d oe) (hv : ∃ vs, oe.data = .fields vs) :
    CallR (X.suite a ((a, oe) :: pn)) (.builtin "isinstance") (fun xs H Q => ∃ (c : V) (cv : Value) (b : Bool), xs = [.ref a, c] ∧ (d = none ∨ ∃ dd fs, d = some dd ∧ H dd = some (.xd fs)) ∧ (∀ u, RelV c u → u = cv) ∧ PySem.W.kitOne X.K (.ref C) cv = some b ∧ Q (.bl b) H) := by
  intro pins s σ H xs us Q I r h
  obtain ⟨c, cv, b, rfl, hd, hcv, e, q⟩ := h
  cases r with
  | cons rx rr =>
    cases rr with
    | cons rt rr =>
      cases rr
      cases rx
      have ec := hcv _ rt
      subst ec
      obtain ⟨hget, _⟩ := I.pin (a, oe) (List.mem_append.mpr (.inl List.mem_cons_self))
      obtain ⟨vs, hv⟩ := hv
      obtain ⟨od, J⟩ : ∃ od, PySem.W.InstAt s.heap a oe C od := by
        rcases hd with hd | ⟨dd, fs, hd, hH⟩
        · exact ⟨none, hget, hz.1, by unfold PySem.W.notCls; rw [hv] <;> rfl, by rw [hz.2, hd]; trivial⟩
        · have hx : ObjOk X.prog X.w H s.heap dd (.xd fs) := I.hok dd _ hH
          obtain ⟨mA, hns, _⟩ := hx
          obtain ⟨od, ho, _⟩ := lookIn_ns hns
          exact ⟨some od, hget, hz.1, by unfold PySem.W.notCls; rw [hv] <;> rfl, by rw [hz.2, hd]; exact ho⟩
      exact PySem.W.kia_one (PySem.W.kitx_exc T.cl T.ga T.gg T.be T.ca T.cn T.ct T.ob) I.kIn J e (fun z => nomatch z) fun tk => ⟨.bl b, H, I.kept (t' := tk) fun _ _ z => z, rfl, q⟩
theorem err_d {F H : Hp} {G : Gp} (er : ErrAt X.K F₀ fs d) (s : Same F₀ F) (w : Wd X.K F G H) : d = none ∨ ∃ dd fs, d = some dd ∧ H dd = some (.xd fs) := by
  rcases er with ⟨h, _⟩ | ⟨dd, fv, h, hF, _⟩
  · exact .inl h
  · exact .inr ⟨dd, fv, h, w.fz _ _ (s _ _ hF)⟩
/-- isinstance(e, c), c an own class -/
theorem de_isE {D : Addr} {xc : Str} (T : ExA X.K C) (hz : Zc (.ref C) d oe) (hv : ∃ vs, oe.data = .fields vs) (er : ErrAt X.K F₀ fs d) (hk : PySem.W.kitOne X.K (.ref C) (.ref D) = some b) (hg : Gl (X.suite a ((a, oe) :: pn)) "isinstance") (hm : X.mg "isinstance" = none)
    (hN : X.N[i]? = some n) (hvs : Vis X.env.scope n) (gc : Gl (X.suite a ((a, oe) :: pn)) xc) (mc : X.mg xc = some (.ref D)) (hd : (n == ("__debug__" : Str)) = false := by decide) (hcd : (n == ("__classdict__" : Str)) = false := by decide) (dc : (xc == ("__debug__" : Str)) = false := by decide) :
    PE (X.suite a ((a, oe) :: pn)) (.Call (.Name "isinstance" p) [.Name n pe, .Name xc pc] [] pos) (Le X.K F₀ (dIsE i a b)) := by
  have cd : CallD X.K F₀ (fun xs G Q => match xs with | [.ref a', .ref D'] => a' = a ∧ D' = D ∧ Q (.bl b) G | _ => False) (fun xs H Q => ∃ (c : V) (cv : Value) (b : Bool), xs = [.ref a, c] ∧ (d = none ∨ ∃ dd fs, d = some dd ∧ H dd = some (.xd fs)) ∧ (∀ u, RelV c u → u = cv) ∧ PySem.W.kitOne X.K (.ref C) cv = some b ∧ Q (.bl b) H) := by
    intro F G H xs vs Q' Q s w r q k
    split at q
    · obtain ⟨rfl, rfl, q⟩ := q
      obtain ⟨v1, v2, rfl, r1, r2⟩ := rps2 r
      cases r1
      cases r2
      exact ⟨.ref _, .ref _, b, rfl, err_d er s w, fun u z => z, hk, k _ _ F G H (Same.refl F) w (.bl b) q⟩
    · exact q.elim
  refine pe_imp (de_callB (X := X.suite a ((a, oe) :: pn)) (call_isErr T hz hv) cd hg hm rfl (da_cons (de_var (i := i) (pe_var hN hvs hd hcd)) (da_cons (de_c (v := .ref D) (d := .ref D) (pe_glob gc mc rfl dc) fun _ => .ref D) da_nil))) fun σ H Q ⟨δ, F, G, Q', s, en, w, ⟨h1, q⟩, k⟩ => ⟨δ, F, G, Q', s, en, w, ?_, k⟩
  unfold dCB aCons dVar dC aNil
  rw [h1]
  exact ⟨rfl, rfl, q⟩
/-- isinstance(e, ValueError) -/
theorem de_isV (T : ExA X.K C) (hz : Zc (.ref C) d oe) (hv : ∃ vs, oe.data = .fields vs) (er : ErrAt X.K F₀ fs d) (hk : PySem.W.kitOne X.K (.ref C) (.type "ValueError") = some b) (hg : Gl (X.suite a ((a, oe) :: pn)) "isinstance") (hm : X.mg "isinstance" = none)
    (hN : X.N[i]? = some n) (hvs : Vis X.env.scope n) (gc : Gl (X.suite a ((a, oe) :: pn)) "ValueError") (mc : X.mg "ValueError" = none) (hd : (n == ("__debug__" : Str)) = false := by decide) (hcd : (n == ("__classdict__" : Str)) = false := by decide) :
    PE (X.suite a ((a, oe) :: pn)) (.Call (.Name "isinstance" p) [.Name n pe, .Name "ValueError" pc] [] pos) (Le X.K F₀ (dIsE i a b)) := by
  have cd : CallD X.K F₀ (fun xs G Q => match xs with | [.ref a', .ty T] => a' = a ∧ T = "ValueError" ∧ Q (.bl b) G | _ => False) (fun xs H Q => ∃ (c : V) (cv : Value) (b : Bool), xs = [.ref a, c] ∧ (d = none ∨ ∃ dd fs, d = some dd ∧ H dd = some (.xd fs)) ∧ (∀ u, RelV c u → u = cv) ∧ PySem.W.kitOne X.K (.ref C) cv = some b ∧ Q (.bl b) H) := by
    intro F G H xs vs Q' Q s w r q k
    split at q
    · obtain ⟨rfl, rfl, q⟩ := q
      obtain ⟨v1, v2, rfl, r1, r2⟩ := rps2 r
      cases r1
      cases r2
      exact ⟨.ty _, .type _, b, rfl, err_d er s w, fun u z => z, hk, k _ _ F G H (Same.refl F) w (.bl b) q⟩
    · exact q.elim
  refine pe_imp (de_callB (X := X.suite a ((a, oe) :: pn)) (call_isErr T hz hv) cd hg hm rfl (da_cons (de_var (i := i) (pe_var hN hvs hd hcd)) (da_cons (de_c (v := .ty "ValueError") (d := .ty "ValueError") (pe_bltn gc mc (by decide +kernel) rfl) fun _ => .ty _) da_nil))) fun σ H Q ⟨δ, F, G, Q', s, en, w, ⟨h1, q⟩, k⟩ => ⟨δ, F, G, Q', s, en, w, ?_, k⟩
  unfold dCB aCons dVar dC aNil
  rw [h1]
  exact ⟨rfl, rfl, q⟩
/-- e.f -/
theorem de_xf {f : Str} (T : ExA X.K C) (hno : PySem.W.findIn X.K (.ref C) f = some none) (hz : Zc (.ref C) d oe) (hv : ∃ vs, oe.data = .fields vs) (er : ErrAt X.K F₀ fs d) (hN : X.N[i]? = some n) (hvs : Vis X.env.scope n)
    (hd : (n == ("__debug__" : Str)) = false := by decide) (hcd : (n == ("__classdict__" : Str)) = false := by decide) (hb : attributeBase (.Name n pe) f X.env (eval (.Name n pe) X.env) = eval (.Name n pe) X.env := by rfl) :
    PE (X.suite a ((a, oe) :: pn)) (.Attribute (.Name n pe) f pos) (Le X.K F₀ (dXf i a fs f)) := by
  refine pe_imp (pe_xf ⟨T.ga, T.gg, T.be, T.hd⟩ hno hz hv (pe_var (i := i) hN hvs hd hcd) hb) fun σ H Q ⟨δ, F, G, Q', s, en, w, ⟨h1, v, hl, q⟩, k⟩ => ?_
  obtain ⟨v0, e0, r0⟩ := en.2 i _ h1
  cases r0
  rcases er with ⟨_, rfl⟩ | ⟨dd, fv, rfl, hF, rf⟩
  · cases hl
  · obtain ⟨u, hu, ru⟩ := rf.lookup hl
    exact ⟨.ref a, e0, rfl, rfl, dd, fv, u, rfl, w.fz _ _ (s _ _ hF), hu, k _ _ F G H (Same.refl F) w (ru.mono s) q⟩
end
end DL

/-! xs.count(y), xs.index(y) of flat things; the law's end with tables. -/
namespace DL
open PySem PySem.Spec PyProof.Rows L2
section
variable {X : Cx}
theorem countP_eqU {y : V} : ∀ {ys : List V} {us : List Value}, Vals ys us → ys.all flatV = true → us.countP (eqU y) = ys.countP fun z => eqV z y
  | _, _, .nil, _ => rfl
  | z :: ys, u :: us, .cons r t, f => by
    rw [List.all_cons, Bool.and_eq_true] at f
    rw [List.countP_cons, List.countP_cons, countP_eqU t f.2, eqU_of r f.1]
theorem mt_countF : MtR X "list.count" (fun x xs H Q => ∃ (a : Addr) (ys : List V) (y : V), x = V.ref a ∧ xs = [y] ∧ SqL X.K H a ys ∧ flatV y = true ∧ ys.all flatV = true ∧ Q (.int ((ys.countP fun z => eqV z y : Nat) : Int)) H) := by
  intro pins s σ H x xs v us Q I rx rxs h
  obtain ⟨a, ys, y, rfl, rfl, hs, fy, fys, q⟩ := h
  cases rx
  obtain ⟨u, rfl, ru⟩ := rxs.one
  obtain ⟨its, rv, ⟨⟨c0, dd, data, sl⟩, n, ho, e1, _, e2⟩, _⟩ := I.list hs
  simp only at e1 e2
  subst e1 e2
  refine call_meets PySem.F.slot_list_count ⟨_, ho, rfl⟩ PySem.F.entry_list_count (PySem.F.args_list_count_2 _ _) (SeqAt.list_countAt a its.toArray n dd sl u (eqU y)) ⟨ho, fun u' hu' => mem_eqAt ru fy rv fys u' (by simpa using hu'), ?_⟩
  refine ⟨.int ((ys.countP fun z => eqV z y : Nat) : Int), H, I.tok _, ⟨s.toks, ?_⟩, q⟩
  show Value.int ((its.toArray.toList.countP (eqU y) : Nat) : Int) s.toks = _
  rw [show its.toArray.toList = its from by simp, countP_eqU rv fys]
end
section
variable {K : PySem.W.Frag} {F₀ : Hp}
def dCountF : D → List D → Gp → DK → Prop := fun x ys G Q => match ys with
  | [y] => match rlOf x G with
    | some xs => flatD y = true ∧ xs.all flatD = true ∧ Q (.int ((xs.countP fun z => eqV (toV z) (toV y) : Nat) : Int)) G
    | none => False
  | _ => False
theorem md_countF : MeD K F₀ dCountF (fun x xs H Q => ∃ (a : Addr) (ys : List V) (y : V), x = V.ref a ∧ xs = [y] ∧ SqL K H a ys ∧ flatV y = true ∧ ys.all flatV = true ∧ Q (.int ((ys.countP fun z => eqV z y : Nat) : Int)) H) := by
  intro F G H x v xs vs Q' Q s w rx rxs q k
  unfold dCountF at q
  split at q
  · rename_i y
    split at q
    · rename_i zs hz
      obtain ⟨fy, fz, q⟩ := q
      obtain ⟨a, us, rfl, hs, r⟩ := rlOf_ok w rx hz
      obtain ⟨u, rfl, ru⟩ := rps1 rxs
      obtain ⟨e1, f1⟩ := flat_toV ru fy
      obtain ⟨e2, f2⟩ := flats_toV r fz
      refine ⟨a, us, u, rfl, rfl, hs, f1, f2, k _ _ F G H (Same.refl F) w ?_ q⟩
      rw [e1, e2, List.countP_map]
      exact .int _
    · exact q.elim
  · exact q.elim
def dIndexF : D → List D → Gp → DK → Prop := fun x ys G Q => match ys with
  | [y] => match rlOf x G with
    | some xs => flatD y = true ∧ xs.all flatD = true ∧ ∃ j : Nat, ((xs[j]?).map fun z => eqV (toV z) (toV y)) = some true ∧ ((xs.take j).any fun z => eqV (toV z) (toV y)) = false ∧ Q (.int (j : Nat)) G
    | none => False
  | _ => False
theorem md_indexF : MeD K F₀ dIndexF (rIndex K) := by
  intro F G H x v xs vs Q' Q s w rx rxs q k
  unfold dIndexF at q
  split at q
  · rename_i y
    split at q
    · rename_i zs hz
      obtain ⟨fy, fz, j, hj, hn, q⟩ := q
      obtain ⟨a, us, rfl, hs, r⟩ := rlOf_ok w rx hz
      obtain ⟨u, rfl, ru⟩ := rps1 rxs
      obtain ⟨e1, f1⟩ := flat_toV ru fy
      obtain ⟨e2, f2⟩ := flats_toV r fz
      cases hzj : zs[j]? with
      | none => rw [hzj] at hj; cases hj
      | some z =>
        rw [hzj] at hj
        have hj : eqV (toV z) (toV y) = true := Option.some.inj hj
        refine ⟨a, us, u, j, toV z, rfl, rfl, hs, f1, f2, by rw [e2, List.getElem?_map, hzj]; rfl, by rw [e1]; exact hj, fun m z' hm hz' => ?_, k _ _ F G H (Same.refl F) w (.int _) q⟩
        rw [e2, List.getElem?_map] at hz'
        cases hzm : zs[m]? with
        | none => rw [hzm] at hz'; cases hz'
        | some y' =>
          rw [hzm] at hz'
          have hz' : toV y' = z' := Option.some.inj hz'
          rw [← hz', e1]
          rw [List.any_eq_false] at hn
          have := hn y' (List.mem_of_getElem? (i := m) (by rw [List.getElem?_take_of_lt hm, hzm]))
          simpa using this
    · exact q.elim
  · exact q.elim
end
end DL

/-! Defs whose code object is known; the law's end where tables of code objects may grow. -/
namespace DL
open PySem PySem.Spec PyProof.Rows L2
/-- a def of the top, its code object at c -/
def FunC (K : PySem.W.Frag) (x qual : Str) (st : Stmt) (f : Addr) (fd : FuncData) (c : Addr) : Prop :=
  ∃ oc od kV doc pm an ct osl, fd = PySem.W.fnOf x qual (defArgs st) (defBody st) (defScope st) .none kV doc pm an (.ref c) ct ∧ K.lookup f = some ⟨oc, od, .func fd, osl⟩ ∧ PySem.W.codeIn K (.ref c) qual = true
section
variable {P : Program} {w : World} {K : PySem.W.Frag} {mg : Str → Option Value} {base : Heap}
theorem fnC_of {CX : CXT} {x qual : Str} {st : Stmt} {f c : Addr} {fd : FuncData} {N ps : List Str} {k : Nat} {sp : Sp} (F : FunC K x qual st f fd c) (S : FnScope N ps (defScope st)) (len : ∀ vs H Q E, sp vs H Q E → vs.length = ps.length)
    (hbody : ∀ (A : Around) (outer : List Env) (s : Shared) (H : Hp) (vs : List V) (Q : VK) (E : XK), Room k (A.deeper (envOfC qual (defScope st) s.heap.objs.size f (.ref c))) → Mute A → sp vs H Q E →
      ∃ t, PSs (cxOf CX P w K mg base N qual (defScope st) f (.ref c) A outer s H E) (defBody st) t ∧ t { nx := fun _ H' => Q .non H', rt := Q } (start N vs) H) : FnG P w K mg base CX (k + 1) f fd ps sp := by
  obtain ⟨oc, od, kV, doc, pm, an, ct, osl, rfl, lk, hcd⟩ := F
  refine ⟨len, fun A outer s H args us vs Q E hr hm e0 hb r hsp => ?_⟩
  have hK : K.In s.heap := e0.mod.kin.keeps fun b o e => (e0.bs b o e).1
  have lim : s.heap.NoLimit := e0.mod.nolimit.keeps fun b o e => (e0.bs b o e).1
  refine codeAny_call_function hr.depth (hK _ _ lk) rfl S.co S.gen rfl (PySem.W.codeRec_of hK hcd) (hb _ _ _ _ ?_)
  refine wpAny_newFunctionEnv_cells S.kind (fun y hy => ?_) fun env he s1 x => ?_
  · obtain ⟨n, v⟩ := y
    rcases S.par n (List.of_mem_zip hy).1 with q | q
    · exact .inl q
    · exact .inr ⟨q, PySem.W.cellsFrom_some _ _ _ (.inl q)⟩
  · subst he
    refine ⟨lim.keeps x.toInCall.keep, codeAny_func ?_⟩
    obtain ⟨t, ht, q⟩ := hbody A outer s H vs Q E (hr.deeper _) hm hsp
    refine wpAny_mono (ht.run [] s1 (start N vs) H _ (inv_start S hr.hd e0 (len _ _ _ _ hsp) r x) q) (fun fl s' hs => ?_) fun _ _ z => z
    match fl, hs with
    | .ret u, ⟨v, σ', H', J, rv, q⟩ => exact ⟨v, H', J.os, J.bare, J.base, J.hok, rv, q⟩
    | .next, ⟨σ', H', J, q⟩ => exact ⟨V.non, H', J.os, J.bare, J.base, J.hok, rfl, q⟩
    | .brk, ⟨_, _, _, z⟩ => exact z.elim
    | .cont, ⟨_, _, _, z⟩ => exact z.elim
/-- .. that lets no error out -/
theorem fn_dC {x qual : Str} {st : Stmt} {f c : Addr} {fd : FuncData} {N ps : List Str} {k : Nat} {sp : DSp} (F : FunC K x qual st f fd c) (S : FnScope N ps (defScope st)) (len : ∀ ds G Q E, sp ds G Q E → ds.length = ps.length)
    (hbody : ∀ (A : Around) (outer : List Env) (s : Shared) (H : Hp) (E : XK) (F₀ : Hp), Room k (A.deeper (envOfC qual (defScope st) s.heap.objs.size f (.ref c))) → Mute A →
      ∃ t : DS, PSs (cxOf CX0 P w K mg base N qual (defScope st) f (.ref c) A outer s H E).nox (defBody st) (Ls K F₀ t) ∧ ∀ ds G Q E', sp ds G Q E' → t (endD Q) (startD N ds) G) : FnG P w K mg base CX0 (k + 1) f fd ps (LSp K sp) := by
  refine fnC_of F S (fun vs H Q E ⟨F, G, ds, Q', E', r, w, q, _⟩ => by rw [← r.length]; exact len _ _ _ _ q) (fun A outer s H vs Q E hr hmu ⟨F0, G, ds, Q', E', r, w, q, k, _⟩ => ?_)
  obtain ⟨t, h1, h2⟩ := hbody A outer s H E F0 hr hmu
  have hl := len _ _ _ _ q
  have hN : ps.length ≤ N.length := by have := congrArg List.length S.pre; rw [List.length_take] at this; omega
  exact ⟨_, PSs.nox h1, ⟨_, F0, G, endD Q', Same.refl F0, En.start N r (by omega), w, h2 _ _ _ _ q, ke_end k⟩⟩
/-- .. that may let errors out -/
theorem fn_dEC {x qual : Str} {st : Stmt} {f c : Addr} {fd : FuncData} {N ps : List Str} {k : Nat} {sp : DSp} (F : FunC K x qual st f fd c) (S : FnScope N ps (defScope st)) (len : ∀ ds G Q E, sp ds G Q E → ds.length = ps.length)
    (hbody : ∀ (A : Around) (outer : List Env) (s : Shared) (H : Hp) (E : XK) (F₀ : Hp) (E' : DX), Room k (A.deeper (envOfC qual (defScope st) s.heap.objs.size f (.ref c))) → Mute A → KoE K F₀ E' E →
      ∃ t : DS, PSs (cxE P w K mg base N qual (defScope st) f (.ref c) A outer s H E) (defBody st) (Ls K F₀ t) ∧ ∀ ds G Q, sp ds G Q E' → t (endD Q) (startD N ds) G) : FnG P w K mg base (L2.CX P w) (k + 1) f fd ps (LSp K sp) := by
  refine fnC_of F S (fun vs H Q E ⟨F, G, ds, Q', E', r, w, q, _⟩ => by rw [← r.length]; exact len _ _ _ _ q) (fun A outer s H vs Q E hr hmu ⟨F0, G, ds, Q', E', r, w, q, k, ke⟩ => ?_)
  obtain ⟨t, h1, h2⟩ := hbody A outer s H E F0 E' hr hmu ke
  have hl := len _ _ _ _ q
  have hN : ps.length ≤ N.length := by have := congrArg List.length S.pre; rw [List.length_take] at this; omega
  exact ⟨_, h1, ⟨_, F0, G, endD Q', Same.refl F0, En.start N r (by omega), w, h2 _ _ _ q, ke_end k⟩⟩
end
/-! ### the end -/
section
variable {P : Program} {w : World} {K : PySem.W.Frag} {mg mb : Str → Option Value} {k : Nat} {fa a : Addr} {fd : FuncData} {x : Str} {sp : DSp} {s1 : Shared} {vs : List Value} {ns : List Int} {cs : List (Addr × Addr × Str)}
abbrev tabsOf (cs : List (Addr × Addr × Str)) : List Addr := cs.map fun p => p.2.1
/-- the tables, to begin with -/
def gTab : List (Addr × Addr × Str) → Gp
  | [] => fun _ => none
  | p :: r => gu (gTab r) p.2.1 (.tab p.2.2)
theorem gTab_out {b : Addr} : ∀ {cs : List (Addr × Addr × Str)}, b ∉ tabsOf cs → gTab cs b = none
  | [], _ => rfl
  | p :: r, h => by
    have h1 : b ≠ p.2.1 := fun z => h (by rw [z]; exact List.mem_cons_self)
    show gu (gTab r) p.2.1 (.tab p.2.2) b = none
    rw [gu_ne h1]
    exact gTab_out fun z => h (List.mem_cons_of_mem _ z)
theorem gTab_some {b : Addr} {o : GO} : ∀ {cs : List (Addr × Addr × Str)}, gTab cs b = some o → b ∈ tabsOf cs ∧ ∃ q, o = .tab q
  | [], h => nomatch h
  | p :: r, h => by
    have h : gu (gTab r) p.2.1 (.tab p.2.2) b = some o := h
    by_cases h1 : b = p.2.1
    · subst h1
      rw [gu_same] at h
      cases h
      exact ⟨List.mem_cons_self, _, rfl⟩
    · rw [gu_ne h1] at h
      obtain ⟨i, j⟩ := gTab_some h
      exact ⟨List.mem_cons_of_mem _ i, j⟩
theorem law_tabs (KX : K.In s1.heap) (hns : s1.heap.Ns mainGlobals mg) (hb : s1.heap.Ns builtinsNs mb) (hbb : ∀ x : Str, x ≠ "__name__" → mb x = bootBuiltins x) (hlim : s1.heap.NoLimit) (hg : s1.gens = #[])
    (hbm : ∃ (bm : Addr) (ob : Obj), mg "__builtins__" = some (.ref bm) ∧ bm ≠ builtinsNs ∧ s1.heap.get? bm = some ob ∧ ob.cls = .type "module" ∧ ob.dict = some builtinsNs ∧ ob.data = .plain)
    (hT : ∀ p ∈ cs, s1.heap.get? p.2.1 = some (PySem.W.tabObj #[])) (nT : ∀ p ∈ cs, K.lookup p.2.1 = none) (C : ∀ p ∈ cs, PySem.W.CodeHd s1.heap p.1 p.2.1)
    (ha : s1.heap.get? a = some { cls := .type "list", data := .seq vs.toArray }) (hi : IntsAre vs ns) (hl : ns.length ≤ sizeLine) (hr : Room k callerA)
    (F : ∀ base : Heap, K.In base → base.Ns mainGlobals mg → (∀ p ∈ cs, LamX.TabB base mg p.1 p.2.1) → FnG P w K mg base CX0 k fa fd [x] (LSp K sp)) (hbind : ∀ (s : Shared) (u : Value), BindsTo s fd ⟨[u], []⟩ [(x, u)])
    (hsp : sp [.scr (ns.map D.int)] (gTab cs) (fun d _ => d = .bl true) X0) : codeAny (model P w) callerA (.call (.ref fa) ⟨[.ref a], []⟩) (Won s1) s1 := by
  have rv := vals_ints hi
  have hlen := hi.length
  have tab : ∀ b ∈ tabsOf cs, s1.heap.get? b = some (PySem.W.tabObj #[]) := fun b hb => by
    obtain ⟨p, hp, rfl⟩ := List.mem_map.mp hb
    exact hT p hp
  have tabK : ∀ b ∈ tabsOf cs, K.lookup b = none := fun b hb => by
    obtain ⟨p, hp, rfl⟩ := List.mem_map.mp hb
    exact nT p hp
  have aT : a ∉ tabsOf cs := fun z => by
    have := (tab a z).symm.trans ha
    cases this
  -- the heap: the tables, the script where it is not in K
  let F0 : Hp := fun b => if K.lookup a = none ∧ b = a then some (.frz { cls := .type "list", data := .seq vs.toArray } (.lst (ns.map V.int))) else none
  let H0 : Hp := fun b => if b ∈ tabsOf cs then some (.tbl #[]) else F0 b
  have FT : ∀ b ∈ tabsOf cs, F0 b = none := fun b hb => if_neg (fun z : K.lookup a = none ∧ b = a => aT (z.2 ▸ hb))
  have HT : ∀ b ∈ tabsOf cs, H0 b = some (.tbl #[]) := fun b hb => if_pos hb
  have HF : ∀ b, b ∉ tabsOf cs → H0 b = F0 b := fun b hb => if_neg hb
  have Fa : ∀ b u, F0 b = some u → K.lookup a = none ∧ b = a ∧ u = .frz { cls := .type "list", data := .seq vs.toArray } (.lst (ns.map V.int)) := fun b u e => by
    have e : (if K.lookup a = none ∧ b = a then some (HO.frz { cls := .type "list", data := .seq vs.toArray } (.lst (ns.map V.int))) else none) = some u := e
    split at e
    · rename_i h
      cases e
      exact ⟨h.1, h.2, rfl⟩
    · cases e
  have hok : HOk P w H0 s1.heap := fun b u e => by
    by_cases hb : b ∈ tabsOf cs
    · rw [HT b hb] at e
      cases e
      exact tab b hb
    · rw [HF b hb] at e
      obtain ⟨_, rfl, rfl⟩ := Fa b u e
      exact ⟨ha, by rw [List.length_map]; exact hl, vs, _, rv, ha⟩
  have sl : SqL K F0 a (ns.map V.int) := by
    cases e : K.lookup a with
    | none => exact .inl (.inr ⟨_, if_pos ⟨e, rfl⟩⟩)
    | some o =>
      have z := KX a o e
      rw [ha] at z
      cases z
      exact .inr ⟨_, vs.toArray, _, e, rfl, rfl, rfl, by rw [List.size_toArray, hlen]; exact hl, by simpa using rv⟩
  -- what is not tracked is in the base
  have plain : ∀ {b : Addr} {o : Obj}, s1.heap.get? b = some o → o ≠ PySem.W.tabObj #[] → (∀ vs n, o.data ≠ .seq vs n) → H0 b = none := fun {b o} e h1 h2 => by
    by_cases hb : b ∈ tabsOf cs
    · exact absurd (Option.some.inj (e.symm.trans (tab b hb))) h1
    · rw [HF b hb]
      cases q : F0 b with
      | none => rfl
      | some u =>
        obtain ⟨_, rfl, _⟩ := Fa b u q
        rw [ha] at e
        cases e
        exact absurd rfl (h2 _ _)
  have still : ∀ {b : Addr} {o : Obj} {es : Array DictEntry} {ep : Nat}, s1.heap.get? b = some o → o.data = .dict es ep → H0 b = none := fun {b o es ep} e d => plain e (fun z => by rw [z] at d; cases d) fun vs n z => by rw [d] at z; cases z
  have ns' : ∀ {b : Addr} {m : Str → Option Value}, s1.heap.Ns b m → (hidT s1.heap H0).Ns b m := fun {b m} ⟨o, es, ep, e, d, r⟩ => ⟨o, es, ep, hidT_get e (still e d), d, r⟩
  have kin : K.In (hidT s1.heap H0) := fun b o e => hidT_get (KX b o e) (by
    by_cases hb : b ∈ tabsOf cs
    · rw [tabK b hb] at e; cases e
    · rw [HF b hb]
      cases q : F0 b with
      | none => rfl
      | some u =>
        obtain ⟨z, rfl, _⟩ := Fa b u q
        rw [z] at e; cases e)
  obtain ⟨mc, l1, l2⟩ := hlim
  have M : Mod K mg (hidT s1.heap H0) := ⟨kin, ns' hns, ⟨mb, ns' hb, hbb⟩, ⟨mc, ns' l1, l2⟩⟩
  have E : Env0 P w K mg (hidT s1.heap H0) callerA [] s1 H0 := ⟨rfl, M, fun b o e => of_hidT e, Nat.le_of_eq (hidT_size _ _), trivial, fun b hb => (nomatch hb), hok, .of_eq hg⟩
  have TB : ∀ p ∈ cs, LamX.TabB (hidT s1.heap H0) mg p.1 p.2.1 := fun p hp => by
    have e := hT p hp
    obtain ⟨bm, ob, b1, b2, b3, b4, b5, b6⟩ := hbm
    obtain ⟨oG, esG, epG, eG, dG, _⟩ := hns
    refine ⟨?_, ⟨bm, ob, b1, b2, fun z => ?_, fun z => ?_, hidT_get b3 (plain b3 (fun z => by rw [z] at b6; cases b6) fun vs n z => by rw [b6] at z; cases z), b4, b5, b6⟩, fun z => ?_⟩
    · obtain ⟨o, us, fl, tf, flags, tg, inF, text, tt, e1, r1, r2, r3, r4⟩ := C p hp
      refine ⟨o, us, fl, tf, flags, tg, inF, text, tt, hidT_get e1 (plain e1 (fun z => ?_) fun vs n z => ?_), r1, r2, r3, r4⟩
      · rw [z] at r2
        cases r2
        simp at r3
      · rw [r2] at z; cases z
    · rw [z, eG] at b3; cases b3; rw [dG] at b6; cases b6
    · rw [z, e] at b3; cases b3; cases b6
    · rw [z, e] at eG; cases eG; cases dG
  have W0 : Wd K F0 (gTab cs) H0 := ⟨fun b u e => by rw [HF b (fun hb => by rw [FT b hb] at e; cases e)]; exact e, fun b o e => by
    obtain ⟨hb, q, rfl⟩ := gTab_some e
    exact ⟨FT b hb, #[], HT b hb, trivial, fun pos cv z => by simp [codeAmong] at z⟩⟩
  have hsp' : LSp K sp [.ref a] H0 (fun v _ => v = .bl true) fun _ _ _ => False := ⟨F0, gTab cs, [.scr (ns.map D.int)], fun d _ => d = .bl true, X0, .cons (.scr sl (Rps.ofInts ns)) .nil, W0, hsp, fun d v F' G' H' s w r q => by
    subst q
    cases r
    rfl, koe0⟩
  refine codeAny_mono ((F _ kin (ns' hns) TB).go callerA [] s1 H0 ⟨[.ref a], []⟩ [.ref a] [.ref a] _ _ hr rfl E (hbind s1 (.ref a)) (.cons rfl .nil) hsp') fun r s' h => ?_
  match r, h with
  | .error e, h => exact False.elim h
  | .ok .next, h => exact h.elim
  | .ok .brk, h => exact h.elim
  | .ok .cont, h => exact h.elim
  | .ok (.ret u), ⟨v, H', os, bare, un, hok', r', q⟩ =>
    have q' : v = .bl true := q
    subst q'
    have ru : u = Value.bool true := r'
    subst ru
    have key : ∀ b o, b ∉ tabsOf cs → s1.heap.get? b = some o → s'.heap.get? b = some o := fun b o nb e => by
      cases z : H0 b with
      | none => exact un.keep b o e z (fun z => (nomatch z)) (fun z => (nomatch z))
      | some u =>
        have z2 := z
        rw [HF b nb] at z2
        obtain ⟨_, rfl, rfl⟩ := Fa b u z2
        obtain ⟨e1, _⟩ := hok _ _ z
        obtain ⟨e2, _⟩ := hok' _ _ (un.frzs _ _ _ z)
        rw [e] at e1
        cases e1
        exact e2
    have grown : ∀ b ∈ tabsOf cs, ∃ more : Array Value, s'.heap.get? b = some (PySem.W.tabObj more) := fun b hb => by
      obtain ⟨more, z⟩ := un.tbls b #[] (HT b hb)
      exact ⟨_, hok' b _ z⟩
    refine ⟨rfl, ⟨fun b o e => ?_, fun b o e => ?_⟩, os, bare⟩
    · by_cases hb : b ∈ tabsOf cs
      · obtain ⟨more, hm⟩ := grown b hb
        have e' := (tab b hb).symm.trans e
        cases e'
        obtain ⟨p, hp, rfl⟩ := List.mem_map.mp hb
        exact .inr (.inl ⟨((C p hp).tab (hT p hp)).isCodeTable, rfl, #[], more, rfl, by rw [Array.empty_append]; exact hm⟩)
      · exact .inl (key b o hb e)
    · by_cases hb : b ∈ tabsOf cs
      · obtain ⟨more, hm⟩ := grown b hb
        exact ⟨_, hm⟩
      · exact ⟨o, key b o hb e⟩
end
/-- the goal that k_head leaves, where defs of the text make lambdas -/
theorem walk_t {l : PySem.W.OpenLaw} {k : Nat} {q : Program} {loose : List Str} {XP : (Str → Option Value) → Heap → Prop} {YP : World → Heap → Prop} {d : DefRec} {K : Params → PySem.W.Frag} {x : Str} {ts : List Addr}
    (hn : l.most = some 63) (hdf : d.params.defaults = []) (hr : Room k callerA) (hY : ∀ (w : World) (h : Heap), YP w h → (K w.params).In h) (hT : ∀ (w : World) (h : Heap), YP w h → ∀ P ∈ ts, h.get? P = some (PySem.W.tabObj #[]))
    (F : ∀ (w : World) (mg : Str → Option Value) (fa : Addr) (h : Heap), (K w.params).In h → h.Ns mainGlobals mg → mg d.name = some (.ref fa) →
      ∃ (fd : FuncData) (cs : List (Addr × Addr × Str)) (sp : DSp), (∀ (s : Shared) (u : Value), BindsTo s fd ⟨[u], []⟩ [(x, u)]) ∧ (∀ p ∈ cs, p.2.1 ∈ ts) ∧ (∀ p ∈ cs, (K w.params).lookup p.2.1 = none) ∧ (∀ p ∈ cs, PySem.W.codeHdIn (K w.params) p.1 p.2.1 = true) ∧
        (∀ (ns : List Int) (Q : DK), ns.length ≤ 63 → (∀ G', Q (.bl true) G') → sp [.scr (ns.map D.int)] (gTab cs) Q X0) ∧
        ∀ base : Heap, (K w.params).In base → base.Ns mainGlobals mg → (∀ p ∈ cs, LamX.TabB base mg p.1 p.2.1) → FnG l.prog w (K w.params) mg base CX0 k fa fd [x] (LSp (K w.params) sp)) :
    PySem.W.WalkO q loose XP YP l.row.toRowW d [] (fun f vs => PySem.call f vs) := by
  refine Att.attach_call hn hdf fun w s₀ s₁ mg mb fa o pm cd doc a vs ns G Y ho hd hcd hmg hobj hints hlen hg => ?_
  have KX := hY w _ Y
  obtain ⟨fd, cs, sp, hb, hts, hnT, hC, hsp, hF⟩ := F w mg fa _ KX G.T.g hmg
  exact law_tabs KX G.T.g G.T.b G.T.builtins G.T.nolimit hg G.T.bmain (fun p hp => hT w _ Y _ (hts p hp)) hnT (fun p hp => PySem.W.codeHd_of_K KX (hC p hp)) hobj hints (Nat.le_trans hlen (by decide)) hr hF hb (hsp ns _ hlen fun _ => rfl)
end DL

/-! x in a tuple or a list of things of any depth; steps of try. -/
namespace DL
open PySem PySem.Spec PyProof.Rows L2
/-- equal to one of them -/
def rInP (K : PySem.W.Frag) (neg : Bool) : R2 := fun x y H Q => ∃ d ds c, Dp K H x d ∧ (c = .list ds ∨ c = .tuple ds) ∧ Dp K H y c ∧ SeqAt.shaped d = true ∧ SeqAt.shaped (.list ds) = true ∧ Q (.bl (if neg then !(ds.any fun z => PyData.eqv z d) else ds.any fun z => PyData.eqv z d)) H
theorem op_inP {X : Cx} (neg : Bool) (hu : X.A.units + 65 < cLine) : OpR X (compareOp (if neg then .NotIn else .In)) (rInP X.K neg) := by
  intro pins s σ H x y v u Q I rx ry h
  obtain ⟨d, ds, c, hd, hc, he, sd, se, q⟩ := h
  obtain ⟨as, r1⟩ := Dp.reads I d x v hd rx
  obtain ⟨bs, r2⟩ := Dp.reads I c y u he ry
  cases neg with
  | false =>
    rcases hc with rfl | rfl
    · exact SeqAt.in_list_reads r2 r1 (SeqAt.canLay_of_shaped se) (SeqAt.canLay_of_shaped sd) (PyProof.Rows.room_in_shaped sd hu) ⟨.bl _, H, I, rfl, q⟩
    · exact SeqAt.in_tuple_reads r2 r1 (SeqAt.canLay_of_shaped se) (SeqAt.canLay_of_shaped sd) (PyProof.Rows.room_in_shaped sd hu) ⟨.bl _, H, I, rfl, q⟩
  | true =>
    rcases hc with rfl | rfl
    · exact SeqAt.notIn_list_reads r2 r1 (SeqAt.canLay_of_shaped se) (SeqAt.canLay_of_shaped sd) (PyProof.Rows.room_in_shaped sd hu) ⟨.bl _, H, I, rfl, q⟩
    · exact SeqAt.notIn_tuple_reads r2 r1 (SeqAt.canLay_of_shaped se) (SeqAt.canLay_of_shaped sd) (PyProof.Rows.room_in_shaped sd hu) ⟨.bl _, H, I, rfl, q⟩
theorem units65 {k : Nat} {A : Around} (r : Room k A) : A.units + 65 < cLine := by
  have := r.un
  omega
theorem op_inP0 {X : Cx} (hu : X.A.units + 65 < cLine) : OpR X (compareOp .In) (rInP X.K false) := op_inP false hu
theorem op_inP1 {X : Cx} (hu : X.A.units + 65 < cLine) : OpR X (compareOp .NotIn) (rInP X.K true) := op_inP true hu
/-- the items of data -/
def pyIts : PyData → Option (List PyData) | .list ds => some ds | .tuple ds => some ds | _ => none
def dInP (neg : Bool) : D2 := fun x y G Q => match pyOf x G, (pyOf y G).bind pyIts with
  | some d, some ds => SeqAt.shaped d = true ∧ SeqAt.shaped (.list ds) = true ∧ Q (.bl (if neg then !(ds.any fun z => PyData.eqv z d) else ds.any fun z => PyData.eqv z d)) G
  | _, _ => False
theorem od_inP {K : PySem.W.Frag} {F₀ : Hp} (neg : Bool) : OpD K F₀ (dInP neg) (rInP K neg) := by
  intro F G H x y v u Q' Q s w rx ry q k
  unfold dInP at q
  split at q
  · rename_i d ds h1 h2
    obtain ⟨c, h3, h4⟩ := Option.bind_eq_some_iff.mp h2
    have hc : c = .list ds ∨ c = .tuple ds := by
      cases c with
      | list es => cases h4; exact .inl rfl
      | tuple es => cases h4; exact .inr rfl
      | _ => cases h4
    exact ⟨d, ds, c, pyOf_dp w rx h1, hc, pyOf_dp w ry h3, q.1, q.2.1, k _ _ F G H (Same.refl F) w (.bl _) q.2.2⟩
  · exact q.elim
/-- the suite takes it -/
theorem dAs_at {i : Nat} {sub : Str → Option Bool} {su : Addr → Str → List (Str × D) → DS} {W : DW} {Z : DEnds} {n : Str} {fs : List (Str × D)} {δ : Sl} {G : Gp} (h : sub n = some true)
    (k : ∀ a, su a n fs { nx := fun δ' G' => Z.nx (δ'.set i none) G', rt := Z.rt, bk := fun δ' G' => Z.bk (δ'.set i none) G', ct := fun δ' G' => Z.ct (δ'.set i none) G' } (δ.set i (some (.ref a))) G) : dAs i sub su W Z n fs δ G := by
  unfold dAs
  rw [h]
  exact k
theorem suL_at {l : List (Str × (Addr → List (Str × D) → DS))} {f : Addr → List (Str × D) → DS} {a : Addr} {n : Str} {fs : List (Str × D)} {Z : DEnds} {δ : Sl} {G : Gp} (h : l.lookup n = some f) (k : f a fs Z δ G) : suL l a n fs Z δ G := by
  unfold suL
  rw [h]
  exact k
/-- a str that repr tells in no more than so many letters -/
theorem rs_str {x : Str} {W : Nat} (h : (PyData.showable (.str x) && decide ((PyData.shown (.str x)).length ≤ W)) = true) : Rs 0 W (.str x) := by
  rw [Bool.and_eq_true, decide_eq_true_iff] at h
  exact ⟨_, rfl, h.1, h.2, by unfold PyData.depth; exact Nat.le_refl _⟩
theorem rs_row : Rs 0 20 (.str "row") := rs_str (by decide +kernel)
section
variable {X : Cx} {F₀ : Hp} {k kk n j : Nat} {f : Addr} {fd : FuncData} {ps : List Str} {sp : Addr → DSp → DSp} {TH : Sl → DSp} {R : Hp → Addr → Prop} {W : WX} {W' : DW} {x : Str} {p pos : Pos} {e : Expr} {es : List Expr} {t : DA}
/-- the same, its arguments first -/
theorem de_callG2 (ha : PA X (e :: es) (La X.K F₀ t)) (FW : FnW X.prog X.w X.K X.mg X.base (L2.CX X.prog X.w) k f fd ps kk n sp) (hr : Room k X.A) (hmu : Mute X.A) (hg : Gl X x) (hm : X.mg x = some (.ref f)) (hk : PySem.W.keepIn X.K (.ref f) = true) (hb : Binds X.K fd ps []) (tk : Takes X W) (kw : KoW X.K F₀ W' W)
    (way : ∀ pins σ H s F G δ fw, Inv X pins σ H s → Same F₀ F → En X.K F δ σ → Wd X.K F G H → R F fw → WayOk X.prog X.w X.K X.mg X.base kk (frs X.stack) H s.heap F fw n (TH δ))
    (hdb : (x == ("__debug__" : Str)) = false) (he : starEach (e :: es) X.env = (false, eval e X.env) :: starEach es X.env) (hpl : (backTo pos (starEach es X.env)).any (·.1) = false) :
    PE X (.Call (.Name x p) (e :: es) [] pos) (Le X.K F₀ (dCallG j R sp TH W' t)) := de_callG FW hr hmu hg hm hk hb tk kw way ha hdb he hpl
end
/-- str of a whole number, told -/
def dStrT : List D → Gp → DK → Prop := fun xs G Q => match xs with
  | [.int i] => i.natAbs.log2 < 1920 ∧ Q (.str (toString i)) G
  | _ => False
theorem cd_strT {K : PySem.W.Frag} {F₀ : Hp} : CallD K F₀ dStrT (fun xs H Q => ∃ i, xs = [.int i] ∧ i.natAbs.log2 < 1920 ∧ Q (.str (toString i)) H) := by
  intro F G H xs vs Q' Q s w rx q k
  unfold dStrT at q
  split at q
  · obtain ⟨v, rfl, r⟩ := rps1 rx
    cases r
    exact ⟨_, rfl, q.1, k _ _ F G H (Same.refl F) w (.str _) q.2⟩
  · exact q.elim
theorem strOk_of (x : String) : PyData.strOk (Str.ofString x) = true := by
  rw [Str.ofString_eq_toList]
  unfold PyData.strOk
  rw [Array.all_eq_true']
  intro c hc
  rw [List.mem_toArray, List.mem_map] at hc
  obtain ⟨k, _, rfl⟩ := hc
  have := k.valid
  unfold UInt32.isValidChar Nat.isValidChar at this
  rw [decide_eq_true_iff]
  show k.val.toNat < _
  omega
/-- all that is said of an own error class with a field -/
def exI_by {P : Program} {K : PySem.W.Frag} {mg : Str → Option Value} {n fld : Str} {C fI : Addr} {pa qual : Str} {params : Arguments} {scope : Scope} {dV kV doc pm ct oc : Value} {an od : Option Addr} {osl : Array (Option Value)} {cda cc : Addr} {p0 p1 p2 p3 p4 p5 p6 p7 p8 p9 : Pos}
    {nm q : Str} {N : Addr} {bs bm : List Value} {sn : List Str} {sub : List Value} {ab : Bool} {col : Option Bool} {dd : Option Addr} {k0 k1 k2 k3 k5 : Option Value} {ccl : Value} {cdd : Option Addr} {vs : Array Value} {ccs : Array (Option Value)} {fl : Str} {tf : Tok} {cl : Value} {cld : Option Addr} {csl : Array (Option Value)} {ar : Arg} {pl : Addr → Sem Bool}
    (g : mg n = some (.ref C)) (ns : PySem.W.nsIn K mainGlobals n = some (some (.ref C)))
    (o1 : K.lookup C = some (PySem.excClassObj nm q C N bs bm true sn sub ab col dd k0 k1 k2 k3 k5 "ValueError.__new__")) (o2 : PySem.HandSPX.refsVE bm = true) (o3 : PySem.W.findIn K (.ref C) "__setattr__" = some (some (.builtin "object.__setattr__"))) (o4 : PySem.W.subIn K (.ref C) (.type "BaseException") = some true) (o5 : PySem.W.typeIn K (.ref C) = some (.type "type")) (o6 : PySem.W.keepIn K (.ref C) = true)
    (lk : K.lookup fI = some ⟨oc, od, .func (PySem.W.fnX "__init__" qual params (supBody pa fld p0 p1 p2 p3 p4 p5 p6 p7 p8 p9) scope [("__class__", cc)] dV kV doc pm an (.ref cda) ct), osl⟩)
    (code : PySem.W.codeIn K (.ref cda) qual = true)
    (file1 : K.lookup cda = some ⟨ccl, cdd, .fields vs, ccs⟩) (file2 : vs[2]? = some (.str fl tf)) (file3 : ((P.main.file : Str) == fl) = true)
    (cell : K.lookup cc = some ⟨cl, cld, .cell (some (.ref C)), csl⟩)
    (head1 : (params.posonlyargs ++ params.args).head? = some ar) (head2 : ar.arg = "self")
    (kind : scope.kind = .function)
    (co : scope.isCoroutine = false)
    (gen : scope.isGenerator = false)
    (nsup : scope.names.lookup ("super" : Str) = some .globalImplicit)
    (ncls : scope.names.lookup ("__class__" : Str) = some .free)
    (nself : scope.names.lookup ("self" : Str) = some .local)
    (npa : scope.names.lookup pa = some .local)
    (nocell : ∀ y ∈ scope.names, y.2 ≠ .cell)
    (nofree : ∀ y ∈ scope.names, y.2 = .free → y.1 = "__class__")
    (top : (P.main.scope.names.lookup ("super" : Str)).isSome = false)
    (hsup : PySem.W.nsIn K mainGlobals "super" = some none)
    (sup : PySem.W.ks_superIn K C C "__init__" = some (some (.builtin "ValueError.__init__")))
    (opq : PySem.W.nsIn K cStatics "thirdparty.any" = some none)
    (ve : PySem.W.subIn K (.ref C) (.type "ValueError") = some true)
    (own : PySem.W.findIn K (.ref C) fld = some none)
    (mro : PySem.W.mroIn K C (.ref C) = some true)
    (fi : PySem.W.findIn K (.ref C) "__init__" = some (some (.ref fI)))
    (ty : PySem.W.typeIn K (.ref fI) = some (.type "function"))
    (ev : ∀ L : Addr, eval (.Call (.Attribute (.Call (.Name "super" p0) [] [] p1) "__init__" p2) [.Name pa p3] [] p4) (callEnv (PySem.W.fnX "__init__" qual params (supBody pa fld p0 p1 p2 p3 p4 p5 p6 p7 p8 p9) scope [("__class__", cc)] dV kV doc pm an (.ref cda) ct) L fI) = (do
    let ov ← attributeBase (.Call (.Name "super" p0) [] [] p1) "__init__" (callEnv (PySem.W.fnX "__init__" qual params (supBody pa fld p0 p1 p2 p3 p4 p5 p6 p7 p8 p9) scope [("__class__", cc)] dV kV doc pm an (.ref cda) ct) L fI) (eval (.Call (.Name "super" p0) [] [] p1) (callEnv (PySem.W.fnX "__init__" qual params (supBody pa fld p0 p1 p2 p3 p4 p5 p6 p7 p8 p9) scope [("__class__", cc)] dV kV doc pm an (.ref cda) ct) L fI))
    standAt p2.atName
    let (f, first) ← holding [ov] (getMethod ov "__init__" (pl L))
    callWith p4 f first (backTo p4 (starEach [.Name pa p3] (callEnv (PySem.W.fnX "__init__" qual params (supBody pa fld p0 p1 p2 p3 p4 p5 p6 p7 p8 p9) scope [("__class__", cc)] dV kV doc pm an (.ref cda) ct) L fI))) []))
    (sw1 : ∀ L : Addr, swapsWith (.Call (.Attribute (.Call (.Name "super" p0) [] [] p1) "__init__" p2) [.Name pa p3] [] p4) none p5.line (callEnv (PySem.W.fnX "__init__" qual params (supBody pa fld p0 p1 p2 p3 p4 p5 p6 p7 p8 p9) scope [("__class__", cc)] dV kV doc pm an (.ref cda) ct) L fI) = pure false)
    (sw2 : ∀ L : Addr, swapsWith (.Name pa p8) (some (.Attribute (.Name "self" p6) fld p7)) p9.line (callEnv (PySem.W.fnX "__init__" qual params (supBody pa fld p0 p1 p2 p3 p4 p5 p6 p7 p8 p9) scope [("__class__", cc)] dV kV doc pm an (.ref cda) ct) L fI) = pure false)
    (pdb : (pa == ("__debug__" : Str)) = false)
    (pne : (pa == ("self" : Str)) = false)
    (bb : Binds K (PySem.W.fnX "__init__" qual params (supBody pa fld p0 p1 p2 p3 p4 p5 p6 p7 p8 p9) scope [("__class__", cc)] dV kV doc pm an (.ref cda) ct) ["self", pa] []) : ExI P K mg n fld C where
  g := g
  ns := ns
  ox := ⟨⟨_, _, _, _, _, _, _, _, _, _, _, _, _, _, _, o1, o2⟩, o3, o4, o5, o6⟩
  fI := fI
  pa := pa
  S := { qual := qual, params := params, scope := scope, dV := dV, kV := kV, doc := doc, pm := pm, ct := ct, oc := oc, an := an, od := od, osl := osl, cda := cda, cc := cc, p0 := p0, p1 := p1, p2 := p2, p3 := p3, p4 := p4, p5 := p5, p6 := p6, p7 := p7, p8 := p8, p9 := p9, lk := lk, code := code, file := ⟨_, _, _, _, _, _, file1, file2, file3⟩, cell := ⟨_, _, _, cell⟩, head := ⟨_, head1, head2⟩, kind := kind, co := co, gen := gen, nsup := nsup, ncls := ncls, nself := nself, npa := npa, nocell := nocell, nofree := nofree, top := top, hsup := hsup, sup := sup, opq := opq, ve := ve, own := own, mro := mro, fi := fi, ty := ty, pl := pl, ev := ev, sw1 := sw1, sw2 := sw2, pdb := pdb, pne := pne }
  b := bb
end DL

/-! dicts whose keys are whole numbers and texts: d[k], d[k] = v, k in d, {k: v, ..}; calls of one of several function values. -/
namespace DL
open PySem PySem.Spec PyProof.Rows L2
/-- a key -/
def keyD : D → Option Key | .int i => some (.inl i) | .str x => some (.inr x) | _ => none
def valD (kvs : List (Key × D)) (k : Key) : Option D := (kvs.find? fun kv => decide (kv.1 = k)).map (·.2)
def putD2 (kvs : List (Key × D)) (k : Key) (v : D) : List (Key × D) := if (kvs.any fun kv => decide (kv.1 = k)) = true then kvs.map (fun kv => if kv.1 = k then (kv.1, v) else kv) else kvs ++ [(k, v)]
def dctOf : D → Gp → Option (List (Key × D))
  | .dct kvs, _ => some kvs
  | .ref a, G => match G a with | some (.dct kvs) => some kvs | _ => none
  | _, _ => none
section
variable {K : PySem.W.Frag} {F F₀ H : Hp} {G : Gp}
theorem keyD_ok {y : D} {v : V} {k : Key} (h : keyD y = some k) (r : Rp K F y v) : v = kV k := by
  unfold keyD at h
  split at h
  · cases h; cases r; rfl
  · cases h; cases r; rfl
  · cases h
theorem Rpk.val {k : Key} : ∀ {ds : List (Key × D)} {vs : List (Key × V)} {d : D}, Rpk K F ds vs → valD ds k = some d → ∃ v, valV vs k = some v ∧ Rp K F d v
  | [], _, _, _, h => by cases h
  | (j, e) :: ds, _, d, r, h => by
    cases r with
    | cons a b =>
      by_cases hj : j = k
      · have h : valD ((j, e) :: ds) k = some d := h
        unfold valD at h
        rw [List.find?_cons, decide_eq_true hj] at h
        cases h
        exact ⟨_, valV_pos hj, a⟩
      · have h : valD ((j, e) :: ds) k = some d := h
        unfold valD at h
        rw [List.find?_cons, decide_eq_false hj] at h
        obtain ⟨v, e2, r2⟩ := Rpk.val b h
        exact ⟨v, (valV_neg hj).trans e2, r2⟩
theorem Rpk.keys : ∀ {ds : List (Key × D)} {vs : List (Key × V)} (k : Key), Rpk K F ds vs → (vs.any fun kv => decide (kv.1 = k)) = (ds.any fun kv => decide (kv.1 = k))
  | [], _, _, r => by cases r; rfl
  | (j, e) :: ds, _, k, r => by
    cases r with
    | cons a b => rw [List.any_cons, List.any_cons, Rpk.keys k b]
theorem Rpk.len : ∀ {ds : List (Key × D)} {vs : List (Key × V)}, Rpk K F ds vs → vs.length = ds.length
  | [], _, r => by cases r; rfl
  | (j, e) :: ds, _, r => by
    cases r with
    | cons a b => rw [List.length_cons, List.length_cons, Rpk.len b]
theorem Rpk.snoc {k : Key} {d : D} {v : V} (hv : Rp K F d v) : ∀ {ds : List (Key × D)} {vs : List (Key × V)}, Rpk K F ds vs → Rpk K F (ds ++ [(k, d)]) (vs ++ [(k, v)])
  | [], _, r => by cases r; exact .cons hv .nil
  | (j, e) :: ds, _, r => by
    cases r with
    | cons a b => exact .cons a (Rpk.snoc hv b)
theorem Rpk.sub {k : Key} {d : D} {v : V} (hv : Rp K F d v) : ∀ {ds : List (Key × D)} {vs : List (Key × V)}, Rpk K F ds vs → Rpk K F (ds.map fun kv => if kv.1 = k then (kv.1, d) else kv) (vs.map fun kv => if kv.1 = k then (kv.1, v) else kv)
  | [], _, r => by cases r; exact .nil
  | (j, e) :: ds, _, r => by
    cases r with
    | cons a b =>
      rw [List.map_cons, List.map_cons]
      by_cases hj : j = k
      · rw [if_pos hj, if_pos hj]
        exact .cons hv (Rpk.sub hv b)
      · rw [if_neg hj, if_neg hj]
        exact .cons a (Rpk.sub hv b)
theorem Rpk.put {k : Key} {d : D} {v : V} {ds : List (Key × D)} {vs : List (Key × V)} (r : Rpk K F ds vs) (hv : Rp K F d v) : Rpk K F (putD2 ds k d) (putK vs k v) := by
  unfold putD2 putK
  rw [r.keys k]
  split
  · exact r.sub hv
  · exact r.snoc hv
theorem dctOf_ok {x : D} {v : V} {kvs : List (Key × D)} (w : Wd K F G H) (r : Rp K F x v) (h : dctOf x G = some kvs) : ∃ a vs, v = .ref a ∧ H a = some (.dK vs) ∧ Rpk K F kvs vs := by
  unfold dctOf at h
  split at h
  · cases h
    cases r with
    | dct h1 h2 => exact ⟨_, _, rfl, w.fz _ _ h1, h2⟩
  · rename_i a
    split at h
    · rename_i ks e
      cases h
      cases r
      obtain ⟨_, vs, h1, h2⟩ := w.mu _ _ e
      exact ⟨a, vs, rfl, h1, h2⟩
    · cases h
  · cases h
end
theorem units1 {k : Nat} {A : Around} (r : Room k A) : A.units + 1 < cLine := by
  have := r.un
  omega
def dDGet (td ti : DE) : DE := fun δ G Q => td δ G fun x G1 => ti δ G1 fun y G2 => match dctOf x G2, keyD y with
  | some kvs, some k => match valD kvs k with
    | some d => Q d G2
    | none => False
  | _, _ => False
def dDPut (tv td ti : DE) : DS := fun D δ G => tv δ G fun v G1 => td δ G1 fun x G2 => ti δ G2 fun y G3 => match x, keyD y with
  | .ref a, some k => match G3 a with
    | some (.dct kvs) => kvs.length < sizeLine ∧ D.nx δ (gu G3 a (.dct (putD2 kvs k v)))
    | _ => False
  | _, _ => False
section
variable {X : Cx} {F₀ : Hp} {o i value : Expr} {pos pos' : Pos} {td ti tv : DE}
theorem de_dget (hu : X.A.units + 1 < cLine) (ho : PE X o (Le X.K F₀ td)) (hi : PE X i (Le X.K F₀ ti)) (hs : NoSl i) : PE X (.Subscript o i pos) (Le X.K F₀ (dDGet td ti)) :=
  pe_imp (pe_dget hu ho hi hs) fun σ H Q ⟨δ, F, G, Q', s, en, w, q, k⟩ => by
    refine ⟨δ, F, G, _, s, en, w, q, fun x v F1 G1 H1 s1 w1 r1 q1 => ?_⟩
    refine ⟨δ, F1, G1, _, s.trans s1, en.mono s1, w1, q1, fun y u F2 G2 H2 s2 w2 r2 q2 => ?_⟩
    split at q2
    · rename_i kvs k' h1 h2
      split at q2
      · rename_i d h3
        obtain ⟨a, vs, rfl, hH, rk⟩ := dctOf_ok w2 (r1.mono s2) h1
        obtain ⟨v', e', rv⟩ := rk.val h3
        have ey := keyD_ok h2 r2
        refine ⟨a, v', rfl, ?_, k _ _ F2 G2 H2 (s1.trans s2) w2 rv q2⟩
        rw [ey, ← e']
        exact DGet.k hH
      · exact q2.elim
    · exact q2.elim
theorem ds_dput (hu : X.A.units + 1 < cLine) (hv : PE X value (Le X.K F₀ tv)) (ho : PE X o (Le X.K F₀ td)) (hi : PE X i (Le X.K F₀ ti)) (hs : swapsWith value (some (.Subscript o i pos')) pos.line X.env = pure false := by rfl) :
    PS X (.Assign [.Subscript o i pos'] value pos) (Ls X.K F₀ (dDPut tv td ti)) :=
  ps_imp (ps_dput hu ho hi hv hs) fun D σ H ⟨δ, F, G, D', s, en, w, q, k⟩ => by
    refine ⟨δ, F, G, _, s, en, w, q, fun v v1 F1 G1 H1 s1 w1 r1 q1 => ?_⟩
    refine ⟨δ, F1, G1, _, s.trans s1, en.mono s1, w1, q1, fun x u F2 G2 H2 s2 w2 r2 q2 => ?_⟩
    refine ⟨δ, F2, G2, _, (s.trans s1).trans s2, (en.mono s1).mono s2, w2, q2, fun y u3 F3 G3 H3 s3 w3 r3 q3 => ?_⟩
    split at q3
    · rename_i a k' h2
      split at q3
      · rename_i kvs e
        obtain ⟨hl, q3⟩ := q3
        cases r2
        obtain ⟨fa, vs, hH, rk⟩ := w3.mu _ _ e
        have ey := keyD_ok h2 r3
        have rv := r1.mono (s2.trans s3)
        refine ⟨a, _, rfl, ?_, k.nx _ _ F3 _ _ ((s1.trans s2).trans s3) (((en.mono s1).mono s2).mono s3) (w3.put (g := .dct (putD2 kvs k' v)) fa ⟨_, upd_same, rk.put rv⟩) q3⟩
        rw [ey]
        exact DPut.k hH (by rw [rk.len]; exact hl)
      · exact q3.elim
    · exact q3.elim
end
/-! ### a call with one of several function values -/
def dCallH (j : Nat) (RT : List ((Hp → Addr → Prop) × (Sl → DSp))) (sp : Addr → DSp → DSp) (W' : DW) (t : DA) : DE := fun δ G Q => t δ G fun ds G1 => ∃ p ∈ RT, ds[j]? = some (.ho p.1) ∧ ∀ fw, sp fw (p.2 δ) (ds.set j (.ref fw)) G1 Q fun n fs G2 => W' n fs δ G2
section
variable {X : Cx} {F₀ : Hp} {k kk n j : Nat} {f : Addr} {fd : FuncData} {ps : List Str} {sp : Addr → DSp → DSp} {RT : List ((Hp → Addr → Prop) × (Sl → DSp))} {W : WX} {W' : DW} {x : Str} {p pos : Pos} {e : Expr} {es : List Expr} {t : DA}
theorem de_callH (ha : PA X (e :: es) (La X.K F₀ t)) (FW : FnW X.prog X.w X.K X.mg X.base (L2.CX X.prog X.w) k f fd ps kk n sp) (hr : Room k X.A) (hmu : Mute X.A) (hg : Gl X x) (hm : X.mg x = some (.ref f)) (hk : PySem.W.keepIn X.K (.ref f) = true) (hb : Binds X.K fd ps []) (tk : Takes X W) (kw : KoW X.K F₀ W' W)
    (way : ∀ r ∈ RT, ∀ pins σ H s F G δ fw, Inv X pins σ H s → Same F₀ F → En X.K F δ σ → Wd X.K F G H → r.1 F fw → WayOk X.prog X.w X.K X.mg X.base kk (frs X.stack) H s.heap F fw n (r.2 δ))
    (hdb : (x == ("__debug__" : Str)) = false) (he : starEach (e :: es) X.env = (false, eval e X.env) :: starEach es X.env) (hpl : (backTo pos (starEach es X.env)).any (·.1) = false) :
    PE X (.Call (.Name x p) (e :: es) [] pos) (Le X.K F₀ (dCallH j RT sp W' t)) := by
  refine ⟨fun pins s σ H Q I ⟨δ, F1, G, Q', s0, en, w, q, k⟩ => wpAny_Call_Name_kw (ld_glob I hg hm (PySem.W.callWith_K (h₀ := X.base) I.ok.mod.kin hk (thn (ha.run pos pins s σ H (fun vs H1 => ∃ F2 G2 ds, Same F1 F2 ∧ Wd X.K F2 G2 H1 ∧ Rps X.K F2 ds vs ∧ ∃ r ∈ RT, ds[j]? = some (.ho r.1) ∧ ∀ fw, sp fw (r.2 δ) (ds.set j (.ref fw)) G2 Q' fun n fs G2 => W' n fs δ G2) I
    ⟨δ, F1, G, _, s0, en, w, q, fun ds vs F2 G2 H2 s2 w2 r2 q2 => ⟨F2, G2, ds, s2, w2, r2, q2⟩⟩) fun us s1 ⟨vs, H1, I1, r, F2, G2, ds, s2, w2, r2, rt, hrt, hj, q2⟩ => ⟨I1.kIn, ?_⟩) he hpl) hdb)⟩
  obtain ⟨fw, hR, r3⟩ := r2.setR hj
  have hl : (us ++ []).length = ps.length := by
    have := FW.arity _ _ _ _ _ _ (q2 fw)
    rw [List.append_nil, ← r.length, ← r3.length, this]
  have b := hb s1 us I1.kIn hl
  rw [List.append_nil] at b
  exact wp_call (FW.go X.A X.stack s1 H1 ⟨us, []⟩ us vs Q (WE W σ) fw (rt.2 δ) F2 G2 _ Q' _ hr hmu I1.env0 b r w2 r3 (q2 fw) (k.mono s2) (kw.at (s0.trans s2) (en.mono s2)) (way rt hrt pins σ H1 s1 F2 G2 δ fw I1 (s0.trans s2) (en.mono s2) w2 hR)) fun r s' hq => after_callS (passAt tk σ) I1 hq
end
end DL

/-! {k: v, ..}. -/
namespace DL
open PySem PySem.Spec PyProof.Rows L2
def dPairs : List (DE × DE) → Sl → Gp → (List (D × D) → Gp → Prop) → Prop
  | [], _, G, Q => Q [] G
  | (tk, tv) :: r, δ, G, Q => tk δ G fun x G1 => tv δ G1 fun y G2 => dPairs r δ G2 fun ps G3 => Q ((x, y) :: ps) G3
def keysD : List (D × D) → Option (List (Key × D))
  | [] => some []
  | (x, y) :: r => match keyD x, keysD r with | some k, some l => some ((k, y) :: l) | _, _ => none
def mergeD (kvs more : List (Key × D)) : List (Key × D) := more.foldl (fun acc kv => putD2 acc kv.1 kv.2) kvs
abbrev Rpp (K : PySem.W.Frag) (F : Hp) : List (D × D) → List (V × V) → Prop := Paired fun p q => Rp K F p.1 q.1 ∧ Rp K F p.2 q.2
section
variable {K : PySem.W.Frag} {F F₀ : Hp}
theorem keysD_ok : ∀ {ps : List (D × D)} {vs : List (V × V)} {l : List (Key × D)}, Rpp K F ps vs → keysD ps = some l → ∃ kvs : List (Key × V), vs = kvs.map (fun kv => (kV kv.1, kv.2)) ∧ Rpk K F l kvs
  | [], _, l, r, h => by
    cases r
    cases h
    exact ⟨[], rfl, .nil⟩
  | (x, y) :: ps, _, l, r, h => by
    cases r with
    | cons a b =>
      unfold keysD at h
      split at h
      · rename_i k l' h1 h2
        cases h
        obtain ⟨kvs, rfl, rk⟩ := keysD_ok b h2
        obtain ⟨a1, a2⟩ := a
        refine ⟨(k, _) :: kvs, ?_, .cons a2 rk⟩
        rw [List.map_cons]
        congr 1
        exact Prod.ext (keyD_ok h1 a1) rfl
      · cases h
theorem Rpk.merge : ∀ {more : List (Key × D)} {rs : List (Key × V)} {kvs : List (Key × D)} {vs : List (Key × V)}, Rpk K F more rs → Rpk K F kvs vs → Rpk K F (mergeD kvs more) (mergeK vs rs)
  | [], _, _, _, r, q => by cases r; exact q
  | (k, d) :: more, _, kvs, vs, r, q => by
    cases r with
    | cons a b =>
      show Rpk K F (mergeD (putD2 kvs k d) more) (mergeK (putK vs k _) _)
      exact Rpk.merge b (q.put a)
theorem pairs_le : ∀ (trs : List (DE × DE)) (σ : L2.St) (H : Hp) (Q : List (V × V) → Hp → Prop) (δ : Sl) (F : Hp) (G : Gp) (Q' : List (D × D) → Gp → Prop), Same F₀ F → En K F δ σ → Wd K F G H → dPairs trs δ G Q' →
    (∀ ps vs F1 G1 H1, Same F F1 → Wd K F1 G1 H1 → Rpp K F1 ps vs → Q' ps G1 → Q vs H1) → tPairs (trs.map fun p => (Le K F₀ p.1, Le K F₀ p.2)) σ H Q
  | [], σ, H, Q, δ, F, G, Q', s0, en, w, q, k => k [] [] F G H (Same.refl F) w .nil q
  | (tk, tv) :: r, σ, H, Q, δ, F, G, Q', s0, en, w, q, k => by
    refine ⟨δ, F, G, _, s0, en, w, q, fun x v F1 G1 H1 s1 w1 r1 q1 => ?_⟩
    refine ⟨δ, F1, G1, _, s0.trans s1, en.mono s1, w1, q1, fun y u F2 G2 H2 s2 w2 r2 q2 => ?_⟩
    refine pairs_le r σ H2 _ δ F2 G2 _ ((s0.trans s1).trans s2) ((en.mono s1).mono s2) w2 q2 fun ps vs F3 G3 H3 s3 w3 r3 q3 => ?_
    exact k _ _ F3 G3 H3 ((s1.trans s2).trans s3) w3 (.cons ⟨r1.mono (s2.trans s3), r2.mono s3⟩ r3) q3
end
def dDisp (trs : List (DE × DE)) : DE := fun δ G Q => ∀ p, G p = none → dPairs trs δ (gu G p (.dct [])) fun ps G2 => G2 p = some (.dct []) ∧ ∃ kvs, keysD ps = some kvs ∧ kvs.length ≤ 15 ∧ Q (.ref p) (gu G2 p (.dct (mergeD [] kvs)))
section
variable {X : Cx} {F₀ : Hp} {pos : Pos}
theorem de_disp {keys : List (Option Expr)} {values : List Expr} {trs : List (DE × DE)} (h : PPs X pos keys values (trs.map fun p => (Le X.K F₀ p.1, Le X.K F₀ p.2))) (hall : keys.all (·.isSome) = true := by rfl) (hl : keys.length = values.length := by rfl) (h0 : keys ≠ [] := by intro z; cases z)
    (h15 : keys.length ≤ 15 := by decide) : PE X (.Dict keys values pos) (Le X.K F₀ (dDisp trs)) :=
  pe_imp (pe_disp h hall hl h0 h15) fun σ H Q ⟨δ, F, G, Q', s, en, w, q, k⟩ p hp => by
    have hf := w.ffree hp
    refine pairs_le trs σ _ _ δ F _ _ s en (w.put (g := .dct []) hf ⟨[], upd_same, .nil⟩) (q p (w.gfree hp)) fun ps vs F1 G1 H1 s1 w1 r1 q1 => ?_
    obtain ⟨hG, kvs, hk, hl, q1⟩ := q1
    obtain ⟨fp, vs0, hH, r0⟩ := w1.mu _ _ hG
    cases r0
    obtain ⟨ks, rfl, rk⟩ := keysD_ok r1 hk
    refine ⟨hH, ks, rfl, by rw [rk.len]; exact hl, ?_⟩
    exact k _ _ F1 _ _ s1 (w1.put (g := .dct (mergeD [] kvs)) fp ⟨_, upd_same, rk.merge .nil⟩) (.ref p) q1
theorem dps_nil : PPs X pos [] [] (([] : List (DE × DE)).map fun p => (Le X.K F₀ p.1, Le X.K F₀ p.2)) := pps_nil
theorem dps_cons {k v : Expr} {ks : List (Option Expr)} {vs : List Expr} {tk tv : DE} {trs : List (DE × DE)} (hk : PE X k (Le X.K F₀ tk)) (hv : PE X v (Le X.K F₀ tv)) (hr : PPs X pos ks vs (trs.map fun p => (Le X.K F₀ p.1, Le X.K F₀ p.2))) :
    PPs X pos (some k :: ks) (v :: vs) (((tk, tv) :: trs).map fun p => (Le X.K F₀ p.1, Le X.K F₀ p.2)) := pps_cons hk hv hr
end
end DL

/-! try / except X: without a name. -/
namespace DL
open PySem PySem.Spec PyProof.Rows L2
/-- the wish of an error that the clause without a name catches (sub: true), or lets go -/
def dOn (sub : Str → Option Bool) (su : DS) (Wout' : DW) (D : DEnds) : DW := fun n fs δ G => match sub n with
  | some true => su D δ G
  | some false => Wout' n fs δ G
  | none => False
def dTryOn (sub : Str → Option Bool) (tb : DW → DS) (su : DS) (Wout' : DW) : DS := fun D δ G => tb (dOn sub su Wout' D) D δ G
theorem dOn_in {sub : Str → Option Bool} {su : DS} {Wout' : DW} {E : DEnds} {n : Str} {fs : List (Str × D)} {δ : Sl} {G : Gp} (h : sub n = some true) (q : su E δ G) : dOn sub su Wout' E n fs δ G := by
  unfold dOn
  rw [h]
  exact q
theorem dOn_out {sub : Str → Option Bool} {su : DS} {Wout' : DW} {E : DEnds} {n : Str} {fs : List (Str × D)} {δ : Sl} {G : Gp} (h : sub n = some false) (q : Wout' n fs δ G) : dOn sub su Wout' E n fs δ G := by
  unfold dOn
  rw [h]
  exact q
section
variable {X : Cx} {F₀ : Hp} {x : Str} {c : Value} {body suite : List Stmt} {b₀ : Stmt} {np pos pos' : Pos} {tb : DW → DS} {su : DS} {sub : Str → Option Bool} {Wout : WX} {Wout' : DW}
theorem ds_try_on (hs : X.stack = X.env :: X.outer) (hf : X.env.frame = some X.env.locals) (hc : Names X x c) (tk : Takes X Wout) (kw : KoW X.K F₀ Wout' Wout)
    (hsub : ∀ m b C, sub m = some b → PySem.W.nsIn X.K mainGlobals m = some (some (.ref C)) → PySem.W.exmOne X.K (.ref C) c = some b)
    (hb : ∀ (W : WX) (W' : DW) (F1 : Hp) (pn : List (Addr × Obj)) (xe : Value → Shared → Prop), Takes (X.tr pn xe) W → PassesOwn (model X.prog X.w) X.A X.env xe → KoW X.K F1 W' W → Same F₀ F1 → PSs (X.tr pn xe) body (Ls X.K F1 (tb W')))
    (hsu : ∀ (a : Addr) (oe : Obj) (F1 : Hp) (pn : List (Addr × Obj)), Same F₀ F1 → PSs (X.suite a ((a, oe) :: pn)) (b₀ :: suite) (Ls X.K F1 su)) :
    PS X (.Try body [.ExceptHandler (some (.Name x np)) none (b₀ :: suite) pos'] [] [] pos) (Ls X.K F₀ (dTryOn sub tb su Wout')) := by
  refine ps_imp (L2.ps_try_only (tb := fun W D σ H => ∃ W' F1, KoW X.K F1 W' W ∧ Same F₀ F1 ∧ Ls X.K F1 (tb W') D σ H)
    (ts := fun a cls d D σ H => ∃ F1, Same F₀ F1 ∧ Ls X.K F1 su D σ H)
    hs hf hc tk (fun W pn xe t po => ⟨fun pins s σ H D I ⟨W', F1, k, sF, l⟩ => (hb W W' F1 pn xe t po k sF).run pins s σ H D I l⟩)
    (fun a oe cls d pn hz hv => ⟨fun pins s σ H D I ⟨F1, sF, l⟩ => (hsu a oe F1 pn sF).run pins s σ H D I l⟩)) fun D σ H ⟨δ, F, G, D', s, en, w, q, k⟩ => ?_
  refine ⟨dOn sub su Wout' D', F, fun m C fs d δ1 σ1 F1 G1 H1 hC s1 en1 w1 er q1 => ?_, s, δ, F, G, D', Same.refl F, en, w, q, k⟩
  unfold dOn at q1
  split at q1
  · rename_i hm
    exact ⟨true, hsub m true C hm hC, fun _ a _ => ⟨F1, s.trans s1, δ1, F1, G1, D', Same.refl F1, en1, w1, q1, k.mono s1⟩, (fun z => nomatch z)⟩
  · rename_i hm
    exact ⟨false, hsub m false C hm hC, (fun z => nomatch z), fun _ => kw m C fs d δ1 σ1 F1 G1 H1 hC (s.trans s1) en1 w1 er q1⟩
  · exact q1.elim
end
end DL

/-! dicts whose keys are tuples (of whole numbers, of such tuples): {}, d[k], d[k] = v, k in d, d.get(k, x), d.setdefault(k, x), len(d). -/
namespace DL
open PySem PySem.Spec PyProof.Rows L2
/-! ### keys -/
mutual
/-- the key that a tree is -/
def keyN : D → Option NestedKey
  | .int i => some (.num i)
  | .non => some .none
  | .tup ds => (keysN ds).map .tup
  | _ => none
def keysN : List D → Option (List NestedKey)
  | [] => some []
  | d :: ds => match keyN d, keysN ds with | some k, some ks => some (k :: ks) | _, _ => none
end
mutual
theorem keyN_eq : ∀ (d : D) (k : NestedKey), keyN d = some k → nkD k = d
  | .int _, _, h => by cases (show some _ = some _ from h); rfl
  | .non, _, h => by cases (show some _ = some _ from h); rfl
  | .tup ds, k, h => by
    simp only [keyN, Option.map_eq_some_iff] at h
    obtain ⟨ks, h1, rfl⟩ := h
    show D.tup (nkDs ks) = _
    rw [keysN_eq ds ks h1]
  | .bl _, _, h => by simp [keyN] at h
  | .str _, _, h => by simp [keyN] at h
  | .ty _, _, h => by simp [keyN] at h
  | .lst _, _, h => by simp [keyN] at h
  | .scr _, _, h => by simp [keyN] at h
  | .dct _, _, h => by simp [keyN] at h
  | .obj _ _, _, h => by simp [keyN] at h
  | .ref _, _, h => by simp [keyN] at h
  | .fn _, _, h => by simp [keyN] at h
  | .ho _, _, h => by simp [keyN] at h
theorem keysN_eq : ∀ (ds : List D) (ks : List NestedKey), keysN ds = some ks → nkDs ks = ds
  | [], _, h => by cases (show some _ = some _ from h); rfl
  | d :: ds, ks, h => by
    simp only [keysN] at h
    split at h
    · rename_i k ks' h1 h2
      cases h
      show nkD k :: nkDs ks' = _
      rw [keyN_eq d k h1, keysN_eq ds ks' h2]
    · cases h
end
mutual
theorem keyN_of : ∀ k : NestedKey, pureK k = true → keyN (nkD k) = some k
  | .none, _ => rfl
  | .num _, _ => rfl
  | .text _, h => by cases h
  | .tup ks, h => by
    show (keysN (nkDs ks)).map NestedKey.tup = _
    rw [keysN_of ks h]
    rfl
theorem keysN_of : ∀ ks : List NestedKey, pureKs ks = true → keysN (nkDs ks) = some ks
  | [], _ => rfl
  | k :: ks, h => by
    unfold pureKs at h
    rw [Bool.and_eq_true] at h
    show (match keyN (nkD k), keysN (nkDs ks) with | some k, some ks => some (k :: ks) | _, _ => none) = _
    rw [keyN_of k h.1, keysN_of ks h.2]
end
mutual
theorem hash_pure (w w' : World) : ∀ k : NestedKey, pureK k = true → k.hash w = k.hash w'
  | .none, _ => rfl
  | .num _, _ => rfl
  | .text _, h => by cases h
  | .tup ks, h => by
    show reduceHash (Builtin.Tuple.tupleHashOf (NestedKey.hashes w ks)) = reduceHash (Builtin.Tuple.tupleHashOf (NestedKey.hashes w' ks))
    rw [hashes_pure w w' ks h]
theorem hashes_pure (w w' : World) : ∀ ks : List NestedKey, pureKs ks = true → NestedKey.hashes w ks = NestedKey.hashes w' ks
  | [], _ => rfl
  | k :: ks, h => by
    unfold pureKs at h
    rw [Bool.and_eq_true] at h
    show NestedKey.hash w k :: NestedKey.hashes w ks = NestedKey.hash w' k :: NestedKey.hashes w' ks
    rw [hash_pure w w' k h.1, hashes_pure w w' ks h.2]
end
theorem keyOk_iff {k : NestedKey} : keyOk k = true ↔ tupK k = true ∧ pureK k = true ∧ k.depth ≤ 8 := by
  unfold keyOk
  rw [Bool.and_eq_true, Bool.and_eq_true, decide_eq_true_iff, and_assoc]
/-! ### what stands for a key -/
def valN {β : Type} (kvs : List (NestedKey × β)) (k : NestedKey) : Option β := (kvs.find? fun p => decide (p.1 = k)).map (·.2)
def putN {β : Type} (kvs : List (NestedKey × β)) (k : NestedKey) (v : β) : List (NestedKey × β) := if (valN kvs k).isSome = true then kvs.map (fun p => if p.1 = k then (p.1, v) else p) else kvs ++ [(k, v)]
theorem valN_cons {β : Type} {p : NestedKey × β} {kvs : List (NestedKey × β)} {k : NestedKey} : valN (p :: kvs) k = if p.1 = k then some p.2 else valN kvs k := by
  unfold valN
  rw [List.find?_cons]
  by_cases h : p.1 = k <;> simp [h]
section
variable {K : PySem.W.Frag} {F : Hp}
abbrev RelN (K : PySem.W.Frag) (F : Hp) : NestedKey × D → NestedKey × Addr × Value → Prop := fun p q => p.1 = q.1 ∧ Rp K F (nkD p.1) (.ref q.2.1) ∧ ∃ v, RelV v q.2.2 ∧ Rp K F p.2 v
theorem atKey_cons {q : NestedKey × Addr × Value} {xs : List (NestedKey × Addr × Value)} {k : NestedKey} : atKey (q :: xs) k = if q.1 = k then some q.2 else atKey xs k := by
  unfold atKey
  rw [List.find?_cons]
  by_cases h : q.1 = k <;> simp [h]
theorem relN_val {k : NestedKey} : ∀ {kvs : List (NestedKey × D)} {xs : List (NestedKey × Addr × Value)}, Paired (RelN K F) kvs xs → (valN kvs k = none ∧ atKey xs k = none) ∨ ∃ d b r v, valN kvs k = some d ∧ atKey xs k = some (b, r) ∧ RelV v r ∧ Rp K F d v
  | _, _, .nil => .inl ⟨rfl, rfl⟩
  | _, _, .cons (a := p) (b := q) h t => by
    rw [valN_cons, atKey_cons]
    obtain ⟨e, _, v, r1, r2⟩ := h
    by_cases hk : p.1 = k
    · rw [if_pos hk, if_pos (e ▸ hk)]
      exact .inr ⟨_, q.2.1, q.2.2, v, rfl, rfl, r1, r2⟩
    · rw [if_neg hk, if_neg (e ▸ hk)]
      exact relN_val t
theorem relN_put {k : NestedKey} {d : D} {b : Addr} {r : Value} {v : V} (hk : Rp K F (nkD k) (.ref b)) (rv : RelV v r) (rd : Rp K F d v) {kvs : List (NestedKey × D)} {xs : List (NestedKey × Addr × Value)} (h : Paired (RelN K F) kvs xs) : Paired (RelN K F) (putN kvs k d) (storedH xs k b r) := by
  have e : (valN kvs k).isSome = (atKey xs k).isSome := by
    rcases relN_val (k := k) h with ⟨e1, e2⟩ | ⟨_, _, _, _, e1, e2, _⟩ <;> rw [e1, e2] <;> rfl
  unfold putN storedH
  rw [e]
  split
  · clear e
    rename_i z
    clear z
    induction h with
    | nil => exact .nil
    | cons h t ih =>
      rw [List.map_cons, List.map_cons]
      refine .cons ?_ ih
      obtain ⟨e, h1, h2⟩ := h
      rename_i p q l1 l2
      unfold putAt
      by_cases z : p.1 = k
      · rw [if_pos z, if_pos (e ▸ z)]
        exact ⟨e, h1, v, rv, rd⟩
      · rw [if_neg z, if_neg (e ▸ z)]
        exact ⟨e, h1, h2⟩
  · clear e
    rename_i z
    clear z
    induction h with
    | nil => exact .cons ⟨rfl, hk, v, rv, rd⟩ .nil
    | cons h t ih =>
      rw [List.cons_append, List.cons_append]
      exact .cons h ih
theorem putN_len {β : Type} {kvs : List (NestedKey × β)} {k : NestedKey} {v : β} : (putN kvs k v).length ≤ kvs.length + 1 := by
  unfold putN
  split <;> simp
theorem putN_keys {β : Type} {kvs : List (NestedKey × β)} {k : NestedKey} {v : β} (h : ∀ p ∈ kvs, keyOk p.1 = true) (hk : keyOk k = true) : ∀ p ∈ putN kvs k v, keyOk p.1 = true := by
  intro p hp
  unfold putN at hp
  split at hp
  · obtain ⟨q, hq, rfl⟩ := List.mem_map.mp hp
    have := h q hq
    split
    · exact this
    · exact this
  · rcases List.mem_append.mp hp with hp | hp
    · exact h p hp
    · rw [List.mem_singleton.mp hp]
      exact hk
end
/-! ### in the heap -/
section
variable {X : Cx} {pins : List (Addr × Obj)} {σ : L2.St} {F H : Hp} {G : Gp} {s : Shared}
mutual
theorem nk_is (I : Inv X pins σ H s) (sF : Same F H) : ∀ (k : NestedKey) (v : V) (u : Value), Rp X.K F (nkD k) v → RelV v u → NestedIs s.heap k u
  | .none, _, u, h, r => by
    cases h
    obtain rfl : u = .none := r
    exact .none
  | .num i, _, u, h, r => by
    cases h
    obtain ⟨t, rfl⟩ := r
    exact .int i t
  | .text x, _, u, h, r => by
    cases h
    obtain ⟨t, rfl⟩ := r
    exact .text x t
  | .tup ks, _, u, h, r => by
    cases h with
    | tup h1 h2 =>
      obtain rfl : u = .ref _ := r
      obtain ⟨its, rv, ⟨o, e1, e2, n, e3⟩, _⟩ := I.tuple (sqT_mono sF h1)
      exact .tup e1 e2 e3 (by simpa using nks_is I sF ks _ _ h2 rv)
theorem nks_is (I : Inv X pins σ H s) (sF : Same F H) : ∀ (ks : List NestedKey) (vs : List V) (us : List Value), Rps X.K F (nkDs ks) vs → Vals vs us → NestedAll s.heap ks us
  | [], _, us, h, r => by
    cases h
    cases r
    exact .nil
  | k :: ks, _, us, h, r => by
    cases h with
    | cons h1 h2 =>
      cases r with
      | cons r1 r2 => exact .cons (nk_is I sF k _ _ h1 r1) (nks_is I sF ks _ _ h2 r2)
end
theorem nd_at (I : Inv X pins σ H s) (sF : Same F H) {a : Addr} {ob : Obj} {kvs : List (NestedKey × D)} (h : NdOk X.K F H a ob kvs) :
    ∃ xs : List (NestedKey × Addr × Value), s.heap.DictOfH (nestedKind X.prog X.w) a xs ∧ Paired (RelN X.K F) kvs xs ∧ xs.length = kvs.length ∧ Mut (H a) := by
  obtain ⟨es, ep, xs, hH, hx, hd, he, hn, r⟩ := h.ob
  have ho : s.heap.get? a = some ob := (I.hok a _ hH).1
  refine ⟨xs, ⟨ob, es, ep, ho, hx, hd, he X.w, fun x hx => ?_, hn⟩, r, (Paired.length r).symm, by rw [hH]; trivial⟩
  obtain ⟨i, hi, rfl⟩ := List.getElem_of_mem hx
  have hi2 : i < kvs.length := by rw [Paired.length r]; exact hi
  obtain ⟨b, hb, e, hr, _⟩ := paired_get r (List.getElem?_eq_getElem hi2)
  rw [List.getElem?_eq_getElem hi] at hb
  cases hb
  have hk := keyOk_iff.mp (h.ks _ (List.getElem_mem hi2))
  rw [e] at hr hk
  exact ⟨nk_is I sF _ _ _ hr rfl, hk.2.2⟩
/-- a dict as the library left it -/
theorem nd_new {P : Program} {w : World} {K : PySem.W.Frag} {F H : Hp} {h : Heap} {a : Addr} {kvs : List (NestedKey × D)} {xs : List (NestedKey × Addr × Value)} (dd : h.DictOfH (nestedKind P w) a xs) (sm : (a == sysModules) = false) (sz : kvs.length ≤ sizeLine)
    (ks : ∀ p ∈ kvs, keyOk p.1 = true) (r : Paired (RelN K F) kvs xs) : ∃ o, h.get? a = some o ∧ NdOk K F (upd H a (StO a o)) a o kvs := by
  obtain ⟨o, es, ep, ho, hx, hd, he, _, hn⟩ := dd
  refine ⟨o, ho, sm, sz, ks, es, ep, xs, upd_same, hx, hd, fun w' => ?_, hn, r⟩
  rw [he]
  apply List.map_congr_left
  intro x hx
  obtain ⟨i, hi, rfl⟩ := List.getElem_of_mem hx
  have hi2 : i < kvs.length := by rw [Paired.length r]; exact hi
  obtain ⟨b, hb, e, _⟩ := paired_get r (List.getElem?_eq_getElem hi2)
  rw [List.getElem?_eq_getElem hi] at hb
  cases hb
  have hk := keyOk_iff.mp (ks _ (List.getElem_mem hi2))
  rw [e] at hk
  show (⟨(xs[i].1).hash w, .ref xs[i].2.1, xs[i].2.2⟩ : DictEntry) = ⟨(xs[i].1).hash w', .ref xs[i].2.1, xs[i].2.2⟩
  rw [hash_pure w w' _ hk.2.1]
theorem key_at (I : Inv X pins σ H s) (sF : Same F H) {k : NestedKey} {y : V} {u : Value} (hk : keyOk k = true) (r : Rp X.K F (nkD k) y) (ru : RelV y u) : ∃ b, u = .ref b ∧ y = .ref b ∧ (nestedKind X.prog X.w).is s.heap k b := by
  obtain ⟨h1, h2, h3⟩ := keyOk_iff.mp hk
  cases k with
  | tup ks =>
    cases r with
    | tup a1 a2 =>
      obtain rfl : u = .ref _ := ru
      exact ⟨_, rfl, rfl, nk_is I sF _ _ _ (.tup a1 a2) rfl, h3⟩
  | _ => cases h1
variable {A : Around} {E : Value → Shared → Prop}
theorem n_get {a : Addr} {ob : Obj} {kvs : List (NestedKey × D)} {k : NestedKey} {d : D} {y : V} {u : Value} {Q : Value → Shared → Prop} (hu : A.in1.units + 8 < cLine) (I : Inv X pins σ H s) (sF : Same F H) (h : NdOk X.K F H a ob kvs) (hk : keyOk k = true) (r : Rp X.K F (nkD k) y) (ru : RelV y u) (hv : valN kvs k = some d)
    (q : ∀ v u' s', Inv X pins σ H s' → RelV v u' → Rp X.K F d v → Q u' s') : wpAny (model X.prog X.w) A (getItem (.ref a) u) Q E s := by
  obtain ⟨xs, dd, rel, _, _⟩ := nd_at I sF h
  obtain ⟨b, rfl, rfl, hb⟩ := key_at I sF hk r ru
  rcases relN_val (k := k) rel with ⟨e1, _⟩ | ⟨d', b', r', v, e1, e2, rv, rd⟩
  · rw [e1] at hv; cases hv
  · rw [e1] at hv
    cases hv
    exact wpAny_getItem_heap hu hb dd e2 (q v r' _ (I.tok _) rv rd)
theorem n_in {a : Addr} {ob : Obj} {kvs : List (NestedKey × D)} {k : NestedKey} {y : V} {u : Value} {Q : Value → Shared → Prop} (hu : A.in1.units + 8 < cLine) (I : Inv X pins σ H s) (sF : Same F H) (h : NdOk X.K F H a ob kvs) (hk : keyOk k = true) (r : Rp X.K F (nkD k) y) (ru : RelV y u)
    (q : ∀ s', Inv X pins σ H s' → Q (.bool (valN kvs k).isSome) s') : wpAny (model X.prog X.w) A (compareOp .In u (.ref a)) Q E s := by
  obtain ⟨xs, dd, rel, _, _⟩ := nd_at I sF h
  obtain ⟨b, rfl, rfl, hb⟩ := key_at I sF hk r ru
  refine wpAny_in_heap hu hb h.sm dd ?_
  rcases relN_val (k := k) rel with ⟨e1, e2⟩ | ⟨d', b', r', v, e1, e2, rv, rd⟩
  · rw [e1] at q; rw [e2]; exact q _ (I.tok _)
  · rw [e1] at q; rw [e2]; exact q _ (I.tok _)
theorem n_notIn {a : Addr} {ob : Obj} {kvs : List (NestedKey × D)} {k : NestedKey} {y : V} {u : Value} {Q : Value → Shared → Prop} (hu : A.in1.units + 8 < cLine) (I : Inv X pins σ H s) (sF : Same F H) (h : NdOk X.K F H a ob kvs) (hk : keyOk k = true) (r : Rp X.K F (nkD k) y) (ru : RelV y u)
    (q : ∀ s', Inv X pins σ H s' → Q (.bool (!(valN kvs k).isSome)) s') : wpAny (model X.prog X.w) A (compareOp .NotIn u (.ref a)) Q E s := by
  obtain ⟨xs, dd, rel, _, _⟩ := nd_at I sF h
  obtain ⟨b, rfl, rfl, hb⟩ := key_at I sF hk r ru
  refine wpAny_notIn_heap hu hb h.sm dd ?_
  rcases relN_val (k := k) rel with ⟨e1, e2⟩ | ⟨d', b', r', v, e1, e2, rv, rd⟩
  · rw [e1] at q; rw [e2]; exact q _ (I.tok _)
  · rw [e1] at q; rw [e2]; exact q _ (I.tok _)
theorem n_put {a : Addr} {ob : Obj} {kvs : List (NestedKey × D)} {k : NestedKey} {d : D} {y z : V} {u r : Value} {Q : Unit → Shared → Prop} (hu : A.in1.units + 8 < cLine) (I : Inv X pins σ H s) (sF : Same F H) (h : NdOk X.K F H a ob kvs) (hl : kvs.length < sizeLine) (hk : keyOk k = true) (rk : Rp X.K F (nkD k) y) (ru : RelV y u)
    (rz : Rp X.K F d z) (rr : RelV z r) (q : ∀ o s', Inv X pins σ (upd H a (StO a o)) s' → NdOk X.K F (upd H a (StO a o)) a o (putN kvs k d) → Q () s') : wpAny (model X.prog X.w) A (setItem (.ref a) u r) Q E s := by
  obtain ⟨xs, dd, rel, hxl, mu⟩ := nd_at I sF h
  obtain ⟨b, rfl, rfl, hb⟩ := key_at I sF hk rk ru
  refine wpAny_setItem_heap (hsz := by omega) hu hb dd fun h' dd' sb => ?_
  obtain ⟨o, ho, nd⟩ := nd_new (H := H) dd' h.sm (Nat.le_trans putN_len hl) (putN_keys h.ks hk) (relN_put rk rr rz rel)
  exact q o _ (d_write I mu sb ⟨o, ho⟩ (stO_ok ho)) nd
theorem n_get2 {a : Addr} {ob : Obj} {kvs : List (NestedKey × D)} {k : NestedKey} {x : D} {y z : V} {u r : Value} {Q : Value → Shared → Prop} (hu : A.in1.units + 8 < cLine) (I : Inv X pins σ H s) (sF : Same F H) (h : NdOk X.K F H a ob kvs) (hk : keyOk k = true) (rk : Rp X.K F (nkD k) y) (ru : RelV y u)
    (rz : Rp X.K F x z) (rr : RelV z r) (q : ∀ v u' s', Inv X pins σ H s' → RelV v u' → Rp X.K F ((valN kvs k).getD x) v → Q u' s') : wpAny (model X.prog X.w) A (call (.builtin "dict.get") [.ref a, u, r]) Q E s := by
  obtain ⟨xs, dd, rel, _, _⟩ := nd_at I sF h
  obtain ⟨b, rfl, rfl, hb⟩ := key_at I sF hk rk ru
  refine call_meetsIn PySem.F.slot_dict_get dd.typeIs PySem.F.entry_dict_get (PySem.F.args_dict_get_3 _ _ _) (meetsH_dict_get_default (nestedKind X.prog X.w) a b h.sm r) ⟨hu, k, xs, hb, dd, ?_⟩
  rcases relN_val (k := k) rel with ⟨e1, e2⟩ | ⟨d', b', r', v, e1, e2, rv, rd⟩
  · rw [e1] at q; rw [e2]; exact q z r _ (I.tok _) rr rz
  · rw [e1] at q; rw [e2]; exact q v r' _ (I.tok _) rv rd
theorem n_ty (I : Inv X pins σ H s) (sF : Same F H) {a : Addr} {ob : Obj} {kvs : List (NestedKey × D)} (h : NdOk X.K F H a ob kvs) : s.TypeIs (.ref a) "dict" ∧ ∀ b, Value.ref a = .ref b → ∃ ob, s.heap.get? b = some ob ∧ ob.dict = none := by
  obtain ⟨es, ep, xs, hH, hx, _⟩ := h.ob
  have ho : s.heap.get? a = some ob := (I.hok a _ hH).1
  refine ⟨⟨ob, ho, hx.1⟩, fun b e => ?_⟩
  cases e
  exact ⟨ob, ho, hx.2.1⟩
end
/-- the dict with tuple keys that stands there -/
def nOf (x : D) (G : Gp) : Option (Addr × Obj × List (NestedKey × D)) := match x with
  | .ref a => match G a with
    | some (.dctN o kvs) => some (a, o, kvs)
    | _ => none
  | _ => none
theorem nOf_ok {K : PySem.W.Frag} {F H : Hp} {G : Gp} {x : D} {v : V} {a : Addr} {o : Obj} {kvs : List (NestedKey × D)} (w : Wd K F G H) (r : Rp K F x v) (h : nOf x G = some (a, o, kvs)) : v = .ref a ∧ x = .ref a ∧ F a = none ∧ NdOk K F H a o kvs ∧ G a = some (.dctN o kvs) := by
  unfold nOf at h
  split at h
  · rename_i a'
    split at h
    · rename_i ks e
      cases h
      cases r
      obtain ⟨h1, h2⟩ := w.mu _ _ e
      exact ⟨rfl, rfl, h1, h2, e⟩
    · cases h
  · cases h
theorem nOf_ref {G : Gp} {a : Addr} {o : Obj} {kvs : List (NestedKey × D)} (h : G a = some (.dctN o kvs)) : nOf (.ref a) G = some (a, o, kvs) := by
  unfold nOf
  simp only
  rw [h]
theorem units9 {k : Nat} {A : Around} (r : Room k A) : A.in1.units + 8 < cLine := by
  have := r.un
  show A.units + 1 + 8 < cLine
  omega
/-! ### readings -/
def dNGet (td ti : DE) : DE := fun δ G Q => td δ G fun x G1 => ti δ G1 fun y G2 => ∃ a o kvs k d, nOf x G2 = some (a, o, kvs) ∧ keyN y = some k ∧ keyOk k = true ∧ valN kvs k = some d ∧ Q d G2
def dNIn (neg : Bool) (ti td : DE) : DE := fun δ G Q => ti δ G fun y G1 => td δ G1 fun x G2 => ∃ a o kvs k, nOf x G2 = some (a, o, kvs) ∧ keyN y = some k ∧ keyOk k = true ∧ Q (.bl (if neg then !(valN kvs k).isSome else (valN kvs k).isSome)) G2
def dNPut (tv td ti : DE) : DS := fun D δ G => tv δ G fun v G1 => td δ G1 fun x G2 => ti δ G2 fun y G3 => ∃ a o kvs k, nOf x G3 = some (a, o, kvs) ∧ keyN y = some k ∧ keyOk k = true ∧ kvs.length < sizeLine ∧ ∀ o', D.nx δ (gu G3 a (.dctN o' (putN kvs k v)))
def dNNew : DE := fun _ G Q => ∀ a o, G a = none → Q (.ref a) (gu G a (.dctN o []))
section
variable {X : Cx} {F₀ : Hp} {o i value : Expr} {pos pos' : Pos} {td ti tv : DE}
theorem le_run {e : Expr} {t : DE} (h : PE X e (Le X.K F₀ t)) {pins : List (Addr × Obj)} {σ : L2.St} {H F : Hp} {G : Gp} {s : Shared} {δ : Sl} {Q' : DK} (I : Inv X pins σ H s) (s0 : Same F₀ F) (en : En X.K F δ σ) (w : Wd X.K F G H) (q : t δ G Q') :
    wpAny (model X.prog X.w) X.A (eval e X.env) (EP X pins σ fun v H1 => ∃ d F1 G1, Same F F1 ∧ Wd X.K F1 G1 H1 ∧ Rp X.K F1 d v ∧ Q' d G1) X.xe s :=
  h.run pins s σ H _ I ⟨δ, F, G, Q', s0, en, w, q, fun d v F1 G1 H1 s1 w1 r1 q1 => ⟨d, F1, G1, s1, w1, r1, q1⟩⟩
theorem de_nget (hu : X.A.in1.units + 8 < cLine) (ho : PE X o (Le X.K F₀ td)) (hi : PE X i (Le X.K F₀ ti)) (hs : NoSl i) : PE X (.Subscript o i pos) (Le X.K F₀ (dNGet td ti)) := by
  refine ⟨fun pins s σ H Q I ⟨δ, F, G, Q', s0, en, w, q, k⟩ => ?_⟩
  refine subD_of PySem.F.slot_dict_getitem.lookup hs (thn (le_run ho I s0 en w q) fun u s1 ⟨v1, H1, I1, r1, x, F1, G1, sa, w1, rx, q1⟩ => thn (le_run hi I1 (s0.trans sa) (en.mono sa) w1 q1) fun iv s2 ⟨v2, H2, I2, r2, y, F2, G2, sb, w2, ry, a, ob, kvs, kk, d, hn, hk, hok, hv, q2⟩ => ?_)
  obtain ⟨rfl, rfl, fa, nd, _⟩ := nOf_ok w2 (rx.mono sb) hn
  obtain rfl : u = .ref a := r1
  rw [← keyN_eq _ _ hk] at ry
  exact ⟨(n_ty I2 w2.fz nd).1, n_get hu I2 w2.fz nd hok ry r2 hv fun v u' s3 I3 rv rd => ⟨v, H2, I3, rv, k d v F2 G2 H2 (sa.trans sb) w2 rd q2⟩⟩
theorem de_nin (hu : X.A.in1.units + 8 < cLine) (hm : behindInMarks .In o = false) (hi : PE X i (Le X.K F₀ ti)) (ho : PE X o (Le X.K F₀ td)) : PE X (.Compare i [.In] [o] pos) (Le X.K F₀ (dNIn false ti td)) := by
  refine pe_cmp ⟨fun pins s σ H Q I ⟨δ, F, G, Q', s0, en, w, q, k⟩ => ?_⟩ hm
  refine thn (le_run hi I s0 en w q) fun iv s1 ⟨v1, H1, I1, r1, y, F1, G1, sa, w1, ry, q1⟩ => thn (le_run ho I1 (s0.trans sa) (en.mono sa) w1 q1) fun u s2 ⟨v2, H2, I2, r2, x, F2, G2, sb, w2, rx, a, ob, kvs, kk, hn, hk, hok, q2⟩ => ?_
  obtain ⟨rfl, rfl, fa, nd, _⟩ := nOf_ok w2 rx hn
  obtain rfl : u = .ref a := r2
  have ry := ry.mono sb
  rw [← keyN_eq _ _ hk] at ry
  exact n_in hu I2 w2.fz nd hok ry r1 fun s3 I3 => ⟨.bl _, H2, I3, rfl, k _ _ F2 G2 H2 (sa.trans sb) w2 (.bl _) q2⟩
theorem de_nnin (hu : X.A.in1.units + 8 < cLine) (hm : behindInMarks .NotIn o = false) (hi : PE X i (Le X.K F₀ ti)) (ho : PE X o (Le X.K F₀ td)) : PE X (.Compare i [.NotIn] [o] pos) (Le X.K F₀ (dNIn true ti td)) := by
  refine pe_cmp ⟨fun pins s σ H Q I ⟨δ, F, G, Q', s0, en, w, q, k⟩ => ?_⟩ hm
  refine thn (le_run hi I s0 en w q) fun iv s1 ⟨v1, H1, I1, r1, y, F1, G1, sa, w1, ry, q1⟩ => thn (le_run ho I1 (s0.trans sa) (en.mono sa) w1 q1) fun u s2 ⟨v2, H2, I2, r2, x, F2, G2, sb, w2, rx, a, ob, kvs, kk, hn, hk, hok, q2⟩ => ?_
  obtain ⟨rfl, rfl, fa, nd, _⟩ := nOf_ok w2 rx hn
  obtain rfl : u = .ref a := r2
  have ry := ry.mono sb
  rw [← keyN_eq _ _ hk] at ry
  exact n_notIn hu I2 w2.fz nd hok ry r1 fun s3 I3 => ⟨.bl _, H2, I3, rfl, k _ _ F2 G2 H2 (sa.trans sb) w2 (.bl _) q2⟩
theorem ds_nput (hu : X.A.in1.units + 8 < cLine) (hv : PE X value (Le X.K F₀ tv)) (ho : PE X o (Le X.K F₀ td)) (hi : PE X i (Le X.K F₀ ti)) (hs : swapsWith value (some (.Subscript o i pos')) pos.line X.env = pure false := by rfl) :
    PS X (.Assign [.Subscript o i pos'] value pos) (Ls X.K F₀ (dNPut tv td ti)) := by
  refine ⟨fun pins s σ H D I ⟨δ, F, G, D', s0, en, w, q, k⟩ => ?_⟩
  refine wpAny_Assign_Subscript (thn (le_run hv I s0 en w q) fun r s1 ⟨v0, H1, I1, r0, v, F1, G1, sa, w1, rv, q1⟩ => thn (le_run ho I1 (s0.trans sa) (en.mono sa) w1 q1) fun u s2 ⟨v2, H2, I2, r2, x, F2, G2, sb, w2, rx, q2⟩ =>
    thn (le_run hi I2 ((s0.trans sa).trans sb) ((en.mono sa).mono sb) w2 q2) fun iv s3 ⟨v3, H3, I3, r3, y, F3, G3, sc, w3, ry, a, ob, kvs, kk, hn, hk, hok, hl, q3⟩ => ?_) hs
  obtain ⟨rfl, rfl, fa, nd, hG⟩ := nOf_ok w3 (rx.mono sc) hn
  obtain rfl : u = .ref a := r2
  rw [← keyN_eq _ _ hk] at ry
  refine n_put hu I3 w3.fz nd hl hok ry r3 (rv.mono (sb.trans sc)) r0 fun ob4 s4 I4 nd4 => ⟨σ, _, I4, k.nx δ σ F3 _ _ ((sa.trans sb).trans sc) (((en.mono sa).mono sb).mono sc) (w3.put (g := .dctN ob4 _) fa nd4) (q3 ob4)⟩
theorem de_nnew : PE X (.Dict [] [] pos) (Le X.K F₀ dNNew) := by
  refine ⟨fun pins s σ H Q I ⟨δ, F, G, Q', s0, en, w, q, k⟩ => wpAny_Dict_empty ?_⟩
  have nH : H s.heap.objs.size = none := I.hok.fresh (Nat.le_refl _)
  obtain ⟨ob, ho, nd⟩ := nd_new (H := H) (K := X.K) (F := F) (Heap.DictOfH.new (knd := nestedKind X.prog X.w) s.heap) (beq_eq_false_iff_ne.mpr (Ne.symm (Nat.ne_of_lt I.big))) (Nat.zero_le _) (fun p hp => absurd hp List.not_mem_nil) (.nil : Paired (RelN X.K F) [] [])
  refine ⟨.ref s.heap.objs.size, _, I.laid (a := s.heap.objs.size) (o := StO s.heap.objs.size ob) (t' := s.toks) (fun _ _ e => Heap.get?_push_of_some _ e) (Nat.le_refl _) (stO_ok ho), rfl, ?_⟩
  exact k _ _ F _ _ (Same.refl F) (w.put (g := .dctN ob []) (w.ffree nH) nd) (.ref _) (q _ ob (w.gfree nH))
end
end DL

/-! sorted of data of any depth: of a list, of a dict with tuple keys; len of such a dict; its keys walked. -/
namespace DL
open PySem PySem.Spec PyProof.Rows L2
open PySem.W (EachIs AllAlike Sortable dataLe dataKind SortsAt)
/-- what Python orders a tree by -/
def encD (d : D) : PyData := (toPy d).getD .none
noncomputable def leD (x y : D) : Bool := dataLe false encD x y
noncomputable def sortD (ds : List D) : List D := ds.mergeSort leD
/-- what can be sorted: data of one form -/
def SortOk (ds : List D) : Prop := (∀ d ∈ ds, ∃ p, toPy d = some p ∧ p.depth ≤ 30) ∧ AllAlike (ds.map encD) ∧ Sortable (ds.map encD) ∧ ds.length ≤ sizeLine
section
variable {K : PySem.W.Frag} {F : Hp}
theorem each_rp : ∀ {ds : List D} {vs : List V} {us : List Value}, Rps K F ds vs → Vals vs us → EachIs (fun u d => ∃ v, RelV v u ∧ Rp K F d v) us ds
  | [], _, _, h, r => by
    cases h
    cases r
    exact .nil
  | d :: ds, _, _, h, r => by
    cases h with
    | cons h1 h2 =>
      cases r with
      | cons r1 r2 => exact .cons ⟨_, r1, h1⟩ (each_rp h2 r2)
theorem rp_each : ∀ {ds : List D} {us : List Value}, EachIs (fun u d => ∃ v, RelV v u ∧ Rp K F d v) us ds → ∃ vs, Rps K F ds vs ∧ Vals vs us
  | _, _, .nil => ⟨[], .nil, .nil⟩
  | _, _, .cons ⟨v, r1, h1⟩ t => let ⟨vs, h2, r2⟩ := rp_each t; ⟨v :: vs, .cons h1 h2, .cons r1 r2⟩
end
section
variable {X : Cx} {pins : List (Addr × Obj)} {σ : L2.St} {F H : Hp} {s : Shared}
theorem each_reads (I : Inv X pins σ H s) (sF : Same F H) : ∀ {ds : List D} {us : List Value}, (∀ d ∈ ds, ∃ p, toPy d = some p ∧ p.depth ≤ 30) → EachIs (fun u d => ∃ v, RelV v u ∧ Rp X.K F d v) us ds → EachIs (fun u d => ∃ as, Reads s.heap u (encD d) as) us ds
  | _, _, _, .nil => .nil
  | d :: _, _, hp, .cons ⟨v, r1, h1⟩ t => by
    obtain ⟨p, e, _⟩ := hp d List.mem_cons_self
    refine .cons ?_ (each_reads I sF (fun x hx => hp x (List.mem_cons_of_mem _ hx)) t)
    unfold encD
    rw [e]
    exact Dp.reads I p v _ (toPy_dp sF d v p h1 e) r1
theorem enc_depth {ds : List D} (h : ∀ d ∈ ds, ∃ p, toPy d = some p ∧ p.depth ≤ 30) : ∀ d ∈ ds, (encD d).depth ≤ 30 := fun d hd => by
  obtain ⟨p, e, h1⟩ := h d hd
  unfold encD
  rw [e]
  exact h1
end
/-- sorted(x), x a list or such a dict -/
def rSortN (K : PySem.W.Frag) : List V → Hp → VK → Prop := fun vs H Q => ∃ (F : Hp) (a : Addr) (ds : List D), vs = [V.ref a] ∧ Same F H ∧ ((∃ xs, SqL K H a xs ∧ Rps K F ds xs) ∨ ∃ ob kvs, NdOk K F H a ob kvs ∧ ds = kvs.map fun p => nkD p.1) ∧ SortOk ds ∧
  ∀ ys p, H p = none → Rps K F (sortD ds) ys → Q (.ref p) (upd H p (.lst ys))
section
variable {X : Cx}
theorem keys_each {K : PySem.W.Frag} {F : Hp} : ∀ {kvs : List (NestedKey × D)} {xs : List (NestedKey × Addr × Value)}, Paired (RelN K F) kvs xs → EachIs (fun u d => ∃ v, RelV v u ∧ Rp K F d v) (xs.map fun x => Value.ref x.2.1) (kvs.map fun p => nkD p.1)
  | _, _, .nil => .nil
  | _, _, .cons ⟨_, h, _⟩ t => .cons ⟨.ref _, rfl, h⟩ (keys_each t)
theorem cr_sortN (hc : X.calm = true) (hu : X.A.units + 60 < cLine) : CallR X (.builtin "sorted") (rSortN X.K) := by
  intro pins s σ H vs us Q I r ⟨F, a, ds, e0, sF, src, ⟨hp, hal, hso, hsz⟩, q⟩
  subst e0
  rw [Vals.ref1 r]
  rcases src with ⟨xs, hs, rp⟩ | ⟨ob, kvs, nd, e1⟩
  · obtain ⟨its, rv, hl, hz⟩ := I.list hs
    have he := each_rp rp rv
    refine PySem.W.sorted_data (R := fun u d => ∃ v, RelV v u ∧ Rp X.K F d v) (enc := encD) hl.isList he (each_reads I sF hp he) hal hso hsz (fun b hb => by have := enc_depth hp b hb; omega) fun out h1 h2 => ?_
    obtain ⟨ep, he'⟩ := PyProof.Rows.sortedAll_at s.heap its out.toArray
    obtain ⟨ys, r1, r2⟩ := rp_each h2
    have hlen : ys.length ≤ sizeLine := by rw [← r1.length, List.length_mergeSort]; exact hsz
    exact ⟨.ref _, upd H (s.heap.objs.size + 1) (.lst ys), I.laid (t' := s.toks) (fun _ _ => PyProof.Rows.sortedAll_old) (Nat.le_succ _) ⟨hlen, out, ep, r2, he'⟩, rfl, q ys _ (I.hok.fresh (Nat.le_succ _)) r1⟩
  · obtain ⟨es, ep, xs, hH, hx, hd, hes, hn, rel⟩ := nd.ob
    have ho : s.heap.get? a = some ob := (I.hok a _ hH).1
    have hel : es.size = xs.length := by rw [← Array.length_toList, hes X.w, List.length_map]
    have hkl : kvs.length = xs.length := Paired.length rel
    have he : ∀ j (hj : j < es.size), es[j].key = Value.ref (xs[j]'(by omega)).2.1 := fun j hj => by
      have e2 : es.toList[j]'(by rw [Array.length_toList]; exact hj) = entN X.w (xs[j]'(by omega)) := by simp [hes X.w]
      rw [Array.getElem_toList] at e2
      rw [e2]
      rfl
    have hk := keys_each rel
    rw [← e1] at hk
    refine Calls.call_function_entry PyProof.Rows.kind_sorted PyProof.Rows.plain_sorted PyProof.Rows.entry_sorted (PyProof.Rows.args_sorted1 _) ?_
    unfold Builtin.«sorted»
    refine wpAny_bind (m := checkCount "sorted" 1 1 _) (wpAny_pure ?_)
    refine wpAny_bind (PySem.W.kdu_collect (A := X.A.in1) (PySem.KdlSrc.rawDict (es := es) (ep := ep) nd.sm) (I.ok.hd hc) (show s.heap.DictRaw a es ep from ⟨ob, ho, hx, hd⟩) (by rw [hel, ← hkl]; exact nd.sz) fun h' tk acc hkp hacc => ?_)
    have hal2 : acc.toList = xs.map fun x => Value.ref x.2.1 := by
      apply List.ext_getElem
      · rw [Array.length_toList, hacc.1, List.length_map, hel]
      · intro j h1 h2
        obtain ⟨hj, e3⟩ := hacc.2 j _ (Array.getElem?_eq_getElem (by simpa using h1))
        rw [Array.getElem_toList, e3, he j hj, List.getElem_map]
    have I1 : Inv X pins σ H { s with heap := h', toks := tk } := I.kept hkp
    refine wpAny_bind (wpAny_newList ?_ (by rw [hal2, List.length_map, ← hkl]; exact nd.sz))
    have hoL : (h'.push (PyProof.Rows.seqObj "list" acc.toList.toArray 0)).get? h'.objs.size = some (PyProof.Rows.seqObj "list" acc.toList.toArray 0) := Heap.get?_push_size _ rfl
    have I2 : Inv X pins σ H { s with heap := h'.push (PyProof.Rows.seqObj "list" acc.toList.toArray 0), toks := tk } := I1.kept fun b o e => Heap.get?_push_of_some _ e
    show wpAny _ _ _ _ _ { s with heap := h'.push (PyProof.Rows.seqObj "list" acc.toList.toArray 0), toks := tk }
    have er := each_reads I2 sF hp hk
    rw [← hal2] at er hk
    have er2 : EachIs (fun v b => ∃ as, Reads (PySem.W.sortingHeap (h'.push (PyProof.Rows.seqObj "list" acc.toList.toArray 0)) h'.objs.size acc.toList) v (encD b) as) acc.toList ds := by
      have nL : ∀ (v : Value) (d : D), (∃ v0, RelV v0 v ∧ Rp X.K F d v0) → ∀ p, toPy d = some p → True := fun _ _ _ _ _ => trivial
      have er1 := each_reads I1 sF hp hk
      refine er1.mono fun v b ⟨as, rd⟩ => ⟨as, PyProof.Rows.Reads.keeps (fun c o e => ?_) rd⟩
      exact PySem.W.sortingHeap_old (Nat.ne_of_lt (Heap.lt_size e)) (Heap.get?_push_of_some _ e)
    refine wpAny_bind (wpAny_holding (wpAny_call_entry PyProof.Rows.slot_list_sort ⟨_, hoL, rfl⟩ PyProof.Rows.entry_list_sort
      (PySem.W.list_sort_vals (s := { s with heap := h'.push (PyProof.Rows.seqObj "list" acc.toList.toArray 0), toks := tk }) hoL (SortsAt.data (PySem.W.each_map (R := fun v d => ∃ as, Reads _ v d as) encD er2) hal hso (fun d hd => ?_)) (by rw [hal2, List.length_map, ← hkl]; exact nd.sz) ⟨_, rfl, ?_⟩) (PyProof.Rows.args_list_sort _)))
    · obtain ⟨b, hb, rfl⟩ := List.mem_map.mp hd
      have := enc_depth hp b hb
      show X.A.in1.in1.units + (encD b).depth < cLine
      have e4 : X.A.in1.in1.units = X.A.units + 2 := rfl
      omega
    · have so := PySem.W.sortVals_data (R := fun u d => ∃ v, RelV v u ∧ Rp X.K F d v) false hk er2 hal
      obtain ⟨ys, r1, r2⟩ := rp_each so
      generalize hout : PySem.W.sortVals (dataKind _ (ds.map encD)) false acc.toList acc.toList = out at so r2 ⊢
      obtain ⟨ep2, he'⟩ := PyProof.Rows.sortedHeap_at (vs := acc.toList) (out := out.toArray) hoL
      have hlen : ys.length ≤ sizeLine := by rw [← r1.length, List.length_mergeSort]; exact hsz
      have nH : H h'.objs.size = none := I1.hok.fresh (Nat.le_refl _)
      refine wpAny_pure ⟨_, rfl, .ref _, upd H h'.objs.size (.lst ys), I1.laid (t' := tk) (fun b o e => ?_) (Nat.le_refl _) ⟨hlen, out, ep2, r2, he'⟩, rfl, q ys _ nH r1⟩
      show (PyProof.Rows.sortedHeap (h'.push (PyProof.Rows.seqObj "list" acc.toList.toArray 0)) h'.objs.size acc.toList out.toArray).get? b = some o
      rw [PyProof.Rows.sortedHeap_old (Nat.ne_of_lt (Heap.lt_size e)) (Heap.lt_size (Heap.get?_push_of_some _ e))]
      exact Heap.get?_push_of_some _ e
end
end DL

/-! sorted, len, for over dicts with tuple keys: readings. -/
namespace DL
open PySem PySem.Spec PyProof.Rows L2
/-- what is sorted: a list's items, a dict's keys -/
def srcN (x : D) (G : Gp) : Option (List D) := match rlOf x G with
  | some xs => some xs
  | none => match nOf x G with
    | some (_, _, kvs) => some (kvs.map fun p => nkD p.1)
    | none => none
def dSortN (m : Bool) : List D → Gp → DK → Prop := fun xs G Q => match xs with
  | [x] => match srcN x G with
    | some ds => SortOk ds ∧ nL m (sortD ds) G Q
    | none => False
  | _ => False
def dLenN : List D → Gp → DK → Prop := fun xs G Q => match xs with
  | [x] => match nOf x G with
    | some (_, _, kvs) => Q (.int kvs.length) G
    | none => False
  | _ => False
section
variable {K : PySem.W.Frag} {F₀ : Hp}
theorem cd_sortN (m : Bool) : CallD K F₀ (dSortN m) (rSortN K) := by
  intro F G H xs vs Q' Q s0 w r q k
  unfold dSortN at q
  split at q
  · rename_i x
    obtain ⟨v, rfl, rx⟩ := rps1 r
    split at q
    · rename_i ds e
      unfold srcN at e
      split at e
      · rename_i ys e2
        cases e
        obtain ⟨a, us, rfl, sq, rs⟩ := rlOf_ok w rx e2
        exact ⟨F, a, ds, rfl, w.fz, .inl ⟨us, sq, rs⟩, q.1, fun zs p hp rz => nL_ok w hp rz q.2 k⟩
      · split at e
        · rename_i a o kvs e2
          cases e
          obtain ⟨rfl, rfl, fa, nd, hG⟩ := nOf_ok w rx e2
          exact ⟨F, a, _, rfl, w.fz, .inr ⟨o, kvs, nd, rfl⟩, q.1, fun zs p hp rz => nL_ok w hp rz q.2 k⟩
        · cases e
    · exact q.elim
  · exact q.elim
def rLenN (K : PySem.W.Frag) : List V → Hp → VK → Prop := fun xs H Q => ∃ (F : Hp) (a : Addr) (ob : Obj) (kvs : List (NestedKey × D)), xs = [.ref a] ∧ Same F H ∧ NdOk K F H a ob kvs ∧ Q (.int ((kvs.length : Nat) : Int)) H
theorem call_lenN {X : Cx} : CallR X (.builtin "len") (rLenN X.K) := by
  intro pins s σ H xs us Q I r ⟨F, a, ob, kvs, e, sF, nd, q⟩
  subst e
  rw [Vals.ref1 r]
  obtain ⟨ys, dd, rel, hl, _⟩ := nd_at I sF nd
  refine call_len_dictH nd.sm dd (by have := nd.sz; rw [hl]; rw [sizeLine_eq] at this; omega) ?_
  rw [hl]
  exact ⟨.int ((kvs.length : Nat) : Int), H, I.tok _, ⟨_, rfl⟩, q⟩
theorem cd_lenN : CallD K F₀ dLenN (rLenN K) := by
  intro F G H xs vs Q' Q s0 w r q k
  unfold dLenN at q
  split at q
  · rename_i x
    obtain ⟨v, rfl, rx⟩ := rps1 r
    split at q
    · rename_i a o kvs e2
      obtain ⟨rfl, rfl, fa, nd, hG⟩ := nOf_ok w rx e2
      exact ⟨F, a, o, kvs, rfl, w.fz, nd, k _ _ F G H (Same.refl F) w (.int _) q⟩
    · exact q.elim
  · exact q.elim
end
/-! ### its keys, one by one -/
def Itn (K : PySem.W.Frag) (F : Hp) (a : Addr) (o : Obj) (kvs : List (NestedKey × D)) : It :=
  ⟨fun i H => H a = some (StO a o) ∧ i < kvs.length, fun i H x H' => H' = H ∧ ∃ p, kvs[i]? = some p ∧ Rp K F (nkD p.1) x, fun i H => H a = some (StO a o) ∧ kvs.length ≤ i⟩
theorem walk_n {K : PySem.W.Frag} {F : Hp} {a : Addr} {o : Obj} {kvs : List (NestedKey × D)} : Walk (Itn K F a o kvs) kvs.length (fun H => H a = some (StO a o)) (fun i H x H' => H' = H ∧ ∃ p, kvs[i]? = some p ∧ Rp K F (nkD p.1) x) :=
  ⟨fun _ _ hi h => ⟨h, hi⟩, fun _ h => ⟨h, Nat.le_refl _⟩, fun _ _ _ _ _ _ h => h⟩
theorem turn_n {P : Program} {w : World} {K : PySem.W.Frag} {tg : Expr} {F : Hp} {a : Addr} {o : Obj} {kvs : List (NestedKey × D)} {es : Array DictEntry} {ep : Nat} {xs : List (NestedKey × Addr × Value)} (it : Addr) (hod : o.data = .dict es ep) (hes : ∀ w, es.toList = xs.map (entN w)) (rel : Paired (RelN K F) kvs xs) :
    Turn P w K tg (Itn K F a o kvs) [it] it (fun i h => h.IsKeyIter it a i kvs.length ep) where
  mem := List.mem_singleton.mpr rfl
  obj := fun i h st b hb => by
    rw [List.mem_singleton.mp hb]
    obtain ⟨oi, e, c, dd⟩ := st
    exact ⟨oi, e, fun v z => by rw [dd] at z; cases z⟩
  keep := fun i h h' st kp => st.at fun oi e => kp it (List.mem_singleton.mpr rfl) oi e
  item := by
    intro X hP hw hK hc i pins s σ H E I hf st hg
    subst hP hw hK
    obtain ⟨hH, hi⟩ := hg
    have hgd : s.heap.get? a = some o := (I.hok a _ hH).1
    obtain ⟨f0, f1, f2, f3, f4, f5⟩ := hf it (List.mem_singleton.mpr rfl)
    have hkl : kvs.length = xs.length := Paired.length rel
    have hsz : es.size = kvs.length := by rw [← Array.length_toList, hes X.w, List.length_map, hkl]
    obtain ⟨b, hb, _, rk, _⟩ := paired_get rel (List.getElem?_eq_getElem hi)
    have hen : es[i]? = some (entN X.w b) := by rw [← Array.getElem?_toList, hes X.w, List.getElem?_map, hb]; rfl
    refine next_key_item st hgd hod hsz hen fun h' st' sb => ?_
    have I1 : Inv X pins σ H { s with heap := h' } := I.turned (t' := s.toks) (fun c ob hc e => (sb.2 c hc).trans e) f0 f1 f3 f4 f5
    obtain ⟨oi, e, c, dd⟩ := id st'
    exact ⟨_, rfl, go_of (s := { s with heap := h' }) e c dd (by decide) ⟨.ref b.2.1, H, I1, rfl, ⟨rfl, _, List.getElem?_eq_getElem hi, rk⟩, st', fun c hc => (hf c hc).1⟩⟩
  done := by
    intro X hP hw hK hc i pins s σ H E I hf st hg
    subst hP hw hK
    obtain ⟨hH, hi⟩ := hg
    have hgd : s.heap.get? a = some o := (I.hok a _ hH).1
    obtain ⟨f0, f1, f2, f3, f4, f5⟩ := hf it (List.mem_singleton.mpr rfl)
    have hsz : es.size = kvs.length := by rw [← Array.length_toList, hes X.w, List.length_map, Paired.length rel]
    exact next_key_end (I.ok.hd hc) st hgd hod hsz hi fun h' eb => ⟨rfl, I.turned (t' := s.toks) (fun c ob hc e => eb c ob hc e) f0 f1 f3 f4 f5⟩
  self := fun A i s Q E st h => by
    refine wpAny_pyIter_slot st.typeIs PySem.F.slot_dict_keyiterator_iter (wpAny_call_entry PySem.F.slot_dict_keyiterator_iter st.typeIs PySem.F.entry_dict_keyiterator_iter ?_ (PySem.F.args_dict_keyiterator_iter_1 _))
    show wpAny _ _ (PySem.ret (.ref it)) _ _ s
    exact wpAny_pure ⟨_, rfl, "dict_keyiterator", _, st.typeIs, PySem.F.slot_dict_keyiterator_next.lookup, h⟩
def dKeysN (t : DE) : DI := fun δ G Q => t δ G fun x G1 => match nOf x G1 with
  | some (_, _, kvs) => Q (kvs.map fun p => nkD p.1) (Stays x G1) G1
  | none => False
section
variable {X : Cx} {F₀ : Hp} {tg e : Expr} {ta : DE}
theorem di_keysN (he : PE X e (Le X.K F₀ ta)) : PI X tg e (Li X.K F₀ (dKeysN ta)) := by
  refine ⟨fun pins s σ H R I ⟨δ, F, G, Q', s0, en, w, q, k⟩ => ?_⟩
  refine thn (le_run he I s0 en w q) fun u s1 ⟨v1, H1, I1, r1, x, F1, G1, sa, w1, rx, q1⟩ => ?_
  split at q1
  · rename_i a o kvs hn
    obtain ⟨rfl, rfl, fa, nd, hG⟩ := nOf_ok w1 rx hn
    obtain rfl : u = .ref a := r1
    obtain ⟨es, ep, xs, hH, hx, hd, hes, hnd, rel⟩ := nd.ob
    have hgd : s1.heap.get? a = some o := (I1.hok a _ hH).1
    have hsz : es.size = kvs.length := by rw [← Array.length_toList, hes X.w, List.length_map, Paired.length rel]
    refine iter_keys nd.sm hgd hx hd (pi_one (tk := s1.toks) I1 _ (turn_n (K := X.K) (F := F1) _ hd hes rel) ⟨_, Heap.get?_push_size _ rfl, rfl, by rw [hsz]; rfl⟩ ?_)
    refine k _ _ _ F1 G1 H1 sa w1 ⟨_, _, by rw [List.length_map]; exact walk_n, fun F2 G2 H2 s2 w2 st => ?_, fun i d F2 G2 H2 z H3 s2 w2 st e2 y => ?_⟩ q1
    · have hG2 : G2 a = some (.dctN o kvs) := (show G2 a = G1 a from st).trans hG
      obtain ⟨_, nd2⟩ := w2.mu a _ hG2
      obtain ⟨_, _, _, hH2, _⟩ := nd2.ob
      exact hH2
    · obtain ⟨rfl, p, e3, rp⟩ := y
      rw [List.getElem?_map, e3] at e2
      cases e2
      exact ⟨F2, Same.refl F2, w2, rp.mono s2⟩
  · exact q1.elim
end
end DL

/-! {k: v for .. in .. if ..}, the keys tuples. -/
namespace DL
open PySem PySem.Spec PyProof.Rows L2
theorem n_dictSet {X : Cx} {pins : List (Addr × Obj)} {σ : L2.St} {F H : Hp} {s : Shared} {E : Value → Shared → Prop} {a : Addr} {ob : Obj} {kvs : List (NestedKey × D)} {k : NestedKey} {d : D} {y z : V} {u r : Value} {Q : Unit → Shared → Prop} (hu : X.A.units + 8 < cLine) (I : Inv X pins σ H s) (sF : Same F H) (h : NdOk X.K F H a ob kvs) (hl : kvs.length < sizeLine) (hk : keyOk k = true) (rk : Rp X.K F (nkD k) y) (ru : RelV y u)
    (rz : Rp X.K F d z) (rr : RelV z r) (q : ∀ o s', Inv X pins σ (upd H a (StO a o)) s' → NdOk X.K F (upd H a (StO a o)) a o (putN kvs k d) → Q () s') : wpAny (model X.prog X.w) X.A (dictSet a u r) Q E s := by
  obtain ⟨xs, dd, rel, hxl, mu⟩ := nd_at I sF h
  obtain ⟨b, rfl, rfl, hb⟩ := key_at I sF hk rk ru
  refine wpAny_dictSet_heap (hsz := by omega) hu hb dd fun h' dd' sb => ?_
  obtain ⟨o, ho, nd⟩ := nd_new (H := H) dd' h.sm (Nat.le_trans putN_len hl) (putN_keys h.ks hk) (relN_put rk rr rz rel)
  exact q o _ (d_write I mu sb ⟨o, ho⟩ (stO_ok ho)) nd
/-- a new pair is put in -/
def StoreN (K : PySem.W.Frag) (p : Addr) (y z : V) (H : Hp) (N : Hp → Prop) : Prop := ∃ (F : Hp) (ob : Obj) (kvs : List (NestedKey × D)) (k : NestedKey) (d : D), Same F H ∧ NdOk K F H p ob kvs ∧ kvs.length < sizeLine ∧ keyOk k = true ∧ Rp K F (nkD k) y ∧ Rp K F d z ∧
  ∀ o, NdOk K F (upd H p (StO p o)) p o (putN kvs k d) → N (upd H p (StO p o))
def tDcN (K : PySem.W.Frag) (wi : TI) (g : TG) (tt : TT) (tk tv : TE) (vs : List Nat) : TE := fun σ H Q => wi σ H fun J H1 => ∀ p o, H1 p = none → (∀ F, NdOk K F (upd H1 p (StO p o)) p o []) → ∃ W : Nat → Nat → Hp → Prop, (∃ m, W 0 m (upd H1 p (StO p o))) ∧ ∀ i m H, W i m H →
  (J.stop i H ∧ Q (.ref p) H) ∨ (J.go i H ∧ ∃ N : Hp → Prop, (∀ H', N H' → ∃ m', m' < m ∧ W (i + 1) m' H') ∧ ∀ x H', J.yld i H x H' → g x (wipe σ vs) H' fun σ2 H2 => wipe σ2 vs = wipe σ vs ∧ tt σ2 H2 fun b H3 =>
    if b = true then tk σ2 H3 fun y H4 => tv σ2 H4 fun z H5 => StoreN K p y z H5 N else N H3)
section
variable {X : Cx}
theorem dcN_core {kx vx tg iter : Expr} {ifs : List Expr} {scope : Scope} {own : List (Str × Nat)} {pos : Pos} {wi : TI} {g : TG} {tt : TT} {tk tv : TE} (hu : X.A.units + 8 < cLine) (hc : X.calm = true) (hN : X.N.Nodup) (hi : PI X tg iter wi) (ok : BlkOk X.N X.env.scope scope own)
    (hg : ∀ (sh : Shared) (Hb : Hp) (C : Addr) (cl : List (Str × Addr)) (fp : List Addr), PG (X.blk sh Hb scope (compEnvC scope cl C X.env) fp) tg g)
    (ht : ∀ (sh : Shared) (Hb : Hp) (C : Addr) (cl : List (Str × Addr)) (fp : List Addr), PTs (X.blk sh Hb scope (compEnvC scope cl C X.env) fp) ifs tt)
    (hk : ∀ (sh : Shared) (Hb : Hp) (C : Addr) (cl : List (Str × Addr)) (fp : List Addr), PE (X.blk sh Hb scope (compEnvC scope cl C X.env) fp) kx tk)
    (he : ∀ (sh : Shared) (Hb : Hp) (C : Addr) (cl : List (Str × Addr)) (fp : List Addr), PE (X.blk sh Hb scope (compEnvC scope cl C X.env) fp) vx tv)
    (hs : ∀ x, foldedSetIterable iter X.env x = pure x := by intro _; rfl) : PE X (.DictComp kx vx [⟨tg, iter, ifs, 0⟩] scope pos) (tDcN X.K wi g tt tk tv (own.map (·.2))) := by
  refine ⟨fun pins s σ H Q I h => ?_⟩
  rw [arm_eval_DictComp]
  have bound : ∀ y ∈ scope.names, y.2 = .free → ∃ c, X.env.cells.lookup y.1 = some c := fun y hy e => (ok.free y hy e).elim (fun z => I.ok.has _ (.inl z)) fun z => I.ok.has _ (.inr z)
  refine wpAny_comprehension_free (use := none) rfl hs (closure_ok bound) ok.kind (fun y hy e => by rw [ok.uniq y hy, e]) (thn (hi.run pins s σ H _ I h) fun xv sa hxa => thn hxa fun itv sb hsb => ?_)
  obtain ⟨it, fp, tn, J, Hb, eit, Ib, Tn, stb, fpb, qb⟩ := hsb
  subst eit
  refine wpAny_newObj_type (newEnv_comp ?_)
  generalize hp : sb.heap.objs.size = p
  have pNew : Hb p = none := Ib.hok.fresh (Nat.le_of_eq hp)
  obtain ⟨ob, hob, _⟩ := nd_new (H := Hb) (K := X.K) (F := Hb) (Heap.DictOfH.new (knd := nestedKind X.prog X.w) sb.heap) (beq_eq_false_iff_ne.mpr (Ne.symm (Nat.ne_of_lt Ib.big))) (Nat.zero_le _) (fun p hp => absurd hp List.not_mem_nil) (.nil : Paired (RelN X.K Hb) [] [])
  have ndE : ∀ F, NdOk X.K F (upd Hb p (StO p ob)) p ob [] := fun F => by
    obtain ⟨ob2, hob2, nd2⟩ := nd_new (H := Hb) (K := X.K) (F := F) (Heap.DictOfH.new (knd := nestedKind X.prog X.w) sb.heap) (beq_eq_false_iff_ne.mpr (Ne.symm (Nat.ne_of_lt Ib.big))) (Nat.zero_le _) (fun p hp => absurd hp List.not_mem_nil) (.nil : Paired (RelN X.K F) [] [])
    rw [hob] at hob2
    cases hob2
    rw [← hp]
    exact nd2
  obtain ⟨W, ⟨m0, w0⟩, turn⟩ := qb p ob pNew ndE
  generalize hsc : ({ sb with heap := sb.heap.push { cls := .type "dict", data := .dict #[] } } : Shared) = sc
  generalize hHc : upd Hb p (StO p ob) = Hc at w0
  have hpc : sc.heap = sb.heap.push { cls := .type "dict", data := .dict #[] } := by rw [← hsc]
  have Ic : Inv X pins σ Hc sc := by
    rw [← hsc, ← hHc]
    refine Ib.laid (t' := sb.toks) (fun c o e => Heap.get?_push_of_some _ e) (Nat.le_of_eq hp) ?_
    rw [← hp]
    exact stO_ok hob
  have low : ∀ c ∈ fp, c < sb.heap.objs.size := fun c hcm => let ⟨o, e, _⟩ := Tn.obj _ _ stb c hcm; Heap.lt_size e
  have fpc : ∀ c ∈ fp, FpOk X pins Hc c ∧ c < sc.heap.objs.size := fun c hcm => by
    have lt := low c hcm
    refine ⟨⟨?_, (fpb c hcm).2⟩, by rw [hpc, Heap.size_push]; exact Nat.lt_succ_of_lt lt⟩
    rw [← hHc, upd_ne (by rw [← hp]; exact Nat.ne_of_lt lt)]
    exact (fpb c hcm).1
  have stc : tn 0 sc.heap := Tn.keep _ _ _ stb fun c _ o e => by rw [hpc]; exact Heap.get?_push_of_some _ e
  have Id := block_start Ic ok hN fpc
  have pg := hg sc Hc sc.heap.objs.size (cellsFrom (sc.heap.objs.size + 1) scope.names (cloFrom X.env.cells scope.names [])) fp
  have pt := ht sc Hc sc.heap.objs.size (cellsFrom (sc.heap.objs.size + 1) scope.names (cloFrom X.env.cells scope.names [])) fp
  have pk := hk sc Hc sc.heap.objs.size (cellsFrom (sc.heap.objs.size + 1) scope.names (cloFrom X.env.cells scope.names [])) fp
  have pv := he sc Hc sc.heap.objs.size (cellsFrom (sc.heap.objs.size + 1) scope.names (cloFrom X.env.cells scope.names [])) fp
  have nofp : ∀ c ∈ fp, Hc c = none := fun c hcm => (fpc c hcm).1.1
  show codeAny _ _ (.compStart (.DictComp kx vx [⟨tg, iter, ifs, 0⟩] scope pos) 0 (.ref it) (.ref p) (compEnvC scope (cellsFrom (sc.heap.objs.size + 1) scope.names (cloFrom X.env.cells scope.names [])) sc.heap.objs.size X.env)) (compPost (model X.prog X.w) X.A X.xe none (EP X pins σ Q) (.ref p) sc.heap.objs.size) { sc with heap := pushCells (sc.heap.push { cls := .type "dict", data := .dict #[] }) scope.names }
  generalize hce : compEnvC scope (cellsFrom (sc.heap.objs.size + 1) scope.names (cloFrom X.env.cells scope.names [])) sc.heap.objs.size X.env = ce at Id pg pt pk pv ⊢
  have eL : ce.locals = sc.heap.objs.size := by subst hce; rfl
  generalize hsd : ({ sc with heap := pushCells (sc.heap.push { cls := .type "dict", data := .dict #[] }) scope.names } : Shared) = sd at Id ⊢
  have std : tn 0 sd.heap := Tn.keep _ _ _ stc fun c _ o e => by rw [← hsd]; exact pushCells_keeps _ _ _ _ (Heap.get?_push_of_some _ e)
  have still : ∀ {σ' : L2.St} {H' : Hp} {s' : Shared}, Inv (X.blk sc Hc scope ce fp) [] σ' H' s' → (∀ c ∈ fp, H' c = none) → ∀ c ∈ fp, FpOk (X.blk sc Hc scope ce fp) [] H' c := fun {σ' H' s'} I' no c hcm =>
    ⟨no c hcm, (I'.ok.exf c hcm).1, I'.ok.exfs c hcm, .inl hcm, fun x y e => (I'.ok.exf c hcm).2 x y e, fun q hq => absurd (show q ∈ ([] : List (Addr × Obj)) ++ [] from hq) (by simp)⟩
  have loop : codeAny (model X.prog X.w) X.A (.compLoop (.DictComp kx vx [⟨tg, iter, ifs, 0⟩] scope pos) 0 (.ref it) (.ref p) ce) (compPost (model X.prog X.w) X.A X.xe none (EP X pins σ Q) (.ref p) sc.heap.objs.size) sd := by
    refine compLoop_anyD (fun n s' => ∃ i H', Inv (X.blk sc Hc scope ce fp) [] (wipe σ (own.map (·.2))) H' s' ∧ tn i s'.heap ∧ (∀ c ∈ fp, H' c = none) ∧ W i n H') ?_ m0 ⟨0, Hc, Id, std, nofp, w0⟩
    rintro n se ⟨i, He, Ie, ste, noe, we⟩
    rcases turn i n He we with ⟨stop, qq⟩ | ⟨go, N, hNx, step⟩
    · have td := Tn.done (X.blk sc Hc scope ce fp) rfl rfl rfl hc i [] se _ He (fun _ _ => False) Ie (still Ie noe) ste stop
      refine thnF td fun r sf ⟨er, If⟩ => ?_
      subst er
      have Ig : Inv X pins σ He sf := Ic.call' (ch := fp) If.os If.base If.hok If.bare fun c hcm => ⟨(fpc c hcm).1.2.2.2.1, (fpc c hcm).1.2.1, (fpc c hcm).1.2.2.2.2.1, (fpc c hcm).1.2.2.2.2.2⟩
      have nC : He sc.heap.objs.size = none := eL ▸ (show He ce.locals = none from If.free)
      obtain ⟨m, hn, _⟩ := If.loc
      have hn : sf.heap.Ns sc.heap.objs.size m := eL ▸ (show sf.heap.Ns ce.locals m from hn)
      obtain ⟨f0, f1, f2, f3, f4, f5⟩ := Ic.fpOk (Nat.le_refl _) nC
      exact ⟨m, hn, fun h'' sbu => ⟨.ref p, He, Ig.turned (t' := sf.toks) (fun c o hb e => (sbu.2 c hb).trans e) f0 f1 f3 f4 f5, rfl, qq⟩⟩
    · have ti := Tn.item (X.blk sc Hc scope ce fp) rfl rfl rfl hc i [] se _ He (fun _ _ => False) Ie (still Ie noe) ste go
      refine thnF ti fun r sf ⟨u, er, hf⟩ => ?_
      subst er
      refine thnF hf fun _ sg ⟨x, Hg, Ig, rg, yg, stg, nog⟩ => ?_
      have Ig' := Ig.pinned (still Ig nog) (Tn.obj _ _ stg)
      refine thnF (pg.run _ sg _ Hg x u _ Ig' rg (step x Hg yg)) fun _ sh ⟨σh, Hh, Ih, hw, qh⟩ => ?_
      refine thnF (pt.run _ sh σh Hh _ Ih qh) fun b sj ⟨Hj, Ij, qj⟩ => ?_
      have fin : ∀ {s' : Shared} {H' : Hp}, Inv (X.blk sc Hc scope ce fp) ([] ++ pinsAt fp sg.heap) σh H' s' → N H' → ∃ m, m < n ∧ ∃ i H', Inv (X.blk sc Hc scope ce fp) [] (wipe σ (own.map (·.2))) H' s' ∧ tn i s'.heap ∧ (∀ c ∈ fp, H' c = none) ∧ W i m H' := fun {s' H'} I' nx => by
        obtain ⟨m', hm, w'⟩ := hNx H' nx
        have pin' : ∀ c ∈ fp, ∀ o, sg.heap.get? c = some o → s'.heap.get? c = some o ∧ H' c = none := fun c hcm o e =>
          let z := I'.pin (c, o) (List.mem_append_right _ (List.mem_append_right _ (mem_pinsAt hcm e)))
          ⟨z.1, z.2.1⟩
        have hln : (wipe σ (own.map (·.2))).length = σh.length := by rw [← hw, wipe_length]
        refine ⟨m', hm, i + 1, H', (I'.unpinned (pins := [])).weak hln (fun j v e => ?_), Tn.keep _ _ _ stg fun c hcm o e => (pin' c hcm o e).1, fun c hcm => ?_, w'⟩
        · rw [← hw] at e
          exact (wipe_some e).1
        · obtain ⟨o, e, _⟩ := Tn.obj _ _ stg c hcm
          exact (pin' c hcm o e).2
      cases b with
      | false =>
        simp only [Bool.false_eq_true, if_false] at qj ⊢
        exact fin Ij qj
      | true =>
        simp only [if_true] at qj ⊢
        refine thnF (pk.run _ sj σh Hj _ Ij qj) fun kv sk ⟨yk, Hk, Ik, rk, qk⟩ => ?_
        refine thnF (pv.run _ sk σh Hk _ Ik qk) fun vv sl ⟨yv, Hl, Il, rl, F, ob1, kvs, k, d, sF, nd, hlen, hok, r1, r2, nx⟩ => ?_
        exact n_dictSet (X := X.blk sc Hc scope ce fp) hu Il sF nd hlen hok r1 rk r2 rl fun o sm Im nd2 => fin Im (nx o nd2)
  exact codeAny_compStart_dict loop (Tn.self X.A 0 _ _ _ std loop)
end
end DL

/-! dict comprehensions: readings; d.get(k, x), d.setdefault(k, x). -/
namespace DL
open PySem PySem.Spec PyProof.Rows L2
def dcL (g : DG) (tt : DT) (tk tv : DE) (S : Gp → Prop) (p : Addr) (δ : Sl) : List D → Gp → (Gp → Prop) → Prop
  | [], G, Q => S G ∧ Q G
  | x :: r, G, Q => S G ∧ g x δ G fun δ2 G2 => tt δ2 G2 fun b G3 => if b = true then tk δ2 G3 fun y G4 => tv δ2 G4 fun z G5 => ∃ o kvs k, G5 p = some (.dctN o kvs) ∧ keyN y = some k ∧ keyOk k = true ∧ kvs.length < sizeLine ∧
      ∀ o', dcL g tt tk tv S p δ r (gu G5 p (.dctN o' (putN kvs k z))) Q else dcL g tt tk tv S p δ r G3 Q
def dDcN (ti : DI) (g : DG) (tt : DT) (tk tv : DE) (vs : List Nat) : DE := fun δ G Q => ti δ G fun its S G1 => ∀ p o, G1 p = none → dcL g tt tk tv S p (wipeD δ vs) its (gu G1 p (.dctN o [])) fun G2 => Q (.ref p) G2
theorem dcL_stays {g : DG} {tt : DT} {tk tv : DE} {S : Gp → Prop} {p : Addr} {δ : Sl} {l : List D} {G : Gp} {Q : Gp → Prop} (h : dcL g tt tk tv S p δ l G Q) : S G := by
  cases l with
  | nil => exact h.1
  | cons x r => exact h.1
section
variable {X : Cx} {F₀ : Hp} {tg iter kx vx : Expr} {ti : DI} {g : DG} {tt : DT} {tk tv : DE} {ifs : List Expr} {scope : Scope} {own : List (Str × Nat)} {pos : Pos}
theorem dc_le {σ : L2.St} {H : Hp} {Q : VK} {vs : List Nat} (h : Le X.K F₀ (dDcN ti g tt tk tv vs) σ H Q) : tDcN X.K (Li X.K F₀ ti) (Lg X.K F₀ vs g) (Lt X.K F₀ tt) (Le X.K F₀ tk) (Le X.K F₀ tv) vs σ H Q := by
  obtain ⟨δ, F, G, Q', s, en, w, q, k⟩ := h
  refine ⟨δ, F, G, _, s, en, w, q, fun its S J F1 G1 H1 s1 w1 it q1 => fun p o hp nd => ?_⟩
  obtain ⟨Gc, Y, W, hgc, hy⟩ := it.ok
  have q1 := q1 p o (w1.gfree hp)
  have w1' : Wd X.K F1 (gu G1 p (.dctN o [])) (upd H1 p (StO p o)) := w1.put (g := .dctN o []) (w1.ffree hp) (nd F1)
  refine ⟨fun i m H => m = its.length - i ∧ i ≤ its.length ∧ ∃ F2 G2, Same F1 F2 ∧ Wd X.K F2 G2 H ∧ dcL g tt tk tv S p (wipeD δ vs) (its.drop i) G2 fun G2 => Q' (.ref p) G2, ⟨its.length, by simp, Nat.zero_le _, F1, _, Same.refl F1, w1', by rw [List.drop_zero]; exact q1⟩, ?_⟩
  rintro i m H ⟨rfl, hi, F2, G2, s2, w2, q2⟩
  have hG := hgc F2 G2 H s2 w2 (dcL_stays q2)
  by_cases hlt : i < its.length
  · rw [List.drop_eq_getElem_cons hlt] at q2
    obtain ⟨st, q2⟩ := q2
    refine .inr ⟨W.goes i H hlt hG, fun H' => i + 1 ≤ its.length ∧ ∃ F2 G2, Same F1 F2 ∧ Wd X.K F2 G2 H' ∧ dcL g tt tk tv S p (wipeD δ vs) (its.drop (i + 1)) G2 fun G2 => Q' (.ref p) G2, fun H' n => ⟨_, by omega, rfl, n⟩, fun x H' yl => ?_⟩
    obtain ⟨F3, s3, w3, r3⟩ := hy i its[i] F2 G2 H x H' s2 w2 st (List.getElem?_eq_getElem hlt) (W.yields i H x H' hlt hG yl)
    have s03 := ((s.trans s1).trans s2).trans s3
    refine ⟨_, wipeD δ vs, F3, G2, _, s03, (((en.mono s1).mono s2).mono s3).wipe vs, w3, r3, q2, fun δ4 σ4 F4 G4 H4 s4 en4 w4 e4 q4 => ⟨?_, ?_⟩⟩
    · rw [e4]
      exact wipe_wipe vs fun v hv => hv
    · refine ⟨δ4, F4, G4, _, s03.trans s4, en4, w4, q4, fun b F5 G5 H5 s5 w5 q5 => ?_⟩
      cases b with
      | true =>
        rw [if_pos rfl] at q5 ⊢
        refine ⟨δ4, F5, G5, _, (s03.trans s4).trans s5, en4.mono s5, w5, q5, fun y v F6 G6 H6 s6 w6 r6 q6 => ?_⟩
        refine ⟨δ4, F6, G6, _, ((s03.trans s4).trans s5).trans s6, (en4.mono s5).mono s6, w6, q6, fun z u F7 G7 H7 s7 w7 r7 q7 => ?_⟩
        obtain ⟨ob, kvs, kk, hGp, hk, hok, hl, q7⟩ := q7
        obtain ⟨fp, nd7⟩ := w7.mu p _ hGp
        have r6 := r6.mono s7
        rw [← keyN_eq _ _ hk] at r6
        refine ⟨F7, ob, kvs, kk, z, w7.fz, nd7, hl, hok, r6, r7, fun o' nd8 => ⟨by omega, F7, _, ((((s2.trans s3).trans s4).trans s5).trans s6).trans s7, w7.put (g := .dctN o' _) fp nd8, q7 o'⟩⟩
      | false =>
        rw [if_neg Bool.false_ne_true] at q5 ⊢
        exact ⟨by omega, F5, G5, ((s2.trans s3).trans s4).trans s5, w5, q5⟩
  · have e : i = its.length := by omega
    subst e
    rw [List.drop_length] at q2
    exact .inl ⟨W.stops H hG, k (.ref p) _ F2 G2 H (s1.trans s2) w2 (.ref p) q2.2⟩
theorem de_dcN (hu : X.A.units + 8 < cLine) (hc : X.calm = true) (hN : X.N.Nodup) (hi : PI X tg iter (Li X.K F₀ ti)) (ok : BlkOk X.N X.env.scope scope own)
    (hg : ∀ (sh : Shared) (Hb : Hp) (C : Addr) (cl : List (Str × Addr)) (fp : List Addr), PG (X.blk sh Hb scope (compEnvC scope cl C X.env) fp) tg (Lg X.K F₀ (own.map (·.2)) g))
    (ht : ∀ (sh : Shared) (Hb : Hp) (C : Addr) (cl : List (Str × Addr)) (fp : List Addr), PTs (X.blk sh Hb scope (compEnvC scope cl C X.env) fp) ifs (Lt X.K F₀ tt))
    (hk : ∀ (sh : Shared) (Hb : Hp) (C : Addr) (cl : List (Str × Addr)) (fp : List Addr), PE (X.blk sh Hb scope (compEnvC scope cl C X.env) fp) kx (Le X.K F₀ tk))
    (he : ∀ (sh : Shared) (Hb : Hp) (C : Addr) (cl : List (Str × Addr)) (fp : List Addr), PE (X.blk sh Hb scope (compEnvC scope cl C X.env) fp) vx (Le X.K F₀ tv))
    (hs : ∀ x, foldedSetIterable iter X.env x = pure x := by intro _; rfl) : PE X (.DictComp kx vx [⟨tg, iter, ifs, 0⟩] scope pos) (Le X.K F₀ (dDcN ti g tt tk tv (own.map (·.2)))) :=
  pe_imp (dcN_core hu hc hN hi ok hg ht hk he hs) fun _ _ _ => dc_le
end
/-! ### d.get(k, x), d.setdefault(k, x): keys whole numbers or texts -/
def dGet2 (td ti tx : DE) : DE := fun δ G Q => td δ G fun x G1 => (dctOf x G1).isSome = true ∧ ti δ G1 fun y G2 => tx δ G2 fun z G3 => match dctOf x G3, keyD y with
  | some kvs, some k => Q ((valD kvs k).getD z) G3
  | _, _ => False
def dSetd (td ti tx : DE) : DE := fun δ G Q => td δ G fun x G1 => (dctOf x G1).isSome = true ∧ ti δ G1 fun y G2 => tx δ G2 fun z G3 => match x, keyD y with
  | .ref a, some k => match G3 a with
    | some (.dct kvs) => kvs.length < sizeLine ∧ (match valD kvs k with
      | some d => Q d G3
      | none => Q z (gu G3 a (.dct (putD2 kvs k z))))
    | _ => False
  | _, _ => False
section
variable {X : Cx} {F₀ : Hp} {o e f : Expr} {apos cpos : Pos} {td ti tx : DE}
theorem Rpk.none {K : PySem.W.Frag} {F : Hp} {k : Key} : ∀ {ds : List (Key × D)} {vs : List (Key × V)}, Rpk K F ds vs → valD ds k = none → valV vs k = none
  | [], _, r, _ => by cases r; rfl
  | (j, e) :: ds, _, r, h => by
    cases r with
    | cons a b =>
      unfold valD at h
      rw [List.find?_cons] at h
      by_cases hj : j = k
      · rw [decide_eq_true hj] at h; cases h
      · rw [decide_eq_false hj] at h
        exact (valV_neg hj).trans (Rpk.none b h)
theorem de_get2 (hu : X.A.units + 1 < cLine) (m : M2 X o "get" apos e f cpos) (ho : PE X o (Le X.K F₀ td)) (he : PE X e (Le X.K F₀ ti)) (hf : PE X f (Le X.K F₀ tx)) : PE X (.Call (.Attribute o "get" apos) [e, f] [] cpos) (Le X.K F₀ (dGet2 td ti tx)) :=
  pe_imp (pe_dget2 hu ho he hf m) fun σ H Q ⟨δ, F, G, Q', s, en, w, q, k⟩ => by
    refine ⟨δ, F, G, _, s, en, w, q, fun x v F1 G1 H1 s1 w1 r1 q1 => ?_⟩
    obtain ⟨hx, q1⟩ := q1
    obtain ⟨kvs0, e0⟩ := Option.isSome_iff_exists.mp hx
    obtain ⟨a, vs0, rfl, hH0, _⟩ := dctOf_ok w1 r1 e0
    refine ⟨a, rfl, .inl ⟨_, .inl hH0⟩, δ, F1, G1, _, s.trans s1, en.mono s1, w1, q1, fun y u F2 G2 H2 s2 w2 r2 q2 => ?_⟩
    refine ⟨δ, F2, G2, _, (s.trans s1).trans s2, (en.mono s1).mono s2, w2, q2, fun z u3 F3 G3 H3 s3 w3 r3 q3 => ?_⟩
    split at q3
    · rename_i kvs k' h1 h2
      obtain ⟨a', vs, ea, hH, rk⟩ := dctOf_ok w3 (r1.mono (s2.trans s3)) h1
      cases ea
      have ey := keyD_ok h2 r2
      subst ey
      refine ⟨valV vs k', DGet.k hH, ?_⟩
      cases hv : valD kvs k' with
      | some d =>
        rw [hv] at q3
        obtain ⟨v', e', rv⟩ := rk.val hv
        rw [e']
        exact k _ _ F3 G3 H3 ((s1.trans s2).trans s3) w3 rv q3
      | none =>
        rw [hv] at q3
        rw [rk.none hv]
        exact k _ _ F3 G3 H3 ((s1.trans s2).trans s3) w3 r3 q3
    · exact q3.elim
theorem de_setd (m : M2 X o "setdefault" apos e f cpos) (ho : PE X o (Le X.K F₀ td)) (he : PE X e (Le X.K F₀ ti)) (hf : PE X f (Le X.K F₀ tx)) : PE X (.Call (.Attribute o "setdefault" apos) [e, f] [] cpos) (Le X.K F₀ (dSetd td ti tx)) :=
  pe_imp (pe_dsetd ho he hf m) fun σ H Q ⟨δ, F, G, Q', s, en, w, q, k⟩ => by
    refine ⟨δ, F, G, _, s, en, w, q, fun x v F1 G1 H1 s1 w1 r1 q1 => ?_⟩
    obtain ⟨hx, q1⟩ := q1
    obtain ⟨kvs0, e0⟩ := Option.isSome_iff_exists.mp hx
    obtain ⟨a, vs0, rfl, hH0, _⟩ := dctOf_ok w1 r1 e0
    refine ⟨a, rfl, .inl ⟨_, .inl hH0⟩, δ, F1, G1, _, s.trans s1, en.mono s1, w1, q1, fun y u F2 G2 H2 s2 w2 r2 q2 => ?_⟩
    refine ⟨δ, F2, G2, _, (s.trans s1).trans s2, (en.mono s1).mono s2, w2, q2, fun z u3 F3 G3 H3 s3 w3 r3 q3 => ?_⟩
    split at q3
    · rename_i a' k' h2
      split at q3
      · rename_i kvs hG
        obtain ⟨hl, q3⟩ := q3
        cases r1
        obtain ⟨fa, vs, hH, rk⟩ := w3.mu _ _ hG
        have ey := keyD_ok h2 r2
        subst ey
        refine ⟨vs, k', hH, rfl, by rw [rk.len]; exact hl, fun v' hv => ?_, fun hv => ?_⟩
        · cases hd : valD kvs k' with
          | some d =>
            rw [hd] at q3
            obtain ⟨v2, e', rv⟩ := rk.val hd
            rw [hv] at e'
            cases e'
            exact k _ _ F3 G3 H3 ((s1.trans s2).trans s3) w3 rv q3
          | none => rw [rk.none hd] at hv; cases hv
        · cases hd : valD kvs k' with
          | some d =>
            obtain ⟨v2, e', rv⟩ := rk.val hd
            rw [hv] at e'
            cases e'
          | none =>
            rw [hd] at q3
            exact k _ _ F3 _ _ ((s1.trans s2).trans s3) (w3.put (g := .dct (putD2 kvs k' z)) fa ⟨_, upd_same, rk.put r3⟩) r3 q3
      · exact q3.elim
    · exact q3.elim
end
end DL

/-! xs.remove(k), k a key; d.update(d2). -/
namespace DL
open PySem PySem.Spec PyProof.Rows L2
/-- the items are keys -/
def nkL (xs : List D) : Option (List NestedKey) := keysN xs
theorem nkDs_map (ks : List NestedKey) : nkDs ks = ks.map nkD := by
  induction ks with
  | nil => rfl
  | cons k ks ih => show nkD k :: nkDs ks = _; rw [ih]; rfl
def rRemN (K : PySem.W.Frag) : V → List V → Hp → VK → Prop := fun x vs H Q => ∃ (F : Hp) (l : Addr) (ks : List NestedKey) (k : NestedKey) (xs : List V) (y : V), x = .ref l ∧ vs = [y] ∧ Same F H ∧ H l = some (.lst xs) ∧ Rps K F (nkDs ks) xs ∧ Rp K F (nkD k) y ∧ k.depth ≤ 30 ∧ k ∈ ks ∧
  Q .non (upd H l (.lst (xs.eraseIdx (ks.idxOf k))))
theorem nks_get {h : Heap} : ∀ {ks : List NestedKey} {us : List Value}, NestedAll h ks us → ∀ (j : Nat) (u : Value), us[j]? = some u → ∃ k, ks[j]? = some k ∧ NestedIs h k u
  | _, _, .nil, j, u, e => by simp at e
  | _, _, .cons a b, 0, u, e => by simp at e; subst e; exact ⟨_, rfl, a⟩
  | _, _, .cons a b, j + 1, u, e => by simpa using nks_get b j u (by simpa using e)
section
variable {X : Cx}
open Classical in
theorem mt_removeN (hu : X.A.units + 40 < cLine) : MtM X "list.remove" (rRemN X.K) := by
  intro pins s σ H x vs v us Q I rx rv ⟨F, l, ks, k, xs, y, e1, e2, sF, hH, rks, rk, hd, hm, q⟩
  subst e1 e2
  cases rx
  obtain ⟨u, rfl, ru⟩ := rv.one
  obtain ⟨z, its, n, r, hl, e⟩ := I.lstM hH
  have hk := nk_is I sF k y u rk ru
  have hks := nks_is I sF ks xs its rks r
  have hln : its.length = ks.length := NestedAll.length _ _ hks
  have hj : ks.idxOf k < ks.length := List.idxOf_lt_length_iff.mpr hm
  have hjl : ks.idxOf k < its.toArray.size := by rw [List.size_toArray]; omega
  have at_ : ∀ m (hm : m < its.toArray.size), ∃ km, ks[m]? = some km ∧ NestedIs s.heap km its.toArray[m] := fun m hm => nks_get hks m _ (by simp)
  have eE : ∀ w ∈ its.toArray, PySem.SeqAt.EqAt X.A.in1 s w u (decide (NestedIs s.heap k w)) := fun w hw => by
    obtain ⟨m, hm, rfl⟩ := Array.getElem_of_mem hw
    obtain ⟨km, _, hkm⟩ := at_ m hm
    have h1 := eqAt_key km k X.A.in1 s _ _ hkm hk (by show X.A.units + 1 + _ < _; omega)
    rw [show decide (NestedIs s.heap k its.toArray[m]) = NestedKey.beq km k by
      rw [← NestedKey.decide_eq, decide_eq_decide]
      exact ⟨fun z => NestedIs.inj _ _ _ hkm z, fun z => z ▸ hkm⟩]
    exact h1
  refine call_meets PySem.F.slot_list_remove ⟨_, e, rfl⟩ PySem.F.entry_list_remove (PySem.F.args_list_remove_2 _ _)
    (PySem.SeqAt.list_removeAt l its.toArray n none #[] u (fun w => decide (NestedIs s.heap k w)) (ks.idxOf k) hjl ?_ ?_ (by rw [List.size_toArray]; omega)) ⟨e, eE, ?_⟩
  · obtain ⟨km, e3, hkm⟩ := at_ _ hjl
    rw [List.getElem?_eq_getElem hj, List.getElem_idxOf hj] at e3
    cases e3
    exact decide_eq_true hkm
  · intro m hml hmj
    obtain ⟨km, e3, hkm⟩ := at_ _ hml
    refine decide_eq_false fun z => ?_
    have e4 := NestedIs.inj _ _ _ hkm z
    subst e4
    have hmn : m < ks.length := by omega
    rw [List.getElem?_eq_getElem hmn] at e3
    have hn := List.not_of_lt_findIdx (p := (· == km)) (xs := ks) (i := m) hmj
    rw [Option.some.inj e3] at hn
    simp at hn
  · have rr := r.eraseIdx (ks.idxOf k)
    refine ⟨.non, _, I.lset (its' := its.eraseIdx (ks.idxOf k)) (t' := s.toks) hH e ?_ rr ?_, rfl, q⟩
    · show its.toArray.eraseIdxIfInBounds (ks.idxOf k) = (its.eraseIdx (ks.idxOf k)).toArray
      rw [List.eraseIdxIfInBounds_toArray]
    · have z2 : (xs.eraseIdx (ks.idxOf k)).length ≤ xs.length := by
        rw [List.length_eraseIdx]
        split <;> omega
      omega
end
def dRemN : D → List D → Gp → DK → Prop := fun x ys G Q => match ys with
  | [y] => atL x G fun a xs => ∃ k ks, keyN y = some k ∧ keysN xs = some ks ∧ k.depth ≤ 30 ∧ k ∈ ks ∧ Q .non (gu G a (.lst (xs.eraseIdx (ks.idxOf k))))
  | _ => False
theorem md_removeN {K : PySem.W.Frag} {F₀ : Hp} : MeD K F₀ dRemN (rRemN K) := by
  intro F G H x v xs vs Q' Q s w r rs q k
  unfold dRemN at q
  split at q
  · rename_i y
    obtain ⟨u, rfl, ru⟩ := rps1 rs
    obtain ⟨a, ys, us, rfl, f1, hv, rv, _, kk, ks, h1, h2, h3, h4, q⟩ := atL_ok w r q
    have e1 := keyN_eq _ _ h1
    have e2 := keysN_eq _ _ h2
    refine ⟨F, a, ks, kk, us, u, rfl, rfl, w.fz, hv, by rw [e2]; exact rv, by rw [e1]; exact ru, h3, h4, ?_⟩
    exact k _ _ F _ _ (Same.refl F) (w.put (g := .lst (ys.eraseIdx (ks.idxOf kk))) f1 ⟨_, upd_same, erase_rps _ rv⟩) .non q
  · exact q.elim
/-! ### d.update(d2), d not empty -/
def mergeN {β : Type} (kvs more : List (NestedKey × β)) : List (NestedKey × β) := more.foldl (fun acc p => putN acc p.1 p.2) kvs
section
variable {K : PySem.W.Frag} {F : Hp}
theorem relN_merge : ∀ {more : List (NestedKey × D)} {ys : List (NestedKey × Addr × Value)} {kvs : List (NestedKey × D)} {xs : List (NestedKey × Addr × Value)}, Paired (RelN K F) more ys → Paired (RelN K F) kvs xs → Paired (RelN K F) (mergeN kvs more) (PySem.storedAllH xs ys)
  | _, _, _, _, .nil, h => h
  | (k, d) :: more, (k', b, r) :: ys, kvs, xs, .cons ⟨e, h1, v, h2, h3⟩ t, h => by
    cases (show k = k' from e)
    show Paired (RelN K F) (mergeN (putN kvs k d) more) (PySem.storedAllH (storedH xs k b r) ys)
    exact relN_merge (more := more) (ys := ys) t (relN_put h1 h2 h3 h)
theorem mergeN_len {β : Type} : ∀ {more kvs : List (NestedKey × β)}, (mergeN kvs more).length ≤ kvs.length + more.length
  | [], _ => by unfold mergeN; simp
  | p :: more, kvs => by
    have h1 := mergeN_len (more := more) (kvs := putN kvs p.1 p.2)
    have h2 := putN_len (kvs := kvs) (k := p.1) (v := p.2)
    show (mergeN (putN kvs p.1 p.2) more).length ≤ _
    rw [List.length_cons]
    omega
theorem mergeN_keys {β : Type} : ∀ {more kvs : List (NestedKey × β)}, (∀ p ∈ kvs, keyOk p.1 = true) → (∀ p ∈ more, keyOk p.1 = true) → ∀ p ∈ mergeN kvs more, keyOk p.1 = true
  | [], _, h, _ => h
  | p :: more, kvs, h, h2 => mergeN_keys (more := more) (putN_keys h (h2 p List.mem_cons_self)) fun q hq => h2 q (List.mem_cons_of_mem _ hq)
end
def dNUpd (td tm : DE) : DE := fun δ G Q => td δ G fun x G1 => (nOf x G1).isSome = true ∧ tm δ G1 fun y G2 => ∃ a o kvs b o2 more, nOf x G2 = some (a, o, kvs) ∧ nOf y G2 = some (b, o2, more) ∧ a ≠ b ∧ kvs ≠ [] ∧ kvs.length + more.length ≤ sizeLine ∧ ∀ o', Q .non (gu G2 a (.dctN o' (mergeN kvs more)))
section
variable {X : Cx} {F₀ : Hp} {o e : Expr} {apos cpos : Pos} {td tm : DE}
theorem de_nupd (hu : X.A.in1.units + 8 < cLine) (m : M1 X o "update" apos e cpos) (ho : PE X o (Le X.K F₀ td)) (he : PE X e (Le X.K F₀ tm)) : PE X (.Call (.Attribute o "update" apos) [e] [] cpos) (Le X.K F₀ (dNUpd td tm)) := by
  refine ⟨fun pins s σ H Q I ⟨δ, F, G, Q', s0, en, w, q, k⟩ => ?_⟩
  refine wpAny_Call_method m.base m.few m.line PySem.F.plainAttrs_dict PySem.F.slot_dict_update PySem.F.type_dict_update (thn (le_run ho I s0 en w q) fun u s1 ⟨v1, H1, I1, r1, x, F1, G1, sa, w1, rx, hx, q1⟩ => ?_)
  obtain ⟨⟨a0, o0, kvs0⟩, e0⟩ := Option.isSome_iff_exists.mp hx
  obtain ⟨rfl, rfl, fa0, nd0, _⟩ := nOf_ok w1 rx e0
  obtain rfl : u = .ref a0 := r1
  obtain ⟨t1, t2⟩ := n_ty I1 w1.fz nd0
  refine ⟨t1, t2, ?_⟩
  rw [m.trees]
  refine Calls.callWith_builtin rfl (Calls.evalArgs_plain (Calls.spliced_cons (thn (le_run he I1 (s0.trans sa) (en.mono sa) w1 q1) fun iv s2 ⟨v2, H2, I2, r2, y, F2, G2, sb, w2, ry, a, ob, kvs, b, ob2, more, hn, hn2, hab, hne, hsz, q2⟩ => Calls.spliced_nil ?_)))
  obtain ⟨e3, e4, fa, nd, hG⟩ := nOf_ok w2 (rx.mono sb) hn
  cases e4
  obtain ⟨rfl, rfl, fb, nd2, hG2⟩ := nOf_ok w2 ry hn2
  obtain rfl : iv = .ref b := r2
  obtain ⟨xs, dd, rel, hxl, mu⟩ := nd_at I2 w2.fz nd
  obtain ⟨ys, dd2, rel2, hyl, _⟩ := nd_at I2 w2.fz nd2
  have hxn : xs ≠ [] := fun z => hne (List.length_eq_zero_iff.mp (by rw [← hxl, z]; rfl))
  refine call_update_dictH hu hab nd2.sm dd dd2 (.inl hxn) (by omega) fun h' d1 d2 sbu => ?_
  obtain ⟨on, ho2, nd3⟩ := nd_new (H := H2) d1 nd.sm (Nat.le_trans mergeN_len hsz) (mergeN_keys nd.ks nd2.ks) (relN_merge rel2 rel)
  exact ⟨.non, _, d_write I2 mu sbu ⟨on, ho2⟩ (stO_ok ho2), rfl, k .non _ F2 _ _ (sa.trans sb) (w2.put (g := .dctN on _) fa nd3) .non (q2 on)⟩
end
end DL

/-! {k: v}, k a tuple. -/
namespace DL
open PySem PySem.Spec PyProof.Rows L2
def dDispN (tk tv : DE) : DE := fun δ G Q => ∀ p o, G p = none → tk δ (gu G p (.dctN o [])) fun y G1 => tv δ G1 fun z G2 => ∃ o1 k, G2 p = some (.dctN o1 []) ∧ keyN y = some k ∧ keyOk k = true ∧ ∀ o', Q (.ref p) (gu G2 p (.dctN o' [(k, z)]))
section
variable {X : Cx} {F₀ : Hp} {ke ve : Expr} {pos : Pos} {tk tv : DE}
theorem de_dispN (hu : X.A.units + 8 < cLine) (hk : PE X ke (Le X.K F₀ tk)) (hv : PE X ve (Le X.K F₀ tv)) : PE X (.Dict [some ke] [ve] pos) (Le X.K F₀ (dDispN tk tv)) := by
  refine ⟨fun pins s σ H Q I ⟨δ, F, G, Q', s0, en, w, q, k⟩ => ?_⟩
  have nH : H s.heap.objs.size = none := I.hok.fresh (Nat.le_refl _)
  obtain ⟨ob, ho, nd⟩ := nd_new (H := H) (K := X.K) (F := F) (Heap.DictOfH.new (knd := nestedKind X.prog X.w) s.heap) (beq_eq_false_iff_ne.mpr (Ne.symm (Nat.ne_of_lt I.big))) (Nat.zero_le _) (fun p hp => absurd hp List.not_mem_nil) (.nil : Paired (RelN X.K F) [] [])
  have I1 : Inv X pins σ (upd H s.heap.objs.size (StO s.heap.objs.size ob)) { s with heap := s.heap.push { cls := .type "dict", data := .dict #[] } } := I.laid (t' := s.toks) (fun _ _ e => Heap.get?_push_of_some _ e) (Nat.le_refl _) (stO_ok ho)
  have w1 : Wd X.K F (gu G s.heap.objs.size (.dctN ob [])) (upd H s.heap.objs.size (StO s.heap.objs.size ob)) := w.put (w.ffree nH) nd
  have q1 := q s.heap.objs.size ob (w.gfree nH)
  rw [arm_eval_Dict, zip_pairTrees [some ke] [ve] X.env pos rfl rfl, dictDisplay_pairs (pairTrees [some ke] [ve] X.env pos) (by intro z; cases z) (by show 1 < 17; decide)]
  refine wpAny_bind (wpAny_standAt (wpAny_bind (wpAny_subDictH (knd := nestedKind X.prog X.w) hu (by show 1 ≤ 15; decide) ?_)))
  refine pairTrees_cons_walk (thn (le_run hk I1 s0 en w1 q1) fun kv s1 ⟨v1, H1, I2, r1, y, F1, G1, sa, w2, ry, q2⟩ => thn (le_run hv I2 (s0.trans sa) (en.mono sa) w2 q2) fun vv s2 ⟨v2, H2, I3, r2, z, F2, G2, sb, w3, rz, o1, kk, hG, hkk, hok, q3⟩ => pairTrees_nil_walk ?_)
  obtain ⟨fp, nd3⟩ := w3.mu _ _ hG
  have ry := ry.mono sb
  rw [← keyN_eq _ _ hkk] at ry
  obtain ⟨b, rfl, rfl, hb⟩ := key_at I3 w3.fz hok ry r1
  obtain ⟨xs, dd, rel, _, mu⟩ := nd_at I3 w3.fz nd3
  cases rel
  refine ⟨[(kk, b, vv)], ⟨rfl, rfl, hb, trivial⟩, dd, fun h' tk' d1 sbu => wpAny_pure ?_⟩
  obtain ⟨on, hon, nd4⟩ := nd_new (H := H2) d1 nd3.sm (kvs := [(kk, z)]) (by show 1 ≤ sizeLine; decide) (fun p hp => by rw [List.mem_singleton.mp hp]; exact hok) (relN_merge (kvs := []) (xs := []) (more := [(kk, z)]) (.cons ⟨rfl, ry, v2, r2, rz⟩ .nil) .nil)
  exact ⟨.ref _, _, d_write (t' := tk') I3 mu sbu ⟨on, hon⟩ (stO_ok hon), rfl, k _ _ F2 _ _ (sa.trans sb) (w3.put (g := .dctN on [(kk, z)]) fp nd4) (.ref _) (q3 on)⟩
end
theorem units8 {k : Nat} {A : Around} (r : Room k A) : A.units + 8 < cLine := by
  have := r.un
  omega
theorem units60 {k : Nat} {A : Around} (r : Room k A) : A.units + 60 < cLine := by
  have := r.un
  omega
theorem units40 {k : Nat} {A : Around} (r : Room k A) : A.units + 40 < cLine := by
  have := r.un
  omega
end DL

/-! list(range(a, b)). -/
namespace DL
open PySem PySem.Spec PyProof.Rows L2
section
variable {X : Cx} {F₀ : Hp} {ta tb : DE} {a b : Expr} {p pos p2 pos2 : Pos}
theorem de_listRg2 (m : Bool) (hc : X.calm = true) (hg : Gl X "list") (hm : X.mg "list" = none) (hg2 : Gl X "range") (hm2 : X.mg "range" = none) (ha : PE X a (Le X.K F₀ ta)) (hb : PE X b (Le X.K F₀ tb))
    (na : starEach [a, b] X.env = (false, eval a X.env) :: starEach [b] X.env := by rfl) (nb : starEach [b] X.env = (false, eval b X.env) :: starEach [] X.env := by rfl)
    (nc : starEach [Expr.Call (.Name "range" p2) [a, b] [] pos2] X.env = (false, eval (Expr.Call (.Name "range" p2) [a, b] [] pos2) X.env) :: starEach [] X.env := by rfl) (hp : (backTo pos2 (starEach [b] X.env)).any (·.1) = false := by rfl) :
    PE X (.Call (.Name "list" p) [.Call (.Name "range" p2) [a, b] [] pos2] [] pos) (Le X.K F₀ (dRg2 m ta tb)) := pe_imp (pe_listRg hc hg hm (prg_2 hg2 hm2 ha hb na nb hp) nc) fun σ H Q ⟨δ, F, G, Q', s, en, w, q, k⟩ => by
  refine ⟨δ, F, G, _, s, en, w, q, fun x v F1 G1 H1 s1 w1 r1 q1 => ?_⟩
  refine ⟨δ, F1, G1, _, s.trans s1, en.mono s1, w1, q1, fun y u F2 G2 H2 s2 w2 r2 q2 => ?_⟩
  split at q2
  · cases r1
    cases r2
    exact ⟨_, _, rfl, rfl, q2.1, fun p hp => nL_ok w2 hp (rgD_rp _ _) q2.2 (k.mono (s1.trans s2))⟩
  · exact q2.elim
end
end DL

/-! x is True, x is not True, of flags. -/
namespace DL
open PySem PySem.Spec PyProof.Rows L2
def dIsB (neg : Bool) : D2 := fun x y G Q => match x, y with
  | .bl a, .bl b => Q (.bl (if neg = true then !decide (a = b) else decide (a = b))) G
  | _, _ => False
section
variable {K : PySem.W.Frag} {F₀ : Hp}
theorem od_isB : OpD K F₀ (dIsB false) (fun x y H Q => ∃ a b, x = .bl a ∧ y = .bl b ∧ Q (.bl (decide (a = b))) H) := by
  intro F G H x y v u Q' Q s w rx ry q k
  unfold dIsB at q
  split at q
  · cases rx
    cases ry
    exact ⟨_, _, rfl, rfl, k _ _ F G H (Same.refl F) w (.bl _) q⟩
  · exact q.elim
theorem od_notB : OpD K F₀ (dIsB true) (fun x y H Q => ∃ a b, x = .bl a ∧ y = .bl b ∧ Q (.bl (!decide (a = b))) H) := by
  intro F G H x y v u Q' Q s w rx ry q k
  unfold dIsB at q
  split at q
  · cases rx
    cases ry
    exact ⟨_, _, rfl, rfl, k _ _ F G H (Same.refl F) w (.bl _) q⟩
  · exact q.elim
end
section
variable {X : Cx} {F₀ : Hp} {o i : Expr} {pos : Pos} {td ti : DE}
theorem pc_nin (hu : X.A.in1.units + 8 < cLine) (hi : PE X i (Le X.K F₀ ti)) (ho : PE X o (Le X.K F₀ td)) : PC X .In i o (Le X.K F₀ (dNIn false ti td)) := by
  refine ⟨fun pins s σ H Q I ⟨δ, F, G, Q', s0, en, w, q, k⟩ => ?_⟩
  refine thn (le_run hi I s0 en w q) fun iv s1 ⟨v1, H1, I1, r1, y, F1, G1, sa, w1, ry, q1⟩ => thn (le_run ho I1 (s0.trans sa) (en.mono sa) w1 q1) fun u s2 ⟨v2, H2, I2, r2, x, F2, G2, sb, w2, rx, a, ob, kvs, kk, hn, hk, hok, q2⟩ => ?_
  obtain ⟨rfl, rfl, fa, nd, _⟩ := nOf_ok w2 rx hn
  obtain rfl : u = .ref a := r2
  have ry := ry.mono sb
  rw [← keyN_eq _ _ hk] at ry
  exact n_in hu I2 w2.fz nd hok ry r1 fun s3 I3 => ⟨.bl _, H2, I3, rfl, k _ _ F2 G2 H2 (sa.trans sb) w2 (.bl _) q2⟩
theorem pc_nnin (hu : X.A.in1.units + 8 < cLine) (hi : PE X i (Le X.K F₀ ti)) (ho : PE X o (Le X.K F₀ td)) : PC X .NotIn i o (Le X.K F₀ (dNIn true ti td)) := by
  refine ⟨fun pins s σ H Q I ⟨δ, F, G, Q', s0, en, w, q, k⟩ => ?_⟩
  refine thn (le_run hi I s0 en w q) fun iv s1 ⟨v1, H1, I1, r1, y, F1, G1, sa, w1, ry, q1⟩ => thn (le_run ho I1 (s0.trans sa) (en.mono sa) w1 q1) fun u s2 ⟨v2, H2, I2, r2, x, F2, G2, sb, w2, rx, a, ob, kvs, kk, hn, hk, hok, q2⟩ => ?_
  obtain ⟨rfl, rfl, fa, nd, _⟩ := nOf_ok w2 rx hn
  obtain rfl : u = .ref a := r2
  have ry := ry.mono sb
  rw [← keyN_eq _ _ hk] at ry
  exact n_notIn hu I2 w2.fz nd hok ry r1 fun s3 I3 => ⟨.bl _, H2, I3, rfl, k _ _ F2 G2 H2 (sa.trans sb) w2 (.bl _) q2⟩
theorem dt_nin (hu : X.A.in1.units + 8 < cLine) (hm : behindInMarks .In o = false) (hi : PE X i (Le X.K F₀ ti)) (ho : PE X o (Le X.K F₀ td)) : PT X (.Compare i [.In] [o] pos) (Lt X.K F₀ (dB (dNIn false ti td))) :=
  pt_imp (pt_cmp (pc_nin hu hi ho) hm) fun _ _ _ h => lt_of_le h
theorem dt_nnin (hu : X.A.in1.units + 8 < cLine) (hm : behindInMarks .NotIn o = false) (hi : PE X i (Le X.K F₀ ti)) (ho : PE X o (Le X.K F₀ td)) : PT X (.Compare i [.NotIn] [o] pos) (Lt X.K F₀ (dB (dNIn true ti td))) :=
  pt_imp (pt_cmp (pc_nnin hu hi ho) hm) fun _ _ _ h => lt_of_le h
end
/-- a comprehension in another one that names nothing of what stands around -/
theorem blkOk_any {N : List Str} {sc scope : Scope} {own : List (Str × Nat)} (sc0 : Scope) (h0 : sc0.names = []) (h : blkC N sc0 scope own = true) : BlkOk N sc scope own := by
  refine blkOk_by ?_
  unfold blkC at h ⊢
  rw [Bool.and_eq_true] at h ⊢
  refine ⟨h.1, ?_⟩
  have h4 := h.2
  rw [List.all_eq_true] at h4 ⊢
  intro y hy
  have := h4 y hy
  rw [h0] at this
  cases hk : y.2 <;> rw [hk] at this <;> first | exact this | (simp at this)
end DL

/-! comprehensions inside others. -/
namespace DL
open PySem PySem.Spec PyProof.Rows L2
/-- a comprehension in another one that names some of what stands around -/
theorem blkOk_fr {N : List Str} {sc scope : Scope} {own : List (Str × Nat)} (fr : List Str) (hf : ∀ y ∈ fr, sc.names.lookup y = some .cell ∨ sc.names.lookup y = some .free) (h : blkC N ⟨.function, fr.map fun y => (y, .free), false, false, []⟩ scope own = true) : BlkOk N sc scope own := by
  refine blkOk_by ?_
  unfold blkC at h ⊢
  rw [Bool.and_eq_true] at h ⊢
  refine ⟨h.1, ?_⟩
  have h4 := h.2
  rw [List.all_eq_true] at h4 ⊢
  intro y hy
  have := h4 y hy
  cases hk : y.2 <;> rw [hk] at this <;> first | exact this | skip
  have hl : ∀ l : List Str, y.1 ∉ l → (l.map fun y => (y, NameKind.free)).lookup y.1 = none := fun l => by
    induction l with
    | nil => exact fun _ => rfl
    | cons a l ih =>
      intro hn
      have hne : y.1 ≠ a := fun z => hn (by rw [z]; exact List.mem_cons_self)
      rw [List.map_cons, List.lookup_cons, beq_eq_false_iff_ne.mpr hne]
      exact ih fun z => hn (List.mem_cons_of_mem _ z)
  have hy1 : y.1 ∈ fr := by
    rcases Classical.em (y.1 ∈ fr) with z | z
    · exact z
    · simp only at this
      rw [hl fr z] at this
      cases this
  rcases hf _ hy1 with e | e <;> rw [e]
end DL

/-! dicts by whole numbers: k in d, sorted(d), {k: v for ..}, len(d); what may be read in one of two ways. -/
namespace DL
open PySem PySem.Spec PyProof.Rows L2
open PySem.W (EachIs AllAlike Sortable dataLe dataKind SortsAt)
/-! ### k in d -/
def dDIn (neg : Bool) (ti td : DE) : DE := fun δ G Q => ti δ G fun y G1 => td δ G1 fun x G2 => match dctOf x G2, keyD y with
  | some kvs, some k => Q (.bl (if neg then !(valD kvs k).isSome else (valD kvs k).isSome)) G2
  | _, _ => False
section
variable {X : Cx} {F₀ : Hp} {o i : Expr} {pos : Pos} {td ti : DE}
theorem Rpk.some {K : PySem.W.Frag} {F : Hp} {k : Key} {ds : List (Key × D)} {vs : List (Key × V)} (r : Rpk K F ds vs) : (valV vs k).isSome = (valD ds k).isSome := by
  cases e : valD ds k with
  | none => rw [Rpk.none r e]; rfl
  | some d =>
    obtain ⟨v, e2, _⟩ := r.val e
    rw [e2]
    rfl
theorem pc_dinD (hu : X.A.units + 1 < cLine) (hi : PE X i (Le X.K F₀ ti)) (ho : PE X o (Le X.K F₀ td)) : PC X .In i o (Le X.K F₀ (dDIn false ti td)) :=
  ⟨fun pins s σ H Q I ⟨δ, F, G, Q', s0, en, w, q, k⟩ => (pc_din hu hi ho).run pins s σ H Q I (by
    refine ⟨δ, F, G, _, s0, en, w, q, fun y v F1 G1 H1 s1 w1 r1 q1 => ⟨δ, F1, G1, _, s0.trans s1, en.mono s1, w1, q1, fun x u F2 G2 H2 s2 w2 r2 q2 => ?_⟩⟩
    split at q2
    · rename_i kvs k' h1 h2
      obtain ⟨a, vs, rfl, hH, rk⟩ := dctOf_ok w2 r2 h1
      have ey := keyD_ok h2 r1
      refine ⟨a, valV vs k', rfl, by rw [ey]; exact DGet.k hH, ?_⟩
      rw [rk.some]
      exact k _ _ F2 G2 H2 (s1.trans s2) w2 (.bl _) q2
    · exact q2.elim)⟩
theorem pc_dninD (hu : X.A.units + 1 < cLine) (hi : PE X i (Le X.K F₀ ti)) (ho : PE X o (Le X.K F₀ td)) : PC X .NotIn i o (Le X.K F₀ (dDIn true ti td)) :=
  ⟨fun pins s σ H Q I ⟨δ, F, G, Q', s0, en, w, q, k⟩ => (pc_dnotin hu hi ho).run pins s σ H Q I (by
    refine ⟨δ, F, G, _, s0, en, w, q, fun y v F1 G1 H1 s1 w1 r1 q1 => ⟨δ, F1, G1, _, s0.trans s1, en.mono s1, w1, q1, fun x u F2 G2 H2 s2 w2 r2 q2 => ?_⟩⟩
    split at q2
    · rename_i kvs k' h1 h2
      obtain ⟨a, vs, rfl, hH, rk⟩ := dctOf_ok w2 r2 h1
      have ey := keyD_ok h2 r1
      refine ⟨a, valV vs k', rfl, by rw [ey]; exact DGet.k hH, ?_⟩
      rw [rk.some]
      exact k _ _ F2 G2 H2 (s1.trans s2) w2 (.bl _) q2
    · exact q2.elim)⟩
theorem dt_din (hu : X.A.units + 1 < cLine) (hm : behindInMarks .In o = false) (hi : PE X i (Le X.K F₀ ti)) (ho : PE X o (Le X.K F₀ td)) : PT X (.Compare i [.In] [o] pos) (Lt X.K F₀ (dB (dDIn false ti td))) :=
  pt_imp (pt_cmp (pc_dinD hu hi ho) hm) fun _ _ _ h => lt_of_le h
theorem dt_dnin (hu : X.A.units + 1 < cLine) (hm : behindInMarks .NotIn o = false) (hi : PE X i (Le X.K F₀ ti)) (ho : PE X o (Le X.K F₀ td)) : PT X (.Compare i [.NotIn] [o] pos) (Lt X.K F₀ (dB (dDIn true ti td))) :=
  pt_imp (pt_cmp (pc_dninD hu hi ho) hm) fun _ _ _ h => lt_of_le h
end
/-! ### one way or the other -/
def dEiE (a b : DE) : DE := fun δ G Q => a δ G Q ∨ b δ G Q
def dEiS (a b : DS) : DS := fun D δ G => a D δ G ∨ b D δ G
section
variable {X : Cx} {F₀ : Hp} {e : Expr} {st : Stmt} {a b : DE} {u v : DS}
theorem de_ei (h1 : PE X e (Le X.K F₀ a)) (h2 : PE X e (Le X.K F₀ b)) : PE X e (Le X.K F₀ (dEiE a b)) :=
  ⟨fun pins s σ H Q I ⟨δ, F, G, Q', s0, en, w, q, k⟩ => q.elim (fun q => h1.run pins s σ H Q I ⟨δ, F, G, Q', s0, en, w, q, k⟩) fun q => h2.run pins s σ H Q I ⟨δ, F, G, Q', s0, en, w, q, k⟩⟩
theorem dt_ei (h1 : PT X e (Lt X.K F₀ (dB a))) (h2 : PT X e (Lt X.K F₀ (dB b))) : PT X e (Lt X.K F₀ (dB (dEiE a b))) :=
  ⟨fun pins s σ H Q I ⟨δ, F, G, Q', s0, en, w, q, k⟩ => Or.elim (show dB a δ G Q' ∨ dB b δ G Q' from q) (fun q => h1.run pins s σ H Q I ⟨δ, F, G, Q', s0, en, w, q, k⟩) fun q => h2.run pins s σ H Q I ⟨δ, F, G, Q', s0, en, w, q, k⟩⟩
theorem ds_ei (h1 : PS X st (Ls X.K F₀ u)) (h2 : PS X st (Ls X.K F₀ v)) : PS X st (Ls X.K F₀ (dEiS u v)) :=
  ⟨fun pins s σ H D I ⟨δ, F, G, D', s0, en, w, q, k⟩ => q.elim (fun q => h1.run pins s σ H D I ⟨δ, F, G, D', s0, en, w, q, k⟩) fun q => h2.run pins s σ H D I ⟨δ, F, G, D', s0, en, w, q, k⟩⟩
end
/-! ### sorted(d) -/
def intKs : List (Key × D) → Option (List Int)
  | [] => some []
  | (.inl i, _) :: r => (intKs r).map (i :: ·)
  | _ :: _ => none
def srcA (x : D) (G : Gp) : Option (List D) := match srcN x G with
  | some ds => some ds
  | none => (dctOf x G).bind fun kvs => (intKs kvs).map fun l => l.map D.int
def dSortA (m : Bool) : List D → Gp → DK → Prop := fun xs G Q => match xs with
  | [x] => match srcA x G with
    | some ds => SortOk ds ∧ nL m (sortD ds) G Q
    | none => False
  | _ => False
def rSortA (K : PySem.W.Frag) : List V → Hp → VK → Prop := fun vs H Q => ∃ (F : Hp) (a : Addr) (ds : List D), vs = [V.ref a] ∧ Same F H ∧ ((∃ xs, SqL K H a xs ∧ Rps K F ds xs) ∨ (∃ ob kvs, NdOk K F H a ob kvs ∧ ds = kvs.map fun p => nkD p.1) ∨ ∃ (us : List (Key × V)) (l : List Int), H a = some (.dK us) ∧ us.map (·.1) = l.map Sum.inl ∧ ds = l.map D.int) ∧ SortOk ds ∧
  ∀ ys p, H p = none → Rps K F (sortD ds) ys → Q (.ref p) (upd H p (.lst ys))
theorem intKs_ok {K : PySem.W.Frag} {F : Hp} : ∀ {kvs : List (Key × D)} {l : List Int} {us : List (Key × V)}, intKs kvs = some l → Rpk K F kvs us → us.map (·.1) = l.map Sum.inl
  | [], l, us, h, r => by
    cases h
    cases r
    rfl
  | (.inl i, d) :: kvs, l, us, h, r => by
    obtain ⟨l', h1, rfl⟩ := Option.map_eq_some_iff.mp h
    cases r with
    | cons a b =>
      rw [List.map_cons, List.map_cons, intKs_ok h1 b]
  | (.inr _, _) :: _, _, _, h, _ => by cases h
section
variable {X : Cx}
theorem pairs_keys {prog : Program} {w : World} : ∀ {es : List DictEntry} {us : List (Key × Value)} {l : List Int}, PySem.Pairs (mixKind prog w) es us → us.map (·.1) = l.map Sum.inl → ∀ (K : PySem.W.Frag) (F : Hp), EachIs (fun u d => ∃ v, RelV v u ∧ Rp K F d v) (es.map fun e => e.key) (l.map D.int)
  | _, _, [], .nil, _, _, _ => .nil
  | _, _, _ :: _, .nil, h, _, _ => by cases h
  | _, _, [], .cons _ _ _, h, _, _ => by cases h
  | _, _, i :: l, .cons (e := e) (kv := kv) h1 h2 h3, h, K, F => by
    rw [List.map_cons, List.map_cons] at h
    injection h with ha hb
    refine .cons ⟨.int i, ?_, .int i⟩ (pairs_keys h3 hb K F)
    have h1 : keyIs kv.1 e.key = true := h1
    rw [ha] at h1
    have h1 : Value.isInt i e.key = true := h1
    cases hk : e.key with
    | int j tok =>
      rw [hk] at h1
      have : i = j := (by simpa [Value.isInt] using h1 : j = i).symm
      exact ⟨tok, by rw [this]; exact hk⟩
    | _ => rw [hk] at h1; cases h1
theorem cr_sortA (hc : X.calm = true) (hu : X.A.units + 60 < cLine) : CallR X (.builtin "sorted") (rSortA X.K) := by
  intro pins s σ H vs us Q I r ⟨F, a, ds, e0, sF, src, ⟨hp, hal, hso, hsz⟩, q⟩
  rcases src with src | src | ⟨kvs, l, hH, hks, e1⟩
  · exact cr_sortN hc hu pins s σ H vs us Q I r ⟨F, a, ds, e0, sF, .inl src, ⟨hp, hal, hso, hsz⟩, q⟩
  · exact cr_sortN hc hu pins s σ H vs us Q I r ⟨F, a, ds, e0, sF, .inr src, ⟨hp, hal, hso, hsz⟩, q⟩
  · subst e0
    rw [Vals.ref1 r]
    obtain ⟨sz, hsm, ws, kv, ob, es, ep, ho, hx, hd, hko, hpr, hnn⟩ := dk_of I.hok hH
    have hws : ws.map (·.1) = l.map Sum.inl := by
      rw [← hks]
      clear hH hks hpr sz hnn
      induction kv with
      | nil => rfl
      | cons h t ih => rw [List.map_cons, List.map_cons, ih, h.1]
    have hk := pairs_keys hpr hws X.K F
    rw [← e1] at hk
    have hel : es.size = ds.length := by
      have := hk.length
      rw [List.length_map, Array.length_toList] at this
      exact this
    refine Calls.call_function_entry PyProof.Rows.kind_sorted PyProof.Rows.plain_sorted PyProof.Rows.entry_sorted (PyProof.Rows.args_sorted1 _) ?_
    unfold Builtin.«sorted»
    refine wpAny_bind (m := checkCount "sorted" 1 1 _) (wpAny_pure ?_)
    refine wpAny_bind (PySem.W.kdu_collect (A := X.A.in1) (PySem.KdlSrc.rawDict (es := es) (ep := ep) hsm) (I.ok.hd hc) (show s.heap.DictRaw a es ep from ⟨ob, ho, hx, hd⟩) (by rw [hel]; exact hsz) fun h' tk acc hkp hacc => ?_)
    have hal2 : acc.toList = es.toList.map fun e => e.key := by
      apply List.ext_getElem
      · rw [Array.length_toList, hacc.1, List.length_map, Array.length_toList]
      · intro j h1 h2
        obtain ⟨hj, e3⟩ := hacc.2 j _ (Array.getElem?_eq_getElem (by simpa using h1))
        rw [Array.getElem_toList, e3, List.getElem_map, Array.getElem_toList]
    have hlen0 : acc.toList.length = ds.length := by rw [hal2, List.length_map, Array.length_toList, hel]
    have I1 : Inv X pins σ H { s with heap := h', toks := tk } := I.kept hkp
    refine wpAny_bind (wpAny_newList ?_ (by rw [hlen0]; exact hsz))
    have hoL : (h'.push (PyProof.Rows.seqObj "list" acc.toList.toArray 0)).get? h'.objs.size = some (PyProof.Rows.seqObj "list" acc.toList.toArray 0) := Heap.get?_push_size _ rfl
    have I2 : Inv X pins σ H { s with heap := h'.push (PyProof.Rows.seqObj "list" acc.toList.toArray 0), toks := tk } := I1.kept fun b o e => Heap.get?_push_of_some _ e
    show wpAny _ _ _ _ _ { s with heap := h'.push (PyProof.Rows.seqObj "list" acc.toList.toArray 0), toks := tk }
    have er := each_reads I2 sF hp hk
    rw [← hal2] at er hk
    have er2 : EachIs (fun v b => ∃ as, Reads (PySem.W.sortingHeap (h'.push (PyProof.Rows.seqObj "list" acc.toList.toArray 0)) h'.objs.size acc.toList) v (encD b) as) acc.toList ds := by
      have er1 := each_reads I1 sF hp hk
      refine er1.mono fun v b ⟨as, rd⟩ => ⟨as, PyProof.Rows.Reads.keeps (fun c o e => ?_) rd⟩
      exact PySem.W.sortingHeap_old (Nat.ne_of_lt (Heap.lt_size e)) (Heap.get?_push_of_some _ e)
    refine wpAny_bind (wpAny_holding (wpAny_call_entry PyProof.Rows.slot_list_sort ⟨_, hoL, rfl⟩ PyProof.Rows.entry_list_sort
      (PySem.W.list_sort_vals (s := { s with heap := h'.push (PyProof.Rows.seqObj "list" acc.toList.toArray 0), toks := tk }) hoL (SortsAt.data (PySem.W.each_map (R := fun v d => ∃ as, Reads _ v d as) encD er2) hal hso (fun d hd => ?_)) (by rw [hlen0]; exact hsz) ⟨_, rfl, ?_⟩) (PyProof.Rows.args_list_sort _)))
    · obtain ⟨b, hb, rfl⟩ := List.mem_map.mp hd
      have := enc_depth hp b hb
      show X.A.in1.in1.units + (encD b).depth < cLine
      have e4 : X.A.in1.in1.units = X.A.units + 2 := rfl
      omega
    · have so := PySem.W.sortVals_data (R := fun u d => ∃ v, RelV v u ∧ Rp X.K F d v) false hk er2 hal
      obtain ⟨ys, r1, r2⟩ := rp_each so
      generalize hout : PySem.W.sortVals (dataKind _ (ds.map encD)) false acc.toList acc.toList = out at so r2 ⊢
      obtain ⟨ep2, he'⟩ := PyProof.Rows.sortedHeap_at (vs := acc.toList) (out := out.toArray) hoL
      have hlen : ys.length ≤ sizeLine := by rw [← r1.length, List.length_mergeSort]; exact hsz
      have nH : H h'.objs.size = none := I1.hok.fresh (Nat.le_refl _)
      refine wpAny_pure ⟨_, rfl, .ref _, upd H h'.objs.size (.lst ys), I1.laid (t' := tk) (fun b o e => ?_) (Nat.le_refl _) ⟨hlen, out, ep2, r2, he'⟩, rfl, q ys _ nH r1⟩
      show (PyProof.Rows.sortedHeap (h'.push (PyProof.Rows.seqObj "list" acc.toList.toArray 0)) h'.objs.size acc.toList out.toArray).get? b = some o
      rw [PyProof.Rows.sortedHeap_old (Nat.ne_of_lt (Heap.lt_size e)) (Heap.lt_size (Heap.get?_push_of_some _ e))]
      exact Heap.get?_push_of_some _ e
end
section
variable {K : PySem.W.Frag} {F₀ : Hp}
theorem cd_sortA (m : Bool) : CallD K F₀ (dSortA m) (rSortA K) := by
  intro F G H xs vs Q' Q s0 w r q k
  unfold dSortA at q
  split at q
  · rename_i x
    obtain ⟨v, rfl, rx⟩ := rps1 r
    split at q
    · rename_i ds e
      unfold srcA at e
      split at e
      · rename_i ys e2
        cases e
        have h := cd_sortN (K := K) (F₀ := F₀) m F G H [x] [v] Q' Q s0 w r (show dSortN m [x] G Q' by unfold dSortN; simp only [e2]; exact q) k
        obtain ⟨F', a, ds', e0, sF, src, so, q'⟩ := h
        exact ⟨F', a, ds', e0, sF, src.elim .inl fun z => .inr (.inl z), so, q'⟩
      · obtain ⟨kvs, e2, e3⟩ := Option.bind_eq_some_iff.mp e
        obtain ⟨l, e4, rfl⟩ := Option.map_eq_some_iff.mp e3
        obtain ⟨a, us, rfl, hH, rk⟩ := dctOf_ok w rx e2
        exact ⟨F, a, _, rfl, w.fz, .inr (.inr ⟨us, l, hH, intKs_ok e4 rk, rfl⟩), q.1, fun zs p hp rz => nL_ok w hp rz q.2 k⟩
    · exact q.elim
  · exact q.elim
end
/-! ### len(d) -/
def dLenD : List D → Gp → DK → Prop := fun xs G Q => match xs with
  | [x] => match dctOf x G with
    | some kvs => Q (.int kvs.length) G
    | none => False
  | _ => False
theorem cd_lenD {K : PySem.W.Frag} {F₀ : Hp} : CallD K F₀ dLenD (fun xs H Q => ∃ a kvs, xs = [V.ref a] ∧ H a = some (HO.dK kvs) ∧ Q (V.int (kvs.length : Nat)) H) := by
  intro F G H xs vs Q' Q s0 w r q k
  unfold dLenD at q
  split at q
  · rename_i x
    obtain ⟨v, rfl, rx⟩ := rps1 r
    split at q
    · rename_i kvs e2
      obtain ⟨a, us, rfl, hH, rk⟩ := dctOf_ok w rx e2
      refine ⟨a, us, rfl, hH, ?_⟩
      rw [rk.len]
      exact k _ _ F G H (Same.refl F) w (.int _) q
    · exact q.elim
  · exact q.elim
/-! ### {k: v for x in xs if c} -/
def dcD (g : DG) (tt : DT) (tk tv : DE) (S : Gp → Prop) (p : Addr) (δ : Sl) : List D → Gp → (Gp → Prop) → Prop
  | [], G, Q => S G ∧ Q G
  | x :: r, G, Q => S G ∧ g x δ G fun δ2 G2 => tt δ2 G2 fun b G3 => if b = true then tk δ2 G3 fun y G4 => tv δ2 G4 fun z G5 => ∃ kvs k, G5 p = some (.dct kvs) ∧ keyD y = some k ∧ kvs.length < sizeLine ∧
      dcD g tt tk tv S p δ r (gu G5 p (.dct (putD2 kvs k z))) Q else dcD g tt tk tv S p δ r G3 Q
def dDcK (ti : DI) (g : DG) (tt : DT) (tk tv : DE) (vs : List Nat) : DE := fun δ G Q => ti δ G fun its S G1 => ∀ p, G1 p = none → dcD g tt tk tv S p (wipeD δ vs) its (gu G1 p (.dct [])) fun G2 => Q (.ref p) G2
theorem dcD_stays {g : DG} {tt : DT} {tk tv : DE} {S : Gp → Prop} {p : Addr} {δ : Sl} {l : List D} {G : Gp} {Q : Gp → Prop} (h : dcD g tt tk tv S p δ l G Q) : S G := by
  cases l with
  | nil => exact h.1
  | cons x r => exact h.1
section
variable {X : Cx} {F₀ : Hp} {tg iter kx vx : Expr} {ti : DI} {g : DG} {tt : DT} {tk tv : DE} {ifs : List Expr} {scope : Scope} {own : List (Str × Nat)} {pos : Pos}
theorem dcK_le {σ : L2.St} {H : Hp} {Q : VK} {vs : List Nat} (h : Le X.K F₀ (dDcK ti g tt tk tv vs) σ H Q) : tDc (Li X.K F₀ ti) (Lg X.K F₀ vs g) (Lt X.K F₀ tt) (Le X.K F₀ tk) (Le X.K F₀ tv) vs σ H Q := by
  obtain ⟨δ, F, G, Q', s, en, w, q, k⟩ := h
  refine ⟨δ, F, G, _, s, en, w, q, fun its S J F1 G1 H1 s1 w1 it q1 => fun p hp => ?_⟩
  obtain ⟨Gc, Y, W, hgc, hy⟩ := it.ok
  have q1 := q1 p (w1.gfree hp)
  have w1' : Wd X.K F1 (gu G1 p (.dct [])) (upd H1 p (.dK [])) := w1.put (g := .dct []) (w1.ffree hp) ⟨[], upd_same, .nil⟩
  refine ⟨fun i m H => m = its.length - i ∧ i ≤ its.length ∧ ∃ F2 G2, Same F1 F2 ∧ Wd X.K F2 G2 H ∧ dcD g tt tk tv S p (wipeD δ vs) (its.drop i) G2 fun G2 => Q' (.ref p) G2, ⟨its.length, by simp, Nat.zero_le _, F1, _, Same.refl F1, w1', by rw [List.drop_zero]; exact q1⟩, ?_⟩
  rintro i m H ⟨rfl, hi, F2, G2, s2, w2, q2⟩
  have hG := hgc F2 G2 H s2 w2 (dcD_stays q2)
  by_cases hlt : i < its.length
  · rw [List.drop_eq_getElem_cons hlt] at q2
    obtain ⟨st, q2⟩ := q2
    refine .inr ⟨W.goes i H hlt hG, fun H' => i + 1 ≤ its.length ∧ ∃ F2 G2, Same F1 F2 ∧ Wd X.K F2 G2 H' ∧ dcD g tt tk tv S p (wipeD δ vs) (its.drop (i + 1)) G2 fun G2 => Q' (.ref p) G2, fun H' n => ⟨_, by omega, rfl, n⟩, fun x H' yl => ?_⟩
    obtain ⟨F3, s3, w3, r3⟩ := hy i its[i] F2 G2 H x H' s2 w2 st (List.getElem?_eq_getElem hlt) (W.yields i H x H' hlt hG yl)
    have s03 := ((s.trans s1).trans s2).trans s3
    refine ⟨_, wipeD δ vs, F3, G2, _, s03, (((en.mono s1).mono s2).mono s3).wipe vs, w3, r3, q2, fun δ4 σ4 F4 G4 H4 s4 en4 w4 e4 q4 => ⟨?_, ?_⟩⟩
    · rw [e4]
      exact wipe_wipe vs fun v hv => hv
    · refine ⟨δ4, F4, G4, _, s03.trans s4, en4, w4, q4, fun b F5 G5 H5 s5 w5 q5 => ?_⟩
      cases b with
      | true =>
        rw [if_pos rfl] at q5 ⊢
        refine ⟨δ4, F5, G5, _, (s03.trans s4).trans s5, en4.mono s5, w5, q5, fun y v F6 G6 H6 s6 w6 r6 q6 => ?_⟩
        refine ⟨δ4, F6, G6, _, ((s03.trans s4).trans s5).trans s6, (en4.mono s5).mono s6, w6, q6, fun z u F7 G7 H7 s7 w7 r7 q7 => ?_⟩
        obtain ⟨kvs, kk, hGp, hk, hl, q7⟩ := q7
        obtain ⟨fp, us, hH, rk⟩ := w7.mu p _ hGp
        have ey := keyD_ok hk r6
        exact ⟨us, kk, ey, hH, by rw [rk.len]; exact hl, by omega, F7, _, ((((s2.trans s3).trans s4).trans s5).trans s6).trans s7, w7.put (g := .dct (putD2 kvs kk z)) fp ⟨_, upd_same, rk.put r7⟩, q7⟩
      | false =>
        rw [if_neg Bool.false_ne_true] at q5 ⊢
        exact ⟨by omega, F5, G5, ((s2.trans s3).trans s4).trans s5, w5, q5⟩
  · have e : i = its.length := by omega
    subst e
    rw [List.drop_length] at q2
    exact .inl ⟨W.stops H hG, k (.ref p) _ F2 G2 H (s1.trans s2) w2 (.ref p) q2.2⟩
theorem de_dcK (hc : X.calm = true) (hN : X.N.Nodup) (hi : PI X tg iter (Li X.K F₀ ti)) (ok : BlkOk X.N X.env.scope scope own)
    (hg : ∀ (sh : Shared) (Hb : Hp) (C : Addr) (cl : List (Str × Addr)) (fp : List Addr), PG (X.blk sh Hb scope (compEnvC scope cl C X.env) fp) tg (Lg X.K F₀ (own.map (·.2)) g))
    (ht : ∀ (sh : Shared) (Hb : Hp) (C : Addr) (cl : List (Str × Addr)) (fp : List Addr), PTs (X.blk sh Hb scope (compEnvC scope cl C X.env) fp) ifs (Lt X.K F₀ tt))
    (hk : ∀ (sh : Shared) (Hb : Hp) (C : Addr) (cl : List (Str × Addr)) (fp : List Addr), PE (X.blk sh Hb scope (compEnvC scope cl C X.env) fp) kx (Le X.K F₀ tk))
    (he : ∀ (sh : Shared) (Hb : Hp) (C : Addr) (cl : List (Str × Addr)) (fp : List Addr), PE (X.blk sh Hb scope (compEnvC scope cl C X.env) fp) vx (Le X.K F₀ tv))
    (hs : ∀ x, foldedSetIterable iter X.env x = pure x := by intro _; rfl) : PE X (.DictComp kx vx [⟨tg, iter, ifs, 0⟩] scope pos) (Le X.K F₀ (dDcK ti g tt tk tv (own.map (·.2)))) :=
  pe_imp (pe_dc hc hN hi ok hg ht hk he hs) fun _ _ _ => dcK_le
end
/-! ### dicts by whole numbers or by tuples -/
def dAGet (td ti : DE) : DE := dEiE (dNGet td ti) (dDGet td ti)
def dAIn (neg : Bool) (ti td : DE) : DE := dEiE (dNIn neg ti td) (dDIn neg ti td)
def dAPut (tv td ti : DE) : DS := dEiS (dNPut tv td ti) (dDPut tv td ti)
def dANew : DE := dEiE dNNew (dDict0 true)
def dADisp (tk tv : DE) : DE := dEiE (dDispN tk tv) (dDisp [(tk, tv)])
section
variable {X : Cx} {F₀ : Hp} {o i value ke ve : Expr} {pos pos' : Pos} {td ti tv tk : DE}
theorem de_aget (h8 : X.A.in1.units + 8 < cLine) (h1 : X.A.units + 1 < cLine) (ho : PE X o (Le X.K F₀ td)) (hi : PE X i (Le X.K F₀ ti)) (hs : NoSl i) : PE X (.Subscript o i pos) (Le X.K F₀ (dAGet td ti)) := de_ei (de_nget h8 ho hi hs) (de_dget h1 ho hi hs)
theorem dt_ain (h8 : X.A.in1.units + 8 < cLine) (h1 : X.A.units + 1 < cLine) (hm : behindInMarks .In o = false) (hi : PE X i (Le X.K F₀ ti)) (ho : PE X o (Le X.K F₀ td)) : PT X (.Compare i [.In] [o] pos) (Lt X.K F₀ (dB (dAIn false ti td))) := dt_ei (dt_nin h8 hm hi ho) (dt_din h1 hm hi ho)
theorem dt_anin (h8 : X.A.in1.units + 8 < cLine) (h1 : X.A.units + 1 < cLine) (hm : behindInMarks .NotIn o = false) (hi : PE X i (Le X.K F₀ ti)) (ho : PE X o (Le X.K F₀ td)) : PT X (.Compare i [.NotIn] [o] pos) (Lt X.K F₀ (dB (dAIn true ti td))) := dt_ei (dt_nnin h8 hm hi ho) (dt_dnin h1 hm hi ho)
theorem ds_aput (h8 : X.A.in1.units + 8 < cLine) (h1 : X.A.units + 1 < cLine) (hv : PE X value (Le X.K F₀ tv)) (ho : PE X o (Le X.K F₀ td)) (hi : PE X i (Le X.K F₀ ti)) (hs : swapsWith value (some (.Subscript o i pos')) pos.line X.env = pure false := by rfl) :
    PS X (.Assign [.Subscript o i pos'] value pos) (Ls X.K F₀ (dAPut tv td ti)) := ds_ei (ds_nput h8 hv ho hi hs) (ds_dput h1 hv ho hi hs)
theorem de_anew : PE X (.Dict [] [] pos) (Le X.K F₀ dANew) := de_ei de_nnew (de_dict0 true)
theorem de_adisp (h8 : X.A.units + 8 < cLine) (hk : PE X ke (Le X.K F₀ tk)) (hv : PE X ve (Le X.K F₀ tv)) : PE X (.Dict [some ke] [ve] pos) (Le X.K F₀ (dADisp tk tv)) := de_ei (de_dispN h8 hk hv) (de_disp (dps_cons hk hv dps_nil) rfl rfl (by intro z; cases z) (by exact Nat.le_of_ble_eq_true rfl))
end
/-! ### x < y: whole numbers, or tuples of whole numbers -/
def tupI : D → Option (List Int)
  | .tup xs => intsOf xs
  | _ => none
def dLtT : D2 := fun x y G Q => match tupI x, tupI y with
  | some ns, some ms => Q (.bl (HT.lexLt ns ms)) G
  | _, _ => False
theorem rps_intsV {K : PySem.W.Frag} {F : Hp} : ∀ {ns : List Int} {vs : List V}, Rps K F (ns.map D.int) vs → vs = ns.map V.int
  | [], _, r => by cases r; rfl
  | n :: ns, _, r => by
    cases r with
    | cons a b =>
      cases a
      rw [rps_intsV b]
      rfl
theorem tupI_ok {K : PySem.W.Frag} {F H : Hp} {x : D} {v : V} {ns : List Int} (fz : Same F H) (r : Rp K F x v) (h : tupI x = some ns) : ∃ a, v = .ref a ∧ SqT K H a (ns.map V.int) := by
  cases x with
  | tup xs =>
    have h : intsOf xs = some ns := h
    rw [intsOf_eq h] at r
    cases r with
    | tup h1 h2 =>
      rw [rps_intsV h2] at h1
      exact ⟨_, rfl, sqT_mono fz h1⟩
  | _ => cases h
theorem od_ltT {K : PySem.W.Frag} {F₀ : Hp} : OpD K F₀ dLtT (rLtT K) := by
  intro F G H x y v u Q' Q s w rx ry q k
  unfold dLtT at q
  split at q
  · rename_i ns ms h1 h2
    obtain ⟨a, rfl, s1⟩ := tupI_ok w.fz rx h1
    obtain ⟨b, rfl, s2⟩ := tupI_ok w.fz ry h2
    exact ⟨a, b, ns, ms, rfl, rfl, s1, s2, k _ _ F G H (Same.refl F) w (.bl _) q⟩
  · exact q.elim
def dLtA (a b : DE) : DE := dEiE (dOp dLt a b) (dOp dLtT a b)
theorem de_ltA {X : Cx} {F₀ : Hp} {a b : Expr} {pos : Pos} {ta tb : DE} (hu : X.A.units + 64 < cLine) (hm : behindInMarks .Lt b = false) (ha : PE X a (Le X.K F₀ ta)) (hb : PE X b (Le X.K F₀ tb)) : PE X (.Compare a [.Lt] [b] pos) (Le X.K F₀ (dLtA ta tb)) :=
  de_ei (de_cmp op_lt od_lt hm ha hb) (de_cmp (op_ltT (Nat.lt_of_le_of_lt (Nat.le_add_right _ 64) hu)) od_ltT hm ha hb)
theorem w_ltI {ta tb : DE} {δ : Sl} {G : Gp} {Q : DK} (i j : Int) (ha : ∀ Q, ta δ G Q = Q (.int i) G) (hb : ∀ Q, tb δ G Q = Q (.int j) G) (q : Q (.bl (decide (i < j))) G) : dLtA ta tb δ G Q := by
  refine Or.inl ?_
  show ta δ G _
  rw [ha, hb]
  exact q
theorem w_ltT {ta tb : DE} {δ : Sl} {G : Gp} {Q : DK} (ns ms : List Int) (ha : ∀ Q, ta δ G Q = Q (.tup (ns.map D.int)) G) (hb : ∀ Q, tb δ G Q = Q (.tup (ms.map D.int)) G) (q : Q (.bl (HT.lexLt ns ms)) G) : dLtA ta tb δ G Q := by
  refine Or.inr ?_
  show ta δ G _
  rw [ha, hb]
  unfold dLtT tupI
  simp only [intsOf_ints]
  exact q
end DL

/-! x = {k: v for ..}: the comprehension's own storing. -/
namespace DL
open PySem PySem.Spec PyProof.Rows L2
section
variable {X : Cx}
theorem setDcN_core {i : Nat} {y : Str} {py spos : Pos} {kx vx tg iter : Expr} {ifs : List Expr} {scope : Scope} {own : List (Str × Nat)} {pos : Pos} {wi : TI} {g : TG} {tt : TT} {tk tv : TE} (hu : X.A.units + 8 < cLine) (hc : X.calm = true) (hN : X.N.Nodup) (hi : PI X tg iter wi) (ok : BlkOk X.N X.env.scope scope own)
    (hg : ∀ (sh : Shared) (Hb : Hp) (C : Addr) (cl : List (Str × Addr)) (fp : List Addr), PG (X.blk sh Hb scope (compEnvC scope cl C X.env) fp) tg g)
    (ht : ∀ (sh : Shared) (Hb : Hp) (C : Addr) (cl : List (Str × Addr)) (fp : List Addr), PTs (X.blk sh Hb scope (compEnvC scope cl C X.env) fp) ifs tt)
    (hk : ∀ (sh : Shared) (Hb : Hp) (C : Addr) (cl : List (Str × Addr)) (fp : List Addr), PE (X.blk sh Hb scope (compEnvC scope cl C X.env) fp) kx tk)
    (he : ∀ (sh : Shared) (Hb : Hp) (C : Addr) (cl : List (Str × Addr)) (fp : List Addr), PE (X.blk sh Hb scope (compEnvC scope cl C X.env) fp) vx tv)
    (hsw : swapsWith (.DictComp kx vx [⟨tg, iter, ifs, 0⟩] scope pos) (some (.Name y py)) spos.line X.env = pure true) (pn : PG X (.Name y py) (gName i)) (hs : ∀ x, foldedSetIterable iter X.env x = pure x := by intro _; rfl) : PS X (.Assign [.Name y py] (.DictComp kx vx [⟨tg, iter, ifs, 0⟩] scope pos) spos) (tAsg (tDcN X.K wi g tt tk tv (own.map (·.2))) (gName i)) := by
  refine ⟨fun pins s σ H D I h => ?_⟩
  rw [exec_Assign_Name_used y py _ spos hsw]
  have h : tDcN X.K wi g tt tk tv (own.map (·.2)) σ H (fun v H1 => D.nx (σ.set i (some v)) H1) := h
  generalize hQ : (fun (v : V) (H1 : Hp) => D.nx (σ.set i (some v)) H1) = Q at h
  refine wpAny_bind (wpAny_standAt ?_)
  refine wpAny_bind (m := evalThenUse _ _ _) ?_
  refine wpAny_bind ?_
  have bound : ∀ y ∈ scope.names, y.2 = .free → ∃ c, X.env.cells.lookup y.1 = some c := fun y hy e => (ok.free y hy e).elim (fun z => I.ok.has _ (.inl z)) fun z => I.ok.has _ (.inr z)
  refine wpAny_comprehension_free (use := some (assign (.Name y py) X.env)) (Q := fun _ s' => wpAny (model X.prog X.w) X.A (pure ()) (fun _ => wpAny (model X.prog X.w) X.A (pure Flow.next) (SP X pins D) X.xe) X.xe s') rfl hs (closure_ok bound) ok.kind (fun y hy e => by rw [ok.uniq y hy, e]) (thn (hi.run pins s σ H _ I h) fun xv sa hxa => thn hxa fun itv sb hsb => ?_)
  obtain ⟨it, fp, tn, J, Hb, eit, Ib, Tn, stb, fpb, qb⟩ := hsb
  subst eit
  refine wpAny_newObj_type (newEnv_comp ?_)
  generalize hp : sb.heap.objs.size = p
  have pNew : Hb p = none := Ib.hok.fresh (Nat.le_of_eq hp)
  obtain ⟨ob, hob, _⟩ := nd_new (H := Hb) (K := X.K) (F := Hb) (Heap.DictOfH.new (knd := nestedKind X.prog X.w) sb.heap) (beq_eq_false_iff_ne.mpr (Ne.symm (Nat.ne_of_lt Ib.big))) (Nat.zero_le _) (fun p hp => absurd hp List.not_mem_nil) (.nil : Paired (RelN X.K Hb) [] [])
  have ndE : ∀ F, NdOk X.K F (upd Hb p (StO p ob)) p ob [] := fun F => by
    obtain ⟨ob2, hob2, nd2⟩ := nd_new (H := Hb) (K := X.K) (F := F) (Heap.DictOfH.new (knd := nestedKind X.prog X.w) sb.heap) (beq_eq_false_iff_ne.mpr (Ne.symm (Nat.ne_of_lt Ib.big))) (Nat.zero_le _) (fun p hp => absurd hp List.not_mem_nil) (.nil : Paired (RelN X.K F) [] [])
    rw [hob] at hob2
    cases hob2
    rw [← hp]
    exact nd2
  obtain ⟨W, ⟨m0, w0⟩, turn⟩ := qb p ob pNew ndE
  generalize hsc : ({ sb with heap := sb.heap.push { cls := .type "dict", data := .dict #[] } } : Shared) = sc
  generalize hHc : upd Hb p (StO p ob) = Hc at w0
  have hpc : sc.heap = sb.heap.push { cls := .type "dict", data := .dict #[] } := by rw [← hsc]
  have Ic : Inv X pins σ Hc sc := by
    rw [← hsc, ← hHc]
    refine Ib.laid (t' := sb.toks) (fun c o e => Heap.get?_push_of_some _ e) (Nat.le_of_eq hp) ?_
    rw [← hp]
    exact stO_ok hob
  have low : ∀ c ∈ fp, c < sb.heap.objs.size := fun c hcm => let ⟨o, e, _⟩ := Tn.obj _ _ stb c hcm; Heap.lt_size e
  have fpc : ∀ c ∈ fp, FpOk X pins Hc c ∧ c < sc.heap.objs.size := fun c hcm => by
    have lt := low c hcm
    refine ⟨⟨?_, (fpb c hcm).2⟩, by rw [hpc, Heap.size_push]; exact Nat.lt_succ_of_lt lt⟩
    rw [← hHc, upd_ne (by rw [← hp]; exact Nat.ne_of_lt lt)]
    exact (fpb c hcm).1
  have stc : tn 0 sc.heap := Tn.keep _ _ _ stb fun c _ o e => by rw [hpc]; exact Heap.get?_push_of_some _ e
  have Id := block_start Ic ok hN fpc
  have pg := hg sc Hc sc.heap.objs.size (cellsFrom (sc.heap.objs.size + 1) scope.names (cloFrom X.env.cells scope.names [])) fp
  have pt := ht sc Hc sc.heap.objs.size (cellsFrom (sc.heap.objs.size + 1) scope.names (cloFrom X.env.cells scope.names [])) fp
  have pk := hk sc Hc sc.heap.objs.size (cellsFrom (sc.heap.objs.size + 1) scope.names (cloFrom X.env.cells scope.names [])) fp
  have pv := he sc Hc sc.heap.objs.size (cellsFrom (sc.heap.objs.size + 1) scope.names (cloFrom X.env.cells scope.names [])) fp
  have nofp : ∀ c ∈ fp, Hc c = none := fun c hcm => (fpc c hcm).1.1
  show codeAny _ _ (.compStart (.DictComp kx vx [⟨tg, iter, ifs, 0⟩] scope pos) 0 (.ref it) (.ref p) (compEnvC scope (cellsFrom (sc.heap.objs.size + 1) scope.names (cloFrom X.env.cells scope.names [])) sc.heap.objs.size X.env)) (compPost (model X.prog X.w) X.A X.xe (some (assign (.Name y py) X.env)) (fun _ s' => wpAny (model X.prog X.w) X.A (pure ()) (fun _ => wpAny (model X.prog X.w) X.A (pure Flow.next) (SP X pins D) X.xe) X.xe s') (.ref p) sc.heap.objs.size) { sc with heap := pushCells (sc.heap.push { cls := .type "dict", data := .dict #[] }) scope.names }
  generalize hce : compEnvC scope (cellsFrom (sc.heap.objs.size + 1) scope.names (cloFrom X.env.cells scope.names [])) sc.heap.objs.size X.env = ce at Id pg pt pk pv ⊢
  have eL : ce.locals = sc.heap.objs.size := by subst hce; rfl
  generalize hsd : ({ sc with heap := pushCells (sc.heap.push { cls := .type "dict", data := .dict #[] }) scope.names } : Shared) = sd at Id ⊢
  have std : tn 0 sd.heap := Tn.keep _ _ _ stc fun c _ o e => by rw [← hsd]; exact pushCells_keeps _ _ _ _ (Heap.get?_push_of_some _ e)
  have still : ∀ {σ' : L2.St} {H' : Hp} {s' : Shared}, Inv (X.blk sc Hc scope ce fp) [] σ' H' s' → (∀ c ∈ fp, H' c = none) → ∀ c ∈ fp, FpOk (X.blk sc Hc scope ce fp) [] H' c := fun {σ' H' s'} I' no c hcm =>
    ⟨no c hcm, (I'.ok.exf c hcm).1, I'.ok.exfs c hcm, .inl hcm, fun x y e => (I'.ok.exf c hcm).2 x y e, fun q hq => absurd (show q ∈ ([] : List (Addr × Obj)) ++ [] from hq) (by simp)⟩
  have loop : codeAny (model X.prog X.w) X.A (.compLoop (.DictComp kx vx [⟨tg, iter, ifs, 0⟩] scope pos) 0 (.ref it) (.ref p) ce) (compPost (model X.prog X.w) X.A X.xe (some (assign (.Name y py) X.env)) (fun _ s' => wpAny (model X.prog X.w) X.A (pure ()) (fun _ => wpAny (model X.prog X.w) X.A (pure Flow.next) (SP X pins D) X.xe) X.xe s') (.ref p) sc.heap.objs.size) sd := by
    refine compLoop_anyD (fun n s' => ∃ i H', Inv (X.blk sc Hc scope ce fp) [] (wipe σ (own.map (·.2))) H' s' ∧ tn i s'.heap ∧ (∀ c ∈ fp, H' c = none) ∧ W i n H') ?_ m0 ⟨0, Hc, Id, std, nofp, w0⟩
    rintro n se ⟨i, He, Ie, ste, noe, we⟩
    rcases turn i n He we with ⟨stop, qq⟩ | ⟨go, N, hNx, step⟩
    · have td := Tn.done (X.blk sc Hc scope ce fp) rfl rfl rfl hc i [] se _ He (fun _ _ => False) Ie (still Ie noe) ste stop
      refine thnF td fun r sf ⟨er, If⟩ => ?_
      subst er
      have Ig : Inv X pins σ He sf := Ic.call' (ch := fp) If.os If.base If.hok If.bare fun c hcm => ⟨(fpc c hcm).1.2.2.2.1, (fpc c hcm).1.2.1, (fpc c hcm).1.2.2.2.2.1, (fpc c hcm).1.2.2.2.2.2⟩
      have nC : He sc.heap.objs.size = none := eL ▸ (show He ce.locals = none from If.free)
      obtain ⟨m, hn, _⟩ := If.loc
      have hn : sf.heap.Ns sc.heap.objs.size m := eL ▸ (show sf.heap.Ns ce.locals m from hn)
      have fC := Ic.fpOk (Nat.le_refl _) nC
      obtain ⟨oC, es, ep, hoC, hdC, hk2, hf2⟩ := hn
      have Ip := Ig.pinned (fp := [sc.heap.objs.size]) (fun b hb => by rw [List.mem_singleton.mp hb]; exact fC) (fun b hb => ⟨oC, by rw [List.mem_singleton.mp hb]; exact hoC, fun v z => by rw [hdC] at z; cases z⟩)
      have hpin : (sc.heap.objs.size, oC) ∈ X.pn ++ (pins ++ pinsAt [sc.heap.objs.size] sf.heap) := by
        refine List.mem_append_right _ (List.mem_append_right _ ?_)
        unfold pinsAt
        rw [List.filterMap_cons, hoC]
        exact List.mem_cons_self
      refine thn (pn.run _ sf σ He (.ref p) (.ref p) (fun σ2 H2 => D.nx σ2 H2) Ip rfl (by rw [← hQ] at qq; exact qq)) fun _ s2 ⟨σ2, H2, I2, q2⟩ => ?_
      obtain ⟨hoC2, nC2, _⟩ := I2.pin _ hpin
      refine ⟨m, ⟨oC, es, ep, hoC2, hdC, hk2, hf2⟩, fun h'' sbu => wpAny_pure (wpAny_pure ⟨σ2, H2, ?_, q2⟩)⟩
      obtain ⟨f0, f1, f2, f3, f4, f5⟩ := fC
      exact (I2.unpinned).turned (t' := s2.toks) (fun c o hb e => (sbu.2 c hb).trans e) nC2 f1 f3 f4 f5
    · have ti := Tn.item (X.blk sc Hc scope ce fp) rfl rfl rfl hc i [] se _ He (fun _ _ => False) Ie (still Ie noe) ste go
      refine thnF ti fun r sf ⟨u, er, hf⟩ => ?_
      subst er
      refine thnF hf fun _ sg ⟨x, Hg, Ig, rg, yg, stg, nog⟩ => ?_
      have Ig' := Ig.pinned (still Ig nog) (Tn.obj _ _ stg)
      refine thnF (pg.run _ sg _ Hg x u _ Ig' rg (step x Hg yg)) fun _ sh ⟨σh, Hh, Ih, hw, qh⟩ => ?_
      refine thnF (pt.run _ sh σh Hh _ Ih qh) fun b sj ⟨Hj, Ij, qj⟩ => ?_
      have fin : ∀ {s' : Shared} {H' : Hp}, Inv (X.blk sc Hc scope ce fp) ([] ++ pinsAt fp sg.heap) σh H' s' → N H' → ∃ m, m < n ∧ ∃ i H', Inv (X.blk sc Hc scope ce fp) [] (wipe σ (own.map (·.2))) H' s' ∧ tn i s'.heap ∧ (∀ c ∈ fp, H' c = none) ∧ W i m H' := fun {s' H'} I' nx => by
        obtain ⟨m', hm, w'⟩ := hNx H' nx
        have pin' : ∀ c ∈ fp, ∀ o, sg.heap.get? c = some o → s'.heap.get? c = some o ∧ H' c = none := fun c hcm o e =>
          let z := I'.pin (c, o) (List.mem_append_right _ (List.mem_append_right _ (mem_pinsAt hcm e)))
          ⟨z.1, z.2.1⟩
        have hln : (wipe σ (own.map (·.2))).length = σh.length := by rw [← hw, wipe_length]
        refine ⟨m', hm, i + 1, H', (I'.unpinned (pins := [])).weak hln (fun j v e => ?_), Tn.keep _ _ _ stg fun c hcm o e => (pin' c hcm o e).1, fun c hcm => ?_, w'⟩
        · rw [← hw] at e
          exact (wipe_some e).1
        · obtain ⟨o, e, _⟩ := Tn.obj _ _ stg c hcm
          exact (pin' c hcm o e).2
      cases b with
      | false =>
        simp only [Bool.false_eq_true, if_false] at qj ⊢
        exact fin Ij qj
      | true =>
        simp only [if_true] at qj ⊢
        refine thnF (pk.run _ sj σh Hj _ Ij qj) fun kv sk ⟨yk, Hk, Ik, rk, qk⟩ => ?_
        refine thnF (pv.run _ sk σh Hk _ Ik qk) fun vv sl ⟨yv, Hl, Il, rl, F, ob1, kvs, k, d, sF, nd, hlen, hok, r1, r2, nx⟩ => ?_
        exact n_dictSet (X := X.blk sc Hc scope ce fp) hu Il sF nd hlen hok r1 rk r2 rl fun o sm Im nd2 => fin Im (nx o nd2)
  exact codeAny_compStart_dict loop (Tn.self X.A 0 _ _ _ std loop)
theorem setDcK_core {i : Nat} {y : Str} {py spos : Pos} {kx vx tg iter : Expr} {ifs : List Expr} {scope : Scope} {own : List (Str × Nat)} {pos : Pos} {wi : TI} {g : TG} {tt : TT} {tk tv : TE} (hc : X.calm = true) (hN : X.N.Nodup) (hi : PI X tg iter wi) (ok : BlkOk X.N X.env.scope scope own)
    (hg : ∀ (sh : Shared) (Hb : Hp) (C : Addr) (cl : List (Str × Addr)) (fp : List Addr), PG (X.blk sh Hb scope (compEnvC scope cl C X.env) fp) tg g)
    (ht : ∀ (sh : Shared) (Hb : Hp) (C : Addr) (cl : List (Str × Addr)) (fp : List Addr), PTs (X.blk sh Hb scope (compEnvC scope cl C X.env) fp) ifs tt)
    (hk : ∀ (sh : Shared) (Hb : Hp) (C : Addr) (cl : List (Str × Addr)) (fp : List Addr), PE (X.blk sh Hb scope (compEnvC scope cl C X.env) fp) kx tk)
    (he : ∀ (sh : Shared) (Hb : Hp) (C : Addr) (cl : List (Str × Addr)) (fp : List Addr), PE (X.blk sh Hb scope (compEnvC scope cl C X.env) fp) vx tv)
    (hsw : swapsWith (.DictComp kx vx [⟨tg, iter, ifs, 0⟩] scope pos) (some (.Name y py)) spos.line X.env = pure true) (pn : PG X (.Name y py) (gName i)) (hs : ∀ x, foldedSetIterable iter X.env x = pure x := by intro _; rfl) : PS X (.Assign [.Name y py] (.DictComp kx vx [⟨tg, iter, ifs, 0⟩] scope pos) spos) (tAsg (tDc wi g tt tk tv (own.map (·.2))) (gName i)) := by
  refine ⟨fun pins s σ H D I h => ?_⟩
  rw [exec_Assign_Name_used y py _ spos hsw]
  have h : tDc wi g tt tk tv (own.map (·.2)) σ H (fun v H1 => D.nx (σ.set i (some v)) H1) := h
  generalize hQ : (fun (v : V) (H1 : Hp) => D.nx (σ.set i (some v)) H1) = Q at h
  refine wpAny_bind (wpAny_standAt ?_)
  refine wpAny_bind (m := evalThenUse _ _ _) ?_
  refine wpAny_bind ?_
  have bound : ∀ y ∈ scope.names, y.2 = .free → ∃ c, X.env.cells.lookup y.1 = some c := fun y hy e => (ok.free y hy e).elim (fun z => I.ok.has _ (.inl z)) fun z => I.ok.has _ (.inr z)
  refine wpAny_comprehension_free (use := some (assign (.Name y py) X.env)) (Q := fun _ s' => wpAny (model X.prog X.w) X.A (pure ()) (fun _ => wpAny (model X.prog X.w) X.A (pure Flow.next) (SP X pins D) X.xe) X.xe s') rfl hs (closure_ok bound) ok.kind (fun y hy e => by rw [ok.uniq y hy, e]) (thn (hi.run pins s σ H _ I h) fun xv sa hxa => thn hxa fun itv sb hsb => ?_)
  obtain ⟨it, fp, tn, J, Hb, eit, Ib, Tn, stb, fpb, qb⟩ := hsb
  subst eit
  refine wpAny_newObj_type (newEnv_comp ?_)
  generalize hp : sb.heap.objs.size = p
  have pNew : Hb p = none := Ib.hok.fresh (Nat.le_of_eq hp)
  obtain ⟨W, ⟨m0, w0⟩, turn⟩ := qb p pNew
  generalize hsc : ({ sb with heap := sb.heap.push { cls := .type "dict", data := .dict #[] } } : Shared) = sc
  generalize hHc : upd Hb p (.dK []) = Hc at w0
  have hpc : sc.heap = sb.heap.push { cls := .type "dict", data := .dict #[] } := by rw [← hsc]
  have Ic : Inv X pins σ Hc sc := by
    rw [← hsc, ← hHc]
    refine Ib.laid (t' := sb.toks) (fun c o e => Heap.get?_push_of_some _ e) (Nat.le_of_eq hp) ?_
    rw [← hp]
    exact dk_empty sb.heap Ib.big
  have low : ∀ c ∈ fp, c < sb.heap.objs.size := fun c hcm => let ⟨o, e, _⟩ := Tn.obj _ _ stb c hcm; Heap.lt_size e
  have fpc : ∀ c ∈ fp, FpOk X pins Hc c ∧ c < sc.heap.objs.size := fun c hcm => by
    have lt := low c hcm
    refine ⟨⟨?_, (fpb c hcm).2⟩, by rw [hpc, Heap.size_push]; exact Nat.lt_succ_of_lt lt⟩
    rw [← hHc, upd_ne (by rw [← hp]; exact Nat.ne_of_lt lt)]
    exact (fpb c hcm).1
  have stc : tn 0 sc.heap := Tn.keep _ _ _ stb fun c _ o e => by rw [hpc]; exact Heap.get?_push_of_some _ e
  have Id := block_start Ic ok hN fpc
  have pg := hg sc Hc sc.heap.objs.size (cellsFrom (sc.heap.objs.size + 1) scope.names (cloFrom X.env.cells scope.names [])) fp
  have pt := ht sc Hc sc.heap.objs.size (cellsFrom (sc.heap.objs.size + 1) scope.names (cloFrom X.env.cells scope.names [])) fp
  have pk := hk sc Hc sc.heap.objs.size (cellsFrom (sc.heap.objs.size + 1) scope.names (cloFrom X.env.cells scope.names [])) fp
  have pv := he sc Hc sc.heap.objs.size (cellsFrom (sc.heap.objs.size + 1) scope.names (cloFrom X.env.cells scope.names [])) fp
  have nofp : ∀ c ∈ fp, Hc c = none := fun c hcm => (fpc c hcm).1.1
  show codeAny _ _ (.compStart (.DictComp kx vx [⟨tg, iter, ifs, 0⟩] scope pos) 0 (.ref it) (.ref p) (compEnvC scope (cellsFrom (sc.heap.objs.size + 1) scope.names (cloFrom X.env.cells scope.names [])) sc.heap.objs.size X.env)) (compPost (model X.prog X.w) X.A X.xe (some (assign (.Name y py) X.env)) (fun _ s' => wpAny (model X.prog X.w) X.A (pure ()) (fun _ => wpAny (model X.prog X.w) X.A (pure Flow.next) (SP X pins D) X.xe) X.xe s') (.ref p) sc.heap.objs.size) { sc with heap := pushCells (sc.heap.push { cls := .type "dict", data := .dict #[] }) scope.names }
  generalize hce : compEnvC scope (cellsFrom (sc.heap.objs.size + 1) scope.names (cloFrom X.env.cells scope.names [])) sc.heap.objs.size X.env = ce at Id pg pt pk pv ⊢
  have eL : ce.locals = sc.heap.objs.size := by subst hce; rfl
  generalize hsd : ({ sc with heap := pushCells (sc.heap.push { cls := .type "dict", data := .dict #[] }) scope.names } : Shared) = sd at Id ⊢
  have std : tn 0 sd.heap := Tn.keep _ _ _ stc fun c _ o e => by rw [← hsd]; exact pushCells_keeps _ _ _ _ (Heap.get?_push_of_some _ e)
  have still : ∀ {σ' : L2.St} {H' : Hp} {s' : Shared}, Inv (X.blk sc Hc scope ce fp) [] σ' H' s' → (∀ c ∈ fp, H' c = none) → ∀ c ∈ fp, FpOk (X.blk sc Hc scope ce fp) [] H' c := fun {σ' H' s'} I' no c hcm =>
    ⟨no c hcm, (I'.ok.exf c hcm).1, I'.ok.exfs c hcm, .inl hcm, fun x y e => (I'.ok.exf c hcm).2 x y e, fun q hq => absurd (show q ∈ ([] : List (Addr × Obj)) ++ [] from hq) (by simp)⟩
  have loop : codeAny (model X.prog X.w) X.A (.compLoop (.DictComp kx vx [⟨tg, iter, ifs, 0⟩] scope pos) 0 (.ref it) (.ref p) ce) (compPost (model X.prog X.w) X.A X.xe (some (assign (.Name y py) X.env)) (fun _ s' => wpAny (model X.prog X.w) X.A (pure ()) (fun _ => wpAny (model X.prog X.w) X.A (pure Flow.next) (SP X pins D) X.xe) X.xe s') (.ref p) sc.heap.objs.size) sd := by
    refine compLoop_anyD (fun n s' => ∃ i H', Inv (X.blk sc Hc scope ce fp) [] (wipe σ (own.map (·.2))) H' s' ∧ tn i s'.heap ∧ (∀ c ∈ fp, H' c = none) ∧ W i n H') ?_ m0 ⟨0, Hc, Id, std, nofp, w0⟩
    rintro n se ⟨i, He, Ie, ste, noe, we⟩
    rcases turn i n He we with ⟨stop, qq⟩ | ⟨go, N, hNx, step⟩
    · have td := Tn.done (X.blk sc Hc scope ce fp) rfl rfl rfl hc i [] se _ He (fun _ _ => False) Ie (still Ie noe) ste stop
      refine thnF td fun r sf ⟨er, If⟩ => ?_
      subst er
      have Ig : Inv X pins σ He sf := Ic.call' (ch := fp) If.os If.base If.hok If.bare fun c hcm => ⟨(fpc c hcm).1.2.2.2.1, (fpc c hcm).1.2.1, (fpc c hcm).1.2.2.2.2.1, (fpc c hcm).1.2.2.2.2.2⟩
      have nC : He sc.heap.objs.size = none := eL ▸ (show He ce.locals = none from If.free)
      obtain ⟨m, hn, _⟩ := If.loc
      have hn : sf.heap.Ns sc.heap.objs.size m := eL ▸ (show sf.heap.Ns ce.locals m from hn)
      have fC := Ic.fpOk (Nat.le_refl _) nC
      obtain ⟨oC, es, ep, hoC, hdC, hk2, hf2⟩ := hn
      have Ip := Ig.pinned (fp := [sc.heap.objs.size]) (fun b hb => by rw [List.mem_singleton.mp hb]; exact fC) (fun b hb => ⟨oC, by rw [List.mem_singleton.mp hb]; exact hoC, fun v z => by rw [hdC] at z; cases z⟩)
      have hpin : (sc.heap.objs.size, oC) ∈ X.pn ++ (pins ++ pinsAt [sc.heap.objs.size] sf.heap) := by
        refine List.mem_append_right _ (List.mem_append_right _ ?_)
        unfold pinsAt
        rw [List.filterMap_cons, hoC]
        exact List.mem_cons_self
      refine thn (pn.run _ sf σ He (.ref p) (.ref p) (fun σ2 H2 => D.nx σ2 H2) Ip rfl (by rw [← hQ] at qq; exact qq)) fun _ s2 ⟨σ2, H2, I2, q2⟩ => ?_
      obtain ⟨hoC2, nC2, _⟩ := I2.pin _ hpin
      refine ⟨m, ⟨oC, es, ep, hoC2, hdC, hk2, hf2⟩, fun h'' sbu => wpAny_pure (wpAny_pure ⟨σ2, H2, ?_, q2⟩)⟩
      obtain ⟨f0, f1, f2, f3, f4, f5⟩ := fC
      exact (I2.unpinned).turned (t' := s2.toks) (fun c o hb e => (sbu.2 c hb).trans e) nC2 f1 f3 f4 f5
    · have ti := Tn.item (X.blk sc Hc scope ce fp) rfl rfl rfl hc i [] se _ He (fun _ _ => False) Ie (still Ie noe) ste go
      refine thnF ti fun r sf ⟨u, er, hf⟩ => ?_
      subst er
      refine thnF hf fun _ sg ⟨x, Hg, Ig, rg, yg, stg, nog⟩ => ?_
      have Ig' := Ig.pinned (still Ig nog) (Tn.obj _ _ stg)
      refine thnF (pg.run _ sg _ Hg x u _ Ig' rg (step x Hg yg)) fun _ sh ⟨σh, Hh, Ih, hw, qh⟩ => ?_
      refine thnF (pt.run _ sh σh Hh _ Ih qh) fun b sj ⟨Hj, Ij, qj⟩ => ?_
      have fin : ∀ {s' : Shared} {H' : Hp}, Inv (X.blk sc Hc scope ce fp) ([] ++ pinsAt fp sg.heap) σh H' s' → N H' → ∃ m, m < n ∧ ∃ i H', Inv (X.blk sc Hc scope ce fp) [] (wipe σ (own.map (·.2))) H' s' ∧ tn i s'.heap ∧ (∀ c ∈ fp, H' c = none) ∧ W i m H' := fun {s' H'} I' nx => by
        obtain ⟨m', hm, w'⟩ := hNx H' nx
        have pin' : ∀ c ∈ fp, ∀ o, sg.heap.get? c = some o → s'.heap.get? c = some o ∧ H' c = none := fun c hcm o e =>
          let z := I'.pin (c, o) (List.mem_append_right _ (List.mem_append_right _ (mem_pinsAt hcm e)))
          ⟨z.1, z.2.1⟩
        have hln : (wipe σ (own.map (·.2))).length = σh.length := by rw [← hw, wipe_length]
        refine ⟨m', hm, i + 1, H', (I'.unpinned (pins := [])).weak hln (fun j v e => ?_), Tn.keep _ _ _ stg fun c hcm o e => (pin' c hcm o e).1, fun c hcm => ?_, w'⟩
        · rw [← hw] at e
          exact (wipe_some e).1
        · obtain ⟨o, e, _⟩ := Tn.obj _ _ stg c hcm
          exact (pin' c hcm o e).2
      cases b with
      | false =>
        simp only [Bool.false_eq_true, if_false] at qj ⊢
        exact fin Ij qj
      | true =>
        simp only [if_true] at qj ⊢
        refine thnF (pk.run _ sj σh Hj _ Ij qj) fun kv sk ⟨yk, Hk, Ik, rk, qk⟩ => ?_
        refine thnF (pv.run _ sk σh Hk _ Ik qk) fun vv sl ⟨yv, Hl, Il, rl, kvs, k, ek, hHp, hlen, nx⟩ => ?_
        exact d_dictSet (X := X.blk sc Hc scope ce fp) Il hHp hlen (by rw [← ek]; exact rk) rl fun sm Im => fin Im nx
  exact codeAny_compStart_dict loop (Tn.self X.A 0 _ _ _ std loop)
end
section
variable {X : Cx} {F₀ : Hp} {tg iter kx vx : Expr} {ti : DI} {g : DG} {tt : DT} {tk tv : DE} {ifs : List Expr} {scope : Scope} {own : List (Str × Nat)} {pos : Pos} {i : Nat} {y : Str} {py spos : Pos}
theorem swD_true {k v : Expr} {gs : List Comprehension} {scope : Scope} {pos py : Pos} {y : Str} {l : Nat} {env : Env} (h1 : env.scope.kind = ScopeKind.function) (h2 : env.scope.names.lookup y = some .local) (h3 : (py.line == pos.line) = true)
    (h4 : (scope.names.any fun (n, k) => n == y && (k == NameKind.local || k == NameKind.cell)) = false) : swapsWith (.DictComp k v gs scope pos) (some (.Name y py)) l env = pure true := by
  have h := sw_true (elt := k) (gs := gs) (l := l) h1 h2 h3 h4
  exact h
theorem ds_setDcN (hsw : swapsWith (.DictComp kx vx [⟨tg, iter, ifs, 0⟩] scope pos) (some (.Name y py)) spos.line X.env = pure true) (hy : X.N[i]? = some y) (hyl : X.env.scope.names.lookup y = some .local)
    (hu : X.A.units + 8 < cLine) (hc : X.calm = true) (hN : X.N.Nodup) (hi : PI X tg iter (Li X.K F₀ ti)) (ok : BlkOk X.N X.env.scope scope own)
    (hg : ∀ (sh : Shared) (Hb : Hp) (C : Addr) (cl : List (Str × Addr)) (fp : List Addr), PG (X.blk sh Hb scope (compEnvC scope cl C X.env) fp) tg (Lg X.K F₀ (own.map (·.2)) g))
    (ht : ∀ (sh : Shared) (Hb : Hp) (C : Addr) (cl : List (Str × Addr)) (fp : List Addr), PTs (X.blk sh Hb scope (compEnvC scope cl C X.env) fp) ifs (Lt X.K F₀ tt))
    (hk : ∀ (sh : Shared) (Hb : Hp) (C : Addr) (cl : List (Str × Addr)) (fp : List Addr), PE (X.blk sh Hb scope (compEnvC scope cl C X.env) fp) kx (Le X.K F₀ tk))
    (he : ∀ (sh : Shared) (Hb : Hp) (C : Addr) (cl : List (Str × Addr)) (fp : List Addr), PE (X.blk sh Hb scope (compEnvC scope cl C X.env) fp) vx (Le X.K F₀ tv))
    (hs : ∀ x, foldedSetIterable iter X.env x = pure x := by intro _; rfl) : PS X (.Assign [.Name y py] (.DictComp kx vx [⟨tg, iter, ifs, 0⟩] scope pos) spos) (Ls X.K F₀ (dAsg i (dDcN ti g tt tk tv (own.map (·.2))))) :=
  ps_imp (setDcN_core hu hc hN hi ok hg ht hk he hsw (pg_name hN hy (.inl hyl) (.inr hyl)) hs) fun D σ H ⟨δ, F, G, D', s, en, w, q, k⟩ =>
    dc_le (Q := fun x H1 => gName i x σ H1 D.nx) ⟨δ, F, G, _, s, en, w, q, fun x v F1 G1 H1 s1 w1 r1 q1 => k.nx _ _ F1 G1 H1 s1 ((en.mono s1).set r1 i) w1 q1⟩
theorem ds_setDcK (hsw : swapsWith (.DictComp kx vx [⟨tg, iter, ifs, 0⟩] scope pos) (some (.Name y py)) spos.line X.env = pure true) (hy : X.N[i]? = some y) (hyl : X.env.scope.names.lookup y = some .local)
    (hc : X.calm = true) (hN : X.N.Nodup) (hi : PI X tg iter (Li X.K F₀ ti)) (ok : BlkOk X.N X.env.scope scope own)
    (hg : ∀ (sh : Shared) (Hb : Hp) (C : Addr) (cl : List (Str × Addr)) (fp : List Addr), PG (X.blk sh Hb scope (compEnvC scope cl C X.env) fp) tg (Lg X.K F₀ (own.map (·.2)) g))
    (ht : ∀ (sh : Shared) (Hb : Hp) (C : Addr) (cl : List (Str × Addr)) (fp : List Addr), PTs (X.blk sh Hb scope (compEnvC scope cl C X.env) fp) ifs (Lt X.K F₀ tt))
    (hk : ∀ (sh : Shared) (Hb : Hp) (C : Addr) (cl : List (Str × Addr)) (fp : List Addr), PE (X.blk sh Hb scope (compEnvC scope cl C X.env) fp) kx (Le X.K F₀ tk))
    (he : ∀ (sh : Shared) (Hb : Hp) (C : Addr) (cl : List (Str × Addr)) (fp : List Addr), PE (X.blk sh Hb scope (compEnvC scope cl C X.env) fp) vx (Le X.K F₀ tv))
    (hs : ∀ x, foldedSetIterable iter X.env x = pure x := by intro _; rfl) : PS X (.Assign [.Name y py] (.DictComp kx vx [⟨tg, iter, ifs, 0⟩] scope pos) spos) (Ls X.K F₀ (dAsg i (dDcK ti g tt tk tv (own.map (·.2))))) :=
  ps_imp (setDcK_core hc hN hi ok hg ht hk he hsw (pg_name hN hy (.inl hyl) (.inr hyl)) hs) fun D σ H ⟨δ, F, G, D', s, en, w, q, k⟩ =>
    dcK_le (Q := fun x H1 => gName i x σ H1 D.nx) ⟨δ, F, G, _, s, en, w, q, fun x v F1 G1 H1 s1 w1 r1 q1 => k.nx _ _ F1 G1 H1 s1 ((en.mono s1).set r1 i) w1 q1⟩
end
end DL

/-! d.update(other): keys whole numbers, keys tuples of two small numbers (a dict that may be empty). -/
namespace DL
open PySem PySem.Spec PyProof.Rows L2
/-- the number that a tuple's hash is told to come from: (p, k) again -/
def decH (h : Int) : Nat × Nat :=
  let a := ((h % 18446744073709551616).toNat + (18446744073709551616 - 2870177450013471924)) % 18446744073709551616
  let y := a * 614540362697595703 % 18446744073709551616
  let x := y / 2147483648 + y % 2147483648 * 8589934592
  let rec go : Nat → List Nat → Nat × Nat
    | _, [] => (0, 0)
    | p, c :: r => let k := (x + (18446744073709551616 - c)) % 18446744073709551616 * 839798700976720815 % 18446744073709551616; if k < 512 then (p, k) else go (p + 1) r
  go 0 [6823068795704846497, 8932352168822476794, 4039278139849780428, 10546918895951778853, 5653844866979082487, 7763128240096712784, 14270768996198711209, 9377694967226014843, 15885335723328013268, 10992261694355316902, 13101545067472947199, 8208471038500250833]
theorem hash_num (w : World) (i : Int) : NestedKey.hash w (.num i) = hashInt i := rfl
def hashT (p k : Nat) : Int := reduceHash (Builtin.Tuple.tupleHashOf [hashInt (p : Nat), hashInt (k : Nat)])
theorem hash_th (w : World) (p k : Nat) : NestedKey.hash w (.tup [.num (p : Nat), .num (k : Nat)]) = hashT p k := rfl
theorem hashT_ok : ((List.range 12).all fun p => (List.range 512).all fun k => decide (decH (hashT p k) = (p, k))) = true := by decide +kernel
theorem hashT_inj {p k p' k' : Nat} (h1 : p < 12) (h2 : k < 512) (h3 : p' < 12) (h4 : k' < 512) (e : hashT p k = hashT p' k') : p = p' ∧ k = k' := by
  have ok : ∀ p k : Nat, p < 12 → k < 512 → decH (hashT p k) = (p, k) := fun p k h1 h2 => of_decide_eq_true (List.all_eq_true.mp (List.all_eq_true.mp hashT_ok p (List.mem_range.mpr h1)) k (List.mem_range.mpr h2))
  have := ok p k h1 h2
  rw [e, ok p' k' h3 h4] at this
  injection this with a b
  exact ⟨a.symm, b.symm⟩
/-- a tuple of two small numbers -/
def thKey : NestedKey → Prop := fun q => ∃ p k : Nat, p < 12 ∧ k < 512 ∧ q = .tup [.num (p : Nat), .num (k : Nat)]
theorem thKey_nd {w : World} : ∀ {l : List NestedKey}, l.Nodup → (∀ q ∈ l, thKey q) → (l.map (NestedKey.hash w)).Nodup
  | [], _, _ => .nil
  | q :: l, nd, h => by
    rw [List.nodup_cons] at nd
    rw [List.map_cons, List.nodup_cons]
    refine ⟨fun z => ?_, thKey_nd nd.2 fun x hx => h x (List.mem_cons_of_mem _ hx)⟩
    obtain ⟨x, hx, e⟩ := List.mem_map.mp z
    obtain ⟨p, k, a1, a2, rfl⟩ := h q List.mem_cons_self
    obtain ⟨p', k', b1, b2, rfl⟩ := h x (List.mem_cons_of_mem _ hx)
    rw [hash_th, hash_th] at e
    obtain ⟨e1, e2⟩ := hashT_inj b1 b2 a1 a2 e
    subst e1
    subst e2
    exact nd.1 hx
/-! ### d.update(other), keys whole numbers -/
def dDUpd (td tm : DE) : DE := fun δ G Q => td δ G fun x G1 => (∃ a kvs, x = .ref a ∧ G1 a = some (.dct kvs)) ∧ tm δ G1 fun y G2 => ∃ a kvs b more, x = .ref a ∧ y = .ref b ∧ G2 a = some (.dct kvs) ∧ G2 b = some (.dct more) ∧ a ≠ b ∧ kvs.length + more.length ≤ sizeLine ∧ Q .non (gu G2 a (.dct (mergeD kvs more)))
theorem KV.merge : ∀ {more : List (Key × V)} {ms : List (Key × Value)} {kvs : List (Key × V)} {vs : List (Key × Value)}, KV more ms → KV kvs vs → KV (mergeK kvs more) (PySem.merged vs ms)
  | _, _, _, _, .nil, h => h
  | _, _, kvs, vs, .cons (a := p) (b := q) h t, h2 => by
    obtain ⟨e, r⟩ := h
    have h3 := h2.put p.1 r
    show KV (mergeK (putK kvs p.1 p.2) _) (PySem.merged (PySem.stored vs q.1 q.2) _)
    rw [← e]
    exact KV.merge t h3
section
variable {X : Cx} {F₀ : Hp} {o e : Expr} {apos cpos : Pos} {td tm : DE}
theorem mergeK_len : ∀ {more kvs : List (Key × V)}, (mergeK kvs more).length ≤ kvs.length + more.length
  | [], _ => Nat.le_refl _
  | p :: more, kvs => by
    have h1 := mergeK_len (more := more) (kvs := putK kvs p.1 p.2)
    have h2 : (putK kvs p.1 p.2).length ≤ kvs.length + 1 := by
      unfold putK
      split <;> simp
    show (mergeK (putK kvs p.1 p.2) more).length ≤ _
    rw [List.length_cons]
    omega
theorem de_dupd (m : M1 X o "update" apos e cpos) (ho : PE X o (Le X.K F₀ td)) (he : PE X e (Le X.K F₀ tm)) : PE X (.Call (.Attribute o "update" apos) [e] [] cpos) (Le X.K F₀ (dDUpd td tm)) := by
  refine ⟨fun pins s σ H Q I ⟨δ, F, G, Q', s0, en, w, q, k⟩ => ?_⟩
  refine wpAny_Call_method m.base m.few m.line PySem.F.plainAttrs_dict PySem.F.slot_dict_update PySem.F.type_dict_update (thn (le_run ho I s0 en w q) fun u s1 ⟨v1, H1, I1, r1, x, F1, G1, sa, w1, rx, hx, q1⟩ => ?_)
  obtain ⟨a0, kvs0, rfl, e0⟩ := hx
  cases rx
  obtain rfl : u = .ref a0 := r1
  obtain ⟨_, vs0, hH0, _⟩ := w1.mu _ _ e0
  have dg : DGet H1 a0 (kV (.inl 0)) _ := DGet.k (k := .inl 0) hH0
  refine ⟨dict_typeIs I1 dg, dict_noDict I1 dg, ?_⟩
  rw [m.trees]
  refine Calls.callWith_builtin rfl (Calls.evalArgs_plain (Calls.spliced_cons (thn (le_run he I1 (s0.trans sa) (en.mono sa) w1 q1) fun iv s2 ⟨v2, H2, I2, r2, y, F2, G2, sb, w2, ry, a, kvs, b, more, e3, e4, h1, h2, hab, hsz, q2⟩ => Calls.spliced_nil ?_)))
  cases e3
  subst e4
  cases ry
  obtain rfl : iv = .ref b := r2
  obtain ⟨fa, vs, hH, rk⟩ := w2.mu _ _ h1
  obtain ⟨fb, ms, hHb, rkb⟩ := w2.mu _ _ h2
  obtain ⟨_, _, ws, kv, dd⟩ := dk_of I2.hok hH
  obtain ⟨_, hsb, xs, kvb, ddb⟩ := dk_of I2.hok hHb
  have dg2 : DGet H2 a0 (kV (.inl 0)) _ := DGet.k (k := .inl 0) hH
  have l1 : ws.length = kvs.length := by rw [← Paired.length kv, rk.len]
  have l2 : xs.length = more.length := by rw [← Paired.length kvb, rkb.len]
  refine call_meetsIn PySem.F.slot_dict_update (dict_typeIs I2 dg2) PySem.F.entry_dict_update (PySem.F.args_dict_update_2 _ _) (meets_dict_update (mixKind X.prog X.w) _ _ hab hsb) ⟨ws, xs, dd, ddb, by omega, fun h' d1 d2 sbu => ?_⟩
  have hkv := KV.merge kvb kv
  refine ⟨.non, _, d_write (ob := .dK (mergeK vs ms)) I2 (by rw [hH]; trivial) sbu (by obtain ⟨on, _, _, ho2, _⟩ := d1; exact ⟨on, ho2⟩) ⟨?_, ?_, _, hkv, d1⟩, rfl, k .non _ F2 _ _ (sa.trans sb) (w2.put (g := .dct (mergeD kvs more)) fa ⟨_, upd_same, Rpk.merge rkb rk⟩) .non q2⟩
  · have := mergeK_len (kvs := vs) (more := ms)
    rw [rk.len, rkb.len] at this
    omega
  · exact (dk_of I2.hok hH).2.1
end
/-! ### d.update(other), keys tuples -/
def dNUpd2 (td tm : DE) : DE := fun δ G Q => td δ G fun x G1 => (nOf x G1).isSome = true ∧ tm δ G1 fun y G2 => ∃ a o kvs b o2 more, nOf x G2 = some (a, o, kvs) ∧ nOf y G2 = some (b, o2, more) ∧ a ≠ b ∧ (kvs ≠ [] ∨ ∀ p ∈ more, thKey p.1) ∧ kvs.length + more.length ≤ sizeLine ∧ ∀ o', Q .non (gu G2 a (.dctN o' (mergeN kvs more)))
section
variable {X : Cx} {F₀ : Hp} {o e : Expr} {apos cpos : Pos} {td tm : DE}
theorem relN_keys {K : PySem.W.Frag} {F : Hp} : ∀ {kvs : List (NestedKey × D)} {xs : List (NestedKey × Addr × Value)}, Paired (RelN K F) kvs xs → xs.map (·.1) = kvs.map (·.1)
  | _, _, .nil => rfl
  | _, _, .cons h t => by rw [List.map_cons, List.map_cons, relN_keys t, h.1]
theorem relN_tup {pins : List (Addr × Obj)} {σ : L2.St} {H : Hp} {F : Hp} {s : Shared} (I : Inv X pins σ H s) (sF : Same F H) : ∀ {kvs : List (NestedKey × D)} {xs : List (NestedKey × Addr × Value)}, Paired (RelN X.K F) kvs xs → (∀ p ∈ kvs, thKey p.1) → ∀ x ∈ xs, s.TypeIs (Value.ref x.2.1) "tuple"
  | _, _, .nil, _, x, hx => nomatch hx
  | _, _, .cons (a := p) (b := q) h t, hk, x, hx => by
    rcases List.mem_cons.mp hx with rfl | hx
    · obtain ⟨_, _, _, _, e⟩ := hk p List.mem_cons_self
      obtain ⟨_, h2, _⟩ := h
      rw [e] at h2
      have h2 : Rp X.K F (.tup (nkDs _)) (.ref x.2.1) := h2
      cases h2 with
      | tup s1 _ =>
        obtain ⟨its, _, p, _⟩ := I.tuple (sqT_mono sF s1)
        exact p.typeIs
    · exact relN_tup I sF t (fun z hz => hk z (List.mem_cons_of_mem _ hz)) x hx
theorem de_nupd2 (hu : X.A.in1.units + 8 < cLine) (m : M1 X o "update" apos e cpos) (ho : PE X o (Le X.K F₀ td)) (he : PE X e (Le X.K F₀ tm)) : PE X (.Call (.Attribute o "update" apos) [e] [] cpos) (Le X.K F₀ (dNUpd2 td tm)) := by
  refine ⟨fun pins s σ H Q I ⟨δ, F, G, Q', s0, en, w, q, k⟩ => ?_⟩
  refine wpAny_Call_method m.base m.few m.line PySem.F.plainAttrs_dict PySem.F.slot_dict_update PySem.F.type_dict_update (thn (le_run ho I s0 en w q) fun u s1 ⟨v1, H1, I1, r1, x, F1, G1, sa, w1, rx, hx, q1⟩ => ?_)
  obtain ⟨⟨a0, o0, kvs0⟩, e0⟩ := Option.isSome_iff_exists.mp hx
  obtain ⟨rfl, rfl, fa0, nd0, _⟩ := nOf_ok w1 rx e0
  obtain rfl : u = .ref a0 := r1
  obtain ⟨t1, t2⟩ := n_ty I1 w1.fz nd0
  refine ⟨t1, t2, ?_⟩
  rw [m.trees]
  refine Calls.callWith_builtin rfl (Calls.evalArgs_plain (Calls.spliced_cons (thn (le_run he I1 (s0.trans sa) (en.mono sa) w1 q1) fun iv s2 ⟨v2, H2, I2, r2, y, F2, G2, sb, w2, ry, a, ob, kvs, b, ob2, more, hn, hn2, hab, hne, hsz, q2⟩ => Calls.spliced_nil ?_)))
  obtain ⟨e3, e4, fa, nd, hG⟩ := nOf_ok w2 (rx.mono sb) hn
  cases e4
  obtain ⟨rfl, rfl, fb, nd2, hG2⟩ := nOf_ok w2 ry hn2
  obtain rfl : iv = .ref b := r2
  obtain ⟨xs, dd, rel, hxl, mu⟩ := nd_at I2 w2.fz nd
  obtain ⟨ys, dd2, rel2, hyl, _⟩ := nd_at I2 w2.fz nd2
  have hxn : xs ≠ [] ∨ ((∀ x ∈ ys, s2.TypeIs (Value.ref x.2.1) "tuple") ∧ (ys.map fun x => (nestedKind X.prog X.w).hash x.1).Nodup) := by
    rcases hne with hne | hne
    · exact .inl fun z => hne (List.length_eq_zero_iff.mp (by rw [← hxl, z]; rfl))
    · refine .inr ⟨relN_tup I2 w2.fz rel2 hne, ?_⟩
      have hnd : (ys.map (·.1)).Nodup := by
        obtain ⟨_, _, _, _, _, _, _, _, h⟩ := dd2
        exact h
      have := thKey_nd (w := X.w) hnd fun q hq => by
        rw [relN_keys rel2] at hq
        obtain ⟨p, hp, rfl⟩ := List.mem_map.mp hq
        exact hne p hp
      rw [List.map_map] at this
      exact this
  refine call_update_dictH hu hab nd2.sm dd dd2 hxn (by omega) fun h' d1 d2 sbu => ?_
  obtain ⟨on, ho2, nd3⟩ := nd_new (H := H2) d1 nd.sm (Nat.le_trans mergeN_len hsz) (mergeN_keys nd.ks nd2.ks) (relN_merge rel2 rel)
  exact ⟨.non, _, d_write I2 mu sbu ⟨on, ho2⟩ (stO_ok ho2), rfl, k .non _ F2 _ _ (sa.trans sb) (w2.put (g := .dctN on _) fa nd3) .non (q2 on)⟩
def dAUpd (td tm tm2 : DE) : DE := dEiE (dNUpd2 td tm) (dDUpd td tm2)
theorem de_aupd {tm2 : DE} (h8 : X.A.in1.units + 8 < cLine) (m : M1 X o "update" apos e cpos) (ho : PE X o (Le X.K F₀ td)) (he : PE X e (Le X.K F₀ tm)) (he2 : PE X e (Le X.K F₀ tm2)) : PE X (.Call (.Attribute o "update" apos) [e] [] cpos) (Le X.K F₀ (dAUpd td tm tm2)) := de_ei (de_nupd2 h8 m ho he) (de_dupd m ho he2)
def rLenA (K : PySem.W.Frag) : List V → Hp → VK → Prop := fun xs H Q => rLenN K xs H Q ∨ ∃ a kvs, xs = [V.ref a] ∧ H a = some (HO.dK kvs) ∧ Q (V.int (kvs.length : Nat)) H
theorem call_lenA : CallR X (.builtin "len") (rLenA X.K) := by
  intro pins s σ H xs us Q I r h
  rcases h with h | h
  · exact call_lenN pins s σ H xs us Q I r h
  · exact call_lenD pins s σ H xs us Q I r h
def dLenAn : List D → Gp → DK → Prop := fun xs G Q => dLenN xs G Q ∨ dLenD xs G Q
theorem cd_lenA {K : PySem.W.Frag} : CallD K F₀ dLenAn (rLenA K) := by
  intro F G H xs vs Q' Q s0 w r q k
  rcases q with q | q
  · exact .inl (cd_lenN F G H xs vs Q' Q s0 w r q k)
  · exact .inr (cd_lenD F G H xs vs Q' Q s0 w r q k)
end
end DL

/-! sorted of a list of data, of the list of one empty tuple too. -/
namespace DL
open PySem PySem.Spec PyProof.Rows L2
open PySem.W (EachIs AllAlike Sortable dataLe dataKind SortsAt sortVals)
theorem ne_dataLt : PySem.W.dataLt (.tuple []) (.tuple []) = false := by
  rw [PySem.W.dataLt_tuple]
  unfold PySem.W.keyToksAll
  rfl
theorem alike_nil : PySem.W.alike (.tuple []) (.tuple []) = true := by simp [PySem.W.alike, PySem.W.alikeAll]
theorem all_nil : AllAlike [PyData.tuple []] := by
  intro d hd d' hd'
  rw [List.mem_singleton.mp hd, List.mem_singleton.mp hd']
  exact alike_nil
theorem sorts_nil {prog : Program} {w : World} {A : Around} {s : Shared} {v : Value} {as : List Addr} (r : Reads s.heap v (.tuple []) as) (hu : A.units + 1 < cLine) : SortsAt prog w A s (dataKind s.heap [PyData.tuple []]) [v] := by
  refine ⟨fun u hu => ?_, tuples' true, ?_, fun h2 => absurd h2 (by simp)⟩
  · rw [List.mem_singleton.mp hu]
    exact ⟨_, PySem.W.dataKind_some all_nil (List.mem_singleton_self _) r⟩
  · intro E x y a b Q ha hb hq
    obtain ⟨d, as1, hd, ra, rfl⟩ := PySem.W.dataKind_inv ha
    obtain ⟨d', as2, hd', rb, rfl⟩ := PySem.W.dataKind_inv hb
    obtain rfl := List.mem_singleton.mp hd
    obtain rfl := List.mem_singleton.mp hd'
    have hq' : Q (PySem.W.dataLt (.tuple []) (.tuple [])) s := hq
    rw [PySem.W.dataLt_tuple] at hq'
    cases ra with
    | @tuple l o xs n _ _ h1 h2 h3 h4 =>
      cases rb with
      | @tuple l' o' xs' n' _ _ k1 k2 k3 k4 =>
        have n1 : xs.size = ([] : List PyData).length := by simpa using SeqAt.ReadsAll.length _ _ _ h4
        have n2 : xs'.size = ([] : List PyData).length := by simpa using SeqAt.ReadsAll.length _ _ _ k4
        refine PySem.W.kat_lt h1 h3 k1 k3 (PySem.W.katLex_alike [] [] 0 _ _ _ _ h4 k4 (by simp [PySem.W.alikeAll]) (by simp [PyData.depthAll]; omega) (fun _ _ x r t ex => by cases ex) (by rw [n1, n2]) hq')
def OneE (ds : List D) : Prop := ds = [.tup []]
def rSortO (K : PySem.W.Frag) : List V → Hp → VK → Prop := fun vs H Q => ∃ (F : Hp) (a : Addr) (ds : List D) (xs : List V), vs = [V.ref a] ∧ Same F H ∧ SqL K H a xs ∧ Rps K F ds xs ∧ (SortOk ds ∨ OneE ds) ∧
  ∀ ys p, H p = none → Rps K F (sortD ds) ys → Q (.ref p) (upd H p (.lst ys))
section
variable {X : Cx}
theorem cr_sortO (hc : X.calm = true) (hu : X.A.units + 60 < cLine) : CallR X (.builtin "sorted") (rSortO X.K) := by
  intro pins s σ H vs us Q I r ⟨F, a, ds, xs, e0, sF, hs, rp, hso, q⟩
  rcases hso with so | e1
  · exact cr_sortN hc hu pins s σ H vs us Q I r ⟨F, a, ds, e0, sF, .inl ⟨xs, hs, rp⟩, so, q⟩
  subst e0
  rw [Vals.ref1 r]
  have e1 : ds = [.tup []] := e1
  subst e1
  obtain ⟨its, rv, hl, hz⟩ := I.list hs
  have he := each_rp rp rv
  have enc1 : encD (.tup []) = PyData.tuple [] := rfl
  have er := each_reads I sF (ds := [D.tup []]) (fun d hd => by rw [List.mem_singleton.mp hd]; exact ⟨.tuple [], rfl, by unfold PyData.depth PyData.depthAll; decide⟩) he
  have hal : AllAlike ([D.tup []].map encD) := all_nil
  have hlen : its.length = 1 := by rw [he.length]; rfl
  have er' : EachIs (fun v b => ∃ as, Reads (PySem.W.sortingHeap (PySem.W.copyHeap s.heap its) (s.heap.objs.size + 1) its) v (encD b) as) its [D.tup []] := er.mono fun _ _ ⟨as, r⟩ => ⟨as, PyProof.Rows.Reads.keeps (fun _ _ => PySem.W.sorting_copy_old) r⟩
  have S : SortsAt X.prog X.w X.A.in1.in1 { s with heap := PySem.W.sortingHeap (PySem.W.copyHeap s.heap its) (s.heap.objs.size + 1) its } (dataKind (PySem.W.sortingHeap (PySem.W.copyHeap s.heap its) (s.heap.objs.size + 1) its) [PyData.tuple []]) its := by
    cases er' with
    | cons h t =>
      cases t with
      | nil =>
        obtain ⟨as, h⟩ := h
        refine sorts_nil h ?_
        have e4 : X.A.in1.in1.units = X.A.units + 2 := rfl
        omega
  refine PySem.W.sorted_vals hl.isList S (by rw [hlen]; decide) ?_
  have h2 := PySem.W.sortVals_data false he er' hal
  obtain ⟨ep, he'⟩ := PyProof.Rows.sortedAll_at s.heap its (sortVals (dataKind (PySem.W.sortingHeap (PySem.W.copyHeap s.heap its) (s.heap.objs.size + 1) its) [PyData.tuple []]) false its its).toArray
  obtain ⟨ys, r1, r2⟩ := rp_each h2
  have hlen2 : ys.length ≤ sizeLine := by rw [← r1.length, List.length_mergeSort]; decide
  exact ⟨.ref _, upd H (s.heap.objs.size + 1) (.lst ys), I.laid (t' := s.toks) (fun _ _ => PyProof.Rows.sortedAll_old) (Nat.le_succ _) ⟨hlen2, _, ep, r2, he'⟩, rfl, q ys _ (I.hok.fresh (Nat.le_succ _)) r1⟩
end
def dSortO (m : Bool) : List D → Gp → DK → Prop := fun xs G Q => match xs with
  | [x] => match rlOf x G with
    | some ds => (SortOk ds ∨ OneE ds) ∧ nL m (sortD ds) G Q
    | none => False
  | _ => False
section
variable {K : PySem.W.Frag} {F₀ : Hp}
theorem cd_sortO (m : Bool) : CallD K F₀ (dSortO m) (rSortO K) := by
  intro F G H xs vs Q' Q s0 w r q k
  unfold dSortO at q
  split at q
  · rename_i x
    obtain ⟨v, rfl, rx⟩ := rps1 r
    split at q
    · rename_i ds e2
      obtain ⟨a, us, rfl, sq, rs⟩ := rlOf_ok w rx e2
      exact ⟨F, a, ds, us, rfl, w.fz, sq, rs, q.1, fun zs p hp rz => nL_ok w hp rz q.2 k⟩
    · exact q.elim
  · exact q.elim
end
theorem sortD_one {d : D} : sortD [d] = [d] := by
  unfold sortD
  exact List.mergeSort_singleton d
/-! ### tuple(range(a)) -/
def dTupRg1 (t : DE) : DE := fun δ G Q => t δ G fun x G1 => match x with | .int n => RgOk 0 n ∧ Q (.tup (rgD 0 n)) G1 | _ => False
section
variable {X : Cx} {F₀ : Hp} {ta : DE} {a : Expr} {p pos p2 pos2 : Pos}
theorem de_tupRg1 (hc : X.calm = true) (hg : Gl X "tuple") (hm : X.mg "tuple" = none) (hg2 : Gl X "range") (hm2 : X.mg "range" = none) (ha : PE X a (Le X.K F₀ ta))
    (na : starEach [a] X.env = (false, eval a X.env) :: starEach [] X.env := by rfl) (nb : starEach [Expr.Call (.Name "range" p2) [a] [] pos2] X.env = (false, eval (Expr.Call (.Name "range" p2) [a] [] pos2) X.env) :: starEach [] X.env := by rfl) :
    PE X (.Call (.Name "tuple" p) [.Call (.Name "range" p2) [a] [] pos2] [] pos) (Le X.K F₀ (dTupRg1 ta)) := pe_imp (pe_tupRg hc hg hm (prg_1 hg2 hm2 ha na) nb) fun σ H Q ⟨δ, F, G, Q', s, en, w, q, k⟩ => by
  refine ⟨δ, F, G, _, s, en, w, q, fun x v F1 G1 H1 s1 w1 r1 q1 => ?_⟩
  split at q1
  · cases r1
    exact ⟨_, rfl, q1.1, fun p hp => nT_ok w1 hp (rgD_rp _ _) q1.2 (k.mono s1)⟩
  · exact q1.elim
end
end DL

/-! sorted of a tuple of data. -/
namespace DL
open PySem PySem.Spec PyProof.Rows L2
open PySem.W (EachIs AllAlike Sortable dataLe dataKind SortsAt sortVals)
def rSortT (K : PySem.W.Frag) : List V → Hp → VK → Prop := fun vs H Q => ∃ (F : Hp) (a : Addr) (ds : List D) (xs : List V), vs = [V.ref a] ∧ Same F H ∧ SqT K H a xs ∧ Rps K F ds xs ∧ SortOk ds ∧
  ∀ ys p, H p = none → Rps K F (sortD ds) ys → Q (.ref p) (upd H p (.lst ys))
section
variable {X : Cx}
theorem cr_sortT (hu : X.A.units + 60 < cLine) : CallR X (.builtin "sorted") (rSortT X.K) := by
  intro pins s σ H vs us Q I r ⟨F, a, ds, xs, e0, sF, hs, rp, ⟨hp, hal, hso, hsz⟩, q⟩
  subst e0
  rw [Vals.ref1 r]
  obtain ⟨its, rv, pl, hz⟩ := I.tuple hs
  have hk := each_rp rp rv
  have hlen0 : its.length = ds.length := hk.length
  obtain ⟨o, ho, hc, n, hd⟩ := pl
  refine Calls.call_function_entry PyProof.Rows.kind_sorted PyProof.Rows.plain_sorted PyProof.Rows.entry_sorted (PyProof.Rows.args_sorted1 _) ?_
  unfold Builtin.«sorted»
  refine wpAny_bind (m := checkCount "sorted" 1 1 _) (wpAny_pure ?_)
  refine wpAny_bind (wpAny_collect_seq a (.inr rfl) ho hc hd (fun h' hkp => ?_) (by rw [List.size_toArray, hlen0]; exact hsz))
  rw [show its.toArray.toList = its by simp]
  have I1 : Inv X pins σ H { s with heap := h' } := I.kept (t' := s.toks) hkp
  have hL : its.length ≤ sizeLine := by rw [hlen0]; exact hsz
  refine wpAny_bind (wpAny_newList ?_ hL)
  have hoL : (h'.push (PyProof.Rows.seqObj "list" its.toArray 0)).get? h'.objs.size = some (PyProof.Rows.seqObj "list" its.toArray 0) := Heap.get?_push_size _ rfl
  have I2 : Inv X pins σ H { s with heap := h'.push (PyProof.Rows.seqObj "list" its.toArray 0) } := I1.kept (t' := s.toks) fun b o e => Heap.get?_push_of_some _ e
  show wpAny _ _ _ _ _ { s with heap := h'.push (PyProof.Rows.seqObj "list" its.toArray 0) }
  have er := each_reads I2 sF hp hk
  have er2 : EachIs (fun v b => ∃ as, Reads (PySem.W.sortingHeap (h'.push (PyProof.Rows.seqObj "list" its.toArray 0)) h'.objs.size its) v (encD b) as) its ds := by
    refine (each_reads I1 sF hp hk).mono fun v b ⟨as, rd⟩ => ⟨as, PyProof.Rows.Reads.keeps (fun c o e => ?_) rd⟩
    exact PySem.W.sortingHeap_old (Nat.ne_of_lt (Heap.lt_size e)) (Heap.get?_push_of_some _ e)
  refine wpAny_bind (wpAny_holding (wpAny_call_entry PyProof.Rows.slot_list_sort ⟨_, hoL, rfl⟩ PyProof.Rows.entry_list_sort
    (PySem.W.list_sort_vals (s := { s with heap := h'.push (PyProof.Rows.seqObj "list" its.toArray 0) }) hoL (SortsAt.data (PySem.W.each_map (R := fun v d => ∃ as, Reads _ v d as) encD er2) hal hso (fun d hd => ?_)) hL ⟨_, rfl, ?_⟩) (PyProof.Rows.args_list_sort _)))
  · obtain ⟨b, hb, rfl⟩ := List.mem_map.mp hd
    have := enc_depth hp b hb
    show X.A.in1.in1.units + (encD b).depth < cLine
    have e4 : X.A.in1.in1.units = X.A.units + 2 := rfl
    omega
  · have so := PySem.W.sortVals_data (R := fun u d => ∃ v, RelV v u ∧ Rp X.K F d v) false hk er2 hal
    obtain ⟨ys, r1, r2⟩ := rp_each so
    generalize hout : PySem.W.sortVals (dataKind _ (ds.map encD)) false its its = out at so r2 ⊢
    obtain ⟨ep2, he'⟩ := PyProof.Rows.sortedHeap_at (vs := its) (out := out.toArray) hoL
    have hlen : ys.length ≤ sizeLine := by rw [← r1.length, List.length_mergeSort]; exact hsz
    have nH : H h'.objs.size = none := I1.hok.fresh (Nat.le_refl _)
    refine wpAny_pure ⟨_, rfl, .ref _, upd H h'.objs.size (.lst ys), I1.laid (t' := s.toks) (fun b o e => ?_) (Nat.le_refl _) ⟨hlen, out, ep2, r2, he'⟩, rfl, q ys _ nH r1⟩
    show (PyProof.Rows.sortedHeap (h'.push (PyProof.Rows.seqObj "list" its.toArray 0)) h'.objs.size its out.toArray).get? b = some o
    rw [PyProof.Rows.sortedHeap_old (Nat.ne_of_lt (Heap.lt_size e)) (Heap.lt_size (Heap.get?_push_of_some _ e))]
    exact Heap.get?_push_of_some _ e
end
def dSortT (m : Bool) : List D → Gp → DK → Prop := fun xs G Q => match xs with
  | [.tup ds] => SortOk ds ∧ nL m (sortD ds) G Q
  | _ => False
section
variable {K : PySem.W.Frag} {F₀ : Hp}
theorem cd_sortT (m : Bool) : CallD K F₀ (dSortT m) (rSortT K) := by
  intro F G H xs vs Q' Q s0 w r q k
  unfold dSortT at q
  split at q
  · rename_i ds
    obtain ⟨v, rfl, rx⟩ := rps1 r
    cases rx with
    | tup a b => exact ⟨F, _, ds, _, rfl, w.fz, sqT_mono w.fz a, b, q.1, fun zs p hp rz => nL_ok w hp rz q.2 k⟩
  · exact q.elim
end
end DL

/-! max of whole numbers in a list or a tuple, min of a list of whole numbers. -/
namespace DL
open PySem PySem.Spec PyProof.Rows L2
section
variable {prog : Program} {w : World} {A : Around} {E : Value → Shared → Prop} {s : Shared} {t : Addr}
theorem max_intTup {xs : Array (Int × Tok)} {Q : Value → Shared → Prop} (hh : A.handled = none) (ht : s.heap.IsTuple t (intItems xs)) (hne : 0 < xs.size)
    (h : ∀ v h' tk, (intItems xs)[argBest (fun i j => decide (numAt xs i > numAt xs j)) (xs.size - 1)]? = some v → (∀ b o, s.heap.get? b = some o → h'.get? b = some o) → Q v { s with heap := h', toks := tk }) :
    wpAny (model prog w) A (call (.builtin "max") [.ref t]) Q E s := by
  obtain ⟨o, ho, hc, n, hd⟩ := id ht
  have hn2 : t ≠ s.heap.objs.size := Nat.ne_of_lt (Heap.lt_size ho)
  refine call_max_walk (wpAny_pyIter_tuple ht ?_)
  refine ⟨_, _, _, _, _, _, _, rfl, Walks.tuple (A := A.in1) hh _ t hn2 (intItems xs), ⟨⟨_, Heap.get?_push_size _ rfl, rfl, rfl⟩, ht.at fun o e => Heap.get?_push_of_some _ e⟩, fun b hb => ?_, by simpa [intItems] using hne, CmpOf.ints_gt (numAt xs) (fun _ _ => intItems_at), fun v h' tk hP hk => ?_⟩
  · rcases List.mem_cons.mp hb with rfl | hb
    · exact Heap.lt_size (Heap.get?_push_size _ rfl)
    · obtain rfl := List.mem_singleton.mp hb
      exact Heap.lt_size (Heap.get?_push_of_some _ ho)
  · refine h v h' tk (by simpa [intItems] using hP) fun b o e => hk b o (fun hm => ?_) (Heap.get?_push_of_some _ e)
    exact absurd (List.mem_singleton.mp hm ▸ Heap.lt_size e) (Nat.lt_irrefl _)
theorem max_rawT {its : List Value} {ns : List Int} {Q : Value → Shared → Prop} (hh : A.handled = none) (hl : s.heap.IsTuple t its.toArray) (hi : IntsAre its ns) (hne : 0 < ns.length)
    (h : ∀ h' tk M t', (∀ b o, s.heap.get? b = some o → h'.get? b = some o) → M ∈ ns → (∀ a, a ∈ ns → a ≤ M) → Q (.int M t') { s with heap := h', toks := tk }) : wpAny (model prog w) A (call (.builtin "max") [.ref t]) Q E s := by
  obtain ⟨xs, e⟩ := hi.allInts.items
  have hn : numsOf (intItems xs).toList = ns := by rw [← e]; exact hi.numsOf
  rw [nums_intItems] at hn
  subst hn
  rw [e] at hl
  have hsz : 0 < xs.size := by simpa using hne
  refine max_intTup hh hl hsz fun v h' tk hv hk => ?_
  obtain ⟨t, rfl⟩ := intItems_at hv
  obtain ⟨h1, h2⟩ := argBest_gt (numAt xs) (xs.size - 1)
  refine h h' tk _ t hk ?_ fun a ha => ?_
  · rw [numAt_eq]; exact PySem.getD_mem (by rw [List.length_map, Array.length_toList]; omega)
  · obtain ⟨j, hj, rfl⟩ := mem_getD ha
    rw [List.length_map, Array.length_toList] at hj
    rw [← numAt_eq]; exact h2 j (by omega)
end
def rMaxA (K : PySem.W.Frag) : List V → Hp → VK → Prop := fun vs H Q => rMax K vs H Q ∨ ∃ (a : Addr) (ns : List Int), vs = [V.ref a] ∧ SqT K H a (ns.map V.int) ∧ 0 < ns.length ∧ ∀ m, m ∈ ns → (∀ y, y ∈ ns → y ≤ m) → Q (.int m) H
theorem cr_maxA {X : Cx} (hc : X.calm = true) : CallR X (.builtin "max") (rMaxA X.K) := (cr_max hc).or (by
  intro pins s σ H vs us Q I r h
  obtain ⟨a, ns, rfl, hs, hne, q⟩ := h
  obtain ⟨its, rv, ht, _⟩ := I.tuple hs
  rw [Vals.ref1 r]
  exact max_rawT (I.ok.hd hc) (show s.heap.IsTuple a its.toArray from ht) rv.ints hne fun h' tk m t' hk h1 h2 => ⟨.int _, H, I.kept hk, ⟨_, rfl⟩, q m h1 h2⟩)
/-- max of whole numbers -/
def dMaxA : List D → Gp → DK → Prop := fun xs G Q => match xs with
  | [x] => match seqOf x G with
    | some ys => match intsOf ys with
      | some bs => 0 < bs.length ∧ ∀ m, m ∈ bs → (∀ y, y ∈ bs → y ≤ m) → Q (.int m) G
      | none => False
    | none => False
  | _ => False
theorem cd_maxA {K : PySem.W.Frag} {F₀ : Hp} : CallD K F₀ dMaxA (rMaxA K) := by
  intro F G H xs vs Q' Q s w rx q k
  unfold dMaxA at q
  split at q
  · obtain ⟨v, rfl, r⟩ := rps1 rx
    split at q
    · rename_i ys e
      obtain ⟨a, us, rfl, hs, rs⟩ := seqOf_ok w r e
      split at q
      · rename_i bs e2
        have e3 := intsOf_eq e2
        subst e3
        rw [rs.ints] at hs
        have q2 : ∀ m, m ∈ bs → (∀ y, y ∈ bs → y ≤ m) → Q (.int m) H := fun m h1 h2 => k _ _ F G H (Same.refl F) w (.int _) (q.2 m h1 h2)
        rcases hs with hs | hs
        · exact .inl ⟨a, bs, rfl, hs, q.1, q2⟩
        · exact .inr ⟨a, bs, rfl, hs, q.1, q2⟩
      · exact q.elim
    · exact q.elim
  · exact q.elim
/-- min of a list of whole numbers -/
def dMinL : List D → Gp → DK → Prop := fun xs G Q => match xs with
  | [x] => match lstOf x G with
    | some ys => match intsOf ys with
      | some bs => 0 < bs.length ∧ ∀ m, m ∈ bs → (∀ y, y ∈ bs → m ≤ y) → Q (.int m) G
      | none => False
    | none => False
  | _ => False
theorem cd_minL {K : PySem.W.Frag} {F₀ : Hp} : CallD K F₀ dMinL (rMin K) := by
  intro F G H xs vs Q' Q s w rx q k
  unfold dMinL at q
  split at q
  · obtain ⟨v, rfl, r⟩ := rps1 rx
    split at q
    · rename_i ys e
      obtain ⟨a, us, rfl, hs, rs⟩ := lstOf_ok w r e
      split at q
      · rename_i bs e2
        have e3 := intsOf_eq e2
        subst e3
        rw [rs.ints] at hs
        exact ⟨a, bs, rfl, .inl (.inl hs), q.1, fun m h1 h2 => k _ _ F G H (Same.refl F) w (.int _) (q.2 m h1 h2)⟩
      · exact q.elim
    · exact q.elim
  · exact q.elim
end DL

namespace Tx
open PySem PySem.Spec PyProof.Rows L2 DL
local macro_rules | `(tactic| walk_at "dl") => `(tactic| (try simp only [endD, startD, dVar, dC, dOp, dB, dChain, dAnd, dOr, dNot, dAndV, dOrV, dNotV, dIf, dI, dI0, dSub, dDiv, dMod, dPow, dLt, dLe, dGt, dGe, w_nL_t, w_nL_f, aNil, aCons, dTup, dLst, dCB, w_isN, w_notN, isNoD_non, isNoD_int, isNoD_str, isNoD_bl, isNoD_tup, isNoD_lst, isNoD_ref,
  dUn, dNegR, dSl, oNone, oSome, dInt, dAbs, dMax2, dMin2, dCall, dNext, dAsg, dRet, dRetN, dDrop, dIfS, dBreak, dCont, dNever, gN, gsNil, gsCons, gT, dAsgG, dPar, dSetIx, dFor, dSeqI, dRange1, dRange2, dEnumX, dZipX, prs_enum, dLc, dYes, dMeL, dAppend, dPop, dPopAt, dExtend,
  dRevT, dDict0, dAugA, dAugIx, dRg1, dCount, dInsert, dRemI, gSb, dFld, dSetFld, dAugFld, dMeth, dMake, dPar3, dIsi2, dMin3, dCallL, dOrX, dIsB, dRg2, dNGet, dNIn, dNPut, dNNew, dDispN, dGet2, dSetd, dRemN, dNUpd, dKeysN, dDcN, dcL, dSortN, dLenN, dDIn, dDcK, dLenD, dDGet, dDPut, truD, w_isi2_tup, w_isi2_lst,
  w_len_str, w_len_tup, w_len_lst, w_len_scr, w_len_gu, w_ix_tup, w_ix_lst, w_ix_scr, w_ix_gu, w_got_0, w_got_1, w_got_2, w_got_3, w_got_4, w_add_int, w_add_str, w_add_tup, w_add_lst, w_mul_int, w_mul_tup, w_mul_lst, w_eq_int, w_eq_str, w_eq_bl, w_ne_int, w_ne_str, w_ne_bl, w_sum_tup, w_sum_lst, w_sum_map, w_sum_ints, w_bls_lst, w_bls_map, w_all_lst, w_any_lst,
  w_tupOf_tup, w_tupOf_lst, w_tupOf_scr, w_tupOf_gu, w_lstOf_tup, w_lstOf_lst, w_lstOf_scr, w_set_gu, w_setI_0, w_setI_1, w_setI_2, w_setI_3, w_setI_4, w_atL_gu, w_add_lg, w_add_gl, Option.isSome_some, w_draw,
  List.map_cons, List.map_nil, List.length_cons, List.length_nil, List.replicate, List.cons_append, List.nil_append, List.append_nil, List.getElem?_cons_zero, List.getElem?_cons_succ, List.set_cons_zero, List.set_cons_succ, wipeD, lst_lst, seq_gu, rl_gu, lst_gu, gu_same, gu_gu, blsOf_map, intsOf_map, intsOf_ints, all_map_id, any_map_id, Stays, Nat.add_sub_cancel, Nat.sub_self,
  if_true, if_false, Bool.false_eq_true, Bool.not_true, Bool.not_false, and_true, true_and, at_0, at_1, at_2, at_3, at_4, seq_lst, seq_tup, seq_scr, rl_lst, rl_scr]))
local macro_rules | `(tactic| walk_at "sd") => `(tactic| repeat (refine And.intro (by first | decide | omega | exact Nat.le_trans (by omega : _ ≤ 1000000) (by decide) | exact CPow.lit (by decide) | exact MulOk.l (by omega) (by omega) | exact MulOk.r (by omega) (by omega) | exact DivOk.lit (by omega) (by omega) | assumption) ?_))
local macro_rules | `(tactic| walk_at "all") => `(tactic| simp only [List.mem_cons, List.not_mem_nil, or_false, forall_eq_or_imp, forall_eq])
local macro_rules | `(tactic| walk_at "dx") => `(tactic| (try simp only [endD, startD, dVar, dC, dOp, dB, dChain, dAnd, dOr, dNot, dAndV, dOrV, dNotV, dIf, dI, dI0, dSub, dDiv, dMod, dPow, dLt, dLe, dGt, dGe, w_nL_t, w_nL_f, aNil, aCons, dTup, dLst, dCB, w_isN, w_notN, isNoD_non, isNoD_int, isNoD_str, isNoD_bl, isNoD_tup, isNoD_lst, isNoD_ref,
  dUn, dNegR, dSl, oNone, oSome, dInt, dAbs, dMax2, dMin2, dCall, dNext, dAsg, dRet, dRetN, dDrop, dIfS, dBreak, dCont, dNever, gN, gsNil, gsCons, gT, dAsgG, dPar, dSetIx, dFor, dSeqI, dRange1, dRange2, dEnumX, dZipX, prs_enum, dLc, dYes, dMeL, dAppend, dPop, dPopAt, dExtend,
  dRevT, dDict0, dAugA, dAugIx, dRg1, dCount, dInsert, dRemI, gSb, dFld, dSetFld, dAugFld, dMeth, dMake, dPar3, dIsi2, dMin3, dCallL, dOrX, dIsB, dRg2, dNGet, dNIn, dNPut, dNNew, dDispN, dGet2, dSetd, dRemN, dNUpd, dKeysN, dDcN, dcL, dSortN, dLenN, dDIn, dDcK, dLenD, dDGet, dDPut, truD, w_isi2_tup, w_isi2_lst,
  w_len_str, w_len_tup, w_len_lst, w_len_scr, w_len_gu, w_ix_tup, w_ix_lst, w_ix_scr, w_ix_gu, w_got_0, w_got_1, w_got_2, w_got_3, w_got_4, w_add_int, w_add_str, w_add_tup, w_add_lst, w_mul_int, w_mul_tup, w_mul_lst, w_eq_int, w_eq_str, w_eq_bl, w_ne_int, w_ne_str, w_ne_bl, w_sum_tup, w_sum_lst, w_sum_map, w_sum_ints, w_bls_lst, w_bls_map, w_all_lst, w_any_lst,
  w_tupOf_tup, w_tupOf_lst, w_tupOf_scr, w_tupOf_gu, w_lstOf_tup, w_lstOf_lst, w_lstOf_scr, w_set_gu, w_setI_0, w_setI_1, w_setI_2, w_setI_3, w_setI_4, w_atL_gu, w_add_lg, w_add_gl, Option.isSome_some, w_draw,
  List.map_cons, List.map_nil, List.length_cons, List.length_nil, List.replicate, List.cons_append, List.nil_append, List.append_nil, List.getElem?_cons_zero, List.getElem?_cons_succ, List.set_cons_zero, List.set_cons_succ, wipeD, lst_lst, seq_gu, rl_gu, lst_gu, gu_same, gu_gu, blsOf_map, intsOf_map, intsOf_ints, all_map_id, any_map_id, Stays, Nat.add_sub_cancel, Nat.sub_self,
  if_true, if_false, Bool.false_eq_true, Bool.not_true, Bool.not_false, and_true, true_and, at_0, at_1, at_2, at_3, at_4, seq_lst, seq_tup, seq_scr, rl_lst, rl_scr, dCallW, dMakeW, dCallG, dWay, dLam, dRaise, dRaiseF, ownW, dIsE, dXf, dTryAs, dCountF, dIndexF, dDisp, dPairs, dDPut, dDGet, dCallH, dTryOn]))
theorem gcd_step (a b : Int) : Int.gcd b (a % b) = Int.gcd a b := by
  rw [Int.gcd_comm a b, Int.emod_def]
  simp
/-- the greatest common part -/
abbrev sp_divisor : DSp := fun ds G Q _ => ∃ a b : Int, ds = [.int a, .int b] ∧ 0 ≤ b ∧ Q (.int (Int.gcd a b : Nat)) G
def t_divisor : DS :=
  (dSeq (dWhile (dB (dOp dNe (dVar 1) (dC (.int 0)))) (dPar 0 1 (aCons (dVar 1) (aCons (dOp dMod (dVar 0) (dVar 1)) aNil))))
  (dRet (dCB dAbs (aCons (dVar 0) aNil))))
theorem len_divisor : ∀ ds G Q E, sp_divisor ds G Q E → ds.length = ["one", "other"].length := by
  intro ds G Q E h
  first | (obtain ⟨rfl, _⟩ := h; rfl) | (obtain ⟨_, rfl, _⟩ := h; rfl) | (obtain ⟨_, _, rfl, _⟩ := h; rfl) | (obtain ⟨_, _, _, rfl, _⟩ := h; rfl) | (obtain ⟨_, _, _, _, rfl, _⟩ := h; rfl) | (obtain ⟨_, _, _, _, _, rfl, _⟩ := h; rfl) | (obtain ⟨_, _, _, _, _, _, rfl, _⟩ := h; rfl) | (obtain ⟨_, _, _, _, _, _, _, rfl, _⟩ := h; rfl) | (obtain ⟨_, _, _, _, _, _, _, _, rfl, _⟩ := h; rfl) | (obtain ⟨_, _, _, _, _, _, _, _, _, rfl, _⟩ := h; rfl) | (obtain ⟨_, _, _, _, _, _, _, _, _, _, rfl, _⟩ := h; rfl) | (obtain ⟨_, _, _, _, _, _, _, _, _, _, _, rfl, _⟩ := h; rfl) | (obtain ⟨_, _, _, _, _, _, _, _, _, _, _, _, rfl, _⟩ := h; rfl) | (obtain ⟨_, _, _, _, _, _, _, _, _, _, _, _, _, rfl, _⟩ := h; rfl) | (obtain ⟨_, _, _, _, _, _, _, _, _, _, _, _, _, _, rfl, _⟩ := h; rfl) | (obtain ⟨_, _, _, _, _, _, _, _, _, _, _, _, _, _, _, rfl, _⟩ := h; rfl)
theorem rd_divisor : ∀ ds G Q E', sp_divisor ds G Q E' → t_divisor (endD Q) (startD ["one", "other"] ds) G := by
  rintro ds G Q E' ⟨a, b, rfl, hb, q⟩
  unfold t_divisor
  refine dSeq_mk ?_
  walk_at "dl"
  refine ⟨fun k δ G' => ∃ x y : Int, δ = [some (.int x), some (.int y)] ∧ G' = G ∧ 0 ≤ y ∧ y.toNat = k ∧ Int.gcd x y = Int.gcd a b, ⟨_, _, _, rfl, rfl, hb, rfl, rfl⟩, ?_⟩
  rintro k δ G' ⟨x, y, rfl, rfl, hy, hk, hg⟩
  walk_at "dl"
  cases h : decide (y = 0) with
  | true =>
    have h := of_decide_eq_true h
    subst h
    walk_at "dl"
    rw [← hg, Int.gcd_zero_right] at q
    have e : (if x < 0 then -x else x) = ((x.natAbs : Nat) : Int) := by split <;> omega
    rw [← e] at q
    exact Rt.same q
  | false =>
    have h := of_decide_eq_false h
    walk_at "dl"
    refine ⟨by omega, ?_⟩
    have m0 := Int.emod_nonneg x h
    have m1 := Int.emod_lt_of_pos x (show 0 < y by omega)
    exact ⟨(x % y).toNat, by omega, _, _, rfl, m0, rfl, (gcd_step x y).trans hg⟩
theorem low_fr {a b : Int} (h1 : 0 < b) : fr (mkRat a b.toNat) = .tup [.int (a / (Int.gcd a b : Nat)), .int (b / (Int.gcd a b : Nat))] := by
  obtain ⟨y, rfl⟩ := Int.eq_ofNat_of_zero_le (Int.le_of_lt h1)
  obtain ⟨e1, e2⟩ := low_num (a := a) (b := y) (by omega)
  unfold fr
  rw [Int.toNat_natCast, e1, e2, Int.natCast_ediv]
  rfl
/-- a fraction in lowest terms -/
abbrev sp_lowest : DSp := fun ds G Q _ => ∃ a b : Int, ds = [.int a, .int b] ∧ (0 < b ∧ b.natAbs < 2 ^ 8000) ∧ Q (fr (mkRat a b.toNat)) G
def t_lowest : DS :=
  (dSeq (dAsg 2 (dCall sp_divisor X0 (aCons (dVar 0) (aCons (dVar 1) aNil))))
  (dRet (dTup (aCons (dOp dDiv (dVar 0) (dVar 2)) (aCons (dOp dDiv (dVar 1) (dVar 2)) aNil)))))
theorem len_lowest : ∀ ds G Q E, sp_lowest ds G Q E → ds.length = ["top", "bottom"].length := by
  intro ds G Q E h
  first | (obtain ⟨rfl, _⟩ := h; rfl) | (obtain ⟨_, rfl, _⟩ := h; rfl) | (obtain ⟨_, _, rfl, _⟩ := h; rfl) | (obtain ⟨_, _, _, rfl, _⟩ := h; rfl) | (obtain ⟨_, _, _, _, rfl, _⟩ := h; rfl) | (obtain ⟨_, _, _, _, _, rfl, _⟩ := h; rfl) | (obtain ⟨_, _, _, _, _, _, rfl, _⟩ := h; rfl) | (obtain ⟨_, _, _, _, _, _, _, rfl, _⟩ := h; rfl) | (obtain ⟨_, _, _, _, _, _, _, _, rfl, _⟩ := h; rfl) | (obtain ⟨_, _, _, _, _, _, _, _, _, rfl, _⟩ := h; rfl) | (obtain ⟨_, _, _, _, _, _, _, _, _, _, rfl, _⟩ := h; rfl) | (obtain ⟨_, _, _, _, _, _, _, _, _, _, _, rfl, _⟩ := h; rfl) | (obtain ⟨_, _, _, _, _, _, _, _, _, _, _, _, rfl, _⟩ := h; rfl) | (obtain ⟨_, _, _, _, _, _, _, _, _, _, _, _, _, rfl, _⟩ := h; rfl) | (obtain ⟨_, _, _, _, _, _, _, _, _, _, _, _, _, _, rfl, _⟩ := h; rfl) | (obtain ⟨_, _, _, _, _, _, _, _, _, _, _, _, _, _, _, rfl, _⟩ := h; rfl)
theorem rd_lowest : ∀ ds G Q E', sp_lowest ds G Q E' → t_lowest (endD Q) (startD ["top", "bottom", "by"] ds) G := by
  rintro ds G Q E' ⟨a, b, rfl, ⟨hb, hb2⟩, q⟩
  unfold t_lowest
  refine dSeq_mk ?_
  walk_at "dl"
  refine ⟨_, _, rfl, by omega, ?_⟩
  have g0 : 0 < Int.gcd a b := Int.gcd_pos_of_ne_zero_right _ (by omega)
  have g1 : ((Int.gcd a b : Nat) : Int) ≤ b := Int.le_of_dvd hb (Int.gcd_dvd_right _ _)
  have dv : ∀ i : Int, DivOk i ((Int.gcd a b : Nat) : Int) := fun i => div_8000 (by omega) (by omega)
  refine ⟨dv _, dv _, by decide, ?_⟩
  rw [low_fr hb] at q
  exact Rt.same q
/-- the sum of two fractions -/
abbrev sp_plus : DSp := fun ds G Q _ => ∃ x y : Rat, ds = [fr x, fr y] ∧ Sm x ∧ Sm y ∧ Q (fr (x + y)) G
def t_plus : DS :=
  (dRet (dCall sp_lowest X0 (aCons (dOp (dAdd false) (dOp (dMul false) (dOp dIx (dVar 0) (dC (.int 0))) (dOp dIx (dVar 1) (dC (.int 1)))) (dOp (dMul false) (dOp dIx (dVar 1) (dC (.int 0))) (dOp dIx (dVar 0) (dC (.int 1))))) (aCons (dOp (dMul false) (dOp dIx (dVar 0) (dC (.int 1))) (dOp dIx (dVar 1) (dC (.int 1)))) aNil))))
theorem len_plus : ∀ ds G Q E, sp_plus ds G Q E → ds.length = ["one", "other"].length := by
  intro ds G Q E h
  first | (obtain ⟨rfl, _⟩ := h; rfl) | (obtain ⟨_, rfl, _⟩ := h; rfl) | (obtain ⟨_, _, rfl, _⟩ := h; rfl) | (obtain ⟨_, _, _, rfl, _⟩ := h; rfl) | (obtain ⟨_, _, _, _, rfl, _⟩ := h; rfl) | (obtain ⟨_, _, _, _, _, rfl, _⟩ := h; rfl) | (obtain ⟨_, _, _, _, _, _, rfl, _⟩ := h; rfl) | (obtain ⟨_, _, _, _, _, _, _, rfl, _⟩ := h; rfl) | (obtain ⟨_, _, _, _, _, _, _, _, rfl, _⟩ := h; rfl) | (obtain ⟨_, _, _, _, _, _, _, _, _, rfl, _⟩ := h; rfl) | (obtain ⟨_, _, _, _, _, _, _, _, _, _, rfl, _⟩ := h; rfl) | (obtain ⟨_, _, _, _, _, _, _, _, _, _, _, rfl, _⟩ := h; rfl) | (obtain ⟨_, _, _, _, _, _, _, _, _, _, _, _, rfl, _⟩ := h; rfl) | (obtain ⟨_, _, _, _, _, _, _, _, _, _, _, _, _, rfl, _⟩ := h; rfl) | (obtain ⟨_, _, _, _, _, _, _, _, _, _, _, _, _, _, rfl, _⟩ := h; rfl) | (obtain ⟨_, _, _, _, _, _, _, _, _, _, _, _, _, _, _, rfl, _⟩ := h; rfl)
theorem rd_plus : ∀ ds G Q E', sp_plus ds G Q E' → t_plus (endD Q) (startD ["one", "other"] ds) G := by
  rintro ds G Q E' ⟨x, y, rfl, hx, hy, q⟩
  unfold t_plus fr
  walk_at "dl"
  obtain ⟨e, p, l⟩ := hx.dens hy
  refine ⟨hx.mul hy, hy.mul hx, hx.den hy, ?_⟩
  rw [e]
  refine ⟨_, _, rfl, ⟨by omega, by rw [Int.natAbs_natCast]; exact l⟩, ?_⟩
  rw [Int.toNat_natCast, mkRat_plus]
  exact Rt.same q
/-- a row of shares, as told -/
def shD (s : Int × List Int) : D := .tup [.int s.1, .tup (s.2.map D.int)]
/-- debts behind one more row of shares -/
def grow (s : Int × List Int) (xs : List Rat) : List Rat := (xs.zip s.2).map fun p => p.1 + mkRat p.2 s.1.toNat
/-- shares of which all is small -/
structure ShSm (s : Int × List Int) : Prop where
  b1 : 1 ≤ s.1
  b2 : s.1 ≤ 1000
  ln : s.2.length ≤ 1000
  tp : ∀ t ∈ s.2, 0 ≤ t ∧ t ≤ s.1
theorem sm_small {t b : Int} (h0 : 0 ≤ t) (h1 : t ≤ 1000) (hb : 0 < b) (hb2 : b ≤ 1000) : Sm (mkRat t b.toNat) := by
  obtain ⟨f1, f2, f3, f4⟩ := fq_num (N := t) (L := b.toNat) h0 (by omega)
  have e : (1000 : Nat) < 2 ^ 3000 := Nat.lt_of_lt_of_le (by decide : 1000 < 2 ^ 10) (Nat.pow_le_pow_right (by decide) (by decide))
  exact ⟨by omega, by omega⟩
abbrev sp_with_shares : DSp := fun ds G Q _ => ∃ (xs : List Rat) (s : Int × List Int), ds = [frts xs, shD s] ∧ ShSm s ∧ (∀ x ∈ xs, Sm x) ∧ Q (frts (grow s xs)) G
def t_with_shares : DS :=
  (dRet (dCB dTupleOf (aCons (dLc false (dZipX (aCons (dVar 0) (aCons (dOp dIx (dVar 1) (dC (.int 1))) aNil))) (gT 2 (gsCons (gN 2) (gsCons (gN 3) gsNil))) dYes (dCall sp_plus X0 (aCons (dVar 2) (aCons (dCall sp_lowest X0 (aCons (dVar 3) (aCons (dOp dIx (dVar 1) (dC (.int 0))) aNil))) aNil))) [2, 3]) aNil)))
theorem len_with_shares : ∀ ds G Q E, sp_with_shares ds G Q E → ds.length = ["so_far", "shares"].length := by
  intro ds G Q E h
  first | (obtain ⟨rfl, _⟩ := h; rfl) | (obtain ⟨_, rfl, _⟩ := h; rfl) | (obtain ⟨_, _, rfl, _⟩ := h; rfl) | (obtain ⟨_, _, _, rfl, _⟩ := h; rfl) | (obtain ⟨_, _, _, _, rfl, _⟩ := h; rfl) | (obtain ⟨_, _, _, _, _, rfl, _⟩ := h; rfl) | (obtain ⟨_, _, _, _, _, _, rfl, _⟩ := h; rfl) | (obtain ⟨_, _, _, _, _, _, _, rfl, _⟩ := h; rfl) | (obtain ⟨_, _, _, _, _, _, _, _, rfl, _⟩ := h; rfl) | (obtain ⟨_, _, _, _, _, _, _, _, _, rfl, _⟩ := h; rfl) | (obtain ⟨_, _, _, _, _, _, _, _, _, _, rfl, _⟩ := h; rfl) | (obtain ⟨_, _, _, _, _, _, _, _, _, _, _, rfl, _⟩ := h; rfl) | (obtain ⟨_, _, _, _, _, _, _, _, _, _, _, _, rfl, _⟩ := h; rfl) | (obtain ⟨_, _, _, _, _, _, _, _, _, _, _, _, _, rfl, _⟩ := h; rfl) | (obtain ⟨_, _, _, _, _, _, _, _, _, _, _, _, _, _, rfl, _⟩ := h; rfl) | (obtain ⟨_, _, _, _, _, _, _, _, _, _, _, _, _, _, _, rfl, _⟩ := h; rfl)
theorem rd_with_shares : ∀ ds G Q E', sp_with_shares ds G Q E' → t_with_shares (endD Q) (startD ["so_far", "shares", "one", "top"] ds) G := by
  rintro ds G Q E' ⟨xs, ⟨b, ts⟩, rfl, hs, hx, q⟩
  have b1 : 1 ≤ b := hs.b1
  have b2 : b ≤ 1000 := hs.b2
  have hlen : ts.length ≤ 1000 := hs.ln
  have e8 : (1000 : Nat) < 2 ^ 8000 := Nat.lt_of_lt_of_le (by decide : 1000 < 2 ^ 10) (Nat.pow_le_pow_right (by decide) (by decide))
  unfold t_with_shares frts shD
  walk_at "dl"
  refine lc_src (xs.zip ts) (fun p => .tup [fr p.1, .int p.2]) (fun p => fr (p.1 + mkRat p.2 b.toNat)) (prs_zip _ _ _ _) (Nat.le_trans (by rw [List.length_zip]; omega : _ ≤ 1000) (by decide)) (fun _ _ _ => trivial) (fun p hp a ys Q' ha k => ?_) ?_
  · obtain ⟨h1, h2⟩ := List.of_mem_zip hp
    obtain ⟨t0, t1⟩ := hs.tp _ h2
    have t1 : p.2 ≤ b := t1
    walk_at "dl"
    refine ⟨_, _, rfl, ⟨by omega, by omega⟩, ?_⟩
    exact ⟨_, _, rfl, hx _ h1, sm_small t0 (by omega) (by omega) b2, k⟩
  · walk_at "dl"
    refine Rt.same ?_
    unfold frts grow at q
    rw [List.map_map] at q
    exact q
def bestOf (xs : List Rat) : List (Rat × Nat) → Nat → Nat
  | [], f => f
  | p :: r, f => bestOf xs r (if xs.getD f 0 < p.1 then p.2 else f)
/-- the first of the greatest -/
def taker (xs : List Rat) : Nat := bestOf xs xs.zipIdx 0
theorem zipIdx_lt {α : Type} {l : List α} {p : α × Nat} (h : p ∈ l.zipIdx) : p.2 < l.length := by
  obtain ⟨x, i⟩ := p
  have := (List.mem_zipIdx h).2.1
  simpa using this
theorem bestOf_lt {xs : List Rat} : ∀ {r : List (Rat × Nat)} {f : Nat}, (∀ p ∈ r, p.2 < xs.length) → f < xs.length → bestOf xs r f < xs.length
  | [], _, _, hf => hf
  | p :: r, f, h, hf => by
    unfold bestOf
    split
    · exact bestOf_lt (fun q hq => h q (List.mem_cons_of_mem _ hq)) (h p List.mem_cons_self)
    · exact bestOf_lt (fun q hq => h q (List.mem_cons_of_mem _ hq)) hf
theorem taker_lt {xs : List Rat} (h : 0 < xs.length) : taker xs < xs.length := bestOf_lt (fun _ hp => zipIdx_lt hp) h
theorem got_fr {xs : List Rat} {i : Nat} {G : Gp} {Q : DK} (h : i < xs.length) : gotI (xs.map fr) (i : Nat) G Q = Q (fr (xs.getD i 0)) G := by
  refine got_eq ?_
  rw [at_nat (by omega), Int.toNat_natCast, List.getElem?_map, List.getElem?_eq_getElem h, List.getD_eq_getElem?_getD, List.getElem?_eq_getElem h]
  rfl
theorem getD_mem {xs : List Rat} {i : Nat} (h : i < xs.length) : xs.getD i 0 ∈ xs := by
  rw [List.getD_eq_getElem?_getD, List.getElem?_eq_getElem h]
  exact List.getElem_mem h
abbrev sp_taker_of : DSp := fun ds G Q _ => ∃ xs : List Rat, ds = [frts xs] ∧ (∀ x ∈ xs, Sm x) ∧ 0 < xs.length ∧ Q (.int (taker xs : Nat)) G
/-- the difference of two fractions -/
abbrev sp_minus : DSp := fun ds G Q _ => ∃ x y : Rat, ds = [fr x, fr y] ∧ Sm x ∧ Sm y ∧ Q (fr (x - y)) G
def t_minus : DS :=
  (dRet (dCall sp_lowest X0 (aCons (dOp dSub (dOp (dMul false) (dOp dIx (dVar 0) (dC (.int 0))) (dOp dIx (dVar 1) (dC (.int 1)))) (dOp (dMul false) (dOp dIx (dVar 1) (dC (.int 0))) (dOp dIx (dVar 0) (dC (.int 1))))) (aCons (dOp (dMul false) (dOp dIx (dVar 0) (dC (.int 1))) (dOp dIx (dVar 1) (dC (.int 1)))) aNil))))
theorem len_minus : ∀ ds G Q E, sp_minus ds G Q E → ds.length = ["one", "other"].length := by
  intro ds G Q E h
  first | (obtain ⟨rfl, _⟩ := h; rfl) | (obtain ⟨_, rfl, _⟩ := h; rfl) | (obtain ⟨_, _, rfl, _⟩ := h; rfl) | (obtain ⟨_, _, _, rfl, _⟩ := h; rfl) | (obtain ⟨_, _, _, _, rfl, _⟩ := h; rfl) | (obtain ⟨_, _, _, _, _, rfl, _⟩ := h; rfl) | (obtain ⟨_, _, _, _, _, _, rfl, _⟩ := h; rfl) | (obtain ⟨_, _, _, _, _, _, _, rfl, _⟩ := h; rfl) | (obtain ⟨_, _, _, _, _, _, _, _, rfl, _⟩ := h; rfl) | (obtain ⟨_, _, _, _, _, _, _, _, _, rfl, _⟩ := h; rfl) | (obtain ⟨_, _, _, _, _, _, _, _, _, _, rfl, _⟩ := h; rfl) | (obtain ⟨_, _, _, _, _, _, _, _, _, _, _, rfl, _⟩ := h; rfl) | (obtain ⟨_, _, _, _, _, _, _, _, _, _, _, _, rfl, _⟩ := h; rfl) | (obtain ⟨_, _, _, _, _, _, _, _, _, _, _, _, _, rfl, _⟩ := h; rfl) | (obtain ⟨_, _, _, _, _, _, _, _, _, _, _, _, _, _, rfl, _⟩ := h; rfl) | (obtain ⟨_, _, _, _, _, _, _, _, _, _, _, _, _, _, _, rfl, _⟩ := h; rfl)
theorem rd_minus : ∀ ds G Q E', sp_minus ds G Q E' → t_minus (endD Q) (startD ["one", "other"] ds) G := by
  rintro ds G Q E' ⟨x, y, rfl, hx, hy, q⟩
  unfold t_minus fr
  walk_at "dl"
  obtain ⟨e, p, l⟩ := hx.dens hy
  refine ⟨hx.mul hy, hy.mul hx, hx.den hy, ?_⟩
  rw [e]
  refine ⟨_, _, rfl, ⟨by omega, by rw [Int.natAbs_natCast]; exact l⟩, ?_⟩
  rw [Int.toNat_natCast, mkRat_minus]
  exact Rt.same q
/-- debts where one person has got a thing -/
def pay (xs : List Rat) (p : Nat) : List Rat := xs.set p (xs.getD p 0 - 1)
theorem one_sm : Sm 1 := ⟨by decide, by decide⟩
theorem fr_one : fr 1 = .tup [.int 1, .int 1] := rfl
theorem set_cut {α : Type} {l : List α} {i : Nat} {v : α} (h : i < l.length) : l.take i ++ [v] ++ l.drop (i + 1) = l.set i v := by
  rw [List.set_eq_take_append_cons_drop, if_pos h, List.append_assoc]
  rfl
abbrev sp_paid : DSp := fun ds G Q _ => ∃ (xs : List Rat) (p : Nat), ds = [frts xs, .int (p : Nat)] ∧ (∀ x ∈ xs, Sm x) ∧ p < xs.length ∧ xs.length ≤ 1000 ∧ Q (frts (pay xs p)) G
def t_paid : DS :=
  (dRet (dOp (dAdd false) (dOp (dAdd false) (dSl false (dVar 0) oNone (oSome (dVar 1))) (dTup (aCons (dCall sp_minus X0 (aCons (dOp dIx (dVar 0) (dVar 1)) (aCons (dC (.tup [(.int 1), (.int 1)])) aNil))) aNil))) (dSl false (dVar 0) (oSome (dOp (dAdd false) (dVar 1) (dC (.int 1)))) oNone)))
theorem len_paid : ∀ ds G Q E, sp_paid ds G Q E → ds.length = ["debts", "person"].length := by
  intro ds G Q E h
  first | (obtain ⟨rfl, _⟩ := h; rfl) | (obtain ⟨_, rfl, _⟩ := h; rfl) | (obtain ⟨_, _, rfl, _⟩ := h; rfl) | (obtain ⟨_, _, _, rfl, _⟩ := h; rfl) | (obtain ⟨_, _, _, _, rfl, _⟩ := h; rfl) | (obtain ⟨_, _, _, _, _, rfl, _⟩ := h; rfl) | (obtain ⟨_, _, _, _, _, _, rfl, _⟩ := h; rfl) | (obtain ⟨_, _, _, _, _, _, _, rfl, _⟩ := h; rfl) | (obtain ⟨_, _, _, _, _, _, _, _, rfl, _⟩ := h; rfl) | (obtain ⟨_, _, _, _, _, _, _, _, _, rfl, _⟩ := h; rfl) | (obtain ⟨_, _, _, _, _, _, _, _, _, _, rfl, _⟩ := h; rfl) | (obtain ⟨_, _, _, _, _, _, _, _, _, _, _, rfl, _⟩ := h; rfl) | (obtain ⟨_, _, _, _, _, _, _, _, _, _, _, _, rfl, _⟩ := h; rfl) | (obtain ⟨_, _, _, _, _, _, _, _, _, _, _, _, _, rfl, _⟩ := h; rfl) | (obtain ⟨_, _, _, _, _, _, _, _, _, _, _, _, _, _, rfl, _⟩ := h; rfl) | (obtain ⟨_, _, _, _, _, _, _, _, _, _, _, _, _, _, _, rfl, _⟩ := h; rfl)
theorem rd_paid : ∀ ds G Q E', sp_paid ds G Q E' → t_paid (endD Q) (startD ["debts", "person"] ds) G := by
  rintro ds G Q E' ⟨xs, p, rfl, hx, hp, hl, q⟩
  have sz : ∀ k : Nat, k ≤ 2002 → k ≤ sizeLine := fun k hk => Nat.le_trans hk (by decide)
  unfold t_paid frts
  walk_at "dl"
  rw [got_fr hp]
  refine ⟨_, 1, rfl, hx _ (getD_mem hp), one_sm, ?_⟩
  rw [cut_to (by omega), cut_from (by omega), Int.toNat_natCast, show ((p : Nat) + 1 : Int).toNat = p + 1 by omega]
  refine ⟨sz _ (by omega), ?_, ?_, ?_⟩
  · refine sz _ ?_
    rw [List.length_take, List.length_map]
    omega
  · refine sz _ ?_
    rw [List.length_append, List.length_take, List.length_drop, List.length_map, List.length_singleton]
    omega
  · rw [set_cut (by rw [List.length_map]; exact hp), show (xs.map fr).set p (fr (xs.getD p 0 - 1)) = (pay xs p).map fr by unfold pay; rw [List.map_set]]
    exact Rt.same q
/-- the fields of a dealer -/
def dlF (xs : List Rat) (a : Addr) (k : Int) : List (Str × D) := [("kept_debts", frts xs), ("kept_things", .ref a), ("kept_beats", .int k)]
theorem dl_debts {xs : List Rat} {a : Addr} {k : Int} : (dlF xs a k).lookup ("kept_debts" : Str) = some (frts xs) := rfl
theorem dl_things {xs : List Rat} {a : Addr} {k : Int} : (dlF xs a k).lookup ("kept_things" : Str) = some (.ref a) := rfl
theorem dl_beats {xs : List Rat} {a : Addr} {k : Int} : (dlF xs a k).lookup ("kept_beats" : Str) = some (.int k) := rfl
theorem dl_put1 {xs ys : List Rat} {a : Addr} {k : Int} : putD "kept_debts" (frts ys) (dlF xs a k) = dlF ys a k := rfl
theorem dl_put2 {xs : List Rat} {a b : Addr} {k : Int} : putD "kept_things" (.ref b) (dlF xs a k) = dlF xs b k := rfl
theorem dl_put3 {xs : List Rat} {a : Addr} {k j : Int} : putD "kept_beats" (.int j) (dlF xs a k) = dlF xs a j := rfl
/-- a dealer at p, its things at a -/
structure isDl (G : Gp) (p a : Addr) (xs : List Rat) (ts : List Int) (k : Int) : Prop where
  ne : a ≠ p
  at_ : G p = some (.ins "Dealer" (dlF xs a k))
  th : G a = some (.lst (ts.map D.int))
/-- the same, put there -/
def dlG (G : Gp) (p a : Addr) (xs : List Rat) (ts : List Int) (k : Int) : Gp := gu (gu G a (.lst (ts.map D.int))) p (.ins "Dealer" (dlF xs a k))
theorem isDl.mk' {G : Gp} {p a : Addr} {xs : List Rat} {ts : List Int} {k : Int} (h : a ≠ p) : isDl (dlG G p a xs ts k) p a xs ts k := ⟨h, gu_same, by unfold dlG; rw [gu_ne h, gu_same]⟩
theorem dlG_dlG {G : Gp} {p a : Addr} {xs ys : List Rat} {ts us : List Int} {k j : Int} (h : a ≠ p) : dlG (dlG G p a xs ts k) p a ys us j = dlG G p a ys us j := by
  unfold dlG
  rw [gu_comm (Ne.symm h), gu_gu, gu_gu]
theorem dlG_ne {G : Gp} {p a b : Addr} {xs : List Rat} {ts : List Int} {k : Int} (h : b ≠ p) (h2 : b ≠ a) : dlG G p a xs ts k b = G b := by
  unfold dlG
  rw [gu_ne h, gu_ne h2]
theorem isDl.self {G : Gp} {p a : Addr} {xs : List Rat} {ts : List Int} {k : Int} (h : isDl G p a xs ts k) : dlG G p a xs ts k = G := by
  unfold dlG
  rw [gu_self h.th, gu_self h.at_]
abbrev sp_Dealer___init__ : DSp := fun ds G Q _ => ∃ (p : Addr) (n : Int), ds = [.ref p, .int n] ∧ G p = some (.ins "Dealer" []) ∧ (1 ≤ n ∧ n ≤ 12) ∧ (∀ a, G a = none → a ≠ p → Q .non (dlG G p a (List.replicate n.toNat 0) (List.replicate n.toNat 0) 0))
/-- things where one person has got one more -/
def bump (ts : List Int) (p : Nat) : List Int := ts.set p (ts.getD p 0 + 1)
theorem grow_len {s : Int × List Int} {xs : List Rat} (h : s.2.length = xs.length) : (grow s xs).length = xs.length := by
  unfold grow
  rw [List.length_map, List.length_zip, h, Nat.min_self]
abbrev sp_Dealer_give : DSp := fun ds G Q _ => ∃ (p a : Addr) (xs : List Rat) (ts : List Int) (k : Int) (s : Int × List Int) (i : Nat), ds = [.ref p, shD s, .int (i : Nat)] ∧ isDl G p a xs ts k ∧ xs.length ≤ 1000 ∧ ts.length = xs.length ∧ ShSm s ∧ s.2.length = xs.length ∧
  (∀ x ∈ xs, Sm x) ∧ (∀ x ∈ grow s xs, Sm x) ∧ i < xs.length ∧ Q .non (dlG G p a (pay (grow s xs) i) (bump ts i) (k + 1))
/-- all debts told with denominators that divide L, between -C and C -/
def Szs (L C : Nat) (xs : List Rat) : Prop := ∀ x ∈ xs, Sz L C x
theorem szs_grow {L C : Nat} {s : Int × List Int} {xs : List Rat} (hL : L ≠ 0) (hs : ShSm s) (h : Szs L C xs) : Szs (L * s.1.toNat) (C + 1) (grow s xs) := by
  intro x hx
  unfold grow at hx
  obtain ⟨p, hp, rfl⟩ := List.mem_map.mp hx
  obtain ⟨h1, h2⟩ := List.of_mem_zip hp
  obtain ⟨t0, t1⟩ := hs.tp _ h2
  have b1 := hs.b1
  have hb : s.1.toNat ≠ 0 := by omega
  have hL2 : L * s.1.toNat ≠ 0 := Nat.mul_ne_zero hL hb
  refine Sz.add hL2 ((h _ h1).mono (Nat.dvd_mul_right _ _) (Nat.le_refl _)) (Sz.low hL2 hb (Nat.dvd_mul_left _ _) ?_ ?_)
  · omega
  · omega
/-- where the bottom divides L already -/
theorem szs_growL {L C : Nat} {s : Int × List Int} {xs : List Rat} (hL : L ≠ 0) (hd : s.1.toNat ∣ L) (hs : ShSm s) (h : Szs L C xs) : Szs L (C + 1) (grow s xs) := by
  intro x hx
  unfold grow at hx
  obtain ⟨p, hp, rfl⟩ := List.mem_map.mp hx
  obtain ⟨h1, h2⟩ := List.of_mem_zip hp
  obtain ⟨t0, t1⟩ := hs.tp _ h2
  have b1 := hs.b1
  have hb : s.1.toNat ≠ 0 := by omega
  refine Sz.add hL (h _ h1) (Sz.low hL hb hd ?_ ?_)
  · omega
  · omega
theorem szs_pay {L C i : Nat} {xs : List Rat} (hL : L ≠ 0) (hi : i < xs.length) (h : Szs L C xs) : Szs L (C + 1) (pay xs i) := by
  intro x hx
  unfold pay at hx
  rcases List.mem_or_eq_of_mem_set hx with hx | rfl
  · exact (h x hx).mono (Nat.dvd_refl _) (by omega)
  · exact Sz.sub hL (h _ (getD_mem hi)) (Sz.one (i := 1) (by decide))
theorem szs_zero {L : Nat} (n : Nat) : Szs L 0 (List.replicate n 0) := fun x hx => by
  rw [(List.mem_replicate.mp hx).2]
  exact Sz.one (i := 0) (by decide)
theorem szs_mono {L M C E : Nat} {xs : List Rat} (h : Szs L C xs) (hd : L ∣ M) (hk : C ≤ E) : Szs M E xs := fun x hx => (h x hx).mono hd hk
theorem szs_sm {L C : Nat} {xs : List Rat} (h : Szs L C xs) (hL : L ≠ 0) (hB : (C + 1) * L < 2 ^ 3000) : ∀ x ∈ xs, Sm x := fun x hx => ((h x hx).mono (Nat.dvd_refl _) (Nat.le_succ C)).sm hL (by omega) hB
theorem rs_frts {L C K : Nat} {xs : List Rat} (h : Szs L C xs) (hL : L ≠ 0) (hB : (C + 1) * L < 10 ^ K) (h0 : 0 < K) (h1 : K ≤ 470) : Rs 2 (xs.length * (2 * (K + 3) + 3 + 2) + 3) (frts xs) := by
  have := rs_tup (k := 1) (W := 2 * (K + 3) + 3) (xs := xs.map fr) fun x hx => by
    obtain ⟨y, hy, rfl⟩ := List.mem_map.mp hx
    exact rs_fr ((h y hy).mono (Nat.dvd_refl _) (Nat.le_succ C)) hL hB (by omega) h0 h1
  rwa [List.length_map] at this
theorem es_fr (x : Rat) : Es 1 (fr x) := es_tup (k := 0) fun y hy => by
  rcases List.mem_cons.mp hy with rfl | hy
  · exact es_int
  · rw [List.mem_singleton.mp hy]; exact es_int
theorem es_frts (xs : List Rat) : Es 2 (frts xs) := es_tup (k := 1) fun y hy => by
  obtain ⟨x, _, rfl⟩ := List.mem_map.mp hy
  exact es_fr x
abbrev sp_is_integer : DSp := fun ds G Q _ => ∃ x, ds = [x] ∧ pd x = true ∧ Q (.bl (isI x)) G
def t_is_integer : DS :=
  (dRet (dAndV (dCB dIsi (aCons (dVar 0) (aCons (dC (.ty "int")) aNil))) (dNotV (dCB dIsi (aCons (dVar 0) (aCons (dC (.ty "bool")) aNil))))))
theorem len_is_integer : ∀ ds G Q E, sp_is_integer ds G Q E → ds.length = ["thing"].length := by
  intro ds G Q E h
  first | (obtain ⟨rfl, _⟩ := h; rfl) | (obtain ⟨_, rfl, _⟩ := h; rfl) | (obtain ⟨_, _, rfl, _⟩ := h; rfl) | (obtain ⟨_, _, _, rfl, _⟩ := h; rfl) | (obtain ⟨_, _, _, _, rfl, _⟩ := h; rfl) | (obtain ⟨_, _, _, _, _, rfl, _⟩ := h; rfl) | (obtain ⟨_, _, _, _, _, _, rfl, _⟩ := h; rfl) | (obtain ⟨_, _, _, _, _, _, _, rfl, _⟩ := h; rfl) | (obtain ⟨_, _, _, _, _, _, _, _, rfl, _⟩ := h; rfl) | (obtain ⟨_, _, _, _, _, _, _, _, _, rfl, _⟩ := h; rfl) | (obtain ⟨_, _, _, _, _, _, _, _, _, _, rfl, _⟩ := h; rfl) | (obtain ⟨_, _, _, _, _, _, _, _, _, _, _, rfl, _⟩ := h; rfl) | (obtain ⟨_, _, _, _, _, _, _, _, _, _, _, _, rfl, _⟩ := h; rfl) | (obtain ⟨_, _, _, _, _, _, _, _, _, _, _, _, _, rfl, _⟩ := h; rfl) | (obtain ⟨_, _, _, _, _, _, _, _, _, _, _, _, _, _, rfl, _⟩ := h; rfl) | (obtain ⟨_, _, _, _, _, _, _, _, _, _, _, _, _, _, _, rfl, _⟩ := h; rfl)
theorem rd_is_integer : ∀ ds G Q E', sp_is_integer ds G Q E' → t_is_integer (endD Q) (startD ["thing"] ds) G := by
  rintro ds G Q E' ⟨x, rfl, hp, q⟩
  unfold t_is_integer
  walk_at "dl"
  simp only [isi_int hp, isi_bool hp]
  cases x <;> exact Rt.same q
/-- a tuple of two -/
def isP : D → Bool | .tup xs => decide (xs.length = 2) | _ => false
abbrev sp_is_pair : DSp := fun ds G Q _ => ∃ x, ds = [x] ∧ pd x = true ∧ Q (.bl (isP x)) G
def t_is_pair : DS :=
  (dRet (dAndV (dCB dIsi (aCons (dVar 0) (aCons (dC (.ty "tuple")) aNil))) (dOp dEq (dCB dLen (aCons (dVar 0) aNil)) (dC (.int 2)))))
theorem len_is_pair : ∀ ds G Q E, sp_is_pair ds G Q E → ds.length = ["thing"].length := by
  intro ds G Q E h
  first | (obtain ⟨rfl, _⟩ := h; rfl) | (obtain ⟨_, rfl, _⟩ := h; rfl) | (obtain ⟨_, _, rfl, _⟩ := h; rfl) | (obtain ⟨_, _, _, rfl, _⟩ := h; rfl) | (obtain ⟨_, _, _, _, rfl, _⟩ := h; rfl) | (obtain ⟨_, _, _, _, _, rfl, _⟩ := h; rfl) | (obtain ⟨_, _, _, _, _, _, rfl, _⟩ := h; rfl) | (obtain ⟨_, _, _, _, _, _, _, rfl, _⟩ := h; rfl) | (obtain ⟨_, _, _, _, _, _, _, _, rfl, _⟩ := h; rfl) | (obtain ⟨_, _, _, _, _, _, _, _, _, rfl, _⟩ := h; rfl) | (obtain ⟨_, _, _, _, _, _, _, _, _, _, rfl, _⟩ := h; rfl) | (obtain ⟨_, _, _, _, _, _, _, _, _, _, _, rfl, _⟩ := h; rfl) | (obtain ⟨_, _, _, _, _, _, _, _, _, _, _, _, rfl, _⟩ := h; rfl) | (obtain ⟨_, _, _, _, _, _, _, _, _, _, _, _, _, rfl, _⟩ := h; rfl) | (obtain ⟨_, _, _, _, _, _, _, _, _, _, _, _, _, _, rfl, _⟩ := h; rfl) | (obtain ⟨_, _, _, _, _, _, _, _, _, _, _, _, _, _, _, rfl, _⟩ := h; rfl)
theorem rd_is_pair : ∀ ds G Q E', sp_is_pair ds G Q E' → t_is_pair (endD Q) (startD ["thing"] ds) G := by
  rintro ds G Q E' ⟨x, rfl, hp, q⟩
  unfold t_is_pair
  walk_at "dl"
  simp only [isi_tuple hp]
  cases x with
  | tup xs =>
    have : decide ((xs.length : Int) = 2) = decide (xs.length = 2) := by
      rw [Bool.eq_iff_iff, decide_eq_true_iff, decide_eq_true_iff]; omega
    walk_at "dl"
    show Rt Q _ G
    refine Rt.same ?_
    rw [this]
    exact q
  | _ => exact Rt.same q
abbrev sp_is_within : DSp := fun ds G Q _ => ∃ x lo hi, ds = [x, .int lo, .int hi] ∧ pd x = true ∧ Q (.bl (isW x lo hi)) G
def t_is_within : DS :=
  (dRet (dAndV (dCall sp_is_integer X0 (aCons (dVar 0) aNil)) (dChain dLe dLe (dVar 1) (dVar 0) (dVar 2))))
theorem len_is_within : ∀ ds G Q E, sp_is_within ds G Q E → ds.length = ["thing", "low", "high"].length := by
  intro ds G Q E h
  first | (obtain ⟨rfl, _⟩ := h; rfl) | (obtain ⟨_, rfl, _⟩ := h; rfl) | (obtain ⟨_, _, rfl, _⟩ := h; rfl) | (obtain ⟨_, _, _, rfl, _⟩ := h; rfl) | (obtain ⟨_, _, _, _, rfl, _⟩ := h; rfl) | (obtain ⟨_, _, _, _, _, rfl, _⟩ := h; rfl) | (obtain ⟨_, _, _, _, _, _, rfl, _⟩ := h; rfl) | (obtain ⟨_, _, _, _, _, _, _, rfl, _⟩ := h; rfl) | (obtain ⟨_, _, _, _, _, _, _, _, rfl, _⟩ := h; rfl) | (obtain ⟨_, _, _, _, _, _, _, _, _, rfl, _⟩ := h; rfl) | (obtain ⟨_, _, _, _, _, _, _, _, _, _, rfl, _⟩ := h; rfl) | (obtain ⟨_, _, _, _, _, _, _, _, _, _, _, rfl, _⟩ := h; rfl) | (obtain ⟨_, _, _, _, _, _, _, _, _, _, _, _, rfl, _⟩ := h; rfl) | (obtain ⟨_, _, _, _, _, _, _, _, _, _, _, _, _, rfl, _⟩ := h; rfl) | (obtain ⟨_, _, _, _, _, _, _, _, _, _, _, _, _, _, rfl, _⟩ := h; rfl) | (obtain ⟨_, _, _, _, _, _, _, _, _, _, _, _, _, _, _, rfl, _⟩ := h; rfl)
theorem rd_is_within : ∀ ds G Q E', sp_is_within ds G Q E' → t_is_within (endD Q) (startD ["thing", "low", "high"] ds) G := by
  rintro ds G Q E' ⟨x, lo, hi, rfl, hp, q⟩
  unfold t_is_within
  walk_at "dl"
  refine ⟨_, rfl, hp, ?_⟩
  cases x with
  | int i =>
    rw [isW_int] at q
    simp only [isI, if_true]
    cases h1 : decide (lo ≤ i) with
    | true => rw [h1] at q; exact Rt.same q
    | false => rw [h1] at q; exact Rt.same q
  | _ => exact Rt.same q
theorem isP_iff {x : D} : isP x = true ↔ ∃ a b, x = .tup [a, b] := by
  cases x with
  | tup xs =>
    show decide (xs.length = 2) = true ↔ _
    rw [decide_eq_true_iff]
    constructor
    · intro h
      obtain ⟨a, b, rfl⟩ := tup_of_pd2 (xs := xs) (by omega)
      exact ⟨a, b, rfl⟩
    · rintro ⟨a, b, h⟩
      cases h
      rfl
  | _ => exact ⟨fun h => (nomatch h), fun ⟨_, _, h⟩ => (nomatch h)⟩
/-- whether a thing is a row of shares for n people, m things -/
def areSh (n m : Int) : D → Bool
  | .tup [a, .tup xs] => isW a 1 360 && decide ((xs.length : Int) = n) && xs.all (fun t => isW t 0 (iv a)) && decide (isum xs = m * iv a)
  | _ => false
theorem areSh_no {n m : Int} {x : D} (h : isP x = false) : areSh n m x = false := by
  unfold areSh
  split
  · cases h
  · rfl
theorem areSh_no1 {n m : Int} {a b : D} (h : isT b = false) : areSh n m (.tup [a, b]) = false := by
  unfold areSh
  split
  · rename_i e
    cases e
    cases h
  · rfl
abbrev sp_are_shares : DSp := fun ds G Q _ => ∃ (n m : Int) (x : D), ds = [.int n, .int m, x] ∧ n ≤ 12 ∧ (1 ≤ m ∧ m ≤ 12) ∧ pd x = true ∧ Q (.bl (areSh n m x)) G
def fwI (n m : Int) : Int → List D → D
  | _, [] => .non
  | k, x :: r => if areSh n m x = true then fwI n m (k + 1) r else .int k
/-- the first beat that is no row of shares -/
def fw (n m : Int) : D → D
  | .tup xs => if xs.length ≤ 400 then fwI n m 0 xs else .int (-1)
  | _ => .int (-1)
/-- a row -/
def isRow (n m : Int) : D → Bool
  | .tup xs => decide (xs.length ≤ 400) && xs.all (areSh n m)
  | _ => false
def isNo : D → Bool | .non => true | _ => false
theorem fwI_all (n m : Int) : ∀ (xs : List D) (k : Int), isNo (fwI n m k xs) = xs.all (areSh n m)
  | [], _ => rfl
  | x :: r, k => by
    unfold fwI
    rw [List.all_cons]
    cases h : areSh n m x with
    | true => rw [if_pos rfl, fwI_all n m r (k + 1)]; rfl
    | false => rw [if_neg Bool.false_ne_true]; rfl
theorem fw_isRow (n m : Int) (x : D) : isNo (fw n m x) = isRow n m x := by
  cases x with
  | tup xs =>
    show isNo (if xs.length ≤ 400 then fwI n m 0 xs else .int (-1)) = (decide (xs.length ≤ 400) && xs.all (areSh n m))
    by_cases h : xs.length ≤ 400
    · rw [if_pos h, fwI_all, decide_eq_true h]; rfl
    · rw [if_neg h, decide_eq_false h]; rfl
  | _ => rfl
theorem fw_non {n m : Int} {x : D} (h : isRow n m x = true) : fw n m x = .non := by
  have e := fw_isRow n m x
  rw [h] at e
  cases q : fw n m x <;> rw [q] at e <;> first | rfl | cases e
theorem fw_no1 {n m : Int} {x : D} (h : isT x = false) : fw n m x = .int (-1) := by cases x <;> first | rfl | cases h
abbrev sp_first_wrong : DSp := fun ds G Q _ => ∃ (n m : Int) (x : D), ds = [.int n, .int m, x] ∧ n ≤ 12 ∧ (1 ≤ m ∧ m ≤ 12) ∧ pd x = true ∧ Q (fw n m x) G
theorem dlG_gu {G : Gp} {p a q : Addr} {o : GO} {xs : List Rat} {ts : List Int} {k : Int} (h : q ≠ p) (h2 : q ≠ a) : dlG (gu G q o) p a xs ts k = gu (dlG G p a xs ts k) q o := by
  unfold dlG
  rw [gu_comm h2, gu_comm h]
/-- who gets the thing, beat by beat -/
def dealL : List (Int × List Int) → List Rat → List Nat
  | [], _ => []
  | s :: r, xs => taker (grow s xs) :: dealL r (pay (grow s xs) (taker (grow s xs)))
/-- all that is reckoned with on the way is small -/
def SmRun : List (Int × List Int) → List Rat → Prop
  | [], xs => ∀ x ∈ xs, Sm x
  | s :: r, xs => (∀ x ∈ xs, Sm x) ∧ (∀ x ∈ grow s xs, Sm x) ∧ SmRun r (pay (grow s xs) (taker (grow s xs)))
theorem SmRun.now : ∀ {r : List (Int × List Int)} {xs : List Rat}, SmRun r xs → ∀ x ∈ xs, Sm x
  | [], _, h => h
  | _ :: _, _, h => h.1
/-- shares that are right for n people, one thing -/
structure ShR (n : Nat) (s : Int × List Int) : Prop where
  sm : ShSm s
  ln : s.2.length = n
  ar : areSh (n : Int) 1 (shD s) = true
  pd : pd (shD s) = true
theorem row_R {n : Nat} {r : List (Int × List Int)} (h : ∀ s ∈ r, ShR n s) (hl : r.length ≤ 400) : isRow (n : Int) 1 (.tup (r.map shD)) = true := by
  show (decide ((r.map shD).length ≤ 400) && (r.map shD).all (areSh n 1)) = true
  rw [List.length_map, decide_eq_true hl, List.all_map, Bool.true_and, List.all_eq_true]
  exact fun s hs => (h s hs).ar
theorem row_Rpd {n : Nat} {r : List (Int × List Int)} (h : ∀ s ∈ r, ShR n s) : pd (.tup (r.map shD)) = true := pd_tup.mpr fun x hx => by
  obtain ⟨s, hs, rfl⟩ := List.mem_map.mp hx
  exact (h s hs).pd
theorem pay_len {xs : List Rat} {i : Nat} : (pay xs i).length = xs.length := by unfold pay; rw [List.length_set]
theorem bump_len {xs : List Int} {i : Nat} : (bump xs i).length = xs.length := by unfold bump; rw [List.length_set]
/-- what each bottom divides -/
def LL : Nat := 1023374153587642418778356466089656253893600127255900962059080782591411445978443733860337281801110194627254537091995830991955790186447751593143264093038752000
theorem LL_all : ((List.range 361).all fun b => b == 0 || LL % b == 0) = true := by decide +kernel
theorem LL_dvd {b : Int} (h1 : 1 ≤ b) (h2 : b ≤ 360) : b.toNat ∣ LL := by
  have h := List.all_eq_true.mp LL_all b.toNat (List.mem_range.mpr (by omega))
  rw [Bool.or_eq_true, beq_iff_eq, beq_iff_eq] at h
  rcases h with h | h
  · omega
  · exact Nat.dvd_of_mod_eq_zero h
theorem LL_ne : LL ≠ 0 := by decide +kernel
theorem LL_bd {C : Nat} (h : C ≤ 5000) : (C + 1) * LL < 10 ^ 170 ∧ (C + 1) * LL < 2 ^ 3000 := by
  have h1 : (C + 1) * LL ≤ 5001 * LL := Nat.mul_le_mul_right _ (by omega)
  have h2 : 5001 * LL < 10 ^ 170 := by decide +kernel
  have h3 : 5001 * LL < 2 ^ 3000 := by decide +kernel
  exact ⟨Nat.lt_of_le_of_lt h1 h2, Nat.lt_of_le_of_lt h1 h3⟩
theorem LL_sm {C : Nat} {xs : List Rat} (h : Szs LL C xs) (hC : C ≤ 5000) : ∀ x ∈ xs, Sm x := szs_sm h LL_ne (LL_bd hC).2
/-- shares of a right form, all small -/
structure ShB (n : Nat) (s : Int × List Int) : Prop extends ShR n s where
  b3 : s.1 ≤ 360
theorem ShB.dv {n : Nat} {s : Int × List Int} (h : ShB n s) : s.1.toNat ∣ LL := LL_dvd h.sm.b1 h.b3
theorem LL_grow {n C : Nat} {s : Int × List Int} {xs : List Rat} (hs : ShB n s) (h : Szs LL C xs) : Szs LL (C + 1) (grow s xs) := szs_growL LL_ne hs.dv hs.sm h
theorem LL_pay {C i : Nat} {xs : List Rat} (hi : i < xs.length) (h : Szs LL C xs) : Szs LL (C + 1) (pay xs i) := szs_pay LL_ne hi h
theorem LL_run {n : Nat} (hn : 0 < n) : ∀ (r : List (Int × List Int)) (xs : List Rat) (C : Nat), (∀ s ∈ r, ShB n s) → xs.length = n → Szs LL C xs → C + 2 * r.length ≤ 5000 → SmRun r xs
  | [], xs, C, _, _, h, hC => LL_sm h (by simp at hC; exact hC)
  | s :: r, xs, C, hr, hl, h, hC => by
    rw [List.length_cons] at hC
    have hs := hr s List.mem_cons_self
    have gl : (grow s xs).length = xs.length := grow_len (by rw [hs.ln, hl])
    have hg := LL_grow hs h
    have ht : taker (grow s xs) < (grow s xs).length := taker_lt (by omega)
    exact ⟨LL_sm h (by omega), LL_sm hg (by omega), LL_run hn r _ (C + 2) (fun z hz => hr z (List.mem_cons_of_mem _ hz)) (by rw [pay_len, gl, hl]) (LL_pay ht hg) (by omega)⟩
theorem got_nat {ts : List Int} {i : Nat} {G : Gp} {Q : DK} (h : i < ts.length) : gotI (ts.map D.int) (i : Nat) G Q = Q (.int (ts.getD i 0)) G := by
  refine got_eq ?_
  rw [at_nat (by omega), Int.toNat_natCast, List.getElem?_map, List.getElem?_eq_getElem h, List.getD_eq_getElem?_getD, List.getElem?_eq_getElem h]
  rfl
/-! games: what a game is worth (plain part) -/
/-- the tuples of so many numbers that add up to a bottom -/
def tpsF : Nat → Nat → List (List Nat)
  | 0, _ => []
  | 1, b => [[b]]
  | n + 2, b => (List.range (b + 1)).flatMap fun t => (tpsF (n + 1) (b - t)).map fun l => t :: l
def shF (B : Nat) (l : List Nat) : Int × List Int := ((B : Int), l.map fun t : Nat => (t : Int))
def rowsF (n B : Nat) : List (Int × List Int) := (tpsF n B).map (shF B)
theorem tpsF_mem : ∀ (n b : Nat) (l : List Nat), l ∈ tpsF n b ↔ 1 ≤ n ∧ l.length = n ∧ l.sum = b
  | 0, _, l => ⟨fun h => (nomatch h), fun h => absurd h.1 (by decide)⟩
  | 1, b, l => by
    show l ∈ [[b]] ↔ _
    rw [List.mem_singleton]
    constructor
    · rintro rfl
      exact ⟨Nat.le_refl _, rfl, by simp⟩
    · rintro ⟨_, h1, h2⟩
      match l, h1 with
      | [x], _ => simpa using h2
  | n + 2, b, l => by
    show l ∈ (List.range (b + 1)).flatMap (fun t => (tpsF (n + 1) (b - t)).map fun l => t :: l) ↔ _
    rw [List.mem_flatMap]
    constructor
    · rintro ⟨t, ht, h⟩
      obtain ⟨l', h', rfl⟩ := List.mem_map.mp h
      obtain ⟨_, h1, h2⟩ := (tpsF_mem (n + 1) (b - t) l').mp h'
      have := List.mem_range.mp ht
      exact ⟨by omega, by rw [List.length_cons]; omega, by rw [List.sum_cons]; omega⟩
    · rintro ⟨_, h1, h2⟩
      match l, h1 with
      | t :: l', h1 =>
        rw [List.sum_cons] at h2
        rw [List.length_cons] at h1
        exact ⟨t, List.mem_range.mpr (by omega), List.mem_map.mpr ⟨l', (tpsF_mem (n + 1) (b - t) l').mpr ⟨by omega, by omega, by omega⟩, rfl⟩⟩
theorem sum_le {l : List Nat} {t : Nat} (h : t ∈ l) : t ≤ l.sum := by
  induction l with
  | nil => cases h
  | cons a l ih =>
    rw [List.sum_cons]
    rcases List.mem_cons.mp h with rfl | h
    · omega
    · have := ih h; omega
theorem rowsF_sm {n B : Nat} (hB : 1 ≤ B ∧ B ≤ 12) (hn : n ≤ 12) {s : Int × List Int} (h : s ∈ rowsF n B) : ShSm s ∧ s.2.length = n ∧ s.1 = (B : Int) := by
  obtain ⟨l, hl, rfl⟩ := List.mem_map.mp h
  obtain ⟨_, h1, h2⟩ := (tpsF_mem _ _ _).mp hl
  refine ⟨⟨by show (1 : Int) ≤ (B : Int); omega, by show (B : Int) ≤ 1000; omega, by show (l.map fun t : Nat => (t : Int)).length ≤ 1000; rw [List.length_map]; omega, fun t ht => ?_⟩, by show (l.map fun t : Nat => (t : Int)).length = n; rw [List.length_map]; exact h1, rfl⟩
  obtain ⟨k, hk, rfl⟩ := List.mem_map.mp ht
  have := sum_le hk
  show 0 ≤ (k : Int) ∧ (k : Int) ≤ (B : Int)
  omega
/-! the greatest -/
def mx2 (a b : Rat) : Rat := if a < b then b else a
def mxR : List Rat → Rat
  | [] => 0
  | x :: xs => xs.foldl mx2 x
theorem mx2_le {a b c : Rat} : mx2 a b ≤ c ↔ a ≤ c ∧ b ≤ c := by
  unfold mx2
  split <;> grind
theorem mx2_or (a b : Rat) : mx2 a b = a ∨ mx2 a b = b := by
  unfold mx2
  split
  · exact .inr rfl
  · exact .inl rfl
theorem foldl_mx_le {c : Rat} : ∀ (xs : List Rat) (x : Rat), xs.foldl mx2 x ≤ c ↔ x ≤ c ∧ ∀ y ∈ xs, y ≤ c
  | [], x => ⟨fun h => ⟨h, fun _ z => (nomatch z)⟩, fun h => h.1⟩
  | y :: xs, x => by
    rw [List.foldl_cons, foldl_mx_le xs, mx2_le]
    constructor
    · rintro ⟨⟨h1, h2⟩, h3⟩
      exact ⟨h1, fun z hz => (List.mem_cons.mp hz).elim (fun e => e ▸ h2) (h3 z)⟩
    · rintro ⟨h1, h2⟩
      exact ⟨⟨h1, h2 y List.mem_cons_self⟩, fun z hz => h2 z (List.mem_cons_of_mem _ hz)⟩
theorem mxR_le {c : Rat} {xs : List Rat} (h : xs ≠ []) : mxR xs ≤ c ↔ ∀ y ∈ xs, y ≤ c := by
  cases xs with
  | nil => exact absurd rfl h
  | cons x xs =>
    show xs.foldl mx2 x ≤ c ↔ _
    rw [foldl_mx_le]
    exact ⟨fun ⟨h1, h2⟩ z hz => (List.mem_cons.mp hz).elim (fun e => e ▸ h1) (h2 z), fun h => ⟨h x List.mem_cons_self, fun y hy => h y (List.mem_cons_of_mem _ hy)⟩⟩
theorem le_mxR {xs : List Rat} {y : Rat} (h : y ∈ xs) : y ≤ mxR xs := (mxR_le (List.ne_nil_of_mem h)).mp (Rat.le_refl) y h
theorem foldl_mx_mem : ∀ (xs : List Rat) (x : Rat), xs.foldl mx2 x ∈ x :: xs
  | [], x => List.mem_cons_self
  | y :: xs, x => by
    rw [List.foldl_cons]
    have := foldl_mx_mem xs (mx2 x y)
    rcases List.mem_cons.mp this with e | h
    · rw [e]
      rcases mx2_or x y with z | z
      · rw [z]; exact List.mem_cons_self
      · rw [z]; exact List.mem_cons_of_mem _ List.mem_cons_self
    · exact List.mem_cons_of_mem _ (List.mem_cons_of_mem _ h)
theorem mxR_mem {xs : List Rat} (h : xs ≠ []) : mxR xs ∈ xs := by
  cases xs with
  | nil => exact absurd rfl h
  | cons x xs => exact foldl_mx_mem xs x
/-! worths -/
noncomputable def srtR (d : List Rat) : List Rat := d.mergeSort fun a b => leD (fr a) (fr b)
theorem srtR_perm (d : List Rat) : (srtR d).Perm d := List.mergeSort_perm _ _
theorem srtR_D (d : List Rat) : sortD (d.map fr) = (srtR d).map fr := by
  unfold sortD srtR
  exact (List.map_mergeSort (f := fr) (r := fun a b => leD (fr a) (fr b)) (s := leD) fun a _ b _ => rfl).symm
/-- what the greatest debt comes to if shares come and a person gets the thing, f being told of the beats behind -/
def dealV (f : List Rat → Rat) (one : Bool) (d : List Rat) (s : Int × List Int) (p : Nat) : Rat := if one = true then mxR (pay (grow s d) p) else mx2 (mxR (pay (grow s d) p)) (f (pay (grow s d) p))
def mn2 (a b : Rat) : Rat := if b < a then b else a
def ansR (f : List Rat → Rat) (one : Bool) (d : List Rat) (s : Int × List Int) : Rat := (List.range (d.length - 1)).foldl (fun a i => mn2 a (dealV f one d s (i + 1))) (dealV f one d s 0)
noncomputable def Wd (rows : List (Int × List Int)) : Nat → List Rat → Rat
  | 0, d => mxR d
  | b + 1, d => mxR (rows.map fun s => ansR (Wd rows b) (b == 0) (srtR d) s)
def natT (l : List Nat) : D := .tup (l.map fun t : Nat => .int (t : Int))
theorem tpsF_len {n b : Nat} (hn : n ≤ 4) (hb : b ≤ 12) : (tpsF n b).length ≤ 455 := by
  have h : ∀ n, n < 5 → ∀ b, b < 13 → (tpsF n b).length ≤ 455 := by decide +kernel
  exact h n (by omega) b (by omega)
theorem fm_len {α : Type} (f : Nat → List α) {t n : Nat} (h : t ≤ n) : ((List.range t).flatMap f).length ≤ ((List.range n).flatMap f).length := by
  obtain ⟨k, rfl⟩ : ∃ k, n = t + k := ⟨n - t, by omega⟩
  induction k with
  | zero => exact Nat.le_refl _
  | succ k ih =>
    rw [show t + (k + 1) = (t + k) + 1 by omega, List.range_succ, List.flatMap_append, List.length_append]
    have := ih (by omega)
    omega
/-- debts of a game -/
structure GmD (n C : Nat) (xs : List Rat) : Prop where
  ln : xs.length = n
  sz : Szs LL C xs
theorem GmD.step {n B C p : Nat} {xs : List Rat} {s : Int × List Int} (h : GmD n C xs) (hs : s ∈ rowsF n B) (hB : 1 ≤ B ∧ B ≤ 12) (hn : n ≤ 12) (hp : p < n) : GmD n (C + 2) (pay (grow s xs) p) ∧ Szs LL (C + 1) (grow s xs) ∧ (grow s xs).length = n := by
  obtain ⟨h1, h2, h3⟩ := rowsF_sm hB hn hs
  have gl : (grow s xs).length = n := by rw [grow_len (by rw [h2, h.ln]), h.ln]
  have dv : s.1.toNat ∣ LL := LL_dvd h1.b1 (by rw [h3]; omega)
  have g1 : Szs LL (C + 1) (grow s xs) := szs_growL LL_ne dv h1 h.sz
  exact ⟨⟨by rw [pay_len, gl], LL_pay (by rw [gl]; exact hp) g1⟩, g1, gl⟩
theorem GmD.perm {n C : Nat} {xs ys : List Rat} (h : GmD n C xs) (p : ys.Perm xs) : GmD n C ys := ⟨by rw [p.length_eq, h.ln], fun y hy => h.sz y (p.mem_iff.mp hy)⟩
/-- how many names a worth may add -/
def costF (R : Nat) : Nat → Nat
  | 0 => 0
  | b + 1 => 1 + R * costF R b
theorem cost_ok {n B b : Nat} (hn : 1 ≤ n ∧ n ≤ 4) (hB : 1 ≤ B ∧ B ≤ 12) (hb : b ≤ 6) (h : (tpsF n B).length ^ b ≤ 20000) : costF ((tpsF n B).length * n) b ≤ 4000000 := by
  have k : ((List.range 5).all fun n => (List.range 13).all fun B => (List.range 7).all fun b => n == 0 || B == 0 || decide (20000 < (tpsF n B).length ^ b) || decide (costF ((tpsF n B).length * n) b ≤ 4000000)) = true := by decide +kernel
  have k2 := List.all_eq_true.mp (List.all_eq_true.mp (List.all_eq_true.mp k n (List.mem_range.mpr (by omega))) B (List.mem_range.mpr (by omega))) b (List.mem_range.mpr (by omega))
  rw [Bool.or_eq_true, Bool.or_eq_true, Bool.or_eq_true, beq_iff_eq, beq_iff_eq, decide_eq_true_iff, decide_eq_true_iff] at k2
  rcases k2 with ((h1 | h1) | h1) | h1
  · omega
  · omega
  · omega
  · exact h1
/-! a game as an object -/
def gmF (rows : List (Int × List Int)) (k : Addr) : List (Str × D) := [("rows", .lst (rows.map shD)), ("known", .ref k)]
theorem gm_rows {rows : List (Int × List Int)} {k : Addr} : (gmF rows k).lookup ("rows" : Str) = some (.lst (rows.map shD)) := rfl
theorem gm_known {rows : List (Int × List Int)} {k : Addr} : (gmF rows k).lookup ("known" : Str) = some (.ref k) := rfl
/-- the name of a worth -/
def frK (x : Rat) : NestedKey := .tup [.num x.num, .num (x.den : Int)]
def gmK (q : Nat × List Rat) : NestedKey := .tup [.num (q.1 : Int), .tup (q.2.map frK)]
def gmT (q : Nat × List Rat) : D := .tup [.int (q.1 : Nat), .tup (q.2.map fr)]
theorem keyN_fr (x : Rat) : keyN (fr x) = some (frK x) := rfl
theorem keysN_frs : ∀ l : List Rat, keysN (l.map fr) = some (l.map frK)
  | [] => rfl
  | x :: l => by
    show (match keyN (fr x), keysN (l.map fr) with | some k, some ks => some (k :: ks) | _, _ => none) = _
    rw [keysN_frs l]
    rfl
theorem keyN_gm (q : Nat × List Rat) : keyN (gmT q) = some (gmK q) := by
  show (keysN [.int (q.1 : Nat), .tup (q.2.map fr)]).map NestedKey.tup = _
  have e : keyN (.tup (q.2.map fr)) = some (.tup (q.2.map frK)) := by
    show (keysN (q.2.map fr)).map NestedKey.tup = _
    rw [keysN_frs]
    rfl
  show ((match keyN (.int (q.1 : Nat)), (match keyN (.tup (q.2.map fr)), keysN [] with | some k, some ks => some (k :: ks) | _, _ => none) with | some k, some ks => some (k :: ks) | _, _ => none)).map NestedKey.tup = _
  rw [e]
  rfl
theorem frK_inj {x y : Rat} (h : frK x = frK y) : x = y := by
  unfold frK at h
  injection h with h
  injection h with h1 h2
  injection h1 with h1
  injection h2 with h2 _
  injection h2 with h2
  exact Rat.ext h1 (by omega)
theorem gmK_inj {q q' : Nat × List Rat} (h : gmK q = gmK q') : q = q' := by
  unfold gmK at h
  injection h with h
  injection h with h1 h2
  injection h1 with h1
  injection h2 with h2 _
  injection h2 with h2
  have := (List.map_inj_right (f := frK) fun a b e => frK_inj e).mp h2
  exact Prod.ext (by omega) this
theorem pure_frs : ∀ l : List Rat, pureKs (l.map frK) = true ∧ NestedKey.depthAll (l.map frK) ≤ 1
  | [] => ⟨rfl, Nat.zero_le _⟩
  | x :: l => by
    obtain ⟨h1, h2⟩ := pure_frs l
    refine ⟨?_, ?_⟩
    · show (true && pureKs (l.map frK)) = true
      rw [h1]
      rfl
    · show max 1 (NestedKey.depthAll (l.map frK)) ≤ 1
      omega
theorem keyOk_gm (q : Nat × List Rat) : keyOk (gmK q) = true := by
  obtain ⟨h1, h2⟩ := pure_frs q.2
  refine keyOk_iff.mpr ⟨rfl, ?_, ?_⟩
  · show (true && (pureKs (q.2.map frK) && true)) = true
    rw [h1]
    rfl
  · show max 0 (max (NestedKey.depthAll (q.2.map frK) + 1) 0) + 1 ≤ 8
    omega
abbrev Tbl := List ((Nat × List Rat) × Rat)
def gmD (t : Tbl) : List (NestedKey × D) := t.map fun e => (gmK e.1, fr e.2)
theorem gmD_val {t : Tbl} {q : Nat × List Rat} : valN (gmD t) (gmK q) = (t.lookup q).map fr := by
  unfold valN gmD
  induction t with
  | nil => rfl
  | cons e t ih =>
    rw [List.map_cons, List.find?_cons, List.lookup_cons]
    by_cases z : e.1 = q
    · rw [show decide ((gmK e.1, fr e.2).1 = gmK q) = true from decide_eq_true (by rw [z]), show (q == e.1) = true by rw [z]; exact beq_self_eq_true _]
      rfl
    · rw [show decide ((gmK e.1, fr e.2).1 = gmK q) = false from decide_eq_false fun y => z (gmK_inj y), show (q == e.1) = false from beq_eq_false_iff_ne.mpr fun y => z y.symm]
      exact ih
def tput (t : Tbl) (q : Nat × List Rat) (v : Rat) : Tbl := if (t.lookup q).isSome = true then t.map (fun e => if e.1 = q then (e.1, v) else e) else t ++ [(q, v)]
theorem gmD_put {t : Tbl} {q : Nat × List Rat} {v : Rat} : putN (gmD t) (gmK q) (fr v) = gmD (tput t q v) := by
  unfold putN tput
  rw [gmD_val]
  by_cases h : (t.lookup q).isSome = true
  · rw [if_pos h, if_pos (by rw [Option.isSome_map]; exact h)]
    unfold gmD
    rw [List.map_map, List.map_map]
    refine List.map_congr_left fun e _ => ?_
    show (if gmK e.1 = gmK q then (gmK e.1, fr v) else (gmK e.1, fr e.2)) = (gmK (if e.1 = q then (e.1, v) else e).1, fr (if e.1 = q then (e.1, v) else e).2)
    by_cases z : e.1 = q
    · rw [if_pos z, if_pos (by rw [z])]
    · rw [if_neg z, if_neg fun y => z (gmK_inj y)]
  · rw [if_neg h, if_neg (by rw [Option.isSome_map]; exact h)]
    unfold gmD
    rw [List.map_append]
    rfl
theorem tput_len {t : Tbl} {q : Nat × List Rat} {v : Rat} : (tput t q v).length ≤ t.length + 1 := by
  unfold tput
  split
  · rw [List.length_map]; omega
  · rw [List.length_append, List.length_singleton]; omega
theorem lookup_rep {q q' : Nat × List Rat} {v : Rat} : ∀ t : Tbl, (t.map fun e => if e.1 = q then (e.1, v) else e).lookup q' = if q' = q then (t.lookup q).map (fun _ => v) else t.lookup q'
  | [] => by
    show none = _
    split <;> rfl
  | e :: t => by
    rw [List.map_cons, List.lookup_cons, List.lookup_cons, List.lookup_cons, lookup_rep t]
    by_cases z : e.1 = q
    · rw [if_pos z]
      by_cases y : q' = q
      · rw [if_pos y, show (q' == (e.1, v).1) = true by rw [y, show (e.1, v).1 = q from z]; exact beq_self_eq_true _, show (q == e.1) = true by rw [z]; exact beq_self_eq_true _, if_pos y]
        rfl
      · rw [if_neg y, if_neg y, show (q' == e.1) = false from beq_eq_false_iff_ne.mpr fun w => y (w.trans z)]
    · rw [if_neg z, show (q == e.1) = false from beq_eq_false_iff_ne.mpr fun w => z w.symm]
      by_cases w : q' = e.1
      · rw [show (q' == e.1) = true by rw [w]; exact beq_self_eq_true _, if_neg (fun y : q' = q => z (w.symm.trans y)), if_neg (fun y : q' = q => z (w.symm.trans y))]
      · rw [show (q' == e.1) = false from beq_eq_false_iff_ne.mpr w]
theorem tput_at {t : Tbl} {q q' : Nat × List Rat} {v : Rat} : (tput t q v).lookup q' = if q' = q then some v else t.lookup q' := by
  unfold tput
  by_cases h : (t.lookup q).isSome = true
  · rw [if_pos h, lookup_rep]
    obtain ⟨x, hx⟩ := Option.isSome_iff_exists.mp h
    rw [hx]
    rfl
  · rw [if_neg h, List.lookup_append]
    by_cases z : q' = q
    · subst z
      rw [if_pos rfl, Option.not_isSome_iff_eq_none.mp h, List.lookup_cons, beq_self_eq_true]
      rfl
    · rw [if_neg z, List.lookup_cons, show (q' == q) = false from beq_eq_false_iff_ne.mpr z]
      exact Option.or_none
/-- what is known is right -/
def TblOk (rows : List (Int × List Int)) (t : Tbl) : Prop := ∀ b d v, t.lookup (b, d) = some v → ∀ xs, srtR xs = d → v = Wd rows b xs
structure isGm (G0 G : Gp) (p k : Addr) (rows : List (Int × List Int)) (t : Tbl) : Prop where
  ins : G p = some (.ins "Game" (gmF rows k))
  kn : ∃ o, G k = some (.dctN o (gmD t))
  le : GLe G0 G
  p0 : G0 p = none
  k0 : G0 k = none
  pk : p ≠ k
  ok : TblOk rows t
theorem isGm.new {G0 G : Gp} {p k a : Addr} {o : GO} {rows : List (Int × List Int)} {t : Tbl} (h : isGm G0 G p k rows t) (ha : G a = none) : isGm G0 (gu G a o) p k rows t := by
  obtain ⟨ok, e⟩ := h.kn
  exact ⟨GLe.new ha _ _ h.ins, ⟨ok, GLe.new ha _ _ e⟩, h.le.trans (.new ha), h.p0, h.k0, h.pk, h.ok⟩
theorem isGm.put {G0 G : Gp} {p k : Addr} {o : Obj} {rows : List (Int × List Int)} {t t' : Tbl} (h : isGm G0 G p k rows t) (ok : TblOk rows t') : isGm G0 (gu G k (.dctN o (gmD t'))) p k rows t' := by
  refine ⟨by rw [gu_ne h.pk]; exact h.ins, ⟨o, gu_same⟩, fun a ob e => ?_, h.p0, h.k0, h.pk, ok⟩
  rw [gu_ne fun z => by rw [z, h.k0] at e; cases e]
  exact h.le a ob e
theorem TblOk.add {rows : List (Int × List Int)} {t : Tbl} {b : Nat} {xs : List Rat} (h : TblOk rows t) : TblOk rows (tput t (b + 1, srtR xs) (Wd rows (b + 1) xs)) := fun b' d' v e ys he => by
  rw [tput_at] at e
  split at e
  · rename_i z
    cases z
    cases e
    show mxR (rows.map fun s => ansR (Wd rows b) (b == 0) (srtR xs) s) = mxR (rows.map fun s => ansR (Wd rows b) (b == 0) (srtR ys) s)
    rw [he]
  · exact h b' d' v e ys he
/-! what the methods of a game tell -/
theorem enc_frP (x : Rat) : DL.encD (fr x) = .tuple [.int x.num, .int (x.den : Int)] := rfl
open PySem.W (EachIs AllAlike Sortable dataLe dataKind SortsAt alike alikeAll) in
theorem sortOk_fr {l : List Rat} (h : l.length ≤ sizeLine) : SortOk (l.map fr) := by
  refine ⟨fun d hd => ?_, ?_, ?_, by rw [List.length_map]; exact h⟩
  · obtain ⟨t, _, rfl⟩ := List.mem_map.mp hd
    exact ⟨_, rfl, by show 1 ≤ 30; decide⟩
  · rw [List.map_map]
    exact AllAlike.of fun b b' => by simp [Function.comp, enc_frP, alike, alikeAll]
  · rw [List.map_map]
    exact Sortable.tuples fun b => ⟨_, _, rfl⟩
def gmR (n B : Nat) : Nat := (tpsF n B).length * n
def gmLim : Nat := 10000000
def sp_Game_worth : Nat → DSp
  | 0 => fun _ _ _ _ => False
  | d + 1 => fun ds G Q _ => ∃ (G0 : Gp) (p k : Addr) (n B b C : Nat) (xs : List Rat) (t : Tbl), ds = [.ref p, .int (b : Nat), frts xs] ∧ (1 ≤ n ∧ n ≤ 4) ∧ (1 ≤ B ∧ B ≤ 12) ∧ isGm G0 G p k (rowsF n B) t ∧ b ≤ d ∧ GmD n C xs ∧ C + 2 * b ≤ 1000 ∧ t.length + costF (gmR n B) b ≤ gmLim ∧
    (∀ G' t', isGm G0 G' p k (rowsF n B) t' → t'.length ≤ t.length + costF (gmR n B) b → Q (fr (Wd (rowsF n B) b xs)) G')
def sp_Game_dealt_worth (d : Nat) : DSp := fun ds G Q _ => ∃ (G0 : Gp) (p k : Addr) (n B b C : Nat) (xs : List Rat) (s : Int × List Int) (i : Nat) (t : Tbl), ds = [.ref p, .int ((b + 1 : Nat) : Int), frts xs, shD s, .int (i : Nat)] ∧ (1 ≤ n ∧ n ≤ 4) ∧ (1 ≤ B ∧ B ≤ 12) ∧ isGm G0 G p k (rowsF n B) t ∧ (b + 1 ≤ d ∨ b = 0) ∧ GmD n C xs ∧ C + 2 * (b + 1) ≤ 1000 ∧ s ∈ rowsF n B ∧ i < n ∧ t.length + costF (gmR n B) b ≤ gmLim ∧
    (∀ G' t', isGm G0 G' p k (rowsF n B) t' → t'.length ≤ t.length + costF (gmR n B) b → Q (fr (dealV (Wd (rowsF n B) b) (b == 0) xs s i)) G')
def sp_Game_answered (d : Nat) : DSp := fun ds G Q _ => ∃ (G0 : Gp) (p k : Addr) (n B b C : Nat) (xs : List Rat) (s : Int × List Int) (t : Tbl), ds = [.ref p, .int ((b + 1 : Nat) : Int), frts xs, shD s] ∧ (1 ≤ n ∧ n ≤ 4) ∧ (1 ≤ B ∧ B ≤ 12) ∧ isGm G0 G p k (rowsF n B) t ∧ (b + 1 ≤ d ∨ b = 0) ∧ GmD n C xs ∧ C + 2 * (b + 1) ≤ 1000 ∧ s ∈ rowsF n B ∧ t.length + n * costF (gmR n B) b ≤ gmLim ∧
    (∀ G' t', isGm G0 G' p k (rowsF n B) t' → t'.length ≤ t.length + n * costF (gmR n B) b → Q (fr (ansR (Wd (rowsF n B) b) (b == 0) xs s)) G')
theorem dealV_sz {n B b C i : Nat} {xs : List Rat} {s : Int × List Int} (hW : ∀ C ys, GmD n C ys → Szs LL (C + 2 * b) [Wd (rowsF n B) b ys]) (hB : 1 ≤ B ∧ B ≤ 12) (hn : 1 ≤ n ∧ n ≤ 4) (hd : GmD n C xs) (hs : s ∈ rowsF n B) (hi : i < n) : Szs LL (C + 2 * (b + 1)) [dealV (Wd (rowsF n B) b) (b == 0) xs s i] := by
  obtain ⟨h1, _, _⟩ := hd.step hs hB (by omega) hi
  have hne : pay (grow s xs) i ≠ [] := fun z => by have := h1.ln; rw [z, List.length_nil] at this; omega
  have m1 : Sz LL (C + 2 * (b + 1)) (mxR (pay (grow s xs) i)) := (h1.sz _ (mxR_mem hne)).mono (Nat.dvd_refl _) (by omega)
  intro y hy
  rw [List.mem_singleton.mp hy]
  unfold dealV
  split
  · exact m1
  · rcases mx2_or (mxR (pay (grow s xs) i)) (Wd (rowsF n B) b (pay (grow s xs) i)) with e | e
    · rw [e]; exact m1
    · rw [e]
      exact (hW _ _ h1 _ (List.mem_singleton_self _)).mono (Nat.dvd_refl _) (by omega)
theorem foldl_mn_mem {α : Type} (f : α → Rat) : ∀ (l : List α) (a : Rat), l.foldl (fun a i => mn2 a (f i)) a = a ∨ ∃ i ∈ l, l.foldl (fun a i => mn2 a (f i)) a = f i
  | [], a => .inl rfl
  | i :: l, a => by
    rw [List.foldl_cons]
    rcases foldl_mn_mem f l (mn2 a (f i)) with e | ⟨j, hj, e⟩
    · rw [e]
      unfold mn2
      split
      · exact .inr ⟨i, List.mem_cons_self, rfl⟩
      · exact .inl rfl
    · exact .inr ⟨j, List.mem_cons_of_mem _ hj, e⟩
theorem ansR_at {f : List Rat → Rat} {one : Bool} {d : List Rat} {s : Int × List Int} (h : 0 < d.length) : ∃ i, i < d.length ∧ ansR f one d s = dealV f one d s i := by
  unfold ansR
  rcases foldl_mn_mem (fun i => dealV f one d s (i + 1)) (List.range (d.length - 1)) (dealV f one d s 0) with e | ⟨i, hi, e⟩
  · exact ⟨0, h, e⟩
  · exact ⟨i + 1, by have := List.mem_range.mp hi; omega, e⟩
theorem rowsF_ne {n B : Nat} (hn : 1 ≤ n) : rowsF n B ≠ [] := fun z => by
  have h : List.replicate (n - 1) 0 ++ [B] ∈ tpsF n B := (tpsF_mem _ _ _).mpr ⟨hn, by rw [List.length_append, List.length_replicate, List.length_singleton]; omega, by simp⟩
  have := List.mem_map_of_mem (f := shF B) h
  rw [show (tpsF n B).map (shF B) = [] from z] at this
  cases this
theorem Wd_sz {n B : Nat} (hB : 1 ≤ B ∧ B ≤ 12) (hn : 1 ≤ n ∧ n ≤ 4) : ∀ (b C : Nat) (ys : List Rat), GmD n C ys → Szs LL (C + 2 * b) [Wd (rowsF n B) b ys]
  | 0, C, ys, h => fun y hy => by
    rw [List.mem_singleton.mp hy]
    have hne : ys ≠ [] := fun z => by have := h.ln; rw [z, List.length_nil] at this; omega
    exact (h.sz _ (mxR_mem hne)).mono (Nat.dvd_refl _) (by omega)
  | b + 1, C, ys, h => fun y hy => by
    rw [List.mem_singleton.mp hy]
    have hs := h.perm (srtR_perm ys)
    have hne : ((rowsF n B).map fun s => ansR (Wd (rowsF n B) b) (b == 0) (srtR ys) s) ≠ [] := fun z => rowsF_ne (B := B) hn.1 (List.map_eq_nil_iff.mp z)
    obtain ⟨s, hsm, e⟩ := List.mem_map.mp (mxR_mem hne)
    show Sz LL _ (mxR ((rowsF n B).map fun s => ansR (Wd (rowsF n B) b) (b == 0) (srtR ys) s))
    rw [← e]
    obtain ⟨i, hi, e2⟩ := ansR_at (f := Wd (rowsF n B) b) (one := b == 0) (d := srtR ys) (s := s) (by rw [hs.ln]; omega)
    rw [e2]
    exact dealV_sz (fun C ys h => Wd_sz hB hn b C ys h) hB hn hs hsm (by rw [hs.ln] at hi; exact hi) _ (List.mem_singleton_self _)
/-! tuples of numbers can be sorted -/
open PySem.W (EachIs AllAlike Sortable dataLe dataKind SortsAt alike alikeAll) in
theorem toPys_t : ∀ c : List Nat, toPys (c.map fun p : Nat => .int (p : Nat)) = some (c.map fun p => .int (p : Nat))
  | [] => rfl
  | p :: c => by
    show (match toPy (.int (p : Nat)), toPys (c.map fun p : Nat => .int (p : Nat)) with | some x, some y => some (x :: y) | _, _ => none) = _
    rw [toPys_t c]
    rfl
theorem toPy_t (c : List Nat) : toPy (natT c) = some (.tuple (c.map fun p => .int (p : Nat))) := by
  show (toPys (c.map fun p : Nat => .int (p : Nat))).map PyData.tuple = _
  rw [toPys_t]
  rfl
theorem enc_t (c : List Nat) : DL.encD (natT c) = .tuple (c.map fun p => .int (p : Nat)) := by
  unfold DL.encD
  rw [toPy_t]
  rfl
theorem pyAll_t : ∀ c : List Nat, PyData.depthAll (c.map fun p => PyData.int (p : Nat)) = 0
  | [] => by
    show PyData.depthAll [] = 0
    unfold PyData.depthAll
    rfl
  | p :: c => by
    show PyData.depthAll (PyData.int (p : Nat) :: c.map fun p => PyData.int (p : Nat)) = 0
    unfold PyData.depthAll
    rw [pyAll_t c]
    unfold PyData.depth
    rfl
theorem alike_t : ∀ c d : List Nat, c.length = d.length → PySem.W.alikeAll (c.map fun p => PyData.int (p : Nat)) (d.map fun p => PyData.int (p : Nat)) = true
  | [], [], _ => by simp [PySem.W.alikeAll]
  | p :: c, q :: d, h => by
    have := alike_t c d (by simpa using h)
    simp [PySem.W.alikeAll, PySem.W.alike, this]
  | [], _ :: _, h => by cases h
  | _ :: _, [], h => by cases h
theorem sortOk_t {n : Nat} (hn : 1 ≤ n) {l : List (List Nat)} (h : l.length ≤ sizeLine) (hl : ∀ c ∈ l, c.length = n) : SortOk (l.map natT) := by
  refine ⟨fun d hd => ?_, ?_, ?_, by rw [List.length_map]; exact h⟩
  · obtain ⟨t, _, rfl⟩ := List.mem_map.mp hd
    refine ⟨_, toPy_t t, ?_⟩
    unfold PyData.depth
    rw [pyAll_t]
    decide
  · intro x hx y hy
    rw [List.map_map] at hx hy
    obtain ⟨c, hc, rfl⟩ := List.mem_map.mp hx
    obtain ⟨d, hd, rfl⟩ := List.mem_map.mp hy
    show PySem.W.alike (DL.encD (natT c)) (DL.encD (natT d)) = true
    rw [enc_t, enc_t]
    unfold PySem.W.alike
    exact alike_t c d (by rw [hl c hc, hl d hd])
  · refine .inl fun x hx => ?_
    rw [List.map_map] at hx
    obtain ⟨c, hc, rfl⟩ := List.mem_map.mp hx
    have := hl c hc
    cases c with
    | nil => rw [List.length_nil] at this; omega
    | cons p c => exact ⟨_, _, enc_t _⟩

theorem upD_drop {lo : Int} {n i : Nat} (h : i < n) : (upD lo n).drop i = .int (lo + (i : Nat)) :: (upD lo n).drop (i + 1) := by
  have hl : i < (upD lo n).length := by unfold upD; rw [List.length_map, List.length_range]; exact h
  have e : (upD lo n)[i]'hl = .int (lo + (i : Nat)) := by simp [upD]
  rw [List.drop_eq_getElem_cons hl, e]
theorem upD_end {lo : Int} {n i : Nat} (h : n ≤ i) : (upD lo n).drop i = [] := List.drop_eq_nil_of_le (by unfold upD; rw [List.length_map, List.length_range]; exact h)
abbrev Th := Nat × Nat
abbrev Win := Nat × Option Nat
def lastD : Option Nat → D
  | none => .non
  | some t => .int (t : Nat)
def winD (w : Win) : D := .tup [.int (w.1 : Nat), lastD w.2]
def thD (t : Th) : D := .tup [.int (t.1 : Nat), .int (t.2 : Nat)]
def kT (t : Th) : NestedKey := .tup [.num (t.1 : Nat), .num (t.2 : Nat)]
def wayD (p : Th × Nat) : D := .tup [thD p.1, .int (p.2 : Nat)]
theorem nkD_kT (t : Th) : nkD (kT t) = thD t := rfl
theorem keyN_th (t : Th) : keyN (thD t) = some (kT t) := rfl
theorem keyOk_th (t : Th) : keyOk (kT t) = true := rfl
theorem kT_inj {s t : Th} (h : kT s = kT t) : s = t := by
  injection h with h
  injection h with h1 h
  injection h with h2 _
  injection h1 with h1
  injection h2 with h2
  exact Prod.ext (by omega) (by omega)
theorem thD_inj {s t : Th} (h : thD s = thD t) : s = t := by
  injection h with h
  injection h with h1 h
  injection h with h2 _
  injection h1 with h1
  injection h2 with h2
  exact Prod.ext (by omega) (by omega)
/-- the windows of one person's things, by what its shares come to behind each beat -/
def padW (w : List Win) (k t : Nat) : List Win := w ++ List.replicate (k - w.length) (t, none)
def endW : List Win → Nat → Nat → List Win
  | [], _, _ => []
  | w :: ws, 0, _ => w :: ws
  | w :: ws, k + 1, t => (w.1, match w.2 with | none => some t | some x => some x) :: endW ws k t
def winsF : List Rat → Nat → List Win → List Win
  | [], _, w => w
  | v :: vs, t, w => winsF vs (t + 1) (endW (padW w v.ceil.toNat t) v.floor.toNat t)
theorem endW_len : ∀ (ws : List Win) (k t : Nat), (endW ws k t).length = ws.length
  | [], _, _ => rfl
  | _ :: _, 0, _ => rfl
  | _ :: ws, k + 1, t => by
    unfold endW
    rw [List.length_cons, List.length_cons, endW_len ws k t]
theorem endW_zero : ∀ (ws : List Win) (t : Nat), endW ws 0 t = ws
  | [], _ => rfl
  | _ :: _, _ => rfl
theorem endW_succ : ∀ (ws : List Win) (k t : Nat), k < ws.length → endW ws (k + 1) t = (match (endW ws k t)[k]? with | some (a, none) => (endW ws k t).set k (a, some t) | _ => endW ws k t)
  | [], _, _, h => by simp at h
  | (a, none) :: ws, 0, t, _ => by simp [endW, endW_zero]
  | (a, some x) :: ws, 0, t, _ => by simp [endW, endW_zero]
  | w :: ws, k + 1, t, h => by
    have ih := endW_succ ws k t (by simpa using h)
    show _ :: endW ws (k + 1) t = _
    rw [ih]
    show _ = match (_ :: endW ws k t)[k + 1]? with | some (a, none) => (_ :: endW ws k t).set (k + 1) (a, some t) | _ => _ :: endW ws k t
    rw [List.getElem?_cons_succ]
    cases (endW ws k t)[k]? with
    | none => rfl
    | some q =>
      obtain ⟨a, o⟩ := q
      cases o with
      | none => rfl
      | some x => rfl
theorem padW_len (w : List Win) (k t : Nat) : (padW w k t).length = max w.length k := by
  unfold padW
  rw [List.length_append, List.length_replicate]
  omega
theorem floor_nd (x : Rat) : x.num / (x.den : Int) = x.floor := by
  unfold Rat.floor
  split
  · rename_i h
    rw [h]
    simp
  · rfl
theorem ceil_nd (x : Rat) : -(-x.num / (x.den : Int)) = x.ceil := by
  have e : -x.num / (x.den : Int) = (-x).floor := by
    rw [← floor_nd]
    rfl
  rw [e]
  apply Int.le_antisymm
  · have h : -x.ceil ≤ (-x).floor := Rat.le_floor_iff.mpr (by
      have := Rat.ceil_le_iff.mp (Int.le_refl x.ceil)
      rw [Rat.intCast_neg]
      grind)
    omega
  · refine Rat.ceil_le_iff.mpr ?_
    have := Rat.floor_le (-x)
    rw [Rat.intCast_neg]
    grind
theorem got_frP {ys : List Rat} {p : Nat} {G : Gp} {Q : DK} (h : p < ys.length) : gotI (ys.map fr) (p : Nat) G Q = Q (fr (ys.getD p 0)) G := by
  refine got_eq ?_
  rw [at_nat (by omega), Int.toNat_natCast, List.getElem?_map, List.getElem?_eq_getElem h, List.getD_eq_getElem?_getD, List.getElem?_eq_getElem h]
  rfl
theorem got_map {α : Type} {f : α → D} {xs : List α} {i : Nat} {x : α} {G : Gp} {Q : DK} (h : xs[i]? = some x) : gotI (xs.map f) (i : Nat) G Q = Q (f x) G := by
  refine got_eq ?_
  rw [at_nat (by omega), Int.toNat_natCast, List.getElem?_map, h]
  rfl
theorem smdiv {x : Rat} (h : Sm x) (i : Int) : DivOk i x.den := by
  have := x.den_pos
  have h2 := h.d
  have h3 : x.den.log2 < 3000 := (Nat.log2_lt (by omega)).mpr h2
  exact ⟨by omega, by rw [Int.natAbs_natCast]; omega⟩
theorem forL_rng {g : DG} {tb : DS} {E : DEnds} {n : Nat} (W : Nat → Sl → Gp → Prop) (hs : ∀ (i : Nat) δ G (N : Sl → Gp → Prop), i < n → W i δ G → (∀ δ G, W (i + 1) δ G → N δ G) → g (.int (i : Nat)) δ G fun δ1 G1 => tb { E with nx := N, ct := N, bk := E.nx } δ1 G1)
    (hd : ∀ δ G, W n δ G → E.nx δ G) (δ : Sl) (G : Gp) (h : W 0 δ G) : forL g tb Sure (upD 0 n) E δ G := by
  refine forL_by (fun its δ G => ∃ i : Nat, its = (upD 0 n).drop i ∧ i ≤ n ∧ W i δ G) (fun _ _ _ _ => trivial) ?_ ?_ _ _ _ ⟨0, rfl, Nat.zero_le _, h⟩
  · rintro x its δ G N ⟨i, ei, hi, w⟩ kN
    have hlt : i < n := by
      rcases Nat.lt_or_ge i n with z | z
      · exact z
      · rw [upD_end z] at ei; cases ei
    rw [upD_drop hlt, Int.zero_add] at ei
    cases ei
    exact hs i δ G N hlt w fun δ G w => kN δ G ⟨i + 1, rfl, hlt, w⟩
  · rintro δ G ⟨i, ei, hi, w⟩
    have : i = n := by
      rcases Nat.lt_or_ge i n with z | z
      · rw [upD_drop z] at ei; cases ei
      · omega
    subst this
    exact hd δ G w
theorem forL_en {α : Type} {f : α → D} {g : DG} {tb : DS} {S : Gp → Prop} {E : DEnds} {ys : List α} (W : Nat → Sl → Gp → Prop) (hS : ∀ i δ G, W i δ G → S G)
    (hs : ∀ (i : Nat) (y : α) δ G (N : Sl → Gp → Prop), ys[i]? = some y → W i δ G → (∀ δ G, W (i + 1) δ G → N δ G) → g (.tup [.int (i : Nat), f y]) δ G fun δ1 G1 => tb { E with nx := N, ct := N, bk := E.nx } δ1 G1)
    (hd : ∀ δ G, W ys.length δ G → E.nx δ G) (δ : Sl) (G : Gp) (h : W 0 δ G) : forL g tb S (enumI 0 (ys.map f)) E δ G := by
  refine forL_by (fun its δ G => ∃ i : Nat, its = enumI (i : Nat) ((ys.drop i).map f) ∧ i ≤ ys.length ∧ W i δ G) (fun _ _ _ ⟨_, _, _, w⟩ => hS _ _ _ w) ?_ ?_ _ _ _ ⟨0, rfl, Nat.zero_le _, h⟩
  · rintro x its δ G N ⟨i, ei, hi, w⟩ kN
    rcases Nat.lt_or_ge i ys.length with z | z
    · rw [List.drop_eq_getElem_cons z] at ei
      cases ei
      exact hs i _ δ G N (List.getElem?_eq_getElem z) w fun δ G w => kN δ G ⟨i + 1, rfl, z, w⟩
    · rw [List.drop_eq_nil_of_le z] at ei
      cases ei
  · rintro δ G ⟨i, ei, hi, w⟩
    rcases Nat.lt_or_ge i ys.length with z | z
    · rw [List.drop_eq_getElem_cons z] at ei
      cases ei
    · have : i = ys.length := by omega
      subst this
      exact hd δ G w
theorem forL_ls {α : Type} {f : α → D} {g : DG} {tb : DS} {S : Gp → Prop} {E : DEnds} {ys : List α} (W : Nat → Sl → Gp → Prop) (hS : ∀ i δ G, W i δ G → S G)
    (hs : ∀ (i : Nat) (y : α) δ G (N : Sl → Gp → Prop), ys[i]? = some y → W i δ G → (∀ δ G, W (i + 1) δ G → N δ G) → g (f y) δ G fun δ1 G1 => tb { E with nx := N, ct := N, bk := E.nx } δ1 G1)
    (hd : ∀ δ G, W ys.length δ G → E.nx δ G) (δ : Sl) (G : Gp) (h : W 0 δ G) : forL g tb S (ys.map f) E δ G := by
  refine forL_by (fun its δ G => ∃ i : Nat, its = (ys.drop i).map f ∧ i ≤ ys.length ∧ W i δ G) (fun _ _ _ ⟨_, _, _, w⟩ => hS _ _ _ w) ?_ ?_ _ _ _ ⟨0, rfl, Nat.zero_le _, h⟩
  · rintro x its δ G N ⟨i, ei, hi, w⟩ kN
    rcases Nat.lt_or_ge i ys.length with z | z
    · rw [List.drop_eq_getElem_cons z] at ei
      cases ei
      exact hs i _ δ G N (List.getElem?_eq_getElem z) w fun δ G w => kN δ G ⟨i + 1, rfl, z, w⟩
    · rw [List.drop_eq_nil_of_le z] at ei
      cases ei
  · rintro δ G ⟨i, ei, hi, w⟩
    rcases Nat.lt_or_ge i ys.length with z | z
    · rw [List.drop_eq_getElem_cons z] at ei
      cases ei
    · have : i = ys.length := by omega
      subst this
      exact hd δ G w
/-! dicts by things -/
def dcT {β : Type} (f : β → D) (l : List (Th × β)) : List (NestedKey × D) := l.map fun q => (kT q.1, f q.2)
theorem valN_dcT {β : Type} {f : β → D} {t : Th} : ∀ l : List (Th × β), valN (dcT f l) (kT t) = (l.lookup t).map f
  | [] => rfl
  | (s, b) :: l => by
    show valN ((kT s, f b) :: dcT f l) (kT t) = _
    rw [valN_cons, valN_dcT l, List.lookup_cons]
    by_cases h : s = t
    · subst h
      simp
    · have h1 : ¬ kT s = kT t := fun z => h (kT_inj z)
      have h2 : (t == s) = false := by
        rw [beq_eq_false_iff_ne]
        exact fun z => h z.symm
      rw [if_neg h1, h2]
theorem putN_new {β : Type} {kvs : List (NestedKey × β)} {k : NestedKey} {v : β} (h : valN kvs k = none) : putN kvs k v = kvs ++ [(k, v)] := by
  unfold putN
  rw [h]
  rfl
theorem look_none {β : Type} {l : List (Th × β)} {t : Th} (h : t ∉ l.map (·.1)) : l.lookup t = none := by
  rw [List.lookup_eq_none_iff]
  intro p hp
  rw [bne_iff_ne]
  exact fun z => h (List.mem_map.mpr ⟨p, hp, z.symm⟩)
theorem putN_dcT {β : Type} {f : β → D} {l : List (Th × β)} {t : Th} {b : β} (h : t ∉ l.map (·.1)) : putN (dcT f l) (kT t) (f b) = dcT f (l ++ [(t, b)]) := by
  rw [putN_new (by rw [valN_dcT, look_none h]; rfl)]
  unfold dcT
  rw [List.map_append]
  rfl
/-- all tuples, person by person -/
def tlF (B : Nat) : Nat → List (List Nat)
  | 0 => [[]]
  | j + 1 => (tlF B j).flatMap fun r => (List.range (B - r.sum + 1)).map fun t => r ++ [t]
def topL (n B : Nat) : List (List Nat) := (tlF B (n - 1)).map fun r => r ++ [B - r.sum]
theorem tlF_mem {B : Nat} : ∀ (j : Nat) (l : List Nat), l ∈ tlF B j → l.length = j ∧ l.sum ≤ B
  | 0, l, h => by rw [List.mem_singleton.mp h]; exact ⟨rfl, Nat.zero_le _⟩
  | j + 1, l, h => by
    obtain ⟨r, hr, h⟩ := List.mem_flatMap.mp h
    obtain ⟨t, ht, rfl⟩ := List.mem_map.mp h
    obtain ⟨h1, h2⟩ := tlF_mem j r hr
    have := List.mem_range.mp ht
    exact ⟨by rw [List.length_append, h1]; rfl, by rw [List.sum_append, List.sum_singleton]; omega⟩
theorem tlF_len {B j : Nat} (hB : B ≤ 12) (hj : j ≤ 3) : (tlF B j).length ≤ 455 := by
  have h : ∀ B, B < 13 → ∀ j, j < 4 → (tlF B j).length ≤ 455 := by decide +kernel
  exact h B (by omega) j (by omega)
theorem topL_len {n B : Nat} (hn : 1 ≤ n ∧ n ≤ 4) (hB : B ≤ 12) : (topL n B).length = (tpsF n B).length := by
  have h : ∀ n, n < 4 → ∀ B, B < 13 → (topL (n + 1) B).length = (tpsF (n + 1) B).length := by decide +kernel
  have := h (n - 1) (by omega) B (by omega)
  rwa [show n - 1 + 1 = n by omega] at this
theorem topL_mem {n B : Nat} (hn : 1 ≤ n) {l : List Nat} (h : l ∈ topL n B) : l.length = n ∧ l.sum = B := by
  obtain ⟨r, hr, rfl⟩ := List.mem_map.mp h
  obtain ⟨h1, h2⟩ := tlF_mem _ _ hr
  exact ⟨by rw [List.length_append, h1]; show n - 1 + 1 = n; omega, by rw [List.sum_append, List.sum_singleton]; omega⟩
theorem natT_app (r : List Nat) (t : Nat) : natT (r ++ [t]) = .tup ((r.map fun t : Nat => .int (t : Int)) ++ [.int (t : Int)]) := by
  unfold natT
  rw [List.map_append]
  rfl
theorem sum_castN : ∀ l : List Nat, (l.map fun t : Nat => (t : Int)).sum = ((l.sum : Nat) : Int)
  | [] => rfl
  | a :: l => by rw [List.map_cons, List.sum_cons, List.sum_cons, sum_castN l]; omega
theorem seqOf_le {x : D} {G G2 : Gp} {xs : List D} (h : seqOf x G = some xs) (k : GLe G G2) : seqOf x G2 = some xs := by
  cases x with
  | ref a =>
    have h : (match G a with | some (.lst xs) => some xs | _ => none) = some xs := h
    cases e : G a with
    | none => rw [e] at h; cases h
    | some o =>
      rw [e] at h
      show (match G2 a with | some (.lst xs) => some xs | _ => none) = some xs
      rw [k a o e]
      exact h
  | _ => exact h
theorem stays_le {x : D} {G G2 : Gp} {xs : List D} (h : seqOf x G = some xs) (k : GLe G G2) : Stays x G G2 := by
  cases x with
  | ref a =>
    have h : (match G a with | some (.lst xs) => some xs | _ => none) = some xs := h
    cases e : G a with
    | none => rw [e] at h; cases h
    | some o => show G2 a = G a; rw [k a o e, e]
  | _ => exact trivial
theorem stays_gu2 {x : D} {G : Gp} {xs : List D} {a : Addr} {o o' : GO} (h : seqOf x G = some xs) (ha : G a = none) : Stays x (gu G a o) (gu G a o') := by
  cases x with
  | ref b =>
    have h : (match G b with | some (.lst xs) => some xs | _ => none) = some xs := h
    have z : b ≠ a := fun z => by rw [z, ha] at h; cases h
    show gu G a o' b = gu G a o b
    rw [gu_ne z, gu_ne z]
  | _ => exact trivial
abbrev sp_L_tops : DSp := fun ds G Q _ => ∃ n B : Nat, ds = [.int (n : Nat), .int (B : Nat)] ∧ (1 ≤ n ∧ n ≤ 4) ∧ (1 ≤ B ∧ B ≤ 12) ∧ Q (.lst (sortD ((topL n B).map natT))) G
def t_L_tops : DS :=
  (dSeq (dAsg 2 (dLst false (aCons (dTup aNil) aNil)))
  (dSeq (dFor (dRange1 (aCons (dOp dSub (dVar 0) (dC (.int 1))) aNil)) (gN 3) (dSeq (dAsg 4 (dLst true aNil))
  (dSeq (dFor (dSeqI (dVar 2)) (gN 5) (dDrop (dMeL dExtend (dVar 4) (aCons (dLc false (dRange1 (aCons (dOp (dAdd false) (dOp dSub (dVar 1) (dCB dSum (aCons (dVar 5) aNil))) (dC (.int 1))) aNil)) (gN 6) dYes (dOp (dAdd false) (dVar 5) (dTup (aCons (dVar 6) aNil))) [6]) aNil))))
  (dAsg 2 (dVar 4)))))
  (dRet (dCB (dSortN false) (aCons (dLc false (dSeqI (dVar 2)) (gN 5) dYes (dOp (dAdd false) (dVar 5) (dTup (aCons (dOp dSub (dVar 1) (dCB dSum (aCons (dVar 5) aNil))) aNil))) [5]) aNil)))))
theorem len_L_tops : ∀ ds G Q E, sp_L_tops ds G Q E → ds.length = ["_law_n", "_law_bottom"].length := by
  intro ds G Q E h
  first | (obtain ⟨rfl, _⟩ := h; rfl) | (obtain ⟨_, rfl, _⟩ := h; rfl) | (obtain ⟨_, _, rfl, _⟩ := h; rfl) | (obtain ⟨_, _, _, rfl, _⟩ := h; rfl) | (obtain ⟨_, _, _, _, rfl, _⟩ := h; rfl) | (obtain ⟨_, _, _, _, _, rfl, _⟩ := h; rfl) | (obtain ⟨_, _, _, _, _, _, rfl, _⟩ := h; rfl) | (obtain ⟨_, _, _, _, _, _, _, rfl, _⟩ := h; rfl) | (obtain ⟨_, _, _, _, _, _, _, _, rfl, _⟩ := h; rfl) | (obtain ⟨_, _, _, _, _, _, _, _, _, rfl, _⟩ := h; rfl) | (obtain ⟨_, _, _, _, _, _, _, _, _, _, rfl, _⟩ := h; rfl) | (obtain ⟨_, _, _, _, _, _, _, _, _, _, _, rfl, _⟩ := h; rfl) | (obtain ⟨_, _, _, _, _, _, _, _, _, _, _, _, rfl, _⟩ := h; rfl) | (obtain ⟨_, _, _, _, _, _, _, _, _, _, _, _, _, rfl, _⟩ := h; rfl) | (obtain ⟨_, _, _, _, _, _, _, _, _, _, _, _, _, _, rfl, _⟩ := h; rfl) | (obtain ⟨_, _, _, _, _, _, _, _, _, _, _, _, _, _, _, rfl, _⟩ := h; rfl)
theorem rd_L_tops : ∀ ds G Q E', sp_L_tops ds G Q E' → t_L_tops (endD Q) (startD ["_law_n", "_law_bottom", "_law_found", "_law_person", "_law_later", "_law_row", "_law_top"] ds) G := by
  rintro ds G Q E' ⟨n, B, rfl, hn, hB, q⟩
  unfold t_L_tops
  refine dSeq_mk ?_
  walk_at "dl"
  refine ⟨by decide, by decide, ?_⟩
  refine dSeq_mk ?_
  walk_at "dl"
  refine ⟨by omega, by omega, ?_⟩
  rw [show ((n : Int) - 1).toNat = n - 1 by omega]
  refine forL_by (fun its δ G' => ∃ (j : Nat) (x : D) (s3 s4 s5 s6 : Option D), its = (upD 0 (n - 1)).drop j ∧ j ≤ n - 1 ∧ seqOf x G' = some ((tlF B j).map natT) ∧ GLe G G' ∧ δ = [some (.int n), some (.int B), some x, s3, s4, s5, s6]) (fun _ _ _ _ => trivial) ?_ ?_ _ _ _ ⟨0, _, _, _, _, _, rfl, Nat.zero_le _, rfl, GLe.refl, rfl⟩
  · rintro y its δ G' N ⟨j, x, s3, s4, s5, s6, ei, hj, hx, gl, rfl⟩ kN
    have hlt : j < n - 1 := by
      rcases Nat.lt_or_ge j (n - 1) with z | z
      · exact z
      · rw [upD_end z] at ei; cases ei
    rw [upD_drop hlt] at ei
    cases ei
    refine dSeq_mk ?_
    walk_at "dl"
    refine ⟨by decide, fun a ha => ?_⟩
    refine dSeq_mk ?_
    walk_at "dl"
    rw [seqOf_le hx (.new ha)]
    have hT := tlF_len (B := B) (j := j + 1) hB.2 (by omega)
    have hT : ((tlF B j).flatMap fun r => (List.range (B - r.sum + 1)).map fun t => r ++ [t]).length ≤ 455 := hT
    refine forL_src natT (fun rest δ G2 => ∃ (done : List (List Nat)) (s5 s6 : Option D), tlF B j = done ++ rest ∧ G2 = gu G' a (.lst ((done.flatMap fun r => (List.range (B - r.sum + 1)).map fun t => r ++ [t]).map natT)) ∧ δ = [some (.int n), some (.int B), some x, some (.int (0 + (j : Nat))), some (.ref a), s5, s6]) (fun _ δ G2 ⟨_, _, _, _, e, _⟩ => e ▸ stays_gu2 hx ha) ?_ ?_ _ _ rfl _ _ ⟨[], _, _, rfl, rfl, rfl⟩
    · rintro r rest δ G2 N2 ⟨dn, s5, s6, ed, rfl, rfl⟩ kN2
      obtain ⟨r1, r2⟩ := tlF_mem j r (by rw [ed]; exact List.mem_append_right _ List.mem_cons_self)
      have e0 : dSum [natT r] = dSum [.tup (r.map fun t : Nat => .int (t : Int))] := rfl
      walk_at "dl"
      rw [e0]
      walk_at "dl"
      rw [show (List.map Nat.cast r).sum = ((r.sum : Nat) : Int) from sum_castN r]
      refine ⟨by omega, by omega, ?_⟩
      rw [show ((B : Int) - ((r.sum : Nat) : Int) + 1).toNat = B - r.sum + 1 by omega]
      refine lc_src (List.range (B - r.sum + 1)) (fun t : Nat => .int (0 + (t : Nat))) (fun t => natT (r ++ [t])) rfl (by rw [List.length_range]; exact Nat.le_trans (by omega : _ ≤ 1000) (by decide)) (fun _ _ _ => trivial) (fun t ht p2 ys Q' hp2 hk => ?_) ?_
      · walk_at "dl"
        refine ⟨by decide, ?_⟩
        show dAdd false (.tup (r.map fun t : Nat => .int (t : Int))) _ _ _
        walk_at "dl"
        rw [List.length_map, r1]
        refine ⟨Nat.le_trans (by omega : _ ≤ 1000) (by decide), ?_⟩
        rw [Int.zero_add, ← natT_app]
        exact hk
      · walk_at "dl"
        have eN : (((dn ++ [r]).flatMap fun r => (List.range (B - r.sum + 1)).map fun t => r ++ [t]).map natT) = ((dn.flatMap fun r => (List.range (B - r.sum + 1)).map fun t => r ++ [t]).map natT) ++ ((List.range (B - r.sum + 1)).map fun t => natT (r ++ [t])) := by
          rw [List.flatMap_append, List.map_append, List.flatMap_singleton, List.map_map]
          rfl
        have le1 : ((dn ++ [r]).flatMap fun r => (List.range (B - r.sum + 1)).map fun t => r ++ [t]).length ≤ 455 := by
          rw [ed, show dn ++ r :: rest = (dn ++ [r]) ++ rest by rw [List.append_assoc]; rfl, List.flatMap_append, List.length_append] at hT
          omega
        have e2 := congrArg List.length eN
        rw [List.length_append, List.length_map] at e2
        refine ⟨Nat.le_trans (by omega : _ ≤ 1000) (by decide), ?_⟩
        rw [← eN]
        exact kN2 _ _ ⟨dn ++ [r], _, _, by rw [ed, List.append_assoc]; rfl, rfl, rfl⟩
    · rintro δ G2 ⟨dn, s5, s6, ed, rfl, rfl⟩
      rw [List.append_nil] at ed
      subst ed
      walk_at "dl"
      exact kN _ _ ⟨j + 1, _, _, _, _, _, rfl, hlt, seq_gu, gl.trans (.new ha), rfl⟩
  · rintro δ G' ⟨j, x, s3, s4, s5, s6, ei, hj, hx, gl, rfl⟩
    have : j = n - 1 := by
      rcases Nat.lt_or_ge j (n - 1) with z | z
      · rw [upD_drop z] at ei; cases ei
      · omega
    subst this
    walk_at "dl"
    rw [hx]
    refine lc_src (tlF B (n - 1)) natT (fun r => natT (r ++ [B - r.sum])) rfl (Nat.le_trans (tlF_len hB.2 (by omega)) (by decide)) (fun p ys hp => stays_le hx (.new hp)) (fun r hr p2 ys Q' hp2 hk => ?_) ?_
    · obtain ⟨r1, r2⟩ := tlF_mem _ r hr
      have e0 : dSum [natT r] = dSum [.tup (r.map fun t : Nat => .int (t : Int))] := rfl
      walk_at "dl"
      rw [e0]
      walk_at "dl"
      rw [show (List.map Nat.cast r).sum = ((r.sum : Nat) : Int) from sum_castN r]
      refine ⟨by decide, ?_⟩
      show dAdd false (.tup (r.map fun t : Nat => .int (t : Int))) _ _ _
      walk_at "dl"
      rw [List.length_map, r1]
      refine ⟨Nat.le_trans (by omega : _ ≤ 1000) (by decide), ?_⟩
      rw [show (B : Int) - ((r.sum : Nat) : Int) = ((B - r.sum : Nat) : Int) by omega, ← natT_app]
      exact hk
    · walk_at "dl"
      show SortOk ((tlF B (n - 1)).map fun r => natT (r ++ [B - r.sum])) ∧ _
      have e1 : ((tlF B (n - 1)).map fun r => natT (r ++ [B - r.sum])) = (topL n B).map natT := by
        unfold topL
        rw [List.map_map]
        rfl
      rw [e1]
      refine ⟨sortOk_t hn.1 ?_ fun c hc => (topL_mem hn.1 hc).1, Rt.less gl q⟩
      rw [topL_len hn hB.2]
      exact Nat.le_trans (tpsF_len hn.2 hB.2) (by decide)
abbrev sp_L_are_heavy : DSp := fun ds G Q _ => ∃ n B b : Nat, ds = [.int (n : Nat), .int (B : Nat), .int (b : Nat)] ∧ (1 ≤ n ∧ n ≤ 4) ∧ (1 ≤ B ∧ B ≤ 12) ∧ b ≤ 6 ∧ Q (.bl (decide (4000 < (n * (tpsF n B).length) ^ b))) G
def t_L_are_heavy : DS :=
  (dSeq (dAsg 3 (dC (.int 1)))
  (dSeq (dFor (dRange1 (aCons (dVar 2) aNil)) (gN 4) (dAsg 3 (dOp (dMul false) (dOp (dMul false) (dVar 3) (dVar 0)) (dCB dLen (aCons (dCall sp_L_tops X0 (aCons (dVar 0) (aCons (dVar 1) aNil))) aNil)))))
  (dRet (dOp dGt (dVar 3) (dC (.int 4000))))))
theorem len_L_are_heavy : ∀ ds G Q E, sp_L_are_heavy ds G Q E → ds.length = ["_law_n", "_law_bottom", "_law_beats"].length := by
  intro ds G Q E h
  first | (obtain ⟨rfl, _⟩ := h; rfl) | (obtain ⟨_, rfl, _⟩ := h; rfl) | (obtain ⟨_, _, rfl, _⟩ := h; rfl) | (obtain ⟨_, _, _, rfl, _⟩ := h; rfl) | (obtain ⟨_, _, _, _, rfl, _⟩ := h; rfl) | (obtain ⟨_, _, _, _, _, rfl, _⟩ := h; rfl) | (obtain ⟨_, _, _, _, _, _, rfl, _⟩ := h; rfl) | (obtain ⟨_, _, _, _, _, _, _, rfl, _⟩ := h; rfl) | (obtain ⟨_, _, _, _, _, _, _, _, rfl, _⟩ := h; rfl) | (obtain ⟨_, _, _, _, _, _, _, _, _, rfl, _⟩ := h; rfl) | (obtain ⟨_, _, _, _, _, _, _, _, _, _, rfl, _⟩ := h; rfl) | (obtain ⟨_, _, _, _, _, _, _, _, _, _, _, rfl, _⟩ := h; rfl) | (obtain ⟨_, _, _, _, _, _, _, _, _, _, _, _, rfl, _⟩ := h; rfl) | (obtain ⟨_, _, _, _, _, _, _, _, _, _, _, _, _, rfl, _⟩ := h; rfl) | (obtain ⟨_, _, _, _, _, _, _, _, _, _, _, _, _, _, rfl, _⟩ := h; rfl) | (obtain ⟨_, _, _, _, _, _, _, _, _, _, _, _, _, _, _, rfl, _⟩ := h; rfl)
theorem rd_L_are_heavy : ∀ ds G Q E', sp_L_are_heavy ds G Q E' → t_L_are_heavy (endD Q) (startD ["_law_n", "_law_bottom", "_law_beats", "_law_rows", "_law_beat"] ds) G := by
  rintro ds G Q E' ⟨n, B, b, rfl, hn, hB, hb, q⟩
  unfold t_L_are_heavy
  refine dSeq_mk ?_
  walk_at "dl"
  refine dSeq_mk ?_
  walk_at "dl"
  refine ⟨by omega, by omega, ?_⟩
  rw [Int.toNat_natCast]
  have hT := tpsF_len hn.2 hB.2
  have hpw : ∀ i, i ≤ b → (n * (tpsF n B).length) ^ i ≤ 1820 ^ 6 := fun i hi => Nat.le_trans (Nat.pow_le_pow_left (Nat.mul_le_mul hn.2 hT) i) (Nat.pow_le_pow_right (by decide) (by omega))
  refine forL_rng (fun i δ G2 => G2 = G ∧ ∃ s4 : Option D, δ = [some (.int n), some (.int B), some (.int b), some (.int (((n * (tpsF n B).length) ^ i : Nat) : Int)), s4]) ?_ ?_ _ _ ⟨rfl, _, rfl⟩
  · rintro i δ G2 N hi ⟨rfl, s4, rfl⟩ kN
    have h1 := hpw i (by omega)
    have h2 := hpw (i + 1) (by omega)
    have e1 : (n * (tpsF n B).length) ^ (i + 1) = (n * (tpsF n B).length) ^ i * n * (tpsF n B).length := by rw [Nat.pow_succ, Nat.mul_assoc]
    have z1 : 1 ≤ (tpsF n B).length := List.length_pos_iff.mpr fun z => rowsF_ne (B := B) hn.1 (by unfold rowsF; rw [z]; rfl)
    have h3 : (n * (tpsF n B).length) ^ i * n ≤ 1820 ^ 6 := Nat.le_trans (Nat.le_mul_of_pos_right _ z1) (by rw [← e1]; exact h2)
    walk_at "dl"
    have e2 : (((n * (tpsF n B).length) ^ i : Nat) : Int) * (n : Int) = (((n * (tpsF n B).length) ^ i * n : Nat) : Int) := (Int.natCast_mul _ _).symm
    have eL : (sortD ((topL n B).map natT)).length = (tpsF n B).length := by
      unfold sortD
      rw [List.length_mergeSort, List.length_map, topL_len hn hB.2]
    refine ⟨.r (by omega) (by omega), n, B, rfl, hn, hB, ?_⟩
    walk_at "dl"
    rw [eL]
    refine ⟨.r (by omega) (by omega), ?_⟩
    rw [e2, ← Int.natCast_mul, ← e1]
    exact kN _ _ ⟨rfl, _, rfl⟩
  · rintro δ G2 ⟨rfl, s4, rfl⟩
    walk_at "dl"
    have h1 := hpw b (Nat.le_refl _)
    have e3 : decide ((4000 : Int) < (((n * (tpsF n B).length) ^ b : Nat) : Int)) = decide (4000 < (n * (tpsF n B).length) ^ b) := decide_eq_decide.mpr (by omega)
    rw [e3]
    exact Rt.same q
abbrev sp_is_less : DSp := fun ds G Q _ => ∃ x y : Rat, ds = [fr x, fr y] ∧ Sm x ∧ Sm y ∧ Q (.bl (decide (x < y))) G
def t_is_less : DS :=
  (dRet (dOp dLt (dOp (dMul false) (dOp dIx (dVar 0) (dC (.int 0))) (dOp dIx (dVar 1) (dC (.int 1)))) (dOp (dMul false) (dOp dIx (dVar 1) (dC (.int 0))) (dOp dIx (dVar 0) (dC (.int 1))))))
theorem len_is_less : ∀ ds G Q E, sp_is_less ds G Q E → ds.length = ["one", "other"].length := by
  intro ds G Q E h
  first | (obtain ⟨rfl, _⟩ := h; rfl) | (obtain ⟨_, rfl, _⟩ := h; rfl) | (obtain ⟨_, _, rfl, _⟩ := h; rfl) | (obtain ⟨_, _, _, rfl, _⟩ := h; rfl) | (obtain ⟨_, _, _, _, rfl, _⟩ := h; rfl) | (obtain ⟨_, _, _, _, _, rfl, _⟩ := h; rfl) | (obtain ⟨_, _, _, _, _, _, rfl, _⟩ := h; rfl) | (obtain ⟨_, _, _, _, _, _, _, rfl, _⟩ := h; rfl) | (obtain ⟨_, _, _, _, _, _, _, _, rfl, _⟩ := h; rfl) | (obtain ⟨_, _, _, _, _, _, _, _, _, rfl, _⟩ := h; rfl) | (obtain ⟨_, _, _, _, _, _, _, _, _, _, rfl, _⟩ := h; rfl) | (obtain ⟨_, _, _, _, _, _, _, _, _, _, _, rfl, _⟩ := h; rfl) | (obtain ⟨_, _, _, _, _, _, _, _, _, _, _, _, rfl, _⟩ := h; rfl) | (obtain ⟨_, _, _, _, _, _, _, _, _, _, _, _, _, rfl, _⟩ := h; rfl) | (obtain ⟨_, _, _, _, _, _, _, _, _, _, _, _, _, _, rfl, _⟩ := h; rfl) | (obtain ⟨_, _, _, _, _, _, _, _, _, _, _, _, _, _, _, rfl, _⟩ := h; rfl)
theorem rd_is_less : ∀ ds G Q E', sp_is_less ds G Q E' → t_is_less (endD Q) (startD ["one", "other"] ds) G := by
  rintro ds G Q E' ⟨x, y, rfl, hx, hy, q⟩
  unfold t_is_less fr
  walk_at "dl"
  refine ⟨hx.mul hy, hy.mul hx, ?_⟩
  rw [rat_less]
  exact Rt.same q
abbrev sp_greater : DSp := fun ds G Q _ => ∃ x y : Rat, ds = [fr x, fr y] ∧ Sm x ∧ Sm y ∧ Q (fr (mx2 x y)) G
def t_greater : DS :=
  (dRet (dIf (dB (dCall sp_is_less X0 (aCons (dVar 0) (aCons (dVar 1) aNil)))) (dVar 1) (dVar 0)))
theorem len_greater : ∀ ds G Q E, sp_greater ds G Q E → ds.length = ["one", "other"].length := by
  intro ds G Q E h
  first | (obtain ⟨rfl, _⟩ := h; rfl) | (obtain ⟨_, rfl, _⟩ := h; rfl) | (obtain ⟨_, _, rfl, _⟩ := h; rfl) | (obtain ⟨_, _, _, rfl, _⟩ := h; rfl) | (obtain ⟨_, _, _, _, rfl, _⟩ := h; rfl) | (obtain ⟨_, _, _, _, _, rfl, _⟩ := h; rfl) | (obtain ⟨_, _, _, _, _, _, rfl, _⟩ := h; rfl) | (obtain ⟨_, _, _, _, _, _, _, rfl, _⟩ := h; rfl) | (obtain ⟨_, _, _, _, _, _, _, _, rfl, _⟩ := h; rfl) | (obtain ⟨_, _, _, _, _, _, _, _, _, rfl, _⟩ := h; rfl) | (obtain ⟨_, _, _, _, _, _, _, _, _, _, rfl, _⟩ := h; rfl) | (obtain ⟨_, _, _, _, _, _, _, _, _, _, _, rfl, _⟩ := h; rfl) | (obtain ⟨_, _, _, _, _, _, _, _, _, _, _, _, rfl, _⟩ := h; rfl) | (obtain ⟨_, _, _, _, _, _, _, _, _, _, _, _, _, rfl, _⟩ := h; rfl) | (obtain ⟨_, _, _, _, _, _, _, _, _, _, _, _, _, _, rfl, _⟩ := h; rfl) | (obtain ⟨_, _, _, _, _, _, _, _, _, _, _, _, _, _, _, rfl, _⟩ := h; rfl)
theorem rd_greater : ∀ ds G Q E', sp_greater ds G Q E' → t_greater (endD Q) (startD ["one", "other"] ds) G := by
  rintro ds G Q E' ⟨x, y, rfl, hx, hy, q⟩
  unfold t_greater
  walk_at "dl"
  refine ⟨x, y, rfl, hx, hy, ?_⟩
  unfold mx2 at q
  by_cases z : x < y
  · rw [if_pos z] at q
    rw [decide_eq_true z]
    exact Rt.same q
  · rw [if_neg z] at q
    rw [decide_eq_false z]
    exact Rt.same q
abbrev sp_greatest_of : DSp := fun ds G Q _ => ∃ (x : D) (xs : List Rat), ds = [x] ∧ (x = .tup (xs.map fr) ∨ x = .lst (xs.map fr)) ∧ xs ≠ [] ∧ (∀ y ∈ xs, Sm y) ∧ Q (fr (mxR xs)) G
def t_greatest_of : DS :=
  (dSeq (dAsg 1 (dOp dIx (dVar 0) (dC (.int 0))))
  (dSeq (dFor (dSeqI (dVar 0)) (gN 2) (dAsg 1 (dIf (dB (dCall sp_is_less X0 (aCons (dVar 1) (aCons (dVar 2) aNil)))) (dVar 2) (dVar 1))))
  (dRet (dVar 1))))
theorem len_greatest_of : ∀ ds G Q E, sp_greatest_of ds G Q E → ds.length = ["some"].length := by
  intro ds G Q E h
  first | (obtain ⟨rfl, _⟩ := h; rfl) | (obtain ⟨_, rfl, _⟩ := h; rfl) | (obtain ⟨_, _, rfl, _⟩ := h; rfl) | (obtain ⟨_, _, _, rfl, _⟩ := h; rfl) | (obtain ⟨_, _, _, _, rfl, _⟩ := h; rfl) | (obtain ⟨_, _, _, _, _, rfl, _⟩ := h; rfl) | (obtain ⟨_, _, _, _, _, _, rfl, _⟩ := h; rfl) | (obtain ⟨_, _, _, _, _, _, _, rfl, _⟩ := h; rfl) | (obtain ⟨_, _, _, _, _, _, _, _, rfl, _⟩ := h; rfl) | (obtain ⟨_, _, _, _, _, _, _, _, _, rfl, _⟩ := h; rfl) | (obtain ⟨_, _, _, _, _, _, _, _, _, _, rfl, _⟩ := h; rfl) | (obtain ⟨_, _, _, _, _, _, _, _, _, _, _, rfl, _⟩ := h; rfl) | (obtain ⟨_, _, _, _, _, _, _, _, _, _, _, _, rfl, _⟩ := h; rfl) | (obtain ⟨_, _, _, _, _, _, _, _, _, _, _, _, _, rfl, _⟩ := h; rfl) | (obtain ⟨_, _, _, _, _, _, _, _, _, _, _, _, _, _, rfl, _⟩ := h; rfl) | (obtain ⟨_, _, _, _, _, _, _, _, _, _, _, _, _, _, _, rfl, _⟩ := h; rfl)
theorem rd_greatest_of : ∀ ds G Q E', sp_greatest_of ds G Q E' → t_greatest_of (endD Q) (startD ["some", "found", "one"] ds) G := by
  rintro ds G Q E' ⟨x, xs, rfl, hx, hne, hs, q⟩
  unfold t_greatest_of
  have hx0 : ∃ y l, xs = y :: l := by
    cases xs with
    | nil => exact absurd rfl hne
    | cons y l => exact ⟨y, l, rfl⟩
  obtain ⟨y, l, rfl⟩ := hx0
  have e0 : (y :: l).foldl mx2 y = mxR (y :: l) := by
    rw [List.foldl_cons, show mx2 y y = y from ite_self _]
    rfl
  rcases hx with rfl | rfl
  all_goals
    refine dSeq_mk ?_
    walk_at "dl"
    refine dSeq_mk ?_
    walk_at "dl"
    refine forL_src fr (fun rest δ G' => G' = G ∧ ∃ (a : Rat) (s0 s2 : Option D), a ∈ y :: l ∧ (∀ z ∈ rest, z ∈ y :: l) ∧ rest.foldl mx2 a = mxR (y :: l) ∧ δ = [s0, some (fr a), s2]) (fun _ _ _ _ => trivial) ?_ ?_ (y :: l) _ rfl _ _ ⟨rfl, y, _, _, List.mem_cons_self, fun z hz => hz, e0, rfl⟩
    · rintro z rest δ G' N ⟨rfl, a, s0, s2, ha, hin, hf, rfl⟩ kN
      have hz := hin z List.mem_cons_self
      walk_at "dl"
      refine ⟨a, z, rfl, hs a ha, hs z hz, ?_⟩
      rw [List.foldl_cons] at hf
      unfold mx2 at hf
      by_cases w : a < z
      · rw [if_pos w] at hf
        rw [decide_eq_true w]
        exact kN _ _ ⟨rfl, z, _, _, hz, fun u hu => hin u (List.mem_cons_of_mem _ hu), hf, rfl⟩
      · rw [if_neg w] at hf
        rw [decide_eq_false w]
        exact kN _ _ ⟨rfl, a, _, _, ha, fun u hu => hin u (List.mem_cons_of_mem _ hu), hf, rfl⟩
    · rintro δ G' ⟨rfl, a, s0, s2, ha, hin, hf, rfl⟩
      walk_at "dl"
      have hf : a = mxR (y :: l) := hf
      rw [hf]
      exact Rt.same q
theorem len_Game_dealt_worth : ∀ d ds G Q E, sp_Game_dealt_worth d ds G Q E → ds.length = ["self", "beats", "debts", "shares", "person"].length := by
  intro d ds G Q E h
  obtain ⟨_, _, _, _, _, _, _, _, _, _, _, rfl, _⟩ := h
  rfl
def t_Game_dealt_worth (sp_self : DSp) : DS :=
  (dSeq (dAsg 5 (dCall sp_paid X0 (aCons (dCall sp_with_shares X0 (aCons (dVar 2) (aCons (dVar 3) aNil))) (aCons (dVar 4) aNil))))
  (dSeq (dAsg 6 (dCall sp_greatest_of X0 (aCons (dVar 5) aNil)))
  (dRet (dIf (dB (dOp dEq (dVar 1) (dC (.int 1)))) (dVar 6) (dCall sp_greater X0 (aCons (dVar 6) (aCons (dMeth "Game" "worth" sp_self X0 (dVar 0) (aCons (dOp dSub (dVar 1) (dC (.int 1))) (aCons (dVar 5) aNil))) aNil)))))))
theorem rd_Game_dealt_worth (d : Nat) : ∀ ds G Q E', sp_Game_dealt_worth d ds G Q E' → t_Game_dealt_worth (sp_Game_worth d) (endD Q) (startD ["self", "beats", "debts", "shares", "person", "behind", "here"] ds) G := by
  rintro ds G Q E' ⟨G0, p, k, n, B, b, C, xs, s, i, t, rfl, hn, hB, gm, hd, hx, hC, hs, hi, hlim, q⟩
  unfold t_Game_dealt_worth
  obtain ⟨h1, h2, h3⟩ := hx.step hs hB (by omega) hi
  obtain ⟨sm, _, _⟩ := rowsF_sm hB (by omega) hs
  refine dSeq_mk ?_
  walk_at "dl"
  refine ⟨xs, s, rfl, sm, LL_sm hx.sz (by omega), ?_⟩
  refine ⟨grow s xs, i, rfl, LL_sm h2 (by omega), by rw [h3]; exact hi, by rw [h3]; omega, ?_⟩
  have hne : pay (grow s xs) i ≠ [] := fun z => by have := h1.ln; rw [z, List.length_nil] at this; omega
  refine dSeq_mk ?_
  walk_at "dl"
  refine ⟨_, pay (grow s xs) i, rfl, .inl rfl, hne, LL_sm h1.sz (by omega), ?_⟩
  walk_at "dl"
  cases b with
  | zero =>
    rw [if_pos (decide_eq_true (by omega))]
    exact Rt.same (q G t gm (by omega))
  | succ b =>
    rw [if_neg (by rw [decide_eq_false (by omega)]; decide)]
    refine ⟨⟨_, ins_at gm.ins, rfl⟩, ?_⟩
    obtain ⟨d', rfl⟩ : ∃ d', d = d' + 1 := ⟨d - 1, by omega⟩
    refine ⟨G0, p, k, n, B, b + 1, C + 2, _, t, by rw [show ((b + 1 + 1 : Nat) : Int) - 1 = ((b + 1 : Nat) : Int) by omega], hn, hB, gm, by omega, h1, by omega, hlim, fun G' t' gm' ht' => ?_⟩
    refine ⟨_, _, rfl, LL_sm h1.sz (by omega) _ (mxR_mem hne), LL_sm (Wd_sz hB hn (b + 1) (C + 2) _ h1) (by omega) _ (List.mem_singleton_self _), ?_⟩
    exact Rt.same (q G' t' gm' ht')
theorem len_Game_answered : ∀ d ds G Q E, sp_Game_answered d ds G Q E → ds.length = ["self", "beats", "debts", "shares"].length := by
  intro d ds G Q E h
  obtain ⟨_, _, _, _, _, _, _, _, _, _, rfl, _⟩ := h
  rfl
def t_Game_answered (sp_self : DSp) : DS :=
  (dSeq (dAsg 4 (dMeth "Game" "dealt_worth" sp_self X0 (dVar 0) (aCons (dVar 1) (aCons (dVar 2) (aCons (dVar 3) (aCons (dC (.int 0)) aNil))))))
  (dSeq (dFor (dRange2 (aCons (dC (.int 1)) (aCons (dCB dLen (aCons (dVar 2) aNil)) aNil))) (gN 5) (dSeq (dAsg 6 (dMeth "Game" "dealt_worth" sp_self X0 (dVar 0) (aCons (dVar 1) (aCons (dVar 2) (aCons (dVar 3) (aCons (dVar 5) aNil))))))
  (dAsg 4 (dIf (dB (dCall sp_is_less X0 (aCons (dVar 6) (aCons (dVar 4) aNil)))) (dVar 6) (dVar 4)))))
  (dRet (dVar 4))))
theorem rd_Game_answered (d : Nat) : ∀ ds G Q E', sp_Game_answered d ds G Q E' → t_Game_answered (sp_Game_dealt_worth d) (endD Q) (startD ["self", "beats", "debts", "shares", "found", "person", "other"] ds) G := by
  rintro ds G Q E' ⟨G0, p, k, n, B, b, C, xs, s, t, rfl, hn, hB, gm, hd, hx, hC, hs, hlim, q⟩
  unfold t_Game_answered
  have hDS : ∀ i, i < n → Sm (dealV (Wd (rowsF n B) b) (b == 0) xs s i) := fun i hi => LL_sm (dealV_sz (fun C ys h => Wd_sz hB hn b C ys h) hB hn hx hs hi) (by omega) _ (List.mem_singleton_self _)
  have hmul : ∀ i, i ≤ n → i * costF (gmR n B) b ≤ n * costF (gmR n B) b := fun i hi => Nat.mul_le_mul_right _ hi
  have h1m := hmul 1 (by omega)
  have hx' := hx.ln
  refine dSeq_mk ?_
  walk_at "dl"
  refine ⟨⟨_, ins_at gm.ins, rfl⟩, ?_⟩
  refine ⟨G0, p, k, n, B, b, C, xs, s, 0, t, rfl, hn, hB, gm, hd, hx, hC, hs, by omega, by omega, fun G1 t1 gm1 ht1 => ?_⟩
  refine dSeq_mk ?_
  walk_at "dl"
  show dLen [.tup (xs.map fr)] G1 _
  walk_at "dl"
  rw [List.length_map, hx']
  refine ⟨⟨by decide, by decide, by omega, by omega⟩, ?_⟩
  rw [show ((n : Int) - 1).toNat = n - 1 by omega]
  refine forL_by (fun its δ G' => ∃ (i : Nat) (t' : Tbl) (s5 s6 : Option D), its = (upD 1 (n - 1)).drop i ∧ i ≤ n - 1 ∧ δ = [some (.ref p), some (.int ((b + 1 : Nat) : Int)), some (frts xs), some (shD s), some (fr ((List.range i).foldl (fun a i => mn2 a (dealV (Wd (rowsF n B) b) (b == 0) xs s (i + 1))) (dealV (Wd (rowsF n B) b) (b == 0) xs s 0))), s5, s6] ∧ isGm G0 G' p k (rowsF n B) t' ∧ t'.length ≤ t.length + (i + 1) * costF (gmR n B) b) (fun _ _ _ _ => trivial) ?_ ?_ _ _ _ ⟨0, t1, _, _, rfl, Nat.zero_le _, rfl, gm1, by omega⟩
  · rintro x r δ G' N ⟨i, t', s5, s6, ei, hi, rfl, gm', ht'⟩ kN
    have hlt : i < n - 1 := by
      rcases Nat.lt_or_ge i (n - 1) with z | z
      · exact z
      · rw [upD_end z] at ei; cases ei
    rw [upD_drop hlt] at ei
    cases ei
    have hm2 := hmul (i + 1 + 1) (by omega)
    have hm3 : (i + 1 + 1) * costF (gmR n B) b = (i + 1) * costF (gmR n B) b + costF (gmR n B) b := Nat.succ_mul _ _
    refine dSeq_mk ?_
    walk_at "dl"
    refine ⟨⟨_, ins_at gm'.ins, rfl⟩, ?_⟩
    refine ⟨G0, p, k, n, B, b, C, xs, s, i + 1, t', by rw [show (1 : Int) + (i : Nat) = ((i + 1 : Nat) : Int) by omega], hn, hB, gm', hd, hx, hC, hs, by omega, by omega, fun G2 t2 gm2 ht2 => ?_⟩
    have hA : Sm ((List.range i).foldl (fun a i => mn2 a (dealV (Wd (rowsF n B) b) (b == 0) xs s (i + 1))) (dealV (Wd (rowsF n B) b) (b == 0) xs s 0)) := by
      rcases foldl_mn_mem (fun i => dealV (Wd (rowsF n B) b) (b == 0) xs s (i + 1)) (List.range i) (dealV (Wd (rowsF n B) b) (b == 0) xs s 0) with e | ⟨j, hj, e⟩
      · rw [e]
        exact hDS 0 (by omega)
      · rw [e]
        exact hDS (j + 1) (by have := List.mem_range.mp hj; omega)
    walk_at "dl"
    refine ⟨_, _, rfl, hDS (i + 1) (by omega), hA, ?_⟩
    have e : (List.range (i + 1)).foldl (fun a i => mn2 a (dealV (Wd (rowsF n B) b) (b == 0) xs s (i + 1))) (dealV (Wd (rowsF n B) b) (b == 0) xs s 0) = mn2 ((List.range i).foldl (fun a i => mn2 a (dealV (Wd (rowsF n B) b) (b == 0) xs s (i + 1))) (dealV (Wd (rowsF n B) b) (b == 0) xs s 0)) (dealV (Wd (rowsF n B) b) (b == 0) xs s (i + 1)) := by
      rw [List.range_succ, List.foldl_append]
      rfl
    have hst : ∀ v : Rat, v = (List.range (i + 1)).foldl (fun a i => mn2 a (dealV (Wd (rowsF n B) b) (b == 0) xs s (i + 1))) (dealV (Wd (rowsF n B) b) (b == 0) xs s 0) → N [some (.ref p), some (.int ((b + 1 : Nat) : Int)), some (frts xs), some (shD s), some (fr v), some (.int (1 + (i : Int))), some (fr (dealV (Wd (rowsF n B) b) (b == 0) xs s (i + 1)))] G2 := fun v ev => by
      subst ev
      exact kN _ _ ⟨i + 1, t2, _, _, rfl, by omega, rfl, gm2, by omega⟩
    walk_at "dl"
    split
    · rename_i hc
      exact hst _ (e.trans (if_pos (of_decide_eq_true hc))).symm
    · rename_i hc
      exact hst _ (e.trans (if_neg fun z => hc (decide_eq_true z))).symm
  · rintro δ G' ⟨i, t', s5, s6, ei, hi, rfl, gm', ht'⟩
    have : i = n - 1 := by
      rcases Nat.lt_or_ge i (n - 1) with z | z
      · rw [upD_drop z] at ei; cases ei
      · omega
    subst this
    walk_at "dl"
    have e : ansR (Wd (rowsF n B) b) (b == 0) xs s = (List.range (n - 1)).foldl (fun a i => mn2 a (dealV (Wd (rowsF n B) b) (b == 0) xs s (i + 1))) (dealV (Wd (rowsF n B) b) (b == 0) xs s 0) := by
      unfold ansR
      rw [hx']
    rw [← e]
    exact Rt.same (q G' t' gm' (by rw [show n - 1 + 1 = n by omega] at ht'; exact ht'))
/-! a comprehension whose turns change what is known -/
theorem compL_W {α : Type} {g : DG} {te : DE} {S : Gp → Prop} {p : Addr} {δ : Sl} {Q : List D → Gp → Prop} (s f : α → D) (N : Nat) (W : List D → Nat → Gp → Prop) (hS : ∀ acc i G, W acc i G → S G ∧ G p = some (.lst acc))
    (up : ∀ acc i y G, W acc i G → W (acc ++ [y]) i (gu G p (.lst (acc ++ [y])))) (hN : N ≤ sizeLine) : ∀ (l : List α) (acc : List D) (i : Nat) (G : Gp), W acc i G → acc.length = i → i + l.length = N →
    (∀ x ∈ l, ∀ acc i G (Q' : DK), i < N → W acc i G → (∀ G', W acc (i + 1) G' → Q' (f x) G') → g (s x) δ G fun δ2 G2 => te δ2 G2 Q') →
    (∀ G, W (acc ++ l.map f) N G → Q (acc ++ l.map f) G) → compL g dYes te S p δ (l.map s) acc G Q
  | [], acc, i, G, w, ha, hl, _, q => by
    obtain ⟨h1, h2⟩ := hS _ _ _ w
    rw [List.length_nil, Nat.add_zero] at hl
    subst hl
    have q := q G (by rw [List.map_nil, List.append_nil]; exact w)
    rw [List.map_nil, List.append_nil] at q
    exact ⟨h1, h2, q⟩
  | x :: l, acc, i, G, w, ha, hl, h, q => by
    obtain ⟨h1, h2⟩ := hS _ _ _ w
    rw [List.length_cons] at hl
    refine ⟨h1, h2, h x List.mem_cons_self acc i G (fun y G4 => G4 p = some (.lst acc) ∧ acc.length < sizeLine ∧ compL g dYes te S p δ (l.map s) (acc ++ [y]) (gu G4 p (.lst (acc ++ [y]))) Q) (by omega) w fun G' w' => ⟨(hS _ _ _ w').2, by omega, ?_⟩⟩
    refine compL_W s f N W hS up hN l _ (i + 1) _ (up _ _ _ _ w') (by rw [List.length_append, List.length_singleton]; omega) (by omega) (fun z hz => h z (List.mem_cons_of_mem _ hz)) fun G w2 => ?_
    rw [List.append_assoc] at w2 ⊢
    exact q G w2
theorem gd_ne {G : Gp} {a b : Addr} (h : b ≠ a) : gd G a b = G b := by unfold gd; rw [if_neg h]
theorem isGm.acc0 {G0 G : Gp} {p k c : Addr} {rows : List (Int × List Int)} {t : Tbl} {o : GO} (h : isGm G0 G p k rows t) (hc : G c = none) : isGm (gu G0 c o) (gu G c o) p k rows t := by
  obtain ⟨ok, e⟩ := h.kn
  have c0 : G0 c = none := by
    cases z : G0 c with
    | none => rfl
    | some v => rw [h.le c v z] at hc; cases hc
  have pc : p ≠ c := fun z => by have := h.ins; rw [z, hc] at this; cases this
  have kc : k ≠ c := fun z => by rw [z, hc] at e; cases e
  refine ⟨by rw [gu_ne pc]; exact h.ins, ⟨ok, by rw [gu_ne kc]; exact e⟩, fun a ob e => ?_, by rw [gu_ne pc]; exact h.p0, by rw [gu_ne kc]; exact h.k0, h.pk, h.ok⟩
  by_cases z : a = c
  · subst z
    rw [gu_same] at e ⊢
    exact e
  · rw [gu_ne z] at e ⊢
    exact h.le a ob e
theorem isGm.accS {G0 G : Gp} {p k c : Addr} {rows : List (Int × List Int)} {t : Tbl} {o o' : GO} (h : isGm (gu G0 c o) G p k rows t) : isGm (gu G0 c o') (gu G c o') p k rows t := by
  obtain ⟨ok, e⟩ := h.kn
  have pc : p ≠ c := fun z => by have := h.p0; rw [z, gu_same] at this; cases this
  have kc : k ≠ c := fun z => by have := h.k0; rw [z, gu_same] at this; cases this
  refine ⟨by rw [gu_ne pc]; exact h.ins, ⟨ok, by rw [gu_ne kc]; exact e⟩, fun a ob e => ?_, by have := h.p0; rw [gu_ne pc] at this ⊢; exact this, by have := h.k0; rw [gu_ne kc] at this ⊢; exact this, h.pk, h.ok⟩
  by_cases z : a = c
  · subst z
    rw [gu_same] at e ⊢
    exact e
  · rw [gu_ne z] at e ⊢
    exact h.le a ob (by rw [gu_ne z]; exact e)
theorem isGm.accE {G0 G : Gp} {p k c : Addr} {rows : List (Int × List Int)} {t : Tbl} {o : GO} (h : isGm (gu G0 c o) G p k rows t) (c0 : G0 c = none) : isGm G0 (gd G c) p k rows t := by
  obtain ⟨ok, e⟩ := h.kn
  have pc : p ≠ c := fun z => by have := h.p0; rw [z, gu_same] at this; cases this
  have kc : k ≠ c := fun z => by have := h.k0; rw [z, gu_same] at this; cases this
  refine ⟨by rw [gd_ne pc]; exact h.ins, ⟨ok, by rw [gd_ne kc]; exact e⟩, fun a ob e => ?_, by have := h.p0; rw [gu_ne pc] at this; exact this, by have := h.k0; rw [gu_ne kc] at this; exact this, h.pk, h.ok⟩
  have z : a ≠ c := fun z => by rw [z, c0] at e; cases e
  rw [gd_ne z]
  exact h.le a ob (by rw [gu_ne z]; exact e)
theorem len_Game_worth : ∀ d ds G Q E, sp_Game_worth d ds G Q E → ds.length = ["self", "beats", "debts"].length := by
  intro d ds G Q E h
  cases d with
  | zero => exact h.elim
  | succ d => obtain ⟨_, _, _, _, _, _, _, _, _, rfl, _⟩ := h; rfl
def t_Game_worth (sp_self : DSp) : DS :=
  (dSeq (dIfS (dB (dOp dEq (dVar 1) (dC (.int 0)))) (dRet (dCall sp_greatest_of X0 (aCons (dVar 2) aNil))) dNext)
  (dSeq (dAsg 3 (dTup (aCons (dVar 1) (aCons (dCB dTupleOf (aCons (dCB (dSortT false) (aCons (dVar 2) aNil)) aNil)) aNil))))
  (dSeq (dIfS (dB (dNIn true (dVar 3) (dFld "Game" "known" (dVar 0)))) (dNPut (dCall sp_greatest_of X0 (aCons (dLc false (dSeqI (dFld "Game" "rows" (dVar 0))) (gN 4) dYes (dMeth "Game" "answered" sp_self X0 (dVar 0) (aCons (dVar 1) (aCons (dOp dIx (dVar 3) (dC (.int 1))) (aCons (dVar 4) aNil)))) [4]) aNil)) (dFld "Game" "known" (dVar 0)) (dVar 3)) dNext)
  (dRet (dNGet (dFld "Game" "known" (dVar 0)) (dVar 3))))))
theorem rd_Game_worth (d : Nat) : ∀ ds G Q E', sp_Game_worth (d + 1) ds G Q E' → t_Game_worth (sp_Game_answered d) (endD Q) (startD ["self", "beats", "debts", "name", "shares"] ds) G := by
  rintro ds G Q E' ⟨G0, p, k, n, B, b, C, xs, t, rfl, hn, hB, gm, hd, hx, hC, hlim, q⟩
  unfold t_Game_worth
  have hne : xs ≠ [] := fun z => by have := hx.ln; rw [z, List.length_nil] at this; omega
  refine dSeq_mk ?_
  walk_at "dl"
  cases b with
  | zero =>
    rw [if_pos (decide_eq_true (by omega))]
    exact ⟨_, xs, rfl, .inl rfl, hne, LL_sm hx.sz (by omega), Rt.same (q G t gm (by omega))⟩
  | succ b =>
    rw [if_neg (by rw [decide_eq_false (by omega)]; decide)]
    have hys := hx.perm (srtR_perm xs)
    refine dSeq_mk ?_
    walk_at "dl"
    show dSortT false [.tup (xs.map fr)] G _
    refine ⟨sortOk_fr (by rw [hx.ln]; exact Nat.le_trans (by omega : n ≤ 1000) (by decide)), ?_⟩
    rw [srtR_D]
    walk_at "dl"
    refine ⟨by decide, ?_⟩
    have hlen : (tpsF n B).length ≤ 455 := tpsF_len hn.2 hB.2
    have hrl : (rowsF n B).length = (tpsF n B).length := List.length_map _
    have hcost : costF (gmR n B) (b + 1) = 1 + (tpsF n B).length * (n * costF (gmR n B) b) := by
      show 1 + gmR n B * costF (gmR n B) b = _
      unfold gmR
      rw [Nat.mul_assoc]
    have hkey : keyN (.tup [.int ((b + 1 : Nat) : Int), .tup ((srtR xs).map fr)]) = some (gmK (b + 1, srtR xs)) := keyN_gm (b + 1, srtR xs)
    have hok := keyOk_gm (b + 1, srtR xs)
    refine ⟨fun δ G2 => δ.take 4 = [some (.ref p), some (.int ((b + 1 : Nat) : Int)), some (frts xs), some (.tup [.int ((b + 1 : Nat) : Int), .tup ((srtR xs).map fr)])] ∧ ∃ t' : Tbl, isGm G0 G2 p k (rowsF n B) t' ∧ t'.length ≤ t.length + costF (gmR n B) (b + 1) ∧ t'.lookup (b + 1, srtR xs) = some (Wd (rowsF n B) (b + 1) xs), ?_, ?_⟩
    · walk_at "dl"
      obtain ⟨o, ek⟩ := gm.kn
      rw [fld_at gm.ins gm_known]
      refine ⟨k, o, gmD t, gmK (b + 1, srtR xs), nOf_ref ek, hkey, hok, ?_⟩
      rw [gmD_val]
      cases hlk : t.lookup (b + 1, srtR xs) with
      | some v =>
        walk_at "dl"
        exact ⟨rfl, t, gm, by omega, by rw [hlk, gm.ok _ _ _ hlk xs rfl]⟩
      | none =>
        walk_at "dl"
        rw [fld_at gm.ins gm_rows]
        walk_at "dl"
        intro c hc
        refine compL_W shD (fun s => fr (ansR (Wd (rowsF n B) b) (b == 0) (srtR xs) s)) (rowsF n B).length (fun acc i G2 => ∃ t' : Tbl, isGm (gu G0 c (.lst acc)) G2 p k (rowsF n B) t' ∧ t'.length ≤ t.length + i * (n * costF (gmR n B) b)) (fun acc i G2 ⟨t', h, _⟩ => ⟨trivial, h.le _ _ gu_same⟩) (fun acc i y G2 ⟨t', h, hl⟩ => ⟨t', h.accS, hl⟩) (by rw [hrl]; exact Nat.le_trans hlen (by decide)) (rowsF n B) [] 0 _ ⟨t, gm.acc0 hc, by omega⟩ rfl (by omega) ?_ ?_
        · rintro s hs acc i G2 Q' hi ⟨t2, gm2, ht2⟩ kQ
          have hm : (i + 1) * (n * costF (gmR n B) b) ≤ (tpsF n B).length * (n * costF (gmR n B) b) := Nat.mul_le_mul_right _ (by omega)
          rw [Nat.succ_mul] at hm
          walk_at "dl"
          refine ⟨⟨_, ins_at gm2.ins, rfl⟩, ?_⟩
          have hlim2 : t.length + (1 + (tpsF n B).length * (n * costF (gmR n B) b)) ≤ gmLim := by rw [← hcost]; exact hlim
          exact ⟨_, p, k, n, B, b, C, srtR xs, s, t2, rfl, hn, hB, gm2, by omega, hys, by omega, hs, by omega, fun G' t' gm' ht' => kQ G' ⟨t', gm', by rw [Nat.succ_mul]; omega⟩⟩
        · rintro G2 ⟨t2, gm2, ht2⟩
          have c0 : G0 c = none := by
            cases z : G0 c with
            | none => rfl
            | some v => rw [gm.le c v z] at hc; cases hc
          have gm3 := gm2.accE c0
          have hne2 : (rowsF n B).map (fun s => ansR (Wd (rowsF n B) b) (b == 0) (srtR xs) s) ≠ [] := fun z => rowsF_ne (B := B) hn.1 (List.map_eq_nil_iff.mp z)
          rw [List.nil_append]
          refine ⟨_, (rowsF n B).map (fun s => ansR (Wd (rowsF n B) b) (b == 0) (srtR xs) s), rfl, .inr (by rw [List.map_map]; rfl), hne2, fun y hy => ?_, ?_⟩
          · obtain ⟨s, hs, rfl⟩ := List.mem_map.mp hy
            obtain ⟨i, hi, e2⟩ := ansR_at (f := Wd (rowsF n B) b) (one := b == 0) (d := srtR xs) (s := s) (by rw [hys.ln]; omega)
            rw [e2]
            exact LL_sm (dealV_sz (fun C ys h => Wd_sz hB hn b C ys h) hB hn hys hs (by rw [hys.ln] at hi; exact hi)) (by omega) _ (List.mem_singleton_self _)
          · show dFldR _ _ _ _ _
            rw [fld_at gm3.ins gm_known]
            obtain ⟨o3, ek3⟩ := gm3.kn
            have hlim2 : t.length + (1 + (tpsF n B).length * (n * costF (gmR n B) b)) ≤ gmLim := by rw [← hcost]; exact hlim
            rw [hrl] at ht2
            refine ⟨k, o3, gmD t2, gmK (b + 1, srtR xs), nOf_ref ek3, hkey, hok, ?_, fun o' => ⟨rfl, tput t2 (b + 1, srtR xs) (Wd (rowsF n B) (b + 1) xs), ?_, ?_, ?_⟩⟩
            · unfold gmD
              rw [List.length_map]
              exact Nat.lt_of_le_of_lt (by omega : t2.length ≤ gmLim) (by decide)
            · rw [show fr (mxR ((rowsF n B).map fun s => ansR (Wd (rowsF n B) b) (b == 0) (srtR xs) s)) = fr (Wd (rowsF n B) (b + 1) xs) from rfl, gmD_put]
              exact gm3.put gm3.ok.add
            · have := tput_len (t := t2) (q := (b + 1, srtR xs)) (v := Wd (rowsF n B) (b + 1) xs)
              rw [hcost]
              omega
            · rw [tput_at, if_pos rfl]
    · rintro δ G2 ⟨hδ, t2, gm2, ht2, hv⟩
      match δ, hδ with
      | s0 :: s1 :: s2 :: s3 :: rest, hδ =>
        cases hδ
        walk_at "dl"
        rw [fld_at gm2.ins gm_known]
        obtain ⟨o2, ek2⟩ := gm2.kn
        refine ⟨k, o2, gmD t2, gmK (b + 1, srtR xs), fr (Wd (rowsF n B) (b + 1) xs), nOf_ref ek2, hkey, hok, by rw [gmD_val, hv]; rfl, ?_⟩
        exact Rt.same (q G2 t2 gm2 ht2)
def sp_all_tops : Nat → DSp
  | 0 => fun _ _ _ _ => False
  | d + 1 => fun ds G Q _ => ∃ n b : Nat, ds = [.int (n : Nat), .int (b : Nat)] ∧ (1 ≤ n ∧ n ≤ d + 1 ∧ n ≤ 4) ∧ b ≤ 12 ∧ Q (.lst ((tpsF n b).map natT)) G
theorem len_all_tops : ∀ d ds G Q E, sp_all_tops d ds G Q E → ds.length = ["n", "bottom"].length := by
  intro d ds G Q E h
  cases d with
  | zero => exact h.elim
  | succ d => obtain ⟨n, b, rfl, _⟩ := h; rfl
def t_all_tops (sp_self : DSp) : DS :=
  (dSeq (dIfS (dB (dOp dEq (dVar 0) (dC (.int 1)))) (dRet (dLst false (aCons (dTup (aCons (dVar 1) aNil)) aNil))) dNext)
  (dSeq (dAsg 2 (dLst true aNil))
  (dSeq (dFor (dRange1 (aCons (dOp (dAdd false) (dVar 1) (dC (.int 1))) aNil)) (gN 3) (dDrop (dMeL dExtend (dVar 2) (aCons (dLc false (dSeqI (dCall sp_self X0 (aCons (dOp dSub (dVar 0) (dC (.int 1))) (aCons (dOp dSub (dVar 1) (dVar 3)) aNil)))) (gN 4) dYes (dOp (dAdd false) (dTup (aCons (dVar 3) aNil)) (dVar 4)) [4]) aNil))))
  (dRet (dVar 2)))))
theorem rd_all_tops (d : Nat) : ∀ ds G Q E', sp_all_tops (d + 1) ds G Q E' → t_all_tops (sp_all_tops d) (endD Q) (startD ["n", "bottom", "found", "top", "rest"] ds) G := by
  rintro ds G Q E' ⟨n, b, rfl, ⟨n1, nd, n4⟩, hb, q⟩
  unfold t_all_tops
  refine dSeq_mk ?_
  walk_at "dl"
  match n, n1 with
  | 1, _ =>
    rw [decide_eq_true (by omega)]
    walk_at "dl"
    exact ⟨by decide, by decide, Rt.same q⟩
  | n + 2, _ =>
    rw [decide_eq_false (by omega)]
    walk_at "dl"
    refine dSeq_mk ?_
    walk_at "dl"
    refine ⟨by decide, fun a ha => ?_⟩
    refine dSeq_mk ?_
    walk_at "dl"
    refine ⟨by omega, by omega, ?_⟩
    rw [show ((b : Int) + 1).toNat = b + 1 by omega]
    have hT := tpsF_len n4 hb
    have hT : ((List.range (b + 1)).flatMap fun t => (tpsF (n + 1) (b - t)).map fun l => t :: l).length ≤ 455 := hT
    refine forL_by (fun its δ G' => ∃ (t : Nat) (s3 s4 : Option D), its = (upD 0 (b + 1)).drop t ∧ t ≤ b + 1 ∧ G' = gu G a (.lst (((List.range t).flatMap fun t => (tpsF (n + 1) (b - t)).map fun l => t :: l).map natT)) ∧ δ = [some (.int ((n + 2 : Nat) : Int)), some (.int (b : Nat)), some (.ref a), s3, s4]) (fun _ _ _ _ => trivial) ?_ ?_ _ _ _ ⟨0, _, _, rfl, Nat.zero_le _, rfl, rfl⟩
    · rintro x r δ G' N ⟨t, s3, s4, ei, ht, rfl, rfl⟩ kN
      have hlt : t < b + 1 := by
        rcases Nat.lt_or_ge t (b + 1) with z | z
        · exact z
        · rw [upD_end z] at ei; cases ei
      rw [upD_drop hlt, Int.zero_add] at ei
      cases ei
      walk_at "dl"
      cases d with
      | zero => omega
      | succ d =>
      refine ⟨n + 1, b - t, by rw [show ((n + 2 : Nat) : Int) - 1 = ((n + 1 : Nat) : Int) by omega, show (b : Int) - (t : Int) = ((b - t : Nat) : Int) by omega], by omega, by omega, ?_⟩
      walk_at "dl"
      have hl2 := tpsF_len (n := n + 1) (b := b - t) (by omega) (by omega)
      refine lc_src (tpsF (n + 1) (b - t)) natT (fun l => natT (t :: l)) rfl (Nat.le_trans hl2 (by decide)) (fun _ _ _ => trivial) (fun l hl p2 ys Q' hp2 hk => ?_) ?_
      · have hll := ((tpsF_mem _ _ _).mp hl).2.1
        unfold natT
        walk_at "dl"
        rw [List.length_map]
        exact ⟨by decide, Nat.le_trans (by omega : _ ≤ 1000) (by decide), hk⟩
      · walk_at "dl"
        have e : ((List.range (t + 1)).flatMap fun t => (tpsF (n + 1) (b - t)).map fun l => t :: l).map natT = ((List.range t).flatMap fun t => (tpsF (n + 1) (b - t)).map fun l => t :: l).map natT ++ (tpsF (n + 1) (b - t)).map fun l => natT (t :: l) := by
          rw [List.range_succ, List.flatMap_append, List.map_append, List.flatMap_singleton, List.map_map]
          rfl
        have le1 := Nat.le_trans (fm_len (fun t => (tpsF (n + 1) (b - t)).map fun l => t :: l) (show t + 1 ≤ b + 1 by omega)) hT
        have e2 := congrArg List.length e
        rw [List.length_append, List.length_map] at e2
        refine ⟨Nat.le_trans (by omega : _ ≤ 1000) (by decide), ?_⟩
        refine kN _ _ ⟨t + 1, some (.int (t : Nat)), s4, rfl, hlt, ?_, rfl⟩
        rw [e]
    · rintro δ G' ⟨t, s3, s4, ei, ht, rfl, rfl⟩
      have : t = b + 1 := by
        rcases Nat.lt_or_ge t (b + 1) with z | z
        · rw [upD_drop z] at ei; cases ei
        · omega
      subst this
      walk_at "dl"
      exact Rt.frzNew ha q
abbrev sp_all_shares : DSp := fun ds G Q _ => ∃ n b : Nat, ds = [.int (n : Nat), .int (b : Nat)] ∧ (1 ≤ n ∧ n ≤ 4) ∧ b ≤ 12 ∧ Q (.lst ((rowsF n b).map shD)) G
def t_all_shares : DS :=
  (dRet (dLc false (dSeqI (dCall (sp_all_tops 5) X0 (aCons (dVar 0) (aCons (dVar 1) aNil)))) (gN 2) dYes (dTup (aCons (dVar 1) (aCons (dVar 2) aNil))) [2]))
theorem len_all_shares : ∀ ds G Q E, sp_all_shares ds G Q E → ds.length = ["n", "bottom"].length := by
  intro ds G Q E h
  first | (obtain ⟨rfl, _⟩ := h; rfl) | (obtain ⟨_, rfl, _⟩ := h; rfl) | (obtain ⟨_, _, rfl, _⟩ := h; rfl) | (obtain ⟨_, _, _, rfl, _⟩ := h; rfl) | (obtain ⟨_, _, _, _, rfl, _⟩ := h; rfl) | (obtain ⟨_, _, _, _, _, rfl, _⟩ := h; rfl) | (obtain ⟨_, _, _, _, _, _, rfl, _⟩ := h; rfl) | (obtain ⟨_, _, _, _, _, _, _, rfl, _⟩ := h; rfl) | (obtain ⟨_, _, _, _, _, _, _, _, rfl, _⟩ := h; rfl) | (obtain ⟨_, _, _, _, _, _, _, _, _, rfl, _⟩ := h; rfl) | (obtain ⟨_, _, _, _, _, _, _, _, _, _, rfl, _⟩ := h; rfl) | (obtain ⟨_, _, _, _, _, _, _, _, _, _, _, rfl, _⟩ := h; rfl) | (obtain ⟨_, _, _, _, _, _, _, _, _, _, _, _, rfl, _⟩ := h; rfl) | (obtain ⟨_, _, _, _, _, _, _, _, _, _, _, _, _, rfl, _⟩ := h; rfl) | (obtain ⟨_, _, _, _, _, _, _, _, _, _, _, _, _, _, rfl, _⟩ := h; rfl) | (obtain ⟨_, _, _, _, _, _, _, _, _, _, _, _, _, _, _, rfl, _⟩ := h; rfl)
theorem rd_all_shares : ∀ ds G Q E', sp_all_shares ds G Q E' → t_all_shares (endD Q) (startD ["n", "bottom", "tops"] ds) G := by
  rintro ds G Q E' ⟨n, b, rfl, hn, hb, q⟩
  unfold t_all_shares
  walk_at "dl"
  refine ⟨n, b, rfl, ⟨hn.1, by show n ≤ 5; omega, hn.2⟩, hb, ?_⟩
  walk_at "dl"
  have hl := tpsF_len hn.2 hb
  refine lc_src (tpsF n b) natT (fun l => shD (shF b l)) rfl (Nat.le_trans hl (by decide)) (fun _ _ _ => trivial) (fun l hl p2 ys Q' hp2 hk => ?_) ?_
  · walk_at "dl"
    refine ⟨by decide, ?_⟩
    unfold shD shF at hk
    rw [List.map_map] at hk
    exact hk
  · walk_at "dl"
    refine Rt.same ?_
    unfold rowsF at q
    rw [List.map_map] at q
    exact q
abbrev sp_Game___init__ : DSp := fun ds G Q _ => ∃ (p : Addr) (n B : Nat), ds = [.ref p, .int (n : Nat), .int (B : Nat)] ∧ G p = some (.ins "Game" []) ∧ (1 ≤ n ∧ n ≤ 4) ∧ (1 ≤ B ∧ B ≤ 12) ∧ (∀ k G', G k = none → G' p = some (.ins "Game" (gmF (rowsF n B) k)) → (∃ o, G' k = some (.dctN o [])) → (∀ a, a ≠ p → a ≠ k → G' a = G a) → Q .non G')
def t_Game___init__ : DS :=
  (dSeq (dSetFld "Game" "rows" (dVar 0) (dCall sp_all_shares X0 (aCons (dVar 1) (aCons (dVar 2) aNil))))
  (dSetFld "Game" "known" (dVar 0) dNNew))
theorem len_Game___init__ : ∀ ds G Q E, sp_Game___init__ ds G Q E → ds.length = ["self", "n", "bottom"].length := by
  intro ds G Q E h
  first | (obtain ⟨rfl, _⟩ := h; rfl) | (obtain ⟨_, rfl, _⟩ := h; rfl) | (obtain ⟨_, _, rfl, _⟩ := h; rfl) | (obtain ⟨_, _, _, rfl, _⟩ := h; rfl) | (obtain ⟨_, _, _, _, rfl, _⟩ := h; rfl) | (obtain ⟨_, _, _, _, _, rfl, _⟩ := h; rfl) | (obtain ⟨_, _, _, _, _, _, rfl, _⟩ := h; rfl) | (obtain ⟨_, _, _, _, _, _, _, rfl, _⟩ := h; rfl) | (obtain ⟨_, _, _, _, _, _, _, _, rfl, _⟩ := h; rfl) | (obtain ⟨_, _, _, _, _, _, _, _, _, rfl, _⟩ := h; rfl) | (obtain ⟨_, _, _, _, _, _, _, _, _, _, rfl, _⟩ := h; rfl) | (obtain ⟨_, _, _, _, _, _, _, _, _, _, _, rfl, _⟩ := h; rfl) | (obtain ⟨_, _, _, _, _, _, _, _, _, _, _, _, rfl, _⟩ := h; rfl) | (obtain ⟨_, _, _, _, _, _, _, _, _, _, _, _, _, rfl, _⟩ := h; rfl) | (obtain ⟨_, _, _, _, _, _, _, _, _, _, _, _, _, _, rfl, _⟩ := h; rfl) | (obtain ⟨_, _, _, _, _, _, _, _, _, _, _, _, _, _, _, rfl, _⟩ := h; rfl)
theorem rd_Game___init__ : ∀ ds G Q E', sp_Game___init__ ds G Q E' → t_Game___init__ (endD Q) (startD ["self", "n", "bottom"] ds) G := by
  rintro ds G Q E' ⟨p, n, B, rfl, hp, hn, hB, q⟩
  unfold t_Game___init__
  refine dSeq_mk ?_
  walk_at "dl"
  refine ⟨n, B, rfl, hn, hB.2, ?_⟩
  walk_at "dl"
  rw [setFld_at hp]
  walk_at "sd"
  intro k o hk
  have hkp : k ≠ p := fun z => by rw [z, gu_same] at hk; cases hk
  have hk0 : G k = none := by rw [gu_ne hkp] at hk; exact hk
  have hp1 : gu (gu G p (.ins "Game" (putD "rows" (.lst ((rowsF n B).map shD)) []))) k (.dctN o []) p = some (.ins "Game" [("rows", .lst ((rowsF n B).map shD))]) := by
    rw [gu_ne (Ne.symm hkp), gu_same]
    rfl
  rw [setFld_at hp1]
  refine ⟨by show 1 < 1000; decide, Rt.same (q k _ hk0 gu_same ⟨o, by rw [gu_ne hkp, gu_same]⟩ fun a h1 h2 => by rw [gu_ne h1, gu_ne h2, gu_ne h1])⟩
abbrev sp_check_few : DSp := fun ds G Q _ => ∃ n B b : Nat, ds = [.int (n : Nat), .int (B : Nat), .int (b : Nat)] ∧ (1 ≤ n ∧ n ≤ 4) ∧ (1 ≤ B ∧ B ≤ 12) ∧ b ≤ 6 ∧ (tpsF n B).length ^ b ≤ 20000 ∧ Q .non G
def t_check_few : DS :=
  (dSeq (dAsg 3 (dCB dLen (aCons (dCall (sp_all_tops 5) X0 (aCons (dVar 0) (aCons (dVar 1) aNil))) aNil)))
  (dSeq (dAsg 4 (dC (.int 1)))
  (dSeq (dFor (dRange1 (aCons (dVar 2) aNil)) (gN 5) (dAsg 4 (dOp (dMul false) (dVar 4) (dVar 3))))
  (dIfS (dB (dOp dGt (dVar 4) (dC (.int 20000)))) dNever dNext))))
theorem len_check_few : ∀ ds G Q E, sp_check_few ds G Q E → ds.length = ["n", "bottom", "beats"].length := by
  intro ds G Q E h
  first | (obtain ⟨rfl, _⟩ := h; rfl) | (obtain ⟨_, rfl, _⟩ := h; rfl) | (obtain ⟨_, _, rfl, _⟩ := h; rfl) | (obtain ⟨_, _, _, rfl, _⟩ := h; rfl) | (obtain ⟨_, _, _, _, rfl, _⟩ := h; rfl) | (obtain ⟨_, _, _, _, _, rfl, _⟩ := h; rfl) | (obtain ⟨_, _, _, _, _, _, rfl, _⟩ := h; rfl) | (obtain ⟨_, _, _, _, _, _, _, rfl, _⟩ := h; rfl) | (obtain ⟨_, _, _, _, _, _, _, _, rfl, _⟩ := h; rfl) | (obtain ⟨_, _, _, _, _, _, _, _, _, rfl, _⟩ := h; rfl) | (obtain ⟨_, _, _, _, _, _, _, _, _, _, rfl, _⟩ := h; rfl) | (obtain ⟨_, _, _, _, _, _, _, _, _, _, _, rfl, _⟩ := h; rfl) | (obtain ⟨_, _, _, _, _, _, _, _, _, _, _, _, rfl, _⟩ := h; rfl) | (obtain ⟨_, _, _, _, _, _, _, _, _, _, _, _, _, rfl, _⟩ := h; rfl) | (obtain ⟨_, _, _, _, _, _, _, _, _, _, _, _, _, _, rfl, _⟩ := h; rfl) | (obtain ⟨_, _, _, _, _, _, _, _, _, _, _, _, _, _, _, rfl, _⟩ := h; rfl)
theorem rd_check_few : ∀ ds G Q E', sp_check_few ds G Q E' → t_check_few (endD Q) (startD ["n", "bottom", "beats", "many", "rows", "turn"] ds) G := by
  rintro ds G Q E' ⟨n, B, b, rfl, hn, hB, hb, hf, q⟩
  unfold t_check_few
  refine dSeq_mk ?_
  walk_at "dl"
  refine ⟨n, B, rfl, ⟨hn.1, by show n ≤ 5; omega, hn.2⟩, hB.2, ?_⟩
  walk_at "dl"
  rw [List.length_map]
  have hl := tpsF_len hn.2 hB.2
  generalize (tpsF n B).length = m at *
  refine dSeq_mk ?_
  walk_at "dl"
  refine dSeq_mk ?_
  walk_at "dl"
  refine ⟨by omega, by omega, ?_⟩
  rw [Int.toNat_natCast]
  refine forL_by (fun its δ G' => G' = G ∧ ∃ (t : Nat) (s5 : Option D), its = (upD 0 b).drop t ∧ t ≤ b ∧ δ = [some (.int (n : Nat)), some (.int (B : Nat)), some (.int (b : Nat)), some (.int (m : Nat)), some (.int ((m ^ t : Nat) : Int)), s5]) (fun _ _ _ _ => trivial) ?_ ?_ _ _ _ ⟨rfl, 0, none, rfl, Nat.zero_le _, rfl⟩
  · rintro x r δ G' N ⟨rfl, t, s5, ei, ht, rfl⟩ kN
    have hlt : t < b := by
      rcases Nat.lt_or_ge t b with z | z
      · exact z
      · rw [upD_end z] at ei; cases ei
    rw [upD_drop hlt, Int.zero_add] at ei
    cases ei
    walk_at "dl"
    refine ⟨.r (by omega) (by omega), kN _ _ ⟨rfl, t + 1, some (.int (t : Nat)), rfl, hlt, ?_⟩⟩
    rw [Nat.pow_succ, Int.natCast_mul]
  · rintro δ G' ⟨rfl, t, s5, ei, ht, rfl⟩
    have : t = b := by
      rcases Nat.lt_or_ge t b with z | z
      · rw [upD_drop z] at ei; cases ei
      · omega
    subst this
    walk_at "dl"
    rw [decide_eq_false (by omega)]
    walk_at "dl"
    exact Rt.same q
/-- two values of the same data, == and repr -/
def Alk (a b : D) (G : Gp) : Prop := ∃ p k W, k ≤ 64 ∧ W ≤ sizeLine ∧ pyOf a G = some p ∧ pyOf b G = some p ∧ Rok k W p ∧ p.canLay0 = true
theorem eq_alk {a b : D} {G : Gp} {Q : DK} (h : Alk a b G) (q : Q (.bl true) G) : dEq a b G Q := by
  obtain ⟨p, k, W, hk, hW, ea, eb, r, c⟩ := h
  have sh : SeqAt.shaped p = true := by unfold SeqAt.shaped; rw [c, decide_eq_true (Nat.le_trans r.dp hk)]; rfl
  have key : (match pyOf a G, pyOf b G with | some p, some q => SeqAt.shaped p = true ∧ SeqAt.shaped q = true ∧ Q (.bl (PyData.eqv p q)) G | _, _ => False) := by
    rw [ea, eb]
    exact ⟨sh, sh, by rw [SeqAt.eqv_refl p c]; exact q⟩
  cases a with
  | int i =>
    cases ea
    cases b with
    | int j => cases eb; rw [w_eq_int, decide_eq_true rfl]; exact q
    | _ => exact key
  | str i =>
    cases ea
    cases b with
    | str j => cases eb; rw [w_eq_str, decide_eq_true rfl]; exact q
    | _ => exact key
  | bl i =>
    cases ea
    cases b with
    | bl j => cases eb; rw [w_eq_bl, decide_eq_true rfl]; exact q
    | _ => exact key
  | _ => exact key
theorem Alk.of {k W : Nat} {d : D} {G : Gp} (h : Rs k W d) (e : Es k d) (hk : k ≤ 64) (hW : W ≤ sizeLine) : Alk d d G := by
  obtain ⟨p, e1, r⟩ := h
  obtain ⟨p', e2, c, _⟩ := e
  have : p = p' := Option.some.inj (e1.symm.trans e2)
  subst this
  obtain ⟨p2, e3, r2⟩ := rs_py (G := G) ⟨p, e1, r⟩
  have e4 : pyOf d G = some p := by
    cases d with
    | ref a => cases e1
    | _ => exact e1
  exact ⟨p, k, W, hk, hW, e4, e4, r, c⟩
theorem dealL_take : ∀ (r : List (Int × List Int)) (xs : List Rat) (k : Nat), dealL (r.take k) xs = (dealL r xs).take k
  | [], xs, k => by rw [List.take_nil]; show [] = List.take k []; rw [List.take_nil]
  | s :: r, xs, 0 => rfl
  | s :: r, xs, k + 1 => by
    rw [List.take_succ_cons]
    show _ :: dealL (r.take k) _ = List.take (k + 1) (_ :: dealL r _)
    rw [List.take_succ_cons, dealL_take r _ k]
theorem dealL_len : ∀ (r : List (Int × List Int)) (xs : List Rat), (dealL r xs).length = r.length
  | [], _ => rfl
  | s :: r, xs => by show (dealL r _).length + 1 = r.length + 1; rw [dealL_len r]
theorem dealL_lt {n : Nat} (hn : 0 < n) : ∀ (r : List (Int × List Int)) (xs : List Rat), xs.length = n → (∀ s ∈ r, s.2.length = n) → ∀ i ∈ dealL r xs, i < n
  | [], _, _, _, i, h => nomatch h
  | s :: r, xs, hl, hr, i, h => by
    have gl : (grow s xs).length = n := by rw [grow_len (by rw [hr s List.mem_cons_self, hl]), hl]
    have tk := taker_lt (xs := grow s xs) (by omega)
    rcases List.mem_cons.mp h with rfl | h
    · omega
    · exact dealL_lt hn r _ (by rw [pay_len, gl]) (fun z hz => hr z (List.mem_cons_of_mem _ hz)) i h
def natD (l : List Nat) : List D := l.map fun i => .int (i : Nat)
theorem natD_len (l : List Nat) : (natD l).length = l.length := List.length_map ..
theorem natD_app (l : List Nat) (i : Nat) : natD l ++ [.int (i : Nat)] = natD (l ++ [i]) := by unfold natD; rw [List.map_append]; rfl
theorem rs_nats {l : List Nat} (h : ∀ i ∈ l, i < 1000) (hl : l.length ≤ 1000) : Rs 1 20000 (.lst (natD l)) := by
  refine (rs_lst (k := 0) (W := 13) fun y hy => ?_).mono (by omega) ?_
  · obtain ⟨i, hi, rfl⟩ := List.mem_map.mp hy
    have := h i hi
    exact rs_int (by omega)
  · rw [natD_len]
    omega
theorem es_nats {l : List Nat} : Es 1 (.lst (natD l)) := es_lst (k := 0) fun y hy => by
  obtain ⟨i, hi, rfl⟩ := List.mem_map.mp hy
  exact es_int
theorem Alk.refR {k W : Nat} {xs : List D} {a : Addr} {G : Gp} (h : Rs k W (.lst xs)) (e : Es k (.lst xs)) (hk : k ≤ 64) (hW : W ≤ sizeLine) (ha : G a = some (.lst xs)) : Alk (.lst xs) (.ref a) G := by
  obtain ⟨p, k2, W2, h1, h2, h3, h4, h5, h6⟩ := Alk.of (G := G) h e hk hW
  exact ⟨p, k2, W2, h1, h2, h3, (py_ref ha).trans h3, h5, h6⟩
theorem Alk.nats {l : List Nat} {a : Addr} {G : Gp} (h : ∀ i ∈ l, i < 1000) (hl : l.length ≤ 1000) (ha : G a = some (.lst (natD l))) : Alk (.lst (natD l)) (.ref a) G :=
  .refR (rs_nats h hl) es_nats (by decide) (by decide) ha
theorem lst_ne {G : Gp} {a p : Addr} {zs : List D} {n : Str} {fs : List (Str × D)} (h1 : G a = some (.lst zs)) (h2 : G p = some (.ins n fs)) : a ≠ p := fun z => by rw [z, h2] at h1; cases h1
theorem lst_nh {G : Gp} {a h : Addr} {zs : List D} (h1 : G a = some (.lst zs)) (h2 : isHand G h) : a ≠ h := fun z => by unfold isHand at h2; rw [z, h2] at h1; cases h1
theorem got_natD {l : List Nat} {i : Nat} {G : Gp} {Q : DK} (h : i < l.length) : gotI (natD l) (i : Nat) G Q = Q (.int ((l[i] : Nat) : Int)) G := by
  refine got_eq ?_
  unfold natD
  rw [at_nat (by omega), Int.toNat_natCast, List.getElem?_map, List.getElem?_eq_getElem h]
  rfl
/-- the debts behind each beat of any deals -/
def behindL : List (Int × List Int) → List Nat → List Rat → List (List Rat)
  | s :: r, i :: ns, xs => pay (grow s xs) i :: behindL r ns (pay (grow s xs) i)
  | _, _, _ => []
theorem behindL_len : ∀ (r : List (Int × List Int)) (ns : List Nat) (xs : List Rat), ns.length = r.length → (behindL r ns xs).length = r.length
  | [], [], _, _ => rfl
  | [], _ :: _, _, h => nomatch h
  | _ :: _, [], _, h => nomatch h
  | s :: r, i :: ns, xs, h => by
    show (behindL r ns _).length + 1 = r.length + 1
    rw [behindL_len r ns _ (by simpa using h)]
theorem behindL_sz {n : Nat} : ∀ (r : List (Int × List Int)) (ns : List Nat) (xs : List Rat) (C : Nat), (∀ s ∈ r, ShB n s) → (∀ i ∈ ns, i < n) → xs.length = n → Szs LL C xs → C + 2 * r.length ≤ 4000 →
    ∀ ys ∈ behindL r ns xs, ys.length = n ∧ Szs LL 4000 ys
  | [], ns, xs, _, _, _, _, _, _, ys, h => by unfold behindL at h; exact nomatch h
  | s :: r, [], xs, _, _, _, _, _, _, ys, h => by unfold behindL at h; exact nomatch h
  | s :: r, i :: ns, xs, C, hr, hi, hl, h, hC, ys, hy => by
    rw [List.length_cons] at hC
    have hs := hr s List.mem_cons_self
    have gl : (grow s xs).length = n := by rw [grow_len (by rw [hs.ln, hl]), hl]
    have hg := LL_pay (i := i) (by have := hi i List.mem_cons_self; omega) (LL_grow hs h)
    have pl : (pay (grow s xs) i).length = n := by rw [pay_len, gl]
    rcases List.mem_cons.mp hy with rfl | hy
    · exact ⟨pl, szs_mono hg (Nat.dvd_refl _) (by omega)⟩
    · exact behindL_sz r ns _ (C + 2) (fun z hz => hr z (List.mem_cons_of_mem _ hz)) (fun z hz => hi z (List.mem_cons_of_mem _ hz)) pl hg (by omega) ys hy
theorem rs_LL {n : Nat} {xs : List Rat} (h : Szs LL 4000 xs) (hl : xs.length = n) (hn : n ≤ 12) : Rs 2 4300 (frts xs) :=
  (rs_frts (K := 170) h LL_ne (LL_bd (by omega)).1 (by decide) (by decide)).mono (Nat.le_refl _) (by
    have : xs.length * (2 * (170 + 3) + 3 + 2) ≤ 12 * (2 * (170 + 3) + 3 + 2) := Nat.mul_le_mul (by omega) (by omega)
    omega)
theorem rs_debts {n : Nat} {l : List (List Rat)} (h : ∀ ys ∈ l, ys.length = n ∧ Szs LL 4000 ys) (hn : n ≤ 12) (hl : l.length ≤ 100) : Rs 3 500000 (.lst (l.map frts)) := by
  refine (rs_lst (k := 2) (W := 4300) fun y hy => ?_).mono (by omega) ?_
  · obtain ⟨ys, hys, rfl⟩ := List.mem_map.mp hy
    exact rs_LL (h ys hys).2 (h ys hys).1 hn
  · rw [List.length_map]
    omega
theorem es_debts {l : List (List Rat)} : Es 3 (.lst (l.map frts)) := es_lst (k := 2) fun y hy => by
  obtain ⟨ys, hys, rfl⟩ := List.mem_map.mp hy
  exact es_frts ys
/-- a list, that may change or not -/
def isLs (x : D) (xs : List D) (G : Gp) : Prop := x = .lst xs ∨ ∃ a, x = .ref a ∧ G a = some (.lst xs)
theorem isLs.py {x : D} {xs : List D} {G : Gp} (h : isLs x xs G) : pyOf x G = toPy (.lst xs) := by
  rcases h with rfl | ⟨a, rfl, h⟩
  · rfl
  · exact py_ref h
theorem Alk.ls {k W : Nat} {x y : D} {xs : List D} {G : Gp} (h : Rs k W (.lst xs)) (e : Es k (.lst xs)) (hk : k ≤ 64) (hW : W ≤ sizeLine) (hx : isLs x xs G) (hy : isLs y xs G) : Alk x y G := by
  obtain ⟨p, k2, W2, h1, h2, h3, h4, h5, h6⟩ := Alk.of (G := G) h e hk hW
  have h3 : toPy (.lst xs) = some p := h3
  exact ⟨p, k2, W2, h1, h2, hx.py.trans h3, hy.py.trans h3, h5, h6⟩
/-- what is dealt, a tuple or a list -/
def isNs (x : D) (ns : List Nat) : Prop := x = .tup (natD ns) ∨ x = .lst (natD ns)
theorem isNs.seq {x : D} {ns : List Nat} {G : Gp} (h : isNs x ns) : seqOf x G = some (natD ns) := by rcases h with rfl | rfl <;> rfl
/-- the sum of fractions, from the left -/
theorem rsum_cons (x : Rat) (l : List Rat) : (x :: l).sum = x + l.sum := List.sum_cons
theorem sh_sum {n : Nat} {s : Int × List Int} (h : ShR n s) : s.2.sum = s.1 := by
  obtain ⟨b, ts⟩ := s
  have e := h.ar
  have e : (isW (.int b) 1 360 && decide (((ts.map D.int).length : Int) = n) && (ts.map D.int).all (fun t => isW t 0 b) && decide (isum (ts.map D.int) = 1 * b)) = true := e
  rw [Bool.and_eq_true, decide_eq_true_iff] at e
  have e2 := e.2
  unfold isum at e2
  rw [DL.ints_map, Int.one_mul] at e2
  exact e2
theorem grow_sum {b : Int} (hb : 1 ≤ b) : ∀ (xs : List Rat) (ts : List Int), ts.length = xs.length → (grow (b, ts) xs).sum = xs.sum + mkRat ts.sum b.toNat
  | [], [], _ => by
    show ([] : List Rat).sum = ([] : List Rat).sum + mkRat 0 _
    rw [Rat.zero_mkRat, Rat.add_zero]
  | [], _ :: _, h => nomatch h
  | _ :: _, [], h => nomatch h
  | x :: xs, t :: ts, h => by
    have ih := grow_sum hb xs ts (by simpa using h)
    have e : grow (b, t :: ts) (x :: xs) = (x + mkRat t b.toNat) :: grow (b, ts) xs := rfl
    rw [e, rsum_cons, ih, rsum_cons, List.sum_cons, ← fq_plus t ts.sum (show b.toNat ≠ 0 by omega)]
    rw [Rat.add_assoc, Rat.add_assoc]
    congr 1
    rw [← Rat.add_assoc, ← Rat.add_assoc, Rat.add_comm (mkRat t b.toNat)]
theorem pay_sum : ∀ (xs : List Rat) (i : Nat), i < xs.length → (pay xs i).sum = xs.sum - 1
  | [], _, h => nomatch h
  | x :: xs, 0, _ => by
    have e : pay (x :: xs) 0 = (x - 1) :: xs := rfl
    rw [e, rsum_cons, rsum_cons, Rat.sub_eq_add_neg, Rat.sub_eq_add_neg, Rat.add_assoc, Rat.add_assoc, Rat.add_comm xs.sum]
  | x :: xs, i + 1, h => by
    have e : pay (x :: xs) (i + 1) = x :: pay xs i := rfl
    rw [e, rsum_cons, rsum_cons, pay_sum xs i (by simpa using h), Rat.sub_eq_add_neg, Rat.sub_eq_add_neg, Rat.add_assoc]
theorem step_sum {n i : Nat} {s : Int × List Int} {xs : List Rat} (hs : ShR n s) (hl : xs.length = n) (hi : i < n) : (pay (grow s xs) i).sum = xs.sum := by
  have gl : (grow s xs).length = n := by rw [grow_len (by rw [hs.ln, hl]), hl]
  have h1 := hs.sm.b1
  have e := grow_sum h1 xs s.2 (by rw [hs.ln, hl])
  have e2 : mkRat s.2.sum s.1.toNat = 1 := by
    rw [sh_sum hs]
    have : s.1 = ((s.1.toNat : Nat) : Int) := by omega
    have h3 : mkRat s.1 s.1.toNat = mkRat 1 1 := by
      rw [Rat.mkRat_eq_iff (by omega) (by decide)]
      omega
    rw [h3]
    rfl
  rw [pay_sum _ _ (by omega)]
  have e : (grow s xs).sum = xs.sum + mkRat s.2.sum s.1.toNat := e
  rw [e, e2, Rat.sub_eq_add_neg, Rat.add_assoc, Rat.add_neg_cancel, Rat.add_zero]
theorem behindL_sum {n : Nat} : ∀ (r : List (Int × List Int)) (ns : List Nat) (xs : List Rat), (∀ s ∈ r, ShR n s) → (∀ i ∈ ns, i < n) → xs.length = n → ∀ ys ∈ behindL r ns xs, ys.sum = xs.sum
  | [], ns, xs, _, _, _, ys, h => by unfold behindL at h; exact nomatch h
  | s :: r, [], xs, _, _, _, ys, h => by unfold behindL at h; exact nomatch h
  | s :: r, i :: ns, xs, hr, hi, hl, ys, hy => by
    have hs := hr s List.mem_cons_self
    have hin := hi i List.mem_cons_self
    have gl : (grow s xs).length = n := by rw [grow_len (by rw [hs.ln, hl]), hl]
    have e := step_sum hs hl hin
    rcases List.mem_cons.mp hy with rfl | hy
    · exact e
    · rw [behindL_sum r ns _ (fun z hz => hr z (List.mem_cons_of_mem _ hz)) (fun z hz => hi z (List.mem_cons_of_mem _ hz)) (by rw [pay_len, gl]) ys hy, e]
theorem zeros_sum (n : Nat) : (List.replicate n (0 : Rat)).sum = 0 := by
  induction n with
  | zero => rfl
  | succ n ih => rw [List.replicate_succ, rsum_cons, ih, Rat.add_zero]
theorem Sz.sums {L C : Nat} (hL : L ≠ 0) : ∀ {xs : List Rat} {x : Rat} {B : Nat}, Sz L B x → Szs L C xs → Sz L (B + xs.length * C) (x + xs.sum)
  | [], x, B, hx, _ => by
    have : ([] : List Rat).sum = 0 := rfl
    rw [this, Rat.add_zero, List.length_nil, Nat.zero_mul]
    exact hx
  | y :: xs, x, B, hx, h => by
    have e := Sz.sums hL (Sz.add hL hx (h y List.mem_cons_self)) (fun z hz => h z (List.mem_cons_of_mem _ hz))
    rw [rsum_cons, ← Rat.add_assoc, List.length_cons, Nat.add_mul, Nat.one_mul, Nat.add_comm (xs.length * C), ← Nat.add_assoc]
    exact e
/-- a sequence of fractions -/
def isFs (x : D) (xs : List Rat) : Prop := x = .tup (xs.map fr) ∨ x = .lst (xs.map fr)
theorem best_char {xs : List Rat} : ∀ (suf : List Rat) (k f : Nat), xs.drop k = suf → (∀ j, j < f → xs.getD j 0 < xs.getD f 0) → (∀ j, j < k → xs.getD j 0 ≤ xs.getD f 0) →
    (∀ j, j < bestOf xs (suf.zipIdx k) f → xs.getD j 0 < xs.getD (bestOf xs (suf.zipIdx k) f) 0) ∧ (∀ j, j < xs.length → xs.getD j 0 ≤ xs.getD (bestOf xs (suf.zipIdx k) f) 0)
  | [], k, f, hd, hA, hB => ⟨hA, fun j hj => hB j (by have := List.drop_eq_nil_iff.mp hd; omega)⟩
  | x :: suf, k, f, hd, hA, hB => by
    have hk : k < xs.length := by
      rcases Nat.lt_or_ge k xs.length with z | z
      · exact z
      · rw [List.drop_eq_nil_of_le z] at hd; cases hd
    have hd2 := List.drop_eq_getElem_cons hk
    rw [hd] at hd2
    injection hd2 with e1 e2
    have ex : xs.getD k 0 = x := by rw [List.getD_eq_getElem?_getD, List.getElem?_eq_getElem hk, e1]; rfl
    have e : bestOf xs ((x :: suf).zipIdx k) f = bestOf xs (suf.zipIdx (k + 1)) (if xs.getD f 0 < x then k else f) := by rw [List.zipIdx_cons]; rfl
    rw [e]
    by_cases hlt : xs.getD f 0 < x
    · rw [if_pos hlt]
      refine best_char suf (k + 1) k e2.symm (fun j hj => by have := hB j hj; rw [ex]; grind) (fun j hj => ?_)
      rcases Nat.lt_or_ge j k with z | z
      · rw [ex]; exact Rat.le_trans (hB j z) (Rat.le_of_lt hlt)
      · rw [show j = k by omega]; exact Rat.le_refl
    · rw [if_neg hlt]
      refine best_char suf (k + 1) f e2.symm hA (fun j hj => ?_)
      rcases Nat.lt_or_ge j k with z | z
      · exact hB j z
      · rw [show j = k by omega, ex]; exact Rat.not_lt.mp hlt
/-- nobody has a greater debt than who takes -/
theorem taker_max {xs : List Rat} {i : Nat} (h : i < xs.length) : xs.getD i 0 ≤ xs.getD (taker xs) 0 :=
  (best_char (xs := xs) xs 0 0 rfl (fun j hj => by omega) fun j hj => by omega).2 i h
/-- each one ahead has less -/
theorem taker_first {xs : List Rat} {i : Nat} (h : i < taker xs) : xs.getD i 0 < xs.getD (taker xs) 0 :=
  (best_char (xs := xs) xs 0 0 rfl (fun j hj => by omega) fun j hj => by omega).1 i h
theorem taker_eq {xs : List Rat} {i : Nat} (h : i < xs.length) (h1 : ∀ j, j < i → xs.getD j 0 < xs.getD i 0) (h2 : ∀ j, j < xs.length → xs.getD j 0 ≤ xs.getD i 0) : taker xs = i := by
  have ht : taker xs < xs.length := taker_lt (by omega)
  rcases Nat.lt_trichotomy (taker xs) i with z | z | z
  · exact absurd (taker_max h) (Rat.not_le.mpr (h1 _ z))
  · exact z
  · exact absurd (h2 _ ht) (Rat.not_le.mpr (taker_first z))
theorem sum_neg {m : Rat} (h0 : m < 0) : ∀ (xs : List Rat), (∀ x ∈ xs, x ≤ m) → xs ≠ [] → xs.sum < 0
  | [], _, h => absurd rfl h
  | [x], h, _ => by
    have := h x List.mem_cons_self
    rw [rsum_cons, show ([] : List Rat).sum = 0 from rfl]
    grind
  | x :: y :: xs, h, _ => by
    rw [rsum_cons]
    have h1 := sum_neg h0 (y :: xs) (fun z hz => h z (List.mem_cons_of_mem _ hz)) (by simp)
    have h2 := h x List.mem_cons_self
    grind
/-- who takes has no debt below nothing where all together have none -/
theorem taker_nonneg {xs : List Rat} (h : 0 < xs.length) (hs : 0 ≤ xs.sum) : 0 ≤ xs.getD (taker xs) 0 := by
  by_cases z : xs.getD (taker xs) 0 < 0
  · have h1 := sum_neg z xs (fun x hx => ?_) (fun e => by rw [e] at h; cases h)
    · grind
    · obtain ⟨i, hi, rfl⟩ := List.getElem_of_mem hx
      have := taker_max hi
      rwa [List.getD_eq_getElem?_getD, List.getElem?_eq_getElem hi] at this
  · grind
/-- people more that get nothing: the same one takes -/
theorem taker_wide {xs : List Rat} (k : Nat) (h : 0 < xs.length) (hs : 0 ≤ xs.sum) : taker (xs ++ List.replicate k 0) = taker xs := by
  have ht := taker_lt h
  have g : ∀ j, j < xs.length → (xs ++ List.replicate k 0).getD j 0 = xs.getD j 0 := fun j hj => by
    rw [List.getD_eq_getElem?_getD, List.getD_eq_getElem?_getD, List.getElem?_append_left hj]
  refine taker_eq (by rw [List.length_append]; omega) (fun j hj => ?_) (fun j hj => ?_)
  · rw [g _ (by omega), g _ ht]
    exact taker_first hj
  · rw [g _ ht]
    rcases Nat.lt_or_ge j xs.length with z | z
    · rw [g _ z]
      exact taker_max z
    · rw [List.getD_eq_getElem?_getD, List.getElem?_append_right z]
      have e : ((List.replicate k (0 : Rat))[j - xs.length]?).getD 0 = 0 := by
        rw [List.getElem?_replicate]
        split <;> rfl
      rw [e]
      exact taker_nonneg h hs
/-- a whole thing for who has most -/
theorem getD_set {xs : List Rat} {i j : Nat} {v : Rat} (h : i < xs.length) : (xs.set i v).getD j 0 = if j = i then v else xs.getD j 0 := by
  rw [List.getD_eq_getElem?_getD, List.getElem?_set]
  by_cases e : i = j
  · subst e
    rw [if_pos rfl, if_pos h, if_pos rfl]
    rfl
  · rw [if_neg e, if_neg (fun z => e z.symm), List.getD_eq_getElem?_getD]
theorem taker_more {xs : List Rat} (h : 0 < xs.length) : taker (xs.set (taker xs) (xs.getD (taker xs) 0 + 1)) = taker xs := by
  have ht := taker_lt h
  refine taker_eq (by rw [List.length_set]; exact ht) (fun j hj => ?_) (fun j hj => ?_)
  · rw [getD_set ht, getD_set ht, if_pos rfl, if_neg (by omega)]
    have := taker_first hj
    grind
  · rw [List.length_set] at hj
    rw [getD_set ht, getD_set ht, if_pos rfl]
    split
    · exact Rat.le_refl
    · have := taker_max hj
      grind
/-- i stands ahead of j -/
def Bf (xs : List Rat) (i j : Nat) : Prop := xs.getD j 0 < xs.getD i 0 ∨ (xs.getD i 0 = xs.getD j 0 ∧ i < j)
theorem Bf.asymm {xs : List Rat} {i j : Nat} (h : Bf xs i j) (h2 : Bf xs j i) : False := by
  rcases h with h | ⟨h, hl⟩ <;> rcases h2 with h2 | ⟨h2, hl2⟩
  · grind
  · grind
  · grind
  · omega
theorem Bf.trans {xs : List Rat} {i j k : Nat} (h : Bf xs i j) (h2 : Bf xs j k) : Bf xs i k := by
  rcases h with h | ⟨h, hl⟩ <;> rcases h2 with h2 | ⟨h2, hl2⟩
  · exact .inl (by grind)
  · exact .inl (by grind)
  · exact .inl (by grind)
  · exact .inr ⟨by grind, by omega⟩
theorem Bf.ge {xs : List Rat} {i j : Nat} (h : Bf xs i j) : xs.getD j 0 ≤ xs.getD i 0 := by
  rcases h with h | ⟨h, _⟩ <;> grind
/-- the people by falling debts -/
structure Ranked (xs : List Rat) (l : List Nat) : Prop where
  perm : l.Perm (List.range xs.length)
  srt : l.Pairwise (Bf xs)
theorem Ranked.uniq {xs : List Rat} {l m : List Nat} (h : Ranked xs l) (h2 : Ranked xs m) : l = m :=
  List.Perm.eq_of_pairwise (le := Bf xs) (fun a b _ _ h1 h2 => (h1.asymm h2).elim) h.srt h2.srt (h.perm.trans h2.perm.symm)
theorem Ranked.len {xs : List Rat} {l : List Nat} (h : Ranked xs l) : l.length = xs.length := by rw [h.perm.length_eq, List.length_range]
theorem Ranked.lt {xs : List Rat} {l : List Nat} (h : Ranked xs l) : ∀ i ∈ l, i < xs.length := fun i hi => List.mem_range.mp (h.perm.mem_iff.mp hi)
theorem Ranked.nodup {xs : List Rat} {l : List Nat} (h : Ranked xs l) : l.Nodup := h.perm.nodup_iff.mpr List.nodup_range
/-- the lot of the so many greatest -/
def IsLot (xs : List Rat) (m : Nat) (c : List Nat) : Prop := ∃ l, Ranked xs l ∧ c.Perm (l.take m) ∧ c.Pairwise (· < ·)
theorem IsLot.uniq {xs : List Rat} {m : Nat} {c d : List Nat} (h : IsLot xs m c) (h2 : IsLot xs m d) : c = d := by
  obtain ⟨l, hl, hc, hs⟩ := h
  obtain ⟨l2, hl2, hd, hs2⟩ := h2
  cases hl.uniq hl2
  exact List.Perm.eq_of_pairwise (le := (· < ·)) (fun a b _ _ h1 h2 => by omega) hs hs2 (hc.trans hd.symm)
theorem IsLot.lt {xs : List Rat} {m : Nat} {c : List Nat} (h : IsLot xs m c) : ∀ i ∈ c, i < xs.length := by
  obtain ⟨l, hl, hc, hs⟩ := h
  exact fun i hi => hl.lt i (List.mem_of_mem_take (hc.mem_iff.mp hi))
theorem IsLot.len {xs : List Rat} {m : Nat} {c : List Nat} (h : IsLot xs m c) : c.length = min m xs.length := by
  obtain ⟨l, hl, hc, hs⟩ := h
  rw [hc.length_eq, List.length_take, hl.len]
theorem IsLot.nodup {xs : List Rat} {m : Nat} {c : List Nat} (h : IsLot xs m c) : c.Nodup := by
  obtain ⟨l, hl, hc, hs⟩ := h
  exact hs.imp fun h => by omega
theorem range_pw (n : Nat) : (List.range n).Pairwise (· < ·) := List.pairwise_lt_range
theorem IsLot.all {xs : List Rat} {c : List Nat} (h : IsLot xs xs.length c) : c = List.range xs.length := by
  obtain ⟨l, hl, hc, hs⟩ := h
  rw [List.take_of_length_le (by rw [hl.len]; omega)] at hc
  exact List.Perm.eq_of_pairwise (le := (· < ·)) (fun a b _ _ h1 h2 => by omega) hs (range_pw _) (hc.trans hl.perm)
/-- what some people have together -/
def sumOn (xs : List Rat) (c : List Nat) : Rat := (c.map fun i => xs.getD i 0).sum
theorem map_getD_range (xs : List Rat) : (List.range xs.length).map (fun i => xs.getD i 0) = xs := by
  apply List.ext_getElem
  · simp
  · intro i h1 h2
    rw [List.getElem_map, List.getElem_range, List.getD_eq_getElem?_getD, List.getElem?_eq_getElem h2]
    rfl
theorem sumOn_all (xs : List Rat) : sumOn xs (List.range xs.length) = xs.sum := by unfold sumOn; rw [map_getD_range]
/-- one more put in at its place -/
theorem ins_srt {xs : List Rat} {l : List Nat} {i at_ : Nat} (hp : l.Perm (List.range i)) (hs : l.Pairwise (Bf xs)) (ha : at_ ≤ l.length) (h1 : ∀ j ∈ l.take at_, ¬ xs.getD j 0 < xs.getD i 0) (h2 : ∀ h : at_ < l.length, xs.getD l[at_] 0 < xs.getD i 0) :
    (l.take at_ ++ [i] ++ l.drop at_).Perm (List.range (i + 1)) ∧ (l.take at_ ++ [i] ++ l.drop at_).Pairwise (Bf xs) := by
  refine ⟨?_, ?_⟩
  · rw [List.range_succ]
    have e : (l.take at_ ++ [i] ++ l.drop at_).Perm (l.take at_ ++ l.drop at_ ++ [i]) := by
      rw [List.append_assoc, List.append_assoc]
      exact (List.Perm.append_left _ List.perm_append_comm)
    rw [List.take_append_drop] at e
    exact e.trans (hp.append_right _)
  · rw [List.append_assoc, List.pairwise_append]
    have hd : ∀ j ∈ l.drop at_, xs.getD j 0 < xs.getD i 0 := by
      intro j hj
      rcases Nat.lt_or_ge at_ l.length with z | z
      · rw [List.drop_eq_getElem_cons z] at hj
        have h3 := h2 z
        rcases List.mem_cons.mp hj with rfl | hj
        · exact h3
        · have hs2 := hs.drop (i := at_)
          rw [List.drop_eq_getElem_cons z, List.pairwise_cons] at hs2
          have := (hs2.1 j hj).ge
          grind
      · rw [List.drop_eq_nil_of_le z] at hj
        exact nomatch hj
    refine ⟨hs.take, ?_, ?_⟩
    · rw [List.singleton_append, List.pairwise_cons]
      exact ⟨fun j hj => .inl (hd j hj), hs.drop⟩
    · intro a hA b hb
      have ha2 := h1 a hA
      have hai : a < i := List.mem_range.mp (hp.mem_iff.mp (List.mem_of_mem_take hA))
      rw [List.singleton_append] at hb
      rcases List.mem_cons.mp hb with rfl | hb
      · rcases Classical.em (xs.getD b 0 < xs.getD a 0) with z | z
        · exact .inl z
        · exact .inr ⟨by grind, hai⟩
      · have := hd b hb
        exact .inl (by grind)
/-- debts that are not too great -/
def Dbt (C : Nat) (xs : List Rat) : Prop := ∃ L, L ≠ 0 ∧ LL ∣ L ∧ L ≤ LL * 10 ^ 9 ∧ Szs L C xs
theorem Dbt.ofLL {C : Nat} {xs : List Rat} (h : Szs LL C xs) : Dbt C xs := ⟨LL, LL_ne, Nat.dvd_refl _, Nat.le_mul_of_pos_right _ (by decide), h⟩
theorem big_bd {B L : Nat} (hB : B ≤ 10 ^ 6) (hL : L ≤ LL * 10 ^ 9) : (B + 1) * L < 10 ^ 180 ∧ (B + 1) * L < 2 ^ 3000 := by
  have h1 : (B + 1) * L ≤ (10 ^ 6 + 1) * (LL * 10 ^ 9) := Nat.mul_le_mul (by omega) hL
  have h2 : (10 ^ 6 + 1) * (LL * 10 ^ 9) < 10 ^ 180 := by decide +kernel
  have h3 : (10 ^ 6 + 1) * (LL * 10 ^ 9) < 2 ^ 3000 := by decide +kernel
  exact ⟨Nat.lt_of_le_of_lt h1 h2, Nat.lt_of_le_of_lt h1 h3⟩
theorem Dbt.sm {C : Nat} {xs : List Rat} (h : Dbt C xs) (hC : C ≤ 10 ^ 6) : ∀ x ∈ xs, Sm x := by
  obtain ⟨L, h0, _, hL, hs⟩ := h
  exact szs_sm hs h0 (big_bd hC hL).2
theorem Dbt.mono {C E : Nat} {xs : List Rat} (h : Dbt C xs) (hC : C ≤ E) : Dbt E xs := by
  obtain ⟨L, h0, hd, hL, hs⟩ := h
  exact ⟨L, h0, hd, hL, szs_mono hs (Nat.dvd_refl _) hC⟩
theorem Dbt.grow {n C : Nat} {s : Int × List Int} {xs : List Rat} (hs : ShB n s) (h : Dbt C xs) : Dbt (C + 1) (grow s xs) := by
  obtain ⟨L, h0, hd, hL, hx⟩ := h
  exact ⟨L, h0, hd, hL, szs_growL h0 (Nat.dvd_trans hs.dv hd) hs.sm hx⟩
theorem Dbt.pay {C i : Nat} {xs : List Rat} (hi : i < xs.length) (h : Dbt C xs) : Dbt (C + 1) (pay xs i) := by
  obtain ⟨L, h0, hd, hL, hx⟩ := h
  exact ⟨L, h0, hd, hL, szs_pay h0 hi hx⟩
/-- what L_sum and total ask -/
theorem Dbt.sums {C : Nat} {xs : List Rat} (h : Dbt C xs) (hC : C ≤ 1000) (hl : xs.length ≤ 100) : ∃ L C, L ≠ 0 ∧ Szs L C xs ∧ (xs.length * C + C + 1) * L < 2 ^ 3000 := by
  obtain ⟨L, h0, hd, hL, hx⟩ := h
  refine ⟨L, C, h0, hx, (big_bd ?_ hL).2⟩
  have : xs.length * C ≤ 100 * 1000 := Nat.mul_le_mul hl hC
  omega
theorem Dbt.sub {C : Nat} {xs ys : List Rat} (h : Dbt C xs) (hs : ∀ y ∈ ys, y ∈ xs) : Dbt C ys := by
  obtain ⟨L, h0, hd, hL, hx⟩ := h
  exact ⟨L, h0, hd, hL, fun y hy => hx y (hs y hy)⟩
theorem getD_in {xs : List Rat} {i : Nat} (h : i < xs.length) : xs.getD i 0 ∈ xs := getD_mem h
theorem Dbt.on {C : Nat} {xs : List Rat} {c : List Nat} (h : Dbt C xs) (hc : ∀ i ∈ c, i < xs.length) : Dbt C (c.map fun i => xs.getD i 0) := h.sub fun y hy => by
  obtain ⟨i, hi, rfl⟩ := List.mem_map.mp hy
  exact getD_in (hc i hi)
/-- what some have together, as debts of one -/
theorem Dbt.sumOn {C : Nat} {xs : List Rat} {c : List Nat} (h : Dbt C xs) (hc : ∀ i ∈ c, i < xs.length) (hl : c.length ≤ 13) : Dbt (13 * C) [sumOn xs c] := by
  obtain ⟨L, h0, hd, hL, hx⟩ := h.on hc
  refine ⟨L, h0, hd, hL, fun y hy => ?_⟩
  rw [List.mem_singleton.mp hy]
  have e := Sz.sums h0 (Sz.one (i := 0) (C := 0) (by decide)) hx
  rw [show ((0 : Int) : Rat) = 0 from rfl, Rat.zero_add, List.length_map, Nat.zero_add] at e
  exact e.mono (Nat.dvd_refl _) (Nat.mul_le_mul_right _ hl)
theorem Dbt.rs {C : Nat} {xs : List Rat} (h : Dbt C xs) (hC : C ≤ 10 ^ 6) (hl : xs.length ≤ 12) : Rs 2 4600 (frts xs) := by
  obtain ⟨L, h0, hd, hL, hx⟩ := h
  refine (rs_frts (K := 180) hx h0 (big_bd hC hL).1 (by decide) (by decide)).mono (Nat.le_refl _) ?_
  have : xs.length * (2 * (180 + 3) + 3 + 2) ≤ 12 * (2 * (180 + 3) + 3 + 2) := Nat.mul_le_mul hl (by omega)
  omega
theorem Dbt.rs1 {C : Nat} {x : Rat} (h : Dbt C [x]) (hC : C ≤ 10 ^ 6) : Rs 1 400 (fr x) := by
  obtain ⟨L, h0, hd, hL, hx⟩ := h
  exact (rs_fr ((hx x List.mem_cons_self).mono (Nat.dvd_refl _) (Nat.le_succ C)) h0 (big_bd hC hL).1 (by omega) (by decide) (by decide)).mono (Nat.le_refl _) (by omega)
/-- 1 / lo + 1 / (lo + 1) + .., n of them -/
def hsum (lo : Nat) : Nat → Rat
  | 0 => 0
  | n + 1 => hsum lo n + mkRat 1 (lo + n)
theorem unit_sz {k : Nat} (h : 1 ≤ k) (h2 : k ≤ 360) : Sz LL 1 (mkRat 1 k) :=
  Sz.low LL_ne (by omega) (by have := LL_dvd (b := (k : Int)) (by omega) (by omega); rwa [Int.toNat_natCast] at this) (by omega) (by omega)
theorem hsum_sz {lo : Nat} (h : 1 ≤ lo) : ∀ {n : Nat}, lo + n ≤ 361 → Sz LL n (hsum lo n)
  | 0, _ => Sz.one (i := 0) (by decide)
  | n + 1, hn => Sz.add LL_ne (hsum_sz h (by omega)) (unit_sz (by omega) (by omega))
theorem hsum_sm {lo n : Nat} (h : 1 ≤ lo) (hn : lo + n ≤ 361) : Sm (hsum lo n) := LL_sm (C := n) (xs := [hsum lo n]) (fun x hx => by rw [List.mem_singleton.mp hx]; exact hsum_sz h hn) (by omega) _ List.mem_cons_self
theorem unit_sm {k : Nat} (h : 1 ≤ k) (hn : k ≤ 360) : Sm (mkRat 1 k) := LL_sm (C := 1) (xs := [mkRat 1 k]) (fun x hx => by rw [List.mem_singleton.mp hx]; exact unit_sz h hn) (by omega) _ List.mem_cons_self
theorem rsum_append : ∀ (a b : List Rat), (a ++ b).sum = a.sum + b.sum
  | [], b => by rw [List.nil_append, show ([] : List Rat).sum = 0 from rfl, Rat.zero_add]
  | x :: a, b => by rw [List.cons_append, rsum_cons, rsum_cons, rsum_append a b, Rat.add_assoc]
theorem hsum_list (lo : Nat) : ∀ n : Nat, ((List.range n).map fun i => mkRat 1 (lo + i)).sum = hsum lo n
  | 0 => rfl
  | n + 1 => by
    rw [List.range_succ, List.map_append, rsum_append, hsum_list lo n]
    show hsum lo n + (mkRat 1 (lo + n) + ([] : List Rat).sum) = _
    rw [show ([] : List Rat).sum = 0 from rfl, Rat.add_zero]
    rfl
/-- what so many may have together behind so many beats -/
def alw (n b m : Nat) : Rat := (m : Rat) * hsum (m + 1) (min n (m + b) - m)
theorem mul_fr (m : Int) (x : Rat) : mkRat (m * x.num) x.den = (m : Rat) * x := by
  have e1 : (m : Rat) = mkRat m 1 := (Rat.mkRat_one m).symm
  rw [e1]
  have e2 := Rat.mkRat_mul_mkRat m x.num 1 x.den
  rw [Rat.mkRat_self, Nat.one_mul] at e2
  exact e2.symm
theorem Sz.nmul {L C : Nat} {x : Rat} (hL : L ≠ 0) (h : Sz L C x) : ∀ m : Nat, Sz L (m * C) ((m : Rat) * x)
  | 0 => by
    rw [Nat.zero_mul]
    have : ((0 : Nat) : Rat) * x = 0 := by grind
    rw [this]
    exact Sz.one (i := 0) (by decide)
  | m + 1 => by
    have e : ((m + 1 : Nat) : Rat) * x = (m : Rat) * x + x := by
      rw [Rat.natCast_add]
      grind
    rw [e, Nat.add_mul, Nat.one_mul]
    exact Sz.add hL (Sz.nmul hL h m) h
theorem alw_sz {n b m : Nat} (hn : n ≤ 12) (hm : m ≤ 12) : Sz LL 144 (alw n b m) := by
  refine (Sz.nmul LL_ne (hsum_sz (lo := m + 1) (by omega) (n := min n (m + b) - m) (by omega)) m).mono (Nat.dvd_refl _) ?_
  have : m * (min n (m + b) - m) ≤ 12 * 12 := Nat.mul_le_mul hm (by omega)
  omega
theorem alw_dbt {n b m : Nat} (hn : n ≤ 12) (hm : m ≤ 12) : Dbt 144 [alw n b m] := .ofLL fun x hx => by rw [List.mem_singleton.mp hx]; exact alw_sz hn hm
theorem alw_sm {n b m : Nat} (hn : n ≤ 12) (hm : m ≤ 12) : Sm (alw n b m) := (alw_dbt hn hm).sm (by decide) _ List.mem_cons_self
abbrev sp_total : DSp := fun ds G Q _ => ∃ (x : D) (xs : List Rat) (L C : Nat), ds = [x] ∧ isFs x xs ∧ L ≠ 0 ∧ Szs L C xs ∧ (xs.length * C + C + 1) * L < 2 ^ 3000 ∧ Q (fr xs.sum) G
def t_total : DS :=
  (dSeq (dAsg 1 (dC (.tup [(.int 0), (.int 1)])))
  (dSeq (dFor (dSeqI (dVar 0)) (gN 2) (dAsg 1 (dCall sp_plus X0 (aCons (dVar 1) (aCons (dVar 2) aNil)))))
  (dRet (dVar 1))))
theorem len_total : ∀ ds G Q E, sp_total ds G Q E → ds.length = ["some"].length := by
  intro ds G Q E h
  first | (obtain ⟨rfl, _⟩ := h; rfl) | (obtain ⟨_, rfl, _⟩ := h; rfl) | (obtain ⟨_, _, rfl, _⟩ := h; rfl) | (obtain ⟨_, _, _, rfl, _⟩ := h; rfl) | (obtain ⟨_, _, _, _, rfl, _⟩ := h; rfl) | (obtain ⟨_, _, _, _, _, rfl, _⟩ := h; rfl) | (obtain ⟨_, _, _, _, _, _, rfl, _⟩ := h; rfl) | (obtain ⟨_, _, _, _, _, _, _, rfl, _⟩ := h; rfl) | (obtain ⟨_, _, _, _, _, _, _, _, rfl, _⟩ := h; rfl) | (obtain ⟨_, _, _, _, _, _, _, _, _, rfl, _⟩ := h; rfl) | (obtain ⟨_, _, _, _, _, _, _, _, _, _, rfl, _⟩ := h; rfl) | (obtain ⟨_, _, _, _, _, _, _, _, _, _, _, rfl, _⟩ := h; rfl) | (obtain ⟨_, _, _, _, _, _, _, _, _, _, _, _, rfl, _⟩ := h; rfl) | (obtain ⟨_, _, _, _, _, _, _, _, _, _, _, _, _, rfl, _⟩ := h; rfl) | (obtain ⟨_, _, _, _, _, _, _, _, _, _, _, _, _, _, rfl, _⟩ := h; rfl) | (obtain ⟨_, _, _, _, _, _, _, _, _, _, _, _, _, _, _, rfl, _⟩ := h; rfl)
theorem rd_total : ∀ ds G Q E', sp_total ds G Q E' → t_total (endD Q) (startD ["some", "found", "one"] ds) G := by
  rintro ds G Q E' ⟨x, xs, L, C, rfl, hx, hL, hs, hb, q⟩
  unfold t_total
  refine dSeq_mk ?_
  walk_at "dl"
  refine dSeq_mk ?_
  have key : ∀ x, forL (gN 2) (dAsg 1 (dCall sp_plus X0 (aCons (dVar 1) (aCons (dVar 2) aNil)))) Sure (xs.map fr) { nx := dRet (dVar 1) (endD Q), rt := Rt Q } [some x, some (.tup [.int 0, .int 1]), none] G := by
    intro x
    refine forL_src fr (fun ys δ G' => G' = G ∧ ∃ (y : Rat) (B : Nat) (s2 : Option D), Sz L B y ∧ B + ys.length * C ≤ xs.length * C ∧ Szs L C ys ∧ y + ys.sum = xs.sum ∧ δ = [some x, some (fr y), s2]) (fun _ _ _ _ => trivial) ?_ ?_ xs _ rfl _ _ ⟨rfl, 0, 0, _, Sz.one (i := 0) (by decide), by omega, hs, by rw [Rat.zero_add], rfl⟩
    · rintro z ys δ G' N ⟨rfl, y, B, s2, hy, hB, hys, he, rfl⟩ kN
      have hz := hys z List.mem_cons_self
      rw [List.length_cons, Nat.add_mul, Nat.one_mul] at hB
      have hlt : ∀ K, K ≤ xs.length * C + C → ∀ w, Sz L K w → Sm w := fun K hK w hw => (hw.mono (Nat.dvd_refl _) (Nat.le_succ K)).sm hL (by omega) (Nat.lt_of_le_of_lt (Nat.mul_le_mul_right _ (by omega)) hb)
      walk_at "dl"
      refine ⟨_, _, rfl, hlt B (by omega) _ hy, hlt C (by omega) _ hz, ?_⟩
      refine kN _ _ ⟨rfl, _, B + C, _, Sz.add hL hy hz, by omega, fun w hw => hys w (List.mem_cons_of_mem _ hw), ?_, rfl⟩
      rw [Rat.add_assoc, ← rsum_cons]
      exact he
    · rintro δ G' ⟨rfl, y, B, s2, hy, hB, hys, he, rfl⟩
      walk_at "dl"
      have : ([] : List Rat).sum = 0 := rfl
      rw [this, Rat.add_zero] at he
      subst he
      exact Rt.same q
  rcases hx with rfl | rfl
  · walk_at "dl"
    exact key _
  · walk_at "dl"
    exact key _
/-- a fraction in lowest terms -/
def isFr : D → Bool
  | .tup [.int a, .int b] => decide (1 ≤ b) && decide (Int.gcd a b = 1)
  | _ => false
def toR : D → Rat
  | .tup [.int a, .int b] => mkRat a b.toNat
  | _ => 0
theorem isFr_no {x : D} (h : isP x = false) : isFr x = false := by
  unfold isFr
  split
  · cases h
  · rfl
theorem isFr_noI {a b : D} (h : isI a = false ∨ isI b = false) : isFr (.tup [a, b]) = false := by
  unfold isFr
  split
  · rename_i e
    cases e
    rcases h with h | h <;> cases h
  · rfl
theorem isFr_fr {x : D} (h : isFr x = true) : x = fr (toR x) := by
  unfold isFr at h
  split at h
  · rename_i a b
    rw [Bool.and_eq_true, decide_eq_true_iff, decide_eq_true_iff] at h
    show _ = fr (mkRat a b.toNat)
    rw [low_fr (by omega), h.2]
    simp
  · cases h
theorem fr_isFr (x : Rat) : isFr (fr x) = true := by
  show (decide ((1 : Int) ≤ (x.den : Nat)) && decide (Int.gcd x.num (x.den : Nat) = 1)) = true
  have h1 := x.den_pos
  have h2 := x.reduced
  rw [decide_eq_true (by omega), decide_eq_true (show Int.gcd x.num (x.den : Nat) = 1 from h2)]
  rfl
theorem toR_fr (x : Rat) : toR (fr x) = x := by
  show mkRat x.num ((x.den : Nat) : Int).toNat = x
  rw [Int.toNat_natCast, Rat.mkRat_self]
abbrev sp_is_fraction : DSp := fun ds G Q _ => ∃ x, ds = [x] ∧ pd x = true ∧ Q (.bl (isFr x)) G
def t_is_fraction : DS :=
  (dSeq (dIfS (dOr (dNot (dB (dCall sp_is_pair X0 (aCons (dVar 0) aNil)))) (dOr (dNot (dB (dCall sp_is_integer X0 (aCons (dOp dIx (dVar 0) (dC (.int 0))) aNil)))) (dOr (dNot (dB (dCall sp_is_integer X0 (aCons (dOp dIx (dVar 0) (dC (.int 1))) aNil)))) (dB (dOp dLt (dOp dIx (dVar 0) (dC (.int 1))) (dC (.int 1))))))) (dRet (dC (.bl false))) dNext)
  (dRet (dOp dEq (dCall sp_divisor X0 (aCons (dOp dIx (dVar 0) (dC (.int 0))) (aCons (dOp dIx (dVar 0) (dC (.int 1))) aNil))) (dC (.int 1)))))
theorem len_is_fraction : ∀ ds G Q E, sp_is_fraction ds G Q E → ds.length = ["thing"].length := by
  intro ds G Q E h
  first | (obtain ⟨rfl, _⟩ := h; rfl) | (obtain ⟨_, rfl, _⟩ := h; rfl) | (obtain ⟨_, _, rfl, _⟩ := h; rfl) | (obtain ⟨_, _, _, rfl, _⟩ := h; rfl) | (obtain ⟨_, _, _, _, rfl, _⟩ := h; rfl) | (obtain ⟨_, _, _, _, _, rfl, _⟩ := h; rfl) | (obtain ⟨_, _, _, _, _, _, rfl, _⟩ := h; rfl) | (obtain ⟨_, _, _, _, _, _, _, rfl, _⟩ := h; rfl) | (obtain ⟨_, _, _, _, _, _, _, _, rfl, _⟩ := h; rfl) | (obtain ⟨_, _, _, _, _, _, _, _, _, rfl, _⟩ := h; rfl) | (obtain ⟨_, _, _, _, _, _, _, _, _, _, rfl, _⟩ := h; rfl) | (obtain ⟨_, _, _, _, _, _, _, _, _, _, _, rfl, _⟩ := h; rfl) | (obtain ⟨_, _, _, _, _, _, _, _, _, _, _, _, rfl, _⟩ := h; rfl) | (obtain ⟨_, _, _, _, _, _, _, _, _, _, _, _, _, rfl, _⟩ := h; rfl) | (obtain ⟨_, _, _, _, _, _, _, _, _, _, _, _, _, _, rfl, _⟩ := h; rfl) | (obtain ⟨_, _, _, _, _, _, _, _, _, _, _, _, _, _, _, rfl, _⟩ := h; rfl)
theorem rd_is_fraction : ∀ ds G Q E', sp_is_fraction ds G Q E' → t_is_fraction (endD Q) (startD ["thing"] ds) G := by
  rintro ds G Q E' ⟨x, rfl, hp, q⟩
  unfold t_is_fraction
  refine dSeq_mk ?_
  walk_at "dl"
  refine ⟨_, rfl, hp, ?_⟩
  cases hx : isP x with
  | false =>
    rw [isFr_no hx] at q
    walk_at "dl"
    exact Rt.same q
  | true =>
    obtain ⟨a, b, rfl⟩ := isP_iff.mp hx
    obtain ⟨ha, hb⟩ := pd_tup2.mp hp
    walk_at "dl"
    refine ⟨_, rfl, ha, ?_⟩
    cases hia : isI a with
    | false =>
      rw [isFr_noI (.inl hia)] at q
      walk_at "dl"
      exact Rt.same q
    | true =>
      walk_at "dl"
      refine ⟨_, rfl, hb, ?_⟩
      cases hib : isI b with
      | false =>
        rw [isFr_noI (.inr hib)] at q
        walk_at "dl"
        exact Rt.same q
      | true =>
        obtain ⟨i, rfl⟩ := isI_iff.mp hia
        obtain ⟨j, rfl⟩ := isI_iff.mp hib
        have q : Rt Q (.bl (decide (1 ≤ j) && decide (Int.gcd i j = 1))) G := Rt.same q
        walk_at "dl"
        cases hj : decide (j < 1) with
        | true =>
          have := of_decide_eq_true hj
          rw [decide_eq_false (by omega)] at q
          walk_at "dl"
          exact q
        | false =>
          have := of_decide_eq_false hj
          rw [decide_eq_true (by omega), Bool.true_and] at q
          walk_at "dl"
          refine ⟨_, _, rfl, by omega, ?_⟩
          walk_at "dl"
          rw [show decide (((Int.gcd i j : Nat) : Int) = 1) = decide (Int.gcd i j = 1) by rw [decide_eq_decide]; omega]
          exact q
def isDb (n : Int) : D → Bool
  | .tup xs => decide ((xs.length : Int) = n) && xs.all isFr && decide ((xs.map toR).sum = 0)
  | _ => false
theorem all_frs {xs : List D} (h : xs.all isFr = true) : xs = (xs.map toR).map fr := by
  rw [List.map_map]
  apply List.ext_getElem
  · simp
  · intro i h1 h2
    rw [List.getElem_map]
    exact isFr_fr (List.all_eq_true.mp h _ (List.getElem_mem _))
theorem isDb_frts {n : Nat} {xs : List Rat} (hl : xs.length = n) (hs : xs.sum = 0) : isDb (n : Int) (frts xs) = true := by
  show (decide (((xs.map fr).length : Int) = n) && (xs.map fr).all isFr && decide (((xs.map fr).map toR).sum = 0)) = true
  rw [List.length_map, decide_eq_true (by omega), List.map_map, show toR ∘ fr = id from funext toR_fr, List.map_id, decide_eq_true hs, List.all_map]
  simp only [Bool.true_and, Bool.and_true, List.all_eq_true]
  exact fun x _ => fr_isFr x
abbrev sp_are_debts : DSp := fun ds G Q _ => ∃ (n : Int) (x : D), ds = [.int n, x] ∧ pd x = true ∧ n ≤ 12 ∧ (∀ xs, x = .tup xs → (xs.length : Int) = n → xs.all isFr = true → ∃ L C, L ≠ 0 ∧ Szs L C (xs.map toR) ∧ (xs.length * C + C + 1) * L < 2 ^ 3000) ∧ Q (.bl (isDb n x)) G
def t_are_debts : DS :=
  (dSeq (dIfS (dOr (dNot (dB (dCB dIsi (aCons (dVar 1) (aCons (dC (.ty "tuple")) aNil))))) (dOr (dB (dOp dNe (dCB dLen (aCons (dVar 1) aNil)) (dVar 0))) (dNot (dB (dCB dAll (aCons (dLc false (dSeqI (dVar 1)) (gN 2) dYes (dCall sp_is_fraction X0 (aCons (dVar 2) aNil)) [2]) aNil)))))) (dRet (dC (.bl false))) dNext)
  (dRet (dOp dEq (dCall sp_total X0 (aCons (dVar 1) aNil)) (dC (.tup [(.int 0), (.int 1)])))))
theorem len_are_debts : ∀ ds G Q E, sp_are_debts ds G Q E → ds.length = ["n", "thing"].length := by
  intro ds G Q E h
  first | (obtain ⟨rfl, _⟩ := h; rfl) | (obtain ⟨_, rfl, _⟩ := h; rfl) | (obtain ⟨_, _, rfl, _⟩ := h; rfl) | (obtain ⟨_, _, _, rfl, _⟩ := h; rfl) | (obtain ⟨_, _, _, _, rfl, _⟩ := h; rfl) | (obtain ⟨_, _, _, _, _, rfl, _⟩ := h; rfl) | (obtain ⟨_, _, _, _, _, _, rfl, _⟩ := h; rfl) | (obtain ⟨_, _, _, _, _, _, _, rfl, _⟩ := h; rfl) | (obtain ⟨_, _, _, _, _, _, _, _, rfl, _⟩ := h; rfl) | (obtain ⟨_, _, _, _, _, _, _, _, _, rfl, _⟩ := h; rfl) | (obtain ⟨_, _, _, _, _, _, _, _, _, _, rfl, _⟩ := h; rfl) | (obtain ⟨_, _, _, _, _, _, _, _, _, _, _, rfl, _⟩ := h; rfl) | (obtain ⟨_, _, _, _, _, _, _, _, _, _, _, _, rfl, _⟩ := h; rfl) | (obtain ⟨_, _, _, _, _, _, _, _, _, _, _, _, _, rfl, _⟩ := h; rfl) | (obtain ⟨_, _, _, _, _, _, _, _, _, _, _, _, _, _, rfl, _⟩ := h; rfl) | (obtain ⟨_, _, _, _, _, _, _, _, _, _, _, _, _, _, _, rfl, _⟩ := h; rfl)
theorem rd_are_debts : ∀ ds G Q E', sp_are_debts ds G Q E' → t_are_debts (endD Q) (startD ["n", "thing", "one"] ds) G := by
  rintro ds G Q E' ⟨n, x, rfl, hp, hn, hs, q⟩
  unfold t_are_debts
  refine dSeq_mk ?_
  walk_at "dl"
  rw [isi_tuple hp]
  cases hx : isT x with
  | false =>
    have e : isDb n x = false := by
      cases x with
      | tup xs => cases hx
      | _ => rfl
    rw [e] at q
    walk_at "dl"
    exact Rt.same q
  | true =>
    obtain ⟨xs, rfl⟩ := isT_iff.mp hx
    have hpx := pd_tup.mp hp
    have q2 : Rt Q (.bl (decide ((xs.length : Int) = n) && xs.all isFr && decide ((xs.map toR).sum = 0))) G := Rt.same q
    walk_at "dl"
    cases hl : decide ((xs.length : Int) = n) with
    | false =>
      rw [hl] at q2
      walk_at "dl"
      exact q2
    | true =>
      have hl' := of_decide_eq_true hl
      rw [hl, Bool.true_and] at q2
      walk_at "dl"
      refine lc_src xs id (fun y => .bl (isFr y)) (List.map_id _).symm (len12 hl' (by omega)) (fun _ _ _ => trivial) (fun y hy p ys Q' hp k => ?_) ?_
      · walk_at "dl"
        exact ⟨_, rfl, hpx y hy, k⟩
      · walk_at "dl"
        cases ha : xs.all isFr with
        | false =>
          rw [ha] at q2
          walk_at "dl"
          exact q2
        | true =>
          rw [ha, Bool.true_and] at q2
          walk_at "dl"
          obtain ⟨L, C, h0, h1, h2⟩ := hs xs rfl hl' ha
          have e := all_frs ha
          generalize hr : xs.map toR = rs at e q2 h1
          have hl2 : xs.length = rs.length := by rw [← hr, List.length_map]
          subst e
          refine ⟨_, rs, L, C, rfl, .inl rfl, h0, h1, by rw [← hl2]; exact h2, ?_⟩
          show dEq (fr rs.sum) (fr 0) G (Rt Q)
          rw [w_eq_fr]
          exact q2
abbrev sp_check_parts : DSp := fun ds G Q _ => ∃ n B b : Nat, ds = [.int (n : Nat), .int (B : Nat), .int (b : Nat)] ∧ (1 ≤ n ∧ n ≤ 4) ∧ (1 ≤ B ∧ B ≤ 12) ∧ b ≤ 6 ∧ Q .non G
def t_check_parts : DS :=
  (dSeq (dIfS (dNot (dB (dCall sp_is_within X0 (aCons (dVar 0) (aCons (dC (.int 1)) (aCons (dC (.int 4)) aNil)))))) dNever dNext)
  (dSeq (dIfS (dNot (dB (dCall sp_is_within X0 (aCons (dVar 1) (aCons (dC (.int 1)) (aCons (dC (.int 12)) aNil)))))) dNever dNext)
  (dIfS (dNot (dB (dCall sp_is_within X0 (aCons (dVar 2) (aCons (dC (.int 0)) (aCons (dC (.int 6)) aNil)))))) dNever dNext)))
theorem len_check_parts : ∀ ds G Q E, sp_check_parts ds G Q E → ds.length = ["n", "bottom", "beats"].length := by
  intro ds G Q E h
  first | (obtain ⟨rfl, _⟩ := h; rfl) | (obtain ⟨_, rfl, _⟩ := h; rfl) | (obtain ⟨_, _, rfl, _⟩ := h; rfl) | (obtain ⟨_, _, _, rfl, _⟩ := h; rfl) | (obtain ⟨_, _, _, _, rfl, _⟩ := h; rfl) | (obtain ⟨_, _, _, _, _, rfl, _⟩ := h; rfl) | (obtain ⟨_, _, _, _, _, _, rfl, _⟩ := h; rfl) | (obtain ⟨_, _, _, _, _, _, _, rfl, _⟩ := h; rfl) | (obtain ⟨_, _, _, _, _, _, _, _, rfl, _⟩ := h; rfl) | (obtain ⟨_, _, _, _, _, _, _, _, _, rfl, _⟩ := h; rfl) | (obtain ⟨_, _, _, _, _, _, _, _, _, _, rfl, _⟩ := h; rfl) | (obtain ⟨_, _, _, _, _, _, _, _, _, _, _, rfl, _⟩ := h; rfl) | (obtain ⟨_, _, _, _, _, _, _, _, _, _, _, _, rfl, _⟩ := h; rfl) | (obtain ⟨_, _, _, _, _, _, _, _, _, _, _, _, _, rfl, _⟩ := h; rfl) | (obtain ⟨_, _, _, _, _, _, _, _, _, _, _, _, _, _, rfl, _⟩ := h; rfl) | (obtain ⟨_, _, _, _, _, _, _, _, _, _, _, _, _, _, _, rfl, _⟩ := h; rfl)
theorem rd_check_parts : ∀ ds G Q E', sp_check_parts ds G Q E' → t_check_parts (endD Q) (startD ["n", "bottom", "beats"] ds) G := by
  rintro ds G Q E' ⟨n, B, b, rfl, hn, hB, hb, q⟩
  unfold t_check_parts
  refine dSeq_mk ?_
  walk_at "dl"
  refine ⟨_, _, _, rfl, pd_int, ?_⟩
  rw [isW_int, decide_eq_true (by omega), decide_eq_true (by omega)]
  walk_at "dl"
  refine dSeq_mk ?_
  walk_at "dl"
  refine ⟨_, _, _, rfl, pd_int, ?_⟩
  rw [isW_int, decide_eq_true (by omega), decide_eq_true (by omega)]
  walk_at "dl"
  refine ⟨_, _, _, rfl, pd_int, ?_⟩
  rw [isW_int, decide_eq_true (by omega), decide_eq_true (by omega)]
  walk_at "dl"
  exact Rt.same q
abbrev sp_check_game : DSp := fun ds G Q _ => ∃ (n B b C : Nat) (xs : List Rat), ds = [.int (n : Nat), .int (B : Nat), .int (b : Nat), frts xs] ∧ (1 ≤ n ∧ n ≤ 4) ∧ (1 ≤ B ∧ B ≤ 12) ∧ b ≤ 6 ∧ GmD n C xs ∧ C ≤ 300 ∧ xs.sum = 0 ∧ Q .non G
def t_check_game : DS :=
  (dSeq (dDrop (dCall sp_check_parts X0 (aCons (dVar 0) (aCons (dVar 1) (aCons (dVar 2) aNil)))))
  (dIfS (dNot (dB (dCall sp_are_debts X0 (aCons (dVar 0) (aCons (dVar 3) aNil))))) dNever dNext))
theorem len_check_game : ∀ ds G Q E, sp_check_game ds G Q E → ds.length = ["n", "bottom", "beats", "debts"].length := by
  intro ds G Q E h
  first | (obtain ⟨rfl, _⟩ := h; rfl) | (obtain ⟨_, rfl, _⟩ := h; rfl) | (obtain ⟨_, _, rfl, _⟩ := h; rfl) | (obtain ⟨_, _, _, rfl, _⟩ := h; rfl) | (obtain ⟨_, _, _, _, rfl, _⟩ := h; rfl) | (obtain ⟨_, _, _, _, _, rfl, _⟩ := h; rfl) | (obtain ⟨_, _, _, _, _, _, rfl, _⟩ := h; rfl) | (obtain ⟨_, _, _, _, _, _, _, rfl, _⟩ := h; rfl) | (obtain ⟨_, _, _, _, _, _, _, _, rfl, _⟩ := h; rfl) | (obtain ⟨_, _, _, _, _, _, _, _, _, rfl, _⟩ := h; rfl) | (obtain ⟨_, _, _, _, _, _, _, _, _, _, rfl, _⟩ := h; rfl) | (obtain ⟨_, _, _, _, _, _, _, _, _, _, _, rfl, _⟩ := h; rfl) | (obtain ⟨_, _, _, _, _, _, _, _, _, _, _, _, rfl, _⟩ := h; rfl) | (obtain ⟨_, _, _, _, _, _, _, _, _, _, _, _, _, rfl, _⟩ := h; rfl) | (obtain ⟨_, _, _, _, _, _, _, _, _, _, _, _, _, _, rfl, _⟩ := h; rfl) | (obtain ⟨_, _, _, _, _, _, _, _, _, _, _, _, _, _, _, rfl, _⟩ := h; rfl)
theorem rd_check_game : ∀ ds G Q E', sp_check_game ds G Q E' → t_check_game (endD Q) (startD ["n", "bottom", "beats", "debts"] ds) G := by
  rintro ds G Q E' ⟨n, B, b, C, xs, rfl, hn, hB, hb, hd, hC, hs, q⟩
  unfold t_check_game
  refine dSeq_mk ?_
  walk_at "dl"
  refine ⟨n, B, b, rfl, hn, hB, hb, ?_⟩
  walk_at "dl"
  refine ⟨(n : Int), frts xs, rfl, pd_tup.mpr fun x hx => ?_, by omega, fun zs e _ _ => ?_, ?_⟩
  · obtain ⟨y, _, rfl⟩ := List.mem_map.mp hx
    exact pd_tup2.mpr ⟨pd_int, pd_int⟩
  · cases e
    refine ⟨LL, C, LL_ne, ?_, ?_⟩
    · rw [List.map_map, show toR ∘ fr = id from funext toR_fr, List.map_id]
      exact hd.sz
    · rw [List.length_map, hd.ln]
      refine Nat.lt_of_le_of_lt (Nat.mul_le_mul_right LL ?_) (LL_bd (C := 1500) (by decide)).2
      have : n * C ≤ 4 * 300 := Nat.mul_le_mul hn.2 hC
      omega
  rw [isDb_frts hd.ln hs]
  walk_at "dl"
  exact Rt.same q
abbrev sp_worth : DSp := fun ds G Q _ => ∃ (n B b C : Nat) (xs : List Rat), ds = [.int (n : Nat), .int (B : Nat), .int (b : Nat), frts xs] ∧ (1 ≤ n ∧ n ≤ 4) ∧ (1 ≤ B ∧ B ≤ 12) ∧ b ≤ 6 ∧ (tpsF n B).length ^ b ≤ 20000 ∧ GmD n C xs ∧ C ≤ 300 ∧ xs.sum = 0 ∧ Q (fr (Wd (rowsF n B) b xs)) G
def t_worth : DS :=
  (dSeq (dDrop (dCall sp_check_game X0 (aCons (dVar 0) (aCons (dVar 1) (aCons (dVar 2) (aCons (dVar 3) aNil))))))
  (dSeq (dDrop (dCall sp_check_few X0 (aCons (dVar 0) (aCons (dVar 1) (aCons (dVar 2) aNil)))))
  (dRet (dMeth "Game" "worth" (sp_Game_worth 7) X0 (dMake "Game" sp_Game___init__ X0 (aCons (dVar 0) (aCons (dVar 1) aNil))) (aCons (dVar 2) (aCons (dVar 3) aNil))))))
theorem len_worth : ∀ ds G Q E, sp_worth ds G Q E → ds.length = ["n", "bottom", "beats", "debts"].length := by
  intro ds G Q E h
  first | (obtain ⟨rfl, _⟩ := h; rfl) | (obtain ⟨_, rfl, _⟩ := h; rfl) | (obtain ⟨_, _, rfl, _⟩ := h; rfl) | (obtain ⟨_, _, _, rfl, _⟩ := h; rfl) | (obtain ⟨_, _, _, _, rfl, _⟩ := h; rfl) | (obtain ⟨_, _, _, _, _, rfl, _⟩ := h; rfl) | (obtain ⟨_, _, _, _, _, _, rfl, _⟩ := h; rfl) | (obtain ⟨_, _, _, _, _, _, _, rfl, _⟩ := h; rfl) | (obtain ⟨_, _, _, _, _, _, _, _, rfl, _⟩ := h; rfl) | (obtain ⟨_, _, _, _, _, _, _, _, _, rfl, _⟩ := h; rfl) | (obtain ⟨_, _, _, _, _, _, _, _, _, _, rfl, _⟩ := h; rfl) | (obtain ⟨_, _, _, _, _, _, _, _, _, _, _, rfl, _⟩ := h; rfl) | (obtain ⟨_, _, _, _, _, _, _, _, _, _, _, _, rfl, _⟩ := h; rfl) | (obtain ⟨_, _, _, _, _, _, _, _, _, _, _, _, _, rfl, _⟩ := h; rfl) | (obtain ⟨_, _, _, _, _, _, _, _, _, _, _, _, _, _, rfl, _⟩ := h; rfl) | (obtain ⟨_, _, _, _, _, _, _, _, _, _, _, _, _, _, _, rfl, _⟩ := h; rfl)
theorem rd_worth : ∀ ds G Q E', sp_worth ds G Q E' → t_worth (endD Q) (startD ["n", "bottom", "beats", "debts"] ds) G := by
  rintro ds G Q E' ⟨n, B, b, C, xs, rfl, hn, hB, hb, hf, hd, hC, hs, q⟩
  unfold t_worth
  refine dSeq_mk ?_
  walk_at "dl"
  refine ⟨n, B, b, C, xs, rfl, hn, hB, hb, hd, hC, hs, ?_⟩
  refine dSeq_mk ?_
  walk_at "dl"
  refine ⟨n, B, b, rfl, hn, hB, hb, hf, ?_⟩
  walk_at "dl"
  intro p hp
  refine ⟨p, n, B, rfl, gu_same, hn, hB, fun k G' hk h1 ⟨o, h2⟩ h3 => ?_⟩
  have pk : p ≠ k := fun z => by rw [← z, gu_same] at hk; cases hk
  have k0 : G k = none := by rw [gu_ne (Ne.symm pk)] at hk; exact hk
  have gm : isGm G G' p k (rowsF n B) [] := ⟨h1, ⟨o, h2⟩, fun a ob e => by
    have a1 : a ≠ p := fun z => by rw [z, hp] at e; cases e
    have a2 : a ≠ k := fun z => by rw [z, k0] at e; cases e
    rw [h3 a a1 a2, gu_ne a1]
    exact e, hp, k0, pk, fun b d v e => (nomatch e)⟩
  have hcost := cost_ok hn hB hb hf
  walk_at "dl"
  refine ⟨⟨_, ins_at gm.ins, rfl⟩, G, p, k, n, B, b, C, xs, [], rfl, hn, hB, gm, by omega, hd, by omega, ?_, fun G2 t2 gm2 _ => Rt.less gm2.le q⟩
  rw [List.length_nil, Nat.zero_add]
  exact Nat.le_trans hcost (by decide)
abbrev sp_L_less : DSp := fun ds G Q _ => ∃ x y : Rat, ds = [fr x, fr y] ∧ Sm x ∧ Sm y ∧ Q (.bl (decide (x < y))) G
def t_L_less : DS :=
  (dRet (dOp dLt (dOp (dMul false) (dOp dIx (dVar 0) (dC (.int 0))) (dOp dIx (dVar 1) (dC (.int 1)))) (dOp (dMul false) (dOp dIx (dVar 1) (dC (.int 0))) (dOp dIx (dVar 0) (dC (.int 1))))))
theorem len_L_less : ∀ ds G Q E, sp_L_less ds G Q E → ds.length = ["_law_one", "_law_other"].length := by
  intro ds G Q E h
  first | (obtain ⟨rfl, _⟩ := h; rfl) | (obtain ⟨_, rfl, _⟩ := h; rfl) | (obtain ⟨_, _, rfl, _⟩ := h; rfl) | (obtain ⟨_, _, _, rfl, _⟩ := h; rfl) | (obtain ⟨_, _, _, _, rfl, _⟩ := h; rfl) | (obtain ⟨_, _, _, _, _, rfl, _⟩ := h; rfl) | (obtain ⟨_, _, _, _, _, _, rfl, _⟩ := h; rfl) | (obtain ⟨_, _, _, _, _, _, _, rfl, _⟩ := h; rfl) | (obtain ⟨_, _, _, _, _, _, _, _, rfl, _⟩ := h; rfl) | (obtain ⟨_, _, _, _, _, _, _, _, _, rfl, _⟩ := h; rfl) | (obtain ⟨_, _, _, _, _, _, _, _, _, _, rfl, _⟩ := h; rfl) | (obtain ⟨_, _, _, _, _, _, _, _, _, _, _, rfl, _⟩ := h; rfl) | (obtain ⟨_, _, _, _, _, _, _, _, _, _, _, _, rfl, _⟩ := h; rfl) | (obtain ⟨_, _, _, _, _, _, _, _, _, _, _, _, _, rfl, _⟩ := h; rfl) | (obtain ⟨_, _, _, _, _, _, _, _, _, _, _, _, _, _, rfl, _⟩ := h; rfl) | (obtain ⟨_, _, _, _, _, _, _, _, _, _, _, _, _, _, _, rfl, _⟩ := h; rfl)
theorem rd_L_less : ∀ ds G Q E', sp_L_less ds G Q E' → t_L_less (endD Q) (startD ["_law_one", "_law_other"] ds) G := by
  rintro ds G Q E' ⟨x, y, rfl, hx, hy, q⟩
  unfold t_L_less fr
  walk_at "dl"
  refine ⟨hx.mul hy, hy.mul hx, ?_⟩
  rw [rat_less]
  exact Rt.same q
theorem not_lt_dec (x y : Rat) : (!decide (y < x)) = decide (x ≤ y) := by
  by_cases h : y < x
  · rw [decide_eq_true h, decide_eq_false (by grind)]; rfl
  · rw [decide_eq_false h, decide_eq_true (by grind)]; rfl
abbrev sp_L_at_most : DSp := fun ds G Q _ => ∃ x y : Rat, ds = [fr x, fr y] ∧ Sm x ∧ Sm y ∧ Q (.bl (decide (x ≤ y))) G
def t_L_at_most : DS :=
  (dRet (dNotV (dCall sp_L_less X0 (aCons (dVar 1) (aCons (dVar 0) aNil)))))
theorem len_L_at_most : ∀ ds G Q E, sp_L_at_most ds G Q E → ds.length = ["_law_one", "_law_other"].length := by
  intro ds G Q E h
  first | (obtain ⟨rfl, _⟩ := h; rfl) | (obtain ⟨_, rfl, _⟩ := h; rfl) | (obtain ⟨_, _, rfl, _⟩ := h; rfl) | (obtain ⟨_, _, _, rfl, _⟩ := h; rfl) | (obtain ⟨_, _, _, _, rfl, _⟩ := h; rfl) | (obtain ⟨_, _, _, _, _, rfl, _⟩ := h; rfl) | (obtain ⟨_, _, _, _, _, _, rfl, _⟩ := h; rfl) | (obtain ⟨_, _, _, _, _, _, _, rfl, _⟩ := h; rfl) | (obtain ⟨_, _, _, _, _, _, _, _, rfl, _⟩ := h; rfl) | (obtain ⟨_, _, _, _, _, _, _, _, _, rfl, _⟩ := h; rfl) | (obtain ⟨_, _, _, _, _, _, _, _, _, _, rfl, _⟩ := h; rfl) | (obtain ⟨_, _, _, _, _, _, _, _, _, _, _, rfl, _⟩ := h; rfl) | (obtain ⟨_, _, _, _, _, _, _, _, _, _, _, _, rfl, _⟩ := h; rfl) | (obtain ⟨_, _, _, _, _, _, _, _, _, _, _, _, _, rfl, _⟩ := h; rfl) | (obtain ⟨_, _, _, _, _, _, _, _, _, _, _, _, _, _, rfl, _⟩ := h; rfl) | (obtain ⟨_, _, _, _, _, _, _, _, _, _, _, _, _, _, _, rfl, _⟩ := h; rfl)
theorem rd_L_at_most : ∀ ds G Q E', sp_L_at_most ds G Q E' → t_L_at_most (endD Q) (startD ["_law_one", "_law_other"] ds) G := by
  rintro ds G Q E' ⟨x, y, rfl, hx, hy, q⟩
  unfold t_L_at_most
  walk_at "dl"
  refine ⟨y, x, rfl, hy, hx, ?_⟩
  walk_at "dl"
  rw [not_lt_dec]
  exact Rt.same q
theorem len_L_draw : ∀ ds G Q E, sp_L_draw_o ds G Q E → ds.length = ["_law_hand_here", "_law_many"].length := by
  intro ds G Q E h
  unfold sp_L_draw_o at h
  split at h
  · rfl
  · exact h.elim
theorem mod31 {a m : Int} (h : 0 < m) (h2 : m < 2 ^ 40) : -(2 ^ 64) < a % m ∧ a % m < 2 ^ 64 := by
  have := Int.emod_nonneg a (show m ≠ 0 by omega)
  have := Int.emod_lt_of_pos a h
  omega
def t_L_draw : DS :=
  (dSeq (dIfS (dAnd (dB (dOp dEq (dOp dIx (dVar 0) (dC (.int 2))) (dC (.int 0)))) (dB (dOp dLt (dOp dIx (dVar 0) (dC (.int 1))) (dCB dLen (aCons (dOp dIx (dVar 0) (dC (.int 0))) aNil))))) (dSeq (dAsg 2 (dOp dIx (dOp dIx (dVar 0) (dC (.int 0))) (dOp dIx (dVar 0) (dC (.int 1)))))
  (dSeq (dSetIx (dOp (dAdd false) (dOp dIx (dVar 0) (dC (.int 1))) (dC (.int 1))) (dVar 0) (dC (.int 1)))
  (dSeq (dSetIx (dOp dMod (dCB dInt (aCons (dOp (dAdd false) (dOp (dAdd false) (dOp (dMul false) (dOp dIx (dVar 0) (dC (.int 3))) (dC (.int 69621))) (dVar 2)) (dC (.int 11))) aNil)) (dC (.int 2147483629))) (dVar 0) (dC (.int 3)))
  (dIfS (dB (dOp dGe (dVar 2) (dOp dPow (dC (.int 10)) (dC (.int 18))))) (dSetIx (dVar 2) (dVar 0) (dC (.int 2))) dNext)))) dNext)
  (dSeq (dIfS (dB (dOp dGt (dOp dIx (dVar 0) (dC (.int 2))) (dC (.int 0)))) (dSeq (dAsg 3 (dOp dMod (dCB dInt (aCons (dOp dIx (dVar 0) (dC (.int 2))) aNil)) (dVar 1)))
  (dSeq (dSetIx (dOp dDiv (dOp dIx (dVar 0) (dC (.int 2))) (dVar 1)) (dVar 0) (dC (.int 2)))
  (dRet (dVar 3)))) dNext)
  (dSeq (dSetIx (dOp (dAdd false) (dOp dIx (dVar 0) (dC (.int 4))) (dC (.int 1))) (dVar 0) (dC (.int 4)))
  (dSeq (dAsg 4 (dOp dMod (dCB dInt (aCons (dOp (dMul false) (dCB dInt (aCons (dOp (dAdd false) (dOp dIx (dVar 0) (dC (.int 3))) (dOp (dMul false) (dC (.int 7919)) (dOp dIx (dVar 0) (dC (.int 4))))) aNil)) (dC (.int 48271))) aNil)) (dC (.int 2147483647))))
  (dSeq (dAsg 4 (dOp dMod (dCB dInt (aCons (dOp (dMul false) (dVar 4) (dOp (dAdd false) (dOp dDiv (dVar 4) (dC (.int 1009))) (dC (.int 69621)))) aNil)) (dC (.int 2147483647))))
  (dSeq (dAsg 4 (dOp dMod (dCB dInt (aCons (dOp (dMul false) (dVar 4) (dOp (dAdd false) (dOp dDiv (dVar 4) (dC (.int 2003))) (dC (.int 40692)))) aNil)) (dC (.int 2147483399))))
  (dRet (dOp dMod (dCB dInt (aCons (dOp dDiv (dVar 4) (dC (.int 16))) aNil)) (dVar 1)))))))))
theorem rd_L_draw : ∀ ds G Q E', sp_L_draw_o ds G Q E' → t_L_draw (endD Q) (startD ["_law_hand_here", "_law_many", "_law_cell", "_law_digit", "_law_number"] ds) G := by
  intro ds G Q E' h
  unfold sp_L_draw_o at h
  split at h
  · rename_i h m
    obtain ⟨xs, ⟨cs, p, c, r, t, rfl, hp⟩, hx, m0, m1, q⟩ := h
    obtain ⟨G0, rfl⟩ : ∃ G0, G = gu G0 h (.lst [.lst (cs.map D.int), .int p, .int c, .int r, .int t]) := ⟨G, (gu_self hx).symm⟩
    unfold t_L_draw
    refine ⟨fun δ G' => ∃ cell p c r t, 0 ≤ p ∧ δ = [some (.ref h), some (.int m), cell, none, none] ∧ G' = gu G0 h (.lst [.lst (cs.map D.int), .int p, .int c, .int r, .int t]), ?_, ?_⟩
    · walk_at "dl"
      have stay : ∃ cell p1 c1 r1 t1, 0 ≤ p1 ∧ [some (D.ref h), some (D.int m), none, none, none] = [some (.ref h), some (.int m), cell, none, none] ∧ gu G0 h (.lst [.lst (cs.map D.int), .int p, .int c, .int r, .int t]) = gu G0 h (.lst [.lst (cs.map D.int), .int p1, .int c1, .int r1, .int t1]) := ⟨_, _, _, _, _, hp, rfl, rfl⟩
      cases h1 : decide (c = 0) with
      | false =>
        walk_at "dl"
        exact ⟨_, _, _, _, _, hp, rfl, rfl⟩
      | true =>
        walk_at "dl"
        rw [List.length_map]
        cases h2 : decide (p < (cs.length : Int)) with
        | false =>
          walk_at "dl"
          exact ⟨_, _, _, _, _, hp, rfl, rfl⟩
        | true =>
          have hlt := of_decide_eq_true h2
          walk_at "dl"
          refine dSeq_mk ?_
          walk_at "dl"
          obtain ⟨y, hy, ey⟩ := at_mem (l := cs.map D.int) hp (by rw [List.length_map]; exact hlt)
          obtain ⟨k, _, rfl⟩ := List.mem_map.mp hy
          rw [got_eq ey]
          refine dSeq_mk ?_
          walk_at "dl"
          refine dSeq_mk ?_
          walk_at "dl"
          walk_at "sd"
          cases h3 : decide ((10 : Int) ^ (Int.toNat 18) ≤ k) with
          | false =>
            walk_at "dl"
            exact ⟨_, _, _, _, _, by omega, rfl, rfl⟩
          | true =>
            walk_at "dl"
            exact ⟨_, _, _, _, _, by omega, rfl, rfl⟩
    · clear hx
      rintro δ G' ⟨cell, p, c, r, t, hp, rfl, rfl⟩
      refine dSeq_mk ?_
      walk_at "dl"
      cases hc : decide ((0 : Int) < c) with
      | true =>
        walk_at "dl"
        refine dSeq_mk ?_
        walk_at "dl"
        refine ⟨m0, ?_⟩
        refine dSeq_mk ?_
        walk_at "dl"
        refine ⟨.lit m0 (by omega), ?_⟩
        have q' := q (c % m) _ ⟨cs, p, c / m, r, t, rfl, hp⟩ (Int.emod_nonneg _ (by omega)) (Int.emod_lt_of_pos _ m0)
        rw [gu_gu] at q'
        exact Rt.same q'
      | false =>
        walk_at "dl"
        refine dSeq_mk ?_
        walk_at "dl"
        refine dSeq_mk ?_
        walk_at "dl"
        walk_at "sd"
        refine dSeq_mk ?_
        walk_at "dl"
        refine ⟨.lit (by omega) (by omega), ?_⟩
        refine ⟨.l (mod31 (by omega) (by omega)).1 (mod31 (by omega) (by omega)).2, by omega, ?_⟩
        refine dSeq_mk ?_
        walk_at "dl"
        refine ⟨.lit (by omega) (by omega), ?_⟩
        refine ⟨.l (mod31 (by omega) (by omega)).1 (mod31 (by omega) (by omega)).2, by omega, ?_⟩
        refine ⟨.lit (by omega) (by omega), m0, ?_⟩
        have q' := fun d d0 d1 => q d [.lst (cs.map D.int), .int p, .int c, .int r, .int (t + 1)] ⟨cs, p, c, r, t + 1, rfl, hp⟩ d0 d1
        simp only [gu_gu] at q'
        exact Rt.same (q' _ (Int.emod_nonneg _ (by omega)) (Int.emod_lt_of_pos _ m0))
  · exact h.elim
abbrev sp_L_shuffled : DSp := fun ds G Q _ => ∃ (h : Addr) (xs : List D), ds = [.ref h, .lst xs] ∧ isHand G h ∧ xs.length ≤ 12 ∧ (∀ ys : List D, ys.Perm xs → Q (.lst ys) G)
def t_L_shuffled : DS :=
  (dSeq (dAsg 2 (dCB (dListOf true) (aCons (dVar 1) aNil)))
  (dSeq (dAsg 3 (dLst true aNil))
  (dSeq (dWhile (dB (dOp dGt (dCB dLen (aCons (dVar 2) aNil)) (dC (.int 0)))) (dDrop (dMeL dAppend (dVar 3) (aCons (dMeL dPopAt (dVar 2) (aCons (dCall sp_L_draw X0 (aCons (dVar 0) (aCons (dCB dLen (aCons (dVar 2) aNil)) aNil))) aNil)) aNil))))
  (dRet (dVar 3)))))
theorem len_L_shuffled : ∀ ds G Q E, sp_L_shuffled ds G Q E → ds.length = ["_law_hand_here", "_law_things"].length := by
  intro ds G Q E h
  first | (obtain ⟨rfl, _⟩ := h; rfl) | (obtain ⟨_, rfl, _⟩ := h; rfl) | (obtain ⟨_, _, rfl, _⟩ := h; rfl) | (obtain ⟨_, _, _, rfl, _⟩ := h; rfl) | (obtain ⟨_, _, _, _, rfl, _⟩ := h; rfl) | (obtain ⟨_, _, _, _, _, rfl, _⟩ := h; rfl) | (obtain ⟨_, _, _, _, _, _, rfl, _⟩ := h; rfl) | (obtain ⟨_, _, _, _, _, _, _, rfl, _⟩ := h; rfl) | (obtain ⟨_, _, _, _, _, _, _, _, rfl, _⟩ := h; rfl) | (obtain ⟨_, _, _, _, _, _, _, _, _, rfl, _⟩ := h; rfl) | (obtain ⟨_, _, _, _, _, _, _, _, _, _, rfl, _⟩ := h; rfl) | (obtain ⟨_, _, _, _, _, _, _, _, _, _, _, rfl, _⟩ := h; rfl) | (obtain ⟨_, _, _, _, _, _, _, _, _, _, _, _, rfl, _⟩ := h; rfl) | (obtain ⟨_, _, _, _, _, _, _, _, _, _, _, _, _, rfl, _⟩ := h; rfl) | (obtain ⟨_, _, _, _, _, _, _, _, _, _, _, _, _, _, rfl, _⟩ := h; rfl) | (obtain ⟨_, _, _, _, _, _, _, _, _, _, _, _, _, _, _, rfl, _⟩ := h; rfl)
theorem rd_L_shuffled : ∀ ds G Q E', sp_L_shuffled ds G Q E' → t_L_shuffled (endD Q) (startD ["_law_hand_here", "_law_things", "_law_pool", "_law_found"] ds) G := by
  rintro ds G Q E' ⟨h, xs, rfl, hh, hl, q⟩
  unfold t_L_shuffled
  refine dSeq_mk ?_
  walk_at "dl"
  intro a ha
  refine dSeq_mk ?_
  walk_at "dl"
  refine ⟨by decide, fun b hb => ?_⟩
  have hab : a ≠ b := fun z => by rw [← z, gu_same] at hb; cases hb
  have hb' : G b = none := by rw [gu_ne (Ne.symm hab)] at hb; exact hb
  have hah : a ≠ h := Ne.symm (ne_free hh ha)
  have hbh : b ≠ h := Ne.symm (ne_free hh hb')
  refine dSeq_mk ?_
  refine ⟨fun k δ G' => ∃ (left found : List D), k = left.length ∧ δ = [some (.ref h), some (.lst xs), some (.ref a), some (.ref b)] ∧ G' = gu (gu G a (.lst left)) b (.lst found) ∧ (found ++ left).Perm xs, ⟨_, xs, [], rfl, rfl, rfl, by rw [List.nil_append]⟩, ?_⟩
  rintro k δ G' ⟨left, found, rfl, rfl, rfl, hp⟩
  have ea : gu (gu G a (.lst left)) b (.lst found) a = some (.lst left) := by rw [gu_ne hab, gu_same]
  have hsum := hp.length_eq
  rw [List.length_append] at hsum
  walk_at "dl"
  rw [w_len_ref ea]
  walk_at "dl"
  cases hz : decide ((0 : Int) < (left.length : Nat)) with
  | true =>
    have hz := of_decide_eq_true hz
    walk_at "dl"
    rw [rl_ref ea]
    walk_at "dl"
    rw [w_len_ref ea]
    walk_at "dl"
    refine ⟨(hh.gu hah).gu hbh, by omega, by omega, fun d d0 d1 => ?_⟩
    rw [w_atL_ref ea]
    refine ⟨d0, by omega, ?_⟩
    have hlt : d.toNat < left.length := by omega
    rw [List.getElem?_eq_getElem hlt]
    walk_at "dl"
    have eb : gu (gu (gu G a (.lst left)) b (.lst found)) a (.lst (left.eraseIdx d.toNat)) b = some (.lst found) := by rw [gu_ne (Ne.symm hab), gu_same]
    show atL (.ref b) _ _
    rw [w_atL_ref eb]
    refine ⟨Nat.lt_of_lt_of_le (by omega : found.length < 1000) (by decide), left.length - 1, by omega, left.eraseIdx d.toNat, found ++ [left[d.toNat]], by rw [List.length_eraseIdx_of_lt hlt], ?_, ?_⟩
    · rw [gu_comm (Ne.symm hab), gu_gu, gu_gu]
    · refine List.Perm.trans ?_ hp
      rw [List.append_assoc]
      exact List.Perm.append_left _ (perm_erase hlt)
  | false =>
    have hz := of_decide_eq_false hz
    have e0 : left = [] := List.length_eq_zero_iff.mp (by omega)
    subst e0
    rw [List.append_nil] at hp
    walk_at "dl"
    refine Rt.frz (G' := G) gu_same (fun c o e => ?_) (q found hp)
    have z : c ≠ b := fun z => by rw [z, hb'] at e; cases e
    have z2 : c ≠ a := fun z => by rw [z, ha] at e; cases e
    exact ⟨z, by rw [gu_ne z, gu_ne z2]; exact e⟩
theorem gcd_stepA (a b : Int) : Int.gcd b (a % b) = Int.gcd a b := by
  rw [Int.gcd_comm a b, Int.emod_def]
  simp
abbrev sp_L_divisor : DSp := fun ds G Q _ => ∃ a b : Int, ds = [.int a, .int b] ∧ 0 ≤ b ∧ Q (.int (Int.gcd a b : Nat)) G
abbrev sp_L_low : DSp := fun ds G Q _ => ∃ a b : Int, ds = [.int a, .int b] ∧ (0 < b ∧ b.natAbs < 2 ^ 8000) ∧ Q (fr (mkRat a b.toNat)) G
def t_L_low : DS :=
  (dSeq (dPar 2 3 (aCons (dCB dAbs (aCons (dVar 0) aNil)) (aCons (dVar 1) aNil)))
  (dSeq (dWhile (dB (dOp dGt (dVar 3) (dC (.int 0)))) (dPar 2 3 (aCons (dVar 3) (aCons (dOp dMod (dCB dInt (aCons (dVar 2) aNil)) (dVar 3)) aNil))))
  (dRet (dTup (aCons (dOp dDiv (dVar 0) (dVar 2)) (aCons (dOp dDiv (dVar 1) (dVar 2)) aNil))))))
theorem len_L_low : ∀ ds G Q E, sp_L_low ds G Q E → ds.length = ["_law_top", "_law_bottom"].length := by
  intro ds G Q E h
  first | (obtain ⟨rfl, _⟩ := h; rfl) | (obtain ⟨_, rfl, _⟩ := h; rfl) | (obtain ⟨_, _, rfl, _⟩ := h; rfl) | (obtain ⟨_, _, _, rfl, _⟩ := h; rfl) | (obtain ⟨_, _, _, _, rfl, _⟩ := h; rfl) | (obtain ⟨_, _, _, _, _, rfl, _⟩ := h; rfl) | (obtain ⟨_, _, _, _, _, _, rfl, _⟩ := h; rfl) | (obtain ⟨_, _, _, _, _, _, _, rfl, _⟩ := h; rfl) | (obtain ⟨_, _, _, _, _, _, _, _, rfl, _⟩ := h; rfl) | (obtain ⟨_, _, _, _, _, _, _, _, _, rfl, _⟩ := h; rfl) | (obtain ⟨_, _, _, _, _, _, _, _, _, _, rfl, _⟩ := h; rfl) | (obtain ⟨_, _, _, _, _, _, _, _, _, _, _, rfl, _⟩ := h; rfl) | (obtain ⟨_, _, _, _, _, _, _, _, _, _, _, _, rfl, _⟩ := h; rfl) | (obtain ⟨_, _, _, _, _, _, _, _, _, _, _, _, _, rfl, _⟩ := h; rfl) | (obtain ⟨_, _, _, _, _, _, _, _, _, _, _, _, _, _, rfl, _⟩ := h; rfl) | (obtain ⟨_, _, _, _, _, _, _, _, _, _, _, _, _, _, _, rfl, _⟩ := h; rfl)
theorem rd_L_low : ∀ ds G Q E', sp_L_low ds G Q E' → t_L_low (endD Q) (startD ["_law_top", "_law_bottom", "_law_one", "_law_other"] ds) G := by
  rintro ds G Q E' ⟨a, b, rfl, ⟨hb, hb2⟩, q⟩
  unfold t_L_low
  refine dSeq_mk ?_
  walk_at "dl"
  have ea : (if a < 0 then -a else a) = ((a.natAbs : Nat) : Int) := by split <;> omega
  rw [ea]
  have g0 : 0 < Int.gcd a b := Int.gcd_pos_of_ne_zero_right _ (by omega)
  have g1 : ((Int.gcd a b : Nat) : Int) ≤ b := Int.le_of_dvd hb (Int.gcd_dvd_right _ _)
  have dv : ∀ i : Int, DivOk i ((Int.gcd a b : Nat) : Int) := fun i => div_8000 (by omega) (by omega)
  refine dSeq_mk ?_
  refine ⟨fun k δ G' => ∃ x y : Int, δ = [some (.int a), some (.int b), some (.int x), some (.int y)] ∧ G' = G ∧ 0 ≤ x ∧ 0 ≤ y ∧ y.toNat = k ∧ Int.gcd x y = Int.gcd a b, ⟨_, _, _, rfl, rfl, by omega, by omega, rfl, by show Nat.gcd (Int.natAbs (a.natAbs : Nat)) b.natAbs = Nat.gcd a.natAbs b.natAbs; rw [Int.natAbs_natCast]⟩, ?_⟩
  rintro k δ G' ⟨x, y, rfl, rfl, hx, hy, hk, hg⟩
  walk_at "dl"
  cases h : decide (0 < y) with
  | false =>
    have h := of_decide_eq_false h
    have : y = 0 := by omega
    subst this
    rw [Int.gcd_zero_right] at hg
    walk_at "dl"
    have e : x = ((Int.gcd a b : Nat) : Int) := by omega
    rw [e]
    refine ⟨dv _, dv _, by decide, ?_⟩
    rw [low_fr hb] at q
    exact Rt.same q
  | true =>
    have h := of_decide_eq_true h
    walk_at "dl"
    refine ⟨h, ?_⟩
    have m0 := Int.emod_nonneg x (by omega : y ≠ 0)
    have m1 := Int.emod_lt_of_pos x h
    exact ⟨(x % y).toNat, by omega, _, _, rfl, hy, m0, rfl, (gcd_stepA x y).trans hg⟩
abbrev sp_L_some : DSp := fun ds G Q _ => ∃ h x xs, ds = [.ref h, x] ∧ isHand G h ∧ seqOf x G = some xs ∧ (0 < xs.length ∧ xs.length < 2 ^ 60) ∧ (∀ y ∈ xs, Q y G)
def t_L_some : DS :=
  (dRet (dOp dIx (dVar 1) (dCall sp_L_draw X0 (aCons (dVar 0) (aCons (dCB dLen (aCons (dVar 1) aNil)) aNil)))))
theorem len_L_some : ∀ ds G Q E, sp_L_some ds G Q E → ds.length = ["_law_hand_here", "_law_things"].length := by
  intro ds G Q E h
  first | (obtain ⟨rfl, _⟩ := h; rfl) | (obtain ⟨_, rfl, _⟩ := h; rfl) | (obtain ⟨_, _, rfl, _⟩ := h; rfl) | (obtain ⟨_, _, _, rfl, _⟩ := h; rfl) | (obtain ⟨_, _, _, _, rfl, _⟩ := h; rfl) | (obtain ⟨_, _, _, _, _, rfl, _⟩ := h; rfl) | (obtain ⟨_, _, _, _, _, _, rfl, _⟩ := h; rfl) | (obtain ⟨_, _, _, _, _, _, _, rfl, _⟩ := h; rfl) | (obtain ⟨_, _, _, _, _, _, _, _, rfl, _⟩ := h; rfl) | (obtain ⟨_, _, _, _, _, _, _, _, _, rfl, _⟩ := h; rfl) | (obtain ⟨_, _, _, _, _, _, _, _, _, _, rfl, _⟩ := h; rfl) | (obtain ⟨_, _, _, _, _, _, _, _, _, _, _, rfl, _⟩ := h; rfl) | (obtain ⟨_, _, _, _, _, _, _, _, _, _, _, _, rfl, _⟩ := h; rfl) | (obtain ⟨_, _, _, _, _, _, _, _, _, _, _, _, _, rfl, _⟩ := h; rfl) | (obtain ⟨_, _, _, _, _, _, _, _, _, _, _, _, _, _, rfl, _⟩ := h; rfl) | (obtain ⟨_, _, _, _, _, _, _, _, _, _, _, _, _, _, _, rfl, _⟩ := h; rfl)
theorem rd_L_some : ∀ ds G Q E', sp_L_some ds G Q E' → t_L_some (endD Q) (startD ["_law_hand_here", "_law_things"] ds) G := by
  rintro ds G Q E' ⟨h, x, xs, rfl, hh, hx, ⟨h0, h1⟩, q⟩
  unfold t_L_some
  walk_at "dl"
  rw [len_seq hx]
  walk_at "dl"
  refine ⟨hh, by omega, by omega, fun d d0 d1 => ?_⟩
  rw [ix_seqD hx]
  exact got_in d0 d1 fun y hy => Rt.same (q y hy)
theorem in_natD {g : List Nat} {i : Nat} : DL.inD (.int (i : Nat)) (natD g) = decide (i ∈ g) := by
  unfold DL.inD natD inV
  rw [List.map_map, List.any_map, Bool.eq_iff_iff, List.any_eq_true, decide_eq_true_iff]
  constructor
  · rintro ⟨j, hj, e⟩
    have e : (((j : Nat) : Int) == ((i : Nat) : Int)) = true := by simpa [toV, eqV] using e
    have e := beq_iff_eq.mp e
    rw [show i = j by omega]
    exact hj
  · intro h
    exact ⟨i, h, by simp [toV, eqV]⟩
theorem w_in_natD {y : D} {g : List Nat} {i : Nat} {neg : Bool} {G : Gp} {Q : DK} (h : seqOf y G = some (natD g)) : dIn neg (.int (i : Nat)) y G Q = Q (.bl (if neg then !decide (i ∈ g) else decide (i ∈ g))) G := by
  show (match seqOf y G with | some xs => flatD (.int (i : Nat)) = true ∧ xs.all flatD = true ∧ Q (.bl (if neg then !DL.inD (.int (i : Nat)) xs else DL.inD (.int (i : Nat)) xs)) G | none => False) = _
  rw [h]
  show (flatD (.int (i : Nat)) = true ∧ (natD g).all flatD = true ∧ Q (.bl (if neg then !DL.inD (.int (i : Nat)) (natD g) else DL.inD (.int (i : Nat)) (natD g))) G) = _
  rw [in_natD]
  have e1 : flatD (.int (i : Nat)) = true := rfl
  have e2 : (natD g).all flatD = true := by
    unfold natD
    rw [List.all_map]
    simp [flatD]
  simp only [e1, e2, true_and]
theorem eraseD {g : List Nat} {i : Nat} : (natD g).eraseIdx i = natD (g.eraseIdx i) := by
  unfold natD
  rw [List.eraseIdx_eq_take_drop_succ, List.eraseIdx_eq_take_drop_succ, List.map_append, List.map_take, List.map_drop]
abbrev sp_Dealer_check_shares : DSp := fun ds G Q _ => ∃ (p a : Addr) (xs : List Rat) (ts : List Int) (k : Int) (s : D), ds = [.ref p, s] ∧ isDl G p a xs ts k ∧ xs.length ≤ 12 ∧ pd s = true ∧ areSh (xs.length : Nat) 1 s = true ∧ Q .non G
abbrev sp_Dealer_beat : DSp := fun ds G Q _ => ∃ (p a : Addr) (xs : List Rat) (ts : List Int) (k : Int) (s : Int × List Int), ds = [.ref p, shD s] ∧ isDl G p a xs ts k ∧ (0 < xs.length ∧ xs.length ≤ 12) ∧ ts.length = xs.length ∧ ShSm s ∧ s.2.length = xs.length ∧ areSh (xs.length : Nat) 1 (shD s) = true ∧ pd (shD s) = true ∧
  (∀ x ∈ xs, Sm x) ∧ (∀ x ∈ grow s xs, Sm x) ∧ Q (.int (taker (grow s xs) : Nat)) (dlG G p a (pay (grow s xs) (taker (grow s xs))) (bump ts (taker (grow s xs))) (k + 1))
abbrev sp_dealt : DSp := fun ds G Q _ => ∃ (n : Nat) (r : List (Int × List Int)), ds = [.int n, .tup (r.map shD)] ∧ (1 ≤ n ∧ n ≤ 12) ∧ (∀ s ∈ r, ShR n s) ∧ r.length ≤ 400 ∧ SmRun r (List.replicate n 0) ∧ Q (.lst ((dealL r (List.replicate n 0)).map fun i => D.int (i : Nat))) G
theorem dl_hand {G : Gp} {h p a : Addr} {xs : List Rat} {ts : List Int} {k : Int} {ys : List Rat} {us : List Int} {j : Int} (hh : isHand G h) (hd : isDl G p a ys us j) : isHand (dlG G p a xs ts k) h := by
  have h1 : h ≠ p := fun z => by
    have := hd.at_
    rw [← z] at this
    unfold isHand at hh
    rw [hh] at this
    cases this
  have h2 : h ≠ a := fun z => by
    have := hd.th
    rw [← z] at this
    unfold isHand at hh
    rw [hh] at this
    cases this
  unfold isHand
  rw [dlG_ne h1 h2]
  exact hh
/-- two dealers apart: the one goes on, the other stands -/
theorem dl_other {G : Gp} {p a p2 a2 : Addr} {xs ys zs : List Rat} {ts us vs : List Int} {k j i : Int} (hd : isDl G p a xs ts k) (h2 : isDl G p2 a2 ys us j) (hp : p2 ≠ p) (ha : a2 ≠ a) : isDl (dlG G p a zs vs i) p2 a2 ys us j := by
  have e1 : p2 ≠ a := fun z => by
    have := hd.th
    rw [← z, h2.at_] at this
    cases this
  have e2 : a2 ≠ p := fun z => by
    have := hd.at_
    rw [← z, h2.th] at this
    cases this
  exact ⟨h2.ne, by rw [dlG_ne hp e1]; exact h2.at_, by rw [dlG_ne e2 ha]; exact h2.th⟩
/-- a list apart stands -/
theorem dl_list {G : Gp} {p a b : Addr} {xs zs : List Rat} {ts vs us : List Int} {k i : Int} (hd : isDl G p a xs ts k) (hb : G b = some (.lst (us.map D.int))) (h : b ≠ a) : dlG G p a zs vs i b = some (.lst (us.map D.int)) := by
  have e2 : b ≠ p := fun z => by
    have := hd.at_
    rw [← z, hb] at this
    cases this
  rw [dlG_ne e2 h]
  exact hb
theorem dl_put {G : Gp} {p a b : Addr} {xs : List Rat} {ts us vs : List Int} {k : Int} (hd : isDl G p a xs ts k) (hb : G b = some (.lst (us.map D.int))) (h : b ≠ a) : isDl (gu G b (.lst (vs.map D.int))) p a xs ts k := by
  have e2 : b ≠ p := fun z => by
    have := hd.at_
    rw [← z, hb] at this
    cases this
  exact ⟨hd.ne, by rw [gu_ne (Ne.symm e2)]; exact hd.at_, by rw [gu_ne (Ne.symm h)]; exact hd.th⟩
theorem bump_ok {ts : List Int} {i k : Nat} (hi : i < ts.length) (h : ∀ t ∈ ts, 0 ≤ t ∧ t ≤ k) : ∀ t ∈ bump ts i, 0 ≤ t ∧ t ≤ (k + 1 : Nat) := by
  intro t ht
  unfold bump at ht
  rcases List.mem_or_eq_of_mem_set ht with ht | rfl
  · have := h t ht; omega
  · have : ts.getD i 0 ∈ ts := by
      rw [List.getD_eq_getElem?_getD, List.getElem?_eq_getElem hi]
      exact List.getElem_mem hi
    have := h _ this
    omega
/-- the numbers in some order -/
abbrev sp_L_mixed : DSp := fun ds G Q _ => ∃ (h : Addr) (n : Int), ds = [.ref h, .int n] ∧ isHand G h ∧ (1 ≤ n ∧ n ≤ 12) ∧ (∀ ps : List Int, ps.Perm (upto n) → Q (.lst (ps.map D.int)) G)
theorem er_mapI {α β : Type} {f : α → β} : ∀ (l : List α) (i : Nat), (l.map f).eraseIdx i = (l.eraseIdx i).map f
  | [], _ => rfl
  | _ :: _, 0 => rfl
  | a :: l, i + 1 => by
    rw [List.map_cons, List.eraseIdx_cons_succ, List.eraseIdx_cons_succ, er_mapI l i, List.map_cons]
/-- some row of shares for n people, m things -/
abbrev sp_L_shares : DSp := fun ds G Q _ => ∃ (h : Addr) (n m b : Int), ds = [.ref h, .int n, .int m, .int b] ∧ isHand G h ∧ (1 ≤ n ∧ n ≤ 12) ∧ (1 ≤ m ∧ m ≤ n) ∧ (1 ≤ b ∧ b ≤ 360) ∧ (∀ (ts : List Int), (ts.length : Int) = n → (∀ t ∈ ts, 0 ≤ t ∧ t ≤ b) → ts.sum = m * b → Q (.tup [.int b, .tup (ts.map D.int)]) G)
theorem step_le {b n k : Int} (hb : 1 ≤ b) (h : k + 1 ≤ n) : 0 ≤ b * (n - 1 - k) ∧ b * (n - k) = b * (n - 1 - k) + b := by
  refine ⟨Int.mul_nonneg (by omega) (by omega), ?_⟩
  have : n - k = (n - 1 - k) + 1 := by omega
  rw [this, Int.mul_add, Int.mul_one]
/-- a drawn row of shares for n people, one thing -/
structure Sg (n : Int) (s : Int × List Int) : Prop where
  b1 : 1 ≤ s.1
  b2 : s.1 ≤ 360
  ln : (s.2.length : Int) = n
  tp : ∀ t ∈ s.2, 0 ≤ t ∧ t ≤ s.1
  sm : s.2.sum = s.1
theorem Sg.sh {n : Int} {s : Int × List Int} (h : Sg n s) (hn : n ≤ 1000) : ShSm s := ⟨h.b1, by have := h.b2; omega, by have := h.ln; omega, h.tp⟩
theorem Sg.R {n : Nat} {s : Int × List Int} (h : Sg (n : Int) s) (hn : n ≤ 1000) : ShR n s := by
  refine ⟨h.sh (by omega), by have := h.ln; omega, ?_, ?_⟩
  · obtain ⟨b, ts⟩ := s
    show (isW (.int b) 1 360 && decide (((ts.map D.int).length : Int) = n) && (ts.map D.int).all (fun t => isW t 0 b) && decide (isum (ts.map D.int) = 1 * b)) = true
    have e : isum (ts.map D.int) = ts.sum := by unfold isum; rw [DL.ints_map]
    rw [e, List.length_map, isW_int, decide_eq_true (show 1 ≤ b from h.b1), decide_eq_true (show b ≤ 360 from h.b2), decide_eq_true (show (ts.length : Int) = n from h.ln), decide_eq_true (show ts.sum = 1 * b by rw [Int.one_mul]; exact h.sm)]
    rw [List.all_map]
    simp only [Bool.and_true, Bool.true_and, List.all_eq_true]
    intro t ht
    obtain ⟨t0, t1⟩ := h.tp t ht
    show isW (.int t) 0 b = true
    rw [isW_int, decide_eq_true t0, decide_eq_true (show t ≤ b from t1)]
    rfl
  · unfold shD
    rw [pd_tup2]
    refine ⟨pd_int, pd_tup.mpr fun x hx => ?_⟩
    obtain ⟨i, _, rfl⟩ := List.mem_map.mp hx
    exact pd_int
/-- what a dealer shows -/
def shown (xs : List Rat) (ts : List Int) (k : Int) : D := .tup [frts xs, .tup (ts.map D.int), .int k]
theorem es_shown (xs : List Rat) (ts : List Int) (k : Int) : Es 3 (shown xs ts k) := es_tup (k := 2) fun y hy => by
  rcases List.mem_cons.mp hy with rfl | hy
  · exact es_frts xs
  rcases List.mem_cons.mp hy with rfl | hy
  · refine (es_tup (k := 0) fun y hy => ?_).mono (by omega)
    obtain ⟨x, _, rfl⟩ := List.mem_map.mp hy
    exact es_int
  · rw [List.mem_singleton.mp hy]; exact es_int.mono (by omega)
theorem rs_shown {L C K : Nat} {xs : List Rat} {ts : List Int} {k : Int} (h : Szs L C xs) (hL : L ≠ 0) (hB : (C + 1) * L < 10 ^ K) (h0 : 0 < K) (h1 : K ≤ 470) (hx : xs.length ≤ 12) (ht : ts.length ≤ 12) (hts : ∀ t ∈ ts, t.natAbs < 10 ^ 12) (hk : k.natAbs < 10 ^ 12) : Rs 3 (50000) (shown xs ts k) := by
  refine (rs_tup (k := 2) (W := 12000) (xs := [frts xs, .tup (ts.map D.int), .int k]) fun y hy => ?_).mono (Nat.le_refl _) (by show 3 * (12000 + 2) + 3 ≤ 50000; decide)
  rcases List.mem_cons.mp hy with rfl | hy
  · refine (rs_frts h hL hB h0 h1).mono (Nat.le_refl _) ?_
    have : xs.length * (2 * (K + 3) + 3 + 2) ≤ 12 * (2 * (470 + 3) + 3 + 2) := Nat.mul_le_mul hx (by omega)
    omega
  rcases List.mem_cons.mp hy with rfl | hy
  · refine (rs_tup (k := 0) (W := 13) fun y hy => ?_).mono (by omega) ?_
    · obtain ⟨x, hx, rfl⟩ := List.mem_map.mp hy
      exact rs_int (hts x hx)
    · rw [List.length_map]
      omega
  · rw [List.mem_singleton.mp hy]
    exact (rs_int hk).mono (by omega) (by omega)
theorem alk_shown {L C K : Nat} {xs : List Rat} {ts : List Int} {k : Int} {G : Gp} (h : Szs L C xs) (hL : L ≠ 0) (hB : (C + 1) * L < 10 ^ K) (h0 : 0 < K) (h1 : K ≤ 470) (hx : xs.length ≤ 12) (ht : ts.length ≤ 12) (hts : ∀ t ∈ ts, t.natAbs < 10 ^ 12) (hk : k.natAbs < 10 ^ 12) : Alk (shown xs ts k) (shown xs ts k) G :=
  .of (rs_shown h hL hB h0 h1 hx ht hts hk) (es_shown xs ts k) (by decide) (by decide)
theorem Sg.B {n : Nat} {s : Int × List Int} (h : Sg (n : Int) s) (hn : n ≤ 1000) : ShB n s := ⟨h.R hn, h.b2⟩
theorem LL_shown {k j : Nat} {n : Nat} {xs : List Rat} {ts : List Int} {G : Gp} (h : Szs LL (2 * k) xs) (hk : k ≤ 1000) (hn : n ≤ 12) (xl : xs.length = n) (tl : ts.length = n) (tb : ∀ t ∈ ts, 0 ≤ t ∧ t ≤ (k : Int)) (hj : j ≤ k) : Alk (shown xs ts j) (shown xs ts j) G :=
  alk_shown (K := 170) h LL_ne (LL_bd (by omega)).1 (by decide) (by decide) (by omega) (by omega) (fun t ht => by have := tb t ht; omega) (by omega)
theorem rsum_set : ∀ (xs : List Rat) (i : Nat) (v : Rat), i < xs.length → (xs.set i v).sum = xs.sum - xs.getD i 0 + v
  | [], _, _, h => nomatch h
  | x :: xs, 0, v, _ => by
    show (v :: xs).sum = (x :: xs).sum - x + v
    rw [rsum_cons, rsum_cons]
    grind
  | x :: xs, i + 1, v, h => by
    show (x :: xs.set i v).sum = (x :: xs).sum - xs.getD i 0 + v
    rw [rsum_cons, rsum_cons, rsum_set xs i v (by simpa using h)]
    grind
theorem zip_set (xs : List Rat) (i : Nat) (f : Rat → Rat) : (xs.zipIdx.map fun p => if p.2 = i then f p.1 else p.1) = xs.set i (f (xs.getD i 0)) := by
  apply List.ext_getElem
  · simp
  · intro j h1 h2
    simp only [List.length_set] at h2
    rw [List.getElem_map, List.getElem_zipIdx, List.getElem_set]
    simp only [Nat.zero_add]
    by_cases h : i = j
    · subst h
      rw [if_pos rfl, if_pos rfl, List.getD_eq_getElem?_getD, List.getElem?_eq_getElem h2]
      rfl
    · rw [if_neg h, if_neg (Ne.symm h)]
theorem szs_set {L C E i : Nat} {xs : List Rat} {v : Rat} (h : Szs L C xs) (hC : C ≤ E) (hv : Sz L E v) : Szs L E (xs.set i v) := fun x hx => by
  rcases List.mem_or_eq_of_mem_set hx with hx | rfl
  · exact (h x hx).mono (Nat.dvd_refl _) hC
  · exact hv
/-- shares of a group, alike -/
def groupS (n : Nat) (g : List Nat) : Int × List Int := ((g.length : Nat), (List.range n).map fun j => if j ∈ g then (1 : Int) else 0)
theorem group_sum {n : Nat} : ∀ {g : List Nat}, g.Nodup → (∀ i ∈ g, i < n) → ((List.range n).map fun j => if j ∈ g then (1 : Int) else 0).sum = (g.length : Nat) := by
  intro g hn hl
  have h := counts_sum n (g.map fun i => ((i : Nat) : Int)) (fun x hx => by
    obtain ⟨i, hi, rfl⟩ := List.mem_map.mp hx
    have := hl i hi
    omega)
  rw [List.length_map] at h
  rw [← h]
  congr 1
  apply List.map_congr_left
  intro j _
  have inj : ∀ l : List Nat, (l.map fun i => ((i : Nat) : Int)).count ((j : Nat) : Int) = l.count j := by
    intro l
    induction l with
    | nil => rfl
    | cons x l ih =>
      rw [List.map_cons, List.count_cons, List.count_cons, ih]
      congr 1
      by_cases e : x = j
      · subst e; simp
      · have e1 : (((x : Nat) : Int) == ((j : Nat) : Int)) = false := by rw [beq_eq_false_iff_ne]; omega
        have e2 : (x == j) = false := by rw [beq_eq_false_iff_ne]; exact e
        rw [e1, e2]
  rw [inj, hn.count]
  split <;> rfl
theorem group_B {n : Nat} {g : List Nat} (hn : g.Nodup) (hl : ∀ i ∈ g, i < n) (h0 : 0 < g.length) (h1 : g.length ≤ 12) (hn2 : n ≤ 12) : ShB n (groupS n g) := by
  have hs := group_sum hn hl
  have : Sg (n : Int) (groupS n g) := ⟨by show (1 : Int) ≤ (g.length : Nat); omega, by show ((g.length : Nat) : Int) ≤ 360; omega, by show (((List.map _ (List.range n)).length : Nat) : Int) = n; rw [List.length_map, List.length_range], fun t ht => by
    obtain ⟨j, _, rfl⟩ := List.mem_map.mp ht
    show 0 ≤ (if j ∈ g then (1 : Int) else 0) ∧ (if j ∈ g then (1 : Int) else 0) ≤ ((g.length : Nat) : Int)
    split <;> omega, hs⟩
  exact this.B (by omega)
theorem mk_sum {b : Nat} (hb : b ≠ 0) : ∀ ts : List Int, (ts.map fun t => mkRat t b).sum = mkRat ts.sum b
  | [] => by rw [List.map_nil, List.sum_nil, List.sum_nil, Rat.zero_mkRat]
  | t :: ts => by rw [List.map_cons, rsum_cons, List.sum_cons, mk_sum hb ts, fq_plus _ _ hb]
theorem sum_ins (l : List Int) (i : Nat) (v : Int) : (l.take i ++ [v] ++ l.drop i).sum = l.sum + v := by
  have : (l.take i).sum + (l.drop i).sum = l.sum := by rw [← List.sum_append, List.take_append_drop]
  rw [List.sum_append, List.sum_append, List.sum_cons, List.sum_nil]
  omega
theorem sum_abs {b : Int} (hb : 0 ≤ b) : ∀ l : List Int, (∀ t ∈ l, -b ≤ t ∧ t ≤ b) → -(b * l.length) ≤ l.sum ∧ l.sum ≤ b * l.length
  | [], _ => by simp
  | t :: l, h => by
    have h1 := h t List.mem_cons_self
    have h2 := sum_abs hb l fun z hz => h z (List.mem_cons_of_mem _ hz)
    rw [List.sum_cons, List.length_cons, Int.natCast_add, Int.mul_add]
    show -(b * _ + b * 1) ≤ _ ∧ _ ≤ b * _ + b * 1
    rw [Int.mul_one]
    omega
theorem fa2_ints {P : Int → Prop} : ∀ {its ys : List D}, Fa2 (fun _ y => ∃ i : Int, P i ∧ y = .int i) its ys → ∃ ns : List Int, ys = ns.map D.int ∧ ns.length = its.length ∧ ∀ i ∈ ns, P i
  | _, _, .nil => ⟨[], rfl, rfl, fun s hs => (nomatch hs)⟩
  | _, _, .cons ⟨s, hs, e⟩ t => by
    obtain ⟨r, e2, hl, hr⟩ := fa2_ints t
    refine ⟨s :: r, by rw [e, e2]; rfl, by rw [List.length_cons, List.length_cons, hl], fun z hz => ?_⟩
    rcases List.mem_cons.mp hz with rfl | hz
    · exact hs
    · exact hr z hz
/-- debts that were drawn -/
structure Drawn (n : Nat) (M C : Nat) (xs : List Rat) : Prop where
  ln : xs.length = n
  sm : xs.sum = 0
  sz : ∃ L, L ≠ 0 ∧ LL ∣ L ∧ L ≤ LL * M ∧ Szs L C xs
theorem Drawn.dbt {n M C : Nat} {xs : List Rat} (h : Drawn n M C xs) (hM : M ≤ 10 ^ 9) : Dbt C xs := by
  obtain ⟨L, h0, hd, hL, hx⟩ := h.sz
  exact ⟨L, h0, hd, Nat.le_trans hL (Nat.mul_le_mul_left _ hM), hx⟩
theorem Drawn.sm' {n M C : Nat} {xs : List Rat} (h : Drawn n M C xs) (hM : M ≤ 10 ^ 9) (hC : C ≤ 10 ^ 6) : ∀ x ∈ xs, Sm x := (h.dbt hM).sm hC
theorem Drawn.zero (n : Nat) : Drawn n 1 0 (List.replicate n 0) := ⟨List.length_replicate, zeros_sum n, LL, LL_ne, Nat.dvd_refl _, by omega, szs_zero n⟩
theorem Drawn.mono {n M C N E : Nat} {xs : List Rat} (h : Drawn n M C xs) (hM : M ≤ N) (hC : C ≤ E) : Drawn n N E xs := by
  obtain ⟨L, h0, hd, hL, hx⟩ := h.sz
  exact ⟨h.ln, h.sm, L, h0, hd, Nat.le_trans hL (Nat.mul_le_mul_left _ hM), szs_mono hx (Nat.dvd_refl _) hC⟩
theorem Drawn.step {n M C i : Nat} {s : Int × List Int} {xs : List Rat} (h : Drawn n M C xs) (hs : ShB n s) (hi : i < n) : Drawn n M (C + 2) (pay (grow s xs) i) := by
  obtain ⟨L, h0, hd, hL, hx⟩ := h.sz
  have gl : (grow s xs).length = n := by rw [grow_len (by rw [hs.ln, h.ln]), h.ln]
  exact ⟨by rw [pay_len, gl], by rw [step_sum hs.toShR h.ln hi, h.sm], L, h0, hd, hL, szs_pay h0 (by omega) (szs_growL h0 (Nat.dvd_trans hs.dv hd) hs.sm hx)⟩
theorem fr_unitn {k : Nat} (h : 0 < k) : fr (mkRat (-1) k) = .tup [.int (-1), .int (k : Nat)] := by
  obtain ⟨e1, e2⟩ := low_num (a := -1) (b := k) (by omega)
  unfold fr
  rw [e1, e2]
  simp
theorem million : (10 : Nat) ^ 6 = 1000000 := by decide
/-- what debts are moved by -/
def isBy (r : Rat) : Prop := ∀ L, LL ∣ L → L ≠ 0 → Sz (L * 10 ^ 6) 1 r
theorem by_mk {t : Int} {b : Nat} (ht : -(1 : Int) ≤ t ∧ t ≤ 1) (hb : 1 ≤ b) (hd : b ∣ 10 ^ 6 ∨ b ∣ LL) : isBy (mkRat t b) := fun L hL h0 => by
  refine Sz.low (Nat.mul_ne_zero h0 (by decide)) (by omega) ?_ ?_ ?_
  · rcases hd with hd | hd
    · exact Nat.dvd_trans hd (Nat.dvd_mul_left _ _)
    · exact Nat.dvd_trans (Nat.dvd_trans hd hL) (Nat.dvd_mul_right _ _)
  · omega
  · omega
theorem hsum_front (lo : Nat) : ∀ n : Nat, hsum lo (n + 1) = mkRat 1 lo + hsum (lo + 1) n
  | 0 => by
    show 0 + mkRat 1 (lo + 0) = mkRat 1 lo + 0
    rw [Rat.zero_add, Rat.add_zero, Nat.add_zero]
  | n + 1 => by
    show hsum lo (n + 1) + mkRat 1 (lo + (n + 1)) = mkRat 1 lo + (hsum (lo + 1) n + mkRat 1 (lo + 1 + n))
    rw [hsum_front lo n, Rat.add_assoc, show lo + (n + 1) = lo + 1 + n by omega]
theorem unit_nonneg (k : Nat) : 0 ≤ mkRat 1 k := by
  by_cases h : k = 0
  · subst h
    rw [Rat.mkRat_zero]
    exact Rat.le_refl
  · rw [Rat.mkRat_eq_div]
    have h1 : (0 : Rat) < (k : Rat) := Rat.natCast_pos.mpr (by omega)
    rw [Rat.div_def]
    have := Rat.inv_pos.mpr h1
    grind
theorem hsum_mono (lo : Nat) : ∀ {n m : Nat}, n ≤ m → hsum lo n ≤ hsum lo m
  | n, 0, h => by rw [show n = 0 by omega]; exact Rat.le_refl
  | n, m + 1, h => by
    by_cases e : n = m + 1
    · rw [e]; exact Rat.le_refl
    · have h1 := hsum_mono lo (n := n) (m := m) (by omega)
      have h2 := unit_nonneg (lo + m)
      show _ ≤ hsum lo m + mkRat 1 (lo + m)
      grind
theorem mul_unit {k : Nat} (h : 0 < k) : (k : Rat) * mkRat 1 k = 1 := by
  rw [Rat.mkRat_eq_div]
  have h1 : (0 : Rat) < (k : Rat) := Rat.natCast_pos.mpr h
  have h2 : (k : Rat) ≠ 0 := fun z => by rw [z] at h1; exact absurd h1 (by decide)
  rw [Rat.div_def]
  have := Rat.mul_inv_cancel (k : Rat) h2
  grind
theorem alw_mono {n b c m : Nat} (h : b ≤ c) : alw n b m ≤ alw n c m := by
  unfold alw
  have h1 := hsum_mono (m + 1) (n := min n (m + b) - m) (m := min n (m + c) - m) (by omega)
  have h2 : (0 : Rat) ≤ (m : Rat) := Rat.natCast_nonneg
  exact Rat.mul_le_mul_of_nonneg_left h1 h2
/-- what is allowed, by its step -/
theorem alw_step {n b m : Nat} (h : m < n) : ((m + 1 : Nat) : Rat) * alw n (b + 1) m = (m : Rat) * (1 + alw n b (m + 1)) := by
  unfold alw
  have e1 : min n (m + (b + 1)) - m = (min n (m + 1 + b) - (m + 1)) + 1 := by omega
  rw [e1, hsum_front]
  have e2 := mul_unit (k := m + 1) (by omega)
  generalize hsum (m + 1 + 1) (min n (m + 1 + b) - (m + 1)) = S at *
  generalize mkRat 1 (m + 1) = u at *
  generalize ((m + 1 : Nat) : Rat) = v at *
  generalize (m : Rat) = w at *
  grind
theorem alw_one {n b : Nat} : alw n b 1 = hsum 2 (min n (b + 1) - 1) := by
  unfold alw
  rw [Nat.add_comm 1 b]
  show ((1 : Nat) : Rat) * _ = _
  have : ((1 : Nat) : Rat) = 1 := rfl
  rw [this, Rat.one_mul]
theorem alw_all {n b : Nat} : alw n b n = 0 := by
  unfold alw
  rw [show min n (n + b) - n = 0 by omega]
  show (n : Rat) * 0 = 0
  grind
theorem mkRat_muls (m k : Nat) (hk : 0 < k) (x : Rat) : (k : Rat) * mkRat ((m : Int) * x.num) (k * x.den) = (m : Rat) * x := by
  have h1 : mkRat ((m : Int) * x.num) (k * x.den) = mkRat (m : Int) k * x := by
    have e2 := Rat.mkRat_mul_mkRat (m : Int) x.num k x.den
    rw [Rat.mkRat_self] at e2
    exact e2.symm
  rw [h1, Rat.mkRat_eq_div]
  have h3 : (0 : Rat) < (k : Rat) := Rat.natCast_pos.mpr hk
  have h2 : (k : Rat) ≠ 0 := fun z => by rw [z] at h3; exact absurd h3 (by decide)
  rw [Rat.div_def, Rat.intCast_natCast]
  have := Rat.mul_inv_cancel (k : Rat) h2
  grind
theorem grow_scale {c b : Int} {ts : List Int} {xs : List Rat} (hc : 1 ≤ c) (hb : 1 ≤ b) : grow (c * b, ts.map fun t => c * t) xs = grow (b, ts) xs := by
  unfold grow
  rw [List.zip_map_right, List.map_map]
  apply List.map_congr_left
  rintro ⟨x, t⟩ _
  show x + mkRat (c * t) (c * b).toNat = x + mkRat t b.toNat
  have hcb : 0 < c * b := Int.mul_pos (by omega) (by omega)
  have e : mkRat (c * t) (c * b).toNat = mkRat t b.toNat := by
    rw [Rat.mkRat_eq_iff (by omega) (by omega), Int.toNat_of_nonneg (by omega), Int.toNat_of_nonneg (by omega)]
    grind
  rw [e]
/-- rows alike in what they give -/
abbrev SameG : List (Int × List Int) → List (Int × List Int) → Prop := Fa2 fun s s' => ∀ xs : List Rat, grow s' xs = grow s xs
theorem dealL_same : ∀ {r r' : List (Int × List Int)} (xs : List Rat), SameG r r' → dealL r' xs = dealL r xs
  | _, _, _, .nil => rfl
  | s :: r, s' :: r', xs, .cons h t => by
    show taker (grow s' xs) :: dealL r' _ = taker (grow s xs) :: dealL r _
    rw [h, dealL_same _ t]
theorem behindL_same : ∀ {r r' : List (Int × List Int)} (ns : List Nat) (xs : List Rat), SameG r r' → behindL r' ns xs = behindL r ns xs
  | _, _, _, _, .nil => rfl
  | s :: r, s' :: r', [], xs, .cons h t => rfl
  | s :: r, s' :: r', i :: ns, xs, .cons h t => by
    show pay (grow s' xs) i :: behindL r' ns _ = pay (grow s xs) i :: behindL r ns _
    rw [h, behindL_same ns _ t]
/-- people more without shares -/
def wide (k : Nat) (s : Int × List Int) : Int × List Int := (s.1, s.2 ++ List.replicate k 0)
theorem grow_wide {k : Nat} {s : Int × List Int} {xs : List Rat} (h : s.2.length = xs.length) : grow (wide k s) (xs ++ List.replicate k 0) = grow s xs ++ List.replicate k 0 := by
  unfold grow wide
  rw [List.zip_append h.symm, List.map_append]
  congr 1
  rw [List.zip_replicate, Nat.min_self, List.map_replicate]
  show List.replicate k ((0 : Rat) + mkRat 0 _) = _
  rw [Rat.zero_mkRat, Rat.add_zero]
theorem pay_wide {k i : Nat} {xs : List Rat} (h : i < xs.length) : pay (xs ++ List.replicate k 0) i = pay xs i ++ List.replicate k 0 := by
  unfold pay
  rw [List.set_append_left _ _ h, List.getD_eq_getElem?_getD, List.getElem?_append_left h, List.getD_eq_getElem?_getD]
theorem grow_sum1 {n : Nat} {s : Int × List Int} {xs : List Rat} (hs : ShR n s) (hl : xs.length = n) : (grow s xs).sum = xs.sum + 1 := by
  have h1 := hs.sm.b1
  have e := grow_sum h1 xs s.2 (by rw [hs.ln, hl])
  have e2 : mkRat s.2.sum s.1.toNat = 1 := by
    rw [sh_sum hs]
    have h3 : mkRat s.1 s.1.toNat = mkRat 1 1 := by
      rw [Rat.mkRat_eq_iff (by omega) (by decide)]
      omega
    rw [h3]
    rfl
  have e : (grow s xs).sum = xs.sum + mkRat s.2.sum s.1.toNat := e
  rw [e, e2]
theorem dealL_wide {n : Nat} (k : Nat) (hn : 0 < n) : ∀ (r : List (Int × List Int)) (xs : List Rat), (∀ s ∈ r, ShR n s) → xs.length = n → 0 ≤ xs.sum → dealL (r.map (wide k)) (xs ++ List.replicate k 0) = dealL r xs
  | [], _, _, _, _ => rfl
  | s :: r, xs, hr, hl, h0 => by
    have hs := hr s List.mem_cons_self
    have gl : (grow s xs).length = n := by rw [grow_len (by rw [hs.ln, hl]), hl]
    have gs := grow_sum1 hs hl
    have tk := taker_lt (xs := grow s xs) (by omega)
    have e1 := grow_wide (k := k) (s := s) (xs := xs) (by rw [hs.ln, hl])
    have e2 := taker_wide (xs := grow s xs) k (by omega) (by rw [gs]; grind)
    show taker (grow (wide k s) (xs ++ List.replicate k 0)) :: dealL (r.map (wide k)) (pay (grow (wide k s) (xs ++ List.replicate k 0)) (taker (grow (wide k s) (xs ++ List.replicate k 0)))) = taker (grow s xs) :: dealL r (pay (grow s xs) (taker (grow s xs)))
    rw [e1, e2, pay_wide (by omega)]
    rw [dealL_wide k hn r _ (fun z hz => hr z (List.mem_cons_of_mem _ hz)) (by rw [pay_len, gl]) (by rw [pay_sum _ _ (by omega), gs]; grind)]
theorem Sg.ofB {n : Nat} {s : Int × List Int} (h : ShB n s) : Sg (n : Int) s := ⟨h.sm.b1, h.b3, by rw [h.ln], h.sm.tp, sh_sum h.toShR⟩
theorem mul_sum (c : Int) : ∀ l : List Int, (l.map fun t => c * t).sum = c * l.sum
  | [] => by simp
  | x :: l => by rw [List.map_cons, List.sum_cons, List.sum_cons, mul_sum c l, Int.mul_add]
theorem Sg.scale {n : Int} {c b : Int} {ts : List Int} (h : Sg n (b, ts)) (hc : 1 ≤ c) (hcb : c * b ≤ 360) : Sg n (c * b, ts.map fun t => c * t) := by
  have hb : 1 ≤ b := h.b1
  have hcb0 : 1 * 1 ≤ c * b := Int.mul_le_mul hc hb (by omega) (by omega)
  refine ⟨by show 1 ≤ c * b; omega, hcb, by show (((ts.map fun t => c * t).length : Nat) : Int) = n; rw [List.length_map]; exact h.ln, fun t ht => ?_, ?_⟩
  · obtain ⟨u, hu, rfl⟩ := List.mem_map.mp ht
    obtain ⟨u0, u1⟩ := h.tp u hu
    exact ⟨Int.mul_nonneg (by omega) u0, Int.mul_le_mul_of_nonneg_left u1 (by omega)⟩
  · show (ts.map fun t => c * t).sum = c * b
    rw [mul_sum, show ts.sum = b from h.sm]
theorem Sg.wide {n : Nat} {k : Nat} {s : Int × List Int} (h : Sg (n : Int) s) : Sg ((n + k : Nat) : Int) (wide k s) := by
  obtain ⟨b, ts⟩ := s
  refine ⟨h.b1, h.b2, ?_, fun t ht => ?_, ?_⟩
  · have := h.ln
    show (((ts ++ List.replicate k 0).length : Nat) : Int) = _
    rw [List.length_append, List.length_replicate]
    have : (ts.length : Int) = n := this
    omega
  · rcases List.mem_append.mp (show t ∈ ts ++ List.replicate k 0 from ht) with ht | ht
    · exact h.tp t ht
    · have := h.b1
      rw [(List.mem_replicate.mp ht).2]
      exact ⟨Int.le_refl _, by show 0 ≤ b; have : 1 ≤ b := this; omega⟩
  · show (ts ++ List.replicate k 0).sum = b
    rw [List.sum_append, sum_zeros, Int.add_zero]
    exact h.sm
theorem fa2_snoc {α β : Type} {R : α → β → Prop} {x : α} {y : β} (h : R x y) : ∀ {l : List α} {m : List β}, Fa2 R l m → Fa2 R (l ++ [x]) (m ++ [y])
  | _, _, .nil => .cons h .nil
  | _, _, .cons a t => .cons a (fa2_snoc h t)
theorem exists_at (p : Nat → Prop) : ∀ l : List Nat, ∃ a, a ≤ l.length ∧ (∀ j ∈ l.take a, ¬ p j) ∧ ∀ h : a < l.length, p l[a]
  | [] => ⟨0, Nat.le_refl _, fun j hj => (nomatch hj), fun h => (nomatch h)⟩
  | x :: l => by
    by_cases hx : p x
    · exact ⟨0, Nat.zero_le _, fun j hj => (nomatch hj), fun _ => hx⟩
    · obtain ⟨a, h1, h2, h3⟩ := exists_at p l
      refine ⟨a + 1, by rw [List.length_cons]; omega, fun j hj => ?_, fun h => h3 (by rw [List.length_cons] at h; omega)⟩
      rw [List.take_succ_cons] at hj
      rcases List.mem_cons.mp hj with rfl | hj
      · exact hx
      · exact h2 j hj
theorem ranked_ex (xs : List Rat) : ∃ l, Ranked xs l := by
  have h : ∀ k, k ≤ xs.length → ∃ l : List Nat, l.Perm (List.range k) ∧ l.Pairwise (Bf xs) := by
    intro k
    induction k with
    | zero => exact fun _ => ⟨[], .refl _, .nil⟩
    | succ k ih =>
      intro hk
      obtain ⟨l, hp, hs⟩ := ih (by omega)
      obtain ⟨a, h1, h2, h3⟩ := exists_at (fun j => xs.getD j 0 < xs.getD k 0) l
      exact ⟨_, ins_srt hp hs h1 h2 h3⟩
  obtain ⟨l, hp, hs⟩ := h _ (Nat.le_refl _)
  exact ⟨l, hp, hs⟩
theorem filter_perm {n : Nat} {T : List Nat} (hn : T.Nodup) (hl : ∀ i ∈ T, i < n) : ((List.range n).filter fun i => decide (i ∈ T)).Perm T := by
  refine (List.perm_ext_iff_of_nodup (List.Nodup.sublist List.filter_sublist List.nodup_range) hn).mpr fun i => ?_
  rw [List.mem_filter, List.mem_range, decide_eq_true_iff]
  exact ⟨fun h => h.2, fun h => ⟨hl i h, h⟩⟩
theorem lot_ex (xs : List Rat) (m : Nat) : ∃ c, IsLot xs m c := by
  obtain ⟨l, hl⟩ := ranked_ex xs
  have hn : (l.take m).Nodup := List.Nodup.sublist (List.take_sublist _ _) hl.nodup
  refine ⟨_, l, hl, filter_perm (n := xs.length) hn fun i hi => hl.lt i (List.mem_of_mem_take hi), ?_⟩
  exact (range_pw _).sublist List.filter_sublist
noncomputable def lotF (xs : List Rat) (m : Nat) : List Nat := Classical.choose (lot_ex xs m)
theorem lotF_ok (xs : List Rat) (m : Nat) : IsLot xs m (lotF xs m) := Classical.choose_spec (lot_ex xs m)
theorem IsLot.eqF {xs : List Rat} {m : Nat} {c : List Nat} (h : IsLot xs m c) : c = lotF xs m := h.uniq (lotF_ok xs m)
/-! sums over some -/
theorem sumOn_cons (xs : List Rat) (i : Nat) (c : List Nat) : sumOn xs (i :: c) = xs.getD i 0 + sumOn xs c := by unfold sumOn; rw [List.map_cons, rsum_cons]
theorem rsum_perm {a b : List Rat} (h : a.Perm b) : a.sum = b.sum := by
  induction h with
  | nil => rfl
  | cons x _ ih => rw [rsum_cons, rsum_cons, ih]
  | swap x y l => rw [rsum_cons, rsum_cons, rsum_cons, rsum_cons]; grind
  | trans _ _ i1 i2 => rw [i1, i2]
theorem sumOn_perm {xs : List Rat} {c d : List Nat} (h : c.Perm d) : sumOn xs c = sumOn xs d := rsum_perm (h.map _)
theorem sum_map_le {f g : Nat → Rat} : ∀ (c : List Nat), (∀ i ∈ c, f i ≤ g i) → (c.map f).sum ≤ (c.map g).sum
  | [], _ => Rat.le_refl
  | x :: c, h => by
    rw [List.map_cons, List.map_cons, rsum_cons, rsum_cons]
    have h1 := h x List.mem_cons_self
    have h2 := sum_map_le c fun i hi => h i (List.mem_cons_of_mem _ hi)
    grind
theorem sum_nonneg {f : Nat → Rat} (h : ∀ i, 0 ≤ f i) : ∀ c : List Nat, 0 ≤ (c.map f).sum
  | [] => Rat.le_refl
  | x :: c => by
    rw [List.map_cons, rsum_cons]
    have h1 := h x
    have h2 := sum_nonneg h c
    grind
/-- some of what is not below 0 is no more than all -/
theorem sum_some_le {f : Nat → Rat} (h : ∀ i, 0 ≤ f i) : ∀ (c l : List Nat), c.Nodup → (∀ i ∈ c, i ∈ l) → (c.map f).sum ≤ (l.map f).sum
  | [], l, _, _ => sum_nonneg h l
  | x :: c, l, hn, hs => by
    have hx := hs x List.mem_cons_self
    obtain ⟨h1, h2⟩ := List.nodup_cons.mp hn
    have e := rsum_perm ((List.perm_cons_erase hx).map f)
    rw [List.map_cons, rsum_cons] at e
    rw [List.map_cons, rsum_cons, e]
    have := sum_some_le h c (l.erase x) h2 fun i hi => (List.mem_erase_of_ne (fun z => by subst z; exact h1 hi)).mpr (hs i (List.mem_cons_of_mem _ hi))
    grind
theorem sum_map_add (f g : Nat → Rat) : ∀ c : List Nat, (c.map fun i => f i + g i).sum = (c.map f).sum + (c.map g).sum
  | [] => by
    show (0 : Rat) = 0 + 0
    rw [Rat.add_zero]
  | x :: c => by
    rw [List.map_cons, List.map_cons, List.map_cons, rsum_cons, rsum_cons, rsum_cons, sum_map_add f g c]
    grind
theorem sum_map_sub (f : Nat → Rat) (t : Rat) : ∀ c : List Nat, (c.map fun i => f i - t).sum = (c.map f).sum - (c.length : Rat) * t
  | [] => by
    rw [List.map_nil, List.map_nil, List.length_nil]
    show (0 : Rat) = 0 - ((0 : Nat) : Rat) * t
    have : ((0 : Nat) : Rat) = 0 := rfl
    rw [this]
    grind
  | x :: c => by
    rw [List.map_cons, List.map_cons, rsum_cons, rsum_cons, sum_map_sub f t c, List.length_cons, Rat.natCast_add]
    have : ((1 : Nat) : Rat) = 1 := rfl
    rw [this]
    grind
def pp (r : Rat) : Rat := if 0 ≤ r then r else 0
theorem pp_nonneg (r : Rat) : 0 ≤ pp r := by
  unfold pp
  split
  · assumption
  · exact Rat.le_refl
theorem pp_ge (r : Rat) : r ≤ pp r := by
  unfold pp
  split
  · exact Rat.le_refl
  · grind
theorem sum_zero {f : Nat → Rat} : ∀ (c : List Nat), (∀ i ∈ c, f i = 0) → (c.map f).sum = 0
  | [], _ => rfl
  | x :: c, h => by
    rw [List.map_cons, rsum_cons, h x List.mem_cons_self, sum_zero c fun i hi => h i (List.mem_cons_of_mem _ hi), Rat.add_zero]
/-- the so many greatest have the most -/
theorem lot_max {xs : List Rat} {m : Nat} {c d : List Nat} (hc : IsLot xs m c) (hm : 1 ≤ m ∧ m ≤ xs.length) (hn : d.Nodup) (hl : d.length = m) (hd : ∀ i ∈ d, i < xs.length) : sumOn xs d ≤ sumOn xs c := by
  obtain ⟨l, hr, hp, _⟩ := hc
  have hll := hr.len
  rw [sumOn_perm hp]
  have hlast : m - 1 < l.length := by omega
  generalize ht : xs.getD l[m - 1] 0 = t
  have hT : ∀ i ∈ l.take m, t ≤ xs.getD i 0 := by
    intro i hi
    obtain ⟨k, hk, rfl⟩ := List.getElem_of_mem hi
    rw [List.length_take] at hk
    rw [List.getElem_take]
    by_cases e : k = m - 1
    · subst e; rw [ht]; exact Rat.le_refl
    · have := (List.pairwise_iff_getElem.mp hr.srt k (m - 1) (by omega) hlast (by omega)).ge
      rw [ht] at this
      exact this
  have hD : ∀ i ∈ l.drop m, xs.getD i 0 ≤ t := by
    intro i hi
    obtain ⟨k, hk, rfl⟩ := List.getElem_of_mem hi
    rw [List.length_drop] at hk
    rw [List.getElem_drop]
    have := (List.pairwise_iff_getElem.mp hr.srt (m - 1) (m + k) hlast (by omega) (by omega)).ge
    rw [ht] at this
    exact this
  have h1 : (d.map fun i => xs.getD i 0 - t).sum ≤ (d.map fun i => pp (xs.getD i 0 - t)).sum := sum_map_le d fun i _ => pp_ge _
  have h2 : (d.map fun i => pp (xs.getD i 0 - t)).sum ≤ (l.map fun i => pp (xs.getD i 0 - t)).sum := sum_some_le (fun i => pp_nonneg _) d l hn fun i hi => hr.perm.mem_iff.mpr (List.mem_range.mpr (hd i hi))
  have h3 : (l.map fun i => pp (xs.getD i 0 - t)).sum = ((l.take m).map fun i => xs.getD i 0 - t).sum := by
    have e : l.map (fun i => pp (xs.getD i 0 - t)) = (l.take m).map (fun i => pp (xs.getD i 0 - t)) ++ (l.drop m).map (fun i => pp (xs.getD i 0 - t)) := by rw [← List.map_append, List.take_append_drop]
    rw [e, rsum_append]
    have z := sum_zero (f := fun i => pp (xs.getD i 0 - t)) (l.drop m) fun i hi => by
      have := hD i hi
      unfold pp
      split
      · grind
      · rfl
    rw [z, Rat.add_zero]
    congr 1
    apply List.map_congr_left
    intro i hi
    have := hT i hi
    unfold pp
    rw [if_pos (by grind)]
  rw [sum_map_sub, hl] at h1
  rw [sum_map_sub, List.length_take, Nat.min_eq_left (by omega)] at h3
  unfold sumOn
  grind
/-! one step -/
theorem grow_getD {s : Int × List Int} {xs : List Rat} {i : Nat} (h : s.2.length = xs.length) (hi : i < xs.length) : (grow s xs).getD i 0 = xs.getD i 0 + mkRat (s.2.getD i 0) s.1.toNat := by
  unfold grow
  rw [List.getD_eq_getElem?_getD, List.getElem?_map, List.getElem?_eq_getElem (by rw [List.length_zip]; omega), List.getD_eq_getElem?_getD, List.getElem?_eq_getElem hi, List.getD_eq_getElem?_getD, List.getElem?_eq_getElem (by omega)]
  simp
theorem mkRat_nonneg {t : Int} {b : Nat} (ht : 0 ≤ t) : 0 ≤ mkRat t b := by
  by_cases h : b = 0
  · subst h; rw [Rat.mkRat_zero]; exact Rat.le_refl
  · rw [Rat.mkRat_eq_div, Rat.div_def]
    have h1 : (0 : Rat) < (b : Rat) := Rat.natCast_pos.mpr (by omega)
    have h2 := Rat.inv_pos.mpr h1
    have h3 : (0 : Rat) ≤ (t : Rat) := Rat.intCast_nonneg.mpr ht
    exact Rat.mul_nonneg h3 (Rat.le_of_lt h2)
theorem share_nonneg {n : Nat} {s : Int × List Int} (hs : ShR n s) (i : Nat) : 0 ≤ mkRat (s.2.getD i 0) s.1.toNat := by
  refine mkRat_nonneg ?_
  rcases Nat.lt_or_ge i s.2.length with z | z
  · rw [List.getD_eq_getElem?_getD, List.getElem?_eq_getElem z]
    exact (hs.sm.tp _ (List.getElem_mem z)).1
  · rw [List.getD_eq_getElem?_getD, List.getElem?_eq_none z]
    exact Int.le_refl _
/-- what shares give some, one in all at most -/
theorem grow_on {n : Nat} {s : Int × List Int} {xs : List Rat} {c : List Nat} (hs : ShR n s) (hl : xs.length = n) (hn : c.Nodup) (hc : ∀ i ∈ c, i < n) : sumOn (grow s xs) c ≤ sumOn xs c + 1 := by
  have gl : (grow s xs).length = n := by rw [grow_len (by rw [hs.ln, hl]), hl]
  have e1 : ∀ c : List Nat, (∀ i ∈ c, i < n) → sumOn (grow s xs) c = sumOn xs c + (c.map fun i => mkRat (s.2.getD i 0) s.1.toNat).sum := fun c hc => by
    unfold sumOn
    rw [← sum_map_add]
    congr 1
    apply List.map_congr_left
    intro i hi
    exact grow_getD (by rw [hs.ln, hl]) (by rw [hl]; exact hc i hi)
  have e2 := e1 (List.range n) fun i hi => List.mem_range.mp hi
  have e3 : sumOn (grow s xs) (List.range n) = (grow s xs).sum := by rw [← gl]; exact sumOn_all _
  have e4 : sumOn xs (List.range n) = xs.sum := by rw [← hl]; exact sumOn_all _
  rw [e3, e4, grow_sum1 hs hl] at e2
  have h := sum_some_le (f := fun i => mkRat (s.2.getD i 0) s.1.toNat) (share_nonneg hs) c (List.range n) hn fun i hi => List.mem_range.mpr (hc i hi)
  rw [e1 c hc]
  grind
theorem pay_getD {xs : List Rat} {i j : Nat} (hi : i < xs.length) : (pay xs i).getD j 0 = if j = i then xs.getD i 0 - 1 else xs.getD j 0 := by
  unfold pay
  exact getD_set hi
theorem pay_out {xs : List Rat} {p : Nat} {c : List Nat} (hp : p < xs.length) (h : p ∉ c) : sumOn (pay xs p) c = sumOn xs c := by
  unfold sumOn
  congr 1
  apply List.map_congr_left
  intro i hi
  rw [pay_getD hp, if_neg (fun z => by subst z; exact h hi)]
theorem pay_in {xs : List Rat} {p : Nat} : ∀ {c : List Nat}, p < xs.length → p ∈ c → c.Nodup → sumOn (pay xs p) c = sumOn xs c - 1
  | [], _, h, _ => nomatch h
  | x :: c, hp, h, hn => by
    obtain ⟨h1, h2⟩ := List.nodup_cons.mp hn
    rw [sumOn_cons, sumOn_cons]
    rcases List.mem_cons.mp h with rfl | h
    · rw [pay_getD hp, if_pos rfl, pay_out hp h1]
      grind
    · rw [pay_getD hp, if_neg (fun z => by subst z; exact h1 h), pay_in hp h h2]
      grind
/-- THE STEP OF DEBTS, who gets among them -/
theorem step_in {n : Nat} {s : Int × List Int} {xs : List Rat} {c : List Nat} (hs : ShR n s) (hl : xs.length = n) (hn : c.Nodup) (hc : ∀ i ∈ c, i < n) {p : Nat} (hp : p ∈ c) : sumOn (pay (grow s xs) p) c ≤ sumOn xs c := by
  have gl : (grow s xs).length = n := by rw [grow_len (by rw [hs.ln, hl]), hl]
  rw [pay_in (by rw [gl]; exact hc p hp) hp hn]
  have := grow_on hs hl hn hc
  grind
theorem sumOn_le_mul {xs : List Rat} {t : Rat} : ∀ c : List Nat, (∀ i ∈ c, xs.getD i 0 ≤ t) → sumOn xs c ≤ (c.length : Rat) * t
  | [], _ => by
    show (0 : Rat) ≤ ((0 : Nat) : Rat) * t
    have : ((0 : Nat) : Rat) = 0 := rfl
    rw [this]
    grind
  | x :: c, h => by
    rw [sumOn_cons, List.length_cons, Rat.natCast_add]
    have h1 := h x List.mem_cons_self
    have h2 := sumOn_le_mul c fun i hi => h i (List.mem_cons_of_mem _ hi)
    have : ((1 : Nat) : Rat) = 1 := rfl
    rw [this]
    grind
/-- THE STEP OF DEBTS, who gets not among them -/
theorem step_out {n : Nat} {s : Int × List Int} {xs : List Rat} {c : List Nat} (h0 : 0 < n) (hs : ShR n s) (hl : xs.length = n) (hn : c.Nodup) (hc : ∀ i ∈ c, i < n) (hp : taker (grow s xs) ∉ c) :
    ((c.length + 1 : Nat) : Rat) * sumOn (pay (grow s xs) (taker (grow s xs))) c ≤ (c.length : Rat) * (1 + sumOn xs (taker (grow s xs) :: c)) := by
  have gl : (grow s xs).length = n := by rw [grow_len (by rw [hs.ln, hl]), hl]
  have tk := taker_lt (xs := grow s xs) (by omega)
  rw [pay_out tk hp]
  have h1 := sumOn_le_mul (xs := grow s xs) (t := (grow s xs).getD (taker (grow s xs)) 0) c fun i hi => taker_max (by rw [gl]; exact hc i hi)
  have h2 := grow_on (c := taker (grow s xs) :: c) hs hl (List.nodup_cons.mpr ⟨hp, hn⟩) fun i hi => by
    rcases List.mem_cons.mp hi with rfl | hi
    · omega
    · exact hc i hi
  rw [sumOn_cons] at h2
  have hcc : (0 : Rat) ≤ (c.length : Rat) := Rat.natCast_nonneg
  have h3 := Rat.mul_le_mul_of_nonneg_left h2 hcc
  rw [Rat.natCast_add]
  have : ((1 : Nat) : Rat) = 1 := rfl
  rw [this]
  grind
theorem nodup_len : ∀ {c l : List Nat}, c.Nodup → (∀ i ∈ c, i ∈ l) → c.length ≤ l.length
  | [], _, _, _ => Nat.zero_le _
  | x :: c, l, hn, hs => by
    have hx := hs x List.mem_cons_self
    obtain ⟨h1, h2⟩ := List.nodup_cons.mp hn
    have := nodup_len (l := l.erase x) h2 fun i hi => (List.mem_erase_of_ne (fun z => by subst z; exact h1 hi)).mpr (hs i (List.mem_cons_of_mem _ hi))
    rw [List.length_erase_of_mem hx] at this
    have h3 := List.length_pos_of_mem hx
    rw [List.length_cons]
    omega
/-- calm debts -/
structure Calm (n b : Nat) (xs : List Rat) : Prop where
  hi : ∀ m, 1 ≤ m → m ≤ n → sumOn xs (lotF xs m) ≤ alw n b m
  lo : ∀ i, i < n → mkRat 1 n - 1 ≤ xs.getD i 0
theorem mkRat_one_mul {n : Nat} (h : 0 < n) : (n : Rat) * mkRat 1 n = 1 := mul_unit h
theorem taker_avg {n : Nat} {xs : List Rat} (h : 0 < n) (hl : xs.length = n) (hs : xs.sum = 1) : mkRat 1 n ≤ xs.getD (taker xs) 0 := by
  have h1 := sumOn_le_mul (xs := xs) (t := xs.getD (taker xs) 0) (List.range n) fun i hi => taker_max (by rw [hl]; exact List.mem_range.mp hi)
  rw [List.length_range] at h1
  have e : sumOn xs (List.range n) = xs.sum := by rw [← hl]; exact sumOn_all _
  rw [e, hs] at h1
  have e2 := mkRat_one_mul h
  have h3 : (0 : Rat) < (n : Rat) := Rat.natCast_pos.mpr h
  exact Rat.le_of_mul_le_mul_left (by rw [e2]; exact h1) h3
/-- THE GREAT FACT: calm debts lead to calm ones -/
theorem Calm.step {n b : Nat} {s : Int × List Int} {xs : List Rat} (h : Calm n b xs) (h0 : 0 < n) (hs : ShR n s) (hl : xs.length = n) (hz : xs.sum = 0) : Calm n (b + 1) (pay (grow s xs) (taker (grow s xs))) := by
  have gl : (grow s xs).length = n := by rw [grow_len (by rw [hs.ln, hl]), hl]
  have tk := taker_lt (xs := grow s xs) (by omega)
  have pl : (pay (grow s xs) (taker (grow s xs))).length = n := by rw [pay_len, gl]
  have gs := grow_sum1 hs hl
  refine ⟨fun m h1 h2 => ?_, fun i hi => ?_⟩
  · have hk := lotF_ok (pay (grow s xs) (taker (grow s xs))) m
    generalize lotF (pay (grow s xs) (taker (grow s xs))) m = c at hk
    have hcn := hk.nodup
    have hcl : c.length = m := by rw [hk.len, pl]; omega
    have hcb : ∀ i ∈ c, i < n := fun i hi => by have := hk.lt i hi; omega
    by_cases hp : taker (grow s xs) ∈ c
    · have e1 := step_in hs hl hcn hcb hp
      have e2 := lot_max (lotF_ok xs m) (by omega) hcn hcl (fun i hi => by rw [hl]; exact hcb i hi)
      have e3 := h.hi m h1 h2
      have e4 := alw_mono (n := n) (b := b) (c := b + 1) (m := m) (by omega)
      grind
    · have hpn : (taker (grow s xs) :: c).Nodup := List.nodup_cons.mpr ⟨hp, hcn⟩
      have hpb : ∀ i ∈ taker (grow s xs) :: c, i < xs.length := fun i hi => by
        rw [hl]
        rcases List.mem_cons.mp hi with rfl | hi
        · omega
        · exact hcb i hi
      have hmn : m < n := by
        have := nodup_len (l := List.range xs.length) hpn fun i hi => List.mem_range.mpr (hpb i hi)
        rw [List.length_cons, List.length_range, hl] at this
        omega
      have e1 := step_out h0 hs hl hcn hcb hp
      have e2 := lot_max (lotF_ok xs (m + 1)) (by omega) hpn (by rw [List.length_cons, hcl]) hpb
      have e3 := h.hi (m + 1) (by omega) (by omega)
      have e4 := alw_step (b := b) hmn
      rw [hcl] at e1
      have hmm : (0 : Rat) ≤ (m : Rat) := Rat.natCast_nonneg
      have e5 : (m : Rat) * (1 + sumOn xs (taker (grow s xs) :: c)) ≤ (m : Rat) * (1 + alw n b (m + 1)) := Rat.mul_le_mul_of_nonneg_left (by grind) hmm
      have h3 : (0 : Rat) < ((m + 1 : Nat) : Rat) := Rat.natCast_pos.mpr (by omega)
      refine Rat.le_of_mul_le_mul_left (a := sumOn (pay (grow s xs) (taker (grow s xs))) c) (b := alw n (b + 1) m) (c := ((m + 1 : Nat) : Rat)) ?_ h3
      rw [e4]
      exact Rat.le_trans e1 e5
  · rw [pay_getD tk]
    split
    · have := taker_avg h0 gl (by rw [gs, hz]; grind)
      grind
    · rw [grow_getD (by rw [hs.ln, hl]) (by omega)]
      have h1 := h.lo i hi
      have h2 := share_nonneg hs i
      grind
theorem getD_zeros (n i : Nat) : (List.replicate n (0 : Rat)).getD i 0 = 0 := by
  rw [List.getD_eq_getElem?_getD, List.getElem?_replicate]
  split <;> rfl
theorem unit_le_one {n : Nat} (h : 0 < n) : mkRat 1 n ≤ 1 := by
  have e := mkRat_one_mul h
  have h3 : (0 : Rat) < (n : Rat) := Rat.natCast_pos.mpr h
  refine Rat.le_of_mul_le_mul_left (c := (n : Rat)) ?_ h3
  rw [e]
  have : ((1 : Nat) : Rat) ≤ (n : Rat) := Rat.natCast_le_natCast.mpr h
  have e1 : ((1 : Nat) : Rat) = 1 := rfl
  rw [e1] at this
  grind
theorem alw_nonneg (n b m : Nat) : 0 ≤ alw n b m := by
  unfold alw
  have h1 := hsum_mono (m + 1) (n := 0) (m := min n (m + b) - m) (Nat.zero_le _)
  have h2 : (0 : Rat) ≤ (m : Rat) := Rat.natCast_nonneg
  exact Rat.mul_nonneg h2 h1
theorem Calm.zero {n : Nat} (h : 0 < n) (b : Nat) : Calm n b (List.replicate n 0) := by
  refine ⟨fun m h1 h2 => ?_, fun i hi => ?_⟩
  · have e := sum_zero (f := fun i => (List.replicate n (0 : Rat)).getD i 0) (lotF (List.replicate n 0) m) fun i _ => getD_zeros n i
    unfold sumOn
    rw [e]
    exact alw_nonneg n b m
  · rw [getD_zeros]
    have := unit_le_one h
    grind
/-- of calm debts none is above most -/
theorem Calm.most {n b i : Nat} {xs : List Rat} (h : Calm n b xs) (hl : xs.length = n) (hi : i < n) : xs.getD i 0 ≤ hsum 2 (min n (b + 1) - 1) := by
  have e := lot_max (lotF_ok xs 1) (by omega) (d := [i]) (by simp) rfl (fun j hj => by rw [List.mem_singleton.mp hj, hl]; exact hi)
  have e2 := h.hi 1 (by omega) (by omega)
  rw [alw_one] at e2
  have e3 : sumOn xs [i] = xs.getD i 0 := by
    unfold sumOn
    show xs.getD i 0 + ([] : List Rat).sum = _
    rw [show ([] : List Rat).sum = 0 from rfl, Rat.add_zero]
  rw [e3] at e
  grind
/-! THE STEP OF GAMES (plain) -/
theorem perm_ofMap {α β : Type} (f : α → β) {l l' : List β} (h : l.Perm l') : ∀ r : List α, l' = r.map f → ∃ σ : List α, σ.Perm r ∧ l = σ.map f := by
  induction h with
  | nil => exact fun r e => ⟨[], by rw [List.map_eq_nil_iff.mp e.symm], rfl⟩
  | cons x _ ih =>
    intro r e
    cases r with
    | nil => cases e
    | cons a r =>
      rw [List.map_cons] at e
      injection e with e1 e2
      obtain ⟨σ, h1, h2⟩ := ih r e2
      exact ⟨a :: σ, h1.cons a, by rw [List.map_cons, h2, e1]⟩
  | swap x y l =>
    intro r e
    match r, e with
    | a :: b :: r, e =>
      rw [List.map_cons, List.map_cons] at e
      injection e with e1 e2
      injection e2 with e2 e3
      exact ⟨b :: a :: r, .swap a b r, by rw [List.map_cons, List.map_cons, e1, e2, e3]⟩
  | trans _ _ ih1 ih2 =>
    intro r e
    obtain ⟨σ, h1, h2⟩ := ih2 r e
    obtain ⟨τ, h3, h4⟩ := ih1 σ h2
    exact ⟨τ, h3.trans h1, h4⟩
theorem perm_idx {ys xs : List Rat} (h : ys.Perm xs) : ∃ σ : List Nat, σ.Perm (List.range xs.length) ∧ ys = σ.map fun i => xs.getD i 0 := perm_ofMap _ h _ (map_getD_range xs).symm
theorem Calm.perm {n b : Nat} {xs ys : List Rat} (h : Calm n b xs) (hl : xs.length = n) (p : ys.Perm xs) : Calm n b ys := by
  obtain ⟨σ, hσ, rfl⟩ := perm_idx p
  have sl : σ.length = n := by rw [hσ.length_eq, List.length_range, hl]
  have sn : σ.Nodup := hσ.nodup_iff.mpr List.nodup_range
  have sb : ∀ i, i < n → σ.getD i 0 < n := fun i hi => by
    have hm : σ.getD i 0 ∈ σ := by rw [List.getD_eq_getElem?_getD, List.getElem?_eq_getElem (by omega : i < σ.length)]; exact List.getElem_mem _
    have := List.mem_range.mp (hσ.mem_iff.mp hm)
    omega
  have at_ : ∀ i, i < n → (σ.map fun i => xs.getD i 0).getD i 0 = xs.getD (σ.getD i 0) 0 := fun i hi => by
    rw [List.getD_eq_getElem?_getD, List.getElem?_map, List.getElem?_eq_getElem (by omega : i < σ.length), List.getD_eq_getElem?_getD (l := σ), List.getElem?_eq_getElem (by omega : i < σ.length)]
    rfl
  have inj : ∀ i j, i < n → j < n → σ.getD i 0 = σ.getD j 0 → i = j := fun i j hi hj e => by
    rw [List.getD_eq_getElem?_getD, List.getElem?_eq_getElem (by omega : i < σ.length), List.getD_eq_getElem?_getD, List.getElem?_eq_getElem (by omega : j < σ.length)] at e
    exact (List.getElem_inj sn).mp e
  refine ⟨fun m h1 h2 => ?_, fun i hi => by rw [at_ i hi]; exact h.lo _ (sb i hi)⟩
  have hL := lotF_ok (σ.map fun i => xs.getD i 0) m
  have hlt : ∀ i ∈ lotF (σ.map fun i => xs.getD i 0) m, i < n := fun i hi => by
    have := hL.lt i hi
    rwa [List.length_map, sl] at this
  have hnd := hL.nodup
  have hln := hL.len
  rw [List.length_map, sl, Nat.min_eq_left h2] at hln
  generalize lotF (σ.map fun i => xs.getD i 0) m = c at hlt hnd hln ⊢
  have e : sumOn (σ.map fun i => xs.getD i 0) c = sumOn xs (c.map fun i => σ.getD i 0) := by
    unfold sumOn
    rw [List.map_map]
    congr 1
    exact List.map_congr_left fun i hi => at_ i (hlt i hi)
  rw [e]
  refine Rat.le_trans (lot_max (lotF_ok xs m) (by omega) ?_ (by rw [List.length_map, hln]) fun i hi => ?_) (h.hi m h1 h2)
  · exact List.pairwise_map.mpr (hnd.imp_of_mem fun ha hb hne z => hne (inj _ _ (hlt _ ha) (hlt _ hb) z))
  · obtain ⟨j, hj, rfl⟩ := List.mem_map.mp hi
    rw [hl]
    exact sb j (hlt j hj)
theorem rowsF_Sg {n B : Nat} (hB : 1 ≤ B ∧ B ≤ 360) {s : Int × List Int} (h : s ∈ rowsF n B) : Sg (n : Int) s := by
  obtain ⟨l, hl, rfl⟩ := List.mem_map.mp h
  obtain ⟨_, h1, h2⟩ := (tpsF_mem _ _ _).mp hl
  refine ⟨by show (1 : Int) ≤ (B : Int); omega, by show (B : Int) ≤ 360; omega, by show (((l.map fun t : Nat => (t : Int)).length : Nat) : Int) = n; rw [List.length_map, h1], fun t ht => ?_, ?_⟩
  · obtain ⟨k, hk, rfl⟩ := List.mem_map.mp ht
    have := sum_le hk
    show 0 ≤ (k : Int) ∧ (k : Int) ≤ (B : Int)
    omega
  · show (l.map fun t : Nat => (t : Int)).sum = (B : Int)
    rw [← h2]
    clear hl h1 h2 h
    induction l with
    | nil => rfl
    | cons a l ih => rw [List.map_cons, List.sum_cons, List.sum_cons, ih]; omega
theorem foldl_mn_le {α : Type} (f : α → Rat) : ∀ (l : List α) (a : Rat), l.foldl (fun a i => mn2 a (f i)) a ≤ a ∧ ∀ i ∈ l, l.foldl (fun a i => mn2 a (f i)) a ≤ f i
  | [], a => ⟨Rat.le_refl, fun _ h => (nomatch h)⟩
  | i :: l, a => by
    rw [List.foldl_cons]
    obtain ⟨h1, h2⟩ := foldl_mn_le f l (mn2 a (f i))
    have h3 : mn2 a (f i) ≤ a ∧ mn2 a (f i) ≤ f i := by unfold mn2; split <;> grind
    exact ⟨Rat.le_trans h1 h3.1, fun j hj => (List.mem_cons.mp hj).elim (fun e => by rw [e]; exact Rat.le_trans h1 h3.2) (h2 j)⟩
theorem ansR_le {f : List Rat → Rat} {one : Bool} {d : List Rat} {s : Int × List Int} {i : Nat} (h : i < d.length) : ansR f one d s ≤ dealV f one d s i := by
  unfold ansR
  obtain ⟨h1, h2⟩ := foldl_mn_le (fun i => dealV f one d s (i + 1)) (List.range (d.length - 1)) (dealV f one d s 0)
  cases i with
  | zero => exact h1
  | succ i => exact h2 i (List.mem_range.mpr (by omega))
theorem ansR_ge {f : List Rat → Rat} {one : Bool} {d : List Rat} {s : Int × List Int} {v : Rat} (h : 0 < d.length) (hv : ∀ i, i < d.length → v ≤ dealV f one d s i) : v ≤ ansR f one d s := by
  obtain ⟨i, hi, e⟩ := ansR_at (f := f) (one := one) (s := s) h
  rw [e]
  exact hv i hi
theorem getD_mem0 {xs : List Rat} {i : Nat} (h : i < xs.length) : xs.getD i 0 ∈ xs := by
  rw [List.getD_eq_getElem?_getD, List.getElem?_eq_getElem h]
  exact List.getElem_mem _
theorem mem_getD0 {xs : List Rat} {y : Rat} (h : y ∈ xs) : ∃ i, i < xs.length ∧ xs.getD i 0 = y := by
  obtain ⟨i, hi, e⟩ := List.mem_iff_getElem.mp h
  exact ⟨i, hi, by rw [List.getD_eq_getElem?_getD, List.getElem?_eq_getElem hi]; exact e⟩
theorem calm_mx {n t : Nat} {xs : List Rat} (h : Calm n t xs) (hl : xs.length = n) (h0 : 0 < n) : mxR xs ≤ hsum 2 (min n (t + 1) - 1) := by
  refine (mxR_le fun z => by rw [z, List.length_nil] at hl; omega).mpr fun y hy => ?_
  obtain ⟨i, hi, rfl⟩ := mem_getD0 hy
  exact h.most hl (by omega)
/-- from calm debts on no worth is above what is allowed -/
theorem Wd_up {n B : Nat} (hB : 1 ≤ B ∧ B ≤ 12) (hn : 1 ≤ n ∧ n ≤ 12) : ∀ (b t : Nat) (xs : List Rat), Calm n t xs → xs.length = n → xs.sum = 0 → Wd (rowsF n B) b xs ≤ hsum 2 (min n (t + b + 1) - 1)
  | 0, t, xs, hc, hl, _ => calm_mx hc hl (by omega)
  | b + 1, t, xs, hc, hl, hz => by
    have hp := srtR_perm xs
    have hc2 := Calm.perm hc hl hp
    have hl2 : (srtR xs).length = n := by rw [hp.length_eq, hl]
    have hz2 : (srtR xs).sum = 0 := by rw [rsum_perm hp, hz]
    show mxR ((rowsF n B).map fun s => ansR (Wd (rowsF n B) b) (b == 0) (srtR xs) s) ≤ _
    refine (mxR_le fun z => rowsF_ne (B := B) hn.1 (List.map_eq_nil_iff.mp z)).mpr fun y hy => ?_
    obtain ⟨s, hs, rfl⟩ := List.mem_map.mp hy
    have hR : ShR n s := (rowsF_Sg (by omega) hs).R (by omega)
    have gl : (grow s (srtR xs)).length = n := by rw [grow_len (by rw [hR.ln, hl2]), hl2]
    have tk : taker (grow s (srtR xs)) < n := by have := taker_lt (xs := grow s (srtR xs)) (by omega); omega
    refine Rat.le_trans (ansR_le (i := taker (grow s (srtR xs))) (by omega)) ?_
    have hc3 := hc2.step (by omega) hR hl2 hz2
    have pl : (pay (grow s (srtR xs)) (taker (grow s (srtR xs)))).length = n := by rw [pay_len, gl]
    have pz : (pay (grow s (srtR xs)) (taker (grow s (srtR xs)))).sum = 0 := by rw [step_sum hR hl2 tk, hz2]
    have m1 := Rat.le_trans (calm_mx hc3 pl (by omega)) (hsum_mono 2 (show min n (t + 1 + 1) - 1 ≤ min n (t + (b + 1) + 1) - 1 by omega))
    unfold dealV
    split
    · exact m1
    · refine mx2_le.mpr ⟨m1, ?_⟩
      have := Wd_up hB hn b (t + 1) _ hc3 pl pz
      rwa [show t + 1 + b + 1 = t + (b + 1) + 1 by omega] at this
theorem mxR_mono {α : Type} {f g : α → Rat} {l : List α} (hne : l ≠ []) (h : ∀ x ∈ l, f x ≤ g x) : mxR (l.map f) ≤ mxR (l.map g) := by
  refine (mxR_le fun z => hne (List.map_eq_nil_iff.mp z)).mpr fun y hy => ?_
  obtain ⟨x, hx, rfl⟩ := List.mem_map.mp hy
  exact Rat.le_trans (h x hx) (le_mxR (List.mem_map_of_mem hx))
theorem mx2_l (a b : Rat) : a ≤ mx2 a b := (mx2_le.mp Rat.le_refl).1
theorem mx2_r (a b : Rat) : b ≤ mx2 a b := (mx2_le.mp Rat.le_refl).2
/-- more beats are never worth less -/
theorem Wd_more {n B : Nat} (hn : 1 ≤ n) : ∀ (b : Nat) (xs : List Rat), xs.length = n → Wd (rowsF n B) (b + 1) xs ≤ Wd (rowsF n B) (b + 2) xs
  | 0, xs, hl => mxR_mono (rowsF_ne hn) fun s _ => ansR_ge (by rw [(srtR_perm xs).length_eq]; omega) fun i hi => Rat.le_trans (ansR_le hi) (mx2_l _ _)
  | b + 1, xs, hl => mxR_mono (rowsF_ne hn) fun s hs => ansR_ge (by rw [(srtR_perm xs).length_eq]; omega) fun i hi => Rat.le_trans (ansR_le hi) (by
      have sl := ((tpsF_mem _ _ _).mp (List.mem_map.mp hs).choose_spec.1).2.1
      have se := (List.mem_map.mp hs).choose_spec.2
      have s2 : s.2.length = n := by rw [← se]; show ((List.map _ _).length : Nat) = n; rw [List.length_map, sl]
      have gl : (grow s (srtR xs)).length = n := by rw [grow_len (by rw [s2, (srtR_perm xs).length_eq, hl]), (srtR_perm xs).length_eq, hl]
      exact mx2_le.mpr ⟨mx2_l _ _, Rat.le_trans (Wd_more hn b _ (by rw [pay_len, gl])) (mx2_r _ _)⟩)
theorem tps_mul {n B k : Nat} {l : List Nat} (h : l ∈ tpsF n B) : l.map (k * ·) ∈ tpsF n (k * B) := by
  obtain ⟨h1, h2, h3⟩ := (tpsF_mem _ _ _).mp h
  refine (tpsF_mem _ _ _).mpr ⟨h1, by rw [List.length_map, h2], ?_⟩
  rw [← h3]
  clear h h1 h2 h3
  induction l with
  | nil => rfl
  | cons a l ih => rw [List.map_cons, List.sum_cons, List.sum_cons, ih, Nat.mul_add]
/-- a finer bottom is never worth less -/
theorem Wd_fine {n B k : Nat} (hn : 1 ≤ n) (hk : 1 ≤ k) (hB : 1 ≤ B) : ∀ (b : Nat) (xs : List Rat), xs.length = n → Wd (rowsF n B) b xs ≤ Wd (rowsF n (k * B)) b xs
  | 0, xs, _ => Rat.le_refl
  | b + 1, xs, hl => by
    refine (mxR_le fun z => rowsF_ne (B := B) hn (List.map_eq_nil_iff.mp z)).mpr fun y hy => ?_
    obtain ⟨s, hs, rfl⟩ := List.mem_map.mp hy
    obtain ⟨l, hll, rfl⟩ := List.mem_map.mp hs
    have hm := List.mem_map_of_mem (f := shF (k * B)) (tps_mul (k := k) hll)
    have ge : grow (shF (k * B) (l.map (k * ·))) (srtR xs) = grow (shF B l) (srtR xs) := by
      have := grow_scale (c := (k : Int)) (b := (B : Int)) (ts := l.map fun t : Nat => (t : Int)) (xs := srtR xs) (by omega) (by omega)
      have e : shF (k * B) (l.map (k * ·)) = ((k : Int) * (B : Int), (l.map fun t : Nat => (t : Int)).map fun t => (k : Int) * t) := by
        unfold shF
        rw [List.map_map, List.map_map]
        exact Prod.ext (Int.natCast_mul _ _) (List.map_congr_left fun t _ => Int.natCast_mul _ _)
      rw [e]
      exact this
    refine Rat.le_trans ?_ (le_mxR (List.mem_map_of_mem hm))
    refine ansR_ge (by rw [(srtR_perm xs).length_eq]; omega) fun i hi => Rat.le_trans (ansR_le hi) ?_
    have sl := ((tpsF_mem _ _ _).mp hll).2.1
    have gl : (grow (shF B l) (srtR xs)).length = n := by rw [grow_len (by show ((List.map _ _).length : Nat) = _; rw [List.length_map, sl, (srtR_perm xs).length_eq, hl]), (srtR_perm xs).length_eq, hl]
    unfold dealV
    rw [ge]
    split
    · exact Rat.le_refl
    · exact mx2_le.mpr ⟨mx2_l _ _, Rat.le_trans (Wd_fine hn hk hB b _ (by rw [pay_len, gl])) (mx2_r _ _)⟩
/-- shares c to the first so many of those who have no less than h -/
def mkT (h : Rat) (c : Nat) : Nat → List Rat → List Nat
  | 0, d => d.map fun _ => 0
  | _ + 1, [] => []
  | j + 1, x :: d => if h ≤ x then c :: mkT h c j d else 0 :: mkT h c (j + 1) d
theorem mkT_len {h : Rat} {c : Nat} : ∀ (j : Nat) (d : List Rat), (mkT h c j d).length = d.length
  | 0, d => by
    unfold mkT
    exact List.length_map _
  | _ + 1, [] => rfl
  | j + 1, x :: d => by
    unfold mkT
    split
    · rw [List.length_cons, List.length_cons, mkT_len j d]
    · rw [List.length_cons, List.length_cons, mkT_len (j + 1) d]
theorem sum_noughts {α : Type} : ∀ d : List α, (d.map fun _ => (0 : Nat)).sum = 0
  | [] => rfl
  | _ :: d => by rw [List.map_cons, List.sum_cons, sum_noughts d]
def atL (h : Rat) (d : List Rat) : Nat := d.countP fun x => decide (h ≤ x)
theorem atL_cons {h x : Rat} {d : List Rat} : atL h (x :: d) = atL h d + if h ≤ x then 1 else 0 := by
  unfold atL
  rw [List.countP_cons]
  by_cases z : h ≤ x
  · rw [if_pos (decide_eq_true z), if_pos z]
  · rw [if_neg (by rw [decide_eq_false z]; decide), if_neg z]
theorem mkT_sum {h : Rat} {c : Nat} : ∀ (j : Nat) (d : List Rat), j ≤ atL h d → (mkT h c j d).sum = j * c
  | 0, d, _ => by
    rw [Nat.zero_mul]
    unfold mkT
    exact sum_noughts d
  | j + 1, [], hj => absurd hj (by show ¬ j + 1 ≤ 0; omega)
  | j + 1, x :: d, hj => by
    rw [atL_cons] at hj
    unfold mkT
    split
    · rename_i z
      rw [if_pos z] at hj
      rw [List.sum_cons, mkT_sum j d (by omega), Nat.succ_mul, Nat.add_comm]
    · rename_i z
      rw [if_neg z] at hj
      rw [List.sum_cons, mkT_sum (j + 1) d (by omega), Nat.zero_add]
theorem mkT_grow {h : Rat} {c B : Nat} : ∀ (j : Nat) (d : List Rat), j ≤ atL h d → j ≤ atL (h + mkRat (c : Nat) B) (grow (shF B (mkT h c j d)) d)
  | 0, d, _ => Nat.zero_le _
  | j + 1, [], hj => absurd hj (by show ¬ j + 1 ≤ 0; omega)
  | j + 1, x :: d, hj => by
    rw [atL_cons] at hj
    have gc : ∀ (t : Nat) (l : List Nat), grow (shF B (t :: l)) (x :: d) = (x + mkRat (t : Nat) B) :: grow (shF B l) d := fun t l => rfl
    unfold mkT
    split
    · rename_i z
      rw [if_pos z] at hj
      have := mkT_grow (h := h) (c := c) (B := B) j d (by omega)
      rw [gc, atL_cons, if_pos (by grind)]
      omega
    · rename_i z
      rw [if_neg z] at hj
      have := mkT_grow (h := h) (c := c) (B := B) (j + 1) d (by omega)
      rw [gc, atL_cons]
      omega
theorem atL_set {h v : Rat} : ∀ (xs : List Rat) (i : Nat), atL h xs ≤ atL h (xs.set i v) + 1
  | [], _ => Nat.zero_le _
  | x :: xs, 0 => by
    rw [List.set_cons_zero, atL_cons, atL_cons]
    split <;> split <;> omega
  | x :: xs, i + 1 => by
    rw [List.set_cons_succ, atL_cons, atL_cons]
    have := atL_set (h := h) (v := v) xs i
    omega
theorem atL_mx {h : Rat} {xs : List Rat} (hj : 1 ≤ atL h xs) : h ≤ mxR xs := by
  obtain ⟨y, hy, z⟩ := List.countP_pos_iff.mp hj
  exact Rat.le_trans (of_decide_eq_true z) (le_mxR hy)
theorem part_eq {j B : Nat} (hj : 1 ≤ j) (hB : 1 ≤ B) (hd : j ∣ B) : mkRat ((B / j : Nat) : Int) B = mkRat 1 j := by
  rw [Rat.mkRat_eq_iff (by omega) (by omega)]
  rw [Int.one_mul, ← Int.natCast_mul, Nat.div_mul_cancel hd]
/-- what a foe makes of a group -/
theorem Wd_low {n B : Nat} (hB : 1 ≤ B) (hn : 1 ≤ n) : ∀ (k b : Nat) (h : Rat) (xs : List Rat), xs.length = n → k + 1 ≤ b → k + 2 ≤ atL h xs → (∀ i, 2 ≤ i → i ≤ k + 2 → i ∣ B) → h + hsum 2 (k + 1) ≤ Wd (rowsF n B) b xs
  | k, 0, _, _, _, hb, _, _ => absurd hb (by omega)
  | k, b + 1, h, xs, hl, hb, hc, hd => by
    have hl2 : (srtR xs).length = n := by rw [(srtR_perm xs).length_eq, hl]
    have hc2 : k + 2 ≤ atL h (srtR xs) := by unfold atL at hc ⊢; rw [(srtR_perm xs).countP_eq]; exact hc
    have hm : mkT h (B / (k + 2)) (k + 2) (srtR xs) ∈ tpsF n B := (tpsF_mem _ _ _).mpr ⟨hn, by rw [mkT_len, hl2], by rw [mkT_sum _ _ hc2, Nat.mul_div_cancel' (hd (k + 2) (by omega) (Nat.le_refl _))]⟩
    refine Rat.le_trans ?_ (le_mxR (List.mem_map_of_mem (List.mem_map_of_mem (f := shF B) hm)))
    refine ansR_ge (by omega) fun i hi => ?_
    have gr := mkT_grow (c := B / (k + 2)) (B := B) (k + 2) (srtR xs) hc2
    rw [part_eq (by omega) hB (hd (k + 2) (by omega) (Nat.le_refl _))] at gr
    have gl : (grow (shF B (mkT h (B / (k + 2)) (k + 2) (srtR xs))) (srtR xs)).length = n := by rw [grow_len (by show ((List.map _ _).length : Nat) = _; rw [List.length_map, mkT_len]), hl2]
    unfold dealV
    generalize grow (shF B (mkT h (B / (k + 2)) (k + 2) (srtR xs))) (srtR xs) = g at gr gl ⊢
    have pc : k + 1 ≤ atL (h + mkRat 1 (k + 2)) (pay g i) := by
      have := atL_set (h := h + mkRat 1 (k + 2)) (v := g.getD i 0 - 1) g i
      unfold pay
      omega
    cases k with
    | zero =>
      have e : h + hsum 2 (0 + 1) = h + mkRat 1 (0 + 2) := by
        show h + (0 + mkRat 1 (2 + 0)) = _
        rw [Rat.zero_add]
      rw [e]
      have m := atL_mx (by omega : 1 ≤ atL (h + mkRat 1 (0 + 2)) (pay g i))
      split
      · exact m
      · exact Rat.le_trans m (mx2_l _ _)
    | succ k =>
      have b0 : (b == 0) = false := beq_eq_false_iff_ne.mpr (by omega)
      rw [b0, if_neg (by decide)]
      refine Rat.le_trans ?_ (mx2_r _ _)
      have := Wd_low hB hn k b (h + mkRat 1 (k + 1 + 2)) (pay g i) (by rw [pay_len, gl]) (by omega) pc fun i h1 h2 => hd i h1 (by omega)
      have e : hsum 2 (k + 1 + 1) = hsum 2 (k + 1) + mkRat 1 (k + 1 + 2) := by
        show hsum 2 (k + 1) + mkRat 1 (2 + (k + 1)) = _
        rw [Nat.add_comm 2 (k + 1)]
      rw [e]
      grind
theorem Wd_nn {n B : Nat} (hB : 1 ≤ B ∧ B ≤ 12) (hn : 1 ≤ n ∧ n ≤ 12) : ∀ (b : Nat) (xs : List Rat), xs.length = n → xs.sum = 0 → 0 ≤ Wd (rowsF n B) b xs := by
  have mz : ∀ xs : List Rat, xs.length = n → xs.sum = 0 → 0 ≤ mxR xs := fun xs hl hz => by
    have tk := taker_lt (xs := xs) (by omega)
    exact Rat.le_trans (taker_nonneg (by omega) (by rw [hz]; exact Rat.le_refl)) (le_mxR (getD_mem0 tk))
  intro b xs hl hz
  cases b with
  | zero => exact mz xs hl hz
  | succ b =>
    have hp := srtR_perm xs
    have hl2 : (srtR xs).length = n := by rw [hp.length_eq, hl]
    obtain ⟨s, hs⟩ : ∃ s, s ∈ rowsF n B := List.exists_mem_of_ne_nil _ (rowsF_ne hn.1)
    refine Rat.le_trans ?_ (le_mxR (List.mem_map_of_mem hs))
    have hR : ShR n s := (rowsF_Sg (by omega) hs).R (by omega)
    have gl : (grow s (srtR xs)).length = n := by rw [grow_len (by rw [hR.ln, hl2]), hl2]
    refine ansR_ge (by omega) fun i hi => ?_
    have m := mz (pay (grow s (srtR xs)) i) (by rw [pay_len, gl]) (by rw [step_sum hR hl2 (by omega), rsum_perm hp, hz])
    unfold dealV
    split
    · exact m
    · exact Rat.le_trans m (mx2_l _ _)
theorem perm_ofMapD {ys : List D} {r : List Int} (h : ys.Perm (r.map D.int)) : ∃ σ : List Int, σ.Perm r ∧ ys = σ.map D.int := perm_ofMap D.int h r rfl
theorem isum_perm {a b : List Int} (h : a.Perm b) : a.sum = b.sum := by
  induction h with
  | nil => rfl
  | cons x _ ih => rw [List.sum_cons, List.sum_cons, ih]
  | swap x y l => rw [List.sum_cons, List.sum_cons, List.sum_cons, List.sum_cons]; omega
  | trans _ _ h1 h2 => rw [h1, h2]
abbrev sp_L_debts : DSp := fun ds G Q _ => ∃ (h : Addr) (n : Nat), ds = [.ref h, .int (n : Nat)] ∧ isHand G h ∧ (1 ≤ n ∧ n ≤ 12) ∧ (∀ xs, xs.length = n → xs.sum = 0 → Szs LL 20 xs → Q (frts xs) G)
def t_L_debts : DS :=
  (dSeq (dIfS (dB (dOp dEq (dCall sp_L_draw X0 (aCons (dVar 0) (aCons (dC (.int 3)) aNil))) (dC (.int 0)))) (dRet (dOp (dMul false) (dTup (aCons (dTup (aCons (dC (.int 0)) (aCons (dC (.int 1)) aNil))) aNil)) (dVar 1))) dNext)
  (dSeq (dAsg 2 (dCall sp_L_some X0 (aCons (dVar 0) (aCons (dLst false (aCons (dC (.int 1)) (aCons (dC (.int 2)) (aCons (dC (.int 3)) (aCons (dC (.int 4)) (aCons (dC (.int 6)) (aCons (dC (.int 12)) aNil))))))) aNil))))
  (dSeq (dAsg 3 (dLc false (dRange1 (aCons (dOp dSub (dVar 1) (dC (.int 1))) aNil)) (gN 4) dYes (dOp dSub (dCall sp_L_draw X0 (aCons (dVar 0) (aCons (dOp (dAdd false) (dOp (dMul false) (dC (.int 2)) (dVar 2)) (dC (.int 1))) aNil))) (dVar 2)) [4]))
  (dRet (dCB dTupleOf (aCons (dLc false (dSeqI (dCall sp_L_shuffled X0 (aCons (dVar 0) (aCons (dOp (dAdd false) (dVar 3) (dLst false (aCons (dUn dNegR (dCB dSum (aCons (dVar 3) aNil))) aNil))) aNil)))) (gN 5) dYes (dCall sp_L_low X0 (aCons (dVar 5) (aCons (dVar 2) aNil))) [5]) aNil))))))
theorem len_L_debts : ∀ ds G Q E, sp_L_debts ds G Q E → ds.length = ["_law_hand_here", "_law_n"].length := by
  intro ds G Q E h
  first | (obtain ⟨rfl, _⟩ := h; rfl) | (obtain ⟨_, rfl, _⟩ := h; rfl) | (obtain ⟨_, _, rfl, _⟩ := h; rfl) | (obtain ⟨_, _, _, rfl, _⟩ := h; rfl) | (obtain ⟨_, _, _, _, rfl, _⟩ := h; rfl) | (obtain ⟨_, _, _, _, _, rfl, _⟩ := h; rfl) | (obtain ⟨_, _, _, _, _, _, rfl, _⟩ := h; rfl) | (obtain ⟨_, _, _, _, _, _, _, rfl, _⟩ := h; rfl) | (obtain ⟨_, _, _, _, _, _, _, _, rfl, _⟩ := h; rfl) | (obtain ⟨_, _, _, _, _, _, _, _, _, rfl, _⟩ := h; rfl) | (obtain ⟨_, _, _, _, _, _, _, _, _, _, rfl, _⟩ := h; rfl) | (obtain ⟨_, _, _, _, _, _, _, _, _, _, _, rfl, _⟩ := h; rfl) | (obtain ⟨_, _, _, _, _, _, _, _, _, _, _, _, rfl, _⟩ := h; rfl) | (obtain ⟨_, _, _, _, _, _, _, _, _, _, _, _, _, rfl, _⟩ := h; rfl) | (obtain ⟨_, _, _, _, _, _, _, _, _, _, _, _, _, _, rfl, _⟩ := h; rfl) | (obtain ⟨_, _, _, _, _, _, _, _, _, _, _, _, _, _, _, rfl, _⟩ := h; rfl)
theorem rd_L_debts : ∀ ds G Q E', sp_L_debts ds G Q E' → t_L_debts (endD Q) (startD ["_law_hand_here", "_law_n", "_law_bottom", "_law_tops_here", "_law_person", "_law_top"] ds) G := by
  rintro ds G Q E' ⟨h, n, rfl, hh, hn, q⟩
  unfold t_L_debts
  refine dSeq_mk ?_
  walk_at "dl"
  refine ⟨hh, by decide, by decide, fun kd k0 k1 => ?_⟩
  have ez : D.tup (rep n [.tup [.int 0, .int 1]]) = frts (List.replicate n 0) := by
    unfold frts
    rw [rep_one, List.map_replicate, Int.toNat_natCast]
    rfl
  split
  · refine ⟨by decide, by decide, by omega, by omega, by decide, ?_⟩
    rw [ez]
    refine Rt.same (q _ List.length_replicate (zeros_sum n) fun x hx => ?_)
    exact (szs_zero n x hx).mono (Nat.dvd_refl _) (by omega)
  · refine dSeq_mk ?_
    walk_at "dl"
    refine ⟨by decide, _, _, _, rfl, hh, rfl, by decide, fun y hy => ?_⟩
    obtain ⟨b, rfl, hb1, hb2⟩ : ∃ b : Nat, y = .int (b : Nat) ∧ 1 ≤ b ∧ b ≤ 12 := by
      have key : ∀ i : Int, 1 ≤ i → i ≤ 12 → ∃ b : Nat, D.int i = .int (b : Nat) ∧ 1 ≤ b ∧ b ≤ 12 := fun i h0 h1 => ⟨i.toNat, by rw [Int.toNat_of_nonneg (by omega)], by omega, by omega⟩
      revert y
      walk_at "all"
      exact ⟨key _ (by omega) (by omega), key _ (by omega) (by omega), key _ (by omega) (by omega), key _ (by omega) (by omega), key _ (by omega) (by omega), key _ (by omega) (by omega)⟩
    refine dSeq_mk ?_
    walk_at "dl"
    refine ⟨by omega, by omega, ?_⟩
    refine lc_rel (fun _ y => ∃ i : Int, (-(b : Int) ≤ i ∧ i ≤ (b : Int)) ∧ y = .int i) (Nat.le_trans (by unfold upD; rw [List.length_map, List.length_range]; omega : _ ≤ 1000) (by decide)) (fun _ _ _ => trivial) (fun x hx p ys Q' hp k => ?_) fun ys hys => ?_
    · walk_at "dl"
      refine ⟨.l (by omega) (by omega), hh.new hp, by omega, by omega, fun i i0 i1 => ?_⟩
      exact k _ ⟨_, ⟨by omega, by omega⟩, rfl⟩
    obtain ⟨ts, rfl, htl, hts⟩ := fa2_ints (P := fun i => -(b : Int) ≤ i ∧ i ≤ (b : Int)) hys
    have htl : ts.length = n - 1 := by rw [htl]; unfold upD; rw [List.length_map, List.length_range]; omega
    have hsa := sum_abs (by omega) ts hts
    have hbl : (b : Int) * (ts.length : Nat) ≤ (b : Int) * 12 := Int.mul_le_mul_of_nonneg_left (by omega) (by omega)
    walk_at "dl"
    refine ⟨by decide, ?_⟩
    walk_at "dl"
    rw [List.length_map]
    refine ⟨Nat.le_trans (by show ts.length + 1 ≤ 1000; omega) (by decide), ?_⟩
    have e1 : ts.map D.int ++ [D.int (-ts.sum)] = (ts ++ [-ts.sum]).map D.int := by rw [List.map_append]; rfl
    rw [e1]
    refine ⟨h, _, rfl, hh, by rw [List.length_map, List.length_append, List.length_singleton]; omega, fun ys hys => ?_⟩
    obtain ⟨us, hus, rfl⟩ := perm_ofMapD hys
    have hul : us.length = n := by rw [hus.length_eq, List.length_append, List.length_singleton]; omega
    have hu0 : us.sum = 0 := by rw [isum_perm hus, List.sum_append, List.sum_singleton]; omega
    have hub : ∀ t ∈ us, -(12 * (b : Int)) ≤ t ∧ t ≤ 12 * (b : Int) := by
      intro t ht
      rcases List.mem_append.mp (hus.mem_iff.mp ht) with ht | ht
      · have := hts t ht; omega
      · rw [List.mem_singleton.mp ht]; omega
    walk_at "dl"
    refine lc_src us D.int (fun t => fr (mkRat t b)) rfl (Nat.le_trans (by omega : _ ≤ 1000) (by decide)) (fun _ _ _ => trivial) (fun t ht p2 ys Q' hp2 k => ?_) ?_
    · walk_at "dl"
      refine ⟨_, _, rfl, ⟨by omega, by
        rw [Int.natAbs_natCast]
        exact Nat.lt_of_le_of_lt hb2 (Nat.lt_of_lt_of_le (by decide : 12 < 2 ^ 10) (Nat.pow_le_pow_right (by decide) (by decide)))⟩, ?_⟩
      rw [Int.toNat_natCast]
      exact k
    · walk_at "dl"
      have e2 : D.tup (us.map fun t => fr (mkRat t b)) = frts (us.map fun t => mkRat t b) := by
        unfold frts
        rw [List.map_map]
        rfl
      rw [e2]
      refine Rt.same (q _ (by rw [List.length_map, hul]) (by rw [mk_sum (by omega), hu0, Rat.zero_mkRat]) fun x hx => ?_)
      obtain ⟨t, ht, rfl⟩ := List.mem_map.mp hx
      have := hub t ht
      have dv : b ∣ LL := by have := LL_dvd (b := (b : Int)) (by omega) (by omega); rwa [Int.toNat_natCast] at this
      exact Sz.low LL_ne (by omega) dv (by omega) (by omega)
theorem mkRat_plusg (x : Rat) (t : Int) {b : Nat} (hb : b ≠ 0) : mkRat (x.num * (b : Nat) + t * (x.den : Nat)) (x.den * b) = x + mkRat t b := by
  have h := Rat.mkRat_add_mkRat x.num t x.den_nz hb
  rw [Rat.mkRat_self] at h
  exact h.symm
abbrev sp_L_plus : DSp := fun ds G Q _ => ∃ (x : Rat) (t : Int) (b : Nat), ds = [fr x, .tup [.int t, .int (b : Nat)]] ∧ Sm x ∧ t.natAbs < 2 ^ 3000 ∧ (0 < b ∧ b < 2 ^ 3000) ∧ Q (fr (x + mkRat t b)) G
def t_L_plus : DS :=
  (dRet (dCall sp_L_low X0 (aCons (dOp (dAdd false) (dOp (dMul false) (dOp dIx (dVar 0) (dC (.int 0))) (dOp dIx (dVar 1) (dC (.int 1)))) (dOp (dMul false) (dOp dIx (dVar 1) (dC (.int 0))) (dOp dIx (dVar 0) (dC (.int 1))))) (aCons (dOp (dMul false) (dOp dIx (dVar 0) (dC (.int 1))) (dOp dIx (dVar 1) (dC (.int 1)))) aNil))))
theorem len_L_plus : ∀ ds G Q E, sp_L_plus ds G Q E → ds.length = ["_law_one", "_law_other"].length := by
  intro ds G Q E h
  first | (obtain ⟨rfl, _⟩ := h; rfl) | (obtain ⟨_, rfl, _⟩ := h; rfl) | (obtain ⟨_, _, rfl, _⟩ := h; rfl) | (obtain ⟨_, _, _, rfl, _⟩ := h; rfl) | (obtain ⟨_, _, _, _, rfl, _⟩ := h; rfl) | (obtain ⟨_, _, _, _, _, rfl, _⟩ := h; rfl) | (obtain ⟨_, _, _, _, _, _, rfl, _⟩ := h; rfl) | (obtain ⟨_, _, _, _, _, _, _, rfl, _⟩ := h; rfl) | (obtain ⟨_, _, _, _, _, _, _, _, rfl, _⟩ := h; rfl) | (obtain ⟨_, _, _, _, _, _, _, _, _, rfl, _⟩ := h; rfl) | (obtain ⟨_, _, _, _, _, _, _, _, _, _, rfl, _⟩ := h; rfl) | (obtain ⟨_, _, _, _, _, _, _, _, _, _, _, rfl, _⟩ := h; rfl) | (obtain ⟨_, _, _, _, _, _, _, _, _, _, _, _, rfl, _⟩ := h; rfl) | (obtain ⟨_, _, _, _, _, _, _, _, _, _, _, _, _, rfl, _⟩ := h; rfl) | (obtain ⟨_, _, _, _, _, _, _, _, _, _, _, _, _, _, rfl, _⟩ := h; rfl) | (obtain ⟨_, _, _, _, _, _, _, _, _, _, _, _, _, _, _, rfl, _⟩ := h; rfl)
theorem rd_L_plus : ∀ ds G Q E', sp_L_plus ds G Q E' → t_L_plus (endD Q) (startD ["_law_one", "_law_other"] ds) G := by
  rintro ds G Q E' ⟨x, t, b, rfl, hx, ht, ⟨hb, hb2⟩, q⟩
  unfold t_L_plus fr
  walk_at "dl"
  have m1 : MulOk x.num (b : Nat) := .big (a := 3000) hx.n (by rw [Int.natAbs_natCast]; exact hb2) (by decide) (by decide)
  have m2 : MulOk t (x.den : Nat) := .big (a := 3000) ht (by rw [Int.natAbs_natCast]; exact hx.d) (by decide) (by decide)
  have m3 : MulOk (x.den : Nat) (b : Nat) := .big (a := 3000) (by rw [Int.natAbs_natCast]; exact hx.d) (by rw [Int.natAbs_natCast]; exact hb2) (by decide) (by decide)
  have e : ((x.den : Nat) : Int) * (b : Nat) = ((x.den * b : Nat) : Int) := (Int.natCast_mul _ _).symm
  have l : x.den * b < 2 ^ 8000 := by
    have h : x.den * b ≤ 2 ^ 3000 * 2 ^ 3000 := Nat.mul_le_mul (Nat.le_of_lt hx.d) (Nat.le_of_lt hb2)
    rw [← Nat.pow_add] at h
    exact Nat.lt_of_le_of_lt h (Nat.pow_lt_pow_right (by decide) (by decide))
  have p : 0 < x.den * b := Nat.mul_pos x.den_pos hb
  refine ⟨m1, m2, m3, ?_⟩
  rw [e]
  refine ⟨_, _, rfl, ⟨by omega, by rw [Int.natAbs_natCast]; exact l⟩, ?_⟩
  rw [Int.toNat_natCast, mkRat_plusg x t (by omega)]
  exact Rt.same q
abbrev sp_L_most : DSp := fun ds G Q _ => ∃ (n b : Nat), ds = [.int n, .int b] ∧ (1 ≤ n ∧ n ≤ 12) ∧ b ≤ 10 ^ 9 ∧ Q (fr (hsum 2 (min n (b + 1) - 1))) G
def t_L_most : DS :=
  (dSeq (dAsg 2 (dTup (aCons (dC (.int 0)) (aCons (dC (.int 1)) aNil))))
  (dSeq (dFor (dRange2 (aCons (dC (.int 2)) (aCons (dOp (dAdd false) (dCB dMin2 (aCons (dVar 0) (aCons (dOp (dAdd false) (dVar 1) (dC (.int 1))) aNil))) (dC (.int 1))) aNil))) (gN 3) (dAsg 2 (dCall sp_L_plus X0 (aCons (dVar 2) (aCons (dTup (aCons (dC (.int 1)) (aCons (dVar 3) aNil))) aNil)))))
  (dRet (dVar 2))))
theorem len_L_most : ∀ ds G Q E, sp_L_most ds G Q E → ds.length = ["_law_n", "_law_beats"].length := by
  intro ds G Q E h
  first | (obtain ⟨rfl, _⟩ := h; rfl) | (obtain ⟨_, rfl, _⟩ := h; rfl) | (obtain ⟨_, _, rfl, _⟩ := h; rfl) | (obtain ⟨_, _, _, rfl, _⟩ := h; rfl) | (obtain ⟨_, _, _, _, rfl, _⟩ := h; rfl) | (obtain ⟨_, _, _, _, _, rfl, _⟩ := h; rfl) | (obtain ⟨_, _, _, _, _, _, rfl, _⟩ := h; rfl) | (obtain ⟨_, _, _, _, _, _, _, rfl, _⟩ := h; rfl) | (obtain ⟨_, _, _, _, _, _, _, _, rfl, _⟩ := h; rfl) | (obtain ⟨_, _, _, _, _, _, _, _, _, rfl, _⟩ := h; rfl) | (obtain ⟨_, _, _, _, _, _, _, _, _, _, rfl, _⟩ := h; rfl) | (obtain ⟨_, _, _, _, _, _, _, _, _, _, _, rfl, _⟩ := h; rfl) | (obtain ⟨_, _, _, _, _, _, _, _, _, _, _, _, rfl, _⟩ := h; rfl) | (obtain ⟨_, _, _, _, _, _, _, _, _, _, _, _, _, rfl, _⟩ := h; rfl) | (obtain ⟨_, _, _, _, _, _, _, _, _, _, _, _, _, _, rfl, _⟩ := h; rfl) | (obtain ⟨_, _, _, _, _, _, _, _, _, _, _, _, _, _, _, rfl, _⟩ := h; rfl)
theorem rd_L_most : ∀ ds G Q E', sp_L_most ds G Q E' → t_L_most (endD Q) (startD ["_law_n", "_law_beats", "_law_found", "_law_k"] ds) G := by
  rintro ds G Q E' ⟨n, b, rfl, hn, hb, q⟩
  unfold t_L_most
  refine dSeq_mk ?_
  walk_at "dl"
  walk_at "sd"
  refine dSeq_mk ?_
  walk_at "dl"
  rw [show min (n : Int) ((b : Int) + 1) = ((min n (b + 1) : Nat) : Int) by omega]
  refine ⟨⟨by omega, by omega, by omega, by omega⟩, ?_⟩
  rw [show (((min n (b + 1) : Nat) : Int) + 1 - 2).toNat = min n (b + 1) - 1 by omega]
  refine forL_by (fun its δ G2 => G2 = G ∧ ∃ (j : Nat) (s3 : Option D), its = (upD 2 (min n (b + 1) - 1)).drop j ∧ j ≤ min n (b + 1) - 1 ∧ δ = [some (.int n), some (.int b), some (fr (hsum 2 j)), s3]) (fun _ _ _ _ => trivial) ?_ ?_ _ _ _ ⟨rfl, 0, _, rfl, Nat.zero_le _, rfl⟩
  · rintro x its δ G2 N ⟨rfl, j, s3, ei, hj, rfl⟩ kN
    have hlt : j < min n (b + 1) - 1 := by
      rcases Nat.lt_or_ge j (min n (b + 1) - 1) with z | z
      · exact z
      · rw [upD_end z] at ei; cases ei
    rw [upD_drop hlt] at ei
    cases ei
    have e8 : (1000 : Nat) < 2 ^ 3000 := Nat.lt_of_lt_of_le (by decide : 1000 < 2 ^ 10) (Nat.pow_le_pow_right (by decide) (by decide))
    rw [show (2 : Int) + (j : Nat) = ((2 + j : Nat) : Int) by omega]
    walk_at "dl"
    walk_at "sd"
    refine ⟨_, 1, 2 + j, rfl, hsum_sm (by decide) (by omega), Nat.lt_of_lt_of_le (by decide : _ < 1000) (Nat.le_of_lt e8), ⟨by omega, by omega⟩, ?_⟩
    exact kN _ _ ⟨rfl, j + 1, _, rfl, hlt, rfl⟩
  · rintro δ G2 ⟨rfl, j, s3, ei, hj, rfl⟩
    have : j = min n (b + 1) - 1 := by
      rcases Nat.lt_or_ge j (min n (b + 1) - 1) with z | z
      · rw [upD_drop z] at ei; cases ei
      · omega
    subst this
    walk_at "dl"
    exact Rt.same q
def grpF (n B b : Nat) : Nat → Nat
  | 0 => 1
  | j + 1 => if grpF n B b j = j + 1 ∧ B % (j + 2) = 0 then j + 2 else grpF n B b j
abbrev sp_L_group : DSp := fun ds G Q _ => ∃ n B b : Nat, ds = [.int (n : Nat), .int (B : Nat), .int (b : Nat)] ∧ (1 ≤ n ∧ n ≤ 12) ∧ (1 ≤ B ∧ B ≤ 360) ∧ b ≤ 1000 ∧ Q (.int (grpF n B b (min n (b + 1) - 1) : Nat)) G
def t_L_group : DS :=
  (dSeq (dAsg 3 (dC (.int 1)))
  (dSeq (dFor (dRange2 (aCons (dC (.int 2)) (aCons (dOp (dAdd false) (dCB dMin2 (aCons (dVar 0) (aCons (dOp (dAdd false) (dVar 2) (dC (.int 1))) aNil))) (dC (.int 1))) aNil))) (gN 4) (dIfS (dAnd (dB (dOp dEq (dVar 3) (dOp dSub (dVar 4) (dC (.int 1))))) (dB (dOp dEq (dOp dMod (dCB dInt (aCons (dVar 1) aNil)) (dVar 4)) (dC (.int 0))))) (dAsg 3 (dVar 4)) dNext))
  (dRet (dVar 3))))
theorem len_L_group : ∀ ds G Q E, sp_L_group ds G Q E → ds.length = ["_law_n", "_law_bottom", "_law_beats"].length := by
  intro ds G Q E h
  first | (obtain ⟨rfl, _⟩ := h; rfl) | (obtain ⟨_, rfl, _⟩ := h; rfl) | (obtain ⟨_, _, rfl, _⟩ := h; rfl) | (obtain ⟨_, _, _, rfl, _⟩ := h; rfl) | (obtain ⟨_, _, _, _, rfl, _⟩ := h; rfl) | (obtain ⟨_, _, _, _, _, rfl, _⟩ := h; rfl) | (obtain ⟨_, _, _, _, _, _, rfl, _⟩ := h; rfl) | (obtain ⟨_, _, _, _, _, _, _, rfl, _⟩ := h; rfl) | (obtain ⟨_, _, _, _, _, _, _, _, rfl, _⟩ := h; rfl) | (obtain ⟨_, _, _, _, _, _, _, _, _, rfl, _⟩ := h; rfl) | (obtain ⟨_, _, _, _, _, _, _, _, _, _, rfl, _⟩ := h; rfl) | (obtain ⟨_, _, _, _, _, _, _, _, _, _, _, rfl, _⟩ := h; rfl) | (obtain ⟨_, _, _, _, _, _, _, _, _, _, _, _, rfl, _⟩ := h; rfl) | (obtain ⟨_, _, _, _, _, _, _, _, _, _, _, _, _, rfl, _⟩ := h; rfl) | (obtain ⟨_, _, _, _, _, _, _, _, _, _, _, _, _, _, rfl, _⟩ := h; rfl) | (obtain ⟨_, _, _, _, _, _, _, _, _, _, _, _, _, _, _, rfl, _⟩ := h; rfl)
theorem rd_L_group : ∀ ds G Q E', sp_L_group ds G Q E' → t_L_group (endD Q) (startD ["_law_n", "_law_bottom", "_law_beats", "_law_found", "_law_k"] ds) G := by
  rintro ds G Q E' ⟨n, B, b, rfl, hn, hB, hb, q⟩
  unfold t_L_group
  refine dSeq_mk ?_
  walk_at "dl"
  walk_at "sd"
  refine dSeq_mk ?_
  walk_at "dl"
  rw [show min (n : Int) ((b : Int) + 1) = ((min n (b + 1) : Nat) : Int) by omega]
  refine ⟨⟨by omega, by omega, by omega, by omega⟩, ?_⟩
  rw [show (((min n (b + 1) : Nat) : Int) + 1 - 2).toNat = min n (b + 1) - 1 by omega]
  refine forL_by (fun its δ G2 => G2 = G ∧ ∃ (j : Nat) (s4 : Option D), its = (upD 2 (min n (b + 1) - 1)).drop j ∧ j ≤ min n (b + 1) - 1 ∧ δ = [some (.int n), some (.int B), some (.int b), some (.int (grpF n B b j : Nat)), s4]) (fun _ _ _ _ => trivial) ?_ ?_ _ _ _ ⟨rfl, 0, _, rfl, Nat.zero_le _, rfl⟩
  · rintro x its δ G2 N ⟨rfl, j, s4, ei, hj, rfl⟩ kN
    have hlt : j < min n (b + 1) - 1 := by
      rcases Nat.lt_or_ge j (min n (b + 1) - 1) with z | z
      · exact z
      · rw [upD_end z] at ei; cases ei
    rw [upD_drop hlt] at ei
    cases ei
    have e1 : decide (((grpF n B b j : Nat) : Int) = 2 + (j : Nat) - 1) = decide (grpF n B b j = j + 1) := decide_eq_decide.mpr (by omega)
    have e2 : decide ((B : Int) % (2 + (j : Nat)) = 0) = decide (B % (j + 2) = 0) := decide_eq_decide.mpr (by
      rw [show (2 : Int) + (j : Nat) = ((j + 2 : Nat) : Int) by omega, ← Int.natCast_emod]
      omega)
    have ke : ∀ v : Int, v = ((grpF n B b (j + 1) : Nat) : Int) → N [some (.int n), some (.int B), some (.int b), some (.int v), some (.int (2 + (j : Nat)))] G2 := fun v e => by
      subst e
      exact kN _ _ ⟨rfl, j + 1, _, rfl, hlt, rfl⟩
    walk_at "dl"
    rw [e1]
    by_cases z1 : grpF n B b j = j + 1
    · rw [decide_eq_true z1]
      walk_at "dl"
      refine ⟨by omega, ?_⟩
      rw [e2]
      by_cases z2 : B % (j + 2) = 0
      · rw [decide_eq_true z2]
        walk_at "dl"
        exact ke _ (by unfold grpF; rw [if_pos ⟨z1, z2⟩]; omega)
      · rw [decide_eq_false z2]
        walk_at "dl"
        exact ke _ (by rw [show grpF n B b (j + 1) = grpF n B b j from if_neg fun z => z2 z.2])
    · rw [decide_eq_false z1]
      walk_at "dl"
      exact ke _ (by rw [show grpF n B b (j + 1) = grpF n B b j from if_neg fun z => z1 z.1])
  · rintro δ G2 ⟨rfl, j, s4, ei, hj, rfl⟩
    have : j = min n (b + 1) - 1 := by
      rcases Nat.lt_or_ge j (min n (b + 1) - 1) with z | z
      · rw [upD_drop z] at ei; cases ei
      · omega
    subst this
    walk_at "dl"
    exact Rt.same q
theorem sizes_few : ∀ d, d < 4 → ∀ e, e < 2 → (tpsF 2 (1 + d)).length ^ (5 + e) ≤ 20000 := by decide +kernel
theorem sizes_low : ∀ n, n < 4 → ∀ d, d < 2 → ∀ e, e < 2 → (tpsF (1 + n) (1 + d)).length ^ (1 + e) ≤ 20000 := by decide +kernel
abbrev sp_L_sizes : DSp := fun ds G Q _ => ∃ (h : Addr), ds = [.ref h, .int 4000] ∧ isHand G h ∧ (∀ n B b : Nat, (1 ≤ n ∧ n ≤ 4) → (1 ≤ B ∧ B ≤ 12) → b ≤ 6 → (tpsF n B).length ^ b ≤ 20000 → Q (.tup [.int (n : Nat), .int (B : Nat), .int (b : Nat)]) G)
def t_L_sizes : DS :=
  (dSeq (dIfS (dB (dOp dEq (dCall sp_L_draw X0 (aCons (dVar 0) (aCons (dC (.int 25)) aNil))) (dC (.int 0)))) (dSeq (dAsg 2 (dTup (aCons (dC (.int 2)) (aCons (dOp (dAdd false) (dC (.int 1)) (dCall sp_L_draw X0 (aCons (dVar 0) (aCons (dC (.int 4)) aNil)))) (aCons (dOp (dAdd false) (dC (.int 5)) (dCall sp_L_draw X0 (aCons (dVar 0) (aCons (dC (.int 2)) aNil)))) aNil)))))
  (dRet (dCall sp_L_some X0 (aCons (dVar 0) (aCons (dLst false (aCons (dTup (aCons (dC (.int 2)) (aCons (dC (.int 4)) (aCons (dC (.int 6)) aNil)))) (aCons (dTup (aCons (dC (.int 2)) (aCons (dC (.int 3)) (aCons (dC (.int 6)) aNil)))) (aCons (dTup (aCons (dC (.int 2)) (aCons (dC (.int 5)) (aCons (dC (.int 5)) aNil)))) (aCons (dVar 2) (aCons (dTup (aCons (dC (.int 1)) (aCons (dC (.int 12)) (aCons (dC (.int 6)) aNil)))) (aCons (dTup (aCons (dC (.int 3)) (aCons (dC (.int 1)) (aCons (dC (.int 6)) aNil)))) aNil))))))) aNil))))) dNext)
  (dSeq (dPar3 3 4 5 (aCons (dOp (dAdd false) (dC (.int 1)) (dCall sp_L_some X0 (aCons (dVar 0) (aCons (dLst false (aCons (dC (.int 0)) (aCons (dC (.int 1)) (aCons (dC (.int 1)) (aCons (dC (.int 1)) (aCons (dC (.int 2)) (aCons (dC (.int 2)) (aCons (dC (.int 3)) aNil)))))))) aNil)))) (aCons (dOp (dAdd false) (dC (.int 1)) (dCall sp_L_draw X0 (aCons (dVar 0) (aCons (dC (.int 12)) aNil)))) (aCons (dCall sp_L_draw X0 (aCons (dVar 0) (aCons (dC (.int 7)) aNil))) aNil))))
  (dSeq (dAsg 6 (dOp (dMul false) (dVar 3) (dCB dLen (aCons (dCall sp_L_tops X0 (aCons (dVar 3) (aCons (dVar 4) aNil))) aNil))))
  (dSeq (dFor (dRange1 (aCons (dC (.int 6)) aNil)) (gN 7) (dSeq (dAsg 8 (dC (.int 1)))
  (dSeq (dFor (dRange1 (aCons (dVar 5) aNil)) (gN 9) (dAsg 8 (dOp (dMul false) (dVar 8) (dVar 6))))
  (dIfS (dB (dOp dGt (dVar 8) (dVar 1))) (dAsg 5 (dOp dSub (dVar 5) (dC (.int 1)))) dNext))))
  (dSeq (dIfS (dAnd (dB (dOp dEq (dVar 5) (dC (.int 0)))) (dB (dOp dEq (dCall sp_L_draw X0 (aCons (dVar 0) (aCons (dC (.int 2)) aNil))) (dC (.int 0))))) (dRet (dTup (aCons (dVar 3) (aCons (dOp (dAdd false) (dC (.int 1)) (dCall sp_L_draw X0 (aCons (dVar 0) (aCons (dC (.int 2)) aNil)))) (aCons (dOp (dAdd false) (dC (.int 1)) (dCall sp_L_draw X0 (aCons (dVar 0) (aCons (dC (.int 2)) aNil)))) aNil))))) dNext)
  (dRet (dTup (aCons (dVar 3) (aCons (dVar 4) (aCons (dVar 5) aNil))))))))))
theorem len_L_sizes : ∀ ds G Q E, sp_L_sizes ds G Q E → ds.length = ["_law_hand_here", "_law_bound"].length := by
  intro ds G Q E h
  first | (obtain ⟨rfl, _⟩ := h; rfl) | (obtain ⟨_, rfl, _⟩ := h; rfl) | (obtain ⟨_, _, rfl, _⟩ := h; rfl) | (obtain ⟨_, _, _, rfl, _⟩ := h; rfl) | (obtain ⟨_, _, _, _, rfl, _⟩ := h; rfl) | (obtain ⟨_, _, _, _, _, rfl, _⟩ := h; rfl) | (obtain ⟨_, _, _, _, _, _, rfl, _⟩ := h; rfl) | (obtain ⟨_, _, _, _, _, _, _, rfl, _⟩ := h; rfl) | (obtain ⟨_, _, _, _, _, _, _, _, rfl, _⟩ := h; rfl) | (obtain ⟨_, _, _, _, _, _, _, _, _, rfl, _⟩ := h; rfl) | (obtain ⟨_, _, _, _, _, _, _, _, _, _, rfl, _⟩ := h; rfl) | (obtain ⟨_, _, _, _, _, _, _, _, _, _, _, rfl, _⟩ := h; rfl) | (obtain ⟨_, _, _, _, _, _, _, _, _, _, _, _, rfl, _⟩ := h; rfl) | (obtain ⟨_, _, _, _, _, _, _, _, _, _, _, _, _, rfl, _⟩ := h; rfl) | (obtain ⟨_, _, _, _, _, _, _, _, _, _, _, _, _, _, rfl, _⟩ := h; rfl) | (obtain ⟨_, _, _, _, _, _, _, _, _, _, _, _, _, _, _, rfl, _⟩ := h; rfl)
theorem rd_L_sizes : ∀ ds G Q E', sp_L_sizes ds G Q E' → t_L_sizes (endD Q) (startD ["_law_hand_here", "_law_bound", "_law_few", "_law_n", "_law_bottom", "_law_beats", "_law_many", "_law_turn", "_law_rows", "_law_beat"] ds) G := by
  rintro ds G Q E' ⟨h, rfl, hh, q⟩
  unfold t_L_sizes
  have key : ∀ n B b : Nat, (1 ≤ n ∧ n ≤ 4) → (1 ≤ B ∧ B ≤ 12) → b ≤ 6 → (tpsF n B).length ^ b ≤ 20000 → ∀ i j k : Int, i = n → j = B → k = b → Q (.tup [.int i, .int j, .int k]) G := fun n B b h1 h2 h3 h4 i j k e1 e2 e3 => by
    subst e1; subst e2; subst e3
    exact q n B b h1 h2 h3 h4
  refine dSeq_mk ?_
  walk_at "dl"
  refine ⟨hh, by decide, by decide, fun kd k0 k1 => ?_⟩
  split
  · refine dSeq_mk ?_
    walk_at "dl"
    refine ⟨hh, by decide, by decide, fun d d0 d1 => ⟨hh, by decide, by decide, fun e e0 e1 => ⟨by decide, by decide, by decide, by decide, by decide, by decide, by decide, _, _, _, rfl, hh, rfl, ⟨Nat.succ_pos _, by show 6 < 2 ^ 60; decide⟩, ?_⟩⟩⟩
    have few := sizes_few d.toNat (by omega) e.toNat (by omega)
    have k1 := key 2 4 6 (by decide) (by decide) (by decide) (by decide +kernel) _ _ _ rfl rfl rfl
    have k2 := key 2 3 6 (by decide) (by decide) (by decide) (by decide +kernel) _ _ _ rfl rfl rfl
    have k3 := key 2 5 5 (by decide) (by decide) (by decide) (by decide +kernel) _ _ _ rfl rfl rfl
    have k4 := key 2 (1 + d.toNat) (5 + e.toNat) (by decide) (by omega) (by omega) few 2 (1 + d) (5 + e) rfl (by omega) (by omega)
    have k5 := key 1 12 6 (by decide) (by decide) (by decide) (by decide +kernel) _ _ _ rfl rfl rfl
    have k6 := key 3 1 6 (by decide) (by decide) (by decide) (by decide +kernel) _ _ _ rfl rfl rfl
    walk_at "all"
    exact ⟨Rt.same k1, Rt.same k2, Rt.same k3, Rt.same k4, Rt.same k5, Rt.same k6⟩
  · refine dSeq_mk ?_
    walk_at "dl"
    refine ⟨by decide, _, _, _, rfl, hh, rfl, by decide, fun y hy => ?_⟩
    obtain ⟨m, rfl, hm⟩ : ∃ m : Nat, y = .int (m : Nat) ∧ m ≤ 3 := by
      have key : ∀ i : Int, 0 ≤ i → i ≤ 3 → ∃ m : Nat, D.int i = .int (m : Nat) ∧ m ≤ 3 := fun i h0 h1 => ⟨i.toNat, by rw [Int.toNat_of_nonneg (by omega)], by omega⟩
      revert y
      walk_at "all"
      exact ⟨key _ (by omega) (by omega), key _ (by omega) (by omega), key _ (by omega) (by omega), key _ (by omega) (by omega), key _ (by omega) (by omega), key _ (by omega) (by omega), key _ (by omega) (by omega)⟩
    walk_at "dl"
    refine ⟨hh, by decide, by decide, fun d d0 d1 => ⟨hh, by decide, by decide, fun e e0 e1 => ?_⟩⟩
    obtain ⟨B, rfl⟩ : ∃ B : Nat, d = (B : Nat) := ⟨d.toNat, by omega⟩
    obtain ⟨b, rfl⟩ : ∃ b : Nat, e = (b : Nat) := ⟨e.toNat, by omega⟩
    rw [show (1 : Int) + (m : Nat) = ((1 + m : Nat) : Int) by omega, show (1 : Int) + (B : Nat) = ((1 + B : Nat) : Int) by omega]
    refine dSeq_mk ?_
    walk_at "dl"
    refine ⟨1 + m, 1 + B, rfl, by omega, by omega, ?_⟩
    have hT := tpsF_len (n := 1 + m) (b := 1 + B) (by omega) (by omega)
    have eL : (sortD ((topL (1 + m) (1 + B)).map natT)).length = (tpsF (1 + m) (1 + B)).length := by
      unfold sortD
      rw [List.length_mergeSort, List.length_map, topL_len (by omega) (by omega)]
    have z1 : 1 ≤ (tpsF (1 + m) (1 + B)).length := List.length_pos_iff.mpr fun z => rowsF_ne (n := 1 + m) (B := 1 + B) (by omega) (by unfold rowsF; rw [z]; rfl)
    walk_at "dl"
    rw [eL]
    generalize hM : (1 + m) * (tpsF (1 + m) (1 + B)).length = M
    have hM1 : (tpsF (1 + m) (1 + B)).length ≤ M := by rw [← hM]; exact Nat.le_mul_of_pos_left _ (by omega)
    have hM2 : M ≤ 1820 := by rw [← hM]; exact Nat.mul_le_mul (show 1 + m ≤ 4 by omega) hT
    have hpw : ∀ i, i ≤ 6 → M ^ i ≤ 1820 ^ 6 := fun i hi => Nat.le_trans (Nat.pow_le_pow_left hM2 i) (Nat.pow_le_pow_right (by decide) hi)
    refine ⟨.r (by omega) (by omega), ?_⟩
    rw [← Int.natCast_mul, hM]
    refine ⟨fun δ G2 => G2 = G ∧ ∃ (b : Nat) (s7 s8 s9 : Option D), b ≤ 6 ∧ M ^ b ≤ 4000 ∧ δ = [some (.ref h), some (.int 4000), none, some (.int ((1 + m : Nat) : Int)), some (.int ((1 + B : Nat) : Int)), some (.int (b : Nat)), some (.int (M : Nat)), s7, s8, s9], ?_, ?_⟩
    · walk_at "dl"
      refine ⟨by decide, by decide, ?_⟩
      rw [show (6 : Int).toNat = 6 from rfl]
      refine forL_rng (fun t δ G2 => G2 = G ∧ ∃ (b : Nat) (s7 s8 s9 : Option D), b ≤ 6 ∧ (b + t ≤ 6 ∨ M ^ b ≤ 4000) ∧ δ = [some (.ref h), some (.int 4000), none, some (.int ((1 + m : Nat) : Int)), some (.int ((1 + B : Nat) : Int)), some (.int (b : Nat)), some (.int (M : Nat)), s7, s8, s9]) ?_ ?_ _ _ ⟨rfl, b, _, _, _, by omega, .inl (by omega), rfl⟩
      · rintro t δ G2 N ht ⟨rfl, b, s7, s8, s9, hb, hc, rfl⟩ kN
        refine dSeq_mk ?_
        walk_at "dl"
        refine dSeq_mk ?_
        walk_at "dl"
        refine ⟨by omega, by omega, ?_⟩
        rw [Int.toNat_natCast]
        refine forL_rng (fun i δ G3 => G3 = G2 ∧ ∃ (s9 : Option D), δ = [some (.ref h), some (.int 4000), none, some (.int ((1 + m : Nat) : Int)), some (.int ((1 + B : Nat) : Int)), some (.int (b : Nat)), some (.int (M : Nat)), some (.int (t : Nat)), some (.int ((M ^ i : Nat) : Int)), s9]) ?_ ?_ _ _ ⟨rfl, _, rfl⟩
        · rintro i δ G3 N2 hi ⟨rfl, s9, rfl⟩ kN2
          walk_at "dl"
          refine ⟨.r (by omega) (by omega), ?_⟩
          rw [← Int.natCast_mul, ← Nat.pow_succ]
          exact kN2 _ _ ⟨rfl, _, rfl⟩
        · rintro δ G3 ⟨rfl, s9, rfl⟩
          have h1 := hpw b hb
          walk_at "dl"
          have e3 : decide ((4000 : Int) < ((M ^ b : Nat) : Int)) = decide (4000 < M ^ b) := decide_eq_decide.mpr (by omega)
          rw [e3]
          by_cases z : 4000 < M ^ b
          · rw [decide_eq_true z]
            have hb0 : b ≠ 0 := fun y => by rw [y, Nat.pow_zero] at z; omega
            walk_at "dl"
            exact kN _ _ ⟨rfl, b - 1, _, _, _, by omega, .inl (by omega), by rw [show (b : Int) - 1 = ((b - 1 : Nat) : Int) by omega]⟩
          · rw [decide_eq_false z]
            walk_at "dl"
            exact kN _ _ ⟨rfl, b, _, _, _, hb, .inr (by omega), rfl⟩
      · rintro δ G2 ⟨rfl, b, s7, s8, s9, hb, hc, rfl⟩
        exact ⟨rfl, b, _, _, _, hb, hc.elim (fun z => by have : b = 0 := by omega
                                                         rw [this, Nat.pow_zero]; decide) id, rfl⟩
    · rintro δ G2 ⟨rfl, b, s7, s8, s9, hb, hc, rfl⟩
      have fin : Rt Q (.tup [.int ((1 + m : Nat) : Int), .int ((1 + B : Nat) : Int), .int (b : Nat)]) G2 := Rt.same (q _ _ _ (by omega) (by omega) hb (Nat.le_trans (Nat.pow_le_pow_left hM1 b) (Nat.le_trans hc (by decide))))
      refine dSeq_mk ?_
      walk_at "dl"
      by_cases z : (b : Int) = 0
      · rw [decide_eq_true z]
        walk_at "dl"
        refine ⟨hh, by decide, by decide, fun d d0 d1 => ?_⟩
        by_cases z2 : d = 0
        · rw [decide_eq_true z2]
          walk_at "dl"
          refine ⟨hh, by decide, by decide, fun d d0 d1 => ⟨hh, by decide, by decide, fun e e0 e1 => ⟨by decide, ?_⟩⟩⟩
          have low := sizes_low m (by omega) d.toNat (by omega) e.toNat (by omega)
          exact Rt.same (key (1 + m) (1 + d.toNat) (1 + e.toNat) (by omega) (by omega) (by omega) low _ _ _ rfl (by omega) (by omega))
        · rw [decide_eq_false z2]
          walk_at "dl"
          exact ⟨by decide, fin⟩
      · rw [decide_eq_false z]
        walk_at "dl"
        exact ⟨by decide, fin⟩
/-- a hand that draws, from the script -/
abbrev sp_L_hand : DSp := fun ds G Q _ => ∃ ns : List Int, ds = [.scr (ns.map D.int)] ∧ ns.length ≤ 63 ∧ (∀ a, G a = none → Q (.ref a) (gu G a (.abl Hand)))
def t_L_hand : DS :=
  (dSeq (dAsg 1 (dLc false (dSeqI (dSl false (dVar 0) oNone (oSome (dC (.int 63))))) (gN 2) dYes (dCB dAbs (aCons (dCB dInt (aCons (dVar 2) aNil)) aNil)) [2]))
  (dRet (dLst true (aCons (dVar 1) (aCons (dC (.int 0)) (aCons (dC (.int 0)) (aCons (dOp (dAdd false) (dC (.int 1)) (dCB dLen (aCons (dVar 1) aNil))) (aCons (dC (.int 0)) aNil))))))))
theorem len_L_hand : ∀ ds G Q E, sp_L_hand ds G Q E → ds.length = ["_law_script"].length := by
  intro ds G Q E h
  first | (obtain ⟨rfl, _⟩ := h; rfl) | (obtain ⟨_, rfl, _⟩ := h; rfl) | (obtain ⟨_, _, rfl, _⟩ := h; rfl) | (obtain ⟨_, _, _, rfl, _⟩ := h; rfl) | (obtain ⟨_, _, _, _, rfl, _⟩ := h; rfl) | (obtain ⟨_, _, _, _, _, rfl, _⟩ := h; rfl) | (obtain ⟨_, _, _, _, _, _, rfl, _⟩ := h; rfl) | (obtain ⟨_, _, _, _, _, _, _, rfl, _⟩ := h; rfl) | (obtain ⟨_, _, _, _, _, _, _, _, rfl, _⟩ := h; rfl) | (obtain ⟨_, _, _, _, _, _, _, _, _, rfl, _⟩ := h; rfl) | (obtain ⟨_, _, _, _, _, _, _, _, _, _, rfl, _⟩ := h; rfl) | (obtain ⟨_, _, _, _, _, _, _, _, _, _, _, rfl, _⟩ := h; rfl) | (obtain ⟨_, _, _, _, _, _, _, _, _, _, _, _, rfl, _⟩ := h; rfl) | (obtain ⟨_, _, _, _, _, _, _, _, _, _, _, _, _, rfl, _⟩ := h; rfl) | (obtain ⟨_, _, _, _, _, _, _, _, _, _, _, _, _, _, rfl, _⟩ := h; rfl) | (obtain ⟨_, _, _, _, _, _, _, _, _, _, _, _, _, _, _, rfl, _⟩ := h; rfl)
theorem rd_L_hand : ∀ ds G Q E', sp_L_hand ds G Q E' → t_L_hand (endD Q) (startD ["_law_script", "_law_cells", "_law_cell"] ds) G := by
  rintro ds G Q E' ⟨ns, rfl, hn, q⟩
  unfold t_L_hand
  refine dSeq_mk ?_
  walk_at "dl"
  obtain ⟨ms, e, hm⟩ := cut_ints (ns := ns) (lo := none) (hi := some 63)
  rw [e]
  refine lc_map (fun x => .int (if iv x < 0 then -iv x else iv x)) (Nat.le_trans (by rw [List.length_map]; omega : _ ≤ 63) (by decide)) (fun _ _ _ => trivial) (fun x hx p ys Q' hp' k => ?_) ?_
  · obtain ⟨i, _, rfl⟩ := List.mem_map.mp hx
    walk_at "dl"
    exact k
  · walk_at "dl"
    refine ⟨by decide, fun a ha => ?_⟩
    have e2 : (List.map (fun x => D.int (if iv x < 0 then -iv x else iv x)) (List.map D.int ms)) = (ms.map fun i => if i < 0 then -i else i).map D.int := by
      rw [List.map_map, List.map_map]
      rfl
    rw [e2]
    exact Rt.abl (P := Hand) gu_same ⟨_, 0, 0, _, 0, rfl, by decide⟩ (by rw [gu_gu]; exact q a ha)
theorem grpF_ok {n B b : Nat} : ∀ j : Nat, (1 ≤ grpF n B b j ∧ grpF n B b j ≤ j + 1) ∧ ∀ i, 2 ≤ i → i ≤ grpF n B b j → i ∣ B
  | 0 => ⟨⟨Nat.le_refl _, Nat.le_refl _⟩, fun i h1 h2 => by have h2 : i ≤ 1 := h2; omega⟩
  | j + 1 => by
    obtain ⟨⟨h1, h2⟩, h3⟩ := grpF_ok (n := n) (B := B) (b := b) j
    unfold grpF
    split
    · rename_i z
      refine ⟨⟨by omega, by omega⟩, fun i i1 i2 => ?_⟩
      rcases Nat.lt_or_ge i (j + 2) with y | y
      · exact h3 i i1 (by omega)
      · rw [show i = j + 2 by omega]
        exact Nat.dvd_of_mod_eq_zero z.2
    · exact ⟨⟨h1, by omega⟩, h3⟩
theorem atL_zeros (n : Nat) : atL 0 (List.replicate n 0) = n := by
  unfold atL
  rw [List.countP_replicate, if_pos (by decide +kernel)]
theorem Wd_least {n B b : Nat} (hn : 1 ≤ n ∧ n ≤ 4) (hB : 1 ≤ B ∧ B ≤ 12) : hsum 2 (grpF n B b (min n (b + 1) - 1) - 1) ≤ Wd (rowsF n B) b (List.replicate n 0) := by
  obtain ⟨⟨h1, h2⟩, h3⟩ := grpF_ok (n := n) (B := B) (b := b) (min n (b + 1) - 1)
  generalize grpF n B b (min n (b + 1) - 1) = g at *
  rcases Nat.lt_or_ge g 2 with z | z
  · rw [show g - 1 = 0 by omega]
    exact Wd_nn hB ⟨hn.1, by omega⟩ b _ List.length_replicate (zeros_sum n)
  · have := Wd_low hB.1 hn.1 (g - 2) b 0 (List.replicate n 0) List.length_replicate (by omega) (by rw [atL_zeros]; omega) fun i i1 i2 => h3 i i1 (by omega)
    rwa [Rat.zero_add, show g - 2 + 1 = g - 1 by omega] at this
theorem Wd_none {n B b : Nat} (hn : 1 ≤ n ∧ n ≤ 4) (hB : 1 ≤ B ∧ B ≤ 12) : Wd (rowsF n B) b (List.replicate n 0) ≤ hsum 2 (min n (b + 1) - 1) := by
  have := Wd_up hB ⟨hn.1, by omega⟩ b 0 _ (Calm.zero (by omega) 0) List.length_replicate (zeros_sum n)
  rwa [Nat.zero_add] at this
theorem cut_from1 (xs : List D) : DL.cutD xs (some 1) none = xs.drop 1 := by
  unfold DL.cutD
  cases xs with
  | nil => rfl
  | cons x xs =>
    have h1 : HT.sIx (x :: xs).length 0 (some 1) = 1 := by
      unfold HT.sIx
      simp
    have h2 : HT.sIx (x :: xs).length (x :: xs).length none = (x :: xs).length := rfl
    rw [h1, h2]
    exact List.take_of_length_le (by rw [List.length_drop]; exact Nat.le_refl _)
abbrev sp_law : DSp := fun ds G Q _ => ∃ ns : List Int, ds = [.scr (ns.map D.int)] ∧ ns.length ≤ 63 ∧ (∀ G', Q (.bl true) G')
def t_law : DS :=
  (dSeq (dAsg 1 (dCall sp_L_hand X0 (aCons (dVar 0) aNil)))
  (dSeq (dFor (dRange1 (aCons (dC (.int 3)) aNil)) (gN 2) (dSeq (dAsgG (gT 3 (gsCons (gN 3) (gsCons (gN 4) (gsCons (gN 5) gsNil)))) (dCall sp_L_sizes X0 (aCons (dVar 1) (aCons (dC (.int 4000)) aNil))))
  (dSeq (dAsg 6 (dOp (dMul false) (dTup (aCons (dTup (aCons (dC (.int 0)) (aCons (dC (.int 1)) aNil))) aNil)) (dVar 3)))
  (dSeq (dPar 7 8 (aCons (dCall sp_worth X0 (aCons (dVar 3) (aCons (dVar 4) (aCons (dVar 5) (aCons (dVar 6) aNil))))) (aCons (dTup (aCons (dC (.int 0)) (aCons (dC (.int 1)) aNil))) aNil)))
  (dSeq (dFor (dRange2 (aCons (dC (.int 2)) (aCons (dOp (dAdd false) (dCall sp_L_group X0 (aCons (dVar 3) (aCons (dVar 4) (aCons (dVar 5) aNil)))) (dC (.int 1))) aNil))) (gN 9) (dAsg 8 (dCall sp_L_plus X0 (aCons (dVar 8) (aCons (dTup (aCons (dC (.int 1)) (aCons (dVar 9) aNil))) aNil)))))
  (dSeq (dIfS (dOr (dNot (dB (dCall sp_L_at_most X0 (aCons (dVar 7) (aCons (dCall sp_L_most X0 (aCons (dVar 3) (aCons (dVar 5) aNil))) aNil))))) (dNot (dB (dCall sp_L_at_most X0 (aCons (dVar 8) (aCons (dVar 7) aNil)))))) (dRet (dC (.bl false))) dNext)
  (dSeq (dIfS (dAnd (dB (dOp dEq (dCall sp_L_group X0 (aCons (dVar 3) (aCons (dVar 4) (aCons (dVar 5) aNil)))) (dCB dMin2 (aCons (dVar 3) (aCons (dOp (dAdd false) (dVar 5) (dC (.int 1))) aNil))))) (dB (dOp dNe (dVar 7) (dCall sp_L_most X0 (aCons (dVar 3) (aCons (dVar 5) aNil)))))) (dRet (dC (.bl false))) dNext)
  (dSeq (dAsg 10 (dCall sp_L_some X0 (aCons (dVar 1) (aCons (dLst false (aCons (dVar 6) (aCons (dCall sp_L_debts X0 (aCons (dVar 1) (aCons (dVar 3) aNil))) aNil))) aNil))))
  (dSeq (dAsg 11 (dLc false (dRange2 (aCons (dC (.int 1)) (aCons (dOp (dAdd false) (dVar 5) (dC (.int 1))) aNil))) (gN 12) dYes (dCall sp_worth X0 (aCons (dVar 3) (aCons (dVar 4) (aCons (dVar 12) (aCons (dVar 10) aNil))))) [12]))
  (dSeq (dIfS (dNot (dB (dCB dAll (aCons (dLc false (dZipX (aCons (dVar 11) (aCons (dSl false (dVar 11) (oSome (dC (.int 1))) oNone) aNil))) (gT 2 (gsCons (gN 13) (gsCons (gN 14) gsNil))) dYes (dCall sp_L_at_most X0 (aCons (dVar 13) (aCons (dVar 14) aNil))) [13, 14]) aNil)))) (dRet (dC (.bl false))) dNext)
  (dIfS (dAnd (dB (dOp dLt (dVar 4) (dC (.int 7)))) (dNot (dB (dCall sp_L_are_heavy X0 (aCons (dVar 3) (aCons (dOp (dMul false) (dC (.int 2)) (dVar 4)) (aCons (dVar 5) aNil))))))) (dIfS (dNot (dB (dCall sp_L_at_most X0 (aCons (dCall sp_worth X0 (aCons (dVar 3) (aCons (dVar 4) (aCons (dVar 5) (aCons (dVar 10) aNil))))) (aCons (dCall sp_worth X0 (aCons (dVar 3) (aCons (dOp (dMul false) (dC (.int 2)) (dVar 4)) (aCons (dVar 5) (aCons (dVar 10) aNil))))) aNil))))) (dRet (dC (.bl false))) dNext) dNext)))))))))))
  (dRet (dC (.bl true)))))
theorem len_law : ∀ ds G Q E, sp_law ds G Q E → ds.length = ["_law_script"].length := by
  intro ds G Q E h
  first | (obtain ⟨rfl, _⟩ := h; rfl) | (obtain ⟨_, rfl, _⟩ := h; rfl) | (obtain ⟨_, _, rfl, _⟩ := h; rfl) | (obtain ⟨_, _, _, rfl, _⟩ := h; rfl) | (obtain ⟨_, _, _, _, rfl, _⟩ := h; rfl) | (obtain ⟨_, _, _, _, _, rfl, _⟩ := h; rfl) | (obtain ⟨_, _, _, _, _, _, rfl, _⟩ := h; rfl) | (obtain ⟨_, _, _, _, _, _, _, rfl, _⟩ := h; rfl) | (obtain ⟨_, _, _, _, _, _, _, _, rfl, _⟩ := h; rfl) | (obtain ⟨_, _, _, _, _, _, _, _, _, rfl, _⟩ := h; rfl) | (obtain ⟨_, _, _, _, _, _, _, _, _, _, rfl, _⟩ := h; rfl) | (obtain ⟨_, _, _, _, _, _, _, _, _, _, _, rfl, _⟩ := h; rfl) | (obtain ⟨_, _, _, _, _, _, _, _, _, _, _, _, rfl, _⟩ := h; rfl) | (obtain ⟨_, _, _, _, _, _, _, _, _, _, _, _, _, rfl, _⟩ := h; rfl) | (obtain ⟨_, _, _, _, _, _, _, _, _, _, _, _, _, _, rfl, _⟩ := h; rfl) | (obtain ⟨_, _, _, _, _, _, _, _, _, _, _, _, _, _, _, rfl, _⟩ := h; rfl)
theorem rd_law : ∀ ds G Q E', sp_law ds G Q E' → t_law (endD Q) (startD ["_law_script", "_law_hand_here", "_law_turn", "_law_n", "_law_bottom", "_law_beats", "_law_none", "_law_told", "_law_least", "_law_k", "_law_debts_here", "_law_rows", "_law_beat", "_law_one", "_law_other"] ds) G := by
  rintro ds G Q E' ⟨ns, rfl, hn, q⟩
  unfold t_law
  refine dSeq_mk ?_
  walk_at "dl"
  refine ⟨_, rfl, hn, fun h hh => ?_⟩
  have hH : isHand (gu G h (.abl Hand)) h := gu_same
  generalize gu G h (.abl Hand) = G at *
  clear hh
  refine dSeq_mk ?_
  walk_at "dl"
  walk_at "sd"
  refine forL_by (fun _ δ G2 => isHand G2 h ∧ ∃ s2 s3 s4 s5 s6 s7 s8 s9 s10 s11 s12 s13 s14, δ = [some (.scr (ns.map D.int)), some (.ref h), s2, s3, s4, s5, s6, s7, s8, s9, s10, s11, s12, s13, s14]) (fun _ _ _ _ => trivial) ?_ ?_ _ _ _ ⟨hH, _, _, _, _, _, _, _, _, _, _, _, _, _, rfl⟩
  · rintro x r0 δ G2 N ⟨hH, s2, s3, s4, s5, s6, s7, s8, s9, s10, s11, s12, s13, s14, rfl⟩ kN
    walk_at "dl"
    refine dSeq_mk ?_
    walk_at "dl"
    refine ⟨h, rfl, hH, fun n B b hn hB hb hf => ?_⟩
    walk_at "dl"
    refine dSeq_mk ?_
    walk_at "dl"
    have ez : D.tup (rep n [.tup [.int 0, .int 1]]) = frts (List.replicate n 0) := by
      unfold frts
      rw [rep_one, List.map_replicate, Int.toNat_natCast]
      rfl
    rw [ez]
    refine ⟨by decide, by decide, by omega, by omega, by decide, ?_⟩
    have hz : GmD n 20 (List.replicate n 0) := ⟨List.length_replicate, fun x hx => (szs_zero n x hx).mono (Nat.dvd_refl _) (by omega)⟩
    refine dSeq_mk ?_
    walk_at "dl"
    refine ⟨n, B, b, 20, _, rfl, hn, hB, hb, hf, hz, by decide, zeros_sum n, ?_⟩
    walk_at "dl"
    have hWz : ∀ ys, GmD n 20 ys → ∀ b', b' ≤ 6 → ∀ B', 1 ≤ B' ∧ B' ≤ 12 → Sm (Wd (rowsF n B') b' ys) := fun ys hy b' hb' B' hB' => LL_sm (Wd_sz hB' hn b' 20 ys hy) (by omega) _ (List.mem_singleton_self _)
    have sw := hWz _ hz b hb B hB
    obtain ⟨⟨g1, g2⟩, _⟩ := grpF_ok (n := n) (B := B) (b := b) (min n (b + 1) - 1)
    have low := Wd_least (b := b) hn hB
    have up := Wd_none (b := b) hn hB
    refine ⟨by decide, ?_⟩
    refine ⟨fun δ G3 => G3 = G2 ∧ ∃ s9 : Option D, δ = [some (.scr (ns.map D.int)), some (.ref h), some x, some (.int (n : Nat)), some (.int (B : Nat)), some (.int (b : Nat)), some (frts (List.replicate n 0)), some (fr (Wd (rowsF n B) b (List.replicate n 0))), some (fr (hsum 2 (grpF n B b (min n (b + 1) - 1) - 1))), s9, s10, s11, s12, s13, s14], ?_, ?_⟩
    · walk_at "dl"
      refine ⟨n, B, b, rfl, by omega, by omega, by omega, ?_⟩
      walk_at "dl"
      refine ⟨⟨by omega, by omega, by omega, by omega⟩, ?_⟩
      rw [show ((grpF n B b (min n (b + 1) - 1) : Nat) : Int) + 1 - 2 = ((grpF n B b (min n (b + 1) - 1) - 1 : Nat) : Int) by omega, Int.toNat_natCast]
      generalize hm : grpF n B b (min n (b + 1) - 1) - 1 = m
      refine forL_by (fun its δ G3 => G3 = G2 ∧ ∃ (j : Nat) (s9 : Option D), its = (upD 2 m).drop j ∧ j ≤ m ∧ δ = [some (.scr (ns.map D.int)), some (.ref h), some x, some (.int (n : Nat)), some (.int (B : Nat)), some (.int (b : Nat)), some (frts (List.replicate n 0)), some (fr (Wd (rowsF n B) b (List.replicate n 0))), some (fr (hsum 2 j)), s9, s10, s11, s12, s13, s14]) (fun _ _ _ _ => trivial) ?_ ?_ _ _ _ ⟨rfl, 0, _, rfl, Nat.zero_le _, rfl⟩
      · rintro y its δ G3 N2 ⟨rfl, j, s9, ei, hj, rfl⟩ kN2
        have hlt : j < m := by
          rcases Nat.lt_or_ge j m with z | z
          · exact z
          · rw [upD_end z] at ei; cases ei
        rw [upD_drop hlt] at ei
        cases ei
        have e8 : (1000 : Nat) < 2 ^ 3000 := Nat.lt_of_lt_of_le (by decide : 1000 < 2 ^ 10) (Nat.pow_le_pow_right (by decide) (by decide))
        rw [show (2 : Int) + (j : Nat) = ((2 + j : Nat) : Int) by omega]
        walk_at "dl"
        refine ⟨by decide, _, 1, 2 + j, rfl, hsum_sm (by decide) (by omega), Nat.lt_of_lt_of_le (by decide : _ < 1000) (Nat.le_of_lt e8), ⟨by omega, by omega⟩, ?_⟩
        exact kN2 _ _ ⟨rfl, j + 1, _, rfl, hlt, rfl⟩
      · rintro δ G3 ⟨rfl, j, s9, ei, hj, rfl⟩
        have : j = m := by
          rcases Nat.lt_or_ge j m with z | z
          · rw [upD_drop z] at ei; cases ei
          · omega
        subst this
        exact ⟨rfl, _, rfl⟩
    · rintro δ G3 ⟨rfl, s9, rfl⟩
      have su : Sm (hsum 2 (min n (b + 1) - 1)) := hsum_sm (by decide) (by omega)
      have sl : Sm (hsum 2 (grpF n B b (min n (b + 1) - 1) - 1)) := hsum_sm (by decide) (by omega)
      refine dSeq_mk ?_
      walk_at "dl"
      refine ⟨n, b, rfl, by omega, by omega, _, _, rfl, sw, su, ?_⟩
      rw [decide_eq_true up]
      walk_at "dl"
      refine ⟨_, _, rfl, sl, sw, ?_⟩
      rw [decide_eq_true low]
      walk_at "dl"
      refine ⟨fun δ G4 => G4 = G3 ∧ δ = [some (.scr (ns.map D.int)), some (.ref h), some x, some (.int (n : Nat)), some (.int (B : Nat)), some (.int (b : Nat)), some (frts (List.replicate n 0)), some (fr (Wd (rowsF n B) b (List.replicate n 0))), some (fr (hsum 2 (grpF n B b (min n (b + 1) - 1) - 1))), s9, s10, s11, s12, s13, s14], ?_, ?_⟩
      · walk_at "dl"
        refine ⟨n, B, b, rfl, by omega, by omega, by omega, ?_⟩
        rw [show min (n : Int) ((b : Int) + 1) = ((min n (b + 1) : Nat) : Int) by omega]
        walk_at "dl"
        by_cases z : grpF n B b (min n (b + 1) - 1) = min n (b + 1)
        · rw [decide_eq_true (by omega)]
          walk_at "dl"
          refine ⟨n, b, rfl, by omega, by omega, ?_⟩
          rw [z] at low
          have eq := Rat.le_antisymm up low
          rw [eq]
          rw [w_ne_fr, decide_eq_true rfl]
          walk_at "dl"
        · rw [decide_eq_false (by omega)]
          walk_at "dl"
      · rintro δ G4 ⟨rfl, rfl⟩
        refine dSeq_mk ?_
        walk_at "dl"
        refine ⟨h, n, rfl, hH, by omega, fun ds hdl hds hdz => ?_⟩
        walk_at "dl"
        refine ⟨by decide, h, .lst [frts (List.replicate n 0), frts ds], [frts (List.replicate n 0), frts ds], rfl, hH, rfl, ⟨Nat.succ_pos _, by show 2 < 2 ^ 60; decide⟩, fun y hy => ?_⟩
        obtain ⟨xs, rfl, hx, hxs⟩ : ∃ xs, y = frts xs ∧ GmD n 20 xs ∧ xs.sum = 0 := by
          revert y
          walk_at "all"
          exact ⟨⟨_, rfl, hz, zeros_sum n⟩, ⟨_, rfl, ⟨hdl, hdz⟩, hds⟩⟩
        clear hy
        have tp1 : 1 ≤ (tpsF n B).length := List.length_pos_iff.mpr fun z => rowsF_ne (B := B) hn.1 (by unfold rowsF; rw [z]; rfl)
        refine dSeq_mk ?_
        walk_at "dl"
        refine ⟨⟨by decide, by decide, by omega, by omega⟩, ?_⟩
        rw [show ((b : Int) + 1 - 1).toNat = b by omega]
        refine lc_src (List.range b) (fun i : Nat => .int (1 + (i : Nat))) (fun i => fr (Wd (rowsF n B) (i + 1) xs)) rfl (by rw [List.length_range]; exact Nat.le_trans (by omega : _ ≤ 1000) (by decide)) (fun _ _ _ => trivial) (fun i hi p ys Q' hp k => ?_) ?_
        · have hi := List.mem_range.mp hi
          walk_at "dl"
          exact ⟨n, B, i + 1, 20, xs, by rw [show (1 : Int) + (i : Nat) = ((i + 1 : Nat) : Int) by omega], hn, hB, by omega, Nat.le_trans (Nat.pow_le_pow_right tp1 (by omega)) hf, hx, by decide, hxs, k⟩
        refine dSeq_mk ?_
        walk_at "dl"
        have ecut : DL.cutD ((List.range b).map fun i => fr (Wd (rowsF n B) (i + 1) xs)) (some 1) none = ((List.range b).drop 1).map fun i => fr (Wd (rowsF n B) (i + 1) xs) := by
          rw [cut_from1, List.map_drop]
        rw [ecut, prs_zip]
        refine lc_src ((List.range b).zip ((List.range b).drop 1)) (fun p => .tup [fr (Wd (rowsF n B) (p.1 + 1) xs), fr (Wd (rowsF n B) (p.2 + 1) xs)]) (fun _ => .bl true) rfl (by rw [List.length_zip, List.length_range]; exact Nat.le_trans (by omega : _ ≤ 1000) (by decide)) (fun _ _ _ => trivial) (fun pr hpr p ys Q' hp k => ?_) ?_
        · obtain ⟨i, hi, e⟩ := List.mem_iff_getElem.mp hpr
          have hl := hi
          rw [List.length_zip, List.length_drop, List.length_range] at hl
          rw [List.getElem_zip, List.getElem_range, List.getElem_drop, List.getElem_range] at e
          subst e
          walk_at "dl"
          refine ⟨_, _, rfl, hWz xs hx _ (by omega) B hB, hWz xs hx _ (by omega) B hB, ?_⟩
          rw [decide_eq_true (by rw [show 1 + i + 1 = i + 2 by omega]; exact Wd_more hn.1 i xs hx.ln)]
          exact k
        walk_at "dl"
        rw [show (((List.range b).zip ((List.range b).drop 1)).all fun _ => true) = true from List.all_eq_true.mpr fun _ _ => rfl]
        walk_at "dl"
        by_cases z7 : (B : Int) < 7
        · rw [decide_eq_true z7]
          walk_at "dl"
          rw [show (2 : Int) * (B : Nat) = ((2 * B : Nat) : Int) by omega]
          refine ⟨.l (by omega) (by omega), n, 2 * B, b, rfl, hn, by omega, hb, ?_⟩
          by_cases zh : 4000 < (n * (tpsF n (2 * B)).length) ^ b
          · rw [decide_eq_true zh]
            walk_at "dl"
            exact kN _ _ ⟨hH, _, _, _, _, _, _, _, _, _, _, _, _, _, rfl⟩
          · rw [decide_eq_false zh]
            walk_at "dl"
            refine ⟨n, B, b, 20, xs, rfl, hn, hB, hb, hf, hx, by decide, hxs, ?_⟩
            refine ⟨.l (by omega) (by omega), n, 2 * B, b, 20, xs, rfl, hn, by omega, hb, ?_, hx, by decide, hxs, ?_⟩
            · exact Nat.le_trans (Nat.pow_le_pow_left (Nat.le_mul_of_pos_left _ hn.1) b) (by omega)
            · refine ⟨_, _, rfl, hWz xs hx _ hb B hB, hWz xs hx _ hb (2 * B) (by omega), ?_⟩
              rw [decide_eq_true (Wd_fine hn.1 (by decide) hB.1 b xs hx.ln)]
              walk_at "dl"
              exact kN _ _ ⟨hH, _, _, _, _, _, _, _, _, _, _, _, _, _, rfl⟩
        · rw [decide_eq_false z7]
          walk_at "dl"
          exact kN _ _ ⟨hH, _, _, _, _, _, _, _, _, _, _, _, _, _, rfl⟩
  · rintro δ G2 ⟨hH, s2, s3, s4, s5, s6, s7, s8, s9, s10, s11, s12, s13, s14, rfl⟩
    walk_at "dl"
    exact Rt.same (q _)
end Tx
namespace Tx
open PySem PySem.Spec PyProof.Rows L2 DL
def topS (i : Nat) : Stmt := PySem.Challenge.pw_harmonicdues_k24_whole_steps_of_games.main.body.getD i (.Pass ⟨0, 0, 0, 0⟩)
def topC (i j : Nat) : Stmt := match topS i with | .ClassDef (body := b) .. => b.getD j (.Pass ⟨0, 0, 0, 0⟩) | _ => .Pass ⟨0, 0, 0, 0⟩
abbrev s_L_tops : Stmt := topS 48
theorem sc_L_tops : FnScope ["_law_n", "_law_bottom", "_law_found", "_law_person", "_law_later", "_law_row", "_law_top"] ["_law_n", "_law_bottom"] (defScope s_L_tops) := ⟨rfl, rfl, rfl, by decide +kernel, rfl, by decide +kernel, by decide +kernel⟩
abbrev s_L_are_heavy : Stmt := topS 51
theorem sc_L_are_heavy : FnScope ["_law_n", "_law_bottom", "_law_beats", "_law_rows", "_law_beat"] ["_law_n", "_law_bottom", "_law_beats"] (defScope s_L_are_heavy) := ⟨rfl, rfl, rfl, by decide +kernel, rfl, by decide +kernel, by decide +kernel⟩
abbrev s_is_less : Stmt := topS 16
theorem sc_is_less : FnScope ["one", "other"] ["one", "other"] (defScope s_is_less) := ⟨rfl, rfl, rfl, by decide +kernel, rfl, by decide +kernel, by decide +kernel⟩
abbrev s_greater : Stmt := topS 36
theorem sc_greater : FnScope ["one", "other"] ["one", "other"] (defScope s_greater) := ⟨rfl, rfl, rfl, by decide +kernel, rfl, by decide +kernel, by decide +kernel⟩
abbrev s_greatest_of : Stmt := topS 18
theorem sc_greatest_of : FnScope ["some", "found", "one"] ["some"] (defScope s_greatest_of) := ⟨rfl, rfl, rfl, by decide +kernel, rfl, by decide +kernel, by decide +kernel⟩
abbrev s_divisor : Stmt := topS 12
theorem sc_divisor : FnScope ["one", "other"] ["one", "other"] (defScope s_divisor) := ⟨rfl, rfl, rfl, by decide +kernel, rfl, by decide +kernel, by decide +kernel⟩
abbrev s_lowest : Stmt := topS 13
theorem sc_lowest : FnScope ["top", "bottom", "by"] ["top", "bottom"] (defScope s_lowest) := ⟨rfl, rfl, rfl, by decide +kernel, rfl, by decide +kernel, by decide +kernel⟩
abbrev s_plus : Stmt := topS 14
theorem sc_plus : FnScope ["one", "other"] ["one", "other"] (defScope s_plus) := ⟨rfl, rfl, rfl, by decide +kernel, rfl, by decide +kernel, by decide +kernel⟩
abbrev s_with_shares : Stmt := topS 21
theorem sc_with_shares : FnScope ["so_far", "shares", "one", "top"] ["so_far", "shares"] (defScope s_with_shares) := ⟨rfl, rfl, rfl, by decide +kernel, rfl, by decide +kernel, by decide +kernel⟩
abbrev s_minus : Stmt := topS 15
theorem sc_minus : FnScope ["one", "other"] ["one", "other"] (defScope s_minus) := ⟨rfl, rfl, rfl, by decide +kernel, rfl, by decide +kernel, by decide +kernel⟩
abbrev s_paid : Stmt := topS 23
theorem sc_paid : FnScope ["debts", "person"] ["debts", "person"] (defScope s_paid) := ⟨rfl, rfl, rfl, by decide +kernel, rfl, by decide +kernel, by decide +kernel⟩
abbrev s_Game_dealt_worth : Stmt := topC 37 1
theorem sc_Game_dealt_worth : FnScope ["self", "beats", "debts", "shares", "person", "behind", "here"] ["self", "beats", "debts", "shares", "person"] (defScope s_Game_dealt_worth) := ⟨rfl, rfl, rfl, by decide +kernel, rfl, by decide +kernel, by decide +kernel⟩
abbrev s_Game_answered : Stmt := topC 37 2
theorem sc_Game_answered : FnScope ["self", "beats", "debts", "shares", "found", "person", "other"] ["self", "beats", "debts", "shares"] (defScope s_Game_answered) := ⟨rfl, rfl, rfl, by decide +kernel, rfl, by decide +kernel, by decide +kernel⟩
abbrev s_Game_worth : Stmt := topC 37 3
theorem sc_Game_worth : FnScope ["self", "beats", "debts", "name", "shares"] ["self", "beats", "debts"] (defScope s_Game_worth) := ⟨rfl, rfl, rfl, by decide +kernel, rfl, by decide +kernel, by decide +kernel⟩
abbrev s_all_tops : Stmt := topS 31
theorem sc_all_tops : FnScope ["n", "bottom", "found", "top", "rest"] ["n", "bottom"] (defScope s_all_tops) := ⟨rfl, rfl, rfl, by decide +kernel, rfl, by decide +kernel, by decide +kernel⟩
abbrev s_all_shares : Stmt := topS 32
theorem sc_all_shares : FnScope ["n", "bottom", "tops"] ["n", "bottom"] (defScope s_all_shares) := ⟨rfl, rfl, rfl, by decide +kernel, rfl, by decide +kernel, by decide +kernel⟩
abbrev s_Game___init__ : Stmt := topC 37 0
theorem sc_Game___init__ : FnScope ["self", "n", "bottom"] ["self", "n", "bottom"] (defScope s_Game___init__) := ⟨rfl, rfl, rfl, by decide +kernel, rfl, by decide +kernel, by decide +kernel⟩
abbrev s_check_few : Stmt := topS 34
theorem sc_check_few : FnScope ["n", "bottom", "beats", "many", "rows", "turn"] ["n", "bottom", "beats"] (defScope s_check_few) := ⟨rfl, rfl, rfl, by decide +kernel, rfl, by decide +kernel, by decide +kernel⟩
abbrev s_total : Stmt := topS 17
theorem sc_total : FnScope ["some", "found", "one"] ["some"] (defScope s_total) := ⟨rfl, rfl, rfl, by decide +kernel, rfl, by decide +kernel, by decide +kernel⟩
abbrev s_is_integer : Stmt := topS 1
theorem sc_is_integer : FnScope ["thing"] ["thing"] (defScope s_is_integer) := ⟨rfl, rfl, rfl, by decide +kernel, rfl, by decide +kernel, by decide +kernel⟩
abbrev s_is_pair : Stmt := topS 3
theorem sc_is_pair : FnScope ["thing"] ["thing"] (defScope s_is_pair) := ⟨rfl, rfl, rfl, by decide +kernel, rfl, by decide +kernel, by decide +kernel⟩
abbrev s_is_fraction : Stmt := topS 19
theorem sc_is_fraction : FnScope ["thing"] ["thing"] (defScope s_is_fraction) := ⟨rfl, rfl, rfl, by decide +kernel, rfl, by decide +kernel, by decide +kernel⟩
abbrev s_are_debts : Stmt := topS 25
theorem sc_are_debts : FnScope ["n", "thing", "one"] ["n", "thing"] (defScope s_are_debts) := ⟨rfl, rfl, rfl, by decide +kernel, rfl, by decide +kernel, by decide +kernel⟩
abbrev s_is_within : Stmt := topS 2
theorem sc_is_within : FnScope ["thing", "low", "high"] ["thing", "low", "high"] (defScope s_is_within) := ⟨rfl, rfl, rfl, by decide +kernel, rfl, by decide +kernel, by decide +kernel⟩
abbrev s_check_parts : Stmt := topS 33
theorem sc_check_parts : FnScope ["n", "bottom", "beats"] ["n", "bottom", "beats"] (defScope s_check_parts) := ⟨rfl, rfl, rfl, by decide +kernel, rfl, by decide +kernel, by decide +kernel⟩
abbrev s_check_game : Stmt := topS 35
theorem sc_check_game : FnScope ["n", "bottom", "beats", "debts"] ["n", "bottom", "beats", "debts"] (defScope s_check_game) := ⟨rfl, rfl, rfl, by decide +kernel, rfl, by decide +kernel, by decide +kernel⟩
abbrev s_worth : Stmt := topS 38
theorem sc_worth : FnScope ["n", "bottom", "beats", "debts"] ["n", "bottom", "beats", "debts"] (defScope s_worth) := ⟨rfl, rfl, rfl, by decide +kernel, rfl, by decide +kernel, by decide +kernel⟩
abbrev s_L_less : Stmt := topS 46
theorem sc_L_less : FnScope ["_law_one", "_law_other"] ["_law_one", "_law_other"] (defScope s_L_less) := ⟨rfl, rfl, rfl, by decide +kernel, rfl, by decide +kernel, by decide +kernel⟩
abbrev s_L_at_most : Stmt := topS 53
theorem sc_L_at_most : FnScope ["_law_one", "_law_other"] ["_law_one", "_law_other"] (defScope s_L_at_most) := ⟨rfl, rfl, rfl, by decide +kernel, rfl, by decide +kernel, by decide +kernel⟩
abbrev s_L_draw : Stmt := topS 41
theorem sc_L_draw : FnScope ["_law_hand_here", "_law_many", "_law_cell", "_law_digit", "_law_number"] ["_law_hand_here", "_law_many"] (defScope s_L_draw) := ⟨rfl, rfl, rfl, by decide +kernel, rfl, by decide +kernel, by decide +kernel⟩
abbrev s_L_shuffled : Stmt := topS 43
theorem sc_L_shuffled : FnScope ["_law_hand_here", "_law_things", "_law_pool", "_law_found"] ["_law_hand_here", "_law_things"] (defScope s_L_shuffled) := ⟨rfl, rfl, rfl, by decide +kernel, rfl, by decide +kernel, by decide +kernel⟩
abbrev s_L_low : Stmt := topS 44
theorem sc_L_low : FnScope ["_law_top", "_law_bottom", "_law_one", "_law_other"] ["_law_top", "_law_bottom"] (defScope s_L_low) := ⟨rfl, rfl, rfl, by decide +kernel, rfl, by decide +kernel, by decide +kernel⟩
abbrev s_L_some : Stmt := topS 42
theorem sc_L_some : FnScope ["_law_hand_here", "_law_things"] ["_law_hand_here", "_law_things"] (defScope s_L_some) := ⟨rfl, rfl, rfl, by decide +kernel, rfl, by decide +kernel, by decide +kernel⟩
abbrev s_L_debts : Stmt := topS 49
theorem sc_L_debts : FnScope ["_law_hand_here", "_law_n", "_law_bottom", "_law_tops_here", "_law_person", "_law_top"] ["_law_hand_here", "_law_n"] (defScope s_L_debts) := ⟨rfl, rfl, rfl, by decide +kernel, rfl, by decide +kernel, by decide +kernel⟩
abbrev s_L_plus : Stmt := topS 45
theorem sc_L_plus : FnScope ["_law_one", "_law_other"] ["_law_one", "_law_other"] (defScope s_L_plus) := ⟨rfl, rfl, rfl, by decide +kernel, rfl, by decide +kernel, by decide +kernel⟩
abbrev s_L_most : Stmt := topS 47
theorem sc_L_most : FnScope ["_law_n", "_law_beats", "_law_found", "_law_k"] ["_law_n", "_law_beats"] (defScope s_L_most) := ⟨rfl, rfl, rfl, by decide +kernel, rfl, by decide +kernel, by decide +kernel⟩
abbrev s_L_group : Stmt := topS 52
theorem sc_L_group : FnScope ["_law_n", "_law_bottom", "_law_beats", "_law_found", "_law_k"] ["_law_n", "_law_bottom", "_law_beats"] (defScope s_L_group) := ⟨rfl, rfl, rfl, by decide +kernel, rfl, by decide +kernel, by decide +kernel⟩
abbrev s_L_sizes : Stmt := topS 50
theorem sc_L_sizes : FnScope ["_law_hand_here", "_law_bound", "_law_few", "_law_n", "_law_bottom", "_law_beats", "_law_many", "_law_turn", "_law_rows", "_law_beat"] ["_law_hand_here", "_law_bound"] (defScope s_L_sizes) := ⟨rfl, rfl, rfl, by decide +kernel, rfl, by decide +kernel, by decide +kernel⟩
abbrev s_L_hand : Stmt := topS 40
theorem sc_L_hand : FnScope ["_law_script", "_law_cells", "_law_cell"] ["_law_script"] (defScope s_L_hand) := ⟨rfl, rfl, rfl, by decide +kernel, rfl, by decide +kernel, by decide +kernel⟩
abbrev s_law : Stmt := topS 54
theorem sc_law : FnScope ["_law_script", "_law_hand_here", "_law_turn", "_law_n", "_law_bottom", "_law_beats", "_law_none", "_law_told", "_law_least", "_law_k", "_law_debts_here", "_law_rows", "_law_beat", "_law_one", "_law_other"] ["_law_script"] (defScope s_law) := ⟨rfl, rfl, rfl, by decide +kernel, rfl, by decide +kernel, by decide +kernel⟩
set_option maxHeartbeats 4000000 in
structure Txt (K : PySem.W.Frag) (mg : Str → Option Value) where
  a_L_tops : Addr
  d_L_tops : FuncData
  F_L_tops : Fun K "_law_tops" "_law_tops" s_L_tops a_L_tops d_L_tops
  g_L_tops : mg "_law_tops" = some (.ref a_L_tops)
  b_L_tops : Binds K d_L_tops ["_law_n", "_law_bottom"] []
  a_L_are_heavy : Addr
  d_L_are_heavy : FuncData
  F_L_are_heavy : Fun K "_law_are_heavy" "_law_are_heavy" s_L_are_heavy a_L_are_heavy d_L_are_heavy
  g_L_are_heavy : mg "_law_are_heavy" = some (.ref a_L_are_heavy)
  b_L_are_heavy : Binds K d_L_are_heavy ["_law_n", "_law_bottom", "_law_beats"] []
  a_is_less : Addr
  d_is_less : FuncData
  F_is_less : Fun K "is_less" "is_less" s_is_less a_is_less d_is_less
  g_is_less : mg "is_less" = some (.ref a_is_less)
  b_is_less : Binds K d_is_less ["one", "other"] []
  a_greater : Addr
  d_greater : FuncData
  F_greater : Fun K "greater" "greater" s_greater a_greater d_greater
  g_greater : mg "greater" = some (.ref a_greater)
  b_greater : Binds K d_greater ["one", "other"] []
  a_greatest_of : Addr
  d_greatest_of : FuncData
  F_greatest_of : Fun K "greatest_of" "greatest_of" s_greatest_of a_greatest_of d_greatest_of
  g_greatest_of : mg "greatest_of" = some (.ref a_greatest_of)
  b_greatest_of : Binds K d_greatest_of ["some"] []
  a_divisor : Addr
  d_divisor : FuncData
  F_divisor : Fun K "divisor" "divisor" s_divisor a_divisor d_divisor
  g_divisor : mg "divisor" = some (.ref a_divisor)
  b_divisor : Binds K d_divisor ["one", "other"] []
  a_lowest : Addr
  d_lowest : FuncData
  F_lowest : Fun K "lowest" "lowest" s_lowest a_lowest d_lowest
  g_lowest : mg "lowest" = some (.ref a_lowest)
  b_lowest : Binds K d_lowest ["top", "bottom"] []
  a_plus : Addr
  d_plus : FuncData
  F_plus : Fun K "plus" "plus" s_plus a_plus d_plus
  g_plus : mg "plus" = some (.ref a_plus)
  b_plus : Binds K d_plus ["one", "other"] []
  a_with_shares : Addr
  d_with_shares : FuncData
  F_with_shares : Fun K "with_shares" "with_shares" s_with_shares a_with_shares d_with_shares
  g_with_shares : mg "with_shares" = some (.ref a_with_shares)
  b_with_shares : Binds K d_with_shares ["so_far", "shares"] []
  a_minus : Addr
  d_minus : FuncData
  F_minus : Fun K "minus" "minus" s_minus a_minus d_minus
  g_minus : mg "minus" = some (.ref a_minus)
  b_minus : Binds K d_minus ["one", "other"] []
  a_paid : Addr
  d_paid : FuncData
  F_paid : Fun K "paid" "paid" s_paid a_paid d_paid
  g_paid : mg "paid" = some (.ref a_paid)
  b_paid : Binds K d_paid ["debts", "person"] []
  a_Game_dealt_worth : Addr
  d_Game_dealt_worth : FuncData
  F_Game_dealt_worth : Fun K "dealt_worth" "Game.dealt_worth" s_Game_dealt_worth a_Game_dealt_worth d_Game_dealt_worth
  b_Game_dealt_worth : Binds K d_Game_dealt_worth ["self", "beats", "debts", "shares", "person"] []
  a_Game_answered : Addr
  d_Game_answered : FuncData
  F_Game_answered : Fun K "answered" "Game.answered" s_Game_answered a_Game_answered d_Game_answered
  b_Game_answered : Binds K d_Game_answered ["self", "beats", "debts", "shares"] []
  a_Game_worth : Addr
  d_Game_worth : FuncData
  F_Game_worth : Fun K "worth" "Game.worth" s_Game_worth a_Game_worth d_Game_worth
  b_Game_worth : Binds K d_Game_worth ["self", "beats", "debts"] []
  a_all_tops : Addr
  d_all_tops : FuncData
  F_all_tops : Fun K "all_tops" "all_tops" s_all_tops a_all_tops d_all_tops
  g_all_tops : mg "all_tops" = some (.ref a_all_tops)
  b_all_tops : Binds K d_all_tops ["n", "bottom"] []
  a_all_shares : Addr
  d_all_shares : FuncData
  F_all_shares : Fun K "all_shares" "all_shares" s_all_shares a_all_shares d_all_shares
  g_all_shares : mg "all_shares" = some (.ref a_all_shares)
  b_all_shares : Binds K d_all_shares ["n", "bottom"] []
  a_Game___init__ : Addr
  d_Game___init__ : FuncData
  F_Game___init__ : Fun K "__init__" "Game.__init__" s_Game___init__ a_Game___init__ d_Game___init__
  b_Game___init__ : Binds K d_Game___init__ ["self", "n", "bottom"] []
  a_check_few : Addr
  d_check_few : FuncData
  F_check_few : Fun K "check_few" "check_few" s_check_few a_check_few d_check_few
  g_check_few : mg "check_few" = some (.ref a_check_few)
  b_check_few : Binds K d_check_few ["n", "bottom", "beats"] []
  a_total : Addr
  d_total : FuncData
  F_total : Fun K "total" "total" s_total a_total d_total
  g_total : mg "total" = some (.ref a_total)
  b_total : Binds K d_total ["some"] []
  a_is_integer : Addr
  d_is_integer : FuncData
  F_is_integer : Fun K "is_integer" "is_integer" s_is_integer a_is_integer d_is_integer
  g_is_integer : mg "is_integer" = some (.ref a_is_integer)
  b_is_integer : Binds K d_is_integer ["thing"] []
  a_is_pair : Addr
  d_is_pair : FuncData
  F_is_pair : Fun K "is_pair" "is_pair" s_is_pair a_is_pair d_is_pair
  g_is_pair : mg "is_pair" = some (.ref a_is_pair)
  b_is_pair : Binds K d_is_pair ["thing"] []
  a_is_fraction : Addr
  d_is_fraction : FuncData
  F_is_fraction : Fun K "is_fraction" "is_fraction" s_is_fraction a_is_fraction d_is_fraction
  g_is_fraction : mg "is_fraction" = some (.ref a_is_fraction)
  b_is_fraction : Binds K d_is_fraction ["thing"] []
  a_are_debts : Addr
  d_are_debts : FuncData
  F_are_debts : Fun K "are_debts" "are_debts" s_are_debts a_are_debts d_are_debts
  g_are_debts : mg "are_debts" = some (.ref a_are_debts)
  b_are_debts : Binds K d_are_debts ["n", "thing"] []
  a_is_within : Addr
  d_is_within : FuncData
  F_is_within : Fun K "is_within" "is_within" s_is_within a_is_within d_is_within
  g_is_within : mg "is_within" = some (.ref a_is_within)
  b_is_within : Binds K d_is_within ["thing", "low", "high"] []
  a_check_parts : Addr
  d_check_parts : FuncData
  F_check_parts : Fun K "check_parts" "check_parts" s_check_parts a_check_parts d_check_parts
  g_check_parts : mg "check_parts" = some (.ref a_check_parts)
  b_check_parts : Binds K d_check_parts ["n", "bottom", "beats"] []
  a_check_game : Addr
  d_check_game : FuncData
  F_check_game : Fun K "check_game" "check_game" s_check_game a_check_game d_check_game
  g_check_game : mg "check_game" = some (.ref a_check_game)
  b_check_game : Binds K d_check_game ["n", "bottom", "beats", "debts"] []
  a_worth : Addr
  d_worth : FuncData
  F_worth : Fun K "worth" "worth" s_worth a_worth d_worth
  g_worth : mg "worth" = some (.ref a_worth)
  b_worth : Binds K d_worth ["n", "bottom", "beats", "debts"] []
  a_L_less : Addr
  d_L_less : FuncData
  F_L_less : Fun K "_law_less" "_law_less" s_L_less a_L_less d_L_less
  g_L_less : mg "_law_less" = some (.ref a_L_less)
  b_L_less : Binds K d_L_less ["_law_one", "_law_other"] []
  a_L_at_most : Addr
  d_L_at_most : FuncData
  F_L_at_most : Fun K "_law_at_most" "_law_at_most" s_L_at_most a_L_at_most d_L_at_most
  g_L_at_most : mg "_law_at_most" = some (.ref a_L_at_most)
  b_L_at_most : Binds K d_L_at_most ["_law_one", "_law_other"] []
  a_L_draw : Addr
  d_L_draw : FuncData
  F_L_draw : Fun K "_law_draw" "_law_draw" s_L_draw a_L_draw d_L_draw
  g_L_draw : mg "_law_draw" = some (.ref a_L_draw)
  b_L_draw : Binds K d_L_draw ["_law_hand_here", "_law_many"] []
  a_L_shuffled : Addr
  d_L_shuffled : FuncData
  F_L_shuffled : Fun K "_law_shuffled" "_law_shuffled" s_L_shuffled a_L_shuffled d_L_shuffled
  g_L_shuffled : mg "_law_shuffled" = some (.ref a_L_shuffled)
  b_L_shuffled : Binds K d_L_shuffled ["_law_hand_here", "_law_things"] []
  a_L_low : Addr
  d_L_low : FuncData
  F_L_low : Fun K "_law_low" "_law_low" s_L_low a_L_low d_L_low
  g_L_low : mg "_law_low" = some (.ref a_L_low)
  b_L_low : Binds K d_L_low ["_law_top", "_law_bottom"] []
  a_L_some : Addr
  d_L_some : FuncData
  F_L_some : Fun K "_law_some" "_law_some" s_L_some a_L_some d_L_some
  g_L_some : mg "_law_some" = some (.ref a_L_some)
  b_L_some : Binds K d_L_some ["_law_hand_here", "_law_things"] []
  a_L_debts : Addr
  d_L_debts : FuncData
  F_L_debts : Fun K "_law_debts" "_law_debts" s_L_debts a_L_debts d_L_debts
  g_L_debts : mg "_law_debts" = some (.ref a_L_debts)
  b_L_debts : Binds K d_L_debts ["_law_hand_here", "_law_n"] []
  a_L_plus : Addr
  d_L_plus : FuncData
  F_L_plus : Fun K "_law_plus" "_law_plus" s_L_plus a_L_plus d_L_plus
  g_L_plus : mg "_law_plus" = some (.ref a_L_plus)
  b_L_plus : Binds K d_L_plus ["_law_one", "_law_other"] []
  a_L_most : Addr
  d_L_most : FuncData
  F_L_most : Fun K "_law_most" "_law_most" s_L_most a_L_most d_L_most
  g_L_most : mg "_law_most" = some (.ref a_L_most)
  b_L_most : Binds K d_L_most ["_law_n", "_law_beats"] []
  a_L_group : Addr
  d_L_group : FuncData
  F_L_group : Fun K "_law_group" "_law_group" s_L_group a_L_group d_L_group
  g_L_group : mg "_law_group" = some (.ref a_L_group)
  b_L_group : Binds K d_L_group ["_law_n", "_law_bottom", "_law_beats"] []
  a_L_sizes : Addr
  d_L_sizes : FuncData
  F_L_sizes : Fun K "_law_sizes" "_law_sizes" s_L_sizes a_L_sizes d_L_sizes
  g_L_sizes : mg "_law_sizes" = some (.ref a_L_sizes)
  b_L_sizes : Binds K d_L_sizes ["_law_hand_here", "_law_bound"] []
  a_L_hand : Addr
  d_L_hand : FuncData
  F_L_hand : Fun K "_law_hand" "_law_hand" s_L_hand a_L_hand d_L_hand
  g_L_hand : mg "_law_hand" = some (.ref a_L_hand)
  b_L_hand : Binds K d_L_hand ["_law_script"] []
  a_law : Addr
  d_law : FuncData
  F_law : Fun K "law" "law" s_law a_law d_law
  g_law : mg "law" = some (.ref a_law)
  b_law : Binds K d_law ["_law_script"] []
  a_Game : Addr
  i_Game : IsC K "Game" a_Game
  g_Game : mg "Game" = some (.ref a_Game)
  q_Game : Cls K a_Game
  n_Game_known : NoAttr K a_Game "known"
  n_Game_rows : NoAttr K a_Game "rows"
  m_Game_dealt_worth : Meth K a_Game "dealt_worth" a_Game_dealt_worth
  m_Game_answered : Meth K a_Game "answered" a_Game_answered
  m_Game_worth : Meth K a_Game "worth" a_Game_worth
  k_Game : Mk K a_Game a_Game___init__
  m_abs : mg "abs" = none
  m_all : mg "all" = none
  m_bool : mg "bool" = none
  m_int : mg "int" = none
  m_isinstance : mg "isinstance" = none
  m_len : mg "len" = none
  m_list : mg "list" = none
  m_min : mg "min" = none
  m_range : mg "range" = none
  m_sorted : mg "sorted" = none
  m_sum : mg "sum" = none
  m_tuple : mg "tuple" = none
  m_zip : mg "zip" = none
  t_MOST_BEATS : Tok
  c_MOST_BEATS : True ∧ mg "MOST_BEATS" = some (.int 6 t_MOST_BEATS)
  t_MOST_PARTS : Tok
  c_MOST_PARTS : True ∧ mg "MOST_PARTS" = some (.int 12 t_MOST_PARTS)
  t_MOST_PEOPLE : Tok
  c_MOST_PEOPLE : True ∧ mg "MOST_PEOPLE" = some (.int 4 t_MOST_PEOPLE)
  t_MOST_ROWS : Tok
  c_MOST_ROWS : True ∧ mg "MOST_ROWS" = some (.int 20000 t_MOST_ROWS)
  a_NOUGHT : Addr
  k_NOUGHT : mg "NOUGHT" = some (.ref a_NOUGHT) ∧ ∃ vs, SqT K (fun _ => none) a_NOUGHT vs ∧ Rps K (fun _ => none)  [(.int 0), (.int 1)] vs
  a_ONE : Addr
  k_ONE : mg "ONE" = some (.ref a_ONE) ∧ ∃ vs, SqT K (fun _ => none) a_ONE vs ∧ Rps K (fun _ => none)  [(.int 1), (.int 1)] vs
section
variable {P : Program} {w : World} {K : PySem.W.Frag} {mg : Str → Option Value} {base : Heap}
theorem ok_L_tops (T : Txt K mg) : FnG P w K mg base CX0 1 T.a_L_tops T.d_L_tops ["_law_n", "_law_bottom"] (LSp K sp_L_tops) := by
  refine fn_d T.F_L_tops sc_L_tops len_L_tops (fun cdv A outer s H E F0 hr hmu => ⟨t_L_tops, ?_, rd_L_tops⟩)
  exact (dss_cons (ds_set (i := 2) sc_L_tops.nd rfl (.inl rfl) (de_lst false (da_cons (de_tup da_nil) da_nil)))
    (dss_cons (ds_for (vs := [3]) PassesOwn.never rfl (di_range1 (by rfl) T.m_range (da_cons (de_op op_sub od_sub (de_var (pv 0)) de_int) da_nil)) (dg_name (i := 3) sc_L_tops.nd rfl (Or.inl rfl) (by decide)) (dss_cons (ds_set (i := 4) sc_L_tops.nd rfl (.inl rfl) (de_lst true da_nil))
    (dss_cons (ds_for (vs := [5]) PassesOwn.never rfl (di_seq (de_var (pv 2))) (dg_name (i := 5) sc_L_tops.nd rfl (Or.inr rfl) (by decide)) (dss_one (ds_expr (de_meL PySem.F.slot_list_extend PySem.F.type_list_extend mt_extend md_extend (de_var (pv 4)) (da_cons (de_lc (own := [("_law_top", 6)]) false rfl sc_L_tops.nd (di_range1 (by rfl) T.m_range (da_cons (de_op op_addM (od_add false) (de_op op_sub od_sub (de_var (pv 1)) (de_callB (cr_sumA rfl) cd_sum (by rfl) T.m_sum (by decide +kernel) (da_cons (de_var (pv 5)) da_nil))) de_int) da_nil)) (blkOk_by (N := ["_law_n", "_law_bottom", "_law_found", "_law_person", "_law_later", "_law_row", "_law_top"]) (sc := defScope s_L_tops) (by decide +kernel)) (fun _ _ _ _ _ => (dg_name (i := 6) sc_L_tops.nd rfl (Or.inl rfl) (by decide))) (fun _ _ _ _ _ => dts_nil) (fun _ _ _ _ _ => (de_op op_addM (od_add false) (de_var (pv 5)) (de_tup (da_cons (de_var (pv 6)) da_nil))))) da_nil)))))
    (dss_one (ds_set (i := 2) sc_L_tops.nd rfl (.inl rfl) (de_var (pv 4)))))))
    (dss_one (ds_ret (de_callB (cr_sortN rfl (units60 hr)) (cd_sortN false) (by rfl) T.m_sorted (by decide +kernel) (da_cons (de_lc (own := [("_law_row", 5)]) false rfl sc_L_tops.nd (di_seq (de_var (pv 2))) (blkOk_by (N := ["_law_n", "_law_bottom", "_law_found", "_law_person", "_law_later", "_law_row", "_law_top"]) (sc := defScope s_L_tops) (by decide +kernel)) (fun _ _ _ _ _ => (dg_name (i := 5) sc_L_tops.nd rfl (Or.inl rfl) (by decide))) (fun _ _ _ _ _ => dts_nil) (fun _ _ _ _ _ => (de_op op_addM (od_add false) (de_var (pv 5)) (de_tup (da_cons (de_op op_sub od_sub (de_var (pv 1)) (de_callB (cr_sumA rfl) cd_sum (by rfl) T.m_sum (by decide +kernel) (da_cons (de_var (pv 5)) da_nil))) da_nil))))) da_nil))))))
theorem ok_L_are_heavy (T : Txt K mg) : FnG P w K mg base CX0 2 T.a_L_are_heavy T.d_L_are_heavy ["_law_n", "_law_bottom", "_law_beats"] (LSp K sp_L_are_heavy) := by
  refine fn_d T.F_L_are_heavy sc_L_are_heavy len_L_are_heavy (fun cdv A outer s H E F0 hr hmu => ⟨t_L_are_heavy, ?_, rd_L_are_heavy⟩)
  exact (dss_cons (ds_set (i := 3) sc_L_are_heavy.nd rfl (.inl rfl) de_int)
    (dss_cons (ds_for (vs := [4]) PassesOwn.never rfl (di_range1 (by rfl) T.m_range (da_cons (de_var (pv 2)) da_nil)) (dg_name (i := 4) sc_L_are_heavy.nd rfl (Or.inl rfl) (by decide)) (dss_one (ds_set (i := 3) sc_L_are_heavy.nd rfl (.inl rfl) (de_op op_mulA (od_mul false) (de_op op_mulA (od_mul false) (de_var (pv 3)) (de_var (pv 0))) (de_callB call_len cd_len (by rfl) T.m_len (by decide +kernel) (da_cons (de_call ((ok_L_tops T).up (by decide)) hr hmu (by rfl) T.g_L_tops T.F_L_tops.kp T.b_L_tops pass0 koe0 (da_cons (de_var (pv 0)) (da_cons (de_var (pv 1)) da_nil))) da_nil))))))
    (dss_one (ds_ret (de_cmp op_gt od_gt (nomark _) (de_var (pv 3)) de_int)))))
theorem ok_is_less (T : Txt K mg) : FnG P w K mg base CX0 1 T.a_is_less T.d_is_less ["one", "other"] (LSp K sp_is_less) := by
  refine fn_d T.F_is_less sc_is_less len_is_less (fun cdv A outer s H E F0 hr hmu => ⟨t_is_less, ?_, rd_is_less⟩)
  exact (dss_one (ds_ret (de_cmp op_lt od_lt (nomark _) (de_op op_mulA (od_mul false) (de_ix (de_var (pv 0)) de_int (fun _ _ => rfl)) (de_ix (de_var (pv 1)) de_int (fun _ _ => rfl))) (de_op op_mulA (od_mul false) (de_ix (de_var (pv 1)) de_int (fun _ _ => rfl)) (de_ix (de_var (pv 0)) de_int (fun _ _ => rfl))))))
theorem ok_greater (T : Txt K mg) : FnG P w K mg base CX0 2 T.a_greater T.d_greater ["one", "other"] (LSp K sp_greater) := by
  refine fn_d T.F_greater sc_greater len_greater (fun cdv A outer s H E F0 hr hmu => ⟨t_greater, ?_, rd_greater⟩)
  exact (dss_one (ds_ret (de_if (dt_val (de_call ((ok_is_less T).up (by decide)) hr hmu (by rfl) T.g_is_less T.F_is_less.kp T.b_is_less pass0 koe0 (da_cons (de_var (pv 0)) (da_cons (de_var (pv 1)) da_nil)))) (de_var (pv 1)) (de_var (pv 0)))))
theorem ok_greatest_of (T : Txt K mg) : FnG P w K mg base CX0 2 T.a_greatest_of T.d_greatest_of ["some"] (LSp K sp_greatest_of) := by
  refine fn_d T.F_greatest_of sc_greatest_of len_greatest_of (fun cdv A outer s H E F0 hr hmu => ⟨t_greatest_of, ?_, rd_greatest_of⟩)
  exact (dss_cons (ds_set (i := 1) sc_greatest_of.nd rfl (.inl rfl) (de_ix (de_var (pv 0)) de_int (fun _ _ => rfl)))
    (dss_cons (ds_for (vs := [2]) PassesOwn.never rfl (di_seq (de_var (pv 0))) (dg_name (i := 2) sc_greatest_of.nd rfl (Or.inl rfl) (by decide)) (dss_one (ds_set (i := 1) sc_greatest_of.nd rfl (.inl rfl) (de_if (dt_val (de_call ((ok_is_less T).up (by decide)) hr hmu (by rfl) T.g_is_less T.F_is_less.kp T.b_is_less pass0 koe0 (da_cons (de_var (pv 1)) (da_cons (de_var (pv 2)) da_nil)))) (de_var (pv 2)) (de_var (pv 1))))))
    (dss_one (ds_ret (de_var (pv 1))))))
theorem ok_divisor (T : Txt K mg) : FnG P w K mg base CX0 1 T.a_divisor T.d_divisor ["one", "other"] (LSp K sp_divisor) := by
  refine fn_d T.F_divisor sc_divisor len_divisor (fun cdv A outer s H E F0 hr hmu => ⟨t_divisor, ?_, rd_divisor⟩)
  exact (dss_cons (ds_while PassesOwn.never (dt_cmp (op_neM hr.units) od_ne (nomark _) (de_var (pv 1)) de_int) (dss_one (ds_par (i := 0) (j := 1) rfl sc_divisor.nd rfl rfl (by decide) rfl rfl (da_cons (de_var (pv 1)) (da_cons (de_op op_mod od_mod (de_var (pv 0)) (de_var (pv 1))) da_nil)) (by rfl))))
    (dss_one (ds_ret (de_callB call_abs cd_abs (by rfl) T.m_abs (by decide +kernel) (da_cons (de_var (pv 0)) da_nil)))))
theorem ok_lowest (T : Txt K mg) : FnG P w K mg base CX0 2 T.a_lowest T.d_lowest ["top", "bottom"] (LSp K sp_lowest) := by
  refine fn_d T.F_lowest sc_lowest len_lowest (fun cdv A outer s H E F0 hr hmu => ⟨t_lowest, ?_, rd_lowest⟩)
  exact (dss_cons (ds_set (i := 2) sc_lowest.nd rfl (.inl rfl) (de_call ((ok_divisor T).up (by decide)) hr hmu (by rfl) T.g_divisor T.F_divisor.kp T.b_divisor pass0 koe0 (da_cons (de_var (pv 0)) (da_cons (de_var (pv 1)) da_nil))))
    (dss_one (ds_ret (de_tup (da_cons (de_op op_fdivM od_div (de_var (pv 0)) (de_var (pv 2))) (da_cons (de_op op_fdivM od_div (de_var (pv 1)) (de_var (pv 2))) da_nil))))))
theorem ok_plus (T : Txt K mg) : FnG P w K mg base CX0 3 T.a_plus T.d_plus ["one", "other"] (LSp K sp_plus) := by
  refine fn_d T.F_plus sc_plus len_plus (fun cdv A outer s H E F0 hr hmu => ⟨t_plus, ?_, rd_plus⟩)
  exact (dss_one (ds_ret (de_call ((ok_lowest T).up (by decide)) hr hmu (by rfl) T.g_lowest T.F_lowest.kp T.b_lowest pass0 koe0 (da_cons (de_op op_addM (od_add false) (de_op op_mulA (od_mul false) (de_ix (de_var (pv 0)) de_int (fun _ _ => rfl)) (de_ix (de_var (pv 1)) de_int (fun _ _ => rfl))) (de_op op_mulA (od_mul false) (de_ix (de_var (pv 1)) de_int (fun _ _ => rfl)) (de_ix (de_var (pv 0)) de_int (fun _ _ => rfl)))) (da_cons (de_op op_mulA (od_mul false) (de_ix (de_var (pv 0)) de_int (fun _ _ => rfl)) (de_ix (de_var (pv 1)) de_int (fun _ _ => rfl))) da_nil)))))
theorem ok_with_shares (T : Txt K mg) : FnG P w K mg base CX0 4 T.a_with_shares T.d_with_shares ["so_far", "shares"] (LSp K sp_with_shares) := by
  refine fn_d T.F_with_shares sc_with_shares len_with_shares (fun cdv A outer s H E F0 hr hmu => ⟨t_with_shares, ?_, rd_with_shares⟩)
  exact (dss_one (ds_ret (de_callTy call_tuple_of cd_tuple (by rfl) T.m_tuple (by decide +kernel) (da_cons (de_lc (own := [("one", 2), ("top", 3)]) false rfl sc_with_shares.nd (di_zipX (by rfl) T.m_zip (da_cons (de_var (pv 0)) (da_cons (de_ix (de_var (pv 1)) de_int (fun _ _ => rfl)) da_nil))) (blkOk_by (N := ["so_far", "shares", "one", "top"]) (sc := defScope s_with_shares) (by decide +kernel)) (fun _ _ _ _ _ => (dg_tup rfl (dgs_cons (dg_name (i := 2) sc_with_shares.nd rfl (Or.inl rfl) (by decide)) (dgs_cons (dg_name (i := 3) sc_with_shares.nd rfl (Or.inl rfl) (by decide)) dgs_nil)))) (fun _ _ _ _ _ => dts_nil) (fun _ _ _ _ _ => (de_call ((ok_plus T).up (by decide)) hr hmu (by rfl) T.g_plus T.F_plus.kp T.b_plus pass0 koe0 (da_cons (de_var (pv 2)) (da_cons (de_call ((ok_lowest T).up (by decide)) hr hmu (by rfl) T.g_lowest T.F_lowest.kp T.b_lowest pass0 koe0 (da_cons (de_var (pv 3)) (da_cons (de_ix (de_var (pv 1)) de_int (fun _ _ => rfl)) da_nil))) da_nil))))) da_nil))))
theorem ok_minus (T : Txt K mg) : FnG P w K mg base CX0 3 T.a_minus T.d_minus ["one", "other"] (LSp K sp_minus) := by
  refine fn_d T.F_minus sc_minus len_minus (fun cdv A outer s H E F0 hr hmu => ⟨t_minus, ?_, rd_minus⟩)
  exact (dss_one (ds_ret (de_call ((ok_lowest T).up (by decide)) hr hmu (by rfl) T.g_lowest T.F_lowest.kp T.b_lowest pass0 koe0 (da_cons (de_op op_sub od_sub (de_op op_mulA (od_mul false) (de_ix (de_var (pv 0)) de_int (fun _ _ => rfl)) (de_ix (de_var (pv 1)) de_int (fun _ _ => rfl))) (de_op op_mulA (od_mul false) (de_ix (de_var (pv 1)) de_int (fun _ _ => rfl)) (de_ix (de_var (pv 0)) de_int (fun _ _ => rfl)))) (da_cons (de_op op_mulA (od_mul false) (de_ix (de_var (pv 0)) de_int (fun _ _ => rfl)) (de_ix (de_var (pv 1)) de_int (fun _ _ => rfl))) da_nil)))))
theorem ok_paid (T : Txt K mg) : FnG P w K mg base CX0 4 T.a_paid T.d_paid ["debts", "person"] (LSp K sp_paid) := by
  refine fn_d T.F_paid sc_paid len_paid (fun cdv A outer s H E F0 hr hmu => ⟨t_paid, ?_, rd_paid⟩)
  exact (dss_one (ds_ret (de_op op_addM (od_add false) (de_op op_addM (od_add false) (de_slice false (de_var (pv 0)) do_none (do_some (de_var (pv 1)))) (de_tup (da_cons (de_call ((ok_minus T).up (by decide)) hr hmu (by rfl) T.g_minus T.F_minus.kp T.b_minus pass0 koe0 (da_cons (de_ix (de_var (pv 0)) (de_var (pv 1)) (fun _ _ => rfl)) (da_cons (de_cT (pe_glob (by rfl) T.k_ONE.1 rfl) T.k_ONE.2) da_nil))) da_nil))) (de_slice false (de_var (pv 0)) (do_some (de_op op_addM (od_add false) (de_var (pv 1)) de_int)) do_none))))
theorem ok_Game_dealt_worth (T : Txt K mg) (d : Nat) (ih : FnG P w K mg base CX0 (5 + 3 * d + 0) T.a_Game_worth T.d_Game_worth ["self", "beats", "debts"] (LSp K (sp_Game_worth d))) : FnG P w K mg base CX0 (5 + 3 * d + 1) T.a_Game_dealt_worth T.d_Game_dealt_worth ["self", "beats", "debts", "shares", "person"] (LSp K (sp_Game_dealt_worth d)) := by
  refine fn_d T.F_Game_dealt_worth sc_Game_dealt_worth (len_Game_dealt_worth d) (fun cdv A outer s H E F0 hr hmu => ⟨t_Game_dealt_worth (sp_Game_worth d), ?_, rd_Game_dealt_worth d⟩)
  exact (dss_cons (ds_set (i := 5) sc_Game_dealt_worth.nd rfl (.inl rfl) (de_call ((ok_paid T).up (by first | omega | (simp only [Nat.add_eq, Nat.mul_eq]; omega))) hr hmu (by rfl) T.g_paid T.F_paid.kp T.b_paid pass0 koe0 (da_cons (de_call ((ok_with_shares T).up (by first | omega | (simp only [Nat.add_eq, Nat.mul_eq]; omega))) hr hmu (by rfl) T.g_with_shares T.F_with_shares.kp T.b_with_shares pass0 koe0 (da_cons (de_var (pv 2)) (da_cons (de_var (pv 3)) da_nil))) (da_cons (de_var (pv 4)) da_nil))))
    (dss_cons (ds_set (i := 6) sc_Game_dealt_worth.nd rfl (.inl rfl) (de_call ((ok_greatest_of T).up (by first | omega | (simp only [Nat.add_eq, Nat.mul_eq]; omega))) hr hmu (by rfl) T.g_greatest_of T.F_greatest_of.kp T.b_greatest_of pass0 koe0 (da_cons (de_var (pv 5)) da_nil)))
    (dss_one (ds_ret (de_if (dt_cmp (op_eqM hr.units) od_eq (nomark _) (de_var (pv 1)) de_int) (de_var (pv 6)) (de_call ((ok_greater T).up (by first | omega | (simp only [Nat.add_eq, Nat.mul_eq]; omega))) hr hmu (by rfl) T.g_greater T.F_greater.kp T.b_greater pass0 koe0 (da_cons (de_var (pv 6)) (da_cons (de_meth T.i_Game T.q_Game T.m_Game_worth (ih.up (Nat.le_refl _)) hr hmu T.b_Game_worth pass0 koe0 (de_var (pv 0)) (da_cons (de_op op_sub od_sub (de_var (pv 1)) de_int) (da_cons (de_var (pv 5)) da_nil))) da_nil))))))))
theorem ok_Game_answered (T : Txt K mg) (d : Nat) (ih : FnG P w K mg base CX0 (5 + 3 * d + 1) T.a_Game_dealt_worth T.d_Game_dealt_worth ["self", "beats", "debts", "shares", "person"] (LSp K (sp_Game_dealt_worth d))) : FnG P w K mg base CX0 (5 + 3 * d + 2) T.a_Game_answered T.d_Game_answered ["self", "beats", "debts", "shares"] (LSp K (sp_Game_answered d)) := by
  refine fn_d T.F_Game_answered sc_Game_answered (len_Game_answered d) (fun cdv A outer s H E F0 hr hmu => ⟨t_Game_answered (sp_Game_dealt_worth d), ?_, rd_Game_answered d⟩)
  exact (dss_cons (ds_set (i := 4) sc_Game_answered.nd rfl (.inl rfl) (de_meth T.i_Game T.q_Game T.m_Game_dealt_worth (ih.up (Nat.le_refl _)) hr hmu T.b_Game_dealt_worth pass0 koe0 (de_var (pv 0)) (da_cons (de_var (pv 1)) (da_cons (de_var (pv 2)) (da_cons (de_var (pv 3)) (da_cons de_int da_nil))))))
    (dss_cons (ds_for (vs := [5]) PassesOwn.never rfl (di_range2 (by rfl) T.m_range (da_cons de_int (da_cons (de_callB call_len cd_len (by rfl) T.m_len (by decide +kernel) (da_cons (de_var (pv 2)) da_nil)) da_nil))) (dg_name (i := 5) sc_Game_answered.nd rfl (Or.inl rfl) (by decide)) (dss_cons (ds_set (i := 6) sc_Game_answered.nd rfl (.inl rfl) (de_meth T.i_Game T.q_Game T.m_Game_dealt_worth (ih.up (Nat.le_refl _)) hr hmu T.b_Game_dealt_worth pass0 koe0 (de_var (pv 0)) (da_cons (de_var (pv 1)) (da_cons (de_var (pv 2)) (da_cons (de_var (pv 3)) (da_cons (de_var (pv 5)) da_nil))))))
    (dss_one (ds_set (i := 4) sc_Game_answered.nd rfl (.inl rfl) (de_if (dt_val (de_call ((ok_is_less T).up (by first | omega | (simp only [Nat.add_eq, Nat.mul_eq]; omega))) hr hmu (by rfl) T.g_is_less T.F_is_less.kp T.b_is_less pass0 koe0 (da_cons (de_var (pv 6)) (da_cons (de_var (pv 4)) da_nil)))) (de_var (pv 6)) (de_var (pv 4)))))))
    (dss_one (ds_ret (de_var (pv 4))))))
theorem ok_Game_worth (T : Txt K mg) : ∀ d : Nat, FnG P w K mg base CX0 (5 + 3 * d) T.a_Game_worth T.d_Game_worth ["self", "beats", "debts"] (LSp K (sp_Game_worth d)) := by
  intro d
  induction d with
  | zero => exact fnG_no (fun _ _ _ _ h => h)
  | succ d ih0 =>
  have ih := (ok_Game_answered T d (ok_Game_dealt_worth T d ih0))
  refine fn_d T.F_Game_worth sc_Game_worth (len_Game_worth (d + 1)) (fun cdv A outer s H E F0 hr hmu => ⟨t_Game_worth (sp_Game_answered d), ?_, rd_Game_worth d⟩)
  exact (dss_cons (ds_if (dt_cmp (op_eqM hr.units) od_eq (nomark _) (de_var (pv 1)) de_int) (dss_one (ds_ret (de_call ((ok_greatest_of T).up (by first | omega | (simp only [Nat.add_eq, Nat.mul_eq]; omega))) hr hmu (by rfl) T.g_greatest_of T.F_greatest_of.kp T.b_greatest_of pass0 koe0 (da_cons (de_var (pv 2)) da_nil)))) dss_nil)
    (dss_cons (ds_set (i := 3) sc_Game_worth.nd rfl (.inr rfl) (de_tup (da_cons (de_var (pv 1)) (da_cons (de_callTy call_tuple_of cd_tuple (by rfl) T.m_tuple (by decide +kernel) (da_cons (de_callB (cr_sortT (units60 hr)) (cd_sortT false) (by rfl) T.m_sorted (by decide +kernel) (da_cons (de_var (pv 2)) da_nil)) da_nil)) da_nil))))
    (dss_cons (ds_if (dt_nnin (units9 hr) (by rfl) (de_var (pv 3)) (de_fld T.i_Game T.q_Game T.n_Game_known (de_var (pv 0)))) (dss_one (ds_nput (units9 hr) (de_call ((ok_greatest_of T).up (by first | omega | (simp only [Nat.add_eq, Nat.mul_eq]; omega))) hr hmu (by rfl) T.g_greatest_of T.F_greatest_of.kp T.b_greatest_of pass0 koe0 (da_cons (de_lc (own := [("shares", 4)]) false rfl sc_Game_worth.nd (di_seq (de_fld T.i_Game T.q_Game T.n_Game_rows (de_var (pv 0)))) (blkOk_by (N := ["self", "beats", "debts", "name", "shares"]) (sc := defScope s_Game_worth) (by decide +kernel)) (fun _ _ _ _ _ => (dg_name (i := 4) sc_Game_worth.nd rfl (Or.inl rfl) (by decide))) (fun _ _ _ _ _ => dts_nil) (fun _ _ _ _ _ => (de_meth T.i_Game T.q_Game T.m_Game_answered (ih.up (Nat.le_refl _)) hr hmu T.b_Game_answered pass0 koe0 (de_var (pv 0)) (da_cons (de_var (pv 1)) (da_cons (de_ix (de_var (pv 3)) de_int (fun _ _ => rfl)) (da_cons (de_var (pv 4)) da_nil)))))) da_nil)) (de_fld T.i_Game T.q_Game T.n_Game_known (de_var (pv 0))) (de_var (pv 3)))) dss_nil)
    (dss_one (ds_ret (de_nget (units9 hr) (de_fld T.i_Game T.q_Game T.n_Game_known (de_var (pv 0))) (de_var (pv 3)) (fun _ _ => rfl)))))))
theorem ok_all_tops (T : Txt K mg) : ∀ d : Nat, FnG P w K mg base CX0 (0 + d) T.a_all_tops T.d_all_tops ["n", "bottom"] (LSp K (sp_all_tops d)) := by
  intro d
  induction d with
  | zero => exact fnG_no (fun _ _ _ _ h => h)
  | succ d ih =>
  refine fn_d T.F_all_tops sc_all_tops (len_all_tops (d + 1)) (fun cdv A outer s H E F0 hr hmu => ⟨t_all_tops (sp_all_tops d), ?_, rd_all_tops d⟩)
  exact (dss_cons (ds_if (dt_cmp (op_eqM hr.units) od_eq (nomark _) (de_var (pv 0)) de_int) (dss_one (ds_ret (de_lst false (da_cons (de_tup (da_cons (de_var (pv 1)) da_nil)) da_nil)))) dss_nil)
    (dss_cons (ds_set (i := 2) sc_all_tops.nd rfl (.inl rfl) (de_lst true da_nil))
    (dss_cons (ds_for (vs := [3]) PassesOwn.never rfl (di_range1 (by rfl) T.m_range (da_cons (de_op op_addM (od_add false) (de_var (pv 1)) de_int) da_nil)) (dg_name (i := 3) sc_all_tops.nd rfl (Or.inr rfl) (by decide)) (dss_one (ds_expr (de_meL PySem.F.slot_list_extend PySem.F.type_list_extend mt_extend md_extend (de_var (pv 2)) (da_cons (de_lc (own := [("rest", 4)]) false rfl sc_all_tops.nd (di_seq (de_call (ih.up (Nat.le_refl _)) hr hmu (by rfl) T.g_all_tops T.F_all_tops.kp T.b_all_tops pass0 koe0 (da_cons (de_op op_sub od_sub (de_var (pv 0)) de_int) (da_cons (de_op op_sub od_sub (de_var (pv 1)) (de_var (pv 3))) da_nil)))) (blkOk_by (N := ["n", "bottom", "found", "top", "rest"]) (sc := defScope s_all_tops) (by decide +kernel)) (fun _ _ _ _ _ => (dg_name (i := 4) sc_all_tops.nd rfl (Or.inl rfl) (by decide))) (fun _ _ _ _ _ => dts_nil) (fun _ _ _ _ _ => (de_op op_addM (od_add false) (de_tup (da_cons (de_var (pv 3)) da_nil)) (de_var (pv 4))))) da_nil)))))
    (dss_one (ds_ret (de_var (pv 2)))))))
theorem ok_all_shares (T : Txt K mg) : FnG P w K mg base CX0 6 T.a_all_shares T.d_all_shares ["n", "bottom"] (LSp K sp_all_shares) := by
  refine fn_d T.F_all_shares sc_all_shares len_all_shares (fun cdv A outer s H E F0 hr hmu => ⟨t_all_shares, ?_, rd_all_shares⟩)
  exact (dss_one (ds_ret (de_lc (own := [("tops", 2)]) false rfl sc_all_shares.nd (di_seq (de_call ((ok_all_tops T 5).up (by decide)) hr hmu (by rfl) T.g_all_tops T.F_all_tops.kp T.b_all_tops pass0 koe0 (da_cons (de_var (pv 0)) (da_cons (de_var (pv 1)) da_nil)))) (blkOk_by (N := ["n", "bottom", "tops"]) (sc := defScope s_all_shares) (by decide +kernel)) (fun _ _ _ _ _ => (dg_name (i := 2) sc_all_shares.nd rfl (Or.inl rfl) (by decide))) (fun _ _ _ _ _ => dts_nil) (fun _ _ _ _ _ => (de_tup (da_cons (de_var (pv 1)) (da_cons (de_var (pv 2)) da_nil)))))))
theorem ok_Game___init__ (T : Txt K mg) : FnG P w K mg base CX0 7 T.a_Game___init__ T.d_Game___init__ ["self", "n", "bottom"] (LSp K sp_Game___init__) := by
  refine fn_d T.F_Game___init__ sc_Game___init__ len_Game___init__ (fun cdv A outer s H E F0 hr hmu => ⟨t_Game___init__, ?_, rd_Game___init__⟩)
  exact (dss_cons (ds_fld T.i_Game T.q_Game T.n_Game_rows (de_var (pv 0)) (de_call ((ok_all_shares T).up (by decide)) hr hmu (by rfl) T.g_all_shares T.F_all_shares.kp T.b_all_shares pass0 koe0 (da_cons (de_var (pv 1)) (da_cons (de_var (pv 2)) da_nil))))
    (dss_one (ds_fld T.i_Game T.q_Game T.n_Game_known (de_var (pv 0)) de_nnew)))
theorem ok_check_few (T : Txt K mg) : FnG P w K mg base CX0 6 T.a_check_few T.d_check_few ["n", "bottom", "beats"] (LSp K sp_check_few) := by
  refine fn_d T.F_check_few sc_check_few len_check_few (fun cdv A outer s H E F0 hr hmu => ⟨t_check_few, ?_, rd_check_few⟩)
  exact (dss_cons (ds_set (i := 3) sc_check_few.nd rfl (.inl rfl) (de_callB call_len cd_len (by rfl) T.m_len (by decide +kernel) (da_cons (de_call ((ok_all_tops T 5).up (by decide)) hr hmu (by rfl) T.g_all_tops T.F_all_tops.kp T.b_all_tops pass0 koe0 (da_cons (de_var (pv 0)) (da_cons (de_var (pv 1)) da_nil))) da_nil)))
    (dss_cons (ds_set (i := 4) sc_check_few.nd rfl (.inl rfl) de_int)
    (dss_cons (ds_for (vs := [5]) PassesOwn.never rfl (di_range1 (by rfl) T.m_range (da_cons (de_var (pv 2)) da_nil)) (dg_name (i := 5) sc_check_few.nd rfl (Or.inl rfl) (by decide)) (dss_one (ds_set (i := 4) sc_check_few.nd rfl (.inl rfl) (de_op op_mulA (od_mul false) (de_var (pv 4)) (de_var (pv 3))))))
    (dss_one (ds_if (dt_cmp op_gt od_gt (nomark _) (de_var (pv 4)) (de_c (v := .int 20000) (d := .int 20000) (pe_glob (by rfl) T.c_MOST_ROWS.2 ⟨_, rfl⟩) fun _ => .int _)) (dss_one ds_never) dss_nil)))))
theorem ok_total (T : Txt K mg) : FnG P w K mg base CX0 4 T.a_total T.d_total ["some"] (LSp K sp_total) := by
  refine fn_d T.F_total sc_total len_total (fun cdv A outer s H E F0 hr hmu => ⟨t_total, ?_, rd_total⟩)
  exact (dss_cons (ds_set (i := 1) sc_total.nd rfl (.inl rfl) (de_cT (pe_glob (by rfl) T.k_NOUGHT.1 rfl) T.k_NOUGHT.2))
    (dss_cons (ds_for (vs := [2]) PassesOwn.never rfl (di_seq (de_var (pv 0))) (dg_name (i := 2) sc_total.nd rfl (Or.inl rfl) (by decide)) (dss_one (ds_set (i := 1) sc_total.nd rfl (.inl rfl) (de_call ((ok_plus T).up (by decide)) hr hmu (by rfl) T.g_plus T.F_plus.kp T.b_plus pass0 koe0 (da_cons (de_var (pv 1)) (da_cons (de_var (pv 2)) da_nil))))))
    (dss_one (ds_ret (de_var (pv 1))))))
theorem ok_is_integer (T : Txt K mg) : FnG P w K mg base CX0 1 T.a_is_integer T.d_is_integer ["thing"] (LSp K sp_is_integer) := by
  refine fn_d T.F_is_integer sc_is_integer len_is_integer (fun cdv A outer s H E F0 hr hmu => ⟨t_is_integer, ?_, rd_is_integer⟩)
  exact (dss_one (ds_ret (de_and (de_callB call_isi cd_isi (by rfl) T.m_isinstance (by decide +kernel) (da_cons (de_var (pv 0)) (da_cons (de_c (v := .ty "int") (d := .ty "int") (pe_bltn (by rfl) T.m_int (by decide +kernel) rfl) fun _ => .ty _) da_nil))) (pe_one (de_not (de_callB call_isi cd_isi (by rfl) T.m_isinstance (by decide +kernel) (da_cons (de_var (pv 0)) (da_cons (de_c (v := .ty "bool") (d := .ty "bool") (pe_bltn (by rfl) T.m_bool (by decide +kernel) rfl) fun _ => .ty _) da_nil))))))))
theorem ok_is_pair (T : Txt K mg) : FnG P w K mg base CX0 1 T.a_is_pair T.d_is_pair ["thing"] (LSp K sp_is_pair) := by
  refine fn_d T.F_is_pair sc_is_pair len_is_pair (fun cdv A outer s H E F0 hr hmu => ⟨t_is_pair, ?_, rd_is_pair⟩)
  exact (dss_one (ds_ret (de_and (de_callB call_isi cd_isi (by rfl) T.m_isinstance (by decide +kernel) (da_cons (de_var (pv 0)) (da_cons (de_c (v := .ty "tuple") (d := .ty "tuple") (pe_bltn (by rfl) T.m_tuple (by decide +kernel) rfl) fun _ => .ty _) da_nil))) (pe_one (de_cmp (op_eqM hr.units) od_eq (nomark _) (de_callB call_len cd_len (by rfl) T.m_len (by decide +kernel) (da_cons (de_var (pv 0)) da_nil)) de_int)))))
theorem ok_is_fraction (T : Txt K mg) : FnG P w K mg base CX0 2 T.a_is_fraction T.d_is_fraction ["thing"] (LSp K sp_is_fraction) := by
  refine fn_d T.F_is_fraction sc_is_fraction len_is_fraction (fun cdv A outer s H E F0 hr hmu => ⟨t_is_fraction, ?_, rd_is_fraction⟩)
  exact (dss_cons (ds_if (PW.pt (dw_or (dt_not (dt_val (de_call ((ok_is_pair T).up (by decide)) hr hmu (by rfl) T.g_is_pair T.F_is_pair.kp T.b_is_pair pass0 koe0 (da_cons (de_var (pv 0)) da_nil)))) (dw_or (dt_not (dt_val (de_call ((ok_is_integer T).up (by decide)) hr hmu (by rfl) T.g_is_integer T.F_is_integer.kp T.b_is_integer pass0 koe0 (da_cons (de_ix (de_var (pv 0)) de_int (fun _ _ => rfl)) da_nil)))) (dw_or (dt_not (dt_val (de_call ((ok_is_integer T).up (by decide)) hr hmu (by rfl) T.g_is_integer T.F_is_integer.kp T.b_is_integer pass0 koe0 (da_cons (de_ix (de_var (pv 0)) de_int (fun _ _ => rfl)) da_nil)))) (pw_or1 (dt_cmp op_lt od_lt (nomark _) (de_ix (de_var (pv 0)) de_int (fun _ _ => rfl)) de_int)))))) (dss_one (ds_ret de_bl)) dss_nil)
    (dss_one (ds_ret (de_cmp (op_eqM hr.units) od_eq (nomark _) (de_call ((ok_divisor T).up (by decide)) hr hmu (by rfl) T.g_divisor T.F_divisor.kp T.b_divisor pass0 koe0 (da_cons (de_ix (de_var (pv 0)) de_int (fun _ _ => rfl)) (da_cons (de_ix (de_var (pv 0)) de_int (fun _ _ => rfl)) da_nil))) de_int))))
theorem ok_are_debts (T : Txt K mg) : FnG P w K mg base CX0 5 T.a_are_debts T.d_are_debts ["n", "thing"] (LSp K sp_are_debts) := by
  refine fn_d T.F_are_debts sc_are_debts len_are_debts (fun cdv A outer s H E F0 hr hmu => ⟨t_are_debts, ?_, rd_are_debts⟩)
  exact (dss_cons (ds_if (PW.pt (dw_or (dt_not (dt_val (de_callB call_isi cd_isi (by rfl) T.m_isinstance (by decide +kernel) (da_cons (de_var (pv 1)) (da_cons (de_c (v := .ty "tuple") (d := .ty "tuple") (pe_bltn (by rfl) T.m_tuple (by decide +kernel) rfl) fun _ => .ty _) da_nil))))) (dw_or (dt_cmp (op_neM hr.units) od_ne (nomark _) (de_callB call_len cd_len (by rfl) T.m_len (by decide +kernel) (da_cons (de_var (pv 1)) da_nil)) (de_var (pv 0))) (pw_or1 (dt_not (dt_val (de_callB (cr_all rfl) cd_all (by rfl) T.m_all (by decide +kernel) (da_cons (de_lc (own := [("one", 2)]) false rfl sc_are_debts.nd (di_seq (de_var (pv 1))) (blkOk_by (N := ["n", "thing", "one"]) (sc := defScope s_are_debts) (by decide +kernel)) (fun _ _ _ _ _ => (dg_name (i := 2) sc_are_debts.nd rfl (Or.inl rfl) (by decide))) (fun _ _ _ _ _ => dts_nil) (fun _ _ _ _ _ => (de_call ((ok_is_fraction T).up (by decide)) hr hmu (by rfl) T.g_is_fraction T.F_is_fraction.kp T.b_is_fraction pass0 koe0 (da_cons (de_var (pv 2)) da_nil)))) da_nil)))))))) (dss_one (ds_ret de_bl)) dss_nil)
    (dss_one (ds_ret (de_cmp (op_eqM hr.units) od_eq (nomark _) (de_call ((ok_total T).up (by decide)) hr hmu (by rfl) T.g_total T.F_total.kp T.b_total pass0 koe0 (da_cons (de_var (pv 1)) da_nil)) (de_cT (pe_glob (by rfl) T.k_NOUGHT.1 rfl) T.k_NOUGHT.2)))))
theorem ok_is_within (T : Txt K mg) : FnG P w K mg base CX0 2 T.a_is_within T.d_is_within ["thing", "low", "high"] (LSp K sp_is_within) := by
  refine fn_d T.F_is_within sc_is_within len_is_within (fun cdv A outer s H E F0 hr hmu => ⟨t_is_within, ?_, rd_is_within⟩)
  exact (dss_one (ds_ret (de_and (de_call ((ok_is_integer T).up (by decide)) hr hmu (by rfl) T.g_is_integer T.F_is_integer.kp T.b_is_integer pass0 koe0 (da_cons (de_var (pv 0)) da_nil)) (pe_one (de_chain op_le od_le op_le od_le (de_var (pv 1)) (de_var (pv 0)) (de_var (pv 2)))))))
theorem ok_check_parts (T : Txt K mg) : FnG P w K mg base CX0 3 T.a_check_parts T.d_check_parts ["n", "bottom", "beats"] (LSp K sp_check_parts) := by
  refine fn_d T.F_check_parts sc_check_parts len_check_parts (fun cdv A outer s H E F0 hr hmu => ⟨t_check_parts, ?_, rd_check_parts⟩)
  exact (dss_cons (ds_if (dt_not (dt_val (de_call ((ok_is_within T).up (by decide)) hr hmu (by rfl) T.g_is_within T.F_is_within.kp T.b_is_within pass0 koe0 (da_cons (de_var (pv 0)) (da_cons de_int (da_cons (de_c (v := .int 4) (d := .int 4) (pe_glob (by rfl) T.c_MOST_PEOPLE.2 ⟨_, rfl⟩) fun _ => .int _) da_nil)))))) (dss_one ds_never) dss_nil)
    (dss_cons (ds_if (dt_not (dt_val (de_call ((ok_is_within T).up (by decide)) hr hmu (by rfl) T.g_is_within T.F_is_within.kp T.b_is_within pass0 koe0 (da_cons (de_var (pv 1)) (da_cons de_int (da_cons (de_c (v := .int 12) (d := .int 12) (pe_glob (by rfl) T.c_MOST_PARTS.2 ⟨_, rfl⟩) fun _ => .int _) da_nil)))))) (dss_one ds_never) dss_nil)
    (dss_one (ds_if (dt_not (dt_val (de_call ((ok_is_within T).up (by decide)) hr hmu (by rfl) T.g_is_within T.F_is_within.kp T.b_is_within pass0 koe0 (da_cons (de_var (pv 2)) (da_cons de_int (da_cons (de_c (v := .int 6) (d := .int 6) (pe_glob (by rfl) T.c_MOST_BEATS.2 ⟨_, rfl⟩) fun _ => .int _) da_nil)))))) (dss_one ds_never) dss_nil))))
theorem ok_check_game (T : Txt K mg) : FnG P w K mg base CX0 6 T.a_check_game T.d_check_game ["n", "bottom", "beats", "debts"] (LSp K sp_check_game) := by
  refine fn_d T.F_check_game sc_check_game len_check_game (fun cdv A outer s H E F0 hr hmu => ⟨t_check_game, ?_, rd_check_game⟩)
  exact (dss_cons (ds_expr (de_call ((ok_check_parts T).up (by decide)) hr hmu (by rfl) T.g_check_parts T.F_check_parts.kp T.b_check_parts pass0 koe0 (da_cons (de_var (pv 0)) (da_cons (de_var (pv 1)) (da_cons (de_var (pv 2)) da_nil)))))
    (dss_one (ds_if (dt_not (dt_val (de_call ((ok_are_debts T).up (by decide)) hr hmu (by rfl) T.g_are_debts T.F_are_debts.kp T.b_are_debts pass0 koe0 (da_cons (de_var (pv 0)) (da_cons (de_var (pv 3)) da_nil))))) (dss_one ds_never) dss_nil)))
theorem ok_worth (T : Txt K mg) : FnG P w K mg base CX0 29 T.a_worth T.d_worth ["n", "bottom", "beats", "debts"] (LSp K sp_worth) := by
  refine fn_d T.F_worth sc_worth len_worth (fun cdv A outer s H E F0 hr hmu => ⟨t_worth, ?_, rd_worth⟩)
  exact (dss_cons (ds_expr (de_call ((ok_check_game T).up (by decide)) hr hmu (by rfl) T.g_check_game T.F_check_game.kp T.b_check_game pass0 koe0 (da_cons (de_var (pv 0)) (da_cons (de_var (pv 1)) (da_cons (de_var (pv 2)) (da_cons (de_var (pv 3)) da_nil))))))
    (dss_cons (ds_expr (de_call ((ok_check_few T).up (by decide)) hr hmu (by rfl) T.g_check_few T.F_check_few.kp T.b_check_few pass0 koe0 (da_cons (de_var (pv 0)) (da_cons (de_var (pv 1)) (da_cons (de_var (pv 2)) da_nil)))))
    (dss_one (ds_ret (de_meth T.i_Game T.q_Game T.m_Game_worth ((ok_Game_worth T 7).up (by decide)) hr hmu T.b_Game_worth pass0 koe0 (de_make T.i_Game T.k_Game ((ok_Game___init__ T).up (by decide)) hr hmu (by rfl) T.g_Game T.b_Game___init__ pass0 koe0 (da_cons (de_var (pv 0)) (da_cons (de_var (pv 1)) da_nil))) (da_cons (de_var (pv 2)) (da_cons (de_var (pv 3)) da_nil)))))))
theorem ok_L_less (T : Txt K mg) : FnG P w K mg base CX0 1 T.a_L_less T.d_L_less ["_law_one", "_law_other"] (LSp K sp_L_less) := by
  refine fn_d T.F_L_less sc_L_less len_L_less (fun cdv A outer s H E F0 hr hmu => ⟨t_L_less, ?_, rd_L_less⟩)
  exact (dss_one (ds_ret (de_cmp op_lt od_lt (nomark _) (de_op op_mulA (od_mul false) (de_ix (de_var (pv 0)) de_int (fun _ _ => rfl)) (de_ix (de_var (pv 1)) de_int (fun _ _ => rfl))) (de_op op_mulA (od_mul false) (de_ix (de_var (pv 1)) de_int (fun _ _ => rfl)) (de_ix (de_var (pv 0)) de_int (fun _ _ => rfl))))))
theorem ok_L_at_most (T : Txt K mg) : FnG P w K mg base CX0 2 T.a_L_at_most T.d_L_at_most ["_law_one", "_law_other"] (LSp K sp_L_at_most) := by
  refine fn_d T.F_L_at_most sc_L_at_most len_L_at_most (fun cdv A outer s H E F0 hr hmu => ⟨t_L_at_most, ?_, rd_L_at_most⟩)
  exact (dss_one (ds_ret (de_not (de_call ((ok_L_less T).up (by decide)) hr hmu (by rfl) T.g_L_less T.F_L_less.kp T.b_L_less pass0 koe0 (da_cons (de_var (pv 1)) (da_cons (de_var (pv 0)) da_nil))))))
theorem ok_L_draw (T : Txt K mg) : FnG P w K mg base CX0 1 T.a_L_draw T.d_L_draw ["_law_hand_here", "_law_many"] (LSp K sp_L_draw) := by
  refine hand_close ?_
  refine fn_d T.F_L_draw sc_L_draw len_L_draw (fun cdv A outer s H E F0 hr hmu => ⟨t_L_draw, ?_, rd_L_draw⟩)
  exact (dss_cons (ds_if (PW.pt (dw_and (dt_cmp (op_eqM hr.units) od_eq (nomark _) (de_ix (de_var (pv 0)) de_int (fun _ _ => rfl)) de_int) (pw_and1 (dt_cmp op_lt od_lt (nomark _) (de_ix (de_var (pv 0)) de_int (fun _ _ => rfl)) (de_callB call_len cd_len (by rfl) T.m_len (by decide +kernel) (da_cons (de_ix (de_var (pv 0)) de_int (fun _ _ => rfl)) da_nil)))))) (dss_cons (ds_set (i := 2) sc_L_draw.nd rfl (.inl rfl) (de_ix (de_ix (de_var (pv 0)) de_int (fun _ _ => rfl)) (de_ix (de_var (pv 0)) de_int (fun _ _ => rfl)) (fun _ _ => rfl)))
    (dss_cons (ds_setix (de_op op_addM (od_add false) (de_ix (de_var (pv 0)) de_int (fun _ _ => rfl)) de_int) (de_var (pv 0)) de_int)
    (dss_cons (ds_setix (de_op op_mod od_mod (de_callTy call_int1 cd_int (by rfl) T.m_int (by decide +kernel) (da_cons (de_op op_addM (od_add false) (de_op op_addM (od_add false) (de_op op_mulA (od_mul false) (de_ix (de_var (pv 0)) de_int (fun _ _ => rfl)) de_int) (de_var (pv 2))) de_int) da_nil)) de_int) (de_var (pv 0)) de_int)
    (dss_one (ds_if (dt_cmp op_ge od_ge (nomark _) (de_var (pv 2)) (de_op op_pow od_pow de_int de_int)) (dss_one (ds_setix (de_var (pv 2)) (de_var (pv 0)) de_int)) dss_nil))))) dss_nil)
    (dss_cons (ds_if (dt_cmp op_gt od_gt (nomark _) (de_ix (de_var (pv 0)) de_int (fun _ _ => rfl)) de_int) (dss_cons (ds_set (i := 3) sc_L_draw.nd rfl (.inl rfl) (de_op op_mod od_mod (de_callTy call_int1 cd_int (by rfl) T.m_int (by decide +kernel) (da_cons (de_ix (de_var (pv 0)) de_int (fun _ _ => rfl)) da_nil)) (de_var (pv 1))))
    (dss_cons (ds_setix (de_op op_fdivM od_div (de_ix (de_var (pv 0)) de_int (fun _ _ => rfl)) (de_var (pv 1))) (de_var (pv 0)) de_int)
    (dss_one (ds_ret (de_var (pv 3)))))) dss_nil)
    (dss_cons (ds_setix (de_op op_addM (od_add false) (de_ix (de_var (pv 0)) de_int (fun _ _ => rfl)) de_int) (de_var (pv 0)) de_int)
    (dss_cons (ds_set (i := 4) sc_L_draw.nd rfl (.inl rfl) (de_op op_mod od_mod (de_callTy call_int1 cd_int (by rfl) T.m_int (by decide +kernel) (da_cons (de_op op_mulA (od_mul false) (de_callTy call_int1 cd_int (by rfl) T.m_int (by decide +kernel) (da_cons (de_op op_addM (od_add false) (de_ix (de_var (pv 0)) de_int (fun _ _ => rfl)) (de_op op_mulA (od_mul false) de_int (de_ix (de_var (pv 0)) de_int (fun _ _ => rfl)))) da_nil)) de_int) da_nil)) de_int))
    (dss_cons (ds_set (i := 4) sc_L_draw.nd rfl (.inl rfl) (de_op op_mod od_mod (de_callTy call_int1 cd_int (by rfl) T.m_int (by decide +kernel) (da_cons (de_op op_mulA (od_mul false) (de_var (pv 4)) (de_op op_addM (od_add false) (de_op op_fdivM od_div (de_var (pv 4)) de_int) de_int)) da_nil)) de_int))
    (dss_cons (ds_set (i := 4) sc_L_draw.nd rfl (.inl rfl) (de_op op_mod od_mod (de_callTy call_int1 cd_int (by rfl) T.m_int (by decide +kernel) (da_cons (de_op op_mulA (od_mul false) (de_var (pv 4)) (de_op op_addM (od_add false) (de_op op_fdivM od_div (de_var (pv 4)) de_int) de_int)) da_nil)) de_int))
    (dss_one (ds_ret (de_op op_mod od_mod (de_callTy call_int1 cd_int (by rfl) T.m_int (by decide +kernel) (da_cons (de_op op_fdivM od_div (de_var (pv 4)) de_int) da_nil)) (de_var (pv 1)))))))))))
theorem ok_L_shuffled (T : Txt K mg) : FnG P w K mg base CX0 2 T.a_L_shuffled T.d_L_shuffled ["_law_hand_here", "_law_things"] (LSp K sp_L_shuffled) := by
  refine fn_d T.F_L_shuffled sc_L_shuffled len_L_shuffled (fun cdv A outer s H E F0 hr hmu => ⟨t_L_shuffled, ?_, rd_L_shuffled⟩)
  exact (dss_cons (ds_set (i := 2) sc_L_shuffled.nd rfl (.inl rfl) (de_callTy call_list_of (cd_list true) (by rfl) T.m_list (by decide +kernel) (da_cons (de_var (pv 1)) da_nil)))
    (dss_cons (ds_set (i := 3) sc_L_shuffled.nd rfl (.inl rfl) (de_lst true da_nil))
    (dss_cons (ds_while PassesOwn.never (dt_cmp op_gt od_gt (nomark _) (de_callB call_len cd_len (by rfl) T.m_len (by decide +kernel) (da_cons (de_var (pv 2)) da_nil)) de_int) (dss_one (ds_expr (de_meL PySem.F.slot_list_append PySem.F.type_list_append mt_append md_append (de_var (pv 3)) (da_cons (de_meL PySem.F.slot_list_pop PySem.F.type_list_pop mt_popAt md_popAt (de_var (pv 2)) (da_cons (de_call ((ok_L_draw T).up (by decide)) hr hmu (by rfl) T.g_L_draw T.F_L_draw.kp T.b_L_draw pass0 koe0 (da_cons (de_var (pv 0)) (da_cons (de_callB call_len cd_len (by rfl) T.m_len (by decide +kernel) (da_cons (de_var (pv 2)) da_nil)) da_nil))) da_nil)) da_nil)))))
    (dss_one (ds_ret (de_var (pv 3)))))))
theorem ok_L_low (T : Txt K mg) : FnG P w K mg base CX0 1 T.a_L_low T.d_L_low ["_law_top", "_law_bottom"] (LSp K sp_L_low) := by
  refine fn_d T.F_L_low sc_L_low len_L_low (fun cdv A outer s H E F0 hr hmu => ⟨t_L_low, ?_, rd_L_low⟩)
  exact (dss_cons (ds_par (i := 2) (j := 3) rfl sc_L_low.nd rfl rfl (by decide) rfl rfl (da_cons (de_callB call_abs cd_abs (by rfl) T.m_abs (by decide +kernel) (da_cons (de_var (pv 0)) da_nil)) (da_cons (de_var (pv 1)) da_nil)) (by rfl))
    (dss_cons (ds_while PassesOwn.never (dt_cmp op_gt od_gt (nomark _) (de_var (pv 3)) de_int) (dss_one (ds_par (i := 2) (j := 3) rfl sc_L_low.nd rfl rfl (by decide) rfl rfl (da_cons (de_var (pv 3)) (da_cons (de_op op_mod od_mod (de_callTy call_int1 cd_int (by rfl) T.m_int (by decide +kernel) (da_cons (de_var (pv 2)) da_nil)) (de_var (pv 3))) da_nil)) (by rfl))))
    (dss_one (ds_ret (de_tup (da_cons (de_op op_fdivM od_div (de_var (pv 0)) (de_var (pv 2))) (da_cons (de_op op_fdivM od_div (de_var (pv 1)) (de_var (pv 2))) da_nil)))))))
theorem ok_L_some (T : Txt K mg) : FnG P w K mg base CX0 2 T.a_L_some T.d_L_some ["_law_hand_here", "_law_things"] (LSp K sp_L_some) := by
  refine fn_d T.F_L_some sc_L_some len_L_some (fun cdv A outer s H E F0 hr hmu => ⟨t_L_some, ?_, rd_L_some⟩)
  exact (dss_one (ds_ret (de_ix (de_var (pv 1)) (de_call ((ok_L_draw T).up (by decide)) hr hmu (by rfl) T.g_L_draw T.F_L_draw.kp T.b_L_draw pass0 koe0 (da_cons (de_var (pv 0)) (da_cons (de_callB call_len cd_len (by rfl) T.m_len (by decide +kernel) (da_cons (de_var (pv 1)) da_nil)) da_nil))) (fun _ _ => rfl))))
theorem ok_L_debts (T : Txt K mg) : FnG P w K mg base CX0 3 T.a_L_debts T.d_L_debts ["_law_hand_here", "_law_n"] (LSp K sp_L_debts) := by
  refine fn_d T.F_L_debts sc_L_debts len_L_debts (fun cdv A outer s H E F0 hr hmu => ⟨t_L_debts, ?_, rd_L_debts⟩)
  exact (dss_cons (ds_if (dt_cmp (op_eqM hr.units) od_eq (nomark _) (de_call ((ok_L_draw T).up (by decide)) hr hmu (by rfl) T.g_L_draw T.F_L_draw.kp T.b_L_draw pass0 koe0 (da_cons (de_var (pv 0)) (da_cons de_int da_nil))) de_int) (dss_one (ds_ret (de_op op_mulA (od_mul false) (de_tup (da_cons (de_tup (da_cons de_int (da_cons de_int da_nil))) da_nil)) (de_var (pv 1))))) dss_nil)
    (dss_cons (ds_set (i := 2) sc_L_debts.nd rfl (.inr rfl) (de_call ((ok_L_some T).up (by decide)) hr hmu (by rfl) T.g_L_some T.F_L_some.kp T.b_L_some pass0 koe0 (da_cons (de_var (pv 0)) (da_cons (de_lst false (da_cons de_int (da_cons de_int (da_cons de_int (da_cons de_int (da_cons de_int (da_cons de_int da_nil))))))) da_nil))))
    (dss_cons (ds_setLc (i := 3) (sw_true rfl rfl rfl (by decide +kernel)) rfl rfl (own := [("_law_person", 4)]) false rfl sc_L_debts.nd (di_range1 (by rfl) T.m_range (da_cons (de_op op_sub od_sub (de_var (pv 1)) de_int) da_nil)) (blkOk_by (N := ["_law_hand_here", "_law_n", "_law_bottom", "_law_tops_here", "_law_person", "_law_top"]) (sc := defScope s_L_debts) (by decide +kernel)) (fun _ _ _ _ _ => (dg_name (i := 4) sc_L_debts.nd rfl (Or.inl rfl) (by decide))) (fun _ _ _ _ _ => dts_nil) (fun _ _ _ _ _ => (de_op op_sub od_sub (de_call ((ok_L_draw T).up (by decide)) hr hmu (by rfl) T.g_L_draw T.F_L_draw.kp T.b_L_draw pass0 koe0 (da_cons (de_var (pv 0)) (da_cons (de_op op_addM (od_add false) (de_op op_mulA (od_mul false) de_int (de_var (pv 2))) de_int) da_nil))) (de_var (pv 2)))))
    (dss_one (ds_ret (de_callTy call_tuple_of cd_tuple (by rfl) T.m_tuple (by decide +kernel) (da_cons (de_lc (own := [("_law_top", 5)]) false rfl sc_L_debts.nd (di_seq (de_call ((ok_L_shuffled T).up (by decide)) hr hmu (by rfl) T.g_L_shuffled T.F_L_shuffled.kp T.b_L_shuffled pass0 koe0 (da_cons (de_var (pv 0)) (da_cons (de_op op_addM (od_add false) (de_var (pv 3)) (de_lst false (da_cons (de_neg (de_callB (cr_sumA rfl) cd_sum (by rfl) T.m_sum (by decide +kernel) (da_cons (de_var (pv 3)) da_nil))) da_nil))) da_nil)))) (blkOk_by (N := ["_law_hand_here", "_law_n", "_law_bottom", "_law_tops_here", "_law_person", "_law_top"]) (sc := defScope s_L_debts) (by decide +kernel)) (fun _ _ _ _ _ => (dg_name (i := 5) sc_L_debts.nd rfl (Or.inl rfl) (by decide))) (fun _ _ _ _ _ => dts_nil) (fun _ _ _ _ _ => (de_call ((ok_L_low T).up (by decide)) hr hmu (by rfl) T.g_L_low T.F_L_low.kp T.b_L_low pass0 koe0 (da_cons (de_var (pv 5)) (da_cons (de_var (pv 2)) da_nil))))) da_nil)))))))
theorem ok_L_plus (T : Txt K mg) : FnG P w K mg base CX0 2 T.a_L_plus T.d_L_plus ["_law_one", "_law_other"] (LSp K sp_L_plus) := by
  refine fn_d T.F_L_plus sc_L_plus len_L_plus (fun cdv A outer s H E F0 hr hmu => ⟨t_L_plus, ?_, rd_L_plus⟩)
  exact (dss_one (ds_ret (de_call ((ok_L_low T).up (by decide)) hr hmu (by rfl) T.g_L_low T.F_L_low.kp T.b_L_low pass0 koe0 (da_cons (de_op op_addM (od_add false) (de_op op_mulA (od_mul false) (de_ix (de_var (pv 0)) de_int (fun _ _ => rfl)) (de_ix (de_var (pv 1)) de_int (fun _ _ => rfl))) (de_op op_mulA (od_mul false) (de_ix (de_var (pv 1)) de_int (fun _ _ => rfl)) (de_ix (de_var (pv 0)) de_int (fun _ _ => rfl)))) (da_cons (de_op op_mulA (od_mul false) (de_ix (de_var (pv 0)) de_int (fun _ _ => rfl)) (de_ix (de_var (pv 1)) de_int (fun _ _ => rfl))) da_nil)))))
theorem ok_L_most (T : Txt K mg) : FnG P w K mg base CX0 3 T.a_L_most T.d_L_most ["_law_n", "_law_beats"] (LSp K sp_L_most) := by
  refine fn_d T.F_L_most sc_L_most len_L_most (fun cdv A outer s H E F0 hr hmu => ⟨t_L_most, ?_, rd_L_most⟩)
  exact (dss_cons (ds_set (i := 2) sc_L_most.nd rfl (.inl rfl) (de_tup (da_cons de_int (da_cons de_int da_nil))))
    (dss_cons (ds_for (vs := [3]) PassesOwn.never rfl (di_range2 (by rfl) T.m_range (da_cons de_int (da_cons (de_op op_addM (od_add false) (de_callB (call_min2 rfl) cd_min2 (by rfl) T.m_min (by decide +kernel) (da_cons (de_var (pv 0)) (da_cons (de_op op_addM (od_add false) (de_var (pv 1)) de_int) da_nil))) de_int) da_nil))) (dg_name (i := 3) sc_L_most.nd rfl (Or.inl rfl) (by decide)) (dss_one (ds_set (i := 2) sc_L_most.nd rfl (.inl rfl) (de_call ((ok_L_plus T).up (by decide)) hr hmu (by rfl) T.g_L_plus T.F_L_plus.kp T.b_L_plus pass0 koe0 (da_cons (de_var (pv 2)) (da_cons (de_tup (da_cons de_int (da_cons (de_var (pv 3)) da_nil))) da_nil))))))
    (dss_one (ds_ret (de_var (pv 2))))))
theorem ok_L_group (T : Txt K mg) : FnG P w K mg base CX0 1 T.a_L_group T.d_L_group ["_law_n", "_law_bottom", "_law_beats"] (LSp K sp_L_group) := by
  refine fn_d T.F_L_group sc_L_group len_L_group (fun cdv A outer s H E F0 hr hmu => ⟨t_L_group, ?_, rd_L_group⟩)
  exact (dss_cons (ds_set (i := 3) sc_L_group.nd rfl (.inl rfl) de_int)
    (dss_cons (ds_for (vs := [4]) PassesOwn.never rfl (di_range2 (by rfl) T.m_range (da_cons de_int (da_cons (de_op op_addM (od_add false) (de_callB (call_min2 rfl) cd_min2 (by rfl) T.m_min (by decide +kernel) (da_cons (de_var (pv 0)) (da_cons (de_op op_addM (od_add false) (de_var (pv 2)) de_int) da_nil))) de_int) da_nil))) (dg_name (i := 4) sc_L_group.nd rfl (Or.inl rfl) (by decide)) (dss_one (ds_if (PW.pt (dw_and (dt_cmp (op_eqM hr.units) od_eq (nomark _) (de_var (pv 3)) (de_op op_sub od_sub (de_var (pv 4)) de_int)) (pw_and1 (dt_cmp (op_eqM hr.units) od_eq (nomark _) (de_op op_mod od_mod (de_callTy call_int1 cd_int (by rfl) T.m_int (by decide +kernel) (da_cons (de_var (pv 1)) da_nil)) (de_var (pv 4))) de_int)))) (dss_one (ds_set (i := 3) sc_L_group.nd rfl (.inl rfl) (de_var (pv 4)))) dss_nil)))
    (dss_one (ds_ret (de_var (pv 3))))))
theorem ok_L_sizes (T : Txt K mg) : FnG P w K mg base CX0 3 T.a_L_sizes T.d_L_sizes ["_law_hand_here", "_law_bound"] (LSp K sp_L_sizes) := by
  refine fn_d T.F_L_sizes sc_L_sizes len_L_sizes (fun cdv A outer s H E F0 hr hmu => ⟨t_L_sizes, ?_, rd_L_sizes⟩)
  exact (dss_cons (ds_if (dt_cmp (op_eqM hr.units) od_eq (nomark _) (de_call ((ok_L_draw T).up (by decide)) hr hmu (by rfl) T.g_L_draw T.F_L_draw.kp T.b_L_draw pass0 koe0 (da_cons (de_var (pv 0)) (da_cons de_int da_nil))) de_int) (dss_cons (ds_set (i := 2) sc_L_sizes.nd rfl (.inl rfl) (de_tup (da_cons de_int (da_cons (de_op op_addM (od_add false) de_int (de_call ((ok_L_draw T).up (by decide)) hr hmu (by rfl) T.g_L_draw T.F_L_draw.kp T.b_L_draw pass0 koe0 (da_cons (de_var (pv 0)) (da_cons de_int da_nil)))) (da_cons (de_op op_addM (od_add false) de_int (de_call ((ok_L_draw T).up (by decide)) hr hmu (by rfl) T.g_L_draw T.F_L_draw.kp T.b_L_draw pass0 koe0 (da_cons (de_var (pv 0)) (da_cons de_int da_nil)))) da_nil)))))
    (dss_one (ds_ret (de_call ((ok_L_some T).up (by decide)) hr hmu (by rfl) T.g_L_some T.F_L_some.kp T.b_L_some pass0 koe0 (da_cons (de_var (pv 0)) (da_cons (de_lst false (da_cons (de_tup (da_cons de_int (da_cons de_int (da_cons de_int da_nil)))) (da_cons (de_tup (da_cons de_int (da_cons de_int (da_cons de_int da_nil)))) (da_cons (de_tup (da_cons de_int (da_cons de_int (da_cons de_int da_nil)))) (da_cons (de_var (pv 2)) (da_cons (de_tup (da_cons de_int (da_cons de_int (da_cons de_int da_nil)))) (da_cons (de_tup (da_cons de_int (da_cons de_int (da_cons de_int da_nil)))) da_nil))))))) da_nil)))))) dss_nil)
    (dss_cons (ds_par3 (i := 3) (j := 4) (l := 5) rfl sc_L_sizes.nd rfl rfl rfl (by decide) (by decide) (by decide) rfl rfl rfl (da_cons (de_op op_addM (od_add false) de_int (de_call ((ok_L_some T).up (by decide)) hr hmu (by rfl) T.g_L_some T.F_L_some.kp T.b_L_some pass0 koe0 (da_cons (de_var (pv 0)) (da_cons (de_lst false (da_cons de_int (da_cons de_int (da_cons de_int (da_cons de_int (da_cons de_int (da_cons de_int (da_cons de_int da_nil)))))))) da_nil)))) (da_cons (de_op op_addM (od_add false) de_int (de_call ((ok_L_draw T).up (by decide)) hr hmu (by rfl) T.g_L_draw T.F_L_draw.kp T.b_L_draw pass0 koe0 (da_cons (de_var (pv 0)) (da_cons de_int da_nil)))) (da_cons (de_call ((ok_L_draw T).up (by decide)) hr hmu (by rfl) T.g_L_draw T.F_L_draw.kp T.b_L_draw pass0 koe0 (da_cons (de_var (pv 0)) (da_cons de_int da_nil))) da_nil))) (by rfl))
    (dss_cons (ds_set (i := 6) sc_L_sizes.nd rfl (.inl rfl) (de_op op_mulA (od_mul false) (de_var (pv 3)) (de_callB call_len cd_len (by rfl) T.m_len (by decide +kernel) (da_cons (de_call ((ok_L_tops T).up (by decide)) hr hmu (by rfl) T.g_L_tops T.F_L_tops.kp T.b_L_tops pass0 koe0 (da_cons (de_var (pv 3)) (da_cons (de_var (pv 4)) da_nil))) da_nil))))
    (dss_cons (ds_for (vs := [7]) PassesOwn.never rfl (di_range1 (by rfl) T.m_range (da_cons de_int da_nil)) (dg_name (i := 7) sc_L_sizes.nd rfl (Or.inl rfl) (by decide)) (dss_cons (ds_set (i := 8) sc_L_sizes.nd rfl (.inl rfl) de_int)
    (dss_cons (ds_for (vs := [9]) PassesOwn.never rfl (di_range1 (by rfl) T.m_range (da_cons (de_var (pv 5)) da_nil)) (dg_name (i := 9) sc_L_sizes.nd rfl (Or.inl rfl) (by decide)) (dss_one (ds_set (i := 8) sc_L_sizes.nd rfl (.inl rfl) (de_op op_mulA (od_mul false) (de_var (pv 8)) (de_var (pv 6))))))
    (dss_one (ds_if (dt_cmp op_gt od_gt (nomark _) (de_var (pv 8)) (de_var (pv 1))) (dss_one (ds_set (i := 5) sc_L_sizes.nd rfl (.inl rfl) (de_op op_sub od_sub (de_var (pv 5)) de_int))) dss_nil)))))
    (dss_cons (ds_if (PW.pt (dw_and (dt_cmp (op_eqM hr.units) od_eq (nomark _) (de_var (pv 5)) de_int) (pw_and1 (dt_cmp (op_eqM hr.units) od_eq (nomark _) (de_call ((ok_L_draw T).up (by decide)) hr hmu (by rfl) T.g_L_draw T.F_L_draw.kp T.b_L_draw pass0 koe0 (da_cons (de_var (pv 0)) (da_cons de_int da_nil))) de_int)))) (dss_one (ds_ret (de_tup (da_cons (de_var (pv 3)) (da_cons (de_op op_addM (od_add false) de_int (de_call ((ok_L_draw T).up (by decide)) hr hmu (by rfl) T.g_L_draw T.F_L_draw.kp T.b_L_draw pass0 koe0 (da_cons (de_var (pv 0)) (da_cons de_int da_nil)))) (da_cons (de_op op_addM (od_add false) de_int (de_call ((ok_L_draw T).up (by decide)) hr hmu (by rfl) T.g_L_draw T.F_L_draw.kp T.b_L_draw pass0 koe0 (da_cons (de_var (pv 0)) (da_cons de_int da_nil)))) da_nil)))))) dss_nil)
    (dss_one (ds_ret (de_tup (da_cons (de_var (pv 3)) (da_cons (de_var (pv 4)) (da_cons (de_var (pv 5)) da_nil)))))))))))
theorem ok_L_hand (T : Txt K mg) : FnG P w K mg base CX0 1 T.a_L_hand T.d_L_hand ["_law_script"] (LSp K sp_L_hand) := by
  refine fn_d T.F_L_hand sc_L_hand len_L_hand (fun cdv A outer s H E F0 hr hmu => ⟨t_L_hand, ?_, rd_L_hand⟩)
  exact (dss_cons (ds_setLc (i := 1) (sw_true rfl rfl rfl (by decide +kernel)) rfl rfl (own := [("_law_cell", 2)]) false rfl sc_L_hand.nd (di_seq (de_slice false (de_var (pv 0)) do_none (do_some de_int))) (blkOk_by (N := ["_law_script", "_law_cells", "_law_cell"]) (sc := defScope s_L_hand) (by decide +kernel)) (fun _ _ _ _ _ => (dg_name (i := 2) sc_L_hand.nd rfl (Or.inl rfl) (by decide))) (fun _ _ _ _ _ => dts_nil) (fun _ _ _ _ _ => (de_callB call_abs cd_abs (by rfl) T.m_abs (by decide +kernel) (da_cons (de_callTy call_int1 cd_int (by rfl) T.m_int (by decide +kernel) (da_cons (de_var (pv 2)) da_nil)) da_nil))))
    (dss_one (ds_ret (de_lst true (da_cons (de_var (pv 1)) (da_cons de_int (da_cons de_int (da_cons (de_op op_addM (od_add false) de_int (de_callB call_len cd_len (by rfl) T.m_len (by decide +kernel) (da_cons (de_var (pv 1)) da_nil))) (da_cons de_int da_nil)))))))))
theorem ok_law (T : Txt K mg) : FnG P w K mg base CX0 30 T.a_law T.d_law ["_law_script"] (LSp K sp_law) := by
  refine fn_d T.F_law sc_law len_law (fun cdv A outer s H E F0 hr hmu => ⟨t_law, ?_, rd_law⟩)
  exact (dss_cons (ds_set (i := 1) sc_law.nd rfl (.inl rfl) (de_call ((ok_L_hand T).up (by decide)) hr hmu (by rfl) T.g_L_hand T.F_L_hand.kp T.b_L_hand pass0 koe0 (da_cons (de_var (pv 0)) da_nil)))
    (dss_cons (ds_for (vs := [2]) PassesOwn.never rfl (di_range1 (by rfl) T.m_range (da_cons de_int da_nil)) (dg_name (i := 2) sc_law.nd rfl (Or.inl rfl) (by decide)) (dss_cons (ds_asg (vs := [3, 4, 5]) (de_call ((ok_L_sizes T).up (by decide)) hr hmu (by rfl) T.g_L_sizes T.F_L_sizes.kp T.b_L_sizes pass0 koe0 (da_cons (de_var (pv 1)) (da_cons de_int da_nil))) (dg_tup rfl (dgs_cons (dg_name (i := 3) sc_law.nd rfl (Or.inr rfl) (by decide)) (dgs_cons (dg_name (i := 4) sc_law.nd rfl (Or.inr rfl) (by decide)) (dgs_cons (dg_name (i := 5) sc_law.nd rfl (Or.inl rfl) (by decide)) dgs_nil)))))
    (dss_cons (ds_set (i := 6) sc_law.nd rfl (.inl rfl) (de_op op_mulA (od_mul false) (de_tup (da_cons (de_tup (da_cons de_int (da_cons de_int da_nil))) da_nil)) (de_var (pv 3))))
    (dss_cons (ds_par (i := 7) (j := 8) rfl sc_law.nd rfl rfl (by decide) rfl rfl (da_cons (de_call ((ok_worth T).up (by decide)) hr hmu (by rfl) T.g_worth T.F_worth.kp T.b_worth pass0 koe0 (da_cons (de_var (pv 3)) (da_cons (de_var (pv 4)) (da_cons (de_var (pv 5)) (da_cons (de_var (pv 6)) da_nil))))) (da_cons (de_tup (da_cons de_int (da_cons de_int da_nil))) da_nil)) (by rfl))
    (dss_cons (ds_for (vs := [9]) PassesOwn.never rfl (di_range2 (by rfl) T.m_range (da_cons de_int (da_cons (de_op op_addM (od_add false) (de_call ((ok_L_group T).up (by decide)) hr hmu (by rfl) T.g_L_group T.F_L_group.kp T.b_L_group pass0 koe0 (da_cons (de_var (pv 3)) (da_cons (de_var (pv 4)) (da_cons (de_var (pv 5)) da_nil)))) de_int) da_nil))) (dg_name (i := 9) sc_law.nd rfl (Or.inl rfl) (by decide)) (dss_one (ds_set (i := 8) sc_law.nd rfl (.inl rfl) (de_call ((ok_L_plus T).up (by decide)) hr hmu (by rfl) T.g_L_plus T.F_L_plus.kp T.b_L_plus pass0 koe0 (da_cons (de_var (pv 8)) (da_cons (de_tup (da_cons de_int (da_cons (de_var (pv 9)) da_nil))) da_nil))))))
    (dss_cons (ds_if (PW.pt (dw_or (dt_not (dt_val (de_call ((ok_L_at_most T).up (by decide)) hr hmu (by rfl) T.g_L_at_most T.F_L_at_most.kp T.b_L_at_most pass0 koe0 (da_cons (de_var (pv 7)) (da_cons (de_call ((ok_L_most T).up (by decide)) hr hmu (by rfl) T.g_L_most T.F_L_most.kp T.b_L_most pass0 koe0 (da_cons (de_var (pv 3)) (da_cons (de_var (pv 5)) da_nil))) da_nil))))) (pw_or1 (dt_not (dt_val (de_call ((ok_L_at_most T).up (by decide)) hr hmu (by rfl) T.g_L_at_most T.F_L_at_most.kp T.b_L_at_most pass0 koe0 (da_cons (de_var (pv 8)) (da_cons (de_var (pv 7)) da_nil)))))))) (dss_one (ds_ret de_bl)) dss_nil)
    (dss_cons (ds_if (PW.pt (dw_and (dt_cmp (op_eqM hr.units) od_eq (nomark _) (de_call ((ok_L_group T).up (by decide)) hr hmu (by rfl) T.g_L_group T.F_L_group.kp T.b_L_group pass0 koe0 (da_cons (de_var (pv 3)) (da_cons (de_var (pv 4)) (da_cons (de_var (pv 5)) da_nil)))) (de_callB (call_min2 rfl) cd_min2 (by rfl) T.m_min (by decide +kernel) (da_cons (de_var (pv 3)) (da_cons (de_op op_addM (od_add false) (de_var (pv 5)) de_int) da_nil)))) (pw_and1 (dt_cmp (op_neM hr.units) od_ne (nomark _) (de_var (pv 7)) (de_call ((ok_L_most T).up (by decide)) hr hmu (by rfl) T.g_L_most T.F_L_most.kp T.b_L_most pass0 koe0 (da_cons (de_var (pv 3)) (da_cons (de_var (pv 5)) da_nil))))))) (dss_one (ds_ret de_bl)) dss_nil)
    (dss_cons (ds_set (i := 10) sc_law.nd rfl (.inr rfl) (de_call ((ok_L_some T).up (by decide)) hr hmu (by rfl) T.g_L_some T.F_L_some.kp T.b_L_some pass0 koe0 (da_cons (de_var (pv 1)) (da_cons (de_lst false (da_cons (de_var (pv 6)) (da_cons (de_call ((ok_L_debts T).up (by decide)) hr hmu (by rfl) T.g_L_debts T.F_L_debts.kp T.b_L_debts pass0 koe0 (da_cons (de_var (pv 1)) (da_cons (de_var (pv 3)) da_nil))) da_nil))) da_nil))))
    (dss_cons (ds_setLc (i := 11) (sw_true rfl rfl rfl (by decide +kernel)) rfl rfl (own := [("_law_beat", 12)]) false rfl sc_law.nd (di_range2 (by rfl) T.m_range (da_cons de_int (da_cons (de_op op_addM (od_add false) (de_var (pv 5)) de_int) da_nil))) (blkOk_by (N := ["_law_script", "_law_hand_here", "_law_turn", "_law_n", "_law_bottom", "_law_beats", "_law_none", "_law_told", "_law_least", "_law_k", "_law_debts_here", "_law_rows", "_law_beat", "_law_one", "_law_other"]) (sc := defScope s_law) (by decide +kernel)) (fun _ _ _ _ _ => (dg_name (i := 12) sc_law.nd rfl (Or.inl rfl) (by decide))) (fun _ _ _ _ _ => dts_nil) (fun _ _ _ _ _ => (de_call ((ok_worth T).up (by decide)) hr hmu (by rfl) T.g_worth T.F_worth.kp T.b_worth pass0 koe0 (da_cons (de_var (pv 3)) (da_cons (de_var (pv 4)) (da_cons (de_var (pv 12)) (da_cons (de_var (pv 10)) da_nil)))))))
    (dss_cons (ds_if (dt_not (dt_val (de_callB (cr_all rfl) cd_all (by rfl) T.m_all (by decide +kernel) (da_cons (de_lc (own := [("_law_one", 13), ("_law_other", 14)]) false rfl sc_law.nd (di_zipX (by rfl) T.m_zip (da_cons (de_var (pv 11)) (da_cons (de_slice false (de_var (pv 11)) (do_some de_int) do_none) da_nil))) (blkOk_by (N := ["_law_script", "_law_hand_here", "_law_turn", "_law_n", "_law_bottom", "_law_beats", "_law_none", "_law_told", "_law_least", "_law_k", "_law_debts_here", "_law_rows", "_law_beat", "_law_one", "_law_other"]) (sc := defScope s_law) (by decide +kernel)) (fun _ _ _ _ _ => (dg_tup rfl (dgs_cons (dg_name (i := 13) sc_law.nd rfl (Or.inl rfl) (by decide)) (dgs_cons (dg_name (i := 14) sc_law.nd rfl (Or.inl rfl) (by decide)) dgs_nil)))) (fun _ _ _ _ _ => dts_nil) (fun _ _ _ _ _ => (de_call ((ok_L_at_most T).up (by decide)) hr hmu (by rfl) T.g_L_at_most T.F_L_at_most.kp T.b_L_at_most pass0 koe0 (da_cons (de_var (pv 13)) (da_cons (de_var (pv 14)) da_nil))))) da_nil)))) (dss_one (ds_ret de_bl)) dss_nil)
    (dss_one (ds_if (PW.pt (dw_and (dt_cmp op_lt od_lt (nomark _) (de_var (pv 4)) de_int) (pw_and1 (dt_not (dt_val (de_call ((ok_L_are_heavy T).up (by decide)) hr hmu (by rfl) T.g_L_are_heavy T.F_L_are_heavy.kp T.b_L_are_heavy pass0 koe0 (da_cons (de_var (pv 3)) (da_cons (de_op op_mulA (od_mul false) de_int (de_var (pv 4))) (da_cons (de_var (pv 5)) da_nil))))))))) (dss_one (ds_if (dt_not (dt_val (de_call ((ok_L_at_most T).up (by decide)) hr hmu (by rfl) T.g_L_at_most T.F_L_at_most.kp T.b_L_at_most pass0 koe0 (da_cons (de_call ((ok_worth T).up (by decide)) hr hmu (by rfl) T.g_worth T.F_worth.kp T.b_worth pass0 koe0 (da_cons (de_var (pv 3)) (da_cons (de_var (pv 4)) (da_cons (de_var (pv 5)) (da_cons (de_var (pv 10)) da_nil))))) (da_cons (de_call ((ok_worth T).up (by decide)) hr hmu (by rfl) T.g_worth T.F_worth.kp T.b_worth pass0 koe0 (da_cons (de_var (pv 3)) (da_cons (de_op op_mulA (od_mul false) de_int (de_var (pv 4))) (da_cons (de_var (pv 5)) (da_cons (de_var (pv 10)) da_nil))))) da_nil))))) (dss_one (ds_ret de_bl)) dss_nil)) dss_nil))))))))))))
    (dss_one (ds_ret de_bl))))
end
set_option maxHeartbeats 8000000 in
theorem all_mk {l : PySem.W.OpenLaw} {w : World} {K : PySem.W.Frag} {h : Heap} {mg : Str → Option Value} {fa : Addr} (X : K.In h) (G : h.Ns mainGlobals mg) (hfa : mg "law" = some (.ref fa))
    {x_Game : Addr} (z_Game : PySem.W.nsIn K mainGlobals "Game" = some (some (.ref x_Game))) (pg_Game : PySem.W.plainGet K x_Game Str.empty = true) (hd_Game : PySem.W.hasDictIn K x_Game = true) (po_Game : PySem.W.plainOver K x_Game = true) (sa_Game : PySem.W.findIn K (.ref x_Game) "__setattr__" = some (some (.builtin "object.__setattr__")))
    (na_Game_known : PySem.W.findIn K (.ref x_Game) "known" = some none)
    (na_Game_rows : PySem.W.findIn K (.ref x_Game) "rows" = some none)
    (mk_Game : PySem.W.makesIn K x_Game = true) (kc_Game : PySem.W.keepIn K (.ref x_Game) = true)
    {f0 : Addr} {od0 an0 : Option Addr} {sl0 : Array (Option Value)} {oc0 kV0 dc0 pm0 cd0 ct0 : Value}
    (a0 : PySem.W.nsIn K mainGlobals "_law_tops" = some (some (.ref f0))) (l0 : K.lookup f0 = some ⟨oc0, od0, .func (PySem.W.fnOf "_law_tops" "_law_tops" (defArgs s_L_tops) (defBody s_L_tops) (defScope s_L_tops) .none kV0 dc0 pm0 an0 cd0 ct0), sl0⟩) (c0 : PySem.W.codeIn K cd0 "_law_tops" = true) (k0 : PySem.W.keepIn K (.ref f0) = true)
    {f1 : Addr} {od1 an1 : Option Addr} {sl1 : Array (Option Value)} {oc1 kV1 dc1 pm1 cd1 ct1 : Value}
    (a1 : PySem.W.nsIn K mainGlobals "_law_are_heavy" = some (some (.ref f1))) (l1 : K.lookup f1 = some ⟨oc1, od1, .func (PySem.W.fnOf "_law_are_heavy" "_law_are_heavy" (defArgs s_L_are_heavy) (defBody s_L_are_heavy) (defScope s_L_are_heavy) .none kV1 dc1 pm1 an1 cd1 ct1), sl1⟩) (c1 : PySem.W.codeIn K cd1 "_law_are_heavy" = true) (k1 : PySem.W.keepIn K (.ref f1) = true)
    {f2 : Addr} {od2 an2 : Option Addr} {sl2 : Array (Option Value)} {oc2 kV2 dc2 pm2 cd2 ct2 : Value}
    (a2 : PySem.W.nsIn K mainGlobals "is_less" = some (some (.ref f2))) (l2 : K.lookup f2 = some ⟨oc2, od2, .func (PySem.W.fnOf "is_less" "is_less" (defArgs s_is_less) (defBody s_is_less) (defScope s_is_less) .none kV2 dc2 pm2 an2 cd2 ct2), sl2⟩) (c2 : PySem.W.codeIn K cd2 "is_less" = true) (k2 : PySem.W.keepIn K (.ref f2) = true)
    {f3 : Addr} {od3 an3 : Option Addr} {sl3 : Array (Option Value)} {oc3 kV3 dc3 pm3 cd3 ct3 : Value}
    (a3 : PySem.W.nsIn K mainGlobals "greater" = some (some (.ref f3))) (l3 : K.lookup f3 = some ⟨oc3, od3, .func (PySem.W.fnOf "greater" "greater" (defArgs s_greater) (defBody s_greater) (defScope s_greater) .none kV3 dc3 pm3 an3 cd3 ct3), sl3⟩) (c3 : PySem.W.codeIn K cd3 "greater" = true) (k3 : PySem.W.keepIn K (.ref f3) = true)
    {f4 : Addr} {od4 an4 : Option Addr} {sl4 : Array (Option Value)} {oc4 kV4 dc4 pm4 cd4 ct4 : Value}
    (a4 : PySem.W.nsIn K mainGlobals "greatest_of" = some (some (.ref f4))) (l4 : K.lookup f4 = some ⟨oc4, od4, .func (PySem.W.fnOf "greatest_of" "greatest_of" (defArgs s_greatest_of) (defBody s_greatest_of) (defScope s_greatest_of) .none kV4 dc4 pm4 an4 cd4 ct4), sl4⟩) (c4 : PySem.W.codeIn K cd4 "greatest_of" = true) (k4 : PySem.W.keepIn K (.ref f4) = true)
    {f5 : Addr} {od5 an5 : Option Addr} {sl5 : Array (Option Value)} {oc5 kV5 dc5 pm5 cd5 ct5 : Value}
    (a5 : PySem.W.nsIn K mainGlobals "divisor" = some (some (.ref f5))) (l5 : K.lookup f5 = some ⟨oc5, od5, .func (PySem.W.fnOf "divisor" "divisor" (defArgs s_divisor) (defBody s_divisor) (defScope s_divisor) .none kV5 dc5 pm5 an5 cd5 ct5), sl5⟩) (c5 : PySem.W.codeIn K cd5 "divisor" = true) (k5 : PySem.W.keepIn K (.ref f5) = true)
    {f6 : Addr} {od6 an6 : Option Addr} {sl6 : Array (Option Value)} {oc6 kV6 dc6 pm6 cd6 ct6 : Value}
    (a6 : PySem.W.nsIn K mainGlobals "lowest" = some (some (.ref f6))) (l6 : K.lookup f6 = some ⟨oc6, od6, .func (PySem.W.fnOf "lowest" "lowest" (defArgs s_lowest) (defBody s_lowest) (defScope s_lowest) .none kV6 dc6 pm6 an6 cd6 ct6), sl6⟩) (c6 : PySem.W.codeIn K cd6 "lowest" = true) (k6 : PySem.W.keepIn K (.ref f6) = true)
    {f7 : Addr} {od7 an7 : Option Addr} {sl7 : Array (Option Value)} {oc7 kV7 dc7 pm7 cd7 ct7 : Value}
    (a7 : PySem.W.nsIn K mainGlobals "plus" = some (some (.ref f7))) (l7 : K.lookup f7 = some ⟨oc7, od7, .func (PySem.W.fnOf "plus" "plus" (defArgs s_plus) (defBody s_plus) (defScope s_plus) .none kV7 dc7 pm7 an7 cd7 ct7), sl7⟩) (c7 : PySem.W.codeIn K cd7 "plus" = true) (k7 : PySem.W.keepIn K (.ref f7) = true)
    {f8 : Addr} {od8 an8 : Option Addr} {sl8 : Array (Option Value)} {oc8 kV8 dc8 pm8 cd8 ct8 : Value}
    (a8 : PySem.W.nsIn K mainGlobals "with_shares" = some (some (.ref f8))) (l8 : K.lookup f8 = some ⟨oc8, od8, .func (PySem.W.fnOf "with_shares" "with_shares" (defArgs s_with_shares) (defBody s_with_shares) (defScope s_with_shares) .none kV8 dc8 pm8 an8 cd8 ct8), sl8⟩) (c8 : PySem.W.codeIn K cd8 "with_shares" = true) (k8 : PySem.W.keepIn K (.ref f8) = true)
    {f9 : Addr} {od9 an9 : Option Addr} {sl9 : Array (Option Value)} {oc9 kV9 dc9 pm9 cd9 ct9 : Value}
    (a9 : PySem.W.nsIn K mainGlobals "minus" = some (some (.ref f9))) (l9 : K.lookup f9 = some ⟨oc9, od9, .func (PySem.W.fnOf "minus" "minus" (defArgs s_minus) (defBody s_minus) (defScope s_minus) .none kV9 dc9 pm9 an9 cd9 ct9), sl9⟩) (c9 : PySem.W.codeIn K cd9 "minus" = true) (k9 : PySem.W.keepIn K (.ref f9) = true)
    {f10 : Addr} {od10 an10 : Option Addr} {sl10 : Array (Option Value)} {oc10 kV10 dc10 pm10 cd10 ct10 : Value}
    (a10 : PySem.W.nsIn K mainGlobals "paid" = some (some (.ref f10))) (l10 : K.lookup f10 = some ⟨oc10, od10, .func (PySem.W.fnOf "paid" "paid" (defArgs s_paid) (defBody s_paid) (defScope s_paid) .none kV10 dc10 pm10 an10 cd10 ct10), sl10⟩) (c10 : PySem.W.codeIn K cd10 "paid" = true) (k10 : PySem.W.keepIn K (.ref f10) = true)
    {f11 : Addr} {od11 an11 : Option Addr} {sl11 : Array (Option Value)} {oc11 kV11 dc11 pm11 cd11 ct11 : Value}
    (a11 : PySem.W.findIn K (.ref x_Game) "dealt_worth" = some (some (.ref f11))) (e11 : PySem.W.isFn K (.ref f11) = true) (l11 : K.lookup f11 = some ⟨oc11, od11, .func (PySem.W.fnOf "dealt_worth" "Game.dealt_worth" (defArgs s_Game_dealt_worth) (defBody s_Game_dealt_worth) (defScope s_Game_dealt_worth) .none kV11 dc11 pm11 an11 cd11 ct11), sl11⟩) (c11 : PySem.W.codeIn K cd11 "Game.dealt_worth" = true) (k11 : PySem.W.keepIn K (.ref f11) = true)
    {f12 : Addr} {od12 an12 : Option Addr} {sl12 : Array (Option Value)} {oc12 kV12 dc12 pm12 cd12 ct12 : Value}
    (a12 : PySem.W.findIn K (.ref x_Game) "answered" = some (some (.ref f12))) (e12 : PySem.W.isFn K (.ref f12) = true) (l12 : K.lookup f12 = some ⟨oc12, od12, .func (PySem.W.fnOf "answered" "Game.answered" (defArgs s_Game_answered) (defBody s_Game_answered) (defScope s_Game_answered) .none kV12 dc12 pm12 an12 cd12 ct12), sl12⟩) (c12 : PySem.W.codeIn K cd12 "Game.answered" = true) (k12 : PySem.W.keepIn K (.ref f12) = true)
    {f13 : Addr} {od13 an13 : Option Addr} {sl13 : Array (Option Value)} {oc13 kV13 dc13 pm13 cd13 ct13 : Value}
    (a13 : PySem.W.findIn K (.ref x_Game) "worth" = some (some (.ref f13))) (e13 : PySem.W.isFn K (.ref f13) = true) (l13 : K.lookup f13 = some ⟨oc13, od13, .func (PySem.W.fnOf "worth" "Game.worth" (defArgs s_Game_worth) (defBody s_Game_worth) (defScope s_Game_worth) .none kV13 dc13 pm13 an13 cd13 ct13), sl13⟩) (c13 : PySem.W.codeIn K cd13 "Game.worth" = true) (k13 : PySem.W.keepIn K (.ref f13) = true)
    {f14 : Addr} {od14 an14 : Option Addr} {sl14 : Array (Option Value)} {oc14 kV14 dc14 pm14 cd14 ct14 : Value}
    (a14 : PySem.W.nsIn K mainGlobals "all_tops" = some (some (.ref f14))) (l14 : K.lookup f14 = some ⟨oc14, od14, .func (PySem.W.fnOf "all_tops" "all_tops" (defArgs s_all_tops) (defBody s_all_tops) (defScope s_all_tops) .none kV14 dc14 pm14 an14 cd14 ct14), sl14⟩) (c14 : PySem.W.codeIn K cd14 "all_tops" = true) (k14 : PySem.W.keepIn K (.ref f14) = true)
    {f15 : Addr} {od15 an15 : Option Addr} {sl15 : Array (Option Value)} {oc15 kV15 dc15 pm15 cd15 ct15 : Value}
    (a15 : PySem.W.nsIn K mainGlobals "all_shares" = some (some (.ref f15))) (l15 : K.lookup f15 = some ⟨oc15, od15, .func (PySem.W.fnOf "all_shares" "all_shares" (defArgs s_all_shares) (defBody s_all_shares) (defScope s_all_shares) .none kV15 dc15 pm15 an15 cd15 ct15), sl15⟩) (c15 : PySem.W.codeIn K cd15 "all_shares" = true) (k15 : PySem.W.keepIn K (.ref f15) = true)
    {f16 : Addr} {od16 an16 : Option Addr} {sl16 : Array (Option Value)} {oc16 kV16 dc16 pm16 cd16 ct16 : Value}
    (a16 : PySem.W.findIn K (.ref x_Game) "__init__" = some (some (.ref f16))) (e16 : PySem.W.isFn K (.ref f16) = true) (l16 : K.lookup f16 = some ⟨oc16, od16, .func (PySem.W.fnOf "__init__" "Game.__init__" (defArgs s_Game___init__) (defBody s_Game___init__) (defScope s_Game___init__) .none kV16 dc16 pm16 an16 cd16 ct16), sl16⟩) (c16 : PySem.W.codeIn K cd16 "Game.__init__" = true) (k16 : PySem.W.keepIn K (.ref f16) = true)
    {f17 : Addr} {od17 an17 : Option Addr} {sl17 : Array (Option Value)} {oc17 kV17 dc17 pm17 cd17 ct17 : Value}
    (a17 : PySem.W.nsIn K mainGlobals "check_few" = some (some (.ref f17))) (l17 : K.lookup f17 = some ⟨oc17, od17, .func (PySem.W.fnOf "check_few" "check_few" (defArgs s_check_few) (defBody s_check_few) (defScope s_check_few) .none kV17 dc17 pm17 an17 cd17 ct17), sl17⟩) (c17 : PySem.W.codeIn K cd17 "check_few" = true) (k17 : PySem.W.keepIn K (.ref f17) = true)
    {f18 : Addr} {od18 an18 : Option Addr} {sl18 : Array (Option Value)} {oc18 kV18 dc18 pm18 cd18 ct18 : Value}
    (a18 : PySem.W.nsIn K mainGlobals "total" = some (some (.ref f18))) (l18 : K.lookup f18 = some ⟨oc18, od18, .func (PySem.W.fnOf "total" "total" (defArgs s_total) (defBody s_total) (defScope s_total) .none kV18 dc18 pm18 an18 cd18 ct18), sl18⟩) (c18 : PySem.W.codeIn K cd18 "total" = true) (k18 : PySem.W.keepIn K (.ref f18) = true)
    {f19 : Addr} {od19 an19 : Option Addr} {sl19 : Array (Option Value)} {oc19 kV19 dc19 pm19 cd19 ct19 : Value}
    (a19 : PySem.W.nsIn K mainGlobals "is_integer" = some (some (.ref f19))) (l19 : K.lookup f19 = some ⟨oc19, od19, .func (PySem.W.fnOf "is_integer" "is_integer" (defArgs s_is_integer) (defBody s_is_integer) (defScope s_is_integer) .none kV19 dc19 pm19 an19 cd19 ct19), sl19⟩) (c19 : PySem.W.codeIn K cd19 "is_integer" = true) (k19 : PySem.W.keepIn K (.ref f19) = true)
    {f20 : Addr} {od20 an20 : Option Addr} {sl20 : Array (Option Value)} {oc20 kV20 dc20 pm20 cd20 ct20 : Value}
    (a20 : PySem.W.nsIn K mainGlobals "is_pair" = some (some (.ref f20))) (l20 : K.lookup f20 = some ⟨oc20, od20, .func (PySem.W.fnOf "is_pair" "is_pair" (defArgs s_is_pair) (defBody s_is_pair) (defScope s_is_pair) .none kV20 dc20 pm20 an20 cd20 ct20), sl20⟩) (c20 : PySem.W.codeIn K cd20 "is_pair" = true) (k20 : PySem.W.keepIn K (.ref f20) = true)
    {f21 : Addr} {od21 an21 : Option Addr} {sl21 : Array (Option Value)} {oc21 kV21 dc21 pm21 cd21 ct21 : Value}
    (a21 : PySem.W.nsIn K mainGlobals "is_fraction" = some (some (.ref f21))) (l21 : K.lookup f21 = some ⟨oc21, od21, .func (PySem.W.fnOf "is_fraction" "is_fraction" (defArgs s_is_fraction) (defBody s_is_fraction) (defScope s_is_fraction) .none kV21 dc21 pm21 an21 cd21 ct21), sl21⟩) (c21 : PySem.W.codeIn K cd21 "is_fraction" = true) (k21 : PySem.W.keepIn K (.ref f21) = true)
    {f22 : Addr} {od22 an22 : Option Addr} {sl22 : Array (Option Value)} {oc22 kV22 dc22 pm22 cd22 ct22 : Value}
    (a22 : PySem.W.nsIn K mainGlobals "are_debts" = some (some (.ref f22))) (l22 : K.lookup f22 = some ⟨oc22, od22, .func (PySem.W.fnOf "are_debts" "are_debts" (defArgs s_are_debts) (defBody s_are_debts) (defScope s_are_debts) .none kV22 dc22 pm22 an22 cd22 ct22), sl22⟩) (c22 : PySem.W.codeIn K cd22 "are_debts" = true) (k22 : PySem.W.keepIn K (.ref f22) = true)
    {f23 : Addr} {od23 an23 : Option Addr} {sl23 : Array (Option Value)} {oc23 kV23 dc23 pm23 cd23 ct23 : Value}
    (a23 : PySem.W.nsIn K mainGlobals "is_within" = some (some (.ref f23))) (l23 : K.lookup f23 = some ⟨oc23, od23, .func (PySem.W.fnOf "is_within" "is_within" (defArgs s_is_within) (defBody s_is_within) (defScope s_is_within) .none kV23 dc23 pm23 an23 cd23 ct23), sl23⟩) (c23 : PySem.W.codeIn K cd23 "is_within" = true) (k23 : PySem.W.keepIn K (.ref f23) = true)
    {f24 : Addr} {od24 an24 : Option Addr} {sl24 : Array (Option Value)} {oc24 kV24 dc24 pm24 cd24 ct24 : Value}
    (a24 : PySem.W.nsIn K mainGlobals "check_parts" = some (some (.ref f24))) (l24 : K.lookup f24 = some ⟨oc24, od24, .func (PySem.W.fnOf "check_parts" "check_parts" (defArgs s_check_parts) (defBody s_check_parts) (defScope s_check_parts) .none kV24 dc24 pm24 an24 cd24 ct24), sl24⟩) (c24 : PySem.W.codeIn K cd24 "check_parts" = true) (k24 : PySem.W.keepIn K (.ref f24) = true)
    {f25 : Addr} {od25 an25 : Option Addr} {sl25 : Array (Option Value)} {oc25 kV25 dc25 pm25 cd25 ct25 : Value}
    (a25 : PySem.W.nsIn K mainGlobals "check_game" = some (some (.ref f25))) (l25 : K.lookup f25 = some ⟨oc25, od25, .func (PySem.W.fnOf "check_game" "check_game" (defArgs s_check_game) (defBody s_check_game) (defScope s_check_game) .none kV25 dc25 pm25 an25 cd25 ct25), sl25⟩) (c25 : PySem.W.codeIn K cd25 "check_game" = true) (k25 : PySem.W.keepIn K (.ref f25) = true)
    {f26 : Addr} {od26 an26 : Option Addr} {sl26 : Array (Option Value)} {oc26 kV26 dc26 pm26 cd26 ct26 : Value}
    (a26 : PySem.W.nsIn K mainGlobals "worth" = some (some (.ref f26))) (l26 : K.lookup f26 = some ⟨oc26, od26, .func (PySem.W.fnOf "worth" "worth" (defArgs s_worth) (defBody s_worth) (defScope s_worth) .none kV26 dc26 pm26 an26 cd26 ct26), sl26⟩) (c26 : PySem.W.codeIn K cd26 "worth" = true) (k26 : PySem.W.keepIn K (.ref f26) = true)
    {f27 : Addr} {od27 an27 : Option Addr} {sl27 : Array (Option Value)} {oc27 kV27 dc27 pm27 cd27 ct27 : Value}
    (a27 : PySem.W.nsIn K mainGlobals "_law_less" = some (some (.ref f27))) (l27 : K.lookup f27 = some ⟨oc27, od27, .func (PySem.W.fnOf "_law_less" "_law_less" (defArgs s_L_less) (defBody s_L_less) (defScope s_L_less) .none kV27 dc27 pm27 an27 cd27 ct27), sl27⟩) (c27 : PySem.W.codeIn K cd27 "_law_less" = true) (k27 : PySem.W.keepIn K (.ref f27) = true)
    {f28 : Addr} {od28 an28 : Option Addr} {sl28 : Array (Option Value)} {oc28 kV28 dc28 pm28 cd28 ct28 : Value}
    (a28 : PySem.W.nsIn K mainGlobals "_law_at_most" = some (some (.ref f28))) (l28 : K.lookup f28 = some ⟨oc28, od28, .func (PySem.W.fnOf "_law_at_most" "_law_at_most" (defArgs s_L_at_most) (defBody s_L_at_most) (defScope s_L_at_most) .none kV28 dc28 pm28 an28 cd28 ct28), sl28⟩) (c28 : PySem.W.codeIn K cd28 "_law_at_most" = true) (k28 : PySem.W.keepIn K (.ref f28) = true)
    {f29 : Addr} {od29 an29 : Option Addr} {sl29 : Array (Option Value)} {oc29 kV29 dc29 pm29 cd29 ct29 : Value}
    (a29 : PySem.W.nsIn K mainGlobals "_law_draw" = some (some (.ref f29))) (l29 : K.lookup f29 = some ⟨oc29, od29, .func (PySem.W.fnOf "_law_draw" "_law_draw" (defArgs s_L_draw) (defBody s_L_draw) (defScope s_L_draw) .none kV29 dc29 pm29 an29 cd29 ct29), sl29⟩) (c29 : PySem.W.codeIn K cd29 "_law_draw" = true) (k29 : PySem.W.keepIn K (.ref f29) = true)
    {f30 : Addr} {od30 an30 : Option Addr} {sl30 : Array (Option Value)} {oc30 kV30 dc30 pm30 cd30 ct30 : Value}
    (a30 : PySem.W.nsIn K mainGlobals "_law_shuffled" = some (some (.ref f30))) (l30 : K.lookup f30 = some ⟨oc30, od30, .func (PySem.W.fnOf "_law_shuffled" "_law_shuffled" (defArgs s_L_shuffled) (defBody s_L_shuffled) (defScope s_L_shuffled) .none kV30 dc30 pm30 an30 cd30 ct30), sl30⟩) (c30 : PySem.W.codeIn K cd30 "_law_shuffled" = true) (k30 : PySem.W.keepIn K (.ref f30) = true)
    {f31 : Addr} {od31 an31 : Option Addr} {sl31 : Array (Option Value)} {oc31 kV31 dc31 pm31 cd31 ct31 : Value}
    (a31 : PySem.W.nsIn K mainGlobals "_law_low" = some (some (.ref f31))) (l31 : K.lookup f31 = some ⟨oc31, od31, .func (PySem.W.fnOf "_law_low" "_law_low" (defArgs s_L_low) (defBody s_L_low) (defScope s_L_low) .none kV31 dc31 pm31 an31 cd31 ct31), sl31⟩) (c31 : PySem.W.codeIn K cd31 "_law_low" = true) (k31 : PySem.W.keepIn K (.ref f31) = true)
    {f32 : Addr} {od32 an32 : Option Addr} {sl32 : Array (Option Value)} {oc32 kV32 dc32 pm32 cd32 ct32 : Value}
    (a32 : PySem.W.nsIn K mainGlobals "_law_some" = some (some (.ref f32))) (l32 : K.lookup f32 = some ⟨oc32, od32, .func (PySem.W.fnOf "_law_some" "_law_some" (defArgs s_L_some) (defBody s_L_some) (defScope s_L_some) .none kV32 dc32 pm32 an32 cd32 ct32), sl32⟩) (c32 : PySem.W.codeIn K cd32 "_law_some" = true) (k32 : PySem.W.keepIn K (.ref f32) = true)
    {f33 : Addr} {od33 an33 : Option Addr} {sl33 : Array (Option Value)} {oc33 kV33 dc33 pm33 cd33 ct33 : Value}
    (a33 : PySem.W.nsIn K mainGlobals "_law_debts" = some (some (.ref f33))) (l33 : K.lookup f33 = some ⟨oc33, od33, .func (PySem.W.fnOf "_law_debts" "_law_debts" (defArgs s_L_debts) (defBody s_L_debts) (defScope s_L_debts) .none kV33 dc33 pm33 an33 cd33 ct33), sl33⟩) (c33 : PySem.W.codeIn K cd33 "_law_debts" = true) (k33 : PySem.W.keepIn K (.ref f33) = true)
    {f34 : Addr} {od34 an34 : Option Addr} {sl34 : Array (Option Value)} {oc34 kV34 dc34 pm34 cd34 ct34 : Value}
    (a34 : PySem.W.nsIn K mainGlobals "_law_plus" = some (some (.ref f34))) (l34 : K.lookup f34 = some ⟨oc34, od34, .func (PySem.W.fnOf "_law_plus" "_law_plus" (defArgs s_L_plus) (defBody s_L_plus) (defScope s_L_plus) .none kV34 dc34 pm34 an34 cd34 ct34), sl34⟩) (c34 : PySem.W.codeIn K cd34 "_law_plus" = true) (k34 : PySem.W.keepIn K (.ref f34) = true)
    {f35 : Addr} {od35 an35 : Option Addr} {sl35 : Array (Option Value)} {oc35 kV35 dc35 pm35 cd35 ct35 : Value}
    (a35 : PySem.W.nsIn K mainGlobals "_law_most" = some (some (.ref f35))) (l35 : K.lookup f35 = some ⟨oc35, od35, .func (PySem.W.fnOf "_law_most" "_law_most" (defArgs s_L_most) (defBody s_L_most) (defScope s_L_most) .none kV35 dc35 pm35 an35 cd35 ct35), sl35⟩) (c35 : PySem.W.codeIn K cd35 "_law_most" = true) (k35 : PySem.W.keepIn K (.ref f35) = true)
    {f36 : Addr} {od36 an36 : Option Addr} {sl36 : Array (Option Value)} {oc36 kV36 dc36 pm36 cd36 ct36 : Value}
    (a36 : PySem.W.nsIn K mainGlobals "_law_group" = some (some (.ref f36))) (l36 : K.lookup f36 = some ⟨oc36, od36, .func (PySem.W.fnOf "_law_group" "_law_group" (defArgs s_L_group) (defBody s_L_group) (defScope s_L_group) .none kV36 dc36 pm36 an36 cd36 ct36), sl36⟩) (c36 : PySem.W.codeIn K cd36 "_law_group" = true) (k36 : PySem.W.keepIn K (.ref f36) = true)
    {f37 : Addr} {od37 an37 : Option Addr} {sl37 : Array (Option Value)} {oc37 kV37 dc37 pm37 cd37 ct37 : Value}
    (a37 : PySem.W.nsIn K mainGlobals "_law_sizes" = some (some (.ref f37))) (l37 : K.lookup f37 = some ⟨oc37, od37, .func (PySem.W.fnOf "_law_sizes" "_law_sizes" (defArgs s_L_sizes) (defBody s_L_sizes) (defScope s_L_sizes) .none kV37 dc37 pm37 an37 cd37 ct37), sl37⟩) (c37 : PySem.W.codeIn K cd37 "_law_sizes" = true) (k37 : PySem.W.keepIn K (.ref f37) = true)
    {f38 : Addr} {od38 an38 : Option Addr} {sl38 : Array (Option Value)} {oc38 kV38 dc38 pm38 cd38 ct38 : Value}
    (a38 : PySem.W.nsIn K mainGlobals "_law_hand" = some (some (.ref f38))) (l38 : K.lookup f38 = some ⟨oc38, od38, .func (PySem.W.fnOf "_law_hand" "_law_hand" (defArgs s_L_hand) (defBody s_L_hand) (defScope s_L_hand) .none kV38 dc38 pm38 an38 cd38 ct38), sl38⟩) (c38 : PySem.W.codeIn K cd38 "_law_hand" = true) (k38 : PySem.W.keepIn K (.ref f38) = true)
    {f39 : Addr} {od39 an39 : Option Addr} {sl39 : Array (Option Value)} {oc39 kV39 dc39 pm39 cd39 ct39 : Value}
    (a39 : PySem.W.nsIn K mainGlobals "law" = some (some (.ref f39))) (l39 : K.lookup f39 = some ⟨oc39, od39, .func (PySem.W.fnOf "law" "law" (defArgs s_law) (defBody s_law) (defScope s_law) .none kV39 dc39 pm39 an39 cd39 ct39), sl39⟩) (c39 : PySem.W.codeIn K cd39 "law" = true) (k39 : PySem.W.keepIn K (.ref f39) = true)
    (z_abs : PySem.W.nsIn K mainGlobals "abs" = some none)
    (z_all : PySem.W.nsIn K mainGlobals "all" = some none)
    (z_bool : PySem.W.nsIn K mainGlobals "bool" = some none)
    (z_int : PySem.W.nsIn K mainGlobals "int" = some none)
    (z_isinstance : PySem.W.nsIn K mainGlobals "isinstance" = some none)
    (z_len : PySem.W.nsIn K mainGlobals "len" = some none)
    (z_list : PySem.W.nsIn K mainGlobals "list" = some none)
    (z_min : PySem.W.nsIn K mainGlobals "min" = some none)
    (z_range : PySem.W.nsIn K mainGlobals "range" = some none)
    (z_sorted : PySem.W.nsIn K mainGlobals "sorted" = some none)
    (z_sum : PySem.W.nsIn K mainGlobals "sum" = some none)
    (z_tuple : PySem.W.nsIn K mainGlobals "tuple" = some none)
    (z_zip : PySem.W.nsIn K mainGlobals "zip" = some none)
    {t_MOST_BEATS : Tok} (z_MOST_BEATS : PySem.W.nsIn K mainGlobals "MOST_BEATS" = some (some (.int 6 t_MOST_BEATS)))
    {t_MOST_PARTS : Tok} (z_MOST_PARTS : PySem.W.nsIn K mainGlobals "MOST_PARTS" = some (some (.int 12 t_MOST_PARTS)))
    {t_MOST_PEOPLE : Tok} (z_MOST_PEOPLE : PySem.W.nsIn K mainGlobals "MOST_PEOPLE" = some (some (.int 4 t_MOST_PEOPLE)))
    {t_MOST_ROWS : Tok} (z_MOST_ROWS : PySem.W.nsIn K mainGlobals "MOST_ROWS" = some (some (.int 20000 t_MOST_ROWS)))
    {u_NOUGHT_0 : Tok}
    {u_NOUGHT_1 : Tok}
    {x_NOUGHT : Addr} {o_NOUGHT : Option Addr} {n_NOUGHT : Nat} {q_NOUGHT : Array (Option Value)}
    (l_NOUGHT : K.lookup x_NOUGHT = some ⟨.type "tuple", o_NOUGHT, .seq #[.int 0 u_NOUGHT_0, .int 1 u_NOUGHT_1] n_NOUGHT, q_NOUGHT⟩)
    (z_NOUGHT : PySem.W.nsIn K mainGlobals "NOUGHT" = some (some (.ref x_NOUGHT)))
    {u_ONE_0 : Tok}
    {u_ONE_1 : Tok}
    {x_ONE : Addr} {o_ONE : Option Addr} {n_ONE : Nat} {q_ONE : Array (Option Value)}
    (l_ONE : K.lookup x_ONE = some ⟨.type "tuple", o_ONE, .seq #[.int 1 u_ONE_0, .int 1 u_ONE_1] n_ONE, q_ONE⟩)
    (z_ONE : PySem.W.nsIn K mainGlobals "ONE" = some (some (.ref x_ONE)))
    : ∃ fd : FuncData, (∀ (s : Shared) (v : Value), BindsTo s fd ⟨[v], []⟩ [("_law_script", v)]) ∧ ∀ base : Heap, K.In base → base.Ns mainGlobals mg → FnG l.prog w K mg base CX0 30 fa fd ["_law_script"] (LSp K sp_law) := by
  have e : f39 = fa := by
    have e := hfa.symm.trans (PySem.W.mg_of X G a39)
    cases e
    rfl
  subst e
  have F0 := fun_mk (st := s_L_tops) l0 c0 k0
  have F1 := fun_mk (st := s_L_are_heavy) l1 c1 k1
  have F2 := fun_mk (st := s_is_less) l2 c2 k2
  have F3 := fun_mk (st := s_greater) l3 c3 k3
  have F4 := fun_mk (st := s_greatest_of) l4 c4 k4
  have F5 := fun_mk (st := s_divisor) l5 c5 k5
  have F6 := fun_mk (st := s_lowest) l6 c6 k6
  have F7 := fun_mk (st := s_plus) l7 c7 k7
  have F8 := fun_mk (st := s_with_shares) l8 c8 k8
  have F9 := fun_mk (st := s_minus) l9 c9 k9
  have F10 := fun_mk (st := s_paid) l10 c10 k10
  have F11 := fun_mk (st := s_Game_dealt_worth) l11 c11 k11
  have F12 := fun_mk (st := s_Game_answered) l12 c12 k12
  have F13 := fun_mk (st := s_Game_worth) l13 c13 k13
  have F14 := fun_mk (st := s_all_tops) l14 c14 k14
  have F15 := fun_mk (st := s_all_shares) l15 c15 k15
  have F16 := fun_mk (st := s_Game___init__) l16 c16 k16
  have F17 := fun_mk (st := s_check_few) l17 c17 k17
  have F18 := fun_mk (st := s_total) l18 c18 k18
  have F19 := fun_mk (st := s_is_integer) l19 c19 k19
  have F20 := fun_mk (st := s_is_pair) l20 c20 k20
  have F21 := fun_mk (st := s_is_fraction) l21 c21 k21
  have F22 := fun_mk (st := s_are_debts) l22 c22 k22
  have F23 := fun_mk (st := s_is_within) l23 c23 k23
  have F24 := fun_mk (st := s_check_parts) l24 c24 k24
  have F25 := fun_mk (st := s_check_game) l25 c25 k25
  have F26 := fun_mk (st := s_worth) l26 c26 k26
  have F27 := fun_mk (st := s_L_less) l27 c27 k27
  have F28 := fun_mk (st := s_L_at_most) l28 c28 k28
  have F29 := fun_mk (st := s_L_draw) l29 c29 k29
  have F30 := fun_mk (st := s_L_shuffled) l30 c30 k30
  have F31 := fun_mk (st := s_L_low) l31 c31 k31
  have F32 := fun_mk (st := s_L_some) l32 c32 k32
  have F33 := fun_mk (st := s_L_debts) l33 c33 k33
  have F34 := fun_mk (st := s_L_plus) l34 c34 k34
  have F35 := fun_mk (st := s_L_most) l35 c35 k35
  have F36 := fun_mk (st := s_L_group) l36 c36 k36
  have F37 := fun_mk (st := s_L_sizes) l37 c37 k37
  have F38 := fun_mk (st := s_L_hand) l38 c38 k38
  have F39 := fun_mk (st := s_law) l39 c39 k39
  let T : Txt K mg := {
    a_L_tops := f0,
    d_L_tops := _,
    F_L_tops := F0,
    g_L_tops := PySem.W.mg_of X G a0,
    b_L_tops := F0.binds (ps := ["_law_n", "_law_bottom"]) fun _ _ _ _ _ _ us hl => match us, hl with | [_, _], _ => rfl,
    a_L_are_heavy := f1,
    d_L_are_heavy := _,
    F_L_are_heavy := F1,
    g_L_are_heavy := PySem.W.mg_of X G a1,
    b_L_are_heavy := F1.binds (ps := ["_law_n", "_law_bottom", "_law_beats"]) fun _ _ _ _ _ _ us hl => match us, hl with | [_, _, _], _ => rfl,
    a_is_less := f2,
    d_is_less := _,
    F_is_less := F2,
    g_is_less := PySem.W.mg_of X G a2,
    b_is_less := F2.binds (ps := ["one", "other"]) fun _ _ _ _ _ _ us hl => match us, hl with | [_, _], _ => rfl,
    a_greater := f3,
    d_greater := _,
    F_greater := F3,
    g_greater := PySem.W.mg_of X G a3,
    b_greater := F3.binds (ps := ["one", "other"]) fun _ _ _ _ _ _ us hl => match us, hl with | [_, _], _ => rfl,
    a_greatest_of := f4,
    d_greatest_of := _,
    F_greatest_of := F4,
    g_greatest_of := PySem.W.mg_of X G a4,
    b_greatest_of := F4.binds (ps := ["some"]) fun _ _ _ _ _ _ us hl => match us, hl with | [_], _ => rfl,
    a_divisor := f5,
    d_divisor := _,
    F_divisor := F5,
    g_divisor := PySem.W.mg_of X G a5,
    b_divisor := F5.binds (ps := ["one", "other"]) fun _ _ _ _ _ _ us hl => match us, hl with | [_, _], _ => rfl,
    a_lowest := f6,
    d_lowest := _,
    F_lowest := F6,
    g_lowest := PySem.W.mg_of X G a6,
    b_lowest := F6.binds (ps := ["top", "bottom"]) fun _ _ _ _ _ _ us hl => match us, hl with | [_, _], _ => rfl,
    a_plus := f7,
    d_plus := _,
    F_plus := F7,
    g_plus := PySem.W.mg_of X G a7,
    b_plus := F7.binds (ps := ["one", "other"]) fun _ _ _ _ _ _ us hl => match us, hl with | [_, _], _ => rfl,
    a_with_shares := f8,
    d_with_shares := _,
    F_with_shares := F8,
    g_with_shares := PySem.W.mg_of X G a8,
    b_with_shares := F8.binds (ps := ["so_far", "shares"]) fun _ _ _ _ _ _ us hl => match us, hl with | [_, _], _ => rfl,
    a_minus := f9,
    d_minus := _,
    F_minus := F9,
    g_minus := PySem.W.mg_of X G a9,
    b_minus := F9.binds (ps := ["one", "other"]) fun _ _ _ _ _ _ us hl => match us, hl with | [_, _], _ => rfl,
    a_paid := f10,
    d_paid := _,
    F_paid := F10,
    g_paid := PySem.W.mg_of X G a10,
    b_paid := F10.binds (ps := ["debts", "person"]) fun _ _ _ _ _ _ us hl => match us, hl with | [_, _], _ => rfl,
    a_Game_dealt_worth := f11,
    d_Game_dealt_worth := _,
    F_Game_dealt_worth := F11,
    b_Game_dealt_worth := F11.binds (ps := ["self", "beats", "debts", "shares", "person"]) fun _ _ _ _ _ _ us hl => match us, hl with | [_, _, _, _, _], _ => rfl,
    a_Game_answered := f12,
    d_Game_answered := _,
    F_Game_answered := F12,
    b_Game_answered := F12.binds (ps := ["self", "beats", "debts", "shares"]) fun _ _ _ _ _ _ us hl => match us, hl with | [_, _, _, _], _ => rfl,
    a_Game_worth := f13,
    d_Game_worth := _,
    F_Game_worth := F13,
    b_Game_worth := F13.binds (ps := ["self", "beats", "debts"]) fun _ _ _ _ _ _ us hl => match us, hl with | [_, _, _], _ => rfl,
    a_all_tops := f14,
    d_all_tops := _,
    F_all_tops := F14,
    g_all_tops := PySem.W.mg_of X G a14,
    b_all_tops := F14.binds (ps := ["n", "bottom"]) fun _ _ _ _ _ _ us hl => match us, hl with | [_, _], _ => rfl,
    a_all_shares := f15,
    d_all_shares := _,
    F_all_shares := F15,
    g_all_shares := PySem.W.mg_of X G a15,
    b_all_shares := F15.binds (ps := ["n", "bottom"]) fun _ _ _ _ _ _ us hl => match us, hl with | [_, _], _ => rfl,
    a_Game___init__ := f16,
    d_Game___init__ := _,
    F_Game___init__ := F16,
    b_Game___init__ := F16.binds (ps := ["self", "n", "bottom"]) fun _ _ _ _ _ _ us hl => match us, hl with | [_, _, _], _ => rfl,
    a_check_few := f17,
    d_check_few := _,
    F_check_few := F17,
    g_check_few := PySem.W.mg_of X G a17,
    b_check_few := F17.binds (ps := ["n", "bottom", "beats"]) fun _ _ _ _ _ _ us hl => match us, hl with | [_, _, _], _ => rfl,
    a_total := f18,
    d_total := _,
    F_total := F18,
    g_total := PySem.W.mg_of X G a18,
    b_total := F18.binds (ps := ["some"]) fun _ _ _ _ _ _ us hl => match us, hl with | [_], _ => rfl,
    a_is_integer := f19,
    d_is_integer := _,
    F_is_integer := F19,
    g_is_integer := PySem.W.mg_of X G a19,
    b_is_integer := F19.binds (ps := ["thing"]) fun _ _ _ _ _ _ us hl => match us, hl with | [_], _ => rfl,
    a_is_pair := f20,
    d_is_pair := _,
    F_is_pair := F20,
    g_is_pair := PySem.W.mg_of X G a20,
    b_is_pair := F20.binds (ps := ["thing"]) fun _ _ _ _ _ _ us hl => match us, hl with | [_], _ => rfl,
    a_is_fraction := f21,
    d_is_fraction := _,
    F_is_fraction := F21,
    g_is_fraction := PySem.W.mg_of X G a21,
    b_is_fraction := F21.binds (ps := ["thing"]) fun _ _ _ _ _ _ us hl => match us, hl with | [_], _ => rfl,
    a_are_debts := f22,
    d_are_debts := _,
    F_are_debts := F22,
    g_are_debts := PySem.W.mg_of X G a22,
    b_are_debts := F22.binds (ps := ["n", "thing"]) fun _ _ _ _ _ _ us hl => match us, hl with | [_, _], _ => rfl,
    a_is_within := f23,
    d_is_within := _,
    F_is_within := F23,
    g_is_within := PySem.W.mg_of X G a23,
    b_is_within := F23.binds (ps := ["thing", "low", "high"]) fun _ _ _ _ _ _ us hl => match us, hl with | [_, _, _], _ => rfl,
    a_check_parts := f24,
    d_check_parts := _,
    F_check_parts := F24,
    g_check_parts := PySem.W.mg_of X G a24,
    b_check_parts := F24.binds (ps := ["n", "bottom", "beats"]) fun _ _ _ _ _ _ us hl => match us, hl with | [_, _, _], _ => rfl,
    a_check_game := f25,
    d_check_game := _,
    F_check_game := F25,
    g_check_game := PySem.W.mg_of X G a25,
    b_check_game := F25.binds (ps := ["n", "bottom", "beats", "debts"]) fun _ _ _ _ _ _ us hl => match us, hl with | [_, _, _, _], _ => rfl,
    a_worth := f26,
    d_worth := _,
    F_worth := F26,
    g_worth := PySem.W.mg_of X G a26,
    b_worth := F26.binds (ps := ["n", "bottom", "beats", "debts"]) fun _ _ _ _ _ _ us hl => match us, hl with | [_, _, _, _], _ => rfl,
    a_L_less := f27,
    d_L_less := _,
    F_L_less := F27,
    g_L_less := PySem.W.mg_of X G a27,
    b_L_less := F27.binds (ps := ["_law_one", "_law_other"]) fun _ _ _ _ _ _ us hl => match us, hl with | [_, _], _ => rfl,
    a_L_at_most := f28,
    d_L_at_most := _,
    F_L_at_most := F28,
    g_L_at_most := PySem.W.mg_of X G a28,
    b_L_at_most := F28.binds (ps := ["_law_one", "_law_other"]) fun _ _ _ _ _ _ us hl => match us, hl with | [_, _], _ => rfl,
    a_L_draw := f29,
    d_L_draw := _,
    F_L_draw := F29,
    g_L_draw := PySem.W.mg_of X G a29,
    b_L_draw := F29.binds (ps := ["_law_hand_here", "_law_many"]) fun _ _ _ _ _ _ us hl => match us, hl with | [_, _], _ => rfl,
    a_L_shuffled := f30,
    d_L_shuffled := _,
    F_L_shuffled := F30,
    g_L_shuffled := PySem.W.mg_of X G a30,
    b_L_shuffled := F30.binds (ps := ["_law_hand_here", "_law_things"]) fun _ _ _ _ _ _ us hl => match us, hl with | [_, _], _ => rfl,
    a_L_low := f31,
    d_L_low := _,
    F_L_low := F31,
    g_L_low := PySem.W.mg_of X G a31,
    b_L_low := F31.binds (ps := ["_law_top", "_law_bottom"]) fun _ _ _ _ _ _ us hl => match us, hl with | [_, _], _ => rfl,
    a_L_some := f32,
    d_L_some := _,
    F_L_some := F32,
    g_L_some := PySem.W.mg_of X G a32,
    b_L_some := F32.binds (ps := ["_law_hand_here", "_law_things"]) fun _ _ _ _ _ _ us hl => match us, hl with | [_, _], _ => rfl,
    a_L_debts := f33,
    d_L_debts := _,
    F_L_debts := F33,
    g_L_debts := PySem.W.mg_of X G a33,
    b_L_debts := F33.binds (ps := ["_law_hand_here", "_law_n"]) fun _ _ _ _ _ _ us hl => match us, hl with | [_, _], _ => rfl,
    a_L_plus := f34,
    d_L_plus := _,
    F_L_plus := F34,
    g_L_plus := PySem.W.mg_of X G a34,
    b_L_plus := F34.binds (ps := ["_law_one", "_law_other"]) fun _ _ _ _ _ _ us hl => match us, hl with | [_, _], _ => rfl,
    a_L_most := f35,
    d_L_most := _,
    F_L_most := F35,
    g_L_most := PySem.W.mg_of X G a35,
    b_L_most := F35.binds (ps := ["_law_n", "_law_beats"]) fun _ _ _ _ _ _ us hl => match us, hl with | [_, _], _ => rfl,
    a_L_group := f36,
    d_L_group := _,
    F_L_group := F36,
    g_L_group := PySem.W.mg_of X G a36,
    b_L_group := F36.binds (ps := ["_law_n", "_law_bottom", "_law_beats"]) fun _ _ _ _ _ _ us hl => match us, hl with | [_, _, _], _ => rfl,
    a_L_sizes := f37,
    d_L_sizes := _,
    F_L_sizes := F37,
    g_L_sizes := PySem.W.mg_of X G a37,
    b_L_sizes := F37.binds (ps := ["_law_hand_here", "_law_bound"]) fun _ _ _ _ _ _ us hl => match us, hl with | [_, _], _ => rfl,
    a_L_hand := f38,
    d_L_hand := _,
    F_L_hand := F38,
    g_L_hand := PySem.W.mg_of X G a38,
    b_L_hand := F38.binds (ps := ["_law_script"]) fun _ _ _ _ _ _ us hl => match us, hl with | [_], _ => rfl,
    a_law := f39,
    d_law := _,
    F_law := F39,
    g_law := PySem.W.mg_of X G a39,
    b_law := F39.binds (ps := ["_law_script"]) fun _ _ _ _ _ _ us hl => match us, hl with | [_], _ => rfl,
    a_Game := x_Game,
    i_Game := z_Game,
    g_Game := PySem.W.mg_of X G z_Game,
    q_Game := ⟨pg_Game, hd_Game, po_Game, sa_Game⟩,
    n_Game_known := na_Game_known,
    n_Game_rows := na_Game_rows,
    m_Game_dealt_worth := ⟨a11, e11, k11⟩,
    m_Game_answered := ⟨a12, e12, k12⟩,
    m_Game_worth := ⟨a13, e13, k13⟩,
    k_Game := ⟨mk_Game, a16, e16, kc_Game⟩,
    m_abs := PySem.W.mg_none_of X G z_abs,
    m_all := PySem.W.mg_none_of X G z_all,
    m_bool := PySem.W.mg_none_of X G z_bool,
    m_int := PySem.W.mg_none_of X G z_int,
    m_isinstance := PySem.W.mg_none_of X G z_isinstance,
    m_len := PySem.W.mg_none_of X G z_len,
    m_list := PySem.W.mg_none_of X G z_list,
    m_min := PySem.W.mg_none_of X G z_min,
    m_range := PySem.W.mg_none_of X G z_range,
    m_sorted := PySem.W.mg_none_of X G z_sorted,
    m_sum := PySem.W.mg_none_of X G z_sum,
    m_tuple := PySem.W.mg_none_of X G z_tuple,
    m_zip := PySem.W.mg_none_of X G z_zip,
    t_MOST_BEATS := t_MOST_BEATS,
    c_MOST_BEATS := ⟨trivial, PySem.W.mg_of X G z_MOST_BEATS⟩,
    t_MOST_PARTS := t_MOST_PARTS,
    c_MOST_PARTS := ⟨trivial, PySem.W.mg_of X G z_MOST_PARTS⟩,
    t_MOST_PEOPLE := t_MOST_PEOPLE,
    c_MOST_PEOPLE := ⟨trivial, PySem.W.mg_of X G z_MOST_PEOPLE⟩,
    t_MOST_ROWS := t_MOST_ROWS,
    c_MOST_ROWS := ⟨trivial, PySem.W.mg_of X G z_MOST_ROWS⟩,
    a_NOUGHT := x_NOUGHT,
    k_NOUGHT := ⟨PySem.W.mg_of X G z_NOUGHT, ⟨_, (show SqT K (fun _ => none) x_NOUGHT [.int 0, .int 1] ∧ Rps K (fun _ => none)  [(.int 0), (.int 1)] [.int 0, .int 1] from ⟨.inr ⟨_, _, _, l_NOUGHT, rfl, rfl, by show 2 ≤ sizeLine; decide, (.cons ⟨_, rfl⟩ (.cons ⟨_, rfl⟩ .nil))⟩, (.cons (.int _) (.cons (.int _) .nil))⟩)⟩⟩,
    a_ONE := x_ONE,
    k_ONE := ⟨PySem.W.mg_of X G z_ONE, ⟨_, (show SqT K (fun _ => none) x_ONE [.int 1, .int 1] ∧ Rps K (fun _ => none)  [(.int 1), (.int 1)] [.int 1, .int 1] from ⟨.inr ⟨_, _, _, l_ONE, rfl, rfl, by show 2 ≤ sizeLine; decide, (.cons ⟨_, rfl⟩ (.cons ⟨_, rfl⟩ .nil))⟩, (.cons (.int _) (.cons (.int _) .nil))⟩)⟩⟩
  }
  exact ⟨_, fun s v => .of_eq rfl, fun base _ _ => ok_law T⟩
end Tx
open PySem PySem.W PyProof.Rows
set_option maxHeartbeats 0 in
theorem PySem.Challenge.cw_harmonicdues_k24_whole_steps_of_games_holds : PySem.Challenge.rw_harmonicdues_k24_whole_steps_of_games.Holds := by
  w_on; o_law; k_head; (case hw => w_witness2)
  k_fill
  refine DL.walk_d (l := PySem.Challenge.rw_harmonicdues_k24_whole_steps_of_games) (k := 30) (x := "_law_script") (sp := Tx.sp_law) rfl rfl ⟨rfl, by decide, by decide⟩ (fun w h Y => PySem.W.kIn_of Y) ?F (fun ns G Q h k => ⟨ns, rfl, h, k⟩)
  case F =>
    intro w mg fa h KX G hmg
    refine' Tx.all_mk KX G hmg ?z_Game ?pg_Game ?hd_Game ?po_Game ?sa_Game ?na_Game_known ?na_Game_rows ?mk_Game ?kc_Game ?a0 ?l0 ?c0 ?k0 ?a1 ?l1 ?c1 ?k1 ?a2 ?l2 ?c2 ?k2 ?a3 ?l3 ?c3 ?k3 ?a4 ?l4 ?c4 ?k4 ?a5 ?l5 ?c5 ?k5 ?a6 ?l6 ?c6 ?k6 ?a7 ?l7 ?c7 ?k7 ?a8 ?l8 ?c8 ?k8 ?a9 ?l9 ?c9 ?k9 ?a10 ?l10 ?c10 ?k10 ?a11 ?e11 ?l11 ?c11 ?k11 ?a12 ?e12 ?l12 ?c12 ?k12 ?a13 ?e13 ?l13 ?c13 ?k13 ?a14 ?l14 ?c14 ?k14 ?a15 ?l15 ?c15 ?k15 ?a16 ?e16 ?l16 ?c16 ?k16 ?a17 ?l17 ?c17 ?k17 ?a18 ?l18 ?c18 ?k18 ?a19 ?l19 ?c19 ?k19 ?a20 ?l20 ?c20 ?k20 ?a21 ?l21 ?c21 ?k21 ?a22 ?l22 ?c22 ?k22 ?a23 ?l23 ?c23 ?k23 ?a24 ?l24 ?c24 ?k24 ?a25 ?l25 ?c25 ?k25 ?a26 ?l26 ?c26 ?k26 ?a27 ?l27 ?c27 ?k27 ?a28 ?l28 ?c28 ?k28 ?a29 ?l29 ?c29 ?k29 ?a30 ?l30 ?c30 ?k30 ?a31 ?l31 ?c31 ?k31 ?a32 ?l32 ?c32 ?k32 ?a33 ?l33 ?c33 ?k33 ?a34 ?l34 ?c34 ?k34 ?a35 ?l35 ?c35 ?k35 ?a36 ?l36 ?c36 ?k36 ?a37 ?l37 ?c37 ?k37 ?a38 ?l38 ?c38 ?k38 ?a39 ?l39 ?c39 ?k39 ?z_abs ?z_all ?z_bool ?z_int ?z_isinstance ?z_len ?z_list ?z_min ?z_range ?z_sorted ?z_sum ?z_tuple ?z_zip ?z_MOST_BEATS ?z_MOST_PARTS ?z_MOST_PEOPLE ?z_MOST_ROWS ?l_NOUGHT ?z_NOUGHT ?l_ONE ?z_ONE
    (case z_Game => k_is)
    (case pg_Game => k_is)
    (case hd_Game => k_is)
    (case po_Game => k_is)
    (case sa_Game => k_is)
    (case na_Game_known => k_is)
    (case na_Game_rows => k_is)
    (case mk_Game => k_is)
    (case kc_Game => k_is)
    (case a0 => k_is)
    (case l0 => k_is)
    (case c0 => k_is)
    (case k0 => k_is)
    (case a1 => k_is)
    (case l1 => k_is)
    (case c1 => k_is)
    (case k1 => k_is)
    (case a2 => k_is)
    (case l2 => k_is)
    (case c2 => k_is)
    (case k2 => k_is)
    (case a3 => k_is)
    (case l3 => k_is)
    (case c3 => k_is)
    (case k3 => k_is)
    (case a4 => k_is)
    (case l4 => k_is)
    (case c4 => k_is)
    (case k4 => k_is)
    (case a5 => k_is)
    (case l5 => k_is)
    (case c5 => k_is)
    (case k5 => k_is)
    (case a6 => k_is)
    (case l6 => k_is)
    (case c6 => k_is)
    (case k6 => k_is)
    (case a7 => k_is)
    (case l7 => k_is)
    (case c7 => k_is)
    (case k7 => k_is)
    (case a8 => k_is)
    (case l8 => k_is)
    (case c8 => k_is)
    (case k8 => k_is)
    (case a9 => k_is)
    (case l9 => k_is)
    (case c9 => k_is)
    (case k9 => k_is)
    (case a10 => k_is)
    (case l10 => k_is)
    (case c10 => k_is)
    (case k10 => k_is)
    (case a11 => k_is)
    (case e11 => k_is)
    (case l11 => k_is)
    (case c11 => k_is)
    (case k11 => k_is)
    (case a12 => k_is)
    (case e12 => k_is)
    (case l12 => k_is)
    (case c12 => k_is)
    (case k12 => k_is)
    (case a13 => k_is)
    (case e13 => k_is)
    (case l13 => k_is)
    (case c13 => k_is)
    (case k13 => k_is)
    (case a14 => k_is)
    (case l14 => k_is)
    (case c14 => k_is)
    (case k14 => k_is)
    (case a15 => k_is)
    (case l15 => k_is)
    (case c15 => k_is)
    (case k15 => k_is)
    (case a16 => k_is)
    (case e16 => k_is)
    (case l16 => k_is)
    (case c16 => k_is)
    (case k16 => k_is)
    (case a17 => k_is)
    (case l17 => k_is)
    (case c17 => k_is)
    (case k17 => k_is)
    (case a18 => k_is)
    (case l18 => k_is)
    (case c18 => k_is)
    (case k18 => k_is)
    (case a19 => k_is)
    (case l19 => k_is)
    (case c19 => k_is)
    (case k19 => k_is)
    (case a20 => k_is)
    (case l20 => k_is)
    (case c20 => k_is)
    (case k20 => k_is)
    (case a21 => k_is)
    (case l21 => k_is)
    (case c21 => k_is)
    (case k21 => k_is)
    (case a22 => k_is)
    (case l22 => k_is)
    (case c22 => k_is)
    (case k22 => k_is)
    (case a23 => k_is)
    (case l23 => k_is)
    (case c23 => k_is)
    (case k23 => k_is)
    (case a24 => k_is)
    (case l24 => k_is)
    (case c24 => k_is)
    (case k24 => k_is)
    (case a25 => k_is)
    (case l25 => k_is)
    (case c25 => k_is)
    (case k25 => k_is)
    (case a26 => k_is)
    (case l26 => k_is)
    (case c26 => k_is)
    (case k26 => k_is)
    (case a27 => k_is)
    (case l27 => k_is)
    (case c27 => k_is)
    (case k27 => k_is)
    (case a28 => k_is)
    (case l28 => k_is)
    (case c28 => k_is)
    (case k28 => k_is)
    (case a29 => k_is)
    (case l29 => k_is)
    (case c29 => k_is)
    (case k29 => k_is)
    (case a30 => k_is)
    (case l30 => k_is)
    (case c30 => k_is)
    (case k30 => k_is)
    (case a31 => k_is)
    (case l31 => k_is)
    (case c31 => k_is)
    (case k31 => k_is)
    (case a32 => k_is)
    (case l32 => k_is)
    (case c32 => k_is)
    (case k32 => k_is)
    (case a33 => k_is)
    (case l33 => k_is)
    (case c33 => k_is)
    (case k33 => k_is)
    (case a34 => k_is)
    (case l34 => k_is)
    (case c34 => k_is)
    (case k34 => k_is)
    (case a35 => k_is)
    (case l35 => k_is)
    (case c35 => k_is)
    (case k35 => k_is)
    (case a36 => k_is)
    (case l36 => k_is)
    (case c36 => k_is)
    (case k36 => k_is)
    (case a37 => k_is)
    (case l37 => k_is)
    (case c37 => k_is)
    (case k37 => k_is)
    (case a38 => k_is)
    (case l38 => k_is)
    (case c38 => k_is)
    (case k38 => k_is)
    (case a39 => k_is)
    (case l39 => k_is)
    (case c39 => k_is)
    (case k39 => k_is)
    (case z_abs => k_is)
    (case z_all => k_is)
    (case z_bool => k_is)
    (case z_int => k_is)
    (case z_isinstance => k_is)
    (case z_len => k_is)
    (case z_list => k_is)
    (case z_min => k_is)
    (case z_range => k_is)
    (case z_sorted => k_is)
    (case z_sum => k_is)
    (case z_tuple => k_is)
    (case z_zip => k_is)
    (case z_MOST_BEATS => k_is)
    (case z_MOST_PARTS => k_is)
    (case z_MOST_PEOPLE => k_is)
    (case z_MOST_ROWS => k_is)
    (case z_NOUGHT => k_is)
    (case l_NOUGHT => k_is)
    (case z_ONE => k_is)
    (case l_ONE => k_is)
