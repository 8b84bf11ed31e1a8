import PyProof.Rows.All
import Wide.All
import OpenK.AllK
import Wide.FinOn
import HandS.ForMost
import HandS.ForExc
import HandS.NoneIn
import HandS.Style
import HandS.Defaults
import HandS.IsInst
import HandS.TupAny
import HandS.Zip
import HandS.DictComp
import KE.GoesSet
import HandS.SetTxt0
import HandS.Strs
import HandS.Iter
import KE.GoesEnum
import PyProof.DictUpdate
import PyProof.DictDisplay
import KE.KDictPairs
import HandS.ListEq
import HandS.DeepEq
import PyProof.NeKinds
import KE.SortCalls
import KE.SortKeyed
import KE.SortData
import HandS.ExcInit
import HandS.ExcField
import HandS.ExcIs
import HandS.ExcOwn
import KE.KExcIs
import HandS.Lambda
import HandS.HeadHook4
import HandS.HeadWalk
import KE.KDictZip
import HandS.Head0
import HandS.Head1
import HandS.Head2
import HandS.HeadEnd
import HandS.HeadHook1
import HandS.HeadHook2
import HandS.HeadHook3
import PySem.Challenge.RW_partkeys_k58_sure_teams_at_a_thousand
set_option Elab.async false
set_option linter.all false
set_option maxRecDepth 100000
set_option maxHeartbeats 1000000
/-! DL1: data with tuples as plain values; what it means over the hand layer's heap; readings lifted. -/
namespace L2.DL
open PySem PySem.Spec PyProof.Rows

/-! ### data -/
abbrev NK := Option Key
inductive D where
  | non | bl (b : Bool) | int (i : Int) | str (x : Str) | tup (xs : List D) | ref (a : Addr)

def NK.d : NK → D
  | none => .non
  | some (.inl i) => .int i
  | some (.inr x) => .str x
def D.key : D → Option NK
  | .non => some none
  | .int i => some (some (.inl i))
  | .str x => some (some (.inr x))
  | _ => none
def NK.v : NK → V
  | none => .non
  | some (.inl i) => .int i
  | some (.inr x) => .str x

mutual
def D.eqb : D → D → Bool
  | .non, .non => true
  | .bl a, .bl b => a == b
  | .int a, .int b => decide (a = b)
  | .str a, .str b => decide (a = b)
  | .tup xs, .tup ys => D.eqbs xs ys
  | .ref a, .ref b => decide (a = b)
  | _, _ => false
def D.eqbs : List D → List D → Bool
  | [], [] => true
  | x :: xs, y :: ys => D.eqb x y && D.eqbs xs ys
  | _, _ => false
end
mutual
theorem D.eqb_iff : ∀ d e : D, D.eqb d e = true ↔ d = e
  | .non, e => by cases e <;> simp [D.eqb]
  | .bl a, e => by cases e <;> simp [D.eqb]
  | .int a, e => by cases e <;> simp [D.eqb]
  | .str a, e => by cases e <;> simp [D.eqb]
  | .ref a, e => by cases e <;> simp [D.eqb]
  | .tup xs, e => by
    cases e with
    | tup ys => simp [D.eqb, D.eqbs_iff xs ys]
    | _ => simp [D.eqb]
theorem D.eqbs_iff : ∀ xs ys : List D, D.eqbs xs ys = true ↔ xs = ys
  | [], ys => by cases ys <;> simp [D.eqbs]
  | x :: xs, ys => by
    cases ys with
    | nil => simp [D.eqbs]
    | cons y ys => simp [D.eqbs, D.eqb_iff x y, D.eqbs_iff xs ys]
end
instance : DecidableEq D := fun d e => if h : D.eqb d e = true then isTrue ((D.eqb_iff d e).mp h) else isFalse fun q => h ((D.eqb_iff d e).mpr q)

/-! ### the world of a reading -/
structure Wd where
  P : Program
  w : World
  K : PySem.W.Frag
abbrev wd (X : Cx) : Wd := ⟨X.prog, X.w, X.K⟩

mutual
/-- v stands for d -/
def Rp (K : PySem.W.Frag) (H : Hp) : D → V → Prop
  | .non, v => v = .non
  | .bl b, v => v = .bl b
  | .int i, v => v = .int i
  | .str x, v => v = .str x
  | .ref a, v => v = .ref a
  | .tup xs, v => ∃ a vs, v = .ref a ∧ SqT K H a vs ∧ RpL K H xs vs
def RpL (K : PySem.W.Frag) (H : Hp) : List D → List V → Prop
  | [], vs => vs = []
  | x :: xs, vs => ∃ v r, vs = v :: r ∧ Rp K H x v ∧ RpL K H xs r
end

/-- what never changes: tuples, frozen things -/
structure Ext (H H' : Hp) : Prop where
  tup : ∀ b xs, H b = some (.tup xs) → H' b = some (.tup xs)
  frz : ∀ b o u, H b = some (.frz o u) → H' b = some (.frz o u)
theorem Ext.refl (H : Hp) : Ext H H := ⟨fun _ _ h => h, fun _ _ _ h => h⟩
theorem Ext.trans {H H1 H2 : Hp} (a : Ext H H1) (b : Ext H1 H2) : Ext H H2 := ⟨fun c xs h => b.tup c xs (a.tup c xs h), fun c o u h => b.frz c o u (a.frz c o u h)⟩
theorem Ext.new {H : Hp} {p : Addr} {o : HO} (h : H p = none) : Ext H (upd H p o) :=
  ⟨fun b xs e => by rw [upd_ne (ne_of_none e h)]; exact e, fun b u x e => by rw [upd_ne (ne_of_none e h)]; exact e⟩
/-- an object that is neither a tuple nor frozen is written -/
theorem Ext.put {H : Hp} {p : Addr} {u o : HO} (h : H p = some u) (h1 : ∀ xs, u ≠ .tup xs) (h2 : ∀ a x, u ≠ .frz a x) : Ext H (upd H p o) :=
  ⟨fun b xs e => by rw [upd_ne (ne_of e h fun z => h1 xs z.symm)]; exact e, fun b a x e => by rw [upd_ne (ne_of e h fun z => h2 a x z.symm)]; exact e⟩
theorem SqT.ext {K : PySem.W.Frag} {H H' : Hp} {a : Addr} {xs : List V} (h : SqT K H a xs) (e : Ext H H') : SqT K H' a xs := by
  rcases h with (h | ⟨o, h⟩) | h
  · exact .inl (.inl (e.tup _ _ h))
  · exact .inl (.inr ⟨o, e.frz _ _ _ h⟩)
  · exact .inr h
mutual
theorem Rp.ext {K : PySem.W.Frag} {H H' : Hp} (e : Ext H H') : ∀ {d : D} {v : V}, Rp K H d v → Rp K H' d v
  | .non, _, h => h
  | .bl _, _, h => h
  | .int _, _, h => h
  | .str _, _, h => h
  | .ref _, _, h => h
  | .tup xs, _, h => by
    obtain ⟨a, vs, e1, e2, e3⟩ := h
    exact ⟨a, vs, e1, SqT.ext e2 e, RpL.ext e e3⟩
theorem RpL.ext {K : PySem.W.Frag} {H H' : Hp} (e : Ext H H') : ∀ {ds : List D} {vs : List V}, RpL K H ds vs → RpL K H' ds vs
  | [], _, h => h
  | _ :: _, _, h => by
    obtain ⟨v, r, e1, e2, e3⟩ := h
    exact ⟨v, r, e1, Rp.ext e e2, RpL.ext e e3⟩
end
section
variable {K : PySem.W.Frag} {H : Hp}
theorem RpL.nil : RpL K H [] [] := rfl
theorem RpL.cons {d : D} {ds : List D} {v : V} {vs : List V} (h : Rp K H d v) (t : RpL K H ds vs) : RpL K H (d :: ds) (v :: vs) := ⟨v, vs, rfl, h, t⟩
theorem RpL.len : ∀ {ds : List D} {vs : List V}, RpL K H ds vs → ds.length = vs.length
  | [], _, h => by cases h; rfl
  | _ :: _, _, h => by obtain ⟨v, r, e1, _, e3⟩ := h; subst e1; simp [RpL.len e3]
theorem RpL.get : ∀ {ds : List D} {vs : List V} {i : Nat} {d : D}, RpL K H ds vs → ds[i]? = some d → ∃ v, vs[i]? = some v ∧ Rp K H d v
  | [], _, _, _, _, e => by simp at e
  | _ :: _, _, 0, _, h, e => by
    obtain ⟨v, r, e1, e2, _⟩ := h
    simp at e; subst e; subst e1
    exact ⟨v, rfl, e2⟩
  | _ :: _, _, i + 1, _, h, e => by
    obtain ⟨v, r, e1, _, e3⟩ := h
    subst e1
    obtain ⟨u, h1, h2⟩ := RpL.get (i := i) e3 (by simpa using e)
    exact ⟨u, by simpa using h1, h2⟩
theorem RpL.app : ∀ {ds es : List D} {vs us : List V}, RpL K H ds vs → RpL K H es us → RpL K H (ds ++ es) (vs ++ us)
  | [], _, _, _, h, k => by cases h; exact k
  | _ :: _, _, _, _, h, k => by
    obtain ⟨v, r, e1, e2, e3⟩ := h
    subst e1
    exact ⟨v, _, rfl, e2, RpL.app e3 k⟩
theorem RpL.snoc {ds : List D} {vs : List V} {d : D} {v : V} (h : RpL K H ds vs) (k : Rp K H d v) : RpL K H (ds ++ [d]) (vs ++ [v]) := RpL.app h (RpL.cons k RpL.nil)
theorem RpL.take : ∀ {ds : List D} {vs : List V} (n : Nat), RpL K H ds vs → RpL K H (ds.take n) (vs.take n)
  | _, _, 0, _ => by simp [RpL]
  | [], _, _ + 1, h => by cases h; simp [RpL]
  | _ :: _, _, n + 1, h => by
    obtain ⟨v, r, e1, e2, e3⟩ := h
    subst e1
    exact ⟨v, _, rfl, e2, RpL.take n e3⟩
theorem RpL.drop : ∀ {ds : List D} {vs : List V} (n : Nat), RpL K H ds vs → RpL K H (ds.drop n) (vs.drop n)
  | _, _, 0, h => by simpa using h
  | [], _, _ + 1, h => by cases h; simp [RpL]
  | _ :: _, _, n + 1, h => by
    obtain ⟨v, r, e1, e2, e3⟩ := h
    subst e1
    simpa using RpL.drop n e3
theorem RpL.set : ∀ {ds : List D} {vs : List V} (i : Nat) {d : D} {v : V}, RpL K H ds vs → Rp K H d v → RpL K H (ds.set i d) (vs.set i v)
  | [], _, _, _, _, h, _ => by cases h; simp [RpL]
  | _ :: _, _, 0, _, _, h, k => by
    obtain ⟨v, r, e1, e2, e3⟩ := h
    subst e1
    exact ⟨_, _, rfl, k, e3⟩
  | _ :: _, _, i + 1, _, _, h, k => by
    obtain ⟨v, r, e1, e2, e3⟩ := h
    subst e1
    exact ⟨_, _, rfl, e2, RpL.set i e3 k⟩
theorem RpL.rev : ∀ {ds : List D} {vs : List V}, RpL K H ds vs → RpL K H ds.reverse vs.reverse
  | [], _, h => by cases h; simp [RpL]
  | _ :: _, _, h => by
    obtain ⟨v, r, e1, e2, e3⟩ := h
    subst e1
    simp only [List.reverse_cons]
    exact RpL.snoc (RpL.rev e3) e2
theorem RpL.erase : ∀ {ds : List D} {vs : List V} (i : Nat), RpL K H ds vs → RpL K H (ds.eraseIdx i) (vs.eraseIdx i)
  | [], _, _, h => by cases h; simp [RpL]
  | _ :: _, _, 0, h => by
    obtain ⟨v, r, e1, e2, e3⟩ := h
    subst e1
    simpa using e3
  | _ :: _, _, i + 1, h => by
    obtain ⟨v, r, e1, e2, e3⟩ := h
    subst e1
    exact ⟨_, _, rfl, e2, RpL.erase i e3⟩
theorem RpL.ints {ns : List Int} {vs : List V} (h : RpL K H (ns.map D.int) vs) : vs = ns.map V.int := by
  induction ns generalizing vs with
  | nil => exact h
  | cons n ns ih =>
    obtain ⟨v, r, e1, e2, e3⟩ := h
    rw [e1, e2, ih e3]; rfl
theorem RpL.ofInts (ns : List Int) : RpL K H (ns.map D.int) (ns.map V.int) := by
  induction ns with
  | nil => exact RpL.nil
  | cons n ns ih => exact RpL.cons rfl ih
theorem RpL.strs {ns : List Str} {vs : List V} (h : RpL K H (ns.map D.str) vs) : vs = ns.map V.str := by
  induction ns generalizing vs with
  | nil => exact h
  | cons n ns ih =>
    obtain ⟨v, r, e1, e2, e3⟩ := h
    rw [e1, e2, ih e3]; rfl
theorem RpL.ofStrs (ns : List Str) : RpL K H (ns.map D.str) (ns.map V.str) := by
  induction ns with
  | nil => exact RpL.nil
  | cons n ns ih => exact RpL.cons rfl ih
theorem RpL.bls {ns : List Bool} {vs : List V} (h : RpL K H (ns.map D.bl) vs) : vs = ns.map V.bl := by
  induction ns generalizing vs with
  | nil => exact h
  | cons n ns ih =>
    obtain ⟨v, r, e1, e2, e3⟩ := h
    rw [e1, e2, ih e3]; rfl
theorem rp_key {d : D} {k : NK} {v : V} (h : Rp K H d v) (e : d.key = some k) : v = NK.v k := by
  cases d with
  | non => cases e; exact h
  | int i => cases e; exact h
  | str x => cases e; exact h
  | _ => cases e
end

/-! ### objects -/
inductive DO where
  /-- a list -/
  | lst (xs : List D)
  /-- a list that is only read -/
  | rol (xs : List D)
  | dic (kvs : List (NK × D))
  | ins (C : Addr) (fs : List (Str × D))
  /-- the fields of an exception -/
  | xds (fs : List (Str × D))
  /-- anything the hand layer tells, as it tells it -/
  | raw (o : HO)
abbrev DH := Addr → Option DO
def dup (G : DH) (a : Addr) (o : DO) : DH := fun b => if b = a then some o else G b
theorem dup_same {G : DH} {a : Addr} {o : DO} : dup G a o a = some o := by unfold dup; rw [if_pos rfl]
theorem dup_ne {G : DH} {a b : Addr} {o : DO} (h : b ≠ a) : dup G a o b = G b := by unfold dup; rw [if_neg h]
theorem dup_dup {G : DH} {a : Addr} {o u : DO} : dup (dup G a o) a u = dup G a u := by
  funext b; unfold dup; split <;> rfl
theorem dup_none {G : DH} {a b : Addr} {o : DO} : dup G a o b = none ↔ b ≠ a ∧ G b = none := by
  unfold dup; split <;> simp_all
theorem dup_swap {G : DH} {a b : Addr} {o u : DO} (h : a ≠ b) : dup (dup G a o) b u = dup (dup G b u) a o := by
  funext c; unfold dup; split <;> split <;> simp_all
theorem dup_self {G : DH} {a : Addr} {o : DO} (h : G a = some o) : dup G a o = G := by
  funext c; unfold dup; split
  · rename_i e; rw [e, h]
  · rfl

/-- the object of a dict whose keys are None, ints, texts -/
def DicN (Y : Wd) (a : Addr) (kws : List (NK × V)) : HO := .ext fun h => kws.length ≤ sizeLine ∧ (a == sysModules) = false ∧ ∃ vs, KV kws vs ∧ h.DictOf (noneKind Y.P Y.w) a vs

def RpKV (K : PySem.W.Frag) (H : Hp) : List (NK × D) → List (NK × V) → Prop := Paired fun p q => p.1 = q.1 ∧ Rp K H p.2 q.2
def RpFs (K : PySem.W.Frag) (H : Hp) (fs : List (Str × D)) (vs : List (Str × V)) : Prop := fs.map (·.1) = vs.map (·.1) ∧ RpL K H (fs.map (·.2)) (vs.map (·.2))

def ORep (Y : Wd) (H : Hp) (a : Addr) : DO → Prop
  | .lst xs => ∃ vs, H a = some (.lst vs) ∧ RpL Y.K H xs vs
  | .rol xs => ∃ o vs, H a = some (.frz o (.lst vs)) ∧ RpL Y.K H xs vs
  | .dic kvs => ∃ kws, H a = some (DicN Y a kws) ∧ RpKV Y.K H kvs kws
  | .ins C fs => ∃ dx vs, H a = some (.ins C dx vs) ∧ RpFs Y.K H fs vs
  | .xds fs => ∃ vs, H a = some (.xd vs) ∧ RpFs Y.K H fs vs
  | .raw o => H a = some o
def HRep (Y : Wd) (H : Hp) (G : DH) : Prop := ∀ a o, G a = some o → ORep Y H a o
theorem RpKV.ext {K : PySem.W.Frag} {H H' : Hp} (e : Ext H H') {kvs : List (NK × D)} {kws : List (NK × V)} (h : RpKV K H kvs kws) : RpKV K H' kvs kws := Paired.mapP h fun _ _ z => ⟨z.1, z.2.ext e⟩
theorem RpFs.ext {K : PySem.W.Frag} {H H' : Hp} (e : Ext H H') {kvs : List (Str × D)} {kws : List (Str × V)} (h : RpFs K H kvs kws) : RpFs K H' kvs kws := ⟨h.1, h.2.ext e⟩
theorem ORep.at_ {Y : Wd} {H H' : Hp} {a : Addr} {o : DO} (h : ORep Y H a o) (e : Ext H H') (k : H' a = H a) : ORep Y H' a o := by
  cases o with
  | lst xs => obtain ⟨vs, h1, h2⟩ := h; exact ⟨vs, k.trans h1, h2.ext e⟩
  | rol xs => obtain ⟨o, vs, h1, h2⟩ := h; exact ⟨o, vs, k.trans h1, h2.ext e⟩
  | dic kvs => obtain ⟨kws, h1, h2⟩ := h; exact ⟨kws, k.trans h1, h2.ext e⟩
  | ins C fs => obtain ⟨dx, vs, h1, h2⟩ := h; exact ⟨dx, vs, k.trans h1, h2.ext e⟩
  | xds fs => obtain ⟨vs, h1, h2⟩ := h; exact ⟨vs, k.trans h1, h2.ext e⟩
  | raw u => exact k.trans h
theorem ORep.some_ {Y : Wd} {H : Hp} {a : Addr} {o : DO} (h : ORep Y H a o) : ∃ u, H a = some u := by
  cases o with
  | lst xs => obtain ⟨vs, h1, _⟩ := h; exact ⟨_, h1⟩
  | rol xs => obtain ⟨o, vs, h1, _⟩ := h; exact ⟨_, h1⟩
  | dic kvs => obtain ⟨kws, h1, _⟩ := h; exact ⟨_, h1⟩
  | ins C fs => obtain ⟨dx, vs, h1, _⟩ := h; exact ⟨_, h1⟩
  | xds fs => obtain ⟨vs, h1, _⟩ := h; exact ⟨_, h1⟩
  | raw u => exact ⟨_, h⟩
theorem HRep.free {Y : Wd} {H : Hp} {G : DH} (h : HRep Y H G) {p : Addr} (e : H p = none) : G p = none := by
  cases q : G p with
  | none => rfl
  | some o =>
    obtain ⟨u, z⟩ := (h p o q).some_
    rw [e] at z; cases z
/-- a new object that the data layer does not track -/
theorem HRep.hid {Y : Wd} {H : Hp} {G : DH} (h : HRep Y H G) {p : Addr} {o : HO} (e : H p = none) : HRep Y (upd H p o) G := fun a u q => by
  refine (h a u q).at_ (Ext.new e) (upd_ne fun z => ?_)
  rw [z, h.free e] at q; cases q
/-- a new object that it tracks -/
theorem HRep.new {Y : Wd} {H : Hp} {G : DH} (h : HRep Y H G) {p : Addr} {o : HO} {u : DO} (e : H p = none) (r : ORep Y (upd H p o) p u) : HRep Y (upd H p o) (dup G p u) := fun a z q => by
  by_cases c : a = p
  · rw [c, dup_same] at q; cases q; rw [c]; exact r
  · rw [dup_ne c] at q
    exact (h a z q).at_ (Ext.new e) (upd_ne c)
/-- an object that it tracks is written -/
theorem HRep.put {Y : Wd} {H : Hp} {G : DH} (h : HRep Y H G) {p : Addr} {o : HO} {u : DO} (x : Ext H (upd H p o)) (r : ORep Y (upd H p o) p u) : HRep Y (upd H p o) (dup G p u) := fun a z q => by
  by_cases c : a = p
  · rw [c, dup_same] at q; cases q; rw [c]; exact r
  · rw [dup_ne c] at q
    exact (h a z q).at_ x (upd_ne c)
/-- less is known -/
def DLe (G G' : DH) : Prop := ∀ a o, G a = some o → G' a = some o
theorem DLe.refl (G : DH) : DLe G G := fun _ _ h => h
theorem DLe.trans {G G1 G2 : DH} (a : DLe G G1) (b : DLe G1 G2) : DLe G G2 := fun c o h => b c o (a c o h)
theorem DLe.new {G : DH} {p : Addr} {o : DO} (h : G p = none) : DLe G (dup G p o) := fun a u e => by
  rw [dup_ne fun z => by rw [z, h] at e; cases e]; exact e
theorem DLe.up {G G' : DH} {p : Addr} {o : DO} (h : DLe G G') (e : G p = none) : DLe G (dup G' p o) := fun a u q => by
  rw [dup_ne fun z => by rw [z, e] at q; cases q]; exact h a u q
theorem DLe.both {G G' : DH} {p : Addr} {o : DO} (h : DLe G G') : DLe (dup G p o) (dup G' p o) := fun a u q => by
  by_cases c : a = p
  · rw [c, dup_same] at q; rw [c, dup_same]; exact q
  · rw [dup_ne c] at q; rw [dup_ne c]; exact h a u q
theorem HRep.less {Y : Wd} {H : Hp} {G G' : DH} (h : HRep Y H G') (l : DLe G G') : HRep Y H G := fun a o q => h a o (l a o q)

/-! ### slots -/
abbrev DSt := List (Option D)
def SRep (K : PySem.W.Frag) (H : Hp) (σ : St) (τ : DSt) : Prop := τ.length = σ.length ∧ ∀ (i : Nat) (d : D), τ[i]? = some (some d) → ∃ v, σ[i]? = some (some v) ∧ Rp K H d v
theorem SRep.ext {K : PySem.W.Frag} {H H' : Hp} {σ : St} {τ : DSt} (h : SRep K H σ τ) (e : Ext H H') : SRep K H' σ τ := ⟨h.1, fun i d q => by
  obtain ⟨v, h1, h2⟩ := h.2 i d q
  exact ⟨v, h1, h2.ext e⟩⟩
theorem SRep.set {K : PySem.W.Frag} {H : Hp} {σ : St} {τ : DSt} (h : SRep K H σ τ) (j : Nat) {d : D} {v : V} (r : Rp K H d v) : SRep K H (σ.set j (some v)) (τ.set j (some d)) := by
  refine ⟨by simpa using h.1, fun i e q => ?_⟩
  by_cases c : j = i
  · subst c
    by_cases hj : j < τ.length
    · rw [List.getElem?_set_self hj] at q
      cases q
      exact ⟨v, List.getElem?_set_self (by rw [← h.1]; exact hj), r⟩
    · rw [List.getElem?_eq_none (by simpa using hj)] at q; cases q
  · rw [List.getElem?_set_ne c] at q
    rw [List.getElem?_set_ne c]
    exact h.2 i e q
end L2.DL

set_option Elab.async false
set_option linter.all false
set_option maxRecDepth 100000
set_option maxHeartbeats 1000000
/-! DL2: the readings lifted; expressions, tests, operators. -/
namespace L2.DL
open PySem PySem.Spec PyProof.Rows

abbrev DVK := D → DH → Prop
abbrev DBK := Bool → DH → Prop
abbrev DLK := List D → DH → Prop
abbrev DE := DSt → DH → DVK → Prop
abbrev DT := DSt → DH → DBK → Prop
abbrev DA := DSt → DH → DLK → Prop

def KV1 (Y : Wd) (H : Hp) (Q' : DVK) (Q : VK) : Prop := ∀ d G v H', Q' d G → Ext H H' → HRep Y H' G → Rp Y.K H' d v → Q v H'
def KB1 (Y : Wd) (H : Hp) (Q' : DBK) (Q : Bool → Hp → Prop) : Prop := ∀ b G H', Q' b G → Ext H H' → HRep Y H' G → Q b H'
def KL1 (Y : Wd) (H : Hp) (Q' : DLK) (Q : List V → Hp → Prop) : Prop := ∀ d G v H', Q' d G → Ext H H' → HRep Y H' G → RpL Y.K H' d v → Q v H'
def lE (Y : Wd) (t : DE) : TE := fun σ H Q => ∃ τ G Q', SRep Y.K H σ τ ∧ HRep Y H G ∧ t τ G Q' ∧ KV1 Y H Q' Q
def lT (Y : Wd) (t : DT) : TT := fun σ H Q => ∃ τ G Q', SRep Y.K H σ τ ∧ HRep Y H G ∧ t τ G Q' ∧ KB1 Y H Q' Q
def lA (Y : Wd) (t : DA) : TA := fun σ H Q => ∃ τ G Q', SRep Y.K H σ τ ∧ HRep Y H G ∧ t τ G Q' ∧ KL1 Y H Q' Q
theorem KV1.ext {Y : Wd} {H H1 : Hp} {Q' : DVK} {Q : VK} (k : KV1 Y H Q' Q) (x : Ext H H1) : KV1 Y H1 Q' Q := fun d G v H' q e r p => k d G v H' q (x.trans e) r p
theorem KB1.ext {Y : Wd} {H H1 : Hp} {Q' : DBK} {Q : Bool → Hp → Prop} (k : KB1 Y H Q' Q) (x : Ext H H1) : KB1 Y H1 Q' Q := fun d G H' q e r => k d G H' q (x.trans e) r
theorem KL1.ext {Y : Wd} {H H1 : Hp} {Q' : DLK} {Q : List V → Hp → Prop} (k : KL1 Y H Q' Q) (x : Ext H H1) : KL1 Y H1 Q' Q := fun d G v H' q e r p => k d G v H' q (x.trans e) r p
theorem KV1.here {Y : Wd} {H : Hp} {G : DH} {Q' : DVK} {Q : VK} {d : D} {v : V} (k : KV1 Y H Q' Q) (q : Q' d G) (r : HRep Y H G) (p : Rp Y.K H d v) : Q v H := k d G v H q (.refl H) r p
theorem KB1.here {Y : Wd} {H : Hp} {G : DH} {Q' : DBK} {Q : Bool → Hp → Prop} {d : Bool} (k : KB1 Y H Q' Q) (q : Q' d G) (r : HRep Y H G) : Q d H := k d G H q (.refl H) r

theorem _root_.L2.PE.weak {X : Cx} {e : Expr} {t u : TE} (h : PE X e t) (w : ∀ σ H Q, u σ H Q → t σ H Q) : PE X e u := ⟨fun pins s σ H Q I hw => h.run pins s σ H Q I (w _ _ _ hw)⟩
theorem _root_.L2.PT.weak {X : Cx} {e : Expr} {t u : TT} (h : PT X e t) (w : ∀ σ H Q, u σ H Q → t σ H Q) : PT X e u := ⟨fun pins s σ H Q I hw => h.run pins s σ H Q I (w _ _ _ hw)⟩
theorem _root_.L2.PW.weak {X : Cx} {e : Expr} {t u : TT} (h : PW X e t) (w : ∀ σ H Q, u σ H Q → t σ H Q) : PW X e u := ⟨fun wh pins s σ H Q I hw => h.run wh pins s σ H Q I (w _ _ _ hw)⟩
theorem _root_.L2.PA.weak {X : Cx} {e : List Expr} {t u : TA} (h : PA X e t) (w : ∀ σ H Q, u σ H Q → t σ H Q) : PA X e u := ⟨fun p pins s σ H Q I hw => h.run p pins s σ H Q I (w _ _ _ hw)⟩

section
variable {X : Cx} {pos : Pos}
/-! ### names, constants -/
def dVar (i : Nat) : DE := fun τ G Q => match τ[i]? with | some (some d) => Q d G | _ => False
def dC (d : D) : DE := fun _ G Q => Q d G
theorem lE_var {Y : Wd} {i : Nat} {σ : St} {H : Hp} {Q : VK} (h : lE Y (dVar i) σ H Q) : tVar i σ H Q := by
  obtain ⟨τ, G, Q', sr, hr, t, k⟩ := h
  unfold dVar at t
  split at t
  · rename_i d e
    obtain ⟨v, e1, e2⟩ := sr.2 i d e
    exact ⟨v, e1, k.here t hr e2⟩
  · exact t.elim
theorem E_var {e : Expr} {i : Nat} (h : PE X e (tVar i)) : PE X e (lE (wd X) (dVar i)) := h.weak fun _ _ _ q => lE_var q
theorem lE_c {Y : Wd} {d : D} {v : V} {σ : St} {H : Hp} {Q : VK} (r : ∀ H, Rp Y.K H d v) (h : lE Y (dC d) σ H Q) : tC v σ H Q := by
  obtain ⟨τ, G, Q', sr, hr, t, k⟩ := h
  exact k.here t hr (r H)
theorem E_int {i j} : PE X (.Constant (.int i) j pos) (lE (wd X) (dC (.int i))) := pe_int.weak fun _ _ _ q => lE_c (d := .int i) (v := .int i) (fun _ => rfl) q
theorem E_bl {b j} : PE X (.Constant (.bool b) j pos) (lE (wd X) (dC (.bl b))) := pe_bl.weak fun _ _ _ q => lE_c (d := .bl b) (v := .bl b) (fun _ => rfl) q
theorem E_non {j} : PE X (.Constant .none j pos) (lE (wd X) (dC .non)) := pe_non.weak fun _ _ _ q => lE_c (d := .non) (v := .non) (fun _ => rfl) q
theorem E_str {x j} : PE X (.Constant (.str x) j pos) (lE (wd X) (dC (.str x))) := pe_str.weak fun _ _ _ q => lE_c (d := .str x) (v := .str x) (fun _ => rfl) q
/-- a module's constant: a text, an int -/
theorem E_gS {x z : Str} (hg : Gl X x) (hm : ∃ t, X.mg x = some (.str z t)) (hd : (x == ("__debug__" : Str)) = false := by decide) : PE X (.Name x pos) (lE (wd X) (dC (.str z))) :=
  hm.elim fun t e => (pe_glob (v := .str z) hg e ⟨t, rfl⟩ hd).weak fun _ _ _ q => lE_c (d := .str z) (v := .str z) (fun _ => rfl) q
theorem E_gI {x : Str} {z : Int} (hg : Gl X x) (hm : ∃ t, X.mg x = some (.int z t)) (hd : (x == ("__debug__" : Str)) = false := by decide) : PE X (.Name x pos) (lE (wd X) (dC (.int z))) :=
  hm.elim fun t e => (pe_glob (v := .int z) hg e ⟨t, rfl⟩ hd).weak fun _ _ _ q => lE_c (d := .int z) (v := .int z) (fun _ => rfl) q

/-! ### operators by values -/
abbrev DR2 := D → D → DH → DVK → Prop
def lR (Y : Wd) (r : DR2) : R2 := fun x y H Q => ∃ d e G Q', Rp Y.K H d x ∧ Rp Y.K H e y ∧ HRep Y H G ∧ r d e G Q' ∧ KV1 Y H Q' Q
abbrev OpD (X : Cx) (f : Value → Value → Sem Value) (r : DR2) : Prop := OpR X f (lR (wd X) r)
def dOp (r : DR2) (ta tb : DE) : DE := fun τ G Q => ta τ G fun x G1 => tb τ G1 fun y G2 => r x y G2 Q
theorem lE_op {Y : Wd} {r : DR2} {ta tb : DE} {σ : St} {H : Hp} {Q : VK} (h : lE Y (dOp r ta tb) σ H Q) : tOp (lR Y r) (lE Y ta) (lE Y tb) σ H Q := by
  obtain ⟨τ, G, Q', sr, hr, t, k⟩ := h
  exact ⟨τ, G, _, sr, hr, t, fun d1 G1 v1 H1 q1 x1 r1 p1 => ⟨τ, G1, _, sr.ext x1, r1, q1, fun d2 G2 v2 H2 q2 x2 r2 p2 => ⟨d1, d2, G2, Q', p1.ext x2, p2, r2, q2, k.ext (x1.trans x2)⟩⟩⟩
variable {a b c : Expr} {ta tb tc : DE}
theorem E_op {op : Operator} {r : DR2} (ho : OpD X (binaryOp op) r) (ha : PE X a (lE (wd X) ta)) (hb : PE X b (lE (wd X) tb)) : PE X (.BinOp a op b pos) (lE (wd X) (dOp r ta tb)) := (pe_op ho ha hb).weak fun _ _ _ q => lE_op q
def lU (Y : Wd) (r : D → DH → DVK → Prop) : V → Hp → VK → Prop := fun x H Q => ∃ d G Q', Rp Y.K H d x ∧ HRep Y H G ∧ r d G Q' ∧ KV1 Y H Q' Q
def dUn (r : D → DH → DVK → Prop) (ta : DE) : DE := fun τ G Q => ta τ G fun x G1 => r x G1 Q
theorem lE_un {Y : Wd} {r : D → DH → DVK → Prop} {ta : DE} {σ : St} {H : Hp} {Q : VK} (h : lE Y (dUn r ta) σ H Q) : tUn (lU Y r) (lE Y ta) σ H Q := by
  obtain ⟨τ, G, Q', sr, hr, t, k⟩ := h
  exact ⟨τ, G, _, sr, hr, t, fun d1 G1 v1 H1 q1 x1 r1 p1 => ⟨d1, G1, Q', p1, r1, q1, k.ext x1⟩⟩
theorem E_un {op : UnaryOp} {r : D → DH → DVK → Prop} (ho : UnR X (unaryOp op) (lU (wd X) r)) (ha : PE X a (lE (wd X) ta)) : PE X (.UnaryOp op a pos) (lE (wd X) (dUn r ta)) := (pe_un ho ha).weak fun _ _ _ q => lE_un q
theorem E_cmp {op : CmpOp} {r : DR2} (ho : OpD X (compareOp op) r) (ha : PE X a (lE (wd X) ta)) (hb : PE X b (lE (wd X) tb)) (hm : behindInMarks op b = false) : PE X (.Compare a [op] [b] pos) (lE (wd X) (dOp r ta tb)) :=
  (pe_cmpR ho ha hb hm).weak fun _ _ _ q => lE_op q
/-- a reading of a value as a test -/
def dTest (t : DE) : DT := fun τ G Q => t τ G fun d G1 => match d with | .bl k => Q k G1 | _ => False
theorem lT_test {Y : Wd} {t : DE} {u : TE} (hu : ∀ σ H Q, lE Y t σ H Q → u σ H Q) {σ : St} {H : Hp} {Q : Bool → Hp → Prop} (h : lT Y (dTest t) σ H Q) : tTest u σ H Q := by
  obtain ⟨τ, G, Q', sr, hr, q, k⟩ := h
  refine hu _ _ _ ⟨τ, G, _, sr, hr, q, fun d G1 v H1 q1 x1 r1 p1 => ?_⟩
  cases d with
  | bl b => exact ⟨b, p1, k b G1 H1 q1 x1 r1⟩
  | _ => exact q1.elim
theorem T_cmp {op : CmpOp} {r : DR2} (ho : OpD X (compareOp op) r) (ha : PE X a (lE (wd X) ta)) (hb : PE X b (lE (wd X) tb)) (hm : behindInMarks op b = false) : PT X (.Compare a [op] [b] pos) (lT (wd X) (dTest (dOp r ta tb))) :=
  (pt_cmpR ho ha hb hm).weak fun _ _ _ q => lT_test (fun _ _ _ q => lE_op q) q
def dChain (r r' : DR2) (ta tb tc : DE) : DE := fun τ G Q => ta τ G fun x G1 => tb τ G1 fun y G2 => r x y G2 fun z G3 => match z with
  | .bl true => tc τ G3 fun w G4 => r' y w G4 Q
  | .bl false => Q (.bl false) G3
  | _ => False
theorem lE_chain {Y : Wd} {r r' : DR2} {σ : St} {H : Hp} {Q : VK} (h : lE Y (dChain r r' ta tb tc) σ H Q) : tChain (lR Y r) (lR Y r') (lE Y ta) (lE Y tb) (lE Y tc) σ H Q := by
  obtain ⟨τ, G, Q', sr, hr, t, k⟩ := h
  refine ⟨τ, G, _, sr, hr, t, fun d1 G1 v1 H1 q1 x1 r1 p1 => ⟨τ, G1, _, sr.ext x1, r1, q1, fun d2 G2 v2 H2 q2 x2 r2 p2 => ⟨d1, d2, G2, _, p1.ext x2, p2, r2, q2, fun d3 G3 v3 H3 q3 x3 r3 p3 => ?_⟩⟩⟩
  have x13 := (x1.trans x2).trans x3
  cases d3 with
  | bl b =>
    refine ⟨b, p3, ?_⟩
    cases b with
    | false => exact (if_neg Bool.false_ne_true).mpr (k.ext x13 |>.here q3 r3 rfl)
    | true => exact (if_pos rfl).mpr ⟨τ, G3, _, sr.ext x13, r3, q3, fun d4 G4 v4 H4 q4 x4 r4 p4 => ⟨d2, d4, G4, Q', (p2.ext x3).ext x4, p4, r4, q4, k.ext (x13.trans x4)⟩⟩
  | _ => exact q3.elim
theorem E_chain {op op' : CmpOp} {r r' : DR2} (ho : OpD X (compareOp op) r) (ho' : OpD X (compareOp op') r') (ha : PE X a (lE (wd X) ta)) (hb : PE X b (lE (wd X) tb)) (hc : PE X c (lE (wd X) tc))
    (hm : lastMarks [op, op'] [b, c] = false := by with_unfolding_all rfl) : PE X (.Compare a [op, op'] [b, c] pos) (lE (wd X) (dChain r r' ta tb tc)) := (pe_chain ho ho' ha hb hc hm).weak fun _ _ _ q => lE_chain q
theorem T_chain {op op' : CmpOp} {r r' : DR2} (ho : OpD X (compareOp op) r) (ho' : OpD X (compareOp op') r') (ha : PE X a (lE (wd X) ta)) (hb : PE X b (lE (wd X) tb)) (hc : PE X c (lE (wd X) tc))
    (hm : lastMarks [op, op'] [b, c] = false := by with_unfolding_all rfl) : PT X (.Compare a [op, op'] [b, c] pos) (lT (wd X) (dTest (dChain r r' ta tb tc))) := (pt_chain ho ho' ha hb hc hm).weak fun _ _ _ q => lT_test (fun _ _ _ q => lE_chain q) q

/-! ### truth -/
/-- a value's truth -/
def tru (G : DH) : D → Option Bool
  | .non => some false
  | .bl b => some b
  | .int i => some (i != 0)
  | .str x => if x.length ≤ 16777216 then some ((x.length : Int) != 0) else none
  | .tup xs => some (!xs.isEmpty)
  | .ref a => match G a with
    | some (.lst xs) => some (!xs.isEmpty)
    | some (.rol xs) => some (!xs.isEmpty)
    | _ => none
def dTru (t : DE) : DT := fun τ G Q => t τ G fun d G1 => match tru G1 d with | some k => Q k G1 | none => False
theorem isE {K : PySem.W.Frag} {H : Hp} {ds : List D} {vs : List V} (h : RpL K H ds vs) : (!ds.isEmpty) = !vs.isEmpty := by
  cases ds with
  | nil => cases h; rfl
  | cons d ds => obtain ⟨v, r, e, _, _⟩ := h; subst e; rfl
theorem truV_of {Y : Wd} {H : Hp} {G : DH} {d : D} {v : V} {k : Bool} (hr : HRep Y H G) (p : Rp Y.K H d v) (e : tru G d = some k) : TruV Y.K v H k := by
  cases d with
  | non => cases p; cases e; rfl
  | bl b => cases p; cases e; rfl
  | int i => cases p; cases e; rfl
  | str x =>
    cases p
    simp only [tru] at e
    split at e
    · rename_i hz
      cases e
      exact ⟨by rw [sizeLine_eq]; exact hz, rfl⟩
    · cases e
  | tup xs =>
    obtain ⟨a, vs, rfl, h1, h2⟩ := p
    cases e
    exact .inr (.inl ⟨vs, h1, isE h2⟩)
  | ref a =>
    cases p
    simp only [tru] at e
    split at e
    · rename_i xs q
      cases e
      obtain ⟨vs, h1, h2⟩ := hr _ _ q
      exact .inl ⟨vs, SqL.of h1, isE h2⟩
    · rename_i xs q
      cases e
      obtain ⟨o, vs, h1, h2⟩ := hr _ _ q
      exact .inl ⟨vs, .inl (.inr ⟨o, h1⟩), isE h2⟩
    · cases e
theorem T_tru (ha : PE X a (lE (wd X) ta)) (he : ∀ whole, isTrue a X.env whole = (do let v ← whole; standAt a.pos; holding [v] (truthy v)) := by intro _; rfl) : PT X a (lT (wd X) (dTru ta)) :=
  (pt_truth ha he).weak fun σ H Q h => by
    obtain ⟨τ, G, Q', sr, hr, q, k⟩ := h
    refine ⟨τ, G, _, sr, hr, q, fun d G1 v H1 q1 x1 r1 p1 => ?_⟩
    split at q1
    · rename_i b e
      exact ⟨b, truV_of r1 p1 e, k b G1 H1 q1 x1 r1⟩
    · exact q1.elim

/-! ### and, or, not -/
variable {tA tB : DT} {uA uB : TT} {rest : List Expr}
def dAnd (t u : DT) : DT := fun τ G Q => t τ G fun k G1 => match k with | true => u τ G1 Q | false => Q false G1
def dOr (t u : DT) : DT := fun τ G Q => t τ G fun k G1 => match k with | true => Q true G1 | false => u τ G1 Q
def dNot (t : DT) : DT := fun τ G Q => t τ G fun k G1 => Q (!k) G1
theorem W_and1 (ha : PT X a uA) : PW X (.BoolOp .And [a] pos) uA := pw_and1 ha
theorem W_or1 (ha : PT X a uA) : PW X (.BoolOp .Or [a] pos) uA := pw_or1 ha
theorem W_and (ha : PT X a (lT (wd X) tA)) (hb : PW X (.BoolOp .And (b :: rest) pos) (lT (wd X) tB)) : PW X (.BoolOp .And (a :: b :: rest) pos) (lT (wd X) (dAnd tA tB)) :=
  PW.weak (pw_and ha hb) fun σ H Q h => by
    obtain ⟨τ, G, Q', sr, hr, q, k⟩ := h
    refine ⟨τ, G, _, sr, hr, q, fun d G1 H1 q1 x1 r1 => ?_⟩
    cases d with
    | true => exact (if_pos rfl).mpr ⟨τ, G1, Q', sr.ext x1, r1, q1, k.ext x1⟩
    | false => exact (if_neg Bool.false_ne_true).mpr (k _ _ _ q1 x1 r1)
theorem W_or (ha : PT X a (lT (wd X) tA)) (hb : PW X (.BoolOp .Or (b :: rest) pos) (lT (wd X) tB)) : PW X (.BoolOp .Or (a :: b :: rest) pos) (lT (wd X) (dOr tA tB)) :=
  PW.weak (pw_or ha hb) fun σ H Q h => by
    obtain ⟨τ, G, Q', sr, hr, q, k⟩ := h
    refine ⟨τ, G, _, sr, hr, q, fun d G1 H1 q1 x1 r1 => ?_⟩
    cases d with
    | true => exact (if_pos rfl).mpr (k _ _ _ q1 x1 r1)
    | false => exact (if_neg Bool.false_ne_true).mpr ⟨τ, G1, Q', sr.ext x1, r1, q1, k.ext x1⟩
theorem T_not (ha : PT X a (lT (wd X) tA)) : PT X (.UnaryOp .Not a pos) (lT (wd X) (dNot tA)) :=
  (pt_not ha).weak fun σ H Q h => by
    obtain ⟨τ, G, Q', sr, hr, q, k⟩ := h
    exact ⟨τ, G, _, sr, hr, q, fun d G1 H1 q1 x1 r1 => k _ _ _ q1 x1 r1⟩
/-- as values: bools -/
def dAndV (ta tb : DE) : DE := fun τ G Q => ta τ G fun d G1 => match d with | .bl true => tb τ G1 Q | .bl false => Q (.bl false) G1 | _ => False
def dOrV (ta tb : DE) : DE := fun τ G Q => ta τ G fun d G1 => match d with | .bl true => Q (.bl true) G1 | .bl false => tb τ G1 Q | _ => False
def dNotV (ta : DE) : DE := fun τ G Q => ta τ G fun d G1 => match d with | .bl k => Q (.bl (!k)) G1 | _ => False
theorem E_one {op : BoolOp} {t : TE} (h : PE X a t) : PE X (.BoolOp op [a] pos) t := pe_one h
theorem E_and (ha : PE X a (lE (wd X) ta)) (hb : PE X (.BoolOp .And (b :: rest) pos) (lE (wd X) tb)) : PE X (.BoolOp .And (a :: b :: rest) pos) (lE (wd X) (dAndV ta tb)) :=
  (pe_and ha hb).weak fun σ H Q h => by
    obtain ⟨τ, G, Q', sr, hr, q, k⟩ := h
    refine ⟨τ, G, _, sr, hr, q, fun d G1 v H1 q1 x1 r1 p1 => ?_⟩
    cases d with
    | bl b =>
      refine ⟨b, p1, ?_⟩
      cases b with
      | true => exact (if_pos rfl).mpr ⟨τ, G1, Q', sr.ext x1, r1, q1, k.ext x1⟩
      | false => exact (if_neg Bool.false_ne_true).mpr ((k.ext x1).here q1 r1 rfl)
    | _ => exact q1.elim
theorem E_or (ha : PE X a (lE (wd X) ta)) (hb : PE X (.BoolOp .Or (b :: rest) pos) (lE (wd X) tb)) : PE X (.BoolOp .Or (a :: b :: rest) pos) (lE (wd X) (dOrV ta tb)) :=
  (pe_or ha hb).weak fun σ H Q h => by
    obtain ⟨τ, G, Q', sr, hr, q, k⟩ := h
    refine ⟨τ, G, _, sr, hr, q, fun d G1 v H1 q1 x1 r1 p1 => ?_⟩
    cases d with
    | bl b =>
      refine ⟨b, p1, ?_⟩
      cases b with
      | false => exact (if_neg Bool.false_ne_true).mpr ⟨τ, G1, Q', sr.ext x1, r1, q1, k.ext x1⟩
      | true => exact (if_pos rfl).mpr ((k.ext x1).here q1 r1 rfl)
    | _ => exact q1.elim
theorem E_not (ha : PE X a (lE (wd X) ta)) : PE X (.UnaryOp .Not a pos) (lE (wd X) (dNotV ta)) :=
  (pe_not ha).weak fun σ H Q h => by
    obtain ⟨τ, G, Q', sr, hr, q, k⟩ := h
    refine ⟨τ, G, _, sr, hr, q, fun d G1 v H1 q1 x1 r1 p1 => ?_⟩
    cases d with
    | bl b => exact ⟨b, p1, (k.ext x1).here q1 r1 rfl⟩
    | _ => exact q1.elim
def dIf (t : DT) (ta tb : DE) : DE := fun τ G Q => t τ G fun k G1 => match k with | true => ta τ G1 Q | false => tb τ G1 Q
theorem E_if (hc : PT X c (lT (wd X) tA)) (ha : PE X a (lE (wd X) ta)) (hb : PE X b (lE (wd X) tb)) : PE X (.IfExp c a b pos) (lE (wd X) (dIf tA ta tb)) :=
  (pe_ifExp hc ha hb).weak fun σ H Q h => by
    obtain ⟨τ, G, Q', sr, hr, q, k⟩ := h
    refine ⟨τ, G, _, sr, hr, q, fun d G1 H1 q1 x1 r1 => ?_⟩
    cases d with
    | true => exact (if_pos rfl).mpr ⟨τ, G1, Q', sr.ext x1, r1, q1, k.ext x1⟩
    | false => exact (if_neg Bool.false_ne_true).mpr ⟨τ, G1, Q', sr.ext x1, r1, q1, k.ext x1⟩

/-! ### arguments, displays -/
variable {e : Expr} {es : List Expr} {te : DE} {t : DA}
def dNil : DA := fun _ G Q => Q [] G
def dCons (te : DE) (t : DA) : DA := fun τ G Q => te τ G fun d G1 => t τ G1 fun ds G2 => Q (d :: ds) G2
theorem A_nil : PA X [] (lA (wd X) dNil) := PA.weak pa_nil fun σ H Q h => by
  obtain ⟨τ, G, Q', sr, hr, q, k⟩ := h
  exact k _ _ _ _ q (.refl H) hr RpL.nil
theorem A_cons (ha : PE X e (lE (wd X) te)) (hs : PA X es (lA (wd X) t)) (hx : starEach (e :: es) X.env = (false, eval e X.env) :: starEach es X.env := by rfl) : PA X (e :: es) (lA (wd X) (dCons te t)) :=
  PA.weak (pa_cons ha hs hx) fun σ H Q h => by
    obtain ⟨τ, G, Q', sr, hr, q, k⟩ := h
    exact ⟨τ, G, _, sr, hr, q, fun d G1 v H1 q1 x1 r1 p1 => ⟨τ, G1, _, sr.ext x1, r1, q1, fun ds G2 vs H2 q2 x2 r2 p2 => k _ _ _ _ q2 (x1.trans x2) r2 (RpL.cons (p1.ext x2) p2)⟩⟩
def dTup (t : DA) : DE := fun τ G Q => t τ G fun ds G1 => ds.length ≤ 16777216 ∧ Q (.tup ds) G1
def dLst (t : DA) : DE := fun τ G Q => t τ G fun ds G1 => ds.length ≤ 16777216 ∧ ∀ p, G1 p = none → Q (.ref p) (dup G1 p (.lst ds))
theorem E_tup {x1} (h : PA X es (lA (wd X) t)) : PE X (.Tuple es x1 pos) (lE (wd X) (dTup t)) :=
  (pe_tup h).weak fun σ H Q h => by
    obtain ⟨τ, G, Q', sr, hr, q, k⟩ := h
    refine ⟨τ, G, _, sr, hr, q, fun ds G1 vs H1 q1 x1 r1 p1 => ⟨by rw [sizeLine_eq, ← p1.len]; exact q1.1, fun p hp => ?_⟩⟩
    exact k _ _ _ _ q1.2 (x1.trans (Ext.new hp)) (r1.hid hp) ⟨p, vs, rfl, SqT.of upd_same, p1.ext (Ext.new hp)⟩
theorem E_lst (h : PA X es (lA (wd X) t)) : PE X (.List es pos) (lE (wd X) (dLst t)) :=
  (pe_lst h).weak fun σ H Q h => by
    obtain ⟨τ, G, Q', sr, hr, q, k⟩ := h
    refine ⟨τ, G, _, sr, hr, q, fun ds G1 vs H1 q1 x1 r1 p1 => ⟨by rw [sizeLine_eq, ← p1.len]; exact q1.1, fun p hp => ?_⟩⟩
    exact k _ _ _ _ (q1.2 p (r1.free hp)) (x1.trans (Ext.new hp)) (r1.new hp ⟨vs, upd_same, p1.ext (Ext.new hp)⟩) rfl
end
end L2.DL

set_option Elab.async false
set_option linter.all false
set_option maxRecDepth 100000
set_option maxHeartbeats 1000000
/-! DL3: statements, targets, loops. -/
namespace L2.DL
open PySem PySem.Spec PyProof.Rows

structure DEnds where
  nx : DSt → DH → Prop
  rt : DVK
  bk : DSt → DH → Prop := fun _ _ => False
  ct : DSt → DH → Prop := fun _ _ => False
abbrev DS := DEnds → DSt → DH → Prop
def KS1 (Y : Wd) (H : Hp) (Q' : DSt → DH → Prop) (Q : St → Hp → Prop) : Prop := ∀ τ G σ H', Q' τ G → Ext H H' → SRep Y.K H' σ τ → HRep Y H' G → Q σ H'
theorem KS1.ext {Y : Wd} {H H1 : Hp} {Q' : DSt → DH → Prop} {Q : St → Hp → Prop} (k : KS1 Y H Q' Q) (x : Ext H H1) : KS1 Y H1 Q' Q := fun d G v H' q e r p => k d G v H' q (x.trans e) r p
structure KD (Y : Wd) (H : Hp) (D' : DEnds) (E : Ends) : Prop where
  nx : KS1 Y H D'.nx E.nx
  rt : KV1 Y H D'.rt E.rt
  bk : KS1 Y H D'.bk E.bk
  ct : KS1 Y H D'.ct E.ct
theorem KD.ext {Y : Wd} {H H1 : Hp} {D' : DEnds} {E : Ends} (k : KD Y H D' E) (x : Ext H H1) : KD Y H1 D' E := ⟨k.nx.ext x, k.rt.ext x, k.bk.ext x, k.ct.ext x⟩
def lS (Y : Wd) (t : DS) : TS := fun E σ H => ∃ τ G D', SRep Y.K H σ τ ∧ HRep Y H G ∧ t D' τ G ∧ KD Y H D' E
theorem _root_.L2.PS.weak {X : Cx} {e : Stmt} {t u : TS} (h : PS X e t) (w : ∀ D σ H, u D σ H → t D σ H) : PS X e u := ⟨fun pins s σ H D I hw => h.run pins s σ H D I (w _ _ _ hw)⟩
theorem _root_.L2.PSs.weak {X : Cx} {e : List Stmt} {t u : TS} (h : PSs X e t) (w : ∀ D σ H, u D σ H → t D σ H) : PSs X e u := ⟨fun pins s σ H D I hw => h.run pins s σ H D I (w _ _ _ hw)⟩
theorem _root_.L2.PG.weak {X : Cx} {e : Expr} {t u : TG} (h : PG X e t) (w : ∀ v σ H Q, u v σ H Q → t v σ H Q) : PG X e u := ⟨fun pins s σ H v z Q I r hw => h.run pins s σ H v z Q I r (w _ _ _ _ hw)⟩
theorem _root_.L2.PGs.weak {X : Cx} {e : List Expr} {t u : TGs} (h : PGs X e t) (w : ∀ v σ H Q, u v σ H Q → t v σ H Q) : PGs X e u := ⟨fun pins s σ H v z Q I r hw => h.run pins s σ H v z Q I r (w _ _ _ _ hw)⟩

section
variable {X : Cx} {pos : Pos} {e : Expr} {te : DE} {st : Stmt} {rest : List Stmt} {t u : DS}
def dNext : DS := fun D τ G => D.nx τ G
def dSeq (t u : DS) : DS := fun D τ G => t { D with nx := u D } τ G
theorem lS_next {Y : Wd} {E : Ends} {σ : St} {H : Hp} (h : lS Y dNext E σ H) : E.nx σ H := by
  obtain ⟨τ, G, D', sr, hr, q, k⟩ := h
  exact k.nx _ _ _ _ q (.refl H) sr hr
theorem S_nil : PSs X [] (lS (wd X) dNext) := pss_nil.weak fun _ _ _ h => lS_next h
theorem S_pass : PS X (.Pass pos) (lS (wd X) dNext) := ps_pass.weak fun _ _ _ h => lS_next h
theorem S_doc {x j pos'} : PS X (.Expr (.Constant (.str x) j pos) pos') (lS (wd X) dNext) := ps_doc.weak fun _ _ _ h => lS_next h
theorem S_cons (h1 : PS X st (lS (wd X) t)) (h2 : PSs X rest (lS (wd X) u)) : PSs X (st :: rest) (lS (wd X) (dSeq t u)) := (pss_cons h1 h2).weak fun E σ H h => by
  obtain ⟨τ, G, D', sr, hr, q, k⟩ := h
  exact ⟨τ, G, _, sr, hr, q, ⟨fun τ1 G1 σ1 H1 q1 x1 s1 r1 => ⟨τ1, G1, D', s1, r1, q1, k.ext x1⟩, k.rt, k.bk, k.ct⟩⟩
theorem S_one (h : PS X st (lS (wd X) t)) : PSs X [st] (lS (wd X) t) := pss_one h
def dBreak : DS := fun D τ G => D.bk τ G
def dCont : DS := fun D τ G => D.ct τ G
theorem S_break : PS X (.Break pos) (lS (wd X) dBreak) := ps_break.weak fun E σ H h => by
  obtain ⟨τ, G, D', sr, hr, q, k⟩ := h
  exact k.bk _ _ _ _ q (.refl H) sr hr
theorem S_continue : PS X (.Continue pos) (lS (wd X) dCont) := ps_continue.weak fun E σ H h => by
  obtain ⟨τ, G, D', sr, hr, q, k⟩ := h
  exact k.ct _ _ _ _ q (.refl H) sr hr
def dDrop (te : DE) : DS := fun D τ G => te τ G fun _ G1 => D.nx τ G1
theorem S_expr (he : PE X e (lE (wd X) te)) (hs : swapsWith e none pos.line X.env = pure false := by rfl) : PS X (.Expr e pos) (lS (wd X) (dDrop te)) := (ps_expr he hs).weak fun E σ H h => by
  obtain ⟨τ, G, D', sr, hr, q, k⟩ := h
  exact ⟨τ, G, _, sr, hr, q, fun d G1 v H1 q1 x1 r1 p1 => k.nx _ _ _ _ q1 x1 (sr.ext x1) r1⟩
def dRet (te : DE) : DS := fun D τ G => te τ G D.rt
theorem S_ret (he : PE X e (lE (wd X) te)) : PS X (.Return (some e) pos) (lS (wd X) (dRet te)) := (ps_ret he).weak fun E σ H h => by
  obtain ⟨τ, G, D', sr, hr, q, k⟩ := h
  exact ⟨τ, G, _, sr, hr, q, k.rt⟩
def dRetN : DS := fun D _ G => D.rt .non G
theorem S_retN : PS X (.Return none pos) (lS (wd X) dRetN) := ps_retN.weak fun E σ H h => by
  obtain ⟨τ, G, D', sr, hr, q, k⟩ := h
  exact k.rt.here q hr rfl
def dIfS (c : DT) (t u : DS) : DS := fun D τ G => c τ G fun b G1 => match b with | true => t D τ G1 | false => u D τ G1
theorem S_if {c : Expr} {a b : List Stmt} {tc : DT} (hc : PT X c (lT (wd X) tc)) (ha : PSs X a (lS (wd X) t)) (hb : PSs X b (lS (wd X) u)) : PS X (.If c a b pos) (lS (wd X) (dIfS tc t u)) := (ps_if hc ha hb).weak fun E σ H h => by
  obtain ⟨τ, G, D', sr, hr, q, k⟩ := h
  refine ⟨τ, G, _, sr, hr, q, fun d G1 H1 q1 x1 r1 => ?_⟩
  cases d with
  | true => exact (if_pos rfl).mpr ⟨τ, G1, D', sr.ext x1, r1, q1, k.ext x1⟩
  | false => exact (if_neg Bool.false_ne_true).mpr ⟨τ, G1, D', sr.ext x1, r1, q1, k.ext x1⟩
/-- code that is never come to -/
def dNever : DS := fun _ _ _ => False
theorem S_never : PS X st (lS (wd X) dNever) := ps_never.weak fun E σ H h => by
  obtain ⟨τ, G, D', sr, hr, q, k⟩ := h
  exact q
theorem Ss_never : PSs X rest (lS (wd X) dNever) := pss_never.weak fun E σ H h => by
  obtain ⟨τ, G, D', sr, hr, q, k⟩ := h
  exact q

/-! ### targets -/
abbrev DG := D → DSt → DH → (DSt → DH → Prop) → Prop
abbrev DGs := List D → DSt → DH → (DSt → DH → Prop) → Prop
def lG (Y : Wd) (g : DG) : TG := fun v σ H Q => ∃ d τ G Q', Rp Y.K H d v ∧ SRep Y.K H σ τ ∧ HRep Y H G ∧ g d τ G Q' ∧ KS1 Y H Q' Q
def lGs (Y : Wd) (g : DGs) : TGs := fun v σ H Q => ∃ d τ G Q', RpL Y.K H d v ∧ SRep Y.K H σ τ ∧ HRep Y H G ∧ g d τ G Q' ∧ KS1 Y H Q' Q
def dgName (i : Nat) : DG := fun d τ G Q => Q (τ.set i (some d)) G
theorem G_name {i : Nat} (h : PG X e (gName i)) : PG X e (lG (wd X) (dgName i)) := h.weak fun v σ H Q h => by
  obtain ⟨d, τ, G, Q', p, sr, hr, q, k⟩ := h
  exact k _ _ _ _ q (.refl H) (sr.set i p) hr
def dgNil : DGs := fun ds τ G Q => match ds with | [] => Q τ G | _ => False
def dgCons (g : DG) (gs : DGs) : DGs := fun ds τ G Q => match ds with | d :: r => g d τ G fun τ1 G1 => gs r τ1 G1 Q | [] => False
theorem Gs_nil : PGs X [] (lGs (wd X) dgNil) := pgs_nil.weak fun v σ H Q h => by
  obtain ⟨d, τ, G, Q', p, sr, hr, q, k⟩ := h
  cases d with
  | nil => cases p; exact ⟨rfl, k _ _ _ _ q (.refl H) sr hr⟩
  | cons _ _ => exact q.elim
theorem Gs_cons {es : List Expr} {g : DG} {gs : DGs} (h1 : PG X e (lG (wd X) g)) (h2 : PGs X es (lGs (wd X) gs)) (hs : (assignEach (e :: es) X.env).map (·.2) = assign e X.env :: (assignEach es X.env).map (·.2) := by rfl) : PGs X (e :: es) (lGs (wd X) (dgCons g gs)) :=
  (pgs_cons h1 h2 hs).weak fun v σ H Q h => by
    obtain ⟨d, τ, G, Q', p, sr, hr, q, k⟩ := h
    cases d with
    | nil => exact q.elim
    | cons d ds =>
      obtain ⟨v, r, rfl, p1, p2⟩ := p
      exact ⟨v, r, rfl, d, τ, G, _, p1, sr, hr, q, fun τ1 G1 σ1 H1 q1 x1 s1 r1 => ⟨ds, τ1, G1, Q', p2.ext x1, s1, r1, q1, k.ext x1⟩⟩
def dgTup (n : Nat) (gs : DGs) : DG := fun d τ G Q => match d with | .tup xs => xs.length = n ∧ gs xs τ G Q | _ => False
theorem G_tup {es : List Expr} {j : Nat} {gs : DGs} {n : Nat} (hc : X.calm = true) (h : PGs X es (lGs (wd X) gs)) (hn : (assignEach es X.env).length = n := by rfl) (hst : (assignEach es X.env).findIdx? (·.1) = none := by rfl) : PG X (.Tuple es j pos) (lG (wd X) (dgTup n gs)) :=
  (pg_tup hc h hn hst).weak fun v σ H Q h => by
    obtain ⟨d, τ, G, Q', p, sr, hr, q, k⟩ := h
    cases d with
    | tup xs =>
      obtain ⟨a, vs, rfl, p1, p2⟩ := p
      exact ⟨a, vs, rfl, p1, by rw [← p2.len]; exact q.1, xs, τ, G, Q', p2, sr, hr, q.2, k⟩
    | _ => exact q.elim
/-- a, b, .. = a list -/
def dgUnl (n : Nat) (gs : DGs) : DG := fun d τ G Q => match d with
  | .ref a => match G a with | some (.lst xs) => xs.length = n ∧ gs xs τ G Q | _ => False
  | _ => False
theorem G_unl {es : List Expr} {j : Nat} {gs : DGs} {n : Nat} (hc : X.calm = true) (h : PGs X es (lGs (wd X) gs)) (hn : (assignEach es X.env).length = n := by rfl) (hst : (assignEach es X.env).findIdx? (·.1) = none := by rfl) : PG X (.Tuple es j pos) (lG (wd X) (dgUnl n gs)) :=
  (pg_unl hc h hn hst).weak fun v σ H Q h => by
    obtain ⟨d, τ, G, Q', p, sr, hr, q, k⟩ := h
    cases d with
    | ref a =>
      cases p
      simp only [dgUnl] at q
      split at q
      · rename_i xs e
        obtain ⟨vs, p1, p2⟩ := hr _ _ e
        exact ⟨a, vs, rfl, SqL.of p1, by rw [← p2.len]; exact q.1, xs, τ, G, Q', p2, sr, hr, q.2, k⟩
      · exact q.elim
    | _ => exact q.elim
/-- o[i] = v -/
abbrev DSet := D → D → D → DH → (DH → Prop) → Prop
def lSet (Y : Wd) (r : DSet) : TSet := fun o i v H Q => ∃ d e f G Q', Rp Y.K H d o ∧ Rp Y.K H e i ∧ Rp Y.K H f v ∧ HRep Y H G ∧ r d e f G Q' ∧ ∀ G' H', Q' G' → Ext H H' → HRep Y H' G' → Q H'
def dgSub (to ti : DE) (r : DSet) : DG := fun d τ G Q => to τ G fun o G1 => ti τ G1 fun i G2 => r o i d G2 fun G3 => Q τ G3
theorem G_sub {o i : Expr} {to ti : DE} {r : DSet} (ho : PE X o (lE (wd X) to)) (hi : PE X i (lE (wd X) ti)) (hs : PSet X (lSet (wd X) r))
    (ha : ∀ v, assign (.Subscript o i pos) X.env v = (do
      let ov ← holding [v] (eval o X.env)
      let iv ← holding [v, ov] (eval i X.env)
      standAt pos
      holding [v, ov, iv] (setItem ov iv v)
      release [v, ov, iv] []) := by intro _; rfl) : PG X (.Subscript o i pos) (lG (wd X) (dgSub to ti r)) :=
  (pg_sub ho hi hs ha).weak fun v σ H Q h => by
    obtain ⟨d, τ, G, Q', p, sr, hr, q, k⟩ := h
    exact ⟨τ, G, _, sr, hr, q, fun d1 G1 v1 H1 q1 x1 r1 p1 => ⟨τ, G1, _, sr.ext x1, r1, q1, fun d2 G2 v2 H2 q2 x2 r2 p2 => ⟨d1, d2, d, G2, _, p1.ext x2, p2, p.ext (x1.trans x2), r2, q2, fun G3 H3 q3 x3 r3 =>
      k _ _ _ _ q3 ((x1.trans x2).trans x3) (sr.ext ((x1.trans x2).trans x3)) r3⟩⟩⟩
def dAsg (te : DE) (g : DG) : DS := fun D τ G => te τ G fun d G1 => g d τ G1 D.nx
theorem lS_asg {Y : Wd} {g : DG} {E : Ends} {σ : St} {H : Hp} (h : lS Y (dAsg te g) E σ H) : tAsg (lE Y te) (lG Y g) E σ H := by
  obtain ⟨τ, G, D', sr, hr, q, k⟩ := h
  exact ⟨τ, G, _, sr, hr, q, fun d G1 v H1 q1 x1 r1 p1 => ⟨d, τ, G1, _, p1, sr.ext x1, r1, q1, k.nx.ext x1⟩⟩
theorem S_asg {tg : Expr} {g : DG} (he : PE X e (lE (wd X) te)) (hg : PG X tg (lG (wd X) g)) (hs : swapsWithSole [tg] e pos.line X.env = pure false := by rfl) (hw : swappedStores [tg] e X.env = pure none := by rfl)
    (h1 : (assignEach [tg] X.env).map (·.2) = [assign tg X.env] := by rfl) : PS X (.Assign [tg] e pos) (lS (wd X) (dAsg te g)) := (ps_asg he hg hs hw h1).weak fun _ _ _ h => lS_asg h
/-- a name's store: h from ps_set -/
theorem S_set {i : Nat} (h : PS X st (tAsg (lE (wd X) te) (gName i))) : PS X st (lS (wd X) (dAsg te (dgName i))) := h.weak fun E σ H h => by
  obtain ⟨τ, G, D', sr, hr, q, k⟩ := h
  exact ⟨τ, G, _, sr, hr, q, fun d G1 v H1 q1 x1 r1 p1 => k.nx _ _ _ _ q1 x1 ((sr.ext x1).set i p1) r1⟩
def dPar (i j : Nat) (ta : DA) : DS := fun D τ G => ta τ G fun ds G1 => match ds with | [d, f] => D.nx ((τ.set i (some d)).set j (some f)) G1 | _ => False
theorem S_par {i j : Nat} {ta : DA} (h : PS X st (tPar i j (lA (wd X) ta))) : PS X st (lS (wd X) (dPar i j ta)) := h.weak fun E σ H h => by
  obtain ⟨τ, G, D', sr, hr, q, k⟩ := h
  refine ⟨τ, G, _, sr, hr, q, fun ds G1 vs H1 q1 x1 r1 p1 => ?_⟩
  match ds, q1 with
  | [d, f], q1 =>
    obtain ⟨v, r, rfl, a1, v2, r2, rfl, a2, a3⟩ := p1
    cases a3
    exact ⟨v, v2, rfl, k.nx _ _ _ _ q1 x1 (((sr.ext x1).set i a1).set j a2) r1⟩
def dPar3 (i j l : Nat) (ta : DA) : DS := fun D τ G => ta τ G fun ds G1 => match ds with | [d, f, m] => D.nx (((τ.set i (some d)).set j (some f)).set l (some m)) G1 | _ => False
theorem S_par3 {i j l : Nat} {ta : DA} (h : PS X st (tPar3 i j l (lA (wd X) ta))) : PS X st (lS (wd X) (dPar3 i j l ta)) := h.weak fun E σ H h => by
  obtain ⟨τ, G, D', sr, hr, q, k⟩ := h
  refine ⟨τ, G, _, sr, hr, q, fun ds G1 vs H1 q1 x1 r1 p1 => ?_⟩
  match ds, q1 with
  | [d, f, m], q1 =>
    obtain ⟨v, r, rfl, a1, v2, r2, rfl, a2, v3, r3, rfl, a3, a4⟩ := p1
    cases a4
    exact ⟨v, v2, v3, rfl, k.nx _ _ _ _ q1 x1 ((((sr.ext x1).set i a1).set j a2).set l a3) r1⟩

/-! ### while -/
def dWhile (c : DT) (tb : DS) : DS := fun D τ G => ∃ I : Nat → DSt → DH → Prop, (∃ m, I m τ G) ∧ ∀ m τ G, I m τ G → c τ G fun b G1 => match b with
  | true => tb { D with nx := fun τ' G' => ∃ m', m' < m ∧ I m' τ' G', ct := fun τ' G' => ∃ m', m' < m ∧ I m' τ' G', bk := D.nx } τ G1
  | false => D.nx τ G1
theorem S_while {c : Expr} {body : List Stmt} {tc : DT} {tb : DS} (hp : PassesOwn (model X.prog X.w) X.A X.env X.xe) (hc : PT X c (lT (wd X) tc)) (hb : PSs X body (lS (wd X) tb)) : PS X (.While c body [] pos) (lS (wd X) (dWhile tc tb)) :=
  (ps_while hp hc hb).weak fun E σ H h => by
    obtain ⟨τ, G, D', sr, hr, ⟨I, ⟨m0, q0⟩, qs⟩, k⟩ := h
    refine ⟨fun m σ' H' => Ext H H' ∧ ∃ τ' G', SRep (wd X).K H' σ' τ' ∧ HRep (wd X) H' G' ∧ I m τ' G', ⟨m0, .refl H, τ, G, sr, hr, q0⟩, ?_⟩
    rintro m σ1 H1 ⟨x1, τ1, G1, s1, r1, i1⟩
    refine ⟨τ1, G1, _, s1, r1, qs m τ1 G1 i1, fun b G2 H2 q2 x2 r2 => ?_⟩
    cases b with
    | false => exact (if_neg Bool.false_ne_true).mpr (k.nx _ _ _ _ q2 (x1.trans x2) (s1.ext x2) r2)
    | true =>
      refine (if_pos rfl).mpr ⟨fun σ' H' => ∃ m', m' < m ∧ Ext H H' ∧ ∃ τ' G', SRep (wd X).K H' σ' τ' ∧ HRep (wd X) H' G' ∧ I m' τ' G', fun σ' H' ⟨m', l, z⟩ => ⟨m', l, z⟩, ?_⟩
      refine ⟨τ1, G2, _, s1.ext x2, r2, q2, ⟨fun τ3 G3 σ3 H3 ⟨m', l, i3⟩ x3 s3 r3 => ⟨m', l, (x1.trans x2).trans x3, τ3, G3, s3, r3, i3⟩, k.rt.ext (x1.trans x2), k.nx.ext (x1.trans x2), fun τ3 G3 σ3 H3 ⟨m', l, i3⟩ x3 s3 r3 => ⟨m', l, (x1.trans x2).trans x3, τ3, G3, s3, r3, i3⟩⟩⟩

/-! ### what is walked -/
structure DIt where
  items : List D
  ok : DH → Prop
def ItD (Y : Wd) (H0 : Hp) (J : It) (it : DIt) : Prop := ∀ (i : Nat) (H : Hp) (G : DH), Ext H0 H → HRep Y H G → it.ok G →
  (∀ x, it.items[i]? = some x → J.go i H ∧ ∀ v H', J.yld i H v H' → Ext H H' ∧ HRep Y H' G ∧ Rp Y.K H' x v) ∧ (it.items.length ≤ i → J.stop i H)
abbrev DI := DSt → DH → (DIt → DH → Prop) → Prop
def lI (Y : Wd) (w : DI) : TI := fun σ H R => ∃ τ G R', SRep Y.K H σ τ ∧ HRep Y H G ∧ w τ G R' ∧ ∀ it G1 J H1, R' it G1 → Ext H H1 → HRep Y H1 G1 → ItD Y H1 J it → R J H1
def dSeqI (te : DE) : DI := fun τ G R => te τ G fun d G1 => match d with
  | .tup xs => R ⟨xs, fun _ => True⟩ G1
  | .ref a => match G1 a with
    | some (.lst xs) => R ⟨xs, fun G' => G' a = some (.lst xs)⟩ G1
    | some (.rol xs) => R ⟨xs, fun G' => G' a = some (.rol xs)⟩ G1
    | _ => False
  | _ => False
theorem itd_tup {Y : Wd} {H0 : Hp} {a : Addr} {xs : List D} {vs : List V} (h : SqT Y.K H0 a vs) (p : RpL Y.K H0 xs vs) (inj : ∀ H, Ext H0 H → ∀ us, SqT Y.K H a us → us = vs) : ItD Y H0 (Itt Y.K a) ⟨xs, fun _ => True⟩ := by
  intro i H G x r _
  have h' := SqT.ext h x
  refine ⟨fun d e => ?_, fun l => ⟨vs, h', by rw [← p.len]; exact l⟩⟩
  obtain ⟨v, e1, e2⟩ := p.get e
  refine ⟨⟨vs, v, h', e1⟩, fun u H' y => ?_⟩
  obtain ⟨rfl, y⟩ := y
  have z := y vs h'
  rw [e1] at z
  cases z
  exact ⟨.refl _, r, e2.ext x⟩
end
section
variable {X : Cx} {tg : Expr} {l : Expr} {te : DE}
theorem itd_lst {Y : Wd} {H0 : Hp} {a : Addr} {xs : List D} : ItD Y H0 (Itl Y.K a) ⟨xs, fun G => G a = some (.lst xs)⟩ := by
  intro i H G x r g
  obtain ⟨vs, h, p⟩ := r _ _ g
  refine ⟨fun d e => ?_, fun l => ⟨vs, SqL.of h, by rw [← p.len]; exact l⟩⟩
  obtain ⟨v, e1, e2⟩ := p.get e
  refine ⟨⟨vs, v, SqL.of h, e1⟩, fun u H' y => ?_⟩
  obtain ⟨rfl, y⟩ := y
  have z := y vs (SqL.of h)
  rw [e1] at z
  cases z
  exact ⟨.refl _, r, e2⟩
theorem itd_rol {Y : Wd} {H0 : Hp} {a : Addr} {xs : List D} : ItD Y H0 (Itl Y.K a) ⟨xs, fun G => G a = some (.rol xs)⟩ := by
  intro i H G x r g
  obtain ⟨o, vs, h, p⟩ := r _ _ g
  have h' : SqL Y.K H a vs := .inl (.inr ⟨o, h⟩)
  refine ⟨fun d e => ?_, fun l => ⟨vs, h', by rw [← p.len]; exact l⟩⟩
  obtain ⟨v, e1, e2⟩ := p.get e
  refine ⟨⟨vs, v, h', e1⟩, fun u H' y => ?_⟩
  obtain ⟨rfl, y⟩ := y
  have z := y vs h'
  rw [e1] at z
  cases z
  exact ⟨.refl _, r, e2⟩
theorem I_seq (hl : PE X l (lE (wd X) te)) : PI X tg l (lI (wd X) (dSeqI te)) := by
  refine ⟨fun pins s σ H R inv hyp => ?_⟩
  obtain ⟨τ, G, R', sr, hr, q, k⟩ := hyp
  have run := hl.run pins s σ H (fun x H1 => ∃ a, x = .ref a ∧ ((∃ vs, SqT X.K H1 a vs ∧ R (Itt X.K a) H1) ∨ ∃ vs, SqL X.K H1 a vs ∧ R (Itl X.K a) H1)) inv ⟨τ, G, _, sr, hr, q, fun d G1 v H1 q1 x1 r1 p1 => ?_⟩
  · refine thn run fun v s1 ⟨x, H1, J1, r1, a, ex, qq⟩ => ?_
    subst ex
    cases r1
    rcases qq with ⟨vs, hq, fin⟩ | ⟨vs, hq, fin⟩
    · obtain ⟨its, rv, p, hz⟩ := J1.tuple hq
      refine wpAny_pyIter_tuple (show s1.heap.IsTuple a its.toArray from p) ?_
      refine ⟨s1.heap.objs.size, [s1.heap.objs.size], _, _, H1, rfl, J1.kept (t' := s1.toks) fun b o e => Heap.get?_push_of_some _ e, turn_tuple a _, ⟨_, Heap.get?_push_size _ rfl, rfl, rfl⟩, fun b hb => ?_, fin⟩
      rw [List.mem_singleton.mp hb]
      exact J1.fpOk (Nat.le_refl _) (J1.hok.fresh (Nat.le_refl _))
    · obtain ⟨its, rv, p, hz⟩ := J1.list hq
      refine wpAny_pyIter_list p.isList ?_
      refine ⟨s1.heap.objs.size, [s1.heap.objs.size], _, _, H1, rfl, J1.kept (t' := s1.toks) fun b o e => Heap.get?_push_of_some _ e, turn_list a _, ⟨_, Heap.get?_push_size _ rfl, rfl, rfl⟩, fun b hb => ?_, fin⟩
      rw [List.mem_singleton.mp hb]
      exact J1.fpOk (Nat.le_refl _) (J1.hok.fresh (Nat.le_refl _))
  · cases d with
    | tup xs =>
      obtain ⟨a, vs, rfl, h1, h2⟩ := p1
      refine ⟨a, rfl, .inl ⟨vs, h1, k _ _ _ _ q1 x1 r1 ?_⟩⟩
      intro i H2 G2 x2 r2 _
      have h' := SqT.ext h1 x2
      refine ⟨fun d e => ?_, fun l => ⟨vs, h', by rw [← h2.len]; exact l⟩⟩
      obtain ⟨v, e1, e2⟩ := h2.get e
      refine ⟨⟨vs, v, h', e1⟩, fun u H' y => ?_⟩
      obtain ⟨rfl, y⟩ := y
      have z := y vs h'
      rw [e1] at z
      cases z
      exact ⟨.refl _, r2, e2.ext x2⟩
    | ref a =>
      cases p1
      simp only at q1
      split at q1
      · rename_i xs e
        obtain ⟨vs, h1, h2⟩ := r1 _ _ e
        exact ⟨a, rfl, .inr ⟨vs, SqL.of h1, k _ _ _ _ q1 x1 r1 itd_lst⟩⟩
      · rename_i xs e
        obtain ⟨o, vs, h1, h2⟩ := r1 _ _ e
        exact ⟨a, rfl, .inr ⟨vs, .inl (.inr ⟨o, h1⟩), k _ _ _ _ q1 x1 r1 itd_rol⟩⟩
      · exact q1.elim
    | _ => exact q1.elim
/-! ### for -/
def dFor (wi : DI) (g : DG) (tb : DS) : DS := fun D τ G => wi τ G fun it G1 => ∃ I : Nat → DSt → DH → Prop, I 0 τ G1 ∧ (∀ i τ G, I i τ G → it.ok G) ∧
  (∀ i x τ G, it.items[i]? = some x → I i τ G → g x τ G fun τ2 G2 => tb { D with nx := I (i + 1), ct := I (i + 1), bk := D.nx } τ2 G2) ∧ ∀ τ G, I it.items.length τ G → D.nx τ G
theorem S_for {iter : Expr} {body : List Stmt} {wi : DI} {g : DG} {tb : DS} {pos : Pos} (hp : PassesOwn (model X.prog X.w) X.A X.env X.xe) (hc : X.calm = true) (hi : PI X tg iter (lI (wd X) wi)) (hg : PG X tg (lG (wd X) g)) (hb : PSs X body (lS (wd X) tb))
    (hs : ∀ x, foldedSetIterable iter X.env x = pure x := by intro _; rfl) : PS X (.For tg iter body [] pos) (lS (wd X) (dFor wi g tb)) :=
  (ps_for hp hc hi hg hb hs).weak fun E σ H h => by
    obtain ⟨τ, G, D', sr, hr, q, k⟩ := h
    refine ⟨τ, G, _, sr, hr, q, fun it G1 J H1 ⟨I, i0, iok, istep, iend⟩ x1 r1 itd => ?_⟩
    refine ⟨fun i m σ' H' => m = it.items.length - i ∧ i ≤ it.items.length ∧ Ext H1 H' ∧ ∃ τ' G', SRep (wd X).K H' σ' τ' ∧ HRep (wd X) H' G' ∧ I i τ' G', ⟨_, rfl, Nat.zero_le _, .refl _, τ, G1, sr.ext x1, r1, i0⟩, ?_⟩
    rintro i m σ2 H2 ⟨rfl, hi, x2, τ2, G2, s2, r2, i2⟩
    obtain ⟨go, stop⟩ := itd i H2 G2 x2 r2 (iok _ _ _ i2)
    by_cases hlt : i < it.items.length
    · obtain ⟨g1, g2⟩ := go it.items[i] (by simp [hlt])
      refine .inr ⟨g1, fun σ' H' => Ext H1 H' ∧ ∃ τ' G', SRep (wd X).K H' σ' τ' ∧ HRep (wd X) H' G' ∧ I (i + 1) τ' G', fun σ' H' z => ⟨it.items.length - (i + 1), by omega, rfl, hlt, z⟩, fun v H3 y => ?_⟩
      obtain ⟨x3, r3, p3⟩ := g2 v H3 y
      refine ⟨it.items[i], τ2, G2, _, p3, s2.ext x3, r3, istep i it.items[i] τ2 G2 (by simp [hlt]) i2, fun τ4 G4 σ4 H4 q4 x4 s4 r4 => ?_⟩
      have x14 := (x2.trans x3).trans x4
      refine ⟨τ4, G4, _, s4, r4, q4, ⟨fun τ5 G5 σ5 H5 q5 x5 s5 r5 => ⟨x14.trans x5, τ5, G5, s5, r5, q5⟩, k.rt.ext (x1.trans x14), k.nx.ext (x1.trans x14), fun τ5 G5 σ5 H5 q5 x5 s5 r5 => ⟨x14.trans x5, τ5, G5, s5, r5, q5⟩⟩⟩
    · have e : i = it.items.length := by omega
      subst e
      exact .inl ⟨stop (Nat.le_refl _), k.nx _ _ _ _ (iend _ _ i2) (x1.trans x2) s2 r2⟩
end
end L2.DL

set_option Elab.async false
set_option linter.all false
set_option maxRecDepth 100000
set_option maxHeartbeats 1000000
/-! DL4: defs and their promises, calls, instances. -/
namespace L2.DL
open PySem PySem.Spec PyProof.Rows

/-! ### promises -/
/-- an exception: its class, its fields, the heap behind it -/
abbrev DX := Addr → List (Str × D) → DH → Prop
abbrev DX0 : DX := fun _ _ _ => False
abbrev DSp := List D → DH → DVK → DX → Prop
def XRep (Y : Wd) (H : Hp) (C : Addr) (fs : List (Str × D)) (cls : Value) (od : Option Addr) : Prop :=
  cls = .ref C ∧ ((od = none ∧ fs = []) ∨ ∃ d vs, od = some d ∧ H d = some (.xd vs) ∧ RpFs Y.K H fs vs)
def KX (Y : Wd) (H : Hp) (E' : DX) (E : XK) : Prop := ∀ C fs G cls od H', E' C fs G → Ext H H' → HRep Y H' G → XRep Y H' C fs cls od → E cls od H'
theorem KX.ext {Y : Wd} {H H1 : Hp} {E' : DX} {E : XK} (k : KX Y H E' E) (x : Ext H H1) : KX Y H1 E' E := fun C fs G cls od H' q e r p => k C fs G cls od H' q (x.trans e) r p
theorem KX.zero {Y : Wd} {H : Hp} {E : XK} : KX Y H DX0 E := fun _ _ _ _ _ _ q => q.elim
def lSp (Y : Wd) (sp : DSp) : Sp := fun vs H Q E => ∃ ds G Q' E', RpL Y.K H ds vs ∧ HRep Y H G ∧ sp ds G Q' E' ∧ KV1 Y H Q' Q ∧ KX Y H E' E
abbrev FnD (Y : Wd) (mg : Str → Option Value) (base : Heap) (k : Nat) (f : Addr) (fd : FuncData) (ps : List Str) (sp : DSp) : Prop := FnOk Y.P Y.w Y.K mg base (L2.CX Y.P Y.w) k f fd ps (lSp Y sp)
/-- a def called by its name: its promise, how its arguments bind (dfl: its defaults) -/
structure GFn (Y : Wd) (mg : Str → Option Value) (base : Heap) (x : Str) (k : Nat) (ps : List Str) (dfl : List D) (sp : DSp) : Prop where
  ex : ∃ f fd dvs ds, FnD Y mg base k f fd ps sp ∧ mg x = some (.ref f) ∧ PySem.W.keepIn Y.K (.ref f) = true ∧ Binds Y.K fd ps ds ∧ Vals dvs ds ∧ ∀ H, RpL Y.K H dfl dvs
theorem GFn.imp {Y : Wd} {mg : Str → Option Value} {base : Heap} {x : Str} {k : Nat} {ps : List Str} {dfl : List D} {sp sp' : DSp} (g : GFn Y mg base x k ps dfl sp) (h : ∀ ds G Q E, sp' ds G Q E → sp ds G Q E) : GFn Y mg base x k ps dfl sp' := by
  obtain ⟨f, fd, dvs, ds, F, r⟩ := g.ex
  exact ⟨f, fd, dvs, ds, F.imp fun vs H Q E ⟨d, G, Q', E', a, b, c, e⟩ => ⟨d, G, Q', E', a, b, h _ _ _ _ c, e⟩, r⟩

/-- less is known at the end -/
def down (Q : DVK) : DVK := fun d G => ∃ G', DLe G' G ∧ Q d G'
theorem down.of {Q : DVK} {d : D} {G : DH} (h : Q d G) : down Q d G := ⟨G, .refl G, h⟩
theorem KV1.down {Y : Wd} {H : Hp} {Q' : DVK} {Q : VK} (k : KV1 Y H Q' Q) : KV1 Y H (down Q') Q := fun d G v H' ⟨G', l, q⟩ x r p => k d G' v H' q x (r.less l) p
def downX (E : DX) : DX := fun C fs G => ∃ G', DLe G' G ∧ E C fs G'
theorem KX.down {Y : Wd} {H : Hp} {Q' : DX} {Q : XK} (k : KX Y H Q' Q) : KX Y H (downX Q') Q := fun C fs G cls od H' ⟨G', l, q⟩ x r p => k C fs G' cls od H' q x (r.less l) p
def dstart (N : List Str) (ds : List D) : DSt := ds.map some ++ List.replicate (N.length - ds.length) none
theorem srep_start {K : PySem.W.Frag} {H : Hp} {N : List Str} {ds : List D} {vs : List V} (h : RpL K H ds vs) : SRep K H (start N vs) (dstart N ds) := by
  have hl := h.len
  unfold start dstart
  refine ⟨by simp [hl], fun i d e => ?_⟩
  by_cases c : i < ds.length
  · rw [List.getElem?_append_left (by simpa using c), List.getElem?_map] at e
    rw [List.getElem?_append_left (by simpa [← hl] using c), List.getElem?_map]
    cases q : ds[i]? with
    | none => rw [q] at e; cases e
    | some d' =>
      rw [q] at e
      cases e
      obtain ⟨v, e1, e2⟩ := h.get q
      exact ⟨v, by rw [e1]; rfl, e2⟩
  · rw [List.getElem?_append_right (by simpa using c), List.getElem?_replicate] at e
    split at e <;> cases e

/-- the context of a def's body -/
abbrev cxD (Y : Wd) (mg : Str → Option Value) (base : Heap) (N : List Str) (qual : Str) (scope : Scope) (f : Addr) (cd : Value) (A : Around) (outer : List Env) (s : Shared) (H : Hp) (E : XK) : Cx := cxOf (L2.CX Y.P Y.w) Y.P Y.w Y.K mg base N qual scope f cd A outer s H E
section
variable {Y : Wd} {mg : Str → Option Value} {base : Heap}
/-- THE RULE of a def -/
theorem fnD {x qual : Str} {params : Arguments} {body : List Stmt} {scope : Scope} {dvs : List V} {kws : List (Str × V)} {f : Addr} {fd : FuncData} {N ps : List Str} {k : Nat} {sp : DSp} {t : DX → DS}
    (F : FunD Y.K x qual params body scope dvs kws f fd) (S : FnScope N ps scope) (len : ∀ ds G Q E, sp ds G Q E → ds.length = ps.length)
    (walk : ∀ (cdv : Value) (A : Around) (outer : List Env) (s : Shared) (H : Hp) (E' : DX) (E : XK), Room k (A.deeper (envOfC qual scope s.heap.objs.size f cdv)) → KX Y H E' E →
      PSs (cxD Y mg base N qual scope f cdv A outer s H E) body (lS Y (t E')))
    (vc : ∀ ds G Q E, sp ds G Q E → t (downX E) { nx := fun _ G' => down Q .non G', rt := down Q } (dstart N ds) G) : FnD Y mg base (k + 1) f fd ps sp := by
  refine F.ok S (fun vs H Q E ⟨ds, G, Q', E', p, _, q, _⟩ => by rw [← p.len]; exact len _ _ _ _ q) fun cdv A outer s H vs Q E hr ⟨ds, G, Q', E', p, r, q, kv, kx⟩ => ?_
  refine ⟨_, walk cdv A outer s H (downX E') E hr kx.down, dstart N ds, G, _, srep_start p, r, vc _ _ _ _ q, ⟨fun τ1 G1 σ1 H1 q1 x1 _ r1 => kv.down _ _ _ _ q1 x1 r1 rfl, kv.down, fun _ _ _ _ q => q.elim, fun _ _ _ _ q => q.elim⟩⟩
end

/-! ### calls -/
section
variable {X : Cx} {e o : Expr} {es : List Expr} {te : DE} {t : DA} {x m : Str} {p pos apos : Pos} {k : Nat} {ps : List Str} {dfl : List D} {sp : DSp} {E' : DX}
theorem Inv.ext0 {pins : List (Addr × Obj)} {σ : St} {H : Hp} {s : Shared} (I : Inv X pins σ H s) : Ext X.H_0 H := ⟨I.base.tups, I.base.frzs⟩
theorem _root_.L2.PE.weakI {X : Cx} {e : Expr} {t u : TE} (h : PE X e t) (w : ∀ pins s σ H Q, Inv X pins σ H s → u σ H Q → t σ H Q) : PE X e u := ⟨fun pins s σ H Q I hw => h.run pins s σ H Q I (w _ _ _ _ _ I hw)⟩
/-- what may be let out here: E' says what E wants -/
structure XOk (X : Cx) (E' : DX) (E : XK) : Prop where
  kx : KX (wd X) X.H_0 E' E
  ps : Passes (L2.CX X.prog X.w) X E
theorem XOk.none {X : Cx} : XOk X DX0 E0 := ⟨KX.zero, passL⟩
/-- in a def's own body -/
theorem XOk.body {Y : Wd} {mg : Str → Option Value} {base : Heap} {N : List Str} {qual : Str} {scope : Scope} {f : Addr} {cd : Value} {A : Around} {outer : List Env} {s : Shared} {H : Hp} {E : XK} (kx : KX Y H E' E) : XOk (cxD Y mg base N qual scope f cd A outer s H E) E' E :=
  ⟨kx, passes_call (takes_of (E := E) rfl rfl rfl rfl) fun _ _ _ _ h => h⟩

def dCall (sp : DSp) (dfl : List D) (E' : DX) (t : DA) : DE := fun τ G Q => t τ G fun ds G1 => sp (ds ++ dfl) G1 Q E'
theorem lE_call {Y : Wd} {E : XK} {dvs : List V} {σ : St} {H : Hp} {Q : VK} (kx : KX Y H E' E) (hd : ∀ H, RpL Y.K H dfl dvs) (h : lE Y (dCall sp dfl E' t) σ H Q) : tCall (lSp Y sp) dvs E (lA Y t) σ H Q := by
  obtain ⟨τ, G, Q', sr, hr, q, kv⟩ := h
  exact ⟨τ, G, _, sr, hr, q, fun ds G1 vs H1 q1 x1 r1 p1 => ⟨ds ++ dfl, G1, Q', E', p1.app (hd H1), r1, q1, kv.ext x1, kx.ext x1⟩⟩
theorem E_call {E : XK} (g : GFn (wd X) X.mg X.base x k ps dfl sp) (hr : Room k X.A) (hx : XOk X E' E) (hg : Gl X x) (ha : PA X (e :: es) (lA (wd X) t)) (hdb : (x == ("__debug__" : Str)) = false := by decide)
    (he : starEach (e :: es) X.env = (false, eval e X.env) :: starEach es X.env := by rfl) (hpl : (backTo pos (starEach es X.env)).any (·.1) = false := by rfl) : PE X (.Call (.Name x p) (e :: es) [] pos) (lE (wd X) (dCall sp dfl E' t)) := by
  obtain ⟨f, fd, dvs, ds, F, hm, hk, hb, hd, hp⟩ := g.ex
  exact (pe_call F hr hg hm hk hb hd hx.ps ha hdb he hpl).weakI fun pins s σ H Q I h => lE_call (hx.kx.ext (Inv.ext0 I)) hp h
theorem E_call0 {E : XK} (g : GFn (wd X) X.mg X.base x k ps dfl sp) (hr : Room k X.A) (hx : XOk X E' E) (hg : Gl X x) (hdb : (x == ("__debug__" : Str)) = false := by decide) : PE X (.Call (.Name x p) [] [] pos) (lE (wd X) (dCall sp dfl E' dNil)) := by
  obtain ⟨f, fd, dvs, ds, F, hm, hk, hb, hd, hp⟩ := g.ex
  refine (pe_call0 F hr hg hm hk hb hd hx.ps hdb).weakI fun pins s σ H Q I h => ?_
  obtain ⟨τ, G, Q', sr, hr, q, kv⟩ := h
  exact ⟨dfl, G, Q', E', hp H, hr, q, kv, hx.kx.ext (Inv.ext0 I)⟩

/-! ### instances -/
/-- the field f of instances of C is plain -/
structure OkA (K : PySem.W.Frag) (C : Addr) (f : Str) : Prop where
  cl : Cls K C
  no : NoAttr K C f
def dFld (K : PySem.W.Frag) (f : Str) (te : DE) : DE := fun τ G Q => te τ G fun d G1 => match d with
  | .ref a => match G1 a with
    | some (.ins C fs) => OkA K C f ∧ match fs.lookup f with | some v => Q v G1 | none => False
    | _ => False
  | _ => False
theorem RpFs.look {K : PySem.W.Frag} {H : Hp} : ∀ {fs : List (Str × D)} {vs : List (Str × V)} {f : Str} {d : D}, RpFs K H fs vs → fs.lookup f = some d → ∃ v, vs.lookup f = some v ∧ Rp K H d v
  | [], vs, f, d, h, e => by simp at e
  | (g, d0) :: fs, vs, f, d, h, e => by
    obtain ⟨h1, v0, r0, h2, h3, h4⟩ := h
    cases vs with
    | nil => cases h2
    | cons w ws =>
      obtain ⟨g', v'⟩ := w
      have h1' : g :: fs.map (·.1) = g' :: ws.map (·.1) := h1
      injection h1' with a1 a2
      have h2' : v' :: ws.map (·.2) = v0 :: r0 := h2
      injection h2' with b1 b2
      subst a1; subst b1; subst b2
      rw [List.lookup_cons] at e ⊢
      cases c : f == g with
      | true =>
        rw [c] at e
        cases e
        exact ⟨v', rfl, h3⟩
      | false =>
        rw [c] at e
        exact RpFs.look (fs := fs) (vs := ws) ⟨a2, h4⟩ e
theorem RpFs.none {K : PySem.W.Frag} {H : Hp} : ∀ {fs : List (Str × D)} {vs : List (Str × V)} {f : Str}, RpFs K H fs vs → fs.lookup f = none → vs.lookup f = none
  | [], vs, f, h, e => by
    have : vs = [] := by have := h.1; simpa using this.symm
    rw [this]; rfl
  | (g, d0) :: fs, vs, f, h, e => by
    obtain ⟨h1, v0, r0, h2, h3, h4⟩ := h
    cases vs with
    | nil => rfl
    | cons w ws =>
      obtain ⟨g', v'⟩ := w
      have h1' : g :: fs.map (·.1) = g' :: ws.map (·.1) := h1
      injection h1' with a1 a2
      have h2' : v' :: ws.map (·.2) = v0 :: r0 := h2
      injection h2' with b1 b2
      subst a1; subst b1; subst b2
      rw [List.lookup_cons] at e ⊢
      cases c : f == g with
      | true => rw [c] at e; cases e
      | false =>
        rw [c] at e
        exact RpFs.none (fs := fs) (vs := ws) ⟨a2, h4⟩ e
def putD (f : Str) (v : D) : List (Str × D) → List (Str × D)
  | [] => [(f, v)]
  | (g, x) :: r => if g = f then (g, v) :: r else (g, x) :: putD f v r
theorem RpFs.put {K : PySem.W.Frag} {H : Hp} {f : Str} {d : D} {v : V} (hv : Rp K H d v) : ∀ {fs : List (Str × D)} {vs : List (Str × V)}, RpFs K H fs vs → RpFs K H (putD f d fs) (putF f v vs)
  | [], vs, h => by
    have e : vs = [] := by have := h.1; simpa using this.symm
    subst e
    exact ⟨rfl, RpL.cons hv RpL.nil⟩
  | (g, d0) :: fs, vs, h => by
    obtain ⟨h1, v0, r0, h2, h3, h4⟩ := h
    cases vs with
    | nil => cases h2
    | cons w ws =>
      obtain ⟨g', v'⟩ := w
      have h1' : g :: fs.map (·.1) = g' :: ws.map (·.1) := h1
      injection h1' with a1 a2
      have h2' : v' :: ws.map (·.2) = v0 :: r0 := h2
      injection h2' with b1 b2
      subst a1; subst b1; subst b2
      unfold putD putF
      by_cases c : g = f
      · rw [if_pos c, if_pos c]
        exact ⟨by simp [a2], RpL.cons hv h4⟩
      · rw [if_neg c, if_neg c]
        have ih := RpFs.put (f := f) hv (fs := fs) (vs := ws) ⟨a2, h4⟩
        exact ⟨by simp [ih.1], RpL.cons h3 ih.2⟩
theorem E_fld {f : Str} (he : PE X e (lE (wd X) te)) (hb : attributeBase e f X.env (eval e X.env) = eval e X.env := by rfl) : PE X (.Attribute e f pos) (lE (wd X) (dFld X.K f te)) :=
  (pe_fld he hb).weak fun σ H Q h => by
    obtain ⟨τ, G, Q', sr, hr, q, k⟩ := h
    refine ⟨τ, G, _, sr, hr, q, fun d G1 v H1 q1 x1 r1 p1 => ?_⟩
    cases d with
    | ref a =>
      cases p1
      simp only at q1
      split at q1
      · rename_i C fs e1
        obtain ⟨ok, q1⟩ := q1
        split at q1
        · rename_i u e2
          obtain ⟨dx, vs, h1, h2⟩ := r1 _ _ e1
          obtain ⟨v, e3, e4⟩ := h2.look e2
          exact ⟨a, C, dx, vs, v, rfl, h1, ok.cl, ok.no, e3, (k.ext x1).here q1 r1 e4⟩
        · exact q1.elim
      · exact q1.elim
    | _ => exact q1.elim
/-- o.f = v -/
def dPutF (K : PySem.W.Frag) (f : Str) (to tv : DE) : DS := fun D τ G => tv τ G fun v G1 => to τ G1 fun d G2 => match d with
  | .ref a => match G2 a with
    | some (.ins C fs) => OkA K C f ∧ fs.length < 1000 ∧ D.nx τ (dup G2 a (.ins C (putD f v fs)))
    | _ => False
  | _ => False
theorem S_fld {f : Str} {value : Expr} {tv : DE} {pos' : Pos} (ho : PE X o (lE (wd X) te)) (hv : PE X value (lE (wd X) tv)) (hs : swapsWith value (some (.Attribute o f pos')) pos.line X.env = pure false := by rfl) : PS X (.Assign [.Attribute o f pos'] value pos) (lS (wd X) (dPutF X.K f te tv)) :=
  (ps_fld ho hv hs).weak fun E σ H h => by
    obtain ⟨τ, G, D', sr, hr, q, k⟩ := h
    refine ⟨τ, G, _, sr, hr, q, fun d G1 v H1 q1 x1 r1 p1 => ⟨τ, G1, _, sr.ext x1, r1, q1, fun d2 G2 v2 H2 q2 x2 r2 p2 => ?_⟩⟩
    cases d2 with
    | ref a =>
      cases p2
      simp only at q2
      split at q2
      · rename_i C fs e1
        obtain ⟨ok, hl, q2⟩ := q2
        obtain ⟨dx, vs, h1, h2⟩ := r2 _ _ e1
        have x3 : Ext H2 (upd H2 a (.ins C dx (putF f v vs))) := Ext.put h1 (fun _ z => by cases z) (fun _ _ z => by cases z)
        refine ⟨a, C, dx, vs, rfl, h1, ok.cl, ok.no, ?_, k.nx _ _ _ _ q2 ((x1.trans x2).trans x3) (sr.ext ((x1.trans x2).trans x3)) (r2.put x3 ⟨dx, _, upd_same, (h2.put (p1.ext x2)).ext x3⟩)⟩
        have := congrArg List.length h2.1
        simp only [List.length_map] at this
        omega
      · exact q2.elim
    | _ => exact q2.elim
/-- a def called as a method of an instance of C -/
structure MFn (Y : Wd) (mg : Str → Option Value) (base : Heap) (C : Addr) (m : Str) (k : Nat) (ps : List Str) (dfl : List D) (sp : DSp) : Prop where
  cl : Cls Y.K C
  ex : ∃ f fd dvs ds, FnD Y mg base k f fd ps sp ∧ Meth Y.K C m f ∧ Binds Y.K fd ps ds ∧ Vals dvs ds ∧ ∀ H, RpL Y.K H dfl dvs
def dMeth (C : Addr) (m : Str) (sp : DSp) (dfl : List D) (E' : DX) (to : DE) (t : DA) : DE := fun τ G Q => to τ G fun d G1 => match d with
  | .ref a => match G1 a with
    | some (.ins C' fs) => C' = C ∧ fs.lookup m = none ∧ t τ G1 fun ds G2 => sp (.ref a :: (ds ++ dfl)) G2 Q E'
    | _ => False
  | _ => False
theorem lE_meth {Y : Wd} {C : Addr} {E : XK} {dvs : List V} {σ : St} {H : Hp} {Q : VK} (kx : KX Y H E' E) (hd : ∀ H, RpL Y.K H dfl dvs) (h : lE Y (dMeth C m sp dfl E' te t) σ H Q) : tMeth C m (lSp Y sp) dvs E (lE Y te) (lA Y t) σ H Q := by
  obtain ⟨τ, G, Q', sr, hr, q, kv⟩ := h
  refine ⟨τ, G, _, sr, hr, q, fun d G1 v H1 q1 x1 r1 p1 => ?_⟩
  cases d with
  | ref a =>
    cases p1
    simp only at q1
    split at q1
    · rename_i C' fs e1
      obtain ⟨rfl, nm, q1⟩ := q1
      obtain ⟨dx, vs, h1, h2⟩ := r1 _ _ e1
      exact ⟨a, dx, vs, rfl, h1, h2.none nm, τ, G1, _, sr.ext x1, r1, q1, fun ds G2 us H2 q2 x2 r2 p2 => ⟨.ref a :: (ds ++ dfl), G2, Q', E', RpL.cons rfl (p2.app (hd H2)), r2, q2, kv.ext (x1.trans x2), kx.ext (x1.trans x2)⟩⟩
    · exact q1.elim
  | _ => exact q1.elim
theorem E_meth {C : Addr} {E : XK} {pl : Sem Bool} (g : MFn (wd X) X.mg X.base C m k ps dfl sp) (hr : Room k X.A) (hx : XOk X E' E) (ho : PE X o (lE (wd X) te)) (ha : PA X (e :: es) (lA (wd X) t))
    (hst : starEach (e :: es) X.env = (false, eval e X.env) :: starEach es X.env := by rfl) (hpl : (backTo pos (starEach es X.env)).any (·.1) = false := by rfl)
    (ht : eval (.Call (.Attribute o m apos) (e :: es) [] pos) X.env = (do
      let ov ← eval o X.env
      standAt apos.atName
      let (f, first) ← holding [ov] (getMethod ov m pl)
      callWith pos f first (backTo pos (starEach (e :: es) X.env)) (backToKw pos (keywordEach [] X.env))) := by rfl) : PE X (.Call (.Attribute o m apos) (e :: es) [] pos) (lE (wd X) (dMeth C m sp dfl E' te t)) := by
  obtain ⟨f, fd, dvs, ds, F, hm, hb, hd, hp⟩ := g.ex
  exact (pe_meth ho g.cl hm F hr hb hd hx.ps ha hst hpl ht).weakI fun pins s σ H Q I h => lE_meth (hx.kx.ext (Inv.ext0 I)) hp h
theorem E_meth0 {C : Addr} {E : XK} {pl : Sem Bool} (g : MFn (wd X) X.mg X.base C m k ps dfl sp) (hr : Room k X.A) (hx : XOk X E' E) (ho : PE X o (lE (wd X) te))
    (ht : eval (.Call (.Attribute o m apos) [] [] pos) X.env = (do
      let ov ← eval o X.env
      standAt apos.atName
      let (f, first) ← holding [ov] (getMethod ov m pl)
      callWith pos f first (backTo pos (starEach [] X.env)) (backToKw pos (keywordEach [] X.env))) := by rfl) : PE X (.Call (.Attribute o m apos) [] [] pos) (lE (wd X) (dMeth C m sp dfl E' te dNil)) := by
  obtain ⟨f, fd, dvs, ds, F, hm, hb, hd, hp⟩ := g.ex
  refine (pe_meth0 ho g.cl hm F hr hb hd hx.ps ht).weakI fun pins s σ H Q I h => ?_
  have kx := hx.kx.ext (Inv.ext0 I)
  obtain ⟨τ, G, Q', sr, hr, q, kv⟩ := h
  refine ⟨τ, G, _, sr, hr, q, fun d G1 v H1 q1 x1 r1 p1 => ?_⟩
  cases d with
  | ref a =>
    cases p1
    simp only at q1
    split at q1
    · rename_i C' fs e1
      obtain ⟨rfl, nm, q1⟩ := q1
      obtain ⟨dx, vs, h1, h2⟩ := r1 _ _ e1
      exact ⟨a, dx, vs, rfl, h1, h2.none nm, .ref a :: dfl, G1, Q', E', RpL.cons rfl (hp H1), r1, q1, kv.ext x1, kx.ext x1⟩
    · exact q1.elim
  | _ => exact q1.elim
/-- C(..) -/
structure CFn (Y : Wd) (mg : Str → Option Value) (base : Heap) (x : Str) (C : Addr) (k : Nat) (ps : List Str) (dfl : List D) (sp : DSp) : Prop where
  at_ : mg x = some (.ref C)
  ex : ∃ f fd dvs ds, FnD Y mg base k f fd ps sp ∧ Mk Y.K C f ∧ Binds Y.K fd ps ds ∧ Vals dvs ds ∧ ∀ H, RpL Y.K H dfl dvs
def dMake (C : Addr) (sp : DSp) (dfl : List D) (E' : DX) (t : DA) : DE := fun τ G Q => t τ G fun ds G1 => ∀ p, G1 p = none → sp (.ref p :: (ds ++ dfl)) (dup G1 p (.ins C [])) (fun d G2 => d = .non ∧ Q (.ref p) G2) E'
theorem lE_make {Y : Wd} {C : Addr} {E : XK} {dvs : List V} {σ : St} {H : Hp} {Q : VK} (kx : KX Y H E' E) (hd : ∀ H, RpL Y.K H dfl dvs) (h : lE Y (dMake C sp dfl E' t) σ H Q) : tMake C (lSp Y sp) dvs E (lA Y t) σ H Q := by
  obtain ⟨τ, G, Q', sr, hr, q, kv⟩ := h
  refine ⟨τ, G, _, sr, hr, q, fun ds G1 vs H1 q1 x1 r1 p1 x dx nx ndx ne => ?_⟩
  have y1 : Ext H1 (upd H1 dx (.own x)) := Ext.new ndx
  have nx' : upd H1 dx (.own x) x = none := by rw [upd_ne (Ne.symm ne)]; exact nx
  have y2 : Ext (upd H1 dx (.own x)) (upd (upd H1 dx (.own x)) x (.ins C dx [])) := Ext.new nx'
  have y := y1.trans y2
  refine ⟨.ref x :: (ds ++ dfl), dup G1 x (.ins C []), _, E', RpL.cons rfl ((p1.ext y).app (hd _)), (r1.hid ndx).new nx' ⟨dx, [], upd_same, rfl, RpL.nil⟩, q1 x (r1.free nx), fun d G2 v H2 q2 x2 r2 p2 => ?_, kx.ext (x1.trans y)⟩
  obtain ⟨rfl, q2⟩ := q2
  exact ⟨p2, kv _ _ _ _ q2 ((x1.trans y).trans x2) r2 rfl⟩
theorem E_make {C : Addr} {E : XK} (g : CFn (wd X) X.mg X.base x C k ps dfl sp) (hr : Room (k + 1) X.A) (hx : XOk X E' E) (hg : Gl X x) (ha : PA X (e :: es) (lA (wd X) t)) (hdb : (x == ("__debug__" : Str)) = false := by decide)
    (he : starEach (e :: es) X.env = (false, eval e X.env) :: starEach es X.env := by rfl) (hpl : (backTo pos (starEach es X.env)).any (·.1) = false := by rfl) : PE X (.Call (.Name x p) (e :: es) [] pos) (lE (wd X) (dMake C sp dfl E' t)) := by
  obtain ⟨f, fd, dvs, ds, F, hM, hb, hd, hp⟩ := g.ex
  exact (pe_make hM F hr hg g.at_ hb hd hx.ps ha hdb he hpl).weakI fun pins s σ H Q I h => lE_make (hx.kx.ext (Inv.ext0 I)) hp h

/-! ### built-in functions and types called -/
abbrev DCR := List D → DH → DVK → Prop
def lC (Y : Wd) (r : DCR) : List V → Hp → VK → Prop := fun vs H Q => ∃ ds G Q', RpL Y.K H ds vs ∧ HRep Y H G ∧ r ds G Q' ∧ KV1 Y H Q' Q
abbrev CallD (X : Cx) (f : Value) (r : DCR) : Prop := CallR X f (lC (wd X) r)
def dCB (r : DCR) (t : DA) : DE := fun τ G Q => t τ G fun ds G1 => r ds G1 Q
theorem lE_cb {Y : Wd} {r : DCR} {σ : St} {H : Hp} {Q : VK} (h : lE Y (dCB r t) σ H Q) : tCB (lC Y r) (lA Y t) σ H Q := by
  obtain ⟨τ, G, Q', sr, hr, q, kv⟩ := h
  exact ⟨τ, G, _, sr, hr, q, fun ds G1 vs H1 q1 x1 r1 p1 => ⟨ds, G1, Q', p1, r1, q1, kv.ext x1⟩⟩
theorem E_cb {id : String} {r : DCR} (hc : CallD X (.builtin id) r) (hg : Gl X x) (hm : X.mg x = none) (hv : bootBuiltins x = some (.builtin id)) (ha : PA X (e :: es) (lA (wd X) t)) (hn : x ≠ "__name__" := by decide) (hdb : (x == ("__debug__" : Str)) = false := by decide)
    (he : starEach (e :: es) X.env = (false, eval e X.env) :: starEach es X.env := by rfl) (hpl : (backTo pos (starEach es X.env)).any (·.1) = false := by rfl) : PE X (.Call (.Name x p) (e :: es) [] pos) (lE (wd X) (dCB r t)) :=
  (pe_callB hc hg hm hv ha hn hdb he hpl).weak fun _ _ _ h => lE_cb h
theorem E_ct {T : String} {r : DCR} (hc : CallD X (.type T) r) (hg : Gl X x) (hm : X.mg x = none) (hv : bootBuiltins x = some (.type T)) (ha : PA X (e :: es) (lA (wd X) t)) (hn : x ≠ "__name__" := by decide) (hdb : (x == ("__debug__" : Str)) = false := by decide)
    (he : starEach (e :: es) X.env = (false, eval e X.env) :: starEach es X.env := by rfl) (hpl : (backTo pos (starEach es X.env)).any (·.1) = false := by rfl) : PE X (.Call (.Name x p) (e :: es) [] pos) (lE (wd X) (dCB r t)) :=
  (pe_callTy hc hg hm hv ha hn hdb he hpl).weak fun _ _ _ h => lE_cb h
/-! ### subscripts -/
abbrev IxD (X : Cx) (r : DR2) : Prop := IxR X (lR (wd X) r)
theorem E_ix {a b : Expr} {ta tb : DE} {r : DR2} (hi : IxD X r) (ha : PE X a (lE (wd X) ta)) (hb : PE X b (lE (wd X) tb)) (hs : PlainIx b := by intro _ _; rfl) : PE X (.Subscript a b pos) (lE (wd X) (dOp r ta tb)) := (pe_ix hi ha hb hs).weak fun _ _ _ q => lE_op q
/-! ### methods of built-in types -/
abbrev DMR := D → List D → DH → DVK → Prop
def lM (Y : Wd) (r : DMR) : V → List V → Hp → VK → Prop := fun x vs H Q => ∃ d ds G Q', Rp Y.K H d x ∧ RpL Y.K H ds vs ∧ HRep Y H G ∧ r d ds G Q' ∧ KV1 Y H Q' Q
abbrev MtD (X : Cx) (id : String) (r : DMR) : Prop := MtR X id (lM (wd X) r)
def isTy (T : String) (G : DH) : D → Prop
  | .str _ => T = "str"
  | .int _ => T = "int"
  | .ref a => match G a with | some (.lst _) => T = "list" | some (.rol _) => T = "list" | _ => False
  | _ => False
theorem tyV_of {Y : Wd} {H : Hp} {G : DH} {T : String} {d : D} {v : V} (r : HRep Y H G) (p : Rp Y.K H d v) (h : isTy T G d) : tyV Y.K T v H := by
  cases d with
  | str x => cases p; exact h
  | int i => cases p; exact h
  | ref a =>
    cases p
    simp only [isTy] at h
    split at h
    · rename_i xs e
      obtain ⟨vs, h1, _⟩ := r _ _ e
      exact .inl ⟨h, vs, SqL.of h1⟩
    · rename_i xs e
      obtain ⟨o, vs, h1, _⟩ := r _ _ e
      exact .inl ⟨h, vs, .inl (.inr ⟨o, h1⟩)⟩
    · exact h.elim
  | _ => exact h.elim
def dBM (T : String) (r : DMR) (to : DE) (t : DA) : DE := fun τ G Q => to τ G fun d G1 => isTy T G1 d ∧ t τ G1 fun ds G2 => r d ds G2 Q
theorem lE_bm {Y : Wd} {T : String} {r : DMR} {σ : St} {H : Hp} {Q : VK} (h : lE Y (dBM T r te t) σ H Q) : tBM Y.K T (lM Y r) (lE Y te) (lA Y t) σ H Q := by
  obtain ⟨τ, G, Q', sr, hr, q, kv⟩ := h
  exact ⟨τ, G, _, sr, hr, q, fun d G1 v H1 q1 x1 r1 p1 => ⟨tyV_of r1 p1 q1.1, τ, G1, _, sr.ext x1, r1, q1.2, fun ds G2 vs H2 q2 x2 r2 p2 => ⟨d, ds, G2, Q', p1.ext x2, p2, r2, q2, kv.ext (x1.trans x2)⟩⟩⟩
theorem E_bm {T id : String} {r : DMR} {name : Str} (pa : PlainAttrs T) (slot : Slot T name id) (hty : typeOf (.builtin id) = pure (.type "method_descriptor")) (hm : MtD X id r) (ho : PE X o (lE (wd X) te)) (ha : PA X (e :: es) (lA (wd X) t))
    (hbase : attributeBase o name X.env (eval o X.env) = eval o X.env := by rfl)
    (hfew : ((backTo pos (starEach (e :: es) X.env)).all (fun x => !x.1) && (backToKw pos (keywordEach [] X.env)).all (fun x => x.1.isSome)
      && decide ((e :: es).length + ([] : List Keyword).length + (if ([] : List Keyword).isEmpty then 0 else 1) < 30)) = true := by rfl)
    (hline : (apos.endLine == pos.line) = true := by rfl) (hs : starEach (e :: es) X.env = (false, eval e X.env) :: starEach es X.env := by rfl) (hplain : (backTo pos (starEach es X.env)).any (·.1) = false := by rfl) :
    PE X (.Call (.Attribute o name apos) (e :: es) [] pos) (lE (wd X) (dBM T r te t)) := (pe_bm pa slot hty hm ho ha hbase hfew hline hs hplain).weak fun _ _ _ h => lE_bm h
def dBM0 (T : String) (r : DMR) (to : DE) : DE := fun τ G Q => to τ G fun d G1 => isTy T G1 d ∧ r d [] G1 Q
theorem E_bm0 {T id : String} {r : DMR} {name : Str} (pa : PlainAttrs T) (slot : Slot T name id) (hty : typeOf (.builtin id) = pure (.type "method_descriptor")) (hm : MtD X id r) (ho : PE X o (lE (wd X) te))
    (hbase : attributeBase o name X.env (eval o X.env) = eval o X.env := by rfl) (hline : (apos.endLine == pos.line) = true := by rfl) : PE X (.Call (.Attribute o name apos) [] [] pos) (lE (wd X) (dBM0 T r te)) :=
  (pe_bm0 pa slot hty hm ho hbase hline).weak fun σ H Q h => by
    obtain ⟨τ, G, Q', sr, hr, q, kv⟩ := h
    exact ⟨τ, G, _, sr, hr, q, fun d G1 v H1 q1 x1 r1 p1 => ⟨tyV_of r1 p1 q1.1, d, [], G1, Q', p1, RpL.nil, r1, q1.2, kv.ext x1⟩⟩
end
end L2.DL

set_option Elab.async false
set_option linter.all false
set_option maxRecDepth 100000
set_option maxHeartbeats 1000000
/-! DL5: operators, comparisons, built-ins by data. -/
namespace L2.DL
open PySem PySem.Spec PyProof.Rows

section
variable {X : Cx}
theorem line_eq : (sizeLine : Nat) = 16777216 := sizeLine_eq
/-! ### results -/
theorem fin_new {Y : Wd} {H : Hp} {G : DH} {Q' : DVK} {Q : VK} {p : Addr} {xs : List D} {vs : List V} (k : KV1 Y H Q' Q) (r : HRep Y H G) (rp : RpL Y.K H xs vs) (hp : H p = none) (q : ∀ p, G p = none → Q' (.ref p) (dup G p (.lst xs))) : Q (.ref p) (upd H p (.lst vs)) :=
  k _ _ _ _ (q p (r.free hp)) (Ext.new hp) (r.new hp ⟨vs, upd_same, rp.ext (Ext.new hp)⟩) rfl
theorem fin_tup {Y : Wd} {H : Hp} {G : DH} {Q' : DVK} {Q : VK} {p : Addr} {xs : List D} {vs : List V} (k : KV1 Y H Q' Q) (r : HRep Y H G) (rp : RpL Y.K H xs vs) (hp : H p = none) (q : Q' (.tup xs) G) : Q (.ref p) (upd H p (.tup vs)) :=
  k _ _ _ _ q (Ext.new hp) (r.hid hp) ⟨p, vs, rfl, SqT.of upd_same, rp.ext (Ext.new hp)⟩
theorem fin_put {Y : Wd} {H : Hp} {G : DH} {Q' : DVK} {Q : VK} {p : Addr} {xs ys : List D} {vs us : List V} {d : D} {v : V} (k : KV1 Y H Q' Q) (r : HRep Y H G) (h : H p = some (.lst us)) (rp : RpL Y.K H xs vs) (rv : Rp Y.K H d v) (q : Q' d (dup G p (.lst xs))) : Q v (upd H p (.lst vs)) := by
  have x : Ext H (upd H p (.lst vs)) := Ext.put h (fun _ z => by cases z) (fun _ _ z => by cases z)
  exact k _ _ _ _ q x (r.put x ⟨vs, upd_same, rp.ext x⟩) (rv.ext x)

/-! ### arithmetic -/
def rAdd : DR2 := fun x y G Q => match x, y with
  | .int i, .int j => Q (.int (i + j)) G
  | .str a, .str b => a.length + b.length ≤ 16777216 ∧ Q (.str (a ++ b)) G
  | .tup xs, .tup ys => xs.length + ys.length ≤ 16777216 ∧ Q (.tup (xs ++ ys)) G
  | .ref a, .ref b => match G a, G b with
    | some (.lst xs), some (.lst ys) => xs.length + ys.length ≤ 16777216 ∧ ∀ p, G p = none → Q (.ref p) (dup G p (.lst (xs ++ ys)))
    | _, _ => False
  | _, _ => False
theorem o_add : OpD X (binaryOp .Add) rAdd := by
  intro pins s σ H x y v u Q I rx ry ⟨d, e, G, Q', pd, pe, hr, q, k⟩
  cases d with
  | int i =>
    cases e with
    | int j => cases pd; cases pe; exact op_add pins s σ H _ _ v u Q I rx ry ⟨i, j, rfl, rfl, k.here q hr rfl⟩
    | _ => exact q.elim
  | str a =>
    cases e with
    | str b => cases pd; cases pe; exact op_add_str pins s σ H _ _ v u Q I rx ry ⟨a, b, rfl, rfl, by rw [line_eq]; exact q.1, k.here q.2 hr rfl⟩
    | _ => exact q.elim
  | tup xs =>
    cases e with
    | tup ys =>
      obtain ⟨a, vs, rfl, h1, h2⟩ := pd
      obtain ⟨b, us, rfl, h3, h4⟩ := pe
      obtain ⟨hz, q⟩ := q
      refine op_catA pins s σ H _ _ v u Q I rx ry ⟨a, b, vs, us, rfl, rfl, h1, h3, by rw [line_eq, ← h2.len, ← h4.len]; exact hz, fun e => ?_, fun n e => ?_, fun n1 n2 p hp => fin_tup k hr (h2.app h4) hp q⟩
      · subst e
        have e2 : xs = [] := by cases xs with | nil => rfl | cons _ _ => obtain ⟨_, _, z, _⟩ := h2; cases z
        subst e2
        exact k.here q hr ⟨b, us, rfl, h3, h4⟩
      · subst e
        have e2 : ys = [] := by cases ys with | nil => rfl | cons _ _ => obtain ⟨_, _, z, _⟩ := h4; cases z
        subst e2
        rw [List.append_nil] at q
        exact k.here q hr ⟨a, vs, rfl, h1, h2⟩
    | _ => exact q.elim
  | ref a =>
    cases e with
    | ref b =>
      cases pd; cases pe
      simp only [rAdd] at q
      split at q
      · rename_i xs ys e1 e2
        obtain ⟨vs, h1, h2⟩ := hr _ _ e1
        obtain ⟨us, h3, h4⟩ := hr _ _ e2
        exact op_cat pins s σ H _ _ v u Q I rx ry ⟨a, b, vs, us, rfl, rfl, h1, h3, by rw [line_eq, ← h2.len, ← h4.len]; exact q.1, fun p hp => fin_new k hr (h2.app h4) hp q.2⟩
      · exact q.elim
    | _ => exact q.elim
  | _ => exact q.elim
def rInt (C : Int → Int → Prop) (g : Int → Int → D) : DR2 := fun x y G Q => match x, y with | .int i, .int j => C i j ∧ Q (g i j) G | _, _ => False
theorem o_int {f : Value → Value → Sem Value} {C : Int → Int → Prop} {g : Int → Int → V} {g' : Int → Int → D} (h : OpR X f (rI C g)) (hg : ∀ H i j, Rp X.K H (g' i j) (g i j)) : OpD X f (rInt C g') := by
  intro pins s σ H x y v u Q I rx ry ⟨d, e, G, Q', pd, pe, hr, q, k⟩
  cases d with
  | int i =>
    cases e with
    | int j => cases pd; cases pe; exact h pins s σ H _ _ v u Q I rx ry ⟨i, j, rfl, rfl, q.1, k.here q.2 hr (hg _ i j)⟩
    | _ => exact q.elim
  | _ => exact q.elim
theorem o_int0 {f : Value → Value → Sem Value} {g : Int → Int → V} {g' : Int → Int → D} (h : OpR X f (rI0 g)) (hg : ∀ H i j, Rp X.K H (g' i j) (g i j)) : OpD X f (rInt (fun _ _ => True) g') := by
  intro pins s σ H x y v u Q I rx ry ⟨d, e, G, Q', pd, pe, hr, q, k⟩
  cases d with
  | int i =>
    cases e with
    | int j => cases pd; cases pe; exact h pins s σ H _ _ v u Q I rx ry ⟨i, j, rfl, rfl, k.here q.2 hr (hg _ i j)⟩
    | _ => exact q.elim
  | _ => exact q.elim
abbrev rSubD : DR2 := rInt (fun _ _ => True) fun i j => .int (i - j)
abbrev rMulD : DR2 := rInt CMul fun i j => .int (i * j)
abbrev rDivD : DR2 := rInt CDiv fun i j => .int (i / j)
abbrev rModD : DR2 := rInt (fun _ j => 0 < j) fun i j => .int (i % j)
abbrev rPowD : DR2 := rInt CPow fun i j => .int (i ^ j.toNat)
abbrev rShlD : DR2 := rInt CPow fun i j => .int (i * 2 ^ j.toNat)
abbrev rShrD : DR2 := rInt (fun _ j => 0 ≤ j) fun i j => .int (i / 2 ^ j.toNat)
abbrev rAndD : DR2 := rInt (fun _ _ => True) fun i j => .int (Builtin.bitAnd i j)
abbrev rOrD : DR2 := rInt (fun _ _ => True) fun i j => .int (Builtin.bitOr i j)
theorem o_sub : OpD X (binaryOp .Sub) rSubD := o_int0 op_sub fun _ _ _ => rfl
theorem o_mul : OpD X (binaryOp .Mult) rMulD := o_int op_mul fun _ _ _ => rfl
theorem o_div : OpD X (binaryOp .FloorDiv) rDivD := o_int op_fdiv fun _ _ _ => rfl
theorem o_mod : OpD X (binaryOp .Mod) rModD := o_int op_mod fun _ _ _ => rfl
theorem o_pow : OpD X (binaryOp .Pow) rPowD := o_int op_pow fun _ _ _ => rfl
theorem o_shl : OpD X (binaryOp .LShift) rShlD := o_int op_shl fun _ _ _ => rfl
theorem o_shr : OpD X (binaryOp .RShift) rShrD := o_int op_shr fun _ _ _ => rfl
theorem o_band : OpD X (binaryOp .BitAnd) rAndD := o_int0 op_and fun _ _ _ => rfl
theorem o_bor : OpD X (binaryOp .BitOr) rOrD := o_int0 op_or fun _ _ _ => rfl
/-- a list * n -/
def rRepD : DR2 := fun x y G Q => match x, y with
  | .ref a, .int i => match G a with | some (.lst xs) => (-(2 ^ 63) ≤ i ∧ i < 2 ^ 63 ∧ xs.length * i.toNat ≤ 16777216) ∧ ∀ p, G p = none → Q (.ref p) (dup G p (.lst (List.replicate i.toNat xs).flatten)) | _ => False
  | _, _ => False
theorem RpL.rep {K : PySem.W.Frag} {H : Hp} {ds : List D} {vs : List V} (h : RpL K H ds vs) : ∀ n, RpL K H (List.replicate n ds).flatten (List.replicate n vs).flatten
  | 0 => RpL.nil
  | n + 1 => by
    rw [List.replicate_succ, List.replicate_succ, List.flatten_cons, List.flatten_cons]
    exact h.app (RpL.rep h n)
theorem o_rep : OpD X (binaryOp .Mult) rRepD := by
  intro pins s σ H x y v u Q I rx ry ⟨d, e, G, Q', pd, pe, hr, q, k⟩
  cases d with
  | ref a =>
    cases e with
    | int i =>
      cases pd; cases pe
      simp only [rRepD] at q
      split at q
      · rename_i xs e1
        obtain ⟨vs, h1, h2⟩ := hr _ _ e1
        exact op_rep pins s σ H _ _ v u Q I rx ry ⟨a, i, vs, rfl, rfl, h1, q.1.1, q.1.2.1, by rw [line_eq, ← h2.len]; exact q.1.2.2, fun p hp => fin_new k hr (h2.rep _) hp q.2⟩
      · exact q.elim
    | _ => exact q.elim
  | _ => exact q.elim
def rNegD : D → DH → DVK → Prop := fun x G Q => match x with | .int i => Q (.int (-i)) G | _ => False
theorem u_neg : UnR X (unaryOp .USub) (lU (wd X) rNegD) := by
  intro pins s σ H x v Q I rx ⟨d, G, Q', pd, hr, q, k⟩
  cases d with
  | int i => cases pd; exact un_neg pins s σ H _ v Q I rx ⟨i, rfl, k.here q hr rfl⟩
  | _ => exact q.elim

/-! ### comparisons -/
def rOrd (g : Int → Int → Bool) : DR2 := rInt (fun _ _ => True) fun i j => .bl (g i j)
abbrev rLtD : DR2 := rInt (fun _ _ => True) fun i j => .bl (decide (i < j))
abbrev rLeD : DR2 := rInt (fun _ _ => True) fun i j => .bl (decide (i ≤ j))
abbrev rGtD : DR2 := rInt (fun _ _ => True) fun i j => .bl (decide (j < i))
abbrev rGeD : DR2 := rInt (fun _ _ => True) fun i j => .bl (decide (j ≤ i))
theorem o_lt : OpD X (compareOp .Lt) rLtD := o_int0 op_lt fun _ _ _ => rfl
theorem o_le : OpD X (compareOp .LtE) rLeD := o_int0 op_le fun _ _ _ => rfl
theorem o_gt : OpD X (compareOp .Gt) rGtD := o_int0 op_gt fun _ _ _ => rfl
theorem o_ge : OpD X (compareOp .GtE) rGeD := o_int0 op_ge fun _ _ _ => rfl
def D.isN : D → Bool
  | .non => true
  | _ => false
def rIsN : DR2 := fun x y G Q => match y with | .non => Q (.bl x.isN) G | _ => False
def rNotN : DR2 := fun x y G Q => match y with | .non => Q (.bl (!x.isN)) G | _ => False
theorem isN_v {K : PySem.W.Frag} {H : Hp} {d : D} {v : V} (p : Rp K H d v) : decide (v = .non) = d.isN := by
  cases d with
  | tup xs => obtain ⟨a, vs, rfl, _⟩ := p; simp [D.isN]
  | _ => cases p; simp [D.isN]
theorem o_isN : OpD X (compareOp .Is) rIsN := by
  intro pins s σ H x y v u Q I rx ry ⟨d, e, G, Q', pd, pe, hr, q, k⟩
  cases e with
  | non => cases pe; exact op_isN pins s σ H _ _ v u Q I rx ry ⟨rfl, by rw [isN_v pd]; exact k.here q hr rfl⟩
  | _ => exact q.elim
theorem o_notN : OpD X (compareOp .IsNot) rNotN := by
  intro pins s σ H x y v u Q I rx ry ⟨d, e, G, Q', pd, pe, hr, q, k⟩
  cases e with
  | non => cases pe; exact op_notN pins s σ H _ _ v u Q I rx ry ⟨rfl, by rw [isN_v pd]; exact k.here q hr rfl⟩
  | _ => exact q.elim
end

/-! ### == of data -/
mutual
def D.nr : D → Bool
  | .ref _ => false
  | .tup xs => D.nrs xs
  | _ => true
def D.nrs : List D → Bool
  | [] => true
  | x :: xs => D.nr x && D.nrs xs
end
mutual
def D.dep : D → Nat
  | .tup xs => D.deps xs + 1
  | _ => 0
def D.deps : List D → Nat
  | [] => 0
  | x :: xs => max (D.dep x) (D.deps xs)
end
mutual
/-- == -/
def D.eqp : D → D → Bool
  | .non, .non => true
  | .bl a, .bl b => a == b
  | .bl a, .int j => (if a then 1 else 0) == j
  | .int i, .bl b => i == (if b then 1 else 0)
  | .int a, .int b => a == b
  | .str a, .str b => a == b
  | .tup xs, .tup ys => D.eqps xs ys
  | _, _ => false
def D.eqps : List D → List D → Bool
  | [], [] => true
  | x :: xs, y :: ys => D.eqp x y && D.eqps xs ys
  | _, _ => false
end
section
open SeqAt
variable {K : PySem.W.Frag} {H : Hp} {X : Cx}
theorem eqps_range (e : Nat → Bool) : ∀ (xs ys : List D), (∀ j (h1 : j < xs.length) (h2 : j < ys.length), e j = D.eqp xs[j] ys[j]) → ((List.range (min xs.length ys.length)).all e && xs.length == ys.length) = D.eqps xs ys
  | [], [], _ => by simp [D.eqps]
  | [], _ :: _, _ => by simp [D.eqps]
  | _ :: _, [], _ => by simp [D.eqps]
  | x :: xs, y :: ys, h => by
    have ih := eqps_range (fun j => e (j + 1)) xs ys fun j h1 h2 => by
      have := h (j + 1) (by simpa using h1) (by simpa using h2)
      simpa using this
    have h0 := h 0 (by simp) (by simp)
    simp only [List.length_cons, D.eqps]
    rw [← ih, show min (xs.length + 1) (ys.length + 1) = min xs.length ys.length + 1 by omega, List.range_succ_eq_map, List.all_cons, List.all_map, h0]
    simp only [List.getElem_cons_zero]
    have e3 : (xs.length + 1 == ys.length + 1) = (xs.length == ys.length) := by simp
    rw [e3, Bool.and_assoc]
    rfl
theorem eqAt_D {pins : List (Addr × Obj)} {σ : St} {s : Shared} (I : Inv X pins σ H s) : ∀ (n : Nat) (d e : D) (A : Around), A.units + n < cLine → D.nr d = true → D.nr e = true → D.dep d ≤ n → ∀ {x y : V} {v u : Value}, Rp X.K H d x → Rp X.K H e y → RelV x v → RelV y u → EqAt A s v u (D.eqp d e) := by
  have tupOf : ∀ {xs : List D} {x : V} {v : Value}, Rp X.K H (.tup xs) x → RelV x v → ∃ a its, v = .ref a ∧ s.heap.IsTuple a its := fun {xs x v} p r => by
    obtain ⟨a, vs, rfl, h1, h2⟩ := p
    cases r
    obtain ⟨its, _, ht, _⟩ := I.tuple h1
    exact ⟨a, _, rfl, ht⟩
  intro n
  induction n with
  | zero =>
    intro d e A hu nd ne hd x y v u pd pe rx ry
    have hu' : A.units < cLine := by omega
    cases d with
    | non =>
      cases pd; cases rx
      cases e with
      | non => cases pe; cases ry; exact EqAt.same _
      | bl b => cases pe; cases ry; exact EqAt.none_bool b
      | int b => cases pe; obtain ⟨t, rfl⟩ := ry; exact EqAt.none_int b t
      | str b => cases pe; obtain ⟨t, rfl⟩ := ry; exact EqAt.none_str b t
      | tup ys => obtain ⟨a, its, rfl, ht⟩ := tupOf pe ry; exact EqAt.none_tuple ht hu'
      | ref a => cases ne
    | bl a =>
      cases pd; cases rx
      cases e with
      | non => cases pe; cases ry; exact EqAt.bool_none a
      | bl b => cases pe; cases ry; exact EqAt.bool_bool a b
      | int b => cases pe; obtain ⟨t, rfl⟩ := ry; exact EqAt.bool_int a b t
      | str b => cases pe; obtain ⟨t, rfl⟩ := ry; exact EqAt.bool_str a b t
      | tup ys => obtain ⟨b, its, rfl, ht⟩ := tupOf pe ry; exact EqAt.bool_tuple a ht hu'
      | ref a => cases ne
    | int a =>
      cases pd; obtain ⟨t', rfl⟩ := rx
      cases e with
      | non => cases pe; cases ry; exact EqAt.int_none a t'
      | bl b => cases pe; cases ry; exact EqAt.int_bool a t' b
      | int b => cases pe; obtain ⟨t, rfl⟩ := ry; exact EqAt.int_int a t' b t
      | str b => cases pe; obtain ⟨t, rfl⟩ := ry; exact EqAt.int_str a t' b t
      | tup ys => obtain ⟨b, its, rfl, ht⟩ := tupOf pe ry; exact EqAt.int_tuple a t' ht hu'
      | ref a => cases ne
    | str a =>
      cases pd; obtain ⟨t', rfl⟩ := rx
      cases e with
      | non => cases pe; cases ry; exact EqAt.str_none a t'
      | bl b => cases pe; cases ry; exact EqAt.str_bool a t' b
      | int b => cases pe; obtain ⟨t, rfl⟩ := ry; exact EqAt.str_int a t' b t
      | str b => cases pe; obtain ⟨t, rfl⟩ := ry; exact EqAt.str_str a t' b t
      | tup ys => obtain ⟨b, its, rfl, ht⟩ := tupOf pe ry; exact EqAt.str_tuple a t' ht hu'
      | ref a => cases ne
    | tup xs => simp [D.dep] at hd
    | ref a => cases nd
  | succ n ih =>
    intro d e A hu nd ne hd x y v u pd pe rx ry
    have hu' : A.units < cLine := by omega
    cases d with
    | non => exact ih _ e A (by omega) nd ne (by simp [D.dep]) pd pe rx ry
    | bl a => exact ih _ e A (by omega) nd ne (by simp [D.dep]) pd pe rx ry
    | int a => exact ih _ e A (by omega) nd ne (by simp [D.dep]) pd pe rx ry
    | str a => exact ih _ e A (by omega) nd ne (by simp [D.dep]) pd pe rx ry
    | ref a => cases nd
    | tup xs =>
      cases e with
      | non => cases pe; cases ry; obtain ⟨a, its, rfl, ht⟩ := tupOf pd rx; exact EqAt.tuple_none ht hu'
      | bl b => cases pe; cases ry; obtain ⟨a, its, rfl, ht⟩ := tupOf pd rx; exact EqAt.tuple_bool b ht hu'
      | int b => cases pe; obtain ⟨t, rfl⟩ := ry; obtain ⟨a, its, rfl, ht⟩ := tupOf pd rx; exact EqAt.tuple_int b t ht hu'
      | str b => cases pe; obtain ⟨t, rfl⟩ := ry; obtain ⟨a, its, rfl, ht⟩ := tupOf pd rx; exact EqAt.tuple_str b t ht hu'
      | ref a => cases ne
      | tup ys =>
        obtain ⟨a, vs, rfl, h1, h2⟩ := pd
        obtain ⟨b, us, rfl, h3, h4⟩ := pe
        cases rx; cases ry
        obtain ⟨its, r1, t1, _⟩ := I.tuple h1
        obtain ⟨jts, r2, t2, _⟩ := I.tuple h3
        have l1 : xs.length = its.length := h2.len.trans r1.length
        have l2 : ys.length = jts.length := h4.len.trans r2.length
        have all : ∀ (l : List D), D.nrs l = true → ∀ (j : Nat) (z : D), l[j]? = some z → D.nr z = true := by
          intro l
          induction l with
          | nil => intro _ j z e; simp at e
          | cons w l il =>
            intro h j z e
            simp only [D.nrs, Bool.and_eq_true] at h
            cases j with
            | zero => simp at e; subst e; exact h.1
            | succ j => exact il h.2 j z (by simpa using e)
        have dle : ∀ (l : List D) (j : Nat) (z : D), l[j]? = some z → D.dep z ≤ D.deps l := by
          intro l
          induction l with
          | nil => intro j z e; simp at e
          | cons w l il =>
            intro j z e
            simp only [D.deps]
            cases j with
            | zero => simp at e; subst e; omega
            | succ j => have := il j z (by simpa using e); omega
        have hdd : D.deps xs ≤ n := by simp only [D.dep] at hd; omega
        by_cases hab : a = b
        · subst hab
          have eq1 := I.tuple_inj h1 h3
          subst eq1
          have same : D.eqps xs ys = true := by
            have uniq : ∀ (l m : List D) (w : List V), D.nrs l = true → D.nrs m = true → RpL X.K H l w → RpL X.K H m w → D.eqps l m = true := by
              have one : ∀ (n : Nat) (p q : D) (w : V), D.dep p ≤ n → D.nr p = true → D.nr q = true → Rp X.K H p w → Rp X.K H q w → D.eqp p q = true := by
                intro n
                induction n with
                | zero =>
                  intro p q w hp np nq rp rq
                  cases p with
                  | tup l => simp [D.dep] at hp
                  | ref a => cases np
                  | _ => cases rp; cases q with
                    | tup m => obtain ⟨_, _, z, _⟩ := rq; cases z
                    | ref a => cases nq
                    | _ => cases rq; all_goals simp [D.eqp]
                | succ n ih2 =>
                  intro p q w hp np nq rp rq
                  cases p with
                  | tup l =>
                    obtain ⟨c, ws, rfl, g1, g2⟩ := rp
                    cases q with
                    | tup m =>
                      obtain ⟨c', ws', z, g3, g4⟩ := rq
                      cases z
                      have := I.tuple_inj g1 g3
                      subst this
                      have go : ∀ (l m : List D) (w : List V), D.deps l ≤ n → D.nrs l = true → D.nrs m = true → RpL X.K H l w → RpL X.K H m w → D.eqps l m = true := by
                        intro l
                        induction l with
                        | nil => intro m w _ _ _ r1 r2; cases r1; cases m with
                          | nil => rfl
                          | cons _ _ => obtain ⟨_, _, z, _⟩ := r2; cases z
                        | cons x l il =>
                          intro m w hl n1 n2 r1 r2
                          obtain ⟨v1, w1, rfl, a1, a2⟩ := r1
                          cases m with
                          | nil => cases r2
                          | cons y m =>
                            obtain ⟨v2, w2, z, b1, b2⟩ := r2
                            cases z
                            simp only [D.deps] at hl
                            simp only [D.nrs, Bool.and_eq_true] at n1 n2
                            simp only [D.eqps, Bool.and_eq_true]
                            exact ⟨ih2 x y _ (by omega) n1.1 n2.1 a1 b1, il m _ (by omega) n1.2 n2.2 a2 b2⟩
                      exact go l m ws (by simp only [D.dep] at hp; omega) np nq g2 g4
                    | ref a => cases nq
                    | _ => cases rq
                  | ref a => cases np
                  | _ => exact ih2 _ q w (by simp [D.dep]) np nq rp rq
              intro l
              induction l with
              | nil => intro m w _ _ r1 r2; cases r1; cases m with
                | nil => rfl
                | cons _ _ => obtain ⟨_, _, z, _⟩ := r2; cases z
              | cons x l il =>
                intro m w n1 n2 r1 r2
                obtain ⟨v1, w1, rfl, a1, a2⟩ := r1
                cases m with
                | nil => cases r2
                | cons y m =>
                  obtain ⟨v2, w2, z, b1, b2⟩ := r2
                  cases z
                  simp only [D.nrs, Bool.and_eq_true] at n1 n2
                  simp only [D.eqps, Bool.and_eq_true]
                  exact ⟨one _ x y _ (Nat.le_refl _) n1.1 n2.1 a1 b1, il m _ n1.2 n2.2 a2 b2⟩
            exact uniq xs ys vs nd ne h2 h4
          have e3 : D.eqp (.tup xs) (.tup ys) = true := same
          rw [e3]
          exact EqAt.same _
        · refine EqAt.of_refs hab ?_
          have he : ∀ j (g1 : j < its.toArray.size) (g2 : j < jts.toArray.size), EqAt A.in1 s its.toArray[j] jts.toArray[j] (match xs[j]?, ys[j]? with | some p, some q => D.eqp p q | _, _ => false) := fun j g1 g2 => by
            have g1' : j < xs.length := by rw [l1]; simpa using g1
            have g2' : j < ys.length := by rw [l2]; simpa using g2
            have e1 : xs[j]? = some xs[j] := by simp [g1']
            have e2 : ys[j]? = some ys[j] := by simp [g2']
            rw [e1, e2]
            obtain ⟨w1, f1, f2⟩ := h2.get e1
            obtain ⟨w2, f3, f4⟩ := h4.get e2
            obtain ⟨z1, f5, f6⟩ := r1.get f1
            obtain ⟨z2, f7, f8⟩ := r2.get f3
            have q1 : its.toArray[j] = z1 := by
              have : its[j]? = some its.toArray[j] := by simp
              rw [this] at f5; exact Option.some.inj f5
            have q2 : jts.toArray[j] = z2 := by
              have : jts[j]? = some jts.toArray[j] := by simp
              rw [this] at f7; exact Option.some.inj f7
            rw [q1, q2]
            exact ih _ _ A.in1 (by show A.units + 1 + n < cLine; omega) (all xs nd j _ e1) (all ys ne j _ e2) (Nat.le_trans (dle xs j _ e1) hdd) f2 f4 f6 f8
          have r := RcAt.tuples t1 t2 hu' he
          have e3 := eqps_range (fun j => match xs[j]?, ys[j]? with | some p, some q => D.eqp p q | _, _ => false) xs ys fun j g1 g2 => by simp [g1, g2]
          have e4 : ((List.range (min its.toArray.size jts.toArray.size)).all (fun j => match xs[j]?, ys[j]? with | some p, some q => D.eqp p q | _, _ => false) && its.toArray.size == jts.toArray.size) = D.eqp (.tup xs) (.tup ys) := by
            simp only [List.size_toArray, ← l1, ← l2]
            exact e3
          rw [← e4]
          exact r
theorem nrs_get : ∀ (l : List D), D.nrs l = true → ∀ (j : Nat) (z : D), l[j]? = some z → D.nr z = true
  | [], _, j, z, e => by simp at e
  | w :: l, h, 0, z, e => by
    simp only [D.nrs, Bool.and_eq_true] at h
    simp at e; subst e; exact h.1
  | w :: l, h, j + 1, z, e => by
    simp only [D.nrs, Bool.and_eq_true] at h
    exact nrs_get l h.2 j z (by simpa using e)
theorem dep_get : ∀ (l : List D) (j : Nat) (z : D), l[j]? = some z → D.dep z ≤ D.deps l
  | [], j, z, e => by simp at e
  | w :: l, 0, z, e => by
    simp only [D.deps]
    simp at e; subst e; omega
  | w :: l, j + 1, z, e => by
    simp only [D.deps]
    have := dep_get l j z (by simpa using e)
    omega
theorem tup_pair {pins : List (Addr × Obj)} {σ : St} {s : Shared} (I : Inv X pins σ H s) {n : Nat} {xs ys : List D} {A : Around} (hu : A.units + n < cLine) (nd : D.nrs xs = true) (ne : D.nrs ys = true) (hd : D.deps xs < n) {x y : V} {v u : Value} (pd : Rp X.K H (.tup xs) x) (pe : Rp X.K H (.tup ys) y) (rx : RelV x v) (ry : RelV y u) :
    ∃ a b its jts e, v = .ref a ∧ u = .ref b ∧ s.heap.IsTuple a its ∧ s.heap.IsTuple b jts ∧ (∀ j (g1 : j < its.size) (g2 : j < jts.size), EqAt A.in1 s its[j] jts[j] (e j)) ∧ ((List.range (min its.size jts.size)).all e && its.size == jts.size) = D.eqps xs ys := by
  obtain ⟨a, vs, rfl, h1, h2⟩ := pd
  obtain ⟨b, us, rfl, h3, h4⟩ := pe
  cases rx; cases ry
  obtain ⟨its, r1, t1, _⟩ := I.tuple h1
  obtain ⟨jts, r2, t2, _⟩ := I.tuple h3
  have l1 : xs.length = its.length := h2.len.trans r1.length
  have l2 : ys.length = jts.length := h4.len.trans r2.length
  refine ⟨a, b, its.toArray, jts.toArray, (fun j => match xs[j]?, ys[j]? with | some p, some q => D.eqp p q | _, _ => false), rfl, rfl, t1, t2, fun j g1 g2 => ?_, ?_⟩
  · have g1' : j < xs.length := by rw [l1]; simpa using g1
    have g2' : j < ys.length := by rw [l2]; simpa using g2
    have e1 : xs[j]? = some xs[j] := by simp [g1']
    have e2 : ys[j]? = some ys[j] := by simp [g2']
    simp only [e1, e2]
    obtain ⟨w1, f1, f2⟩ := h2.get e1
    obtain ⟨w2, f3, f4⟩ := h4.get e2
    obtain ⟨z1, f5, f6⟩ := r1.get f1
    obtain ⟨z2, f7, f8⟩ := r2.get f3
    have q1 : its.toArray[j] = z1 := by
      have : its[j]? = some its.toArray[j] := by simp
      rw [this] at f5; exact Option.some.inj f5
    have q2 : jts.toArray[j] = z2 := by
      have : jts[j]? = some jts.toArray[j] := by simp
      rw [this] at f7; exact Option.some.inj f7
    rw [q1, q2]
    exact eqAt_D I (n - 1) _ _ A.in1 (by show A.units + 1 + (n - 1) < cLine; omega) (nrs_get xs nd j _ e1) (nrs_get ys ne j _ e2) (by have := dep_get xs j _ e1; omega) f2 f4 f6 f8
  · have e3 := eqps_range (fun j => match xs[j]?, ys[j]? with | some p, some q => D.eqp p q | _, _ => false) xs ys fun j g1 g2 => by simp [g1, g2]
    simp only [List.size_toArray, ← l1, ← l2]
    exact e3
/-- == of two scalars or two tuples of data -/
def rEqD1 : DR2 := fun x y G Q => match x, y with
  | .tup xs, .tup ys => (D.nrs xs = true ∧ D.nrs ys = true ∧ D.deps xs ≤ 40) ∧ Q (.bl (D.eqps xs ys)) G
  | .non, .non => Q (.bl true) G
  | .non, .int _ => Q (.bl false) G
  | .int _, .non => Q (.bl false) G
  | .non, .bl _ => Q (.bl false) G
  | .bl _, .non => Q (.bl false) G
  | .non, .str _ => Q (.bl false) G
  | .str _, .non => Q (.bl false) G
  | .int i, .int j => Q (.bl (decide (i = j))) G
  | .bl i, .bl j => Q (.bl (decide (i = j))) G
  | .str i, .str j => Q (.bl (decide (i = j))) G
  | .int _, .str _ => Q (.bl false) G
  | .str _, .int _ => Q (.bl false) G
  | .bl _, .str _ => Q (.bl false) G
  | .str _, .bl _ => Q (.bl false) G
  | _, _ => False
theorem o_eq (hu : X.A.units + 64 < cLine) : OpD X (compareOp .Eq) rEqD1 := by
  intro pins s σ H x y v u Q I rx ry ⟨d, e, G, Q', pd, pe, hr, q, k⟩
  have sc : ∀ {a b : V} {c : Bool}, x = a → y = b → scal a b = true → decide (a = b) = c → Q' (.bl c) G → wpAny (model X.prog X.w) X.A (compareOp .Eq v u) (EP X pins σ Q) X.xe s := fun {a b c} e1 e2 e3 e4 q => by
    subst e1 e2
    exact op_eq pins s σ H _ _ v u Q I rx ry ⟨e3, by rw [e4]; exact k.here q hr rfl⟩
  cases d with
  | tup xs =>
    cases e with
    | tup ys =>
      obtain ⟨a, b, its, jts, e, rfl, rfl, t1, t2, he, e3⟩ := tup_pair I (n := 41) (A := X.A) (by omega) q.1.1 q.1.2.1 (by have := q.1.2.2; omega) pd pe rx ry
      exact RcAt.tuples t1 t2 (by omega) he _ _ _ _ ⟨.bl _, H, I, rfl, by rw [e3]; exact k.here q.2 hr rfl⟩
    | _ => exact q.elim
  | ref a => cases e <;> exact q.elim
  | non => cases e with
    | tup ys => exact q.elim
    | ref a => exact q.elim
    | _ => exact sc pd pe rfl (by simp) q
  | bl a => cases e with
    | tup ys => exact q.elim
    | ref a => exact q.elim
    | int j => exact q.elim
    | _ => exact sc pd pe rfl (by simp) q
  | int a => cases e with
    | tup ys => exact q.elim
    | ref a => exact q.elim
    | bl j => exact q.elim
    | _ => exact sc pd pe rfl (by simp) q
  | str a => cases e with
    | tup ys => exact q.elim
    | ref a => exact q.elim
    | _ => exact sc pd pe rfl (by simp) q
/-- not of a bool that a reading gives -/
def rNotOf (r : DR2) : DR2 := fun x y G Q => r x y G fun d G1 => match d with | .bl b => Q (.bl (!b)) G1 | _ => False
theorem o_ne (hu : X.A.units + 64 < cLine) : OpD X (compareOp .NotEq) (rNotOf rEqD1) := by
  intro pins s σ H x y v u Q I rx ry ⟨d, e, G, Q', pd, pe, hr, q, k⟩
  have sc : ∀ {a b : V} {c : Bool}, x = a → y = b → scal a b = true → decide (a = b) = c → Q' (.bl (!c)) G → wpAny (model X.prog X.w) X.A (compareOp .NotEq v u) (EP X pins σ Q) X.xe s := fun {a b c} e1 e2 e3 e4 q => by
    subst e1 e2
    exact op_ne pins s σ H _ _ v u Q I rx ry ⟨e3, by rw [e4]; exact k.here q hr rfl⟩
  cases d with
  | ref a => cases e <;> exact q.elim
  | tup xs =>
    cases e with
    | tup ys =>
      obtain ⟨a, b, its, jts, e, rfl, rfl, t1, t2, he, e3⟩ := tup_pair I (n := 41) (A := X.A) (by omega) q.1.1 q.1.2.1 (by have := q.1.2.2; omega) pd pe rx ry
      exact RcNeAt.tuples t1 t2 (by omega) he _ _ _ _ ⟨.bl _, H, I, rfl, by rw [e3]; exact k.here q.2 hr rfl⟩
    | _ => exact q.elim
  | non => cases e with
    | tup ys => exact q.elim
    | ref a => exact q.elim
    | _ => exact sc pd pe rfl (by simp) q
  | bl a => cases e with
    | tup ys => exact q.elim
    | ref a => exact q.elim
    | int j => exact q.elim
    | _ => exact sc pd pe rfl (by simp) q
  | int a => cases e with
    | tup ys => exact q.elim
    | ref a => exact q.elim
    | bl j => exact q.elim
    | _ => exact sc pd pe rfl (by simp) q
  | str a => cases e with
    | tup ys => exact q.elim
    | ref a => exact q.elim
    | _ => exact sc pd pe rfl (by simp) q
end
end L2.DL

set_option Elab.async false
set_option linter.all false
set_option maxRecDepth 100000
set_option maxHeartbeats 1000000
/-! DL6: dicts (keys None, ints, texts), len, in, subscripts, slices, lists' methods, isinstance. -/
namespace L2.DL
open PySem PySem.Spec PyProof.Rows

/-! ### tables -/
section
variable {α : Type}
def kget (kvs : List (NK × α)) (k : NK) : Option α := match kvs with
  | [] => none
  | p :: r => if p.1 = k then some p.2 else kget r k
def kput (kvs : List (NK × α)) (k : NK) (v : α) : List (NK × α) := if (kget kvs k).isSome = true then kvs.map (fun p => if p.1 = k then (p.1, v) else p) else kvs ++ [(k, v)]
theorem kget_app (l m : List (NK × α)) (k : NK) : kget (l ++ m) k = (kget l k).or (kget m k) := by
  induction l with
  | nil => simp [kget]
  | cons p r ih => simp only [List.cons_append, kget]; split <;> simp_all
theorem kget_map (l : List (NK × α)) (k j : NK) (v : α) : kget (l.map (fun p => if p.1 = k then (p.1, v) else p)) j = if j = k then (kget l j).map (fun _ => v) else kget l j := by
  induction l with
  | nil => simp [kget]
  | cons p r ih =>
    simp only [List.map_cons, kget]
    by_cases h1 : p.1 = k
    · by_cases h2 : p.1 = j
      · have : j = k := h2.symm.trans h1
        subst this; simp [h1]
      · have : ¬ j = k := fun e => h2 (h1.trans e.symm)
        simp [h1, h2, ih, this, show ¬ k = j from fun e => this e.symm]
    · by_cases h2 : p.1 = j
      · have : ¬ j = k := fun e => h1 (h2.trans e)
        simp [h1, h2, this]
      · simp [h1, h2, ih]
theorem kget_put (l : List (NK × α)) (k j : NK) (v : α) : kget (kput l k v) j = if j = k then some v else kget l j := by
  unfold kput
  split
  · rename_i h
    rw [kget_map]
    by_cases e : j = k
    · subst e
      cases q : kget l j with
      | none => rw [q] at h; simp at h
      | some x => simp
    · simp [e]
  · rename_i h
    rw [kget_app]
    have hn : kget l k = none := by cases q : kget l k with
      | none => rfl
      | some x => rw [q] at h; simp at h
    by_cases e : j = k
    · subst e; simp [hn, kget]
    · have e' : ¬ k = j := fun z => e z.symm
      simp [kget, e, e']
theorem kput_new {l : List (NK × α)} {k : NK} (h : kget l k = none) (v : α) : kput l k v = l ++ [(k, v)] := by
  unfold kput; rw [h]; simp
theorem kput_keys (l : List (NK × α)) (k : NK) (v : α) : (kput l k v).map (·.1) = if (kget l k).isSome = true then l.map (·.1) else l.map (·.1) ++ [k] := by
  unfold kput
  split
  · rw [List.map_map]
    refine List.map_congr_left fun p _ => ?_
    simp only [Function.comp]; split <;> rfl
  · simp
theorem kput_len (l : List (NK × α)) (k : NK) (v : α) : (kput l k v).length = if (kget l k).isSome = true then l.length else l.length + 1 := by
  unfold kput; split <;> simp
theorem kput_le (l : List (NK × α)) (k : NK) (v : α) : (kput l k v).length ≤ l.length + 1 := by
  rw [kput_len]; split <;> omega
end
theorem val_kget (kvs : List (NK × V)) (k : NK) : valV kvs k = kget kvs k := by
  induction kvs with
  | nil => rfl
  | cons p r ih =>
    unfold kget
    by_cases e : p.1 = k
    · rw [valV_pos e, if_pos e]
    · rw [valV_neg e, if_neg e, ih]
theorem put_kput (kvs : List (NK × V)) (k : NK) (v : V) : putK kvs k v = kput kvs k v := by
  unfold putK kput
  rw [valV_any, val_kget]
section
variable {K : PySem.W.Frag} {H : Hp}
theorem RpKV.get {kvs : List (NK × D)} {kws : List (NK × V)} (r : RpKV K H kvs kws) (k : NK) : (kget kvs k = none ∧ kget kws k = none) ∨ ∃ d v, kget kvs k = some d ∧ kget kws k = some v ∧ Rp K H d v := by
  induction r with
  | nil => exact .inl ⟨rfl, rfl⟩
  | @cons p q ps qs h t ih =>
    obtain ⟨h1, h2⟩ := h
    simp only [kget]
    by_cases e : p.1 = k
    · have e' : q.1 = k := h1.symm.trans e
      rw [if_pos e, if_pos e']
      exact .inr ⟨_, _, rfl, rfl, h2⟩
    · have e' : ¬ q.1 = k := fun z => e (h1.trans z)
      rw [if_neg e, if_neg e']
      exact ih
theorem RpKV.app {a b : List (NK × D)} {c d : List (NK × V)} (h : RpKV K H a c) (t : RpKV K H b d) : RpKV K H (a ++ b) (c ++ d) := by
  induction h with
  | nil => exact t
  | cons x _ ih => exact .cons x ih
theorem RpKV.put {kvs : List (NK × D)} {kws : List (NK × V)} (r : RpKV K H kvs kws) (k : NK) {d : D} {v : V} (rv : Rp K H d v) : RpKV K H (kput kvs k d) (kput kws k v) := by
  have rep : RpKV K H (kvs.map fun p => if p.1 = k then (p.1, d) else p) (kws.map fun p => if p.1 = k then (p.1, v) else p) := by
    induction r with
    | nil => exact .nil
    | @cons p q ps qs h t ih =>
      obtain ⟨h1, h2⟩ := h
      refine .cons ?_ ih
      dsimp only
      by_cases e : p.1 = k
      · rw [if_pos e, if_pos (h1.symm.trans e)]; exact ⟨h1, rv⟩
      · rw [if_neg e, if_neg fun z => e (h1.trans z)]; exact ⟨h1, h2⟩
  unfold kput
  rcases r.get k with ⟨e1, e2⟩ | ⟨_, _, e1, e2, _⟩
  · rw [e1, e2]
    exact r.app (.cons ⟨rfl, rv⟩ .nil)
  · rw [e1, e2]
    exact rep
theorem RpKV.len {kvs : List (NK × D)} {kws : List (NK × V)} (r : RpKV K H kvs kws) : kvs.length = kws.length := Paired.length r
end
theorem nk_is {P : Program} {w : World} {k : NK} {u : Value} (r : RelV (NK.v k) u) : (noneKind P w).is k u = true := by
  cases k with
  | none => cases (show u = Value.none from r); rfl
  | some k => cases k with
    | inl i => obtain ⟨t, e⟩ := (show ∃ t, u = Value.int i t from r); subst e; exact mixKind_int P w i t
    | inr x => obtain ⟨t, e⟩ := (show ∃ t, u = Value.str x t from r); subst e; exact mixKind_str P w x t
section
variable {X : Cx} {pins : List (Addr × Obj)} {σ : St} {H : Hp} {s : Shared} {a : Addr} {kws : List (NK × V)} {k : NK} {v : V} {u r : Value} {A : Around} {E : Value → Shared → Prop}
theorem dn_of (I : Inv X pins σ H s) (e : H a = some (DicN (wd X) a kws)) : kws.length ≤ sizeLine ∧ (a == sysModules) = false ∧ ∃ vs, KV kws vs ∧ s.heap.DictOf (noneKind X.prog X.w) a vs := (I.hok a _ e).1
theorem dn_ok {P : Program} {w : World} {K : PySem.W.Frag} {H' : Hp} {h' : Heap} {vs : List (NK × Value)} (z : kws.length ≤ sizeLine) (hd : (a == sysModules) = false) (rel : KV kws vs) (dd : h'.DictOf (noneKind P w) a vs) : ObjOk P w H' h' a (DicN ⟨P, w, K⟩ a kws) := by
  obtain ⟨o, es, ep, ho, rest⟩ := id dd
  refine ⟨⟨z, hd, vs, rel, dd⟩, ⟨o, ho⟩, fun h1 h2 ⟨a1, a2, vs', a3, o', es', ep', ho', rest'⟩ st => ⟨a1, a2, vs', a3, o', es', ep', st _ ho', rest'⟩⟩
theorem dn_get {Q : Value → Shared → Prop} (I : Inv X pins σ H s) (e : H a = some (DicN (wd X) a kws)) (l : kget kws k = some v) (ry : RelV (NK.v k) u) (h : ∀ w' s', Inv X pins σ H s' → RelV v w' → Q w' s') : wpAny (model X.prog X.w) A (getItem (.ref a) u) Q E s := by
  obtain ⟨z, hd, vs, rel, dd⟩ := dn_of I e
  obtain ⟨w', hw, rw'⟩ := RelO.some_of (v := v) (o := valueAt vs k) (by rw [← l, ← val_kget]; exact rel.val k)
  exact wpAny_getItem_of (nk_is ry) dd.mapOf hw (h w' _ (I.tok _) rw')
theorem dn_in {Q : Value → Shared → Prop} (I : Inv X pins σ H s) (e : H a = some (DicN (wd X) a kws)) (ry : RelV (NK.v k) u) (h : ∀ s', Inv X pins σ H s' → Q (.bool (kget kws k).isSome) s') : wpAny (model X.prog X.w) A (compareOp .In u (.ref a)) Q E s := by
  obtain ⟨z, hd, vs, rel, dd⟩ := dn_of I e
  refine wpAny_in_of (nk_is ry) hd dd.mapOf ?_
  rw [← (rel.val k).isSome_eq, val_kget]
  exact h _ (I.tok _)
theorem dn_notIn {Q : Value → Shared → Prop} (I : Inv X pins σ H s) (e : H a = some (DicN (wd X) a kws)) (ry : RelV (NK.v k) u) (h : ∀ s', Inv X pins σ H s' → Q (.bool (!(kget kws k).isSome)) s') : wpAny (model X.prog X.w) A (compareOp .NotIn u (.ref a)) Q E s := by
  obtain ⟨z, hd, vs, rel, dd⟩ := dn_of I e
  refine wpAny_notIn_of (nk_is ry) hd dd.mapOf ?_
  rw [← (rel.val k).isSome_eq, val_kget]
  exact h _ (I.tok _)
theorem dn_mut (e : H a = some (DicN (wd X) a kws)) : Mut (H a) := by rw [e]; exact True.intro
theorem dn_set {Q : Unit → Shared → Prop} (I : Inv X pins σ H s) (e : H a = some (DicN (wd X) a kws)) (l : kws.length < 16777216) (ry : RelV (NK.v k) u) (rv : RelV v r) (h : ∀ s', Inv X pins σ (upd H a (DicN (wd X) a (kput kws k v))) s' → Q () s') :
    wpAny (model X.prog X.w) A (setItem (.ref a) u r) Q E s := by
  obtain ⟨z, hd, vs, rel, dd⟩ := dn_of I e
  have hz : vs.length ≤ sizeLine := by rw [← rel.length]; exact z
  have hl : (kput kws k v).length ≤ sizeLine := by have := kput_le kws k v; rw [line_eq]; omega
  refine wpAny_setItem_pairs (hsz := hz) (nk_is ry) dd fun h' dd' hs => h _ ?_
  have he : ∃ q, h'.get? a = some q := let ⟨q, _, _, hq, _⟩ := dd'; ⟨q, hq⟩
  exact d_write I (dn_mut e) hs he (dn_ok hl hd (by rw [← put_kput]; exact rel.put k rv) dd')
theorem dn_dset {Q : Unit → Shared → Prop} (I : Inv X pins σ H s) (e : H a = some (DicN (wd X) a kws)) (l : kws.length < 16777216) (ry : RelV (NK.v k) u) (rv : RelV v r) (h : ∀ s', Inv X pins σ (upd H a (DicN (wd X) a (kput kws k v))) s' → Q () s') :
    wpAny (model X.prog X.w) A (dictSet a u r) Q E s := by
  obtain ⟨z, hd, vs, rel, dd⟩ := dn_of I e
  have hz : vs.length ≤ sizeLine := by rw [← rel.length]; exact z
  have hl : (kput kws k v).length ≤ sizeLine := by have := kput_le kws k v; rw [line_eq]; omega
  refine wpAny_dictSet_pairs (hsz := hz) (nk_is ry) dd fun h' dd' hs => h _ ?_
  have he : ∃ q, h'.get? a = some q := let ⟨q, _, _, hq, _⟩ := dd'; ⟨q, hq⟩
  exact d_write I (dn_mut e) hs he (dn_ok hl hd (by rw [← put_kput]; exact rel.put k rv) dd')
theorem dn_empty {P : Program} {w : World} {K : PySem.W.Frag} {H : Hp} (h : Heap) (hb : sysModules < h.objs.size) : ObjOk P w H (h.push { cls := .type "dict", data := .dict #[] }) h.objs.size (DicN ⟨P, w, K⟩ h.objs.size []) :=
  dn_ok (Nat.zero_le _) (beq_eq_false_iff_ne.mpr (Ne.symm (Nat.ne_of_lt hb))) .nil (Heap.DictOf.new h)
theorem dn_type (I : Inv X pins σ H s) (e : H a = some (DicN (wd X) a kws)) : s.TypeIs (.ref a) "dict" ∧ ∀ b, Value.ref a = .ref b → ∃ ob, s.heap.get? b = some ob ∧ ob.dict = none := by
  obtain ⟨z, hd, vs, rel, dd⟩ := dn_of I e
  refine ⟨dd.typeIs, fun b q => ?_⟩
  cases q
  obtain ⟨ob, _, _, h1, h2, _⟩ := dd
  exact ⟨ob, h1, h2.2.1⟩
theorem HRep.putN {Y : Wd} {G : DH} (h : HRep Y H G) {p : Addr} {kvs kvs' : List (NK × D)} {kws' : List (NK × V)} (e : G p = some (.dic kvs)) (r : RpKV Y.K H kvs' kws') :
    Ext H (upd H p (DicN Y p kws')) ∧ HRep Y (upd H p (DicN Y p kws')) (dup G p (.dic kvs')) := by
  obtain ⟨ks, h1, _⟩ := h _ _ e
  have x : Ext H (upd H p (DicN Y p kws')) := Ext.put h1 (fun _ z => by unfold DicN at z; cases z) (fun _ _ z => by unfold DicN at z; cases z)
  exact ⟨x, h.put x ⟨_, upd_same, r.ext x⟩⟩
end

section
variable {X : Cx} {pos : Pos}
/-! ### {} -/
def dDNew : DE := fun _ G Q => ∀ p, G p = none → Q (.ref p) (dup G p (.dic []))
theorem E_dnew : PE X (.Dict [] [] pos) (lE (wd X) dDNew) := ⟨fun pins s σ H Q I ⟨τ, G, Q', sr, hr, q, k⟩ => by
  have hn := I.hok.fresh (Nat.le_refl s.heap.objs.size)
  refine wpAny_Dict_empty ⟨.ref s.heap.objs.size, _, I.laid (a := s.heap.objs.size) (o := DicN (wd X) s.heap.objs.size []) (t' := s.toks) (fun _ _ q => Heap.get?_push_of_some _ q) (Nat.le_refl _) (dn_empty s.heap I.big), rfl, ?_⟩
  exact k _ _ _ _ (q _ (hr.free hn)) (Ext.new hn) (hr.new hn ⟨[], upd_same, .nil⟩) rfl⟩
/-! ### stores o[i] = v -/
def withL (G : DH) (a : Addr) (k : List D → Prop) : Prop := match G a with | some (.lst xs) => k xs | _ => False
def withD (G : DH) (a : Addr) (k : List (NK × D) → Prop) : Prop := match G a with | some (.dic xs) => k xs | _ => False
def rPutD : DSet := fun o i v G Q => match o, i.key with
  | .ref a, some k => withD G a fun kvs => kvs.length < 16777216 ∧ Q (dup G a (.dic (kput kvs k v)))
  | _, _ => False
theorem p_dict : PSet X (lSet (wd X) rPutD) := by
  intro pins s σ H o i v ov iv u Q I ro ri rv ⟨d, e, f, G, Q', pd, pe, pf, hr, q, k⟩
  cases d with
  | ref a =>
    cases pd; cases ro
    simp only [rPutD] at q
    split at q
    · rename_i a' k' e1 e2
      cases e1
      unfold withD at q
      split at q
      · rename_i kvs e3
        obtain ⟨kws, h1, h2⟩ := hr _ _ e3
        have ei := rp_key pe e2
        subst ei
        refine dn_set I h1 (by rw [← h2.len]; exact q.1) ri rv fun s' I' => ⟨_, I', ?_⟩
        obtain ⟨x, r⟩ := hr.putN e3 (h2.put k' pf)
        exact k _ _ q.2 x r
      · exact q.elim
    · exact q.elim
  | _ => exact q.elim
/-- d[k] where d is a dict -/
def rGetD : DR2 := fun o i G Q => match o, i.key with
  | .ref a, some k => withD G a fun kvs => match kget kvs k with | some v => Q v G | none => False
  | _, _ => False
theorem i_dict : IxD X rGetD := by
  intro value slice pins s σ H x y v u Q I rx ry ⟨d, e, G, Q', pd, pe, hr, q, k⟩ hs
  cases d with
  | ref a =>
    cases pd; cases rx
    simp only [rGetD] at q
    split at q
    · rename_i a' k' e1 e2
      cases e1
      unfold withD at q
      split at q
      · rename_i kvs e3
        obtain ⟨kws, h1, h2⟩ := hr _ _ e3
        have ei := rp_key pe e2
        subst ei
        rcases h2.get k' with ⟨g1, g2⟩ | ⟨d, v, g1, g2, g3⟩
        · rw [g1] at q; exact q.elim
        · rw [g1] at q
          exact tail_any (dn_type I h1).1 PySem.F.slot_dict_getitem.lookup (dn_get I h1 g2 ry fun w' s' I' rw' => ⟨v, H, I', rw', k.here q hr g3⟩) hs
      · exact q.elim
    · exact q.elim
  | _ => exact q.elim
/-- a tuple, a list, a text by an int -/
def rGetS : DR2 := fun o i G Q => match o, i with
  | .tup xs, .int n => match atI xs n with | some v => Q v G | none => False
  | .str z, .int n => z.length ≤ 16777216 ∧ match atI z.cps.toList n with | some c => Q (.str ⟨#[c]⟩) G | none => False
  | .ref a, .int n => match G a with
    | some (.lst xs) => match atI xs n with | some v => Q v G | none => False
    | some (.rol xs) => match atI xs n with | some v => Q v G | none => False
    | _ => False
  | _, _ => False
theorem RpL.atI {K : PySem.W.Frag} {H : Hp} {ds : List D} {vs : List V} (h : RpL K H ds vs) {n : Int} {d : D} (e : L2.atI ds n = some d) : ∃ v, L2.atI vs n = some v ∧ Rp K H d v := by
  unfold L2.atI at e ⊢
  rw [← h.len]
  cases q : ixN ds.length n with
  | none => rw [q] at e; cases e
  | some j =>
    rw [q] at e
    exact h.get e
theorem i_seq : IxD X rGetS := by
  intro value slice pins s σ H x y v u Q I rx ry ⟨d, e, G, Q', pd, pe, hr, q, k⟩ hs
  cases e with
  | int n =>
    cases pe
    cases d with
    | tup xs =>
      obtain ⟨a, vs, rfl, h1, h2⟩ := pd
      simp only [rGetS] at q
      split at q
      · rename_i d e1
        obtain ⟨w, e2, e3⟩ := h2.atI e1
        exact ix_tup value slice pins s σ H _ _ v u Q I rx ry ⟨a, vs, n, w, rfl, rfl, h1, e2, k.here q hr e3⟩ hs
      · exact q.elim
    | str z =>
      cases pd
      simp only [rGetS] at q
      obtain ⟨q0, q⟩ := q
      split at q
      · rename_i c e1
        exact ix_str value slice pins s σ H _ _ v u Q I rx ry ⟨z, n, c, rfl, rfl, by rw [line_eq]; exact q0, e1, k.here q hr rfl⟩ hs
      · exact q.elim
    | ref a =>
      cases pd
      simp only [rGetS] at q
      split at q
      · rename_i xs e0
        obtain ⟨vs, h1, h2⟩ := hr _ _ e0
        split at q
        · rename_i d e1
          obtain ⟨w, e2, e3⟩ := h2.atI e1
          exact ix_list value slice pins s σ H _ _ v u Q I rx ry ⟨a, vs, n, w, rfl, rfl, SqL.of h1, e2, k.here q hr e3⟩ hs
        · exact q.elim
      · rename_i xs e0
        obtain ⟨o, vs, h1, h2⟩ := hr _ _ e0
        split at q
        · rename_i d e1
          obtain ⟨w, e2, e3⟩ := h2.atI e1
          exact ix_list value slice pins s σ H _ _ v u Q I rx ry ⟨a, vs, n, w, rfl, rfl, .inl (.inr ⟨o, h1⟩), e2, k.here q hr e3⟩ hs
        · exact q.elim
      · exact q.elim
    | _ => exact q.elim
  | _ => cases d <;> exact q.elim

/-! ### slices -/
abbrev DOp := DSt → DH → (Option Int → DH → Prop) → Prop
def lO (Y : Wd) (t : DOp) : St → Hp → (Option Int → Hp → Prop) → Prop := fun σ H Q => ∃ τ G Q', SRep Y.K H σ τ ∧ HRep Y H G ∧ t τ G Q' ∧ ∀ o G1 H1, Q' o G1 → Ext H H1 → HRep Y H1 G1 → Q o H1
def dONone : DOp := fun _ G Q => Q none G
def dOSome (te : DE) : DOp := fun τ G Q => te τ G fun d G1 => match d with | .int i => Q (some i) G1 | _ => False
theorem PO.weak {e : Option Expr} {t u : St → Hp → (Option Int → Hp → Prop) → Prop} (h : PO X e t) (w : ∀ σ H Q, u σ H Q → t σ H Q) : PO X e u := ⟨fun pins s σ H Q I hw => h.run pins s σ H Q I (w _ _ _ hw)⟩
theorem O_none : PO X none (lO (wd X) dONone) := PO.weak po_none fun σ H Q ⟨τ, G, Q', sr, hr, q, k⟩ => k _ _ _ q (.refl H) hr
theorem O_some {e : Expr} {te : DE} (h : PE X e (lE (wd X) te)) : PO X (some e) (lO (wd X) (dOSome te)) := PO.weak (po_some h) fun σ H Q ⟨τ, G, Q', sr, hr, q, k⟩ => by
  refine ⟨τ, G, _, sr, hr, q, fun d G1 v H1 q1 x1 r1 p1 => ?_⟩
  cases d with
  | int i => exact ⟨i, p1, k _ _ _ q1 x1 r1⟩
  | _ => exact q1.elim
def cutD {α : Type} (xs : List α) (lo hi : Option Int) : List α := (xs.drop (HT.sIx xs.length 0 lo)).take (HT.sIx xs.length xs.length hi - HT.sIx xs.length 0 lo)
abbrev DSl := D → Option Int → Option Int → DH → DVK → Prop
def lSl (Y : Wd) (r : DSl) : V → Option Int → Option Int → Hp → VK → Prop := fun x lo hi H Q => ∃ d G Q', Rp Y.K H d x ∧ HRep Y H G ∧ r d lo hi G Q' ∧ KV1 Y H Q' Q
def dSlice (r : DSl) (te : DE) (tl th : DOp) : DE := fun τ G Q => te τ G fun d G1 => tl τ G1 fun lo G2 => th τ G2 fun hi G3 => r d lo hi G3 Q
def rSlice : DSl := fun d lo hi G Q => match d with
  | .tup xs => Q (.tup (cutD xs lo hi)) G
  | .ref a => match G a with
    | some (.lst xs) => ∀ p, G p = none → Q (.ref p) (dup G p (.lst (cutD xs lo hi)))
    | some (.rol xs) => ∀ p, G p = none → Q (.ref p) (dup G p (.lst (cutD xs lo hi)))
    | _ => False
  | _ => False
theorem RpL.cut {K : PySem.W.Frag} {H : Hp} {ds : List D} {vs : List V} (h : RpL K H ds vs) (lo hi : Option Int) : RpL K H (cutD ds lo hi) (cutV vs lo hi) := by
  unfold cutD cutV
  rw [h.len]
  exact (h.drop _).take _
theorem s_any : SlR X (lSl (wd X) rSlice) := by
  intro pins s σ H x v vl vu lo hi sl Q I rx hs pl pu ⟨d, G, Q', pd, hr, q, k⟩
  cases d with
  | tup xs =>
    obtain ⟨a, vs, rfl, h1, h2⟩ := pd
    refine sl_tupA pins s σ H _ v vl vu lo hi sl Q I rx hs pl pu ⟨a, vs, rfl, h1, fun e => ?_, fun e p hp => fin_tup k hr (h2.cut lo hi) hp q⟩
    have e2 : cutD xs lo hi = xs := by
      unfold cutD
      rw [h2.len, e.1, e.2, ← h2.len]
      simp
    simp only [rSlice, e2] at q
    exact k.here q hr ⟨a, vs, rfl, h1, h2⟩
  | ref a =>
    cases pd
    simp only [rSlice] at q
    split at q
    · rename_i xs e
      obtain ⟨vs, h1, h2⟩ := hr _ _ e
      exact sl_list pins s σ H _ v vl vu lo hi sl Q I rx hs pl pu ⟨a, vs, rfl, SqL.of h1, fun p hp => fin_new k hr (h2.cut lo hi) hp q⟩
    · rename_i xs e
      obtain ⟨o, vs, h1, h2⟩ := hr _ _ e
      exact sl_list pins s σ H _ v vl vu lo hi sl Q I rx hs pl pu ⟨a, vs, rfl, .inl (.inr ⟨o, h1⟩), fun p hp => fin_new k hr (h2.cut lo hi) hp q⟩
    · exact q.elim
  | _ => exact q.elim
theorem E_slice {e : Expr} {lo hi : Option Expr} {te : DE} {tl th : DOp} {r : DSl} {p2 : Pos} (hr : SlR X (lSl (wd X) r)) (he : PE X e (lE (wd X) te)) (hl : PO X lo (lO (wd X) tl)) (hu : PO X hi (lO (wd X) th)) : PE X (.Subscript e (.Slice lo hi none p2) pos) (lE (wd X) (dSlice r te tl th)) :=
  (pe_slice hr he hl hu).weak fun σ H Q ⟨τ, G, Q', sr, hr, q, k⟩ =>
    ⟨τ, G, _, sr, hr, q, fun d G1 v H1 q1 x1 r1 p1 => ⟨τ, G1, _, sr.ext x1, r1, q1, fun o G2 H2 q2 x2 r2 => ⟨τ, G2, _, sr.ext (x1.trans x2), r2, q2, fun o2 G3 H3 q3 x3 r3 => ⟨d, G3, Q', (p1.ext x2).ext x3, r3, q3, k.ext ((x1.trans x2).trans x3)⟩⟩⟩⟩

/-! ### in -/
def D.flat : D → Bool
  | .tup _ => false
  | .ref _ => false
  | _ => true
def strIn (i j : Str) : Bool := !(Builtin.Str.occurrences j i 0 j.length 1).isEmpty
def hasD (x : D) (xs : List D) : Bool := xs.any fun y => D.eqp y x
def rInB (neg : Bool) : DR2 := fun x y G Q => match y with
  | .str j => match x with | .str i => Q (.bl (if neg then !strIn i j else strIn i j)) G | _ => False
  | .tup ys => (D.flat x = true ∧ ys.all D.flat = true) ∧ Q (.bl (if neg then !hasD x ys else hasD x ys)) G
  | .ref a => match G a with
    | some (.lst ys) => (D.flat x = true ∧ ys.all D.flat = true) ∧ Q (.bl (if neg then !hasD x ys else hasD x ys)) G
    | some (.dic kvs) => match x.key with | some k => Q (.bl (if neg then !(kget kvs k).isSome else (kget kvs k).isSome)) G | none => False
    | _ => False
  | _ => False
theorem flat_v {K : PySem.W.Frag} {H : Hp} {d : D} {v : V} (p : Rp K H d v) (f : D.flat d = true) : flatV v = true := by
  cases d with
  | tup xs => cases f
  | ref a => cases f
  | _ => cases p; rfl
theorem flats_v {K : PySem.W.Frag} {H : Hp} : ∀ {ds : List D} {vs : List V}, RpL K H ds vs → ds.all D.flat = true → vs.all flatV = true
  | [], _, h, _ => by cases h; rfl
  | d :: ds, _, h, f => by
    obtain ⟨v, r, rfl, h1, h2⟩ := h
    rw [List.all_cons, Bool.and_eq_true] at f ⊢
    exact ⟨flat_v h1 f.1, flats_v h2 f.2⟩
theorem eqp_v {K : PySem.W.Frag} {H : Hp} {d e : D} {v u : V} (p : Rp K H d v) (q : Rp K H e u) (f : D.flat d = true) (g : D.flat e = true) : eqV v u = D.eqp d e := by
  cases d with
  | tup xs => cases f
  | ref a => cases f
  | _ => cases p; cases e with
    | tup xs => cases g
    | ref a => cases g
    | _ => cases q; rfl
theorem has_v {K : PySem.W.Frag} {H : Hp} {x : D} {v : V} (p : Rp K H x v) (f : D.flat x = true) : ∀ {ds : List D} {vs : List V}, RpL K H ds vs → ds.all D.flat = true → inV v vs = hasD x ds
  | [], _, h, _ => by cases h; rfl
  | d :: ds, _, h, g => by
    obtain ⟨w, r, rfl, h1, h2⟩ := h
    rw [List.all_cons, Bool.and_eq_true] at g
    have ih := has_v p f h2 g.2
    unfold inV hasD at ih ⊢
    rw [List.any_cons, List.any_cons, ih, eqp_v h1 p g.1 f]
theorem o_in_any (neg : Bool) (op : CmpOp) (hop : op = if neg then .NotIn else .In) : OpD X (compareOp op) (rInB neg) := by
  intro pins s σ H x y v u Q I rx ry ⟨d, e, G, Q', pd, pe, hr, q, k⟩
  cases e with
  | str j =>
    cases pe
    cases d with
    | str i =>
      cases pd
      cases neg with
      | false => subst hop; exact op_in_str pins s σ H _ _ v u Q I rx ry ⟨i, j, rfl, rfl, k.here q hr rfl⟩
      | true => subst hop; exact op_notin_str pins s σ H _ _ v u Q I rx ry ⟨i, j, rfl, rfl, k.here q hr rfl⟩
    | _ => exact q.elim
  | tup ys =>
    obtain ⟨b, vs, rfl, h1, h2⟩ := pe
    obtain ⟨⟨f, g⟩, q⟩ := q
    have e1 := has_v pd f h2 g
    cases neg with
    | false => subst hop; exact op_in_seq pins s σ H _ _ v u Q I rx ry ⟨b, vs, rfl, .inr h1, flat_v pd f, flats_v h2 g, by simp only [Bool.false_eq_true, if_false] at q ⊢; rw [e1]; exact k.here q hr rfl⟩
    | true => subst hop; exact op_notIn_seq pins s σ H _ _ v u Q I rx ry ⟨b, vs, rfl, .inr h1, flat_v pd f, flats_v h2 g, by simp only [if_true] at q ⊢; rw [e1]; exact k.here q hr rfl⟩
  | ref b =>
    cases pe
    simp only [rInB] at q
    split at q
    · rename_i ys e0
      obtain ⟨vs, h1, h2⟩ := hr _ _ e0
      obtain ⟨⟨f, g⟩, q⟩ := q
      have e1 := has_v pd f h2 g
      cases neg with
      | false => subst hop; exact op_in_seq pins s σ H _ _ v u Q I rx ry ⟨b, vs, rfl, .inl (SqL.of h1), flat_v pd f, flats_v h2 g, by simp only [Bool.false_eq_true, if_false] at q ⊢; rw [e1]; exact k.here q hr rfl⟩
      | true => subst hop; exact op_notIn_seq pins s σ H _ _ v u Q I rx ry ⟨b, vs, rfl, .inl (SqL.of h1), flat_v pd f, flats_v h2 g, by simp only [if_true] at q ⊢; rw [e1]; exact k.here q hr rfl⟩
    · rename_i kvs e0
      obtain ⟨kws, h1, h2⟩ := hr _ _ e0
      cases ry
      split at q
      · rename_i k' e2
        have ei := rp_key pd e2
        subst ei
        have e3 : (kget kws k').isSome = (kget kvs k').isSome := by rcases h2.get k' with ⟨g1, g2⟩ | ⟨d, v, g1, g2, g3⟩ <;> rw [g1, g2] <;> rfl
        cases neg with
        | false => subst hop; exact dn_in I h1 rx fun s' I' => ⟨.bl _, H, I', by rw [e3]; rfl, k.here q hr rfl⟩
        | true => subst hop; exact dn_notIn I h1 rx fun s' I' => ⟨.bl _, H, I', by rw [e3]; rfl, k.here q hr rfl⟩
      · exact q.elim
    · exact q.elim
  | _ => exact q.elim
theorem o_in : OpD X (compareOp .In) (rInB false) := o_in_any false .In rfl
theorem o_notIn : OpD X (compareOp .NotIn) (rInB true) := o_in_any true .NotIn rfl

/-! ### len -/
def rLen : DCR := fun ds G Q => match ds with
  | [.str x] => x.length ≤ 16777216 ∧ Q (.int x.length) G
  | [.tup xs] => Q (.int xs.length) G
  | [.ref a] => match G a with
    | some (.lst xs) => Q (.int xs.length) G
    | some (.rol xs) => Q (.int xs.length) G
    | some (.dic xs) => Q (.int xs.length) G
    | _ => False
  | _ => False
theorem RpL.one {K : PySem.W.Frag} {H : Hp} {d : D} {vs : List V} (h : RpL K H [d] vs) : ∃ v, vs = [v] ∧ Rp K H d v := by
  obtain ⟨v, r, rfl, h1, h2⟩ := h
  cases h2
  exact ⟨v, rfl, h1⟩
theorem RpL.two {K : PySem.W.Frag} {H : Hp} {d e : D} {vs : List V} (h : RpL K H [d, e] vs) : ∃ v u, vs = [v, u] ∧ Rp K H d v ∧ Rp K H e u := by
  obtain ⟨v, r, rfl, h1, h2⟩ := h
  obtain ⟨u, rfl, h3⟩ := RpL.one h2
  exact ⟨v, u, rfl, h1, h3⟩
theorem c_len : CallD X (.builtin "len") rLen := by
  intro pins s σ H vs us Q I rel ⟨ds, G, Q', p, hr, q, k⟩
  match ds, q with
  | [.str x], q =>
    obtain ⟨v, rfl, p1⟩ := p.one
    obtain rfl : v = .str x := p1
    exact call_len pins s σ H _ us Q I rel ⟨.str x, x.length, rfl, ⟨by rw [line_eq]; exact q.1, rfl⟩, k.here q.2 hr rfl⟩
  | [.tup xs], q =>
    obtain ⟨v, rfl, a, vs, rfl, h1, h2⟩ := p.one
    exact call_len pins s σ H _ us Q I rel ⟨.ref a, vs.length, rfl, .inr ⟨vs, h1, rfl⟩, by rw [← h2.len]; exact k.here q hr rfl⟩
  | [.ref a], q =>
    obtain ⟨v, rfl, p1⟩ := p.one
    obtain rfl : v = .ref a := p1
    simp only [rLen] at q
    split at q
    · rename_i xs e
      obtain ⟨vs, h1, h2⟩ := hr _ _ e
      exact call_len pins s σ H _ us Q I rel ⟨.ref a, vs.length, rfl, .inl ⟨vs, SqL.of h1, rfl⟩, by rw [← h2.len]; exact k.here q hr rfl⟩
    · rename_i xs e
      obtain ⟨o, vs, h1, h2⟩ := hr _ _ e
      exact call_len pins s σ H _ us Q I rel ⟨.ref a, vs.length, rfl, .inl ⟨vs, .inl (.inr ⟨o, h1⟩), rfl⟩, by rw [← h2.len]; exact k.here q hr rfl⟩
    · rename_i xs e
      obtain ⟨kws, h1, h2⟩ := hr _ _ e
      obtain ⟨u, rfl, r1⟩ := vals1 rel
      cases r1
      obtain ⟨z, hd, ws, rel2, dd⟩ := dn_of I h1
      have l1 : kws.length = ws.length := rel2.length
      refine call_len_dict hd dd (by rw [line_eq] at z; omega) ?_
      exact ⟨.int xs.length, H, I.tok _, ⟨_, by rw [h2.len, l1]⟩, k.here q hr rfl⟩
    · exact q.elim
end
end L2.DL

set_option Elab.async false
set_option linter.all false
set_option maxRecDepth 100000
set_option maxHeartbeats 4000000
/-! DC: comprehensions of any kind, with one clause and with two. -/
namespace L2.DL
open PySem PySem.Spec PyProof.Rows

/-! ### the machine's loops, whatever the kind -/
section
variable {prog : Program} {w : World} {A : Around} {R : Result → Shared → Prop} {s : Shared} {e : Expr} {emit : Value → Env → Sem Unit} {tg iter tg1 iter1 : Expr} {ifs ifs1 : List Expr} {it acc : Value} {env : Env}
/-- the code of a comprehension that is no generator -/
structure CompE (e : Expr) : Prop where
  lu : ∀ (A : Around) (d : Nat) (it acc : Value) (env : Env), A.under (.compLoop e d it acc env) = A
  ld : ∀ (prog : Program) (w : World) (d : Nat) (it acc : Value) (env : Env), (model prog w).den (.compLoop e d it acc env) = (compTurn e d it acc env).onRaise (fun x => do noteFrame x env; theTreesLotGoes x)
  su : ∀ (A : Around) (d : Nat) (it acc : Value) (env : Env), A.under (.compStart e d it acc env) = A
  sd : ∀ (prog : Program) (w : World) (d : Nat) (it acc : Value) (env : Env), (model prog w).den (.compStart e d it acc env) = (compStart e d it acc env).onRaise (fun x => do noteFrame x env; standAt theWindowsPlace)
theorem compE_L {elt : Expr} {cl} {scope} {pos} : CompE (.ListComp elt cl scope pos) := ⟨fun _ _ _ _ _ => rfl, fun _ _ _ _ _ _ => rfl, fun _ _ _ _ _ => rfl, fun _ _ _ _ _ _ => rfl⟩
theorem compE_S {elt : Expr} {cl} {scope} {pos} : CompE (.SetComp elt cl scope pos) := ⟨fun _ _ _ _ _ => rfl, fun _ _ _ _ _ _ => rfl, fun _ _ _ _ _ => rfl, fun _ _ _ _ _ _ => rfl⟩
theorem compE_D {kx vx : Expr} {cl} {scope} {pos} : CompE (.DictComp kx vx cl scope pos) := ⟨fun _ _ _ _ _ => rfl, fun _ _ _ _ _ _ => rfl, fun _ _ _ _ _ => rfl, fun _ _ _ _ _ _ => rfl⟩
/-- the turn of the last clause at depth d -/
def TurnIn (e : Expr) (emit : Value → Env → Sem Unit) (d : Nat) (tg iter : Expr) (ifs : List Expr) : Prop := ∀ it acc env, compTurn e d it acc env = (do
  standAt iter.pos
  match ← pyNext it with
  | none => pure (.done .next)
  | some v =>
    letOwnedTupleGo tg it v
    assign tg env v
    let mut ok := true
    for c in ifs do
      if ok then ok ← isTrue c env (eval c env)
    if ok then emit acc env
    again (.compLoop e d it acc env))
/-- the turn of the first clause of two -/
def TurnOut (e : Expr) (tg iter : Expr) (ifs : List Expr) (iter1 : Expr) : Prop := ∀ it acc env, compTurn e 0 it acc env = (do
  standAt iter.pos
  match ← pyNext it with
  | none => pure (.done .next)
  | some v =>
    letOwnedTupleGo tg it v
    assign tg env v
    let mut ok := true
    for c in ifs do
      if ok then ok ← isTrue c env (eval c env)
    if ok then
      let x ← eval iter1 env
      standAt iter1.pos
      let x ← foldedSetIterable iter1 env x
      let _ ← runOwn (.compStart e 1 (← holding [x] (pyIter x)) acc env) env
    again (.compLoop e 0 it acc env))
abbrev testsM (ifs : List Expr) (env : Env) : Sem Bool := forIn ifs true fun c r => if r = true then do let ok ← isTrue c env (eval c env); pure (ForInStep.yield ok) else pure (ForInStep.yield r)
abbrev NB (prog : Program) (w : World) (A : Around) (env : Env) (R : Result → Shared → Prop) : Value → Shared → Prop := notedBy (model prog w) A env fun x s' => R (.error x) s'
theorem loopIn {d : Nat} (ce : CompE e) (hT : TurnIn e emit d tg iter ifs) (J : Nat → Shared → Prop)
    (turn : ∀ n s, J n s → wpAny (model prog w) A (pyNext it) (fun r s1 => match r with
      | none => R (.ok .next) s1
      | some v => wpAny (model prog w) A (letOwnedTupleGo tg it v) (fun _ s2 => wpAny (model prog w) A (assign tg env v) (fun _ s3 => wpAny (model prog w) A (testsM ifs env) (fun ok s4 =>
          if ok = true then wpAny (model prog w) A (emit acc env) (fun _ s5 => ∃ m, m < n ∧ J m s5) (NB prog w A env R) s4 else ∃ m, m < n ∧ J m s4) (NB prog w A env R) s3) (NB prog w A env R) s2) (NB prog w A env R) s1) (NB prog w A env R) s)
    (n : Nat) (h : J n s) : codeAny (model prog w) A (.compLoop e d it acc env) R s := by
  refine codeAny_loop rfl J (fun n s hJ => ?_) n h
  rw [ce.lu, ce.ld]
  refine wpAny_noted ?_
  rw [hT]
  refine wpAny_bind (wpAny_standAt (wpAny_bind (wpAny_mono (turn n s hJ) (fun r s1 h1 => ?_) fun _ _ z => z)))
  cases r with
  | none => exact wpAny_pure h1
  | some v =>
    refine wpAny_bind (wpAny_mono h1 (fun _ s2 h2 => ?_) fun _ _ z => z)
    refine wpAny_bind (wpAny_mono h2 (fun _ s3 h3 => wpAny_bind (wpAny_mono h3 (fun ok s4 h4 => ?_) fun _ _ z => z)) fun _ _ z => z)
    cases ok with
    | false => exact wpAny_pure ⟨rfl, h4⟩
    | true => exact wpAny_bind (wpAny_mono h4 (fun _ s5 h5 => wpAny_pure ⟨rfl, h5⟩) fun _ _ z => z)
theorem loopOut (ce : CompE e) (hT : TurnOut e tg iter ifs iter1) (hs : ∀ x, foldedSetIterable iter1 env x = pure x) (J : Nat → Shared → Prop)
    (turn : ∀ n s, J n s → wpAny (model prog w) A (pyNext it) (fun r s1 => match r with
      | none => R (.ok .next) s1
      | some v => wpAny (model prog w) A (letOwnedTupleGo tg it v) (fun _ s2 => wpAny (model prog w) A (assign tg env v) (fun _ s3 => wpAny (model prog w) A (testsM ifs env) (fun ok s4 =>
          if ok = true then wpAny (model prog w) A (eval iter1 env) (fun x s5 => wpAny (model prog w) A (pyIter x) (fun it1 s6 => codeAny (model prog w) A (.compStart e 1 it1 acc env) (fun r s' => match r with
            | .ok _ => ∃ m, m < n ∧ J m s'
            | .error _ => False) s6) (NB prog w A env R) s5) (NB prog w A env R) s4
          else ∃ m, m < n ∧ J m s4) (NB prog w A env R) s3) (NB prog w A env R) s2) (NB prog w A env R) s1) (NB prog w A env R) s)
    (n : Nat) (h : J n s) : codeAny (model prog w) A (.compLoop e 0 it acc env) R s := by
  refine codeAny_loop rfl J (fun n s hJ => ?_) n h
  rw [ce.lu, ce.ld]
  refine wpAny_noted ?_
  rw [hT]
  refine wpAny_bind (wpAny_standAt (wpAny_bind (wpAny_mono (turn n s hJ) (fun r s1 h1 => ?_) fun _ _ z => z)))
  cases r with
  | none => exact wpAny_pure h1
  | some v =>
    refine wpAny_bind (wpAny_mono h1 (fun _ s2 h2 => ?_) fun _ _ z => z)
    refine wpAny_bind (wpAny_mono h2 (fun _ s3 h3 => wpAny_bind (wpAny_mono h3 (fun ok s4 h4 => ?_) fun _ _ z => z)) fun _ _ z => z)
    cases ok with
    | false => exact wpAny_pure ⟨rfl, h4⟩
    | true =>
      refine wpAny_bind (wpAny_mono h4 (fun x s5 h5 => ?_) fun _ _ z => z)
      refine wpAny_bind (wpAny_standAt (wpAny_bind (wpAny_of_eq (hs x) (wpAny_bind (wpAny_holding (wpAny_mono h5 (fun it1 s6 h6 => ?_) fun _ _ z => z))))))
      refine wpAny_bind (wpAny_runOwn ?_)
      rw [Around.mark_none]
      refine codeAny_mono h6 fun r s' hr => ?_
      cases r with
      | ok f =>
        first
          | exact wpAny_pure ⟨rfl, hr⟩
          | exact wpAny_bind (wpAny_pure (wpAny_pure ⟨rfl, hr⟩))
      | error x => exact hr.elim
theorem startAt (ce : CompE e) {d : Nat} {sc : List Expr} {t i : Expr} (hcl : (clausesOf e)[d]? = some ⟨t, i, sc, 0⟩) (h0 : codeAny (model prog w) A (.compLoop e d it acc env) R s)
    (h : wpAny (model prog w) A (pyIter it) (fun it' s' => codeAny (model prog w) A (.compLoop e d it' acc env) R s') (NB prog w A env R) s) : codeAny (model prog w) A (.compStart e d it acc env) R s := by
  refine codeAny_of_tree ?_
  rw [ce.su, ce.sd]
  refine wpAny_notedAt ?_
  unfold compStart
  rw [hcl]
  show wpAny _ _ (ask >>= _) _ _ s
  refine wpAny_bind (wpAny_askSetting (wpAny_ite ?_))
  split
  · first
      | exact wpAny_bind (wpAny_pure (wpAny_pure (And.intro rfl h0)))
      | exact wpAny_pure (And.intro rfl h0)
  · first
      | exact wpAny_bind (wpAny_rule (wpAny_bind (wpAny_standAt (wpAny_bind (wpAny_mono h (fun it' s' h' => wpAny_pure (And.intro rfl h')) fun _ _ x => x)))))
      | (refine wpAny_bind (wpAny_rule ?_); show wpAny _ _ (standAt i.pos >>= _) _ _ s; exact wpAny_bind (wpAny_standAt (wpAny_bind (wpAny_mono h (fun it' s' h' => wpAny_pure (And.intro rfl h')) fun _ _ x => x))))
end

/-! ### over the hand layer -/
/-- code that adds to what is made -/
structure PEm (X : Cx) (em : Sem Unit) (t : St → Hp → (Hp → Prop) → Prop) : Prop where
  run : ∀ (pins : List (Addr × Obj)) (s : Shared) (σ : St) (H : Hp) (Q : Hp → Prop), Inv X pins σ H s → t σ H Q → wpAny (model X.prog X.w) X.A em (fun _ s' => ∃ H', Inv X pins σ H' s' ∧ Q H') X.xe s
abbrev TEm := Addr → St → Hp → (Hp → Prop) → Prop
/-- the new thing: made at the heap's end, o0 its object, u0 what it is -/
structure NewAcc (X : Cx) (na : Sem Value) (u0 : Addr → HO) : Prop where
  ex : ∃ o0 : Obj, (∀ {A : Around} {E : Value → Shared → Prop} {s : Shared} {Q : Value → Shared → Prop}, Q (.ref s.heap.objs.size) { s with heap := s.heap.push o0 } → wpAny (model X.prog X.w) A na Q E s) ∧
    ∀ (H : Hp) (h : Heap), sysModules < h.objs.size → ObjOk X.prog X.w H (h.push o0) h.objs.size (u0 h.objs.size)
section
variable {X : Cx}
def tC1 (u0 : Addr → HO) (wi : TI) (g : TG) (tt : TT) (tm : TEm) (vs : List Nat) : TE := fun σ H Q => wi σ H fun J H1 => ∀ D, H1 D = none → ∃ W : Nat → Nat → Hp → Prop, (∃ m, W 0 m (upd H1 D (u0 D))) ∧ ∀ i m H, W i m H →
  (J.stop i H ∧ Q (.ref D) H) ∨ (J.go i H ∧ ∃ Nx : Hp → Prop, (∀ H', Nx H' → ∃ m', m' < m ∧ W (i + 1) m' H') ∧ ∀ x H', J.yld i H x H' → g x (wipe σ vs) H' fun σ2 H2 => wipe σ2 vs = wipe σ vs ∧ tt σ2 H2 fun b H3 =>
    if b = true then tm D σ2 H3 Nx else Nx H3)
def tC2 (u0 : Addr → HO) (wi : TI) (g : TG) (tt : TT) (wi1 : TI) (g1 : TG) (tt1 : TT) (tm : TEm) (vs vs1 : List Nat) : TE := fun σ H Q => wi σ H fun J H1 => ∀ D, H1 D = none → ∃ W : Nat → Nat → Hp → Prop, (∃ m, W 0 m (upd H1 D (u0 D))) ∧ ∀ i m H, W i m H →
  (J.stop i H ∧ Q (.ref D) H) ∨ (J.go i H ∧ ∃ Nx : Hp → Prop, (∀ H', Nx H' → ∃ m', m' < m ∧ W (i + 1) m' H') ∧ ∀ x H', J.yld i H x H' → g x (wipe σ vs) H' fun σ2 H2 => wipe σ2 vs = wipe σ vs ∧ tt σ2 H2 fun b H3 =>
    if b = true then wi1 σ2 H3 fun J1 H4 => ∃ W1 : Nat → Nat → Hp → Prop, (∃ m, W1 0 m H4) ∧ ∀ j k H, W1 j k H →
      (J1.stop j H ∧ Nx H) ∨ (J1.go j H ∧ ∃ Nx1 : Hp → Prop, (∀ H', Nx1 H' → ∃ k', k' < k ∧ W1 (j + 1) k' H') ∧ ∀ x H', J1.yld j H x H' → g1 x (wipe σ2 vs1) H' fun σ3 H5 => wipe σ3 vs1 = wipe σ2 vs1 ∧ tt1 σ3 H5 fun b H6 =>
        if b = true then tm D σ3 H6 Nx1 else Nx1 H6)
    else Nx H3)
/-- a block's contexts -/
abbrev Blk (X : Cx) (scope : Scope) (P : Cx → Prop) : Prop := ∀ (s : Shared) (H : Hp) (C : Addr) (cl : List (Str × Addr)) (fp : List Addr), P (X.blk s H scope (compEnvC scope cl C X.env) fp)

theorem frees {pins : List (Addr × Obj)} {s : Shared} {σ : St} {H : Hp} {scope : Scope} {own : List (Str × Nat)} (I : Inv X pins σ H s) (ok : BlkOk X.N X.env.scope scope own) : ∀ y ∈ scope.names, y.2 = .free → ∃ c, X.env.cells.lookup y.1 = some c := fun y hy z => by
  rcases ok.free y hy z with k | k
  · exact I.ok.has _ (.inl k)
  · exact I.ok.has _ (.inr k)
theorem c1_core {e : Expr} {emit : Value → Env → Sem Unit} {u0 : Addr → HO} {na : Sem Value} {tg iter : Expr} {ifs : List Expr} {scope : Scope} {own : List (Str × Nat)} {pos' : Pos} {wi : TI} {g : TG} {tt : TT} {tm : TEm}
    {pins : List (Addr × Obj)} {s : Shared} {σ : St} {H : Hp} {Q : VK} {use : Option (Value → Sem Unit)} {Qf : Value → Shared → Prop} (cE : CompE e) (hcl : clausesOf e = [⟨tg, iter, ifs, 0⟩]) (hT : TurnIn e emit 0 tg iter ifs) (hn : NewAcc X na u0)
    (hc : X.calm = true) (hN : X.N.Nodup) (I : Inv X pins σ H s) (hi : PI X tg iter wi) (ok : BlkOk X.N X.env.scope scope own) (hg : Blk X scope fun Z => PG Z tg g) (ht : Blk X scope fun Z => PTs Z ifs tt)
    (he : Blk X scope fun Z => ∀ D, PEm Z (emit (.ref D) Z.env) (tm D)) (hs : ∀ x, foldedSetIterable iter X.env x = pure x) (h : tC1 u0 wi g tt tm (own.map (·.2)) σ H Q)
    (hR : ∀ D C s' m H', Inv X pins σ H' s' → Q (.ref D) H' → s'.heap.Ns C m → FpOk X pins H' C → compPost (model X.prog X.w) X.A X.xe use Qf (.ref D) C (.ok .next) s') :
    wpAny (model X.prog X.w) X.A (comprehension e scope X.env pos' na false (eval iter X.env) use) Qf X.xe s := by
  refine wpAny_comprehension_free (use := use) hcl hs (closure_ok (frees I ok)) ok.kind (fun y hy z => by rw [ok.uniq y hy, z])
    (thn (hi.run pins s σ H _ I h) fun xv s1 hx => thn hx fun itv s2 h2 => ?_)
  obtain ⟨it, fp, tn, J, H2, rfl, I2, T, st2, f2, q⟩ := h2
  obtain ⟨o0, na1, na2⟩ := hn.ex
  refine na1 (newEnv_comp ?_)
  generalize hD : s2.heap.objs.size = D
  have hDn : H2 D = none := I2.hok.fresh (Nat.le_of_eq hD)
  obtain ⟨W, ⟨m0, w0⟩, turn⟩ := q D hDn
  generalize hs3 : ({ s2 with heap := s2.heap.push o0 } : Shared) = s3
  have I3 : Inv X pins σ (upd H2 D (u0 D)) s3 := by
    rw [← hs3]
    refine I2.laid (t' := s2.toks) (fun b o z => Heap.get?_push_of_some _ z) (Nat.le_of_eq hD) ?_
    rw [← hD]
    exact na2 _ _ I2.big
  have h3 : s3.heap = s2.heap.push o0 := by rw [← hs3]
  have f3 : ∀ b ∈ fp, FpOk X pins (upd H2 D (u0 D)) b ∧ b < s3.heap.objs.size := fun b hb => by
    have hlt : b < s2.heap.objs.size := by
      obtain ⟨o, z, _⟩ := T.obj _ _ st2 b hb
      exact Heap.lt_size z
    refine ⟨⟨?_, (f2 b hb).2⟩, by rw [h3, Heap.size_push]; exact Nat.lt_succ_of_lt hlt⟩
    rw [upd_ne (by rw [← hD]; exact Nat.ne_of_lt hlt)]
    exact (f2 b hb).1
  have st3 : tn 0 s3.heap := T.keep _ _ _ st2 fun b _ o z => by rw [h3]; exact Heap.get?_push_of_some _ z
  have I4 := block_start I3 ok hN f3
  have pg := hg s3 (upd H2 D (u0 D)) s3.heap.objs.size (cellsFrom (s3.heap.objs.size + 1) scope.names (cloFrom X.env.cells scope.names [])) fp
  have pt := ht s3 (upd H2 D (u0 D)) s3.heap.objs.size (cellsFrom (s3.heap.objs.size + 1) scope.names (cloFrom X.env.cells scope.names [])) fp
  have pe := he s3 (upd H2 D (u0 D)) s3.heap.objs.size (cellsFrom (s3.heap.objs.size + 1) scope.names (cloFrom X.env.cells scope.names [])) fp D
  show codeAny _ _ (.compStart e 0 (.ref it) (.ref D) (compEnvC scope (cellsFrom (s3.heap.objs.size + 1) scope.names (cloFrom X.env.cells scope.names [])) s3.heap.objs.size X.env)) (compPost (model X.prog X.w) X.A X.xe use Qf (.ref D) s3.heap.objs.size) { s3 with heap := pushCells (s3.heap.push { cls := .type "dict", data := .dict #[] }) scope.names }
  have nfp : ∀ b ∈ fp, (upd H2 D (u0 D)) b = none := fun b hb => (f3 b hb).1.1
  generalize hce : compEnvC scope (cellsFrom (s3.heap.objs.size + 1) scope.names (cloFrom X.env.cells scope.names [])) s3.heap.objs.size X.env = ce at I4 pg pt pe ⊢
  have cL : ce.locals = s3.heap.objs.size := by subst hce; rfl
  generalize hH3 : upd H2 D (u0 D) = H3 at I3 I4 pg pt pe w0 nfp f3
  generalize hs4 : ({ s3 with heap := pushCells (s3.heap.push { cls := .type "dict", data := .dict #[] }) scope.names } : Shared) = s4 at I4 ⊢
  have st4 : tn 0 s4.heap := T.keep _ _ _ st3 fun b _ o z => by rw [← hs4]; exact pushCells_keeps _ _ _ _ (Heap.get?_push_of_some _ z)
  have stat : ∀ {σ' : St} {H' : Hp} {s' : Shared}, Inv (X.blk s3 H3 scope ce fp) [] σ' H' s' → (∀ b ∈ fp, H' b = none) → ∀ b ∈ fp, FpOk (X.blk s3 H3 scope ce fp) [] H' b := fun {σ' H' s'} I' hn b hb =>
    ⟨hn b hb, (I'.ok.exf b hb).1, I'.ok.exfs b hb, .inl hb, fun x c z => (I'.ok.exf b hb).2 x c z, fun p hp => absurd (show p ∈ ([] : List (Addr × Obj)) ++ [] from hp) (by simp)⟩
  have loop : codeAny (model X.prog X.w) X.A (.compLoop e 0 (.ref it) (.ref D) ce) (compPost (model X.prog X.w) X.A X.xe use Qf (.ref D) s3.heap.objs.size) s4 := by
    refine loopIn cE hT (fun n s' => ∃ i H', Inv (X.blk s3 H3 scope ce fp) [] (wipe σ (own.map (·.2))) H' s' ∧ tn i s'.heap ∧ (∀ b ∈ fp, H' b = none) ∧ W i n H') ?_ m0 ⟨0, H3, I4, st4, nfp, w0⟩
    rintro n s5 ⟨i, H5, I5, st5, n5, w5⟩
    rcases turn i n H5 w5 with ⟨stop, qq⟩ | ⟨go, Nx, hNx, step⟩
    · have td := T.done (X.blk s3 H3 scope ce fp) rfl rfl rfl hc i [] s5 _ H5 (fun _ _ => False) I5 (stat I5 n5) st5 stop
      refine thnF td fun r s6 ⟨hr, I6⟩ => ?_
      subst hr
      have I7 : Inv X pins σ H5 s6 := I3.call' (ch := fp) I6.os I6.base I6.hok I6.bare fun b hb => ⟨(f3 b hb).1.2.2.2.1, (f3 b hb).1.2.1, (f3 b hb).1.2.2.2.2.1, (f3 b hb).1.2.2.2.2.2⟩
      have nC : H5 s3.heap.objs.size = none := by
        have z : H5 ce.locals = none := I6.free
        rw [cL] at z
        exact z
      obtain ⟨m, hn, _⟩ := I6.loc
      have hn : s6.heap.Ns ce.locals m := hn
      rw [cL] at hn
      exact hR D s3.heap.objs.size s6 m H5 I7 qq hn (I3.fpOk (Nat.le_refl _) nC)
    · have ti := T.item (X.blk s3 H3 scope ce fp) rfl rfl rfl hc i [] s5 _ H5 (fun _ _ => False) I5 (stat I5 n5) st5 go
      refine thnF ti fun r s6 ⟨u, hr, h6⟩ => ?_
      subst hr
      refine thnF h6 fun _ s7 ⟨x, H7, I7, r7, y7, st7, n7⟩ => ?_
      have I7' := I7.pinned (stat I7 n7) (T.obj _ _ st7)
      refine thnF (pg.run _ s7 _ H7 x u _ I7' r7 (step x H7 y7)) fun _ s8 ⟨σ8, H8, I8, hw8, q8⟩ => ?_
      refine thnF (pt.run _ s8 σ8 H8 _ I8 q8) fun b s9 ⟨H9, I9, q9⟩ => ?_
      have fin : ∀ {s' : Shared} {H' : Hp}, Inv (X.blk s3 H3 scope ce fp) ([] ++ pinsAt fp s7.heap) σ8 H' s' → Nx H' → ∃ m, m < n ∧ ∃ i H', Inv (X.blk s3 H3 scope ce fp) [] (wipe σ (own.map (·.2))) H' s' ∧ tn i s'.heap ∧ (∀ b ∈ fp, H' b = none) ∧ W i m H' := fun {s' H'} I' nx => by
        obtain ⟨m', hm, w'⟩ := hNx H' nx
        have pin' : ∀ b ∈ fp, ∀ o, s7.heap.get? b = some o → s'.heap.get? b = some o ∧ H' b = none := fun b hb o z =>
          let y := I'.pin (b, o) (List.mem_append_right _ (List.mem_append_right _ (mem_pinsAt hb z)))
          ⟨y.1, y.2.1⟩
        refine ⟨m', hm, i + 1, H', (I'.unpinned (pins := [])).weak (by rw [← hw8, wipe_length]) (fun j v z => by rw [← hw8] at z; exact (wipe_some z).1), T.keep _ _ _ st7 fun b hb o z => (pin' b hb o z).1, fun b hb => ?_, w'⟩
        obtain ⟨o, z, _⟩ := T.obj _ _ st7 b hb
        exact (pin' b hb o z).2
      cases b with
      | false =>
        simp only [Bool.false_eq_true, if_false] at q9 ⊢
        exact fin I9 q9
      | true =>
        simp only [if_true] at q9 ⊢
        exact thnF (pe.run _ s9 σ8 H9 _ I9 q9) fun _ s10 ⟨H10, I10, nx⟩ => fin I10 nx
  exact startAt cE (d := 0) (by rw [hcl]; rfl) loop (T.self X.A 0 _ _ _ st4 loop)
theorem c2_core {e : Expr} {emit : Value → Env → Sem Unit} {u0 : Addr → HO} {na : Sem Value} {tg iter tg1 iter1 : Expr} {ifs ifs1 : List Expr} {scope : Scope} {own : List (Str × Nat)} {vs1 : List Nat} {pos' : Pos} {wi wi1 : TI} {g g1 : TG} {tt tt1 : TT} {tm : TEm}
    {pins : List (Addr × Obj)} {s : Shared} {σ : St} {H : Hp} {Q : VK} {use : Option (Value → Sem Unit)} {Qf : Value → Shared → Prop} (cE : CompE e) (hcl : clausesOf e = [⟨tg, iter, ifs, 0⟩, ⟨tg1, iter1, ifs1, 0⟩]) (hT0 : TurnOut e tg iter ifs iter1) (hT : TurnIn e emit 1 tg1 iter1 ifs1) (hn : NewAcc X na u0)
    (hc : X.calm = true) (hN : X.N.Nodup) (I : Inv X pins σ H s) (hi : PI X tg iter wi) (ok : BlkOk X.N X.env.scope scope own) (hv : ∀ i ∈ vs1, i ∈ own.map (·.2)) (hg : Blk X scope fun Z => PG Z tg g) (ht : Blk X scope fun Z => PTs Z ifs tt)
    (hi1 : Blk X scope fun Z => PI Z tg1 iter1 wi1) (hg1 : Blk X scope fun Z => PG Z tg1 g1) (ht1 : Blk X scope fun Z => PTs Z ifs1 tt1)
    (he : Blk X scope fun Z => ∀ D, PEm Z (emit (.ref D) Z.env) (tm D)) (hs : ∀ x, foldedSetIterable iter X.env x = pure x) (hs1 : ∀ env x, foldedSetIterable iter1 env x = pure x) (h : tC2 u0 wi g tt wi1 g1 tt1 tm (own.map (·.2)) vs1 σ H Q)
    (hR : ∀ D C s' m H', Inv X pins σ H' s' → Q (.ref D) H' → s'.heap.Ns C m → FpOk X pins H' C → compPost (model X.prog X.w) X.A X.xe use Qf (.ref D) C (.ok .next) s') :
    wpAny (model X.prog X.w) X.A (comprehension e scope X.env pos' na false (eval iter X.env) use) Qf X.xe s := by
  refine wpAny_comprehension_free (use := use) hcl hs (closure_ok (frees I ok)) ok.kind (fun y hy z => by rw [ok.uniq y hy, z])
    (thn (hi.run pins s σ H _ I h) fun xv s1 hx => thn hx fun itv s2 h2 => ?_)
  obtain ⟨it, fp, tn, J, H2, rfl, I2, T, st2, f2, q⟩ := h2
  obtain ⟨o0, na1, na2⟩ := hn.ex
  refine na1 (newEnv_comp ?_)
  generalize hD : s2.heap.objs.size = D
  have hDn : H2 D = none := I2.hok.fresh (Nat.le_of_eq hD)
  obtain ⟨W, ⟨m0, w0⟩, turn⟩ := q D hDn
  generalize hs3 : ({ s2 with heap := s2.heap.push o0 } : Shared) = s3
  have I3 : Inv X pins σ (upd H2 D (u0 D)) s3 := by
    rw [← hs3]
    refine I2.laid (t' := s2.toks) (fun b o z => Heap.get?_push_of_some _ z) (Nat.le_of_eq hD) ?_
    rw [← hD]
    exact na2 _ _ I2.big
  have h3 : s3.heap = s2.heap.push o0 := by rw [← hs3]
  have f3 : ∀ b ∈ fp, FpOk X pins (upd H2 D (u0 D)) b ∧ b < s3.heap.objs.size := fun b hb => by
    have hlt : b < s2.heap.objs.size := by
      obtain ⟨o, z, _⟩ := T.obj _ _ st2 b hb
      exact Heap.lt_size z
    refine ⟨⟨?_, (f2 b hb).2⟩, by rw [h3, Heap.size_push]; exact Nat.lt_succ_of_lt hlt⟩
    rw [upd_ne (by rw [← hD]; exact Nat.ne_of_lt hlt)]
    exact (f2 b hb).1
  have st3 : tn 0 s3.heap := T.keep _ _ _ st2 fun b _ o z => by rw [h3]; exact Heap.get?_push_of_some _ z
  have I4 := block_start I3 ok hN f3
  have pg := hg s3 (upd H2 D (u0 D)) s3.heap.objs.size (cellsFrom (s3.heap.objs.size + 1) scope.names (cloFrom X.env.cells scope.names [])) fp
  have pt := ht s3 (upd H2 D (u0 D)) s3.heap.objs.size (cellsFrom (s3.heap.objs.size + 1) scope.names (cloFrom X.env.cells scope.names [])) fp
  have pe := he s3 (upd H2 D (u0 D)) s3.heap.objs.size (cellsFrom (s3.heap.objs.size + 1) scope.names (cloFrom X.env.cells scope.names [])) fp D
  have pi1 := hi1 s3 (upd H2 D (u0 D)) s3.heap.objs.size (cellsFrom (s3.heap.objs.size + 1) scope.names (cloFrom X.env.cells scope.names [])) fp
  have pg1 := hg1 s3 (upd H2 D (u0 D)) s3.heap.objs.size (cellsFrom (s3.heap.objs.size + 1) scope.names (cloFrom X.env.cells scope.names [])) fp
  have pt1 := ht1 s3 (upd H2 D (u0 D)) s3.heap.objs.size (cellsFrom (s3.heap.objs.size + 1) scope.names (cloFrom X.env.cells scope.names [])) fp
  show codeAny _ _ (.compStart e 0 (.ref it) (.ref D) (compEnvC scope (cellsFrom (s3.heap.objs.size + 1) scope.names (cloFrom X.env.cells scope.names [])) s3.heap.objs.size X.env)) (compPost (model X.prog X.w) X.A X.xe use Qf (.ref D) s3.heap.objs.size) { s3 with heap := pushCells (s3.heap.push { cls := .type "dict", data := .dict #[] }) scope.names }
  have nfp : ∀ b ∈ fp, (upd H2 D (u0 D)) b = none := fun b hb => (f3 b hb).1.1
  generalize hce : compEnvC scope (cellsFrom (s3.heap.objs.size + 1) scope.names (cloFrom X.env.cells scope.names [])) s3.heap.objs.size X.env = ce at I4 pg pt pe pi1 pg1 pt1 ⊢
  have cL : ce.locals = s3.heap.objs.size := by subst hce; rfl
  generalize hH3 : upd H2 D (u0 D) = H3 at I3 I4 pg pt pe pi1 pg1 pt1 w0 nfp f3
  generalize hs4 : ({ s3 with heap := pushCells (s3.heap.push { cls := .type "dict", data := .dict #[] }) scope.names } : Shared) = s4 at I4 ⊢
  have st4 : tn 0 s4.heap := T.keep _ _ _ st3 fun b _ o z => by rw [← hs4]; exact pushCells_keeps _ _ _ _ (Heap.get?_push_of_some _ z)
  have stat : ∀ {σ' : St} {H' : Hp} {s' : Shared}, Inv (X.blk s3 H3 scope ce fp) [] σ' H' s' → (∀ b ∈ fp, H' b = none) → ∀ b ∈ fp, FpOk (X.blk s3 H3 scope ce fp) [] H' b := fun {σ' H' s'} I' hn b hb =>
    ⟨hn b hb, (I'.ok.exf b hb).1, I'.ok.exfs b hb, .inl hb, fun x c z => (I'.ok.exf b hb).2 x c z, fun p hp => absurd (show p ∈ ([] : List (Addr × Obj)) ++ [] from hp) (by simp)⟩
  have loop : codeAny (model X.prog X.w) X.A (.compLoop e 0 (.ref it) (.ref D) ce) (compPost (model X.prog X.w) X.A X.xe use Qf (.ref D) s3.heap.objs.size) s4 := by
    refine loopOut cE hT0 (hs1 ce) (fun n s' => ∃ i H', Inv (X.blk s3 H3 scope ce fp) [] (wipe σ (own.map (·.2))) H' s' ∧ tn i s'.heap ∧ (∀ b ∈ fp, H' b = none) ∧ W i n H') ?_ m0 ⟨0, H3, I4, st4, nfp, w0⟩
    rintro n s5 ⟨i, H5, I5, st5, n5, w5⟩
    rcases turn i n H5 w5 with ⟨stop, qq⟩ | ⟨go, Nx, hNx, step⟩
    · have td := T.done (X.blk s3 H3 scope ce fp) rfl rfl rfl hc i [] s5 _ H5 (fun _ _ => False) I5 (stat I5 n5) st5 stop
      refine thnF td fun r s6 ⟨hr, I6⟩ => ?_
      subst hr
      have I7 : Inv X pins σ H5 s6 := I3.call' (ch := fp) I6.os I6.base I6.hok I6.bare fun b hb => ⟨(f3 b hb).1.2.2.2.1, (f3 b hb).1.2.1, (f3 b hb).1.2.2.2.2.1, (f3 b hb).1.2.2.2.2.2⟩
      have nC : H5 s3.heap.objs.size = none := by
        have z : H5 ce.locals = none := I6.free
        rw [cL] at z
        exact z
      obtain ⟨m, hn, _⟩ := I6.loc
      have hn : s6.heap.Ns ce.locals m := hn
      rw [cL] at hn
      exact hR D s3.heap.objs.size s6 m H5 I7 qq hn (I3.fpOk (Nat.le_refl _) nC)
    · have ti := T.item (X.blk s3 H3 scope ce fp) rfl rfl rfl hc i [] s5 _ H5 (fun _ _ => False) I5 (stat I5 n5) st5 go
      refine thnF ti fun r s6 ⟨u, hr, h6⟩ => ?_
      subst hr
      refine thnF h6 fun _ s7 ⟨x, H7, I7, r7, y7, st7, n7⟩ => ?_
      have I7' := I7.pinned (stat I7 n7) (T.obj _ _ st7)
      refine thnF (pg.run _ s7 _ H7 x u _ I7' r7 (step x H7 y7)) fun _ s8 ⟨σ8, H8, I8, hw8, q8⟩ => ?_
      refine thnF (pt.run _ s8 σ8 H8 _ I8 q8) fun b s9 ⟨H9, I9, q9⟩ => ?_
      have fin : ∀ {σ9 : St} {s' : Shared} {H' : Hp}, Inv (X.blk s3 H3 scope ce fp) ([] ++ pinsAt fp s7.heap) σ9 H' s' → (wipe σ (own.map (·.2))).length = σ9.length → (∀ (j : Nat) v, (wipe σ (own.map (·.2)))[j]? = some (some v) → σ9[j]? = some (some v)) → Nx H' →
          ∃ m, m < n ∧ ∃ i H', Inv (X.blk s3 H3 scope ce fp) [] (wipe σ (own.map (·.2))) H' s' ∧ tn i s'.heap ∧ (∀ b ∈ fp, H' b = none) ∧ W i m H' := fun {σ9 s' H'} I' hl hk nx => by
        obtain ⟨m', hm, w'⟩ := hNx H' nx
        have pin' : ∀ b ∈ fp, ∀ o, s7.heap.get? b = some o → s'.heap.get? b = some o ∧ H' b = none := fun b hb o z =>
          let y := I'.pin (b, o) (List.mem_append_right _ (List.mem_append_right _ (mem_pinsAt hb z)))
          ⟨y.1, y.2.1⟩
        refine ⟨m', hm, i + 1, H', (I'.unpinned (pins := [])).weak hl hk, T.keep _ _ _ st7 fun b hb o z => (pin' b hb o z).1, fun b hb => ?_, w'⟩
        obtain ⟨o, z, _⟩ := T.obj _ _ st7 b hb
        exact (pin' b hb o z).2
      have hl8 : (wipe σ (own.map (·.2))).length = σ8.length := by rw [← hw8, wipe_length]
      have hk8 : ∀ (j : Nat) v, (wipe σ (own.map (·.2)))[j]? = some (some v) → σ8[j]? = some (some v) := fun j v z => by
        rw [← hw8] at z
        exact (wipe_some z).1
      have hk9 : ∀ (j : Nat) v, (wipe σ (own.map (·.2)))[j]? = some (some v) → (wipe σ8 vs1)[j]? = some (some v) := fun j v z => by
        rw [← hw8] at z
        obtain ⟨z1, z2⟩ := wipe_some z
        rw [wipe_out fun y => z2 (hv j y)]
        exact z1
      cases b with
      | false =>
        simp only [Bool.false_eq_true, if_false] at q9 ⊢
        exact fin I9 hl8 hk8 q9
      | true =>
        simp only [if_true] at q9 ⊢
        refine thnF (pi1.run _ s9 σ8 H9 _ I9 q9) fun xv s10 hx => thnF hx fun itv s11 h11 => ?_
        obtain ⟨it1, fp1, tn1, J1, H11, rfl, I11, T1, st11, f11, W1, ⟨m1, w1⟩, turn1⟩ := h11
        have stat1 : ∀ {H' : Hp}, (∀ b ∈ fp1, H' b = none) → ∀ b ∈ fp1, FpOk (X.blk s3 H3 scope ce fp) ([] ++ pinsAt fp s7.heap) H' b := fun hn b hb => ⟨hn b hb, (f11 b hb).2⟩
        have loop1 : codeAny (model X.prog X.w) X.A (.compLoop e 1 (.ref it1) (.ref D) ce)
            (fun r s' => match r with
              | .ok _ => ∃ m, m < n ∧ ∃ i H', Inv (X.blk s3 H3 scope ce fp) [] (wipe σ (own.map (·.2))) H' s' ∧ tn i s'.heap ∧ (∀ b ∈ fp, H' b = none) ∧ W i m H'
              | .error _ => False) s11 := by
          refine loopIn cE hT (fun k s' => ∃ j H', Inv (X.blk s3 H3 scope ce fp) ([] ++ pinsAt fp s7.heap) (wipe σ8 vs1) H' s' ∧ tn1 j s'.heap ∧ (∀ b ∈ fp1, H' b = none) ∧ W1 j k H') ?_ m1 ⟨0, H11, I11.weak (wipe_length _ _) (fun j v z => (wipe_some z).1), st11, fun b hb => (f11 b hb).1, w1⟩
          rintro k s12 ⟨j, H12, I12, st12, n12, w12⟩
          rcases turn1 j k H12 w12 with ⟨stop1, nx1⟩ | ⟨go1, Nx1, hNx1, step1⟩
          · refine thnF (T1.done (X.blk s3 H3 scope ce fp) rfl rfl rfl hc j _ s12 (wipe σ8 vs1) H12 (fun _ _ => False) I12 (stat1 n12) st12 stop1) fun r s13 ⟨hr, I13⟩ => ?_
            subst hr
            exact fin I13 (hl8.trans (wipe_length σ8 vs1).symm) hk9 nx1
          · refine thnF (T1.item (X.blk s3 H3 scope ce fp) rfl rfl rfl hc j _ s12 (wipe σ8 vs1) H12 (fun _ _ => False) I12 (stat1 n12) st12 go1) fun r s13 ⟨u1, hr, h13⟩ => ?_
            subst hr
            refine thnF h13 fun _ s14 ⟨x1, H14, I14, r14, y14, st14, n14⟩ => ?_
            have I14' := I14.pinned (stat1 n14) (T1.obj _ _ st14)
            refine thnF (pg1.run _ s14 (wipe σ8 vs1) H14 x1 u1 _ I14' r14 (step1 x1 H14 y14)) fun _ s15 ⟨σ15, H15, I15, hw15, q15⟩ => ?_
            refine thnF (pt1.run _ s15 σ15 H15 _ I15 q15) fun b1 s16 ⟨H16, I16, q16⟩ => ?_
            have fin1 : ∀ {s' : Shared} {H' : Hp}, Inv (X.blk s3 H3 scope ce fp) (([] ++ pinsAt fp s7.heap) ++ pinsAt fp1 s14.heap) σ15 H' s' → Nx1 H' → ∃ m, m < k ∧ ∃ j H', Inv (X.blk s3 H3 scope ce fp) ([] ++ pinsAt fp s7.heap) (wipe σ8 vs1) H' s' ∧ tn1 j s'.heap ∧ (∀ b ∈ fp1, H' b = none) ∧ W1 j m H' := fun {s' H'} I' nx => by
              obtain ⟨m', hm, w'⟩ := hNx1 H' nx
              have pin' : ∀ b ∈ fp1, ∀ o, s14.heap.get? b = some o → s'.heap.get? b = some o ∧ H' b = none := fun b hb o z =>
                let y := I'.pin (b, o) (List.mem_append_right _ (List.mem_append_right _ (mem_pinsAt hb z)))
                ⟨y.1, y.2.1⟩
              refine ⟨m', hm, j + 1, H', I'.unpinned.weak (by rw [← hw15, wipe_length]) (fun j v z => by rw [← hw15] at z; exact (wipe_some z).1), T1.keep _ _ _ st14 fun b hb o z => (pin' b hb o z).1, fun b hb => ?_, w'⟩
              obtain ⟨o, z, _⟩ := T1.obj _ _ st14 b hb
              exact (pin' b hb o z).2
            cases b1 with
            | false =>
              simp only [Bool.false_eq_true, if_false] at q16 ⊢
              exact fin1 I16 q16
            | true =>
              simp only [if_true] at q16 ⊢
              exact thnF (pe.run _ s16 σ15 H16 _ I16 q16) fun _ s17 ⟨H17, I17, nx⟩ => fin1 I17 nx
        exact startAt cE (d := 1) (by rw [hcl]; rfl) loop1 (T1.self X.A 0 _ _ _ st11 loop1)
  exact startAt cE (d := 0) (by rw [hcl]; rfl) loop (T.self X.A 0 _ _ _ st4 loop)
/-! ### the two ways a made thing is handed on -/
theorem post_val {pins : List (Addr × Obj)} {σ : St} {Q : VK} {D C : Addr} {s' : Shared} {m : Str → Option Value} {H' : Hp} (J : Inv X pins σ H' s') (q : Q (.ref D) H') (hn : s'.heap.Ns C m) (f : FpOk X pins H' C) :
    compPost (model X.prog X.w) X.A X.xe none (EP X pins σ Q) (.ref D) C (.ok .next) s' := by
  obtain ⟨_, g1, _, g3, g4, g5⟩ := id f
  exact ⟨m, hn, fun _ sb => ⟨.ref D, H', J.turned (t' := s'.toks) (fun b o hb z => (sb.2 b hb).trans z) f.1 g1 g3 g4 g5, rfl, q⟩⟩
theorem post_name {pins : List (Addr × Obj)} {σ : St} {E : Ends} {i : Nat} {y : Str} {py : Pos} {L C : Addr} {s' : Shared} {m : Str → Option Value} {H' : Hp} (hN : X.N.Nodup) (hy : X.N[i]? = some y) (hyl : X.env.scope.names.lookup y = some .local)
    (J : Inv X pins σ H' s') (q : gName i (.ref L) σ H' E.nx) (hn : s'.heap.Ns C m) (f : FpOk X pins H' C) :
    compPost (model X.prog X.w) X.A X.xe (some (assign (.Name y py) X.env)) (fun _ s' => SP X pins E .next s') (.ref L) C (.ok .next) s' := by
  show wpAny _ _ (assign (.Name y py) X.env (.ref L)) _ _ _
  refine wpAny_assign_Name (store_ok2 (v := V.ref L) J hN hy (.inl hyl) rfl (fun s2 J2 ⟨a, sb, ha⟩ => ?_) (.inr hyl))
  obtain ⟨_, g1, _, g3, g4, g5⟩ := id f
  have ne : C ≠ a := ha.elim (fun z => by rw [z]; exact g1) fun z w => g4 y a z w.symm
  exact ⟨m, hn.sameBut sb ne, fun _ sb3 => ⟨_, H', J2.turned (t' := s2.toks) (fun b o hb z => (sb3.2 b hb).trans z) f.1 g1 g3 g4 g5, q⟩⟩

end
/-! ### the turns of the three kinds -/
section
variable {elt kx vx t0 i0 t1 i1 : Expr} {f0 f1 : List Expr} {scope : Scope} {pos : Pos}
abbrev emL (elt : Expr) (acc : Value) (env : Env) : Sem Unit := do let _ ← call (.builtin "list.append") [acc, ← eval elt env]
abbrev emS (elt : Expr) (acc : Value) (env : Env) : Sem Unit := do let v ← eval elt env; standAt elt.pos; let _ ← call (.builtin "set.add") [acc, v]
abbrev emD (kx vx : Expr) (acc : Value) (env : Env) : Sem Unit := do
  let kv ← eval kx env
  let vv ← holding [kv] (eval vx env)
  match acc with
  | .ref d => do
    standAt { kx.pos with endLine := vx.pos.endLine, endCol := vx.pos.endCol }
    holding [kv, vv] (dictSet d kv vv)
  | _ => unsupported "internal:dictcomp"
theorem turn_L1 : TurnIn (.ListComp elt [⟨t0, i0, f0, 0⟩] scope pos) (emL elt) 0 t0 i0 f0 := fun _ _ _ => rfl
theorem turn_S1 : TurnIn (.SetComp elt [⟨t0, i0, f0, 0⟩] scope pos) (emS elt) 0 t0 i0 f0 := fun _ _ _ => rfl
theorem turn_D1 : TurnIn (.DictComp kx vx [⟨t0, i0, f0, 0⟩] scope pos) (emD kx vx) 0 t0 i0 f0 := fun _ _ _ => rfl
theorem turn_L2o : TurnOut (.ListComp elt [⟨t0, i0, f0, 0⟩, ⟨t1, i1, f1, 0⟩] scope pos) t0 i0 f0 i1 := fun _ _ _ => rfl
theorem turn_L2 : TurnIn (.ListComp elt [⟨t0, i0, f0, 0⟩, ⟨t1, i1, f1, 0⟩] scope pos) (emL elt) 1 t1 i1 f1 := fun _ _ _ => rfl
theorem turn_S2o : TurnOut (.SetComp elt [⟨t0, i0, f0, 0⟩, ⟨t1, i1, f1, 0⟩] scope pos) t0 i0 f0 i1 := fun _ _ _ => rfl
theorem turn_S2 : TurnIn (.SetComp elt [⟨t0, i0, f0, 0⟩, ⟨t1, i1, f1, 0⟩] scope pos) (emS elt) 1 t1 i1 f1 := fun _ _ _ => rfl
end
end L2.DL

set_option Elab.async false
set_option linter.all false
set_option maxRecDepth 100000
set_option maxHeartbeats 1000000
/-! DL7: comprehensions over the data layer. -/
namespace L2.DL
open PySem PySem.Spec PyProof.Rows

/-! ### targets that keep the other slots -/
def dwipe (τ : DSt) : List Nat → DSt
  | [] => τ
  | v :: vs => (dwipe τ vs).set v none
theorem srep_wipe {K : PySem.W.Frag} {H : Hp} {σ : St} {τ : DSt} (h : SRep K H σ τ) : ∀ vs, SRep K H (wipe σ vs) (dwipe τ vs)
  | [] => h
  | v :: vs => by
    have ih := srep_wipe h vs
    unfold dwipe wipe
    refine ⟨by simpa using ih.1, fun i d e => ?_⟩
    by_cases c : v = i
    · subst c
      by_cases hv : v < (dwipe τ vs).length
      · rw [List.getElem?_set_self hv] at e; cases e
      · rw [List.getElem?_eq_none (by simpa using hv)] at e; cases e
    · rw [List.getElem?_set_ne c] at e ⊢
      exact ih.2 i d e
theorem wipe_set {σ : St} {i : Nat} {x : Option V} : ∀ {vs : List Nat}, i ∈ vs → wipe (σ.set i x) vs = wipe σ vs
  | v :: vs, h => by
    unfold wipe
    by_cases c : i ∈ vs
    · rw [wipe_set c]
    · have e : i = v := by rcases List.mem_cons.mp h with e | e; exact e; exact absurd e c
      subst e
      have key : ∀ ws : List Nat, i ∉ ws → wipe (σ.set i x) ws = (wipe σ ws).set i x := by
        intro ws
        induction ws with
        | nil => intro _; rfl
        | cons w ws ih =>
          intro hw
          unfold wipe
          rw [ih fun z => hw (List.mem_cons_of_mem _ z)]
          exact List.set_comm _ _ (fun z => hw (by rw [z]; exact List.mem_cons_self))
      rw [key vs c, List.set_set]
theorem wipe_in {σ : St} {i : Nat} : ∀ {vs : List Nat}, i ∈ vs → (wipe σ vs)[i]? = if i < σ.length then some none else none
  | v :: vs, h => by
    unfold wipe
    rw [List.getElem?_set, wipe_length]
    by_cases c : v = i
    · subst c; simp
    · rw [if_neg c]
      exact wipe_in (by rcases List.mem_cons.mp h with e | e; exact absurd e.symm c; exact e)
theorem wipe_wipe (σ : St) (vs : List Nat) : wipe (wipe σ vs) vs = wipe σ vs := by
  refine List.ext_getElem? fun i => ?_
  by_cases c : i ∈ vs
  · rw [wipe_in c, wipe_in c, wipe_length]
  · rw [wipe_out c]
def lGw (Y : Wd) (vs : List Nat) (g : DG) : TG := fun v σ H Q => ∃ d τ G Q', Rp Y.K H d v ∧ SRep Y.K H σ τ ∧ HRep Y H G ∧ g d τ G Q' ∧ ∀ τ' G' σ' H', Q' τ' G' → Ext H H' → SRep Y.K H' σ' τ' → HRep Y H' G' → wipe σ' vs = wipe σ vs → Q σ' H'
def lGsw (Y : Wd) (vs : List Nat) (g : DGs) : TGs := fun v σ H Q => ∃ d τ G Q', RpL Y.K H d v ∧ SRep Y.K H σ τ ∧ HRep Y H G ∧ g d τ G Q' ∧ ∀ τ' G' σ' H', Q' τ' G' → Ext H H' → SRep Y.K H' σ' τ' → HRep Y H' G' → wipe σ' vs = wipe σ vs → Q σ' H'
section
variable {X : Cx} {e : Expr} {es : List Expr} {pos : Pos} {vs : List Nat}
theorem W_name {i : Nat} (h : PG X e (gName i)) (hi : i ∈ vs) : PG X e (lGw (wd X) vs (dgName i)) := h.weak fun v σ H Q h => by
  obtain ⟨d, τ, G, Q', p, sr, hr, q, k⟩ := h
  exact k _ _ _ _ q (.refl H) (sr.set i p) hr (wipe_set hi)
theorem Ws_nil : PGs X [] (lGsw (wd X) vs dgNil) := pgs_nil.weak fun v σ H Q h => by
  obtain ⟨d, τ, G, Q', p, sr, hr, q, k⟩ := h
  cases d with
  | nil => cases p; exact ⟨rfl, k _ _ _ _ q (.refl H) sr hr rfl⟩
  | cons _ _ => exact q.elim
theorem Ws_cons {g : DG} {gs : DGs} (h1 : PG X e (lGw (wd X) vs g)) (h2 : PGs X es (lGsw (wd X) vs gs)) (hs : (assignEach (e :: es) X.env).map (·.2) = assign e X.env :: (assignEach es X.env).map (·.2) := by rfl) : PGs X (e :: es) (lGsw (wd X) vs (dgCons g gs)) :=
  (pgs_cons h1 h2 hs).weak fun v σ H Q h => by
    obtain ⟨d, τ, G, Q', p, sr, hr, q, k⟩ := h
    cases d with
    | nil => exact q.elim
    | cons d ds =>
      obtain ⟨v, r, rfl, p1, p2⟩ := p
      exact ⟨v, r, rfl, d, τ, G, _, p1, sr, hr, q, fun τ1 G1 σ1 H1 q1 x1 s1 r1 w1 => ⟨ds, τ1, G1, Q', p2.ext x1, s1, r1, q1, fun τ2 G2 σ2 H2 q2 x2 s2 r2 w2 => k _ _ _ _ q2 (x1.trans x2) s2 r2 (w2.trans w1)⟩⟩
theorem W_tup {j : Nat} {gs : DGs} {n : Nat} (hc : X.calm = true) (h : PGs X es (lGsw (wd X) vs gs)) (hn : (assignEach es X.env).length = n := by rfl) (hst : (assignEach es X.env).findIdx? (·.1) = none := by rfl) : PG X (.Tuple es j pos) (lGw (wd X) vs (dgTup n gs)) :=
  (pg_tup hc h hn hst).weak fun v σ H Q h => by
    obtain ⟨d, τ, G, Q', p, sr, hr, q, k⟩ := h
    cases d with
    | tup xs =>
      obtain ⟨a, us, rfl, p1, p2⟩ := p
      exact ⟨a, us, rfl, p1, by rw [← p2.len]; exact q.1, xs, τ, G, Q', p2, sr, hr, q.2, k⟩
    | _ => exact q.elim
end

/-! ### the tests of a clause -/
def dYes : DT := fun _ G Q => Q true G
section
variable {X : Cx}
theorem Ts_nil : PTs X [] (lT (wd X) dYes) := ⟨fun pins s σ H Q I h => pts_nil.run pins s σ H Q I (by
  obtain ⟨τ, G, Q', sr, hr, q, k⟩ := h
  exact k.here q hr)⟩
theorem Ts_one {c : Expr} {t : DT} (h : PT X c (lT (wd X) t)) : PTs X [c] (lT (wd X) t) := pts_one h
end

/-! ### what is added -/
abbrev DEm := Addr → DSt → DH → (DH → Prop) → Prop
def lEm (Y : Wd) (tm : DEm) : TEm := fun D σ H N => ∃ τ G N', SRep Y.K H σ τ ∧ HRep Y H G ∧ tm D τ G N' ∧ ∀ G' H', N' G' → Ext H H' → HRep Y H' G' → N H'
def dmL (te : DE) : DEm := fun D τ G N => te τ G fun d G1 => withL G1 D fun acc => acc.length < 16777216 ∧ N (dup G1 D (.lst (acc ++ [d])))
def dmD (tk tv : DE) : DEm := fun D τ G N => tk τ G fun k G1 => tv τ G1 fun v G2 => match k.key with
  | some k => withD G2 D fun kvs => kvs.length < 16777216 ∧ N (dup G2 D (.dic (kput kvs k v)))
  | none => False
section
variable {X : Cx} {elt kx vx : Expr} {te tk tv : DE}
theorem em_L {env : Env} (hE : env = X.env) (h : PE X elt (lE (wd X) te)) (D : Addr) : PEm X (emL elt (.ref D) env) (lEm (wd X) (dmL te) D) := by
  subst hE
  refine ⟨fun pins s σ H N I ⟨τ, G, N', sr, hr, q, k⟩ => ?_⟩
  refine wpAny_bind (thn (h.run pins s σ H (fun y H1 => ∃ acc, H1 D = some (.lst acc) ∧ acc.length < sizeLine ∧ N (upd H1 D (.lst (acc ++ [y])))) I ⟨τ, G, _, sr, hr, q, fun d G1 v H1 q1 x1 r1 p1 => ?_⟩) fun z s1 ⟨y, H1, I1, r1, acc, hD, hz, n⟩ => ?_)
  · unfold withL at q1
    split at q1
    · rename_i xs e
      obtain ⟨vs, h1, h2⟩ := r1 _ _ e
      have x2 : Ext H1 (upd H1 D (.lst (vs ++ [v]))) := Ext.put h1 (fun _ z => by cases z) (fun _ _ z => by cases z)
      exact ⟨vs, h1, by rw [line_eq, ← h2.len]; exact q1.1, k _ _ q1.2 (x1.trans x2) (r1.put x2 ⟨_, upd_same, (h2.snoc p1).ext x2⟩)⟩
    · exact q1.elim
  · exact wpAny_bind (app_ok I1 hD hz r1 fun s2 I2 => wpAny_pure ⟨_, I2, n⟩)
theorem em_D {env : Env} (hE : env = X.env) (hk : PE X kx (lE (wd X) tk)) (hv : PE X vx (lE (wd X) tv)) (D : Addr) : PEm X (emD kx vx (.ref D) env) (lEm (wd X) (dmD tk tv) D) := by
  subst hE
  refine ⟨fun pins s σ H N I ⟨τ, G, N', sr, hr, q, k⟩ => ?_⟩
  refine wpAny_bind (thn (hk.run pins s σ H (fun y H1 => ∃ G1 d, Rp X.K H1 d y ∧ HRep (wd X) H1 G1 ∧ Ext H H1 ∧ tv τ G1 (fun v G2 => match d.key with
      | some k => withD G2 D fun kvs => kvs.length < 16777216 ∧ N' (dup G2 D (.dic (kput kvs k v)))
      | none => False)) I ⟨τ, G, _, sr, hr, q, fun d G1 v H1 q1 x1 r1 p1 => ⟨G1, d, p1, r1, x1, q1⟩⟩) fun u s1 ⟨y, H1, I1, ru, G1, d, p1, hr1, x1, q1⟩ => ?_)
  refine wpAny_bind (wpAny_holding (thn (hv.run pins s1 σ H1 (fun z H2 => ∃ kws k1, y = NK.v k1 ∧ H2 D = some (DicN (wd X) D kws) ∧ kws.length < 16777216 ∧ N (upd H2 D (DicN (wd X) D (kput kws k1 z)))) I1 ⟨τ, G1, _, sr.ext x1, hr1, q1, fun v G2 z H2 q2 x2 r2 p2 => ?_⟩) fun r s2 ⟨z, H2, I2, rz, kws, k1, e1, e2, e3, n⟩ => ?_))
  · split at q2
    · rename_i k1 ek
      unfold withD at q2
      split at q2
      · rename_i kvs e
        obtain ⟨kws, h1, h2⟩ := r2 _ _ e
        obtain ⟨x3, r3⟩ := r2.putN e (h2.put k1 p2)
        exact ⟨kws, k1, rp_key p1 ek, h1, by rw [← h2.len]; exact q2.1, k _ _ q2.2 ((x1.trans x2).trans x3) r3⟩
      · exact q2.elim
    · exact q2.elim
  · subst e1
    exact wpAny_bind (wpAny_standAt (wpAny_holding (dn_dset I2 e2 e3 ru rz fun s' I' => ⟨_, I', n⟩)))
/-! ### what is made -/
theorem acc_L : NewAcc X (newList []) (fun _ => .lst []) := ⟨⟨_, fun h => wpAny_newList h, fun H h _ => ⟨Nat.zero_le _, [], 0, .nil, Heap.get?_push_size _ rfl⟩⟩⟩
theorem acc_D : NewAcc X newDict (fun D => DicN (wd X) D []) := ⟨⟨_, fun h => wpAny_newObj_type h, fun H h hb => dn_empty h hb⟩⟩
end

/-! ### the readings -/
def dC1 (o0 : Addr → DO) (vs : List Nat) (wi : DI) (g : DG) (tt : DT) (tm : DEm) : DE := fun τ G Q => wi τ G fun it G1 => ∀ D, G1 D = none → ∃ I : Nat → DH → Prop, I 0 (dup G1 D (o0 D)) ∧ (∀ i G, I i G → it.ok G) ∧
  (∀ i x G, it.items[i]? = some x → I i G → g x (dwipe τ vs) G fun τ2 G2 => tt τ2 G2 fun b G3 => match b with
    | true => tm D τ2 G3 (I (i + 1))
    | false => I (i + 1) G3) ∧ ∀ G, I it.items.length G → Q (.ref D) G
def dC2 (o0 : Addr → DO) (vs vs1 : List Nat) (wi : DI) (g : DG) (tt : DT) (wi1 : DI) (g1 : DG) (tt1 : DT) (tm : DEm) : DE := fun τ G Q => wi τ G fun it G1 => ∀ D, G1 D = none → ∃ I : Nat → DH → Prop, I 0 (dup G1 D (o0 D)) ∧ (∀ i G, I i G → it.ok G) ∧
  (∀ i x G, it.items[i]? = some x → I i G → g x (dwipe τ vs) G fun τ2 G2 => tt τ2 G2 fun b G3 => match b with
    | true => wi1 τ2 G3 fun it1 G4 => ∃ I1 : Nat → DH → Prop, I1 0 G4 ∧ (∀ j G, I1 j G → it1.ok G) ∧
      (∀ j y G, it1.items[j]? = some y → I1 j G → g1 y (dwipe τ2 vs1) G fun τ3 G5 => tt1 τ3 G5 fun b G6 => match b with
        | true => tm D τ3 G6 (I1 (j + 1))
        | false => I1 (j + 1) G6) ∧ ∀ G, I1 it1.items.length G → I (i + 1) G
    | false => I (i + 1) G3) ∧ ∀ G, I it.items.length G → Q (.ref D) G
theorem lE_c1 {Y : Wd} {u0 : Addr → HO} {o0 : Addr → DO} {vs : List Nat} {wi : DI} {g : DG} {tt : DT} {tm : DEm} (h0 : ∀ H D, ORep Y (upd H D (u0 D)) D (o0 D)) {σ : St} {H : Hp} {Q : VK} (h : lE Y (dC1 o0 vs wi g tt tm) σ H Q) :
    tC1 u0 (lI Y wi) (lGw Y vs g) (lT Y tt) (lEm Y tm) vs σ H Q := by
  obtain ⟨τ, G, Q', sr, hr, q, k⟩ := h
  refine ⟨τ, G, _, sr, hr, q, fun it G1 J H1 q1 x1 r1 itd D nD => ?_⟩
  obtain ⟨I, i0, iok, istep, iend⟩ := q1 D (r1.free nD)
  refine ⟨fun i m H' => m = it.items.length - i ∧ i ≤ it.items.length ∧ Ext H1 H' ∧ ∃ G', HRep Y H' G' ∧ I i G', ⟨_, rfl, Nat.zero_le _, Ext.new nD, _, r1.new nD (h0 H1 D), i0⟩, ?_⟩
  rintro i m H2 ⟨rfl, hi, x2, G2, r2, i2⟩
  obtain ⟨go, stop⟩ := itd i H2 G2 x2 r2 (iok _ _ i2)
  by_cases hlt : i < it.items.length
  · obtain ⟨g1, g2⟩ := go it.items[i] (by simp [hlt])
    refine .inr ⟨g1, fun H' => Ext H1 H' ∧ ∃ G', HRep Y H' G' ∧ I (i + 1) G', fun H' z => ⟨it.items.length - (i + 1), by omega, rfl, hlt, z⟩, fun v H3 y => ?_⟩
    obtain ⟨x3, r3, p3⟩ := g2 v H3 y
    refine ⟨it.items[i], dwipe τ vs, G2, _, p3, srep_wipe (sr.ext ((x1.trans x2).trans x3)) vs, r3, istep i _ G2 (by simp [hlt]) i2, fun τ4 G4 σ4 H4 q4 x4 s4 r4 w4 => ?_⟩
    refine ⟨w4.trans (wipe_wipe σ vs), τ4, G4, _, s4, r4, q4, fun b G5 H5 q5 x5 r5 => ?_⟩
    cases b with
    | false => exact (if_neg Bool.false_ne_true).mpr ⟨((x2.trans x3).trans x4).trans x5, G5, r5, q5⟩
    | true => exact (if_pos rfl).mpr ⟨τ4, G5, _, s4.ext x5, r5, q5, fun G6 H6 q6 x6 r6 => ⟨(((x2.trans x3).trans x4).trans x5).trans x6, G6, r6, q6⟩⟩
  · have e : i = it.items.length := by omega
    subst e
    exact .inl ⟨stop (Nat.le_refl _), k _ _ _ _ (iend _ i2) (x1.trans x2) r2 rfl⟩
theorem lE_c2 {Y : Wd} {u0 : Addr → HO} {o0 : Addr → DO} {vs vs1 : List Nat} {wi wi1 : DI} {g g1 : DG} {tt tt1 : DT} {tm : DEm} (h0 : ∀ H D, ORep Y (upd H D (u0 D)) D (o0 D)) {σ : St} {H : Hp} {Q : VK} (h : lE Y (dC2 o0 vs vs1 wi g tt wi1 g1 tt1 tm) σ H Q) :
    tC2 u0 (lI Y wi) (lGw Y vs g) (lT Y tt) (lI Y wi1) (lGw Y vs1 g1) (lT Y tt1) (lEm Y tm) vs vs1 σ H Q := by
  obtain ⟨τ, G, Q', sr, hr, q, k⟩ := h
  refine ⟨τ, G, _, sr, hr, q, fun it G1 J H1 q1 x1 r1 itd D nD => ?_⟩
  obtain ⟨I, i0, iok, istep, iend⟩ := q1 D (r1.free nD)
  refine ⟨fun i m H' => m = it.items.length - i ∧ i ≤ it.items.length ∧ Ext H1 H' ∧ ∃ G', HRep Y H' G' ∧ I i G', ⟨_, rfl, Nat.zero_le _, Ext.new nD, _, r1.new nD (h0 H1 D), i0⟩, ?_⟩
  rintro i m H2 ⟨rfl, hi, x2, G2, r2, i2⟩
  obtain ⟨go, stop⟩ := itd i H2 G2 x2 r2 (iok _ _ i2)
  by_cases hlt : i < it.items.length
  · obtain ⟨g1, g2⟩ := go it.items[i] (by simp [hlt])
    refine .inr ⟨g1, fun H' => Ext H1 H' ∧ ∃ G', HRep Y H' G' ∧ I (i + 1) G', fun H' z => ⟨it.items.length - (i + 1), by omega, rfl, hlt, z⟩, fun v H3 y => ?_⟩
    obtain ⟨x3, r3, p3⟩ := g2 v H3 y
    refine ⟨it.items[i], dwipe τ vs, G2, _, p3, srep_wipe (sr.ext ((x1.trans x2).trans x3)) vs, r3, istep i _ G2 (by simp [hlt]) i2, fun τ4 G4 σ4 H4 q4 x4 s4 r4 w4 => ?_⟩
    refine ⟨w4.trans (wipe_wipe σ vs), τ4, G4, _, s4, r4, q4, fun b G5 H5 q5 x5 r5 => ?_⟩
    have x25 := ((x2.trans x3).trans x4).trans x5
    cases b with
    | false => exact (if_neg Bool.false_ne_true).mpr ⟨x25, G5, r5, q5⟩
    | true =>
      refine (if_pos rfl).mpr ⟨τ4, G5, _, s4.ext x5, r5, q5, fun it1 G6 J1 H6 q6 x6 r6 itd1 => ?_⟩
      obtain ⟨I1, j0, jok, jstep, jend⟩ := q6
      refine ⟨fun j m H' => m = it1.items.length - j ∧ j ≤ it1.items.length ∧ Ext H6 H' ∧ ∃ G', HRep Y H' G' ∧ I1 j G', ⟨_, rfl, Nat.zero_le _, .refl _, _, r6, j0⟩, ?_⟩
      rintro j m H7 ⟨rfl, hj, x7, G7, r7, i7⟩
      obtain ⟨go1, stop1⟩ := itd1 j H7 G7 x7 r7 (jok _ _ i7)
      by_cases hlt1 : j < it1.items.length
      · obtain ⟨g3, g4⟩ := go1 it1.items[j] (by simp [hlt1])
        refine .inr ⟨g3, fun H' => Ext H6 H' ∧ ∃ G', HRep Y H' G' ∧ I1 (j + 1) G', fun H' z => ⟨it1.items.length - (j + 1), by omega, rfl, hlt1, z⟩, fun v H8 y => ?_⟩
        obtain ⟨x8, r8, p8⟩ := g4 v H8 y
        refine ⟨it1.items[j], dwipe τ4 vs1, G7, _, p8, srep_wipe (((s4.ext x5).ext x6).ext (x7.trans x8)) vs1, r8, jstep j _ G7 (by simp [hlt1]) i7, fun τ9 G9 σ9 H9 q9 x9 s9 r9 w9 => ?_⟩
        refine ⟨w9.trans (wipe_wipe σ4 vs1), τ9, G9, _, s9, r9, q9, fun b G10 H10 q10 x10 r10 => ?_⟩
        have x610 := ((x7.trans x8).trans x9).trans x10
        cases b with
        | false => exact (if_neg Bool.false_ne_true).mpr ⟨x610, G10, r10, q10⟩
        | true => exact (if_pos rfl).mpr ⟨τ9, G10, _, s9.ext x10, r10, q10, fun G11 H11 q11 x11 r11 => ⟨x610.trans x11, G11, r11, q11⟩⟩
      · have e : j = it1.items.length := by omega
        subst e
        exact .inl ⟨stop1 (Nat.le_refl _), (x25.trans x6).trans x7, G7, r7, jend _ i7⟩
  · have e : i = it.items.length := by omega
    subst e
    exact .inl ⟨stop (Nat.le_refl _), k _ _ _ _ (iend _ i2) (x1.trans x2) r2 rfl⟩

/-! ### the rules -/
section
variable {X : Cx} {e : Expr} {emit : Value → Env → Sem Unit} {u0 : Addr → HO} {o0 : Addr → DO} {na : Sem Value} {tg iter tg1 iter1 : Expr} {ifs ifs1 : List Expr} {scope : Scope} {own : List (Str × Nat)} {vs1 : List Nat} {wi wi1 : DI} {g g1 : DG} {tt tt1 : DT} {tm : DEm} {pos' : Pos}
/-- what a comprehension of one clause needs -/
structure K1 (X : Cx) (e : Expr) (emit : Value → Env → Sem Unit) (u0 : Addr → HO) (o0 : Addr → DO) (na : Sem Value) (tg iter : Expr) (ifs : List Expr) (scope : Scope) (own : List (Str × Nat)) (wi : DI) (g : DG) (tt : DT) (tm : DEm) (pos' : Pos) : Prop where
  cE : CompE e
  hcl : clausesOf e = [⟨tg, iter, ifs, 0⟩]
  hT : TurnIn e emit 0 tg iter ifs
  hn : NewAcc X na u0
  h0 : ∀ H D, ORep (wd X) (upd H D (u0 D)) D (o0 D)
  hc : X.calm = true
  hN : X.N.Nodup
  hi : PI X tg iter (lI (wd X) wi)
  ok : BlkOk X.N X.env.scope scope own
  hg : Blk X scope fun Z => PG Z tg (lGw (wd X) (own.map (·.2)) g)
  ht : Blk X scope fun Z => PTs Z ifs (lT (wd X) tt)
  he : Blk X scope fun Z => ∀ D, PEm Z (emit (.ref D) Z.env) (lEm (wd X) tm D)
  hs : ∀ x, foldedSetIterable iter X.env x = pure x
  ev : eval e X.env = comprehension e scope X.env pos' na false (eval iter X.env) none
  us : ∀ use, evalThenUse e X.env use = (do let _ ← comprehension e scope X.env pos' na false (eval iter X.env) (some use))
theorem K1.pe (k : K1 X e emit u0 o0 na tg iter ifs scope own wi g tt tm pos') : PE X e (lE (wd X) (dC1 o0 (own.map (·.2)) wi g tt tm)) := by
  refine ⟨fun pins s σ H Q I h => ?_⟩
  rw [k.ev]
  exact c1_core k.cE k.hcl k.hT k.hn k.hc k.hN I k.hi k.ok k.hg k.ht k.he k.hs (lE_c1 k.h0 h) fun D C s' m H' J q hn f => post_val J q hn f
theorem K1.set (k : K1 X e emit u0 o0 na tg iter ifs scope own wi g tt tm pos') {i : Nat} {y : Str} {py spos : Pos} (hy : X.N[i]? = some y) (hyl : X.env.scope.names.lookup y = some .local) (hsw : swapsWith e (some (.Name y py)) spos.line X.env = pure true) :
    PS X (.Assign [.Name y py] e spos) (lS (wd X) (dAsg (dC1 o0 (own.map (·.2)) wi g tt tm) (dgName i))) := by
  refine S_set ⟨fun pins s σ H D I h => ?_⟩
  rw [exec_Assign_Name_used _ _ _ _ hsw, k.us]
  exact wpAny_bind (wpAny_standAt (wpAny_bind (wpAny_bind (thn (c1_core (Qf := fun _ s' => SP X pins D .next s') k.cE k.hcl k.hT k.hn k.hc k.hN I k.hi k.ok k.hg k.ht k.he k.hs (lE_c1 k.h0 h) fun L C s' m H' J q hn f => post_name k.hN hy hyl J q hn f) fun _ s' hq => wpAny_pure (wpAny_pure hq)))))
/-- .. of two -/
structure K2 (X : Cx) (e : Expr) (emit : Value → Env → Sem Unit) (u0 : Addr → HO) (o0 : Addr → DO) (na : Sem Value) (tg iter : Expr) (ifs : List Expr) (tg1 iter1 : Expr) (ifs1 : List Expr) (scope : Scope) (own : List (Str × Nat)) (vs1 : List Nat) (wi : DI) (g : DG) (tt : DT) (wi1 : DI) (g1 : DG) (tt1 : DT) (tm : DEm) (pos' : Pos) : Prop where
  cE : CompE e
  hcl : clausesOf e = [⟨tg, iter, ifs, 0⟩, ⟨tg1, iter1, ifs1, 0⟩]
  hT0 : TurnOut e tg iter ifs iter1
  hT : TurnIn e emit 1 tg1 iter1 ifs1
  hn : NewAcc X na u0
  h0 : ∀ H D, ORep (wd X) (upd H D (u0 D)) D (o0 D)
  hc : X.calm = true
  hN : X.N.Nodup
  hi : PI X tg iter (lI (wd X) wi)
  ok : BlkOk X.N X.env.scope scope own
  hv : ∀ i ∈ vs1, i ∈ own.map (·.2)
  hg : Blk X scope fun Z => PG Z tg (lGw (wd X) (own.map (·.2)) g)
  ht : Blk X scope fun Z => PTs Z ifs (lT (wd X) tt)
  hi1 : Blk X scope fun Z => PI Z tg1 iter1 (lI (wd X) wi1)
  hg1 : Blk X scope fun Z => PG Z tg1 (lGw (wd X) vs1 g1)
  ht1 : Blk X scope fun Z => PTs Z ifs1 (lT (wd X) tt1)
  he : Blk X scope fun Z => ∀ D, PEm Z (emit (.ref D) Z.env) (lEm (wd X) tm D)
  hs : ∀ x, foldedSetIterable iter X.env x = pure x
  hs1 : ∀ env x, foldedSetIterable iter1 env x = pure x
  ev : eval e X.env = comprehension e scope X.env pos' na false (eval iter X.env) none
  us : ∀ use, evalThenUse e X.env use = (do let _ ← comprehension e scope X.env pos' na false (eval iter X.env) (some use))
theorem K2.pe (k : K2 X e emit u0 o0 na tg iter ifs tg1 iter1 ifs1 scope own vs1 wi g tt wi1 g1 tt1 tm pos') : PE X e (lE (wd X) (dC2 o0 (own.map (·.2)) vs1 wi g tt wi1 g1 tt1 tm)) := by
  refine ⟨fun pins s σ H Q I h => ?_⟩
  rw [k.ev]
  exact c2_core k.cE k.hcl k.hT0 k.hT k.hn k.hc k.hN I k.hi k.ok k.hv k.hg k.ht k.hi1 k.hg1 k.ht1 k.he k.hs k.hs1 (lE_c2 k.h0 h) fun D C s' m H' J q hn f => post_val J q hn f
theorem K2.set (k : K2 X e emit u0 o0 na tg iter ifs tg1 iter1 ifs1 scope own vs1 wi g tt wi1 g1 tt1 tm pos') {i : Nat} {y : Str} {py spos : Pos} (hy : X.N[i]? = some y) (hyl : X.env.scope.names.lookup y = some .local) (hsw : swapsWith e (some (.Name y py)) spos.line X.env = pure true) :
    PS X (.Assign [.Name y py] e spos) (lS (wd X) (dAsg (dC2 o0 (own.map (·.2)) vs1 wi g tt wi1 g1 tt1 tm) (dgName i))) := by
  refine S_set ⟨fun pins s σ H D I h => ?_⟩
  rw [exec_Assign_Name_used _ _ _ _ hsw, k.us]
  exact wpAny_bind (wpAny_standAt (wpAny_bind (wpAny_bind (thn (c2_core (Qf := fun _ s' => SP X pins D .next s') k.cE k.hcl k.hT0 k.hT k.hn k.hc k.hN I k.hi k.ok k.hv k.hg k.ht k.hi1 k.hg1 k.ht1 k.he k.hs k.hs1 (lE_c2 k.h0 h) fun L C s' m H' J q hn f => post_name k.hN hy hyl J q hn f) fun _ s' hq => wpAny_pure (wpAny_pure hq)))))
end
/-- a comprehension's store swaps its own line: what sw_true says, whatever the kind -/
theorem swL {elt : Expr} {cl : List Comprehension} {scope : Scope} {pos py : Pos} {y : Str} {l : Nat} {env : Env} (hk : env.scope.kind = .function) (hy : env.scope.names.lookup y = some .local) (hl : (py.line == pos.line) = true)
    (ha : (scope.names.any fun (n, k) => n == y && (k == .local || k == .cell)) = false) : swapsWith (.ListComp elt cl scope pos) (some (.Name y py)) l env = pure true := sw_true hk hy hl ha
theorem swD {kx vx : Expr} {cl : List Comprehension} {scope : Scope} {pos py : Pos} {y : Str} {l : Nat} {env : Env} (hk : env.scope.kind = .function) (hy : env.scope.names.lookup y = some .local) (hl : (py.line == pos.line) = true)
    (ha : (scope.names.any fun (n, k) => n == y && (k == .local || k == .cell)) = false) : swapsWith (.DictComp kx vx cl scope pos) (some (.Name y py)) l env = pure true := by
  have k1 : env.kindOf y = some .local := hy
  have k2 : env.blockKind = .function := by unfold Env.blockKind; rw [hk]; rfl
  unfold swapsWith
  simp only [k2, k1, ha, Expr.pos, hl]
  rfl

/-! ### of lists, of dicts -/
section
variable {X : Cx} {elt kx vx tg iter tg1 iter1 : Expr} {ifs ifs1 : List Expr} {scope : Scope} {own : List (Str × Nat)} {vs1 : List Nat} {wi wi1 : DI} {g g1 : DG} {tt tt1 : DT} {te tk tv : DE} {pos : Pos}
theorem kL1 (hc : X.calm = true) (hN : X.N.Nodup) (ok : BlkOk X.N X.env.scope scope own) (hi : PI X tg iter (lI (wd X) wi)) (hg : Blk X scope fun Z => PG Z tg (lGw (wd X) (own.map (·.2)) g)) (ht : Blk X scope fun Z => PTs Z ifs (lT (wd X) tt)) (he : Blk X scope fun Z => PE Z elt (lE (wd X) te))
    (hs : ∀ x, foldedSetIterable iter X.env x = pure x := by intro _; rfl) : K1 X (.ListComp elt [⟨tg, iter, ifs, 0⟩] scope pos) (emL elt) (fun _ => .lst []) (fun _ => .lst []) (newList []) tg iter ifs scope own wi g tt (dmL te) (firstIterPos [⟨tg, iter, ifs, 0⟩] pos) :=
  ⟨compE_L, rfl, turn_L1, acc_L, fun _ _ => ⟨[], upd_same, RpL.nil⟩, hc, hN, hi, ok, hg, ht, fun s H C cl fp D => em_L (X := X.blk s H scope (compEnvC scope cl C X.env) fp) rfl (he s H C cl fp) D, hs, rfl, fun _ => rfl⟩
theorem kD1 (hc : X.calm = true) (hN : X.N.Nodup) (ok : BlkOk X.N X.env.scope scope own) (hi : PI X tg iter (lI (wd X) wi)) (hg : Blk X scope fun Z => PG Z tg (lGw (wd X) (own.map (·.2)) g)) (ht : Blk X scope fun Z => PTs Z ifs (lT (wd X) tt)) (hk : Blk X scope fun Z => PE Z kx (lE (wd X) tk)) (hv : Blk X scope fun Z => PE Z vx (lE (wd X) tv))
    (hs : ∀ x, foldedSetIterable iter X.env x = pure x := by intro _; rfl) : K1 X (.DictComp kx vx [⟨tg, iter, ifs, 0⟩] scope pos) (emD kx vx) (fun D => DicN (wd X) D []) (fun _ => .dic []) newDict tg iter ifs scope own wi g tt (dmD tk tv) (firstIterPos [⟨tg, iter, ifs, 0⟩] pos) :=
  ⟨compE_D, rfl, turn_D1, acc_D, fun _ _ => ⟨[], upd_same, .nil⟩, hc, hN, hi, ok, hg, ht, fun s H C cl fp D => em_D (X := X.blk s H scope (compEnvC scope cl C X.env) fp) rfl (hk s H C cl fp) (hv s H C cl fp) D, hs, rfl, fun _ => rfl⟩
theorem kL2 (hc : X.calm = true) (hN : X.N.Nodup) (ok : BlkOk X.N X.env.scope scope own) (hv : ∀ i ∈ vs1, i ∈ own.map (·.2)) (hi : PI X tg iter (lI (wd X) wi)) (hg : Blk X scope fun Z => PG Z tg (lGw (wd X) (own.map (·.2)) g)) (ht : Blk X scope fun Z => PTs Z ifs (lT (wd X) tt))
    (hi1 : Blk X scope fun Z => PI Z tg1 iter1 (lI (wd X) wi1)) (hg1 : Blk X scope fun Z => PG Z tg1 (lGw (wd X) vs1 g1)) (ht1 : Blk X scope fun Z => PTs Z ifs1 (lT (wd X) tt1)) (he : Blk X scope fun Z => PE Z elt (lE (wd X) te))
    (hs : ∀ x, foldedSetIterable iter X.env x = pure x := by intro _; rfl) (hs1 : ∀ env x, foldedSetIterable iter1 env x = pure x := by intro _ _; rfl) :
    K2 X (.ListComp elt [⟨tg, iter, ifs, 0⟩, ⟨tg1, iter1, ifs1, 0⟩] scope pos) (emL elt) (fun _ => .lst []) (fun _ => .lst []) (newList []) tg iter ifs tg1 iter1 ifs1 scope own vs1 wi g tt wi1 g1 tt1 (dmL te) (firstIterPos [⟨tg, iter, ifs, 0⟩, ⟨tg1, iter1, ifs1, 0⟩] pos) :=
  ⟨compE_L, rfl, turn_L2o, turn_L2, acc_L, fun _ _ => ⟨[], upd_same, RpL.nil⟩, hc, hN, hi, ok, hv, hg, ht, hi1, hg1, ht1, fun s H C cl fp D => em_L (X := X.blk s H scope (compEnvC scope cl C X.env) fp) rfl (he s H C cl fp) D, hs, hs1, rfl, fun _ => rfl⟩
end
end L2.DL

set_option Elab.async false
set_option linter.all false
set_option maxRecDepth 100000
set_option maxHeartbeats 2000000
/-! DSet: sets of texts: made by comprehensions, sorted. -/
namespace L2.DL
open PySem PySem.Spec PyProof.Rows

theorem perm_of_sub {α : Type} [DecidableEq α] : ∀ {l ks : List α}, l.Nodup → (∀ x ∈ l, x ∈ ks) → ks.length = l.length → l.Perm ks
  | [], ks, _, _, h => by
    have : ks = [] := List.eq_nil_of_length_eq_zero h
    rw [this]
  | x :: l, ks, nd, hs, h => by
    obtain ⟨n1, n2⟩ := List.nodup_cons.mp nd
    have hx := hs x List.mem_cons_self
    have hl := List.length_erase_of_mem hx
    have ih := perm_of_sub (l := l) (ks := ks.erase x) n2 (fun y hy => (List.mem_erase_of_ne (fun z => n1 (by rw [← z]; exact hy))).mpr (hs y (List.mem_cons_of_mem _ hy))) (by rw [hl, h]; simp)
    exact (ih.cons x).trans (List.perm_cons_erase hx).symm

def txOf (v : Value) : Str := match v with | .str x _ => x | _ => ⟨#[]⟩
theorem txOf_is {P : Program} {w : World} {k : Str} {v : Value} (h : (strKind P w).is k v = true) : ∃ t, v = .str k t := by
  have h : Value.isStrOf k v = true := h
  cases v with
  | str x t => simp [Value.isStrOf] at h; exact ⟨t, by rw [h]⟩
  | _ => simp [Value.isStrOf] at h
theorem strs_of : ∀ (l : List Value), (∀ v ∈ l, ∃ k t, v = Value.str k t) → StrsAre l (l.map txOf)
  | [], _ => .nil
  | v :: l, h => by
    obtain ⟨k, t, rfl⟩ := h v List.mem_cons_self
    exact .cons k t (strs_of l fun u hu => h u (List.mem_cons_of_mem _ hu))

/-- the set of the texts l at a -/
def SetS (P : Program) (w : World) (h : Heap) (a : Addr) (l : List Str) : Prop :=
  ∃ D : Froz.SD, h.get? a = some (Froz.sObj "set" D) ∧ Froz.TxOk P w D l ∧ l.Nodup ∧ Ris D.2.2.place.toList ∧ (w.params.followText "set-order" = true ∨ D.2.2.led = true)
def insS (l : List Str) (k : Str) : List Str := if k ∈ l then l else k :: l
section
variable {P : Program} {w : World} {A : Around} {E : Value → Shared → Prop} {s : Shared} {a : Addr} {l : List Str}
theorem SetS.at {h h' : Heap} (R : SetS P w h a l) (k : ∀ o, h.get? a = some o → h'.get? a = some o) : SetS P w h' a l := by
  obtain ⟨D, ho, r⟩ := R
  exact ⟨D, k _ ho, r⟩
theorem SetS.setOf {h : Heap} (R : SetS P w h a l) (hb : l.length < scanBound) : h.SetOf (strKind P w) a (fun k => decide (k ∈ l)) l.length := by
  obtain ⟨⟨es, ep, t⟩, ho, F, nd, _⟩ := R
  exact ⟨_, es, ep, t, ho, ⟨rfl, rfl, rfl⟩, rfl, F.el, fun k => by rw [decide_eq_true_eq]; exact F.mem k, by rw [show es.size = l.length from F.sz]; exact hb, F.fit, F.sz⟩
theorem ris_tail {ep : Nat} {es1 : Array (Int × Value)} {t2 : SetTable} {b : Bool} (h : Ris t2.place.toList) : Ris (Froz.tailTx ep es1 t2 b).2.2.place.toList := by
  unfold Froz.tailTx
  split
  · exact relayAll_ris _ _ _
  · exact h
theorem led_tail {ep : Nat} {es1 : Array (Int × Value)} {t2 : SetTable} {b : Bool} (h : t2.led = true) : (Froz.tailTx ep es1 t2 b).2.2.led = true := by
  unfold Froz.tailTx
  split
  · exact (relayAll_led _ _ _).trans h
  · exact h
theorem ris_addTx {h : Int} {v : Value} {D : Froz.SD} (r : Ris D.2.2.place.toList) : Ris (Froz.addTx h v D).2.2.place.toList := by
  unfold Froz.addTx
  refine ris_tail ?_
  split <;> exact layNew_ris _ _ _ _ r
theorem led_addTx {h : Int} {v : Value} {D : Froz.SD} (r : D.2.2.led = true) : (Froz.addTx h v D).2.2.led = true := by
  unfold Froz.addTx
  refine led_tail ?_
  split <;> exact (layNew_led _ _ _ _).trans r
/-- a text that is in it already -/
theorem again_x {D : Froz.SD} {k : Str} {u : Tok} {Q : Bool → Shared → Prop} (ho : s.heap.get? a = some (Froz.sObj "set" D)) (F : Froz.TxOk P w D l) (hk : k ∈ l) (hb : l.length < scanBound) (h : Q false s) :
    wpAny (model P w) A (setAddHashed a (.str k u) (hashStr w k)) Q E s := by
  obtain ⟨es, ep, t⟩ := D
  have hd : (Froz.sObj "set" (es, ep, t)).data = .set es ep t := rfl
  have hel : ElemsOf (strKind P w) es.toList := F.el
  have b0 : es.size < scanBound := by rw [show es.size = l.length from F.sz]; exact hb
  unfold setAddHashed setAddHashedIn
  refine wpAny_holding (wpAny_bind (wpAny_setState_of ho hd F.fit ?_))
  dsimp only
  rw [byScan_of rfl b0 hel]
  simp only [↓reduceIte]
  unfold setAddByScan
  refine wpAny_bind ?_
  refine wpAny_bind (wpAny_rule ?_)
  refine wpAny_bind (wpAny_setScan_of (knd := strKind P w) (k := k) (Froz.is_str k u) ho hd F.fit hel ?_)
  cases q : List.findIdx? (fun e => (strKind P w).is k e.2) es.toList with
  | none =>
    obtain ⟨e, he, z⟩ := (F.mem k).mp hk
    have c := List.findIdx?_eq_none_iff.mp q e he
    rw [z] at c
    cases c
  | some j =>
    dsimp only
    exact wpAny_pure (wpAny_pure h)
/-- found.add(text) -/
theorem setS_add {k : Str} {u : Tok} {Q : Value → Shared → Prop} (R : SetS P w s.heap a l) (room : l.length + 1 < scanBound)
    (hQ : ∀ h' tk, Heap.SameBut a s.heap h' → SetS P w h' a (insS l k) → Q .none { s with heap := h', toks := tk }) : wpAny (model P w) A (call (.builtin "set.add") [.ref a, .str k u]) Q E s := by
  have hS := R.setOf (by omega)
  obtain ⟨D, ho, T, nd, hr, hl⟩ := R
  refine wpAny_call_entry F.slot_set_add hS.typeIs F.entry_set_add ?_ (F.args_set_add_2 _ _)
  unfold Builtin.«set.add» Builtin.Frozenset.oneOther
  simp only [List.isEmpty_nil, bind_assoc]
  unfold Builtin.Frozenset.addrOf setAdd
  refine wpAny_bind (wpAny_pure ?_)
  try dsimp only
  refine wpAny_bind (wpAny_pure ?_)
  try dsimp only
  refine wpAny_bind ?_
  refine wpAny_holding ?_
  refine wpAny_bind ((strKind P w).pyHash (Froz.is_str k u) ?_)
  by_cases hk : k ∈ l
  · refine again_x (s := { s with toks := s.toks + 1 }) ho T hk (by omega) ?_
    show wpAny _ _ (ret Value.none) _ _ _
    refine wpAny_pure ⟨_, rfl, hQ s.heap _ (Heap.SameBut.refl a s.heap) ?_⟩
    rw [insS, if_pos hk]
    exact ⟨D, ho, T, nd, hr, hl⟩
  · refine Froz.add_x (s := { s with toks := s.toks + 1 }) ho T hk room ?_
    show wpAny _ _ (ret Value.none) _ _ _
    refine wpAny_pure ⟨_, rfl, hQ _ _ (Heap.SameBut.update s.heap a _) ?_⟩
    rw [insS, if_neg hk]
    exact ⟨_, Froz.get_upd _ ho rfl, Froz.add_ok u T, List.nodup_cons.mpr ⟨hk, nd⟩, ris_addTx hr, hl.imp id fun z => led_addTx z⟩
/-- sorted(found) of fewer than 64 texts -/
theorem setS_sorted {Q : Value → Shared → Prop} (R : SetS P w s.heap a l) (hh : A.handled = none) (h64 : l.length < 64)
    (hQ : ∀ s' p (out : Array Value) (c : Nat) (ys : List Str), (∀ b o, s.heap.get? b = some o → s'.heap.get? b = some o) → s'.gens = s.gens → s'.os = s.os → s.heap.objs.size ≤ p →
      s'.heap.get? p = some (seqObj "list" out c) → StrsAre out.toList ys → ys.Perm l → sortedS ys = true → Q (.ref p) s') :
    wpAny (model P w) A (call (.builtin "sorted") [.ref a]) Q E s := by
  obtain ⟨⟨es, ep, t⟩, ho, F, nd, hr, hl⟩ := R
  have b0 : es.size < scanBound := by rw [show es.size = l.length from F.sz]; show l.length < 4096; omega
  refine Calls.call_function_entry kind_sorted plain_sorted entry_sorted (args_sorted1 _) ?_
  unfold Builtin.«sorted»
  refine wpAny_bind (m := checkCount "sorted" 1 1 _) (wpAny_pure ?_)
  refine wpAny_bind (collect_set (A := A.in1) hh ⟨_, ho, rfl, rfl⟩ F.fit b0 hr hl fun s1 vs k1 hz g1 o1 pm => ?_)
  have nv : vs.length = l.length := by rw [pm.length_eq, List.length_map, Array.length_toList]; exact F.sz
  have sh : ∀ v ∈ vs, ∃ k t, v = Value.str k t := fun v hv => by
    obtain ⟨e, he, q⟩ := List.mem_map.mp (pm.mem_iff.mp hv)
    obtain ⟨⟨k, h1, _⟩, _⟩ := F.el e he
    obtain ⟨t, e2⟩ := txOf_is h1
    exact ⟨k, t, by rw [← q]; exact e2⟩
  have hI := strs_of vs sh
  have pk : (vs.map txOf).Perm l := by
    refine (perm_of_sub nd (fun x hx => ?_) (by rw [List.length_map]; exact nv)).symm
    obtain ⟨e, he, z⟩ := (F.mem x).mp hx
    obtain ⟨t, e2⟩ := txOf_is z
    exact List.mem_map.mpr ⟨e.2, pm.mem_iff.mpr (List.mem_map.mpr ⟨e, he, rfl⟩), by rw [e2]; rfl⟩
  refine wpAny_bind (wpAny_newList ?_ (by rw [nv, sizeLine_eq]; omega))
  have hoL : (s1.heap.push (seqObj "list" vs.toArray 0)).get? s1.heap.objs.size = some (seqObj "list" vs.toArray 0) := Heap.get?_push_size _ rfl
  refine wpAny_bind (wpAny_holding (wpAny_call_entry slot_list_sort ⟨_, hoL, rfl⟩ entry_list_sort (list_sort_treeK strKind_oneLt hoL hI.keysOf (fun v1 v2 rest e => keyKind_strs (by rw [← e]; exact hI)) (by rw [nv]; exact h64) fun st' hp hs => ?_) (args_list_sort _)))
  obtain ⟨ys, y1, y2, y3⟩ := sorted_out_str hI hp hs
  obtain ⟨c, hc⟩ := sortedHeap_at (vs := vs) (out := (arrOf st').map (·.2)) hoL
  refine ⟨_, rfl, wpAny_pure ⟨_, rfl, hQ _ s1.heap.objs.size _ c ys (fun b u e => ?_) g1 o1 hz hc y1 (y2.trans pk) y3⟩⟩
  have q := k1 b u e
  have ql := Heap.lt_size q
  show (sortedHeap (s1.heap.push (seqObj "list" vs.toArray 0)) s1.heap.objs.size vs ((arrOf st').map (·.2))).get? b = some u
  rw [sortedHeap_old (Nat.ne_of_lt ql) (by rw [size_push']; exact Nat.lt_succ_of_lt ql)]
  exact Heap.get?_push_of_some _ q
end
/-! ### over the hand layer -/
def SetSO (Y : Wd) (a : Addr) (l : List Str) : HO := .ext fun h => SetS Y.P Y.w h a l
section
variable {X : Cx} {elt : Expr} {te : DE}
theorem setSO_ok {H : Hp} {h : Heap} {a : Addr} {l : List Str} (R : SetS X.prog X.w h a l) : ObjOk X.prog X.w H h a (SetSO (wd X) a l) := by
  have ⟨D, ho, _⟩ := R
  exact ⟨R, ⟨_, ho⟩, fun h1 h2 p k => SetS.at p k⟩
theorem acc_S : NewAcc X (newSet (.type "set")) (fun D => SetSO (wd X) D []) := ⟨⟨{ cls := .type "set", dict := none, data := .set #[] 0 (.fresh 0 0 (!(X.w.params.followText "set-order"))) }, fun h => wpAny_newSet_raw fun led e => by rw [e]; exact h,
  fun H h _ => setSO_ok ⟨(#[], 0, .fresh 0 0 (!(X.w.params.followText "set-order"))), Heap.get?_push_size _ rfl, Froz.TxOk.nil (by rfl), List.nodup_nil, List.Pairwise.nil, by
    cases X.w.params.followText "set-order" with
    | true => exact .inl rfl
    | false => exact .inr rfl⟩⟩⟩
/-- adds the text to the set -/
def dmS (Y : Wd) (te : DE) : DEm := fun D τ G N => te τ G fun d G1 => match d with
  | .str k => ∃ l, G1 D = some (.raw (SetSO Y D l)) ∧ l.length < 4000 ∧ N (dup G1 D (.raw (SetSO Y D (insS l k))))
  | _ => False
theorem em_S {env : Env} (hE : env = X.env) (h : PE X elt (lE (wd X) te)) (D : Addr) : PEm X (emS elt (.ref D) env) (lEm (wd X) (dmS (wd X) te) D) := by
  subst hE
  refine ⟨fun pins s σ H N I ⟨τ, G, N', sr, hr, q, k⟩ => ?_⟩
  refine wpAny_bind (thn (h.run pins s σ H (fun y H1 => ∃ x l, y = .str x ∧ H1 D = some (SetSO (wd X) D l) ∧ l.length < 4000 ∧ N (upd H1 D (SetSO (wd X) D (insS l x)))) I ⟨τ, G, _, sr, hr, q, fun d G1 v H1 q1 x1 r1 p1 => ?_⟩) fun z s1 ⟨y, H1, I1, r1, x, l, e1, e2, e3, n⟩ => ?_)
  · cases d with
    | str x =>
      obtain ⟨l, a1, a2, a3⟩ := q1
      have h1 : H1 D = some (SetSO (wd X) D l) := r1 _ _ a1
      have x2 : Ext H1 (upd H1 D (SetSO (wd X) D (insS l x))) := Ext.put h1 (fun _ z => by unfold SetSO at z; cases z) (fun _ _ z => by unfold SetSO at z; cases z)
      exact ⟨x, l, p1, h1, a2, k _ _ a3 (x1.trans x2) (r1.put x2 upd_same)⟩
    | _ => exact q1.elim
  · subst e1
    obtain ⟨t, rfl⟩ := (show ∃ t, z = Value.str x t from r1)
    have R : SetS X.prog X.w s1.heap D l := (I1.hok D _ e2).1
    refine wpAny_bind (wpAny_standAt (wpAny_bind (setS_add R (by show l.length + 1 < 4096; omega) fun h' tk sb new => wpAny_pure ⟨_, ?_, n⟩)))
    have ⟨_, he, _⟩ := new
    exact I1.write (e := D) (t' := tk) (by rw [e2]; trivial) (.inl rfl) (fun b u hb hu => (sb.2 b hb).trans hu) ⟨_, he⟩ (setSO_ok new)
/-- sorted(the set) -/
def rSortSet (Y : Wd) : DCR := fun ds G Q => match ds with
  | [.ref a] => ∃ l, G a = some (.raw (SetSO Y a l)) ∧ l.length < 64 ∧ ∀ ys p, ys.Perm l → sortedS ys = true → G p = none → Q (.ref p) (dup G p (.lst (ys.map D.str)))
  | _ => False
theorem c_sortSet (hc : X.calm = true) : CallD X (.builtin "sorted") (rSortSet (wd X)) := by
  intro pins s σ H vs us Q I r ⟨ds, G, Q', p, hr, q, k⟩
  match ds, q with
  | [.ref a], q =>
    obtain ⟨v, rfl, p1⟩ := p.one
    obtain rfl : v = .ref a := p1
    obtain ⟨l, a1, h64, q⟩ := q
    have ha : H a = some (SetSO (wd X) a l) := hr _ _ a1
    have R : SetS X.prog X.w s.heap a l := (I.hok a _ ha).1
    rw [Vals.ref1 r]
    refine setS_sorted R (I.ok.hd hc) h64 fun s' p out c ys k1 g o hp hg hi hm hs => ?_
    have ly : ys.length = l.length := hm.length_eq
    have hlen : (ys.map V.str).length ≤ sizeLine := by rw [List.length_map, ly, sizeLine_eq]; omega
    have hn : H p = none := I.hok.fresh hp
    have J : Inv X pins σ (upd H p (.lst (ys.map V.str))) { s with heap := s'.heap, gens := s'.gens, drawn := s'.drawn, toks := s'.toks } :=
      I.call (ch := []) (Un.laid k1 hp hn) (I.hok.laid k1 hp ⟨hlen, out.toList, c, vals_of_strs hi, hg⟩) (by rw [g]; exact I.bare) (fun _ z => nomatch z)
    have e : s' = { s with heap := s'.heap, gens := s'.gens, drawn := s'.drawn, toks := s'.toks } := by
      cases s'; cases s; cases o; rfl
    rw [e]
    exact ⟨.ref p, _, J, rfl, k _ _ _ _ (q ys p hm hs (hr.free hn)) (Ext.new hn) (hr.new hn ⟨_, upd_same, RpL.ofStrs ys⟩) rfl⟩
end
/-! ### set comprehensions of two clauses, of one -/
section
variable {X : Cx} {elt tg iter tg1 iter1 : Expr} {ifs ifs1 : List Expr} {scope : Scope} {own : List (Str × Nat)} {vs1 : List Nat} {wi wi1 : DI} {g g1 : DG} {tt tt1 : DT} {te : DE} {pos : Pos}
theorem kS1 (hc : X.calm = true) (hN : X.N.Nodup) (ok : BlkOk X.N X.env.scope scope own) (hi : PI X tg iter (lI (wd X) wi)) (hg : Blk X scope fun Z => PG Z tg (lGw (wd X) (own.map (·.2)) g)) (ht : Blk X scope fun Z => PTs Z ifs (lT (wd X) tt)) (he : Blk X scope fun Z => PE Z elt (lE (wd X) te))
    (hs : ∀ x, foldedSetIterable iter X.env x = pure x := by intro _; rfl) : K1 X (.SetComp elt [⟨tg, iter, ifs, 0⟩] scope pos) (emS elt) (fun D => SetSO (wd X) D []) (fun D => .raw (SetSO (wd X) D [])) (newSet (.type "set")) tg iter ifs scope own wi g tt (dmS (wd X) te) (firstIterPos [⟨tg, iter, ifs, 0⟩] pos) :=
  ⟨compE_S, rfl, turn_S1, acc_S, fun _ _ => upd_same, hc, hN, hi, ok, hg, ht, fun s H C cl fp D => em_S (X := X.blk s H scope (compEnvC scope cl C X.env) fp) rfl (he s H C cl fp) D, hs, rfl, fun _ => rfl⟩
theorem kS2 (hc : X.calm = true) (hN : X.N.Nodup) (ok : BlkOk X.N X.env.scope scope own) (hv : ∀ i ∈ vs1, i ∈ own.map (·.2)) (hi : PI X tg iter (lI (wd X) wi)) (hg : Blk X scope fun Z => PG Z tg (lGw (wd X) (own.map (·.2)) g)) (ht : Blk X scope fun Z => PTs Z ifs (lT (wd X) tt))
    (hi1 : Blk X scope fun Z => PI Z tg1 iter1 (lI (wd X) wi1)) (hg1 : Blk X scope fun Z => PG Z tg1 (lGw (wd X) vs1 g1)) (ht1 : Blk X scope fun Z => PTs Z ifs1 (lT (wd X) tt1)) (he : Blk X scope fun Z => PE Z elt (lE (wd X) te))
    (hs : ∀ x, foldedSetIterable iter X.env x = pure x := by intro _; rfl) (hs1 : ∀ env x, foldedSetIterable iter1 env x = pure x := by intro _ _; rfl) :
    K2 X (.SetComp elt [⟨tg, iter, ifs, 0⟩, ⟨tg1, iter1, ifs1, 0⟩] scope pos) (emS elt) (fun D => SetSO (wd X) D []) (fun D => .raw (SetSO (wd X) D [])) (newSet (.type "set")) tg iter ifs tg1 iter1 ifs1 scope own vs1 wi g tt wi1 g1 tt1 (dmS (wd X) te) (firstIterPos [⟨tg, iter, ifs, 0⟩, ⟨tg1, iter1, ifs1, 0⟩] pos) :=
  ⟨compE_S, rfl, turn_S2o, turn_S2, acc_S, fun _ _ => upd_same, hc, hN, hi, ok, hv, hg, ht, hi1, hg1, ht1, fun s H C cl fp D => em_S (X := X.blk s H scope (compEnvC scope cl C X.env) fp) rfl (he s H C cl fp) D, hs, hs1, rfl, fun _ => rfl⟩
end
end L2.DL

set_option Elab.async false
set_option linter.all false
set_option maxRecDepth 100000
set_option maxHeartbeats 2000000
/-! DL8: ranges, enumerate, zip, texts walked. -/
namespace PySem
open PySem
theorem dlTc1 (a : Value) : checkTypeCall "enumerate" ⟨[a], []⟩ = pure () := F.typeCall_enumerate_1 a
/-- enumerate(v) of what begins so -/
theorem dlEnumMeets {v : Value} {o : Obj} {H : Heap → Prop} (B : Begins v o H) :
    Meets (Builtin.«enumerate.__new__» ⟨[.type "enumerate", v], []⟩) (fun _ R s => H s.heap ∧
      R (.ok (.ret (.ref (s.heap.push o).objs.size))) { s with heap := (s.heap.push o).push { cls := .type "enumerate", data := .fields #[.none, .bool false, .ref s.heap.objs.size, rawInt 0, .none, .none] } }) :=
  .of_wp fun prog w A R s z => by
    obtain ⟨hp, g, d, tk, os⟩ := s; obtain ⟨z1, z⟩ := z
    have hsub := sub_enumerate
    have go : ∀ {A' : Around} {E : Value → Shared → Prop} {Q : Value → Shared → Prop}, Q (.ref hp.objs.size) ⟨hp.push o, g, d, tk, os⟩ → wpAny (model prog w) A' (pyIter v) Q E ⟨hp, g, d, tk, os⟩ :=
      fun q => B.iter prog w _ _ ⟨hp, g, d, tk, os⟩ _ z1 q
    wp_walk using go
    refine wpAny_stack_any fun st => wpAny_pure ?_
    split
    · rename_i c _ _ _ _ _
      cases (c == Value.type "enumerate")
      · wp_walk using go
        exact ⟨_, rfl, z⟩
      · wp_walk using go
        exact ⟨_, rfl, z⟩
    · wp_walk using go
      exact ⟨_, rfl, z⟩
theorem dlEnumCall {prog : Program} {w : World} {A : Around} {E : Value → Shared → Prop} {s : Shared} {v : Value} {o : Obj} {H : Heap → Prop} {Q : Value → Shared → Prop} (B : Begins v o H) (h1 : H s.heap)
    (k : ∀ h', IsEnum h' (s.heap.objs.size + 1) s.heap.objs.size 0 .none → h'.get? s.heap.objs.size = some o → (∀ b o, s.heap.get? b = some o → h'.get? b = some o) → Q (.ref (s.heap.objs.size + 1)) { s with heap := h' }) :
    wpAny (model prog w) A (call (.type "enumerate") [v]) Q E s := by
  refine callType_new F.called_enumerate (by decide) (F.typeCall_enumerate_1 _) (F.newCall_enumerate_1 _) (fun obj => F.args_object_init_2 obj _) F.entry_enumerate_new (dlEnumMeets B) ⟨h1, ?_⟩
  have hz : (s.heap.push o).objs.size = s.heap.objs.size + 1 := Heap.size_push ..
  show _ ∧ _
  rw [hz]
  have he : IsEnum ((s.heap.push o).push { cls := .type "enumerate", data := .fields #[.none, .bool false, .ref s.heap.objs.size, rawInt 0, .none, .none] }) (s.heap.objs.size + 1) s.heap.objs.size 0 .none := by
    have q := Heap.get?_push_size (s.heap.push o) (o := { cls := .type "enumerate", data := .fields #[.none, .bool false, .ref s.heap.objs.size, rawInt 0, .none, .none] }) rfl
    rw [hz] at q; exact q
  exact ⟨⟨_, he, rfl⟩, k _ he (Heap.get?_push_of_some _ (Heap.get?_push_size _ B.free)) fun b o x => Heap.get?_push_of_some _ (Heap.get?_push_of_some _ x)⟩
end PySem
namespace L2.DL
open PySem PySem.Spec PyProof.Rows

/-! ### enumerate of a tuple -/
def IteT (K : PySem.W.Frag) (a : Addr) : It :=
  ⟨fun i H => ∃ (xs : List V) (x : V), SqT K H a xs ∧ xs[i]? = some x, fun i H v H' => ∃ T x, v = .ref T ∧ H T = none ∧ H' = upd H T (.tup [.int (i : Nat), x]) ∧ ∀ xs, SqT K H a xs → xs[i]? = some x, fun i H => ∃ xs : List V, SqT K H a xs ∧ xs.length ≤ i⟩
theorem turn_enumT {P : Program} {w : World} {K : PySem.W.Frag} {elts : List Expr} {kk : Nat} {tpos : Pos} (a en it : Addr) :
    Turn P w K (.Tuple elts kk tpos) (IteT K a) [en, it] en (fun i h => (∃ old, IsEnum h en it ((i : Nat) : Int) old) ∧ h.IsTupleIter it a i ∧ en ≠ it ∧ a ≠ it ∧ en ≠ a) where
  mem := by simp
  obj := fun i h st b hb => by
    obtain ⟨⟨old, z1⟩, ⟨o, z2, _, z3⟩, _⟩ := st
    rcases (show b = en ∨ b = it by simpa using hb) with z | z
    · rw [z]; exact ⟨_, z1, fun v q => nomatch q⟩
    · rw [z]; exact ⟨o, z2, fun v q => by rw [z3] at q; cases q⟩
  keep := fun i h h' st k => by
    obtain ⟨⟨old, z1⟩, z2, z3, z4, z5⟩ := st
    exact ⟨⟨old, k en (by simp) _ z1⟩, z2.at fun o q => k it (by simp) o q, z3, z4, z5⟩
  item := by
    intro X hP hw hK hc i pins s σ H E I hf st hg
    subst hP hw hK
    obtain ⟨⟨old, z1⟩, z2, z3, z4, z5⟩ := st
    obtain ⟨xs, x, hq, hx⟩ := hg
    obtain ⟨its, rv, p, _⟩ := I.tuple hq
    obtain ⟨u, hu, ru⟩ := rv.get hx
    have e1 : en < s.heap.objs.size := Heap.lt_size z1
    have e2 : it < s.heap.objs.size := by obtain ⟨_, q, _⟩ := z2; exact Heap.lt_size q
    have Dw := Draws.tuple (prog := X.prog) (w := X.w) (A := X.A.in1) (I.ok.hd hc) it a z4 its.toArray
    refine wpAny_pyNext_enum_itemD (i := i) Dw z1 ⟨z2, show s.heap.IsTuple a its.toArray from p⟩ (by have := (Array.getElem?_eq_some_iff.mp (show its.toArray[i]? = some u by simpa using hu)).1; exact this) z3 (by simpa using ⟨z3, z5⟩) fun y h' tk hy ho st' hT _ hk => ?_
    have hy' : y = u := by
      have q : its.toArray[i]? = some y := by simpa using hy
      rw [show its.toArray[i]? = some u by simpa using hu] at q
      cases q; rfl
    subst hy'
    refine ⟨_, rfl, wpAny_letOwnedTupleGo_enum (s := { s with heap := h', toks := tk + 1 }) ho fun h'' he' sb => ?_⟩
    have hT2 : h''.get? s.heap.objs.size = some { cls := .type "tuple", data := .seq #[.int i tk, y] } := (sb.2 _ (Nat.ne_of_gt e1)).trans hT
    have new : ObjOk X.prog X.w (upd H s.heap.objs.size (.tup [.int (i : Nat), x])) h'' s.heap.objs.size (.tup [.int (i : Nat), x]) :=
      ⟨by show 2 ≤ sizeLine; decide, [.int i tk, y], .cons ⟨_, rfl⟩ (.cons ru .nil), ⟨_, hT2, rfl, _, rfl⟩⟩
    have I1 : Inv X pins σ (upd H s.heap.objs.size (.tup [.int (i : Nat), x])) { s with heap := h'', toks := tk + 1 } :=
      I.turnedNew (ch := [en, it]) (fun b ob hb q => (sb.2 b (fun z => hb (by simp [z]))).trans (hk b ob (fun z => hb (by simp [z])) (fun z => hb (by simp [z])) q)) hf (Nat.le_refl _) new
    refine ⟨.ref s.heap.objs.size, _, I1, rfl, ⟨_, x, rfl, I.hok.fresh (Nat.le_refl _), rfl, fun ys hy => by rw [I.tuple_inj hy hq]; exact hx⟩, ⟨⟨y, ?_⟩, st'.1.at fun o q => (sb.2 it (Ne.symm z3)).trans q, z3, z4, z5⟩, fun b hb => ?_⟩
    · rw [show ((i + 1 : Nat) : Int) = (i : Int) + 1 by omega]; exact he'
    · have lb : b < s.heap.objs.size := by
        rcases (show b = en ∨ b = it by simpa using hb) with z | z
        · rw [z]; exact e1
        · rw [z]; exact e2
      rw [upd_ne (Nat.ne_of_lt lb)]
      exact (hf b hb).1
  done := by
    intro X hP hw hK hc i pins s σ H E I hf st hg
    subst hP hw hK
    obtain ⟨⟨old, z1⟩, z2, z3, z4, z5⟩ := st
    obtain ⟨xs, hq, hx⟩ := hg
    obtain ⟨its, rv, p, _⟩ := I.tuple hq
    obtain ⟨f0, f1, f2, f3, f4, f5⟩ := hf it (by simp)
    have hl := rv.length
    have no : its.toArray[i]? = none := by simp; omega
    have Dw : Draws X.prog X.w X.A.in1 it [it, a] 0 (fun _ _ => False) (fun _ h => h.IsTupleIter it a i ∧ h.IsTuple a its.toArray) :=
      ⟨fun _ _ st => let ⟨o, q, _⟩ := st.1; ⟨o, q⟩, fun _ _ _ st k => ⟨st.1.at fun o q => k it (by simp) o q, st.2.at fun o q => k a (by simp) o q⟩, fun i _ _ _ hi => absurd hi (Nat.not_lt_zero i), fun s Q E st hE => wpAny_nextOf_tuple_end (I.ok.hd hc) st.1 st.2 no hE⟩
    exact wpAny_pyNext_enum_endD Dw z1 ⟨z2, show s.heap.IsTuple a its.toArray from p⟩ fun h' eb => ⟨rfl, I.turned (t' := s.toks) (fun b o hb q => eb b o hb q) f0 f1 f3 f4 f5⟩
  self := fun A i s Q E st h => let ⟨⟨_, z1⟩, _⟩ := st; wpAny_pyIter_enum z1 h
/-! ### the readings -/
def enumD (xs : List D) : List D := xs.mapIdx fun i x => .tup [.int (i : Nat), x]
def zipD (xs ys : List D) : List D := List.zipWith (fun x y => .tup [x, y]) xs ys
def textD (x : Str) : List D := x.cps.toList.map fun c => .str ⟨#[c]⟩
def rngD (lo c : Int) (n : Nat) : List D := (List.range n).map fun i => .int (lo + (i : Nat) * c)
theorem SqT.up {K : PySem.W.Frag} {H H' : Hp} {a : Addr} {xs : List V} (h : SqT K H a xs) (e : Ext H H') : SqT K H' a xs := SqT.ext h e
def dSeqK (G : DH) (d : D) (R : List D → (DH → Prop) → Prop) : Prop := match d with
  | .tup xs => R xs fun _ => True
  | .ref a => match G a with
    | some (.lst xs) => R xs fun G' => G' a = some (.lst xs)
    | some (.rol xs) => R xs fun G' => G' a = some (.rol xs)
    | _ => False
  | _ => False
/-- what such a sequence is in the hand layer -/
theorem seqK {Y : Wd} {H : Hp} {G : DH} {d : D} {v : V} {R : List D → (DH → Prop) → Prop} (hr : HRep Y H G) (p : Rp Y.K H d v) (h : dSeqK G d R) : ∃ a xs ok, v = .ref a ∧ R xs ok ∧
    ((∃ vs, SqT Y.K H a vs ∧ RpL Y.K H xs vs ∧ ∀ H' G', Ext H H' → HRep Y H' G' → ok G' → SqT Y.K H' a vs ∧ RpL Y.K H' xs vs) ∨
     ((∃ vs, SqL Y.K H a vs ∧ RpL Y.K H xs vs) ∧ ∀ H' G', HRep Y H' G' → ok G' → ∃ vs, SqL Y.K H' a vs ∧ RpL Y.K H' xs vs)) := by
  cases d with
  | tup xs =>
    obtain ⟨a, vs, rfl, h1, h2⟩ := p
    exact ⟨a, xs, _, rfl, h, .inl ⟨vs, h1, h2, fun H' G' x _ _ => ⟨SqT.ext h1 x, h2.ext x⟩⟩⟩
  | ref a =>
    cases p
    simp only [dSeqK] at h
    split at h
    · rename_i xs e
      obtain ⟨vs, h1, h2⟩ := hr _ _ e
      refine ⟨a, xs, _, rfl, h, .inr ⟨⟨vs, SqL.of h1, h2⟩, fun H' G' r g => ?_⟩⟩
      obtain ⟨us, g1, g2⟩ := r _ _ g
      exact ⟨us, SqL.of g1, g2⟩
    · rename_i xs e
      obtain ⟨o, vs, h1, h2⟩ := hr _ _ e
      refine ⟨a, xs, _, rfl, h, .inr ⟨⟨vs, .inl (.inr ⟨o, h1⟩), h2⟩, fun H' G' r g => ?_⟩⟩
      obtain ⟨o', us, g1, g2⟩ := r _ _ g
      exact ⟨us, .inl (.inr ⟨o', g1⟩), g2⟩
    · exact h.elim
  | _ => exact h.elim
section
variable {X : Cx} {e e2 : Expr} {t : DA} {te : DE} {p pos tpos : Pos} {elts : List Expr} {kk : Nat} {tg : Expr}
def dEnum (t : DA) : DI := fun τ G R => t τ G fun ds G1 => match ds with
  | [d] => dSeqK G1 d fun xs ok => R ⟨enumD xs, ok⟩ G1
  | _ => False
theorem enum_pair {Y : Wd} {H : Hp} {T : Addr} {i : Nat} {d : D} {x : V} (n : H T = none) (r : Rp Y.K H d x) : Rp Y.K (upd H T (.tup [.int (i : Nat), x])) (.tup [.int (i : Nat), d]) (.ref T) :=
  ⟨T, _, rfl, .inl (.inl upd_same), RpL.cons rfl (RpL.cons (r.ext (Ext.new n)) RpL.nil)⟩
theorem enum_get {xs : List D} {i : Nat} {x : D} (h : (enumD xs)[i]? = some x) : ∃ y, xs[i]? = some y ∧ x = .tup [.int (i : Nat), y] := by
  unfold enumD at h
  rw [List.getElem?_mapIdx] at h
  cases q : xs[i]? with
  | none => rw [q] at h; cases h
  | some y => rw [q] at h; cases h; exact ⟨y, rfl, rfl⟩
theorem I_enum (hg : Gl X "enumerate") (hm : X.mg "enumerate" = none) (ha : PA X [e] (lA (wd X) t)) (hs : starEach [e] X.env = [(false, eval e X.env)] := by rfl) : PI X (.Tuple elts kk tpos) (.Call (.Name "enumerate" p) [e] [] pos) (lI (wd X) (dEnum t)) := by
  refine ⟨fun pins s σ H R I ⟨τ, G, R', sr, hr, q, k⟩ => ?_⟩
  refine Call_ (ld_blt I hg hm boot_enumerate (PyProof.Rows.callWith_type1 (thn (ha.run pos pins s σ H (fun vs H1 => ∃ v a, vs = [v] ∧ v = .ref a ∧ ((∃ us, SqT X.K H1 a us ∧ R (IteT X.K a) H1) ∨ ∃ us, SqL X.K H1 a us ∧ R (Ite X.K a) H1)) I ⟨τ, G, _, sr, hr, q, fun ds G1 vs H1 q1 x1 r1 p1 => ?_⟩) fun us s1 ⟨vs, H1, I1, r1, q1⟩ => ?_) hs rfl))
  · match ds, q1 with
    | [d], q1 =>
      obtain ⟨v, rfl, p2⟩ := p1.one
      obtain ⟨a, xs, ok, rfl, rr, z⟩ := seqK r1 p2 q1
      refine ⟨_, a, rfl, rfl, ?_⟩
      rcases z with ⟨us, h1, h2, h3⟩ | ⟨⟨us, h1, h2⟩, h3⟩
      · refine .inl ⟨us, h1, k _ _ _ _ rr x1 r1 fun i H2 G2 x2 r2 okk => ?_⟩
        obtain ⟨g1, g2⟩ := h3 _ _ x2 r2 okk
        refine ⟨fun x ex => ?_, fun l => ⟨us, g1, by rw [← g2.len]; simpa [enumD] using l⟩⟩
        obtain ⟨y, ey, rfl⟩ := enum_get ex
        obtain ⟨v, e1, e2⟩ := g2.get ey
        refine ⟨⟨us, v, g1, e1⟩, fun u H' yy => ?_⟩
        obtain ⟨T, x0, rfl, nT, rfl, yy⟩ := yy
        have z := yy us g1
        rw [e1] at z
        cases z
        exact ⟨Ext.new nT, r2.hid nT, enum_pair nT e2⟩
      · refine .inr ⟨us, h1, k _ _ _ _ rr x1 r1 fun i H2 G2 x2 r2 okk => ?_⟩
        obtain ⟨us', g1, g2⟩ := h3 _ _ r2 okk
        refine ⟨fun x ex => ?_, fun l => ⟨us', g1, by rw [← g2.len]; simpa [enumD] using l⟩⟩
        obtain ⟨y, ey, rfl⟩ := enum_get ex
        obtain ⟨v, e1, e2⟩ := g2.get ey
        refine ⟨⟨us', v, g1, e1⟩, fun u H' yy => ?_⟩
        obtain ⟨T, x0, rfl, nT, rfl, yy⟩ := yy
        have z := yy us' g1
        rw [e1] at z
        cases z
        exact ⟨Ext.new nT, r2.hid nT, enum_pair nT e2⟩
  · obtain ⟨v, a, rfl, rfl, q1⟩ := q1
    rw [Vals.ref1 r1]
    have fpk : ∀ b ∈ [s1.heap.objs.size + 1, s1.heap.objs.size], FpOk X pins H1 b := fun b hb => by
      have le : s1.heap.objs.size ≤ b := by
        rcases (show b = s1.heap.objs.size + 1 ∨ b = s1.heap.objs.size by simpa using hb) with z | z
        · rw [z]; exact Nat.le_add_right _ _
        · rw [z]; exact Nat.le_refl _
      exact I1.fpOk le (I1.hok.fresh le)
    rcases q1 with ⟨us', hq, fin⟩ | ⟨us', hq, fin⟩
    · obtain ⟨its, rv, p', _⟩ := I1.tuple hq
      have la : a < s1.heap.objs.size := by obtain ⟨_, z, _⟩ := id p'; exact Heap.lt_size z
      refine dlEnumCall (begins_tuple a its.toArray) (show s1.heap.IsTuple a its.toArray from p') fun h' he hit hk => wpAny_pyIter_enum he ?_
      exact ⟨s1.heap.objs.size + 1, [s1.heap.objs.size + 1, s1.heap.objs.size], _, _, H1, rfl, I1.kept (t' := s1.toks) hk, turn_enumT a (s1.heap.objs.size + 1) s1.heap.objs.size, ⟨⟨.none, he⟩, ⟨_, hit, rfl, rfl⟩, Nat.succ_ne_self _, Nat.ne_of_lt la, Nat.ne_of_gt (Nat.lt_succ_of_lt la)⟩, fpk, fin⟩
    · obtain ⟨its, rv, p', _⟩ := I1.list hq
      refine call_enumerate_list p'.isList fun h' he hit _ hk => wpAny_pyIter_enum he ?_
      exact ⟨s1.heap.objs.size + 1, [s1.heap.objs.size + 1, s1.heap.objs.size], _, _, H1, rfl, I1.kept (t' := s1.toks) hk, turn_enum a (s1.heap.objs.size + 1) s1.heap.objs.size, ⟨⟨.none, he⟩, hit, Nat.succ_ne_self _⟩, fpk, fin⟩
/-! ### ranges -/
theorem PI.weakD {iter : Expr} {w : TI} {u : DI} (h : PI X tg iter w) (f : ∀ σ H R, lI (wd X) u σ H R → w σ H R) : PI X tg iter (lI (wd X) u) := ⟨fun pins s σ H R I q => h.run pins s σ H R I (f _ _ _ q)⟩
theorem rng_it {Y : Wd} {H0 : Hp} {J : It} {lo c : Int} {n : Nat} (h : ∀ i H, (i < n → J.go i H ∧ ∀ v H', J.yld i H v H' → H' = H ∧ v = .int (lo + (i : Nat) * c)) ∧ (n ≤ i → J.stop i H)) : ItD Y H0 J ⟨rngD lo c n, fun _ => True⟩ := by
  intro i H G x r _
  obtain ⟨h1, h2⟩ := h i H
  refine ⟨fun y e => ?_, fun l => h2 (by simpa [rngD] using l)⟩
  have hi : i < n := by
    have z := (List.getElem?_eq_some_iff.mp e).1
    simpa [rngD] using z
  have ey : y = .int (lo + (i : Nat) * c) := by
    have z : (rngD lo c n)[i]? = some (.int (lo + (i : Nat) * c)) := by simp [rngD, hi]
    rw [z] at e; cases e; rfl
  subst ey
  obtain ⟨g1, g2⟩ := h1 hi
  refine ⟨g1, fun v H' yy => ?_⟩
  obtain ⟨rfl, rfl⟩ := g2 v H' yy
  exact ⟨.refl _, r, rfl⟩
def dRng1 (t : DA) : DI := fun τ G R => t τ G fun ds G1 => match ds with
  | [.int j] => -(2 ^ 62) ≤ j ∧ j < 2 ^ 62 ∧ R ⟨rngD 0 1 j.toNat, fun _ => True⟩ G1
  | _ => False
def dRng2 (t : DA) : DI := fun τ G R => t τ G fun ds G1 => match ds with
  | [.int i, .int j] => (-(2 ^ 62) ≤ i ∧ i < 2 ^ 62 ∧ -(2 ^ 62) ≤ j ∧ j < 2 ^ 62) ∧ R ⟨rngD i 1 (j - i).toNat, fun _ => True⟩ G1
  | _ => False
def dRng3 (t : DA) : DI := fun τ G R => t τ G fun ds G1 => match ds with
  | [.int i, .int j, .int c] => ∃ n, RgC i j c n ∧ R ⟨rngD i c n, fun _ => True⟩ G1
  | _ => False
theorem RpL.two' {K : PySem.W.Frag} {H : Hp} {d f : D} {vs : List V} (h : RpL K H [d, f] vs) : ∃ v u, vs = [v, u] ∧ Rp K H d v ∧ Rp K H f u := by
  obtain ⟨v, r, rfl, h1, u, r', rfl, h2, h3⟩ := h
  cases h3
  exact ⟨v, u, rfl, h1, h2⟩
theorem I_rng1 (hg : Gl X "range") (hm : X.mg "range" = none) (ha : PA X [e] (lA (wd X) t)) (hs : starEach [e] X.env = [(false, eval e X.env)] := by rfl) : PI X tg (.Call (.Name "range" p) [e] [] pos) (lI (wd X) (dRng1 t)) :=
  PI.weakD (pi_range1 hg hm ha hs) fun σ H R ⟨τ, G, R', sr, hr, q, k⟩ => ⟨τ, G, _, sr, hr, q, fun ds G1 vs H1 q1 x1 r1 p1 => by
    match ds, q1 with
    | [.int j], q1 =>
      obtain ⟨v, rfl, p2⟩ := p1.one
      cases p2
      refine ⟨j, rfl, q1.1, q1.2.1, k _ _ _ _ q1.2.2 x1 r1 (rng_it fun i H => ⟨fun hi => ⟨hi, fun v H' y => ⟨y.1, ?_⟩⟩, fun l => l⟩)⟩
      rw [y.2]; simp⟩
theorem I_rng2 (hg : Gl X "range") (hm : X.mg "range" = none) (ha : PA X [e, e2] (lA (wd X) t)) (hs : starEach [e, e2] X.env = [(false, eval e X.env), (false, eval e2 X.env)] := by rfl) (hs2 : starEach [e2] X.env = [(false, eval e2 X.env)] := by rfl) : PI X tg (.Call (.Name "range" p) [e, e2] [] pos) (lI (wd X) (dRng2 t)) :=
  PI.weakD (pi_range2 hg hm ha hs hs2) fun σ H R ⟨τ, G, R', sr, hr, q, k⟩ => ⟨τ, G, _, sr, hr, q, fun ds G1 vs H1 q1 x1 r1 p1 => by
    match ds, q1 with
    | [.int i, .int j], q1 =>
      obtain ⟨v, u, rfl, p2, p3⟩ := p1.two'
      cases p2; cases p3
      refine ⟨i, j, rfl, q1.1, k _ _ _ _ q1.2 x1 r1 (rng_it fun i H => ⟨fun hi => ⟨hi, fun v H' y => ⟨y.1, ?_⟩⟩, fun l => l⟩)⟩
      rw [y.2]; simp⟩
theorem I_rng3 {e3 : Expr} (hg : Gl X "range") (hm : X.mg "range" = none) (ha : PA X [e, e2, e3] (lA (wd X) t)) (hs : starEach [e, e2, e3] X.env = (false, eval e X.env) :: starEach [e2, e3] X.env := by rfl) (hpl : (backTo pos (starEach [e2, e3] X.env)).any (·.1) = false := by rfl) : PI X tg (.Call (.Name "range" p) [e, e2, e3] [] pos) (lI (wd X) (dRng3 t)) :=
  PI.weakD (pi_range3 hg hm ha hs hpl) fun σ H R ⟨τ, G, R', sr, hr, q, k⟩ => ⟨τ, G, _, sr, hr, q, fun ds G1 vs H1 q1 x1 r1 p1 => by
    match ds, q1 with
    | [.int i, .int j, .int c], ⟨n, hR, q1⟩ =>
      obtain ⟨v, r, rfl, p2, p1⟩ := p1
      obtain ⟨u, w, rfl, p3, p4⟩ := RpL.two' p1
      cases p2; cases p3; cases p4
      exact ⟨i, j, c, n, rfl, hR, k _ _ _ _ q1 x1 r1 (rng_it fun i H => ⟨fun hi => ⟨hi, fun v H' y => y⟩, fun l => l⟩)⟩⟩
/-! ### a text's signs -/
def dTxt (te : DE) : DI := fun τ G R => te τ G fun d G1 => match d with | .str x => R ⟨textD x, fun _ => True⟩ G1 | _ => False
theorem I_str (he : PE X e (lE (wd X) te)) : PI X tg e (lI (wd X) (dTxt te)) :=
  PI.weakD (pi_str he) fun σ H R ⟨τ, G, R', sr, hr, q, k⟩ => ⟨τ, G, _, sr, hr, q, fun d G1 v H1 q1 x1 r1 p1 => by
    cases d with
    | str x =>
      cases p1
      refine ⟨x, rfl, k _ _ _ _ q1 x1 r1 fun i H2 G2 x2 r2 _ => ⟨fun y ey => ?_, fun l => show x.cps.size ≤ i by simpa [textD] using l⟩⟩
      have hi : i < x.cps.size := by
        have z := (List.getElem?_eq_some_iff.mp ey).1
        simpa [textD] using z
      refine ⟨hi, fun v H' yy => ?_⟩
      obtain ⟨rfl, c, ec, rfl⟩ := yy
      have ey2 : (textD x)[i]? = some (.str ⟨#[c]⟩) := by simp [textD, ec]
      rw [ey2] at ey
      cases ey
      exact ⟨.refl _, r2, rfl⟩
    | _ => exact q1.elim⟩
/-! ### zip of two lists, of two tuples -/
def dZip (t : DA) : DI := fun τ G R => t τ G fun ds G1 => match ds with
  | [.tup xs, .tup ys] => R ⟨zipD xs ys, fun _ => True⟩ G1
  | [.ref a, .ref b] => match G1 a, G1 b with
    | some (.lst xs), some (.lst ys) => R ⟨zipD xs ys, fun G' => G' a = some (.lst xs) ∧ G' b = some (.lst ys)⟩ G1
    | _, _ => False
  | _ => False
theorem zip_get {xs ys : List D} {i : Nat} {d : D} (h : (zipD xs ys)[i]? = some d) : ∃ x y, xs[i]? = some x ∧ ys[i]? = some y ∧ d = .tup [x, y] := by
  unfold zipD at h
  rw [List.getElem?_zipWith] at h
  cases q : xs[i]? with
  | none => rw [q] at h; cases h
  | some x =>
    cases q2 : ys[i]? with
    | none => rw [q, q2] at h; cases h
    | some y => rw [q, q2] at h; cases h; exact ⟨x, y, rfl, rfl, rfl⟩
theorem zip_pair {Y : Wd} {H : Hp} {T : Addr} {d f : D} {x y : V} (n : H T = none) (r : Rp Y.K H d x) (r' : Rp Y.K H f y) : Rp Y.K (upd H T (.tup [x, y])) (.tup [d, f]) (.ref T) :=
  ⟨T, _, rfl, .inl (.inl upd_same), RpL.cons (r.ext (Ext.new n)) (RpL.cons (r'.ext (Ext.new n)) RpL.nil)⟩
theorem zip_end {xs ys : List D} {i : Nat} (h : (zipD xs ys).length ≤ i) : xs.length ≤ i ∨ ys.length ≤ i := by
  simp [zipD] at h
  omega
theorem I_zip (hg : Gl X "zip") (hm : X.mg "zip" = none) (ha : PA X [e, e2] (lA (wd X) t)) (hs : starEach [e, e2] X.env = (false, eval e X.env) :: starEach [e2] X.env := by rfl) (hpl : (backTo pos (starEach [e2] X.env)).any (·.1) = false := by rfl) :
    PI X (.Tuple elts kk tpos) (.Call (.Name "zip" p) [e, e2] [] pos) (lI (wd X) (dZip t)) :=
  PI.weakD (RZ.pi_zipA hg hm ha hs hpl) fun σ H R ⟨τ, G, R', sr, hr, q, k⟩ => ⟨τ, G, _, sr, hr, q, fun ds G1 vs H1 q1 x1 r1 p1 => by
    match ds, q1 with
    | [.tup xs, .tup ys], q1 =>
      obtain ⟨v, u, rfl, ⟨a, us, rfl, a1, a2⟩, b, ws, rfl, b1, b2⟩ := p1.two'
      refine ⟨a, b, us, ws, rfl, .inr ⟨a1, b1, k _ _ _ _ q1 x1 r1 fun i H2 G2 x2 r2 _ => ?_⟩⟩
      have a1' := SqT.ext a1 x2
      have b1' := SqT.ext b1 x2
      refine ⟨fun d ed => ?_, fun l => ⟨us, ws, a1', b1', by rw [← a2.len, ← b2.len]; exact zip_end l⟩⟩
      obtain ⟨x, y, e1, e2, rfl⟩ := zip_get ed
      obtain ⟨v1, f1, f2⟩ := a2.get e1
      obtain ⟨v2, f3, f4⟩ := b2.get e2
      refine ⟨⟨us, ws, v1, v2, a1', b1', f1, f3⟩, fun v H' yy => ?_⟩
      obtain ⟨T, x0, y0, rfl, nT, rfl, y1, y2⟩ := yy
      have z1 := y1 us a1'
      have z2 := y2 ws b1'
      rw [f1] at z1; rw [f3] at z2
      cases z1; cases z2
      exact ⟨Ext.new nT, r2.hid nT, zip_pair nT (f2.ext x2) (f4.ext x2)⟩
    | [.ref a, .ref b], q1 =>
      obtain ⟨v, u, rfl, p2, p3⟩ := p1.two'
      cases p2; cases p3
      simp only at q1
      split at q1
      · rename_i xs ys e1 e2
        obtain ⟨us, a1, a2⟩ := r1 _ _ e1
        obtain ⟨ws, b1, b2⟩ := r1 _ _ e2
        refine ⟨a, b, us, ws, rfl, .inl ⟨SqL.of a1, SqL.of b1, k _ _ _ _ q1 x1 r1 fun i H2 G2 x2 r2 ⟨o1, o2⟩ => ?_⟩⟩
        obtain ⟨us', a1', a2'⟩ := r2 _ _ o1
        obtain ⟨ws', b1', b2'⟩ := r2 _ _ o2
        refine ⟨fun d ed => ?_, fun l => ⟨us', ws', SqL.of a1', SqL.of b1', by rw [← a2'.len, ← b2'.len]; exact zip_end l⟩⟩
        obtain ⟨x, y, e1, e2, rfl⟩ := zip_get ed
        obtain ⟨v1, f1, f2⟩ := a2'.get e1
        obtain ⟨v2, f3, f4⟩ := b2'.get e2
        refine ⟨⟨us', ws', v1, v2, SqL.of a1', SqL.of b1', f1, f3⟩, fun v H' yy => ?_⟩
        obtain ⟨T, x0, y0, rfl, nT, rfl, y1, y2⟩ := yy
        have z1 := y1 us' (SqL.of a1')
        have z2 := y2 ws' (SqL.of b1')
        rw [f1] at z1; rw [f3] at z2
        cases z1; cases z2
        exact ⟨Ext.new nT, r2.hid nT, zip_pair nT f2 f4⟩
      · exact q1.elim⟩
end
end L2.DL

set_option Elab.async false
set_option linter.all false
set_option maxRecDepth 100000
set_option maxHeartbeats 2000000
/-! DL9: isinstance; built-in functions and list methods over data. -/
namespace L2.DL
open PySem PySem.Spec PyProof.Rows

/-! ### isinstance -/
inductive Tg where
  | non | bl | int | str | tup | lst | dic | own (C : Addr)
def Tg.nm : Tg → String
  | .non => "NoneType" | .bl => "bool" | .int => "int" | .str => "str" | .tup => "tuple" | .lst => "list" | .dic => "dict" | .own _ => ""
def Tg.v : Tg → Value
  | .own C => .ref C
  | t => .type t.nm
def tagOf (G : DH) : D → Option Tg
  | .non => some .non
  | .bl _ => some .bl
  | .int _ => some .int
  | .str _ => some .str
  | .tup _ => some .tup
  | .ref a => match G a with
    | some (.lst _) => some .lst
    | some (.rol _) => some .lst
    | some (.dic _) => some .dic
    | some (.ins C _) => some (.own C)
    | _ => none
/-- instances of C are asked for their class in the plain way -/
structure OwnTy (K : PySem.W.Frag) (C : Addr) : Prop where
  cl : Cls K C
  ha : PySem.W.findIn K (.ref C) "__class__" = some (some (.builtin "object.__class__"))
  hn : PySem.W.specialIn K (.builtin "object.__class__") "__get__" = some (some (.builtin "getset_descriptor.__get__"))
  htk : PySem.W.takesIn K (.builtin "object.__class__") = some true
  hm : PySem.W.mroIn K C (.type "object") = some true
def TgOk (K : PySem.W.Frag) : Tg → Prop
  | .own C => OwnTy K C
  | _ => True
section
variable {X : Cx} {pins : List (Addr × Obj)} {σ : St} {H : Hp} {s : Shared} {G : DH}
theorem kitD {d : D} {x : V} {u : Value} {t : Tg} (I : Inv X pins σ H s) (hr : HRep (wd X) H G) (p : Rp X.K H d x) (rx : RelV x u) (e : tagOf G d = some t) (ok : TgOk X.K t) : ∃ P : Heap → Prop, PySem.W.KitX X.K u t.v P ∧ P s.heap ∧ u ≠ .builtin "__main__.__loader__#opaque" := by
  cases d with
  | non => cases p; cases e; exact kit_of I rx (.base .non)
  | bl b => cases p; cases e; exact kit_of I rx (.base (.bl b))
  | int i => cases p; cases e; exact kit_of I rx (.base (.int i))
  | str y => cases p; cases e; exact kit_of I rx (.base (.str y))
  | tup xs =>
    obtain ⟨a, vs, rfl, h1, _⟩ := p
    cases e
    rcases h1 with (h1 | ⟨o, h1⟩) | ⟨o, its, n, h1, h2, _⟩
    · exact kit_of I rx (.base (.tup h1))
    · exact kit_of I rx (.fTuple h1)
    · exact kit_of I rx (.kTuple h1 h2)
  | ref a =>
    cases p
    simp only [tagOf] at e
    split at e
    · rename_i xs ea
      cases e
      obtain ⟨vs, h1, _⟩ := hr _ _ ea
      exact kit_of I rx (.base (.lst h1))
    · rename_i xs ea
      cases e
      obtain ⟨o, vs, h1, _⟩ := hr _ _ ea
      exact kit_of I rx (.base (.frz h1))
    · rename_i kvs ea
      cases e
      obtain ⟨kws, h1, _⟩ := hr _ _ ea
      cases (show u = Value.ref a from rx)
      obtain ⟨z, lo, vs, rel, o, es, ep, o1, o2, _⟩ := dn_of I h1
      exact ⟨_, PySem.W.kitx_dict, ⟨o, o1, o2.1⟩, fun z => nomatch z⟩
    · rename_i C fs ea
      cases e
      obtain ⟨dx, vs, h1, _⟩ := hr _ _ ea
      have ok : OwnTy X.K C := ok
      exact kit_of I rx (.base (.ins h1 ok.cl ok.ha ok.hn ok.htk ok.hm))
    · cases e
end
/-- what isinstance answers -/
def askT (T : String) : Tg → Option Bool
  | .own _ => none
  | t => some (t.nm == T || (T == "int" && t.nm == "bool"))
def askO (T : String) (os : List (Addr × Bool)) : Tg → Option Bool
  | .own C => os.lookup C
  | t => askT T t
theorem kit_table : (["int", "bool", "str", "tuple", "list", "dict"].all fun T => [Tg.non, .bl, .int, .str, .tup, .lst, .dic].all fun t => kitB t.nm T == askT T t) = true := by decide +kernel
/-- the answers are the model's -/
structure Asks (K : PySem.W.Frag) (ask : Tg → Option Bool) (c : Value) : Prop where
  ok : ∀ t b, ask t = some b → PySem.W.kitOne K t.v c = some b
theorem asksT {K : PySem.W.Frag} {T : String} (hT : T ∈ ["int", "bool", "str", "tuple", "list", "dict"]) (os : List (Addr × Bool)) (ho : ∀ p ∈ os, PySem.W.kitOne K (.ref p.1) (.type T) = some p.2) : Asks K (askO T os) (.type T) := ⟨fun t b e => by
  have tab := List.all_eq_true.mp kit_table T hT
  have go : ∀ t : Tg, t ∈ [Tg.non, .bl, .int, .str, .tup, .lst, .dic] → ∀ b, askT T t = some b → PySem.W.kitOne K (.type t.nm) (.type T) = some b := fun t ht b e => by
    have q := eq_of_beq (List.all_eq_true.mp tab t ht)
    exact kit_ty (q.trans e)
  cases t with
  | own C =>
    have e : os.lookup C = some b := e
    have key : ∀ (l : List (Addr × Bool)), l.lookup C = some b → (C, b) ∈ l := by
      intro l
      induction l with
      | nil => intro h; cases h
      | cons p l ih =>
        obtain ⟨c, v⟩ := p
        intro h
        rw [List.lookup_cons] at h
        cases q : C == c with
        | true =>
          rw [q] at h
          cases h
          rw [eq_of_beq q]; exact List.mem_cons_self
        | false => rw [q] at h; exact List.mem_cons_of_mem _ (ih h)
    exact ho (C, b) (key os e)
  | non => exact go .non (by simp) b e
  | bl => exact go .bl (by simp) b e
  | int => exact go .int (by simp) b e
  | str => exact go .str (by simp) b e
  | tup => exact go .tup (by simp) b e
  | lst => exact go .lst (by simp) b e
  | dic => exact go .dic (by simp) b e⟩
/-- is it an instance of the own class C? as: what else is asked -/
def askC (C : Addr) (as : List (String × Bool)) (os : List (Addr × Bool)) : Tg → Option Bool
  | .own C' => if C' = C then some true else os.lookup C'
  | t => as.lookup t.nm
theorem look_mem {α β : Type} [BEq α] [LawfulBEq α] {k : α} {b : β} : ∀ {l : List (α × β)}, l.lookup k = some b → (k, b) ∈ l
  | (c, v) :: l, h => by
    rw [List.lookup_cons] at h
    cases q : k == c with
    | true => rw [q] at h; cases h; rw [eq_of_beq q]; exact List.mem_cons_self
    | false => rw [q] at h; exact List.mem_cons_of_mem _ (look_mem h)
theorem asksC {K : PySem.W.Frag} {C : Addr} (as : List (String × Bool)) (os : List (Addr × Bool)) (ha : ∀ p ∈ as, PySem.W.kitOne K (.type p.1) (.ref C) = some p.2) (ho : ∀ p ∈ os, PySem.W.kitOne K (.ref p.1) (.ref C) = some p.2) : Asks K (askC C as os) (.ref C) := ⟨fun t b e => by
  cases t with
  | own C' =>
    have e : (if C' = C then some true else os.lookup C') = some b := e
    split at e
    · rename_i h
      cases e
      subst h
      exact if_pos (beq_self_eq_true _)
    · exact ho _ (look_mem e)
  | _ => exact ha _ (look_mem e)⟩
def dIsi (K : PySem.W.Frag) (ask : Tg → Option Bool) (te : DE) : DE := fun τ G Q => te τ G fun d G1 => match tagOf G1 d with
  | some t => TgOk K t ∧ match ask t with
    | some b => Q (.bl b) G1
    | none => False
  | none => False
section
variable {X : Cx} {e c c2 : Expr} {te : DE} {p pos q tp : Pos}
/-- isinstance(x, T) -/
theorem E_isi {ask : Tg → Option Bool} {cv : V} {u : Value} (ak : Asks X.K ask u) (k : ClsV cv u) (hg : Gl X "isinstance") (hm : X.mg "isinstance" = none) (he : PE X e (lE (wd X) te)) (hT : PE X c (tC cv))
    (hs : starEach [e, c] X.env = (false, eval e X.env) :: starEach [c] X.env := by rfl) (hs2 : starEach [c] X.env = (false, eval c X.env) :: starEach [] X.env := by rfl) (hpl : (backTo pos (starEach [c] X.env)).any (·.1) = false := by rfl) :
    PE X (.Call (.Name "isinstance" p) [e, c] [] pos) (lE (wd X) (dIsi X.K ask te)) := by
  have call : CallR X (.builtin "isinstance") (fun xs H Q => ∃ x G d t b, xs = [x, cv] ∧ HRep (wd X) H G ∧ Rp X.K H d x ∧ tagOf G d = some t ∧ TgOk X.K t ∧ ask t = some b ∧ Q (.bl b) H) := by
    intro pins s σ H xs us Q I r ⟨x, G, d, t, b, h0, hr, pd, h1, h2, h3, q⟩
    subst h0
    obtain ⟨u1, u2, rfl, r1, r2⟩ := vals2 r
    have e2 := k.eq r2
    subst e2
    obtain ⟨P, Z, pp, hx⟩ := kitD I hr pd r1 h1 h2
    exact PySem.W.kia_one Z I.kIn pp (ak.ok t b h3) hx fun tk => ⟨.bl b, H, I.tok tk, rfl, q⟩
  refine (pe_callB call hg hm (by first | rfl | decide) (pa_cons he (pa_cons hT pa_nil hs2) hs) (by decide) (by decide) hs hpl).weak fun σ H Q ⟨τ, G, Q', sr, hr, h, kv⟩ => ?_
  refine ⟨τ, G, _, sr, hr, h, fun d G1 v H1 q1 x1 r1 p1 => ?_⟩
  split at q1
  · rename_i t ht
    obtain ⟨ok, q1⟩ := q1
    split at q1
    · rename_i b hb
      exact ⟨v, G1, d, t, b, rfl, r1, p1, ht, ok, hb, kv _ _ _ _ q1 x1 r1 rfl⟩
    · exact q1.elim
  · exact q1.elim
/-- isinstance(x, (T, U)) -/
def ask2 (f g : Tg → Option Bool) (t : Tg) : Option Bool := match f t with
  | some true => some true
  | some false => g t
  | none => none
theorem E_isi2 {ask ask' : Tg → Option Bool} {cv cw : V} {u w : Value} {j : Nat} (ak : Asks X.K ask u) (ak' : Asks X.K ask' w) (k : ClsV cv u) (k' : ClsV cw w) (hg : Gl X "isinstance") (hm : X.mg "isinstance" = none) (he : PE X e (lE (wd X) te)) (hT : PE X c (tC cv)) (hT2 : PE X c2 (tC cw))
    (hs : starEach [e, .Tuple [c, c2] j tp] X.env = (false, eval e X.env) :: starEach [.Tuple [c, c2] j tp] X.env := by rfl) (hs2 : starEach [.Tuple [c, c2] j tp] X.env = (false, eval (.Tuple [c, c2] j tp) X.env) :: starEach [] X.env := by rfl)
    (hs3 : starEach [c, c2] X.env = (false, eval c X.env) :: starEach [c2] X.env := by rfl) (hs4 : starEach [c2] X.env = (false, eval c2 X.env) :: starEach [] X.env := by rfl) (hpl : (backTo pos (starEach [.Tuple [c, c2] j tp] X.env)).any (·.1) = false := by rfl) :
    PE X (.Call (.Name "isinstance" p) [e, .Tuple [c, c2] j tp] [] pos) (lE (wd X) (dIsi X.K (ask2 ask ask') te)) := by
  have call : CallR X (.builtin "isinstance") (fun xs H Q => ∃ x G d t b T, xs = [x, .ref T] ∧ H T = some (.tup [cv, cw]) ∧ HRep (wd X) H G ∧ Rp X.K H d x ∧ tagOf G d = some t ∧ TgOk X.K t ∧ ask2 ask ask' t = some b ∧ Q (.bl b) H) := by
    intro pins s σ H xs us Q I r ⟨x, G, d, t, b, T, h0, hTT, hr, pd, h1, h2, h3, q⟩
    subst h0
    obtain ⟨u1, u2, rfl, r1, r2⟩ := vals2 r
    cases (show u2 = Value.ref T from r2)
    obtain ⟨P, Z, pp, hx⟩ := kitD I hr pd r1 h1 h2
    obtain ⟨_, its, rv, o, o1, o2, n, o3⟩ := (show ObjOk X.prog X.w H s.heap T (.tup [cv, cw]) from I.hok T _ hTT)
    obtain ⟨w1, w2, rfl, rw1, rw2⟩ := vals2 rv
    have f1 := k.eq rw1
    have f2 := k'.eq rw2
    subst f1
    subst f2
    obtain ⟨oc, od, dt, sl⟩ := o
    simp only at o2 o3
    subst o2 o3
    refine PySem.W.kia_tup (b := b) Z I.kIn pp o1 ?_ hx fun tk => ⟨.bl b, H, I.tok tk, rfl, q⟩
    unfold ask2 at h3
    split at h3
    · rename_i z
      cases h3
      exact kitAny_cons (ak.ok _ _ z) (fun z => nomatch z) fun _ => rfl
    · rename_i z
      refine kitAny_cons (ak.ok _ _ z) (fun _ => ?_) (fun z => nomatch z)
      cases b with
      | true => exact kitAny_cons (ak'.ok _ _ h3) (fun z => nomatch z) fun _ => rfl
      | false => exact kitAny_cons (ak'.ok _ _ h3) (fun _ => kitAny_nil) (fun z => nomatch z)
    · cases h3
  refine (pe_callB call hg hm (by first | rfl | decide) (pa_cons he (pa_cons (pe_tup (pa_cons hT (pa_cons hT2 pa_nil hs4) hs3)) pa_nil hs2) hs) (by decide) (by decide) hs hpl).weak fun σ H Q ⟨τ, G, Q', sr, hr, h, kv⟩ => ?_
  refine ⟨τ, G, _, sr, hr, h, fun d G1 v H1 q1 x1 r1 p1 => ?_⟩
  split at q1
  · rename_i t ht
    obtain ⟨ok, q1⟩ := q1
    split at q1
    · rename_i b hb
      refine ⟨show 2 ≤ sizeLine by decide, fun T nT => ?_⟩
      exact ⟨v, G1, d, t, b, T, rfl, upd_same, r1.hid nT, p1.ext (Ext.new nT), ht, ok, hb, kv _ _ _ _ q1 (x1.trans (Ext.new nT)) (r1.hid nT) rfl⟩
    · exact q1.elim
  · exact q1.elim
/-- the name of a built-in type, of an own class -/
theorem T_name {x : Str} {n : String} (hg : Gl X x) (hm : X.mg x = none) (hv : bootBuiltins x = some (.type n)) (hn : x ≠ "__name__" := by decide) (hd : (x == ("__debug__" : Str)) = false := by decide) : PE X (.Name x pos) (tC (.ty n)) := pe_bltn hg hm hv rfl hn hd
theorem C_name {x : Str} {C : Addr} (hg : Gl X x) (hm : X.mg x = some (.ref C)) (hd : (x == ("__debug__" : Str)) = false := by decide) : PE X (.Name x pos) (tC (.ref C)) := pe_glob hg hm rfl hd
end
/-! ### built-in functions -/
section
variable {X : Cx}
def rAbs : DCR := fun ds G Q => match ds with | [.int i] => Q (.int (if i < 0 then -i else i)) G | _ => False
theorem c_abs : CallD X (.builtin "abs") rAbs := by
  intro pins s σ H vs us Q I rel ⟨ds, G, Q', p, hr, q, k⟩
  match ds, q with
  | [.int i], q =>
    obtain ⟨v, rfl, p1⟩ := p.one
    cases p1
    exact call_abs pins s σ H _ us Q I rel ⟨i, rfl, k.here q hr rfl⟩
def rToInt : DCR := fun ds G Q => match ds with | [.int i] => Q (.int i) G | [.bl b] => Q (.int (if b then 1 else 0)) G | _ => False
theorem c_int : CallD X (.type "int") rToInt := by
  intro pins s σ H vs us Q I rel ⟨ds, G, Q', p, hr, q, k⟩
  match ds, q with
  | [.int i], q =>
    obtain ⟨v, rfl, p1⟩ := p.one
    cases p1
    exact call_int1 pins s σ H _ us Q I rel (.inl ⟨i, rfl, k.here q hr rfl⟩)
  | [.bl b], q =>
    obtain ⟨v, rfl, p1⟩ := p.one
    cases p1
    exact call_int1 pins s σ H _ us Q I rel (.inr ⟨b, rfl, k.here q hr rfl⟩)
def rMax : DCR := fun ds G Q => match ds with | [.int i, .int j] => Q (.int (if j > i then j else i)) G | _ => False
def rMin : DCR := fun ds G Q => match ds with | [.int i, .int j] => Q (.int (if j < i then j else i)) G | _ => False
theorem c_max (hc : X.calm = true) : CallD X (.builtin "max") rMax := by
  intro pins s σ H vs us Q I rel ⟨ds, G, Q', p, hr, q, k⟩
  match ds, q with
  | [.int i, .int j], q =>
    obtain ⟨v, u, rfl, p1, p2⟩ := p.two'
    cases p1; cases p2
    exact call_max2 hc pins s σ H _ us Q I rel ⟨i, j, rfl, k.here q hr rfl⟩
theorem c_min (hc : X.calm = true) : CallD X (.builtin "min") rMin := by
  intro pins s σ H vs us Q I rel ⟨ds, G, Q', p, hr, q, k⟩
  match ds, q with
  | [.int i, .int j], q =>
    obtain ⟨v, u, rfl, p1, p2⟩ := p.two'
    cases p1; cases p2
    exact call_min2 hc pins s σ H _ us Q I rel ⟨i, j, rfl, k.here q hr rfl⟩
/-- a sequence: its items -/
def seqOf (G : DH) : D → Option (List D)
  | .tup xs => some xs
  | .ref a => match G a with | some (.lst xs) => some xs | some (.rol xs) => some xs | _ => none
  | _ => none
theorem seq_at {Y : Wd} {H : Hp} {G : DH} {d : D} {v : V} {xs : List D} (hr : HRep Y H G) (p : Rp Y.K H d v) (e : seqOf G d = some xs) : ∃ a vs, v = .ref a ∧ (SqL Y.K H a vs ∨ SqT Y.K H a vs) ∧ RpL Y.K H xs vs := by
  cases d with
  | tup ys => cases e; obtain ⟨a, vs, rfl, h1, h2⟩ := p; exact ⟨a, vs, rfl, .inr h1, h2⟩
  | ref a =>
    cases p
    simp only [seqOf] at e
    split at e
    · rename_i ys ea; cases e; obtain ⟨vs, h1, h2⟩ := hr _ _ ea; exact ⟨a, vs, rfl, .inl (SqL.of h1), h2⟩
    · rename_i ys ea; cases e; obtain ⟨o, vs, h1, h2⟩ := hr _ _ ea; exact ⟨a, vs, rfl, .inl (.inl (.inr ⟨o, h1⟩)), h2⟩
    · cases e
  | _ => cases e
def rList : DCR := fun ds G Q => match ds with
  | [d] => match seqOf G d with | some xs => ∀ p, G p = none → Q (.ref p) (dup G p (.lst xs)) | none => False
  | _ => False
theorem c_list : CallD X (.type "list") rList := by
  intro pins s σ H vs us Q I rel ⟨ds, G, Q', p, hr, q, k⟩
  match ds, q with
  | [d], q =>
    obtain ⟨v, rfl, p1⟩ := p.one
    simp only [rList] at q
    split at q
    · rename_i xs e
      obtain ⟨a, ys, rfl, h1, h2⟩ := seq_at hr p1 e
      exact call_list_of pins s σ H _ us Q I rel ⟨a, ys, rfl, h1, fun l nl => k _ _ _ _ (q l (hr.free nl)) (Ext.new nl) (hr.new nl ⟨ys, upd_same, h2.ext (Ext.new nl)⟩) rfl⟩
    · exact q.elim
def rTuple : DCR := fun ds G Q => match ds with
  | [d] => match seqOf G d with | some xs => Q (.tup xs) G | none => False
  | _ => False
theorem c_tuple : CallD X (.type "tuple") rTuple := by
  intro pins s σ H vs us Q I rel ⟨ds, G, Q', p, hr, q, k⟩
  match ds, q with
  | [d], q =>
    obtain ⟨v, rfl, p1⟩ := p.one
    simp only [rTuple] at q
    split at q
    · rename_i xs e
      obtain ⟨a, ys, rfl, h1, h2⟩ := seq_at hr p1 e
      refine call_tuple_of pins s σ H _ us Q I rel ⟨a, ys, rfl, ?_⟩
      rcases h1 with h1 | h1
      · exact .inl ⟨h1, fun l nl => k _ _ _ _ q (Ext.new nl) (hr.hid nl) ⟨l, ys, rfl, .inl (.inl upd_same), h2.ext (Ext.new nl)⟩⟩
      · exact .inr ⟨h1, k.here q hr ⟨a, ys, rfl, h1, h2⟩⟩
    · exact q.elim
def blsOf : List D → Option (List Bool)
  | [] => some []
  | .bl b :: r => (blsOf r).map (b :: ·)
  | _ => none
theorem blsOf_map : ∀ {xs : List D} {bs : List Bool}, blsOf xs = some bs → xs = bs.map D.bl
  | [], bs, h => by cases h; rfl
  | .bl b :: r, bs, h => by
    simp only [blsOf] at h
    cases q : blsOf r with
    | none => rw [q] at h; cases h
    | some cs => rw [q] at h; cases h; rw [blsOf_map q]; rfl
  | .non :: _, _, h => by cases h
  | .int _ :: _, _, h => by cases h
  | .str _ :: _, _, h => by cases h
  | .tup _ :: _, _, h => by cases h
  | .ref _ :: _, _, h => by cases h
theorem blsOf_of (bs : List Bool) : blsOf (bs.map D.bl) = some bs := by
  induction bs with
  | nil => rfl
  | cons b bs ih => simp only [List.map_cons, blsOf, ih]; rfl
def rAllB (f : List Bool → Bool) : DCR := fun ds G Q => match ds with
  | [.ref a] => match G a with | some (.lst xs) => (match blsOf xs with | some bs => Q (.bl (f bs)) G | none => False) | _ => False
  | _ => False
theorem c_all (hc : X.calm = true) : CallD X (.builtin "all") (rAllB fun bs => bs.all id) := by
  intro pins s σ H vs us Q I rel ⟨ds, G, Q', p, hr, q, k⟩
  match ds, q with
  | [.ref a], q =>
    obtain ⟨v, rfl, p1⟩ := p.one
    cases p1
    simp only [rAllB] at q
    split at q
    · rename_i xs e
      split at q
      · rename_i bs eb
        obtain ⟨ys, h1, h2⟩ := hr _ _ e
        rw [blsOf_map eb] at h2
        exact cr_all hc pins s σ H _ us Q I rel ⟨a, bs, rfl, by rw [← h2.bls]; exact SqL.of h1, k.here q hr rfl⟩
      · exact q.elim
    · exact q.elim
theorem c_any (hc : X.calm = true) : CallD X (.builtin "any") (rAllB fun bs => bs.any id) := by
  intro pins s σ H vs us Q I rel ⟨ds, G, Q', p, hr, q, k⟩
  match ds, q with
  | [.ref a], q =>
    obtain ⟨v, rfl, p1⟩ := p.one
    cases p1
    simp only [rAllB] at q
    split at q
    · rename_i xs e
      split at q
      · rename_i bs eb
        obtain ⟨ys, h1, h2⟩ := hr _ _ e
        rw [blsOf_map eb] at h2
        exact cr_any hc pins s σ H _ us Q I rel ⟨a, bs, rfl, by rw [← h2.bls]; exact SqL.of h1, k.here q hr rfl⟩
      · exact q.elim
    · exact q.elim
def strsOf : List D → Option (List Str)
  | [] => some []
  | .str b :: r => (strsOf r).map (b :: ·)
  | _ => none
theorem strsOf_map : ∀ {xs : List D} {bs : List Str}, strsOf xs = some bs → xs = bs.map D.str
  | [], bs, h => by cases h; rfl
  | .str b :: r, bs, h => by
    simp only [strsOf] at h
    cases q : strsOf r with
    | none => rw [q] at h; cases h
    | some cs => rw [q] at h; cases h; rw [strsOf_map q]; rfl
  | .non :: _, _, h => by cases h
  | .int _ :: _, _, h => by cases h
  | .bl _ :: _, _, h => by cases h
  | .tup _ :: _, _, h => by cases h
  | .ref _ :: _, _, h => by cases h
theorem strsOf_of (bs : List Str) : strsOf (bs.map D.str) = some bs := by
  induction bs with
  | nil => rfl
  | cons b bs ih => simp only [List.map_cons, strsOf, ih]; rfl
/-- sorted(a list of fewer than 64 texts) -/
def rSortS : DCR := fun ds G Q => match ds with
  | [.ref a] => match G a with
    | some (.lst xs) => (match strsOf xs with | some zs => zs.length < 64 ∧ ∀ ys p, ys.Perm zs → sortedS ys = true → G p = none → Q (.ref p) (dup G p (.lst (ys.map D.str))) | none => False)
    | _ => False
  | _ => False
theorem c_sortS : CallD X (.builtin "sorted") rSortS := by
  intro pins s σ H vs us Q I rel ⟨ds, G, Q', p, hr, q, k⟩
  match ds, q with
  | [.ref a], q =>
    obtain ⟨v, rfl, p1⟩ := p.one
    cases p1
    simp only [rSortS] at q
    split at q
    · rename_i xs e
      split at q
      · rename_i zs ez
        obtain ⟨ys, h1, h2⟩ := hr _ _ e
        rw [strsOf_map ez] at h2
        exact cr_sortedS pins s σ H _ us Q I rel ⟨a, zs, rfl, by rw [← h2.strs]; exact SqL.of h1, q.1, fun ws p pe so nl => k _ _ _ _ (q.2 ws p pe so (hr.free nl)) (Ext.new nl) (hr.new nl ⟨_, upd_same, RpL.ofStrs ws⟩) rfl⟩
      · exact q.elim
    · exact q.elim
/-! ### list methods -/
def rApp : DMR := fun o ds G Q => match o, ds with
  | .ref a, [d] => withL G a fun xs => xs.length < 16777216 ∧ Q .non (dup G a (.lst (xs ++ [d])))
  | _, _ => False
theorem m_append : MtD X "list.append" rApp := by
  intro pins s σ H x xs v us Q I rx rv ⟨d, ds, G, Q', pd, pds, hr, q, k⟩
  match d, ds, q with
  | .ref a, [f], q =>
    cases pd
    obtain ⟨y, rfl, py⟩ := pds.one
    simp only [rApp] at q
    unfold withL at q
    split at q
    · rename_i zs e
      obtain ⟨ws, h1, h2⟩ := hr _ _ e
      have x2 : Ext H (upd H a (.lst (ws ++ [y]))) := Ext.put h1 (fun _ z => by cases z) (fun _ _ z => by cases z)
      exact mt_append pins s σ H _ _ v us Q I rx rv ⟨a, ws, y, rfl, rfl, h1, by rw [line_eq, ← h2.len]; exact q.1, k _ _ _ _ q.2 x2 (hr.put x2 ⟨_, upd_same, (h2.snoc py).ext x2⟩) rfl⟩
    · exact q.elim
def rPop0 : DMR := fun o ds G Q => match o, ds with
  | .ref a, [] => withL G a fun xs => match xs[xs.length - 1]? with | some d => Q d (dup G a (.lst xs.dropLast)) | none => False
  | _, _ => False
theorem RpL.dropLast {K : PySem.W.Frag} {H : Hp} {ds : List D} {vs : List V} (h : RpL K H ds vs) : RpL K H ds.dropLast vs.dropLast := by
  rw [List.dropLast_eq_take, List.dropLast_eq_take, h.len]
  exact h.take _
theorem m_pop : MtD X "list.pop" rPop0 := by
  intro pins s σ H x xs v us Q I rx rv ⟨d, ds, G, Q', pd, pds, hr, q, k⟩
  match d, ds, q with
  | .ref a, [], q =>
    cases pd; cases pds
    simp only [rPop0] at q
    unfold withL at q
    split at q
    · rename_i zs e
      split at q
      · rename_i y ey
        obtain ⟨ws, h1, h2⟩ := hr _ _ e
        obtain ⟨u, e1, e2⟩ := h2.get ey
        have x2 : Ext H (upd H a (.lst ws.dropLast)) := Ext.put h1 (fun _ z => by cases z) (fun _ _ z => by cases z)
        exact mt_pop pins s σ H _ _ v us Q I rx rv ⟨a, ws, u, rfl, rfl, h1, by rw [← h2.len]; exact e1, k _ _ _ _ q x2 (hr.put x2 ⟨_, upd_same, h2.dropLast.ext x2⟩) (e2.ext x2)⟩
      · exact q.elim
    · exact q.elim
def rPop1 : DMR := fun o ds G Q => match o, ds with
  | .ref a, [.int i] => withL G a fun xs => (-(2 ^ 63) ≤ i ∧ i < 2 ^ 63) ∧ match seqIndex? i xs.length with
    | some j => (match xs[j]? with | some d => Q d (dup G a (.lst (xs.eraseIdx j))) | none => False)
    | none => False
  | _, _ => False
theorem m_popAt : MtD X "list.pop" rPop1 := by
  intro pins s σ H x xs v us Q I rx rv ⟨d, ds, G, Q', pd, pds, hr, q, k⟩
  match d, ds, q with
  | .ref a, [.int i], q =>
    cases pd
    obtain ⟨y, rfl, py⟩ := pds.one
    cases py
    simp only [rPop1] at q
    unfold withL at q
    split at q
    · rename_i zs e
      obtain ⟨⟨b1, b2⟩, q⟩ := q
      split at q
      · rename_i j ej
        split at q
        · rename_i y ey
          obtain ⟨ws, h1, h2⟩ := hr _ _ e
          obtain ⟨u, e1, e2⟩ := h2.get ey
          have x2 : Ext H (upd H a (.lst (ws.eraseIdx j))) := Ext.put h1 (fun _ z => by cases z) (fun _ _ z => by cases z)
          exact mt_popAt pins s σ H _ _ v us Q I rx rv ⟨a, ws, i, j, u, rfl, rfl, h1, b1, b2, by rw [← h2.len]; exact ej, e1, k _ _ _ _ q x2 (hr.put x2 ⟨_, upd_same, (h2.erase j).ext x2⟩) (e2.ext x2)⟩
        · exact q.elim
      · exact q.elim
    · exact q.elim
end
end L2.DL

set_option Elab.async false
set_option linter.all false
set_option maxRecDepth 100000
set_option maxHeartbeats 2000000
/-! DMap: dicts put together: {**d, k: v}, update, dict(d), dict(pairs), get. -/
namespace PySem
open Sem (wp)
section
variable {prog : Program} {w : World} {K : Type} [DecidableEq K] {knd : KeyKind prog w K} {A : Around} {E : Value → Shared → Prop} {s : Shared}
theorem dlPut {c : Addr} {kvs : List (K × Value)} {k : K} {u y : Value} {Q : Unit → Shared → Prop} (ku : knd.is k u = true) (md : s.heap.DictOf knd c kvs)
    (q : ∀ h', h'.DictOf knd c (stored kvs k y) → Heap.SameBut c s.heap h' → Q () { s with heap := h' }) (sz : kvs.length ≤ sizeLine) :
    wpAny (model prog w) A (dictPut c (knd.hash k) u y) Q E s := by
  obtain ⟨o, es, ep, z1, z2, z3, z4, z5, z6⟩ := md
  have le : es.size ≤ sizeLine := by have e1 := z5.length; have e2 : es.toList.length = es.size := by simp
                                     omega
  unfold dictPut
  refine wpAny_bind (wpAny_dictFind_of ku z1 z3 z4 ?_)
  have ix : (es.findIdx? fun e => knd.is k e.key) = kvs.findIdx? fun kv => decide (kv.1 = k) := by
    rw [← z5.findIdx k]; obtain ⟨l⟩ := es; simp
  cases hi : es.findIdx? fun e => knd.is k e.key with
  | some i =>
    refine wpAny_updateDict z1 z3 (q _ ⟨_, _, ep, Heap.get?_update_self _ z1 (Obj.isFreed_of_dict (Obj.data_mapDict z3 _)), z2.mapDict _, Obj.data_mapDict z3 _, z4.modify _ _, ?_, ?_⟩ (Heap.SameBut.update ..))
    · rw [stored, if_pos (any_of_findIdx_some (ix ▸ hi))]
      have hl : (es.toList.findIdx? fun e => knd.is k e.key) = some i := by rw [← hi]; obtain ⟨l⟩ := es; simp
      have r := z5.modify z6 hl y
      obtain ⟨l⟩ := es
      simpa using r
    · rw [stored, if_pos (any_of_findIdx_some (ix ▸ hi)), keys_map_store]; exact z6
  | none =>
    have no : k ∉ kvs.map (·.1) := not_mem_of_findIdx_none (ix ▸ hi)
    have na : ¬ (kvs.any fun kv => decide (kv.1 = k)) = true := by
      rw [List.any_eq_true]; rintro ⟨kv, m, e⟩
      exact no (List.mem_map.mpr ⟨kv, m, of_decide_eq_true e⟩)
    refine wpAny_updateDictKeys (hz := le) z1 z3 (q _ ⟨_, _, ep + 1, Heap.get?_update_self _ z1 (Obj.isFreed_of_dict (Obj.data_mapDictKeys z3 _)), z2.mapDictKeys _, Obj.data_mapDictKeys z3 _, z4.push ku _, ?_, ?_⟩ (Heap.SameBut.update ..))
    · rw [stored, if_neg na]
      have r := z5.append ku (knd.hash k) y
      obtain ⟨l⟩ := es
      simpa using r
    · rw [stored, if_neg na, List.map_append, List.nodup_append]
      refine ⟨z6, by simp, ?_⟩
      intro a ha b hb
      simp only [List.map_cons, List.map_nil, List.mem_singleton] at hb
      subst hb
      exact fun e => no (e ▸ ha)
theorem dlIter : typeLookup (.type "dict") "__iter__" = pure (some (.builtin "dict.__iter__")) := F.slot_dict_iter.lookup
theorem dlMerge {c o : Addr} {kvs more : List (K × Value)} {Q : Unit → Shared → Prop} (nref : ∀ k v, knd.is k v = true → ∀ a, v ≠ .ref a) (ne : c ≠ o) (lo : (o == sysModules) = false)
    (md : s.heap.DictOf knd c kvs) (mo : s.heap.DictOf knd o more)
    (q : ∀ h', h'.DictOf knd c (merged kvs more) → Heap.SameBut c s.heap h' → Q () { s with heap := h' })
    (sz : kvs.length + more.length ≤ sizeLine) :
    wpAny (model prog w) A (mergeMapping c (.ref o) false) Q E s := by
  obtain ⟨od, es0, ep0, y1, y2, y3, y4, y5, y6⟩ := id md
  obtain ⟨oo, eso, epo, z1, z2, z3, z4, z5, z6⟩ := id mo
  have len : more.length = eso.size := by rw [← z5.length]; simp
  unfold mergeMapping
  refine wpAny_bind (wpAny_isInstance mo.typeIs isSubtype_dict_dict ?_)
  simp only [if_true]
  refine wpAny_bind (wpAny_specialOf mo.typeIs F.slot_dict_iter.lookup ?_)
  refine wpAny_bind (wpAny_pure ?_)
  simp only [beq_self_eq_true, lo, Bool.false_eq_true, if_false]
  refine wpAny_bind (wpAny_dictEntries y1 y3 ?_)
  have loop : wpAny (model prog w) A (do
      let l ← dictEntries o
      let epoch ← dictEpoch o
      forIn (List.range l.size) PUnit.unit fun i (_ : PUnit) => (do
          let l' ← dictEntries o
          match l'[i]? with
            | some e => do
              holding [e.key, e.val] (dictPut c e.hash e.key e.val)
              let ep' ← dictEpoch o
              if (ep' != epoch) = true then do
                  (unsupported "dict.changed-during-merge" : Sem PUnit)
                  pure (ForInStep.yield PUnit.unit)
                else pure (ForInStep.yield PUnit.unit)
            | _ => do
              (unsupported "dict.changed-during-merge" : Sem PUnit)
              pure (ForInStep.yield PUnit.unit) : Sem (ForInStep PUnit))
      pure ()) Q E s := by
    refine wpAny_bind (wpAny_dictEntries z1 z3 (wpAny_bind (wpAny_dictEpoch z1 z3 (wpAny_bind ?_))))
    rw [List.range_eq_range']
    refine wpAny_forIn_list _
      (fun rest _ s' => ∃ h' i, s' = { s with heap := h' } ∧ rest = List.range' i (eso.size - i) ∧ i ≤ eso.size ∧ h'.DictOf knd c (merged kvs (more.take i)) ∧ h'.get? o = some oo ∧ Heap.SameBut c s.heap h')
      _ ?_ ?_ _ _ ⟨s.heap, 0, rfl, by simp, Nat.zero_le _, by simpa [merged] using md, z1, Heap.SameBut.refl _ _⟩
    · rintro x rest b s' ⟨h', i, rfl, hr, hi, m', o', sb⟩
      have lt : i < eso.size := by
        rcases Nat.lt_or_ge i eso.size with z | z
        · exact z
        · rw [Nat.sub_eq_zero_of_le z] at hr; simp at hr
      obtain ⟨rfl, hrest⟩ : x = i ∧ rest = List.range' (i + 1) (eso.size - (i + 1)) := by
        rw [show eso.size - i = (eso.size - (i + 1)) + 1 by omega, List.range'_succ] at hr
        injection hr with a1 a2
        exact ⟨a1, a2⟩
      refine wpAny_bind (wpAny_dictEntries o' z3 ?_)
      rw [Array.getElem?_eq_getElem lt]
      obtain ⟨⟨k, y⟩, ky⟩ : ∃ kv, more[x]? = some kv := ⟨more[x]'(by rw [len]; exact lt), List.getElem?_eq_getElem _⟩
      obtain ⟨ku, ve⟩ := z5.get? (e := eso[x]) (by simp [lt]) ky
      obtain ⟨k2, ku2, hh⟩ := z4 eso[x] (Array.getElem_mem lt)
      obtain rfl : k2 = k := knd.inj _ _ _ ku2 ku
      show wpAny _ _ (holding [eso[x].key, eso[x].val] (dictPut c eso[x].hash eso[x].key eso[x].val) >>= _) _ _ _
      rw [hh, ve]
      have lm : (merged kvs (more.take x)).length ≤ sizeLine := by
        have e1 := merged_length_le kvs (more.take x)
        have e2 : (more.take x).length ≤ more.length := by rw [List.length_take]; omega
        omega
      refine wpAny_bind (wpAny_holding (dlPut ku m' (fun h2 m2 sb2 => ?_) lm))
      have o2 : h2.get? o = some oo := (sb2.2 o (Ne.symm ne)).trans o'
      refine wpAny_bind (wpAny_dictEpoch o2 z3 ?_)
      rw [if_neg (by simp)]
      exact wpAny_pure ⟨h2, x + 1, rfl, hrest, lt, by rw [merged_take_succ kvs more x (k2, y) ky]; exact m2, o2, sb.trans sb2⟩
    · rintro b s' ⟨h', i, rfl, hr, hi, m', o', sb⟩
      have e : i = eso.size := by
        rcases Nat.lt_or_ge i eso.size with z | z
        · rw [show eso.size - i = (eso.size - (i + 1)) + 1 by omega, List.range'_succ] at hr; exact nomatch hr
        · exact Nat.le_antisymm hi z
      refine wpAny_pure (q h' ?_ sb)
      rw [e, ← len, List.take_length] at m'; exact m'
  split
  · refine wpAny_bind (wpAny_dictEntries z1 z3 ?_)
    have quiet : (forIn eso PUnit.unit fun (e : DictEntry) (_ : PUnit) => (match e.key with
        | Value.ref a => do
          let m ← specialOf e.key (Str.ofString "__eq__")
          if (m != some (Value.builtin "object.__eq__")) = true then
              if (Array.filter (fun x => x.hash == e.hash) eso).size > 1 then do
                (unsupported "dict.merge-into-an-empty-dict:keys-of-equal-hash" : Sem PUnit)
                pure (ForInStep.yield PUnit.unit)
              else pure (ForInStep.yield PUnit.unit)
            else pure (ForInStep.yield PUnit.unit)
        | x => pure (ForInStep.yield PUnit.unit) : Sem (ForInStep PUnit))) = pure PUnit.unit := by
      rw [← Array.forIn_toList]
      refine forIn_yield_id _ fun e he c => ?_
      obtain ⟨k, ku, _⟩ := z4 e (Array.mem_toList_iff.mp he)
      have nr := nref k e.key ku
      cases q : e.key with
      | ref a => exact absurd q (nr a)
      | _ => rfl
    exact wpAny_bind (wpAny_of_eq quiet loop)
  · exact loop
end
end PySem
namespace L2.DL
open PySem PySem.Spec PyProof.Rows
theorem none_ref {P : Program} {w : World} : ∀ (k : NK) (v : Value), (noneKind P w).is k v = true → ∀ a, v ≠ .ref a := by
  intro k v h a e
  subst e
  cases k with
  | none => cases h
  | some k => cases k with
    | inl i => cases h
    | inr x => cases h
section
variable {X : Cx} {pos : Pos} {row kx vx : Expr} {tr tk tv : DE}
/-- {**row, k: v} -/
def dStar (tr tk tv : DE) : DE := fun τ G Q => ∀ p, G p = none → tr τ (dup G p (.dic [])) fun d G1 => match d with
  | .ref a => a ≠ p ∧ G1 p = some (.dic []) ∧ withD G1 a fun kvs => ∀ p2, G1 p2 = none → tk τ (dup (dup G1 p (.dic kvs)) p2 (.dic [])) fun kd G2 => tv τ G2 fun vd G3 => match kd.key with
    | some k => G3 p = some (.dic kvs) ∧ G3 p2 = some (.dic []) ∧ kvs.length < 16777216 ∧ Q (.ref p) (dup (dup G3 p2 (.dic [(k, vd)])) p (.dic (kput kvs k vd)))
    | none => False
  | _ => False
theorem kv_nil {P : Program} {w : World} {h : Heap} {a : Addr} {vs : List (NK × Value)} (m : h.DictOf (noneKind P w) a vs) : merged [] vs = vs := by
  obtain ⟨_, _, _, _, _, _, _, _, n⟩ := m
  exact merged_nil_of_nodup vs n
theorem E_dstar (hr_ : PE X row (lE (wd X) tr)) (hk : PE X kx (lE (wd X) tk)) (hv : PE X vx (lE (wd X) tv))
    (hsh : (evalEachOpt [none, some kx] X.env).zip ((evalEach [row, vx] X.env).map fun v => do let x ← v; standAt pos; pure x) = [(none, do let x ← eval row X.env; standAt pos; pure x), (some (eval kx X.env), do let x ← eval vx X.env; standAt pos; pure x)] := by rfl) :
    PE X (.Dict [none, some kx] [row, vx] pos) (lE (wd X) (dStar tr tk tv)) := by
  refine ⟨fun pins s σ H Q I ⟨τ, G, Q', sr, hr, q, kv⟩ => ?_⟩
  rw [arm_eval_Dict, hsh]
  refine wpAny_bind (wpAny_standAt ?_)
  unfold dictDisplay
  simp only [List.forIn_cons, List.forIn_nil, List.isEmpty_nil, if_true, pure_bind, bind_assoc, List.nil_append, List.length_singleton, List.isEmpty_cons]
  refine wpAny_bind (wpAny_alloc ?_)
  generalize hD : s.heap.objs.size = D
  have nD : H D = none := I.hok.fresh (Nat.le_of_eq hD)
  generalize hs1 : ({ s with heap := s.heap.push { cls := .type "dict", data := .dict #[] } } : Shared) = s1
  have I1 : Inv X pins σ (upd H D (DicN (wd X) D [])) s1 := by
    rw [← hs1]
    refine I.laid (t' := s.toks) (fun b o z => Heap.get?_push_of_some _ z) (Nat.le_of_eq hD) ?_
    rw [← hD]
    exact dn_empty s.heap I.big
  have hr1 : HRep (wd X) (upd H D (DicN (wd X) D [])) (dup G D (.dic [])) := hr.new nD ⟨[], upd_same, .nil⟩
  have x1 : Ext H (upd H D (DicN (wd X) D [])) := Ext.new nD
  refine wpAny_bind (wpAny_holding (wpAny_bind (thn (hr_.run pins s1 σ _ (fun x H2 => ∃ a kvs kws G2, x = .ref a ∧ a ≠ D ∧ HRep (wd X) H2 G2 ∧ Ext (upd H D (DicN (wd X) D [])) H2 ∧ G2 D = some (.dic []) ∧ G2 a = some (.dic kvs) ∧ H2 a = some (DicN (wd X) a kws) ∧ RpKV X.K H2 kvs kws ∧
      ∀ p2, G2 p2 = none → tk τ (dup (dup G2 D (.dic kvs)) p2 (.dic [])) fun kd G2 => tv τ G2 fun vd G3 => match kd.key with
        | some k => G3 D = some (.dic kvs) ∧ G3 p2 = some (.dic []) ∧ kvs.length < 16777216 ∧ Q' (.ref D) (dup (dup G3 p2 (.dic [(k, vd)])) D (.dic (kput kvs k vd)))
        | none => False) I1 ⟨τ, _, _, sr.ext x1, hr1, q D (hr.free nD), fun d G2 v H2 q2 x2 r2 p2 => ?_⟩) fun z s2 ⟨x, H2, I2, rx, a, kvs, kws, G2, ex, ne, r2, x2, e1, e2, e3, e4, q2⟩ => ?_)))
  · cases d with
    | ref a =>
      cases p2
      obtain ⟨ne, g1, q2⟩ := q2
      unfold withD at q2
      split at q2
      · rename_i kvs e
        obtain ⟨kws, h1, h2⟩ := r2 _ _ e
        exact ⟨a, kvs, kws, G2, rfl, ne, r2, x2, g1, e, h1, h2, q2⟩
      · exact q2.elim
    | _ => exact q2.elim
  subst ex
  obtain rfl : z = Value.ref a := rx
  refine wpAny_bind (wpAny_standAt (wpAny_pure ?_))
  obtain ⟨kwD, f1, f2⟩ := r2 _ _ e1
  have f0 : kwD = [] := by cases f2; rfl
  subst f0
  obtain ⟨_, lD, vD, relD, mD⟩ := dn_of I2 f1
  cases relD
  obtain ⟨za, la, va, rela, ma⟩ := dn_of I2 e3
  refine wpAny_bind (wpAny_onRaise (wpAny_tryCatch (wpAny_onRaise (wpAny_holding (dlMerge none_ref (Ne.symm ne) la mD ma (fun h' m' sb => ?_) (by rw [List.length_nil, Nat.zero_add, ← rela.length]; exact za))))))
  rw [kv_nil ma] at m'
  have he : ∃ u, h'.get? D = some u := let ⟨u, _, _, z, _⟩ := m'; ⟨u, z⟩
  have I3 : Inv X pins σ (upd H2 D (DicN (wd X) D kws)) { s2 with heap := h', toks := s2.toks } := d_write I2 (dn_mut f1) sb he (dn_ok za lD rela m')
  obtain ⟨x3, r3⟩ := r2.putN e1 e4
  generalize hH3 : upd H2 D (DicN (wd X) D kws) = H3 at I3 x3 r3
  generalize hs3 : ({ s2 with heap := h', toks := s2.toks } : Shared) = s3 at I3
  refine wpAny_bind ?_
  rw [if_neg (by decide)]
  refine wpAny_pure ?_
  refine wpAny_bind (wpAny_pure ?_)
  simp only [List.isEmpty_cons, Bool.false_eq_true, if_false]
  generalize hD2 : s3.heap.objs.size = D2
  have n2 : H3 D2 = none := I3.hok.fresh (Nat.le_of_eq hD2)
  have nGD2 : G2 D2 = none := by
    have z : (dup G2 D (.dic kvs)) D2 = none := r3.free n2
    exact (dup_none.mp z).2
  have neD : D2 ≠ D := by
    have z : (dup G2 D (.dic kvs)) D2 = none := r3.free n2
    exact (dup_none.mp z).1
  have q2 := q2 D2 nGD2
  have fin : ∀ {Q0 : Unit → Shared → Prop} {E0 : Value → Shared → Prop} (s5 : Shared) (H5 : Hp) (G5 : DH) (kd vd : DL.D) (u r : Value) (y z : V) (k : NK), Inv X pins σ H5 s5 → HRep (wd X) H5 G5 → RelV z r → y = NK.v k → Rp X.K H5 vd z →
      Ext H3 H5 → G5 D = some (.dic kvs) → G5 D2 = some (.dic []) → kvs.length < 16777216 → Q' (.ref D) (dup (dup G5 D2 (.dic [(k, vd)])) D (.dic (kput kvs k vd))) →
      (∀ (h'' : Heap), h''.DictOf (noneKind X.prog X.w) D2 (merged [] [(k, r)]) → Heap.SameBut D2 s5.heap h'' → (∀ s6, EP X pins σ Q (.ref D) s6 → Q0 () s6) →
        wpAny (model X.prog X.w) X.A (mergeMapping D (.ref D2) false) Q0 E0 { s5 with heap := h'', toks := s5.toks + 1 }) := by
    intro Q0 E0 s5 H5 G5 kd vd u r y z k I5 r5 rr ey pv x5 g1 g2 hl qq h'' m'' sb2 hQ0
    obtain ⟨kw2, a1, a2⟩ := r5 _ _ g2
    have a0 : kw2 = [] := by cases a2; rfl
    subst a0
    obtain ⟨_, l2, v2, rel2, m2⟩ := dn_of I5 a1
    have he2 : ∃ u, h''.get? D2 = some u := let ⟨u, _, _, z, _⟩ := m''; ⟨u, z⟩
    have rel1 : KV [(k, z)] (merged [] [(k, r)]) := by
      show KV [(k, z)] (stored [] k r)
      exact .cons ⟨rfl, rr⟩ .nil
    have I6 : Inv X pins σ (upd H5 D2 (DicN (wd X) D2 [(k, z)])) { s5 with heap := h'', toks := s5.toks + 1 } := d_write I5 (dn_mut a1) sb2 he2 (dn_ok (by rw [line_eq]; simp) l2 rel1 m'')
    obtain ⟨x6, r6⟩ := r5.putN (kvs' := [(k, vd)]) (kws' := [(k, z)]) g2 (.cons ⟨rfl, pv⟩ .nil)
    have g1' : (dup G5 D2 (.dic [(k, vd)])) D = some (.dic kvs) := by rw [dup_ne (Ne.symm neD)]; exact g1
    obtain ⟨kwD, b1, b2⟩ := r6 _ _ g1'
    obtain ⟨_, lD', vD', relD', mD'⟩ := dn_of I6 b1
    obtain ⟨_, _, v6, rel6, m6⟩ := dn_of I6 upd_same
    have hlD : kwD.length < 16777216 := by rw [← b2.len]; exact hl
    refine dlMerge none_ref (Ne.symm neD) l2 mD' m6 (fun h3 m3 sb3 => hQ0 _ ?_) (by rw [← relD'.length, ← rel6.length, line_eq]; simp; omega)
    have he3 : ∃ u, h3.get? D = some u := let ⟨u, _, _, z, _⟩ := m3; ⟨u, z⟩
    have kvp : KV (kput kwD k z) (merged vD' v6) := by
      rw [← put_kput]
      cases rel6 with
      | cons c t =>
        cases t
        obtain ⟨c1, c2⟩ := c
        rename_i b
        obtain ⟨b1', b2'⟩ := b
        cases c1
        exact relD'.put k c2
    have I7 : Inv X pins σ (upd (upd H5 D2 (DicN (wd X) D2 [(k, z)])) D (DicN (wd X) D (kput kwD k z))) { s5 with heap := h3, toks := s5.toks + 1 } :=
      d_write (s := { s5 with heap := h'', toks := s5.toks + 1 }) I6 (dn_mut b1) sb3 he3 (dn_ok (by have := kput_le kwD k z; rw [line_eq]; omega) lD' kvp m3)
    obtain ⟨x7, r7⟩ := r6.putN g1' (b2.put k (pv.ext x6))
    exact ⟨.ref D, _, I7, rfl, kv _ _ _ _ qq (((((x1.trans x2).trans x3).trans x5).trans x6).trans x7) r7 rfl⟩
  refine wpAny_bind (wpAny_bind (wpAny_holding (wpAny_subDict (knd := noneKind X.prog X.w) (by simp) ?_)))
  rw [hD2]
  generalize hs4 : ({ s3 with heap := s3.heap.push { cls := .type "dict", data := .dict #[] } } : Shared) = s4
  have I4 : Inv X pins σ (upd H3 D2 (DicN (wd X) D2 [])) s4 := by
    rw [← hs4]
    refine I3.laid (t' := s3.toks) (fun b o z => Heap.get?_push_of_some _ z) (Nat.le_of_eq hD2) ?_
    rw [← hD2]
    exact dn_empty s3.heap I3.big
  have x4 : Ext H3 (upd H3 D2 (DicN (wd X) D2 [])) := Ext.new n2
  have r4 : HRep (wd X) (upd H3 D2 (DicN (wd X) D2 [])) (dup (dup G2 D (.dic kvs)) D2 (.dic [])) := r3.new n2 ⟨[], upd_same, .nil⟩
  have xx := ((x1.trans x2).trans x3).trans x4
  refine evalPairs_cons (thn (hk.run pins s4 σ _ (fun y H5 => ∃ G5 kd, Rp X.K H5 kd y ∧ HRep (wd X) H5 G5 ∧ Ext (upd H3 D2 (DicN (wd X) D2 [])) H5 ∧ tv τ G5 fun vd G3 => match kd.key with
        | some k => G3 D = some (.dic kvs) ∧ G3 D2 = some (.dic []) ∧ kvs.length < 16777216 ∧ Q' (.ref D) (dup (dup G3 D2 (.dic [(k, vd)])) D (.dic (kput kvs k vd)))
        | none => False) I4 ⟨τ, _, _, sr.ext xx, r4, q2, fun d G5 v H5 q5 x5 r5 p5 => ⟨G5, d, p5, r5, x5, q5⟩⟩) fun u s5 ⟨y, H5, I5, ru, G5, kd, p5, r5, x5, q5⟩ => ?_)
  refine wpAny_bind (thn (hv.run pins s5 σ _ (fun z H6 => ∃ G6 vd k, y = NK.v k ∧ Rp X.K H6 vd z ∧ HRep (wd X) H6 G6 ∧ Ext H5 H6 ∧ G6 D = some (.dic kvs) ∧ G6 D2 = some (.dic []) ∧ kvs.length < 16777216 ∧ Q' (.ref D) (dup (dup G6 D2 (.dic [(k, vd)])) D (.dic (kput kvs k vd)))) I5
      ⟨τ, G5, _, sr.ext (xx.trans x5), r5, q5, fun d G6 v H6 q6 x6 r6 p6 => ?_⟩) fun r s6 ⟨z, H6, I6, rz, G6, vd, k, ey, p6, r6, x6, g1, g2, hl, qq⟩ => ?_)
  · split at q6
    · rename_i k ek
      exact ⟨G6, d, k, rp_key p5 ek, p6, r6, x6, q6.1, q6.2.1, q6.2.2.1, q6.2.2.2⟩
    · exact q6.elim
  refine wpAny_bind (wpAny_standAt (wpAny_pure (evalPairs_nil ?_)))
  refine ⟨[(k, r)], ?_, ?_, fun h'' m'' sb2 => ?_⟩
  · subst ey
    exact ⟨nk_is ru, rfl, True.intro⟩
  · obtain ⟨kw2, a1, a2⟩ := r6 _ _ g2
    have a0 : kw2 = [] := by cases a2; rfl
    subst a0
    obtain ⟨_, l2, v2, rel2, m2⟩ := dn_of I6 a1
    cases rel2
    exact m2
  · refine wpAny_bind (wpAny_onRaise (wpAny_holding ?_))
    exact fin s6 H6 G6 kd vd u r y z k I6 r6 rz ey p6 (x4.trans (x5.trans x6)) g1 g2 hl qq h'' m'' sb2 fun s7 h7 => wpAny_pure (wpAny_pure h7)
end
end L2.DL

set_option Elab.async false
set_option linter.all false
set_option maxRecDepth 100000
set_option maxHeartbeats 2000000
/-! DL10: dict(d), dict(pairs), d.update(e), d.get(k, x); comparing nested lists and dicts. -/
namespace L2.DL
open PySem PySem.Spec PyProof.Rows

/-! ### dict(..) -/
def prsOf : List D → Option (List (NK × D))
  | [] => some []
  | .tup [k, v] :: r => match k.key, prsOf r with
    | some k, some r => some ((k, v) :: r)
    | _, _ => none
  | _ => none
def mergeD {α : Type} (kvs more : List (NK × α)) : List (NK × α) := more.foldl (fun acc kv => kput acc kv.1 kv.2) kvs
theorem mergeD_len {α : Type} : ∀ (more kvs : List (NK × α)), (mergeD kvs more).length ≤ kvs.length + more.length
  | [], kvs => Nat.le_refl _
  | p :: r, kvs => by
    have h1 := mergeD_len r (kput kvs p.1 p.2)
    have h2 := kput_le kvs p.1 p.2
    simp only [List.length_cons]
    show (mergeD (kput kvs p.1 p.2) r).length ≤ _
    omega
theorem KV.mergeN : ∀ {more : List (NK × V)} {rs : List (NK × Value)} {kvs : List (NK × V)} {vs : List (NK × Value)}, KV more rs → KV kvs vs → KV (mergeD kvs more) (merged vs rs) := by
  intro more rs kvs vs r
  unfold KV at r
  induction r generalizing kvs vs with
  | nil => intro q; exact q
  | @cons p q ps qs h t ih =>
    intro z
    refine ih (kvs := kput kvs p.1 p.2) (vs := stored vs q.1 q.2) ?_
    obtain ⟨h1, h2⟩ := h
    rw [← h1, ← put_kput]
    exact KV.put z p.1 h2
theorem RpKV.mergeN {K : PySem.W.Frag} {H : Hp} : ∀ {more : List (NK × D)} {rs : List (NK × V)} {kvs : List (NK × D)} {vs : List (NK × V)}, RpKV K H more rs → RpKV K H kvs vs → RpKV K H (mergeD kvs more) (mergeD vs rs) := by
  intro more rs kvs vs r
  unfold RpKV at r
  induction r generalizing kvs vs with
  | nil => intro q; exact q
  | @cons p q ps qs h t ih =>
    intro z
    refine ih (kvs := kput kvs p.1 p.2) (vs := kput vs q.1 q.2) ?_
    obtain ⟨h1, h2⟩ := h
    rw [← h1]
    exact RpKV.put z p.1 h2
section
variable {X : Cx} {pins : List (Addr × Obj)} {σ : St} {H : Hp} {s : Shared}
/-- a list of pairs, as the library's rule wants it -/
theorem prs_at (I : Inv X pins σ H s) : ∀ {xs : List D} {vs : List V} {us : List Value} {kvs : List (NK × D)}, prsOf xs = some kvs → RpL X.K H xs vs → Vals vs us →
    ∃ (kws : List (NK × V)) (prs : List (NK × Value)) (Ts : List Addr) (ks : List (Value × Value)), RpKV X.K H kvs kws ∧ KV kws prs ∧ us = Ts.map Value.ref ∧ Ts.length = ks.length ∧ prs.length = ks.length ∧
      (∀ (j : Nat) (k v : Value), ks[j]? = some (k, v) → ∃ T, Ts[j]? = some T ∧ PairAt s.heap T k v) ∧ ∀ (j : Nat) (k v : Value), ks[j]? = some (k, v) → ∃ k', prs[j]? = some (k', v) ∧ (noneKind X.prog X.w).is k' k = true
  | [], vs, us, kvs, e, p, r => by
    cases e; cases p; cases r
    exact ⟨[], [], [], [], .nil, .nil, rfl, rfl, rfl, fun j k v e => by simp at e, fun j k v e => by simp at e⟩
  | .tup [k, v] :: xs, vs, us, kvs, e, p, r => by
    simp only [prsOf] at e
    split at e
    · rename_i k1 r1 ek er
      cases e
      obtain ⟨u0, us0, rfl, ⟨a, ws, rfl, a1, a2⟩, p2⟩ := p
      obtain ⟨y, z, rfl, py, pz⟩ := a2.two'
      cases r with
      | @cons _ u1 _ us1 r0 rr =>
        obtain ⟨kws, prs, Ts, ks, h1, h2, h3, h4, h5, h6, h7⟩ := prs_at I er p2 rr
        obtain rfl : u1 = Value.ref a := r0
        obtain ⟨its, rv, ht, _⟩ := I.tuple a1
        obtain ⟨w1, w2, ei, ru, ry⟩ := vals2 rv
        subst ei
        have ey := rp_key py ek
        subst ey
        refine ⟨(k1, z) :: kws, (k1, w2) :: prs, a :: Ts, (w1, w2) :: ks, .cons ⟨rfl, pz⟩ h1, .cons ⟨rfl, ry⟩ h2, by rw [h3]; rfl, by simp [h4], by simp [h5], fun j k v e => ?_, fun j k v e => ?_⟩
        · cases j with
          | zero => simp at e; obtain ⟨rfl, rfl⟩ := e; exact ⟨a, rfl, .inl ht⟩
          | succ j => obtain ⟨T, t1, t2⟩ := h6 j k v (by simpa using e); exact ⟨T, by simpa using t1, t2⟩
        · cases j with
          | zero => simp at e; obtain ⟨rfl, rfl⟩ := e; exact ⟨k1, rfl, nk_is ru⟩
          | succ j => obtain ⟨k', t1, t2⟩ := h7 j k v (by simpa using e); exact ⟨k', by simpa using t1, t2⟩
    · cases e
  | .non :: _, _, _, _, e, _, _ => by cases e
  | .bl _ :: _, _, _, _, e, _, _ => by cases e
  | .int _ :: _, _, _, _, e, _, _ => by cases e
  | .str _ :: _, _, _, _, e, _, _ => by cases e
  | .ref _ :: _, _, _, _, e, _, _ => by cases e
  | .tup [] :: _, _, _, _, e, _, _ => by cases e
  | .tup [_] :: _, _, _, _, e, _, _ => by cases e
  | .tup (_ :: _ :: _ :: _) :: _, _, _, _, e, _, _ => by cases e
end
section
variable {X : Cx}
def rDict : DCR := fun ds G Q => match ds with
  | [.ref a] => match G a with
    | some (.dic kvs) => ∀ p, G p = none → Q (.ref p) (dup G p (.dic kvs))
    | some (.lst xs) => (match prsOf xs with | some kvs => ∀ p, G p = none → Q (.ref p) (dup G p (.dic (mergeD [] kvs))) | none => False)
    | _ => False
  | _ => False
theorem c_dict (hc : X.calm = true) : CallD X (.type "dict") rDict := by
  intro pins s σ H vs us Q I rel ⟨ds, G, Q', p, hr, q, k⟩
  match ds, q with
  | [.ref a], q =>
    obtain ⟨v, rfl, p1⟩ := p.one
    cases p1
    rw [Vals.ref1 rel]
    have hm : (s.heap.objs.size == sysModules) = false := beq_eq_false_iff_ne.mpr (Nat.ne_of_gt I.big)
    have nz : H s.heap.objs.size = none := I.hok.fresh (Nat.le_refl _)
    simp only [rDict] at q
    split at q
    · rename_i kvs e
      obtain ⟨kws, h1, h2⟩ := hr _ _ e
      obtain ⟨z, lo, ws, relw, dd⟩ := dn_of I h1
      refine kt_call_dict lo dd (by rw [← relw.length]; exact z) fun h' d' hs => ?_
      exact ⟨.ref s.heap.objs.size, upd H s.heap.objs.size (DicN (wd X) s.heap.objs.size kws), I.laid (t' := s.toks) (fun b u e => (hs.2 b (Nat.ne_of_lt (Heap.lt_size e))).trans (Heap.get?_push_of_some _ e)) (Nat.le_refl _) (dn_ok z hm relw d'), rfl,
        k _ _ _ _ (q _ (hr.free nz)) (Ext.new nz) (hr.new nz ⟨kws, upd_same, h2.ext (Ext.new nz)⟩) rfl⟩
    · rename_i xs e
      split at q
      · rename_i kvs ek
        obtain ⟨vs, h1, h2⟩ := hr _ _ e
        obtain ⟨its, rv, ⟨o, n, ho, hcl, hd, hdat⟩, hz⟩ := I.list (SqL.of h1)
        obtain ⟨kws, prs, Ts, ks, z1, z2, z3, z4, z5, z6, z7⟩ := prs_at I ek h2 rv
        have lk : ks.length ≤ sizeLine := by rw [← z4, ← List.length_map (f := Value.ref), ← z3, ← rv.length]; exact hz
        have P := PairArg.list (prog := X.prog) (w := X.w) a its.toArray (fun j => Ts.getD j 0) ks
        refine PySem.call_dict_pairs (knd := noneKind X.prog X.w) (kvs := prs) P (I.ok.hd hc) ⟨⟨o, n, ho, hcl, hd, hdat⟩, ?_, fun j k v e => ?_⟩ ⟨z5, fun j k v e => z7 j k v e⟩ lk fun h' tk d' hk => ?_
        · rw [z3]; simpa using z4
        · obtain ⟨T, t1, t2⟩ := z6 j k v e
          have eT : Ts.getD j 0 = T := by rw [List.getD_eq_getElem?_getD, t1]; rfl
          refine ⟨?_, by show PairAt s.heap (Ts.getD j 0) k v; rw [eT]; exact t2⟩
          show its.toArray[j]? = some (Value.ref (Ts.getD j 0))
          rw [z3, eT]
          simp [t1]
        · have lm : (mergeD [] kws).length ≤ sizeLine := by
            have := mergeD_len kws []
            have l1 : kws.length = ks.length := by rw [← z5]; exact z2.length
            simp at this; omega
          exact ⟨.ref s.heap.objs.size, upd H s.heap.objs.size (DicN (wd X) s.heap.objs.size (mergeD [] kws)), I.laid (t' := tk) (fun b u e => hk b u (fun z => nomatch z) e) (Nat.le_refl _) (dn_ok lm hm (KV.mergeN z2 .nil) d'), rfl,
            k _ _ _ _ (q _ (hr.free nz)) (Ext.new nz) (hr.new nz ⟨_, upd_same, (RpKV.mergeN z1 .nil).ext (Ext.new nz)⟩) rfl⟩
      · exact q.elim
    · exact q.elim
/-! ### methods of dicts -/
def isDic (G : DH) : D → Prop
  | .ref a => match G a with | some (.dic _) => True | _ => False
  | _ => False
def dDM (r : DMR) (to : DE) (t : DA) : DE := fun τ G Q => to τ G fun d G1 => isDic G1 d ∧ t τ G1 fun ds G2 => r d ds G2 Q
variable {o e : Expr} {es : List Expr} {te : DE} {t : DA} {apos pos : Pos}
theorem E_dm {id : String} {r : DMR} {name : Str} (slot : Slot "dict" name id) (hty : typeOf (.builtin id) = pure (.type "method_descriptor")) (hm : MtD X id r) (ho : PE X o (lE (wd X) te)) (ha : PA X (e :: es) (lA (wd X) t))
    (hbase : attributeBase o name X.env (eval o X.env) = eval o X.env := by rfl)
    (hfew : ((backTo pos (starEach (e :: es) X.env)).all (fun x => !x.1) && (backToKw pos (keywordEach [] X.env)).all (fun x => x.1.isSome)
      && decide ((e :: es).length + ([] : List Keyword).length + (if ([] : List Keyword).isEmpty then 0 else 1) < 30)) = true := by rfl)
    (hline : (apos.endLine == pos.line) = true := by rfl) (hs : starEach (e :: es) X.env = (false, eval e X.env) :: starEach es X.env := by rfl) (hplain : (backTo pos (starEach es X.env)).any (·.1) = false := by rfl) :
    PE X (.Call (.Attribute o name apos) (e :: es) [] pos) (lE (wd X) (dDM r te t)) := by
  refine ⟨fun pins s σ H Q I ⟨τ, G, Q', sr, hr, q, k⟩ => ?_⟩
  refine wpAny_Call_method_late hbase hfew hline rfl (thn (ho.run pins s σ H (fun x H1 => ∃ G1 d, Rp X.K H1 d x ∧ HRep (wd X) H1 G1 ∧ Ext H H1 ∧ isDic G1 d ∧ t τ G1 fun ds G2 => r d ds G2 Q') I ⟨τ, G, _, sr, hr, q, fun d G1 v H1 q1 x1 r1 p1 => ⟨G1, d, p1, r1, x1, q1⟩⟩) fun v s1 ⟨x, H1, I1, rx, G1, d, p1, r1, x1, ty, q1⟩ => ?_)
  cases d with
  | ref a =>
    cases p1
    obtain rfl : v = Value.ref a := rx
    simp only [isDic] at ty
    split at ty
    · rename_i kvs ea
      obtain ⟨kws, h1, _⟩ := r1 _ _ ea
      obtain ⟨t1, t2⟩ := dn_type I1 h1
      refine ⟨"dict", id, PySem.F.plainAttrs_dict, slot, hty, t1, t2, ?_⟩
      have run := ha.run pos pins s1 σ H1 (fun vs H2 => ∃ G2 ds, RpL X.K H2 ds vs ∧ HRep (wd X) H2 G2 ∧ Ext H1 H2 ∧ r (.ref a) ds G2 Q') I1 ⟨τ, G1, _, sr.ext x1, r1, q1, fun ds G2 vs H2 q2 x2 r2 p2 => ⟨G2, ds, p2, r2, x2, q2⟩⟩
      rw [hs] at run ⊢
      refine Calls.callWith_builtin (by show (false || (backTo pos (starEach es X.env)).any (·.1)) = false; rw [hplain]; rfl) (Calls.evalArgs_plain ?_)
      exact thn run fun us s2 ⟨vs, H2, I2, rv, G2, ds, p2, r2, x2, q2⟩ => hm pins s2 σ H2 (.ref a) vs (.ref a) us Q I2 rfl rv ⟨.ref a, ds, G2, Q', rfl, p2, r2, q2, k.ext (x1.trans x2)⟩
    · exact ty.elim
  | _ => exact ty.elim
/-- d.get(k, x) -/
def rGet2 : DMR := fun o ds G Q => match o, ds with
  | .ref a, [kd, x] => match kd.key with
    | some k => withD G a fun kvs => Q ((kget kvs k).getD x) G
    | none => False
  | _, _ => False
theorem m_get2 : MtD X "dict.get" rGet2 := by
  intro pins s σ H x xs v us Q I rx rv ⟨d, ds, G, Q', pd, pds, hr, q, k⟩
  match d, ds, q with
  | .ref a, [kd, xd], q =>
    cases pd
    obtain rfl : v = Value.ref a := rx
    obtain ⟨y, z, rfl, py, pz⟩ := pds.two'
    obtain ⟨u1, u2, rfl, r1, r2⟩ := vals2 rv
    simp only [rGet2] at q
    split at q
    · rename_i kk ek
      have ey := rp_key py ek
      subst ey
      unfold withD at q
      split at q
      · rename_i kvs ea
        obtain ⟨kws, h1, h2⟩ := hr _ _ ea
        obtain ⟨_, lo, ws, relw, dd⟩ := dn_of I h1
        refine call_meetsIn PySem.F.slot_dict_get dd.typeIs PySem.F.entry_dict_get (PySem.F.args_dict_get_3 _ _ _) (meets_dict_get_default (noneKind X.prog X.w) a (nk_is r1) lo u2) ⟨_, dd.mapOf, ⟨(kget kws kk).getD z, H, I.tok _, ?_, ?_⟩⟩
        · rw [← val_kget]
          exact (relw.val kk).getD r2
        · rcases h2.get kk with ⟨e1, e2⟩ | ⟨d', v', e1, e2, e3⟩
          · rw [e1] at q; rw [e2]; exact k.here q hr pz
          · rw [e1] at q; rw [e2]; exact k.here q hr e3
      · exact q.elim
    · exact q.elim
/-- d.update(e), e another dict -/
def rUpd : DMR := fun o ds G Q => match o, ds with
  | .ref a, [.ref b] => a ≠ b ∧ withD G a fun kvs => withD G b fun more => kvs.length + more.length ≤ 16777216 ∧ Q .non (dup G a (.dic (mergeD kvs more)))
  | _, _ => False
theorem m_update : MtD X "dict.update" rUpd := by
  intro pins s σ H x xs v us Q I rx rv ⟨d, ds, G, Q', pd, pds, hr, q, k⟩
  match d, ds, q with
  | .ref a, [.ref b], q =>
    cases pd
    obtain rfl : v = Value.ref a := rx
    obtain ⟨y, rfl, py⟩ := pds.one
    cases py
    rw [Vals.ref1 rv]
    obtain ⟨ne, q⟩ := q
    unfold withD at q
    split at q
    · rename_i kvs ea
      split at q
      · rename_i more eb
        obtain ⟨kws, h1, h2⟩ := hr _ _ ea
        obtain ⟨mws, g1, g2⟩ := hr _ _ eb
        obtain ⟨z, lo, ws, relw, dd⟩ := dn_of I h1
        obtain ⟨z', lo', ws', relw', dd'⟩ := dn_of I g1
        have l1 := h2.len
        have l2 := g2.len
        refine call_meetsIn PySem.F.slot_dict_update dd.typeIs PySem.F.entry_dict_update (PySem.F.args_dict_update_2 _ _) (meets_dict_update (noneKind X.prog X.w) a b ne lo') ⟨ws, ws', dd, dd', by rw [← relw.length, ← relw'.length, ← l1, ← l2, line_eq]; exact q.1, fun h' m1 m2 sb => ?_⟩
        have he : ∃ u, h'.get? a = some u := let ⟨u, _, _, z, _⟩ := m1; ⟨u, z⟩
        have lm : (mergeD kws mws).length ≤ sizeLine := by
          have := mergeD_len mws kws
          rw [line_eq]; omega
        obtain ⟨x2, r2⟩ := hr.putN ea (RpKV.mergeN g2 h2)
        exact ⟨.non, _, d_write (t' := s.toks) I (dn_mut h1) sb he (dn_ok lm lo (KV.mergeN relw' relw) m1), rfl, k _ _ _ _ q.2 x2 r2 rfl⟩
      · exact q.elim
    · exact q.elim
end
end L2.DL

set_option Elab.async false
set_option linter.all false
set_option maxRecDepth 100000
set_option maxHeartbeats 2000000
/-! DEq: == and != of nested lists and dicts that are equal. -/
namespace PySem.SeqAt
open MeetsSeq MeetsSeq2 MeetsSeq3 SeqRoads2
section
variable {prog : Program} {w : World}
theorem dlNeLoop (l b : Addr) (xs ys : Array Value) (n m : Nat) (d1 d2 : Option Addr) (s1 s2 : Array (Option Value)) (sz : xs.size = ys.size) (k : Nat) :
    ∀ i : Nat, xs.size - i = k → MeetsIn prog w (Builtin.«list.__eq__.loop» ⟨[.ref l, .ref b, rawInt i, rawInt 3], []⟩)
      (fun A R s => s.heap.get? l = some { cls := .type "list", dict := d1, data := .seq xs n, slots := s1 } ∧ s.heap.get? b = some { cls := .type "list", dict := d2, data := .seq ys m, slots := s2 } ∧
        (∀ j (h1 : j < xs.size) (h2 : j < ys.size), EqP prog w A.in1 s xs[j] ys[j] true) ∧ R (.ok (.ret (.bool false))) s) := by
  induction k with
  | zero =>
    intro i e A R s q
    obtain ⟨hp, g, d, tk, os⟩ := s; obtain ⟨z1, z2, _, q⟩ := q
    wp_walk using AutoSeq1.wpAny_loadPart' z1, AutoSeq1.wpAny_loadPart' z2
    have a1 : xs[((i : Nat) : Int).toNat]? = none := by simp; omega
    have a2 : ys[((i : Nat) : Int).toNat]? = none := by simp; omega
    rw [a1, a2]
    wp_walk using AutoSeq1.wpAny_loadPart' z1, AutoSeq1.wpAny_loadPart' z2
    first
      | (show R (.ok (.ret (.bool (xs.size != ys.size)))) _; rw [sz]; simpa using q)
      | (simp [sz]; exact q)
  | succ k ih =>
    intro i e A R s q
    obtain ⟨hp, g, d, tk, os⟩ := s; obtain ⟨z1, z2, he, q⟩ := q
    wp_walk using AutoSeq1.wpAny_loadPart' z1, AutoSeq1.wpAny_loadPart' z2
    have lt1 : i < xs.size := by omega
    have lt2 : i < ys.size := by omega
    have a1 : xs[((i : Nat) : Int).toNat]? = some xs[i] := by simp [lt1]
    have a2 : ys[((i : Nat) : Int).toNat]? = some ys[i] := by simp [lt2]
    rw [a1, a2]
    refine wpAny_bind (he i lt1 lt2 _ _ ?_)
    wp_walk
    rw [show ((i : Int) + 1) = ((i + 1 : Nat) : Int) by push_cast; rfl]
    exact ⟨plainId_quiet plain_eq_loop _, codeAny_builtin entry_eq_loop (by
      rw [Around.under_plainId plain_eq_loop _]
      exact ih (i + 1) (by omega) A R _ ⟨z1, z2, he, q⟩)⟩
theorem dlNeList (l b : Addr) (xs ys : Array Value) (n m : Nat) (d1 d2 : Option Addr) (s1 s2 : Array (Option Value)) (sz : xs.size = ys.size) :
    MeetsIn prog w (Builtin.«list.__ne__» ⟨[.ref l, .ref b], []⟩)
      (fun A R s => s.heap.get? l = some { cls := .type "list", dict := d1, data := .seq xs n, slots := s1 } ∧ s.heap.get? b = some { cls := .type "list", dict := d2, data := .seq ys m, slots := s2 } ∧
        (∀ j (h1 : j < xs.size) (h2 : j < ys.size), EqP prog w A.in1 s xs[j] ys[j] true) ∧ R (.ok (.ret (.bool false))) s) := by
  intro A R s q
  obtain ⟨hp, g, d, tk, os⟩ := s; obtain ⟨z1, z2, he, q⟩ := q
  have f3 := AutoSeq1.sub_list_list
  have hne : ¬ (xs.size != ys.size) = true := by simp [sz]
  wp_walk using AutoSeq1.wpAny_loadPart' z1, AutoSeq1.wpAny_loadPart' z2
  exact ⟨plainId_quiet plain_eq_loop _, codeAny_builtin entry_eq_loop (by
    rw [Around.under_plainId plain_eq_loop _]
    exact dlNeLoop l b xs ys n m d1 d2 s1 s2 sz _ 0 rfl A R _ ⟨z1, z2, he, q⟩)⟩
theorem dlNeLists {A : Around} {s : Shared} {l b : Addr} {xs ys : Array Value} (z1 : s.heap.IsList l xs) (z2 : s.heap.IsList b ys) (sz : xs.size = ys.size) (hu : A.units < cLine)
    (he : ∀ j (h1 : j < xs.size) (h2 : j < ys.size), EqP prog w A.in1 s xs[j] ys[j] true) (E Q : Value → Shared → Prop) (q : Q (.bool false) s) : wpAny (model prog w) A (richCompare .NotEq (.ref l) (.ref b)) Q E s := by
  obtain ⟨⟨c1, d1, dt1, s1⟩, a1, a2, n, a3⟩ := id z1
  obtain ⟨⟨c2, d2, dt2, s2⟩, b1, b2, m, b3⟩ := id z2
  simp only at a2 a3 b2 b3
  subst a2 a3 b2 b3
  have ta : s.TypeIs (.ref l) "list" := ⟨_, a1, rfl⟩
  have tb : s.TypeIs (.ref b) "list" := ⟨_, b1, rfl⟩
  exact wpAny_richCompare_same_room (op := .NotEq) ta tb F.slot_list_ne (call_meetsIn F.slot_list_ne ta F.entry_list_ne (F.args_list_ne_2 _ _) (dlNeList l b xs ys n m d1 d2 s1 s2 sz)
    ⟨a1, b1, he, show Value.bool false ≠ Value.notImplemented ∧ Q (.bool false) s from ⟨(fun x => nomatch x), q⟩⟩) hu
end
end PySem.SeqAt
namespace L2.DL
open PySem PySem.Spec PyProof.Rows
/-- equal, of nesting below n -/
def DEqv (G : DH) : Nat → D → D → Prop
  | 0 => fun _ _ => False
  | n + 1 => fun d e => (d = e ∧ D.nr d = true ∧ D.dep d ≤ n) ∨ (∃ a, d = .ref a ∧ e = .ref a) ∨ (∃ a b xs ys, d = .ref a ∧ e = .ref b ∧ G a = some (.lst xs) ∧ G b = some (.lst ys) ∧ Paired (DEqv G n) xs ys) ∨
    ∃ a b ks ls, d = .ref a ∧ e = .ref b ∧ G a = some (.dic ks) ∧ G b = some (.dic ls) ∧ ks.length = ls.length ∧ ∀ p ∈ ks, ∃ u, kget ls p.1 = some u ∧ DEqv G n p.2 u
theorem paired_rp {K : PySem.W.Frag} {H : Hp} {F : D → D → Prop} : ∀ {xs ys : List D} {vs us : List V} {v1 u1 : List Value}, Paired F xs ys → RpL K H xs vs → RpL K H ys us → Vals vs v1 → Vals us u1 → v1.length = u1.length ∧
    ∀ j (h1 : j < v1.length) (h2 : j < u1.length), ∃ d e x y, F d e ∧ Rp K H d x ∧ Rp K H e y ∧ RelV x v1[j] ∧ RelV y u1[j]
  | _, _, _, _, _, _, .nil, p, q, r, t => by cases p; cases q; cases r; cases t; exact ⟨rfl, fun j h => absurd h (Nat.not_lt_zero j)⟩
  | _, _, _, _, _, _, .cons f fs, p, q, r, t => by
    obtain ⟨x, xs', rfl, p1, p2⟩ := p
    obtain ⟨y, ys', rfl, q1, q2⟩ := q
    cases r with
    | cons r1 r2 =>
      cases t with
      | cons t1 t2 =>
        obtain ⟨hl, hj⟩ := paired_rp fs p2 q2 r2 t2
        refine ⟨by simp [hl], fun j h1 h2 => ?_⟩
        cases j with
        | zero => exact ⟨_, _, x, y, f, p1, q1, r1, t1⟩
        | succ j => exact hj j (by simpa using h1) (by simpa using h2)
mutual
theorem D.eqp_self : ∀ d : D, D.nr d = true → D.eqp d d = true
  | .non, _ => rfl
  | .bl b, _ => by simp [D.eqp]
  | .int i, _ => by simp [D.eqp]
  | .str x, _ => by simp [D.eqp]
  | .tup xs, h => by simp only [D.eqp]; exact D.eqps_self xs (by simpa [D.nr] using h)
  | .ref a, h => by simp [D.nr] at h
theorem D.eqps_self : ∀ xs : List D, D.nrs xs = true → D.eqps xs xs = true
  | [], _ => rfl
  | x :: xs, h => by
    simp only [D.nrs, Bool.and_eq_true] at h
    simp only [D.eqps, D.eqp_self x h.1, D.eqps_self xs h.2, Bool.and_self]
end
section
variable {X : Cx} {pins : List (Addr × Obj)} {σ : St} {H : Hp} {s : Shared} {G : DH}
theorem hits_D {A : Around} {F : D → D → Prop} {ls : List (NK × D)} {lw : List (NK × V)} {lv : List (NK × Value)} (rl : RpKV X.K H ls lw) (rv : KV lw lv)
    (ih : ∀ d e x y v u, F d e → Rp X.K H d x → Rp X.K H e y → RelV x v → RelV y u → SeqAt.EqP X.prog X.w A s v u true) {ks : List (NK × D)} {kw : List (NK × V)} (ra : RpKV X.K H ks kw) :
    ∀ {kv}, KV kw kv → (∀ p ∈ ks, ∃ u, kget ls p.1 = some u ∧ F p.2 u) → PySem.W.KeqHitsP X.prog X.w A s lv kv true := by
  unfold RpKV at ra
  induction ra with
  | nil => intro kv rk _; cases rk; exact .nil
  | @cons p q ps qs h t go =>
    intro kv rk hp
    cases rk with
    | cons c rest =>
      rename_i b bs
      obtain ⟨h1, h2⟩ := h
      obtain ⟨c1, c2⟩ := c
      obtain ⟨u, e, f⟩ := hp p List.mem_cons_self
      obtain ⟨key, v⟩ := b
      have kk : p.1 = key := h1.trans c1
      rcases rl.get p.1 with ⟨g1, _⟩ | ⟨d', v', g1, g2, g3⟩
      · rw [g1] at e; cases e
      · rw [g1] at e; cases e
        have rr : RelO (some v') (valueAt lv p.1) := by rw [← g2, ← val_kget]; exact rv.val p.1
        obtain ⟨y, hy, ry⟩ := rr.some_of
        rw [kk] at hy
        show PySem.W.KeqHitsP X.prog X.w A s lv ((key, v) :: bs) (true && true)
        exact .hit hy (ih _ _ _ _ _ _ f h2 g3 c2 ry) (go rest fun p' hm => hp p' (List.mem_cons_of_mem _ hm))
theorem eqv_run (I : Inv X pins σ H s) (hr : HRep (wd X) H G) : ∀ (n : Nat) (A : Around), A.units + 2 * n < cLine → ∀ (d e : D) (x y : V) (v u : Value), DEqv G n d e → Rp X.K H d x → Rp X.K H e y → RelV x v → RelV y u → SeqAt.EqP X.prog X.w A s v u true
  | 0, _, _, _, _, _, _, _, _, h, _, _, _, _ => (show False from h).elim
  | n + 1, A, hu, d, e, x, y, v, u, h, pd, pe, rx, ry => by
    rcases h with ⟨rfl, h1, h2⟩ | ⟨a, rfl, rfl⟩ | ⟨a, b, xs, ys, rfl, rfl, ha, hb, hp⟩ | ⟨a, b, ks, ls, rfl, rfl, ha, hb, hl, hp⟩
    · have q := eqAt_D I n d d A (by omega) h1 h1 h2 pd pe rx ry
      have e1 : D.eqp d d = true := D.eqp_self d h1
      rw [e1] at q
      exact q.eqP
    · cases pd; cases pe
      cases (show v = Value.ref a from rx)
      cases (show u = Value.ref a from ry)
      exact (SeqAt.EqAt.same _).eqP
    · cases pd; cases pe
      cases (show v = Value.ref a from rx)
      cases (show u = Value.ref b from ry)
      by_cases eab : a = b
      · subst eab; exact (SeqAt.EqAt.same _).eqP
      obtain ⟨vs, g1, g2⟩ := hr _ _ ha
      obtain ⟨us, g3, g4⟩ := hr _ _ hb
      obtain ⟨v1, r1, p1, _⟩ := I.list (SqL.of g1)
      obtain ⟨u1, r2, p2, _⟩ := I.list (SqL.of g3)
      obtain ⟨hl, hj⟩ := paired_rp hp g2 g4 r1 r2
      refine SeqAt.eqP_refs eab fun E Q q => SeqAt.rcP_lists (e := fun _ => true) p1.isList p2.isList (by simpa using hl) (by omega) (fun j h1 h2 => ?_) E Q ?_
      · obtain ⟨d, e, x, y, f, a1, a2, a3, a4⟩ := hj j (by simpa using h1) (by simpa using h2)
        have z := eqv_run I hr n A.in1 (by show A.units + 1 + 2 * n < cLine; omega) d e x y _ _ f a1 a2 a3 a4
        simpa using z
      · rw [show ((List.range v1.toArray.size).all fun _ => true) = true from List.all_eq_true.mpr fun _ _ => rfl]
        exact q
    · cases pd; cases pe
      cases (show v = Value.ref a from rx)
      cases (show u = Value.ref b from ry)
      by_cases eab : a = b
      · subst eab; exact (SeqAt.EqAt.same _).eqP
      obtain ⟨kw, g1, g2⟩ := hr _ _ ha
      obtain ⟨lw, g3, g4⟩ := hr _ _ hb
      obtain ⟨_, ya, va, ra, da⟩ := dn_of I g1
      obtain ⟨_, yb, vb, rb, db⟩ := dn_of I g3
      refine SeqAt.eqP_refs eab fun E Q q => PySem.W.rcP_dicts (knd := noneKind X.prog X.w) (r := true) ya yb da db (by omega) (fun _ => hits_D g4 rb (fun d e x y v u f a1 a2 a3 a4 => eqv_run I hr n A.in1 (by show A.units + 1 + 2 * n < cLine; omega) d e x y v u f a1 a2 a3 a4) g2 ra hp) E Q ?_
      have el : va.length = vb.length := by rw [← ra.length, ← rb.length, ← g2.len, ← g4.len]; exact hl
      rw [show (va.length == vb.length && true) = true from by rw [el]; simp]
      exact q
/-- a != b of two equal lists -/
def rNeL : DR2 := fun d e G Q => ∃ a b xs ys, d = .ref a ∧ e = .ref b ∧ G a = some (.lst xs) ∧ G b = some (.lst ys) ∧ (∃ n, n ≤ 20 ∧ Paired (DEqv G n) xs ys) ∧ Q (.bl false) G
theorem o_neL (hu : X.A.units + 64 < cLine) : OpD X (compareOp .NotEq) rNeL := by
  intro pins s σ H x y v u Q I rx ry ⟨d, e, G, Q', pd, pe, hr, q, k⟩
  obtain ⟨a, b, xs, ys, rfl, rfl, ha, hb, ⟨n, hn, hp⟩, q⟩ := q
  cases pd; cases pe
  cases (show v = Value.ref a from rx)
  cases (show u = Value.ref b from ry)
  obtain ⟨vs, g1, g2⟩ := hr _ _ ha
  obtain ⟨us, g3, g4⟩ := hr _ _ hb
  obtain ⟨v1, r1, p1, _⟩ := I.list (SqL.of g1)
  obtain ⟨u1, r2, p2, _⟩ := I.list (SqL.of g3)
  obtain ⟨hl, hj⟩ := paired_rp hp g2 g4 r1 r2
  refine SeqAt.dlNeLists p1.isList p2.isList (by simpa using hl) (by omega) (fun j h1 h2 => ?_) _ _ ⟨.bl false, H, I, rfl, k.here q hr rfl⟩
  obtain ⟨d, e, x, y, f, a1, a2, a3, a4⟩ := hj j (by simpa using h1) (by simpa using h2)
  have z := eqv_run I hr n X.A.in1 (by show X.A.units + 1 + 2 * n < cLine; omega) d e x y _ _ f a1 a2 a3 a4
  simpa using z
end
end L2.DL

set_option Elab.async false
set_option linter.all false
set_option maxRecDepth 100000
set_option maxHeartbeats 2000000
/-! DSort: sorted of data that are alike. -/
namespace L2.DL
open PySem PySem.Spec PyProof.Rows

mutual
def pyOf (G : DH) : Nat → D → Option PyData
  | _, .non => some .none
  | _, .bl b => some (.bool b)
  | _, .int i => some (.int i)
  | _, .str x => some (.str x)
  | n + 1, .tup xs => (pyAll G n xs).map .tuple
  | n + 1, .ref a => match G a with
    | some (.lst xs) => (pyAll G n xs).map .list
    | some (.rol xs) => (pyAll G n xs).map .list
    | _ => none
  | _, _ => none
def pyAll (G : DH) : Nat → List D → Option (List PyData)
  | _, [] => some []
  | 0, _ => none
  | n + 1, x :: xs => match pyOf G n x, pyAll G n xs with
    | some d, some ds => some (d :: ds)
    | _, _ => none
end
mutual
theorem pyOf_dp {Y : Wd} {H : Hp} {G : DH} (hr : HRep Y H G) : ∀ (n : Nat) (d : D) (p : PyData) (v : V), pyOf G n d = some p → Rp Y.K H d v → Dp Y.K H v p
  | n, .non, p, v, e, r => by cases n <;> (cases e; cases r; exact .non)
  | n, .bl b, p, v, e, r => by cases n <;> (cases e; cases r; exact .bl b)
  | n, .int i, p, v, e, r => by cases n <;> (cases e; cases r; exact .int i)
  | n, .str x, p, v, e, r => by cases n <;> (cases e; cases r; exact .str x)
  | 0, .tup xs, p, v, e, r => by cases e
  | 0, .ref a, p, v, e, r => by cases e
  | n + 1, .tup xs, p, v, e, r => by
    obtain ⟨a, vs, rfl, h1, h2⟩ := r
    simp only [pyOf] at e
    cases q : pyAll G n xs with
    | none => rw [q] at e; cases e
    | some ds => rw [q] at e; cases e; exact .tup h1 (pyAll_dp hr n xs ds vs q h2)
  | n + 1, .ref a, p, v, e, r => by
    cases r
    simp only [pyOf] at e
    split at e
    · rename_i xs ea
      obtain ⟨vs, h1, h2⟩ := hr _ _ ea
      cases q : pyAll G n xs with
      | none => rw [q] at e; cases e
      | some ds => rw [q] at e; cases e; exact .lst (SqL.of h1) (pyAll_dp hr n xs ds vs q h2)
    · rename_i xs ea
      obtain ⟨o, vs, h1, h2⟩ := hr _ _ ea
      cases q : pyAll G n xs with
      | none => rw [q] at e; cases e
      | some ds => rw [q] at e; cases e; exact .lst (.inl (.inr ⟨o, h1⟩)) (pyAll_dp hr n xs ds vs q h2)
    · cases e
theorem pyAll_dp {Y : Wd} {H : Hp} {G : DH} (hr : HRep Y H G) : ∀ (n : Nat) (xs : List D) (ds : List PyData) (vs : List V), pyAll G n xs = some ds → RpL Y.K H xs vs → DpAll Y.K H vs ds
  | n, [], ds, vs, e, r => by cases n <;> (cases e; cases r; exact .nil)
  | 0, x :: xs, ds, vs, e, r => by cases e
  | n + 1, x :: xs, ds, vs, e, r => by
    obtain ⟨v, vs', rfl, h1, h2⟩ := r
    simp only [pyAll] at e
    split at e
    · rename_i d ds' e1 e2
      cases e
      exact .cons (pyOf_dp hr n x d v e1 h1) (pyAll_dp hr n xs ds' vs' e2 h2)
    · cases e
end
/-- items with their data -/
abbrev DP := D × PyData
def PyOk (G : DH) (n : Nat) (bs : List DP) : Prop := (∀ b ∈ bs, pyOf G n b.1 = some b.2) ∧ PySem.W.AllAlike (bs.map (·.2)) ∧ PySem.W.Sortable (bs.map (·.2)) ∧ ∀ b ∈ bs, b.2.depth ≤ 20
def sortDP (bs : List DP) : List D := (bs.mergeSort (PySem.W.dataLe false (·.2))).map (·.1)
theorem each_of {X : Cx} {pins : List (Addr × Obj)} {σ : St} {H : Hp} {s : Shared} {G : DH} (I : Inv X pins σ H s) (hr : HRep (wd X) H G) {n : Nat} : ∀ {bs : List DP} {vs : List V} {us : List Value}, (∀ b ∈ bs, pyOf G n b.1 = some b.2) → RpL X.K H (bs.map (·.1)) vs → Vals vs us →
    PySem.W.EachIs (fun (u : Value) (b : DP) => ∃ v, Rp X.K H b.1 v ∧ RelV v u) us bs ∧ PySem.W.EachIs (fun (u : Value) (b : DP) => ∃ as, Reads s.heap u b.2 as) us bs
  | [], _, _, _, p, r => by cases p; cases r; exact ⟨.nil, .nil⟩
  | b :: bs, _, _, h, p, r => by
    obtain ⟨v, vs, rfl, p1, p2⟩ := p
    cases r with
    | cons r1 r2 =>
      obtain ⟨e1, e2⟩ := each_of I hr (fun c hc => h c (List.mem_cons_of_mem _ hc)) p2 r2
      exact ⟨.cons ⟨v, p1, r1⟩ e1, .cons (Dp.reads I _ _ _ (pyOf_dp hr n _ _ _ (h b List.mem_cons_self) p1) r1) e2⟩
theorem each_back {K : PySem.W.Frag} {H : Hp} : ∀ {bs : List DP} {us : List Value}, PySem.W.EachIs (fun (u : Value) (b : DP) => ∃ v, Rp K H b.1 v ∧ RelV v u) us bs → ∃ vs, RpL K H (bs.map (·.1)) vs ∧ Vals vs us
  | [], _, h => by cases h; exact ⟨[], RpL.nil, .nil⟩
  | b :: bs, _, h => by
    cases h with
    | cons a t =>
      obtain ⟨v, a1, a2⟩ := a
      obtain ⟨vs, t1, t2⟩ := each_back t
      exact ⟨v :: vs, RpL.cons a1 t1, .cons a2 t2⟩
section
variable {X : Cx}
def rSortD : DCR := fun ds G Q => match ds with
  | [.ref a] => withL G a fun xs => ∃ n bs, bs.map (·.1) = xs ∧ PyOk G n bs ∧ ∀ p, G p = none → Q (.ref p) (dup G p (.lst (sortDP bs)))
  | _ => False
theorem c_sortD (hu : X.A.units + 64 < cLine) : CallD X (.builtin "sorted") rSortD := by
  intro pins s σ H vs us Q I rel ⟨ds, G, Q', p, hr, q, k⟩
  match ds, q with
  | [.ref a], q =>
    obtain ⟨v, rfl, p1⟩ := p.one
    cases p1
    rw [Vals.ref1 rel]
    simp only [rSortD] at q
    unfold withL at q
    split at q
    · rename_i xs e
      obtain ⟨n, bs, eb, ⟨h1, h2, h3, h4⟩, q⟩ := q
      obtain ⟨ys, g1, g2⟩ := hr _ _ e
      obtain ⟨its, rv, hl, hz⟩ := I.list (SqL.of g1)
      rw [← eb] at g2
      obtain ⟨e1, e2⟩ := each_of I hr h1 g2 rv
      have hlen : bs.length ≤ sizeLine := by
        have := g2.len
        rw [List.length_map] at this
        rw [this]; exact hz
      refine PySem.W.sorted_data (enc := fun b : DP => b.2) hl.isList e1 e2 h2 h3 hlen (fun b hb => by have := h4 b hb; omega) fun out ho eo => ?_
      obtain ⟨ws, w1, w2⟩ := each_back eo
      obtain ⟨ep, he'⟩ := PyProof.Rows.sortedAll_at s.heap its (List.toArray out)
      have nz : H (s.heap.objs.size + 1) = none := I.hok.fresh (Nat.le_succ _)
      have lw : ws.length ≤ sizeLine := by rw [w2.length, ho]; exact hlen
      exact ⟨.ref _, upd H (s.heap.objs.size + 1) (.lst ws), I.laid (t' := s.toks) (fun _ _ => PyProof.Rows.sortedAll_old) (Nat.le_succ _) ⟨lw, out, ep, w2, he'⟩, rfl,
        k _ _ _ _ (q _ (hr.free nz)) (Ext.new nz) (hr.new nz ⟨ws, upd_same, RpL.ext (Ext.new nz) w1⟩) rfl⟩
    · exact q.elim
end
end L2.DL

set_option Elab.async false
set_option linter.all false
set_option maxRecDepth 100000
set_option maxHeartbeats 2000000
/-! DExc: own exceptions with fields: raised, caught, looked at. -/
namespace L2.DL
open PySem PySem.Spec PyProof.Rows

/-! ### their __init__ -/
/-- __init__(self, y ..) that stores each of them under a name of fs -/
def spI (K : PySem.W.Frag) (fs : List Str) : Sp := fun vs H Q _ => ∃ (a C : Addr) (ys : List V), vs = .ref a :: ys ∧ ys.length = fs.length ∧ 0 < fs.length ∧ fs.length < 100 ∧ OexC K C ∧ (∀ f ∈ fs, PySem.W.findIn K (.ref C) f = some none) ∧ H a = some (exo a C none) ∧
  ∀ dx, H dx = none → dx ≠ a → Q .non (upd (upd H dx (exd dx (fs.zip ys).reverse)) a (exo a C (some dx)))
/-- the body's reading: each field from its slot -/
def tInit (K : PySem.W.Frag) : List Str → Nat → TS
  | [], _ => tNext
  | f :: fs, i => tSeq (tOst K f (tVar 0) (tVar i)) (tInit K fs (i + 1))
theorem upd_swap {H : Hp} {a b : Addr} {o u : HO} (h : a ≠ b) : upd (upd H a o) b u = upd (upd H b u) a o := by
  funext c
  unfold upd
  split <;> split <;> simp_all
theorem init_rest {K : PySem.W.Frag} {a C dx : Addr} {σ : St} {Q : VK} (T : OexC K C) (h0 : σ[0]? = some (some (.ref a))) (hne : dx ≠ a) : ∀ (fs : List Str) (i : Nat) (ys : List V) (acc : List (Str × V)) (H : Hp), ys.length = fs.length → acc.length + fs.length ≤ 900 →
    (∀ j y, ys[j]? = some y → σ[i + j]? = some (some y)) → (∀ f ∈ fs, PySem.W.findIn K (.ref C) f = some none) → H a = some (exo a C (some dx)) → H dx = some (exd dx acc) →
    (Q .non (upd H dx (exd dx ((fs.zip ys).reverse ++ acc)))) → tInit K fs i { nx := fun _ H' => Q .non H', rt := Q } σ H
  | [], i, ys, acc, H, hl, _, _, _, ha, hd, q => by
    have e : ys = [] := List.eq_nil_of_length_eq_zero hl
    subst e
    have e2 : upd H dx (exd dx ((([] : List Str).zip ([] : List V)).reverse ++ acc)) = H := by
      funext b
      unfold upd
      split
      · rename_i z; rw [z]; simp [hd]
      · rfl
    show Q .non H
    rw [← e2]; exact q
  | f :: fs, i, y :: ys, acc, H, hl, hz, hs, hf, ha, hd, q => by
    refine ⟨y, by simpa using hs 0 y rfl, .ref a, h0, a, C, rfl, T, hf f List.mem_cons_self, .inr ⟨dx, acc, ha, hd, by simp at hz; omega, ?_⟩⟩
    refine init_rest T h0 hne fs (i + 1) ys ((f, y) :: acc) _ (by simpa using hl) (by simp at hz ⊢; omega) (fun j z e => ?_) (fun g hg => hf g (List.mem_cons_of_mem _ hg)) ?_ upd_same ?_
    · have := hs (j + 1) z (by simpa using e)
      rw [show i + 1 + j = i + (j + 1) by omega]; exact this
    · rw [upd_ne (Ne.symm hne)]; exact ha
    · have e : upd (upd H dx (exd dx ((f, y) :: acc))) dx (exd dx ((fs.zip ys).reverse ++ (f, y) :: acc)) = upd H dx (exd dx (((f :: fs).zip (y :: ys)).reverse ++ acc)) := by
        funext b
        unfold upd
        split
        · simp
        · rfl
      rw [e]; exact q
theorem init_all {K : PySem.W.Frag} {fs N : List Str} {vs : List V} {H : Hp} {Q : VK} {E : XK} (h : spI K fs vs H Q E) : tInit K fs 1 { nx := fun _ H' => Q .non H', rt := Q } (start N vs) H := by
  obtain ⟨a, C, ys, rfl, hl, hp, hz, T, hf, ha, q⟩ := h
  have h0 : (start N (.ref a :: ys))[0]? = some (some (.ref a)) := by unfold start; simp
  have hs : ∀ j y, ys[j]? = some y → (start N (.ref a :: ys))[1 + j]? = some (some y) := fun j y e => by
    have lj := (List.getElem?_eq_some_iff.mp e).1
    unfold start
    rw [List.getElem?_append_left (by simp; omega), show 1 + j = j + 1 by omega]
    simp [e]
  match fs, ys, hl, hp, hz, hf, q, hs with
  | f :: fs, y :: ys, hl, hp, hz, hf, q, hs =>
    refine ⟨y, by simpa using hs 0 y rfl, .ref a, h0, a, C, rfl, T, hf f List.mem_cons_self, .inl ⟨ha, fun dx nx ne => ?_⟩⟩
    refine init_rest T h0 ne fs 2 ys [(f, y)] _ (by simpa using hl) (by simp at hz ⊢; omega) (fun j z e => ?_) (fun g hg => hf g (List.mem_cons_of_mem _ hg)) upd_same ?_ ?_
    · have := hs (j + 1) z (by simpa using e)
      rw [show 2 + j = 1 + (j + 1) by omega]; exact this
    · rw [upd_ne ne]; exact upd_same
    · have e : upd (upd (upd H dx (exd dx [(f, y)])) a (exo a C (some dx))) dx (exd dx ((fs.zip ys).reverse ++ [(f, y)])) = upd (upd H dx (exd dx ((f :: fs).zip (y :: ys)).reverse)) a (exo a C (some dx)) := by
        rw [← upd_swap (H := upd H dx (exd dx [(f, y)])) ne]
        congr 1
        funext b
        unfold upd
        split
        · simp
        · rfl
      rw [e]; exact q dx nx ne
section
variable {Y : Wd} {mg : Str → Option Value} {base : Heap}
/-- THE RULE of such an __init__ -/
theorem initD {x qual : Str} {params : Arguments} {body : List Stmt} {scope : Scope} {dvs : List V} {kws : List (Str × V)} {f : Addr} {fd : FuncData} {N ps fs : List Str} {k : Nat}
    (F : FunD Y.K x qual params body scope dvs kws f fd) (S : FnScope N ps scope) (len : ps.length = fs.length + 1)
    (walk : ∀ (cdv : Value) (A : Around) (outer : List Env) (s : Shared) (H : Hp) (E : XK), PSs (cxD Y mg base N qual scope f cdv A outer s H E) body (tInit Y.K fs 1)) : FnOk Y.P Y.w Y.K mg base (L2.CX Y.P Y.w) (k + 1) f fd ps (spI Y.K fs) := by
  refine F.ok S (fun vs H Q E ⟨a, C, ys, e, hl, _⟩ => by rw [e, len]; simp [hl]) fun cdv A outer s H vs Q E hr h => ⟨_, walk cdv A outer s H E, init_all h⟩
end
/-! ### raise C(..) -/
/-- what a body may let out by itself -/
structure XTk (X : Cx) (E' : DX) : Prop where
  ex : ∃ W : WX, Takes X W ∧ ∀ C fs G cls od σ H, E' C fs G → Ext X.H_0 H → HRep (wd X) H G → XRep (wd X) H C fs cls od → W cls od σ H
theorem XTk.body {E' : DX} {Y : Wd} {mg : Str → Option Value} {base : Heap} {N : List Str} {qual : Str} {scope : Scope} {f : Addr} {cd : Value} {A : Around} {outer : List Env} {s : Shared} {H : Hp} {E : XK} (kx : KX Y H E' E) : XTk (cxD Y mg base N qual scope f cd A outer s H E) E' :=
  ⟨_, takes_of (E := E) rfl rfl rfl rfl, fun C fs G cls od σ H' e x r p => kx C fs G cls od H' e x r p⟩
/-- an exception class with such an __init__ -/
structure ExMk (X : Cx) (x : Str) (C : Addr) (k : Nat) (fs : List Str) : Prop where
  T : OexC X.K C
  at_ : X.mg x = some (.ref C)
  no : ∀ f ∈ fs, PySem.W.findIn X.K (.ref C) f = some none
  len : 0 < fs.length ∧ fs.length < 100
  ex : ∃ fI fd ps, PySem.W.findIn X.K (.ref C) "__init__" = some (some (.ref fI)) ∧ PySem.W.typeIn X.K (.ref fI) = some (.type "function") ∧ FnOk X.prog X.w X.K X.mg X.base (L2.CX X.prog X.w) k fI fd ps (spI X.K fs) ∧ Binds X.K fd ps []
section
variable {X : Cx} {e : Expr} {es : List Expr} {t : DA} {x : Str} {p pos rpos : Pos} {k : Nat} {C : Addr} {fs : List Str} {E' : DX}
def dRaise (C : Addr) (fs : List Str) (E' : DX) (t : DA) : DS := fun _ τ G => t τ G fun ds G1 => ds.length = fs.length ∧ E' C (fs.zip ds).reverse G1
theorem rpFs_zip {K : PySem.W.Frag} {H : Hp} : ∀ {fs : List Str} {ds : List D} {vs : List V}, RpL K H ds vs → ds.length = fs.length → RpFs K H (fs.zip ds) (fs.zip vs)
  | [], ds, vs, p, hl => by
    have e : ds = [] := List.eq_nil_of_length_eq_zero hl
    subst e; cases p
    exact ⟨rfl, RpL.nil⟩
  | f :: fs, d :: ds, _, p, hl => by
    obtain ⟨v, vs, rfl, p1, p2⟩ := p
    have ih := rpFs_zip (fs := fs) p2 (by simpa using hl)
    exact ⟨by simp [ih.1], RpL.cons p1 ih.2⟩
theorem RpFs.rev {K : PySem.W.Frag} {H : Hp} {fs : List (Str × D)} {vs : List (Str × V)} (h : RpFs K H fs vs) : RpFs K H fs.reverse vs.reverse := ⟨by rw [List.map_reverse, List.map_reverse, h.1], by rw [List.map_reverse, List.map_reverse]; exact h.2.rev⟩
theorem S_raise (g : ExMk X x C k fs) (hr : Room (k + 1) X.A) (hc : X.calm = true) (tk : XTk X E') (hg : Gl X x) (ha : PA X (e :: es) (lA (wd X) t)) (hdb : (x == ("__debug__" : Str)) = false := by decide)
    (he : starEach (e :: es) X.env = (false, eval e X.env) :: starEach es X.env := by rfl) (hpl : (backTo pos (starEach es X.env)).any (·.1) = false := by rfl) :
    PS X (.Raise (some (.Call (.Name x p) (e :: es) [] pos)) none rpos) (lS (wd X) (dRaise C fs E' t)) := by
  obtain ⟨W, tw, hW⟩ := tk.ex
  obtain ⟨fI, fd, ps, iC, tI, F1, hb⟩ := g.ex
  have mk := pmk_oex (p := p) (dvs := []) g.T iC tI F1 hr hb .nil passL hg g.at_ ha hdb he hpl
  refine ⟨fun pins s σ H D I h => (ps_raise hc tw mk).run pins s σ H D I ?_⟩
  obtain ⟨τ, G, D', sr, hrep, q, kd⟩ := h
  have x0 : Ext X.H_0 H := Inv.ext0 I
  refine ⟨τ, G, _, sr, hrep, q, fun ds G1 vs H1 q1 x1 r1 p1 => ?_⟩
  obtain ⟨hl, q1⟩ := q1
  have lv := p1.len
  refine ⟨by have := g.len; omega, fun a na => ?_⟩
  refine ⟨a, C, vs, by simp, by omega, g.len.1, g.len.2, g.T, g.no, upd_same, fun dx nx ne => ?_⟩
  have nd : H1 dx = none := by rw [upd_ne ne] at nx; exact nx
  refine ⟨rfl, dx, (fs.zip vs).reverse, upd_same, ?_, nd, ?_⟩
  · rw [upd_ne ne]; exact upd_same
  · have key : upd (del (upd (upd (upd H1 a (exo a C none)) dx (exd dx (fs.zip vs).reverse)) a (exo a C (some dx))) a) dx (.xd (fs.zip vs).reverse) = upd H1 dx (.xd (fs.zip vs).reverse) := by
      funext b
      unfold upd del
      by_cases c1 : b = dx
      · simp [c1]
      · by_cases c2 : b = a
        · subst c2; simp [c1, na]
        · simp [c1, c2]
    rw [key]
    have x2 : Ext H1 (upd H1 dx (.xd (fs.zip vs).reverse)) := Ext.new nd
    exact hW _ _ _ _ _ _ _ q1 ((x0.trans x1).trans x2) (r1.hid nd) ⟨rfl, .inr ⟨dx, _, rfl, upd_same, ((rpFs_zip p1 hl).rev).ext x2⟩⟩
end
end L2.DL

set_option Elab.async false
set_option linter.all false
set_option maxRecDepth 100000
set_option maxHeartbeats 2000000
/-! DTry: try .. except C as e over data. -/
namespace L2.DL
open PySem PySem.Spec PyProof.Rows

/-! ### what a suite knows of the heap that was there at the try -/
open Classical in
/-- G and whatever never changes -/
noncomputable def anchor (H : Hp) (G : DH) : DH := fun b => match G b with
  | some o => some o
  | none => match H b with
    | some (.tup xs) => some (.raw (.tup xs))
    | some (.frz o u) => some (.raw (.frz o u))
    | _ => none
def noRol (G : DH) : Prop := ∀ b xs, G b ≠ some (.rol xs)
theorem anchor_rep {Y : Wd} {H : Hp} {G : DH} (hr : HRep Y H G) : HRep Y H (anchor H G) := fun a o e => by
  unfold anchor at e
  split at e
  · rename_i o' ea
    cases e
    exact hr a _ ea
  · split at e
    · rename_i xs ea; cases e; exact ea
    · rename_i u v ea; cases e; exact ea
    · cases e
theorem anchor_le {H : Hp} {G : DH} : DLe G (anchor H G) := fun a o e => by
  unfold anchor
  rw [e]
theorem anchor_ext {Y : Wd} {H H' : Hp} {G G' : DH} (hr : HRep Y H G) (nr : noRol G) (l : DLe (anchor H G) G') (hr' : HRep Y H' G') : Ext H H' := by
  have key : ∀ b u, H b = some u → (∀ xs, u = .tup xs → H' b = some u) ∧ (∀ o v, u = .frz o v → H' b = some u) := fun b u e => by
    cases q : G b with
    | none =>
      refine ⟨fun xs z => ?_, fun o v z => ?_⟩
      · subst z
        have a : anchor H G b = some (.raw (.tup xs)) := by unfold anchor; rw [q, e]
        exact hr' b _ (l b _ a)
      · subst z
        have a : anchor H G b = some (.raw (.frz o v)) := by unfold anchor; rw [q, e]
        exact hr' b _ (l b _ a)
    | some d =>
      have a : anchor H G b = some d := by unfold anchor; rw [q]
      have r := hr b d q
      have r' := hr' b d (l b _ a)
      cases d with
      | lst xs => obtain ⟨vs, h1, _⟩ := r; rw [e] at h1; cases h1; exact ⟨fun xs z => (by cases z), fun o v z => (by cases z)⟩
      | rol xs => exact absurd q (nr b xs)
      | dic kvs => obtain ⟨kws, h1, _⟩ := r; rw [e] at h1; cases h1; exact ⟨fun xs z => (by unfold DicN at z; cases z), fun o v z => (by unfold DicN at z; cases z)⟩
      | ins C fs => obtain ⟨dx, vs, h1, _⟩ := r; rw [e] at h1; cases h1; exact ⟨fun xs z => (by cases z), fun o v z => (by cases z)⟩
      | xds fs => obtain ⟨vs, h1, _⟩ := r; rw [e] at h1; cases h1; exact ⟨fun xs z => (by cases z), fun o v z => (by cases z)⟩
      | raw w =>
        have r : H b = some w := r
        have r' : H' b = some w := r'
        rw [e] at r; cases r
        exact ⟨fun _ _ => r', fun _ _ _ => r'⟩
  exact ⟨fun b xs e => (key b _ e).1 xs rfl, fun b o u e => (key b _ e).2 o u rfl⟩

/-! ### try -/
theorem takes_len {X : Cx} {W : WX} (tk : Takes X W) : Takes X (fun cls d σ H => σ.length = X.N.length → W cls d σ H) := fun u s' ⟨a, B, sI, pins, σ, H, cls, d, e, I, nb, up, sky, na, os, ag, w⟩ =>
  tk u s' ⟨a, B, sI, pins, σ, H, cls, d, e, I, nb, up, sky, na, os, ag, w I.len⟩
/-- the dict of the caught exception -/
def XdIn (fs : List (Str × D)) (od : Option Addr) (G' G1 : DH) : Prop := (od = none ∧ fs = [] ∧ G1 = G') ∨ ∃ dd, od = some dd ∧ G1 = dup G' dd (.xds fs) ∧ (∀ C f, G' dd ≠ some (.ins C f)) ∧ (∀ o, G' dd = some (.raw o) → ∃ vs, o = .xd vs) ∧ (∀ xs, G' dd ≠ some (.lst xs)) ∧ ∀ kv, G' dd ≠ some (.dic kv)
def dTry (n i : Nat) (exm : Addr → Option Bool) (tb : DX → DS) (ts : Addr → Option Addr → Addr → DS) : DS := fun D τ G => noRol G ∧ ∀ Ga, DLe G Ga → (∀ b o, Ga b = some o → G b = some o ∨ ∃ u, o = .raw u) →
  tb (fun C fs G' => DLe Ga G' ∧ exm C = some true ∧ ∀ a od G1, XdIn fs od G' G1 →
    ts a od C { nx := fun τ' G' => D.nx (τ'.set i none) G', rt := D.rt, bk := fun τ' G' => D.bk (τ'.set i none) G', ct := fun τ' G' => D.ct (τ'.set i none) G' } ((List.replicate n none).set i (some (.ref a))) G1) D τ Ga
theorem srep_none {K : PySem.W.Frag} {H : Hp} {σ : St} {τ : DSt} (h : SRep K H σ τ) (j : Nat) : SRep K H (σ.set j none) (τ.set j none) := by
  refine ⟨by simpa using h.1, fun i e q => ?_⟩
  by_cases c : j = i
  · subst c
    by_cases hj : j < τ.length
    · rw [List.getElem?_set_self hj] at q; cases q
    · rw [List.getElem?_eq_none (by simpa using hj)] at q; cases q
  · rw [List.getElem?_set_ne c] at q ⊢
    exact h.2 i e q
theorem srep_repl {K : PySem.W.Frag} {H : Hp} {σ : St} {n : Nat} (h : σ.length = n) : SRep K H σ (List.replicate n none) := ⟨by simp [h], fun i d e => by
  rw [List.getElem?_replicate] at e
  split at e <;> cases e⟩
theorem xrep_dic {Y : Wd} {H : Hp} {G' : DH} {C : Addr} {fs : List (Str × D)} {cls : Value} {od : Option Addr} (hr : HRep Y H G') (x : XRep Y H C fs cls od) : cls = .ref C ∧ ∃ G1, XdIn fs od G' G1 ∧ HRep Y H G1 := by
  obtain ⟨rfl, ⟨rfl, rfl⟩ | ⟨dd, vs, rfl, h1, h2⟩⟩ := x
  · exact ⟨rfl, G', .inl ⟨rfl, rfl, rfl⟩, hr⟩
  · have hI : ∀ C f, G' dd ≠ some (.ins C f) := fun C f z => by
      obtain ⟨dx, us, q, _⟩ := hr _ _ z
      rw [h1] at q; cases q
    have hR : ∀ o, G' dd = some (.raw o) → ∃ vs, o = .xd vs := fun o z => by
      have q : H dd = some o := hr _ _ z
      rw [h1] at q; cases q; exact ⟨_, rfl⟩
    have hL : ∀ xs, G' dd ≠ some (.lst xs) := fun xs z => by
      obtain ⟨us, q, _⟩ := hr _ _ z
      rw [h1] at q; cases q
    have hK : ∀ kv, G' dd ≠ some (.dic kv) := fun kv z => by
      obtain ⟨us, q, _⟩ := hr _ _ z
      rw [h1] at q; unfold DicN at q; cases q
    refine ⟨rfl, _, .inr ⟨dd, rfl, rfl, hI, hR, hL, hK⟩, fun b o e => ?_⟩
    by_cases c : b = dd
    · rw [c, dup_same] at e
      cases e
      rw [c]
      exact ⟨vs, h1, h2⟩
    · rw [dup_ne c] at e
      exact hr b o e
section
variable {X : Cx} {x n : Str} {i : Nat} {body suite : List Stmt} {b₀ : Stmt} {np pos pos' : Pos} {tb : DX → DS} {ts : Addr → Option Addr → Addr → DS} {CS : Addr} {exm : Addr → Option Bool}
theorem S_tryAs (hs : X.stack = X.env :: X.outer) (hf : X.env.frame = some X.env.locals) (hN : X.N.Nodup) (hi : X.N[i]? = some n) (hln : X.env.kindOf n = some .local) (hc : Names X x (.ref CS)) (he : ∀ C b, exm C = some b → PySem.W.exmOne X.K (.ref C) (.ref CS) = some b)
    (hb : ∀ (E' : DX) (pn : List (Addr × Obj)) (xe : Value → Shared → Prop), XTk (X.tr pn xe) E' → PassesOwn (model X.prog X.w) X.A X.env xe → PSs (X.tr pn xe) body (lS (wd X) (tb E')))
    (hsu : ∀ (a : Addr) (oe : Obj) (C : Addr) (d : Option Addr) (pn : List (Addr × Obj)), Zc (.ref C) d oe → (∃ vs, oe.data = .fields vs) → PSs (X.suite a ((a, oe) :: pn)) (b₀ :: suite) (lS (wd X) (ts a d C))) :
    PS X (.Try body [.ExceptHandler (some (.Name x np)) (some n) (b₀ :: suite) pos'] [] [] pos) (lS (wd X) (dTry X.N.length i exm tb ts)) := by
  refine (ps_try_as (c := .ref CS) (tb := fun W D σ H => ∃ E' : DX, (∀ C fs G cls od σ' H', σ'.length = X.N.length → E' C fs G → Ext X.H_0 H' → HRep (wd X) H' G → XRep (wd X) H' C fs cls od → W cls od σ' H') ∧ lS (wd X) (tb E') D σ H)
    (ts := fun a cls d D σ H => ∃ C, cls = .ref C ∧ lS (wd X) (ts a d C) D σ H) hs hf hN hi hln hc (L2.takes0 (X := X)) (fun W pn xe tk po => ⟨fun pins s σ H D I ⟨E', hW, h⟩ => ?_⟩) (fun a oe cls d pn hz hv => ⟨fun pins s σ H D I ⟨C, ec, h⟩ => ?_⟩)).weak fun D σ H h => ?_
  · exact (hb E' pn xe ⟨_, takes_len tk, fun C fs G cls od σ' H' e x r p hl => hW C fs G cls od σ' H' hl e x r p⟩ po).run pins s σ H D I h
  · subst ec
    exact (hsu a oe C d pn hz hv).run pins s σ H D I h
  · obtain ⟨τ, G, D', sr, hr, ⟨nr, q⟩, kd⟩ := h
    refine ⟨_, ?_, τ, anchor H G, D', sr, anchor_rep hr, q (anchor H G) anchor_le fun b o e => ?_, kd⟩
    · intro C fs G' cls od σ' H' hl ⟨l, e1, e2⟩ x0 r' xr
      have xt : Ext H H' := anchor_ext hr nr l r'
      obtain ⟨rfl, G1, x1, r1⟩ := xrep_dic r' xr
      refine ⟨true, he C true e1, fun _ a na => ⟨C, rfl, _, G1, _, ?_, r1, e2 a od G1 x1, ?_⟩, fun z => nomatch z⟩
      · exact (srep_repl (K := X.K) (H := H') hl).set i rfl
      · exact ⟨fun τ2 G2 σ2 H2 q2 x2 s2 r2 => kd.nx _ _ _ _ q2 (xt.trans x2) (srep_none s2 i) r2, kd.rt.ext xt, fun τ2 G2 σ2 H2 q2 x2 s2 r2 => kd.bk _ _ _ _ q2 (xt.trans x2) (srep_none s2 i) r2, fun τ2 G2 σ2 H2 q2 x2 s2 r2 => kd.ct _ _ _ _ q2 (xt.trans x2) (srep_none s2 i) r2⟩
    · unfold anchor at e
      split at e
      · rename_i o' ea; cases e; exact .inl ea
      · split at e
        · rename_i xs ea; cases e; exact .inr ⟨_, rfl⟩
        · rename_i u v ea; cases e; exact .inr ⟨_, rfl⟩
        · cases e
/-! ### in the suite -/
/-- isinstance(e, T) of the caught one -/
def dIsE (a C : Addr) (od : Option Addr) (ask : Tg → Option Bool) (te : DE) : DE := fun τ G Q => te τ G fun d G1 => d = .ref a ∧ (match od with | none => True | some dd => ∃ fs, G1 dd = some (.xds fs)) ∧ match ask (.own C) with
  | some b => Q (.bl b) G1
  | none => False
theorem E_isE {a C : Addr} {oe : Obj} {d : Option Addr} {pn : List (Addr × Obj)} {e c : Expr} {te : DE} {p pos : Pos} {ask : Tg → Option Bool} {cv : V} {u : Value} (hC : ExcC X.K C) (hz : Zc (.ref C) d oe) (hf : ∃ vs, oe.data = .fields vs)
    (ak : Asks X.K ask u) (k : ClsV cv u) (hg : Gl (X.suite a ((a, oe) :: pn)) "isinstance") (hm : X.mg "isinstance" = none) (he : PE (X.suite a ((a, oe) :: pn)) e (lE (wd X) te)) (hT : PE (X.suite a ((a, oe) :: pn)) c (tC cv))
    (hs : starEach [e, c] X.env = (false, eval e X.env) :: starEach [c] X.env := by rfl) (hs2 : starEach [c] X.env = (false, eval c X.env) :: starEach [] X.env := by rfl) (hpl : (backTo pos (starEach [c] X.env)).any (·.1) = false := by rfl) :
    PE (X.suite a ((a, oe) :: pn)) (.Call (.Name "isinstance" p) [e, c] [] pos) (lE (wd X) (dIsE a C d ask te)) := by
  have call : CallR (X.suite a ((a, oe) :: pn)) (.builtin "isinstance") (fun xs H Q => ∃ b, xs = [.ref a, cv] ∧ (match d with | none => True | some dd => ∃ vs, H dd = some (.xd vs)) ∧ ask (.own C) = some b ∧ Q (.bl b) H) := by
    intro pins s σ H xs us Q I r ⟨b, h0, hd, h3, q⟩
    subst h0
    obtain ⟨u1, u2, rfl, r1, r2⟩ := vals2 r
    have e2 := k.eq r2
    subst e2
    obtain rfl : u1 = Value.ref a := r1
    obtain ⟨hget, _⟩ := I.pin (a, oe) (List.mem_append.mpr (.inl List.mem_cons_self))
    obtain ⟨vs, hv⟩ := hf
    have J : ∃ od, PySem.W.InstAt s.heap a oe C od := by
      obtain ⟨oc, odd, oda, osl⟩ := oe
      obtain ⟨h1, h2⟩ := hz
      dsimp only at h1 h2 hv
      subst h1 h2 hv
      cases odd with
      | none => exact ⟨none, hget, rfl, rfl, trivial⟩
      | some dd =>
        obtain ⟨ws, hw⟩ := hd
        have hx : ObjOk X.prog X.w H s.heap dd (.xd ws) := I.hok dd _ hw
        obtain ⟨mA, hns, _⟩ := hx
        obtain ⟨o1, ho, _⟩ := lookIn_ns hns
        exact ⟨some o1, hget, rfl, rfl, ho⟩
    obtain ⟨od, J⟩ := J
    have hcl : (PySem.W.clsIn X.K C).isSome = true := by
      obtain ⟨cd, hc, _⟩ := PySem.W.any_some hC.hd
      rw [hc]; rfl
    exact PySem.W.kia_one (PySem.W.kitx_exc hcl hC.hg hC.hk hC.hs hC.ha hC.hn hC.ht hC.hm) I.kIn J (ak.ok (.own C) b h3) (fun z => nomatch z) fun tk => ⟨.bl b, H, I.kept (t' := tk) fun _ _ z => z, rfl, q⟩
  refine (pe_callB call hg hm (by first | rfl | decide) (pa_cons he (pa_cons hT pa_nil hs2) hs) (by decide) (by decide) hs hpl).weak fun σ H Q ⟨τ, G, Q', sr, hr, h, kv⟩ => ?_
  refine ⟨τ, G, _, sr, hr, h, fun d1 G1 v H1 q1 x1 r1 p1 => ?_⟩
  obtain ⟨rfl, hd, q1⟩ := q1
  split at q1
  · rename_i b hb
    obtain rfl : v = .ref a := p1
    refine ⟨b, rfl, ?_, hb, kv _ _ _ _ q1 x1 r1 rfl⟩
    cases d with
    | none => trivial
    | some dd =>
      obtain ⟨fs, e⟩ := hd
      obtain ⟨vs, h1, _⟩ := r1 _ _ e
      exact ⟨vs, h1⟩
  · exact q1.elim
/-- e.f of the caught one -/
def dXf (a : Addr) (od : Option Addr) (f : Str) (te : DE) : DE := fun τ G Q => te τ G fun d G1 => d = .ref a ∧ match od with
  | none => False
  | some dd => match G1 dd with
    | some (.xds fs) => (match fs.lookup f with | some v => Q v G1 | none => False)
    | _ => False
theorem E_xf {a C : Addr} {oe : Obj} {d : Option Addr} {pn : List (Addr × Obj)} {e : Expr} {te : DE} {pos : Pos} {f : Str} (T : XfC X.K C) (hno : PySem.W.findIn X.K (.ref C) f = some none)
    (hz : Zc (.ref C) d oe) (hf : ∃ vs, oe.data = .fields vs) (he : PE (X.suite a ((a, oe) :: pn)) e (lE (wd X) te)) (hb : attributeBase e f X.env (eval e X.env) = eval e X.env := by rfl) :
    PE (X.suite a ((a, oe) :: pn)) (.Attribute e f pos) (lE (wd X) (dXf a d f te)) := (pe_xf T hno hz hf he hb).weak fun σ H Q ⟨τ, G, Q', sr, hr, h, kv⟩ => by
  refine ⟨τ, G, _, sr, hr, h, fun d1 G1 v H1 q1 x1 r1 p1 => ?_⟩
  obtain ⟨rfl, q1⟩ := q1
  obtain rfl : v = .ref a := p1
  cases d with
  | none => exact q1.elim
  | some dd =>
    dsimp only at q1
    split at q1
    · rename_i fs e1
      split at q1
      · rename_i w e2
        obtain ⟨vs, h1, h2⟩ := r1 _ _ e1
        obtain ⟨y, e3, e4⟩ := h2.look e2
        exact ⟨rfl, rfl, dd, vs, y, rfl, h1, e3, kv _ _ _ _ q1 x1 r1 e4⟩
      · exact q1.elim
    · exact q1.elim
end
end L2.DL

set_option Elab.async false
set_option linter.all false
set_option maxRecDepth 100000
set_option maxHeartbeats 2000000
/-! DLam: keywords; a lambda handed to a def. -/
namespace L2.DL
open PySem PySem.Spec PyProof.Rows LamX

/-! ### keywords -/
section
variable {X : Cx} {e : Expr} {es : List Expr} {te : DE} {t tk : DA} {x : Str} {p pos kpos : Pos} {k : Nat} {ps ks : List Str} {dfl : List D} {sp : DSp} {E' : DX} {nm : Option Str} {kws : List Keyword}
theorem _root_.L2.PK.weak {X : Cx} {kws : List Keyword} {t u : TA} (h : PK X kws t) (w : ∀ σ H Q, u σ H Q → t σ H Q) : PK X kws u := ⟨fun p pins s σ H Q I hw => h.run p pins s σ H Q I (w _ _ _ hw)⟩
theorem K_nil : PK X [] (lA (wd X) dNil) := PK.weak pk_nil fun σ H Q h => by
  obtain ⟨τ, G, Q', sr, hr, q, k⟩ := h
  exact k _ _ _ _ q (.refl H) hr RpL.nil
theorem K_cons (ha : PE X e (lE (wd X) te)) (hs : PK X kws (lA (wd X) t)) : PK X (⟨nm, e, kpos⟩ :: kws) (lA (wd X) (dCons te t)) :=
  PK.weak (pk_cons ha hs) fun σ H Q h => by
    obtain ⟨τ, G, Q', sr, hr, q, k⟩ := h
    exact ⟨τ, G, _, sr, hr, q, fun d G1 v H1 q1 x1 r1 p1 => ⟨τ, G1, _, sr.ext x1, r1, q1, fun ds G2 vs H2 q2 x2 r2 p2 => k _ _ _ _ q2 (x1.trans x2) r2 (RpL.cons (p1.ext x2) p2)⟩⟩
/-- a def called with keywords behind all its positional arguments -/
structure GFnK (Y : Wd) (mg : Str → Option Value) (base : Heap) (x : Str) (k : Nat) (ps ks : List Str) (sp : DSp) : Prop where
  ex : ∃ f fd, FnD Y mg base k f fd ps sp ∧ mg x = some (.ref f) ∧ PySem.W.keepIn Y.K (.ref f) = true ∧ KBn Y.K fd ps (ps.length - ks.length) ks (fun us ws => us ++ ws) (fun vs zs => vs ++ zs)
theorem kb_rel : ∀ {vs : List V} {us : List Value} {zs : List V} {ws : List Value}, Vals vs us → Vals zs ws → Vals (vs ++ zs) (us ++ ws) := fun r r' => r.append r'
/-- the call's reading, with what it lets out told where it stands -/
def lEx (Y : Wd) (E : XK) (t : DX → DE) : TE := fun σ H Q => ∃ τ G Q' E', SRep Y.K H σ τ ∧ HRep Y H G ∧ t E' τ G Q' ∧ KV1 Y H Q' Q ∧ KX Y H E' E
def dCallK (n m : Nat) (sp : DSp) (E' : DX) (t tk : DA) : DE := fun τ G Q => t τ G fun ds G1 => tk τ G1 fun zs G2 => ds.length = n ∧ zs.length = m ∧ sp (ds ++ zs) G2 Q E'
theorem lEx_call {Y : Wd} {E : XK} {dvs : List V} {σ : St} {H : Hp} {Q : VK} (hd : ∀ H, RpL Y.K H dfl dvs) (h : lEx Y E (fun E' => dCall sp dfl E' t) σ H Q) : tCall (lSp Y sp) dvs E (lA Y t) σ H Q := by
  obtain ⟨τ, G, Q', E', sr, hr, q, kv, kx⟩ := h
  exact lE_call kx hd ⟨τ, G, Q', sr, hr, q, kv⟩
theorem lEx_callK {Y : Wd} {E : XK} {n m : Nat} {σ : St} {H : Hp} {Q : VK} (h : lEx Y E (fun E' => dCallK n m sp E' t tk) σ H Q) : tCallN n m (lSp Y sp) (fun vs zs => vs ++ zs) E (lA Y t) (lA Y tk) σ H Q := by
  obtain ⟨τ, G, Q', E', sr, hr, q, kv, kx⟩ := h
  exact ⟨τ, G, _, sr, hr, q, fun ds G1 vs H1 q1 x1 r1 p1 => ⟨τ, G1, _, sr.ext x1, r1, q1, fun zs G2 us H2 q2 x2 r2 p2 => ⟨p1.len.symm.trans q2.1, p2.len.symm.trans q2.2.1, ds ++ zs, G2, Q', E', (p1.ext x2).app p2, r2, q2.2.2, kv.ext (x1.trans x2), kx.ext (x1.trans x2)⟩⟩⟩
theorem Ex_call {E : XK} (g : GFn (wd X) X.mg X.base x k ps dfl sp) (hr : Room k X.A) (hx : Passes (L2.CX X.prog X.w) X E) (hg : Gl X x) (ha : PA X (e :: es) (lA (wd X) t)) (hdb : (x == ("__debug__" : Str)) = false := by decide)
    (he : starEach (e :: es) X.env = (false, eval e X.env) :: starEach es X.env := by rfl) (hpl : (backTo pos (starEach es X.env)).any (·.1) = false := by rfl) : PE X (.Call (.Name x p) (e :: es) [] pos) (lEx (wd X) E fun E' => dCall sp dfl E' t) := by
  obtain ⟨f, fd, dvs, ds, F, hm, hk, hb, hd, hp⟩ := g.ex
  exact (pe_call F hr hg hm hk hb hd hx ha hdb he hpl).weak fun σ H Q h => lEx_call hp h
theorem Ex_callK {E : XK} {n m : Nat} (g : GFnK (wd X) X.mg X.base x k ps ks sp) (hr : Room k X.A) (hx : Passes (L2.CX X.prog X.w) X E) (hg : Gl X x) (ha : PA X (e :: es) (lA (wd X) t)) (hkw : PK X kws (lA (wd X) tk)) (hn : ps.length - ks.length = n := by rfl) (hm2 : ks.length = m := by rfl)
    (hall : (backToKw pos (keywordEach kws X.env)).all (·.1.isSome) = true := by rfl) (hks : (backToKw pos (keywordEach kws X.env)).filterMap (·.1) = ks := by rfl)
    (hdb : (x == ("__debug__" : Str)) = false := by decide) (he : starEach (e :: es) X.env = (false, eval e X.env) :: starEach es X.env := by rfl)
    (hpl : ((backTo pos (starEach (e :: es) X.env)).any (·.1) || (backToKw pos (keywordEach kws X.env)).any (·.1.isNone)) = false := by rfl) : PE X (.Call (.Name x p) (e :: es) kws pos) (lEx (wd X) E fun E' => dCallK n m sp E' t tk) := by
  subst hn; subst hm2
  obtain ⟨f, fd, F, hm, hk, hb⟩ := g.ex
  exact (pe_callN F hr hg hm hk hb hx ha hkw hall hks hdb he hpl).weak fun σ H Q h => lEx_callK h
theorem E_callK {E : XK} {n m : Nat} (g : GFnK (wd X) X.mg X.base x k ps ks sp) (hr : Room k X.A) (hx : XOk X E' E) (hg : Gl X x) (ha : PA X (e :: es) (lA (wd X) t)) (hkw : PK X kws (lA (wd X) tk)) (hn : ps.length - ks.length = n := by rfl) (hm2 : ks.length = m := by rfl)
    (hall : (backToKw pos (keywordEach kws X.env)).all (·.1.isSome) = true := by rfl) (hks : (backToKw pos (keywordEach kws X.env)).filterMap (·.1) = ks := by rfl)
    (hdb : (x == ("__debug__" : Str)) = false := by decide) (he : starEach (e :: es) X.env = (false, eval e X.env) :: starEach es X.env := by rfl)
    (hpl : ((backTo pos (starEach (e :: es) X.env)).any (·.1) || (backToKw pos (keywordEach kws X.env)).any (·.1.isNone)) = false := by rfl) : PE X (.Call (.Name x p) (e :: es) kws pos) (lE (wd X) (dCallK n m sp E' t tk)) :=
  (Ex_callK g hr hx.ps hg ha hkw hn hm2 hall hks hdb he hpl).weakI fun pins s σ H Q I ⟨τ, G, Q', sr, hr, q, kv⟩ => ⟨τ, G, Q', E', sr, hr, q, kv, hx.kx.ext (Inv.ext0 I)⟩
end
/-- what a call in a try body may let out -/
theorem xok_tr {X : Cx} {E' : DX} (h : XTk X E') : ∃ E, XOk X E' E := by
  obtain ⟨W, tk, hW⟩ := h.ex
  refine ⟨fun cls od H => ∃ C fs G, E' C fs G ∧ Ext X.H_0 H ∧ HRep (wd X) H G ∧ XRep (wd X) H C fs cls od, fun C fs G cls od H' e x r p => ⟨C, fs, G, e, x, r, p⟩, passes_call tk fun cls d σ H ⟨C, fs, G, e, x, r, p⟩ => hW C fs G cls d σ H e x r p⟩

/-! ### f(lambda: ..) -/
def TblOk (q : Str) (ps : Array Value) (G : DH) : Prop := TriplesOk ps.toList ∧ ∀ (pos : Pos) (cv : Value), codeAmong pos ps.toList = some cv → ∃ c, cv = .ref c ∧ G c = some (.raw (CodeO c q))
def TabD (P : Addr) (q : Str) (G : DH) : Prop := ∃ ps, G P = some (.raw (.tbl ps)) ∧ TblOk q ps G
/-- a lambda's reading where it is called: what it lets out, the heap, the wish -/
abbrev DLm := DX → DH → DVK → Prop
/-- x(lambda: body): said tells what x makes of it -/
def dLam (P : Addr) (q : Str) (said : DLm → DH → DVK → Prop) (tb : DX → DE) : DE := fun τ G Q => TabD P q G ∧ (∀ b ps, b ≠ P → G b ≠ some (.raw (.tbl ps))) ∧ ∀ G1, (∀ b o, b ≠ P → G b = some o → G1 b = some o) → TabD P q G1 → said (fun E' G' Q' => tb E' τ G' Q') G1 Q
/-- what the def is to keep: TT of pe_lamcall -/
def TTd (Y : Wd) (said : DLm → DH → DVK → Prop) : (XK → Hp → VK → Prop) → Hp → VK → Prop := fun tl H Q => ∃ (G : DH) (Q' : DVK) (tD : DLm), HRep Y H G ∧ KV1 Y H Q' Q ∧ said tD G Q' ∧
  ∀ (E : XK) (H' : Hp) (Q1 : VK) (G' : DH) (Q1' : DVK) (E' : DX), Ext H H' → HRep Y H' G' → tD E' G' Q1' → KV1 Y H' Q1' Q1 → KX Y H' E' E → tl E H' Q1
theorem extN_ext {H H1 : Hp} (h : ExtN H H1) : Ext H H1 := ⟨fun b xs e => h b _ e fun ps z => (by cases z), fun b o u e => h b _ e fun ps z => (by cases z)⟩
theorem heap_size : ∀ n : Nat, ∃ h : Heap, h.objs.size = n
  | 0 => ⟨{ objs := #[] }, rfl⟩
  | n + 1 => by
    obtain ⟨h, e⟩ := heap_size n
    exact ⟨h.push { cls := .none, data := .fields #[] }, by rw [Heap.size_push, e]⟩
theorem dic_code {Y : Wd} {a c : Addr} {kws : List (NK × V)} {q : Str} (h : DicN Y c kws = CodeO c q) : False := by
  obtain ⟨h0, e⟩ := heap_size c
  unfold DicN CodeO at h
  injection h with h
  have k := congrFun h (h0.push { cls := .none, data := .fields #[.none, .str q 0] })
  have g : (h0.push { cls := .none, data := .fields #[.none, .str q 0] }).get? c = some { cls := .none, data := .fields #[.none, .str q 0] } := by rw [← e]; exact Heap.get?_push_size _ rfl
  have r := k.mpr ⟨_, _, 0, g, rfl, rfl⟩
  obtain ⟨_, _, vs, _, o, es, ep, h1, _, h3, _⟩ := r
  rw [g] at h1
  cases h1
  cases h3
open Classical in
theorem lam_heap {Y : Wd} {H H1 : Hp} {G : DH} {P : Addr} {q : Str} (hr : HRep Y H G) (ex : ExtN H H1) (no : ∀ b ps, b ≠ P → G b ≠ some (.raw (.tbl ps))) (hT : TabS H1 P q) : ∃ G1, HRep Y H1 G1 ∧ (∀ b o, b ≠ P → G b = some o → G1 b = some o) ∧ TabD P q G1 := by
  obtain ⟨ps, t1, t2, t3⟩ := hT
  have keep : ∀ b o, b ≠ P → G b = some o → ORep Y H1 b o := fun b o hb e => by
    have r := hr b o e
    obtain ⟨u, hu⟩ := r.some_
    refine r.at_ (extN_ext ex) ((ex b u hu fun ps z => ?_).trans hu.symm)
    subst z
    cases o with
    | lst xs => obtain ⟨vs, h1, _⟩ := r; rw [hu] at h1; cases h1
    | rol xs => obtain ⟨o, vs, h1, _⟩ := r; rw [hu] at h1; cases h1
    | dic kvs => obtain ⟨kws, h1, _⟩ := r; rw [hu] at h1; unfold DicN at h1; cases h1
    | ins C fs => obtain ⟨dx, vs, h1, _⟩ := r; rw [hu] at h1; cases h1
    | xds fs => obtain ⟨vs, h1, _⟩ := r; rw [hu] at h1; cases h1
    | raw w =>
      have r : H b = some w := r
      rw [hu] at r; cases r
      exact no b ps hb e
  refine ⟨fun b => if b = P then some (.raw (.tbl ps)) else match G b with
    | some o => some o
    | none => if H1 b = some (CodeO b q) then some (.raw (CodeO b q)) else none, fun b o e => ?_, fun b o hb e => ?_, ps, ?_, t2, fun pos cv hc => ?_⟩
  · dsimp only at e
    split at e
    · rename_i hb; cases e; subst hb; exact t1
    · rename_i hb
      split at e
      · rename_i o' eg; cases e; exact keep b _ hb eg
      · split at e
        · rename_i hc; cases e; exact hc
        · cases e
  · dsimp only
    rw [if_neg hb, e]
  · dsimp only
    rw [if_pos rfl]
  · obtain ⟨c, rfl, hc2⟩ := t3 pos cv hc
    refine ⟨c, rfl, ?_⟩
    have ne : c ≠ P := fun z => by rw [z, t1] at hc2; unfold CodeO at hc2; cases hc2
    dsimp only
    rw [if_neg ne]
    cases eg : G c with
    | none =>
      dsimp only
      rw [if_pos hc2]
    | some o =>
      have r := keep c o ne eg
      cases o with
      | lst xs => obtain ⟨vs, h1, _⟩ := r; rw [hc2] at h1; unfold CodeO at h1; cases h1
      | rol xs => obtain ⟨o, vs, h1, _⟩ := r; rw [hc2] at h1; unfold CodeO at h1; cases h1
      | dic kvs =>
        obtain ⟨kws, h1, _⟩ := r
        rw [hc2] at h1
        exact (dic_code (a := c) (Option.some.inj h1).symm).elim
      | ins C fs => obtain ⟨dx, vs, h1, _⟩ := r; rw [hc2] at h1; unfold CodeO at h1; cases h1
      | xds fs => obtain ⟨vs, h1, _⟩ := r; rw [hc2] at h1; unfold CodeO at h1; cases h1
      | raw w =>
        have r : H1 c = some w := r
        rw [hc2] at r; cases r; rfl

/-- the callee's own call of what it got, which stands at f, its code at c' -/
def dAct (f c' : Addr) (q : Str) (tD : DLm) (i : Nat) (E' : DX) : DE := fun τ G Q => τ[i]? = some (some (.ref f)) ∧ G c' = some (.raw (CodeO c' q)) ∧ tD E' G Q
/-- what such a def does by its body's reading t -/
def saidOf (Ng : List Str) (q : Str) (t : Addr → Addr → DLm → DS) : DLm → DH → DVK → Prop := fun tD G Q => ∀ f c' Gc, (∀ b, b ≠ c' → Gc b = G b) → Gc c' = some (.raw (CodeO c' q)) → (∀ o, G c' = some o → o = .raw (CodeO c' q)) → t f c' tD { nx := fun _ G' => Q .non G', rt := Q } (dstart Ng [.ref f]) Gc
section
variable {X : Cx}
/-- the context of the body of the def that is called with a lambda -/
abbrev cxG (X : Cx) (Ng : List Str) (x : Str) (sg : Scope) (g : Addr) (cdg : Value) (s : Shared) (H : Hp) : Cx := (cxOf C8.CX0 X.prog X.w X.K X.mg X.base Ng x sg g cdg X.A X.stack s H C8.E0).nox
theorem gives_of {Ng : List Str} {x a q : Str} {sg : Scope} {g : Addr} {cdg : Value} {bg : List Stmt} {t : Addr → Addr → DLm → DS} (h0 : ∀ f : Addr, (L2.start Ng [V.ref f])[0]? = some (some (V.ref f)))
    (walk : ∀ (s : Shared) (H : Hp) (f c' : Addr) (tD : DLm), (∀ (E' : DX) (pn : List (Addr × Obj)) (xe : Value → Shared → Prop) (p1 p2 : Pos), XTk ((cxG X Ng x sg g cdg s H).tr pn xe) E' → PE ((cxG X Ng x sg g cdg s H).tr pn xe) (.Call (.Name a p1) [] [] p2) (lE (wd X) (dAct f c' q tD 0 E'))) →
      PSs (cxG X Ng x sg g cdg s H) bg (lS (wd X) (t f c' tD))) : GivesTo X Ng x sg g cdg bg a q (TTd (wd X) (saidOf Ng q t)) := by
  intro f c' s H Q tl act hc ⟨G, Q', tD, hr, kv, sd, ht⟩
  have hw := walk s H f c' (fun E' G' Q1' => tD E' G' Q1') fun E' pn xe p1 p2 tk => ?_
  · let Gc : DH := fun b => if b = c' then some (.raw (CodeO c' q)) else G b
    have g1 : ∀ b, b ≠ c' → Gc b = G b := fun b hb => if_neg hb
    have g2 : Gc c' = some (.raw (CodeO c' q)) := if_pos rfl
    have hrc : HRep (wd X) H Gc := fun b o e => by
      by_cases z : b = c'
      · rw [z, g2] at e; cases e; rw [z]; exact hc
      · rw [g1 b z] at e; exact hr b o e
    have g3 : ∀ o, G c' = some o → o = .raw (CodeO c' q) := fun o eg => by
      have r := hr c' o eg
      have hc2 : H c' = some (CodeO c' q) := hc
      cases o with
      | lst xs => obtain ⟨vs, h1, _⟩ := r; rw [hc2] at h1; unfold CodeO at h1; cases h1
      | rol xs => obtain ⟨o, vs, h1, _⟩ := r; rw [hc2] at h1; unfold CodeO at h1; cases h1
      | dic kvs =>
        obtain ⟨kws, h1, _⟩ := r
        rw [hc2] at h1
        exact (dic_code (a := c') (Option.some.inj h1).symm).elim
      | ins C fs => obtain ⟨dx, vs, h1, _⟩ := r; rw [hc2] at h1; unfold CodeO at h1; cases h1
      | xds fs => obtain ⟨vs, h1, _⟩ := r; rw [hc2] at h1; unfold CodeO at h1; cases h1
      | raw w =>
        have r : H c' = some w := r
        rw [hc2] at r; cases r; rfl
    exact ⟨_, hw, dstart Ng [.ref f], Gc, _, srep_start (RpL.cons rfl RpL.nil), hrc, sd f c' Gc g1 g2 g3, ⟨fun τ1 G1 σ1 H1 q1 x1 _ r1 => kv _ _ _ _ q1 x1 r1 rfl, kv, fun _ _ _ _ q => q.elim, fun _ _ _ _ q => q.elim⟩⟩
  · obtain ⟨W, tw, hW⟩ := tk.ex
    have A := act W pn xe (fun cls od H' => ∃ C fs G, E' C fs G ∧ Ext H H' ∧ HRep (wd X) H' G ∧ XRep (wd X) H' C fs cls od) p1 p2 tw fun cls d σ' H' ⟨C, fs, G, e, x, r, p⟩ => hW C fs G cls d σ' H' e x r p
    refine A.weakI fun pins s1 σ H1 Q1 I ⟨τ, G1, Q1', sr, r1, ⟨a1, a2, a3⟩, kv1⟩ => ?_
    have x1 : Ext H H1 := Inv.ext0 I
    obtain ⟨v, v1, v2⟩ := sr.2 0 _ a1
    obtain rfl : v = .ref f := v2
    exact ⟨v1, r1 _ _ a2, ht _ H1 Q1 G1 Q1' E' x1 r1 a3 kv1 fun C fs G cls od H' e x r p => ⟨C, fs, G, e, x1.trans x, r, p⟩⟩
theorem E_lam {said : DLm → DH → DVK → Prop} {x a : Str} {g c P : Addr} {k : Nat} {pg : Arguments} {bg : List Stmt} {sg : Scope} {dV kV doc pm cdv ct oc : Value} {an od : Option Addr} {osl : Array (Option Value)} {Ng : List Str}
    {params : Arguments} {body : Expr} {scope : Scope} {tb : DX → DE} {p lpos pos : Pos} (hg : Gl X x) (hm : X.mg x = some (.ref g)) (hk : PySem.W.keepIn X.K (.ref g) = true)
    (lk : X.K.lookup g = some ⟨oc, od, .func (PySem.W.fnOf x x pg bg sg dV kV doc pm an cdv ct), osl⟩) (hcg : PySem.W.codeIn X.K cdv x = true) (hb : L2.Binds X.K (PySem.W.fnOf x x pg bg sg dV kV doc pm an cdv ct) [a] []) (Sg : FnScope Ng [a] sg) (hNg : Ng[0]? = some a) (hva : Vis sg a)
    (hG : GivesTo X Ng x sg g cdv bg a (X.env.qual ++ "<lambda>") (TTd (wd X) said))
    (TB : TabB X.base X.mg c P) (hcode : X.env.code = .ref c) (hr : Room (k + 2) X.A) (L : LamS X.env.scope scope) (hdef : defaultsOf params X.env = ([], []))
    (hbind : ∀ (q : Str) (cl : List (Str × Addr)) (pm cv ctv : Value), bindArgs (PySem.W.kla_fn "<lambda>" q params body scope cl pm cv ctv) ⟨[], []⟩ = pure [])
    (hbody : ∀ (A : Around) (outer : List Env) (s : Shared) (H : Hp) (E : XK) (f c' : Addr), Room k (A.deeper (lamEnv X scope s.heap.objs.size f c')) → PE (lamCx X A outer s H E scope f c') body (lEx (wd X) E tb))
    (hdb : (x == ("__debug__" : Str)) = false := by decide) (hd : (a == ("__debug__" : Str)) = false := by decide) (hcd : (a == ("__classdict__" : Str)) = false := by decide) :
    PE X (.Call (.Name x p) [.Lambda params body scope lpos] [] pos) (lE (wd X) (dLam P (X.env.qual ++ "<lambda>") said tb)) := by
  have hu : ∀ p ∈ [(P, X.env.qual ++ "<lambda>")], p.1 = P → p.2 = X.env.qual ++ "<lambda>" := fun p hp _ => by
    rcases List.mem_cons.mp hp with z | z
    · rw [z]
    · cases z
  refine (pe_lamcall (T := [(P, X.env.qual ++ "<lambda>")]) (t := fun E => lEx (wd X) E tb) hg hm hk lk hcg hb Sg hNg hva hG TB hcode List.mem_cons_self hu hr L hdef hbind hbody hdb hd hcd).weak fun σ H Q ⟨τ, G, Q', sr, hrep, ⟨⟨ps, t1, t2, t3⟩, no, q⟩, kv⟩ => ?_
  have tab : TabS H P (X.env.qual ++ "<lambda>") := ⟨ps, hrep _ _ t1, t2, fun pos cv hc => by
    obtain ⟨c, e1, e2⟩ := t3 pos cv hc
    exact ⟨c, e1, hrep _ _ e2⟩⟩
  refine ⟨fun p hp => ?_, fun H1 ex T1 => ?_⟩
  · rcases List.mem_cons.mp hp with z | z
    · rw [z]; exact tab
    · cases z
  · obtain ⟨G1, r1, k1, t1⟩ := lam_heap hrep ex no (T1 _ List.mem_cons_self)
    have x1 := extN_ext ex
    refine ⟨G1, Q', _, r1, kv.ext x1, q G1 k1 t1, fun E H' Q1 G' Q1' E' x r q1 kv1 kx => ?_⟩
    exact ⟨τ, G', Q1', E', sr.ext (x1.trans x), r, q1, kv1, kx⟩
/-- in a lambda's body -/
theorem lam_pass {A : Around} {outer : List Env} {s : Shared} {H : Hp} {E : XK} {scope : Scope} {f c' : Addr} : Passes (L2.CX X.prog X.w) (lamCx X A outer s H E scope f c') E :=
  passes_call (takes_of (X := lamCx X A outer s H E scope f c') (E := E) rfl rfl rfl rfl) fun _ _ _ _ h => h
end
end L2.DL

set_option Elab.async false
set_option linter.all false
set_option maxRecDepth 100000
set_option maxHeartbeats 1000000
/-! DLess: what is known of the heap may be dropped ahead of an expression. -/
namespace L2.DL
open PySem PySem.Spec PyProof.Rows
def dLess (te : DE) : DE := fun τ G Q => ∃ G0, DLe G0 G ∧ te τ G0 Q
theorem E_less {X : Cx} {e : Expr} {te : DE} (h : PE X e (lE (wd X) te)) : PE X e (lE (wd X) (dLess te)) := h.weak fun σ H Q q => by
  obtain ⟨τ, G, Q', sr, hr, ⟨G0, l, q⟩, k⟩ := q
  exact ⟨τ, G0, Q', sr, hr.less l, q, k⟩
def dLessS (t : DS) : DS := fun D τ G => ∃ G0, DLe G0 G ∧ t D τ G0
theorem S_less {X : Cx} {e : Stmt} {t : DS} (h : PS X e (lS (wd X) t)) : PS X e (lS (wd X) (dLessS t)) := h.weak fun D σ H q => by
  obtain ⟨τ, G, D', sr, hr, ⟨G0, l, q⟩, k⟩ := q
  exact ⟨τ, G0, D', sr, hr.less l, q, k⟩
end L2.DL

set_option Elab.async false
set_option linter.all false
set_option maxRecDepth 100000
set_option maxHeartbeats 2000000
/-! DFacts: what a head tells of own classes and exceptions, as Bools. -/
namespace L2.DL
open PySem PySem.Spec PyProof.Rows He

inductive Fx where
  /-- an exception class with its own __init__ that stores fs -/
  | oex (x : Str)
  | noat (x f : Str)
  | init (x : Str)
  | exc (x : Str)
  | own (x : Str)
  | kitT (x : Str) (T : String) (b : Bool)
  | kitC (x y : Str) (b : Bool)
  | tykit (T : String) (y : Str) (b : Bool)
  | exm (x y : Str) (b : Bool)
def oexB (K : PySem.W.Frag) (C : Addr) : Bool := (match K.lookup C with
    | some ⟨.type "type", _, .cls cd, sl⟩ => (match cd.mro, sl.toList with
      | .ref c :: bm, [_, _, _, _, some (.builtin n), _] => c == C && n == "ValueError.__new__" && (cd.hasDict && (!cd.hasDel && PySem.HandSPX.refsVE bm))
      | _, _ => false)
    | _ => false) && (decide (PySem.W.findIn K (.ref C) "__setattr__" = some (some (.builtin "object.__setattr__"))) && (decide (PySem.W.subIn K (.ref C) (.type "BaseException") = some true) && (decide (PySem.W.typeIn K (.ref C) = some (.type "type")) && PySem.W.keepIn K (.ref C))))
theorem oexB_ok {K : PySem.W.Frag} {C : Addr} (h : oexB K C = true) : OexC K C := by
  unfold oexB at h
  simp only [Bool.and_eq_true, decide_eq_true_eq] at h
  obtain ⟨h, h1, h2, h3, h4⟩ := h
  refine ⟨?_, h1, h2, h3, h4⟩
  split at h
  · rename_i dd cd sl ho
    split at h
    · rename_i c bm k0 k1 k2 k3 n k5 hm hs
      simp only [Bool.and_eq_true, beq_iff_eq, Bool.not_eq_true'] at h
      obtain ⟨⟨rfl, rfl⟩, hd, hdel, hr⟩ := h
      obtain ⟨nm, bs, mro, ns, qn, hdc, sn, sub, ab, col, del⟩ := cd
      dsimp only at hm hdel hd
      subst hm hdel hd
      have e : sl = #[k0, k1, k2, k3, some (.builtin "ValueError.__new__"), k5] := by
        obtain ⟨l⟩ := sl
        simp only at hs
        rw [hs]
      subst e
      exact ⟨nm, qn, ns, bs, bm, sn, sub, ab, col, dd, k0, k1, k2, k3, k5, ho, hr⟩
    · cases h
  · cases h
def clsB (K : PySem.W.Frag) (C : Addr) : Bool := decide (PySem.W.findIn K (.ref C) "__class__" = some (some (.builtin "object.__class__"))) && (decide (PySem.W.specialIn K (.builtin "object.__class__") "__get__" = some (some (.builtin "getset_descriptor.__get__"))) &&
  (decide (PySem.W.takesIn K (.builtin "object.__class__") = some true) && decide (PySem.W.mroIn K C (.type "object") = some true)))
def Fx.ok (K : PySem.W.Frag) : Fx → Bool
  | .oex x => oexB K (ga K x)
  | .noat x f => decide (PySem.W.findIn K (.ref (ga K x)) f = some none)
  | .init x => decide (PySem.W.findIn K (.ref (ga K x)) "__init__" = some (some (.ref (ma K (ga K x) "__init__")))) && decide (PySem.W.typeIn K (.ref (ma K (ga K x) "__init__")) = some (.type "function"))
  | .exc x => decide (PySem.W.findIn K (.ref (ga K x)) "__getattribute__" = some (some (.builtin "BaseException.__getattribute__"))) && (decide (PySem.W.findIn K (.ref (ga K x)) "__getattr__" = some none) && (decide (PySem.W.subIn K (.ref (ga K x)) (.type "BaseException") = some true) && (PySem.W.hasDictIn K (ga K x) && clsB K (ga K x))))
  | .own x => clsB K (ga K x)
  | .kitT x T b => decide (PySem.W.kitOne K (.ref (ga K x)) (.type T) = some b)
  | .kitC x y b => decide (PySem.W.kitOne K (.ref (ga K x)) (.ref (ga K y)) = some b)
  | .tykit T y b => decide (PySem.W.kitOne K (.type T) (.ref (ga K y)) = some b)
  | .exm x y b => decide (PySem.W.exmOne K (.ref (ga K x)) (.ref (ga K y)) = some b)
section
variable {K : PySem.W.Frag}
theorem Fx.oex_ok {x : Str} (h : (Fx.oex x).ok K = true) : OexC K (ga K x) := oexB_ok h
theorem Fx.noat_ok {x f : Str} (h : (Fx.noat x f).ok K = true) : PySem.W.findIn K (.ref (ga K x)) f = some none := of_decide_eq_true h
theorem Fx.init_ok {x : Str} (h : (Fx.init x).ok K = true) : PySem.W.findIn K (.ref (ga K x)) "__init__" = some (some (.ref (ma K (ga K x) "__init__"))) ∧ PySem.W.typeIn K (.ref (ma K (ga K x) "__init__")) = some (.type "function") := by
  simp only [Fx.ok, Bool.and_eq_true, decide_eq_true_eq] at h
  exact h
theorem Fx.exc_ok {x : Str} (h : (Fx.exc x).ok K = true) : ExcC K (ga K x) := by
  simp only [Fx.ok, clsB, Bool.and_eq_true, decide_eq_true_eq] at h
  obtain ⟨h1, h2, h3, h4, h5, h6, h7, h8⟩ := h
  exact ⟨h1, h2, h3, h4, h5, h6, h7, h8⟩
theorem Fx.xf_ok {x : Str} (h : (Fx.exc x).ok K = true) : XfC K (ga K x) := by
  have c := Fx.exc_ok h
  exact ⟨c.hg, c.hk, c.hs, c.hd⟩
theorem Fx.own_ok {x : Str} (c : Cls K (ga K x)) (h : (Fx.own x).ok K = true) : OwnTy K (ga K x) := by
  simp only [Fx.ok, clsB, Bool.and_eq_true, decide_eq_true_eq] at h
  exact ⟨c, h.1, h.2.1, h.2.2.1, h.2.2.2⟩
theorem Fx.kitT_ok {x : Str} {T : String} {b : Bool} (h : (Fx.kitT x T b).ok K = true) : PySem.W.kitOne K (.ref (ga K x)) (.type T) = some b := of_decide_eq_true h
theorem Fx.kitC_ok {x y : Str} {b : Bool} (h : (Fx.kitC x y b).ok K = true) : PySem.W.kitOne K (.ref (ga K x)) (.ref (ga K y)) = some b := of_decide_eq_true h
theorem Fx.tykit_ok {T : String} {y : Str} {b : Bool} (h : (Fx.tykit T y b).ok K = true) : PySem.W.kitOne K (.type T) (.ref (ga K y)) = some b := of_decide_eq_true h
theorem Fx.exm_ok {x y : Str} {b : Bool} (h : (Fx.exm x y b).ok K = true) : PySem.W.exmOne K (.ref (ga K x)) (.ref (ga K y)) = some b := of_decide_eq_true h
end
/-! ### the script -/
def ScrG (K : PySem.W.Frag) (G : DH) (a : Addr) (vs : List V) : Prop := G a = some (.raw (.lst vs)) ∨ (∃ o, G a = some (.raw (.frz o (.lst vs)))) ∨
  ∃ (o : Obj) (its : Array Value) (n : Nat), K.lookup a = some o ∧ o.cls = .type "list" ∧ o.dict = none ∧ o.data = .seq its n ∧ its.size ≤ sizeLine ∧ Vals vs its.toList
theorem ScrG.sql {Y : Wd} {H : Hp} {G : DH} {a : Addr} {vs : List V} (hr : HRep Y H G) (h : ScrG Y.K G a vs) : SqL Y.K H a vs := by
  rcases h with h | ⟨o, h⟩ | h
  · exact .inl (.inl (hr _ _ h))
  · exact .inl (.inr ⟨o, hr _ _ h⟩)
  · exact .inr h
/-- the heap that a law starts from: the script at a, the empty tables -/
noncomputable def lawG (H : Hp) (a : Addr) (ts : List Addr) : DH := fun b => if b = a then (match H a with
    | some o => some (.raw o)
    | none => none) else if b ∈ ts then some (.raw (.tbl #[])) else none
theorem lawG_rep {Y : Wd} {H : Hp} {a : Addr} {ts : List Addr} (ht : ∀ t ∈ ts, H t = some (.tbl #[])) : HRep Y H (lawG H a ts) := fun b o e => by
  unfold lawG at e
  split at e
  · rename_i hb
    subst hb
    split at e
    · rename_i u hu; cases e; exact hu
    · cases e
  · split at e
    · rename_i hm; cases e; exact ht b hm
    · cases e
theorem lawG_scr {K : PySem.W.Frag} {H : Hp} {a : Addr} {ts : List Addr} {vs : List V} (h : SqL K H a vs) : ScrG K (lawG H a ts) a vs := by
  rcases h with (h | ⟨o, h⟩) | h
  · exact .inl (by unfold lawG; rw [if_pos rfl, h])
  · exact .inr (.inl ⟨o, by unfold lawG; rw [if_pos rfl, h]⟩)
  · exact .inr (.inr h)
theorem lawG_tab {K : PySem.W.Frag} {H : Hp} {a t : Addr} {ts : List Addr} {vs : List V} {q : Str} (h : SqL K H a vs) (ht : ∀ t ∈ ts, H t = some (.tbl #[])) (nk : ∀ t ∈ ts, K.lookup t = none) (hm : t ∈ ts) : TabD t q (lawG H a ts) := by
  have ne : t ≠ a := fun z => by
    have e := ht t hm
    rw [z] at e
    rcases h with (h | ⟨o, h⟩) | ⟨o, its, n, h, _⟩
    · rw [e] at h; cases h
    · rw [e] at h; cases h
    · rw [← z, nk t hm] at h; cases h
  refine ⟨#[], ?_, True.intro, fun pos cv hc => ?_⟩
  · unfold lawG
    rw [if_neg ne, if_pos hm]
  · have z : codeAmong pos ([] : List Value) = some cv := hc
    first
      | cases z
      | (unfold codeAmong at z; cases z)
      | (simp [codeAmong, codeGo] at z)
section
variable {X : Cx}
/-- script[lo:hi] -/
def rScr (K : PySem.W.Frag) : DSl := fun d lo hi G Q => ∃ (a : Addr) (ns : List Int), d = .ref a ∧ ScrG K G a (ns.map V.int) ∧ ∀ p, G p = none → Q (.ref p) (dup G p (.lst (cutD (ns.map D.int) lo hi)))
theorem s_scr : SlR X (lSl (wd X) (rScr X.K)) := by
  intro pins s σ H x v vl vu lo hi sl Q I rx hs pl pu ⟨d, G, Q', pd, hr, q, k⟩
  obtain ⟨a, ns, rfl, sc, q⟩ := q
  obtain rfl : x = .ref a := pd
  refine sl_list pins s σ H _ v vl vu lo hi sl Q I rx hs pl pu ⟨a, ns.map V.int, rfl, sc.sql hr, fun p np => ?_⟩
  exact k _ _ _ _ (q p (hr.free np)) (Ext.new np) (hr.new np ⟨_, upd_same, (RpL.ofInts ns).cut lo hi⟩) rfl
end
end L2.DL

set_option Elab.async false
set_option linter.all false
set_option maxRecDepth 100000
set_option maxHeartbeats 2000000
/-! DAny: rules put together: what is asked decides. -/
namespace L2.DL
open PySem PySem.Spec PyProof.Rows
def or2 (r r' : DR2) : DR2 := fun x y G Q => r x y G Q ∨ r' x y G Q
def orC (r r' : DCR) : DCR := fun ds G Q => r ds G Q ∨ r' ds G Q
section
variable {X : Cx}
theorem op_or {f : Value → Value → Sem Value} {r r' : DR2} (h : OpD X f r) (h' : OpD X f r') : OpD X f (or2 r r') := by
  intro pins s σ H x y v u Q I rx ry ⟨d, e, G, Q', pd, pe, hr, q, k⟩
  rcases q with q | q
  · exact h pins s σ H x y v u Q I rx ry ⟨d, e, G, Q', pd, pe, hr, q, k⟩
  · exact h' pins s σ H x y v u Q I rx ry ⟨d, e, G, Q', pd, pe, hr, q, k⟩
theorem ix_or {r r' : DR2} (h : IxD X r) (h' : IxD X r') : IxD X (or2 r r') := by
  intro value slice pins s σ H x y v u Q I rx ry ⟨d, e, G, Q', pd, pe, hr, q, k⟩ hs
  rcases q with q | q
  · exact h value slice pins s σ H x y v u Q I rx ry ⟨d, e, G, Q', pd, pe, hr, q, k⟩ hs
  · exact h' value slice pins s σ H x y v u Q I rx ry ⟨d, e, G, Q', pd, pe, hr, q, k⟩ hs
theorem c_or {f : Value} {r r' : DCR} (h : CallD X f r) (h' : CallD X f r') : CallD X f (orC r r') := by
  intro pins s σ H vs us Q I rel ⟨ds, G, Q', p, hr, q, k⟩
  rcases q with q | q
  · exact h pins s σ H vs us Q I rel ⟨ds, G, Q', p, hr, q, k⟩
  · exact h' pins s σ H vs us Q I rel ⟨ds, G, Q', p, hr, q, k⟩
/-- a[b] of a dict or a sequence -/
def rIx : DR2 := or2 rGetD rGetS
theorem i_any : IxD X rIx := ix_or i_dict i_seq
/-- * of ints, list * n -/
def rMulA : DR2 := or2 rMulD rRepD
theorem o_mulA : OpD X (binaryOp .Mult) rMulA := op_or o_mul o_rep
/-- sorted -/
def rSorted (Y : Wd) : DCR := orC rSortS (orC rSortD (rSortSet Y))
theorem c_sorted (hc : X.calm = true) (hu : X.A.units + 64 < cLine) : CallD X (.builtin "sorted") (rSorted (wd X)) := c_or c_sortS (c_or (c_sortD hu) (c_sortSet hc))
/-- != -/
def rNe : DR2 := or2 (rNotOf rEqD1) rNeL
theorem o_neA (hu : X.A.units + 64 < cLine) : OpD X (compareOp .NotEq) rNe := op_or (o_ne hu) (o_neL hu)
/-- slices, of the script too -/
def orSl (r r' : DSl) : DSl := fun d lo hi G Q => r d lo hi G Q ∨ r' d lo hi G Q
theorem sl_or {r r' : DSl} (h : SlR X (lSl (wd X) r)) (h' : SlR X (lSl (wd X) r')) : SlR X (lSl (wd X) (orSl r r')) := by
  intro pins s σ H x v vl vu lo hi sl Q I rx hs pl pu ⟨d, G, Q', pd, hr, q, k⟩
  rcases q with q | q
  · exact h pins s σ H x v vl vu lo hi sl Q I rx hs pl pu ⟨d, G, Q', pd, hr, q, k⟩
  · exact h' pins s σ H x v vl vu lo hi sl Q I rx hs pl pu ⟨d, G, Q', pd, hr, q, k⟩
def rSlA (K : PySem.W.Frag) : DSl := orSl rSlice (rScr K)
theorem s_A : SlR X (lSl (wd X) (rSlA X.K)) := sl_or s_any s_scr
/-- list.pop -/
def orM (r r' : DMR) : DMR := fun o ds G Q => r o ds G Q ∨ r' o ds G Q
theorem T_w {e : Expr} {t : DT} (h : PW X e (lT (wd X) t)) : PT X e (lT (wd X) t) := by
  first
    | exact pt_w h
    | exact PW.pt h
    | exact h.pt
    | exact pt_bool h
end
end L2.DL

set_option Elab.async false
set_option linter.all false
set_option maxRecDepth 100000
set_option maxHeartbeats 2000000
/-! DSum: sum of a tuple or a list of ints, sorted of a tuple of texts, extend. -/
namespace PyProof.Rows
open PySem PySem.Spec
section
variable {prog : Program} {w : World} {A : Around} {E : Value → Shared → Prop} {s : Shared}
theorem collect_tupleD {l : Addr} {vs : List Value} {Q : List Value → Shared → Prop} (hl : s.heap.IsTuple l vs.toArray)
    (h : Q vs { s with heap := (s.heap.push (seqObj "list" #[] 0)).update s.heap.objs.size (Obj.mapSeq (· ++ vs.toArray)) }) (hsz : vs.length ≤ sizeLine) :
    wpAny (model prog w) A (collect (.ref l)) Q E s := by
  obtain ⟨o, ho, hc, n, hd⟩ := id hl
  unfold collect
  refine wpAny_bind (wpAny_runValue (codeAny_builtin entry_proto_collect' ?_))
  show wpAny _ _ (do again (.builtin "list.__iadd__" ⟨[← newList [], .ref l], []⟩)) _ _ s
  refine wpAny_bind (wpAny_newList (wpAny_pure ⟨Code.quiet_builtin _ (by decide +kernel), codeAny_builtin entry_list_iadd' ?_⟩))
  show wpAny _ _ (Builtin.List.listExtendWith (.ref s.heap.objs.size) (.ref l) (.ref s.heap.objs.size)) _ _ { s with heap := s.heap.push (seqObj "list" #[] 0) }
  unfold Builtin.List.listExtendWith
  have ho' : (s.heap.push (seqObj "list" #[] 0)).get? l = some o := Heap.get?_push_of_some _ ho
  refine wpAny_bind (wpAny_typeOf (T := "tuple") ⟨o, ho', hc⟩ ?_)
  have ht : (Value.type "tuple" == Value.type "tuple") = true := by rfl
  rw [if_pos (by rw [ht]; simp)]
  refine wpAny_bind (listItems_at ho' hd ?_)
  refine wpAny_bind (listItems_at (xs := #[]) (n := 0) (Heap.get?_push_size _ rfl) rfl ?_)
  rw [if_neg (by simp)]
  refine wpAny_bind (listUpdate_at (xs := #[]) (n := 0) (Heap.get?_push_size _ rfl) rfl ?_ (Nat.zero_le _) (by show (#[] ++ vs.toArray).size ≤ sizeLine + 1; simp only [Array.size_append, List.size_toArray, List.length_nil]; omega))
  refine wpAny_pure ?_
  show wpAny (model prog w) A (do
      let o ← load s.heap.objs.size
      match o.data with
      | .seq xs _ => pure xs.toList
      | _ => unsupported "internal:collect") Q E { s with heap := (s.heap.push (seqObj "list" #[] 0)).update s.heap.objs.size (Obj.mapSeq (· ++ vs.toArray)) }
  refine wpAny_bind (wpAny_load (get?_update_seq (Heap.get?_push_size _ rfl) _) ?_)
  show wpAny _ _ (pure ((#[] : Array Value) ++ vs.toArray).toList) Q E _
  rw [show ((#[] : Array Value) ++ vs.toArray).toList = vs by simp]
  exact wpAny_pure h
/-- sorted(a tuple of fewer than 64 texts) -/
theorem sorted_tupS {l : Addr} {vs : List Value} {ss : List Str} {Q : Value → Shared → Prop} (hl : s.heap.IsTuple l vs.toArray) (hI : StrsAre vs ss) (h64 : vs.length < 64)
    (hQ : ∀ h' p (out : Array Value) (c : Nat) (ys : List Str), (∀ b o, s.heap.get? b = some o → h'.get? b = some o) → s.heap.objs.size ≤ p → h'.get? p = some (seqObj "list" out c) → StrsAre out.toList ys → ys.Perm ss → sortedS ys = true → Q (.ref p) { s with heap := h' }) :
    wpAny (model prog w) A (call (.builtin "sorted") [.ref l]) Q E s := by
  refine Calls.call_function_entry kind_sorted plain_sorted entry_sorted (args_sorted1 _) ?_
  unfold Builtin.«sorted»
  refine wpAny_bind (m := checkCount "sorted" 1 1 _) (wpAny_pure ?_)
  refine wpAny_bind (collect_tupleD hl ?_ (by rw [sizeLine_eq]; omega))
  generalize hs1 : (s.heap.push (seqObj "list" #[] 0)).update s.heap.objs.size (Obj.mapSeq (· ++ vs.toArray)) = h1
  have k1 : ∀ b o, s.heap.get? b = some o → h1.get? b = some o := fun b o e => by
    rw [← hs1]
    exact (Heap.get?_update_other _ _ (Nat.ne_of_lt (Heap.lt_size e)).symm).trans (Heap.get?_push_of_some _ e)
  have hz : s.heap.objs.size ≤ h1.objs.size := by
    rw [← hs1, Heap.size_update, size_push']; omega
  refine wpAny_bind (wpAny_newList ?_ (by rw [sizeLine_eq]; omega))
  have hoL : (h1.push (seqObj "list" vs.toArray 0)).get? h1.objs.size = some (seqObj "list" vs.toArray 0) := Heap.get?_push_size _ rfl
  refine wpAny_bind (wpAny_holding (wpAny_call_entry slot_list_sort ⟨_, hoL, rfl⟩ entry_list_sort (list_sort_treeK strKind_oneLt hoL hI.keysOf (fun v1 v2 rest e => keyKind_strs (by rw [← e]; exact hI)) h64 fun st' hp hs => ?_) (args_list_sort _)))
  obtain ⟨ys, y1, y2, y3⟩ := sorted_out_str hI hp hs
  obtain ⟨c, hc⟩ := sortedHeap_at (vs := vs) (out := (arrOf st').map (·.2)) hoL
  refine ⟨_, rfl, wpAny_pure ⟨_, rfl, hQ _ h1.objs.size _ c ys (fun b u e => ?_) hz hc y1 y2 y3⟩⟩
  have q := k1 b u e
  have ql := Heap.lt_size q
  show (sortedHeap (h1.push (seqObj "list" vs.toArray 0)) h1.objs.size vs ((arrOf st').map (·.2))).get? b = some u
  rw [sortedHeap_old (Nat.ne_of_lt ql) (by rw [size_push']; exact Nat.lt_succ_of_lt ql)]
  exact Heap.get?_push_of_some _ q
theorem sum_tupG {l : Addr} {xs : Array (Int × Tok)} {Q : Value → Shared → Prop} (hh : A.handled = none) (hl : s.heap.IsTuple l (intItems xs))
    (h : ∀ h' tk t', (∀ b o, s.heap.get? b = some o → h'.get? b = some o) → Q (.int (preSum (numAt xs) xs.size) t') { s with heap := h', toks := tk }) :
    wpAny (model prog w) A (call (.builtin "sum") [.ref l]) Q E s := by
  have hlt : l < s.heap.objs.size := by obtain ⟨_, e, _⟩ := hl; exact Heap.lt_size e
  refine call_sum_walkG (wpAny_pyIter_tuple hl ?_)
  refine ⟨_, _, _, _, _, _, numAt xs, rfl, Walks.tuple (A := A.in1) hh _ l (Nat.ne_of_lt hlt) (intItems xs), ⟨⟨_, Heap.get?_push_size _ rfl, rfl, rfl⟩, hl.push _⟩, (fun b hb => ?_), (fun _ _ => intItems_at), fun h' tk t' hk => ?_⟩
  · show b < (s.heap.push _).objs.size
    rw [Heap.size_push]
    rcases List.mem_cons.mp hb with rfl | hb
    · exact Nat.lt_succ_self _
    · rcases List.mem_cons.mp hb with rfl | hb
      · exact Nat.lt_succ_of_lt hlt
      · cases hb
  · have := h h' tk t' fun b o e => hk b o (fun hm => by
      rcases List.mem_cons.mp hm with e1 | hm
      · exact absurd (e1 ▸ Heap.lt_size e) (Nat.lt_irrefl _)
      · cases hm) (Heap.get?_push_of_some _ e)
    simpa [intItems] using this
end
end PyProof.Rows
namespace L2.DL
open PySem PySem.Spec PyProof.Rows
theorem lookup_re {env : Env} : ∀ {names : List (Str × NameKind)} {x : Str}, (names.lookup x = some .cell ∨ names.lookup x = some .free) →
    (names.map fun (n, k) => if (k == NameKind.free && env.scope.kind == .function && env.kindOf n == some .cell) then (n, NameKind.cell) else (n, k)).lookup x = some .cell ∨
    (names.map fun (n, k) => if (k == NameKind.free && env.scope.kind == .function && env.kindOf n == some .cell) then (n, NameKind.cell) else (n, k)).lookup x = some .free
  | [], _, h => by simp at h
  | (n, k) :: r, x, h => by
    have ih := @lookup_re env r x
    show List.lookup x ((if (k == NameKind.free && env.scope.kind == .function && env.kindOf n == some .cell) = true then (n, NameKind.cell) else (n, k)) :: _) = _ ∨ List.lookup x ((if (k == NameKind.free && env.scope.kind == .function && env.kindOf n == some .cell) = true then (n, NameKind.cell) else (n, k)) :: _) = _
    cases hx : x == n with
    | true =>
      simp only [List.lookup_cons, hx] at h
      by_cases hc : (k == NameKind.free && env.scope.kind == .function && env.kindOf n == some .cell) = true
      · rw [if_pos hc]; simp [List.lookup_cons, hx]
      · rw [if_neg hc]; simp only [List.lookup_cons, hx]; exact h
    | false =>
      simp only [List.lookup_cons, hx] at h
      by_cases hc : (k == NameKind.free && env.scope.kind == .function && env.kindOf n == some .cell) = true
      · rw [if_pos hc]; simp only [List.lookup_cons, hx]; exact ih h
      · rw [if_neg hc]; simp only [List.lookup_cons, hx]; exact ih h
theorem blkOk_re {N : List Str} {sc scope : Scope} {env : Env} {own : List (Str × Nat)} (h : BlkOk N sc scope own) : BlkOk N (relabel sc env) scope own :=
  ⟨h.kind, h.uniq, h.ix, fun y hy hf => lookup_re (h.free y hy hf), h.own⟩
section
variable {X : Cx}
def intsOf : List D → Option (List Int)
  | [] => some []
  | .int b :: r => (intsOf r).map (b :: ·)
  | _ => none
theorem intsOf_map : ∀ {xs : List D} {bs : List Int}, intsOf xs = some bs → xs = bs.map D.int
  | [], bs, h => by cases h; rfl
  | .int b :: r, bs, h => by
    simp only [intsOf] at h
    cases q : intsOf r with
    | none => rw [q] at h; cases h
    | some cs => rw [q] at h; cases h; rw [intsOf_map q]; rfl
  | .non :: _, _, h => by cases h
  | .str _ :: _, _, h => by cases h
  | .bl _ :: _, _, h => by cases h
  | .tup _ :: _, _, h => by cases h
  | .ref _ :: _, _, h => by cases h
theorem intsOf_of (bs : List Int) : intsOf (bs.map D.int) = some bs := by
  induction bs with
  | nil => rfl
  | cons b bs ih => simp only [List.map_cons, intsOf, ih]; rfl
/-- sum of a tuple of ints -/
def rSumT : DCR := fun ds G Q => match ds with
  | [.tup xs] => match intsOf xs with | some ns => Q (.int ns.sum) G | none => False
  | _ => False
theorem c_sumT (hc : X.calm = true) : CallD X (.builtin "sum") rSumT := by
  intro pins s σ H vs us Q I rel ⟨ds, G, Q', p, hr, q, k⟩
  match ds, q with
  | [.tup xs], q =>
    obtain ⟨v, rfl, p1⟩ := p.one
    obtain ⟨a, ws, rfl, h1, h2⟩ := p1
    simp only [rSumT] at q
    split at q
    · rename_i ns ens
      rw [Vals.ref1 rel]
      obtain ⟨its, rv, hl, _⟩ := I.tuple h1
      rw [intsOf_map ens] at h2
      have e := h2.ints
      subst e
      have hi := rv.ints
      obtain ⟨ys, e2⟩ := hi.allInts.items
      have hn : numsOf (intItems ys).toList = ns := by rw [← e2]; exact hi.numsOf
      rw [nums_intItems] at hn
      have hl' : s.heap.IsTuple a its.toArray := hl
      rw [e2] at hl'
      refine sum_tupG (I.ok.hd hc) hl' fun h' tk t' hk => ⟨.int _, H, I.kept hk, ?_, k.here q hr rfl⟩
      rw [preSum_eq, List.take_of_length_le (by simp), hn]; exact ⟨_, rfl⟩
    · exact q.elim
/-- sorted of a tuple of texts -/
def rSortT : DCR := fun ds G Q => match ds with
  | [.tup xs] => match strsOf xs with | some zs => zs.length < 64 ∧ ∀ ys p, ys.Perm zs → sortedS ys = true → G p = none → Q (.ref p) (dup G p (.lst (ys.map D.str))) | none => False
  | _ => False
theorem c_sortT : CallD X (.builtin "sorted") rSortT := by
  intro pins s σ H vs us Q I rel ⟨ds, G, Q', p, hr, q, k⟩
  match ds, q with
  | [.tup xs], q =>
    obtain ⟨v, rfl, p1⟩ := p.one
    obtain ⟨a, ws, rfl, h1, h2⟩ := p1
    simp only [rSortT] at q
    split at q
    · rename_i zs ez
      rw [Vals.ref1 rel]
      obtain ⟨its, rv, hl, _⟩ := I.tuple h1
      rw [strsOf_map ez] at h2
      have e := h2.strs
      subst e
      have hi := rv.strs
      have ln := rv.length
      rw [List.length_map] at ln
      refine sorted_tupS hl hi (by rw [← ln]; exact q.1) fun h' p out c ys k1 hp hg hi2 hm hs => ?_
      have hn : H p = none := I.hok.fresh hp
      have hlen : (ys.map V.str).length ≤ sizeLine := by rw [List.length_map, hm.length_eq, sizeLine_eq]; omega
      exact ⟨.ref p, upd H p (.lst (ys.map V.str)), I.laid (t' := s.toks) k1 hp ⟨hlen, out.toList, c, vals_of_strs hi2, hg⟩, rfl, k _ _ _ _ (q.2 ys p hm hs (hr.free hn)) (Ext.new hn) (hr.new hn ⟨_, upd_same, RpL.ofStrs ys⟩) rfl⟩
    · exact q.elim
/-- a.extend(b), both lists -/
def rExt : DMR := fun o ds G Q => match o, ds with
  | .ref a, [.ref b] => a ≠ b ∧ withL G a fun xs => withL G b fun zs => xs.length + zs.length ≤ 16777216 ∧ Q .non (dup G a (.lst (xs ++ zs)))
  | _, _ => False
theorem m_extend : MtD X "list.extend" rExt := by
  intro pins s σ H x xs v us Q I rx rv ⟨d, ds, G, Q', pd, pds, hr, q, k⟩
  match d, ds, q with
  | .ref a, [.ref b], q =>
    cases pd
    obtain ⟨y, rfl, py⟩ := pds.one
    cases py
    obtain ⟨ne, q⟩ := q
    unfold withL at q
    split at q
    · rename_i zs e
      split at q
      · rename_i ts e2
        obtain ⟨ws, h1, h2⟩ := hr _ _ e
        obtain ⟨us2, g1, g2⟩ := hr _ _ e2
        have x2 : Ext H (upd H a (.lst (ws ++ us2))) := Ext.put h1 (fun _ z => by cases z) (fun _ _ z => by cases z)
        exact mt_extend pins s σ H _ _ v us Q I rx rv ⟨a, b, ws, us2, rfl, rfl, h1, g1, by rw [line_eq, ← h2.len, ← g2.len]; exact q.1, k _ _ _ _ q.2 x2 (hr.put x2 ⟨_, upd_same, (h2.app g2).ext x2⟩) rfl⟩
      · exact q.elim
    · exact q.elim
end
end L2.DL

set_option Elab.async false
set_option linter.all false
set_option maxRecDepth 100000
set_option maxHeartbeats 1000000
/-! DList: stores in lists. -/
namespace L2.DL
open PySem PySem.Spec PyProof.Rows
section
variable {X : Cx}
def rPutL : DSet := fun o i v G Q => match o, i with
  | .ref a, .int k => withL G a fun xs => match ixN xs.length k with | some j => Q (dup G a (.lst (xs.set j v))) | none => False
  | _, _ => False
theorem p_list : PSet X (lSet (wd X) rPutL) := by
  intro pins s σ H o i v ov iv u Q I ro ri rv ⟨d, e, f, G, Q', pd, pe, pf, hr, q, k⟩
  match d, e, q with
  | .ref a, .int n, q =>
    cases pd; cases pe
    simp only [rPutL, withL] at q
    split at q
    · rename_i xs e3
      split at q
      · rename_i j ej
        obtain ⟨vs, h1, h2⟩ := hr _ _ e3
        have x : Ext H (upd H a (.lst (vs.set j v))) := Ext.put h1 (fun _ z => by cases z) (fun _ _ z => by cases z)
        exact set_list pins s σ H _ _ v ov iv u Q I ro ri rv ⟨a, vs, n, j, rfl, rfl, h1, by rw [← h2.len]; exact ej, k _ _ q x (hr.put x ⟨_, upd_same, (h2.set j pf).ext x⟩)⟩
      · exact q.elim
    · exact q.elim
end
end L2.DL

set_option Elab.async false
set_option linter.all false
set_option maxRecDepth 100000
set_option maxHeartbeats 1000000
/-! DLz: list(zip(a, b)) of two lists. -/
namespace L2.DL
open PySem PySem.Spec PyProof.Rows

/-- a zip at its turn i; S: the list that is filled -/
def ZSt (z TI TO i1 i2 a b S : Addr) (i : Nat) (h : Heap) : Prop := IsPair h TI (.ref i1) (.ref i2) ∧ h.IsListIter i1 a i ∧ h.IsListIter i2 b i ∧
  ((IsZip h z TI TO .none ∧ ∃ x y, IsPair h TO x y) ∨ ∃ T f oT, IsZipHeld h z TI TO T f ∧ h.get? T = some oT ∧ T ≠ z ∧ T ≠ i1 ∧ T ≠ i2 ∧ T ≠ S)
theorem ZSt.at {z TI TO i1 i2 a b S : Addr} {i : Nat} {h h' : Heap} (st : ZSt z TI TO i1 i2 a b S i h) (n : S ∉ [z, TI, TO, i1, i2]) (k : ∀ c o, c ≠ S → h.get? c = some o → h'.get? c = some o) : ZSt z TI TO i1 i2 a b S i h' := by
  simp only [List.mem_cons, List.not_mem_nil, or_false, not_or] at n
  obtain ⟨n1, n2, n3, n4, n5⟩ := n
  obtain ⟨hTI, h1, h2, hz⟩ := st
  refine ⟨k _ _ (Ne.symm n2) hTI, h1.at fun o e => k _ o (Ne.symm n4) e, h2.at fun o e => k _ o (Ne.symm n5) e, ?_⟩
  rcases hz with ⟨hz, x, y, hTO⟩ | ⟨T, f, oT, hz, hT, r1, r2, r3, r4⟩
  · exact .inl ⟨k _ _ (Ne.symm n1) hz, x, y, k _ _ (Ne.symm n3) hTO⟩
  · exact .inr ⟨T, f, oT, k _ _ (Ne.symm n1) hz, k _ _ r4 hT, r1, r2, r3, r4⟩
section
variable {X : Cx} {pins : List (Addr × Obj)} {σ : St} {A : Around} {G : DH} {a b z TI TO i1 i2 S : Addr} {xs ys : List D} {H0 : Hp} {R : Result → Shared → Prop}
theorem ext_zip (hh : A.handled = none) (D0 : ZipApart z TI TO i1 i2 a b) (nS : S ∉ [z, TI, TO, i1, i2]) (ha : a ≠ S) (hb : b ≠ S) (ea : G a = some (.lst xs)) (eb : G b = some (.lst ys)) (hz : (zipD xs ys).length < 16777216) {L : Nat} (hsz : ∀ c ∈ [z, TI, TO, i1, i2], c < L)
    (fin : ∀ s' H', Inv X pins σ H' s' → Ext H0 H' → HRep (wd X) H' (dup G S (.lst (zipD xs ys))) → R (.ok (.ret .none)) s') :
    ∀ (k i : Nat) (s : Shared) (H : Hp), (zipD xs ys).length - i = k → i ≤ (zipD xs ys).length → Inv X pins σ H s → Ext H0 H → HRep (wd X) H (dup G S (.lst ((zipD xs ys).take i))) → ZSt z TI TO i1 i2 a b S i s.heap → L ≤ s.heap.objs.size → (∀ c ∈ [z, TI, TO, i1, i2], FpOk X pins H c) →
      codeAny (model X.prog X.w) A (.builtin "list.extend.loop" ⟨[.ref S, .ref z, .none], []⟩) R s := by
  intro k
  induction k with
  | zero =>
    intro i s H hk hi I x0 hr st hL hf
    have hi' : (zipD xs ys).length ≤ i := by omega
    refine codeAny_builtin F.entry_extend_loop ?_
    rw [Around.under_plainId F.plain_extend_loop _]
    show wpAny _ A.in1 (pyNext (.ref z) >>= _) _ _ s
    obtain ⟨hTI, h1, h2, hzz⟩ := st
    obtain ⟨vs, e1, p1⟩ := hr a _ (by rw [dup_ne ha]; exact ea)
    obtain ⟨us, e2, p2⟩ := hr b _ (by rw [dup_ne hb]; exact eb)
    obtain ⟨its, rv, pl, _⟩ := I.list (.inl (.inl e1))
    obtain ⟨its2, rv2, pl2, _⟩ := I.list (.inl (.inl e2))
    have he : its.toArray[i]? = none ∨ its2.toArray[i]? = none := by
      have l1 := rv.length
      have l2 := rv2.length
      have l3 := p1.len
      have l4 := p2.len
      rcases zip_end hi' with q | q
      · exact .inl (by simp; omega)
      · exact .inr (by simp; omega)
    have done : ∀ h', (∀ c o, c ≠ z → c ≠ TO → c ≠ i1 → c ≠ i2 → s.heap.get? c = some o → h'.get? c = some o) → R (.ok (.ret .none)) { s with heap := h' } := fun h' hk => by
      refine fin _ H (I.turnedL (t' := s.toks) (ch := [z, TI, TO, i1, i2]) (fun c o hb q => hk c o (fun q' => hb (by simp [q'])) (fun q' => hb (by simp [q'])) (fun q' => hb (by simp [q'])) (fun q' => hb (by simp [q'])) q) hf) x0 ?_
      rw [List.take_of_length_le hi'] at hr
      exact hr
    refine wpAny_bind ?_
    rcases hzz with ⟨hzz, x, y, hTO⟩ | ⟨T, f, oT, hzz, hT, r1, r2, r3, r4⟩
    · exact wpAny_pyNext_zip_end hh D0 hzz hTI hTO h1 h2 pl.isList pl2.isList he fun h' hk => wpAny_pure (done h' hk)
    · exact wpAny_pyNext_zip_end_held hh D0 hzz hT hTI h1 h2 pl.isList pl2.isList he fun h' hk => wpAny_pure (done h' fun c o c1 _ c3 c4 q => hk c o c1 c3 c4 q)
  | succ k ih =>
    intro i s H hk hi I x0 hr st hL hf
    have hlt : i < (zipD xs ys).length := by omega
    obtain ⟨dx, dy, ex, ey, ed⟩ := zip_get (List.getElem?_eq_getElem hlt)
    refine codeAny_builtin F.entry_extend_loop ?_
    rw [Around.under_plainId F.plain_extend_loop _]
    show wpAny _ A.in1 (pyNext (.ref z) >>= _) _ _ s
    obtain ⟨hTI, h1, h2, hzz⟩ := st
    obtain ⟨vs, e1, p1⟩ := hr a _ (by rw [dup_ne ha]; exact ea)
    obtain ⟨us, e2, p2⟩ := hr b _ (by rw [dup_ne hb]; exact eb)
    obtain ⟨its, rv, pl, _⟩ := I.list (.inl (.inl e1))
    obtain ⟨its2, rv2, pl2, _⟩ := I.list (.inl (.inl e2))
    obtain ⟨x, gx, px⟩ := p1.get ex
    obtain ⟨y, gy, py⟩ := p2.get ey
    obtain ⟨u, hu, ru⟩ := rv.get gx
    obtain ⟨u2, hu2, ru2⟩ := rv2.get gy
    have lt : ∀ {c o}, s.heap.get? c = some o → s.heap.objs.size ≠ c := fun e => Nat.ne_of_gt (Heap.lt_size e)
    obtain ⟨ws, e3, p3⟩ := hr S _ dup_same
    obtain ⟨its3, m3, rv3, ho3, hz3⟩ := I.lst e3
    have lts : ∀ c ∈ [z, TI, TO, i1, i2], c < s.heap.objs.size := fun c hc => Nat.lt_of_lt_of_le (hsz c hc) hL
    have nS' := nS
    simp only [List.mem_cons, List.not_mem_nil, or_false, not_or] at nS'
    have step : ∀ (h' : Heap), ZSt z TI TO i1 i2 a b S (i + 1) h' → IsPair h' s.heap.objs.size u u2 → (∀ c o, c ∉ [z, TI, TO, i1, i2] → s.heap.get? c = some o → h'.get? c = some o) →
        L ≤ h'.objs.size → wpAny (model X.prog X.w) A.in1 (updateSeq S (·.push (.ref s.heap.objs.size)) >>= fun _ => again (.builtin "list.extend.loop" ⟨[.ref S, .ref z, .none], []⟩)) (fun fin s' => match fin with | .done f => R (.ok f) s' | .again c' => c'.quiet = true ∧ codeAny (model X.prog X.w) A c' R s') (fun e s' => R (.error e) s') { s with heap := h' } := by
      intro h' st' hp hk hL'
      have new : ObjOk X.prog X.w (upd H s.heap.objs.size (.tup [x, y])) h' s.heap.objs.size (.tup [x, y]) :=
        ⟨by show 2 ≤ sizeLine; decide, [u, u2], .cons ru (.cons ru2 .nil), ⟨_, hp, rfl, _, rfl⟩⟩
      have hn : H s.heap.objs.size = none := I.hok.fresh (Nat.le_refl _)
      have I1 : Inv X pins σ (upd H s.heap.objs.size (.tup [x, y])) { s with heap := h' } := I.turnedNew (t' := s.toks) (ch := [z, TI, TO, i1, i2]) hk hf (Nat.le_refl _) new
      have x1 : Ext H (upd H s.heap.objs.size (.tup [x, y])) := Ext.new hn
      have sS : S ≠ s.heap.objs.size := fun z => by rw [z, hn] at e3; cases e3
      have e3' : (upd H s.heap.objs.size (.tup [x, y])) S = some (.lst ws) := by rw [upd_ne sS]; exact e3
      have ho' := hk S _ nS ho3
      have lw := rv3.length
      have lw2 := p3.len
      rw [List.length_take] at lw2
      have en : H s.heap.objs.size = none := hn
      have I2 : Inv X pins σ (upd (upd H s.heap.objs.size (.tup [x, y])) S (.lst (ws ++ [.ref s.heap.objs.size]))) { s with heap := h'.update S (Obj.mapSeq (·.push (Value.ref s.heap.objs.size))) } :=
        I1.lset (its' := its3 ++ [Value.ref s.heap.objs.size]) e3' ho' (by simp) (rv3.append (.cons rfl .nil)) (by rw [List.length_append, List.length_singleton, line_eq]; omega)
      have x2 : Ext (upd H s.heap.objs.size (.tup [x, y])) (upd (upd H s.heap.objs.size (.tup [x, y])) S (.lst (ws ++ [.ref s.heap.objs.size]))) := Ext.put e3' (fun _ z => by cases z) (fun _ _ z => by cases z)
      have r1 := hr.hid (o := .tup [x, y]) en
      have et : (zipD xs ys).take (i + 1) = (zipD xs ys).take i ++ [.tup [dx, dy]] := by rw [← ed, List.take_succ_eq_append_getElem hlt]
      have r2 : HRep (wd X) (upd (upd H s.heap.objs.size (.tup [x, y])) S (.lst (ws ++ [.ref s.heap.objs.size]))) (dup G S (.lst ((zipD xs ys).take (i + 1)))) := by
        have := r1.put (u := .lst ((zipD xs ys).take (i + 1))) x2 ⟨_, upd_same, by rw [et]; exact ((p3.ext x1).snoc (zip_pair en px py)).ext x2⟩
        rw [dup_dup] at this
        exact this
      refine wpAny_bind (wpAny_updateSeq ho' rfl (wpAny_pure ⟨plainId_quiet F.plain_extend_loop _, ?_⟩) (by simp; rw [← lw, sizeLine_eq]; omega) (by simp; rw [← lw, sizeLine_eq]; omega))
      refine ih (i + 1) _ _ (by omega) hlt I2 ((x0.trans x1).trans x2) r2 (st'.at nS fun c o hc e => (Heap.get?_update_other _ _ (Ne.symm hc)).trans e) (by show L ≤ (h'.update S _).objs.size; rw [Heap.size_update]; exact hL') fun c hc => ?_
      have f0 := hf c hc
      have hcl : c ≠ s.heap.objs.size := fun q => by
        have := f0.1
        have g := lts c hc
        rw [q] at g
        exact Nat.lt_irrefl _ g
      refine ⟨?_, f0.2⟩
      rw [upd_ne (fun q => nS (by rw [← q]; exact hc)), upd_ne hcl]
      exact f0.1
    refine wpAny_bind ?_
    rcases hzz with ⟨hzz, x', y', hTO⟩ | ⟨T, f, oT, hzz, hT, r1, r2, r3, r4⟩
    · refine wpAny_pyNext_zip_item D0 hzz hTI hTO h1 h2 pl.isList pl2.isList (x := u) (y := u2) (by simpa using hu) (by simpa using hu2) fun h' a1 a2 a3 a4 a5 a6 hk => ?_
      refine step h' ⟨hk _ _ D0.TIz D0.TITO D0.TIi1 D0.TIi2 hTI, a3, a4, .inr ⟨s.heap.objs.size, false, _, a1, a5, lt hzz, (let ⟨_, e, _⟩ := h1; lt e), (let ⟨_, e, _⟩ := h2; lt e), lt ho3⟩⟩ a5 (fun c o hc q => hk c o (fun q' => hc (by simp [q'])) (fun q' => hc (by simp [q'])) (fun q' => hc (by simp [q'])) (fun q' => hc (by simp [q'])) q) (by omega)
    · refine wpAny_pyNext_zip_item_held D0 hzz hT hTI h1 h2 pl.isList pl2.isList (x := u) (y := u2) (by simpa using hu) (by simpa using hu2) fun h' a1 a3 a4 a5 a6 hk => ?_
      refine step h' ⟨hk _ _ D0.TIz D0.TIi1 D0.TIi2 hTI, a3, a4, .inr ⟨T, true, oT, a1, hk _ _ r1 r2 r3 hT, r1, r2, r3, r4⟩⟩ a5 (fun c o hc q => hk c o (fun q' => hc (by simp [q'])) (fun q' => hc (by simp [q'])) (fun q' => hc (by simp [q'])) q) (by omega)
theorem zip_no_len : typeLookup (.type "zip") "__len__" = pure none := am_miss_of_fast (by decide +kernel)
theorem zip_no_hint : typeLookup (.type "zip") "__length_hint__" = pure none := am_miss_of_fast (by decide +kernel)
theorem init_zip {H : Hp} {s : Shared} (hh : A.handled = none) (D0 : ZipApart z TI TO i1 i2 a b) (nS : S ∉ [z, TI, TO, i1, i2]) (ha : a ≠ S) (hb : b ≠ S) (ea : G a = some (.lst xs)) (eb : G b = some (.lst ys)) (hz : (zipD xs ys).length < 16777216)
    (hsz : ∀ c ∈ [z, TI, TO, i1, i2], c < s.heap.objs.size) (hS : s.heap.get? S = some { cls := .type "list", data := .seq #[] })
    (I : Inv X pins σ H s) (x0 : Ext H0 H) (eS : H S = some (.lst [])) (hr : HRep (wd X) H (dup G S (.lst []))) (st : ZSt z TI TO i1 i2 a b S 0 s.heap) (hzz : IsZip s.heap z TI TO .none)
    (hf : ∀ c ∈ [z, TI, TO, i1, i2], FpOk X pins H c)
    (fin : ∀ s' H', Inv X pins σ H' s' → Ext H0 H' → HRep (wd X) H' (dup G S (.lst (zipD xs ys))) → R (.ok (.ret .none)) s') :
    wpAny (model X.prog X.w) A.in1 (Builtin.«list.__init__» ⟨[.ref S, .ref z], []⟩)
      (fun fin s' => match fin with | .done f => R (.ok f) s' | .again c' => c'.quiet = true ∧ codeAny (model X.prog X.w) A c' R s') (fun e s' => R (.error e) s') s := by
  have nz : S ≠ z := fun q => nS (by rw [q]; simp)
  have put : ∀ {H : Hp}, Ext H0 H → H S = some (.lst []) → HRep (wd X) H (dup G S (.lst [])) → Ext H0 (upd H S (.lst [])) ∧ (upd H S (.lst [])) S = some (.lst []) ∧ HRep (wd X) (upd H S (.lst [])) (dup G S (.lst [])) := fun x e r => by
    have x2 := Ext.put (o := .lst []) e (fun _ z => by cases z) (fun _ _ z => by cases z)
    have := r.put (u := .lst []) x2 ⟨[], upd_same, RpL.nil⟩
    rw [dup_dup] at this
    exact ⟨x.trans x2, upd_same, this⟩
  have f2 : ∀ {H : Hp}, (∀ c ∈ [z, TI, TO, i1, i2], FpOk X pins H c) → ∀ c ∈ [z, TI, TO, i1, i2], FpOk X pins (upd H S (.lst [])) c := fun h c hc => ⟨by rw [upd_ne fun q => nS (by rw [← q]; exact hc)]; exact (h c hc).1, (h c hc).2⟩
  show wpAny _ A.in1 (do let old ← Builtin.List.listItems (.ref S); Builtin.List.listUpdate (.ref S) (fun _ => #[]); letGo old.toList.reverse; Builtin.List.listExtendWith (.ref S) (.ref z) .none) _ _ s
  refine wpAny_bind ?_
  unfold Builtin.List.listItems
  refine wpAny_bind (wpAny_seqItems hS rfl (wpAny_pure ?_))
  show wpAny _ A.in1 (updateSeq S (fun _ => #[]) >>= fun _ => letGo (#[] : Array Value).toList.reverse >>= fun _ => Builtin.List.listExtendWith (.ref S) (.ref z) .none) _ _ s
  refine wpAny_bind (wpAny_updateSeq hS rfl ?_)
  have hS₂ := Heap.get?_update_self (Obj.mapSeq (fun _ => (#[] : Array Value))) hS rfl
  have I2 := I.lset (its := []) (its' := []) (f := fun _ => (#[] : Array Value)) (ys := []) (t' := s.toks) eS hS rfl .nil (Nat.zero_le _)
  obtain ⟨x2, e2, r2⟩ := put x0 eS hr
  have hf2 := f2 hf
  have st2 := st.at (h' := s.heap.update S (Obj.mapSeq (fun _ => (#[] : Array Value)))) nS fun c o hc e => (Heap.get?_update_other _ _ (Ne.symm hc)).trans e
  have hz2 : IsZip (s.heap.update S (Obj.mapSeq (fun _ => (#[] : Array Value)))) z TI TO .none := (Heap.get?_update_other _ _ nz).trans hzz
  have sz2 : (s.heap.update S (Obj.mapSeq (fun _ => (#[] : Array Value)))).objs.size = s.heap.objs.size := Heap.size_update ..
  refine wpAny_bind (wpAny_letGo ?_)
  generalize hg : s.heap.update S (Obj.mapSeq (fun _ => (#[] : Array Value))) = g2 at *
  have hTz : ∀ (g : Heap) (s' : Shared), IsZip g z TI TO .none → s'.heap = g → s'.TypeIs (.ref z) "zip" := fun g s' h e => ⟨_, by rw [e]; exact h, rfl⟩
  have hT2 : Shared.TypeIs { s with heap := g2 } (.ref z) "zip" := ⟨_, hz2, rfl⟩
  unfold Builtin.List.listExtendWith
  refine wpAny_bind (wpAny_typeOf hT2 ?_)
  have h1 : Builtin.List.listSameRef (.ref S) (.ref z) = false := by simp [Builtin.List.listSameRef, nz]
  have h2 : (Value.type "zip" == Value.type "list") = false := by decide
  have h3 : (Value.type "zip" == Value.type "tuple") = false := by decide
  simp only [h1, h2, h3, Bool.or_false, Bool.false_eq_true, if_false]
  refine wpAny_bind (wpAny_pyIter_zip hz2 ?_)
  refine wpAny_bind (wpAny_holding ?_)
  unfold Builtin.List.listLengthHint
  refine wpAny_bind (wpAny_specialOf hT2 zip_no_len ?_)
  show wpAny _ A.in1 (specialOf (Value.ref z) (Str.ofString "__length_hint__") >>= _) _ _ _
  refine wpAny_bind (wpAny_specialOf hT2 zip_no_hint ?_)
  refine wpAny_pure ?_
  show wpAny _ A.in1 (rule "list.extend.makes-room" >>= fun _ => Builtin.List.listTouch (.ref S) >>= fun _ =>
    again (.builtin "list.extend.loop" ⟨[.ref S, .ref z, .none], []⟩)) _ _ _
  refine wpAny_bind (wpAny_rule ?_)
  refine wpAny_bind ?_
  show wpAny _ A.in1 (updateSeq S (·.push .none) >>= fun _ => updateSeq S (·.pop)) _ _ _
  refine wpAny_bind (wpAny_updateSeq hS₂ rfl ?_)
  have hS₃ := Heap.get?_update_self (Obj.mapSeq (·.push Value.none)) hS₂ rfl
  refine wpAny_updateSeq (hz := by seq_fits) hS₃ rfl ?_
  have hS₄ := Heap.get?_update_self (Obj.mapSeq (·.pop)) hS₃ rfl
  have oth : ∀ c o, c ≠ S → g2.get? c = some o → ((g2.update S (Obj.mapSeq (·.push Value.none))).update S (Obj.mapSeq (·.pop))).get? c = some o :=
    fun c o hc e => (Heap.get?_update_other _ _ (Ne.symm hc)).trans ((Heap.get?_update_other _ _ (Ne.symm hc)).trans e)
  obtain ⟨x4, e4, r4⟩ := put x2 e2 r2
  have I4 : Inv X pins σ (upd (upd H S (.lst [])) S (.lst [])) { s with heap := (g2.update S (Obj.mapSeq (·.push Value.none))).update S (Obj.mapSeq (·.pop)) } :=
    I2.write (x := S) (e := S) (by rw [e2]; trivial) (.inl rfl) (fun c o hc q => oth c o hc q) ⟨_, hS₄⟩ ⟨Nat.zero_le _, [], _, .nil, hS₄⟩
  refine wpAny_pure ⟨plainId_quiet F.plain_extend_loop _, ?_⟩
  exact ext_zip (L := s.heap.objs.size) hh D0 nS ha hb ea eb hz hsz fin _ 0 _ _ rfl (Nat.zero_le _) I4 x4 r4 (st2.at nS oth) (by show s.heap.objs.size ≤ ((g2.update S _).update S _).objs.size; rw [Heap.size_update, Heap.size_update, sz2]; exact Nat.le_refl _) (f2 hf2)
end
end L2.DL

set_option Elab.async false
set_option linter.all false
set_option maxRecDepth 100000
set_option maxHeartbeats 1000000
/-! DLy: list(zip(a, b)) as an expression. -/
namespace L2.DL
open PySem PySem.Spec PyProof.Rows
section
variable {X : Cx} {pins : List (Addr × Obj)} {σ : St} {A : Around} {G : DH} {a b z TI TO i1 i2 : Addr} {xs ys : List D}
theorem call_listzip {E : Value → Shared → Prop} {Q : Value → Shared → Prop} {H : Hp} {s : Shared} (hh : A.handled = none) (D0 : ZipApart z TI TO i1 i2 a b) (ea : G a = some (.lst xs)) (eb : G b = some (.lst ys)) (hz : (zipD xs ys).length < 16777216)
    (I : Inv X pins σ H s) (hr : HRep (wd X) H G) (hzz : IsZip s.heap z TI TO .none) (hTI : IsPair s.heap TI (.ref i1) (.ref i2)) (hTO : IsPair s.heap TO .none .none) (h1 : s.heap.IsListIter i1 a 0) (h2 : s.heap.IsListIter i2 b 0)
    (hf : ∀ c ∈ [z, TI, TO, i1, i2], FpOk X pins H c)
    (fin : ∀ s' H', Inv X pins σ H' s' → Ext H H' → HRep (wd X) H' (dup G s.heap.objs.size (.lst (zipD xs ys))) → Q (.ref s.heap.objs.size) s') :
    wpAny (model X.prog X.w) A (call (.type "list") [.ref z]) Q E s := by
  have lt : ∀ {c o}, s.heap.get? c = some o → c < s.heap.objs.size := fun e => Heap.lt_size e
  have hsz : ∀ c ∈ [z, TI, TO, i1, i2], c < s.heap.objs.size := by
    intro c hc
    simp only [List.mem_cons, List.not_mem_nil, or_false] at hc
    obtain ⟨_, e1, _⟩ := id h1
    obtain ⟨_, e2, _⟩ := id h2
    rcases hc with q | q | q | q | q
    · rw [q]; exact lt hzz
    · rw [q]; exact lt hTI
    · rw [q]; exact lt hTO
    · rw [q]; exact lt e1
    · rw [q]; exact lt e2
  have nS : s.heap.objs.size ∉ [z, TI, TO, i1, i2] := fun h => Nat.lt_irrefl _ (hsz _ h)
  have hn : H s.heap.objs.size = none := I.hok.fresh (Nat.le_refl _)
  have gn : G s.heap.objs.size = none := hr.free hn
  have na : a ≠ s.heap.objs.size := fun q => by rw [q, gn] at ea; cases ea
  have nb : b ≠ s.heap.objs.size := fun q => by rw [q, gn] at eb; cases eb
  refine callType_codes (Q₁ := fun obj s₁ => obj = .ref s.heap.objs.size ∧ s₁ = { s with heap := s.heap.push { cls := .type "list", data := .seq #[] } }) F.called_list (F.typeCall_list_1 _) F.entry_list_init
    (code_list_new _ ⟨rfl, rfl⟩) fun obj s₁ h₁ => ?_
  obtain ⟨rfl, rfl⟩ := h₁
  have hS : (s.heap.push { cls := .type "list", data := .seq #[] }).get? s.heap.objs.size = some { cls := .type "list", data := .seq #[] } := Heap.get?_push_size _ rfl
  have I0 : Inv X pins σ (upd H s.heap.objs.size (.lst [])) { s with heap := s.heap.push { cls := .type "list", data := .seq #[] } } := I.lnew (ys := []) (its := []) (t' := s.toks) .nil (Nat.zero_le _)
  have st0 : ZSt z TI TO i1 i2 a b s.heap.objs.size 0 s.heap := ⟨hTI, h1, h2, .inl ⟨hzz, _, _, hTO⟩⟩
  refine ⟨⟨_, hS, rfl⟩, F.args_list_init_2 _ _, ?_⟩
  refine init_zip (A := A.in1) (H0 := H) (G := G) (xs := xs) (ys := ys) hh D0 nS na nb ea eb hz (fun c hc => ?_) hS I0 (Ext.new hn) upd_same (hr.new hn ⟨[], upd_same, RpL.nil⟩) (st0.at nS fun c o _ e => Heap.get?_push_of_some _ e) (Heap.get?_push_of_some _ hzz)
    (fun c hc => ⟨by rw [upd_ne fun q => nS (by rw [← q]; exact hc)]; exact (hf c hc).1, (hf c hc).2⟩) fun s' H' J x r => ⟨rfl, fin s' H' J x r⟩
  show c < (s.heap.push _).objs.size
  rw [Heap.size_push]
  exact Nat.lt_succ_of_lt (hsz c hc)
def dLz (t : DA) : DE := fun τ G Q => t τ G fun ds G1 => match ds with
  | [.ref a, .ref b] => match G1 a, G1 b with
    | some (.lst xs), some (.lst ys) => (zipD xs ys).length < 16777216 ∧ ∀ p, G1 p = none → Q (.ref p) (dup G1 p (.lst (zipD xs ys)))
    | _, _ => False
  | _ => False
variable {e e2 : Expr} {t : DA} {p p2 pos pos2 : Pos}
theorem E_listzip (hc : X.calm = true) (hg : Gl X "list") (hm : X.mg "list" = none) (hg2 : Gl X "zip") (hm2 : X.mg "zip" = none) (ha : PA X [e, e2] (lA (wd X) t))
    (hs : starEach [e, e2] X.env = (false, eval e X.env) :: starEach [e2] X.env := by rfl) (hpl : (backTo pos2 (starEach [e2] X.env)).any (·.1) = false := by rfl)
    (hs1 : starEach [.Call (.Name "zip" p2) [e, e2] [] pos2] X.env = (false, eval (.Call (.Name "zip" p2) [e, e2] [] pos2) X.env) :: starEach [] X.env := by rfl) :
    PE X (.Call (.Name "list" p) [.Call (.Name "zip" p2) [e, e2] [] pos2] [] pos) (lE (wd X) (dLz t)) := by
  refine ⟨fun pins s σ H Q I ⟨τ, G, Q', sr, hr, q, k⟩ => ?_⟩
  have inner : ∀ (Q2 : Value → Shared → Prop), (∀ s1 H1 G1 z TI TO i1 i2 a b xs ys, Inv X pins σ H1 s1 → Ext H H1 → HRep (wd X) H1 G1 → ZipApart z TI TO i1 i2 a b → G1 a = some (.lst xs) → G1 b = some (.lst ys) → (zipD xs ys).length < 16777216 → (∀ p, G1 p = none → Q' (.ref p) (dup G1 p (.lst (zipD xs ys)))) →
      IsZip s1.heap z TI TO .none → IsPair s1.heap TI (.ref i1) (.ref i2) → IsPair s1.heap TO .none .none → s1.heap.IsListIter i1 a 0 → s1.heap.IsListIter i2 b 0 → (∀ c ∈ [z, TI, TO, i1, i2], FpOk X pins H1 c) → Q2 (.ref z) s1) →
      wpAny (model X.prog X.w) X.A (eval (.Call (.Name "zip" p2) [e, e2] [] pos2) X.env) Q2 X.xe s := by
    intro Q2 hQ
    refine Call_ (ld_blt I hg2 hm2 PyProof.Rows.boot_zip (PyProof.Rows.callWith_type1 (thn (ha.run pos2 pins s σ H (fun vs H1 => ∃ a b G1 xs ys, vs = [.ref a, .ref b] ∧ Ext H H1 ∧ HRep (wd X) H1 G1 ∧ G1 a = some (.lst xs) ∧ G1 b = some (.lst ys) ∧ (zipD xs ys).length < 16777216 ∧ ∀ p, G1 p = none → Q' (.ref p) (dup G1 p (.lst (zipD xs ys)))) I ⟨τ, G, _, sr, hr, q, fun ds G1 vs H1 q1 x1 r1 p1 => ?_⟩) fun us s1 ⟨vs, H1, I1, r1, q1⟩ => ?_) hs hpl))
    · split at q1
      · rename_i a b
        split at q1
        · rename_i xs ys e1 e2
          obtain ⟨v, u, rfl, pa, pb⟩ := p1.two'
          cases pa; cases pb
          exact ⟨a, b, G1, xs, ys, rfl, x1, r1, e1, e2, q1⟩
        · exact q1.elim
      · exact q1.elim
    · obtain ⟨a, b, G1, xs, ys, rfl, x1, hr1, e1, e2, hz, q1⟩ := q1
      obtain ⟨u1, u2, rfl, ra, rb⟩ := vals2 r1
      cases ra; cases rb
      obtain ⟨vs, h1, _⟩ := hr1 _ _ e1
      obtain ⟨us, h2, _⟩ := hr1 _ _ e2
      obtain ⟨its, rv, pl1, _⟩ := I1.list (.inl (.inl h1))
      obtain ⟨its2, rv2, pl2, _⟩ := I1.list (.inl (.inl h2))
      have fresh5 : ∀ c, c ∈ [s1.heap.objs.size + 4, s1.heap.objs.size + 2, s1.heap.objs.size + 3, s1.heap.objs.size, s1.heap.objs.size + 1] → FpOk X pins H1 c := fun c hcm => by
        have hle : s1.heap.objs.size ≤ c := by
          simp only [List.mem_cons, List.not_mem_nil, or_false] at hcm
          rcases hcm with z | z | z | z | z <;> (rw [z]; first | exact Nat.le_refl _ | exact Nat.le_add_right _ _)
        exact I1.fpOk hle (I1.hok.fresh hle)
      exact call_zip_2 pl1.isList pl2.isList fun h' hz' hTI hTO g1 g2 hsz hk => hQ { s1 with heap := h' } H1 G1 _ _ _ _ _ a b xs ys (I1.kept (t' := s1.toks) hk) x1 hr1 (PySem.W.ktu_apart s1.heap.objs.size a b pl1.lt pl2.lt) e1 e2 hz q1 hz' hTI hTO g1 g2 fresh5
  refine Call_ (ld_blt I hg hm PyProof.Rows.boot_list (PyProof.Rows.callWith_type1 (args_cons (inner _ fun s1 H1 G1 z TI TO i1 i2 a b xs ys I1 x1 r1 D0 e1 e2 hz q1 a1 a2 a3 a4 a5 a6 => args_nil ?_) hs1) rfl rfl))
  exact call_listzip (I.ok.hd hc) D0 e1 e2 hz I1 r1 a1 a2 a3 a4 a5 a6 fun s' H' J x r => ⟨.ref _, H', J, rfl, k _ _ _ _ (q1 _ (r1.free (I1.hok.fresh (Nat.le_refl _)))) (x1.trans x) r rfl⟩
end
end L2.DL

set_option Elab.async false
set_option linter.all false
set_option maxRecDepth 100000
set_option maxHeartbeats 1000000
/-! DFnc: the rule of a def whose code object is told. -/
namespace L2.DL
open PySem PySem.Spec PyProof.Rows
section
variable {Y : Wd} {mg : Str → Option Value} {base : Heap}
theorem fnDc {x qual : Str} {params : Arguments} {body : List Stmt} {scope : Scope} {dvs : List V} {kws : List (Str × V)} {f : Addr} {fd : FuncData} {N ps : List Str} {k : Nat} {sp : DSp} {t : DX → DS} {p : Str × Option Str}
    (F : FunD Y.K x qual params body scope dvs kws f fd) (hf : He.fAd Y.K p = f) (S : FnScope N ps scope) (len : ∀ ds G Q E, sp ds G Q E → ds.length = ps.length)
    (walk : ∀ (A : Around) (outer : List Env) (s : Shared) (H : Hp) (E' : DX) (E : XK), Room k (A.deeper (envOfC qual scope s.heap.objs.size f (.ref (He.codeOf Y.K p)))) → KX Y H E' E →
      PSs (cxD Y mg base N qual scope f (.ref (He.codeOf Y.K p)) A outer s H E) body (lS Y (t E')))
    (vc : ∀ ds G Q E, sp ds G Q E → t (downX E) { nx := fun _ G' => down Q .non G', rt := down Q } (dstart N ds) G) : FnD Y mg base (k + 1) f fd ps sp := by
  obtain ⟨oc, od, dV, kV, doc, pm, an, cdv, ct, osl, rfl, lk, hcd, _, _⟩ := F.ex
  obtain ⟨c, ec⟩ := He.codeIn_ref hcd
  subst ec
  have hc : He.codeOf Y.K p = c := He.codeOf_eq (by rw [hf]; exact lk) rfl
  subst hc
  refine fn_of lk hcd S (fun vs H Q E ⟨ds, G, Q', E', p, _, q, _⟩ => by rw [← p.len]; exact len _ _ _ _ q) fun A outer s H vs Q E hr ⟨ds, G, Q', E', pp, r, q, kv, kx⟩ => ?_
  refine ⟨_, walk A outer s H (downX E') E hr kx.down, dstart N ds, G, _, srep_start pp, r, vc _ _ _ _ q, ⟨fun τ1 G1 σ1 H1 q1 x1 _ r1 => kv.down _ _ _ _ q1 x1 r1 rfl, kv.down, fun _ _ _ _ q => q.elim, fun _ _ _ _ q => q.elim⟩⟩
end
end L2.DL

set_option Elab.async false
set_option linter.all false
set_option maxRecDepth 100000
set_option maxHeartbeats 0
namespace HD
open PySem PySem.Spec PyProof.Rows L2 L2.DL
def top (i : Nat) : Stmt := PySem.Challenge.pw_partkeys_k58_sure_teams_at_a_thousand.main.body.getD i (.Pass ⟨0, 0, 0, 0⟩)
abbrev s_is_integer : Stmt := top 8
def d_is_integer : He.DefD := ⟨("is_integer", none), "is_integer", "is_integer", defArgs s_is_integer, defBody s_is_integer, defScope s_is_integer, [], []⟩
abbrev s_is_within : Stmt := top 9
def d_is_within : He.DefD := ⟨("is_within", none), "is_within", "is_within", defArgs s_is_within, defBody s_is_within, defScope s_is_within, [], []⟩
abbrev s_is_name : Stmt := top 10
def d_is_name : He.DefD := ⟨("is_name", none), "is_name", "is_name", defArgs s_is_name, defBody s_is_name, defScope s_is_name, [], []⟩
abbrev s_is_event : Stmt := top 11
def d_is_event : He.DefD := ⟨("is_event", none), "is_event", "is_event", defArgs s_is_event, defBody s_is_event, defScope s_is_event, [], []⟩
abbrev s_names_in : Stmt := top 12
def d_names_in : He.DefD := ⟨("names_in", none), "names_in", "names_in", defArgs s_names_in, defBody s_names_in, defScope s_names_in, [], []⟩
abbrev s_BadLog_init : Stmt := inClass (top 18) 0
def d_BadLog_init : He.DefD := ⟨("BadLog", some "__init__"), "__init__", "BadLog.__init__", defArgs s_BadLog_init, defBody s_BadLog_init, defScope s_BadLog_init, [], []⟩
abbrev s_NoDealing_init : Stmt := inClass (top 19) 0
def d_NoDealing_init : He.DefD := ⟨("NoDealing", some "__init__"), "__init__", "NoDealing.__init__", defArgs s_NoDealing_init, defBody s_NoDealing_init, defScope s_NoDealing_init, [], []⟩
abbrev s_TooMany_init : Stmt := inClass (top 20) 0
def d_TooMany_init : He.DefD := ⟨("TooMany", some "__init__"), "__init__", "TooMany.__init__", defArgs s_TooMany_init, defBody s_TooMany_init, defScope s_TooMany_init, [], []⟩
abbrev s_take_names : Stmt := top 27
def d_take_names : He.DefD := ⟨("take_names", none), "take_names", "take_names", defArgs s_take_names, defBody s_take_names, defScope s_take_names, [], []⟩
abbrev s_check_days : Stmt := top 28
def d_check_days : He.DefD := ⟨("check_days", none), "check_days", "check_days", defArgs s_check_days, defBody s_check_days, defScope s_check_days, [], []⟩
abbrev s_Log_init : Stmt := inClass (top 29) 0
def d_Log_init : He.DefD := ⟨("Log", some "__init__"), "__init__", "Log.__init__", defArgs s_Log_init, defBody s_Log_init, defScope s_Log_init, [], []⟩
abbrev s_Log_eq : Stmt := inClass (top 29) 1
def d_Log_eq : He.DefD := ⟨("Log", some "__eq__"), "__eq__", "Log.__eq__", defArgs s_Log_eq, defBody s_Log_eq, defScope s_Log_eq, [], []⟩
abbrev s_Log_len : Stmt := inClass (top 29) 2
def d_Log_len : He.DefD := ⟨("Log", some "__len__"), "__len__", "Log.__len__", defArgs s_Log_len, defBody s_Log_len, defScope s_Log_len, [], []⟩
abbrev s_check_log : Stmt := top 30
def d_check_log : He.DefD := ⟨("check_log", none), "check_log", "check_log", defArgs s_check_log, defBody s_check_log, defScope s_check_log, [], []⟩
abbrev s_check_stretch : Stmt := top 31
def d_check_stretch : He.DefD := ⟨("check_stretch", none), "check_stretch", "check_stretch", defArgs s_check_stretch, defBody s_check_stretch, defScope s_check_stretch, [], []⟩
abbrev s_told_events : Stmt := top 32
def d_told_events : He.DefD := ⟨("told_events", none), "told_events", "told_events", defArgs s_told_events, defBody s_told_events, defScope s_told_events, [], []⟩
abbrev s_names_of : Stmt := top 33
def d_names_of : He.DefD := ⟨("names_of", none), "names_of", "names_of", defArgs s_names_of, defBody s_names_of, defScope s_names_of, [], []⟩
abbrev s_Web_init : Stmt := inClass (top 35) 0
def d_Web_init : He.DefD := ⟨("Web", some "__init__"), "__init__", "Web.__init__", defArgs s_Web_init, defBody s_Web_init, defScope s_Web_init, [], []⟩
abbrev s_Web_ties : Stmt := inClass (top 35) 1
def d_Web_ties : He.DefD := ⟨("Web", some "ties"), "ties", "Web.ties", defArgs s_Web_ties, defBody s_Web_ties, defScope s_Web_ties, [], []⟩
abbrev s_Web_grow : Stmt := inClass (top 35) 2
def d_Web_grow : He.DefD := ⟨("Web", some "grow"), "grow", "Web.grow", defArgs s_Web_grow, defBody s_Web_grow, defScope s_Web_grow, [], []⟩
abbrev s_Web_above : Stmt := inClass (top 35) 3
def d_Web_above : He.DefD := ⟨("Web", some "above"), "above", "Web.above", defArgs s_Web_above, defBody s_Web_above, defScope s_Web_above, [], []⟩
abbrev s_Web_walk : Stmt := inClass (top 35) 4
def d_Web_walk : He.DefD := ⟨("Web", some "walk"), "walk", "Web.walk", defArgs s_Web_walk, defBody s_Web_walk, defScope s_Web_walk, [], []⟩
abbrev s_Web_ring : Stmt := inClass (top 35) 5
def d_Web_ring : He.DefD := ⟨("Web", some "ring"), "ring", "Web.ring", defArgs s_Web_ring, defBody s_Web_ring, defScope s_Web_ring, [], []⟩
abbrev s_Web_least : Stmt := inClass (top 35) 6
def d_Web_least : He.DefD := ⟨("Web", some "least"), "least", "Web.least", defArgs s_Web_least, defBody s_Web_least, defScope s_Web_least, [], []⟩
abbrev s_Web_pieces : Stmt := inClass (top 35) 7
def d_Web_pieces : He.DefD := ⟨("Web", some "pieces"), "pieces", "Web.pieces", defArgs s_Web_pieces, defBody s_Web_pieces, defScope s_Web_pieces, [], []⟩
abbrev s_Web_members : Stmt := inClass (top 35) 8
def d_Web_members : He.DefD := ⟨("Web", some "members"), "members", "Web.members", defArgs s_Web_members, defBody s_Web_members, defScope s_Web_members, [], []⟩
abbrev s_web_of : Stmt := top 37
def d_web_of : He.DefD := ⟨("web_of", none), "web_of", "web_of", defArgs s_web_of, defBody s_web_of, defScope s_web_of, [], []⟩
abbrev s_check_most : Stmt := top 40
def d_check_most : He.DefD := ⟨("check_most", none), "check_most", "check_most", defArgs s_check_most, defBody s_check_most, defScope s_check_most, [], []⟩
abbrev s_balanced_web : Stmt := top 42
def d_balanced_web : He.DefD := ⟨("balanced_web", none), "balanced_web", "balanced_web", defArgs s_balanced_web, defBody s_balanced_web, defScope s_balanced_web, [], []⟩
abbrev s_piece_rows : Stmt := top 44
def d_piece_rows : He.DefD := ⟨("piece_rows", none), "piece_rows", "piece_rows", defArgs s_piece_rows, defBody s_piece_rows, defScope s_piece_rows, [], []⟩
abbrev s_sure_teams : Stmt := top 45
def d_sure_teams : He.DefD := ⟨("sure_teams", none), "sure_teams", "sure_teams", defArgs s_sure_teams, defBody s_sure_teams, defScope s_sure_teams, [], [("most", .int 1000)]⟩
abbrev s__law_hand : Stmt := top 47
def d__law_hand : He.DefD := ⟨("_law_hand", none), "_law_hand", "_law_hand", defArgs s__law_hand, defBody s__law_hand, defScope s__law_hand, [], []⟩
abbrev s__law_draw : Stmt := top 48
def d__law_draw : He.DefD := ⟨("_law_draw", none), "_law_draw", "_law_draw", defArgs s__law_draw, defBody s__law_draw, defScope s__law_draw, [], []⟩
abbrev s__law_any : Stmt := top 49
def d__law_any : He.DefD := ⟨("_law_any", none), "_law_any", "_law_any", defArgs s__law_any, defBody s__law_any, defScope s__law_any, [], []⟩
abbrev s__law_mixed : Stmt := top 50
def d__law_mixed : He.DefD := ⟨("_law_mixed", none), "_law_mixed", "_law_mixed", defArgs s__law_mixed, defBody s__law_mixed, defScope s__law_mixed, [], []⟩
abbrev s__law_same : Stmt := top 51
def d__law_same : He.DefD := ⟨("_law_same", none), "_law_same", "_law_same", defArgs s__law_same, defBody s__law_same, defScope s__law_same, [], []⟩
abbrev s__law_piece : Stmt := top 52
def d__law_piece : He.DefD := ⟨("_law_piece", none), "_law_piece", "_law_piece", defArgs s__law_piece, defBody s__law_piece, defScope s__law_piece, [], []⟩
abbrev s__law_teams : Stmt := top 53
def d__law_teams : He.DefD := ⟨("_law_teams", none), "_law_teams", "_law_teams", defArgs s__law_teams, defBody s__law_teams, defScope s__law_teams, [], []⟩
abbrev s__law_days_of : Stmt := top 54
def d__law_days_of : He.DefD := ⟨("_law_days_of", none), "_law_days_of", "_law_days_of", defArgs s__law_days_of, defBody s__law_days_of, defScope s__law_days_of, [], []⟩
abbrev s__law_said : Stmt := top 55
def d__law_said : He.DefD := ⟨("_law_said", none), "_law_said", "_law_said", defArgs s__law_said, defBody s__law_said, defScope s__law_said, [], []⟩
abbrev s_law : Stmt := top 56
def d_law : He.DefD := ⟨("law", none), "law", "law", defArgs s_law, defBody s_law, defScope s_law, [], []⟩
def fn : List He.DefD := [d_is_integer, d_is_within, d_is_name, d_is_event, d_names_in, d_BadLog_init, d_NoDealing_init, d_TooMany_init, d_take_names, d_check_days, d_Log_init, d_Log_eq, d_Log_len, d_check_log, d_check_stretch, d_told_events, d_names_of, d_Web_init, d_Web_ties, d_Web_grow, d_Web_above, d_Web_walk, d_Web_ring, d_Web_least, d_Web_pieces, d_Web_members, d_web_of, d_check_most, d_balanced_web, d_piece_rows, d_sure_teams, d__law_hand, d__law_draw, d__law_any, d__law_mixed, d__law_same, d__law_piece, d__law_teams, d__law_days_of, d__law_said, d_law]
def fa : List He.Fa := [.glo "is_integer", .glo "is_within", .glo "is_name", .glo "is_event", .glo "names_in", .glo "take_names", .glo "check_days", .glo "check_log", .glo "check_stretch", .glo "told_events", .glo "names_of", .glo "web_of", .glo "check_most", .glo "balanced_web", .glo "piece_rows", .glo "sure_teams", .glo "_law_hand", .glo "_law_draw", .glo "_law_any", .glo "_law_mixed", .glo "_law_same", .glo "_law_piece", .glo "_law_teams", .glo "_law_days_of", .glo "_law_said", .glo "law", .glo "VaultError", .glo "BadMost", .glo "BadStretch", .glo "NoLog", .glo "BadLog", .glo "NoDealing", .glo "TooMany", .glo "Log", .glo "Web", .free "sum", .free "reversed", .free "len", .free "isinstance", .free "all", .free "sorted", .free "range", .free "enumerate", .free "list", .free "tuple", .free "dict", .free "zip", .free "abs", .free "int", .free "str", .free "bool", .free "ValueError", .str "LETTERS" "abcdefghijklmnopqrstuvwxyz", .int "MOST_NAME" 8, .int "MOST_EVENTS" 12, .int "MOST_DAYS" 200, .str "PAIR" "pair", .str "SEEN" "seen", .int "LEAST_PARTS" 2, .int "MOST_PARTS" 12, .int "MOST_OFFICERS" 60, .str "PARTS" "parts", .str "DAYS" "days", .int "MOST_LIST" 100000, .cls "Log", .mkr "Log", .keep "Log", .noat "Log" "parts", .noat "Log" "days", .cls "Web", .mkr "Web", .keep "Web", .noat "Web" "parts", .noat "Web" "told", .noat "Web" "names", .noat "Web" "roots", .noat "Web" "turns", .noat "Web" "parents", .noat "Web" "misfit", .meth "Web" "ties", .meth "Web" "grow", .meth "Web" "above", .meth "Web" "walk", .meth "Web" "ring", .meth "Web" "least", .meth "Web" "pieces", .meth "Web" "members"]
def fx : List Fx := [.oex "TooMany", .noat "TooMany" "most", .init "TooMany", .exc "TooMany", .own "Log", .kitT "TooMany" "ValueError" true, .exm "TooMany" "VaultError" true]
def ex (K : PySem.W.Frag) : Bool := fx.all fun x => x.ok K
abbrev R : PySem.W.OpenRow := PySem.W.OpenLaw.row PySem.Challenge.rw_partkeys_k58_sure_teams_at_a_thousand
abbrev hk : PySem.W.Hook := He.hookX 4 fa fn [] [("law", none)] ex
def ob (s : PySem.W.SharedT) : He.AlX := He.obsX 4 fa fn [] [("law", none)] ex (HandSHeadRun.getT s)
theorem ob_eq (s : PySem.W.SharedT) : ob s = hk.obs s.abs := He.obsX_eq (HandSHeadRun.getT_eq s)
def loose0 : List Str := ["_wall", "LETTERS", "MOST_NAME", "MOST_EVENTS", "MOST_DAYS", "PAIR", "SEEN", "is_integer"]
def loose1 : List Str := ["is_within", "is_name", "is_event", "names_in", "VaultError", "BadMost", "BadStretch", "NoLog"]
def loose2 : List Str := ["BadLog", "NoDealing", "TooMany", "LEAST_PARTS", "MOST_PARTS", "MOST_OFFICERS", "PARTS", "DAYS"]
def loose3 : List Str := ["take_names", "check_days", "Log", "check_log", "check_stretch", "told_events", "names_of", "Web"]
def loose4 : List Str := ["web_of", "MOST_LIST", "check_most", "balanced_web", "piece_rows", "sure_teams", "_law_hand", "_law_draw"]
def loose5 : List Str := ["_law_any", "_law_mixed", "_law_same", "_law_piece", "_law_teams", "_law_days_of", "_law_said"]
def loose : List Str := loose0 ++ (loose1 ++ (loose2 ++ (loose3 ++ (loose4 ++ (loose5)))))
theorem run (w : World) : HandSHeadRun.RunEq R (PySem.W.view R.prog [56]) hk ob 6000 loose w := by
  intro os
  kernel_rfl
end HD

set_option Elab.async false
set_option linter.all false
set_option maxRecDepth 100000
set_option maxHeartbeats 1000000
namespace HD
open PySem PySem.Spec PyProof.Rows L2 L2.DL He LamX
structure FsX (K : PySem.W.Frag) (mg : Str → Option Value) : Prop where
  b_isinstance : mg "isinstance" = none
  b_ValueError : mg "ValueError" = none
  m_Vault : mg "VaultError" = some (.ref (ga K "VaultError"))
  m_Many : mg "TooMany" = some (.ref (ga K "TooMany"))
  hC : ExcC K (ga K "TooMany")
  hx : XfC K (ga K "TooMany")
  no : PySem.W.findIn K (.ref (ga K "TooMany")) "most" = some none
  exm : PySem.W.exmOne K (.ref (ga K "TooMany")) (.ref (ga K "VaultError")) = some true
  kitV : PySem.W.kitOne K (.ref (ga K "TooMany")) (.type "ValueError") = some true
def askV (K : PySem.W.Frag) : Tg → Option Bool
  | .own C => if C = ga K "TooMany" then some true else none
  | _ => none
theorem asksV {K : PySem.W.Frag} (h : PySem.W.kitOne K (.ref (ga K "TooMany")) (.type "ValueError") = some true) : Asks K (askV K) (.type "ValueError") := ⟨fun t b e => by
  cases t with
  | own C =>
    have e : (if C = ga K "TooMany" then some true else none) = some b := e
    split at e
    · rename_i c
      cases e
      subst c
      exact h
    · cases e
  | _ => cases e⟩
def N__law_said : List Str := ["call", "error"]
theorem N__law_said_nd : N__law_said.Nodup := by decide +kernel
theorem S__law_said : FnScope N__law_said ["call"] (defScope s__law_said) := ⟨rfl, rfl, rfl, N__law_said_nd, rfl, by decide +kernel, by decide +kernel⟩
def exmS (K : PySem.W.Frag) (C : Addr) : Option Bool := if C = ga K "TooMany" then some true else none
def t_suite (K : PySem.W.Frag) (a : Addr) (od : Option Addr) : DS :=
  dSeq (dIfS (dAnd (dTru (dIsE a (ga K "TooMany") od (askC (ga K "TooMany") [] []) (dVar 1))) (dTru (dIsE a (ga K "TooMany") od (askV K) (dVar 1))))
    (dRet (dTup (dCons (dC (.str "many")) (dCons (dXf a od "most" (dVar 1)) dNil)))) dNext) (dRet (dTup (dCons (dC (.str "other")) (dCons (dC .non) dNil))))
def t__law_said (K : PySem.W.Frag) (q : Str) (f c' : Addr) (tD : DLm) : DS :=
  dLessS (dTry 2 1 (exmS K) (fun E' => dRet (dTup (dCons (dC (.str "told")) (dCons (dAct f c' q tD 0 E') dNil)))) fun a od C D τ G => C = ga K "TooMany" ∧ t_suite K a od D τ G)
set_option maxHeartbeats 4000000 in
theorem w__law_said {X : Cx} (F : FsX X.K X.mg) {g : Addr} {cdg : Value} {q : Str} :
    GivesTo X N__law_said "_law_said" (defScope s__law_said) g cdg (defBody s__law_said) "call" q (TTd (wd X) (saidOf N__law_said q (t__law_said X.K q))) := by
  refine gives_of (fun f => rfl) fun s H f c' tD act => ?_
  refine S_one (S_less (S_tryAs (CS := ga X.K "VaultError") rfl rfl N__law_said_nd rfl rfl ⟨by rfl, by decide, .inl F.m_Vault⟩ (fun C b e => ?_) (fun E' pn xe tk po => S_one (S_ret (E_tup (A_cons E_str (A_cons (act E' pn xe _ _ tk) A_nil))))) fun a oe C d pn hz hv => ?_))
  · unfold exmS at e
    split at e
    · rename_i c; cases e; subst c; exact F.exm
    · cases e
  · by_cases c : C = ga X.K "TooMany"
    · subst c
      refine PSs.weak (t := lS (wd X) (t_suite X.K a d)) ?_ fun D σ H ⟨τ, G, D', sr, hr, ⟨_, qq⟩, k⟩ => ⟨τ, G, D', sr, hr, qq, k⟩
      exact S_cons (S_if (T_w (W_and (T_tru (E_isE F.hC hz hv (asksC [] [] nofun nofun) (.own _) (by rfl) F.b_isinstance (E_var (pv 1)) (C_name (by rfl) F.m_Many))) (W_and1 (T_tru (E_isE F.hC hz hv (asksV F.kitV) (.ty _) (by rfl) F.b_isinstance (E_var (pv 1)) (T_name (by rfl) F.b_ValueError (by decide +kernel)))))))
        (S_one (S_ret (E_tup (A_cons E_str (A_cons (E_xf F.hx F.no hz hv (E_var (pv 1))) A_nil))))) S_nil) (S_one (S_ret (E_tup (A_cons E_str (A_cons E_non A_nil)))))
    · exact PSs.weak Ss_never fun D σ H ⟨τ, G, D', sr, hr, ⟨e, _⟩, k⟩ => (c e).elim
end HD

set_option Elab.async false
set_option linter.all false
set_option maxRecDepth 100000
set_option maxHeartbeats 1000000
namespace HD
open PySem PySem.Spec PyProof.Rows L2 L2.DL He LamX
abbrev qL : Str := ("law.<locals>." : Str) ++ "<lambda>"
def sc_piece_rows : Scope := match defBody s_piece_rows with | [.Return (some (.ListComp _ _ sc _)) _] => sc | _ => defScope s_piece_rows
structure Fs (K : PySem.W.Frag) (mg : Str → Option Value) : Prop where
  b_sum : mg "sum" = none
  b_len : mg "len" = none
  b_isinstance : mg "isinstance" = none
  b_all : mg "all" = none
  b_sorted : mg "sorted" = none
  b_range : mg "range" = none
  b_enumerate : mg "enumerate" = none
  b_list : mg "list" = none
  b_tuple : mg "tuple" = none
  b_dict : mg "dict" = none
  b_zip : mg "zip" = none
  b_abs : mg "abs" = none
  b_int : mg "int" = none
  b_str : mg "str" = none
  b_bool : mg "bool" = none
  c_LETTERS : ∃ t, mg "LETTERS" = some (.str "abcdefghijklmnopqrstuvwxyz" t)
  c_MOST_NAME : ∃ t, mg "MOST_NAME" = some (.int 8 t)
  c_MOST_EVENTS : ∃ t, mg "MOST_EVENTS" = some (.int 12 t)
  c_MOST_DAYS : ∃ t, mg "MOST_DAYS" = some (.int 200 t)
  c_PAIR : ∃ t, mg "PAIR" = some (.str "pair" t)
  c_SEEN : ∃ t, mg "SEEN" = some (.str "seen" t)
  c_LEAST_PARTS : ∃ t, mg "LEAST_PARTS" = some (.int 2 t)
  c_MOST_PARTS : ∃ t, mg "MOST_PARTS" = some (.int 12 t)
  c_MOST_OFFICERS : ∃ t, mg "MOST_OFFICERS" = some (.int 60 t)
  c_PARTS : ∃ t, mg "PARTS" = some (.str "parts" t)
  c_DAYS : ∃ t, mg "DAYS" = some (.str "days" t)
  c_MOST_LIST : ∃ t, mg "MOST_LIST" = some (.int 100000 t)
  g_Log : mg "Log" = some (.ref (ga K "Log"))
  g_Web : mg "Web" = some (.ref (ga K "Web"))

def N_is_integer : List Str := ["thing"]
theorem N_is_integer_nd : N_is_integer.Nodup := by decide +kernel
theorem S_is_integer : FnScope N_is_integer ["thing"] (defScope s_is_integer) := ⟨rfl, rfl, rfl, N_is_integer_nd, rfl, by decide +kernel, by decide +kernel⟩
def t_is_integer (Y : Wd) (E' : DX) : DS :=
  (dRet (dAndV (dIsi Y.K (askO "int" []) (dVar 0)) (dNotV (dIsi Y.K (askO "bool" []) (dVar 0)))))
set_option maxHeartbeats 4000000 in
theorem w_is_integer {Y : Wd} {mg : Str → Option Value} {base : Heap} (F : Fs Y.K mg) (f : Addr) (cdv : Value) (A : Around) (outer : List Env) (s : Shared) (H : Hp) (E' : DX) (E : XK) (hr : Room 0 (A.deeper (envOfC "is_integer" (defScope s_is_integer) s.heap.objs.size f cdv))) (kx : KX Y H E' E) :
    PSs (cxD Y mg base N_is_integer "is_integer" (defScope s_is_integer) f cdv A outer s H E) (defBody s_is_integer) (lS Y (t_is_integer Y E')) := by
  have hu := hr.units
  have hp : PassesOwn (model Y.P Y.w) (A.deeper (envOfC "is_integer" (defScope s_is_integer) s.heap.objs.size f cdv)) (cxD Y mg base N_is_integer "is_integer" (defScope s_is_integer) f cdv A outer s H E).env (cxD Y mg base N_is_integer "is_integer" (defScope s_is_integer) f cdv A outer s H E).xe := passes_of rfl
  exact (S_one (S_ret (E_and (E_isi (asksT (by decide) [] nofun) (.ty _) (by rfl) F.b_isinstance (E_var (pv 0)) (T_name (by rfl) F.b_int boot_int)) (E_one (E_not (E_isi (asksT (by decide) [] nofun) (.ty _) (by rfl) F.b_isinstance (E_var (pv 0)) (T_name (by rfl) F.b_bool boot_bool)))))))

def N_is_within : List Str := ["thing", "low", "high"]
theorem N_is_within_nd : N_is_within.Nodup := by decide +kernel
theorem S_is_within : FnScope N_is_within ["thing", "low", "high"] (defScope s_is_within) := ⟨rfl, rfl, rfl, N_is_within_nd, rfl, by decide +kernel, by decide +kernel⟩
def t_is_within (Y : Wd) (sp_is_integer : DSp) (E' : DX) : DS :=
  (dRet (dAndV (dCall sp_is_integer [] DX0 (dCons (dVar 0) dNil)) (dChain rLeD rLeD (dVar 1) (dVar 0) (dVar 2))))
set_option maxHeartbeats 4000000 in
theorem w_is_within {Y : Wd} {mg : Str → Option Value} {base : Heap} (F : Fs Y.K mg) {sp_is_integer : DSp} (g_is_integer : GFn Y mg base "is_integer" 1 ["thing"] [] sp_is_integer) (f : Addr) (cdv : Value) (A : Around) (outer : List Env) (s : Shared) (H : Hp) (E' : DX) (E : XK) (hr : Room 1 (A.deeper (envOfC "is_within" (defScope s_is_within) s.heap.objs.size f cdv))) (kx : KX Y H E' E) :
    PSs (cxD Y mg base N_is_within "is_within" (defScope s_is_within) f cdv A outer s H E) (defBody s_is_within) (lS Y (t_is_within Y sp_is_integer E')) := by
  have hu := hr.units
  have hp : PassesOwn (model Y.P Y.w) (A.deeper (envOfC "is_within" (defScope s_is_within) s.heap.objs.size f cdv)) (cxD Y mg base N_is_within "is_within" (defScope s_is_within) f cdv A outer s H E).env (cxD Y mg base N_is_within "is_within" (defScope s_is_within) f cdv A outer s H E).xe := passes_of rfl
  exact (S_one (S_ret (E_and (E_call g_is_integer (hr.mono (by decide)) .none (by rfl) (A_cons (E_var (pv 0)) A_nil)) (E_one (E_chain o_le o_le (E_var (pv 1)) (E_var (pv 0)) (E_var (pv 2)))))))

def N_is_name : List Str := ["thing", "sign"]
theorem N_is_name_nd : N_is_name.Nodup := by decide +kernel
theorem S_is_name : FnScope N_is_name ["thing"] (defScope s_is_name) := ⟨rfl, rfl, rfl, N_is_name_nd, rfl, by decide +kernel, by decide +kernel⟩
def t_is_name (Y : Wd) (E' : DX) : DS :=
  (dSeq (dIfS (dOr (dNot (dTru (dIsi Y.K (askO "str" []) (dVar 0)))) (dNot (dTest (dChain rLeD rLeD (dC (.int 1)) (dCB rLen (dCons (dVar 0) dNil)) (dC (.int 8)))))) (dRet (dC (.bl false))) dNext) (dRet (dCB (rAllB fun bs => bs.all id) (dCons (dC1 (fun _ => .lst []) [1] (dTxt (dVar 0)) (dgName 1) dYes (dmL (dOp (rInB false) (dVar 1) (dC (.str "abcdefghijklmnopqrstuvwxyz"))))) dNil))))
set_option maxHeartbeats 4000000 in
theorem w_is_name {Y : Wd} {mg : Str → Option Value} {base : Heap} (F : Fs Y.K mg) (f : Addr) (cdv : Value) (A : Around) (outer : List Env) (s : Shared) (H : Hp) (E' : DX) (E : XK) (hr : Room 0 (A.deeper (envOfC "is_name" (defScope s_is_name) s.heap.objs.size f cdv))) (kx : KX Y H E' E) :
    PSs (cxD Y mg base N_is_name "is_name" (defScope s_is_name) f cdv A outer s H E) (defBody s_is_name) (lS Y (t_is_name Y E')) := by
  have hu := hr.units
  have hp : PassesOwn (model Y.P Y.w) (A.deeper (envOfC "is_name" (defScope s_is_name) s.heap.objs.size f cdv)) (cxD Y mg base N_is_name "is_name" (defScope s_is_name) f cdv A outer s H E).env (cxD Y mg base N_is_name "is_name" (defScope s_is_name) f cdv A outer s H E).xe := passes_of rfl
  exact (S_cons (S_if (T_w (W_or (T_not (T_tru (E_isi (asksT (by decide) [] nofun) (.ty _) (by rfl) F.b_isinstance (E_var (pv 0)) (T_name (by rfl) F.b_str boot_str)))) (W_or1 (T_not (T_chain o_le o_le E_int (E_cb c_len (by rfl) F.b_len boot_len (A_cons (E_var (pv 0)) A_nil)) (E_gI (by rfl) F.c_MOST_NAME)))))) (S_one (S_ret E_bl)) S_nil) (S_one (S_ret (E_cb (c_all rfl) (by rfl) F.b_all boot_all (A_cons (K1.pe (own := [("sign", 1)]) (kL1 rfl N_is_name_nd (blkOk_by (N := N_is_name) (sc := defScope s_is_name) (own := [("sign", 1)]) (by decide +kernel)) (I_str (E_var (pv 0))) (fun _ _ _ _ _ => (W_name (pg_name (i := 1) N_is_name_nd (by rfl) (by first | exact .inl rfl | exact .inr rfl)) (by decide))) (fun _ _ _ _ _ => Ts_nil) (fun _ _ _ _ _ => (E_cmp o_in (E_var (pv 1)) (E_gS (by rfl) F.c_LETTERS) rfl)))) A_nil)))))

def N_is_event : List Str := ["parts", "thing"]
theorem N_is_event_nd : N_is_event.Nodup := by decide +kernel
theorem S_is_event : FnScope N_is_event ["parts", "thing"] (defScope s_is_event) := ⟨rfl, rfl, rfl, N_is_event_nd, rfl, by decide +kernel, by decide +kernel⟩
def t_is_event (Y : Wd) (sp_is_name : DSp) (sp_is_within : DSp) (E' : DX) : DS :=
  (dSeq (dIfS (dOr (dNot (dTru (dIsi Y.K (askO "tuple" []) (dVar 1)))) (dOr (dTest (dOp rLtD (dCB rLen (dCons (dVar 1) dNil)) (dC (.int 3)))) (dOr (dNot (dTru (dIsi Y.K (askO "str" []) (dOp rGetS (dVar 1) (dC (.int 0)))))) (dNot (dTru (dCall sp_is_name [] DX0 (dCons (dOp rGetS (dVar 1) (dC (.int 1))) dNil))))))) (dRet (dC (.bl false))) dNext) (dSeq (dIfS (dTest (dOp rEqD1 (dOp rGetS (dVar 1) (dC (.int 0))) (dC (.str "seen")))) (dRet (dAndV (dOp rEqD1 (dCB rLen (dCons (dVar 1) dNil)) (dC (.int 3))) (dCall sp_is_within [] DX0 (dCons (dOp rGetS (dVar 1) (dC (.int 2))) (dCons (dC (.int 0)) (dCons (dOp rSubD (dVar 0) (dC (.int 1))) dNil)))))) dNext) (dSeq (dIfS (dOr (dTest (dOp (rNotOf rEqD1) (dOp rGetS (dVar 1) (dC (.int 0))) (dC (.str "pair")))) (dOr (dTest (dOp (rNotOf rEqD1) (dCB rLen (dCons (dVar 1) dNil)) (dC (.int 4)))) (dOr (dNot (dTru (dCall sp_is_name [] DX0 (dCons (dOp rGetS (dVar 1) (dC (.int 2))) dNil)))) (dTest (dOp rEqD1 (dOp rGetS (dVar 1) (dC (.int 1))) (dOp rGetS (dVar 1) (dC (.int 2)))))))) (dRet (dC (.bl false))) dNext) (dRet (dCall sp_is_within [] DX0 (dCons (dOp rGetS (dVar 1) (dC (.int 3))) (dCons (dC (.int 0)) (dCons (dOp rSubD (dVar 0) (dC (.int 1))) dNil))))))))
set_option maxHeartbeats 4000000 in
theorem w_is_event {Y : Wd} {mg : Str → Option Value} {base : Heap} (F : Fs Y.K mg) {sp_is_name : DSp} {sp_is_within : DSp} (g_is_name : GFn Y mg base "is_name" 1 ["thing"] [] sp_is_name) (g_is_within : GFn Y mg base "is_within" 2 ["thing", "low", "high"] [] sp_is_within) (f : Addr) (cdv : Value) (A : Around) (outer : List Env) (s : Shared) (H : Hp) (E' : DX) (E : XK) (hr : Room 2 (A.deeper (envOfC "is_event" (defScope s_is_event) s.heap.objs.size f cdv))) (kx : KX Y H E' E) :
    PSs (cxD Y mg base N_is_event "is_event" (defScope s_is_event) f cdv A outer s H E) (defBody s_is_event) (lS Y (t_is_event Y sp_is_name sp_is_within E')) := by
  have hu := hr.units
  have hp : PassesOwn (model Y.P Y.w) (A.deeper (envOfC "is_event" (defScope s_is_event) s.heap.objs.size f cdv)) (cxD Y mg base N_is_event "is_event" (defScope s_is_event) f cdv A outer s H E).env (cxD Y mg base N_is_event "is_event" (defScope s_is_event) f cdv A outer s H E).xe := passes_of rfl
  exact (S_cons (S_if (T_w (W_or (T_not (T_tru (E_isi (asksT (by decide) [] nofun) (.ty _) (by rfl) F.b_isinstance (E_var (pv 1)) (T_name (by rfl) F.b_tuple boot_tuple)))) (W_or (T_cmp o_lt (E_cb c_len (by rfl) F.b_len boot_len (A_cons (E_var (pv 1)) A_nil)) E_int rfl) (W_or (T_not (T_tru (E_isi (asksT (by decide) [] nofun) (.ty _) (by rfl) F.b_isinstance (E_ix i_seq (E_var (pv 1)) E_int) (T_name (by rfl) F.b_str boot_str)))) (W_or1 (T_not (T_tru (E_call g_is_name (hr.mono (by decide)) .none (by rfl) (A_cons (E_ix i_seq (E_var (pv 1)) E_int) A_nil))))))))) (S_one (S_ret E_bl)) S_nil) (S_cons (S_if (T_cmp (o_eq hu) (E_ix i_seq (E_var (pv 1)) E_int) (E_gS (by rfl) F.c_SEEN) rfl) (S_one (S_ret (E_and (E_cmp (o_eq hu) (E_cb c_len (by rfl) F.b_len boot_len (A_cons (E_var (pv 1)) A_nil)) E_int rfl) (E_one (E_call g_is_within (hr.mono (by decide)) .none (by rfl) (A_cons (E_ix i_seq (E_var (pv 1)) E_int) (A_cons E_int (A_cons (E_op o_sub (E_var (pv 0)) E_int) A_nil)))))))) S_nil) (S_cons (S_if (T_w (W_or (T_cmp (o_ne hu) (E_ix i_seq (E_var (pv 1)) E_int) (E_gS (by rfl) F.c_PAIR) rfl) (W_or (T_cmp (o_ne hu) (E_cb c_len (by rfl) F.b_len boot_len (A_cons (E_var (pv 1)) A_nil)) E_int rfl) (W_or (T_not (T_tru (E_call g_is_name (hr.mono (by decide)) .none (by rfl) (A_cons (E_ix i_seq (E_var (pv 1)) E_int) A_nil)))) (W_or1 (T_cmp (o_eq hu) (E_ix i_seq (E_var (pv 1)) E_int) (E_ix i_seq (E_var (pv 1)) E_int) rfl)))))) (S_one (S_ret E_bl)) S_nil) (S_one (S_ret (E_call g_is_within (hr.mono (by decide)) .none (by rfl) (A_cons (E_ix i_seq (E_var (pv 1)) E_int) (A_cons E_int (A_cons (E_op o_sub (E_var (pv 0)) E_int) A_nil)))))))))

def N_names_in : List Str := ["event"]
theorem N_names_in_nd : N_names_in.Nodup := by decide +kernel
theorem S_names_in : FnScope N_names_in ["event"] (defScope s_names_in) := ⟨rfl, rfl, rfl, N_names_in_nd, rfl, by decide +kernel, by decide +kernel⟩
def t_names_in (Y : Wd) (E' : DX) : DS :=
  (dRet (dIf (dTest (dOp rEqD1 (dOp rGetS (dVar 0) (dC (.int 0))) (dC (.str "seen")))) (dTup (dCons (dOp rGetS (dVar 0) (dC (.int 1))) dNil)) (dTup (dCons (dOp rGetS (dVar 0) (dC (.int 1))) (dCons (dOp rGetS (dVar 0) (dC (.int 2))) dNil)))))
set_option maxHeartbeats 4000000 in
theorem w_names_in {Y : Wd} {mg : Str → Option Value} {base : Heap} (F : Fs Y.K mg) (f : Addr) (cdv : Value) (A : Around) (outer : List Env) (s : Shared) (H : Hp) (E' : DX) (E : XK) (hr : Room 0 (A.deeper (envOfC "names_in" (defScope s_names_in) s.heap.objs.size f cdv))) (kx : KX Y H E' E) :
    PSs (cxD Y mg base N_names_in "names_in" (defScope s_names_in) f cdv A outer s H E) (defBody s_names_in) (lS Y (t_names_in Y E')) := by
  have hu := hr.units
  have hp : PassesOwn (model Y.P Y.w) (A.deeper (envOfC "names_in" (defScope s_names_in) s.heap.objs.size f cdv)) (cxD Y mg base N_names_in "names_in" (defScope s_names_in) f cdv A outer s H E).env (cxD Y mg base N_names_in "names_in" (defScope s_names_in) f cdv A outer s H E).xe := passes_of rfl
  exact (S_one (S_ret (E_if (T_cmp (o_eq hu) (E_ix i_seq (E_var (pv 0)) E_int) (E_gS (by rfl) F.c_SEEN) rfl) (E_tup (A_cons (E_ix i_seq (E_var (pv 0)) E_int) A_nil)) (E_tup (A_cons (E_ix i_seq (E_var (pv 0)) E_int) (A_cons (E_ix i_seq (E_var (pv 0)) E_int) A_nil))))))

def N_take_names : List Str := ["names", "event", "name"]
theorem N_take_names_nd : N_take_names.Nodup := by decide +kernel
theorem S_take_names : FnScope N_take_names ["names", "event"] (defScope s_take_names) := ⟨rfl, rfl, rfl, N_take_names_nd, rfl, by decide +kernel, by decide +kernel⟩
def t_take_names (Y : Wd) (sp_names_in : DSp) (E' : DX) : DS :=
  (dSeq (dFor (dSeqI (dCall sp_names_in [] DX0 (dCons (dVar 1) dNil))) (dgName 2) (dIfS (dTest (dOp (rInB true) (dVar 2) (dVar 0))) (dDrop (dBM "list" rApp (dVar 0) (dCons (dVar 2) dNil))) dNext)) (dRet (dOp rLeD (dCB rLen (dCons (dVar 0) dNil)) (dC (.int 60)))))
set_option maxHeartbeats 4000000 in
theorem w_take_names {Y : Wd} {mg : Str → Option Value} {base : Heap} (F : Fs Y.K mg) {sp_names_in : DSp} (g_names_in : GFn Y mg base "names_in" 1 ["event"] [] sp_names_in) (f : Addr) (cdv : Value) (A : Around) (outer : List Env) (s : Shared) (H : Hp) (E' : DX) (E : XK) (hr : Room 1 (A.deeper (envOfC "take_names" (defScope s_take_names) s.heap.objs.size f cdv))) (kx : KX Y H E' E) :
    PSs (cxD Y mg base N_take_names "take_names" (defScope s_take_names) f cdv A outer s H E) (defBody s_take_names) (lS Y (t_take_names Y sp_names_in E')) := by
  have hu := hr.units
  have hp : PassesOwn (model Y.P Y.w) (A.deeper (envOfC "take_names" (defScope s_take_names) s.heap.objs.size f cdv)) (cxD Y mg base N_take_names "take_names" (defScope s_take_names) f cdv A outer s H E).env (cxD Y mg base N_take_names "take_names" (defScope s_take_names) f cdv A outer s H E).xe := passes_of rfl
  exact (S_cons (S_for hp rfl (I_seq (E_call g_names_in (hr.mono (by decide)) .none (by rfl) (A_cons (E_var (pv 1)) A_nil))) (G_name (pg_name (i := 2) N_take_names_nd rfl (.inl rfl))) (S_one (S_if (T_cmp o_notIn (E_var (pv 2)) (E_var (pv 0)) rfl) (S_one (S_expr (E_bm PySem.F.plainAttrs_list PySem.F.slot_list_append PySem.F.type_list_append m_append (E_var (pv 0)) (A_cons (E_var (pv 2)) A_nil)))) S_nil))) (S_one (S_ret (E_cmp o_le (E_cb c_len (by rfl) F.b_len boot_len (A_cons (E_var (pv 0)) A_nil)) (E_gI (by rfl) F.c_MOST_OFFICERS) rfl))))

def N_check_days : List Str := ["parts", "days", "names", "number", "day", "at", "event"]
theorem N_check_days_nd : N_check_days.Nodup := by decide +kernel
theorem S_check_days : FnScope N_check_days ["parts", "days"] (defScope s_check_days) := ⟨rfl, rfl, rfl, N_check_days_nd, rfl, by decide +kernel, by decide +kernel⟩
def t_check_days (Y : Wd) (sp_is_event : DSp) (sp_take_names : DSp) (E' : DX) : DS :=
  (dSeq (dIfS (dOr (dNot (dTru (dIsi Y.K (askO "tuple" []) (dVar 1)))) (dTest (dOp rEqD1 (dCB rLen (dCons (dVar 1) dNil)) (dC (.int 0))))) dNever dNext) (dSeq (dAsg (dLst dNil) (dgName 2)) (dFor (dEnum (dCons (dVar 1) dNil)) (dgTup 2 (dgCons (dgName 3) (dgCons (dgName 4) dgNil))) (dSeq (dIfS (dOr (dTest (dOp rGeD (dVar 3) (dC (.int 200)))) (dNot (dTru (dIsi Y.K (askO "tuple" []) (dVar 4))))) dNever dNext) (dFor (dEnum (dCons (dVar 4) dNil)) (dgTup 2 (dgCons (dgName 5) (dgCons (dgName 6) dgNil))) (dIfS (dOr (dTest (dOp rGeD (dVar 5) (dC (.int 12)))) (dOr (dNot (dTru (dCall sp_is_event [] DX0 (dCons (dVar 0) (dCons (dVar 6) dNil))))) (dNot (dTru (dCall sp_take_names [] DX0 (dCons (dVar 2) (dCons (dVar 6) dNil))))))) dNever dNext))))))
set_option maxHeartbeats 4000000 in
theorem w_check_days {Y : Wd} {mg : Str → Option Value} {base : Heap} (F : Fs Y.K mg) {sp_is_event : DSp} {sp_take_names : DSp} (g_is_event : GFn Y mg base "is_event" 3 ["parts", "thing"] [] sp_is_event) (g_take_names : GFn Y mg base "take_names" 2 ["names", "event"] [] sp_take_names) (f : Addr) (cdv : Value) (A : Around) (outer : List Env) (s : Shared) (H : Hp) (E' : DX) (E : XK) (hr : Room 3 (A.deeper (envOfC "check_days" (defScope s_check_days) s.heap.objs.size f cdv))) (kx : KX Y H E' E) :
    PSs (cxD Y mg base N_check_days "check_days" (defScope s_check_days) f cdv A outer s H E) (defBody s_check_days) (lS Y (t_check_days Y sp_is_event sp_take_names E')) := by
  have hu := hr.units
  have hp : PassesOwn (model Y.P Y.w) (A.deeper (envOfC "check_days" (defScope s_check_days) s.heap.objs.size f cdv)) (cxD Y mg base N_check_days "check_days" (defScope s_check_days) f cdv A outer s H E).env (cxD Y mg base N_check_days "check_days" (defScope s_check_days) f cdv A outer s H E).xe := passes_of rfl
  exact (S_cons (S_if (T_w (W_or (T_not (T_tru (E_isi (asksT (by decide) [] nofun) (.ty _) (by rfl) F.b_isinstance (E_var (pv 1)) (T_name (by rfl) F.b_tuple boot_tuple)))) (W_or1 (T_cmp (o_eq hu) (E_cb c_len (by rfl) F.b_len boot_len (A_cons (E_var (pv 1)) A_nil)) E_int rfl)))) (S_one S_never) S_nil) (S_cons (S_set (ps_set (i := 2) N_check_days_nd rfl (.inl rfl) (E_lst A_nil))) (S_one (S_for hp rfl (I_enum (by rfl) F.b_enumerate (A_cons (E_var (pv 1)) A_nil)) (G_tup rfl (Gs_cons (G_name (pg_name (i := 3) N_check_days_nd rfl (.inl rfl))) (Gs_cons (G_name (pg_name (i := 4) N_check_days_nd rfl (.inl rfl))) Gs_nil))) (S_cons (S_if (T_w (W_or (T_cmp o_ge (E_var (pv 3)) (E_gI (by rfl) F.c_MOST_DAYS) rfl) (W_or1 (T_not (T_tru (E_isi (asksT (by decide) [] nofun) (.ty _) (by rfl) F.b_isinstance (E_var (pv 4)) (T_name (by rfl) F.b_tuple boot_tuple))))))) (S_one S_never) S_nil) (S_one (S_for hp rfl (I_enum (by rfl) F.b_enumerate (A_cons (E_var (pv 4)) A_nil)) (G_tup rfl (Gs_cons (G_name (pg_name (i := 5) N_check_days_nd rfl (.inl rfl))) (Gs_cons (G_name (pg_name (i := 6) N_check_days_nd rfl (.inl rfl))) Gs_nil))) (S_one (S_if (T_w (W_or (T_cmp o_ge (E_var (pv 5)) (E_gI (by rfl) F.c_MOST_EVENTS) rfl) (W_or (T_not (T_tru (E_call g_is_event (hr.mono (by decide)) .none (by rfl) (A_cons (E_var (pv 0)) (A_cons (E_var (pv 6)) A_nil))))) (W_or1 (T_not (T_tru (E_call g_take_names (hr.mono (by decide)) .none (by rfl) (A_cons (E_var (pv 2)) (A_cons (E_var (pv 6)) A_nil))))))))) (S_one S_never) S_nil)))))))))

def N_Log_init : List Str := ["self", "parts", "days"]
theorem N_Log_init_nd : N_Log_init.Nodup := by decide +kernel
theorem S_Log_init : FnScope N_Log_init ["self", "parts", "days"] (defScope s_Log_init) := ⟨rfl, rfl, rfl, N_Log_init_nd, rfl, by decide +kernel, by decide +kernel⟩
def t_Log_init (Y : Wd) (sp_check_days : DSp) (sp_is_within : DSp) (E' : DX) : DS :=
  (dSeq (dIfS (dNot (dTru (dCall sp_is_within [] DX0 (dCons (dVar 1) (dCons (dC (.int 2)) (dCons (dC (.int 12)) dNil)))))) dNever dNext) (dSeq (dDrop (dCall sp_check_days [] DX0 (dCons (dVar 1) (dCons (dVar 2) dNil)))) (dSeq (dPutF Y.K "parts" (dVar 0) (dVar 1)) (dPutF Y.K "days" (dVar 0) (dVar 2)))))
set_option maxHeartbeats 4000000 in
theorem w_Log_init {Y : Wd} {mg : Str → Option Value} {base : Heap} (F : Fs Y.K mg) {sp_check_days : DSp} {sp_is_within : DSp} (g_check_days : GFn Y mg base "check_days" 4 ["parts", "days"] [] sp_check_days) (g_is_within : GFn Y mg base "is_within" 2 ["thing", "low", "high"] [] sp_is_within) (f : Addr) (cdv : Value) (A : Around) (outer : List Env) (s : Shared) (H : Hp) (E' : DX) (E : XK) (hr : Room 4 (A.deeper (envOfC "Log.__init__" (defScope s_Log_init) s.heap.objs.size f cdv))) (kx : KX Y H E' E) :
    PSs (cxD Y mg base N_Log_init "Log.__init__" (defScope s_Log_init) f cdv A outer s H E) (defBody s_Log_init) (lS Y (t_Log_init Y sp_check_days sp_is_within E')) := by
  have hu := hr.units
  have hp : PassesOwn (model Y.P Y.w) (A.deeper (envOfC "Log.__init__" (defScope s_Log_init) s.heap.objs.size f cdv)) (cxD Y mg base N_Log_init "Log.__init__" (defScope s_Log_init) f cdv A outer s H E).env (cxD Y mg base N_Log_init "Log.__init__" (defScope s_Log_init) f cdv A outer s H E).xe := passes_of rfl
  exact (S_cons (S_if (T_not (T_tru (E_call g_is_within (hr.mono (by decide)) .none (by rfl) (A_cons (E_var (pv 1)) (A_cons (E_gI (by rfl) F.c_LEAST_PARTS) (A_cons (E_gI (by rfl) F.c_MOST_PARTS) A_nil)))))) (S_one S_never) S_nil) (S_cons (S_expr (E_call g_check_days (hr.mono (by decide)) .none (by rfl) (A_cons (E_var (pv 1)) (A_cons (E_var (pv 2)) A_nil)))) (S_cons (S_fld (E_var (pv 0)) (E_var (pv 1))) (S_one (S_fld (E_var (pv 0)) (E_var (pv 2)))))))

def N_check_log : List Str := ["log"]
theorem N_check_log_nd : N_check_log.Nodup := by decide +kernel
theorem S_check_log : FnScope N_check_log ["log"] (defScope s_check_log) := ⟨rfl, rfl, rfl, N_check_log_nd, rfl, by decide +kernel, by decide +kernel⟩
def t_check_log (Y : Wd) (E' : DX) : DS :=
  (dIfS (dNot (dTru (dIsi Y.K (askC (ga Y.K "Log") [] []) (dVar 0)))) dNever dNext)
set_option maxHeartbeats 4000000 in
theorem w_check_log {Y : Wd} {mg : Str → Option Value} {base : Heap} (F : Fs Y.K mg) (f : Addr) (cdv : Value) (A : Around) (outer : List Env) (s : Shared) (H : Hp) (E' : DX) (E : XK) (hr : Room 0 (A.deeper (envOfC "check_log" (defScope s_check_log) s.heap.objs.size f cdv))) (kx : KX Y H E' E) :
    PSs (cxD Y mg base N_check_log "check_log" (defScope s_check_log) f cdv A outer s H E) (defBody s_check_log) (lS Y (t_check_log Y E')) := by
  have hu := hr.units
  have hp : PassesOwn (model Y.P Y.w) (A.deeper (envOfC "check_log" (defScope s_check_log) s.heap.objs.size f cdv)) (cxD Y mg base N_check_log "check_log" (defScope s_check_log) f cdv A outer s H E).env (cxD Y mg base N_check_log "check_log" (defScope s_check_log) f cdv A outer s H E).xe := passes_of rfl
  exact (S_one (S_if (T_not (T_tru (E_isi (asksC [] [] nofun nofun) (.own _) (by rfl) F.b_isinstance (E_var (pv 0)) (C_name (by rfl) F.g_Log)))) (S_one S_never) S_nil))

def N_check_stretch : List Str := ["log", "first", "end"]
theorem N_check_stretch_nd : N_check_stretch.Nodup := by decide +kernel
theorem S_check_stretch : FnScope N_check_stretch ["log", "first", "end"] (defScope s_check_stretch) := ⟨rfl, rfl, rfl, N_check_stretch_nd, rfl, by decide +kernel, by decide +kernel⟩
def t_check_stretch (Y : Wd) (sp_check_log : DSp) (sp_is_within : DSp) (E' : DX) : DS :=
  (dSeq (dDrop (dCall sp_check_log [] DX0 (dCons (dVar 0) dNil))) (dIfS (dOr (dNot (dTru (dCall sp_is_within [] DX0 (dCons (dVar 1) (dCons (dC (.int 0)) (dCons (dOp rSubD (dCB rLen (dCons (dFld Y.K "days" (dVar 0)) dNil)) (dC (.int 1))) dNil)))))) (dNot (dTru (dCall sp_is_within [] DX0 (dCons (dVar 2) (dCons (dOp rAdd (dVar 1) (dC (.int 1))) (dCons (dCB rLen (dCons (dFld Y.K "days" (dVar 0)) dNil)) dNil))))))) dNever dNext))
set_option maxHeartbeats 4000000 in
theorem w_check_stretch {Y : Wd} {mg : Str → Option Value} {base : Heap} (F : Fs Y.K mg) {sp_check_log : DSp} {sp_is_within : DSp} (g_check_log : GFn Y mg base "check_log" 1 ["log"] [] sp_check_log) (g_is_within : GFn Y mg base "is_within" 2 ["thing", "low", "high"] [] sp_is_within) (f : Addr) (cdv : Value) (A : Around) (outer : List Env) (s : Shared) (H : Hp) (E' : DX) (E : XK) (hr : Room 2 (A.deeper (envOfC "check_stretch" (defScope s_check_stretch) s.heap.objs.size f cdv))) (kx : KX Y H E' E) :
    PSs (cxD Y mg base N_check_stretch "check_stretch" (defScope s_check_stretch) f cdv A outer s H E) (defBody s_check_stretch) (lS Y (t_check_stretch Y sp_check_log sp_is_within E')) := by
  have hu := hr.units
  have hp : PassesOwn (model Y.P Y.w) (A.deeper (envOfC "check_stretch" (defScope s_check_stretch) s.heap.objs.size f cdv)) (cxD Y mg base N_check_stretch "check_stretch" (defScope s_check_stretch) f cdv A outer s H E).env (cxD Y mg base N_check_stretch "check_stretch" (defScope s_check_stretch) f cdv A outer s H E).xe := passes_of rfl
  exact (S_cons (S_expr (E_call g_check_log (hr.mono (by decide)) .none (by rfl) (A_cons (E_var (pv 0)) A_nil))) (S_one (S_if (T_w (W_or (T_not (T_tru (E_call g_is_within (hr.mono (by decide)) .none (by rfl) (A_cons (E_var (pv 1)) (A_cons E_int (A_cons (E_op o_sub (E_cb c_len (by rfl) F.b_len boot_len (A_cons (E_fld (E_var (pv 0))) A_nil)) E_int) A_nil)))))) (W_or1 (T_not (T_tru (E_call g_is_within (hr.mono (by decide)) .none (by rfl) (A_cons (E_var (pv 2)) (A_cons (E_op o_add (E_var (pv 1)) E_int) (A_cons (E_cb c_len (by rfl) F.b_len boot_len (A_cons (E_fld (E_var (pv 0))) A_nil)) A_nil))))))))) (S_one S_never) S_nil)))

def N_told_events : List Str := ["log", "first", "end", "found", "number", "at", "event"]
theorem N_told_events_nd : N_told_events.Nodup := by decide +kernel
theorem S_told_events : FnScope N_told_events ["log", "first", "end"] (defScope s_told_events) := ⟨rfl, rfl, rfl, N_told_events_nd, rfl, by decide +kernel, by decide +kernel⟩
def t_told_events (Y : Wd) (E' : DX) : DS :=
  (dSeq (dAsg (dLst dNil) (dgName 3)) (dSeq (dFor (dRng2 (dCons (dVar 1) (dCons (dVar 2) dNil))) (dgName 4) (dFor (dEnum (dCons (dOp rGetS (dFld Y.K "days" (dVar 0)) (dVar 4)) dNil)) (dgTup 2 (dgCons (dgName 5) (dgCons (dgName 6) dgNil))) (dDrop (dBM "list" rApp (dVar 3) (dCons (dTup (dCons (dVar 4) (dCons (dVar 5) (dCons (dVar 6) dNil)))) dNil))))) (dRet (dVar 3))))
set_option maxHeartbeats 4000000 in
theorem w_told_events {Y : Wd} {mg : Str → Option Value} {base : Heap} (F : Fs Y.K mg) (f : Addr) (cdv : Value) (A : Around) (outer : List Env) (s : Shared) (H : Hp) (E' : DX) (E : XK) (hr : Room 0 (A.deeper (envOfC "told_events" (defScope s_told_events) s.heap.objs.size f cdv))) (kx : KX Y H E' E) :
    PSs (cxD Y mg base N_told_events "told_events" (defScope s_told_events) f cdv A outer s H E) (defBody s_told_events) (lS Y (t_told_events Y E')) := by
  have hu := hr.units
  have hp : PassesOwn (model Y.P Y.w) (A.deeper (envOfC "told_events" (defScope s_told_events) s.heap.objs.size f cdv)) (cxD Y mg base N_told_events "told_events" (defScope s_told_events) f cdv A outer s H E).env (cxD Y mg base N_told_events "told_events" (defScope s_told_events) f cdv A outer s H E).xe := passes_of rfl
  exact (S_cons (S_set (ps_set (i := 3) N_told_events_nd rfl (.inl rfl) (E_lst A_nil))) (S_cons (S_for hp rfl (I_rng2 (by rfl) F.b_range (A_cons (E_var (pv 1)) (A_cons (E_var (pv 2)) A_nil))) (G_name (pg_name (i := 4) N_told_events_nd rfl (.inl rfl))) (S_one (S_for hp rfl (I_enum (by rfl) F.b_enumerate (A_cons (E_ix i_seq (E_fld (E_var (pv 0))) (E_var (pv 4))) A_nil)) (G_tup rfl (Gs_cons (G_name (pg_name (i := 5) N_told_events_nd rfl (.inl rfl))) (Gs_cons (G_name (pg_name (i := 6) N_told_events_nd rfl (.inl rfl))) Gs_nil))) (S_one (S_expr (E_bm PySem.F.plainAttrs_list PySem.F.slot_list_append PySem.F.type_list_append m_append (E_var (pv 3)) (A_cons (E_tup (A_cons (E_var (pv 4)) (A_cons (E_var (pv 5)) (A_cons (E_var (pv 6)) A_nil)))) A_nil))))))) (S_one (S_ret (E_var (pv 3))))))

def N_names_of : List Str := ["told", "number", "at", "event", "name"]
theorem N_names_of_nd : N_names_of.Nodup := by decide +kernel
theorem S_names_of : FnScope N_names_of ["told"] (defScope s_names_of) := ⟨rfl, rfl, rfl, N_names_of_nd, rfl, by decide +kernel, by decide +kernel⟩
def t_names_of (Y : Wd) (sp_names_in : DSp) (E' : DX) : DS :=
  (dRet (dCB (rSorted Y) (dCons (dC2 (fun D => .raw (SetSO Y D [])) [1, 2, 3, 4] [4] (dSeqI (dVar 0)) (dgTup 3 (dgCons (dgName 1) (dgCons (dgName 2) (dgCons (dgName 3) dgNil)))) dYes (dSeqI (dCall sp_names_in [] DX0 (dCons (dVar 3) dNil))) (dgName 4) dYes (dmS Y (dVar 4))) dNil)))
set_option maxHeartbeats 4000000 in
theorem w_names_of {Y : Wd} {mg : Str → Option Value} {base : Heap} (F : Fs Y.K mg) {sp_names_in : DSp} (g_names_in : GFn Y mg base "names_in" 1 ["event"] [] sp_names_in) (f : Addr) (cdv : Value) (A : Around) (outer : List Env) (s : Shared) (H : Hp) (E' : DX) (E : XK) (hr : Room 1 (A.deeper (envOfC "names_of" (defScope s_names_of) s.heap.objs.size f cdv))) (kx : KX Y H E' E) :
    PSs (cxD Y mg base N_names_of "names_of" (defScope s_names_of) f cdv A outer s H E) (defBody s_names_of) (lS Y (t_names_of Y sp_names_in E')) := by
  have hu := hr.units
  have hp : PassesOwn (model Y.P Y.w) (A.deeper (envOfC "names_of" (defScope s_names_of) s.heap.objs.size f cdv)) (cxD Y mg base N_names_of "names_of" (defScope s_names_of) f cdv A outer s H E).env (cxD Y mg base N_names_of "names_of" (defScope s_names_of) f cdv A outer s H E).xe := passes_of rfl
  exact (S_one (S_ret (E_cb (c_sorted rfl hu) (by rfl) F.b_sorted boot_sorted (A_cons (K2.pe (own := [("number", 1), ("at", 2), ("event", 3), ("name", 4)]) (kS2 (vs1 := [4]) rfl N_names_of_nd (blkOk_by (N := N_names_of) (sc := defScope s_names_of) (own := [("number", 1), ("at", 2), ("event", 3), ("name", 4)]) (by decide +kernel)) (by decide) (I_seq (E_var (pv 0))) (fun _ _ _ _ _ => (W_tup (by rfl) (Ws_cons (W_name (pg_name (i := 1) N_names_of_nd (by rfl) (by first | exact .inl rfl | exact .inr rfl)) (by decide)) (Ws_cons (W_name (pg_name (i := 2) N_names_of_nd (by rfl) (by first | exact .inl rfl | exact .inr rfl)) (by decide)) (Ws_cons (W_name (pg_name (i := 3) N_names_of_nd (by rfl) (by first | exact .inl rfl | exact .inr rfl)) (by decide)) Ws_nil))))) (fun _ _ _ _ _ => Ts_nil) (fun _ _ _ _ _ => (I_seq (E_call g_names_in (hr.mono (by decide)) .none (by rfl) (A_cons (E_var (pv 3)) A_nil)))) (fun _ _ _ _ _ => (W_name (pg_name (i := 4) N_names_of_nd (by rfl) (by first | exact .inl rfl | exact .inr rfl)) (by decide))) (fun _ _ _ _ _ => Ts_nil) (fun _ _ _ _ _ => (E_var (pv 4))))) A_nil))))

def N_Web_init : List Str := ["self", "parts", "told"]
theorem N_Web_init_nd : N_Web_init.Nodup := by decide +kernel
theorem S_Web_init : FnScope N_Web_init ["self", "parts", "told"] (defScope s_Web_init) := ⟨rfl, rfl, rfl, N_Web_init_nd, rfl, by decide +kernel, by decide +kernel⟩
def t_Web_init (Y : Wd) (sp_Web_grow : DSp) (sp_names_of : DSp) (E' : DX) : DS :=
  (dSeq (dPutF Y.K "parts" (dVar 0) (dVar 1)) (dSeq (dPutF Y.K "told" (dVar 0) (dVar 2)) (dSeq (dPutF Y.K "names" (dVar 0) (dCall sp_names_of [] DX0 (dCons (dVar 2) dNil))) (dSeq (dPutF Y.K "roots" (dVar 0) dDNew) (dSeq (dPutF Y.K "turns" (dVar 0) dDNew) (dSeq (dPutF Y.K "parents" (dVar 0) dDNew) (dSeq (dPutF Y.K "misfit" (dVar 0) (dC .non)) (dDrop (dMeth (ga Y.K "Web") "grow" sp_Web_grow [] DX0 (dVar 0) dNil)))))))))
set_option maxHeartbeats 4000000 in
theorem w_Web_init {Y : Wd} {mg : Str → Option Value} {base : Heap} (F : Fs Y.K mg) {sp_Web_grow : DSp} {sp_names_of : DSp} (g_Web_grow : MFn Y mg base (ga Y.K "Web") "grow" 2 ["self"] [] sp_Web_grow) (g_names_of : GFn Y mg base "names_of" 2 ["told"] [] sp_names_of) (f : Addr) (cdv : Value) (A : Around) (outer : List Env) (s : Shared) (H : Hp) (E' : DX) (E : XK) (hr : Room 3 (A.deeper (envOfC "Web.__init__" (defScope s_Web_init) s.heap.objs.size f cdv))) (kx : KX Y H E' E) :
    PSs (cxD Y mg base N_Web_init "Web.__init__" (defScope s_Web_init) f cdv A outer s H E) (defBody s_Web_init) (lS Y (t_Web_init Y sp_Web_grow sp_names_of E')) := by
  have hu := hr.units
  have hp : PassesOwn (model Y.P Y.w) (A.deeper (envOfC "Web.__init__" (defScope s_Web_init) s.heap.objs.size f cdv)) (cxD Y mg base N_Web_init "Web.__init__" (defScope s_Web_init) f cdv A outer s H E).env (cxD Y mg base N_Web_init "Web.__init__" (defScope s_Web_init) f cdv A outer s H E).xe := passes_of rfl
  exact (S_cons (S_fld (E_var (pv 0)) (E_var (pv 1))) (S_cons (S_fld (E_var (pv 0)) (E_var (pv 2))) (S_cons (S_fld (E_var (pv 0)) (E_call g_names_of (hr.mono (by decide)) .none (by rfl) (A_cons (E_var (pv 2)) A_nil))) (S_cons (S_fld (E_var (pv 0)) E_dnew) (S_cons (S_fld (E_var (pv 0)) E_dnew) (S_cons (S_fld (E_var (pv 0)) E_dnew) (S_cons (S_fld (E_var (pv 0)) E_non) (S_one (S_expr (E_meth0 g_Web_grow (hr.mono (by decide)) .none (E_var (pv 0))))))))))))

def N_Web_ties : List Str := ["self", "found", "name", "number", "at", "event", "one", "other", "turn"]
theorem N_Web_ties_nd : N_Web_ties.Nodup := by decide +kernel
theorem S_Web_ties : FnScope N_Web_ties ["self"] (defScope s_Web_ties) := ⟨rfl, rfl, rfl, N_Web_ties_nd, rfl, by decide +kernel, by decide +kernel⟩
def t_Web_ties (Y : Wd) (E' : DX) : DS :=
  (dSeq (dAsg (dC1 (fun _ => .dic []) [2] (dSeqI (dOp rAdd (dLst (dCons (dC .non) dNil)) (dFld Y.K "names" (dVar 0)))) (dgName 2) dYes (dmD (dVar 2) (dLst dNil))) (dgName 1)) (dSeq (dFor (dSeqI (dFld Y.K "told" (dVar 0))) (dgTup 3 (dgCons (dgName 3) (dgCons (dgName 4) (dgCons (dgName 5) dgNil)))) (dSeq (dAsg (dIf (dTest (dOp rEqD1 (dOp rGetS (dVar 5) (dC (.int 0))) (dC (.str "seen")))) (dTup (dCons (dC .non) (dCons (dOp rGetS (dVar 5) (dC (.int 1))) dNil))) (dTup (dCons (dOp rGetS (dVar 5) (dC (.int 1))) (dCons (dOp rGetS (dVar 5) (dC (.int 2))) dNil)))) (dgTup 2 (dgCons (dgName 6) (dgCons (dgName 7) dgNil)))) (dSeq (dAsg (dOp rGetS (dVar 5) (dUn rNegD (dC (.int 1)))) (dgName 8)) (dSeq (dDrop (dBM "list" rApp (dOp rGetD (dVar 1) (dVar 6)) (dCons (dTup (dCons (dVar 7) (dCons (dVar 8) (dCons (dTup (dCons (dVar 3) (dCons (dVar 4) (dCons (dC (.int 1)) dNil)))) dNil)))) dNil))) (dDrop (dBM "list" rApp (dOp rGetD (dVar 1) (dVar 7)) (dCons (dTup (dCons (dVar 6) (dCons (dOp rSubD (dFld Y.K "parts" (dVar 0)) (dVar 8)) (dCons (dTup (dCons (dVar 3) (dCons (dVar 4) (dCons (dUn rNegD (dC (.int 1))) dNil)))) dNil)))) dNil))))))) (dRet (dVar 1))))
set_option maxHeartbeats 4000000 in
theorem w_Web_ties {Y : Wd} {mg : Str → Option Value} {base : Heap} (F : Fs Y.K mg) (f : Addr) (cdv : Value) (A : Around) (outer : List Env) (s : Shared) (H : Hp) (E' : DX) (E : XK) (hr : Room 0 (A.deeper (envOfC "Web.ties" (defScope s_Web_ties) s.heap.objs.size f cdv))) (kx : KX Y H E' E) :
    PSs (cxD Y mg base N_Web_ties "Web.ties" (defScope s_Web_ties) f cdv A outer s H E) (defBody s_Web_ties) (lS Y (t_Web_ties Y E')) := by
  have hu := hr.units
  have hp : PassesOwn (model Y.P Y.w) (A.deeper (envOfC "Web.ties" (defScope s_Web_ties) s.heap.objs.size f cdv)) (cxD Y mg base N_Web_ties "Web.ties" (defScope s_Web_ties) f cdv A outer s H E).env (cxD Y mg base N_Web_ties "Web.ties" (defScope s_Web_ties) f cdv A outer s H E).xe := passes_of rfl
  exact (S_cons (K1.set (own := [("name", 2)]) (kD1 rfl N_Web_ties_nd (blkOk_by (N := N_Web_ties) (sc := defScope s_Web_ties) (own := [("name", 2)]) (by decide +kernel)) (I_seq (E_op o_add (E_lst (A_cons E_non A_nil)) (E_fld (E_var (pv 0))))) (fun _ _ _ _ _ => (W_name (pg_name (i := 2) N_Web_ties_nd (by rfl) (by first | exact .inl rfl | exact .inr rfl)) (by decide))) (fun _ _ _ _ _ => Ts_nil) (fun _ _ _ _ _ => (E_var (pv 2))) (fun _ _ _ _ _ => (E_lst A_nil))) (i := 1) rfl rfl (swD rfl rfl rfl (by decide +kernel))) (S_cons (S_for hp rfl (I_seq (E_fld (E_var (pv 0)))) (G_tup rfl (Gs_cons (G_name (pg_name (i := 3) N_Web_ties_nd rfl (.inl rfl))) (Gs_cons (G_name (pg_name (i := 4) N_Web_ties_nd rfl (.inl rfl))) (Gs_cons (G_name (pg_name (i := 5) N_Web_ties_nd rfl (.inl rfl))) Gs_nil)))) (S_cons (S_asg (E_if (T_cmp (o_eq hu) (E_ix i_seq (E_var (pv 5)) E_int) (E_gS (by rfl) F.c_SEEN) rfl) (E_tup (A_cons E_non (A_cons (E_ix i_seq (E_var (pv 5)) E_int) A_nil))) (E_tup (A_cons (E_ix i_seq (E_var (pv 5)) E_int) (A_cons (E_ix i_seq (E_var (pv 5)) E_int) A_nil)))) (G_tup rfl (Gs_cons (G_name (pg_name (i := 6) N_Web_ties_nd rfl (.inl rfl))) (Gs_cons (G_name (pg_name (i := 7) N_Web_ties_nd rfl (.inl rfl))) Gs_nil)))) (S_cons (S_set (ps_set (i := 8) N_Web_ties_nd rfl (.inl rfl) (E_ix i_seq (E_var (pv 5)) (E_un u_neg E_int)))) (S_cons (S_expr (E_bm PySem.F.plainAttrs_list PySem.F.slot_list_append PySem.F.type_list_append m_append (E_ix i_dict (E_var (pv 1)) (E_var (pv 6))) (A_cons (E_tup (A_cons (E_var (pv 7)) (A_cons (E_var (pv 8)) (A_cons (E_tup (A_cons (E_var (pv 3)) (A_cons (E_var (pv 4)) (A_cons E_int A_nil)))) A_nil)))) A_nil))) (S_one (S_expr (E_bm PySem.F.plainAttrs_list PySem.F.slot_list_append PySem.F.type_list_append m_append (E_ix i_dict (E_var (pv 1)) (E_var (pv 7))) (A_cons (E_tup (A_cons (E_var (pv 6)) (A_cons (E_op o_sub (E_fld (E_var (pv 0))) (E_var (pv 8))) (A_cons (E_tup (A_cons (E_var (pv 3)) (A_cons (E_var (pv 4)) (A_cons (E_un u_neg E_int) A_nil)))) A_nil)))) A_nil)))))))) (S_one (S_ret (E_var (pv 1))))))

def N_Web_grow : List Str := ["self", "ties", "root", "waiting", "here", "there", "turn", "step"]
theorem N_Web_grow_nd : N_Web_grow.Nodup := by decide +kernel
theorem S_Web_grow : FnScope N_Web_grow ["self"] (defScope s_Web_grow) := ⟨rfl, rfl, rfl, N_Web_grow_nd, rfl, by decide +kernel, by decide +kernel⟩
def t_Web_grow (Y : Wd) (sp_Web_ties : DSp) (E' : DX) : DS :=
  (dSeq (dAsg (dMeth (ga Y.K "Web") "ties" sp_Web_ties [] DX0 (dVar 0) dNil) (dgName 1)) (dFor (dSeqI (dOp rAdd (dLst (dCons (dC .non) dNil)) (dFld Y.K "names" (dVar 0)))) (dgName 2) (dSeq (dIfS (dTest (dOp (rInB false) (dVar 2) (dFld Y.K "roots" (dVar 0)))) dCont dNext) (dSeq (dAsg (dTup (dCons (dVar 2) (dCons (dC (.int 0)) (dCons (dC .non) dNil)))) (dgTup 3 (dgCons (dgSub (dFld Y.K "roots" (dVar 0)) (dVar 2) rPutD) (dgCons (dgSub (dFld Y.K "turns" (dVar 0)) (dVar 2) rPutD) (dgCons (dgSub (dFld Y.K "parents" (dVar 0)) (dVar 2) rPutD) dgNil))))) (dSeq (dAsg (dLst (dCons (dVar 2) dNil)) (dgName 3)) (dWhile (dTest (dOp rGtD (dCB rLen (dCons (dVar 3) dNil)) (dC (.int 0)))) (dSeq (dAsg (dBM "list" rPop1 (dVar 3) (dCons (dC (.int 0)) dNil)) (dgName 4)) (dFor (dSeqI (dOp rGetD (dVar 1) (dVar 4))) (dgTup 3 (dgCons (dgName 5) (dgCons (dgName 6) (dgCons (dgName 7) dgNil)))) (dIfS (dTest (dOp (rInB true) (dVar 5) (dFld Y.K "roots" (dVar 0)))) (dSeq (dAsg (dVar 2) (dgSub (dFld Y.K "roots" (dVar 0)) (dVar 5) rPutD)) (dSeq (dAsg (dOp rModD (dOp rAdd (dOp rGetD (dFld Y.K "turns" (dVar 0)) (dVar 4)) (dVar 6)) (dFld Y.K "parts" (dVar 0))) (dgSub (dFld Y.K "turns" (dVar 0)) (dVar 5) rPutD)) (dSeq (dAsg (dTup (dCons (dVar 4) (dCons (dVar 7) dNil))) (dgSub (dFld Y.K "parents" (dVar 0)) (dVar 5) rPutD)) (dDrop (dBM "list" rApp (dVar 3) (dCons (dVar 5) dNil)))))) (dIfS (dAnd (dTest (dOp rIsN (dFld Y.K "misfit" (dVar 0)) (dC .non))) (dTest (dOp (rNotOf rEqD1) (dOp rModD (dOp rSubD (dOp rAdd (dOp rGetD (dFld Y.K "turns" (dVar 0)) (dVar 4)) (dVar 6)) (dOp rGetD (dFld Y.K "turns" (dVar 0)) (dVar 5))) (dFld Y.K "parts" (dVar 0))) (dC (.int 0))))) (dPutF Y.K "misfit" (dVar 0) (dTup (dCons (dVar 4) (dCons (dVar 5) (dCons (dVar 7) dNil))))) dNext))))))))))
set_option maxHeartbeats 4000000 in
theorem w_Web_grow {Y : Wd} {mg : Str → Option Value} {base : Heap} (F : Fs Y.K mg) {sp_Web_ties : DSp} (g_Web_ties : MFn Y mg base (ga Y.K "Web") "ties" 1 ["self"] [] sp_Web_ties) (f : Addr) (cdv : Value) (A : Around) (outer : List Env) (s : Shared) (H : Hp) (E' : DX) (E : XK) (hr : Room 1 (A.deeper (envOfC "Web.grow" (defScope s_Web_grow) s.heap.objs.size f cdv))) (kx : KX Y H E' E) :
    PSs (cxD Y mg base N_Web_grow "Web.grow" (defScope s_Web_grow) f cdv A outer s H E) (defBody s_Web_grow) (lS Y (t_Web_grow Y sp_Web_ties E')) := by
  have hu := hr.units
  have hp : PassesOwn (model Y.P Y.w) (A.deeper (envOfC "Web.grow" (defScope s_Web_grow) s.heap.objs.size f cdv)) (cxD Y mg base N_Web_grow "Web.grow" (defScope s_Web_grow) f cdv A outer s H E).env (cxD Y mg base N_Web_grow "Web.grow" (defScope s_Web_grow) f cdv A outer s H E).xe := passes_of rfl
  exact (S_cons (S_set (ps_set (i := 1) N_Web_grow_nd rfl (.inl rfl) (E_meth0 g_Web_ties (hr.mono (by decide)) .none (E_var (pv 0))))) (S_one (S_for hp rfl (I_seq (E_op o_add (E_lst (A_cons E_non A_nil)) (E_fld (E_var (pv 0))))) (G_name (pg_name (i := 2) N_Web_grow_nd rfl (.inl rfl))) (S_cons (S_if (T_cmp o_in (E_var (pv 2)) (E_fld (E_var (pv 0))) rfl) (S_one S_continue) S_nil) (S_cons (S_asg (E_tup (A_cons (E_var (pv 2)) (A_cons E_int (A_cons E_non A_nil)))) (G_tup rfl (Gs_cons (G_sub (E_fld (E_var (pv 0))) (E_var (pv 2)) p_dict) (Gs_cons (G_sub (E_fld (E_var (pv 0))) (E_var (pv 2)) p_dict) (Gs_cons (G_sub (E_fld (E_var (pv 0))) (E_var (pv 2)) p_dict) Gs_nil))))) (S_cons (S_set (ps_set (i := 3) N_Web_grow_nd rfl (.inl rfl) (E_lst (A_cons (E_var (pv 2)) A_nil)))) (S_one (S_while hp (T_cmp o_gt (E_cb c_len (by rfl) F.b_len boot_len (A_cons (E_var (pv 3)) A_nil)) E_int rfl) (S_cons (S_set (ps_set (i := 4) N_Web_grow_nd rfl (.inl rfl) (E_bm PySem.F.plainAttrs_list PySem.F.slot_list_pop PySem.F.type_list_pop m_popAt (E_var (pv 3)) (A_cons E_int A_nil)))) (S_one (S_for hp rfl (I_seq (E_ix i_dict (E_var (pv 1)) (E_var (pv 4)))) (G_tup rfl (Gs_cons (G_name (pg_name (i := 5) N_Web_grow_nd rfl (.inl rfl))) (Gs_cons (G_name (pg_name (i := 6) N_Web_grow_nd rfl (.inl rfl))) (Gs_cons (G_name (pg_name (i := 7) N_Web_grow_nd rfl (.inl rfl))) Gs_nil)))) (S_one (S_if (T_cmp o_notIn (E_var (pv 5)) (E_fld (E_var (pv 0))) rfl) (S_cons (S_asg (E_var (pv 2)) (G_sub (E_fld (E_var (pv 0))) (E_var (pv 5)) p_dict)) (S_cons (S_asg (E_op o_mod (E_op o_add (E_ix i_dict (E_fld (E_var (pv 0))) (E_var (pv 4))) (E_var (pv 6))) (E_fld (E_var (pv 0)))) (G_sub (E_fld (E_var (pv 0))) (E_var (pv 5)) p_dict)) (S_cons (S_asg (E_tup (A_cons (E_var (pv 4)) (A_cons (E_var (pv 7)) A_nil))) (G_sub (E_fld (E_var (pv 0))) (E_var (pv 5)) p_dict)) (S_one (S_expr (E_bm PySem.F.plainAttrs_list PySem.F.slot_list_append PySem.F.type_list_append m_append (E_var (pv 3)) (A_cons (E_var (pv 5)) A_nil))))))) (S_one (S_if (T_w (W_and (T_cmp o_isN (E_fld (E_var (pv 0))) E_non rfl) (W_and1 (T_cmp (o_ne hu) (E_op o_mod (E_op o_sub (E_op o_add (E_ix i_dict (E_fld (E_var (pv 0))) (E_var (pv 4))) (E_var (pv 6))) (E_ix i_dict (E_fld (E_var (pv 0))) (E_var (pv 5)))) (E_fld (E_var (pv 0)))) E_int rfl)))) (S_one (S_fld (E_var (pv 0)) (E_tup (A_cons (E_var (pv 4)) (A_cons (E_var (pv 5)) (A_cons (E_var (pv 7)) A_nil)))))) S_nil)))))))))))))))

def N_Web_pieces : List Str := ["self", "name"]
theorem N_Web_pieces_nd : N_Web_pieces.Nodup := by decide +kernel
theorem S_Web_pieces : FnScope N_Web_pieces ["self"] (defScope s_Web_pieces) := ⟨rfl, rfl, rfl, N_Web_pieces_nd, rfl, by decide +kernel, by decide +kernel⟩
def t_Web_pieces (Y : Wd) (E' : DX) : DS :=
  (dRet (dC1 (fun _ => .lst []) [1] (dSeqI (dFld Y.K "names" (dVar 0))) (dgName 1) (dTest (dOp rEqD1 (dOp rGetD (dFld Y.K "roots" (dVar 0)) (dVar 1)) (dVar 1))) (dmL (dVar 1))))
set_option maxHeartbeats 4000000 in
theorem w_Web_pieces {Y : Wd} {mg : Str → Option Value} {base : Heap} (F : Fs Y.K mg) (f : Addr) (cdv : Value) (A : Around) (outer : List Env) (s : Shared) (H : Hp) (E' : DX) (E : XK) (hr : Room 0 (A.deeper (envOfC "Web.pieces" (defScope s_Web_pieces) s.heap.objs.size f cdv))) (kx : KX Y H E' E) :
    PSs (cxD Y mg base N_Web_pieces "Web.pieces" (defScope s_Web_pieces) f cdv A outer s H E) (defBody s_Web_pieces) (lS Y (t_Web_pieces Y E')) := by
  have hu := hr.units
  have hp : PassesOwn (model Y.P Y.w) (A.deeper (envOfC "Web.pieces" (defScope s_Web_pieces) s.heap.objs.size f cdv)) (cxD Y mg base N_Web_pieces "Web.pieces" (defScope s_Web_pieces) f cdv A outer s H E).env (cxD Y mg base N_Web_pieces "Web.pieces" (defScope s_Web_pieces) f cdv A outer s H E).xe := passes_of rfl
  exact (S_one (S_ret (K1.pe (own := [("name", 1)]) (kL1 rfl N_Web_pieces_nd (blkOk_by (N := N_Web_pieces) (sc := defScope s_Web_pieces) (own := [("name", 1)]) (by decide +kernel)) (I_seq (E_fld (E_var (pv 0)))) (fun _ _ _ _ _ => (W_name (pg_name (i := 1) N_Web_pieces_nd (by rfl) (by first | exact .inl rfl | exact .inr rfl)) (by decide))) (fun _ _ _ _ _ => (Ts_one (T_cmp (o_eq hu) (E_ix i_dict (E_fld (E_var (pv 0))) (E_var (pv 1))) (E_var (pv 1)) rfl))) (fun _ _ _ _ _ => (E_var (pv 1)))))))

def N_Web_members : List Str := ["self", "root", "name"]
theorem N_Web_members_nd : N_Web_members.Nodup := by decide +kernel
theorem S_Web_members : FnScope N_Web_members ["self", "root"] (defScope s_Web_members) := ⟨rfl, rfl, rfl, N_Web_members_nd, rfl, by decide +kernel, by decide +kernel⟩
def t_Web_members (Y : Wd) (E' : DX) : DS :=
  (dRet (dC1 (fun _ => .lst []) [2] (dSeqI (dFld Y.K "names" (dVar 0))) (dgName 2) (dTest (dOp rEqD1 (dOp rGetD (dFld Y.K "roots" (dVar 0)) (dVar 2)) (dVar 1))) (dmL (dVar 2))))
set_option maxHeartbeats 4000000 in
theorem w_Web_members {Y : Wd} {mg : Str → Option Value} {base : Heap} (F : Fs Y.K mg) (f : Addr) (cdv : Value) (A : Around) (outer : List Env) (s : Shared) (H : Hp) (E' : DX) (E : XK) (hr : Room 0 (A.deeper (envOfC "Web.members" (defScope s_Web_members) s.heap.objs.size f cdv))) (kx : KX Y H E' E) :
    PSs (cxD Y mg base N_Web_members "Web.members" (defScope s_Web_members) f cdv A outer s H E) (defBody s_Web_members) (lS Y (t_Web_members Y E')) := by
  have hu := hr.units
  have hp : PassesOwn (model Y.P Y.w) (A.deeper (envOfC "Web.members" (defScope s_Web_members) s.heap.objs.size f cdv)) (cxD Y mg base N_Web_members "Web.members" (defScope s_Web_members) f cdv A outer s H E).env (cxD Y mg base N_Web_members "Web.members" (defScope s_Web_members) f cdv A outer s H E).xe := passes_of rfl
  exact (S_one (S_ret (K1.pe (own := [("name", 2)]) (kL1 rfl N_Web_members_nd (blkOk_by (N := N_Web_members) (sc := defScope s_Web_members) (own := [("name", 2)]) (by decide +kernel)) (I_seq (E_fld (E_var (pv 0)))) (fun _ _ _ _ _ => (W_name (pg_name (i := 2) N_Web_members_nd (by rfl) (by first | exact .inl rfl | exact .inr rfl)) (by decide))) (fun _ _ _ _ _ => (Ts_one (T_cmp (o_eq hu) (E_ix i_dict (E_fld (E_var (pv 0))) (E_var (pv 2))) (E_var (pv 1)) rfl))) (fun _ _ _ _ _ => (E_var (pv 2)))))))

def N_web_of : List Str := ["log", "first", "end"]
theorem N_web_of_nd : N_web_of.Nodup := by decide +kernel
theorem S_web_of : FnScope N_web_of ["log", "first", "end"] (defScope s_web_of) := ⟨rfl, rfl, rfl, N_web_of_nd, rfl, by decide +kernel, by decide +kernel⟩
def t_web_of (Y : Wd) (sp_Web_init : DSp) (sp_told_events : DSp) (E' : DX) : DS :=
  (dRet (dMake (ga Y.K "Web") sp_Web_init [] DX0 (dCons (dFld Y.K "parts" (dVar 0)) (dCons (dCall sp_told_events [] DX0 (dCons (dVar 0) (dCons (dVar 1) (dCons (dVar 2) dNil)))) dNil))))
set_option maxHeartbeats 4000000 in
theorem w_web_of {Y : Wd} {mg : Str → Option Value} {base : Heap} (F : Fs Y.K mg) {sp_Web_init : DSp} {sp_told_events : DSp} (g_Web_init : CFn Y mg base "Web" (ga Y.K "Web") 4 ["self", "parts", "told"] [] sp_Web_init) (g_told_events : GFn Y mg base "told_events" 1 ["log", "first", "end"] [] sp_told_events) (f : Addr) (cdv : Value) (A : Around) (outer : List Env) (s : Shared) (H : Hp) (E' : DX) (E : XK) (hr : Room 5 (A.deeper (envOfC "web_of" (defScope s_web_of) s.heap.objs.size f cdv))) (kx : KX Y H E' E) :
    PSs (cxD Y mg base N_web_of "web_of" (defScope s_web_of) f cdv A outer s H E) (defBody s_web_of) (lS Y (t_web_of Y sp_Web_init sp_told_events E')) := by
  have hu := hr.units
  have hp : PassesOwn (model Y.P Y.w) (A.deeper (envOfC "web_of" (defScope s_web_of) s.heap.objs.size f cdv)) (cxD Y mg base N_web_of "web_of" (defScope s_web_of) f cdv A outer s H E).env (cxD Y mg base N_web_of "web_of" (defScope s_web_of) f cdv A outer s H E).xe := passes_of rfl
  exact (S_one (S_ret (E_make g_Web_init (hr.mono (by decide)) .none (by rfl) (A_cons (E_fld (E_var (pv 0))) (A_cons (E_call g_told_events (hr.mono (by decide)) .none (by rfl) (A_cons (E_var (pv 0)) (A_cons (E_var (pv 1)) (A_cons (E_var (pv 2)) A_nil)))) A_nil)))))

def N_check_most : List Str := ["most"]
theorem N_check_most_nd : N_check_most.Nodup := by decide +kernel
theorem S_check_most : FnScope N_check_most ["most"] (defScope s_check_most) := ⟨rfl, rfl, rfl, N_check_most_nd, rfl, by decide +kernel, by decide +kernel⟩
def t_check_most (Y : Wd) (sp_is_within : DSp) (E' : DX) : DS :=
  (dIfS (dNot (dTru (dCall sp_is_within [] DX0 (dCons (dVar 0) (dCons (dC (.int 1)) (dCons (dC (.int 100000)) dNil)))))) dNever dNext)
set_option maxHeartbeats 4000000 in
theorem w_check_most {Y : Wd} {mg : Str → Option Value} {base : Heap} (F : Fs Y.K mg) {sp_is_within : DSp} (g_is_within : GFn Y mg base "is_within" 2 ["thing", "low", "high"] [] sp_is_within) (f : Addr) (cdv : Value) (A : Around) (outer : List Env) (s : Shared) (H : Hp) (E' : DX) (E : XK) (hr : Room 2 (A.deeper (envOfC "check_most" (defScope s_check_most) s.heap.objs.size f cdv))) (kx : KX Y H E' E) :
    PSs (cxD Y mg base N_check_most "check_most" (defScope s_check_most) f cdv A outer s H E) (defBody s_check_most) (lS Y (t_check_most Y sp_is_within E')) := by
  have hu := hr.units
  have hp : PassesOwn (model Y.P Y.w) (A.deeper (envOfC "check_most" (defScope s_check_most) s.heap.objs.size f cdv)) (cxD Y mg base N_check_most "check_most" (defScope s_check_most) f cdv A outer s H E).env (cxD Y mg base N_check_most "check_most" (defScope s_check_most) f cdv A outer s H E).xe := passes_of rfl
  exact (S_one (S_if (T_not (T_tru (E_call g_is_within (hr.mono (by decide)) .none (by rfl) (A_cons (E_var (pv 0)) (A_cons E_int (A_cons (E_gI (by rfl) F.c_MOST_LIST) A_nil)))))) (S_one S_never) S_nil))

def N_balanced_web : List Str := ["log", "first", "end", "web"]
theorem N_balanced_web_nd : N_balanced_web.Nodup := by decide +kernel
theorem S_balanced_web : FnScope N_balanced_web ["log", "first", "end"] (defScope s_balanced_web) := ⟨rfl, rfl, rfl, N_balanced_web_nd, rfl, by decide +kernel, by decide +kernel⟩
def t_balanced_web (Y : Wd) (sp_web_of : DSp) (E' : DX) : DS :=
  (dSeq (dAsg (dCall sp_web_of [] DX0 (dCons (dVar 0) (dCons (dVar 1) (dCons (dVar 2) dNil)))) (dgName 3)) (dSeq (dIfS (dTest (dOp rNotN (dFld Y.K "misfit" (dVar 3)) (dC .non))) dNever dNext) (dRet (dVar 3))))
set_option maxHeartbeats 4000000 in
theorem w_balanced_web {Y : Wd} {mg : Str → Option Value} {base : Heap} (F : Fs Y.K mg) {sp_web_of : DSp} (g_web_of : GFn Y mg base "web_of" 6 ["log", "first", "end"] [] sp_web_of) (f : Addr) (cdv : Value) (A : Around) (outer : List Env) (s : Shared) (H : Hp) (E' : DX) (E : XK) (hr : Room 6 (A.deeper (envOfC "balanced_web" (defScope s_balanced_web) s.heap.objs.size f cdv))) (kx : KX Y H E' E) :
    PSs (cxD Y mg base N_balanced_web "balanced_web" (defScope s_balanced_web) f cdv A outer s H E) (defBody s_balanced_web) (lS Y (t_balanced_web Y sp_web_of E')) := by
  have hu := hr.units
  have hp : PassesOwn (model Y.P Y.w) (A.deeper (envOfC "balanced_web" (defScope s_balanced_web) s.heap.objs.size f cdv)) (cxD Y mg base N_balanced_web "balanced_web" (defScope s_balanced_web) f cdv A outer s H E).env (cxD Y mg base N_balanced_web "balanced_web" (defScope s_balanced_web) f cdv A outer s H E).xe := passes_of rfl
  exact (S_cons (S_set (ps_set (i := 3) N_balanced_web_nd rfl (.inl rfl) (E_call g_web_of (hr.mono (by decide)) .none (by rfl) (A_cons (E_var (pv 0)) (A_cons (E_var (pv 1)) (A_cons (E_var (pv 2)) A_nil)))))) (S_cons (S_if (T_cmp o_notN (E_fld (E_var (pv 3))) E_non rfl) (S_one S_never) S_nil) (S_one (S_ret (E_var (pv 3))))))

def N_piece_rows : List Str := ["web", "root", "name", "turn"]
theorem N_piece_rows_nd : N_piece_rows.Nodup := by decide +kernel
theorem S_piece_rows : FnScope N_piece_rows ["web", "root"] (defScope s_piece_rows) := ⟨rfl, rfl, rfl, N_piece_rows_nd, rfl, by decide +kernel, by decide +kernel⟩
def t_piece_rows (Y : Wd) (sp_Web_members : DSp) (E' : DX) : DS :=
  (dRet (dC1 (fun _ => .lst []) [3] (dRng1 (dCons (dFld Y.K "parts" (dVar 0)) dNil)) (dgName 3) dYes (dmL (dC1 (fun _ => .lst []) [2] (dSeqI (dMeth (ga Y.K "Web") "members" sp_Web_members [] DX0 (dVar 0) (dCons (dVar 1) dNil))) (dgName 2) (dTest (dOp rEqD1 (dOp rGetD (dFld Y.K "turns" (dVar 0)) (dVar 2)) (dVar 3))) (dmL (dVar 2))))))
set_option maxHeartbeats 4000000 in
theorem w_piece_rows {Y : Wd} {mg : Str → Option Value} {base : Heap} (F : Fs Y.K mg) {sp_Web_members : DSp} (g_Web_members : MFn Y mg base (ga Y.K "Web") "members" 1 ["self", "root"] [] sp_Web_members) (f : Addr) (cdv : Value) (A : Around) (outer : List Env) (s : Shared) (H : Hp) (E' : DX) (E : XK) (hr : Room 1 (A.deeper (envOfC "piece_rows" (defScope s_piece_rows) s.heap.objs.size f cdv))) (kx : KX Y H E' E) :
    PSs (cxD Y mg base N_piece_rows "piece_rows" (defScope s_piece_rows) f cdv A outer s H E) (defBody s_piece_rows) (lS Y (t_piece_rows Y sp_Web_members E')) := by
  have hu := hr.units
  have hp : PassesOwn (model Y.P Y.w) (A.deeper (envOfC "piece_rows" (defScope s_piece_rows) s.heap.objs.size f cdv)) (cxD Y mg base N_piece_rows "piece_rows" (defScope s_piece_rows) f cdv A outer s H E).env (cxD Y mg base N_piece_rows "piece_rows" (defScope s_piece_rows) f cdv A outer s H E).xe := passes_of rfl
  exact (S_one (S_ret (K1.pe (own := [("turn", 3)]) (kL1 rfl N_piece_rows_nd (blkOk_by (N := N_piece_rows) (sc := defScope s_piece_rows) (own := [("turn", 3)]) (by decide +kernel)) (I_rng1 (by rfl) F.b_range (A_cons (E_fld (E_var (pv 0))) A_nil)) (fun _ _ _ _ _ => (W_name (pg_name (i := 3) N_piece_rows_nd (by rfl) (by first | exact .inl rfl | exact .inr rfl)) (by decide))) (fun _ _ _ _ _ => Ts_nil) (fun _ _ _ _ _ => (K1.pe (own := [("name", 2)]) (kL1 rfl N_piece_rows_nd (blkOk_re (blkOk_by (N := N_piece_rows) (sc := sc_piece_rows) (own := [("name", 2)]) (by decide +kernel))) (I_seq (E_meth g_Web_members (hr.mono (by decide)) .none (E_var (pv 0)) (A_cons (E_var (pv 1)) A_nil))) (fun _ _ _ _ _ => (W_name (pg_name (i := 2) N_piece_rows_nd (by rfl) (by first | exact .inl rfl | exact .inr rfl)) (by decide))) (fun _ _ _ _ _ => (Ts_one (T_cmp (o_eq hu) (E_ix i_dict (E_fld (E_var (pv 0))) (E_var (pv 2))) (E_var (pv 3)) rfl))) (fun _ _ _ _ _ => (E_var (pv 2))))))))))

def N_sure_teams : List Str := ["log", "first", "end", "most", "web", "tables", "root", "many", "rows", "number", "row", "found", "teams", "team", "name"]
theorem N_sure_teams_nd : N_sure_teams.Nodup := by decide +kernel
theorem S_sure_teams : FnScope N_sure_teams ["log", "first", "end", "most"] (defScope s_sure_teams) := ⟨rfl, rfl, rfl, N_sure_teams_nd, rfl, by decide +kernel, by decide +kernel⟩
def t_sure_teams (Y : Wd) (sp_Web_pieces : DSp) (sp_balanced_web : DSp) (sp_check_most : DSp) (sp_check_stretch : DSp) (sp_piece_rows : DSp) (E' : DX) : DS :=
  (dSeq (dDrop (dCall sp_check_stretch [] DX0 (dCons (dVar 0) (dCons (dVar 1) (dCons (dVar 2) dNil))))) (dSeq (dDrop (dCall sp_check_most [] DX0 (dCons (dVar 3) dNil))) (dSeq (dAsg (dCall sp_balanced_web [] DX0 (dCons (dVar 0) (dCons (dVar 1) (dCons (dVar 2) dNil)))) (dgName 4)) (dSeq (dAsg (dC1 (fun _ => .lst []) [6] (dSeqI (dOp rAdd (dLst (dCons (dC .non) dNil)) (dMeth (ga Y.K "Web") "pieces" sp_Web_pieces [] DX0 (dVar 4) dNil))) (dgName 6) dYes (dmL (dCall sp_piece_rows [] DX0 (dCons (dVar 4) (dCons (dVar 6) dNil))))) (dgName 5)) (dSeq (dAsg (dC (.int 0)) (dgName 7)) (dSeq (dFor (dSeqI (dVar 5)) (dgName 8) (dSeq (dAsg (dC (.int 1)) (dgName 9)) (dSeq (dFor (dSeqI (dVar 8)) (dgName 10) (dAsg (dOp rMulD (dVar 9) (dCB rLen (dCons (dVar 10) dNil))) (dgName 9))) (dAsg (dOp rAdd (dVar 7) (dVar 9)) (dgName 7))))) (dSeq (dIfS (dTest (dOp rGtD (dVar 7) (dVar 3))) (dRaise (ga Y.K "TooMany") ["most"] E' (dCons (dVar 3) dNil)) dNext) (dSeq (dAsg (dLst dNil) (dgName 11)) (dSeq (dFor (dSeqI (dVar 5)) (dgName 8) (dSeq (dAsg (dLst (dCons (dTup dNil) dNil)) (dgName 12)) (dSeq (dFor (dSeqI (dVar 8)) (dgName 10) (dAsg (dC2 (fun _ => .lst []) [13, 14] [14] (dSeqI (dVar 12)) (dgName 13) dYes (dSeqI (dVar 10)) (dgName 14) dYes (dmL (dOp rAdd (dVar 13) (dTup (dCons (dVar 14) dNil))))) (dgName 12))) (dDrop (dBM "list" rExt (dVar 11) (dCons (dC1 (fun _ => .lst []) [13] (dSeqI (dVar 12)) (dgName 13) dYes (dmL (dCB rTuple (dCons (dCB rSortT (dCons (dVar 13) dNil)) dNil)))) dNil)))))) (dRet (dCB (rSorted Y) (dCons (dVar 11) dNil))))))))))))
set_option maxHeartbeats 4000000 in
theorem w_sure_teams {Y : Wd} {mg : Str → Option Value} {base : Heap} (F : Fs Y.K mg) {sp_Web_pieces : DSp} {sp_balanced_web : DSp} {sp_check_most : DSp} {sp_check_stretch : DSp} {sp_piece_rows : DSp} (g_Web_pieces : MFn Y mg base (ga Y.K "Web") "pieces" 1 ["self"] [] sp_Web_pieces) (g_balanced_web : GFn Y mg base "balanced_web" 7 ["log", "first", "end"] [] sp_balanced_web) (g_check_most : GFn Y mg base "check_most" 3 ["most"] [] sp_check_most) (g_check_stretch : GFn Y mg base "check_stretch" 3 ["log", "first", "end"] [] sp_check_stretch) (g_piece_rows : GFn Y mg base "piece_rows" 2 ["web", "root"] [] sp_piece_rows) (gx : ∀ X : Cx, X.prog = Y.P → X.w = Y.w → X.K = Y.K → X.mg = mg → X.base = base → ExMk X "TooMany" (ga Y.K "TooMany") 1 ["most"]) (f : Addr) (cdv : Value) (A : Around) (outer : List Env) (s : Shared) (H : Hp) (E' : DX) (E : XK) (hr : Room 7 (A.deeper (envOfC "sure_teams" (defScope s_sure_teams) s.heap.objs.size f cdv))) (kx : KX Y H E' E) :
    PSs (cxD Y mg base N_sure_teams "sure_teams" (defScope s_sure_teams) f cdv A outer s H E) (defBody s_sure_teams) (lS Y (t_sure_teams Y sp_Web_pieces sp_balanced_web sp_check_most sp_check_stretch sp_piece_rows E')) := by
  have hu := hr.units
  have hp : PassesOwn (model Y.P Y.w) (A.deeper (envOfC "sure_teams" (defScope s_sure_teams) s.heap.objs.size f cdv)) (cxD Y mg base N_sure_teams "sure_teams" (defScope s_sure_teams) f cdv A outer s H E).env (cxD Y mg base N_sure_teams "sure_teams" (defScope s_sure_teams) f cdv A outer s H E).xe := passes_of rfl
  exact (S_cons (S_expr (E_call g_check_stretch (hr.mono (by decide)) .none (by rfl) (A_cons (E_var (pv 0)) (A_cons (E_var (pv 1)) (A_cons (E_var (pv 2)) A_nil))))) (S_cons (S_expr (E_call g_check_most (hr.mono (by decide)) .none (by rfl) (A_cons (E_var (pv 3)) A_nil))) (S_cons (S_set (ps_set (i := 4) N_sure_teams_nd rfl (.inr rfl) (E_call g_balanced_web (hr.mono (by decide)) .none (by rfl) (A_cons (E_var (pv 0)) (A_cons (E_var (pv 1)) (A_cons (E_var (pv 2)) A_nil)))))) (S_cons (K1.set (own := [("root", 6)]) (kL1 rfl N_sure_teams_nd (blkOk_by (N := N_sure_teams) (sc := defScope s_sure_teams) (own := [("root", 6)]) (by decide +kernel)) (I_seq (E_op o_add (E_lst (A_cons E_non A_nil)) (E_meth0 g_Web_pieces (hr.mono (by decide)) .none (E_var (pv 4))))) (fun _ _ _ _ _ => (W_name (pg_name (i := 6) N_sure_teams_nd (by rfl) (by first | exact .inl rfl | exact .inr rfl)) (by decide))) (fun _ _ _ _ _ => Ts_nil) (fun _ _ _ _ _ => (E_call g_piece_rows (hr.mono (by decide)) .none (by rfl) (A_cons (E_var (pv 4)) (A_cons (E_var (pv 6)) A_nil))))) (i := 5) rfl rfl (swL rfl rfl rfl (by decide +kernel))) (S_cons (S_set (ps_set (i := 7) N_sure_teams_nd rfl (.inl rfl) E_int)) (S_cons (S_for hp rfl (I_seq (E_var (pv 5))) (G_name (pg_name (i := 8) N_sure_teams_nd rfl (.inl rfl))) (S_cons (S_set (ps_set (i := 9) N_sure_teams_nd rfl (.inl rfl) E_int)) (S_cons (S_for hp rfl (I_seq (E_var (pv 8))) (G_name (pg_name (i := 10) N_sure_teams_nd rfl (.inr rfl))) (S_one (S_set (ps_set (i := 9) N_sure_teams_nd rfl (.inl rfl) (E_op o_mul (E_var (pv 9)) (E_cb c_len (by rfl) F.b_len boot_len (A_cons (E_var (pv 10)) A_nil))))))) (S_one (S_set (ps_set (i := 7) N_sure_teams_nd rfl (.inl rfl) (E_op o_add (E_var (pv 7)) (E_var (pv 9))))))))) (S_cons (S_if (T_cmp o_gt (E_var (pv 7)) (E_var (pv 3)) rfl) (S_one (S_raise (gx _ rfl rfl rfl rfl rfl) (hr.mono (by decide)) rfl (.body kx) rfl (A_cons (E_var (pv 3)) A_nil))) S_nil) (S_cons (S_set (ps_set (i := 11) N_sure_teams_nd rfl (.inl rfl) (E_lst A_nil))) (S_cons (S_for hp rfl (I_seq (E_var (pv 5))) (G_name (pg_name (i := 8) N_sure_teams_nd rfl (.inl rfl))) (S_cons (S_set (ps_set (i := 12) N_sure_teams_nd rfl (.inl rfl) (E_lst (A_cons (E_tup A_nil) A_nil)))) (S_cons (S_for hp rfl (I_seq (E_var (pv 8))) (G_name (pg_name (i := 10) N_sure_teams_nd rfl (.inr rfl))) (S_one (K2.set (own := [("team", 13), ("name", 14)]) (kL2 (vs1 := [14]) rfl N_sure_teams_nd (blkOk_by (N := N_sure_teams) (sc := defScope s_sure_teams) (own := [("team", 13), ("name", 14)]) (by decide +kernel)) (by decide) (I_seq (E_var (pv 12))) (fun _ _ _ _ _ => (W_name (pg_name (i := 13) N_sure_teams_nd (by rfl) (by first | exact .inl rfl | exact .inr rfl)) (by decide))) (fun _ _ _ _ _ => Ts_nil) (fun _ _ _ _ _ => (I_seq (E_var (pv 10)))) (fun _ _ _ _ _ => (W_name (pg_name (i := 14) N_sure_teams_nd (by rfl) (by first | exact .inl rfl | exact .inr rfl)) (by decide))) (fun _ _ _ _ _ => Ts_nil) (fun _ _ _ _ _ => (E_op o_add (E_var (pv 13)) (E_tup (A_cons (E_var (pv 14)) A_nil))))) (i := 12) rfl rfl (swL rfl rfl rfl (by decide +kernel))))) (S_one (S_expr (E_bm PySem.F.plainAttrs_list PySem.F.slot_list_extend PySem.F.type_list_extend m_extend (E_var (pv 11)) (A_cons (K1.pe (own := [("team", 13)]) (kL1 rfl N_sure_teams_nd (blkOk_by (N := N_sure_teams) (sc := defScope s_sure_teams) (own := [("team", 13)]) (by decide +kernel)) (I_seq (E_var (pv 12))) (fun _ _ _ _ _ => (W_name (pg_name (i := 13) N_sure_teams_nd (by rfl) (by first | exact .inl rfl | exact .inr rfl)) (by decide))) (fun _ _ _ _ _ => Ts_nil) (fun _ _ _ _ _ => (E_ct c_tuple (by rfl) F.b_tuple boot_tuple (A_cons (E_cb c_sortT (by rfl) F.b_sorted boot_sorted (A_cons (E_var (pv 13)) A_nil)) A_nil))))) A_nil))))))) (S_one (S_ret (E_cb (c_sorted rfl hu) (by rfl) F.b_sorted boot_sorted (A_cons (E_var (pv 11)) A_nil)))))))))))))

def N__law_hand : List Str := ["script", "cells", "cell"]
theorem N__law_hand_nd : N__law_hand.Nodup := by decide +kernel
theorem S__law_hand : FnScope N__law_hand ["script"] (defScope s__law_hand) := ⟨rfl, rfl, rfl, N__law_hand_nd, rfl, by decide +kernel, by decide +kernel⟩
def t__law_hand (Y : Wd) (E' : DX) : DS :=
  (dSeq (dAsg (dC1 (fun _ => .lst []) [2] (dSeqI (dSlice (rScr Y.K) (dVar 0) dONone (dOSome (dC (.int 63))))) (dgName 2) dYes (dmL (dCB rAbs (dCons (dCB rToInt (dCons (dVar 2) dNil)) dNil)))) (dgName 1)) (dRet (dLst (dCons (dVar 1) (dCons (dC (.int 0)) (dCons (dC (.int 0)) (dCons (dOp rAdd (dC (.int 107)) (dOp rMulD (dC (.int 3)) (dCB rLen (dCons (dVar 1) dNil)))) (dCons (dC (.int 0)) dNil))))))))
set_option maxHeartbeats 4000000 in
theorem w__law_hand {Y : Wd} {mg : Str → Option Value} {base : Heap} (F : Fs Y.K mg) (f : Addr) (cdv : Value) (A : Around) (outer : List Env) (s : Shared) (H : Hp) (E' : DX) (E : XK) (hr : Room 0 (A.deeper (envOfC "_law_hand" (defScope s__law_hand) s.heap.objs.size f cdv))) (kx : KX Y H E' E) :
    PSs (cxD Y mg base N__law_hand "_law_hand" (defScope s__law_hand) f cdv A outer s H E) (defBody s__law_hand) (lS Y (t__law_hand Y E')) := by
  have hu := hr.units
  have hp : PassesOwn (model Y.P Y.w) (A.deeper (envOfC "_law_hand" (defScope s__law_hand) s.heap.objs.size f cdv)) (cxD Y mg base N__law_hand "_law_hand" (defScope s__law_hand) f cdv A outer s H E).env (cxD Y mg base N__law_hand "_law_hand" (defScope s__law_hand) f cdv A outer s H E).xe := passes_of rfl
  exact (S_cons (K1.set (own := [("cell", 2)]) (kL1 rfl N__law_hand_nd (blkOk_by (N := N__law_hand) (sc := defScope s__law_hand) (own := [("cell", 2)]) (by decide +kernel)) (I_seq (E_slice s_scr (E_var (pv 0)) O_none (O_some E_int))) (fun _ _ _ _ _ => (W_name (pg_name (i := 2) N__law_hand_nd (by rfl) (by first | exact .inl rfl | exact .inr rfl)) (by decide))) (fun _ _ _ _ _ => Ts_nil) (fun _ _ _ _ _ => (E_cb c_abs (by rfl) F.b_abs boot_abs (A_cons (E_ct c_int (by rfl) F.b_int boot_int (A_cons (E_var (pv 2)) A_nil)) A_nil)))) (i := 1) rfl rfl (swL rfl rfl rfl (by decide +kernel))) (S_one (S_ret (E_lst (A_cons (E_var (pv 1)) (A_cons E_int (A_cons E_int (A_cons (E_op o_add E_int (E_op o_mul E_int (E_cb c_len (by rfl) F.b_len boot_len (A_cons (E_var (pv 1)) A_nil)))) (A_cons E_int A_nil)))))))))

def N__law_draw : List Str := ["hand", "many", "cell", "digit", "number"]
theorem N__law_draw_nd : N__law_draw.Nodup := by decide +kernel
theorem S__law_draw : FnScope N__law_draw ["hand", "many"] (defScope s__law_draw) := ⟨rfl, rfl, rfl, N__law_draw_nd, rfl, by decide +kernel, by decide +kernel⟩
def t__law_draw (Y : Wd) (E' : DX) : DS :=
  (dSeq (dIfS (dAnd (dTest (dOp rEqD1 (dOp rGetS (dVar 0) (dC (.int 2))) (dC (.int 0)))) (dTest (dOp rLtD (dOp rGetS (dVar 0) (dC (.int 1))) (dCB rLen (dCons (dOp rGetS (dVar 0) (dC (.int 0))) dNil))))) (dSeq (dAsg (dOp rGetS (dOp rGetS (dVar 0) (dC (.int 0))) (dOp rGetS (dVar 0) (dC (.int 1)))) (dgName 2)) (dSeq (dAsg (dOp rAdd (dOp rGetS (dVar 0) (dC (.int 1))) (dC (.int 1))) (dgSub (dVar 0) (dC (.int 1)) rPutL)) (dSeq (dAsg (dOp rModD (dCB rToInt (dCons (dOp rAdd (dOp rAdd (dOp rMulD (dOp rGetS (dVar 0) (dC (.int 3))) (dC (.int 69621))) (dOp rMulD (dVar 2) (dC (.int 40692)))) (dC (.int 73))) dNil)) (dC (.int 2147483629))) (dgSub (dVar 0) (dC (.int 3)) rPutL)) (dIfS (dTest (dOp rGeD (dVar 2) (dOp rPowD (dC (.int 10)) (dC (.int 18))))) (dAsg (dVar 2) (dgSub (dVar 0) (dC (.int 2)) rPutL)) dNext)))) dNext) (dSeq (dIfS (dTest (dOp rGtD (dOp rGetS (dVar 0) (dC (.int 2))) (dC (.int 0)))) (dSeq (dAsg (dOp rModD (dCB rToInt (dCons (dOp rGetS (dVar 0) (dC (.int 2))) dNil)) (dVar 1)) (dgName 3)) (dSeq (dAsg (dOp rDivD (dOp rGetS (dVar 0) (dC (.int 2))) (dVar 1)) (dgSub (dVar 0) (dC (.int 2)) rPutL)) (dRet (dVar 3)))) dNext) (dSeq (dAsg (dOp rAdd (dOp rGetS (dVar 0) (dC (.int 4))) (dC (.int 1))) (dgSub (dVar 0) (dC (.int 4)) rPutL)) (dSeq (dAsg (dOp rModD (dCB rToInt (dCons (dOp rMulD (dCB rToInt (dCons (dOp rAdd (dOp rGetS (dVar 0) (dC (.int 3))) (dOp rMulD (dC (.int 7919)) (dOp rGetS (dVar 0) (dC (.int 4))))) dNil)) (dC (.int 48271))) dNil)) (dC (.int 2147483647))) (dgName 4)) (dSeq (dAsg (dOp rModD (dCB rToInt (dCons (dOp rMulD (dVar 4) (dOp rAdd (dOp rDivD (dVar 4) (dC (.int 1009))) (dC (.int 69621)))) dNil)) (dC (.int 2147483647))) (dgName 4)) (dSeq (dAsg (dOp rModD (dCB rToInt (dCons (dOp rMulD (dVar 4) (dOp rAdd (dOp rDivD (dVar 4) (dC (.int 2003))) (dC (.int 40014)))) dNil)) (dC (.int 2147483563))) (dgName 4)) (dRet (dOp rModD (dCB rToInt (dCons (dOp rDivD (dVar 4) (dC (.int 16))) dNil)) (dVar 1)))))))))
set_option maxHeartbeats 4000000 in
theorem w__law_draw {Y : Wd} {mg : Str → Option Value} {base : Heap} (F : Fs Y.K mg) (f : Addr) (cdv : Value) (A : Around) (outer : List Env) (s : Shared) (H : Hp) (E' : DX) (E : XK) (hr : Room 0 (A.deeper (envOfC "_law_draw" (defScope s__law_draw) s.heap.objs.size f cdv))) (kx : KX Y H E' E) :
    PSs (cxD Y mg base N__law_draw "_law_draw" (defScope s__law_draw) f cdv A outer s H E) (defBody s__law_draw) (lS Y (t__law_draw Y E')) := by
  have hu := hr.units
  have hp : PassesOwn (model Y.P Y.w) (A.deeper (envOfC "_law_draw" (defScope s__law_draw) s.heap.objs.size f cdv)) (cxD Y mg base N__law_draw "_law_draw" (defScope s__law_draw) f cdv A outer s H E).env (cxD Y mg base N__law_draw "_law_draw" (defScope s__law_draw) f cdv A outer s H E).xe := passes_of rfl
  exact (S_cons (S_if (T_w (W_and (T_cmp (o_eq hu) (E_ix i_seq (E_var (pv 0)) E_int) E_int rfl) (W_and1 (T_cmp o_lt (E_ix i_seq (E_var (pv 0)) E_int) (E_cb c_len (by rfl) F.b_len boot_len (A_cons (E_ix i_seq (E_var (pv 0)) E_int) A_nil)) rfl)))) (S_cons (S_set (ps_set (i := 2) N__law_draw_nd rfl (.inl rfl) (E_ix i_seq (E_ix i_seq (E_var (pv 0)) E_int) (E_ix i_seq (E_var (pv 0)) E_int)))) (S_cons (S_asg (E_op o_add (E_ix i_seq (E_var (pv 0)) E_int) E_int) (G_sub (E_var (pv 0)) E_int p_list)) (S_cons (S_asg (E_op o_mod (E_ct c_int (by rfl) F.b_int boot_int (A_cons (E_op o_add (E_op o_add (E_op o_mul (E_ix i_seq (E_var (pv 0)) E_int) E_int) (E_op o_mul (E_var (pv 2)) E_int)) E_int) A_nil)) E_int) (G_sub (E_var (pv 0)) E_int p_list)) (S_one (S_if (T_cmp o_ge (E_var (pv 2)) (E_op o_pow E_int E_int) rfl) (S_one (S_asg (E_var (pv 2)) (G_sub (E_var (pv 0)) E_int p_list))) S_nil))))) S_nil) (S_cons (S_if (T_cmp o_gt (E_ix i_seq (E_var (pv 0)) E_int) E_int rfl) (S_cons (S_set (ps_set (i := 3) N__law_draw_nd rfl (.inl rfl) (E_op o_mod (E_ct c_int (by rfl) F.b_int boot_int (A_cons (E_ix i_seq (E_var (pv 0)) E_int) A_nil)) (E_var (pv 1))))) (S_cons (S_asg (E_op o_div (E_ix i_seq (E_var (pv 0)) E_int) (E_var (pv 1))) (G_sub (E_var (pv 0)) E_int p_list)) (S_one (S_ret (E_var (pv 3)))))) S_nil) (S_cons (S_asg (E_op o_add (E_ix i_seq (E_var (pv 0)) E_int) E_int) (G_sub (E_var (pv 0)) E_int p_list)) (S_cons (S_set (ps_set (i := 4) N__law_draw_nd rfl (.inl rfl) (E_op o_mod (E_ct c_int (by rfl) F.b_int boot_int (A_cons (E_op o_mul (E_ct c_int (by rfl) F.b_int boot_int (A_cons (E_op o_add (E_ix i_seq (E_var (pv 0)) E_int) (E_op o_mul E_int (E_ix i_seq (E_var (pv 0)) E_int))) A_nil)) E_int) A_nil)) E_int))) (S_cons (S_set (ps_set (i := 4) N__law_draw_nd rfl (.inl rfl) (E_op o_mod (E_ct c_int (by rfl) F.b_int boot_int (A_cons (E_op o_mul (E_var (pv 4)) (E_op o_add (E_op o_div (E_var (pv 4)) E_int) E_int)) A_nil)) E_int))) (S_cons (S_set (ps_set (i := 4) N__law_draw_nd rfl (.inl rfl) (E_op o_mod (E_ct c_int (by rfl) F.b_int boot_int (A_cons (E_op o_mul (E_var (pv 4)) (E_op o_add (E_op o_div (E_var (pv 4)) E_int) E_int)) A_nil)) E_int))) (S_one (S_ret (E_op o_mod (E_ct c_int (by rfl) F.b_int boot_int (A_cons (E_op o_div (E_var (pv 4)) E_int) A_nil)) (E_var (pv 1)))))))))))

def N__law_any : List Str := ["hand", "some"]
theorem N__law_any_nd : N__law_any.Nodup := by decide +kernel
theorem S__law_any : FnScope N__law_any ["hand", "some"] (defScope s__law_any) := ⟨rfl, rfl, rfl, N__law_any_nd, rfl, by decide +kernel, by decide +kernel⟩
def t__law_any (Y : Wd) (sp__law_draw : DSp) (E' : DX) : DS :=
  (dRet (dOp rGetS (dVar 1) (dCall sp__law_draw [] DX0 (dCons (dVar 0) (dCons (dCB rLen (dCons (dVar 1) dNil)) dNil)))))
set_option maxHeartbeats 4000000 in
theorem w__law_any {Y : Wd} {mg : Str → Option Value} {base : Heap} (F : Fs Y.K mg) {sp__law_draw : DSp} (g__law_draw : GFn Y mg base "_law_draw" 1 ["hand", "many"] [] sp__law_draw) (f : Addr) (cdv : Value) (A : Around) (outer : List Env) (s : Shared) (H : Hp) (E' : DX) (E : XK) (hr : Room 1 (A.deeper (envOfC "_law_any" (defScope s__law_any) s.heap.objs.size f cdv))) (kx : KX Y H E' E) :
    PSs (cxD Y mg base N__law_any "_law_any" (defScope s__law_any) f cdv A outer s H E) (defBody s__law_any) (lS Y (t__law_any Y sp__law_draw E')) := by
  have hu := hr.units
  have hp : PassesOwn (model Y.P Y.w) (A.deeper (envOfC "_law_any" (defScope s__law_any) s.heap.objs.size f cdv)) (cxD Y mg base N__law_any "_law_any" (defScope s__law_any) f cdv A outer s H E).env (cxD Y mg base N__law_any "_law_any" (defScope s__law_any) f cdv A outer s H E).xe := passes_of rfl
  exact (S_one (S_ret (E_ix i_seq (E_var (pv 1)) (E_call g__law_draw (hr.mono (by decide)) .none (by rfl) (A_cons (E_var (pv 0)) (A_cons (E_cb c_len (by rfl) F.b_len boot_len (A_cons (E_var (pv 1)) A_nil)) A_nil))))))

def N__law_mixed : List Str := ["hand", "some", "pool", "found"]
theorem N__law_mixed_nd : N__law_mixed.Nodup := by decide +kernel
theorem S__law_mixed : FnScope N__law_mixed ["hand", "some"] (defScope s__law_mixed) := ⟨rfl, rfl, rfl, N__law_mixed_nd, rfl, by decide +kernel, by decide +kernel⟩
def t__law_mixed (Y : Wd) (sp__law_draw : DSp) (E' : DX) : DS :=
  (dSeq (dPar 2 3 (dCons (dCB rList (dCons (dVar 1) dNil)) (dCons (dLst dNil) dNil))) (dSeq (dWhile (dTest (dOp rGtD (dCB rLen (dCons (dVar 2) dNil)) (dC (.int 0)))) (dDrop (dBM "list" rApp (dVar 3) (dCons (dBM "list" rPop1 (dVar 2) (dCons (dCall sp__law_draw [] DX0 (dCons (dVar 0) (dCons (dCB rLen (dCons (dVar 2) dNil)) dNil))) dNil)) dNil)))) (dRet (dVar 3))))
set_option maxHeartbeats 4000000 in
theorem w__law_mixed {Y : Wd} {mg : Str → Option Value} {base : Heap} (F : Fs Y.K mg) {sp__law_draw : DSp} (g__law_draw : GFn Y mg base "_law_draw" 1 ["hand", "many"] [] sp__law_draw) (f : Addr) (cdv : Value) (A : Around) (outer : List Env) (s : Shared) (H : Hp) (E' : DX) (E : XK) (hr : Room 1 (A.deeper (envOfC "_law_mixed" (defScope s__law_mixed) s.heap.objs.size f cdv))) (kx : KX Y H E' E) :
    PSs (cxD Y mg base N__law_mixed "_law_mixed" (defScope s__law_mixed) f cdv A outer s H E) (defBody s__law_mixed) (lS Y (t__law_mixed Y sp__law_draw E')) := by
  have hu := hr.units
  have hp : PassesOwn (model Y.P Y.w) (A.deeper (envOfC "_law_mixed" (defScope s__law_mixed) s.heap.objs.size f cdv)) (cxD Y mg base N__law_mixed "_law_mixed" (defScope s__law_mixed) f cdv A outer s H E).env (cxD Y mg base N__law_mixed "_law_mixed" (defScope s__law_mixed) f cdv A outer s H E).xe := passes_of rfl
  exact (S_cons (S_par (ps_par (i := 2) (j := 3) rfl N__law_mixed_nd rfl rfl (by decide) rfl rfl (A_cons (E_ct c_list (by rfl) F.b_list boot_list (A_cons (E_var (pv 1)) A_nil)) (A_cons (E_lst A_nil) A_nil)) rfl)) (S_cons (S_while hp (T_cmp o_gt (E_cb c_len (by rfl) F.b_len boot_len (A_cons (E_var (pv 2)) A_nil)) E_int rfl) (S_one (S_expr (E_bm PySem.F.plainAttrs_list PySem.F.slot_list_append PySem.F.type_list_append m_append (E_var (pv 3)) (A_cons (E_bm PySem.F.plainAttrs_list PySem.F.slot_list_pop PySem.F.type_list_pop m_popAt (E_var (pv 2)) (A_cons (E_call g__law_draw (hr.mono (by decide)) .none (by rfl) (A_cons (E_var (pv 0)) (A_cons (E_cb c_len (by rfl) F.b_len boot_len (A_cons (E_var (pv 2)) A_nil)) A_nil))) A_nil)) A_nil))))) (S_one (S_ret (E_var (pv 3))))))

def N__law_same : List Str := ["one", "due", "name", "part", "other"]
theorem N__law_same_nd : N__law_same.Nodup := by decide +kernel
theorem S__law_same : FnScope N__law_same ["one", "due"] (defScope s__law_same) := ⟨rfl, rfl, rfl, N__law_same_nd, rfl, by decide +kernel, by decide +kernel⟩
def t__law_same (Y : Wd) (sp__law_same : DSp) (E' : DX) : DS :=
  (dSeq (dIfS (dTru (dIsi Y.K (askO "dict" []) (dVar 1))) dNever dNext) (dSeq (dIfS (dTru (dIsi Y.K (ask2 (askO "tuple" []) (askO "list" [])) (dVar 1))) (dSeq (dIfS (dOr (dTest (dOp (rNotOf rEqD1) (dIsi Y.K (askO "tuple" []) (dVar 0)) (dIsi Y.K (askO "tuple" []) (dVar 1)))) (dNot (dTru (dIsi Y.K (ask2 (askO "tuple" []) (askO "list" [])) (dVar 0))))) (dRet (dC (.bl false))) dNext) (dRet (dAndV (dOp rEqD1 (dCB rLen (dCons (dVar 0) dNil)) (dCB rLen (dCons (dVar 1) dNil))) (dCB (rAllB fun bs => bs.all id) (dCons (dC1 (fun _ => .lst []) [3, 4] (dZip (dCons (dVar 0) (dCons (dVar 1) dNil))) (dgTup 2 (dgCons (dgName 3) (dgCons (dgName 4) dgNil))) dYes (dmL (dCall sp__law_same [] DX0 (dCons (dVar 3) (dCons (dVar 4) dNil))))) dNil))))) dNext) (dSeq (dIfS (dOr (dTru (dIsi Y.K (askO "bool" []) (dVar 1))) (dOr (dTru (dIsi Y.K (askO "bool" []) (dVar 0))) (dOr (dTest (dOp rIsN (dVar 1) (dC .non))) (dTest (dOp rIsN (dVar 0) (dC .non)))))) (dRet (dAndV (dOp rEqD1 (dIsi Y.K (askO "bool" []) (dVar 0)) (dIsi Y.K (askO "bool" []) (dVar 1))) (dAndV (dOp rEqD1 (dOp rIsN (dVar 0) (dC .non)) (dOp rIsN (dVar 1) (dC .non))) (dOp rEqD1 (dVar 0) (dVar 1))))) dNext) (dRet (dAndV (dOp rEqD1 (dIsi Y.K (askO "str" []) (dVar 0)) (dIsi Y.K (askO "str" []) (dVar 1))) (dAndV (dIsi Y.K (ask2 (askO "int" []) (askO "str" [])) (dVar 0)) (dOp rEqD1 (dVar 0) (dVar 1))))))))
set_option maxHeartbeats 4000000 in
theorem w__law_same {Y : Wd} {mg : Str → Option Value} {base : Heap} (F : Fs Y.K mg) {sp__law_same : DSp} {k0 : Nat} (g__law_same : GFn Y mg base "_law_same" k0 ["one", "due"] [] sp__law_same) (f : Addr) (cdv : Value) (A : Around) (outer : List Env) (s : Shared) (H : Hp) (E' : DX) (E : XK) (hr : Room k0 (A.deeper (envOfC "_law_same" (defScope s__law_same) s.heap.objs.size f cdv))) (kx : KX Y H E' E) :
    PSs (cxD Y mg base N__law_same "_law_same" (defScope s__law_same) f cdv A outer s H E) (defBody s__law_same) (lS Y (t__law_same Y sp__law_same E')) := by
  have hu := hr.units
  have hp : PassesOwn (model Y.P Y.w) (A.deeper (envOfC "_law_same" (defScope s__law_same) s.heap.objs.size f cdv)) (cxD Y mg base N__law_same "_law_same" (defScope s__law_same) f cdv A outer s H E).env (cxD Y mg base N__law_same "_law_same" (defScope s__law_same) f cdv A outer s H E).xe := passes_of rfl
  exact (S_cons (S_if (T_tru (E_isi (asksT (by decide) [] nofun) (.ty _) (by rfl) F.b_isinstance (E_var (pv 1)) (T_name (by rfl) F.b_dict boot_dict))) Ss_never S_nil) (S_cons (S_if (T_tru (E_isi2 (asksT (by decide) [] nofun) (asksT (by decide) [] nofun) (.ty _) (.ty _) (by rfl) F.b_isinstance (E_var (pv 1)) (T_name (by rfl) F.b_tuple boot_tuple) (T_name (by rfl) F.b_list boot_list))) (S_cons (S_if (T_w (W_or (T_cmp (o_ne hu) (E_isi (asksT (by decide) [] nofun) (.ty _) (by rfl) F.b_isinstance (E_var (pv 0)) (T_name (by rfl) F.b_tuple boot_tuple)) (E_isi (asksT (by decide) [] nofun) (.ty _) (by rfl) F.b_isinstance (E_var (pv 1)) (T_name (by rfl) F.b_tuple boot_tuple)) rfl) (W_or1 (T_not (T_tru (E_isi2 (asksT (by decide) [] nofun) (asksT (by decide) [] nofun) (.ty _) (.ty _) (by rfl) F.b_isinstance (E_var (pv 0)) (T_name (by rfl) F.b_tuple boot_tuple) (T_name (by rfl) F.b_list boot_list))))))) (S_one (S_ret E_bl)) S_nil) (S_one (S_ret (E_and (E_cmp (o_eq hu) (E_cb c_len (by rfl) F.b_len boot_len (A_cons (E_var (pv 0)) A_nil)) (E_cb c_len (by rfl) F.b_len boot_len (A_cons (E_var (pv 1)) A_nil)) rfl) (E_one (E_cb (c_all rfl) (by rfl) F.b_all boot_all (A_cons (K1.pe (own := [("part", 3), ("other", 4)]) (kL1 rfl N__law_same_nd (blkOk_by (N := N__law_same) (sc := defScope s__law_same) (own := [("part", 3), ("other", 4)]) (by decide +kernel)) (I_zip (by rfl) F.b_zip (A_cons (E_var (pv 0)) (A_cons (E_var (pv 1)) A_nil))) (fun _ _ _ _ _ => (W_tup (by rfl) (Ws_cons (W_name (pg_name (i := 3) N__law_same_nd (by rfl) (by first | exact .inl rfl | exact .inr rfl)) (by decide)) (Ws_cons (W_name (pg_name (i := 4) N__law_same_nd (by rfl) (by first | exact .inl rfl | exact .inr rfl)) (by decide)) Ws_nil)))) (fun _ _ _ _ _ => Ts_nil) (fun _ _ _ _ _ => (E_call g__law_same hr .none (by rfl) (A_cons (E_var (pv 3)) (A_cons (E_var (pv 4)) A_nil)))))) A_nil))))))) S_nil) (S_cons (S_if (T_w (W_or (T_tru (E_isi (asksT (by decide) [] nofun) (.ty _) (by rfl) F.b_isinstance (E_var (pv 1)) (T_name (by rfl) F.b_bool boot_bool))) (W_or (T_tru (E_isi (asksT (by decide) [] nofun) (.ty _) (by rfl) F.b_isinstance (E_var (pv 0)) (T_name (by rfl) F.b_bool boot_bool))) (W_or (T_cmp o_isN (E_var (pv 1)) E_non rfl) (W_or1 (T_cmp o_isN (E_var (pv 0)) E_non rfl)))))) (S_one (S_ret (E_and (E_cmp (o_eq hu) (E_isi (asksT (by decide) [] nofun) (.ty _) (by rfl) F.b_isinstance (E_var (pv 0)) (T_name (by rfl) F.b_bool boot_bool)) (E_isi (asksT (by decide) [] nofun) (.ty _) (by rfl) F.b_isinstance (E_var (pv 1)) (T_name (by rfl) F.b_bool boot_bool)) rfl) (E_and (E_cmp (o_eq hu) (E_cmp o_isN (E_var (pv 0)) E_non rfl) (E_cmp o_isN (E_var (pv 1)) E_non rfl) rfl) (E_one (E_cmp (o_eq hu) (E_var (pv 0)) (E_var (pv 1)) rfl)))))) S_nil) (S_one (S_ret (E_and (E_cmp (o_eq hu) (E_isi (asksT (by decide) [] nofun) (.ty _) (by rfl) F.b_isinstance (E_var (pv 0)) (T_name (by rfl) F.b_str boot_str)) (E_isi (asksT (by decide) [] nofun) (.ty _) (by rfl) F.b_isinstance (E_var (pv 1)) (T_name (by rfl) F.b_str boot_str)) rfl) (E_and (E_isi2 (asksT (by decide) [] nofun) (asksT (by decide) [] nofun) (.ty _) (.ty _) (by rfl) F.b_isinstance (E_var (pv 0)) (T_name (by rfl) F.b_int boot_int) (T_name (by rfl) F.b_str boot_str)) (E_one (E_cmp (o_eq hu) (E_var (pv 0)) (E_var (pv 1)) rfl)))))))))

def N__law_piece : List Str := ["hand", "names", "sizes", "rows", "turns", "left", "turn", "size", "name", "order", "events", "at", "one"]
theorem N__law_piece_nd : N__law_piece.Nodup := by decide +kernel
theorem S__law_piece : FnScope N__law_piece ["hand", "names", "sizes"] (defScope s__law_piece) := ⟨rfl, rfl, rfl, N__law_piece_nd, rfl, by decide +kernel, by decide +kernel⟩
def t__law_piece (Y : Wd) (sp__law_draw : DSp) (sp__law_mixed : DSp) (E' : DX) : DS :=
  (dSeq (dPar3 3 4 5 (dCons (dLst dNil) (dCons dDNew (dCons (dCB rList (dCons (dVar 1) dNil)) dNil)))) (dSeq (dFor (dEnum (dCons (dVar 2) dNil)) (dgTup 2 (dgCons (dgName 6) (dgCons (dgName 7) dgNil))) (dSeq (dDrop (dBM "list" rApp (dVar 3) (dCons (dCB (rSorted Y) (dCons (dSlice rSlice (dVar 5) dONone (dOSome (dVar 7))) dNil)) dNil))) (dSeq (dFor (dSeqI (dSlice rSlice (dVar 5) dONone (dOSome (dVar 7)))) (dgName 8) (dAsg (dVar 6) (dgSub (dVar 4) (dVar 8) rPutD))) (dAsg (dSlice rSlice (dVar 5) (dOSome (dVar 7)) dONone) (dgName 5))))) (dSeq (dPar 9 10 (dCons (dCall sp__law_mixed [] DX0 (dCons (dVar 0) (dCons (dVar 1) dNil))) (dCons (dLst dNil) dNil))) (dSeq (dFor (dRng2 (dCons (dC (.int 1)) (dCons (dCB rLen (dCons (dVar 9) dNil)) dNil))) (dgName 11) (dSeq (dAsg (dOp rGetS (dVar 9) (dCall sp__law_draw [] DX0 (dCons (dVar 0) (dCons (dVar 11) dNil)))) (dgName 12)) (dDrop (dBM "list" rApp (dVar 10) (dCons (dTup (dCons (dC (.str "pair")) (dCons (dVar 12) (dCons (dOp rGetS (dVar 9) (dVar 11)) (dCons (dOp rModD (dCB rToInt (dCons (dOp rSubD (dOp rGetD (dVar 4) (dOp rGetS (dVar 9) (dVar 11))) (dOp rGetD (dVar 4) (dVar 12))) dNil)) (dCB rLen (dCons (dVar 2) dNil))) dNil))))) dNil))))) (dRet (dTup (dCons (dVar 10) (dCons (dVar 3) dNil))))))))
set_option maxHeartbeats 4000000 in
theorem w__law_piece {Y : Wd} {mg : Str → Option Value} {base : Heap} (F : Fs Y.K mg) {sp__law_draw : DSp} {sp__law_mixed : DSp} (g__law_draw : GFn Y mg base "_law_draw" 1 ["hand", "many"] [] sp__law_draw) (g__law_mixed : GFn Y mg base "_law_mixed" 2 ["hand", "some"] [] sp__law_mixed) (f : Addr) (cdv : Value) (A : Around) (outer : List Env) (s : Shared) (H : Hp) (E' : DX) (E : XK) (hr : Room 2 (A.deeper (envOfC "_law_piece" (defScope s__law_piece) s.heap.objs.size f cdv))) (kx : KX Y H E' E) :
    PSs (cxD Y mg base N__law_piece "_law_piece" (defScope s__law_piece) f cdv A outer s H E) (defBody s__law_piece) (lS Y (t__law_piece Y sp__law_draw sp__law_mixed E')) := by
  have hu := hr.units
  have hp : PassesOwn (model Y.P Y.w) (A.deeper (envOfC "_law_piece" (defScope s__law_piece) s.heap.objs.size f cdv)) (cxD Y mg base N__law_piece "_law_piece" (defScope s__law_piece) f cdv A outer s H E).env (cxD Y mg base N__law_piece "_law_piece" (defScope s__law_piece) f cdv A outer s H E).xe := passes_of rfl
  exact (S_cons (S_par3 (ps_par3 (i := 3) (j := 4) (l := 5) rfl N__law_piece_nd rfl rfl rfl (by decide) (by decide) (by decide) rfl rfl rfl (A_cons (E_lst A_nil) (A_cons E_dnew (A_cons (E_ct c_list (by rfl) F.b_list boot_list (A_cons (E_var (pv 1)) A_nil)) A_nil))) rfl)) (S_cons (S_for hp rfl (I_enum (by rfl) F.b_enumerate (A_cons (E_var (pv 2)) A_nil)) (G_tup rfl (Gs_cons (G_name (pg_name (i := 6) N__law_piece_nd rfl (.inl rfl))) (Gs_cons (G_name (pg_name (i := 7) N__law_piece_nd rfl (.inl rfl))) Gs_nil))) (S_cons (S_expr (E_bm PySem.F.plainAttrs_list PySem.F.slot_list_append PySem.F.type_list_append m_append (E_var (pv 3)) (A_cons (E_cb (c_sorted rfl hu) (by rfl) F.b_sorted boot_sorted (A_cons (E_slice s_any (E_var (pv 5)) O_none (O_some (E_var (pv 7)))) A_nil)) A_nil))) (S_cons (S_for hp rfl (I_seq (E_slice s_any (E_var (pv 5)) O_none (O_some (E_var (pv 7))))) (G_name (pg_name (i := 8) N__law_piece_nd rfl (.inl rfl))) (S_one (S_asg (E_var (pv 6)) (G_sub (E_var (pv 4)) (E_var (pv 8)) p_dict)))) (S_one (S_set (ps_set (i := 5) N__law_piece_nd rfl (.inl rfl) (E_slice s_any (E_var (pv 5)) (O_some (E_var (pv 7))) O_none))))))) (S_cons (S_par (ps_par (i := 9) (j := 10) rfl N__law_piece_nd rfl rfl (by decide) rfl rfl (A_cons (E_call g__law_mixed (hr.mono (by decide)) .none (by rfl) (A_cons (E_var (pv 0)) (A_cons (E_var (pv 1)) A_nil))) (A_cons (E_lst A_nil) A_nil)) rfl)) (S_cons (S_for hp rfl (I_rng2 (by rfl) F.b_range (A_cons E_int (A_cons (E_cb c_len (by rfl) F.b_len boot_len (A_cons (E_var (pv 9)) A_nil)) A_nil))) (G_name (pg_name (i := 11) N__law_piece_nd rfl (.inl rfl))) (S_cons (S_set (ps_set (i := 12) N__law_piece_nd rfl (.inl rfl) (E_ix i_seq (E_var (pv 9)) (E_call g__law_draw (hr.mono (by decide)) .none (by rfl) (A_cons (E_var (pv 0)) (A_cons (E_var (pv 11)) A_nil)))))) (S_one (S_expr (E_bm PySem.F.plainAttrs_list PySem.F.slot_list_append PySem.F.type_list_append m_append (E_var (pv 10)) (A_cons (E_tup (A_cons E_str (A_cons (E_var (pv 12)) (A_cons (E_ix i_seq (E_var (pv 9)) (E_var (pv 11))) (A_cons (E_op o_mod (E_ct c_int (by rfl) F.b_int boot_int (A_cons (E_op o_sub (E_ix i_dict (E_var (pv 4)) (E_ix i_seq (E_var (pv 9)) (E_var (pv 11)))) (E_ix i_dict (E_var (pv 4)) (E_var (pv 12)))) A_nil)) (E_cb c_len (by rfl) F.b_len boot_len (A_cons (E_var (pv 2)) A_nil))) A_nil))))) A_nil)))))) (S_one (S_ret (E_tup (A_cons (E_var (pv 10)) (A_cons (E_var (pv 3)) A_nil)))))))))

def N__law_teams : List Str := ["rows", "found", "row", "later", "team", "name"]
theorem N__law_teams_nd : N__law_teams.Nodup := by decide +kernel
theorem S__law_teams : FnScope N__law_teams ["rows"] (defScope s__law_teams) := ⟨rfl, rfl, rfl, N__law_teams_nd, rfl, by decide +kernel, by decide +kernel⟩
def t__law_teams (Y : Wd) (E' : DX) : DS :=
  (dSeq (dAsg (dLst (dCons (dTup dNil) dNil)) (dgName 1)) (dSeq (dFor (dSeqI (dVar 0)) (dgName 2) (dSeq (dAsg (dLst dNil) (dgName 3)) (dSeq (dFor (dSeqI (dVar 1)) (dgName 4) (dDrop (dBM "list" rExt (dVar 3) (dCons (dC1 (fun _ => .lst []) [5] (dSeqI (dVar 2)) (dgName 5) dYes (dmL (dOp rAdd (dVar 4) (dTup (dCons (dVar 5) dNil))))) dNil)))) (dAsg (dVar 3) (dgName 1))))) (dRet (dC1 (fun _ => .lst []) [4] (dSeqI (dVar 1)) (dgName 4) dYes (dmL (dCB rTuple (dCons (dCB rSortT (dCons (dVar 4) dNil)) dNil)))))))
set_option maxHeartbeats 4000000 in
theorem w__law_teams {Y : Wd} {mg : Str → Option Value} {base : Heap} (F : Fs Y.K mg) (f : Addr) (cdv : Value) (A : Around) (outer : List Env) (s : Shared) (H : Hp) (E' : DX) (E : XK) (hr : Room 0 (A.deeper (envOfC "_law_teams" (defScope s__law_teams) s.heap.objs.size f cdv))) (kx : KX Y H E' E) :
    PSs (cxD Y mg base N__law_teams "_law_teams" (defScope s__law_teams) f cdv A outer s H E) (defBody s__law_teams) (lS Y (t__law_teams Y E')) := by
  have hu := hr.units
  have hp : PassesOwn (model Y.P Y.w) (A.deeper (envOfC "_law_teams" (defScope s__law_teams) s.heap.objs.size f cdv)) (cxD Y mg base N__law_teams "_law_teams" (defScope s__law_teams) f cdv A outer s H E).env (cxD Y mg base N__law_teams "_law_teams" (defScope s__law_teams) f cdv A outer s H E).xe := passes_of rfl
  exact (S_cons (S_set (ps_set (i := 1) N__law_teams_nd rfl (.inl rfl) (E_lst (A_cons (E_tup A_nil) A_nil)))) (S_cons (S_for hp rfl (I_seq (E_var (pv 0))) (G_name (pg_name (i := 2) N__law_teams_nd rfl (.inl rfl))) (S_cons (S_set (ps_set (i := 3) N__law_teams_nd rfl (.inl rfl) (E_lst A_nil))) (S_cons (S_for hp rfl (I_seq (E_var (pv 1))) (G_name (pg_name (i := 4) N__law_teams_nd rfl (.inr rfl))) (S_one (S_expr (E_bm PySem.F.plainAttrs_list PySem.F.slot_list_extend PySem.F.type_list_extend m_extend (E_var (pv 3)) (A_cons (K1.pe (own := [("name", 5)]) (kL1 rfl N__law_teams_nd (blkOk_by (N := N__law_teams) (sc := defScope s__law_teams) (own := [("name", 5)]) (by decide +kernel)) (I_seq (E_var (pv 2))) (fun _ _ _ _ _ => (W_name (pg_name (i := 5) N__law_teams_nd (by rfl) (by first | exact .inl rfl | exact .inr rfl)) (by decide))) (fun _ _ _ _ _ => Ts_nil) (fun _ _ _ _ _ => (E_op o_add (E_var (pv 4)) (E_tup (A_cons (E_var (pv 5)) A_nil)))))) A_nil))))) (S_one (S_set (ps_set (i := 1) N__law_teams_nd rfl (.inl rfl) (E_var (pv 3)))))))) (S_one (S_ret (K1.pe (own := [("team", 4)]) (kL1 rfl N__law_teams_nd (blkOk_by (N := N__law_teams) (sc := defScope s__law_teams) (own := [("team", 4)]) (by decide +kernel)) (I_seq (E_var (pv 1))) (fun _ _ _ _ _ => (W_name (pg_name (i := 4) N__law_teams_nd (by rfl) (by first | exact .inl rfl | exact .inr rfl)) (by decide))) (fun _ _ _ _ _ => Ts_nil) (fun _ _ _ _ _ => (E_ct c_tuple (by rfl) F.b_tuple boot_tuple (A_cons (E_cb c_sortT (by rfl) F.b_sorted boot_sorted (A_cons (E_var (pv 4)) A_nil)) A_nil)))))))))

def N__law_days_of : List Str := ["hand", "events", "left", "found", "few"]
theorem N__law_days_of_nd : N__law_days_of.Nodup := by decide +kernel
theorem S__law_days_of : FnScope N__law_days_of ["hand", "events"] (defScope s__law_days_of) := ⟨rfl, rfl, rfl, N__law_days_of_nd, rfl, by decide +kernel, by decide +kernel⟩
def t__law_days_of (Y : Wd) (sp__law_draw : DSp) (sp__law_mixed : DSp) (E' : DX) : DS :=
  (dSeq (dPar 2 3 (dCons (dCall sp__law_mixed [] DX0 (dCons (dVar 0) (dCons (dVar 1) dNil))) (dCons (dLst dNil) dNil))) (dSeq (dWhile (dTest (dOp rGtD (dCB rLen (dCons (dVar 2) dNil)) (dC (.int 0)))) (dSeq (dAsg (dOp rAdd (dC (.int 1)) (dCall sp__law_draw [] DX0 (dCons (dVar 0) (dCons (dC (.int 12)) dNil)))) (dgName 4)) (dSeq (dDrop (dBM "list" rApp (dVar 3) (dCons (dCB rTuple (dCons (dSlice rSlice (dVar 2) dONone (dOSome (dVar 4))) dNil)) dNil))) (dAsg (dSlice rSlice (dVar 2) (dOSome (dVar 4)) dONone) (dgName 2))))) (dRet (dCB rTuple (dCons (dVar 3) dNil)))))
set_option maxHeartbeats 4000000 in
theorem w__law_days_of {Y : Wd} {mg : Str → Option Value} {base : Heap} (F : Fs Y.K mg) {sp__law_draw : DSp} {sp__law_mixed : DSp} (g__law_draw : GFn Y mg base "_law_draw" 1 ["hand", "many"] [] sp__law_draw) (g__law_mixed : GFn Y mg base "_law_mixed" 2 ["hand", "some"] [] sp__law_mixed) (f : Addr) (cdv : Value) (A : Around) (outer : List Env) (s : Shared) (H : Hp) (E' : DX) (E : XK) (hr : Room 2 (A.deeper (envOfC "_law_days_of" (defScope s__law_days_of) s.heap.objs.size f cdv))) (kx : KX Y H E' E) :
    PSs (cxD Y mg base N__law_days_of "_law_days_of" (defScope s__law_days_of) f cdv A outer s H E) (defBody s__law_days_of) (lS Y (t__law_days_of Y sp__law_draw sp__law_mixed E')) := by
  have hu := hr.units
  have hp : PassesOwn (model Y.P Y.w) (A.deeper (envOfC "_law_days_of" (defScope s__law_days_of) s.heap.objs.size f cdv)) (cxD Y mg base N__law_days_of "_law_days_of" (defScope s__law_days_of) f cdv A outer s H E).env (cxD Y mg base N__law_days_of "_law_days_of" (defScope s__law_days_of) f cdv A outer s H E).xe := passes_of rfl
  exact (S_cons (S_par (ps_par (i := 2) (j := 3) rfl N__law_days_of_nd rfl rfl (by decide) rfl rfl (A_cons (E_call g__law_mixed (hr.mono (by decide)) .none (by rfl) (A_cons (E_var (pv 0)) (A_cons (E_var (pv 1)) A_nil))) (A_cons (E_lst A_nil) A_nil)) rfl)) (S_cons (S_while hp (T_cmp o_gt (E_cb c_len (by rfl) F.b_len boot_len (A_cons (E_var (pv 2)) A_nil)) E_int rfl) (S_cons (S_set (ps_set (i := 4) N__law_days_of_nd rfl (.inl rfl) (E_op o_add E_int (E_call g__law_draw (hr.mono (by decide)) .none (by rfl) (A_cons (E_var (pv 0)) (A_cons E_int A_nil)))))) (S_cons (S_expr (E_bm PySem.F.plainAttrs_list PySem.F.slot_list_append PySem.F.type_list_append m_append (E_var (pv 3)) (A_cons (E_ct c_tuple (by rfl) F.b_tuple boot_tuple (A_cons (E_slice s_any (E_var (pv 2)) O_none (O_some (E_var (pv 4)))) A_nil)) A_nil))) (S_one (S_set (ps_set (i := 2) N__law_days_of_nd rfl (.inl rfl) (E_slice s_any (E_var (pv 2)) (O_some (E_var (pv 4))) O_none))))))) (S_one (S_ret (E_ct c_tuple (by rfl) F.b_tuple boot_tuple (A_cons (E_var (pv 3)) A_nil))))))

def N_law : List Str := ["script", "hand", "some", "sizes", "names", "at", "events", "due", "size", "more", "rows", "days", "log", "many", "said", "found"]
theorem N_law_nd : N_law.Nodup := by decide +kernel
theorem S_law : FnScope N_law ["script"] (defScope s_law) := ⟨rfl, rfl, rfl, N_law_nd, rfl, by decide +kernel, by decide +kernel⟩
def t_law (Y : Wd) (sp_Log_init : DSp) (sp__law_any : DSp) (sp__law_days_of : DSp) (sp__law_hand : DSp) (sp__law_mixed : DSp) (sp__law_piece : DSp) (sp__law_same : DSp) (sp__law_teams : DSp) (sp_sure_teams : DSp) (P : Addr) (E' : DX) : DS :=
  (dSeq (dAsg (dCall sp__law_hand [] DX0 (dCons (dVar 0) dNil)) (dgName 1)) (dSeq (dAsg (dLst (dCons (dLst (dCons (dTup (dCons (dC (.int 10)) (dCons (dC (.int 10)) (dCons (dC (.int 10)) dNil)))) dNil)) (dCons (dLst (dCons (dTup (dCons (dC (.int 5)) (dCons (dC (.int 5)) (dCons (dC (.int 5)) (dCons (dC (.int 8)) dNil))))) dNil)) (dCons (dLst (dCons (dTup (dCons (dC (.int 2)) (dCons (dC (.int 2)) (dCons (dC (.int 2)) (dCons (dC (.int 5)) (dCons (dC (.int 5)) (dCons (dC (.int 5)) dNil))))))) dNil)) (dCons (dLst (dCons (dTup (dCons (dC (.int 9)) (dCons (dC (.int 10)) (dCons (dC (.int 12)) dNil)))) dNil)) (dCons (dLst (dCons (dTup (dCons (dC (.int 3)) (dCons (dC (.int 7)) (dCons (dC (.int 6)) (dCons (dC (.int 8)) dNil))))) dNil)) (dCons (dLst (dCons (dTup (dCons (dC (.int 20)) (dCons (dC (.int 40)) dNil))) dNil)) dNil))))))) (dgName 2)) (dSeq (dAsg (dOp rAdd (dVar 2) (dLst (dCons (dLst (dCons (dTup (dCons (dC (.int 30)) (dCons (dC (.int 16)) dNil))) (dCons (dTup (dCons (dC (.int 1)) (dCons (dC (.int 1)) dNil))) dNil))) (dCons (dLst (dCons (dTup (dCons (dC (.int 8)) (dCons (dC (.int 8)) (dCons (dC (.int 8)) dNil)))) (dCons (dTup (dCons (dC (.int 4)) (dCons (dC (.int 11)) (dCons (dC (.int 11)) dNil)))) dNil))) (dCons (dLst (dCons (dTup (dCons (dC (.int 11)) (dCons (dC (.int 7)) (dCons (dC (.int 13)) dNil)))) dNil)) (dCons (dLst (dCons (dTup (dCons (dC (.int 25)) (dCons (dC (.int 20)) dNil))) (dCons (dTup (dCons (dC (.int 4)) (dCons (dC (.int 3)) dNil))) dNil))) dNil)))))) (dgName 2)) (dSeq (dAsg (dCall sp__law_any [] DX0 (dCons (dVar 1) (dCons (dVar 2) dNil))) (dgName 3)) (dSeq (dAsg (dCall sp__law_mixed [] DX0 (dCons (dVar 1) (dCons (dC1 (fun _ => .lst []) [5] (dRng1 (dCons (dC (.int 60)) dNil)) (dgName 5) dYes (dmL (dOp rAdd (dOp rGetS (dC (.str "abcdefgh")) (dOp rDivD (dVar 5) (dC (.int 8)))) (dOp rGetS (dC (.str "abcdefgh")) (dOp rModD (dCB rToInt (dCons (dVar 5) dNil)) (dC (.int 8))))))) dNil))) (dgName 4)) (dSeq (dPar 6 7 (dCons (dLst dNil) (dCons (dLst dNil) dNil))) (dSeq (dFor (dSeqI (dVar 3)) (dgName 8) (dSeq (dAsg (dCall sp__law_piece [] DX0 (dCons (dVar 1) (dCons (dSlice rSlice (dVar 4) dONone (dOSome (dCB rSumT (dCons (dVar 8) dNil)))) (dCons (dVar 8) dNil)))) (dgTup 2 (dgCons (dgName 9) (dgCons (dgName 10) dgNil)))) (dSeq (dPar 6 4 (dCons (dOp rAdd (dVar 6) (dVar 9)) (dCons (dSlice rSlice (dVar 4) (dOSome (dCB rSumT (dCons (dVar 8) dNil))) dONone) dNil))) (dAsg (dOp rAdd (dVar 7) (dCall sp__law_teams [] DX0 (dCons (dVar 10) dNil))) (dgName 7))))) (dSeq (dAsg (dTup (dCons (dCall sp__law_days_of [] DX0 (dCons (dVar 1) (dCons (dVar 6) dNil))) (dCons (dCB (rSorted Y) (dCons (dVar 7) dNil)) dNil))) (dgTup 2 (dgCons (dgName 11) (dgCons (dgName 7) dgNil)))) (dSeq (dAsg (dTup (dCons (dMake (ga Y.K "Log") sp_Log_init [] DX0 (dCons (dCB rLen (dCons (dOp rGetS (dVar 3) (dC (.int 0))) dNil)) (dCons (dVar 11) dNil))) (dCons (dCB rLen (dCons (dVar 7) dNil)) dNil))) (dgTup 2 (dgCons (dgName 12) (dgCons (dgName 13) dgNil)))) (dSeq (dAsg (dLess (dLam P qL (saidOf N__law_said qL (t__law_said Y.K qL)) (fun E' => dCall sp_sure_teams [.int 1000] E' (dCons (dVar 12) (dCons (dC (.int 0)) (dCons (dCB rLen (dCons (dVar 11) dNil)) dNil)))))) (dgName 14)) (dSeq (dIfS (dNot (dTru (dCall sp__law_same [] DX0 (dCons (dVar 14) (dCons (dIf (dTest (dOp rLeD (dVar 13) (dC (.int 1000)))) (dTup (dCons (dC (.str "told")) (dCons (dVar 7) dNil))) (dTup (dCons (dC (.str "many")) (dCons (dC (.int 1000)) dNil)))) dNil))))) (dRet (dC (.bl false))) dNext) (dSeq (dAsg (dCallK 3 1 sp_sure_teams DX0 (dCons (dVar 12) (dCons (dC (.int 0)) (dCons (dCB rLen (dCons (dVar 11) dNil)) dNil))) (dCons (dCall sp__law_any [] DX0 (dCons (dVar 1) (dCons (dLst (dCons (dVar 13) (dCons (dOp rPowD (dC (.int 10)) (dC (.int 5))) (dCons (dOp rAdd (dVar 13) (dC (.int 1))) dNil)))) dNil))) dNil)) (dgName 15)) (dSeq (dIfS (dNot (dTru (dCall sp__law_same [] DX0 (dCons (dVar 15) (dCons (dVar 7) dNil))))) (dRet (dC (.bl false))) dNext) (dSeq (dDrop (dBM "list" rApp (dVar 15) (dCons (dC .non) dNil))) (dSeq (dIfS (dNot (dTru (dCall sp__law_same [] DX0 (dCons (dCallK 3 1 sp_sure_teams DX0 (dCons (dVar 12) (dCons (dC (.int 0)) (dCons (dCB rLen (dCons (dVar 11) dNil)) dNil))) (dCons (dVar 13) dNil)) (dCons (dVar 7) dNil))))) (dRet (dC (.bl false))) dNext) (dRet (dCall sp__law_same [] DX0 (dCons (dLess (dLam P qL (saidOf N__law_said qL (t__law_said Y.K qL)) (fun E' => dCallK 3 1 sp_sure_teams E' (dCons (dVar 12) (dCons (dC (.int 0)) (dCons (dCB rLen (dCons (dVar 11) dNil)) dNil))) (dCons (dOp rSubD (dVar 13) (dC (.int 1))) dNil)))) (dCons (dTup (dCons (dC (.str "many")) (dCons (dOp rSubD (dVar 13) (dC (.int 1))) dNil))) dNil)))))))))))))))))))
set_option maxHeartbeats 4000000 in
theorem w_law {Y : Wd} {mg : Str → Option Value} {base : Heap} (F : Fs Y.K mg) {sp_Log_init : DSp} {sp__law_any : DSp} {sp__law_days_of : DSp} {sp__law_hand : DSp} {sp__law_mixed : DSp} {sp__law_piece : DSp} {sp__law_same : DSp} {sp__law_teams : DSp} {sp_sure_teams : DSp} (g_Log_init : CFn Y mg base "Log" (ga Y.K "Log") 5 ["self", "parts", "days"] [] sp_Log_init) (g__law_any : GFn Y mg base "_law_any" 2 ["hand", "some"] [] sp__law_any) (g__law_days_of : GFn Y mg base "_law_days_of" 3 ["hand", "events"] [] sp__law_days_of) (g__law_hand : GFn Y mg base "_law_hand" 1 ["script"] [] sp__law_hand) (g__law_mixed : GFn Y mg base "_law_mixed" 2 ["hand", "some"] [] sp__law_mixed) (g__law_piece : GFn Y mg base "_law_piece" 3 ["hand", "names", "sizes"] [] sp__law_piece) (g__law_same : GFn Y mg base "_law_same" 5 ["one", "due"] [] sp__law_same) (g__law_teams : GFn Y mg base "_law_teams" 1 ["rows"] [] sp__law_teams) (gk_sure_teams : GFnK Y mg base "sure_teams" 8 ["log", "first", "end", "most"] ["most"] sp_sure_teams) (gd_sure_teams : GFn Y mg base "sure_teams" 8 ["log", "first", "end", "most"] [.int 1000] sp_sure_teams) {g c P : Addr} {oc : Value} {od an : Option Addr} {osl : Array (Option Value)} {dV kV doc pm cdg ct : Value} (FX : FsX Y.K mg) (m_said : mg "_law_said" = some (.ref g)) (hk : PySem.W.keepIn Y.K (.ref g) = true) (lk : Y.K.lookup g = some ⟨oc, od, .func (PySem.W.fnOf "_law_said" "_law_said" (defArgs s__law_said) (defBody s__law_said) (defScope s__law_said) dV kV doc pm an cdg ct), osl⟩) (hcg : PySem.W.codeIn Y.K cdg "_law_said" = true) (hb : L2.Binds Y.K (PySem.W.fnOf "_law_said" "_law_said" (defArgs s__law_said) (defBody s__law_said) (defScope s__law_said) dV kV doc pm an cdg ct) ["call"] []) (TB : TabB base mg c P) (f : Addr) (A : Around) (outer : List Env) (s : Shared) (H : Hp) (E' : DX) (E : XK) (hr : Room 12 (A.deeper (envOfC "law" (defScope s_law) s.heap.objs.size f (.ref c)))) (kx : KX Y H E' E) :
    PSs (cxD Y mg base N_law "law" (defScope s_law) f (.ref c) A outer s H E) (defBody s_law) (lS Y (t_law Y sp_Log_init sp__law_any sp__law_days_of sp__law_hand sp__law_mixed sp__law_piece sp__law_same sp__law_teams sp_sure_teams P E')) := by
  have hu := hr.units
  have hp : PassesOwn (model Y.P Y.w) (A.deeper (envOfC "law" (defScope s_law) s.heap.objs.size f (.ref c))) (cxD Y mg base N_law "law" (defScope s_law) f (.ref c) A outer s H E).env (cxD Y mg base N_law "law" (defScope s_law) f (.ref c) A outer s H E).xe := passes_of rfl
  exact (S_cons (S_set (ps_set (i := 1) N_law_nd rfl (.inl rfl) (E_call g__law_hand (hr.mono (by decide)) .none (by rfl) (A_cons (E_var (pv 0)) A_nil)))) (S_cons (S_set (ps_set (i := 2) N_law_nd rfl (.inl rfl) (E_lst (A_cons (E_lst (A_cons (E_tup (A_cons E_int (A_cons E_int (A_cons E_int A_nil)))) A_nil)) (A_cons (E_lst (A_cons (E_tup (A_cons E_int (A_cons E_int (A_cons E_int (A_cons E_int A_nil))))) A_nil)) (A_cons (E_lst (A_cons (E_tup (A_cons E_int (A_cons E_int (A_cons E_int (A_cons E_int (A_cons E_int (A_cons E_int A_nil))))))) A_nil)) (A_cons (E_lst (A_cons (E_tup (A_cons E_int (A_cons E_int (A_cons E_int A_nil)))) A_nil)) (A_cons (E_lst (A_cons (E_tup (A_cons E_int (A_cons E_int (A_cons E_int (A_cons E_int A_nil))))) A_nil)) (A_cons (E_lst (A_cons (E_tup (A_cons E_int (A_cons E_int A_nil))) A_nil)) A_nil))))))))) (S_cons (S_set (ps_set (i := 2) N_law_nd rfl (.inl rfl) (E_op o_add (E_var (pv 2)) (E_lst (A_cons (E_lst (A_cons (E_tup (A_cons E_int (A_cons E_int A_nil))) (A_cons (E_tup (A_cons E_int (A_cons E_int A_nil))) A_nil))) (A_cons (E_lst (A_cons (E_tup (A_cons E_int (A_cons E_int (A_cons E_int A_nil)))) (A_cons (E_tup (A_cons E_int (A_cons E_int (A_cons E_int A_nil)))) A_nil))) (A_cons (E_lst (A_cons (E_tup (A_cons E_int (A_cons E_int (A_cons E_int A_nil)))) A_nil)) (A_cons (E_lst (A_cons (E_tup (A_cons E_int (A_cons E_int A_nil))) (A_cons (E_tup (A_cons E_int (A_cons E_int A_nil))) A_nil))) A_nil)))))))) (S_cons (S_set (ps_set (i := 3) N_law_nd rfl (.inl rfl) (E_call g__law_any (hr.mono (by decide)) .none (by rfl) (A_cons (E_var (pv 1)) (A_cons (E_var (pv 2)) A_nil))))) (S_cons (S_set (ps_set (i := 4) N_law_nd rfl (.inl rfl) (E_call g__law_mixed (hr.mono (by decide)) .none (by rfl) (A_cons (E_var (pv 1)) (A_cons (K1.pe (own := [("at", 5)]) (kL1 rfl N_law_nd (blkOk_by (N := N_law) (sc := defScope s_law) (own := [("at", 5)]) (by decide +kernel)) (I_rng1 (by rfl) F.b_range (A_cons E_int A_nil)) (fun _ _ _ _ _ => (W_name (pg_name (i := 5) N_law_nd (by rfl) (by first | exact .inl rfl | exact .inr rfl)) (by decide))) (fun _ _ _ _ _ => Ts_nil) (fun _ _ _ _ _ => (E_op o_add (E_ix i_seq E_str (E_op o_div (E_var (pv 5)) E_int)) (E_ix i_seq E_str (E_op o_mod (E_ct c_int (by rfl) F.b_int boot_int (A_cons (E_var (pv 5)) A_nil)) E_int)))))) A_nil))))) (S_cons (S_par (ps_par (i := 6) (j := 7) rfl N_law_nd rfl rfl (by decide) rfl rfl (A_cons (E_lst A_nil) (A_cons (E_lst A_nil) A_nil)) rfl)) (S_cons (S_for hp rfl (I_seq (E_var (pv 3))) (G_name (pg_name (i := 8) N_law_nd rfl (.inl rfl))) (S_cons (S_asg (E_call g__law_piece (hr.mono (by decide)) .none (by rfl) (A_cons (E_var (pv 1)) (A_cons (E_slice s_any (E_var (pv 4)) O_none (O_some (E_cb (c_sumT rfl) (by rfl) F.b_sum boot_sum (A_cons (E_var (pv 8)) A_nil)))) (A_cons (E_var (pv 8)) A_nil)))) (G_tup rfl (Gs_cons (G_name (pg_name (i := 9) N_law_nd rfl (.inl rfl))) (Gs_cons (G_name (pg_name (i := 10) N_law_nd rfl (.inl rfl))) Gs_nil)))) (S_cons (S_par (ps_par (i := 6) (j := 4) rfl N_law_nd rfl rfl (by decide) rfl rfl (A_cons (E_op o_add (E_var (pv 6)) (E_var (pv 9))) (A_cons (E_slice s_any (E_var (pv 4)) (O_some (E_cb (c_sumT rfl) (by rfl) F.b_sum boot_sum (A_cons (E_var (pv 8)) A_nil))) O_none) A_nil)) rfl)) (S_one (S_set (ps_set (i := 7) N_law_nd rfl (.inl rfl) (E_op o_add (E_var (pv 7)) (E_call g__law_teams (hr.mono (by decide)) .none (by rfl) (A_cons (E_var (pv 10)) A_nil))))))))) (S_cons (S_asg (E_tup (A_cons (E_call g__law_days_of (hr.mono (by decide)) .none (by rfl) (A_cons (E_var (pv 1)) (A_cons (E_var (pv 6)) A_nil))) (A_cons (E_cb (c_sorted rfl hu) (by rfl) F.b_sorted boot_sorted (A_cons (E_var (pv 7)) A_nil)) A_nil))) (G_tup rfl (Gs_cons (G_name (pg_name (i := 11) N_law_nd rfl (.inr rfl))) (Gs_cons (G_name (pg_name (i := 7) N_law_nd rfl (.inl rfl))) Gs_nil)))) (S_cons (S_asg (E_tup (A_cons (E_make g_Log_init (hr.mono (by decide)) .none (by rfl) (A_cons (E_cb c_len (by rfl) F.b_len boot_len (A_cons (E_ix i_seq (E_var (pv 3)) E_int) A_nil)) (A_cons (E_var (pv 11)) A_nil))) (A_cons (E_cb c_len (by rfl) F.b_len boot_len (A_cons (E_var (pv 7)) A_nil)) A_nil))) (G_tup rfl (Gs_cons (G_name (pg_name (i := 12) N_law_nd rfl (.inr rfl))) (Gs_cons (G_name (pg_name (i := 13) N_law_nd rfl (.inr rfl))) Gs_nil)))) (S_cons (S_set (ps_set (i := 14) N_law_nd rfl (.inl rfl) (E_less (E_lam (k := 8) (by rfl) m_said hk lk hcg hb S__law_said rfl (.inl rfl) (w__law_said FX) TB rfl (hr.mono (by decide)) (lamS_by (sc := defScope s_law) (by decide +kernel)) (by rfl) (by intros; rfl) (fun A2 outer2 s2 H2 E2 f2 c2 hr2 => (Ex_call gd_sure_teams (hr2.mono (by decide)) (lam_pass (X := cxD Y mg base N_law "law" (defScope s_law) f (.ref c) A outer s H E)) (by rfl) (A_cons (E_var (pv 12)) (A_cons E_int (A_cons (E_cb c_len (by rfl) F.b_len boot_len (A_cons (E_var (pv 11)) A_nil)) A_nil))))))))) (S_cons (S_if (T_not (T_tru (E_call g__law_same (hr.mono (by decide)) .none (by rfl) (A_cons (E_var (pv 14)) (A_cons (E_if (T_cmp o_le (E_var (pv 13)) E_int rfl) (E_tup (A_cons E_str (A_cons (E_var (pv 7)) A_nil))) (E_tup (A_cons E_str (A_cons E_int A_nil)))) A_nil))))) (S_one (S_ret E_bl)) S_nil) (S_cons (S_set (ps_set (i := 15) N_law_nd rfl (.inl rfl) (E_callK gk_sure_teams (hr.mono (by decide)) .none (by rfl) (A_cons (E_var (pv 12)) (A_cons E_int (A_cons (E_cb c_len (by rfl) F.b_len boot_len (A_cons (E_var (pv 11)) A_nil)) A_nil))) (K_cons (E_call g__law_any (hr.mono (by decide)) .none (by rfl) (A_cons (E_var (pv 1)) (A_cons (E_lst (A_cons (E_var (pv 13)) (A_cons (E_op o_pow E_int E_int) (A_cons (E_op o_add (E_var (pv 13)) E_int) A_nil)))) A_nil))) K_nil)))) (S_cons (S_if (T_not (T_tru (E_call g__law_same (hr.mono (by decide)) .none (by rfl) (A_cons (E_var (pv 15)) (A_cons (E_var (pv 7)) A_nil))))) (S_one (S_ret E_bl)) S_nil) (S_cons (S_expr (E_bm PySem.F.plainAttrs_list PySem.F.slot_list_append PySem.F.type_list_append m_append (E_var (pv 15)) (A_cons E_non A_nil))) (S_cons (S_if (T_not (T_tru (E_call g__law_same (hr.mono (by decide)) .none (by rfl) (A_cons (E_callK gk_sure_teams (hr.mono (by decide)) .none (by rfl) (A_cons (E_var (pv 12)) (A_cons E_int (A_cons (E_cb c_len (by rfl) F.b_len boot_len (A_cons (E_var (pv 11)) A_nil)) A_nil))) (K_cons (E_var (pv 13)) K_nil)) (A_cons (E_var (pv 7)) A_nil))))) (S_one (S_ret E_bl)) S_nil) (S_one (S_ret (E_call g__law_same (hr.mono (by decide)) .none (by rfl) (A_cons (E_less (E_lam (k := 8) (by rfl) m_said hk lk hcg hb S__law_said rfl (.inl rfl) (w__law_said FX) TB rfl (hr.mono (by decide)) (lamS_by (sc := defScope s_law) (by decide +kernel)) (by rfl) (by intros; rfl) (fun A2 outer2 s2 H2 E2 f2 c2 hr2 => (Ex_callK gk_sure_teams (hr2.mono (by decide)) (lam_pass (X := cxD Y mg base N_law "law" (defScope s_law) f (.ref c) A outer s H E)) (by rfl) (A_cons (E_var (pv 12)) (A_cons E_int (A_cons (E_cb c_len (by rfl) F.b_len boot_len (A_cons (E_var (pv 11)) A_nil)) A_nil))) (K_cons (E_op o_sub (E_var (pv 13)) E_int) K_nil))))) (A_cons (E_tup (A_cons E_str (A_cons (E_op o_sub (E_var (pv 13)) E_int) A_nil))) A_nil))))))))))))))))))))
end HD

set_option Elab.async false
set_option linter.all false
set_option maxRecDepth 100000
set_option maxHeartbeats 1000000
namespace HD
open PySem PySem.Spec PyProof.Rows L2 L2.DL He LamX
def sp_is_integer : DSp := fun ds G Q _ => ∃ i : Int, ds = [.int i] ∧ Q (.bl true) G
theorem v_is_integer {Y : Wd} (ds G Q E) (h : sp_is_integer ds G Q E) : t_is_integer Y (downX E) { nx := fun _ G' => down Q .non G', rt := down Q } (dstart N_is_integer ds) G := by
  obtain ⟨i, rfl, h⟩ := h
  simp [t_is_integer, dRet, dAndV, dIsi, dVar, dNotV, dstart, N_is_integer, tagOf, TgOk, askO, askT, Tg.nm]
  exact down.of h
def sp_is_within : DSp := fun ds G Q _ => ∃ i lo hi : Int, ds = [.int i, .int lo, .int hi] ∧ Q (.bl (decide (lo ≤ i) && decide (i ≤ hi))) G
theorem v_is_within {Y : Wd} (ds G Q E) (h : sp_is_within ds G Q E) : t_is_within Y sp_is_integer (downX E) { nx := fun _ G' => down Q .non G', rt := down Q } (dstart N_is_within ds) G := by
  obtain ⟨i, lo, hi, rfl, h⟩ := h
  simp [t_is_within, dRet, dAndV, dCall, dCons, dNil, dVar, dChain, dstart, N_is_within, sp_is_integer, rInt]
  by_cases c : lo ≤ i
  · simp [c] at h ⊢
    exact down.of h
  · simp [c] at h ⊢
    exact down.of h
theorem f_is_integer {Y : Wd} {mg : Str → Option Value} {base : Heap} (F : Fs Y.K mg) {f : Addr} {fd : FuncData} (D : FunD Y.K "is_integer" "is_integer" (defArgs s_is_integer) (defBody s_is_integer) (defScope s_is_integer) [] [] f fd) :
    FnD Y mg base 1 f fd ["thing"] sp_is_integer :=
  fnD D S_is_integer (fun ds G Q E ⟨i, e, _⟩ => by rw [e]; rfl) (w_is_integer F f) v_is_integer
theorem f_is_within {Y : Wd} {mg : Str → Option Value} {base : Heap} (F : Fs Y.K mg) {f : Addr} {fd : FuncData} (g : GFn Y mg base "is_integer" 1 ["thing"] [] sp_is_integer) (D : FunD Y.K "is_within" "is_within" (defArgs s_is_within) (defBody s_is_within) (defScope s_is_within) [] [] f fd) :
    FnD Y mg base 2 f fd ["thing", "low", "high"] sp_is_within :=
  fnD D S_is_within (fun ds G Q E ⟨i, _, _, e, _⟩ => by rw [e]; rfl) (w_is_within F g f) v_is_within
end HD

set_option Elab.async false
set_option linter.all false
set_option maxRecDepth 100000
set_option maxHeartbeats 1000000
namespace HD
open PySem PySem.Spec PyProof.Rows L2 L2.DL He LamX
abbrev evD (a b : Str) (n : Int) : D := .tup [.str "pair", .str a, .str b, .int n]
def sp_names_in : DSp := fun ds G Q _ => ∃ a b n, ds = [evD a b n] ∧ Q (.tup [.str a, .str b]) G
theorem v_names_in {Y : Wd} (ds G Q E) (h : sp_names_in ds G Q E) : t_names_in Y (downX E) { nx := fun _ G' => down Q .non G', rt := down Q } (dstart N_names_in ds) G := by
  obtain ⟨a, b, n, rfl, h⟩ := h
  have e : decide (("pair" : Str) = ("seen" : Str)) = false := by decide +kernel
  have e2 : (("pair" : Str) == ("seen" : Str)) = false := by decide +kernel
  simp [t_names_in, dRet, dIf, dTest, dOp, dTup, dCons, dNil, dVar, dC, dstart, N_names_in, rGetS, rEqD1, atI, ixN, e, e2]
  exact down.of h
def sp_check_most : DSp := fun ds G Q _ => ∃ m : Int, ds = [.int m] ∧ 1 ≤ m ∧ m ≤ 100000 ∧ Q .non G
theorem v_check_most {Y : Wd} (ds G Q E) (h : sp_check_most ds G Q E) : t_check_most Y sp_is_within (downX E) { nx := fun _ G' => down Q .non G', rt := down Q } (dstart N_check_most ds) G := by
  obtain ⟨m, rfl, h1, h2, h⟩ := h
  simp [t_check_most, dIfS, dNot, dTru, dCall, dCons, dNil, dVar, dC, dstart, N_check_most, sp_is_within, tru, dNext]
  refine ⟨m, 1, 100000, ⟨rfl, rfl, rfl⟩, ?_⟩
  simp [h1, h2]
  exact down.of h
def nameOk (x : Str) : Prop := 1 ≤ x.length ∧ x.length ≤ 8 ∧ ∀ c ∈ x.cps.toList, strIn ⟨#[c]⟩ "abcdefghijklmnopqrstuvwxyz" = true
def sp_is_name : DSp := fun ds G Q _ => ∃ x, ds = [.str x] ∧ nameOk x ∧ Q (.bl true) G
theorem blsOf_rep (n : Nat) : blsOf (List.replicate n (.bl true)) = some (List.replicate n true) := by
  induction n with
  | zero => rfl
  | succ n ih => rw [List.replicate_succ, List.replicate_succ]; unfold blsOf; rw [ih]; rfl
theorem v_is_name {Y : Wd} (ds G Q E) (h : sp_is_name ds G Q E) : t_is_name Y (downX E) { nx := fun _ G' => down Q .non G', rt := down Q } (dstart N_is_name ds) G := by
  obtain ⟨x, rfl, ⟨h1, h2, h3⟩, h⟩ := h
  have l1 : (x.length : Nat) ≤ 16777216 := by omega
  simp [t_is_name, dSeq, dIfS, dOr, dNot, dTru, dIsi, dTest, dChain, dCB, dCons, dNil, dVar, dC, dstart, N_is_name, tagOf, TgOk, askO, askT, Tg.nm, tru, DL.rLen, rInt, l1, h1, h2, dNext, dRet, dC1, dTxt]
  have d1 : decide (1 ≤ (x.length : Int)) = true := decide_eq_true (by omega)
  have d2 : decide ((x.length : Int) ≤ 8) = true := decide_eq_true (by omega)
  simp only [d1, d2, Bool.not_true]
  intro p hp
  refine ⟨fun i G' => G' = dup G p (.lst (List.replicate i (.bl true))) ∧ i ≤ x.cps.size, ⟨rfl, Nat.zero_le _⟩, ?_, ?_⟩
  · intro i d G1 hd hG
    obtain ⟨hG, hi⟩ := hG
    subst hG
    simp [textD] at hd
    obtain ⟨c, hc, rfl⟩ := hd
    obtain ⟨hl, hc'⟩ := Array.getElem?_eq_some_iff.mp hc
    have hm : c ∈ x.cps.toList := by rw [← hc']; simp
    have hx : x.length = x.cps.size := rfl
    have hk : List.replicate i (D.bl true) ++ [D.bl true] = List.replicate (i + 1) (D.bl true) := (List.replicate_succ' ..).symm
    simp [dgName, dYes, dmL, dOp, dVar, dC, rInB, dwipe, h3 _ hm, withL, dup_same, dup_dup, hk]
    omega
  · intro G1 hG
    obtain ⟨hG, hi⟩ := hG
    subst hG
    simp [rAllB, dup_same, blsOf_rep]
    exact ⟨G, DLe.new hp, h⟩
end HD

set_option Elab.async false
set_option linter.all false
set_option maxRecDepth 100000
set_option maxHeartbeats 1000000
namespace HD
open PySem PySem.Spec PyProof.Rows L2 L2.DL He LamX
def evOk (parts : Int) (a b : Str) (n : Int) : Prop := nameOk a ∧ nameOk b ∧ a ≠ b ∧ 0 ≤ n ∧ n < parts
def sp_is_event : DSp := fun ds G Q _ => ∃ parts a b n, ds = [.int parts, evD a b n] ∧ evOk parts a b n ∧ Q (.bl true) G
theorem v_is_event {Y : Wd} (ds G Q E) (h : sp_is_event ds G Q E) : t_is_event Y sp_is_name sp_is_within (downX E) { nx := fun _ G' => down Q .non G', rt := down Q } (dstart N_is_event ds) G := by
  obtain ⟨parts, a, b, n, rfl, ⟨ha, hb, hab, h0, h1⟩, h⟩ := h
  have e : decide (("pair" : Str) = ("seen" : Str)) = false := by decide +kernel
  have hn : decide (n ≤ parts - 1) = true := decide_eq_true (by omega)
  simp [t_is_event, dSeq, dIfS, dOr, dNot, dTru, dIsi, dTest, dOp, dCall, dCB, dCons, dNil, dVar, dC, dstart, N_is_event, tagOf, TgOk, askO, askT, Tg.nm, tru, DL.rLen, rInt, rGetS, atI, ixN, sp_is_name, ha, hb, dNext, dRet, rEqD1, rNotOf, e, hab, sp_is_within]
  refine ⟨n, 0, parts - 1, ⟨rfl, rfl, rfl⟩, ?_⟩
  simp [h0, hn]
  exact down.of h
def sp_take_names : DSp := fun ds G Q _ => ∃ (p : Addr) (xs : List Str) (a b : Str) (n : Int), ds = [.ref p, evD a b n] ∧ G p = some (.lst (xs.map .str)) ∧ a ≠ b ∧ a ∉ xs ∧ b ∉ xs ∧ xs.length ≤ 58 ∧ Q (.bl true) (dup G p (.lst ((xs ++ [a, b]).map .str)))
end HD

set_option Elab.async false
set_option linter.all false
set_option maxRecDepth 100000
set_option maxHeartbeats 1000000
namespace HD
open PySem PySem.Spec PyProof.Rows L2 L2.DL He LamX
def insN (xs : List Str) (x : Str) : List Str := if x ∈ xs then xs else xs ++ [x]
theorem hasD_strs (x : Str) : ∀ xs : List Str, hasD (.str x) (xs.map .str) = decide (x ∈ xs)
  | [] => rfl
  | y :: ys => by
    have ih := hasD_strs x ys
    unfold hasD at ih ⊢
    rw [List.map_cons, List.any_cons, ih]
    by_cases c : x = y
    · subst c; simp [D.eqp]
    · have c' : ¬ y = x := fun z => c z.symm
      simp [D.eqp, c, c']
theorem flat_strs : ∀ xs : List Str, (xs.map D.str).all D.flat = true
  | [] => rfl
  | y :: ys => by rw [List.map_cons, List.all_cons, flat_strs ys]; rfl
theorem insN_len (xs : List Str) (x : Str) : (insN xs x).length ≤ xs.length + 1 := by
  unfold insN; split
  · omega
  · simp
def sp_take_names2 : DSp := fun ds G Q _ => ∃ (p : Addr) (xs : List Str) (a b : Str) (n : Int), ds = [.ref p, evD a b n] ∧ G p = some (.lst (xs.map .str)) ∧ (insN (insN xs a) b).length ≤ 60 ∧ xs.length ≤ 1000 ∧ Q (.bl true) (dup G p (.lst ((insN (insN xs a) b).map .str)))
theorem v_take_names {Y : Wd} (ds G Q E) (h : sp_take_names2 ds G Q E) : t_take_names Y sp_names_in (downX E) { nx := fun _ G' => down Q .non G', rt := down Q } (dstart N_take_names ds) G := by
  obtain ⟨p, xs, a, b, n, rfl, hG, hl, hl2, h⟩ := h
  simp [t_take_names, dSeq, dFor, dSeqI, dCall, dCons, dNil, dVar, dstart, N_take_names, sp_names_in]
  have hlen := insN_len xs a
  refine ⟨a, b, ⟨rfl, rfl⟩, ?_⟩
  refine ⟨fun i τ G' => ∃ o, τ = [some (.ref p), some (evD a b n), o] ∧ G' = dup G p (.lst ((match i with | 0 => xs | 1 => insN xs a | _ => insN (insN xs a) b).map .str)), ⟨_, rfl, (dup_self hG).symm⟩, ?_, ?_⟩
  · intro i x τ G1 hx ht
    obtain ⟨o, rfl, rfl⟩ := ht
    match i, hx with
    | 0, hx =>
      simp at hx
      subst hx
      by_cases c : a ∈ xs
      · simp [dgName, dIfS, dTest, dOp, dVar, rInB, dup_same, flat_strs, D.flat, hasD_strs, c, dNext, insN]
      · simp [dgName, dIfS, dTest, dOp, dVar, rInB, dup_same, flat_strs, D.flat, hasD_strs, c, dDrop, dBM, isTy, dCons, dNil, rApp, withL, dup_dup, insN]
        omega
    | 1, hx =>
      simp at hx
      subst hx
      by_cases c : b ∈ insN xs a
      · simp [dgName, dIfS, dTest, dOp, dVar, rInB, dup_same, flat_strs, D.flat, hasD_strs, c, dNext, insN.eq_1 (insN xs a)]
      · simp [dgName, dIfS, dTest, dOp, dVar, rInB, dup_same, flat_strs, D.flat, hasD_strs, c, dDrop, dBM, isTy, dCons, dNil, rApp, withL, dup_dup, insN.eq_1 (insN xs a)]
        omega
  · intro τ G1 ht
    obtain ⟨o, rfl, rfl⟩ := ht
    simp [dRet, dOp, dCB, dCons, dNil, dVar, dC, DL.rLen, dup_same, rInt]
    have : decide (((insN (insN xs a) b).length : Int) ≤ 60) = true := decide_eq_true (by omega)
    rw [this]
    exact down.of h
end HD

set_option Elab.async false
set_option linter.all false
set_option maxRecDepth 100000
set_option maxHeartbeats 1000000
namespace HD
open PySem PySem.Spec PyProof.Rows L2 L2.DL He LamX
abbrev Ev := Str × Str × Int
abbrev evv (e : Ev) : D := evD e.1 e.2.1 e.2.2
abbrev dayD (d : List Ev) : D := .tup (d.map evv)
abbrev daysD (ds : List (List Ev)) : D := .tup (ds.map dayD)
def addE (xs : List Str) (e : Ev) : List Str := insN (insN xs e.1) e.2.1
def namesA (es : List Ev) : List Str := es.foldl addE []
theorem insN_ge (xs : List Str) (x : Str) : xs.length ≤ (insN xs x).length := by
  unfold insN; split
  · omega
  · simp
theorem addE_ge (xs : List Str) (e : Ev) : xs.length ≤ (addE xs e).length := Nat.le_trans (insN_ge _ _) (insN_ge _ _)
theorem fold_ge : ∀ (es : List Ev) (xs : List Str), xs.length ≤ (es.foldl addE xs).length
  | [], _ => Nat.le_refl _
  | e :: es, xs => Nat.le_trans (addE_ge xs e) (fold_ge es _)
theorem namesA_app (es fs : List Ev) : (namesA es).length ≤ (namesA (es ++ fs)).length := by
  unfold namesA; rw [List.foldl_append]; exact fold_ge _ _
theorem namesA_snoc (es : List Ev) (e : Ev) : namesA (es ++ [e]) = addE (namesA es) e := by
  unfold namesA; rw [List.foldl_append]; rfl
def daysOk (parts : Int) (days : List (List Ev)) : Prop := 0 < days.length ∧ days.length ≤ 200 ∧ (∀ d ∈ days, d.length ≤ 12) ∧ (∀ d ∈ days, ∀ e ∈ d, evOk parts e.1 e.2.1 e.2.2) ∧ (namesA days.flatten).length ≤ 60
def sp_check_days : DSp := fun ds G Q _ => ∃ parts days, ds = [.int parts, daysD days] ∧ daysOk parts days ∧ Q .non G
theorem enum_map {α : Type} (f : α → D) (xs : List α) {i : Nat} {x : D} (h : (enumD (xs.map f))[i]? = some x) : ∃ (hi : i < xs.length), x = .tup [.int (i : Nat), f xs[i]] := by
  obtain ⟨y, h1, rfl⟩ := enum_get h
  rw [List.getElem?_map] at h1
  cases q : xs[i]? with
  | none => rw [q] at h1; cases h1
  | some z =>
    rw [q] at h1
    obtain ⟨hi, e⟩ := List.getElem?_eq_some_iff.mp q
    cases h1
    exact ⟨hi, by rw [e]⟩
theorem v_check_days {Y : Wd} (ds G Q E) (h : sp_check_days ds G Q E) : t_check_days Y sp_is_event sp_take_names2 (downX E) { nx := fun _ G' => down Q .non G', rt := down Q } (dstart N_check_days ds) G := by
  obtain ⟨parts, days, rfl, ⟨k0, k1, k2, k3, k4⟩, h⟩ := h
  have e0 : ¬ days = [] := by rintro rfl; simp at k0
  simp [t_check_days, dSeq, dIfS, dOr, dNot, dTru, dIsi, dTest, dOp, dCB, dCons, dNil, dVar, dC, dstart, N_check_days, tagOf, TgOk, askO, askT, Tg.nm, tru, DL.rLen, rEqD1, dNext, e0]
  simp [dAsg, dLst, dNil, dgName]
  intro p hp
  simp [dFor, dEnum, dCons, dNil, dVar, dSeqK]
  refine ⟨fun i τ G' => ∃ o3 o4 o5 o6, τ = [some (.int parts), some (daysD days), some (.ref p), o3, o4, o5, o6] ∧ G' = dup G p (.lst ((namesA (days.take i).flatten).map .str)), ⟨_, _, _, _, rfl, rfl⟩, ?_, ?_⟩
  · intro i x τ G1 hx ht
    obtain ⟨hi, rfl⟩ := enum_map dayD days hx
    obtain ⟨o3, o4, o5, o6, rfl, rfl⟩ := ht
    have hi2 : ¬ (200 : Int) ≤ (i : Int) := by omega
    simp [dgTup, dgCons, dgNil, dgName, dSeq, dIfS, dOr, dNot, dTru, dIsi, dTest, dOp, dVar, dC, rInt, hi2, tagOf, TgOk, askO, askT, Tg.nm, tru, dNext, dFor, dEnum, dCons, dNil, dSeqK]
    refine ⟨fun j τ G' => ∃ o5 o6, τ = [some (.int parts), some (daysD days), some (.ref p), some (.int (i : Nat)), some (dayD days[i]), o5, o6] ∧ G' = dup G p (.lst ((namesA ((days.take i).flatten ++ days[i].take j)).map .str)), ⟨_, _, rfl, by simp⟩, ?_, ?_⟩
    · intro j y τ G1 hy ht
      obtain ⟨hj, rfl⟩ := enum_map evv days[i] hy
      obtain ⟨o5, o6, rfl, rfl⟩ := ht
      have hm : days[i] ∈ days := List.getElem_mem hi
      have hj2 : ¬ (12 : Int) ≤ (j : Int) := by have := k2 _ hm; omega
      have hev := k3 _ hm _ (List.getElem_mem hj)
      simp [dgTup, dgCons, dgNil, dgName, dSeq, dIfS, dOr, dNot, dTru, dIsi, dTest, dOp, dVar, dC, rInt, hj2, tru, dNext, dCons, dNil, dCall]
      have es : (days.take i).flatten ++ days[i].take (j + 1) = ((days.take i).flatten ++ days[i].take j) ++ [days[i][j]] := by rw [List.take_succ_eq_append_getElem hj, List.append_assoc]
      have ef : days.flatten = ((days.take i).flatten ++ days[i].take (j + 1)) ++ (days[i].drop (j + 1) ++ (days.drop (i + 1)).flatten) := by
        have a1 : days = days.take i ++ days[i] :: days.drop (i + 1) := by rw [← List.drop_eq_getElem_cons hi, List.take_append_drop]
        conv => lhs; rw [a1]
        rw [List.flatten_append, List.flatten_cons]
        conv => lhs; rw [← List.take_append_drop (j + 1) days[i]]
        simp only [List.append_assoc]
      have hle : (namesA (((days.take i).flatten ++ days[i].take j) ++ [days[i][j]])).length ≤ 60 := by
        rw [← es]
        refine Nat.le_trans (namesA_app _ (days[i].drop (j + 1) ++ (days.drop (i + 1)).flatten)) ?_
        rw [← ef]; exact k4
      have hle2 := namesA_app ((days.take i).flatten ++ days[i].take j) [days[i][j]]
      rw [namesA_snoc] at hle hle2
      refine ⟨parts, _, _, _, rfl, hev, p, _, _, _, _, rfl, dup_same, hle, by omega, ?_⟩
      rw [dup_dup]
      rw [es, namesA_snoc]; rfl
    · intro τ G1 ht
      obtain ⟨o5, o6, rfl, rfl⟩ := ht
      have ej : ((days.take i).flatten ++ days[i].take ((enumD (days[i].map evv)).length)) = (days.take (i + 1)).flatten := by
        rw [List.take_succ_eq_append_getElem hi, List.flatten_append]
        simp [enumD]
      rw [← ej]
      exact ⟨⟨_, _, _, _, rfl⟩, rfl⟩
  · intro τ G1 ht
    obtain ⟨o3, o4, o5, o6, rfl, rfl⟩ := ht
    exact ⟨G, DLe.new hp, h⟩
end HD

set_option Elab.async false
set_option linter.all false
set_option maxRecDepth 100000
set_option maxHeartbeats 1000000
namespace HD
open PySem PySem.Spec PyProof.Rows L2 L2.DL He LamX
/-- a log -/
def logO (K : PySem.W.Frag) (parts : Int) (days : List (List Ev)) : DO := .ins (ga K "Log") [("parts", .int parts), ("days", daysD days)]
structure LogF (K : PySem.W.Frag) : Prop where
  p : OkA K (ga K "Log") "parts"
  d : OkA K (ga K "Log") "days"
  o : OwnTy K (ga K "Log")
def sp_Log_init (K : PySem.W.Frag) : DSp := fun ds G Q _ => ∃ p parts days, ds = [.ref p, .int parts, daysD days] ∧ 2 ≤ parts ∧ parts ≤ 12 ∧ daysOk parts days ∧ G p = some (.ins (ga K "Log") []) ∧ Q .non (dup G p (logO K parts days))
theorem v_Log_init {Y : Wd} (L : LogF Y.K) (ds G Q E) (h : sp_Log_init Y.K ds G Q E) : t_Log_init Y sp_check_days sp_is_within (downX E) { nx := fun _ G' => down Q .non G', rt := down Q } (dstart N_Log_init ds) G := by
  obtain ⟨p, parts, days, rfl, h1, h2, h3, hp, h⟩ := h
  simp [t_Log_init, dSeq, dIfS, dNot, dTru, dCall, dCons, dNil, dVar, dC, dstart, N_Log_init, tru]
  refine ⟨parts, 2, 12, rfl, ?_⟩
  simp [h1, h2, dNext, dDrop, dCall, dCons, dNil, dVar]
  refine ⟨parts, days, rfl, h3, ?_⟩
  have e : ¬ (("parts" : Str) = ("days" : Str)) := by decide +kernel
  simp [dSeq, dPutF, dVar, hp, L.p, L.d, dup_same, dup_dup, putD, e]
  exact down.of h
def sp_check_log (K : PySem.W.Frag) : DSp := fun ds G Q _ => ∃ p fs, ds = [.ref p] ∧ G p = some (.ins (ga K "Log") fs) ∧ Q .non G
theorem v_check_log {Y : Wd} (L : LogF Y.K) (ds G Q E) (h : sp_check_log Y.K ds G Q E) : t_check_log Y (downX E) { nx := fun _ G' => down Q .non G', rt := down Q } (dstart N_check_log ds) G := by
  obtain ⟨p, fs, rfl, hp, h⟩ := h
  simp [t_check_log, dIfS, dNot, dTru, dIsi, dVar, dstart, N_check_log, tagOf, hp, TgOk, L.o, askC, tru, dNext]
  exact down.of h
end HD

set_option Elab.async false
set_option linter.all false
set_option maxRecDepth 100000
set_option maxHeartbeats 1000000
namespace HD
open PySem PySem.Spec PyProof.Rows L2 L2.DL He LamX
def sp_check_stretch (K : PySem.W.Frag) : DSp := fun ds G Q _ => ∃ p parts days, ∃ a b : Int, ds = [.ref p, .int a, .int b] ∧ G p = some (logO K parts days) ∧ 0 ≤ a ∧ a < b ∧ b ≤ (days.length : Int) ∧ Q .non G
theorem v_check_stretch {Y : Wd} (L : LogF Y.K) (ds G Q E) (h : sp_check_stretch Y.K ds G Q E) : t_check_stretch Y (sp_check_log Y.K) sp_is_within (downX E) { nx := fun _ G' => down Q .non G', rt := down Q } (dstart N_check_stretch ds) G := by
  obtain ⟨p, parts, days, a, b, rfl, hp, h1, h2, h3, h⟩ := h
  have e : ¬ (("days" : Str) = ("parts" : Str)) := by decide +kernel
  have e2 : (("days" : Str) == ("parts" : Str)) = false := by decide +kernel
  simp [t_check_stretch, dSeq, dDrop, dCall, dCons, dNil, dVar, dstart, N_check_stretch, sp_check_log]
  refine ⟨⟨_, hp⟩, ?_⟩
  simp [dIfS, dOr, dNot, dTru, dCall, dCons, dNil, dVar, dC, dOp, dCB, dFld, hp, logO, L.d, List.lookup, e, e2, DL.rLen, rInt]
  refine ⟨a, 0, _, rfl, ?_⟩
  have g1 : decide (a ≤ (days.length : Int) - 1) = true := decide_eq_true (by omega)
  have g2 : decide (a + 1 ≤ b) = true := decide_eq_true (by omega)
  have g3 : decide (b ≤ (days.length : Int)) = true := decide_eq_true (by omega)
  simp [tru, h1, g1, DL.rAdd, hp, logO, L.d, List.lookup, e2]
  refine ⟨b, a + 1, _, rfl, ?_⟩
  simp [tru, g2, h3, dNext]
  exact down.of h
end HD

set_option Elab.async false
set_option linter.all false
set_option maxRecDepth 100000
set_option maxHeartbeats 1000000
namespace HD
open PySem PySem.Spec PyProof.Rows L2 L2.DL He LamX
/-- the events told, with their places -/
def toldDay (i : Nat) (d : List Ev) : List D := d.mapIdx fun j e => .tup [.int (i : Nat), .int (j : Nat), evv e]
def toldAll (days : List (List Ev)) : List D := (days.mapIdx toldDay).flatten
theorem toldAll_take (days : List (List Ev)) {i : Nat} (hi : i < days.length) : toldAll (days.take (i + 1)) = toldAll (days.take i) ++ toldDay i days[i] := by
  unfold toldAll
  rw [List.take_succ_eq_append_getElem hi, List.mapIdx_append, List.flatten_append]
  simp [Nat.min_eq_left (Nat.le_of_lt hi)]
theorem toldDay_take (i : Nat) (d : List Ev) {j : Nat} (hj : j < d.length) : toldDay i (d.take (j + 1)) = toldDay i (d.take j) ++ [.tup [.int (i : Nat), .int (j : Nat), evv d[j]]] := by
  unfold toldDay
  rw [List.take_succ_eq_append_getElem hj, List.mapIdx_append]
  simp [Nat.min_eq_left (Nat.le_of_lt hj)]
theorem rng_get {lo c : Int} {n i : Nat} {x : D} (h : (rngD lo c n)[i]? = some x) : i < n ∧ x = .int (lo + (i : Nat) * c) := by
  unfold rngD at h
  rw [List.getElem?_map] at h
  cases q : (List.range n)[i]? with
  | none => rw [q] at h; cases h
  | some z =>
    rw [q] at h
    obtain ⟨hi, e⟩ := List.getElem?_eq_some_iff.mp q
    cases h
    simp at hi e
    exact ⟨hi, by rw [e]⟩
theorem toldDay_len (i : Nat) (d : List Ev) : (toldDay i d).length = d.length := by simp [toldDay]
theorem toldAll_len (days : List (List Ev)) (h : ∀ d ∈ days, d.length ≤ 12) : ∀ i ≤ days.length, (toldAll (days.take i)).length ≤ 12 * i := by
  intro i
  induction i with
  | zero => intro _; simp [toldAll]
  | succ i ih =>
    intro hi
    rw [toldAll_take days (by omega), List.length_append, toldDay_len]
    have := ih (by omega)
    have := h days[i] (List.getElem_mem _)
    omega
theorem atI_nat {α : Type} (xs : List α) {i : Nat} (h : i < xs.length) : atI xs (i : Int) = some xs[i] := by
  unfold atI ixN; simp [h]
def sp_told_events (K : PySem.W.Frag) : DSp := fun ds G Q _ => ∃ p parts days, ds = [.ref p, .int 0, .int (days.length : Nat)] ∧ G p = some (logO K parts days) ∧ daysOk parts days ∧ ∀ r, G r = none → Q (.ref r) (dup G r (.lst (toldAll days)))
theorem v_told_events {Y : Wd} (L : LogF Y.K) (ds G Q E) (h : sp_told_events Y.K ds G Q E) : t_told_events Y (downX E) { nx := fun _ G' => down Q .non G', rt := down Q } (dstart N_told_events ds) G := by
  obtain ⟨p, parts, days, rfl, hp, hd, h⟩ := h
  have k2 := hd.2.2.1
  have k1 := hd.2.1
  have e2 : (("days" : Str) == ("parts" : Str)) = false := by decide +kernel
  simp [t_told_events, dSeq, dAsg, dLst, dNil, dgName, dstart, N_told_events]
  intro r hr
  have hpr : p ≠ r := fun z => by rw [z, hr] at hp; cases hp
  simp [dFor, dRng2, dCons, dNil, dVar]
  refine ⟨by omega, fun i τ G' => ∃ o4 o5 o6, τ = [some (.ref p), some (.int 0), some (.int (days.length : Nat)), some (.ref r), o4, o5, o6] ∧ G' = dup G r (.lst (toldAll (days.take i))), ⟨_, _, _, rfl, by simp [toldAll]⟩, ?_, ?_⟩
  · intro i x τ G1 hx ht
    obtain ⟨hi, rfl⟩ := rng_get hx
    obtain ⟨o4, o5, o6, rfl, rfl⟩ := ht
    simp [dgName, dEnum, dCons, dNil, dOp, dFld, dVar, dup_ne hpr, hp, logO, L.d, List.lookup, e2, rGetS]
    rw [atI_nat _ (by simpa using hi)]
    simp [dSeqK]
    refine ⟨fun j τ G' => ∃ o5 o6, τ = [some (.ref p), some (.int 0), some (.int (days.length : Nat)), some (.ref r), some (.int (i : Nat)), o5, o6] ∧ G' = dup G r (.lst (toldAll (days.take i) ++ toldDay i (days[i].take j))), ⟨_, _, rfl, by simp [toldDay]⟩, ?_, ?_⟩
    · intro j y τ G1 hy ht
      obtain ⟨hj, rfl⟩ := enum_map evv days[i] hy
      obtain ⟨o5, o6, rfl, rfl⟩ := ht
      have l1 := toldAll_len days k2 i (by omega)
      have l2 := toldDay_len i (days[i].take j)
      have l3 := k2 _ (List.getElem_mem hi)
      rw [List.length_take] at l2
      simp [dgTup, dgCons, dgNil, dgName, dDrop, dBM, dVar, isTy, dup_same, dCons, dNil, dTup, rApp, withL, dup_dup]
      refine ⟨by omega, ?_⟩
      rw [toldDay_take i _ hj]
    · intro τ G1 ht
      obtain ⟨o5, o6, rfl, rfl⟩ := ht
      refine ⟨⟨_, _, _, rfl⟩, ?_⟩
      rw [toldAll_take days hi]
      simp [enumD]
  · intro τ G1 ht
    obtain ⟨o4, o5, o6, rfl, rfl⟩ := ht
    simp [dRet, dVar, rngD]
    exact down.of (h r hr)
end HD

set_option Elab.async false
set_option linter.all false
set_option maxRecDepth 100000
set_option maxHeartbeats 1000000
namespace HD
open PySem PySem.Spec PyProof.Rows L2 L2.DL He LamX
/-- a web -/
def webO (K : PySem.W.Frag) (parts : Int) (tl nm ro tu pa : Addr) (mis : D) : DO := .ins (ga K "Web") [("parts", .int parts), ("told", .ref tl), ("names", .ref nm), ("roots", .ref ro), ("turns", .ref tu), ("parents", .ref pa), ("misfit", mis)]
structure WebF (K : PySem.W.Frag) : Prop where
  a : ∀ f : Str, f ∈ (["parts", "told", "names", "roots", "turns", "parents", "misfit"] : List Str) → OkA K (ga K "Web") f
/-- a grown web of names: each name's root, each name's turn -/
def WebS (K : PySem.W.Frag) (G : DH) (p : Addr) (parts : Int) (names : List Str) (root : Str → Str) (turn : Str → Int) : Prop :=
  ∃ tl nm ro tu pa kr kt, G p = some (webO K parts tl nm ro tu pa .non) ∧ G nm = some (.lst (names.map .str)) ∧ G ro = some (.dic kr) ∧ G tu = some (.dic kt) ∧
    ∀ x ∈ names, kget kr (some (.inr x)) = some (.str (root x)) ∧ kget kt (some (.inr x)) = some (.int (turn x))
theorem WebS.le {K : PySem.W.Frag} {G G' : DH} {p : Addr} {parts : Int} {names : List Str} {root : Str → Str} {turn : Str → Int} (h : WebS K G p parts names root turn) (l : DLe G G') : WebS K G' p parts names root turn := by
  obtain ⟨tl, nm, ro, tu, pa, kr, kt, h1, h2, h3, h4, h5⟩ := h
  exact ⟨tl, nm, ro, tu, pa, kr, kt, l _ _ h1, l _ _ h2, l _ _ h3, l _ _ h4, h5⟩
end HD

set_option Elab.async false
set_option linter.all false
set_option maxRecDepth 100000
set_option maxHeartbeats 1000000
namespace HD
open PySem PySem.Spec PyProof.Rows L2 L2.DL He LamX
def sp_Web_pieces (K : PySem.W.Frag) : DSp := fun ds G Q _ => ∃ p parts names root turn, ds = [.ref p] ∧ WebS K G p parts names root turn ∧ names.length ≤ 60 ∧ ∀ r, G r = none → Q (.ref r) (dup G r (.lst ((names.filter fun x => decide (root x = x)).map .str)))
theorem v_Web_pieces {Y : Wd} (L : WebF Y.K) (ds G Q E) (h : sp_Web_pieces Y.K ds G Q E) : t_Web_pieces Y (downX E) { nx := fun _ G' => down Q .non G', rt := down Q } (dstart N_Web_pieces ds) G := by
  obtain ⟨p, parts, names, root, turn, rfl, ⟨tl, nm, ro, tu, pa, kr, kt, h1, h2, h3, h4, h5⟩, hl, h⟩ := h
  have a1 := L.a "names" (by decide +kernel)
  have a2 := L.a "roots" (by decide +kernel)
  have e1 : (("names" : Str) == ("parts" : Str)) = false := by decide +kernel
  have e2 : (("names" : Str) == ("told" : Str)) = false := by decide +kernel
  have e3 : (("roots" : Str) == ("parts" : Str)) = false := by decide +kernel
  have e4 : (("roots" : Str) == ("told" : Str)) = false := by decide +kernel
  have e5 : (("roots" : Str) == ("names" : Str)) = false := by decide +kernel
  simp [t_Web_pieces, dRet, dC1, dSeqI, dFld, dVar, dstart, N_Web_pieces, h1, webO, a1, List.lookup, e1, e2, h2]
  intro r hr
  have n1 : nm ≠ r := fun z => by rw [z, hr] at h2; cases h2
  have n2 : ro ≠ r := fun z => by rw [z, hr] at h3; cases h3
  have n3 : p ≠ r := fun z => by rw [z, hr] at h1; cases h1
  refine ⟨fun i G' => G' = dup G r (.lst (((names.take i).filter fun x => decide (root x = x)).map .str)), by simp, ?_, ?_, ?_⟩
  · rintro i G' rfl
    rw [dup_ne n1]; exact h2
  · intro i x G1 z q ex hg
    subst ex
    subst hg
    obtain ⟨hi, ez⟩ := List.getElem?_eq_some_iff.mp q
    have hz : z ∈ names := by rw [← ez]; exact List.getElem_mem hi
    obtain ⟨k1, k2⟩ := h5 z hz
    have et : names.take (i + 1) = names.take i ++ [z] := by rw [List.take_succ_eq_append_getElem hi, ez]
    have ll : ((names.take i).filter fun x => decide (root x = x)).length ≤ 60 := Nat.le_trans (List.length_filter_le ..) (by rw [List.length_take]; omega)
    by_cases c : root z = z
    · simp [dgName, dwipe, dTest, dOp, dFld, dVar, dup_ne n3, dup_ne n2, h1, webO, a2, List.lookup, e3, e4, e5, rGetD, D.key, withD, h3, k1, rEqD1, c, dmL, withL, dup_same, dup_dup, et]
      omega
    · simp [dgName, dwipe, dTest, dOp, dFld, dVar, dup_ne n3, dup_ne n2, h1, webO, a2, List.lookup, e3, e4, e5, rGetD, D.key, withD, h3, k1, rEqD1, c, et]
  · rintro G1 rfl
    simp
    exact down.of (h r hr)
end HD

set_option Elab.async false
set_option linter.all false
set_option maxRecDepth 100000
set_option maxHeartbeats 1000000
namespace HD
open PySem PySem.Spec PyProof.Rows L2 L2.DL He LamX
abbrev kS (x : Str) : NK := some (.inr x)
def piecesOf (names : List Str) (root : Str → Str) : List Str := names.filter fun x => decide (root x = x)
end HD

/-! WBm: the mathematics of a web grown breadth first, over any nodes. -/
namespace WB
structure Ent (N P : Type) where
  x : N
  r : N
  t : Int
  p : Option (N × P)
abbrev Tie (N P : Type) := N × Int × P
variable {N P : Type}
def Resp (tie : N → List (Tie N P)) {C : Type} (c : N → C) : Prop := ∀ x y n s, (y, n, s) ∈ tie x → c y = c x
def Pot (m : Int) (tie : N → List (Tie N P)) (φ : N → Int) : Prop := ∀ x y n s, (y, n, s) ∈ tie x → m ∣ φ x + n - φ y
/-- what is known of the visited ones; the first k are done with; mis: no misfit so far -/
structure WI (m : Int) (tie : N → List (Tie N P)) (all : List N) (S : List (Ent N P)) (k : Nat) (mis : Bool) : Prop where
  kl : k ≤ S.length
  nd : (S.map (·.x)).Nodup
  mem : ∀ e ∈ S, e.x ∈ all
  rt : ∀ e ∈ S, ∃ e0 ∈ S, e0.x = e.r ∧ e0.r = e.r ∧ e0.t = 0
  col : ∀ (C : Type) (c : N → C), Resp tie c → ∀ e ∈ S, c e.x = c e.r
  pot : ∀ φ, Pot m tie φ → ∀ e ∈ S, m ∣ φ e.r + e.t - φ e.x
  rng : ∀ e ∈ S, 0 ≤ e.t ∧ e.t < m
  clo : ∀ i (h : i < S.length), i < k → ∀ y n s, (y, n, s) ∈ tie S[i].x → ∃ e ∈ S, e.x = y ∧ e.r = S[i].r ∧ (mis = true → m ∣ S[i].t + n - e.t)
  mf : (∃ φ, Pot m tie φ) → mis = true
  lst : ∀ e ∈ S, ∀ i : Nat, all[i]? = some e.x → ∃ j : Nat, j ≤ i ∧ all[j]? = some e.r
/-- between two roots: the first j of all are visited -/
structure WP (m : Int) (tie : N → List (Tie N P)) (all : List N) (S : List (Ent N P)) (mis : Bool) (j : Nat) : Prop where
  w : WI m tie all S S.length mis
  ph : ∀ (i : Nat) x, i < j → all[i]? = some x → x ∈ S.map (·.x)
/-- while a root's piece grows -/
structure WW (m : Int) (tie : N → List (Tie N P)) (all : List N) (S : List (Ent N P)) (k : Nat) (mis : Bool) (j : Nat) (r : N) : Prop where
  w : WI m tie all S k mis
  ph : ∀ (i : Nat) x, i < j → all[i]? = some x → x ∈ S.map (·.x)
  jr : all[j]? = some r
  hr : r ∈ S.map (·.x)
  wt : ∀ i (h : i < S.length), k ≤ i → S[i].r = r
/-- while the ties of the one at k are gone through, the first l of them -/
structure WT (m : Int) (tie : N → List (Tie N P)) (all : List N) (S : List (Ent N P)) (k : Nat) (mis : Bool) (j : Nat) (r : N) (x : N) (t : Int) (l : Nat) : Prop where
  w : WW m tie all S k mis j r
  at_ : ∃ p, S[k]? = some ⟨x, r, t, p⟩
  part : ∀ (i : Nat) y n s, i < l → (tie x)[i]? = some (y, n, s) → ∃ e ∈ S, e.x = y ∧ e.r = r ∧ (mis = true → m ∣ t + n - e.t)

theorem nd_eq {S : List (Ent N P)} (h : (S.map (·.x)).Nodup) {e f : Ent N P} (he : e ∈ S) (hf : f ∈ S) (q : e.x = f.x) : e = f := by
  obtain ⟨i, hi, rfl⟩ := List.getElem_of_mem he
  obtain ⟨j, hj, rfl⟩ := List.getElem_of_mem hf
  have h1 : i < (S.map (·.x)).length := by simpa using hi
  have h2 : j < (S.map (·.x)).length := by simpa using hj
  have : i = j := (List.getElem_inj (h₀ := h1) (h₁ := h2) h).mp (by simpa using q)
  subst this; rfl

theorem nd_le {α : Type} : ∀ {l m : List α}, l.Nodup → (∀ x ∈ l, x ∈ m) → l.length ≤ m.length
  | [], _, _, _ => Nat.zero_le _
  | x :: l, m, h, s => by
    obtain ⟨a, b, rfl⟩ := List.append_of_mem (s x List.mem_cons_self)
    rw [List.nodup_cons] at h
    have := nd_le (l := l) (m := a ++ b) h.2 fun y hy => by
      have h1 := s y (List.mem_cons_of_mem _ hy)
      rw [List.mem_append, List.mem_cons] at h1
      rcases h1 with h1 | h1 | h1
      · exact List.mem_append_left _ h1
      · subst h1; exact (h.1 hy).elim
      · exact List.mem_append_right _ h1
    simp at this ⊢; omega
theorem WP.zero (m : Int) (tie : N → List (Tie N P)) (all : List N) : WP m tie all [] true 0 := by
  constructor
  · constructor <;> simp
  · intro i x h; omega

theorem WP.skip {m : Int} {tie : N → List (Tie N P)} {all : List N} {S : List (Ent N P)} {mis : Bool} {j : Nat} (h : WP m tie all S mis j) {r : N} (hr : all[j]? = some r) (hm : r ∈ S.map (·.x)) : WP m tie all S mis (j + 1) := by
  refine ⟨h.w, fun i x hi hx => ?_⟩
  rcases Nat.lt_or_ge i j with c | c
  · exact h.ph i x c hx
  · have : i = j := by omega
    subst this
    rw [hr] at hx; cases hx; exact hm

theorem WP.start {m : Int} (hm : 0 < m) {tie : N → List (Tie N P)} {all : List N} {S : List (Ent N P)} {mis : Bool} {j : Nat} (h : WP m tie all S mis j) {r : N} (hr : all[j]? = some r) (hn : r ∉ S.map (·.x)) : WW m tie all (S ++ [⟨r, r, 0, none⟩]) S.length mis j r := by
  have w := h.w
  refine ⟨⟨by simp, ?_, ?_, ?_, ?_, ?_, ?_, ?_, w.mf, ?_⟩, ?_, hr, by simp, ?_⟩
  · rw [List.map_append, List.nodup_append]
    refine ⟨w.nd, by simp, ?_⟩
    intro a ha b hb
    simp at hb; subst hb
    intro q; subst q; exact hn ha
  · intro e he
    rcases List.mem_append.mp he with c | c
    · exact w.mem e c
    · simp at c; subst c; exact List.mem_of_getElem? hr
  · intro e he
    rcases List.mem_append.mp he with c | c
    · obtain ⟨e0, h1, h2⟩ := w.rt e c
      exact ⟨e0, List.mem_append_left _ h1, h2⟩
    · simp at c; subst c; exact ⟨_, List.mem_append_right _ (List.mem_singleton.mpr rfl), rfl, rfl, rfl⟩
  · intro C c hc e he
    rcases List.mem_append.mp he with d | d
    · exact w.col C c hc e d
    · simp at d; subst d; rfl
  · intro φ hφ e he
    rcases List.mem_append.mp he with d | d
    · exact w.pot φ hφ e d
    · simp at d; subst d
      have : φ r + 0 - φ r = 0 := by omega
      rw [this]; exact Int.dvd_zero m
  · intro e he
    rcases List.mem_append.mp he with d | d
    · exact w.rng e d
    · simp at d; subst d; exact ⟨Int.le_refl _, hm⟩
  · intro i hi hk y n s ht
    rw [List.getElem_append_left hk] at ht ⊢
    obtain ⟨e, h1, h2⟩ := w.clo i hk hk y n s ht
    exact ⟨e, List.mem_append_left _ h1, h2⟩
  · intro e he i hi
    rcases List.mem_append.mp he with d | d
    · exact w.lst e d i hi
    · simp at d; subst d; exact ⟨i, Nat.le_refl _, hi⟩
  · intro i x hi hx
    have := h.ph i x hi hx
    rw [List.map_append]; exact List.mem_append_left _ this
  · intro i hi hk
    have : i = S.length := by simp at hi; omega
    subst this
    simp

theorem WW.begin {m : Int} {tie : N → List (Tie N P)} {all : List N} {S : List (Ent N P)} {k : Nat} {mis : Bool} {j : Nat} {r : N} (h : WW m tie all S k mis j r) (hk : k < S.length) : WT m tie all S k mis j r S[k].x S[k].t 0 := by
  refine ⟨h, ⟨S[k].p, ?_⟩, fun i y n s hi => by omega⟩
  rw [List.getElem?_eq_getElem hk]
  have := h.wt k hk (Nat.le_refl _)
  rw [← this]

theorem WT.mem_at {m : Int} {tie : N → List (Tie N P)} {all : List N} {S : List (Ent N P)} {k : Nat} {mis : Bool} {j : Nat} {r x : N} {t : Int} {l : Nat} (h : WT m tie all S k mis j r x t l) : ∃ p, (⟨x, r, t, p⟩ : Ent N P) ∈ S ∧ ∃ hk : k < S.length, S[k] = ⟨x, r, t, p⟩ := by
  obtain ⟨p, hp⟩ := h.at_
  obtain ⟨hk, q⟩ := List.getElem?_eq_some_iff.mp hp
  exact ⟨p, List.mem_of_getElem? hp, hk, q⟩

/-- a place that is new -/
theorem WT.new {m : Int} (hm : 0 < m) {tie : N → List (Tie N P)} {all : List N} {S : List (Ent N P)} {k : Nat} {mis : Bool} {j : Nat} {r x : N} {t : Int} {l : Nat} (h : WT m tie all S k mis j r x t l) {y : N} {n : Int} {s : P} (hl : (tie x)[l]? = some (y, n, s)) (hn : y ∉ S.map (·.x)) (cl : ∀ x y n s, (y, n, s) ∈ tie x → x ∈ all → y ∈ all) :
    WT m tie all (S ++ [⟨y, r, (t + n) % m, some (x, s)⟩]) k mis j r x t (l + 1) := by
  obtain ⟨p, hx, hk, ek⟩ := h.mem_at
  have w := h.w.w
  have ht : (y, n, s) ∈ tie x := List.mem_of_getElem? hl
  have dm : m ∣ (t + n) - (t + n) % m := Int.dvd_self_sub_emod
  have ind : ∀ i : Nat, all[i]? = some y → j ≤ i := fun i hi => by
    rcases Nat.lt_or_ge i j with c | c
    · exact (hn (h.w.ph i y c hi)).elim
    · exact c
  refine ⟨⟨⟨by simp; omega, ?_, ?_, ?_, ?_, ?_, ?_, ?_, w.mf, ?_⟩, ?_, h.w.jr, ?_, ?_⟩, ?_, ?_⟩
  · rw [List.map_append, List.nodup_append]
    refine ⟨w.nd, by simp, ?_⟩
    intro a ha b hb
    simp at hb; subst hb
    intro q; subst q; exact hn ha
  · intro e he
    rcases List.mem_append.mp he with c | c
    · exact w.mem e c
    · simp at c; subst c; exact cl x y n s ht (w.mem _ hx)
  · intro e he
    rcases List.mem_append.mp he with c | c
    · obtain ⟨e0, h1, h2⟩ := w.rt e c
      exact ⟨e0, List.mem_append_left _ h1, h2⟩
    · simp at c; subst c
      obtain ⟨e0, h1, h2⟩ := w.rt _ hx
      exact ⟨e0, List.mem_append_left _ h1, h2⟩
  · intro C c hc e he
    rcases List.mem_append.mp he with d | d
    · exact w.col C c hc e d
    · simp at d; subst d
      exact (hc x y n s ht).trans (w.col C c hc _ hx)
  · intro φ hφ e he
    rcases List.mem_append.mp he with d | d
    · exact w.pot φ hφ e d
    · simp at d; subst d
      have h1 := w.pot φ hφ _ hx
      have h2 := hφ x y n s ht
      have h3 := Int.dvd_sub (Int.dvd_add h1 h2) dm
      have e : φ r + t - φ x + (φ x + n - φ y) - (t + n - (t + n) % m) = φ r + (t + n) % m - φ y := by omega
      simp only [e] at h3
      exact h3
  · intro e he
    rcases List.mem_append.mp he with d | d
    · exact w.rng e d
    · simp at d; subst d; exact ⟨Int.emod_nonneg _ (by omega), Int.emod_lt_of_pos _ hm⟩
  · intro i hi hik y' n' s' ht'
    have hi2 : i < S.length := by omega
    rw [List.getElem_append_left hi2] at ht' ⊢
    obtain ⟨e, h1, h2⟩ := w.clo i hi2 hik y' n' s' ht'
    exact ⟨e, List.mem_append_left _ h1, h2⟩
  · intro e he i hi
    rcases List.mem_append.mp he with d | d
    · exact w.lst e d i hi
    · simp at d; subst d; exact ⟨j, ind i hi, h.w.jr⟩
  · intro i x' hi hx'
    have := h.w.ph i x' hi hx'
    rw [List.map_append]; exact List.mem_append_left _ this
  · rw [List.map_append]; exact List.mem_append_left _ h.w.hr
  · intro i hi hik
    by_cases c : i < S.length
    · rw [List.getElem_append_left c]; exact h.w.wt i c hik
    · have : i = S.length := by simp at hi; omega
      subst this
      simp
  · refine ⟨p, ?_⟩
    rw [List.getElem?_append_left hk, List.getElem?_eq_getElem hk, ek]
  · intro i y' n' s' hi q
    rcases Nat.lt_or_ge i l with c | c
    · obtain ⟨e, h1, h2⟩ := h.part i y' n' s' c q
      exact ⟨e, List.mem_append_left _ h1, h2⟩
    · have : i = l := by omega
      subst this
      rw [hl] at q; cases q
      exact ⟨_, List.mem_append_right _ (List.mem_singleton.mpr rfl), rfl, rfl, fun _ => dm⟩

/-- a place that is known is of the same piece -/
theorem WT.same {m : Int} {tie : N → List (Tie N P)} (sy : ∀ x y n s, (y, n, s) ∈ tie x → ∃ n' s', (x, n', s') ∈ tie y) {all : List N} {S : List (Ent N P)} {k : Nat} {mis : Bool} {j : Nat} {r x : N} {t : Int} {l : Nat} (h : WT m tie all S k mis j r x t l) {e : Ent N P} (he : e ∈ S) {n : Int} {s : P} (hl : (tie x)[l]? = some (e.x, n, s)) : e.r = r := by
  obtain ⟨p, hx, hk, ek⟩ := h.mem_at
  have w := h.w.w
  obtain ⟨i, hi, rfl⟩ := List.getElem_of_mem he
  rcases Nat.lt_or_ge i k with c | c
  · obtain ⟨n', s', q⟩ := sy _ _ _ _ (List.mem_of_getElem? hl)
    obtain ⟨f, f1, f2, f3, _⟩ := w.clo i hi c _ _ _ q
    have : f = ⟨x, r, t, p⟩ := nd_eq w.nd f1 hx f2
    rw [this] at f3; exact f3.symm
  · exact h.w.wt i hi c

theorem WT.old {m : Int} {tie : N → List (Tie N P)} (sy : ∀ x y n s, (y, n, s) ∈ tie x → ∃ n' s', (x, n', s') ∈ tie y) {all : List N} {S : List (Ent N P)} {k : Nat} {mis : Bool} {j : Nat} {r x : N} {t : Int} {l : Nat} (h : WT m tie all S k mis j r x t l) {e : Ent N P} (he : e ∈ S) {n : Int} {s : P} (hl : (tie x)[l]? = some (e.x, n, s)) {mis' : Bool} (h1 : mis' = true → mis = true ∧ m ∣ t + n - e.t) (h2 : mis = true → m ∣ t + n - e.t → mis' = true) : WT m tie all S k mis' j r x t (l + 1) := by
  obtain ⟨p, hx, hk, ek⟩ := h.mem_at
  have w := h.w.w
  have er := h.same sy he hl
  refine ⟨⟨⟨w.kl, w.nd, w.mem, w.rt, w.col, w.pot, w.rng, ?_, ?_, w.lst⟩, h.w.ph, h.w.jr, h.w.hr, h.w.wt⟩, h.at_, ?_⟩
  · intro i hi hik y' n' s' ht'
    obtain ⟨f, f1, f2, f3, f4⟩ := w.clo i hi hik y' n' s' ht'
    exact ⟨f, f1, f2, f3, fun q => f4 (h1 q).1⟩
  · rintro ⟨φ, hφ⟩
    refine h2 (w.mf ⟨φ, hφ⟩) ?_
    have a1 := w.pot φ hφ _ hx
    have a2 := w.pot φ hφ _ he
    have a3 := hφ _ _ _ _ (List.mem_of_getElem? hl)
    rw [er] at a2
    have a4 := Int.dvd_sub (Int.dvd_add a1 a3) a2
    have e' : φ r + t - φ x + (φ x + n - φ e.x) - (φ r + e.t - φ e.x) = t + n - e.t := by omega
    simp only [e'] at a4
    exact a4
  · intro i y' n' s' hi q
    rcases Nat.lt_or_ge i l with c | c
    · obtain ⟨f, f1, f2, f3, f4⟩ := h.part i y' n' s' c q
      exact ⟨f, f1, f2, f3, fun q => f4 (h1 q).1⟩
    · have : i = l := by omega
      subst this
      rw [hl] at q; cases q
      exact ⟨e, he, rfl, er, fun q => (h1 q).2⟩

theorem WT.done {m : Int} {tie : N → List (Tie N P)} {all : List N} {S : List (Ent N P)} {k : Nat} {mis : Bool} {j : Nat} {r x : N} {t : Int} {l : Nat} (h : WT m tie all S k mis j r x t l) (hl : (tie x).length ≤ l) : WW m tie all S (k + 1) mis j r := by
  obtain ⟨p, hx, hk, ek⟩ := h.mem_at
  have w := h.w.w
  refine ⟨⟨hk, w.nd, w.mem, w.rt, w.col, w.pot, w.rng, ?_, w.mf, w.lst⟩, h.w.ph, h.w.jr, h.w.hr, fun i hi hik => h.w.wt i hi (by omega)⟩
  intro i hi hik y' n' s' ht'
  rcases Nat.lt_or_ge i k with c | c
  · exact w.clo i hi c y' n' s' ht'
  · have : i = k := by omega
    subst this
    rw [ek] at ht' ⊢
    obtain ⟨l', hl', q⟩ := List.getElem_of_mem ht'
    have hl2 : l' < (tie x).length := hl'
    exact h.part l' y' n' s' (by omega) (by rw [List.getElem?_eq_getElem hl', q])

theorem WW.done {m : Int} {tie : N → List (Tie N P)} {all : List N} {S : List (Ent N P)} {mis : Bool} {j : Nat} {r : N} (h : WW m tie all S S.length mis j r) : WP m tie all S mis (j + 1) := by
  refine ⟨h.w, fun i x hi hx => ?_⟩
  rcases Nat.lt_or_ge i j with c | c
  · exact h.ph i x c hx
  · have : i = j := by omega
    subst this
    rw [h.jr] at hx; cases hx; exact h.hr
theorem WW.le {m : Int} {tie : N → List (Tie N P)} {all : List N} {S : List (Ent N P)} {k : Nat} {mis : Bool} {j : Nat} {r : N} (h : WW m tie all S k mis j r) : S.length ≤ all.length := by
  have : (S.map (·.x)).length ≤ all.length := nd_le h.w.nd fun x hx => by
    obtain ⟨e, he, rfl⟩ := List.mem_map.mp hx
    exact h.w.mem e he
  simpa using this

/-- a web that is grown whole: each node's root and turn -/
structure Grown (m : Int) (tie : N → List (Tie N P)) (all : List N) (root : N → N) (turn : N → Int) (mis : Bool) : Prop where
  mem : ∀ x ∈ all, root x ∈ all
  rt : ∀ x ∈ all, root (root x) = root x ∧ turn (root x) = 0
  col : ∀ (C : Type) (c : N → C), Resp tie c → ∀ x ∈ all, c x = c (root x)
  pot : ∀ φ, Pot m tie φ → ∀ x ∈ all, m ∣ φ (root x) + turn x - φ x
  rng : ∀ x ∈ all, 0 ≤ turn x ∧ turn x < m
  clo : ∀ x ∈ all, ∀ y n s, (y, n, s) ∈ tie x → root y = root x ∧ (mis = true → m ∣ turn x + n - turn y)
  mf : (∃ φ, Pot m tie φ) → mis = true
  lst : ∀ x ∈ all, ∀ i : Nat, all[i]? = some x → ∃ j : Nat, j ≤ i ∧ all[j]? = some (root x)
variable [DecidableEq N]
def look (S : List (Ent N P)) (x : N) : Option (Ent N P) := S.find? fun e => decide (e.x = x)
def rootOf (S : List (Ent N P)) (x : N) : N := match look S x with | some e => e.r | none => x
def turnOf (S : List (Ent N P)) (x : N) : Int := match look S x with | some e => e.t | none => 0
theorem look_mem {S : List (Ent N P)} (h : (S.map (·.x)).Nodup) {e : Ent N P} (he : e ∈ S) : look S e.x = some e := by
  unfold look
  cases q : S.find? fun f => decide (f.x = e.x) with
  | none =>
    have := List.find?_eq_none.mp q e he
    simp at this
  | some f =>
    have h1 := List.mem_of_find?_eq_some q
    have h2 : f.x = e.x := by simpa using List.find?_some q
    rw [nd_eq h h1 he h2]
theorem WP.grown {m : Int} {tie : N → List (Tie N P)} {all : List N} {S : List (Ent N P)} {mis : Bool} {j : Nat} (h : WP m tie all S mis j) (hj : all.length ≤ j) : Grown m tie all (rootOf S) (turnOf S) mis := by
  have w := h.w
  have ent : ∀ x ∈ all, ∃ e ∈ S, e.x = x := fun x hx => by
    obtain ⟨i, hi, rfl⟩ := List.getElem_of_mem hx
    obtain ⟨e, he, q⟩ := List.mem_map.mp (h.ph i all[i] (by omega) (List.getElem?_eq_getElem hi))
    exact ⟨e, he, q⟩
  have rr : ∀ e ∈ S, rootOf S e.x = e.r := fun e he => by unfold rootOf; rw [look_mem w.nd he]
  have tt : ∀ e ∈ S, turnOf S e.x = e.t := fun e he => by unfold turnOf; rw [look_mem w.nd he]
  refine ⟨?_, ?_, ?_, ?_, ?_, ?_, w.mf, ?_⟩
  · intro x hx
    obtain ⟨e, he, rfl⟩ := ent x hx
    obtain ⟨e0, h1, h2, _⟩ := w.rt e he
    rw [rr e he, ← h2]; exact w.mem e0 h1
  · intro x hx
    obtain ⟨e, he, rfl⟩ := ent x hx
    obtain ⟨e0, h1, h2, h3, h4⟩ := w.rt e he
    rw [rr e he, ← h2, rr e0 h1, tt e0 h1, h3, h2]
    exact ⟨rfl, h4⟩
  · intro C c hc x hx
    obtain ⟨e, he, rfl⟩ := ent x hx
    rw [rr e he]; exact w.col C c hc e he
  · intro φ hφ x hx
    obtain ⟨e, he, rfl⟩ := ent x hx
    rw [rr e he, tt e he]; exact w.pot φ hφ e he
  · intro x hx
    obtain ⟨e, he, rfl⟩ := ent x hx
    rw [tt e he]; exact w.rng e he
  · intro x hx y n s ht
    obtain ⟨e, he, rfl⟩ := ent x hx
    obtain ⟨i, hi, rfl⟩ := List.getElem_of_mem he
    obtain ⟨f, f1, rfl, f3, f4⟩ := w.clo i hi hi y n s ht
    rw [rr _ he, rr _ f1, tt _ he, tt _ f1]
    exact ⟨f3, f4⟩
  · intro x hx i hi
    obtain ⟨e, he, rfl⟩ := ent x hx
    rw [rr e he]; exact w.lst e he i hi
end WB

set_option Elab.async false
set_option linter.all false
set_option maxRecDepth 100000
set_option maxHeartbeats 1000000
/-! STm: the order of texts. -/
namespace HD
open PySem PySem.Spec PyProof.Rows L2 L2.DL
abbrev cpsL (x : Str) : List Nat := x.cps.toList
def leS (x y : Str) : Prop := cpsL x ≤ cpsL y
theorem ltCps_eq : ∀ a b : List Nat, ltCps a b = decide (a < b)
  | [], [] => by simp [ltCps]
  | [], b :: bs => by simp [ltCps]
  | a :: as, [] => by simp [ltCps]
  | a :: as, b :: bs => by
    have ih := ltCps_eq as bs
    rw [ltCps]
    simp only [ih, List.cons_lt_cons_iff]
    by_cases h1 : a < b
    · simp [h1]
    · by_cases h2 : a = b
      · simp [h2]
      · simp [h1, h2]
        try omega
theorem str_ext {x y : Str} (h : cpsL x = cpsL y) : x = y := by
  cases x; cases y
  simp only [cpsL] at h
  congr 1
  exact Array.toList_inj.mp h
theorem leS_refl (x : Str) : leS x x := List.le_refl _
theorem leS_anti {x y : Str} (h : leS x y) (k : leS y x) : x = y := str_ext (List.le_antisymm h k)
theorem leS_trans {x y z : Str} (h : leS x y) (k : leS y z) : leS x z := List.le_trans h k
theorem leS_total (x y : Str) : leS x y ∨ leS y x := List.le_total _ _
theorem leS_iff {x y : Str} : (!ltCps (cpsL y) (cpsL x)) = true ↔ leS x y := by
  rw [ltCps_eq]
  simp [leS, List.not_lt]
theorem rising_pw : ∀ {x : Str} {r : List Str}, risingS x r = true → (x :: r).Pairwise leS
  | x, [], _ => by simp
  | x, y :: r, h => by
    rw [risingS, Bool.and_eq_true] at h
    have ih := rising_pw h.2
    have h1 := leS_iff.mp h.1
    rw [List.pairwise_cons]
    refine ⟨fun z hz => ?_, ih⟩
    rcases List.mem_cons.mp hz with rfl | hz
    · exact h1
    · exact leS_trans h1 ((List.pairwise_cons.mp ih).1 z hz)
theorem sortedS_pw {xs : List Str} (h : sortedS xs = true) : xs.Pairwise leS := by
  cases xs with
  | nil => exact .nil
  | cons x r => exact rising_pw h
/-- the one ascending list -/
theorem sorted_unique : ∀ {xs ys : List Str}, xs.Pairwise leS → ys.Pairwise leS → xs.Nodup → ys.Nodup → (∀ x, x ∈ xs ↔ x ∈ ys) → xs = ys
  | [], [], _, _, _, _, _ => rfl
  | [], y :: ys, _, _, _, _, h => absurd ((h y).mpr List.mem_cons_self) (by simp)
  | x :: xs, [], _, _, _, _, h => absurd ((h x).mp List.mem_cons_self) (by simp)
  | x :: xs, y :: ys, h1, h2, n1, n2, h => by
    rw [List.pairwise_cons] at h1 h2
    rw [List.nodup_cons] at n1 n2
    have e : x = y := by
      rcases List.mem_cons.mp ((h x).mp List.mem_cons_self) with c | c
      · exact c
      · rcases List.mem_cons.mp ((h y).mpr List.mem_cons_self) with d | d
        · exact d.symm
        · exact leS_anti (h1.1 y d) (h2.1 x c)
    subst e
    congr 1
    refine sorted_unique h1.2 h2.2 n1.2 n2.2 fun z => ?_
    constructor
    · intro hz
      rcases List.mem_cons.mp ((h z).mp (List.mem_cons_of_mem _ hz)) with c | c
      · subst c; exact (n1.1 hz).elim
      · exact c
    · intro hz
      rcases List.mem_cons.mp ((h z).mpr (List.mem_cons_of_mem _ hz)) with c | c
      · subst c; exact (n2.1 hz).elim
      · exact c
/-- an earlier place is no greater -/
theorem pw_idx {xs : List Str} (h : xs.Pairwise leS) {i j : Nat} {x y : Str} (hi : xs[i]? = some x) (hj : xs[j]? = some y) (l : i ≤ j) : leS x y := by
  obtain ⟨a, rfl⟩ := List.getElem?_eq_some_iff.mp hi
  obtain ⟨b, rfl⟩ := List.getElem?_eq_some_iff.mp hj
  rcases Nat.lt_or_ge i j with c | c
  · exact List.pairwise_iff_getElem.mp h i j a b c
  · have : i = j := by omega
    subst this; exact leS_refl _
end HD

set_option Elab.async false
set_option linter.all false
set_option maxRecDepth 100000
set_option maxHeartbeats 1000000
namespace HD
open PySem PySem.Spec PyProof.Rows L2 L2.DL He LamX
/-- an event, a pair or a seen one -/
inductive EvG where
  | pair (a b : Str) (n : Int)
  | seen (a : Str) (n : Int)
def EvG.d : EvG → D
  | .pair a b n => .tup [.str "pair", .str a, .str b, .int n]
  | .seen a n => .tup [.str "seen", .str a, .int n]
def EvG.one : EvG → NK
  | .pair a _ _ => kS a
  | .seen _ _ => none
def EvG.other : EvG → NK
  | .pair _ b _ => kS b
  | .seen a _ => kS a
def EvG.turn : EvG → Int
  | .pair _ _ n => n
  | .seen _ n => n
def EvG.names : EvG → List Str
  | .pair a b _ => [a, b]
  | .seen a _ => [a]
structure Tl where
  nu : Int
  ap : Int
  ev : EvG
def tlD (t : Tl) : D := .tup [.int t.nu, .int t.ap, t.ev.d]
def sp_names_inG : DSp := fun ds G Q _ => ∃ e : EvG, ds = [e.d] ∧ Q (.tup (e.names.map .str)) G
theorem v_names_inG {Y : Wd} (ds G Q E) (h : sp_names_inG ds G Q E) : t_names_in Y (downX E) { nx := fun _ G' => down Q .non G', rt := down Q } (dstart N_names_in ds) G := by
  obtain ⟨e, rfl, h⟩ := h
  have e1 : decide (("pair" : Str) = ("seen" : Str)) = false := by decide +kernel
  have e2 : (("pair" : Str) == ("seen" : Str)) = false := by decide +kernel
  cases e with
  | pair a b n =>
    simp [t_names_in, dRet, dIf, dTest, dOp, dTup, dCons, dNil, dVar, dC, dstart, N_names_in, rGetS, rEqD1, atI, ixN, e1, e2, EvG.d]
    exact down.of h
  | seen a n =>
    simp [t_names_in, dRet, dIf, dTest, dOp, dTup, dCons, dNil, dVar, dC, dstart, N_names_in, rGetS, rEqD1, atI, ixN, e1, e2, EvG.d]
    exact down.of h
theorem insS_mem {l : List Str} {k x : Str} : x ∈ insS l k ↔ x = k ∨ x ∈ l := by
  unfold insS; split
  · rename_i h
    constructor
    · exact .inr
    · rintro (rfl | h2)
      · exact h
      · exact h2
  · exact List.mem_cons
theorem insS_nd {l : List Str} {k : Str} (h : l.Nodup) : (insS l k).Nodup := by
  unfold insS; split
  · exact h
  · rename_i c; exact List.nodup_cons.mpr ⟨c, h⟩
/-- the names, gathered -/
def gathN (xs : List Str) (l : List Str) : List Str := xs.foldl insS l
theorem gathN_mem : ∀ {xs l : List Str} {x : Str}, x ∈ gathN xs l ↔ x ∈ xs ∨ x ∈ l
  | [], l, x => by simp [gathN]
  | y :: ys, l, x => by
    have := gathN_mem (xs := ys) (l := insS l y) (x := x)
    unfold gathN at this ⊢
    rw [List.foldl_cons, this, insS_mem, List.mem_cons]
    constructor
    · rintro (h | h | h)
      · exact .inl (.inr h)
      · exact .inl (.inl h)
      · exact .inr h
    · rintro ((h | h) | h)
      · exact .inr (.inl h)
      · exact .inl h
      · exact .inr (.inr h)
theorem gathN_nd : ∀ {xs l : List Str}, l.Nodup → (gathN xs l).Nodup
  | [], _, h => h
  | y :: ys, l, h => gathN_nd (xs := ys) (insS_nd h)
theorem gathN_app (xs ys l : List Str) : gathN (xs ++ ys) l = gathN ys (gathN xs l) := List.foldl_append ..
def namesT (T : List Tl) : List Str := T.flatMap fun t => t.ev.names
def sp_names_of : DSp := fun ds G Q _ => ∃ a T, ds = [.ref a] ∧ G a = some (.lst (T.map tlD)) ∧ (∃ bd : List Str, bd.length ≤ 60 ∧ ∀ x ∈ namesT T, x ∈ bd) ∧
  ∀ ns r, ns.Nodup → sortedS ns = true → (∀ x, x ∈ ns ↔ x ∈ namesT T) → G r = none → Q (.ref r) (dup G r (.lst (ns.map .str)))
theorem v_names_of {Y : Wd} (ds G Q E) (h : sp_names_of ds G Q E) : t_names_of Y sp_names_inG (downX E) { nx := fun _ G' => down Q .non G', rt := down Q } (dstart N_names_of ds) G := by
  obtain ⟨a, T, rfl, ha, ⟨bd, hb, hs⟩, h⟩ := h
  have lim : ∀ l : List Str, (∀ x ∈ l, x ∈ namesT T) → (gathN l []).length ≤ 60 := fun l hl => Nat.le_trans (WB.nd_le (gathN_nd List.nodup_nil) fun x hx => by
    rw [gathN_mem] at hx
    rcases hx with hx | hx
    · exact hs x (hl x hx)
    · cases hx) hb
  simp [t_names_of, dRet, dCB, dCons, dNil, dC2, dSeqI, dVar, dstart, N_names_of, ha]
  intro r hr
  have n1 : a ≠ r := fun z => by rw [z, hr] at ha; cases ha
  refine ⟨fun i G' => G' = dup G r (.raw (SetSO Y r (gathN (namesT (T.take i)) []))), by simp [gathN, namesT], ?_, ?_, ?_⟩
  · rintro i G' rfl
    rw [dup_ne n1]; exact ha
  · intro i x G1 t q ex hg
    subst ex
    subst hg
    obtain ⟨hi, et⟩ := List.getElem?_eq_some_iff.mp q
    have etk : namesT (T.take (i + 1)) = namesT (T.take i) ++ t.ev.names := by
      unfold namesT
      rw [List.take_succ_eq_append_getElem hi, et, List.flatMap_append]; simp
    simp [tlD, dgTup, dgCons, dgNil, dgName, dwipe, dYes, dCall, dCons, dNil, dVar]
    refine ⟨t.ev, rfl, fun j G' => G' = dup G r (.raw (SetSO Y r (gathN (namesT (T.take i) ++ t.ev.names.take j) []))), by simp, ?_, ?_⟩
    · intro j y G1 hy hg
      subst hg
      rw [List.getElem?_map] at hy
      cases qj : t.ev.names[j]? with
      | none => rw [qj] at hy; cases hy
      | some x =>
        rw [qj] at hy
        cases hy
        obtain ⟨hj, ex⟩ := List.getElem?_eq_some_iff.mp qj
        simp [dgName, dmS, dVar]
        refine ⟨_, dup_same, ?_, ?_⟩
        · have : (gathN (namesT (T.take i) ++ t.ev.names.take j) []).length ≤ 60 := lim _ fun x hx => by
            rcases List.mem_append.mp hx with hx | hx
            · obtain ⟨t', ht, q'⟩ := List.mem_flatMap.mp hx
              exact List.mem_flatMap.mpr ⟨t', List.mem_of_mem_take ht, q'⟩
            · exact List.mem_flatMap.mpr ⟨t, by rw [← et]; exact List.getElem_mem _, List.mem_of_mem_take hx⟩
          omega
        · rw [dup_dup, List.take_succ_eq_append_getElem hj, ex, ← List.append_assoc, gathN_app _ [x]]
          rfl
    · rintro G1 rfl
      simp [etk]
  · rintro G1 rfl
    simp [DL.rSorted, orC]
    refine .inr (.inr ⟨_, dup_same, ?_, ?_⟩)
    · have := lim (namesT T) fun _ hx => hx
      omega
    · intro ys p hp hs2 hg
      obtain ⟨hpr, hg2⟩ := dup_none.mp hg
      refine ⟨_, ?_, h ys p (hp.nodup_iff.mpr (gathN_nd List.nodup_nil)) hs2 (fun x => ?_) hg2⟩
      · exact DLe.both (DLe.new hr)
      · rw [hp.mem_iff, gathN_mem]; simp
end HD

set_option Elab.async false
set_option linter.all false
set_option maxRecDepth 100000
set_option maxHeartbeats 1000000
namespace HD
open PySem PySem.Spec PyProof.Rows L2 L2.DL He LamX
/-- all that is tracked in G, but for ws, stays -/
def Fr (ws : List Addr) (G G' : DH) : Prop := ∀ a o, a ∉ ws → G a = some o → G' a = some o
abbrev TieN := WB.Tie NK D
def tieD (t : TieN) : D := .tup [t.1.d, .int t.2.1, t.2.2]
def tie1 (m : Int) (t : Tl) (x : NK) : List TieN :=
  (if t.ev.one = x then [(t.ev.other, t.ev.turn, .tup [.int t.nu, .int t.ap, .int 1])] else []) ++ (if t.ev.other = x then [(t.ev.one, m - t.ev.turn, .tup [.int t.nu, .int t.ap, .int (-1)])] else [])
def tiesOf (m : Int) (T : List Tl) (x : NK) : List TieN := T.flatMap fun t => tie1 m t x
theorem tiesOf_take (m : Int) (T : List Tl) (x : NK) {i : Nat} (hi : i < T.length) : tiesOf m (T.take (i + 1)) x = tiesOf m (T.take i) x ++ tie1 m T[i] x := by
  unfold tiesOf
  rw [List.take_succ_eq_append_getElem hi, List.flatMap_append]; simp
theorem tie1_len (m : Int) (t : Tl) (x : NK) : (tie1 m t x).length ≤ 2 := by
  unfold tie1; split <;> split <;> simp
theorem tiesOf_len (m : Int) (x : NK) : ∀ T : List Tl, (tiesOf m T x).length ≤ 2 * T.length
  | [] => by simp [tiesOf]
  | t :: T => by
    have := tiesOf_len m x T
    have h2 := tie1_len m t x
    unfold tiesOf at this ⊢
    rw [List.flatMap_cons, List.length_append, List.length_cons]; omega
def allN (ns : List Str) : List NK := none :: ns.map kS
theorem kS_inj {x y : Str} (h : kS x = kS y) : x = y := by injection h with h; injection h
theorem allN_nd {ns : List Str} (h : ns.Nodup) : (allN ns).Nodup := by
  unfold allN
  rw [List.nodup_cons]
  refine ⟨by simp, ?_⟩
  exact List.Pairwise.map _ (fun a b ne z => ne (kS_inj z)) h
instance : DecidableEq NK := fun a b => inferInstanceAs (Decidable (a = b))
theorem kget_mapN (f : NK → D) (y : NK) : ∀ {l : List NK}, y ∈ l → kget (l.map fun x => (x, f x)) y = some (f y)
  | x :: l, h => by
    rw [List.map_cons, kget]
    by_cases c : x = y
    · subst c; simp
    · simp only [c, if_false]
      exact kget_mapN f y (by rcases List.mem_cons.mp h with h | h; exact (c h.symm).elim; exact h)
theorem kget_mapN0 (f : NK → D) (y : NK) : ∀ {l : List NK}, y ∉ l → kget (l.map fun x => (x, f x)) y = none
  | [], _ => rfl
  | x :: l, h => by
    rw [List.map_cons, kget]
    have c : ¬ x = y := fun z => h (by rw [z]; exact List.mem_cons_self)
    simp only [c, if_false]
    exact kget_mapN0 f y fun z => h (List.mem_cons_of_mem _ z)
theorem one_mem {t : Tl} {ns : List Str} (h : ∀ x ∈ t.ev.names, x ∈ ns) : t.ev.one ∈ allN ns ∧ t.ev.other ∈ allN ns := by
  obtain ⟨nu, ap, ev⟩ := t
  cases ev with
  | pair a b n => exact ⟨List.mem_cons_of_mem _ (List.mem_map.mpr ⟨a, h a (by simp [EvG.names]), rfl⟩), List.mem_cons_of_mem _ (List.mem_map.mpr ⟨b, h b (by simp [EvG.names]), rfl⟩)⟩
  | seen a n => exact ⟨List.mem_cons_self, List.mem_cons_of_mem _ (List.mem_map.mpr ⟨a, h a (by simp [EvG.names]), rfl⟩)⟩
theorem nkd_key (k : NK) : k.d.key = some k := by
  match k with
  | none => rfl
  | some (.inl i) => rfl
  | some (.inr x) => rfl
def sp_Web_ties (K : PySem.W.Frag) : DSp := fun ds G Q _ => ∃ p parts tl nm ro tu pa mis ns T, ds = [.ref p] ∧ G p = some (webO K parts tl nm ro tu pa mis) ∧ G tl = some (.lst (T.map tlD)) ∧ G nm = some (.lst (ns.map .str)) ∧ ns.Nodup ∧ ns.length ≤ 60 ∧ T.length ≤ 2400 ∧ (∀ t ∈ T, ∀ x ∈ t.ev.names, x ∈ ns) ∧ (∀ t ∈ T, t.ev.one ≠ t.ev.other) ∧
  ∀ r (ad : NK → Addr) G', G r = none → (∀ x ∈ allN ns, G (ad x) = none ∧ ad x ≠ r ∧ G' (ad x) = some (.lst ((tiesOf parts T x).map tieD))) → (∀ x ∈ allN ns, ∀ y ∈ allN ns, ad x = ad y → x = y) → G' r = some (.dic ((allN ns).map fun x => (x, .ref (ad x)))) → DLe G G' → Q (.ref r) G'
theorem v_Web_ties {Y : Wd} (L : WebF Y.K) (ds G Q E) (h : sp_Web_ties Y.K ds G Q E) : t_Web_ties Y (downX E) { nx := fun _ G' => down Q .non G', rt := down Q } (dstart N_Web_ties ds) G := by
  obtain ⟨p, parts, tl, nm, ro, tu, pa, mis, ns, T, rfl, h1, h2, h3, hn, hl, hT, hm, hne, h⟩ := h
  have a1 := L.a "names" (by decide +kernel)
  have a2 := L.a "told" (by decide +kernel)
  have a3 := L.a "parts" (by decide +kernel)
  have e1 : (("names" : Str) == ("parts" : Str)) = false := by decide +kernel
  have e2 : (("names" : Str) == ("told" : Str)) = false := by decide +kernel
  have e3 : (("told" : Str) == ("parts" : Str)) = false := by decide +kernel
  have e4 : decide (("pair" : Str) = ("seen" : Str)) = false := by decide +kernel
  simp [t_Web_ties, dSeq, dAsg, dC1, dSeqI, dOp, dLst, dCons, dNil, dC, dFld, dVar, dstart, N_Web_ties]
  intro p1 hp1
  have n1 : nm ≠ p1 := fun z => by rw [z, hp1] at h3; cases h3
  have n2 : p ≠ p1 := fun z => by rw [z, hp1] at h1; cases h1
  simp [dup_ne n2, h1, webO, a1, List.lookup, e1, e2, DL.rAdd, dup_same, dup_ne n1, h3]
  refine ⟨by omega, ?_⟩
  intro p2 hp2 r hr
  generalize hG2 : dup (dup G p1 (.lst [.non])) p2 (.lst (.non :: ns.map .str)) = G2 at hr
  have d12 : DLe G G2 := by rw [← hG2]; exact (DLe.new hp1).trans (DLe.new hp2)
  have al : (D.non :: ns.map D.str) = (allN ns).map NK.d := by simp [allN, NK.d]
  have g2 : G2 p2 = some (.lst ((allN ns).map NK.d)) := by rw [← hG2, dup_same, al]
  have n2r : p2 ≠ r := fun z => by rw [z, hr] at g2; cases g2
  have hnd := allN_nd hn
  have hal : (allN ns).length ≤ 61 := by simp [allN]; omega
  have old : ∀ a, G2 a = none → G a = none := fun a q => by
    cases z : G a with
    | none => rfl
    | some o => rw [d12 a o z] at q; cases q
  refine ⟨fun i G' => ∃ ad : NK → Addr, (∀ x ∈ (allN ns).take i, G2 (ad x) = none ∧ ad x ≠ r ∧ G' (ad x) = some (.lst [])) ∧ (∀ x ∈ (allN ns).take i, ∀ y ∈ (allN ns).take i, ad x = ad y → x = y) ∧ G' r = some (.dic (((allN ns).take i).map fun x => (x, .ref (ad x)))) ∧ DLe G2 G', ⟨fun _ => 0, by simp, by simp, by simp [dup_same], DLe.new hr⟩, ?_, ?_, ?_⟩
  · rintro i G' ⟨ad, _, _, _, k⟩
    rw [al]; exact k _ _ g2
  · intro i x G1 q
    rintro ⟨ad, k1, k2, k3, k4⟩
    rw [al, List.getElem?_map] at q
    cases qi : (allN ns)[i]? with
    | none => rw [qi] at q; cases q
    | some z =>
      rw [qi] at q
      cases q
      obtain ⟨hi, ez⟩ := List.getElem?_eq_some_iff.mp qi
      have et : (allN ns).take (i + 1) = (allN ns).take i ++ [z] := by rw [List.take_succ_eq_append_getElem hi, ez]
      have nz : z ∉ (allN ns).take i := fun hm => by
        obtain ⟨j, hj, ej⟩ := List.getElem_of_mem hm
        rw [List.getElem_take] at ej
        have hj2 : j < i := by rw [List.length_take] at hj; omega
        have := (List.getElem_inj (h₀ := by omega) (h₁ := hi) hnd).mp (ej.trans ez.symm)
        omega
      simp [dgName, dwipe, dYes, dmD, dLst, dNil, dVar]
      intro b hb
      have nbr : r ≠ b := fun z => by rw [z, hb] at k3; cases k3
      simp only [nkd_key, withD, dup_ne nbr, k3]
      refine ⟨by simp; omega, fun x => if x = z then b else ad x, ?_, ?_, ?_, ?_⟩
      · intro x hx
        rw [et] at hx
        by_cases c : x = z
        · subst c
          have hb2 : G2 b = none := by
            cases zz : G2 b with
            | none => rfl
            | some o => rw [k4 b o zz] at hb; cases hb
          simp only [if_true]
          exact ⟨hb2, fun z => nbr z.symm, by rw [dup_ne (fun z => nbr z.symm), dup_same]⟩
        · have hx' : x ∈ (allN ns).take i := by
            rcases List.mem_append.mp hx with hx | hx
            · exact hx
            · exact (c (List.mem_singleton.mp hx)).elim
          obtain ⟨m1, m2, m3⟩ := k1 x hx'
          have nb : ad x ≠ b := fun z => by rw [z, hb] at m3; cases m3
          simp only [c, if_false]
          exact ⟨m1, m2, by rw [dup_ne m2, dup_ne nb]; exact m3⟩
      · intro x hx y hy
        rw [et] at hx hy
        have inn : ∀ u, u ∈ (allN ns).take i ++ [z] → u ≠ z → u ∈ (allN ns).take i := fun u hu c => by
          rcases List.mem_append.mp hu with hu | hu
          · exact hu
          · exact (c (List.mem_singleton.mp hu)).elim
        have nb : ∀ u, u ∈ (allN ns).take i → ad u ≠ b := fun u hu z => by
          have := (k1 u hu).2.2
          rw [z, hb] at this; cases this
        by_cases c : x = z
        · by_cases d : y = z
          · intro _; rw [c, d]
          · simp only [c, d, if_true, if_false]
            intro q; exact (nb y (inn y hy d) q.symm).elim
        · by_cases d : y = z
          · simp only [c, d, if_true, if_false]
            intro q; exact (nb x (inn x hx c) q).elim
          · simp only [c, d, if_false]
            exact k2 x (inn x hx c) y (inn y hy d)
      · rw [dup_same, kput_new (kget_mapN0 _ z nz), ← List.map_take, et, List.map_append]
        congr 2
        have : ∀ l : List NK, z ∉ l → l.map (fun x => (x, D.ref (ad x))) = l.map fun x => (x, D.ref (if x = z then b else ad x)) := fun l hl => List.map_congr_left fun x hx => by
          have c : ¬ x = z := fun q => hl (by rw [← q]; exact hx)
          simp only [c, if_false]
        rw [this _ nz]
        simp
      · exact (k4.trans (DLe.new hb)).up hr
  · rintro G1 ⟨ad, k1, k2, k3, k4⟩
    have eal : (D.non :: ns.map D.str).length = (allN ns).length := by rw [al, List.length_map]
    have eal2 : (allN ns).take (ns.length + 1) = allN ns := List.take_of_length_le (by simp [allN])
    rw [eal2] at k1 k2 k3
    have k4' := k4
    have hpG1 : G1 p = some (webO Y.K parts tl nm ro tu pa mis) := k4' _ _ (d12 _ _ h1)
    have htG1 : G1 tl = some (.lst (T.map tlD)) := k4' _ _ (d12 _ _ h2)
    simp [dgName, dSeq, dFor, dSeqI, dFld, dVar, hpG1, webO, a2, List.lookup, e3, htG1]
    refine ⟨fun i τ G' => (∃ o2 o3 o4 o5 o6 o7 o8, τ = [some (.ref p), some (.ref r), o2, o3, o4, o5, o6, o7, o8]) ∧ (∀ x ∈ allN ns, G' (ad x) = some (.lst ((tiesOf parts (T.take i) x).map tieD))) ∧ G' r = some (.dic ((allN ns).map fun x => (x, .ref (ad x)))) ∧ DLe G2 G', ⟨⟨_, _, _, _, _, _, _, rfl⟩, ?_, k3, k4'⟩, ?_, ?_, ?_⟩
    · intro x hx
      rw [(k1 x hx).2.2]; simp [tiesOf]
    · rintro i τ G' ⟨_, _, _, k⟩
      exact k _ _ (d12 _ _ h2)
    · intro i x τ G3 t q ex
      subst ex
      rintro ⟨⟨o2, o3, o4, o5, o6, o7, o8, rfl⟩, j1, j2, j3⟩
      obtain ⟨hi, et⟩ := List.getElem?_eq_some_iff.mp q
      have htm : t ∈ T := by rw [← et]; exact List.getElem_mem hi
      obtain ⟨m1, m2⟩ := one_mem (hm t htm)
      have hpG : G3 p = some (webO Y.K parts tl nm ro tu pa mis) := j3 _ _ (d12 _ _ h1)
      have c1 := kget_mapN (fun x => .ref (ad x)) _ m1
      have c2 := kget_mapN (fun x => .ref (ad x)) _ m2
      have b1 := j1 _ m1
      have r1 : r ≠ ad t.ev.one := fun z => (k1 _ m1).2.1 z.symm
      have r2 : p ≠ ad t.ev.one := fun z => by have := (k1 _ m1).1; rw [← z, d12 _ _ h1] at this; cases this
      have l1 : ∀ x, (tiesOf parts (T.take i) x).length ≤ 4800 := fun x => Nat.le_trans (tiesOf_len parts x _) (by rw [List.length_take]; omega)
      have ne := hne t htm
      have s1 : r ≠ ad t.ev.other := fun z => (k1 _ m2).2.1 z.symm
      have s2 : p ≠ ad t.ev.other := fun z => by have := (k1 _ m2).1; rw [← z, d12 _ _ h1] at this; cases this
      have b2 := j1 _ m2
      have nad : ad t.ev.other ≠ ad t.ev.one := fun z => ne (k2 _ m2 _ m1 z).symm
      have fin : ∀ G', G' = dup (dup G3 (ad t.ev.one) (.lst ((tiesOf parts (T.take i) t.ev.one).map tieD ++ [.tup [t.ev.other.d, .int t.ev.turn, .tup [.int t.nu, .int t.ap, .int 1]]]))) (ad t.ev.other) (.lst ((tiesOf parts (T.take i) t.ev.other).map tieD ++ [.tup [t.ev.one.d, .int (parts - t.ev.turn), .tup [.int t.nu, .int t.ap, .int (-1)]]])) →
          (∀ x ∈ allN ns, G' (ad x) = some (.lst ((tiesOf parts (T.take (i + 1)) x).map tieD))) ∧ G' r = some (.dic ((allN ns).map fun x => (x, .ref (ad x)))) ∧ DLe G2 G' := by
        rintro G' rfl
        refine ⟨fun x hx => ?_, by rw [dup_ne s1, dup_ne r1]; exact j2, (j3.up (k1 _ m1).1).up (k1 _ m2).1⟩
        rw [tiesOf_take parts T x hi, et, List.map_append]
        by_cases c1 : x = t.ev.other
        · subst c1
          rw [dup_same]
          simp [tie1, ne, tieD]
        · have c1' : ¬ t.ev.other = x := fun z => c1 z.symm
          rw [dup_ne fun z => c1 (k2 _ hx _ m2 z)]
          by_cases c2 : x = t.ev.one
          · subst c2
            rw [dup_same]
            simp [tie1, c1', tieD]
          · have c2' : ¬ t.ev.one = x := fun z => c2 z.symm
            rw [dup_ne fun z => c2 (k2 _ hx _ m1 z), j1 x hx]
            simp [tie1, c1', c2']
      obtain ⟨nu, ap, ev⟩ := t
      have l2 := l1
      cases ev with
      | pair a b n =>
        simp only [EvG.one, EvG.other] at c1 c2 b1 b2 r1 r2 s1 s2 nad
        simp [tlD, EvG.d, dgTup, dgCons, dgNil, dgName, dAsg, dSeq, dIf, dTest, dOp, dVar, dC, rGetS, atI, ixN, rEqD1, e4, dTup, dCons, dNil, dUn, rNegD, dDrop, dBM, rGetD, D.key, withD, j2, c1, c2, isTy, b1, rApp, withL, dup_ne r1, dup_ne r2, dup_ne nad, b2, dFld, hpG, webO, a3, List.lookup, rInt]
        refine ⟨by have := l1 (kS a); omega, by have := l1 (kS b); omega, ?_⟩
        exact fin _ rfl
      | seen a n =>
        simp only [EvG.one, EvG.other] at c1 c2 b1 b2 r1 r2 s1 s2 nad
        simp [tlD, EvG.d, dgTup, dgCons, dgNil, dgName, dAsg, dSeq, dIf, dTest, dOp, dVar, dC, rGetS, atI, ixN, rEqD1, e4, dTup, dCons, dNil, dUn, rNegD, dDrop, dBM, rGetD, D.key, withD, j2, c1, c2, isTy, b1, rApp, withL, dup_ne r1, dup_ne r2, dup_ne nad, b2, dFld, hpG, webO, a3, List.lookup, rInt]
        refine ⟨by have := l1 none; omega, by have := l1 (kS a); omega, ?_⟩
        exact fin _ rfl
    · rintro τ G3 ⟨⟨o2, o3, o4, o5, o6, o7, o8, rfl⟩, j1, j2, j3⟩
      simp [dRet, dVar]
      refine down.of (h r ad _ (old r hr) (fun x hx => ⟨old _ (k1 x hx).1, (k1 x hx).2.1, ?_⟩) k2 j2 (d12.trans j3))
      have := j1 x hx
      simpa using this
end HD

set_option Elab.async false
set_option linter.all false
set_option maxRecDepth 100000
set_option maxHeartbeats 1000000
namespace HD
open PySem PySem.Spec PyProof.Rows L2 L2.DL He LamX
abbrev EntN := WB.Ent NK D
def parD : Option (NK × D) → D
  | none => .non
  | some (x, s) => .tup [x.d, s]
theorem kget_ents (f : EntN → D) (y : NK) : ∀ S : List EntN, kget (S.map fun e => (e.x, f e)) y = (WB.look S y).map f
  | [] => rfl
  | e :: S => by
    have ih := kget_ents f y S
    unfold WB.look at ih ⊢
    rw [List.map_cons, kget, List.find?_cons]
    by_cases c : e.x = y
    · simp [c]
    · simp only [c, if_false, decide_false]
      exact ih
theorem look_some {S : List EntN} {y : NK} (h : y ∈ S.map (·.x)) : ∃ e ∈ S, e.x = y ∧ WB.look S y = some e := by
  unfold WB.look
  cases q : S.find? fun e => decide (e.x = y) with
  | none =>
    obtain ⟨e, he, rfl⟩ := List.mem_map.mp h
    have := List.find?_eq_none.mp q e he
    simp at this
  | some e => exact ⟨e, List.mem_of_find?_eq_some q, by simpa using List.find?_some q, rfl⟩
theorem look_none {S : List EntN} {y : NK} (h : y ∉ S.map (·.x)) : WB.look S y = none := by
  unfold WB.look
  rw [List.find?_eq_none]
  intro e he
  simp
  rintro rfl
  exact h (List.mem_map.mpr ⟨e, he, rfl⟩)
section
variable {parts : Int} {tl nm ro tu pa : Addr} {mis : D}
theorem lkw_names : List.lookup ("names" : Str) [("parts", D.int parts), ("told", D.ref tl), ("names", D.ref nm), ("roots", D.ref ro), ("turns", D.ref tu), ("parents", D.ref pa), ("misfit", mis)] = some (.ref nm) := by
  have : ∀ f ∈ (["parts", "told"] : List Str), (("names" : Str) == f) = false := by decide +kernel
  simp [List.lookup, this]
theorem lkw_told : List.lookup ("told" : Str) [("parts", D.int parts), ("told", D.ref tl), ("names", D.ref nm), ("roots", D.ref ro), ("turns", D.ref tu), ("parents", D.ref pa), ("misfit", mis)] = some (.ref tl) := by
  have : ∀ f ∈ (["parts"] : List Str), (("told" : Str) == f) = false := by decide +kernel
  simp [List.lookup, this]
theorem lkw_parts : List.lookup ("parts" : Str) [("parts", D.int parts), ("told", D.ref tl), ("names", D.ref nm), ("roots", D.ref ro), ("turns", D.ref tu), ("parents", D.ref pa), ("misfit", mis)] = some (.int parts) := by
  simp [List.lookup]
theorem lkw_roots : List.lookup ("roots" : Str) [("parts", D.int parts), ("told", D.ref tl), ("names", D.ref nm), ("roots", D.ref ro), ("turns", D.ref tu), ("parents", D.ref pa), ("misfit", mis)] = some (.ref ro) := by
  have : ∀ f ∈ (["parts", "told", "names"] : List Str), (("roots" : Str) == f) = false := by decide +kernel
  simp [List.lookup, this]
theorem lkw_turns : List.lookup ("turns" : Str) [("parts", D.int parts), ("told", D.ref tl), ("names", D.ref nm), ("roots", D.ref ro), ("turns", D.ref tu), ("parents", D.ref pa), ("misfit", mis)] = some (.ref tu) := by
  have : ∀ f ∈ (["parts", "told", "names", "roots"] : List Str), (("turns" : Str) == f) = false := by decide +kernel
  simp [List.lookup, this]
theorem lkw_parents : List.lookup ("parents" : Str) [("parts", D.int parts), ("told", D.ref tl), ("names", D.ref nm), ("roots", D.ref ro), ("turns", D.ref tu), ("parents", D.ref pa), ("misfit", mis)] = some (.ref pa) := by
  have : ∀ f ∈ (["parts", "told", "names", "roots", "turns"] : List Str), (("parents" : Str) == f) = false := by decide +kernel
  simp [List.lookup, this]
theorem lkw_misfit : List.lookup ("misfit" : Str) [("parts", D.int parts), ("told", D.ref tl), ("names", D.ref nm), ("roots", D.ref ro), ("turns", D.ref tu), ("parents", D.ref pa), ("misfit", mis)] = some mis := by
  have : ∀ f ∈ (["parts", "told", "names", "roots", "turns", "parents"] : List Str), (("misfit" : Str) == f) = false := by decide +kernel
  simp [List.lookup, this]
theorem lkw_ties : List.lookup ("ties" : Str) [("parts", D.int parts), ("told", D.ref tl), ("names", D.ref nm), ("roots", D.ref ro), ("turns", D.ref tu), ("parents", D.ref pa), ("misfit", mis)] = none := by
  have : ∀ f ∈ (["parts", "told", "names", "roots", "turns", "parents", "misfit"] : List Str), (("ties" : Str) == f) = false := by decide +kernel
  simp [List.lookup, this]
theorem putw_misfit {v : D} : putD "misfit" v [("parts", D.int parts), ("told", D.ref tl), ("names", D.ref nm), ("roots", D.ref ro), ("turns", D.ref tu), ("parents", D.ref pa), ("misfit", mis)] = ([("parts", D.int parts), ("told", D.ref tl), ("names", D.ref nm), ("roots", D.ref ro), ("turns", D.ref tu), ("parents", D.ref pa), ("misfit", v)] : List (Str × D)) := by
  have : ∀ f ∈ (["parts", "told", "names", "roots", "turns", "parents"] : List Str), ¬ (f = ("misfit" : Str)) := by decide +kernel
  simp at this
  simp [putD, this]
end
/-- the heap while a web grows: its three tables, its misfit -/
structure GH (K : PySem.W.Frag) (p : Addr) (parts : Int) (tl nm ro tu pa : Addr) (G G' : DH) (S : List EntN) (mis : D) : Prop where
  hp : G' p = some (webO K parts tl nm ro tu pa mis)
  hro : G' ro = some (.dic (S.map fun e => (e.x, e.r.d)))
  htu : G' tu = some (.dic (S.map fun e => (e.x, .int e.t)))
  hpa : G' pa = some (.dic (S.map fun e => (e.x, parD e.p)))
  fr : Fr [p, ro, tu, pa] G G'
section
variable {K : PySem.W.Frag} {p : Addr} {parts : Int} {tl nm ro tu pa : Addr} {G G' : DH} {S : List EntN} {mis : D}
theorem GH.put (h : GH K p parts tl nm ro tu pa G G' S mis) {w : Addr} (o : DO) (hw : G w = none) (h1 : w ≠ p) (h2 : w ≠ ro) (h3 : w ≠ tu) (h4 : w ≠ pa) : GH K p parts tl nm ro tu pa G (dup G' w o) S mis :=
  ⟨by rw [dup_ne (Ne.symm h1)]; exact h.hp, by rw [dup_ne (Ne.symm h2)]; exact h.hro, by rw [dup_ne (Ne.symm h3)]; exact h.htu, by rw [dup_ne (Ne.symm h4)]; exact h.hpa,
    fun a u n q => by rw [dup_ne fun z => by rw [z, hw] at q; cases q]; exact h.fr a u n q⟩
theorem GH.fresh (h : GH K p parts tl nm ro tu pa G G' S mis) {w : Addr} (hw : G' w = none) : G w = none ∧ w ≠ p ∧ w ≠ ro ∧ w ≠ tu ∧ w ≠ pa := by
  have a1 : w ≠ p := fun z => by rw [z, h.hp] at hw; cases hw
  have a2 : w ≠ ro := fun z => by rw [z, h.hro] at hw; cases hw
  have a3 : w ≠ tu := fun z => by rw [z, h.htu] at hw; cases hw
  have a4 : w ≠ pa := fun z => by rw [z, h.hpa] at hw; cases hw
  refine ⟨?_, a1, a2, a3, a4⟩
  cases z : G w with
  | none => rfl
  | some o => rw [h.fr w o (by simp [a1, a2, a3, a4]) z] at hw; cases hw
theorem GH.ent (h : GH K p parts tl nm ro tu pa G G' S mis) (d1 : p ≠ ro) (d2 : p ≠ tu) (d3 : p ≠ pa) (d4 : ro ≠ tu) (d5 : ro ≠ pa) (d6 : tu ≠ pa) (e : EntN) (hn : e.x ∉ S.map (·.x)) :
    GH K p parts tl nm ro tu pa G (dup (dup (dup G' ro (.dic (kput (S.map fun e => (e.x, e.r.d)) e.x e.r.d))) tu (.dic (kput (S.map fun e => (e.x, .int e.t)) e.x (.int e.t)))) pa (.dic (kput (S.map fun e => (e.x, parD e.p)) e.x (parD e.p)))) (S ++ [e]) mis := by
  have k : ∀ f : EntN → D, kget (S.map fun e => (e.x, f e)) e.x = none := fun f => by rw [kget_ents, look_none hn]; rfl
  rw [kput_new (k _), kput_new (k _), kput_new (k _)]
  refine ⟨?_, ?_, ?_, ?_, ?_⟩
  · rw [dup_ne d3, dup_ne d2, dup_ne d1]; exact h.hp
  · rw [dup_ne d5, dup_ne d4, dup_same, List.map_append]; rfl
  · rw [dup_ne d6, dup_same, List.map_append]; rfl
  · rw [dup_same, List.map_append]; rfl
  · intro a u n q
    simp at n
    rw [dup_ne n.2.2.2, dup_ne n.2.2.1, dup_ne n.2.1]
    exact h.fr a u (by simp [n]) q
theorem GH.setm (h : GH K p parts tl nm ro tu pa G G' S mis) (d1 : p ≠ ro) (d2 : p ≠ tu) (d3 : p ≠ pa) (mis' : D) : GH K p parts tl nm ro tu pa G (dup G' p (webO K parts tl nm ro tu pa mis')) S mis' :=
  ⟨dup_same, by rw [dup_ne (Ne.symm d1)]; exact h.hro, by rw [dup_ne (Ne.symm d2)]; exact h.htu, by rw [dup_ne (Ne.symm d3)]; exact h.hpa,
    fun a u n q => by
      simp at n
      rw [dup_ne n.1]; exact h.fr a u (by simp [n]) q⟩
end
theorem mem_ties {m : Int} {T : List Tl} {x y : NK} {n : Int} {s : D} (h : (y, n, s) ∈ tiesOf m T x) : ∃ t ∈ T, (t.ev.one = x ∧ t.ev.other = y ∧ n = t.ev.turn) ∨ (t.ev.other = x ∧ t.ev.one = y ∧ n = m - t.ev.turn) := by
  obtain ⟨t, ht, q⟩ := List.mem_flatMap.mp h
  refine ⟨t, ht, ?_⟩
  unfold tie1 at q
  rcases List.mem_append.mp q with q | q
  · split at q
    · rename_i c
      have := List.mem_singleton.mp q
      cases this
      exact .inl ⟨c, rfl, rfl⟩
    · cases q
  · split at q
    · rename_i c
      have := List.mem_singleton.mp q
      cases this
      exact .inr ⟨c, rfl, rfl⟩
    · cases q
theorem ties_mem {m : Int} {T : List Tl} {t : Tl} (ht : t ∈ T) : (∃ s, (t.ev.other, t.ev.turn, s) ∈ tiesOf m T t.ev.one) ∧ ∃ s, (t.ev.one, m - t.ev.turn, s) ∈ tiesOf m T t.ev.other := by
  refine ⟨⟨.tup [.int t.nu, .int t.ap, .int 1], List.mem_flatMap.mpr ⟨t, ht, ?_⟩⟩, ⟨.tup [.int t.nu, .int t.ap, .int (-1)], List.mem_flatMap.mpr ⟨t, ht, ?_⟩⟩⟩
  · unfold tie1
    exact List.mem_append_left _ (by simp)
  · unfold tie1
    exact List.mem_append_right _ (by simp)
theorem ties_sym {m : Int} {T : List Tl} {x y : NK} {n : Int} {s : D} (h : (y, n, s) ∈ tiesOf m T x) : ∃ n' s', (x, n', s') ∈ tiesOf m T y := by
  obtain ⟨t, ht, ⟨rfl, rfl, _⟩ | ⟨rfl, rfl, _⟩⟩ := mem_ties h
  · obtain ⟨s', q⟩ := (ties_mem (m := m) ht).2; exact ⟨_, s', q⟩
  · obtain ⟨s', q⟩ := (ties_mem (m := m) ht).1; exact ⟨_, s', q⟩
theorem ties_all {m : Int} {T : List Tl} {ns : List Str} (hm : ∀ t ∈ T, ∀ x ∈ t.ev.names, x ∈ ns) {x y : NK} {n : Int} {s : D} (h : (y, n, s) ∈ tiesOf m T x) : x ∈ allN ns ∧ y ∈ allN ns := by
  obtain ⟨t, ht, ⟨rfl, rfl, _⟩ | ⟨rfl, rfl, _⟩⟩ := mem_ties h
  · exact one_mem (hm t ht)
  · exact (one_mem (hm t ht)).symm
def sp_Web_grow (K : PySem.W.Frag) : DSp := fun ds G Q _ => ∃ p parts tl nm ro tu pa ns T, ds = [.ref p] ∧ G p = some (webO K parts tl nm ro tu pa .non) ∧ G tl = some (.lst (T.map tlD)) ∧ G nm = some (.lst (ns.map .str)) ∧ G ro = some (.dic []) ∧ G tu = some (.dic []) ∧ G pa = some (.dic []) ∧ ro ≠ tu ∧ ro ≠ pa ∧ tu ≠ pa ∧ 0 < parts ∧
  ns.Nodup ∧ ns.length ≤ 60 ∧ T.length ≤ 2400 ∧ (∀ t ∈ T, ∀ x ∈ t.ev.names, x ∈ ns) ∧ (∀ t ∈ T, t.ev.one ≠ t.ev.other) ∧
  ∀ G' S mis, GH K p parts tl nm ro tu pa G G' S mis → WB.WP parts (tiesOf parts T) (allN ns) S mis.isN (allN ns).length → Q .non G'
end HD

set_option Elab.async false
set_option linter.all false
set_option maxRecDepth 100000
set_option maxHeartbeats 1000000
namespace HD
open PySem PySem.Spec PyProof.Rows L2 L2.DL He LamX
/-- between two roots -/
def GI (K : PySem.W.Frag) (p : Addr) (parts : Int) (tl nm ro tu pa r : Addr) (ns : List Str) (T : List Tl) (G2 : DH) (j : Nat) (τ : DSt) (G' : DH) : Prop :=
  (∃ o2 o3 o4 o5 o6 o7, τ = [some (.ref p), some (.ref r), o2, o3, o4, o5, o6, o7]) ∧ ∃ S mis, GH K p parts tl nm ro tu pa G2 G' S mis ∧ WB.WP parts (tiesOf parts T) (allN ns) S mis.isN j
def waitL (S : List EntN) (k : Nat) : List D := (S.drop k).map fun e => e.x.d
theorem waitL_cons {S : List EntN} {k : Nat} (h : k < S.length) : waitL S k = S[k].x.d :: waitL S (k + 1) := by
  unfold waitL; rw [List.drop_eq_getElem_cons h]; rfl
theorem waitL_len (S : List EntN) (k : Nat) : (waitL S k).length = S.length - k := by unfold waitL; simp
theorem waitL_app {S : List EntN} {k : Nat} (h : k ≤ S.length) (e : EntN) : waitL (S ++ [e]) k = waitL S k ++ [e.x.d] := by
  unfold waitL; rw [List.drop_append_of_le_length h, List.map_append]; rfl
/-- while a piece grows -/
def GW (K : PySem.W.Frag) (p : Addr) (parts : Int) (tl nm ro tu pa r w : Addr) (ns : List Str) (T : List Tl) (G2 : DH) (j : Nat) (z : NK) (m : Nat) (τ : DSt) (G' : DH) : Prop :=
  (∃ o4 o5 o6 o7, τ = [some (.ref p), some (.ref r), some z.d, some (.ref w), o4, o5, o6, o7]) ∧ ∃ S mis k, m = (allN ns).length - k ∧ GH K p parts tl nm ro tu pa G2 G' S mis ∧ WB.WW parts (tiesOf parts T) (allN ns) S k mis.isN j z ∧ G' w = some (.lst (waitL S k))
/-- while the ties of a place are gone through -/
def GT (K : PySem.W.Frag) (p : Addr) (parts : Int) (tl nm ro tu pa r w : Addr) (ns : List Str) (T : List Tl) (G2 : DH) (j : Nat) (z : NK) (k : Nat) (x : NK) (t : Int) (l : Nat) (τ : DSt) (G' : DH) : Prop :=
  (∃ o5 o6 o7, τ = [some (.ref p), some (.ref r), some z.d, some (.ref w), some x.d, o5, o6, o7]) ∧ ∃ S mis, GH K p parts tl nm ro tu pa G2 G' S mis ∧ WB.WT parts (tiesOf parts T) (allN ns) S k mis.isN j z x t l ∧ G' w = some (.lst (waitL S (k + 1)))
theorem v_Web_grow {Y : Wd} (L : WebF Y.K) (ds G Q E) (h : sp_Web_grow Y.K ds G Q E) : t_Web_grow Y (sp_Web_ties Y.K) (downX E) { nx := fun _ G' => down Q .non G', rt := down Q } (dstart N_Web_grow ds) G := by
  obtain ⟨p, parts, tl, nm, ro, tu, pa, ns, T, rfl, h1, h2, h3, h4, h5, h6, d4, d5, d6, hm0, hn, hl, hT, hm, hne, h⟩ := h
  have a1 := L.a "names" (by decide +kernel)
  have a2 := L.a "roots" (by decide +kernel)
  have a3 := L.a "turns" (by decide +kernel)
  have a4 := L.a "parents" (by decide +kernel)
  have a5 := L.a "misfit" (by decide +kernel)
  have a6 := L.a "parts" (by decide +kernel)
  have d1 : p ≠ ro := fun z => by rw [z, h4] at h1; cases h1
  have d2 : p ≠ tu := fun z => by rw [z, h5] at h1; cases h1
  have d3 : p ≠ pa := fun z => by rw [z, h6] at h1; cases h1
  have hl1 := h1
  unfold webO at hl1
  simp [t_Web_grow, dSeq, dAsg, dMeth, dNil, dVar, dstart, N_Web_grow, hl1, lkw_ties]
  refine ⟨p, parts, tl, nm, ro, tu, pa, .non, ns, T, rfl, h1, h2, h3, hn, hl, hT, hm, hne, ?_⟩
  intro r ad G1 hr hA inj hG1 dle
  have hp1 : G1 p = some (webO Y.K parts tl nm ro tu pa .non) := dle _ _ h1
  have hl2 := hp1
  unfold webO at hl2
  have hnm1 : G1 nm = some (.lst (ns.map .str)) := dle _ _ h3
  simp [dgName, dFor, dSeqI, dOp, dLst, dCons, dNil, dC, dFld, dVar]
  intro q1 hq1
  have n1 : nm ≠ q1 := fun z => by rw [z, hq1] at hnm1; cases hnm1
  have n2 : p ≠ q1 := fun z => by rw [z, hq1] at hp1; cases hp1
  simp [dup_ne n2, hl2, a1, lkw_names, DL.rAdd, dup_same, dup_ne n1, hnm1]
  refine ⟨by omega, ?_⟩
  intro q2 hq2
  generalize hG2 : dup (dup G1 q1 (.lst [.non])) q2 (.lst (.non :: ns.map .str)) = G2
  have d12 : DLe G1 G2 := by rw [← hG2]; exact (DLe.new hq1).trans (DLe.new hq2)
  have al : (D.non :: ns.map D.str) = (allN ns).map NK.d := by simp [allN, NK.d]
  have g2 : G2 q2 = some (.lst (.non :: ns.map .str)) := by rw [← hG2, dup_same]
  have nq2 : G1 q2 = none := (dup_none.mp hq2).2
  have nq : q2 ∉ [p, ro, tu, pa] := by
    have e1 : q2 ≠ p := fun z => by rw [z, hp1] at nq2; cases nq2
    have e2 : q2 ≠ ro := fun z => by rw [z, dle _ _ h4] at nq2; cases nq2
    have e3 : q2 ≠ tu := fun z => by rw [z, dle _ _ h5] at nq2; cases nq2
    have e4 : q2 ≠ pa := fun z => by rw [z, dle _ _ h6] at nq2; cases nq2
    simp [e1, e2, e3, e4]
  have nin : ∀ a, G a = none → a ∉ [p, ro, tu, pa] := fun a ha => by
    have e1 : a ≠ p := fun z => by rw [z, h1] at ha; cases ha
    have e2 : a ≠ ro := fun z => by rw [z, h4] at ha; cases ha
    have e3 : a ≠ tu := fun z => by rw [z, h5] at ha; cases ha
    have e4 : a ≠ pa := fun z => by rw [z, h6] at ha; cases ha
    simp [e1, e2, e3, e4]
  have gr : ∀ G' S mis, GH Y.K p parts tl nm ro tu pa G2 G' S mis → G' r = some (.dic ((allN ns).map fun x => (x, .ref (ad x)))) := fun G' S mis gh => gh.fr _ _ (nin r hr) (d12 _ _ hG1)
  have ga : ∀ G' S mis, GH Y.K p parts tl nm ro tu pa G2 G' S mis → ∀ x ∈ allN ns, G' (ad x) = some (.lst ((tiesOf parts T x).map tieD)) := fun G' S mis gh x hx => gh.fr _ _ (nin _ (hA x hx).1) (d12 _ _ (hA x hx).2.2)
  have cls : ∀ x y n s, (y, n, s) ∈ tiesOf parts T x → x ∈ allN ns → y ∈ allN ns := fun x y n s q _ => (ties_all hm q).2
  refine ⟨GI Y.K p parts tl nm ro tu pa r ns T G2, ⟨⟨_, _, _, _, _, _, rfl⟩, [], .non, ⟨d12 _ _ hp1, d12 _ _ (dle _ _ h4), d12 _ _ (dle _ _ h5), d12 _ _ (dle _ _ h6), fun a o _ q => q⟩, WB.WP.zero _ _ _⟩, ?_, ?_, ?_⟩
  · rintro i τ G' ⟨_, S, mis, gh, _⟩
    exact gh.fr _ _ nq g2
  · intro i x τ G3 q
    rw [al, List.getElem?_map] at q
    cases qz : (allN ns)[i]? with
    | none => rw [qz] at q; cases q
    | some z =>
    rw [qz] at q
    cases q
    rintro ⟨⟨o2, o3, o4, o5, o6, o7, rfl⟩, S, mis, gh, wp⟩
    have hv := gh.hp
    unfold webO at hv
    simp [dSeq, dIfS, dTest, dOp, dVar, dFld, hv, a2, lkw_roots, rInB, gh.hro, nkd_key, kget_ents]
    by_cases c : z ∈ S.map (·.x)
    · obtain ⟨e, he, ex, lk⟩ := look_some c
      simp [lk, dCont]
      exact ⟨⟨_, _, _, _, _, _, rfl⟩, S, mis, gh, wp.skip qz c⟩
    · simp [look_none c, dNext, dSeq, dAsg, dTup, dCons, dC, dNil, dgTup, dgCons, dgNil, dgSub, dFld, dVar, hv, a2, lkw_roots, rPutD, nkd_key, withD, gh.hro, gh.htu, gh.hpa, dup_ne d1, dup_ne d2, dup_ne d3, dup_ne (Ne.symm d4), dup_ne (Ne.symm d5), dup_ne (Ne.symm d6), a3, a4, lkw_turns, lkw_parents]
      have gh4 := gh.ent d1 d2 d3 d4 d5 d6 ⟨z, z, 0, none⟩ c
      have ww := wp.start hm0 qz c
      have e0 : parD none = D.non := rfl
      simp only [e0] at gh4
      have lS := ww.le
      have hal : (allN ns).length ≤ 61 := by simp [allN]; omega
      refine ⟨by simp at lS; omega, ?_⟩
      generalize hG4 : dup (dup (dup G3 ro (.dic (kput (S.map fun e => (e.x, e.r.d)) z z.d))) tu (.dic (kput (S.map fun e => (e.x, .int e.t)) z (.int 0)))) pa (.dic (kput (S.map fun e => (e.x, parD e.p)) z .non)) = G4 at gh4 ⊢
      simp [dLst, dCons, dNil, dVar, dgName, dWhile]
      intro w hw
      obtain ⟨w0, w1, w2, w3, w4⟩ := gh4.fresh hw
      refine ⟨GW Y.K p parts tl nm ro tu pa r w ns T G2 i z, ⟨_, ⟨_, _, _, _, rfl⟩, S ++ [⟨z, z, 0, none⟩], mis, S.length, rfl, gh4.put _ w0 w1 w2 w3 w4, ww, by simp [dup_same, waitL]⟩, ?_⟩
      rintro m τ G5 ⟨⟨o4, o5, o6, o7, rfl⟩, S5, mis5, k, rfl, gh5, ww5, hw5⟩
      have kl := ww5.w.kl
      have lS5 := ww5.le
      simp [dTest, dOp, dCB, dCons, dNil, dVar, dC, DL.rLen, hw5, waitL_len, rInt]
      by_cases ck : k < S5.length
      · have cd : decide (0 < S5.length - k) = true := decide_eq_true (by omega)
        simp only [cd]
        have hw6 : G5 w = some (.lst (S5[k].x.d :: waitL S5 (k + 1))) := by rw [hw5, waitL_cons ck]
        have hxm : S5[k].x ∈ allN ns := ww5.w.mem _ (List.getElem_mem ck)
        have gh6 := gh5.put (.lst (waitL S5 (k + 1))) w0 w1 w2 w3 w4
        have wt := ww5.begin ck
        generalize hx : S5[k].x = x at *
        generalize ht : S5[k].t = t at *
        simp [dSeq, dAsg, dBM, dVar, isTy, hw6, dCons, dNil, dC, rPop1, withL, seqIndex?, dgName]
        generalize hG6 : dup G5 w (.lst (waitL S5 (k + 1))) = G6 at gh6 ⊢
        have hw7 : G6 w = some (.lst (waitL S5 (k + 1))) := by rw [← hG6, dup_same]
        simp [dFor, dSeqI, dOp, dVar, rGetD, nkd_key, withD, gr _ _ _ gh6, kget_mapN (fun x => .ref (ad x)) _ hxm, ga _ _ _ gh6 _ hxm]
        refine ⟨GT Y.K p parts tl nm ro tu pa r w ns T G2 i z k x t, ⟨⟨_, _, _, rfl⟩, S5, mis5, gh6, wt, hw7⟩, ?_, ?_, ?_⟩
        · rintro l τ G7 ⟨_, S7, mis7, gh7, _⟩
          exact ga _ _ _ gh7 _ hxm
        · intro l u τ G7 y n s q eu
          subst eu
          rintro ⟨⟨o5, o6, o7, rfl⟩, S7, mis7, gh7, wt7, hw7⟩
          have hv7 := gh7.hp
          unfold webO at hv7
          obtain ⟨pp, hx7, hk7, ek7⟩ := wt7.mem_at
          have lx : WB.look S7 x = some ⟨x, z, t, pp⟩ := WB.look_mem wt7.w.w.nd hx7
          have l7 := wt7.w.le
          simp [tieD, dgTup, dgCons, dgNil, dgName, dIfS, dTest, dOp, dVar, dFld, hv7, a2, lkw_roots, rInB, gh7.hro, nkd_key, kget_ents]
          by_cases c7 : y ∈ S7.map (·.x)
          · obtain ⟨e, he, rfl, lk⟩ := look_some c7
            simp [lk, dIfS, dAnd, dTest, dOp, dFld, dVar, hv7, a5, a3, a6, lkw_misfit, lkw_turns, lkw_parts, rIsN, dC]
            have sy : ∀ x y n s, (y, n, s) ∈ tiesOf parts T x → ∃ n' s', (x, n', s') ∈ tiesOf parts T y := fun _ _ _ _ q => ties_sym q
            cases cm : mis7.isN with
            | false =>
              simp [dNext]
              exact ⟨⟨_, _, _, rfl⟩, S7, mis7, gh7, wt7.old sy he q (fun z => by rw [cm] at z; cases z) (fun z _ => z), hw7⟩
            | true =>
              simp [rGetD, nkd_key, withD, gh7.htu, kget_ents, lx, lk, DL.rAdd, rInt, hv7, a3, a6, lkw_turns, lkw_parts, hm0, rNotOf, rEqD1]
              by_cases dv : parts ∣ t + n - e.t
              · have e0 : (t + n - e.t) % parts = 0 := Int.emod_eq_zero_of_dvd dv
                simp [e0, dNext]
                exact ⟨⟨_, _, _, rfl⟩, S7, mis7, gh7, wt7.old sy he q (fun z => ⟨z, dv⟩) (fun z _ => z), hw7⟩
              · have e0 : ¬ (t + n - e.t) % parts = 0 := fun z => dv (Int.dvd_of_emod_eq_zero z)
                simp [e0, dPutF, dTup, dCons, dNil, dVar, hv7, a5, putw_misfit]
                exact ⟨⟨_, _, _, rfl⟩, S7, _, gh7.setm d1 d2 d3 (.tup [x.d, e.x.d, s]), wt7.old sy he q (fun z => by cases z) (fun _ z => (dv z).elim), by rw [dup_ne w1]; exact hw7⟩
          · have gh8 := gh7.ent d1 d2 d3 d4 d5 d6 ⟨y, z, (t + n) % parts, some (x, s)⟩ c7
            simp [look_none c7, dSeq, dAsg, dgSub, dOp, dFld, dVar, hv7, a2, a3, a4, a6, lkw_roots, lkw_turns, lkw_parents, lkw_parts, rPutD, nkd_key, withD, gh7.hro, gh7.htu, gh7.hpa, dup_ne d1, dup_ne d2, dup_ne d3, dup_ne (Ne.symm d4), dup_ne (Ne.symm d5), dup_ne (Ne.symm d6), rGetD, kget_ents, lx, DL.rAdd, rInt, hm0, dTup, dCons, dNil]
            have e9 : parD (some (x, s)) = .tup [x.d, s] := rfl
            simp only [e9] at gh8
            have hal2 : (allN ns).length ≤ 61 := by simp [allN]; omega
            refine ⟨by omega, ?_⟩
            have hw8 : (dup (dup (dup G7 ro (.dic (kput (S7.map fun e => (e.x, e.r.d)) y z.d))) tu (.dic (kput (S7.map fun e => (e.x, .int e.t)) y (.int ((t + n) % parts))))) pa (.dic (kput (S7.map fun e => (e.x, parD e.p)) y (.tup [x.d, s])))) w = some (.lst (waitL S7 (k + 1))) := by rw [dup_ne w4, dup_ne w3, dup_ne w2]; exact hw7
            generalize hG8 : dup (dup (dup G7 ro (.dic (kput (S7.map fun e => (e.x, e.r.d)) y z.d))) tu (.dic (kput (S7.map fun e => (e.x, .int e.t)) y (.int ((t + n) % parts))))) pa (.dic (kput (S7.map fun e => (e.x, parD e.p)) y (.tup [x.d, s]))) = G8 at gh8 hw8 ⊢
            simp [dDrop, dBM, dVar, isTy, hw8, dCons, dNil, rApp, withL, waitL_len]
            exact ⟨by omega, ⟨_, _, _, rfl⟩, _, mis7, gh8.put _ w0 w1 w2 w3 w4, wt7.new hm0 q c7 cls, by rw [dup_same, waitL_app (by omega)]⟩
        · rintro τ G7 ⟨⟨o5, o6, o7, rfl⟩, S7, mis7, gh7, wt7, hw7⟩
          have wd := wt7.done (Nat.le_refl _)
          have := wd.le
          have := wd.w.kl
          exact ⟨(allN ns).length - (k + 1), by omega, ⟨_, _, _, _, rfl⟩, S7, mis7, k + 1, rfl, gh7, wd, hw7⟩
      · have cd : decide (0 < S5.length - k) = false := decide_eq_false (by omega)
        simp only [cd]
        have : k = S5.length := by omega
        subst this
        exact ⟨⟨_, _, _, _, _, _, rfl⟩, S5, mis5, gh5, ww5.done⟩
  · rintro τ G3 ⟨_, S, mis, gh, wp⟩
    refine down.of (h G3 S mis ⟨gh.hp, gh.hro, gh.htu, gh.hpa, fun a o n q => gh.fr _ _ n (d12 _ _ (dle _ _ q))⟩ ?_)
    have : (allN ns).length = ns.length + 1 := by simp [allN]
    rw [this]; exact wp
end HD

set_option Elab.async false
set_option linter.all false
set_option maxRecDepth 100000
set_option maxHeartbeats 1000000
namespace HD
open PySem PySem.Spec PyProof.Rows L2 L2.DL He LamX
/-- a web that stands: its tables, its names, what is known of its trees -/
def WebR (K : PySem.W.Frag) (G : DH) (p : Addr) (parts : Int) (T : List Tl) (ns : List Str) (S : List EntN) (mis : D) : Prop :=
  ∃ tl nm ro tu pa, G p = some (webO K parts tl nm ro tu pa mis) ∧ G tl = some (.lst (T.map tlD)) ∧ G nm = some (.lst (ns.map .str)) ∧ G ro = some (.dic (S.map fun e => (e.x, e.r.d))) ∧ G tu = some (.dic (S.map fun e => (e.x, .int e.t))) ∧ G pa = some (.dic (S.map fun e => (e.x, parD e.p))) ∧
    ns.Nodup ∧ sortedS ns = true ∧ (∀ x, x ∈ ns ↔ x ∈ namesT T) ∧ ns.length ≤ 60 ∧ WB.WP parts (tiesOf parts T) (allN ns) S mis.isN (allN ns).length
theorem WebR.le {K : PySem.W.Frag} {G G' : DH} {p : Addr} {parts : Int} {T : List Tl} {ns : List Str} {S : List EntN} {mis : D} (h : WebR K G p parts T ns S mis) (l : DLe G G') : WebR K G' p parts T ns S mis := by
  obtain ⟨tl, nm, ro, tu, pa, h1, h2, h3, h4, h5, h6, h7⟩ := h
  exact ⟨tl, nm, ro, tu, pa, l _ _ h1, l _ _ h2, l _ _ h3, l _ _ h4, l _ _ h5, l _ _ h6, h7⟩
/-- told events that a web takes -/
structure TOk (T : List Tl) : Prop where
  len : T.length ≤ 2400
  bd : ∃ bd : List Str, bd.length ≤ 60 ∧ ∀ x ∈ namesT T, x ∈ bd
  ne : ∀ t ∈ T, t.ev.one ≠ t.ev.other
def sp_Web_init (K : PySem.W.Frag) : DSp := fun ds G Q _ => ∃ p parts tl T, ds = [.ref p, .int parts, .ref tl] ∧ G p = some (.ins (ga K "Web") []) ∧ G tl = some (.lst (T.map tlD)) ∧ 0 < parts ∧ TOk T ∧
  ∀ G' ns S mis, WebR K G' p parts T ns S mis → Fr [p] G G' → Q .non G'
theorem v_Web_init {Y : Wd} (L : WebF Y.K) (ds G Q E) (h : sp_Web_init Y.K ds G Q E) : t_Web_init Y (sp_Web_grow Y.K) sp_names_of (downX E) { nx := fun _ G' => down Q .non G', rt := down Q } (dstart N_Web_init ds) G := by
  obtain ⟨p, parts, tl, T, rfl, hp, ht, hm0, ⟨hl, hb, hne⟩, h⟩ := h
  have a1 := L.a "names" (by decide +kernel)
  have a2 := L.a "roots" (by decide +kernel)
  have a3 := L.a "turns" (by decide +kernel)
  have a4 := L.a "parents" (by decide +kernel)
  have a5 := L.a "misfit" (by decide +kernel)
  have a6 := L.a "parts" (by decide +kernel)
  have a7 := L.a "told" (by decide +kernel)
  have npt : tl ≠ p := fun z => by rw [z, hp] at ht; cases ht
  have c1 : ∀ f ∈ (["told", "names", "roots", "turns", "parents", "misfit"] : List Str), ¬ (("parts" : Str) = f) := by decide +kernel
  have c2 : ∀ f ∈ (["names", "roots", "turns", "parents", "misfit"] : List Str), ¬ (("told" : Str) = f) := by decide +kernel
  have c3 : ∀ f ∈ (["roots", "turns", "parents", "misfit"] : List Str), ¬ (("names" : Str) = f) := by decide +kernel
  have c4 : ∀ f ∈ (["turns", "parents", "misfit"] : List Str), ¬ (("roots" : Str) = f) := by decide +kernel
  have c5 : ∀ f ∈ (["parents", "misfit"] : List Str), ¬ (("turns" : Str) = f) := by decide +kernel
  have c6 : ∀ f ∈ (["misfit"] : List Str), ¬ (("parents" : Str) = f) := by decide +kernel
  simp at c1 c2 c3 c4 c5 c6
  simp [t_Web_init, dSeq, dPutF, dVar, dstart, N_Web_init, hp, a6, a7, dup_same, dup_dup, putD, c1, dCall, dCons, dNil]
  refine ⟨tl, T, rfl, by rw [dup_ne npt]; exact ht, hb, ?_⟩
  intro ns nm hnd hso hmem hnm
  obtain ⟨nmp, hnm⟩ := dup_none.mp hnm
  have fr0 : Fr [p] G (dup G p (.ins (ga Y.K "Web") [("parts", .int parts), ("told", .ref tl)])) := fun a o n q => by rw [dup_ne (by simpa using n)]; exact q
  generalize hGA : dup (dup G p (.ins (ga Y.K "Web") [("parts", .int parts), ("told", .ref tl)])) nm (.lst (ns.map .str)) = GA
  have fa : Fr [p] G GA := fun a o n q => by rw [← hGA, dup_ne fun z => by rw [z, hnm] at q; cases q]; exact fr0 a o n q
  have pa' : GA p = some (.ins (ga Y.K "Web") [("parts", .int parts), ("told", .ref tl)]) := by rw [← hGA, dup_ne (Ne.symm nmp), dup_same]
  have na' : GA nm = some (.lst (ns.map .str)) := by rw [← hGA, dup_same]
  simp [pa', a1, putD, c1, c2, dDNew]
  intro ro hro
  obtain ⟨rop, hro⟩ := dup_none.mp hro
  have nr1 : nm ≠ ro := fun z => by rw [z, hro] at na'; cases na'
  simp [dup_same, dup_ne (Ne.symm rop), a2, putD, c1, c2, c3]
  intro tu htu
  obtain ⟨tup, htu⟩ := dup_none.mp htu
  obtain ⟨turo, htu⟩ := dup_none.mp htu
  obtain ⟨_, htu⟩ := dup_none.mp htu
  have nt1 : nm ≠ tu := fun z => by rw [z, htu] at na'; cases na'
  simp [dup_same, dup_ne (Ne.symm tup), a3, putD, c1, c2, c3, c4]
  intro pa hpa
  obtain ⟨pap, hpa⟩ := dup_none.mp hpa
  obtain ⟨patu, hpa⟩ := dup_none.mp hpa
  obtain ⟨_, hpa⟩ := dup_none.mp hpa
  obtain ⟨paro, hpa⟩ := dup_none.mp hpa
  obtain ⟨_, hpa⟩ := dup_none.mp hpa
  have np1 : nm ≠ pa := fun z => by rw [z, hpa] at na'; cases na'
  have lg : List.lookup ("grow" : Str) ([("parts", D.int parts), ("told", D.ref tl), ("names", D.ref nm), ("roots", D.ref ro), ("turns", D.ref tu), ("parents", D.ref pa), ("misfit", D.non)] : List (Str × D)) = none := by
    have : ∀ f ∈ (["parts", "told", "names", "roots", "turns", "parents", "misfit"] : List Str), (("grow" : Str) == f) = false := by decide +kernel
    simp [List.lookup, this]
  simp [dup_same, dup_ne (Ne.symm pap), a4, putD, c1, c2, c3, c4, c5, dC, a5, c6, dDrop, dMeth, dVar, dNil, lg]
  have tl1 : GA tl = some (.lst (T.map tlD)) := fa _ _ (by simpa using npt) ht
  have nl1 : tl ≠ ro := fun z => by rw [z, hro] at tl1; cases tl1
  have nl2 : tl ≠ tu := fun z => by rw [z, htu] at tl1; cases tl1
  have nl3 : tl ≠ pa := fun z => by rw [z, hpa] at tl1; cases tl1
  have np2 : nm ≠ p := nmp
  refine ⟨p, parts, tl, nm, ro, tu, pa, ns, T, rfl, dup_same, ?_, ?_, ?_, ?_, ?_, fun z => turo z.symm, fun z => paro z.symm, fun z => patu z.symm, hm0, hnd, ?_, hl, ?_, hne, ?_⟩
  · simp [dup_ne npt, dup_ne nl1, dup_ne nl2, dup_ne nl3, tl1]
  · simp [dup_ne nmp, dup_ne nr1, dup_ne nt1, dup_ne np1, na']
  · simp [dup_ne rop, dup_ne (Ne.symm turo), dup_ne (Ne.symm paro), dup_same]
  · simp [dup_ne tup, dup_ne (Ne.symm patu), dup_same]
  · simp [dup_ne pap, dup_same]
  · obtain ⟨bd, b1, b2⟩ := hb
    exact Nat.le_trans (WB.nd_le hnd fun x hx => b2 x ((hmem x).mp hx)) b1
  · intro t ht x hx
    exact (hmem x).mpr (List.mem_flatMap.mpr ⟨t, ht, hx⟩)
  · intro G' S mis gh wp
    have k : ∀ a o, a ≠ p → a ≠ ro → a ≠ tu → a ≠ pa → GA a = some o → G' a = some o := fun a o e1 e2 e3 e4 q => gh.fr a o (by simp [e1, e2, e3, e4]) (by simp [dup_ne e1, dup_ne e2, dup_ne e3, dup_ne e4, q])
    refine down.of (h G' ns S mis ⟨tl, nm, ro, tu, pa, gh.hp, k _ _ npt nl1 nl2 nl3 tl1, k _ _ nmp nr1 nt1 np1 na', gh.hro, gh.htu, gh.hpa, hnd, hso, hmem, ?_, wp⟩ ?_)
    · obtain ⟨bd, b1, b2⟩ := hb
      exact Nat.le_trans (WB.nd_le hnd fun x hx => b2 x ((hmem x).mp hx)) b1
    · intro a o n q
      have n' : a ≠ p := by simpa using n
      have q' := fa a o n q
      exact k a o n' (fun z => by rw [z, hro] at q'; cases q') (fun z => by rw [z, htu] at q'; cases q') (fun z => by rw [z, hpa] at q'; cases q') q'
/-- the told events of a log of pairs -/
def toldT (days : List (List Ev)) : List Tl := (days.mapIdx fun i d => d.mapIdx fun j e => (⟨(i : Nat), (j : Nat), .pair e.1 e.2.1 e.2.2⟩ : Tl)).flatten
theorem toldT_D (days : List (List Ev)) : (toldT days).map tlD = toldAll days := by
  unfold toldT toldAll
  rw [List.map_flatten]
  congr 1
  apply List.ext_getElem (by simp)
  intro i h1 h2
  simp only [List.getElem_map, List.getElem_mapIdx]
  unfold toldDay
  apply List.ext_getElem (by simp)
  intro j h3 h4
  simp [tlD, EvG.d, evv, evD]
theorem toldT_len {days : List (List Ev)} : (toldT days).length = (toldAll days).length := by rw [← toldT_D, List.length_map]
theorem toldT_mem {days : List (List Ev)} {t : Tl} : t ∈ toldT days → ∃ e ∈ days.flatten, t.ev = .pair e.1 e.2.1 e.2.2 := by
  intro h
  unfold toldT at h
  obtain ⟨l, hl, ht⟩ := List.mem_flatten.mp h
  obtain ⟨i, hi, rfl⟩ := List.mem_mapIdx.mp hl
  obtain ⟨j, hj, rfl⟩ := List.mem_mapIdx.mp ht
  exact ⟨days[i][j], List.mem_flatten.mpr ⟨_, List.getElem_mem hi, List.getElem_mem hj⟩, rfl⟩
theorem mem_toldT {days : List (List Ev)} {e : Ev} (h : e ∈ days.flatten) : ∃ t ∈ toldT days, t.ev = .pair e.1 e.2.1 e.2.2 := by
  obtain ⟨l, hl, he⟩ := List.mem_flatten.mp h
  obtain ⟨i, hi, rfl⟩ := List.getElem_of_mem hl
  obtain ⟨j, hj, rfl⟩ := List.getElem_of_mem he
  refine ⟨⟨(i : Nat), (j : Nat), .pair days[i][j].1 days[i][j].2.1 days[i][j].2.2⟩, List.mem_flatten.mpr ⟨_, List.mem_mapIdx.mpr ⟨i, hi, rfl⟩, List.mem_mapIdx.mpr ⟨j, hj, rfl⟩⟩, rfl⟩
theorem insN_mem {xs : List Str} {x y : Str} : y ∈ insN xs x ↔ y = x ∨ y ∈ xs := by
  unfold insN; split
  · rename_i h
    exact ⟨.inr, fun q => by rcases q with rfl | q; exact h; exact q⟩
  · simp [or_comm]
theorem fold_mem : ∀ {es : List Ev} {xs : List Str} {y : Str}, (y ∈ xs ∨ ∃ e ∈ es, y = e.1 ∨ y = e.2.1) → y ∈ es.foldl addE xs
  | [], xs, y, h => by
    rcases h with h | ⟨e, he, _⟩
    · exact h
    · cases he
  | e :: es, xs, y, h => by
    rw [List.foldl_cons]
    refine fold_mem ?_
    unfold addE
    rw [insN_mem, insN_mem]
    rcases h with h | ⟨f, hf, q⟩
    · exact .inl (.inr (.inr h))
    · rcases List.mem_cons.mp hf with rfl | hf
      · rcases q with q | q
        · exact .inl (.inr (.inl q))
        · exact .inl (.inl q)
      · exact .inr ⟨f, hf, q⟩
theorem toldT_ok {parts : Int} {days : List (List Ev)} (h : daysOk parts days) : TOk (toldT days) := by
  obtain ⟨k0, k1, k2, k3, k4⟩ := h
  refine ⟨?_, ⟨namesA days.flatten, k4, ?_⟩, ?_⟩
  · have := toldAll_len days k2 days.length (Nat.le_refl _)
    rw [List.take_length] at this
    rw [toldT_len]; omega
  · intro x hx
    obtain ⟨t, ht, q⟩ := List.mem_flatMap.mp hx
    obtain ⟨e, he, q2⟩ := toldT_mem ht
    rw [q2] at q
    unfold namesA
    refine fold_mem (.inr ⟨e, he, ?_⟩)
    simpa [EvG.names] using q
  · intro t ht
    obtain ⟨e, he, q2⟩ := toldT_mem ht
    obtain ⟨d, hd, he'⟩ := List.mem_flatten.mp he
    rw [q2]
    intro z
    exact (k3 d hd e he').2.2.1 (kS_inj z)
def sp_web_of (K : PySem.W.Frag) : DSp := fun ds G Q _ => ∃ lg parts days, ds = [.ref lg, .int 0, .int (days.length : Nat)] ∧ G lg = some (logO K parts days) ∧ daysOk parts days ∧ 0 < parts ∧
  ∀ r G' ns S mis, G r = none → WebR K G' r parts (toldT days) ns S mis → DLe G G' → Q (.ref r) G'
theorem v_web_of {Y : Wd} (L : WebF Y.K) (LL : LogF Y.K) (ds G Q E) (h : sp_web_of Y.K ds G Q E) : t_web_of Y (sp_Web_init Y.K) (sp_told_events Y.K) (downX E) { nx := fun _ G' => down Q .non G', rt := down Q } (dstart N_web_of ds) G := by
  obtain ⟨lg, parts, days, rfl, hl, hd, hm0, h⟩ := h
  simp [t_web_of, dRet, dMake, dCons, dNil, dFld, dVar, dstart, N_web_of, hl, logO, LL.p, List.lookup, dCall]
  refine ⟨lg, parts, days, rfl, hl, hd, fun tl htl p hp => ?_⟩
  obtain ⟨pt, hp⟩ := dup_none.mp hp
  refine ⟨p, parts, tl, toldT days, rfl, dup_same, by rw [dup_ne (Ne.symm pt), dup_same, toldT_D], hm0, toldT_ok hd, fun G' ns S mis w fr => ⟨rfl, ?_⟩⟩
  refine down.of (h p G' ns S mis hp w fun a o q => fr a o ?_ ?_)
  · simp; rintro rfl; rw [hp] at q; cases q
  · have e1 : a ≠ p := fun z => by rw [z, hp] at q; cases q
    have e2 : a ≠ tl := fun z => by rw [z, htl] at q; cases q
    rw [dup_ne e1, dup_ne e2]; exact q
end HD

set_option Elab.async false
set_option linter.all false
set_option maxRecDepth 100000
set_option maxHeartbeats 1000000
namespace HD
open PySem PySem.Spec PyProof.Rows L2 L2.DL He LamX
/-- a hand that draws: its cells, and four numbers -/
def HandA (G : DH) (h ca : Addr) : Prop := ∃ (cs : List Int) (pos left mix cnt : Int), G h = some (.lst [.ref ca, .int pos, .int left, .int mix, .int cnt]) ∧ G ca = some (.lst (cs.map .int)) ∧ (∀ c ∈ cs, 0 ≤ c) ∧ 0 ≤ pos ∧ 0 ≤ left
theorem pop_perm {α : Type} {l : List α} {i : Nat} (h : i < l.length) : (l[i] :: l.eraseIdx i).Perm l := by
  have e : l = l.take i ++ l[i] :: l.drop (i + 1) := by rw [← List.drop_eq_getElem_cons h, List.take_append_drop]
  rw [List.eraseIdx_eq_take_drop_succ]
  refine List.Perm.trans List.perm_middle.symm ?_
  rw [← e]
theorem HandA.ne {G : DH} {h ca : Addr} (k : HandA G h ca) : ca ≠ h := fun z => by
  obtain ⟨cs, pos, left, mix, cnt, h1, h2, _⟩ := k
  rw [z, h1] at h2
  injection h2 with h2; injection h2 with h2
  match cs, h2 with
  | [], h2 => cases h2
  | _ :: _, h2 => injection h2 with h2; cases h2
theorem HandA.upd {G : DH} {h ca : Addr} (k : HandA G h ca) {w : Addr} (o : DO) (h1 : w ≠ h) (h2 : w ≠ ca) : HandA (dup G w o) h ca := by
  obtain ⟨cs, pos, left, mix, cnt, a, b, c⟩ := k
  exact ⟨cs, pos, left, mix, cnt, by rw [dup_ne (Ne.symm h1)]; exact a, by rw [dup_ne (Ne.symm h2)]; exact b, c⟩
theorem HandA.fresh {G : DH} {h ca : Addr} (k : HandA G h ca) {w : Addr} (hw : G w = none) : w ≠ h ∧ w ≠ ca := by
  obtain ⟨cs, pos, left, mix, cnt, a, b, c⟩ := k
  exact ⟨fun z => (by rw [z, a] at hw; cases hw), fun z => (by rw [z, b] at hw; cases hw)⟩
theorem HandA.le {G G' : DH} {h ca : Addr} (k : HandA G h ca) (l : DLe G G') : HandA G' h ca := by
  obtain ⟨cs, pos, left, mix, cnt, h1, h2, h3⟩ := k
  exact ⟨cs, pos, left, mix, cnt, l _ _ h1, l _ _ h2, h3⟩
def sp__law_draw : DSp := fun ds G Q _ => ∃ (h ca : Addr) (many : Int), ds = [.ref h, .int many] ∧ HandA G h ca ∧ 0 < many ∧ many < 1073741824 ∧ ∀ d G', 0 ≤ d → d < many → HandA G' h ca → Fr [h] G G' → Q (.int d) G'
theorem fr_dup {G : DH} {h : Addr} (o : DO) : Fr [h] G (dup G h o) := fun a u n q => by rw [dup_ne (by simpa using n)]; exact q
theorem Fr.trans {ws : List Addr} {G G1 G2 : DH} (a : Fr ws G G1) (b : Fr ws G1 G2) : Fr ws G G2 := fun c o n h => b c o n (a c o n h)
def t_draw2 : DS := dSeq (dIfS (dTest (dOp rGtD (dOp rGetS (dVar 0) (dC (.int 2))) (dC (.int 0)))) (dSeq (dAsg (dOp rModD (dCB rToInt (dCons (dOp rGetS (dVar 0) (dC (.int 2))) dNil)) (dVar 1)) (dgName 3)) (dSeq (dAsg (dOp rDivD (dOp rGetS (dVar 0) (dC (.int 2))) (dVar 1)) (dgSub (dVar 0) (dC (.int 2)) rPutL)) (dRet (dVar 3)))) dNext) (dSeq (dAsg (dOp DL.rAdd (dOp rGetS (dVar 0) (dC (.int 4))) (dC (.int 1))) (dgSub (dVar 0) (dC (.int 4)) rPutL)) (dSeq (dAsg (dOp rModD (dCB rToInt (dCons (dOp rMulD (dCB rToInt (dCons (dOp DL.rAdd (dOp rGetS (dVar 0) (dC (.int 3))) (dOp rMulD (dC (.int 7919)) (dOp rGetS (dVar 0) (dC (.int 4))))) dNil)) (dC (.int 48271))) dNil)) (dC (.int 2147483647))) (dgName 4)) (dSeq (dAsg (dOp rModD (dCB rToInt (dCons (dOp rMulD (dVar 4) (dOp DL.rAdd (dOp rDivD (dVar 4) (dC (.int 1009))) (dC (.int 69621)))) dNil)) (dC (.int 2147483647))) (dgName 4)) (dSeq (dAsg (dOp rModD (dCB rToInt (dCons (dOp rMulD (dVar 4) (dOp DL.rAdd (dOp rDivD (dVar 4) (dC (.int 2003))) (dC (.int 40014)))) dNil)) (dC (.int 2147483563))) (dgName 4)) (dRet (dOp rModD (dCB rToInt (dCons (dOp rDivD (dVar 4) (dC (.int 16))) dNil)) (dVar 1)))))))
theorem v__law_draw {Y : Wd} (ds G Q E) (h : sp__law_draw ds G Q E) : t__law_draw Y (downX E) { nx := fun _ G' => down Q .non G', rt := down Q } (dstart N__law_draw ds) G := by
  obtain ⟨h, ca, many, rfl, hh, m0, m1, k⟩ := h
  have nch := hh.ne
  obtain ⟨cs, pos, left, mix, cnt, h1, h2, h3, h4, h5⟩ := hh
  -- the second part, whatever the hand is
  have fin : ∀ (G1 : DH) (pos left mix cnt : Int) (o2 : Option D), G1 h = some (.lst [.ref ca, .int pos, .int left, .int mix, .int cnt]) → G1 ca = some (.lst (cs.map .int)) → 0 ≤ pos → 0 ≤ left → Fr [h] G G1 →
      t_draw2 { nx := fun _ G' => down Q .non G', rt := down Q } [some (.ref h), some (.int many), o2, none, none] G1 := by
    intro G1 pos left mix cnt o2 g1 g2 p0 l0 fr
    by_cases c : 0 < left
    · simp [t_draw2, dSeq, dIfS, dTest, dOp, dVar, dC, rGetS, g1, atI, ixN, rInt, c, dAsg, dCB, dCons, dNil, rToInt, dgName, m0, CDiv, m1, dgSub, rPutL, withL, dRet]
      refine down.of (k _ _ (Int.emod_nonneg _ (by omega)) (Int.emod_lt_of_pos _ m0) ⟨cs, pos, left / many, mix, cnt, dup_same, by rw [dup_ne nch]; exact g2, h3, p0, Int.ediv_nonneg l0 (by omega)⟩ (fr.trans (fr_dup _)))
    · simp [t_draw2, dSeq, dIfS, dTest, dOp, dVar, dC, rGetS, g1, atI, ixN, rInt, c, dAsg, dCB, dCons, dNil, rToInt, dgName, m0, CDiv, m1, dgSub, rPutL, withL, dRet, dNext, DL.rAdd, CMul, dup_same]
      have b1 := Int.emod_nonneg ((mix + 7919 * (cnt + 1)) * 48271) (b := 2147483647) (by decide)
      have b2 := Int.emod_lt_of_pos ((mix + 7919 * (cnt + 1)) * 48271) (b := 2147483647) (by decide)
      generalize (mix + 7919 * (cnt + 1)) * 48271 % 2147483647 = A at *
      have b3 := Int.emod_nonneg (A * (A / 1009 + 69621)) (b := 2147483647) (by decide)
      have b4 := Int.emod_lt_of_pos (A * (A / 1009 + 69621)) (b := 2147483647) (by decide)
      generalize A * (A / 1009 + 69621) % 2147483647 = B at *
      refine ⟨.inl ⟨by omega, by omega⟩, .inl ⟨by omega, by omega⟩, ?_⟩
      exact down.of (k _ _ (Int.emod_nonneg _ (by omega)) (Int.emod_lt_of_pos _ m0) ⟨cs, pos, left, mix, cnt + 1, dup_same, by rw [dup_ne nch]; exact g2, h3, p0, l0⟩ (fr.trans (fr_dup _)))
  have st : t__law_draw Y (downX E) = dSeq (dIfS (dAnd (dTest (dOp rEqD1 (dOp rGetS (dVar 0) (dC (.int 2))) (dC (.int 0)))) (dTest (dOp rLtD (dOp rGetS (dVar 0) (dC (.int 1))) (dCB DL.rLen (dCons (dOp rGetS (dVar 0) (dC (.int 0))) dNil))))) (dSeq (dAsg (dOp rGetS (dOp rGetS (dVar 0) (dC (.int 0))) (dOp rGetS (dVar 0) (dC (.int 1)))) (dgName 2)) (dSeq (dAsg (dOp DL.rAdd (dOp rGetS (dVar 0) (dC (.int 1))) (dC (.int 1))) (dgSub (dVar 0) (dC (.int 1)) rPutL)) (dSeq (dAsg (dOp rModD (dCB rToInt (dCons (dOp DL.rAdd (dOp DL.rAdd (dOp rMulD (dOp rGetS (dVar 0) (dC (.int 3))) (dC (.int 69621))) (dOp rMulD (dVar 2) (dC (.int 40692)))) (dC (.int 73))) dNil)) (dC (.int 2147483629))) (dgSub (dVar 0) (dC (.int 3)) rPutL)) (dIfS (dTest (dOp rGeD (dVar 2) (dOp rPowD (dC (.int 10)) (dC (.int 18))))) (dAsg (dVar 2) (dgSub (dVar 0) (dC (.int 2)) rPutL)) dNext)))) dNext) t_draw2 := rfl
  rw [st]
  by_cases c : left = 0 ∧ pos < (cs.length : Int)
  · obtain ⟨c1, c2⟩ := c
    have hpos : pos.toNat < cs.length := by omega
    have hix : ixN cs.length pos = some pos.toNat := by
      unfold ixN; simp [h4, c2]
    have hat : cs[pos.toNat]? = some cs[pos.toNat] := List.getElem?_eq_getElem hpos
    have hc0 : 0 ≤ cs[pos.toNat] := h3 _ (List.getElem_mem hpos)
    subst c1
    simp [dSeq, dAsg, dgName, dgSub, rPutL, withL, dIfS, dAnd, dTest, dOp, dVar, dC, dstart, N__law_draw, rGetS, h1, atI, rEqD1, rInt, dCB, dCons, dNil, DL.rLen, h2, c2, hat, h4, ixN, DL.rAdd, CMul, CPow, rToInt, dup_same, dup_ne nch, dup_dup]
    generalize cs[pos.toNat] = cell at hc0 ⊢
    by_cases c3 : (1000000000000000000 : Int) ≤ cell
    · simp [c3]
      exact fin _ (pos + 1) cell _ cnt _ dup_same (by rw [dup_ne nch]; exact h2) (by omega) hc0 (fr_dup _)
    · simp [c3, dNext]
      exact fin _ (pos + 1) 0 _ cnt _ dup_same (by rw [dup_ne nch]; exact h2) (by omega) (by omega) (fr_dup _)
  · have c' : ¬ (left = 0 ∧ pos < (cs.length : Int)) := c
    by_cases c1 : left = 0
    · have c2 : ¬ pos < (cs.length : Int) := fun z => c ⟨c1, z⟩
      simp [dSeq, dIfS, dAnd, dTest, dOp, dVar, dC, dstart, N__law_draw, rGetS, h1, atI, ixN, rEqD1, rInt, dCB, dCons, dNil, DL.rLen, h2, c1, c2, dNext]
      exact fin G pos left mix cnt _ h1 h2 h4 h5 (fun _ _ _ q => q)
    · simp [dSeq, dIfS, dAnd, dTest, dOp, dVar, dC, dstart, N__law_draw, rGetS, h1, atI, ixN, rEqD1, rInt, dCB, dCons, dNil, DL.rLen, h2, c1, dNext]
      exact fin G pos left mix cnt _ h1 h2 h4 h5 (fun _ _ _ q => q)
def sp__law_hand (K : PySem.W.Frag) : DSp := fun ds G Q _ => ∃ (a : Addr) (ns : List Int), ds = [.ref a] ∧ ScrG K G a (ns.map V.int) ∧ ∀ h ca G', G h = none → G ca = none → HandA G' h ca → DLe G G' → Q (.ref h) G'
theorem cutD_map {α β : Type} (f : α → β) (xs : List α) (lo hi : Option Int) : DL.cutD (xs.map f) lo hi = (DL.cutD xs lo hi).map f := by
  unfold DL.cutD; simp
theorem v__law_hand {Y : Wd} (ds G Q E) (h : sp__law_hand Y.K ds G Q E) : t__law_hand Y (downX E) { nx := fun _ G' => down Q .non G', rt := down Q } (dstart N__law_hand ds) G := by
  obtain ⟨a, ns, rfl, sc, h⟩ := h
  simp [t__law_hand, dSeq, dAsg, dC1, dSeqI, dSlice, dVar, dONone, dOSome, dC, dstart, N__law_hand]
  refine ⟨a, ns, rfl, sc, fun p hp => ?_⟩
  rw [cutD_map]
  generalize hxs : DL.cutD ns none (some 63) = xs
  simp [dup_same]
  intro r hr
  obtain ⟨rp, hr⟩ := dup_none.mp hr
  have hlx : xs.length ≤ 63 := by
    rw [← hxs]; unfold DL.cutD; simp [HT.sIx]; omega
  refine ⟨fun i G' => G' = dup (dup G p (.lst (xs.map .int))) r (.lst (((xs.take i).map fun c => if c < 0 then -c else c).map .int)), by simp, ?_, ?_, ?_⟩
  · rintro i G' rfl
    rw [dup_ne (Ne.symm rp), dup_same]
  · intro i x G1 c qc ex hg
    subst ex
    subst hg
    obtain ⟨hi, ec⟩ := List.getElem?_eq_some_iff.mp qc
    simp [dgName, dwipe, dYes, dmL, dCB, dCons, dNil, dVar, rToInt, rAbs, withL, dup_same, dup_dup]
    refine ⟨by omega, ?_⟩
    rw [List.take_succ_eq_append_getElem (by simpa using hi)]; simp [ec]
  · rintro G1 rfl
    simp [dgName, dRet, dLst, dCons, dNil, dVar, dC, dOp, DL.rAdd, rInt, CMul, dCB, DL.rLen, dup_same]
    intro q hq
    obtain ⟨qr, hq⟩ := dup_none.mp hq
    obtain ⟨qp, hq⟩ := dup_none.mp hq
    refine down.of (h q r _ hq hr ⟨xs.map fun c => if c < 0 then -c else c, 0, 0, _, 0, dup_same, by rw [dup_ne (Ne.symm qr), dup_same]; simp, ?_, by omega, by omega⟩ ((((DLe.refl G).up hp).up hr).up hq))
    intro c hc
    obtain ⟨d, _, rfl⟩ := List.mem_map.mp hc
    split <;> omega
def sp__law_any : DSp := fun ds G Q _ => ∃ (h ca s : Addr) (xs : List D), ds = [.ref h, .ref s] ∧ HandA G h ca ∧ G s = some (.lst xs) ∧ s ≠ h ∧ 0 < xs.length ∧ xs.length < 1000 ∧ ∀ i (hi : i < xs.length) G', HandA G' h ca → Fr [h] G G' → Q xs[i] G'
theorem v__law_any {Y : Wd} (ds G Q E) (k : sp__law_any ds G Q E) : t__law_any Y sp__law_draw (downX E) { nx := fun _ G' => down Q .non G', rt := down Q } (dstart N__law_any ds) G := by
  obtain ⟨h, ca, s, xs, rfl, hh, hs, ne, l0, l1, k⟩ := k
  simp [t__law_any, dRet, dOp, dCall, dCB, dCons, dNil, dVar, dstart, N__law_any, DL.rLen, hs]
  refine ⟨h, ca, (xs.length : Nat), rfl, hh, by omega, by omega, fun d G' d0 d1 hh' fr => ?_⟩
  have hs' := fr s _ (by simpa using ne) hs
  have hd : d.toNat < xs.length := by omega
  simp [rGetS, hs', atI, ixN, d0, d1, List.getElem?_eq_getElem hd]
  exact down.of (k d.toNat hd G' hh' fr)
def sp__law_mixed : DSp := fun ds G Q _ => ∃ (h ca s : Addr) (xs : List D), ds = [.ref h, .ref s] ∧ HandA G h ca ∧ G s = some (.lst xs) ∧ s ≠ h ∧ xs.length < 1000 ∧ ∀ r ys G', ys.Perm xs → G r = none → G' r = some (.lst ys) → HandA G' h ca → Fr [h] G G' → Q (.ref r) G'
theorem v__law_mixed {Y : Wd} (ds G Q E) (k : sp__law_mixed ds G Q E) : t__law_mixed Y sp__law_draw (downX E) { nx := fun _ G' => down Q .non G', rt := down Q } (dstart N__law_mixed ds) G := by
  obtain ⟨h, ca, s, xs, rfl, hh, hs, ne, l1, k⟩ := k
  simp [t__law_mixed, dSeq, dPar, dCB, dCons, dNil, dVar, dLst, dstart, N__law_mixed, rList, seqOf, hs]
  intro p hp r hr
  obtain ⟨rp, hr⟩ := dup_none.mp hr
  obtain ⟨np1, np2⟩ := hh.fresh hp
  obtain ⟨nr1, nr2⟩ := hh.fresh hr
  simp only [dWhile]
  refine ⟨fun m τ G' => τ = [some (.ref h), some (.ref s), some (.ref p), some (.ref r)] ∧ ∃ pool ys, m = pool.length ∧ G' p = some (.lst pool) ∧ G' r = some (.lst ys) ∧ (ys ++ pool).Perm xs ∧ HandA G' h ca ∧ Fr [h] G G', ⟨xs.length, rfl, xs, [], rfl, by rw [dup_ne (Ne.symm rp), dup_same], dup_same, by simp, (hh.le (DLe.new hp)).le (DLe.new (dup_none.mpr ⟨rp, hr⟩)), fun a o _ q => ((DLe.refl G).up hp).up hr a o q⟩, ?_⟩
  rintro m τ G1 ⟨rfl, pool, ys, rfl, g1, g2, pm, hh1, fr1⟩
  have pl := pm.length_eq
  rw [List.length_append] at pl
  simp [dTest, dOp, dCB, dCons, dNil, dVar, dC, DL.rLen, g1, rInt]
  by_cases c : 0 < pool.length
  · simp [c, dDrop, dBM, dVar, isTy, g2, dCons, dNil, g1, dCall, dCB, DL.rLen]
    refine ⟨h, ca, (pool.length : Nat), rfl, hh1, by omega, by omega, fun d G2 d0 d1 hh2 fr2 => ?_⟩
    have hd : d.toNat < pool.length := by omega
    have g1' := fr2 p _ (by simpa using np1) g1
    have g2' := fr2 r _ (by simpa using nr1) g2
    have sx : seqIndex? d pool.length = some d.toNat := by
      unfold seqIndex?; simp [d0]; omega
    simp [rPop1, withL, g1', sx, List.getElem?_eq_getElem hd, rApp, dup_ne rp, g2']
    refine ⟨⟨by omega, by omega⟩, by omega, _, ?_, _, rfl, by rw [dup_ne (Ne.symm rp), dup_same], _, dup_same, ?_, (hh2.upd _ np1 np2).upd _ nr1 nr2, ?_⟩
    · rw [List.length_eraseIdx]; simp [hd]; omega
    · refine List.Perm.trans ?_ pm
      rw [List.append_assoc]
      exact List.Perm.append_left ys (pop_perm hd)
    · intro a o n q
      have e1 : a ≠ p := fun z => by rw [z, hp] at q; cases q
      have e2 : a ≠ r := fun z => by rw [z, hr] at q; cases q
      rw [dup_ne e2, dup_ne e1]
      exact fr2 a o n (fr1 a o n q)
  · have : pool = [] := by cases pool with | nil => rfl | cons _ _ => simp at c
    subst this
    simp [dRet, dVar]
    exact down.of (k r ys G1 (by simpa using pm) hr g2 hh1 fr1)
end HD

set_option Elab.async false
set_option linter.all false
set_option maxRecDepth 100000
set_option maxHeartbeats 1000000
namespace HD
open PySem PySem.Spec PyProof.Rows L2 L2.DL
section
variable {α β : Type}
/-- all choices, one of each row -/
def prodG : List (List α) → List (List α)
  | [] => [[]]
  | r :: rs => r.flatMap fun x => (prodG rs).map (x :: ·)
def stepP (ts : List (List α)) (row : List α) : List (List α) := ts.flatMap fun t => row.map fun x => t ++ [x]
theorem stepP_prod : ∀ (rows : List (List α)) (ts : List (List α)), rows.foldl stepP ts = ts.flatMap fun t => (prodG rows).map (t ++ ·)
  | [], ts => by simp [prodG]
  | r :: rs, ts => by
    rw [List.foldl_cons, stepP_prod rs]
    unfold stepP
    rw [List.flatMap_assoc]
    congr 1
    funext t
    rw [prodG, List.map_flatMap, List.flatMap_map]
    congr 1
    funext x
    rw [List.map_map]
    congr 1
    funext u
    simp
theorem foldP (rows : List (List α)) : rows.foldl stepP [[]] = prodG rows := by rw [stepP_prod]; simp
theorem fm_app (f g : α → List β) : ∀ ys : List α, (ys.flatMap f ++ ys.flatMap g).Perm (ys.flatMap fun y => f y ++ g y)
  | [] => by simp
  | y :: ys => by
    simp only [List.flatMap_cons]
    have ih := fm_app f g ys
    have e1 : (f y ++ ys.flatMap f ++ (g y ++ ys.flatMap g)).Perm (f y ++ (g y ++ (ys.flatMap f ++ ys.flatMap g))) := by
      rw [List.append_assoc]
      refine List.Perm.append_left _ ?_
      rw [← List.append_assoc, ← List.append_assoc]
      exact List.Perm.append_right _ List.perm_append_comm
    refine e1.trans ?_
    rw [← List.append_assoc]
    exact List.Perm.append_left _ ih
theorem fm_comm {γ : Type} (f : α → β → List γ) (ys : List β) : ∀ xs : List α, (xs.flatMap fun x => ys.flatMap fun y => f x y).Perm (ys.flatMap fun y => xs.flatMap fun x => f x y)
  | [] => by simp
  | x :: xs => by
    simp only [List.flatMap_cons]
    exact (List.Perm.append_left _ (fm_comm f ys xs)).trans (fm_app (f x) (fun y => xs.flatMap fun x => f x y) ys)
theorem fm_congr {f g : α → List β} : ∀ {xs : List α}, (∀ x ∈ xs, (f x).Perm (g x)) → (xs.flatMap f).Perm (xs.flatMap g)
  | [], _ => by simp
  | x :: xs, h => by
    simp only [List.flatMap_cons]
    exact (h x List.mem_cons_self).append (fm_congr fun y hy => h y (List.mem_cons_of_mem _ hy))
/-- the order of the rows does not matter where the order in a choice does not -/
theorem prod_perm {rows rows' : List (List α)} (p : rows.Perm rows') : ∀ (g : List α → β), (∀ a b, a.Perm b → g a = g b) → ((prodG rows).map g).Perm ((prodG rows').map g) := by
  induction p with
  | nil => intro g _; exact List.Perm.refl _
  | cons r p ih =>
    intro g hg
    simp only [prodG, List.map_flatMap, List.map_map]
    refine fm_congr fun x _ => ?_
    exact ih (g ∘ (x :: ·)) fun a b q => hg _ _ (q.cons x)
  | swap r s l =>
    intro g hg
    simp only [prodG, List.map_flatMap, List.map_map]
    refine (fm_comm _ _ _).trans (fm_congr fun x _ => fm_congr fun y _ => ?_)
    refine List.Perm.of_eq (List.map_congr_left fun t _ => ?_)
    exact hg _ _ (List.Perm.swap _ _ _)
  | trans p q ih1 ih2 => intro g hg; exact (ih1 g hg).trans (ih2 g hg)
theorem prod_mem : ∀ {rows : List (List α)} {t : List α}, t ∈ prodG rows → t.length = rows.length ∧ ∀ x ∈ t, ∃ r ∈ rows, x ∈ r
  | [], t, h => by
    have : t = [] := by simpa [prodG] using h
    subst this; simp
  | r :: rs, t, h => by
    obtain ⟨x, hx, q⟩ := List.mem_flatMap.mp h
    obtain ⟨u, hu, rfl⟩ := List.mem_map.mp q
    obtain ⟨h1, h2⟩ := prod_mem hu
    refine ⟨by simp [h1], fun y hy => ?_⟩
    rcases List.mem_cons.mp hy with rfl | hy
    · exact ⟨r, List.mem_cons_self, hx⟩
    · obtain ⟨s, hs, k⟩ := h2 y hy
      exact ⟨s, List.mem_cons_of_mem _ hs, k⟩
theorem prod_len : ∀ rows : List (List α), (prodG rows).length = rows.foldr (fun r n => r.length * n) 1
  | [] => rfl
  | r :: rs => by
    have : ∀ xs : List α, (xs.flatMap fun x => (prodG rs).map (x :: ·)).length = xs.length * (prodG rs).length := fun xs => by
      induction xs with
      | nil => simp
      | cons x xs ih => simp only [List.flatMap_cons, List.length_append, List.length_map, ih, List.length_cons, Nat.add_mul]; omega
    rw [prodG, this, prod_len rs, List.foldr_cons]
theorem foldl_len : ∀ (rows : List (List α)) (n : Nat), rows.foldl (fun n r => n * r.length) n = n * (prodG rows).length
  | [], n => by simp [prodG]
  | r :: rs, n => by
    rw [List.foldl_cons, foldl_len rs, prod_len (r :: rs), List.foldr_cons, ← prod_len, Nat.mul_assoc]
end
/-- two ascending lists of the same -/
theorem sorted_perm_eq : ∀ {xs ys : List Str}, xs.Pairwise leS → ys.Pairwise leS → xs.Perm ys → xs = ys
  | [], ys, _, _, p => by rw [List.nil_perm.mp p]
  | x :: xs, [], _, _, p => by have := p.length_eq; simp at this
  | x :: xs, y :: ys, h1, h2, p => by
    rw [List.pairwise_cons] at h1 h2
    have e : x = y := by
      rcases List.mem_cons.mp (p.mem_iff.mp List.mem_cons_self : x ∈ y :: ys) with c | c
      · exact c
      · rcases List.mem_cons.mp (p.mem_iff.mpr List.mem_cons_self : y ∈ x :: xs) with d | d
        · exact d.symm
        · exact leS_anti (h1.1 y d) (h2.1 x c)
    subst e
    rw [sorted_perm_eq h1.2 h2.2 (List.Perm.cons_inv p)]
def leB (x y : Str) : Bool := !ltCps (cpsL y) (cpsL x)
theorem leB_iff {x y : Str} : leB x y = true ↔ leS x y := leS_iff
def sortStr (l : List Str) : List Str := l.mergeSort leB
theorem sortStr_pw (l : List Str) : (sortStr l).Pairwise leS := by
  have := List.pairwise_mergeSort (le := leB) (fun a b c h1 h2 => leB_iff.mpr (leS_trans (leB_iff.mp h1) (leB_iff.mp h2))) (fun a b => by
    rcases leS_total a b with h | h
    · rw [leB_iff.mpr h]; rfl
    · rw [leB_iff.mpr h]; simp) l
  exact this.imp fun h => leB_iff.mp h
theorem sortStr_perm (l : List Str) : (sortStr l).Perm l := List.mergeSort_perm l leB
theorem sortStr_eq {ys l : List Str} (p : ys.Perm l) (s : sortedS ys = true) : ys = sortStr l := sorted_perm_eq (sortedS_pw s) (sortStr_pw l) (p.trans (sortStr_perm l).symm)
theorem sortStr_inv {a b : List Str} (p : a.Perm b) : sortStr a = sortStr b := sorted_perm_eq (sortStr_pw a) (sortStr_pw b) ((sortStr_perm a).trans (p.trans (sortStr_perm b).symm))
/-- the teams of rows -/
def teamsR (rows : List (List Str)) : List (List Str) := (prodG rows).map sortStr
theorem teamsR_perm {rows rows' : List (List Str)} (p : rows.Perm rows') : (teamsR rows).Perm (teamsR rows') := prod_perm p sortStr fun _ _ q => sortStr_inv q
end HD

set_option Elab.async false
set_option linter.all false
set_option maxRecDepth 100000
set_option maxHeartbeats 1000000
namespace HD
open PySem PySem.Spec PyProof.Rows L2 L2.DL
theorem ord_trans (O : KeyOrd) (a b c : O.α) (h1 : (!O.blt b a) = true) (h2 : (!O.blt c b) = true) : (!O.blt c a) = true := by
  simp only [Bool.not_eq_true'] at *
  cases q : O.blt c a with
  | false => rfl
  | true => rcases O.negTrans c b a q with h | h
            · rw [h2] at h; cases h
            · rw [h1] at h; cases h
theorem ord_total (O : KeyOrd) (a b : O.α) : ((!O.blt b a) || (!O.blt a b)) = true := by
  cases q : O.blt b a with
  | false => simp
  | true =>
    cases q2 : O.blt a b with
    | false => simp
    | true =>
      have := O.trans _ _ _ q q2
      rw [O.irrefl] at this; cases this
def dle (x y : PyData) : Bool := !(listOrd itemOrd).blt (W.keyToks y) (W.keyToks x)
theorem dle_anti {x y : PyData} (h : dle x y = true) (k : dle y x = true) : W.keyToks x = W.keyToks y := by
  unfold dle at h k
  simp only [Bool.not_eq_true'] at h k
  exact (listOrd itemOrd).total _ _ k h
def tupT (t : List Str) : D := .tup (t.map .str)
def dataT (t : List Str) : PyData := .tuple (t.map .str)
theorem toks_inj : ∀ {a b : List Str}, W.keyToksAll (a.map .str) = W.keyToksAll (b.map .str) → a = b
  | [], [], _ => rfl
  | [], y :: b, h => by
    rw [List.map_nil, List.map_cons, W.keyToksAll.eq_1, W.keyToksAll.eq_2] at h
    have := congrArg List.head? h
    simp at this
  | x :: a, [], h => by
    rw [List.map_nil, List.map_cons, W.keyToksAll.eq_1, W.keyToksAll.eq_2] at h
    have := congrArg List.head? h
    simp at this
  | x :: a, y :: b, h => by
    rw [List.map_cons, List.map_cons, W.keyToksAll.eq_2, W.keyToksAll.eq_2, W.keyToks.eq_4, W.keyToks.eq_4] at h
    simp only [List.cons_append, List.nil_append, List.cons.injEq, true_and, Sum.inr.injEq] at h
    rw [str_ext (x := x) (y := y) h.1, toks_inj h.2]
theorem dle_anti_T {a b : List Str} (h : dle (dataT a) (dataT b) = true) (k : dle (dataT b) (dataT a) = true) : a = b := by
  have := dle_anti h k
  unfold dataT at this
  rw [W.keyToks.eq_6, W.keyToks.eq_6] at this
  exact toks_inj this
def leT (a b : List Str) : Bool := dle (dataT a) (dataT b)
def sortT (l : List (List Str)) : List (List Str) := l.mergeSort leT
theorem sortT_pw (l : List (List Str)) : (sortT l).Pairwise fun a b => leT a b = true :=
  List.pairwise_mergeSort (le := leT) (fun a b c h1 h2 => ord_trans (listOrd itemOrd) _ _ _ h1 h2) (fun a b => ord_total (listOrd itemOrd) _ _) l
theorem pw_perm_eq : ∀ {xs ys : List (List Str)}, xs.Pairwise (fun a b => leT a b = true) → ys.Pairwise (fun a b => leT a b = true) → xs.Perm ys → xs = ys
  | [], ys, _, _, p => by rw [List.nil_perm.mp p]
  | x :: xs, [], _, _, p => by have := p.length_eq; simp at this
  | x :: xs, y :: ys, h1, h2, p => by
    rw [List.pairwise_cons] at h1 h2
    have e : x = y := by
      rcases List.mem_cons.mp (p.mem_iff.mp List.mem_cons_self : x ∈ y :: ys) with c | c
      · exact c
      · rcases List.mem_cons.mp (p.mem_iff.mpr List.mem_cons_self : y ∈ x :: xs) with d | d
        · exact d.symm
        · exact dle_anti_T (h1.1 y d) (h2.1 x c)
    subst e
    rw [pw_perm_eq h1.2 h2.2 (List.Perm.cons_inv p)]
theorem sortT_inv {a b : List (List Str)} (p : a.Perm b) : sortT a = sortT b := pw_perm_eq (sortT_pw a) (sortT_pw b) ((List.mergeSort_perm a leT).trans (p.trans (List.mergeSort_perm b leT).symm))
/-- the teams with their data -/
def bsT (l : List (List Str)) : List DP := l.map fun t => (tupT t, dataT t)
theorem sortDP_T (l : List (List Str)) : sortDP (bsT l) = (sortT l).map tupT := by
  unfold sortDP bsT sortT
  have e := List.map_mergeSort (r := leT) (s := PySem.W.dataLe false (fun b : DP => b.2)) (f := fun t : List Str => ((tupT t, dataT t) : DP)) (l := l) (fun a _ b _ => rfl)
  rw [← e, List.map_map]; rfl
theorem alike_T : ∀ (xs ys : List Str), W.alikeAll (xs.map PyData.str) (ys.map PyData.str) = true
  | [], ys => by rw [List.map_nil, W.alikeAll.eq_2]
  | x :: xs, [] => by rw [List.map_cons, List.map_nil, W.alikeAll.eq_3]
  | x :: xs, y :: ys => by
    rw [List.map_cons, List.map_cons, W.alikeAll.eq_1, alike_T xs ys, W.alike.eq_4]; rfl
theorem pyAll_strs (G : DH) : ∀ (t : List Str) (n : Nat), t.length ≤ n → pyAll G n (t.map .str) = some (t.map .str)
  | [], n, _ => by cases n <;> rfl
  | x :: t, 0, h => by simp at h
  | x :: t, n + 1, h => by
    have ih := pyAll_strs G t n (by simpa using h)
    rw [List.map_cons, pyAll, ih]
    cases n <;> rfl
theorem depth_strs : ∀ t : List Str, PyData.depthAll (t.map .str) ≤ 1
  | [] => by simp [PyData.depthAll]
  | x :: t => by
    have := depth_strs t
    simp only [List.map_cons, PyData.depthAll, PyData.depth] at this ⊢
    omega
theorem pyOk_T (G : DH) {l : List (List Str)} (h : ∀ t ∈ l, 0 < t.length ∧ t.length ≤ 12) : PyOk G 13 (bsT l) := by
  have em : (bsT l).map (·.2) = l.map dataT := by unfold bsT; rw [List.map_map]; rfl
  refine ⟨fun b hb => ?_, ?_, ?_, fun b hb => ?_⟩
  · obtain ⟨t, ht, rfl⟩ := List.mem_map.mp hb
    show pyOf G 13 (.tup (t.map .str)) = some (dataT t)
    rw [pyOf, pyAll_strs G t 12 (h t ht).2]; rfl
  · rw [em]
    intro d hd e he
    obtain ⟨p, _, rfl⟩ := List.mem_map.mp hd
    obtain ⟨q, _, rfl⟩ := List.mem_map.mp he
    unfold dataT
    rw [W.alike.eq_6]; exact alike_T p q
  · rw [em]
    left
    intro d hd
    obtain ⟨p, hp, rfl⟩ := List.mem_map.mp hd
    match p, (h p hp).1 with
    | x :: p, _ => exact ⟨_, _, rfl⟩
  · obtain ⟨t, ht, rfl⟩ := List.mem_map.mp hb
    show (dataT t).depth ≤ 20
    unfold dataT
    have := depth_strs t
    simp only [PyData.depth]
    omega
end HD

set_option Elab.async false
set_option linter.all false
set_option maxRecDepth 100000
set_option maxHeartbeats 1000000
namespace HD
open PySem PySem.Spec PyProof.Rows L2 L2.DL He LamX
/-- what is known of a web of pairs that has a dealing -/
structure WSp (parts : Int) (T : List Tl) (ns : List Str) (root : Str → Str) (turn : Str → Int) : Prop where
  nd : ns.Nodup
  so : sortedS ns = true
  mem : ∀ x, x ∈ ns ↔ x ∈ namesT T
  len : ns.length ≤ 60
  gr : ∃ ρ τ, WB.Grown parts (tiesOf parts T) (allN ns) ρ τ true ∧ ∀ x ∈ ns, ρ (kS x) = kS (root x) ∧ τ (kS x) = turn x
def rootS (S : List EntN) (x : Str) : Str := match WB.rootOf S (kS x) with
  | some (.inr y) => y
  | _ => x
def turnS (S : List EntN) (x : Str) : Int := WB.turnOf S (kS x)
theorem webS_of {K : PySem.W.Frag} {G : DH} {p : Addr} {parts : Int} {T : List Tl} {ns : List Str} {S : List EntN} {mis : D} (h : WebR K G p parts T ns S mis) (hp : ∀ t ∈ T, ∃ a b n, t.ev = .pair a b n) (hφ : ∃ φ, WB.Pot parts (tiesOf parts T) φ) :
    mis = .non ∧ WebS K G p parts ns (rootS S) (turnS S) ∧ WSp parts T ns (rootS S) (turnS S) := by
  obtain ⟨tl, nm, ro, tu, pa, h1, h2, h3, h4, h5, h6, hn, hs, hm, hl, wp⟩ := h
  have gr := wp.grown (Nat.le_refl _)
  have mt := gr.mf hφ
  have em : mis = .non := by
    cases mis with
    | non => rfl
    | _ => cases mt
  subst em
  have ent : ∀ x ∈ ns, ∃ e ∈ S, e.x = kS x ∧ WB.look S (kS x) = some e := fun x hx => by
    have hx' : kS x ∈ allN ns := List.mem_cons_of_mem _ (List.mem_map.mpr ⟨x, hx, rfl⟩)
    obtain ⟨i, hi, q⟩ := List.getElem_of_mem hx'
    exact look_some (wp.ph i (kS x) hi (by rw [List.getElem?_eq_getElem hi, q]))
  have rt : ∀ x ∈ ns, WB.rootOf S (kS x) = kS (rootS S x) := fun x hx => by
    have hx' : kS x ∈ allN ns := List.mem_cons_of_mem _ (List.mem_map.mpr ⟨x, hx, rfl⟩)
    have c := gr.col Bool (fun k => k.isNone) (fun u y n s q => by
      obtain ⟨t, ht, ⟨rfl, rfl, _⟩ | ⟨rfl, rfl, _⟩⟩ := mem_ties q <;> obtain ⟨a, b, m, e⟩ := hp t ht <;> rw [e] <;> rfl) _ hx'
    have d := gr.mem _ hx'
    unfold rootS
    rcases List.mem_cons.mp d with d | d
    · rw [d] at c; simp at c
    · obtain ⟨y, _, ey⟩ := List.mem_map.mp d
      rw [← ey]
  refine ⟨rfl, ⟨tl, nm, ro, tu, pa, _, _, h1, h3, h4, h5, fun x hx => ?_⟩, hn, hs, hm, hl, _, _, by rw [← mt]; exact gr, fun x hx => ⟨rt x hx, rfl⟩⟩
  obtain ⟨e, he, ex, lk⟩ := ent x hx
  have r1 : WB.rootOf S (kS x) = e.r := by unfold WB.rootOf; rw [lk]
  have r2 : WB.turnOf S (kS x) = e.t := by unfold WB.turnOf; rw [lk]
  rw [kget_ents, kget_ents, lk]
  unfold turnS
  rw [r2]
  refine ⟨?_, rfl⟩
  have := rt x hx
  rw [r1] at this
  simp [this, NK.d]
theorem pairs_toldT {days : List (List Ev)} : ∀ t ∈ toldT days, ∃ a b n, t.ev = .pair a b n := fun t ht => by
  obtain ⟨e, _, q⟩ := toldT_mem ht
  exact ⟨_, _, _, q⟩

def optD : Option Str → D
  | none => .non
  | some r => .str r
def sp_Web_members (K : PySem.W.Frag) : DSp := fun ds G Q _ => ∃ p parts names root turn o, ds = [.ref p, optD o] ∧ WebS K G p parts names root turn ∧ names.length ≤ 60 ∧ ∀ r, G r = none → Q (.ref r) (dup G r (.lst ((names.filter fun x => decide (some (root x) = o)).map .str)))
theorem v_Web_members {Y : Wd} (L : WebF Y.K) (ds G Q E) (h : sp_Web_members Y.K ds G Q E) : t_Web_members Y (downX E) { nx := fun _ G' => down Q .non G', rt := down Q } (dstart N_Web_members ds) G := by
  obtain ⟨p, parts, names, root, turn, o, rfl, ⟨tl, nm, ro, tu, pa, kr, kt, h1, h2, h3, h4, h5⟩, hl, h⟩ := h
  have a1 := L.a "names" (by decide +kernel)
  have a2 := L.a "roots" (by decide +kernel)
  have e1 : (("names" : Str) == ("parts" : Str)) = false := by decide +kernel
  have e2 : (("names" : Str) == ("told" : Str)) = false := by decide +kernel
  have e3 : (("roots" : Str) == ("parts" : Str)) = false := by decide +kernel
  have e4 : (("roots" : Str) == ("told" : Str)) = false := by decide +kernel
  have e5 : (("roots" : Str) == ("names" : Str)) = false := by decide +kernel
  simp [t_Web_members, dRet, dC1, dSeqI, dFld, dVar, dstart, N_Web_members, h1, webO, a1, List.lookup, e1, e2, h2]
  intro r hr
  have n1 : nm ≠ r := fun z => by rw [z, hr] at h2; cases h2
  have n2 : ro ≠ r := fun z => by rw [z, hr] at h3; cases h3
  have n3 : p ≠ r := fun z => by rw [z, hr] at h1; cases h1
  refine ⟨fun i G' => G' = dup G r (.lst (((names.take i).filter fun x => decide (some (root x) = o)).map .str)), by simp, ?_, ?_, ?_⟩
  · rintro i G' rfl
    rw [dup_ne n1]; exact h2
  · intro i x G1 z q ex hg
    subst ex
    subst hg
    obtain ⟨hi, ez⟩ := List.getElem?_eq_some_iff.mp q
    have hz : z ∈ names := by rw [← ez]; exact List.getElem_mem hi
    obtain ⟨k1, k2⟩ := h5 z hz
    have et : names.take (i + 1) = names.take i ++ [z] := by rw [List.take_succ_eq_append_getElem hi, ez]
    have ll : ((names.take i).filter fun x => decide (some (root x) = o)).length ≤ 60 := Nat.le_trans (List.length_filter_le ..) (by rw [List.length_take]; omega)
    cases o with
    | none => simp [dgName, dwipe, dTest, dOp, dFld, dVar, dup_ne n3, dup_ne n2, h1, webO, a2, List.lookup, e3, e4, e5, rGetD, D.key, withD, h3, k1, rEqD1, optD, et]
    | some s =>
      by_cases c : root z = s
      · simp [dgName, dwipe, dTest, dOp, dFld, dVar, dup_ne n3, dup_ne n2, h1, webO, a2, List.lookup, e3, e4, e5, rGetD, D.key, withD, h3, k1, rEqD1, optD, c, dmL, withL, dup_same, dup_dup, et]
        simp at ll
        omega
      · simp [dgName, dwipe, dTest, dOp, dFld, dVar, dup_ne n3, dup_ne n2, h1, webO, a2, List.lookup, e3, e4, e5, rGetD, D.key, withD, h3, k1, rEqD1, optD, c, et]
  · rintro G1 rfl
    simp
    exact down.of (h r hr)
def sp_balanced_web (K : PySem.W.Frag) : DSp := fun ds G Q _ => ∃ lg parts days, ds = [.ref lg, .int 0, .int (days.length : Nat)] ∧ G lg = some (logO K parts days) ∧ daysOk parts days ∧ 0 < parts ∧ (∃ φ, WB.Pot parts (tiesOf parts (toldT days)) φ) ∧
  ∀ r G' ns root turn, G r = none → WebS K G' r parts ns root turn → WSp parts (toldT days) ns root turn → DLe G G' → Q (.ref r) G'
theorem v_balanced_web {Y : Wd} (L : WebF Y.K) (ds G Q E) (h : sp_balanced_web Y.K ds G Q E) : t_balanced_web Y (sp_web_of Y.K) (downX E) { nx := fun _ G' => down Q .non G', rt := down Q } (dstart N_balanced_web ds) G := by
  obtain ⟨lg, parts, days, rfl, hl, hd, hm0, hφ, h⟩ := h
  have a5 := L.a "misfit" (by decide +kernel)
  have lk : ∀ tl nm ro tu pa : Addr, List.lookup ("misfit" : Str) [("parts", D.int parts), ("told", .ref tl), ("names", .ref nm), ("roots", .ref ro), ("turns", .ref tu), ("parents", .ref pa), ("misfit", .non)] = some .non := by
    intro tl nm ro tu pa
    have : ∀ f ∈ (["parts", "told", "names", "roots", "turns", "parents"] : List Str), (("misfit" : Str) == f) = false := by decide +kernel
    simp [List.lookup, this]
  simp [t_balanced_web, dSeq, dAsg, dCall, dCons, dNil, dVar, dstart, N_balanced_web]
  refine ⟨lg, parts, days, rfl, hl, hd, hm0, fun r G' ns S mis hr w dle => ?_⟩
  obtain ⟨rfl, ws, sp⟩ := webS_of w pairs_toldT hφ
  obtain ⟨tl, nm, ro, tu, pa, kr, kt, h1, _⟩ := id ws
  simp [dgName, dSeq, dIfS, dTest, dOp, dFld, dVar, h1, webO, a5, lk, dC, rNotN, D.isN, dNext, dRet]
  exact down.of (h r G' ns _ _ hr ws sp dle)
/-- a piece's rows by their web -/
def rowsW (parts : Int) (ns : List Str) (root : Str → Str) (turn : Str → Int) (o : Option Str) : List (List Str) := (List.range parts.toNat).map fun (t : Nat) => (ns.filter fun x => decide (some (root x) = o)).filter fun x => decide (turn x = ((t : Nat) : Int))
/-- a list of lists of texts -/
def RowsL (G : DH) (a : Addr) (rows : List (List Str)) : Prop := ∃ ps : List Addr, G a = some (.lst (ps.map .ref)) ∧ Paired (fun b r => G b = some (.lst (r.map .str))) ps rows
theorem RowsL.le {G G' : DH} {a : Addr} {rows : List (List Str)} (h : RowsL G a rows) (l : DLe G G') : RowsL G' a rows := by
  obtain ⟨ps, h1, h2⟩ := h
  exact ⟨ps, l _ _ h1, Paired.mapP h2 fun _ _ z => l _ _ z⟩
theorem paired_get {α β : Type} {F : α → β → Prop} : ∀ {l : List α} {m : List β}, Paired F l m → ∀ {i : Nat} {a : α}, l[i]? = some a → ∃ b, m[i]? = some b ∧ F a b
  | _, _, .nil, i, a, h => by simp at h
  | _, _, .cons f fs, 0, a, h => by simp at h; subst h; exact ⟨_, rfl, f⟩
  | _, _, .cons f fs, i + 1, a, h => by
    simp only [List.getElem?_cons_succ] at h ⊢
    exact paired_get fs h
theorem paired_snoc {α β : Type} {F : α → β → Prop} : ∀ {l : List α} {m : List β} {a : α} {b : β}, Paired F l m → F a b → Paired F (l ++ [a]) (m ++ [b])
  | _, _, _, _, .nil, h => .cons h .nil
  | _, _, _, _, .cons f fs, h => .cons f (paired_snoc fs h)
theorem paired_len {α β : Type} {F : α → β → Prop} : ∀ {l : List α} {m : List β}, Paired F l m → l.length = m.length
  | _, _, .nil => rfl
  | _, _, .cons _ fs => by simp [paired_len fs]
theorem paired_memL {α β : Type} {F : α → β → Prop} : ∀ {l : List α} {m : List β}, Paired F l m → Paired (fun a b => F a b ∧ a ∈ l) l m
  | _, _, .nil => .nil
  | _, _, .cons f fs => .cons ⟨f, List.mem_cons_self⟩ (Paired.mapP (paired_memL fs) fun _ _ z => ⟨z.1, List.mem_cons_of_mem _ z.2⟩)
theorem ne_refs {G : DH} {r b : Addr} {ps : List Addr} {row : List Str} (g : G r = some (.lst (ps.map .ref))) (h : b ∈ ps) (k : G b = some (.lst (row.map .str))) : b ≠ r := fun z => by
  rw [z, g] at k
  injection k with k; injection k with k
  match ps, h, row, k with
  | _ :: _, _, [], k => cases k
  | _ :: _, _, _ :: _, k => injection k with k _; cases k
/-- the same, of new lists -/
def RowsN (G0 G : DH) (a : Addr) (rows : List (List Str)) : Prop := ∃ ps : List Addr, G a = some (.lst (ps.map .ref)) ∧ Paired (fun b r => G0 b = none ∧ G b = some (.lst (r.map .str))) ps rows
/-- the same, of lists other than d -/
def RowsO (d : Addr) (G : DH) (a : Addr) (rows : List (List Str)) : Prop := a ≠ d ∧ ∃ ps : List Addr, G a = some (.lst (ps.map .ref)) ∧ Paired (fun b r => b ≠ d ∧ G b = some (.lst (r.map .str))) ps rows
theorem RowsO.put {d a : Addr} {G G' : DH} {rows : List (List Str)} {o : DO} (h : RowsO d G a rows) (l : DLe G G') : RowsO d (dup G' d o) a rows := by
  obtain ⟨n, ps, h1, h2⟩ := h
  exact ⟨n, ps, by rw [dup_ne n]; exact l _ _ h1, Paired.mapP h2 fun _ _ z => ⟨z.1, by rw [dup_ne z.1]; exact l _ _ z.2⟩⟩
theorem RowsO.rows {d a : Addr} {G : DH} {rows : List (List Str)} (h : RowsO d G a rows) : RowsL G a rows := by
  obtain ⟨n, ps, h1, h2⟩ := h
  exact ⟨ps, h1, Paired.mapP h2 fun _ _ z => z.2⟩
theorem RowsN.other {d a : Addr} {G0 G : DH} {rows : List (List Str)} (h : RowsN G0 G a rows) (ha : G0 a = none) {o : DO} (hd : G0 d = some o) : RowsO d G a rows := by
  obtain ⟨ps, h1, h2⟩ := h
  exact ⟨fun z => (by rw [z, hd] at ha; cases ha), ps, h1, Paired.mapP h2 fun b _ z => ⟨fun y => (by have z1 := z.1; rw [y, hd] at z1; cases z1), z.2⟩⟩
def sp_piece_rows (K : PySem.W.Frag) : DSp := fun ds G Q _ => ∃ p parts names root turn o, ds = [.ref p, optD o] ∧ WebS K G p parts names root turn ∧ names.length ≤ 60 ∧ 0 < parts ∧ parts ≤ 12 ∧ ∀ r G', G r = none → RowsN G G' r (rowsW parts names root turn o) → DLe G G' → Q (.ref r) G'
theorem v_piece_rows {Y : Wd} (L : WebF Y.K) (ds G Q E) (h : sp_piece_rows Y.K ds G Q E) : t_piece_rows Y (sp_Web_members Y.K) (downX E) { nx := fun _ G' => down Q .non G', rt := down Q } (dstart N_piece_rows ds) G := by
  obtain ⟨p, parts, names, root, turn, o, rfl, ws, hl, hm0, hm1, h⟩ := h
  have a1 := L.a "parts" (by decide +kernel)
  have a2 := L.a "turns" (by decide +kernel)
  have lm : ∀ tl nm ro tu pa : Addr, List.lookup ("members" : Str) [("parts", D.int parts), ("told", .ref tl), ("names", .ref nm), ("roots", .ref ro), ("turns", .ref tu), ("parents", .ref pa), ("misfit", .non)] = none := by
    intro tl nm ro tu pa
    have : ∀ f ∈ (["parts", "told", "names", "roots", "turns", "parents", "misfit"] : List Str), (("members" : Str) == f) = false := by decide +kernel
    simp [List.lookup, this]
  have lt : ∀ tl nm ro tu pa : Addr, List.lookup ("turns" : Str) [("parts", D.int parts), ("told", .ref tl), ("names", .ref nm), ("roots", .ref ro), ("turns", .ref tu), ("parents", .ref pa), ("misfit", .non)] = some (.ref tu) := by
    intro tl nm ro tu pa
    have : ∀ f ∈ (["parts", "told", "names", "roots"] : List Str), (("turns" : Str) == f) = false := by decide +kernel
    simp [List.lookup, this]
  obtain ⟨tl, nm, ro, tu, pa, kr, kt, h1, h2, h3, h4, h5⟩ := id ws
  simp [t_piece_rows, dRet, dC1, dRng1, dCons, dNil, dFld, dVar, dstart, N_piece_rows, h1, webO, a1, List.lookup]
  refine ⟨by omega, by omega, fun r hr => ?_⟩
  let row := fun t : Nat => (names.filter fun x => decide (some (root x) = o)).filter fun x => decide (turn x = ((t : Nat) : Int))
  refine ⟨fun i G' => i ≤ parts.toNat ∧ DLe G G' ∧ ∃ ps : List Addr, G' r = some (.lst (ps.map .ref)) ∧ Paired (fun b r => G b = none ∧ G' b = some (.lst (r.map .str))) ps ((List.range i).map row), ⟨Nat.zero_le _, DLe.new hr, [], by rw [dup_same]; rfl, .nil⟩, ?_, ?_⟩
  · rintro i x G1 q ⟨hi, dle, ps, g1, g2⟩
    obtain ⟨hi2, rfl⟩ := rng_get q
    have w1 := ws.le dle
    obtain ⟨tl1, nm1, ro1, tu1, pa1, kr1, kt1, k1, k2, k3, k4, k5⟩ := id w1
    have pl := paired_len g2
    simp at pl
    simp [dgName, dwipe, dYes, dmL, dC1, dSeqI, dMeth, dVar, k1, webO, lm, dCons, dNil]
    refine ⟨p, parts, names, root, turn, o, rfl, w1, hl, fun q0 hq0 => ?_⟩
    simp [dup_same]
    intro d hd
    obtain ⟨dq, hd⟩ := dup_none.mp hd
    generalize hms : (names.filter fun x => decide (some (root x) = o)) = ms
    have hmsn : ∀ x ∈ ms, x ∈ names := fun x hx => by rw [← hms] at hx; exact (List.mem_filter.mp hx).1
    have hmsl : ms.length ≤ 60 := by rw [← hms]; exact Nat.le_trans (List.length_filter_le ..) hl
    have npq : p ≠ q0 := fun z => by rw [z, hq0] at k1; cases k1
    have npd : p ≠ d := fun z => by rw [z, hd] at k1; cases k1
    have ntq : tu1 ≠ q0 := fun z => by rw [z, hq0] at k4; cases k4
    have ntd : tu1 ≠ d := fun z => by rw [z, hd] at k4; cases k4
    have nrq : r ≠ q0 := fun z => by rw [z, hq0] at g1; cases g1
    have nrd : r ≠ d := fun z => by rw [z, hd] at g1; cases g1
    refine ⟨fun j G' => G' = dup (dup G1 q0 (.lst (ms.map .str))) d (.lst (((ms.take j).filter fun x => decide (turn x = ((i : Nat) : Int))).map .str)), by simp, ?_, ?_, ?_⟩
    · rintro j G' rfl
      rw [dup_ne (Ne.symm dq), dup_same]
    · rintro j x G2 z q2 rfl rfl
      obtain ⟨hj, ez⟩ := List.getElem?_eq_some_iff.mp q2
      have hz : z ∈ ms := by rw [← ez]; exact List.getElem_mem hj
      obtain ⟨c1, c2⟩ := k5 z (hmsn z hz)
      have et : ms.take (j + 1) = ms.take j ++ [z] := by rw [List.take_succ_eq_append_getElem hj, ez]
      have ll : ((ms.take j).filter fun x => decide (turn x = ((i : Nat) : Int))).length ≤ 60 := Nat.le_trans (List.length_filter_le ..) (by rw [List.length_take]; omega)
      by_cases c : turn z = ((i : Nat) : Int)
      · simp [dgName, dwipe, dTest, dOp, dFld, dVar, dup_ne npq, dup_ne npd, dup_ne ntq, dup_ne ntd, k1, webO, a2, lt, rGetD, D.key, withD, k4, c2, rEqD1, c, dmL, withL, dup_same, dup_dup, et]
        omega
      · simp [dgName, dwipe, dTest, dOp, dFld, dVar, dup_ne npq, dup_ne npd, dup_ne ntq, dup_ne ntd, k1, webO, a2, lt, rGetD, D.key, withD, k4, c2, rEqD1, c, et]
    · rintro G2 rfl
      have dle2 : DLe G1 (dup (dup G1 q0 (.lst (ms.map .str))) d (.lst ((ms.filter fun x => decide (turn x = ((i : Nat) : Int))).map .str))) := ((DLe.refl G1).up hq0).up hd
      simp [withL, dup_ne nrq, dup_ne nrd, g1]
      refine ⟨by omega, by omega, ?_, ps ++ [d], by simp [dup_same], ?_⟩
      · intro a o' q'
        rw [dup_ne fun z => by rw [z, hr] at q'; cases q']
        exact (((DLe.refl G1).up hq0).up hd) a o' (dle _ _ q')
      · rw [List.range_succ, List.map_append]
        refine paired_snoc (Paired.mapP (paired_memL g2) fun b rw_ ⟨⟨hn, hb⟩, hm⟩ => ⟨hn, ?_⟩) ⟨?_, ?_⟩
        · rw [dup_ne (ne_refs g1 hm hb)]
          exact (((DLe.refl G1).up hq0).up hd) _ _ hb
        · cases zz : G d with
          | none => rfl
          | some o => rw [dle _ _ zz] at hd; cases hd
        · rw [dup_ne (Ne.symm nrd), dup_same]
          subst hms
          simp [row]
  · rintro G1 ⟨_, dle, ps, g1, g2⟩
    have e9 : (rngD 0 1 parts.toNat).length = parts.toNat := by simp [rngD]
    rw [e9] at g2
    exact down.of (h r G1 hr ⟨ps, g1, g2⟩ dle)
end HD

set_option Elab.async false
set_option linter.all false
set_option maxRecDepth 100000
set_option maxHeartbeats 1000000
namespace HD
open PySem PySem.Spec PyProof.Rows L2 L2.DL He LamX
def L_sure_teams_0 (Y : Wd) (P : Addr) (E' : DX) : DS := (dDrop (dCall (sp_check_stretch Y.K) [] DX0 (dCons (dVar 0) (dCons (dVar 1) (dCons (dVar 2) dNil)))))
def L_sure_teams_1 (Y : Wd) (P : Addr) (E' : DX) : DS := (dDrop (dCall sp_check_most [] DX0 (dCons (dVar 3) dNil)))
def L_sure_teams_2 (Y : Wd) (P : Addr) (E' : DX) : DS := (dAsg (dCall (sp_balanced_web Y.K) [] DX0 (dCons (dVar 0) (dCons (dVar 1) (dCons (dVar 2) dNil)))) (dgName 4))
def L_sure_teams_3 (Y : Wd) (P : Addr) (E' : DX) : DS := (dAsg (dC1 (fun _ => .lst []) [6] (dSeqI (dOp rAdd (dLst (dCons (dC .non) dNil)) (dMeth (ga Y.K "Web") "pieces" (sp_Web_pieces Y.K) [] DX0 (dVar 4) dNil))) (dgName 6) dYes (dmL (dCall (sp_piece_rows Y.K) [] DX0 (dCons (dVar 4) (dCons (dVar 6) dNil))))) (dgName 5))
def L_sure_teams_4 (Y : Wd) (P : Addr) (E' : DX) : DS := (dAsg (dC (.int 0)) (dgName 7))
def L_sure_teams_5 (Y : Wd) (P : Addr) (E' : DX) : DS := (dFor (dSeqI (dVar 5)) (dgName 8) (dSeq (dAsg (dC (.int 1)) (dgName 9)) (dSeq (dFor (dSeqI (dVar 8)) (dgName 10) (dAsg (dOp rMulD (dVar 9) (dCB rLen (dCons (dVar 10) dNil))) (dgName 9))) (dAsg (dOp rAdd (dVar 7) (dVar 9)) (dgName 7)))))
def L_sure_teams_6 (Y : Wd) (P : Addr) (E' : DX) : DS := (dIfS (dTest (dOp rGtD (dVar 7) (dVar 3))) (dRaise (ga Y.K "TooMany") ["most"] E' (dCons (dVar 3) dNil)) dNext)
def L_sure_teams_7 (Y : Wd) (P : Addr) (E' : DX) : DS := (dAsg (dLst dNil) (dgName 11))
def L_sure_teams_8 (Y : Wd) (P : Addr) (E' : DX) : DS := (dFor (dSeqI (dVar 5)) (dgName 8) (dSeq (dAsg (dLst (dCons (dTup dNil) dNil)) (dgName 12)) (dSeq (dFor (dSeqI (dVar 8)) (dgName 10) (dAsg (dC2 (fun _ => .lst []) [13, 14] [14] (dSeqI (dVar 12)) (dgName 13) dYes (dSeqI (dVar 10)) (dgName 14) dYes (dmL (dOp rAdd (dVar 13) (dTup (dCons (dVar 14) dNil))))) (dgName 12))) (dDrop (dBM "list" rExt (dVar 11) (dCons (dC1 (fun _ => .lst []) [13] (dSeqI (dVar 12)) (dgName 13) dYes (dmL (dCB rTuple (dCons (dCB rSortT (dCons (dVar 13) dNil)) dNil)))) dNil))))))
def L_sure_teams_9 (Y : Wd) (P : Addr) (E' : DX) : DS := (dRet (dCB (rSorted Y) (dCons (dVar 11) dNil)))
def R_sure_teams_9 (Y : Wd) (P : Addr) (E' : DX) : DS := L_sure_teams_9 Y P E'
def R_sure_teams_8 (Y : Wd) (P : Addr) (E' : DX) : DS := dSeq (L_sure_teams_8 Y P E') (R_sure_teams_9 Y P E')
def R_sure_teams_7 (Y : Wd) (P : Addr) (E' : DX) : DS := dSeq (L_sure_teams_7 Y P E') (R_sure_teams_8 Y P E')
def R_sure_teams_6 (Y : Wd) (P : Addr) (E' : DX) : DS := dSeq (L_sure_teams_6 Y P E') (R_sure_teams_7 Y P E')
def R_sure_teams_5 (Y : Wd) (P : Addr) (E' : DX) : DS := dSeq (L_sure_teams_5 Y P E') (R_sure_teams_6 Y P E')
def R_sure_teams_4 (Y : Wd) (P : Addr) (E' : DX) : DS := dSeq (L_sure_teams_4 Y P E') (R_sure_teams_5 Y P E')
def R_sure_teams_3 (Y : Wd) (P : Addr) (E' : DX) : DS := dSeq (L_sure_teams_3 Y P E') (R_sure_teams_4 Y P E')
def R_sure_teams_2 (Y : Wd) (P : Addr) (E' : DX) : DS := dSeq (L_sure_teams_2 Y P E') (R_sure_teams_3 Y P E')
def R_sure_teams_1 (Y : Wd) (P : Addr) (E' : DX) : DS := dSeq (L_sure_teams_1 Y P E') (R_sure_teams_2 Y P E')
def R_sure_teams_0 (Y : Wd) (P : Addr) (E' : DX) : DS := dSeq (L_sure_teams_0 Y P E') (R_sure_teams_1 Y P E')
/-- rows that can be multiplied out -/
structure RowsOk (rows : List (List Str)) : Prop where
  l0 : 0 < rows.length
  l1 : rows.length ≤ 12
  ln : ∀ r ∈ rows, r.length ≤ 60
  bd : ∀ k, (prodG (rows.take k)).length ≤ 2000
def TabsL (G : DH) (tb : Addr) (tabs : List (List (List Str))) : Prop := ∃ ts : List Addr, G tb = some (.lst (ts.map .ref)) ∧ Paired (fun a rows => RowsL G a rows) ts tabs
theorem TabsL.le {G G' : DH} {tb : Addr} {tabs : List (List (List Str))} (h : TabsL G tb tabs) (l : DLe G G') : TabsL G' tb tabs := by
  obtain ⟨ts, h1, h2⟩ := h
  exact ⟨ts, l _ _ h1, Paired.mapP h2 fun _ _ z => z.le l⟩
section
variable {Y : Wd} {P : Addr} {E' : DX} {G : DH} {Q : DVK} {nx : DSt → DH → Prop} {o0 o1 o2 o3 o4 o5 o6 o7 o8 o9 o10 o11 o12 o13 o14 : Option D}
theorem st9 {fo : Addr} {l : List (List Str)} (hfo : G fo = some (.lst (l.map tupT))) (hl : ∀ t ∈ l, 0 < t.length ∧ t.length ≤ 12) (hQ : ∀ r, G r = none → Q (.ref r) (dup G r (.lst ((sortT l).map tupT)))) :
    R_sure_teams_9 Y P E' { nx := nx, rt := Q } [o0, o1, o2, o3, o4, o5, o6, o7, o8, o9, o10, some (.ref fo), o12, o13, o14] G := by
  simp only [R_sure_teams_9, L_sure_teams_9, dRet, dCB, dCons, dNil, dVar, List.getElem?_cons_zero, List.getElem?_cons_succ]
  refine .inr (.inl ?_)
  simp only [rSortD, withL, hfo]
  refine ⟨13, bsT l, by simp [bsT], pyOk_T G hl, fun p hp => ?_⟩
  rw [sortDP_T]; exact hQ p hp
def B8 : DS := (dSeq (dAsg (dLst (dCons (dTup dNil) dNil)) (dgName 12)) (dSeq (dFor (dSeqI (dVar 8)) (dgName 10) (dAsg (dC2 (fun _ => .lst []) [13, 14] [14] (dSeqI (dVar 12)) (dgName 13) dYes (dSeqI (dVar 10)) (dgName 14) dYes (dmL (dOp rAdd (dVar 13) (dTup (dCons (dVar 14) dNil))))) (dgName 12))) (dDrop (dBM "list" rExt (dVar 11) (dCons (dC1 (fun _ => .lst []) [13] (dSeqI (dVar 12)) (dgName 13) dYes (dmL (dCB rTuple (dCons (dCB rSortT (dCons (dVar 13) dNil)) dNil)))) dNil)))))
theorem prod_le {rows : List (List Str)} (ok : RowsOk rows) : (prodG rows).length ≤ 2000 := by
  have := ok.bd rows.length
  rwa [List.take_length] at this
theorem tup_strs (t : List Str) : strsOf (t.map D.str) = some t := strsOf_of t
theorem b8 {DD : DEnds} {rw_ fo : Addr} {rows found : List (List Str)} (ok : RowsOk rows) (hr : RowsL G rw_ rows) (hfo : G fo = some (.lst (found.map tupT))) (hl : found.length ≤ 200000)
    (hQ : ∀ x10 x12 x13 x14 G', G' fo = some (.lst ((found ++ teamsR rows).map tupT)) → Fr [fo] G G' → DD.nx [o0, o1, o2, o3, o4, o5, o6, o7, some (.ref rw_), o9, x10, some (.ref fo), x12, x13, x14] G') :
    B8 DD [o0, o1, o2, o3, o4, o5, o6, o7, some (.ref rw_), o9, o10, some (.ref fo), o12, o13, o14] G := by
  obtain ⟨ps, hp1, hp2⟩ := hr
  simp only [B8, dSeq, dAsg, dLst, dTup, dCons, dNil, dgName, List.length_cons, List.length_nil, List.set]
  refine ⟨by omega, by omega, fun q hq => ?_⟩
  simp only [dFor, dSeqI, dVar, List.getElem?_cons_zero, List.getElem?_cons_succ]
  have nrq : rw_ ≠ q := fun z => by rw [z, hq] at hp1; cases hp1
  rw [dup_ne nrq, hp1]
  have hq0 : DLe G (dup G q (.lst [.tup []])) := DLe.new hq
  refine ⟨fun i τ G' => ∃ x10 x13 x14 tm, τ = [o0, o1, o2, o3, o4, o5, o6, o7, some (.ref rw_), o9, x10, some (.ref fo), some (.ref tm), x13, x14] ∧ G tm = none ∧ G' tm = some (.lst (((rows.take i).foldl stepP [[]]).map tupT)) ∧ DLe G G',
    ⟨_, _, _, q, rfl, hq, by rw [dup_same]; simp [tupT], hq0⟩, ?_, ?_, ?_⟩
  · rintro i τ G' ⟨_, _, _, tm, rfl, _, _, dle⟩
    exact dle _ _ hp1
  · rintro i x τ G1 qx ⟨x10, x13, x14, tm, rfl, gtm, htm, dle⟩
    obtain ⟨b, eb, hb⟩ : ∃ b, ps[i]? = some b ∧ x = .ref b := by
      rw [List.getElem?_map] at qx
      cases q2 : ps[i]? with
      | none => rw [q2] at qx; cases qx
      | some b => rw [q2] at qx; cases qx; exact ⟨b, rfl, rfl⟩
    subst hb
    obtain ⟨r, er, hbr⟩ := paired_get hp2 eb
    obtain ⟨hi, er2⟩ := List.getElem?_eq_some_iff.mp er
    have hrl : r.length ≤ 60 := ok.ln r (by rw [← er2]; exact List.getElem_mem hi)
    have hb1 := dle _ _ hbr
    have el : ((rows.take i).foldl stepP [[]]).length ≤ 2000 := by rw [foldP]; exact ok.bd i
    have es : (rows.take (i + 1)).foldl stepP [[]] = stepP ((rows.take i).foldl stepP [[]]) r := by
      rw [List.take_succ_eq_append_getElem hi, List.foldl_append, er2]; rfl
    have htl : ∀ t ∈ (rows.take i).foldl stepP [[]], t.length ≤ 12 := fun t ht => by
      rw [foldP] at ht
      have := (prod_mem ht).1
      rw [List.length_take] at this
      have := ok.l1
      omega
    generalize (rows.take i).foldl stepP [[]] = ts at htm el es htl
    simp only [dgName, dAsg, dC2, dSeqI, dVar, List.set, List.length_cons, List.length_nil, List.getElem?_cons_zero, List.getElem?_cons_succ, htm]
    intro d hd
    have ndt : tm ≠ d := fun z => by rw [z, hd] at htm; cases htm
    have gd : G d = none := by
      cases zz : G d with
      | none => rfl
      | some o => rw [dle _ _ zz] at hd; cases hd
    refine ⟨fun i2 G' => G' d = some (.lst (((ts.take i2).flatMap fun t => r.map fun x => t ++ [x]).map tupT)) ∧ DLe G1 G', ⟨by rw [dup_same]; simp, DLe.new hd⟩, ?_, ?_, ?_⟩
    · rintro i2 G' ⟨_, dle2⟩
      exact dle2 _ _ htm
    · rintro i2 x G2 qx2 ⟨g1, dle2⟩
      rw [List.getElem?_map] at qx2
      cases q3 : ts[i2]? with
      | none => rw [q3] at qx2; cases qx2
      | some t =>
      rw [q3] at qx2
      cases qx2
      obtain ⟨hi2, et⟩ := List.getElem?_eq_some_iff.mp q3
      have htl2 := htl t (by rw [← et]; exact List.getElem_mem hi2)
      have hb2 := dle2 _ _ hb1
      simp [dgName, dwipe, dYes, dVar, hb2]
      have ett : ts.take (i2 + 1) = ts.take i2 ++ [t] := by rw [List.take_succ_eq_append_getElem hi2, et]
      have lpre : ((ts.take i2).flatMap fun t => r.map fun x => t ++ [x]).length ≤ 120000 := by
        have : ∀ us : List (List Str), (us.flatMap fun t => r.map fun x => t ++ [x]).length = us.length * r.length := fun us => by
          induction us with
          | nil => simp
          | cons u us ih => simp only [List.flatMap_cons, List.length_append, List.length_map, ih, List.length_cons, Nat.add_mul]; omega
        rw [this, List.length_take]
        have : min i2 ts.length * r.length ≤ 2000 * 60 := Nat.mul_le_mul (by omega) hrl
        omega
      have efm : ((ts.take (i2 + 1)).flatMap fun t => r.map fun x => t ++ [x]) = ((ts.take i2).flatMap fun t => r.map fun x => t ++ [x]) ++ r.map fun x => t ++ [x] := by
        rw [ett, List.flatMap_append]; simp
      generalize ((ts.take i2).flatMap fun t => r.map fun x => t ++ [x]) = pre at g1 lpre efm
      obtain ⟨W, w0, wn, wl, we⟩ : ∃ W : Nat → List D, W 0 = pre.map tupT ∧ (∀ j x, r[j]? = some x → W (j + 1) = W j ++ [tupT (t ++ [x])]) ∧ (∀ j, (W j).length ≤ 130000) ∧ W r.length = (pre ++ r.map fun x => t ++ [x]).map tupT := by
        refine ⟨fun j => (pre ++ (r.take j).map fun x => t ++ [x]).map tupT, by simp, fun j x hx => ?_, fun j => ?_, by dsimp only; rw [List.take_length]⟩
        · obtain ⟨hj, ex⟩ := List.getElem?_eq_some_iff.mp hx
          simp only [List.take_succ_eq_append_getElem hj, ex, List.map_append, List.map_cons, List.map_nil, List.append_assoc]
        · simp only [List.length_map, List.length_append, List.length_take]; omega
      refine ⟨fun j G' => G' d = some (.lst (W j)) ∧ DLe G1 G', ⟨by rw [w0]; exact g1, dle2⟩, ?_, ?_, ?_⟩
      · rintro j G' ⟨_, dle3⟩
        exact dle3 _ _ hb1
      · rintro j y G3 x qy rfl ⟨g2, dle3⟩
        obtain ⟨hj, ex⟩ := List.getElem?_eq_some_iff.mp qy
        have lp := wl j
        have wj := wn j x qy
        simp [dgName, dwipe, dYes, dmL, dOp, dVar, dTup, dCons, dNil, DL.rAdd, tupT, withL, g2]
        refine ⟨by omega, by omega, ?_, ?_⟩
        · rw [dup_same, wj]; simp [tupT]
        · intro a o' q'
          have : a ≠ d := fun z => by rw [z, hd] at q'; cases q'
          rw [dup_ne this]; exact dle3 _ _ q'
      · rintro G3 ⟨g2, dle3⟩
        refine ⟨?_, dle3⟩
        rw [g2, we, efm]
    · rintro G2 ⟨g1, dle2⟩
      refine ⟨_, _, _, d, rfl, gd, ?_, dle.trans dle2⟩
      rw [g1, es]
      simp [stepP]
  · rintro τ G1 ⟨x10, x13, x14, tm, rfl, gtm, htm, dle⟩
    have hle := paired_len hp2
    rw [List.length_map, hle, List.take_length, foldP] at htm
    have hfo1 := dle _ _ hfo
    have ntf : tm ≠ fo := fun z => by rw [z, hfo] at gtm; cases gtm
    have lrows : ∀ t ∈ prodG rows, t.length ≤ 12 := fun t ht => by
      have := (prod_mem ht).1
      have := ok.l1
      omega
    have lpr := prod_le ok
    have eT : teamsR rows = (prodG rows).map sortStr := rfl
    rw [eT] at hQ
    generalize prodG rows = ts at htm lrows lpr hQ
    simp only [dDrop, dBM, dVar, dC1, dSeqI, dCons, dNil, List.getElem?_cons_zero, List.getElem?_cons_succ, isTy, hfo1, htm]
    refine ⟨trivial, fun d hd => ?_⟩
    have ndt : tm ≠ d := fun z => by rw [z, hd] at htm; cases htm
    have ndf : fo ≠ d := fun z => by rw [z, hd] at hfo1; cases hfo1
    refine ⟨fun i2 G' => G' d = some (.lst (((ts.take i2).map sortStr).map tupT)) ∧ DLe G1 G', ⟨by rw [dup_same]; simp, DLe.new hd⟩, ?_, ?_, ?_⟩
    · rintro i2 G' ⟨_, dle2⟩
      exact dle2 _ _ htm
    · rintro i2 x G2 qx2 ⟨g1, dle2⟩
      rw [List.getElem?_map] at qx2
      cases q3 : ts[i2]? with
      | none => rw [q3] at qx2; cases qx2
      | some t =>
      rw [q3] at qx2
      cases qx2
      obtain ⟨hi2, et⟩ := List.getElem?_eq_some_iff.mp q3
      have htl2 := lrows t (by rw [← et]; exact List.getElem_mem hi2)
      simp [dgName, dwipe, dYes, dmL, dCB, dCons, dNil, dVar, rSortT, tupT, tup_strs]
      refine ⟨by omega, fun ys p hpm hss hp => ?_⟩
      have npd : d ≠ p := fun z => by rw [z, hp] at g1; cases g1
      simp [rTuple, seqOf, dup_same, withL, dup_ne npd, g1]
      refine ⟨by omega, ?_, ?_⟩
      · rw [List.take_succ_eq_append_getElem (by simpa using hi2)]; simp [et, tupT, sortStr_eq hpm hss]
      · intro a o' q'
        have n1 : a ≠ d := fun z => by rw [z, hd] at q'; cases q'
        have q2 := dle2 _ _ q'
        have n2 : a ≠ p := fun z => by rw [z, hp] at q2; cases q2
        rw [dup_ne n1, dup_ne n2]; exact q2
    · rintro G2 ⟨g1, dle2⟩
      have hfo2 := dle2 _ _ hfo1
      rw [List.length_map, List.take_length] at g1
      simp [rExt, ndf, withL, hfo2, g1]
      refine ⟨by omega, hQ _ _ _ _ _ (by rw [dup_same]; simp) fun a o' n q' => ?_⟩
      rw [dup_ne (by simpa using n)]
      exact dle2 _ _ (dle _ _ q')

theorem prod_snoc (l : List (List Str)) (r : List Str) : (prodG (l ++ [r])).length = (prodG l).length * r.length := by
  rw [← foldP, List.foldl_append, foldP]
  show (stepP (prodG l) r).length = _
  generalize prodG l = ts
  induction ts with
  | nil => simp [stepP]
  | cons u us ih =>
    simp only [stepP, List.flatMap_cons, List.length_append, List.length_map, List.length_cons, Nat.add_mul] at ih ⊢
    omega
def manyT (tabs : List (List (List Str))) : Nat := (tabs.map fun rows => (prodG rows).length).sum
theorem manyT_le : ∀ {tabs : List (List (List Str))}, (∀ rows ∈ tabs, RowsOk rows) → manyT tabs ≤ 2000 * tabs.length
  | [], _ => by simp [manyT]
  | r :: tabs, h => by
    have ih := manyT_le (tabs := tabs) fun x hx => h x (List.mem_cons_of_mem _ hx)
    have := prod_le (h r List.mem_cons_self)
    simp only [manyT, List.map_cons, List.sum_cons, List.length_cons] at ih ⊢
    omega
theorem teams_len : ∀ tabs : List (List (List Str)), (tabs.flatMap teamsR).length = manyT tabs
  | [] => rfl
  | r :: tabs => by
    have := teams_len tabs
    simp only [List.flatMap_cons, List.length_append, manyT, List.map_cons, List.sum_cons, teamsR, List.length_map] at this ⊢
    omega
theorem teams_ok {tabs : List (List (List Str))} (h : ∀ rows ∈ tabs, RowsOk rows) : ∀ t ∈ tabs.flatMap teamsR, 0 < t.length ∧ t.length ≤ 12 := by
  intro t ht
  obtain ⟨rows, hr, ht⟩ := List.mem_flatMap.mp ht
  obtain ⟨u, hu, rfl⟩ := List.mem_map.mp ht
  have := (prod_mem hu).1
  rw [(sortStr_perm u).length_eq]
  have := (h rows hr).l0
  have := (h rows hr).l1
  omega
theorem take_le {tabs : List (List (List Str))} (h : ∀ rows ∈ tabs, RowsOk rows) (hl : tabs.length ≤ 61) (i : Nat) : ((tabs.take i).flatMap teamsR).length ≤ 200000 := by
  rw [teams_len]
  have := manyT_le (tabs := tabs.take i) fun x hx => h x (List.mem_of_mem_take hx)
  rw [List.length_take] at this
  omega
theorem st8 {G0 : DH} {tb fo : Addr} {tabs : List (List (List Str))} (ok : ∀ rows ∈ tabs, RowsOk rows) (hl : tabs.length ≤ 61) (ht : TabsL G0 tb tabs) (hf0 : G0 fo = none) (dle : DLe G0 G) (hfo : G fo = some (.lst [])) (hQ : ∀ r G', G0 r = none → G' r = some (.lst ((sortT (tabs.flatMap teamsR)).map tupT)) → DLe G0 G' → Q (.ref r) G') :
    R_sure_teams_8 Y P E' { nx := nx, rt := Q } [o0, o1, o2, o3, o4, some (.ref tb), o6, o7, o8, o9, o10, some (.ref fo), o12, o13, o14] G := by
  obtain ⟨ts, ht1, ht2⟩ := ht
  simp only [R_sure_teams_8, L_sure_teams_8, dSeq, dFor, dSeqI, dVar, List.getElem?_cons_zero, List.getElem?_cons_succ]
  have htb := dle _ _ ht1
  simp only [htb]
  refine ⟨fun i τ G' => ∃ x8 x10 x12 x13 x14, τ = [o0, o1, o2, o3, o4, some (.ref tb), o6, o7, x8, o9, x10, some (.ref fo), x12, x13, x14] ∧ G' fo = some (.lst (((tabs.take i).flatMap teamsR).map tupT)) ∧ DLe G0 G',
    ⟨_, _, _, _, _, rfl, by simpa using hfo, dle⟩, ?_, ?_, ?_⟩
  · rintro i τ G' ⟨_, _, _, _, _, rfl, _, d⟩
    exact d _ _ ht1
  · rintro i x τ G1 qx ⟨x8, x10, x12, x13, x14, rfl, g1, d1⟩
    rw [List.getElem?_map] at qx
    cases q2 : ts[i]? with
    | none => rw [q2] at qx; cases qx
    | some b =>
    rw [q2] at qx
    cases qx
    obtain ⟨rows, er, hb⟩ := paired_get ht2 q2
    obtain ⟨hi, er2⟩ := List.getElem?_eq_some_iff.mp er
    have okr := ok rows (by rw [← er2]; exact List.getElem_mem hi)
    simp only [dgName, List.set, List.length_cons, List.length_nil]
    show B8 _ _ _
    refine b8 okr (hb.le d1) g1 (take_le ok hl i) fun y10 y12 y13 y14 G2 g2 fr => ⟨_, _, _, _, _, rfl, ?_, fun a o q => ?_⟩
    · rw [g2, List.take_succ_eq_append_getElem hi, er2, List.flatMap_append]; simp
    · have ne : a ≠ fo := fun z => by rw [z, hf0] at q; cases q
      exact fr a o (by simpa using ne) (d1 _ _ q)
  · rintro τ G1 ⟨x8, x10, x12, x13, x14, rfl, g1, d1⟩
    have hle := paired_len ht2
    rw [List.length_map, hle, List.take_length] at g1
    refine st9 g1 (teams_ok ok) fun r hr => hQ r _ ?_ dup_same (d1.trans (DLe.new hr))
    cases zz : G0 r with
    | none => rfl
    | some o => rw [d1 _ _ zz] at hr; cases hr
theorem st7 {tb : Addr} {tabs : List (List (List Str))} (ok : ∀ rows ∈ tabs, RowsOk rows) (hl : tabs.length ≤ 61) (ht : TabsL G tb tabs) (hQ : ∀ r G', G r = none → G' r = some (.lst ((sortT (tabs.flatMap teamsR)).map tupT)) → DLe G G' → Q (.ref r) G') :
    R_sure_teams_7 Y P E' { nx := nx, rt := Q } [o0, o1, o2, o3, o4, some (.ref tb), o6, o7, o8, o9, o10, o11, o12, o13, o14] G := by
  simp only [R_sure_teams_7, L_sure_teams_7, dSeq, dAsg, dLst, dNil, dgName, List.length_nil, List.set]
  refine ⟨by omega, fun fo hfo => ?_⟩
  exact st8 ok hl ht hfo (DLe.new hfo) dup_same hQ
theorem st6 {tb : Addr} {most : Int} {tabs : List (List (List Str))} (ok : ∀ rows ∈ tabs, RowsOk rows) (hl : tabs.length ≤ 61) (ht : TabsL G tb tabs) (hE : most < (manyT tabs : Nat) → E' (ga Y.K "TooMany") [("most", .int most)] G) (hQ : ((manyT tabs : Nat) : Int) ≤ most → ∀ r G', G r = none → G' r = some (.lst ((sortT (tabs.flatMap teamsR)).map tupT)) → DLe G G' → Q (.ref r) G') :
    R_sure_teams_6 Y P E' { nx := nx, rt := Q } [o0, o1, o2, some (.int most), o4, some (.ref tb), o6, some (.int (manyT tabs : Nat)), o8, o9, o10, o11, o12, o13, o14] G := by
  simp only [R_sure_teams_6, L_sure_teams_6, dSeq, dIfS, dTest, dOp, dVar, List.getElem?_cons_zero, List.getElem?_cons_succ]
  by_cases c : most < (manyT tabs : Nat)
  · simp [rInt, c, dRaise, dCons, dNil, dVar]
    exact hE c
  · simp [rInt, c, dNext]
    exact st7 ok hl ht (hQ (by omega))
theorem st5 {tb : Addr} {most : Int} {tabs : List (List (List Str))} (ok : ∀ rows ∈ tabs, RowsOk rows) (hl : tabs.length ≤ 61) (ht : TabsL G tb tabs) (hE : most < (manyT tabs : Nat) → E' (ga Y.K "TooMany") [("most", .int most)] G) (hQ : ((manyT tabs : Nat) : Int) ≤ most → ∀ r G', G r = none → G' r = some (.lst ((sortT (tabs.flatMap teamsR)).map tupT)) → DLe G G' → Q (.ref r) G') :
    R_sure_teams_5 Y P E' { nx := nx, rt := Q } [o0, o1, o2, some (.int most), o4, some (.ref tb), o6, some (.int 0), o8, o9, o10, o11, o12, o13, o14] G := by
  obtain ⟨ts, ht1, ht2⟩ := id ht
  simp only [R_sure_teams_5, L_sure_teams_5, dSeq, dFor, dSeqI, dVar, List.getElem?_cons_zero, List.getElem?_cons_succ, ht1]
  refine ⟨fun i τ G' => G' = G ∧ ∃ x8 x9 x10, τ = [o0, o1, o2, some (.int most), o4, some (.ref tb), o6, some (.int (manyT (tabs.take i) : Nat)), x8, x9, x10, o11, o12, o13, o14],
    ⟨rfl, _, _, _, by simp [manyT]; exact ⟨rfl, rfl, rfl⟩⟩, ?_, ?_, ?_⟩
  · rintro i τ G' ⟨rfl, _⟩
    exact ht1
  · rintro i x τ G1 qx ⟨rfl, x8, x9, x10, rfl⟩
    rw [List.getElem?_map] at qx
    cases q2 : ts[i]? with
    | none => rw [q2] at qx; cases qx
    | some b =>
    rw [q2] at qx
    cases qx
    obtain ⟨rows, er, ps, hb1, hb2⟩ := paired_get ht2 q2
    obtain ⟨hi, er2⟩ := List.getElem?_eq_some_iff.mp er
    have okr := ok rows (by rw [← er2]; exact List.getElem_mem hi)
    simp only [dgName, dAsg, dC, List.set, List.length_cons, List.length_nil, dSeq, dFor, dSeqI, dVar, List.getElem?_cons_zero, List.getElem?_cons_succ, hb1]
    refine ⟨fun j τ G' => G' = G1 ∧ ∃ x10, τ = [o0, o1, o2, some (.int most), o4, some (.ref tb), o6, some (.int (manyT (tabs.take i) : Nat)), some (.ref b), some (.int ((prodG (rows.take j)).length : Nat)), x10, o11, o12, o13, o14], ⟨rfl, _, by simp [prodG]; exact rfl⟩, ?_, ?_, ?_⟩
    · rintro j τ G' ⟨rfl, _⟩
      exact hb1
    · rintro j y τ G2 qy ⟨rfl, y10, rfl⟩
      rw [List.getElem?_map] at qy
      cases q3 : ps[j]? with
      | none => rw [q3] at qy; cases qy
      | some c =>
      rw [q3] at qy
      cases qy
      obtain ⟨r, er3, hc⟩ := paired_get hb2 q3
      obtain ⟨hj, er4⟩ := List.getElem?_eq_some_iff.mp er3
      have hb := okr.bd j
      have hb' := okr.bd (j + 1)
      have ep : (prodG (rows.take (j + 1))).length = (prodG (rows.take j)).length * r.length := by
        rw [List.take_succ_eq_append_getElem hj, er4, prod_snoc]
      simp [dgName, dAsg, dOp, dVar, dCB, dCons, dNil, DL.rLen, hc, rInt, CMul]
      refine ⟨.inl ⟨by omega, by omega⟩, ?_⟩
      rw [ep, Int.natCast_mul]
    · rintro τ G2 ⟨rfl, y10, rfl⟩
      have hle := paired_len hb2
      rw [List.length_map, hle, List.take_length]
      simp [dAsg, dOp, dVar, DL.rAdd, dgName]
      have em : manyT (tabs.take (i + 1)) = manyT (tabs.take i) + (prodG rows).length := by
        rw [List.take_succ_eq_append_getElem hi, er2]; simp [manyT]
      rw [em, Int.natCast_add]
  · rintro τ G1 ⟨rfl, x8, x9, x10, rfl⟩
    have hle := paired_len ht2
    rw [List.length_map, hle, List.take_length]
    exact st6 ok hl ht hE hQ
end
end HD

set_option Elab.async false
set_option linter.all false
set_option maxRecDepth 100000
set_option maxHeartbeats 1000000
namespace HD
open PySem PySem.Spec PyProof.Rows L2 L2.DL He LamX
def tabsW (parts : Int) (ns : List Str) (root : Str → Str) (turn : Str → Int) : List (List (List Str)) := (none :: (piecesOf ns root).map some).map (rowsW parts ns root turn)
theorem tabsW_len {parts : Int} {ns : List Str} {root : Str → Str} {turn : Str → Int} (h : ns.length ≤ 60) : (tabsW parts ns root turn).length ≤ 61 := by
  have : (piecesOf ns root).length ≤ 60 := Nat.le_trans (List.length_filter_le ..) h
  simp [tabsW]; omega
section
variable {Y : Wd} {P : Addr} {E' : DX} {G : DH} {Q : DVK} {nx : DSt → DH → Prop} {o0 o1 o2 o3 o4 o5 o6 o7 o8 o9 o10 o11 o12 o13 o14 : Option D}
theorem st3 {p : Addr} {parts most : Int} {ns : List Str} {root : Str → Str} {turn : Str → Int} (ws : WebS Y.K G p parts ns root turn) (hl : ns.length ≤ 60) (hm0 : 0 < parts) (hm1 : parts ≤ 12) (ok : ∀ rows ∈ tabsW parts ns root turn, RowsOk rows)
    (hE : ∀ G', DLe G G' → most < (manyT (tabsW parts ns root turn) : Nat) → E' (ga Y.K "TooMany") [("most", .int most)] G') (hQ : ((manyT (tabsW parts ns root turn) : Nat) : Int) ≤ most → ∀ r G', G r = none → G' r = some (.lst ((sortT ((tabsW parts ns root turn).flatMap teamsR)).map tupT)) → DLe G G' → Q (.ref r) G') :
    R_sure_teams_3 Y P E' { nx := nx, rt := Q } [o0, o1, o2, some (.int most), some (.ref p), o5, o6, o7, o8, o9, o10, o11, o12, o13, o14] G := by
  have lm : ∀ tl nm ro tu pa : Addr, List.lookup ("pieces" : Str) [("parts", D.int parts), ("told", .ref tl), ("names", .ref nm), ("roots", .ref ro), ("turns", .ref tu), ("parents", .ref pa), ("misfit", .non)] = none := by
    intro tl nm ro tu pa
    have : ∀ f ∈ (["parts", "told", "names", "roots", "turns", "parents", "misfit"] : List Str), (("pieces" : Str) == f) = false := by decide +kernel
    simp [List.lookup, this]
  have hpl : (piecesOf ns root).length ≤ 60 := Nat.le_trans (List.length_filter_le ..) hl
  have tl61 := tabsW_len (parts := parts) (root := root) (turn := turn) hl
  simp only [R_sure_teams_3, L_sure_teams_3, dSeq, dAsg, dC1, dSeqI, dOp, dLst, dC, dCons, dNil]
  refine ⟨by simp, fun q0 hq0 => ?_⟩
  have d0 : DLe G (dup G q0 (.lst [.non])) := DLe.new hq0
  have w0 := ws.le d0
  obtain ⟨tl, nm, ro, tu, pa, kr, kt, h1, h2, h3, h4, h5⟩ := id w0
  simp only [dMeth, dVar, List.getElem?_cons_zero, List.getElem?_cons_succ, h1, webO, lm, dNil]
  refine ⟨trivial, trivial, ?_⟩
  refine ⟨p, parts, ns, root, turn, rfl, w0, hl, fun q1 hq1 => ?_⟩
  have d1 := DLe.new (G := dup G q0 (.lst [.non])) (o := .lst (((ns.filter fun x => decide (root x = x))).map .str)) hq1
  have n10 : q0 ≠ q1 := fun z => by rw [z, dup_same] at hq1; cases hq1
  generalize hG1 : dup (dup G q0 (.lst [.non])) q1 (.lst (((ns.filter fun x => decide (root x = x))).map .str)) = G1 at d1 ⊢
  have g0 : G1 q0 = some (.lst [.non]) := by rw [← hG1, dup_ne n10, dup_same]
  have g1 : G1 q1 = some (.lst ((piecesOf ns root).map .str)) := by rw [← hG1, dup_same]; rfl
  simp only [DL.rAdd, g0, g1]
  refine ⟨by simp; omega, fun q2 hq2 => ?_⟩
  have d2 := DLe.new (G := G1) (o := .lst ([D.non] ++ (piecesOf ns root).map .str)) hq2
  have dd := (d0.trans d1).trans d2
  simp only [dup_same]
  intro d hd
  have el : [D.non] ++ (piecesOf ns root).map D.str = (none :: (piecesOf ns root).map some).map optD := by simp [optD]
  rw [el] at dd hd ⊢
  have wl : (none :: (piecesOf ns root).map some).length ≤ 61 := by simp; omega
  have ew : tabsW parts ns root turn = (none :: (piecesOf ns root).map some).map (rowsW parts ns root turn) := rfl
  generalize (none :: (piecesOf ns root).map some) = os at dd hd wl ew ⊢
  generalize hG2 : dup G1 q2 (.lst (os.map optD)) = G2 at dd hd ⊢
  have g2 : G2 q2 = some (.lst (os.map optD)) := by rw [← hG2, dup_same]
  have gd : G d = none := by
    cases zz : G d with
    | none => rfl
    | some o => rw [dd _ _ zz] at hd; cases hd
  refine ⟨fun i G' => i ≤ os.length ∧ DLe G2 G' ∧ (∃ ts : List Addr, G' d = some (.lst (ts.map .ref)) ∧ Paired (fun a rows => RowsO d G' a rows) ts ((os.take i).map (rowsW parts ns root turn))), ⟨Nat.zero_le _, DLe.new hd, [], by rw [dup_same]; rfl, .nil⟩, ?_, ?_, ?_⟩
  · rintro i G' ⟨_, dle, _⟩
    exact dle _ _ g2
  · rintro i x G3 qx ⟨hi, dle, ts, t1, t2⟩
    rw [List.getElem?_map] at qx
    cases q3 : os[i]? with
    | none => rw [q3] at qx; cases qx
    | some o =>
    rw [q3] at qx
    cases qx
    obtain ⟨hi2, eo⟩ := List.getElem?_eq_some_iff.mp q3
    have pl := paired_len t2
    simp at pl
    simp only [dgName, dwipe, dYes, dmL, dCall, dCons, dNil, dVar, List.foldl, List.set, List.length_cons, List.length_nil, List.getElem?_cons_zero, List.getElem?_cons_succ]
    refine ⟨p, parts, ns, root, turn, o, rfl, (ws.le dd).le dle, hl, hm0, hm1, fun r G4 hr hR d4 => ?_⟩
    have t1' := d4 _ _ t1
    simp only [withL, t1']
    refine ⟨by simp; omega, hi2, fun a o' q' => ?_, ts ++ [r], by rw [dup_same]; simp, ?_⟩
    · have ne : a ≠ d := fun z => by rw [z, hd] at q'; cases q'
      rw [dup_ne ne]; exact d4 _ _ (dle _ _ q')
    · rw [List.take_succ_eq_append_getElem hi2, eo, List.map_append]
      refine paired_snoc (Paired.mapP t2 fun a rows z => z.put d4) ?_
      exact (hR.other hr t1).put (DLe.refl G4)
  · rintro G3 ⟨_, dle, ts, t1, t2⟩
    rw [List.length_map, List.take_length, ← ew] at t2
    have tabs : TabsL G3 d (tabsW parts ns root turn) := ⟨ts, t1, Paired.mapP t2 fun _ _ z => z.rows⟩
    simp only [dgName, List.set]
    have d3 := dd.trans dle
    show R_sure_teams_4 Y P E' _ _ _
    simp only [R_sure_teams_4, L_sure_teams_4, dSeq, dAsg, dC, dgName, List.set]
    exact st5 ok tl61 tabs (hE G3 d3) fun c r G' hr g dl => hQ c r G' (by
      cases zz : G r with
      | none => rfl
      | some o => rw [d3 _ _ zz] at hr; cases hr) g (d3.trans dl)
end
def sp_sure_teams (K : PySem.W.Frag) : DSp := fun ds G Q E => ∃ lg parts days, ∃ most : Int, ds = [.ref lg, .int 0, .int (days.length : Nat), .int most] ∧ G lg = some (logO K parts days) ∧ daysOk parts days ∧ 0 < parts ∧ parts ≤ 12 ∧ 1 ≤ most ∧ most ≤ 100000 ∧ (∃ φ, WB.Pot parts (tiesOf parts (toldT days)) φ) ∧
  ∀ ns root turn, WSp parts (toldT days) ns root turn → (∀ rows ∈ tabsW parts ns root turn, RowsOk rows) ∧
    (most < (manyT (tabsW parts ns root turn) : Nat) → E (ga K "TooMany") [("most", .int most)] G) ∧
    (((manyT (tabsW parts ns root turn) : Nat) : Int) ≤ most → ∀ r G', G r = none → G' r = some (.lst ((sortT ((tabsW parts ns root turn).flatMap teamsR)).map tupT)) → DLe G G' → Q (.ref r) G')
theorem v_sure_teams {Y : Wd} (L : WebF Y.K) (LL : LogF Y.K) (ds G Q E) (h : sp_sure_teams Y.K ds G Q E) : t_sure_teams Y (sp_Web_pieces Y.K) (sp_balanced_web Y.K) sp_check_most (sp_check_stretch Y.K) (sp_piece_rows Y.K) (downX E) { nx := fun _ G' => down Q .non G', rt := down Q } (dstart N_sure_teams ds) G := by
  obtain ⟨lg, parts, days, most, rfl, hl, hd, hm0, hm1, hmo, hmo2, hφ, h⟩ := h
  have k0 := hd.1
  have e0 : t_sure_teams Y (sp_Web_pieces Y.K) (sp_balanced_web Y.K) sp_check_most (sp_check_stretch Y.K) (sp_piece_rows Y.K) (downX E) = R_sure_teams_0 Y 0 (downX E) := rfl
  rw [e0]
  simp [R_sure_teams_0, L_sure_teams_0, dSeq, dDrop, dCall, dCons, dNil, dVar, dstart, N_sure_teams]
  refine ⟨lg, parts, days, 0, (days.length : Nat), rfl, hl, by omega, by omega, by omega, ?_⟩
  simp [R_sure_teams_1, L_sure_teams_1, dCall, dCons, dNil, dVar, dDrop, dSeq, sp_check_most, hmo, hmo2]
  simp only [R_sure_teams_2, L_sure_teams_2, dSeq, dAsg, dCall, dCons, dNil, dVar, dgName, List.getElem?_cons_zero, List.getElem?_cons_succ]
  refine ⟨lg, parts, days, rfl, hl, hd, hm0, hφ, fun p G1 ns root turn hp ws sp dle => ?_⟩
  obtain ⟨ok, hE, hQ⟩ := h ns root turn sp
  refine st3 ws sp.len hm0 hm1 ok (fun G' d c => ⟨G, dle.trans d, hE c⟩) fun c r G' hr g d => ?_
  refine down.of (hQ c r G' ?_ g (dle.trans d))
  cases zz : G r with
  | none => rfl
  | some o => rw [dle _ _ zz] at hr; cases hr
end HD

set_option Elab.async false
set_option linter.all false
set_option maxRecDepth 100000
set_option maxHeartbeats 1000000
namespace HD
open PySem PySem.Spec PyProof.Rows L2 L2.DL He LamX
def Atom (d : D) : Prop := (∃ i, d = .int i) ∨ ∃ x, d = .str x
def SameR (G : DH) : Nat → D → D → Prop
  | 0, d, e => d = e ∧ Atom d
  | n + 1, d, e => (d = e ∧ Atom d) ∨ (∃ xs ys : List D, d = .tup xs ∧ e = .tup ys ∧ xs.length = ys.length ∧ xs.length ≤ 100000 ∧ ∀ (i : Nat) x y, xs[i]? = some x → ys[i]? = some y → SameR G n x y) ∨
    ∃ (a b : Addr) (xs ys : List D), d = .ref a ∧ e = .ref b ∧ G a = some (.lst xs) ∧ G b = some (.lst ys) ∧ xs.length = ys.length ∧ xs.length ≤ 100000 ∧ ∀ (i : Nat) x y, xs[i]? = some x → ys[i]? = some y → SameR G n x y
theorem SameR.le {G G' : DH} (l : DLe G G') : ∀ {n : Nat} {d e : D}, SameR G n d e → SameR G' n d e
  | 0, _, _, h => h
  | n + 1, _, _, h => by
    rcases h with h | ⟨xs, ys, h1, h2, h3, h4, h5⟩ | ⟨a, b, xs, ys, h1, h2, h3, h4, h5, h6, h7⟩
    · exact .inl h
    · exact .inr (.inl ⟨xs, ys, h1, h2, h3, h4, fun i x y q1 q2 => SameR.le l (h5 i x y q1 q2)⟩)
    · exact .inr (.inr ⟨a, b, xs, ys, h1, h2, l _ _ h3, l _ _ h4, h5, h6, fun i x y q1 q2 => SameR.le l (h7 i x y q1 q2)⟩)
def sp_sameR (n : Nat) : DSp := fun ds G Q _ => ∃ d e, ds = [d, e] ∧ SameR G n d e ∧ Q (.bl true) G
def sp_no : DSp := fun _ _ _ _ => False
theorem same_atom {Y : Wd} {sp : DSp} {d : D} {G : DH} {Q : DVK} {E : DX} (h : Atom d) (k : Q (.bl true) G) : t__law_same Y sp (downX E) { nx := fun _ G' => down Q .non G', rt := down Q } (dstart N__law_same [d, d]) G := by
  rcases h with ⟨i, rfl⟩ | ⟨x, rfl⟩
  · simp [t__law_same, dSeq, dIfS, dTru, dIsi, dVar, dstart, N__law_same, tagOf, TgOk, askO, askT, ask2, Tg.nm, tru, dNext, dOr, dTest, dOp, dC, rIsN, D.isN, dRet, dAndV, rEqD1]
    exact down.of k
  · simp [t__law_same, dSeq, dIfS, dTru, dIsi, dVar, dstart, N__law_same, tagOf, TgOk, askO, askT, ask2, Tg.nm, tru, dNext, dOr, dTest, dOp, dC, rIsN, D.isN, dRet, dAndV, rEqD1]
    exact down.of k
theorem v__law_same0 {Y : Wd} (ds G Q E) (h : sp_sameR 0 ds G Q E) : t__law_same Y sp_no (downX E) { nx := fun _ G' => down Q .non G', rt := down Q } (dstart N__law_same ds) G := by
  obtain ⟨d, e, rfl, ⟨rfl, hd⟩, k⟩ := h
  exact same_atom hd k
theorem v__law_sameS {Y : Wd} (n : Nat) (ds G Q E) (h : sp_sameR (n + 1) ds G Q E) : t__law_same Y (sp_sameR n) (downX E) { nx := fun _ G' => down Q .non G', rt := down Q } (dstart N__law_same ds) G := by
  obtain ⟨d, e, rfl, hd, k⟩ := h
  have fin : ∀ (xs ys : List D), xs.length = ys.length → xs.length ≤ 100000 → (∀ (i : Nat) x y, xs[i]? = some x → ys[i]? = some y → SameR G n x y) → ∀ p, G p = none → ∀ (o2 : Option D) (d1 d2 : D) (D : DEnds) (N : DVK),
      (∀ i x G1, (zipD xs ys)[i]? = some x → G1 = dup G p (.lst (List.replicate i (.bl true))) ∧ i ≤ xs.length → dgTup 2 (dgCons (dgName 3) (dgCons (dgName 4) dgNil)) x (dwipe [some d1, some d2, o2, none, none] [3, 4]) G1 fun τ2 G2 => dYes τ2 G2 fun b G3 => match b with
        | true => dmL (dCall (sp_sameR n) [] DX0 (dCons (dVar 3) (dCons (dVar 4) dNil))) p τ2 G3 (fun G' => G' = dup G p (.lst (List.replicate (i + 1) (.bl true))) ∧ i + 1 ≤ xs.length)
        | false => (fun G' => G' = dup G p (.lst (List.replicate (i + 1) (.bl true))) ∧ i + 1 ≤ xs.length) G3) := by
    intro xs ys hl hl2 hx p hp o2 d1 d2 _ _ i x G1 hx2 hG
    obtain ⟨rfl, hi⟩ := hG
    obtain ⟨u, w, e1, e2, rfl⟩ := DL.zip_get hx2
    have hu : SameR (dup G p (.lst (List.replicate i (.bl true)))) n u w := (hx i u w e1 e2).le (DLe.new hp)
    have hk : List.replicate i (D.bl true) ++ [D.bl true] = List.replicate (i + 1) (D.bl true) := (List.replicate_succ' ..).symm
    have hi2 := (List.getElem?_eq_some_iff.mp e1).1
    simp [dgTup, dgCons, dgNil, dgName, dwipe, dYes, dmL, dCall, dCons, dNil, dVar]
    refine ⟨u, w, rfl, hu, ?_⟩
    simp [withL, dup_same, dup_dup, hk]
    omega
  rcases hd with ⟨rfl, hd⟩ | ⟨xs, ys, rfl, rfl, hl, hl2, hx⟩ | ⟨a, b, xs, ys, rfl, rfl, ha, hb, hl, hl2, hx⟩
  · exact same_atom hd k
  · simp [t__law_same, dSeq, dIfS, dTru, dIsi, dVar, dstart, N__law_same, tagOf, TgOk, askO, askT, ask2, Tg.nm, tru, dNext, dOr, dTest, dNot, dOp, dC, rNotOf, rEqD1, dRet, dAndV, dCB, dCons, dNil, DL.rLen, dC1, dZip, dSeqK, hl]
    intro p hp
    refine ⟨fun i G' => G' = dup G p (.lst (List.replicate i (.bl true))) ∧ i ≤ xs.length, ⟨rfl, Nat.zero_le _⟩, ?_, ?_⟩
    · intro i x G1 hx2 hG1
      exact fin xs ys hl hl2 hx p hp none (.tup xs) (.tup ys) ⟨fun _ _ => True, fun _ _ => True, fun _ _ => True, fun _ _ => True⟩ (fun _ _ => True) i x G1 hx2 hG1
    · rintro G1 ⟨rfl, hi⟩
      simp [rAllB, dup_same, blsOf_rep]
      exact ⟨G, DLe.new hp, k⟩
  · simp [t__law_same, dSeq, dIfS, dTru, dIsi, dVar, dstart, N__law_same, tagOf, ha, hb, TgOk, askO, askT, ask2, Tg.nm, tru, dNext, dOr, dTest, dNot, dOp, dC, rNotOf, rEqD1, dRet, dAndV, dCB, dCons, dNil, DL.rLen, dC1, dZip, dSeqK, hl]
    intro p hp
    have nap : a ≠ p := fun z => by rw [z, hp] at ha; cases ha
    have nbp : b ≠ p := fun z => by rw [z, hp] at hb; cases hb
    refine ⟨fun i G' => G' = dup G p (.lst (List.replicate i (.bl true))) ∧ i ≤ xs.length, ⟨rfl, Nat.zero_le _⟩, ?_, ?_, ?_⟩
    · rintro i G' ⟨rfl, _⟩
      rw [dup_ne nap, dup_ne nbp]; exact ⟨ha, hb⟩
    · intro i x G1 hx2 hG1
      exact fin xs ys hl hl2 hx p hp none (.ref a) (.ref b) ⟨fun _ _ => True, fun _ _ => True, fun _ _ => True, fun _ _ => True⟩ (fun _ _ => True) i x G1 hx2 hG1
    · rintro G1 ⟨rfl, hi⟩
      simp [rAllB, dup_same, blsOf_rep]
      exact ⟨G, DLe.new hp, k⟩
end HD

set_option Elab.async false
set_option linter.all false
set_option maxRecDepth 100000
set_option maxHeartbeats 1000000
namespace HD
open PySem PySem.Spec PyProof.Rows L2 L2.DL He LamX
theorem get_map {α β : Type} {f : α → β} {l : List α} {i : Nat} {y : β} (h : (l.map f)[i]? = some y) : ∃ x, l[i]? = some x ∧ y = f x := by
  rw [List.getElem?_map] at h
  cases q : l[i]? with
  | none => rw [q] at h; cases h
  | some x => rw [q] at h; cases h; exact ⟨x, rfl, rfl⟩
theorem none_of {G G' : DH} {a : Addr} (l : DLe G G') (h : G' a = none) : G a = none := by
  cases zz : G a with
  | none => rfl
  | some o => rw [l _ _ zz] at h; cases h
theorem DLe.put {G G1 G' : DH} {a : Addr} {o : DO} (l : DLe G G1) (n : G a = none) (l2 : DLe G1 G') : DLe G (dup G' a o) := fun b u q => by
  have : b ≠ a := fun z => by rw [z, n] at q; cases q
  rw [dup_ne this]; exact l2 _ _ (l _ _ q)
def sp__law_teams : DSp := fun ds G Q _ => ∃ a rows, ds = [.ref a] ∧ RowsL G a rows ∧ RowsOk rows ∧ ∀ r G', G r = none → G' r = some (.lst ((teamsR rows).map tupT)) → DLe G G' → Q (.ref r) G'
theorem step_len (ts : List (List Str)) (r : List Str) : (ts.flatMap fun t => r.map fun x => t ++ [x]).length = ts.length * r.length := by
  induction ts with
  | nil => simp
  | cons u us ih => simp only [List.flatMap_cons, List.length_append, List.length_map, ih, List.length_cons, Nat.add_mul]; omega
theorem v__law_teams {Y : Wd} (ds G Q E) (h : sp__law_teams ds G Q E) : t__law_teams Y (downX E) { nx := fun _ G' => down Q .non G', rt := down Q } (dstart N__law_teams ds) G := by
  obtain ⟨rw_, rows, rfl, ⟨ps, hp1, hp2⟩, ok, h⟩ := h
  simp [t__law_teams, dSeq, dAsg, dLst, dTup, dCons, dNil, dgName, dstart, N__law_teams]
  intro q hq
  have nrq : rw_ ≠ q := fun z => by rw [z, hq] at hp1; cases hp1
  simp [dFor, dSeqI, dVar, dup_ne nrq, hp1]
  refine ⟨fun i τ G' => ∃ fa x2 x3 x4 x5, τ = [some (.ref rw_), some (.ref fa), x2, x3, x4, x5] ∧ G fa = none ∧ G' fa = some (.lst (((rows.take i).foldl stepP [[]]).map tupT)) ∧ DLe G G',
    ⟨q, _, _, _, _, rfl, hq, by rw [dup_same]; simp [tupT], DLe.new hq⟩, ?_, ?_, ?_⟩
  · rintro i τ G' ⟨fa, _, _, _, _, rfl, _, _, dle⟩
    exact dle _ _ hp1
  · rintro i x τ G1 b eb rfl ⟨fa, x2, x3, x4, x5, rfl, nfa, hfa, dle⟩
    obtain ⟨r, er, hbr⟩ := paired_get hp2 eb
    obtain ⟨hi, er2⟩ := List.getElem?_eq_some_iff.mp er
    have hrl : r.length ≤ 60 := ok.ln r (by rw [← er2]; exact List.getElem_mem hi)
    have hb1 := dle _ _ hbr
    have el : ((rows.take i).foldl stepP [[]]).length ≤ 2000 := by rw [foldP]; exact ok.bd i
    have es : (rows.take (i + 1)).foldl stepP [[]] = stepP ((rows.take i).foldl stepP [[]]) r := by
      rw [List.take_succ_eq_append_getElem hi, List.foldl_append, er2]; rfl
    have htl : ∀ t ∈ (rows.take i).foldl stepP [[]], t.length ≤ 12 := fun t ht => by
      rw [foldP] at ht
      have := (prod_mem ht).1
      rw [List.length_take] at this
      have := ok.l1
      omega
    generalize (rows.take i).foldl stepP [[]] = ts at hfa el es htl
    simp only [dgName, dSeq, dAsg, dLst, dNil, List.set, List.length_nil]
    refine ⟨by omega, fun la hla => ?_⟩
    have nfl : fa ≠ la := fun z => by rw [z, hla] at hfa; cases hfa
    have gla := none_of dle hla
    simp only [dFor, dSeqI, dVar, List.getElem?_cons_zero, List.getElem?_cons_succ]
    rw [dup_ne nfl, hfa]
    refine ⟨fun j τ G' => ∃ x4 x5, τ = [some (.ref rw_), some (.ref fa), some (.ref b), some (.ref la), x4, x5] ∧ G' la = some (.lst (((ts.take j).flatMap fun t => r.map fun x => t ++ [x]).map tupT)) ∧ DLe G1 G',
      ⟨_, _, rfl, by rw [dup_same]; simp, DLe.new hla⟩, ?_, ?_, ?_⟩
    · rintro j τ G' ⟨_, _, rfl, _, d2⟩
      exact d2 _ _ hfa
    · rintro j y τ G2 qy ⟨x4, x5, rfl, g2, d2⟩
      obtain ⟨t, et, rfl⟩ := get_map (f := tupT) qy
      obtain ⟨hj, et2⟩ := List.getElem?_eq_some_iff.mp et
      have htl2 := htl t (by rw [← et2]; exact List.getElem_mem hj)
      have hb2 := d2 _ _ hb1
      have lpre : ((ts.take j).flatMap fun t => r.map fun x => t ++ [x]).length ≤ 120000 := by
        rw [step_len, List.length_take]
        have : min j ts.length * r.length ≤ 2000 * 60 := Nat.mul_le_mul (by omega) hrl
        omega
      have efm : ((ts.take (j + 1)).flatMap fun t => r.map fun x => t ++ [x]) = ((ts.take j).flatMap fun t => r.map fun x => t ++ [x]) ++ r.map fun x => t ++ [x] := by
        rw [List.take_succ_eq_append_getElem hj, et2, List.flatMap_append]; simp
      generalize ((ts.take j).flatMap fun t => r.map fun x => t ++ [x]) = pre at g2 lpre efm
      simp only [dgName, List.set, dDrop, dBM, dVar, List.getElem?_cons_zero, List.getElem?_cons_succ, isTy, g2, dCons, dNil, dC1, dSeqI, hb2]
      refine ⟨trivial, fun d hd => ?_⟩
      have nld : la ≠ d := fun z => by rw [z, hd] at g2; cases g2
      obtain ⟨W, w0, wn, wl, we⟩ : ∃ W : Nat → List D, W 0 = [] ∧ (∀ j x, r[j]? = some x → W (j + 1) = W j ++ [tupT (t ++ [x])]) ∧ (∀ j, (W j).length ≤ 60) ∧ W r.length = (r.map fun x => t ++ [x]).map tupT := by
        refine ⟨fun j => ((r.take j).map fun x => t ++ [x]).map tupT, by simp, fun j x hx => ?_, fun j => ?_, by dsimp only; rw [List.take_length]⟩
        · obtain ⟨hj, ex⟩ := List.getElem?_eq_some_iff.mp hx
          simp only [List.take_succ_eq_append_getElem hj, ex, List.map_append, List.map_cons, List.map_nil, List.append_assoc]
        · simp only [List.length_map, List.length_take]; omega
      refine ⟨fun k G' => G' d = some (.lst (W k)) ∧ DLe G2 G', ⟨by rw [dup_same, w0], DLe.new hd⟩, ?_, ?_, ?_⟩
      · rintro k G' ⟨_, d3⟩
        exact d3 _ _ hb2
      · rintro k y G3 qy3 ⟨g3, d3⟩
        obtain ⟨z, ez, rfl⟩ := get_map (f := D.str) qy3
        have wk := wn k z ez
        have wlk := wl k
        simp [dgName, dwipe, dYes, dmL, dOp, dVar, dTup, dCons, dNil, DL.rAdd, tupT, withL, g3]
        exact ⟨by omega, by omega, by rw [dup_same, wk]; simp [tupT], DLe.put (DLe.refl G2) hd d3⟩
      · rintro G3 ⟨g3, d3⟩
        have g3' : G3 d = some (.lst ((r.map fun x => t ++ [x]).map tupT)) := by rw [← we]; simpa using g3
        have gl3 := d3 _ _ g2
        simp [rExt, nld, withL, gl3, g3']
        exact ⟨by omega, by rw [dup_same, efm]; simp, DLe.put d2 hla d3⟩
    · rintro τ G2 ⟨x4, x5, rfl, g2, d2⟩
      rw [List.length_map, List.take_length] at g2
      simp only [dAsg, dVar, dgName, List.set, List.getElem?_cons_zero, List.getElem?_cons_succ]
      exact ⟨la, _, _, _, _, rfl, gla, by rw [g2, es]; rfl, dle.trans d2⟩
  · rintro τ G1 ⟨fa, x2, x3, x4, x5, rfl, nfa, hfa, dle⟩
    have hle := paired_len hp2
    have hfa' : G1 fa = some (.lst ((prodG rows).map tupT)) := by
      rw [hfa, ← foldP]; simp [hle]
    have lrows : ∀ t ∈ prodG rows, t.length ≤ 12 := fun t ht => by
      have := (prod_mem ht).1
      have := ok.l1
      omega
    have lpr := prod_le ok
    have eT : teamsR rows = (prodG rows).map sortStr := rfl
    rw [eT] at h
    generalize prodG rows = ts at hfa' lrows lpr h
    simp only [dRet, dC1, dSeqI, dVar, List.getElem?_cons_zero, List.getElem?_cons_succ, hfa']
    intro d hd
    refine ⟨fun i2 G' => G' d = some (.lst (((ts.take i2).map sortStr).map tupT)) ∧ DLe G1 G', ⟨by rw [dup_same]; simp, DLe.new hd⟩, ?_, ?_, ?_⟩
    · rintro i2 G' ⟨_, dle2⟩
      exact dle2 _ _ hfa'
    · rintro i2 x G2 qx2 ⟨g1, dle2⟩
      obtain ⟨t, et, rfl⟩ := get_map (f := tupT) qx2
      obtain ⟨hi2, et2⟩ := List.getElem?_eq_some_iff.mp et
      have htl2 := lrows t (by rw [← et2]; exact List.getElem_mem hi2)
      simp [dgName, dwipe, dYes, dmL, dCB, dCons, dNil, dVar, rSortT, tupT, tup_strs]
      refine ⟨by omega, fun ys p hpm hss hp => ?_⟩
      have npd : d ≠ p := fun z => by rw [z, hp] at g1; cases g1
      simp [rTuple, seqOf, dup_same, withL, dup_ne npd, g1]
      refine ⟨by omega, ?_, ?_⟩
      · rw [List.take_succ_eq_append_getElem (by simpa using hi2)]; simp [et2, tupT, sortStr_eq hpm hss]
      · exact DLe.put (DLe.refl G1) hd (fun a u q' => by
          have q2 := dle2 _ _ q'
          have n2 : a ≠ p := fun z => by rw [z, hp] at q2; cases q2
          rw [dup_ne n2]; exact q2)
    · rintro G2 ⟨g1, dle2⟩
      rw [List.length_map, List.take_length] at g1
      exact down.of (h d G2 (none_of dle hd) g1 (dle.trans dle2))
end HD

set_option Elab.async false
set_option linter.all false
set_option maxRecDepth 100000
set_option maxHeartbeats 1000000
namespace HD
open PySem PySem.Spec PyProof.Rows L2 L2.DL He LamX
/-- the sixty names of the law -/
def names60 : List Str := (List.range 60).map fun i => ⟨#[97 + i / 8, 97 + i % 8]⟩
theorem names60_nd : names60.Nodup := by
  unfold names60
  refine List.Pairwise.map _ (S := (· ≠ ·)) (R := fun a b => a ≠ b ∧ a < 60 ∧ b < 60) ?_ ?_
  · rintro a b ⟨ne, ha, hb⟩ z
    injection z with z
    have z2 := congrArg Array.toList z
    simp at z2
    omega
  · rw [List.pairwise_iff_getElem]
    intro i j hi hj l
    simp at hi hj ⊢
    omega
theorem names60_ok : ∀ x ∈ names60, nameOk x := by
  intro x hx
  obtain ⟨i, hi, rfl⟩ := List.mem_map.mp hx
  have hi : i < 60 := by simpa using hi
  have key : ∀ k < 8, strIn ⟨#[97 + k]⟩ "abcdefghijklmnopqrstuvwxyz" = true := by decide +kernel
  refine ⟨by show 1 ≤ 2; omega, by show 2 ≤ 8; omega, fun c hc => ?_⟩
  simp at hc
  rcases hc with rfl | rfl
  · exact key (i / 8) (by omega)
  · exact key (i % 8) (by omega)
theorem perm_strs {ys : List D} {xs : List Str} (h : ys.Perm (xs.map .str)) : ∃ zs : List Str, ys = zs.map .str ∧ zs.Perm xs := by
  let g : D → Str := fun d => match d with | .str x => x | _ => ⟨#[]⟩
  have e1 : ys = (ys.map g).map .str := by
    rw [List.map_map]
    conv => lhs; rw [← List.map_id ys]
    apply List.map_congr_left
    intro y hy
    obtain ⟨x, _, rfl⟩ := List.mem_map.mp (h.mem_iff.mp hy)
    rfl
  have e2 : (ys.map g).Perm xs := by
    have := h.map g
    rw [List.map_map] at this
    have e : List.map (g ∘ D.str) xs = xs := by
      conv => rhs; rw [← List.map_id xs]
      rfl
    rw [e] at this; exact this
  exact ⟨_, e1, e2⟩
theorem perm_evs {ys : List D} {xs : List Ev} (h : ys.Perm (xs.map evv)) : ∃ zs : List Ev, ys = zs.map evv ∧ zs.Perm xs := by
  let g : D → Ev := fun d => match d with | .tup [_, .str a, .str b, .int n] => (a, b, n) | _ => (⟨#[]⟩, ⟨#[]⟩, 0)
  have e1 : ys = (ys.map g).map evv := by
    rw [List.map_map]
    conv => lhs; rw [← List.map_id ys]
    apply List.map_congr_left
    intro y hy
    obtain ⟨x, _, rfl⟩ := List.mem_map.mp (h.mem_iff.mp hy)
    rfl
  have e2 : (ys.map g).Perm xs := by
    have := h.map g
    rw [List.map_map] at this
    have e : List.map (g ∘ evv) xs = xs := by
      conv => rhs; rw [← List.map_id xs]
      rfl
    rw [e] at this; exact this
  exact ⟨_, e1, e2⟩
theorem cut_take {α : Type} {xs : List α} {n : Nat} (h : n ≤ xs.length) : DL.cutD xs none (some (n : Int)) = xs.take n := by
  have e : ¬ ((n : Nat) : Int) < 0 := by omega
  unfold DL.cutD
  simp [HT.sIx, e]
theorem cut_drop {α : Type} {xs : List α} {n : Nat} (h : n ≤ xs.length) : DL.cutD xs (some (n : Int)) none = xs.drop n := by
  have e : ¬ ((n : Nat) : Int) < 0 := by omega
  unfold DL.cutD
  have e2 : min n xs.length = n := by omega
  simp [HT.sIx, e, e2]
  rw [List.take_of_length_le]; simp
theorem insN_nd {xs : List Str} {x : Str} (h : xs.Nodup) : (insN xs x).Nodup := by
  unfold insN; split
  · exact h
  · rename_i c
    rw [List.nodup_append]
    refine ⟨h, by simp, ?_⟩
    intro a ha b hb
    simp at hb; subst hb
    intro q; subst q; exact c ha
theorem fold_nd : ∀ {es : List Ev} {xs : List Str}, xs.Nodup → (es.foldl addE xs).Nodup
  | [], _, h => h
  | e :: es, xs, h => by
    rw [List.foldl_cons]
    exact fold_nd (insN_nd (insN_nd h))
theorem fold_in : ∀ {es : List Ev} {xs : List Str} {y : Str}, y ∈ es.foldl addE xs → y ∈ xs ∨ ∃ e ∈ es, y = e.1 ∨ y = e.2.1
  | [], xs, y, h => .inl h
  | e :: es, xs, y, h => by
    rw [List.foldl_cons] at h
    rcases fold_in h with h | ⟨f, hf, q⟩
    · unfold addE at h
      rw [insN_mem, insN_mem] at h
      rcases h with h | h | h
      · exact .inr ⟨e, List.mem_cons_self, .inr h⟩
      · exact .inr ⟨e, List.mem_cons_self, .inl h⟩
      · exact .inl h
    · exact .inr ⟨f, List.mem_cons_of_mem _ hf, q⟩

theorem cut_takeA {α : Type} {xs : List α} {n : Nat} : DL.cutD xs none (some (n : Int)) = xs.take n := by
  rcases Nat.lt_or_ge xs.length n with c | c
  · have e : ¬ ((n : Nat) : Int) < 0 := by omega
    unfold DL.cutD
    simp [HT.sIx, e]
  · exact cut_take c
theorem cut_dropA {α : Type} {xs : List α} {n : Nat} : DL.cutD xs (some (n : Int)) none = xs.drop n := by
  rcases Nat.lt_or_ge xs.length n with c | c
  · have e : ¬ ((n : Nat) : Int) < 0 := by omega
    have e2 : min n xs.length = xs.length := by omega
    unfold DL.cutD
    simp [HT.sIx, e, e2]
    omega
  · exact cut_drop c
def sp__law_days_of : DSp := fun ds G Q _ => ∃ (h ca ev : Addr) (es : List Ev), ds = [.ref h, .ref ev] ∧ HandA G h ca ∧ G ev = some (.lst (es.map evv)) ∧ ev ≠ h ∧ es.length < 1000 ∧
  ∀ (days : List (List Ev)) G', days.flatten.Perm es → (∀ d ∈ days, 1 ≤ d.length ∧ d.length ≤ 12) → HandA G' h ca → Fr [h] G G' → Q (daysD days) G'
theorem v__law_days_of {Y : Wd} (ds G Q E) (k : sp__law_days_of ds G Q E) : t__law_days_of Y sp__law_draw sp__law_mixed (downX E) { nx := fun _ G' => down Q .non G', rt := down Q } (dstart N__law_days_of ds) G := by
  obtain ⟨h, ca, ev, es, rfl, hh, hev, ne, hl, k⟩ := k
  simp only [t__law_days_of, dSeq, dPar, dCons, dNil, dCall, dVar, dLst, dstart, N__law_days_of]
  refine ⟨h, ca, ev, _, rfl, hh, hev, ne, by simpa using hl, fun lf ys G1 hpm hlf g1 hh1 fr1 => ?_⟩
  obtain ⟨zs, rfl, hz⟩ := perm_evs hpm
  refine ⟨by simp, fun fo hfo => ?_⟩
  have nlf : lf ≠ fo := fun z => by rw [z, hfo] at g1; cases g1
  obtain ⟨nf1, nf2⟩ := hh1.fresh hfo
  obtain ⟨nl1, nl2⟩ := hh.fresh hlf
  have gfo : G fo = none := by
    cases zz : G fo with
    | none => rfl
    | some o => rw [fr1 _ _ (by simpa using nf1) zz] at hfo; cases hfo
  simp only [dWhile, List.set]
  refine ⟨fun m τ G' => ∃ lf x4 left days, m = left.length ∧ τ = [some (.ref h), some (.ref ev), some (.ref lf), some (.ref fo), x4] ∧ G' lf = some (.lst (left.map evv)) ∧ G lf = none ∧ lf ≠ h ∧ lf ≠ fo ∧ G' fo = some (.lst (days.map dayD)) ∧ (days.flatten ++ left).Perm es ∧ (∀ d ∈ days, 1 ≤ d.length ∧ d.length ≤ 12) ∧ HandA G' h ca ∧ Fr [h] G G',
    ⟨_, lf, _, zs, [], rfl, rfl, by rw [dup_ne nlf]; exact g1, hlf, nl1, nlf, by rw [dup_same]; rfl, by simpa using hz, by simp, hh1.le (DLe.new hfo), fun a o n q => ?_⟩, ?_⟩
  · have : a ≠ fo := fun z => by rw [z, gfo] at q; cases q
    rw [dup_ne this]; exact fr1 a o n q
  rintro m τ G2 ⟨lf, x4, left, days, rfl, rfl, g2, glf, nlh, nlf, g3, hpm2, hdl, hh2, fr2⟩
  have hlen := hpm2.length_eq
  rw [List.length_append] at hlen
  have hdays : days.length ≤ days.flatten.length := by
    have : ∀ dd : List (List Ev), (∀ d ∈ dd, 1 ≤ d.length ∧ d.length ≤ 12) → dd.length ≤ dd.flatten.length := fun dd => by
      induction dd with
      | nil => simp
      | cons d dd ih =>
        intro hd
        have h1 := (hd d List.mem_cons_self).1
        have h2 := ih fun x hx => hd x (List.mem_cons_of_mem _ hx)
        simp only [List.length_cons, List.flatten_cons, List.length_append]; omega
    exact this days hdl
  simp [dTest, dOp, dCB, dCons, dNil, dVar, dC, DL.rLen, g2, rInt]
  by_cases c : 0 < left.length
  · simp [c, dSeq, dAsg, dOp, dC, dCall, dCons, dNil, dVar]
    refine ⟨h, ca, 12, rfl, hh2, by omega, by omega, fun d G3 d0 d1 hh3 fr3 => ?_⟩
    have g2' := fr3 lf _ (by simpa using nlh) g2
    have g3' := fr3 fo _ (by simpa using nf1) g3
    obtain ⟨few, ef, f1, f2⟩ : ∃ few : Nat, 1 + d = (few : Int) ∧ 1 ≤ few ∧ few ≤ 12 := ⟨(1 + d).toNat, by omega, by omega, by omega⟩
    simp [DL.rAdd, ef, dgName, dSeq, dAsg, dDrop, dBM, dVar, isTy, g3', dCons, dNil, dCB, dSlice, dONone, dOSome, rSlice, g2']
    intro p hp
    have nfp : fo ≠ p := fun z => by rw [z, hp] at g3'; cases g3'
    have nlp : lf ≠ p := fun z => by rw [z, hp] at g2'; cases g2'
    obtain ⟨np1, np2⟩ := hh3.fresh hp
    rw [cut_takeA]
    simp [rTuple, seqOf, dup_same, rApp, withL, dup_ne nfp, g3', dup_ne nlp, g2', dup_ne nlf]
    refine ⟨by omega, ?_⟩
    intro q hq
    obtain ⟨nqf, hq⟩ := dup_none.mp hq
    obtain ⟨nqp, hq⟩ := dup_none.mp hq
    obtain ⟨nq1, nq2⟩ := hh3.fresh hq
    have gq : G q = none := by
      cases zz : G q with
      | none => rfl
      | some o => rw [fr3 _ _ (by simpa using nq1) (fr2 _ _ (by simpa using nq1) zz)] at hq; cases hq
    have gp : G p = none := by
      cases zz : G p with
      | none => rfl
      | some o => rw [fr3 _ _ (by simpa using np1) (fr2 _ _ (by simpa using np1) zz)] at hp; cases hp
    rw [cut_dropA]
    have nfq : fo ≠ q := fun z => nqf z.symm
    refine ⟨(left.drop few).length, by rw [List.length_drop]; omega, q, _, left.drop few, rfl, ⟨rfl, rfl⟩, by rw [dup_same, List.map_drop], gq, nq1, nqf, days ++ [left.take few], by rw [dup_ne nfq, dup_same]; simp, ?_, ?_, ?_, ?_⟩
    · rw [List.flatten_append, List.append_assoc]
      simpa [List.take_append_drop] using hpm2
    · intro d' hd'
      rcases List.mem_append.mp hd' with z | z
      · exact hdl d' z
      · rw [List.mem_singleton.mp z, List.length_take]; omega
    · exact ((hh3.upd _ np1 np2).upd _ nf1 nf2).upd _ nq1 nq2
    · intro a o n q'
      have e1 : a ≠ p := fun z => by rw [z, gp] at q'; cases q'
      have e2 : a ≠ q := fun z => by rw [z, gq] at q'; cases q'
      have e3 : a ≠ fo := fun z => by rw [z, gfo] at q'; cases q'
      rw [dup_ne e2, dup_ne e3, dup_ne e1]
      exact fr3 a o n (fr2 a o n q')
  · have : left = [] := by cases left with | nil => rfl | cons _ _ => simp at c
    subst this
    simp [dRet, dCB, dCons, dNil, dVar, rTuple, seqOf, g3]
    exact down.of (k days G2 (by simpa using hpm2) hdl hh2 fr2)
end HD

set_option Elab.async false
set_option linter.all false
set_option maxRecDepth 100000
set_option maxHeartbeats 1000000
namespace HD
open PySem PySem.Spec PyProof.Rows L2 L2.DL He LamX
def chunk : List Str → List Nat → List (List Str)
  | _, [] => []
  | xs, s :: ss => xs.take s :: chunk (xs.drop s) ss
theorem chunk_len : ∀ (xs : List Str) (ss : List Nat), (chunk xs ss).length = ss.length
  | _, [] => rfl
  | xs, s :: ss => by simp [chunk, chunk_len]
theorem chunk_flat : ∀ {ss : List Nat} {xs : List Str}, xs.length ≤ ss.sum → (chunk xs ss).flatten = xs
  | [], xs, h => by
    have : xs = [] := List.length_eq_zero_iff.mp (by simpa using h)
    subst this; rfl
  | s :: ss, xs, h => by
    rw [chunk, List.flatten_cons, chunk_flat (by rw [List.length_drop]; simp at h; omega), List.take_append_drop]
theorem chunk_lens : ∀ {ss : List Nat} {xs : List Str}, ss.sum ≤ xs.length → (chunk xs ss).map List.length = ss
  | [], xs, h => rfl
  | s :: ss, xs, h => by
    simp at h
    rw [chunk, List.map_cons, chunk_lens (by rw [List.length_drop]; omega), List.length_take, Nat.min_eq_left (by omega)]
/-- where a text stands in rows -/
def hidR (rows : List (List Str)) (x : Str) : Nat := rows.findIdx fun r => decide (x ∈ r)
theorem flat_ne {rows : List (List Str)} (nd : rows.flatten.Nodup) : ∀ {i j : Nat} {r s : List Str}, rows[i]? = some r → rows[j]? = some s → ∀ {x : Str}, x ∈ r → x ∈ s → i = j := by
  induction rows with
  | nil => intro i j r s h; simp at h
  | cons q rows ih =>
    rw [List.flatten_cons, List.nodup_append] at nd
    intro i j r s hi hj x hr hs
    match i, j with
    | 0, 0 => rfl
    | 0, j + 1 =>
      simp only [List.getElem?_cons_zero, List.getElem?_cons_succ] at hi hj
      cases hi
      exact (nd.2.2 x hr x (List.mem_flatten.mpr ⟨s, List.mem_of_getElem? hj, hs⟩) rfl).elim
    | i + 1, 0 =>
      simp only [List.getElem?_cons_zero, List.getElem?_cons_succ] at hi hj
      cases hj
      exact (nd.2.2 x hs x (List.mem_flatten.mpr ⟨r, List.mem_of_getElem? hi, hr⟩) rfl).elim
    | i + 1, j + 1 =>
      simp only [List.getElem?_cons_succ] at hi hj
      rw [ih nd.2.1 hi hj hr hs]
theorem hidR_mem {rows : List (List Str)} {x : Str} (h : x ∈ rows.flatten) : ∃ r, rows[hidR rows x]? = some r ∧ x ∈ r := by
  obtain ⟨r, hr, hx⟩ := List.mem_flatten.mp h
  have hl : hidR rows x < rows.length := List.findIdx_lt_length_of_exists ⟨r, hr, by simpa using hx⟩
  have h2 := List.findIdx_getElem (p := fun r => decide (x ∈ r)) (xs := rows) (w := hl)
  exact ⟨rows[hidR rows x], List.getElem?_eq_getElem hl, of_decide_eq_true h2⟩
theorem hidR_eq {rows : List (List Str)} (nd : rows.flatten.Nodup) {t : Nat} {r : List Str} (h : rows[t]? = some r) {x : Str} (hx : x ∈ r) : hidR rows x = t := by
  obtain ⟨s, h1, h2⟩ := hidR_mem (rows := rows) (x := x) (List.mem_flatten.mpr ⟨r, List.mem_of_getElem? h, hx⟩)
  exact flat_ne nd h1 h h2 hx
theorem flat_sort : ∀ cs : List (List Str), (cs.map sortStr).flatten.Perm cs.flatten
  | [] => List.Perm.refl _
  | c :: cs => by
    rw [List.map_cons, List.flatten_cons, List.flatten_cons]
    exact (sortStr_perm c).append (flat_sort cs)
/-- events that join the texts of rows -/
structure PcE (parts : Int) (rows : List (List Str)) (es : List Ev) : Prop where
  ev : ∀ e ∈ es, e.1 ∈ rows.flatten ∧ e.2.1 ∈ rows.flatten ∧ e.1 ≠ e.2.1 ∧ e.2.2 = ((hidR rows e.2.1 : Int) - (hidR rows e.1 : Int)) % parts
  con : ∀ (C : Type) (c : Str → C), (∀ e ∈ es, c e.1 = c e.2.1) → ∀ x ∈ rows.flatten, ∀ y ∈ rows.flatten, c x = c y
  len : es.length + 1 = rows.flatten.length
/-- a dict of turns of lists -/
def DicOf (kt : List (NK × D)) (pre : List (List Str)) : Prop := ∀ t c, pre[t]? = some c → ∀ x ∈ c, kget kt (kS x) = some (.int (t : Nat))
theorem DicOf.put {kt : List (NK × D)} {pre : List (List Str)} {done : List Str} (h : DicOf kt pre) (hd : ∀ x ∈ done, kget kt (kS x) = some (.int (pre.length : Nat))) {z : Str} (hz : ∀ c ∈ pre, z ∉ c) :
    DicOf (kput kt (kS z) (.int (pre.length : Nat))) pre ∧ ∀ x ∈ done ++ [z], kget (kput kt (kS z) (.int (pre.length : Nat))) (kS x) = some (.int (pre.length : Nat)) := by
  constructor
  · intro t c hc x hx
    have ne : ¬ kS x = kS z := fun q => hz c (List.mem_of_getElem? hc) (by rw [← kS_inj q]; exact hx)
    rw [kget_put, if_neg ne]; exact h t c hc x hx
  · intro x hx
    rw [kget_put]
    split
    · rfl
    · rename_i ne
      rcases List.mem_append.mp hx with hx | hx
      · exact hd x hx
      · exact (ne (by rw [List.mem_singleton.mp hx])).elim
theorem DicOf.snoc {kt : List (NK × D)} {pre : List (List Str)} {c : List Str} (h : DicOf kt pre) (hd : ∀ x ∈ c, kget kt (kS x) = some (.int (pre.length : Nat))) : DicOf kt (pre ++ [c]) := by
  intro t c' hc x hx
  rcases Nat.lt_or_ge t pre.length with l | l
  · rw [List.getElem?_append_left l] at hc
    exact h t c' hc x hx
  · rw [List.getElem?_append_right l] at hc
    have : t - pre.length = 0 := by
      cases z : t - pre.length with
      | zero => rfl
      | succ n => rw [z] at hc; simp at hc
    rw [this] at hc
    simp at hc
    subst hc
    have e : t = pre.length := by omega
    rw [e]; exact hd x hx
end HD

set_option Elab.async false
set_option linter.all false
set_option maxRecDepth 100000
set_option maxHeartbeats 1000000
namespace HD
open PySem PySem.Spec PyProof.Rows L2 L2.DL He LamX
def L__law_piece_0 (Y : Wd) (P : Addr) (E' : DX) : DS := (dPar3 3 4 5 (dCons (dLst dNil) (dCons dDNew (dCons (dCB rList (dCons (dVar 1) dNil)) dNil))))
def L__law_piece_1 (Y : Wd) (P : Addr) (E' : DX) : DS := (dFor (dEnum (dCons (dVar 2) dNil)) (dgTup 2 (dgCons (dgName 6) (dgCons (dgName 7) dgNil))) (dSeq (dDrop (dBM "list" rApp (dVar 3) (dCons (dCB (rSorted Y) (dCons (dSlice rSlice (dVar 5) dONone (dOSome (dVar 7))) dNil)) dNil))) (dSeq (dFor (dSeqI (dSlice rSlice (dVar 5) dONone (dOSome (dVar 7)))) (dgName 8) (dAsg (dVar 6) (dgSub (dVar 4) (dVar 8) rPutD))) (dAsg (dSlice rSlice (dVar 5) (dOSome (dVar 7)) dONone) (dgName 5)))))
def L__law_piece_2 (Y : Wd) (P : Addr) (E' : DX) : DS := (dPar 9 10 (dCons (dCall sp__law_mixed [] DX0 (dCons (dVar 0) (dCons (dVar 1) dNil))) (dCons (dLst dNil) dNil)))
def L__law_piece_3 (Y : Wd) (P : Addr) (E' : DX) : DS := (dFor (dRng2 (dCons (dC (.int 1)) (dCons (dCB rLen (dCons (dVar 9) dNil)) dNil))) (dgName 11) (dSeq (dAsg (dOp rGetS (dVar 9) (dCall sp__law_draw [] DX0 (dCons (dVar 0) (dCons (dVar 11) dNil)))) (dgName 12)) (dDrop (dBM "list" rApp (dVar 10) (dCons (dTup (dCons (dC (.str "pair")) (dCons (dVar 12) (dCons (dOp rGetS (dVar 9) (dVar 11)) (dCons (dOp rModD (dCB rToInt (dCons (dOp rSubD (dOp rGetD (dVar 4) (dOp rGetS (dVar 9) (dVar 11))) (dOp rGetD (dVar 4) (dVar 12))) dNil)) (dCB rLen (dCons (dVar 2) dNil))) dNil))))) dNil)))))
def L__law_piece_4 (Y : Wd) (P : Addr) (E' : DX) : DS := (dRet (dTup (dCons (dVar 10) (dCons (dVar 3) dNil))))
def R__law_piece_4 (Y : Wd) (P : Addr) (E' : DX) : DS := L__law_piece_4 Y P E'
def R__law_piece_3 (Y : Wd) (P : Addr) (E' : DX) : DS := dSeq (L__law_piece_3 Y P E') (R__law_piece_4 Y P E')
def R__law_piece_2 (Y : Wd) (P : Addr) (E' : DX) : DS := dSeq (L__law_piece_2 Y P E') (R__law_piece_3 Y P E')
def R__law_piece_1 (Y : Wd) (P : Addr) (E' : DX) : DS := dSeq (L__law_piece_1 Y P E') (R__law_piece_2 Y P E')
def R__law_piece_0 (Y : Wd) (P : Addr) (E' : DX) : DS := dSeq (L__law_piece_0 Y P E') (R__law_piece_1 Y P E')
def sizD (ss : List Nat) : D := .tup (ss.map fun s => .int (s : Nat))
/-- events that join texts, by their turns -/
structure EvJ (parts : Int) (ys : List Str) (hid : Str → Nat) (es : List Ev) : Prop where
  ev : ∀ e ∈ es, e.1 ∈ ys ∧ e.2.1 ∈ ys ∧ e.1 ≠ e.2.1 ∧ e.2.2 = ((hid e.2.1 : Int) - (hid e.1 : Int)) % parts
  con : ∀ (C : Type) (c : Str → C), (∀ e ∈ es, c e.1 = c e.2.1) → ∀ x ∈ ys, ∀ y ∈ ys, c x = c y
theorem EvJ.one {parts : Int} {y : Str} {hid : Str → Nat} : EvJ parts [y] hid [] := ⟨by simp, fun C c _ x hx z hz => by rw [List.mem_singleton.mp hx, List.mem_singleton.mp hz]⟩
theorem EvJ.snoc {parts : Int} {ys : List Str} {hid : Str → Nat} {es : List Ev} (h : EvJ parts ys hid es) {a b : Str} (ha : a ∈ ys) (hb : b ∉ ys) : EvJ parts (ys ++ [b]) hid (es ++ [(a, b, ((hid b : Int) - (hid a : Int)) % parts)]) := by
  have ne : a ≠ b := fun z => hb (by rw [← z]; exact ha)
  refine ⟨fun e he => ?_, fun C c hc => ?_⟩
  · rcases List.mem_append.mp he with he | he
    · obtain ⟨h1, h2, h3⟩ := h.ev e he
      exact ⟨List.mem_append_left _ h1, List.mem_append_left _ h2, h3⟩
    · rw [List.mem_singleton.mp he]
      exact ⟨List.mem_append_left _ ha, List.mem_append_right _ (List.mem_singleton.mpr rfl), ne, rfl⟩
  · have h1 := h.con C c fun e he => hc e (List.mem_append_left _ he)
    have h2 : c a = c b := hc _ (List.mem_append_right _ (List.mem_singleton.mpr rfl))
    have key : ∀ x ∈ ys ++ [b], c x = c a := fun x hx => by
      rcases List.mem_append.mp hx with hx | hx
      · exact h1 x hx a ha
      · rw [List.mem_singleton.mp hx]; exact h2.symm
    intro x hx y hy
    rw [key x hx, key y hy]
section
variable {Y : Wd} {P : Addr} {E' : DX} {G : DH} {Q : DVK} {nx : DSt → DH → Prop} {o0 o1 o2 o3 o4 o5 o6 o7 o8 o9 o10 o11 o12 : Option D}
theorem lp3 {h ca ro tu od ev : Addr} {ss : List Nat} {ys : List Str} {kt : List (NK × D)} {hid : Str → Nat} (hh : HandA G h ca) (hod : G od = some (.lst (ys.map .str))) (hev : G ev = some (.lst [])) (htu : G tu = some (.dic kt)) (n1 : od ≠ h) (n2 : ev ≠ h) (n6 : ev ≠ ca) (n3 : ev ≠ od)
    (y0 : 0 < ys.length) (y1 : ys.length ≤ 1000) (nd : ys.Nodup) (hk : ∀ x ∈ ys, kget kt (kS x) = some (.int (hid x : Nat))) (s0 : 0 < ss.length) (s1 : ss.length ≤ 12)
    (hQ : ∀ es G', EvJ (ss.length : Nat) ys hid es → es.length + 1 = ys.length → G' ev = some (.lst (es.map evv)) → HandA G' h ca → Fr [h, ev] G G' → Q (.tup [.ref ev, .ref ro]) G') :
    R__law_piece_3 Y P E' { nx := nx, rt := Q } [some (.ref h), o1, some (sizD ss), some (.ref ro), some (.ref tu), o5, o6, o7, o8, some (.ref od), some (.ref ev), o11, o12] G := by
  have n4 : tu ≠ h := fun z => by
    obtain ⟨_, _, _, _, _, w, _⟩ := hh
    rw [z, w] at htu; cases htu
  have n5 : tu ≠ ev := fun z => by rw [z, hev] at htu; cases htu
  simp [R__law_piece_3, L__law_piece_3, dSeq, dFor, dRng2, dCons, dNil, dC, dCB, dVar, DL.rLen, hod]
  refine ⟨by omega, fun k τ G' => ∃ x11 x12 es, τ = [some (.ref h), o1, some (sizD ss), some (.ref ro), some (.ref tu), o5, o6, o7, o8, some (.ref od), some (.ref ev), x11, x12] ∧ k + 1 ≤ ys.length ∧ es.length = k ∧ EvJ (ss.length : Nat) (ys.take (k + 1)) hid es ∧ G' ev = some (.lst (es.map evv)) ∧ HandA G' h ca ∧ Fr [h, ev] G G',
    ⟨_, _, [], rfl, by omega, rfl, ?_, hev, hh, fun _ _ _ q => q⟩, ?_, ?_⟩
  · have : ys.take (0 + 1) = [ys[0]] := by
      rw [List.take_succ_eq_append_getElem y0]; simp
    rw [this]; exact EvJ.one
  · rintro k x τ G1 qx ⟨x11, x12, es, rfl, hk1, hel, hj, g1, hh1, fr1⟩
    obtain ⟨hk2, rfl⟩ := rng_get qx
    have hkl : k + 1 < ys.length := by omega
    simp [dgName, dSeq, dAsg, dOp, dVar, dCall, dCons, dNil]
    refine ⟨h, ca, 1 + (k : Int), rfl, hh1, by omega, by omega, fun d G2 d0 d1 hh2 fr2 => ?_⟩
    have frA : Fr [h, ev] G G2 := fun a o n q => fr2 a o (by simp at n; simp [n]) (fr1 a o n q)
    have god := frA od _ (by simp; exact ⟨n1, Ne.symm n3⟩) hod
    have gtu := frA tu _ (by simp; exact ⟨n4, n5⟩) htu
    have gev := fr2 ev _ (by simpa using n2) g1
    obtain ⟨dn, rfl⟩ : ∃ dn : Nat, d = (dn : Int) := ⟨d.toNat, by omega⟩
    have hdn : dn < k + 1 := by omega
    have hdl : dn < ys.length := by omega
    have e1 : ixN ys.length (dn : Int) = some dn := by unfold ixN; simp; omega
    have e2 : ixN ys.length (1 + (k : Int)) = some (k + 1) := by
      unfold ixN
      have : (0 : Int) ≤ 1 + k := by omega
      have h2 : (1 : Int) + k < (ys.length : Nat) := by omega
      have h3 : (1 + (k : Int)).toNat = k + 1 := by omega
      simp [this, h2, h3]
    have ka := hk _ (List.getElem_mem hdl)
    have kb := hk _ (List.getElem_mem hkl)
    have qa : ys[dn]? = some ys[dn] := List.getElem?_eq_getElem hdl
    have qb : ys[k + 1]? = some ys[k + 1] := List.getElem?_eq_getElem hkl
    have ma : ys[dn] ∈ ys.take (k + 1) := List.mem_take_iff_getElem.mpr ⟨dn, by omega, rfl⟩
    have mb : ys[k + 1] ∉ ys.take (k + 1) := fun z => by
      obtain ⟨j, hj2, ej⟩ := List.mem_take_iff_getElem.mp z
      have := (List.getElem_inj (h₀ := by omega) (h₁ := hkl) nd).mp ej
      omega
    have et : ys.take (k + 1 + 1) = ys.take (k + 1) ++ [ys[k + 1]] := List.take_succ_eq_append_getElem hkl
    have hj2 := hj.snoc ma mb
    rw [← et] at hj2
    generalize ys[dn] = a at *
    generalize ys[k + 1] = b at *
    simp [rGetS, god, atI, e1, qa, dDrop, dBM, dVar, isTy, gev, dCons, dNil, dTup, dC, dCB, dOp, e2, qb, rGetD, D.key, withD, gtu, ka, kb, rInt, rToInt, DL.rLen, sizD, CDiv]
    refine ⟨s0, ?_⟩
    simp [rApp, withL, gev]
    refine ⟨by omega, by omega, es ++ [(a, b, ((hid b : Int) - (hid a : Int)) % (ss.length : Nat))], by simp [hel], hj2, by rw [dup_same]; simp, hh2.upd _ n2 n6, fun c o n q => ?_⟩
    have : c ≠ ev := by simp at n; exact n.2
    rw [dup_ne this]; exact frA c o n q
  · rintro τ G1 ⟨x11, x12, es, rfl, hk1, hel, hj, g1, hh1, fr1⟩
    have e9 : ∀ m : Nat, (rngD 1 1 m).length = m := fun m => by simp [rngD]
    rw [e9] at hk1 hel hj
    have e8 : ((ys.length : Nat) : Int) - 1 = ((ys.length - 1 : Nat) : Int) := by omega
    have e7 : ys.length - 1 + 1 = ys.length := by omega
    simp [e7] at hj hel
    simp [R__law_piece_4, L__law_piece_4, dRet, dTup, dCons, dNil, dVar]
    exact hQ es G1 hj (by omega) g1 hh1 fr1

theorem lp2 {h ca ro tu nm : Addr} {ss : List Nat} {xs : List Str} {kt : List (NK × D)} {hid : Str → Nat} (hh : HandA G h ca) (hnm : G nm = some (.lst (xs.map .str))) (htu : G tu = some (.dic kt)) (n1 : nm ≠ h)
    (y0 : 0 < xs.length) (y1 : xs.length < 1000) (nd : xs.Nodup) (hk : ∀ x ∈ xs, kget kt (kS x) = some (.int (hid x : Nat))) (s0 : 0 < ss.length) (s1 : ss.length ≤ 12)
    (hQ : ∀ ev es G', G ev = none → EvJ (ss.length : Nat) xs hid es → es.length + 1 = xs.length → G' ev = some (.lst (es.map evv)) → HandA G' h ca → Fr [h] G G' → Q (.tup [.ref ev, .ref ro]) G') :
    R__law_piece_2 Y P E' { nx := nx, rt := Q } [some (.ref h), some (.ref nm), some (sizD ss), some (.ref ro), some (.ref tu), o5, o6, o7, o8, o9, o10, o11, o12] G := by
  have n4 : tu ≠ h := fun z => by
    obtain ⟨_, _, _, _, _, w, _⟩ := hh
    rw [z, w] at htu; cases htu
  simp only [R__law_piece_2, L__law_piece_2, dSeq, dPar, dCons, dNil, dCall, dVar, dLst, List.getElem?_cons_zero, List.getElem?_cons_succ]
  refine ⟨h, ca, nm, _, rfl, hh, hnm, n1, by simpa using y1, fun od ys0 G1 hpm hod g1 hh1 fr1 => ?_⟩
  obtain ⟨ys, rfl, hp⟩ := perm_strs hpm
  refine ⟨by simp, fun ev hev => ?_⟩
  obtain ⟨ne1, ne2⟩ := hh1.fresh hev
  obtain ⟨no1, no2⟩ := hh.fresh hod
  have n3 : ev ≠ od := fun z => by rw [← z, hev] at g1; cases g1
  have gev : G ev = none := by
    cases zz : G ev with
    | none => rfl
    | some o => rw [fr1 _ _ (by simpa using ne1) zz] at hev; cases hev
  have nte : tu ≠ ev := fun z => by rw [z, gev] at htu; cases htu
  have hpl := hp.length_eq
  simp only [List.set]
  refine lp3 (hh1.le (DLe.new hev)) (by rw [dup_ne (Ne.symm n3)]; exact g1) dup_same (by rw [dup_ne nte]; exact fr1 _ _ (by simpa using n4) htu) no1 ne1 ne2 n3 (by omega) (by omega) (hp.nodup_iff.mpr nd) (fun x hx => hk x (hp.mem_iff.mp hx)) s0 s1 fun es G' hj hl g hh' fr => ?_
  refine hQ ev es G' gev ⟨fun e he => ?_, fun C c hc x hx y hy => hj.con C c hc x (hp.mem_iff.mpr hx) y (hp.mem_iff.mpr hy)⟩ (by omega) g hh' fun a o n q => ?_
  · obtain ⟨h1, h2, h3⟩ := hj.ev e he
    exact ⟨hp.mem_iff.mp h1, hp.mem_iff.mp h2, h3⟩
  · have na : a ≠ ev := fun z => by rw [z, gev] at q; cases q
    exact fr a o (by simp at n; simp [n, na]) (by rw [dup_ne na]; exact fr1 a o n q)
end
end HD

set_option Elab.async false
set_option linter.all false
set_option maxRecDepth 100000
set_option maxHeartbeats 1000000
namespace HD
open PySem PySem.Spec PyProof.Rows L2 L2.DL He LamX
section
variable {Y : Wd} {P : Addr} {E' : DX} {G G0 : DH} {Q : DVK} {nx : DSt → DH → Prop} {o0 o1 o2 o3 o4 o5 o6 o7 o8 o9 o10 o11 o12 : Option D}
/-- what the law's first loop keeps -/
structure LpI (G0 : DH) (xs : List Str) (ss : List Nat) (ro tu lf : Addr) (i : Nat) (pre : List (List Str)) (left : List Str) (kt : List (NK × D)) (ps : List Addr) (G' : DH) : Prop where
  ch : chunk xs ss = pre ++ chunk left (ss.drop i)
  pl : pre.length = i
  fl : pre.flatten ++ left = xs
  glf : G' lf = some (.lst (left.map .str))
  nlf : lf ≠ ro
  gro : G' ro = some (.lst (ps.map .ref))
  par : Paired (fun b r => G0 b = none ∧ b ≠ ro ∧ b ≠ tu ∧ G' b = some (.lst (r.map .str))) ps (pre.map sortStr)
  gtu : G' tu = some (.dic kt)
  dic : DicOf kt pre
  kl : kt.length ≤ pre.flatten.length
  le : DLe G0 G'
theorem chunk_step {xs left : List Str} {ss : List Nat} {pre : List (List Str)} {i s : Nat} (h : chunk xs ss = pre ++ chunk left (ss.drop i)) (hs : ss[i]? = some s) : chunk xs ss = (pre ++ [left.take s]) ++ chunk (left.drop s) (ss.drop (i + 1)) := by
  obtain ⟨hi, e⟩ := List.getElem?_eq_some_iff.mp hs
  rw [h, List.drop_eq_getElem_cons hi, e, chunk]; simp
theorem lp1 {h ca ro tu nm lf : Addr} {ss : List Nat} {xs : List Str} (hh : HandA G0 h ca) (hnm : G0 nm = some (.lst (xs.map .str))) (n1 : nm ≠ h) (nro : G0 ro = none) (ntu : G0 tu = none)
    (I0 : LpI G0 xs ss ro tu lf 0 [] xs [] [] G) (y0 : 0 < xs.length) (y1 : xs.length < 64) (nd : xs.Nodup) (s0 : 0 < ss.length) (s1 : ss.length ≤ 12) (hsum : xs.length = ss.sum)
    (hQ : ∀ ev es G', G0 ev = none → G0 ro = none → EvJ (ss.length : Nat) xs (hidR ((chunk xs ss).map sortStr)) es → es.length + 1 = xs.length → G' ev = some (.lst (es.map evv)) → RowsN G0 G' ro ((chunk xs ss).map sortStr) → HandA G' h ca → Fr [h] G0 G' → Q (.tup [.ref ev, .ref ro]) G') :
    R__law_piece_1 Y P E' { nx := nx, rt := Q } [some (.ref h), some (.ref nm), some (sizD ss), some (.ref ro), some (.ref tu), some (.ref lf), o6, o7, o8, o9, o10, o11, o12] G := by
  simp only [R__law_piece_1, L__law_piece_1, dSeq, dFor, dEnum, dCons, dNil, dVar, sizD, dSeqK, List.getElem?_cons_zero, List.getElem?_cons_succ]
  refine ⟨fun i τ G' => ∃ lf x6 x7 x8 pre left kt ps, τ = [some (.ref h), some (.ref nm), some (sizD ss), some (.ref ro), some (.ref tu), some (.ref lf), x6, x7, x8, o9, o10, o11, o12] ∧ LpI G0 xs ss ro tu lf i pre left kt ps G',
    ⟨lf, _, _, _, _, _, _, _, rfl, I0⟩, fun _ _ _ _ => trivial, ?_, ?_⟩
  · rintro i x τ G1 qx ⟨lf, x6, x7, x8, pre, left, kt, ps, rfl, I⟩
    obtain ⟨hi, rfl⟩ := enum_map (fun s : Nat => D.int (s : Nat)) ss qx
    have es : ss[i]? = some ss[i] := List.getElem?_eq_getElem hi
    generalize ss[i] = s at es ⊢
    have llen : left.length ≤ xs.length := by rw [← I.fl]; simp
    have hps := paired_len I.par
    rw [List.length_map, I.pl] at hps
    simp only [dgTup, dgCons, dgNil, dgName, dDrop, dBM, dVar, List.set, List.length_cons, List.length_nil, List.getElem?_cons_zero, List.getElem?_cons_succ, isTy, I.gro, dCons, dNil, dCB, dSlice, dONone, dOSome, rSlice, I.glf, cut_takeA]
    refine ⟨trivial, trivial, fun p hp => ?_⟩
    have nrp : ro ≠ p := fun z => by rw [← z, I.gro] at hp; cases hp
    have nlp : lf ≠ p := fun z => by rw [← z, I.glf] at hp; cases hp
    have ntp : tu ≠ p := fun z => by rw [← z, I.gtu] at hp; cases hp
    refine .inl ?_
    rw [← List.map_take]
    simp only [rSortS, dup_same, strsOf_of]
    refine ⟨by rw [List.length_take]; omega, fun ys q hpm hss hq => ?_⟩
    obtain ⟨nqp, hq⟩ := dup_none.mp hq
    have nrq : ro ≠ q := fun z => by rw [← z, I.gro] at hq; cases hq
    have nlq : lf ≠ q := fun z => by rw [← z, I.glf] at hq; cases hq
    have ntq : tu ≠ q := fun z => by rw [← z, I.gtu] at hq; cases hq
    have eys := sortStr_eq hpm hss
    subst eys
    have ntr : tu ≠ ro := fun z => by have := I.gtu; rw [z, I.gro] at this; cases this
    have nrt : ro ≠ tu := Ne.symm ntr
    simp only [rApp, withL, dup_ne nrq, dup_ne nrp, I.gro]
    refine ⟨by rw [List.length_map]; omega, ?_⟩
    have nlr := I.nlf
    simp only [dSeq, dFor, dSeqI, dSlice, dVar, dONone, dOSome, rSlice, List.getElem?_cons_zero, List.getElem?_cons_succ, dup_ne nlr, dup_ne nlq, dup_ne nlp, I.glf, cut_takeA]
    intro p2 hp2
    obtain ⟨np2r, hp2⟩ := dup_none.mp hp2
    obtain ⟨np2q, hp2⟩ := dup_none.mp hp2
    obtain ⟨np2p, hp2⟩ := dup_none.mp hp2
    have nl2 : lf ≠ p2 := fun z => by rw [← z, I.glf] at hp2; cases hp2
    have nt2 : tu ≠ p2 := fun z => by rw [← z, I.gtu] at hp2; cases hp2
    simp only [dup_same]
    rw [← List.map_take]
    have cl : (left.take s).length ≤ left.length := by rw [List.length_take]; omega
    have fl2 : pre.flatten ++ left.take s ++ left.drop s = xs := by rw [List.append_assoc, List.take_append_drop]; exact I.fl
    have ch2 := chunk_step I.ch es
    generalize left.take s = c at cl fl2 ch2 ⊢
    have gp2 : G0 p2 = none := none_of I.le hp2
    have gq : G0 q = none := none_of I.le hq
    have gp : G0 p = none := none_of I.le hp
    have flen : pre.flatten.length + c.length + (left.drop s).length = xs.length := by rw [← fl2]; simp [Nat.add_assoc]
    refine ⟨fun j τ G' => ∃ x8 kt2, τ = [some (.ref h), some (.ref nm), some (sizD ss), some (.ref ro), some (.ref tu), some (.ref lf), some (.int (i : Nat)), some (.int (s : Nat)), x8, o9, o10, o11, o12] ∧ j ≤ c.length ∧ G' tu = some (.dic kt2) ∧ DicOf kt2 pre ∧ (∀ x ∈ c.take j, kget kt2 (kS x) = some (.int (pre.length : Nat))) ∧ kt2.length ≤ pre.flatten.length + j ∧
        (∀ a o, a ≠ tu → dup (dup (dup (dup G1 p (.lst (c.map .str))) q (.lst ((sortStr c).map .str))) ro (.lst (ps.map .ref ++ [.ref q]))) p2 (.lst (c.map .str)) a = some o → G' a = some o),
      ⟨_, kt, rfl, Nat.zero_le _, by rw [dup_ne nt2, dup_ne ntr, dup_ne ntq, dup_ne ntp]; exact I.gtu, I.dic, by simp, I.kl, fun _ _ _ z => z⟩, ?_, ?_, ?_⟩
    · rintro j τ G' ⟨_, _, rfl, _, _, _, _, _, fr⟩
      exact fr p2 _ (Ne.symm nt2) dup_same
    · rintro j y τ G2 qy ⟨x8, kt2, rfl, hjc, g1, dk, dd, kl, fr⟩
      obtain ⟨z, ez, rfl⟩ := get_map (f := D.str) qy
      obtain ⟨hj, ez2⟩ := List.getElem?_eq_some_iff.mp ez
      have hz : ∀ c' ∈ pre, z ∉ c' := fun c' hc' hzc => by
        have nd2 : (pre.flatten ++ c ++ left.drop s).Nodup := by rw [fl2]; exact nd
        rw [List.append_assoc, List.nodup_append] at nd2
        exact nd2.2.2 z (List.mem_flatten.mpr ⟨c', hc', hzc⟩) z (List.mem_append_left _ (by rw [← ez2]; exact List.getElem_mem hj)) rfl
      obtain ⟨dk2, dd2⟩ := dk.put dd hz
      have et : c.take (j + 1) = c.take j ++ [z] := by rw [List.take_succ_eq_append_getElem hj, ez2]
      have kle := kput_le kt2 (kS z) (D.int (pre.length : Nat))
      rw [I.pl] at kle
      simp [dgName, dAsg, dVar, dgSub, rPutD, D.key, withD, g1]
      have flq : (pre.map List.length).sum = pre.flatten.length := List.length_flatten.symm
      refine ⟨by omega, by omega, _, dup_same, by rw [← I.pl]; exact dk2, fun x hx => ?_, by rw [flq]; show (kput kt2 (kS z) (D.int (i : Nat))).length ≤ _; omega, fun a o na q' => ?_⟩
      · rw [← I.pl]; exact dd2 x (by rw [← et]; exact hx)
      · rw [dup_ne na]; exact fr a o na q'
    · rintro τ G2 ⟨x8, kt2, rfl, hjc, g1, dk, dd, kl, fr⟩
      rw [List.length_map] at hjc kl dd
      rw [List.take_length] at dd
      have glf := fr lf _ (fun z => by have := I.glf; rw [z, I.gtu] at this; cases this) (by rw [dup_ne nl2, dup_ne nlr, dup_ne nlq, dup_ne nlp]; exact I.glf)
      simp only [dAsg, dSlice, dVar, dOSome, dONone, List.getElem?_cons_zero, List.getElem?_cons_succ, rSlice, glf, cut_dropA]
      intro l2 hl2
      have gl2 : G1 l2 = none := by
        cases zz : G1 l2 with
        | none => rfl
        | some o =>
          have a1 : l2 ≠ tu := fun z => by rw [z, g1] at hl2; cases hl2
          have a2 : l2 ≠ p := fun z => by rw [z, hp] at zz; cases zz
          have a3 : l2 ≠ q := fun z => by rw [z, hq] at zz; cases zz
          have a4 : l2 ≠ p2 := fun z => by rw [z, hp2] at zz; cases zz
          have a5 : l2 ≠ ro := fun z => by
            have := fr ro _ nrt (by rw [dup_ne (Ne.symm np2r), dup_same])
            rw [z, this] at hl2; cases hl2
          rw [fr l2 _ a1 (by rw [dup_ne a4, dup_ne a5, dup_ne a3, dup_ne a2]; exact zz)] at hl2; cases hl2
      simp only [dgName, List.set]
      have nl2r : l2 ≠ ro := fun z => by
        have := fr ro _ nrt (by rw [dup_ne (Ne.symm np2r), dup_same])
        rw [← z, hl2] at this; cases this
      have nl2t : l2 ≠ tu := fun z => by rw [z, g1] at hl2; cases hl2
      have keep : ∀ a o, G1 a = some o → a ≠ ro → a ≠ tu → dup G2 l2 (.lst ((left.map .str).drop s)) a = some o := fun a o q' n1 n2 => by
        have a2 : a ≠ p := fun z => by rw [z, hp] at q'; cases q'
        have a3 : a ≠ q := fun z => by rw [z, hq] at q'; cases q'
        have a4 : a ≠ p2 := fun z => by rw [z, hp2] at q'; cases q'
        have a5 : a ≠ l2 := fun z => by rw [z, gl2] at q'; cases q'
        rw [dup_ne a5]
        exact fr a o n2 (by rw [dup_ne a4, dup_ne n1, dup_ne a3, dup_ne a2]; exact q')
      refine ⟨l2, _, _, _, pre ++ [c], left.drop s, kt2, ps ++ [q], rfl, ch2, by simp [I.pl], by simpa using fl2, by rw [dup_same, List.map_drop], nl2r, ?_, ?_, ?_, dk.snoc dd, ?_, fun a o q' => ?_⟩
      · rw [dup_ne (Ne.symm nl2r), fr ro _ nrt (by rw [dup_ne (Ne.symm np2r), dup_same])]; simp
      · rw [List.map_append]
        refine paired_snoc (Paired.mapP I.par fun b r ⟨h1, h2, h3, h4⟩ => ⟨h1, h2, h3, keep b _ h4 h2 h3⟩) ⟨gq, Ne.symm nrq, Ne.symm ntq, ?_⟩
        have a5 : q ≠ l2 := fun z => by
          have := fr q _ (Ne.symm ntq) (by rw [dup_ne (Ne.symm np2q), dup_ne (Ne.symm nrq), dup_same])
          rw [z, hl2] at this; cases this
        rw [dup_ne a5]
        exact fr q _ (Ne.symm ntq) (by rw [dup_ne (Ne.symm np2q), dup_ne (Ne.symm nrq), dup_same])
      · rw [dup_ne (Ne.symm nl2t)]; exact g1
      · rw [List.flatten_append]; simp
        have flq : (pre.map List.length).sum = pre.flatten.length := List.length_flatten.symm
        omega
      · exact keep a o (I.le _ _ q') (fun z => by rw [z, nro] at q'; cases q') (fun z => by rw [z, ntu] at q'; cases q')
  · rintro τ G1 ⟨lf, x6, x7, x8, pre, left, kt, ps, rfl, I⟩
    have e9 : (enumD (ss.map fun s : Nat => D.int (s : Nat))).length = ss.length := by simp [enumD]
    rw [e9] at I
    have ec : chunk xs ss = pre := by
      have := I.ch
      rw [List.drop_of_length_le (Nat.le_refl _), chunk, List.append_nil] at this; exact this
    have ef : (chunk xs ss).flatten = xs := chunk_flat (by omega)
    have hfs := flat_sort (chunk xs ss)
    rw [ef] at hfs
    have hhG := hh.le I.le
    refine lp2 (hid := hidR ((chunk xs ss).map sortStr)) hhG (I.le _ _ hnm) I.gtu n1 y0 (by omega) nd (fun x hx => ?_) s0 s1 fun ev es G' hev hj hl g hh' fr => ?_
    · obtain ⟨r, hr, hxr⟩ := hidR_mem (hfs.mem_iff.mpr hx)
      rw [List.getElem?_map] at hr
      cases q : (chunk xs ss)[hidR ((chunk xs ss).map sortStr) x]? with
      | none => rw [q] at hr; cases hr
      | some c =>
        rw [q] at hr
        cases hr
        have := I.dic
        rw [← ec] at this
        exact this _ c q x ((sortStr_perm c).mem_iff.mp hxr)
    · have gev : G0 ev = none := none_of I.le hev
      have nrh : ro ≠ h := (hh.fresh nro).1
      refine hQ ev es G' gev nro hj hl g ⟨ps, fr _ _ (by simpa using nrh) I.gro, ?_⟩ hh' fun a o n q' => fr a o n (I.le _ _ q')
      rw [ec]
      refine Paired.mapP I.par fun b r ⟨h1, h2, h3, h4⟩ => ⟨h1, fr _ _ ?_ h4⟩
      have : b ≠ h := (hh.fresh h1).1
      simpa using this
end
end HD

set_option Elab.async false
set_option linter.all false
set_option maxRecDepth 100000
set_option maxHeartbeats 1000000
namespace HD
open PySem PySem.Spec PyProof.Rows L2 L2.DL He LamX
def rowsC (xs : List Str) (ss : List Nat) : List (List Str) := (chunk xs ss).map sortStr
def sp__law_piece : DSp := fun ds G Q _ => ∃ (h ca nm : Addr) (ss : List Nat) (xs : List Str), ds = [.ref h, .ref nm, sizD ss] ∧ HandA G h ca ∧ G nm = some (.lst (xs.map .str)) ∧ nm ≠ h ∧ 0 < xs.length ∧ xs.length < 64 ∧ xs.Nodup ∧ 0 < ss.length ∧ ss.length ≤ 12 ∧ xs.length = ss.sum ∧
  ∀ ev ro es G', G ev = none → G ro = none → EvJ (ss.length : Nat) xs (hidR (rowsC xs ss)) es → es.length + 1 = xs.length → G' ev = some (.lst (es.map evv)) → RowsN G G' ro (rowsC xs ss) → HandA G' h ca → Fr [h] G G' → Q (.tup [.ref ev, .ref ro]) G'
theorem v__law_piece {Y : Wd} (ds G Q E) (k : sp__law_piece ds G Q E) : t__law_piece Y sp__law_draw sp__law_mixed (downX E) { nx := fun _ G' => down Q .non G', rt := down Q } (dstart N__law_piece ds) G := by
  obtain ⟨h, ca, nm, ss, xs, rfl, hh, hnm, n1, y0, y1, nd, s0, s1, hsum, k⟩ := k
  have e0 : t__law_piece Y sp__law_draw sp__law_mixed (downX E) = R__law_piece_0 Y 0 (downX E) := rfl
  rw [e0]
  simp only [R__law_piece_0, L__law_piece_0, dSeq, dPar3, dCons, dNil, dLst, dDNew, dCB, dVar, dstart, N__law_piece, sizD]
  refine ⟨by simp, fun ro hro tu htu => ?_⟩
  obtain ⟨ntr, htu⟩ := dup_none.mp htu
  have nnr : nm ≠ ro := fun z => by rw [z, hro] at hnm; cases hnm
  have nnt : nm ≠ tu := fun z => by rw [z, htu] at hnm; cases hnm
  simp [rList, seqOf, dup_ne nnr, dup_ne nnt, hnm]
  intro lf hlf
  obtain ⟨nlt, hlf⟩ := dup_none.mp hlf
  obtain ⟨nlr, hlf⟩ := dup_none.mp hlf
  refine lp1 (G0 := G) hh hnm n1 hro htu ⟨rfl, rfl, rfl, dup_same, nlr, ?_, .nil, ?_, ?_, by simp, ?_⟩ y0 y1 nd s0 s1 hsum fun ev es G' h1 h2 h3 h4 h5 h6 h7 h8 => down.of (k ev ro es G' h1 h2 h3 h4 h5 h6 h7 h8)
  · rw [dup_ne (Ne.symm nlr), dup_ne (Ne.symm ntr), dup_same]; rfl
  · rw [dup_ne (Ne.symm nlt), dup_same]
  · intro t c hc; simp at hc
  · exact ((DLe.refl G).up hro |>.up htu).up hlf
end HD

set_option Elab.async false
set_option linter.all false
set_option maxRecDepth 100000
set_option maxHeartbeats 1000000
namespace HD
open PySem PySem.Spec PyProof.Rows L2 L2.DL He LamX
/-- a piece of the law: its rows, its events -/
abbrev PcL := List (List Str) × List Ev
def nmsL (P : List PcL) : List Str := P.flatMap fun q => q.1.flatten
structure PcLs (parts : Int) (P : List PcL) : Prop where
  p0 : 2 ≤ parts
  p1 : parts ≤ 12
  rl : ∀ q ∈ P, q.1.length = parts.toNat
  so : ∀ q ∈ P, ∀ r ∈ q.1, r.Pairwise leS
  ne : ∀ q ∈ P, 2 ≤ q.1.flatten.length
  rne : ∀ q ∈ P, ∀ r ∈ q.1, 1 ≤ r.length
  bd : ∀ q ∈ P, (prodG q.1).length ≤ 2000
  nd : (nmsL P).Nodup
  nm : ∀ x ∈ nmsL P, x ∈ names60
  ev : ∀ q ∈ P, EvJ parts q.1.flatten (hidR q.1) q.2
theorem memL {P : List PcL} {q : PcL} (h : q ∈ P) {x : Str} (hx : x ∈ q.1.flatten) : x ∈ nmsL P := List.mem_flatMap.mpr ⟨q, h, hx⟩
theorem oneL : ∀ {P : List PcL}, (nmsL P).Nodup → ∀ {a b : PcL}, a ∈ P → b ∈ P → ∀ {x : Str}, x ∈ a.1.flatten → x ∈ b.1.flatten → a = b
  | pc :: P, h, a, b, ha, hb, x, xa, xb => by
    have h2 : (pc.1.flatten ++ nmsL P).Nodup := h
    rw [List.nodup_append] at h2
    rcases List.mem_cons.mp ha with ea | ha2
    · rcases List.mem_cons.mp hb with eb | hb2
      · rw [ea, eb]
      · rw [ea] at xa
        exact (h2.2.2 x xa x (memL hb2 xb) rfl).elim
    · rcases List.mem_cons.mp hb with eb | hb2
      · rw [eb] at xb
        exact (h2.2.2 x xb x (memL ha2 xa) rfl).elim
      · exact oneL h2.2.1 ha2 hb2 xa xb
theorem ndL {P : List PcL} (h : (nmsL P).Nodup) {q : PcL} (hq : q ∈ P) : q.1.flatten.Nodup := by
  obtain ⟨a, b, rfl⟩ := List.append_of_mem hq
  unfold nmsL at h
  rw [List.flatMap_append, List.nodup_append] at h
  have := h.2.1
  rw [List.flatMap_cons, List.nodup_append] at this
  exact this.1
/-- days that tell the events -/
structure DaysL (parts : Int) (P : List PcL) (days : List (List Ev)) : Prop where
  ok : PcLs parts P
  ev : days.flatten.Perm (P.flatMap (·.2))
def phiL (P : List PcL) : NK → Int
  | some (.inr x) => match P.find? fun q => decide (x ∈ q.1.flatten) with
    | some q => (hidR q.1 x : Nat)
    | none => 0
  | _ => 0
section
variable {parts : Int} {P : List PcL} {days : List (List Ev)}
theorem phi_L (nd : (nmsL P).Nodup) {q : PcL} (hq : q ∈ P) {x : Str} (hx : x ∈ q.1.flatten) : phiL P (kS x) = (hidR q.1 x : Nat) := by
  show (match P.find? fun q => decide (x ∈ q.1.flatten) with | some q => ((hidR q.1 x : Nat) : Int) | none => 0) = _
  cases z : P.find? fun q => decide (x ∈ q.1.flatten) with
  | none =>
    have := List.find?_eq_none.mp z q hq
    simp at this
    obtain ⟨r, hr, hxr⟩ := List.mem_flatten.mp hx
    exact (this r hr hxr).elim
  | some q' =>
    have h1 := List.mem_of_find?_eq_some z
    have h2 := List.find?_some z
    simp at h2
    obtain ⟨r, hr, hxr⟩ := h2
    have : q' = q := oneL nd h1 hq (List.mem_flatten.mpr ⟨r, hr, hxr⟩) hx
    subst this; rfl
theorem DaysL.told (h : DaysL parts P days) {t : Tl} (ht : t ∈ toldT days) : ∃ q ∈ P, ∃ e ∈ q.2, t.ev = .pair e.1 e.2.1 e.2.2 := by
  obtain ⟨e, he, z⟩ := toldT_mem ht
  obtain ⟨q, hq, he2⟩ := List.mem_flatMap.mp (h.ev.mem_iff.mp he)
  exact ⟨q, hq, e, he2, z⟩
theorem DaysL.tell (h : DaysL parts P days) {q : PcL} (hq : q ∈ P) {e : Ev} (he : e ∈ q.2) : ∃ t ∈ toldT days, t.ev = .pair e.1 e.2.1 e.2.2 :=
  mem_toldT (h.ev.mem_iff.mpr (List.mem_flatMap.mpr ⟨q, hq, he⟩))
/-- each name is told -/
theorem PcLs.cov (h : PcLs parts P) {q : PcL} (hq : q ∈ P) {x : Str} (hx : x ∈ q.1.flatten) : ∃ e ∈ q.2, x = e.1 ∨ x = e.2.1 := by
  by_cases c : ∃ e ∈ q.2, x = e.1 ∨ x = e.2.1
  · exact c
  · have nd := ndL h.nd hq
    have l2 := h.ne q hq
    obtain ⟨y, hy, ne⟩ : ∃ y ∈ q.1.flatten, y ≠ x := by
      match q.1.flatten, nd, l2, hx with
      | a :: b :: l, nd, _, _ =>
        by_cases z : a = x
        · refine ⟨b, by simp, fun w => ?_⟩
          rw [List.nodup_cons] at nd
          exact nd.1 (by rw [z, ← w]; exact List.mem_cons_self)
        · exact ⟨a, by simp, z⟩
    have := (h.ev q hq).con Prop (fun z => z = x) (fun e he => by
      have n1 : ¬ e.1 = x := fun z => c ⟨e, he, .inl z.symm⟩
      have n2 : ¬ e.2.1 = x := fun z => c ⟨e, he, .inr z.symm⟩
      simp [n1, n2]) x hx y hy
    simp at this
    exact (ne this).elim
theorem DaysL.names (h : DaysL parts P days) (x : Str) : x ∈ namesT (toldT days) ↔ x ∈ nmsL P := by
  constructor
  · intro hx
    obtain ⟨t, ht, z⟩ := List.mem_flatMap.mp hx
    obtain ⟨q, hq, e, he, q2⟩ := h.told ht
    obtain ⟨m1, m2, m3, m4⟩ := (h.ok.ev q hq).ev e he
    rw [q2] at z
    simp [EvG.names] at z
    rcases z with rfl | rfl
    · exact memL hq m1
    · exact memL hq m2
  · intro hx
    obtain ⟨q, hq, hx2⟩ := List.mem_flatMap.mp hx
    obtain ⟨e, he, z⟩ := h.ok.cov hq hx2
    obtain ⟨t, ht, q2⟩ := h.tell hq he
    refine List.mem_flatMap.mpr ⟨t, ht, ?_⟩
    rw [q2]
    simpa [EvG.names] using z
theorem DaysL.pot (h : DaysL parts P days) : WB.Pot parts (tiesOf parts (toldT days)) (phiL P) := by
  intro x y n s z
  obtain ⟨t, ht, hh⟩ := mem_ties z
  obtain ⟨q, hq, e, he, q2⟩ := h.told ht
  obtain ⟨m1, m2, m3, m4⟩ := (h.ok.ev q hq).ev e he
  have f1 : phiL P (kS e.1) = (hidR q.1 e.1 : Nat) := phi_L h.ok.nd hq m1
  have f2 : phiL P (kS e.2.1) = (hidR q.1 e.2.1 : Nat) := phi_L h.ok.nd hq m2
  have dv : parts ∣ ((hidR q.1 e.2.1 : Int) - (hidR q.1 e.1 : Int)) - ((hidR q.1 e.2.1 : Int) - (hidR q.1 e.1 : Int)) % parts := Int.dvd_self_sub_emod
  rw [← m4] at dv
  obtain ⟨w, hw⟩ := dv
  rw [q2] at hh
  rcases hh with ⟨rfl, rfl, rfl⟩ | ⟨rfl, rfl, rfl⟩
  · simp only [EvG.one, EvG.other, EvG.turn, f1, f2]
    refine ⟨-w, ?_⟩
    rw [Int.mul_neg, ← hw]; omega
  · simp only [EvG.one, EvG.other, EvG.turn, f1, f2]
    refine ⟨w + 1, ?_⟩
    rw [Int.mul_add, ← hw]; omega
/-- a piece's root -/
theorem DaysL.root (h : DaysL parts P days) {ns : List Str} {root : Str → Str} {turn : Str → Int} (w : WSp parts (toldT days) ns root turn) {q : PcL} (hq : q ∈ P) :
    ∃ r ∈ q.1.flatten, (∀ x ∈ q.1.flatten, root x = r) ∧ ∀ x ∈ q.1.flatten, 0 ≤ turn x ∧ turn x < parts ∧ parts ∣ (hidR q.1 r : Int) + turn x - (hidR q.1 x : Int) := by
  obtain ⟨ρ, τ, g1, g2⟩ := w.gr
  have inn : ∀ x, x ∈ q.1.flatten → x ∈ ns := fun x hx => (w.mem x).mpr ((h.names x).mpr (memL hq hx))
  have ina : ∀ x, x ∈ ns → kS x ∈ allN ns := fun x hx => List.mem_cons_of_mem _ (List.mem_map.mpr ⟨x, hx, rfl⟩)
  have l2 := h.ok.ne q hq
  obtain ⟨x0, hx0⟩ : ∃ x0, x0 ∈ q.1.flatten := by
    match q.1.flatten, l2 with
    | a :: _, _ => exact ⟨a, by simp⟩
  have same : ∀ x ∈ q.1.flatten, root x = root x0 := fun x hx => (h.ok.ev q hq).con Str root (fun e he => by
    obtain ⟨m1, m2, _⟩ := (h.ok.ev q hq).ev e he
    obtain ⟨t, ht, q2⟩ := h.tell hq he
    obtain ⟨s, hs⟩ := (ties_mem (m := parts) ht).1
    rw [q2] at hs
    have := (g1.clo _ (ina _ (inn _ m1)) _ _ _ hs).1
    simp only [EvG.other] at this
    rw [(g2 _ (inn _ m2)).1, (g2 _ (inn _ m1)).1] at this
    exact (kS_inj this).symm) x hx x0 hx0
  have stay : root x0 ∈ q.1.flatten := by
    have c := g1.col Prop (fun k => ∃ y ∈ q.1.flatten, k = kS y) (fun u v n s qq => by
      obtain ⟨t, ht, hc⟩ := mem_ties qq
      obtain ⟨q', hq', e, he, q2⟩ := h.told ht
      obtain ⟨m1, m2, _⟩ := (h.ok.ev q' hq').ev e he
      have iff1 : e.1 ∈ q.1.flatten ↔ e.2.1 ∈ q.1.flatten := by
        constructor
        · intro z
          rw [oneL h.ok.nd hq hq' z m1]; exact m2
        · intro z
          rw [oneL h.ok.nd hq hq' z m2]; exact m1
      have key : ∀ z : Str, (∃ y ∈ q.1.flatten, kS z = kS y) ↔ z ∈ q.1.flatten := fun z => ⟨fun ⟨y, hy, e⟩ => by rw [kS_inj e]; exact hy, fun hz => ⟨z, hz, rfl⟩⟩
      rw [q2] at hc
      rcases hc with ⟨rfl, rfl, _⟩ | ⟨rfl, rfl, _⟩
      · exact propext ((key _).trans (iff1.symm.trans (key _).symm))
      · exact propext ((key _).trans (iff1.trans (key _).symm))) (kS x0) (ina x0 (inn x0 hx0))
    have c1 : ∃ y ∈ q.1.flatten, ρ (kS x0) = kS y := by
      rw [← c]; exact ⟨x0, hx0, rfl⟩
    obtain ⟨y, hy, e⟩ := c1
    rw [(g2 x0 (inn x0 hx0)).1] at e
    rw [kS_inj e]; exact hy
  refine ⟨root x0, stay, same, fun x hx => ?_⟩
  have hxn := inn x hx
  have p1 := g1.pot _ h.pot _ (ina _ hxn)
  have r1 := g1.rng _ (ina _ hxn)
  rw [(g2 _ hxn).1, (g2 _ hxn).2, same x hx, phi_L h.ok.nd hq hx, phi_L h.ok.nd hq stay] at p1
  rw [(g2 _ hxn).2] at r1
  exact ⟨r1.1, r1.2, p1⟩
end
end HD


set_option Elab.async false
set_option linter.all false
set_option maxRecDepth 100000
set_option maxHeartbeats 1000000
namespace HD
open PySem PySem.Spec PyProof.Rows L2 L2.DL He LamX
theorem prod_app_len : ∀ (a b : List (List Str)), (prodG (a ++ b)).length = (prodG a).length * (prodG b).length
  | [], b => by simp [prodG]
  | r :: a, b => by
    rw [List.cons_append, prod_len, List.foldr_cons, ← prod_len, prod_app_len a b, prod_len (r :: a), List.foldr_cons, ← prod_len, Nat.mul_assoc]
theorem prod_pos : ∀ {rows : List (List Str)}, (∀ r ∈ rows, 1 ≤ r.length) → 1 ≤ (prodG rows).length
  | [], _ => by simp [prodG]
  | r :: rows, h => by
    rw [prod_len, List.foldr_cons, ← prod_len]
    exact Nat.mul_pos (h r List.mem_cons_self) (prod_pos fun x hx => h x (List.mem_cons_of_mem _ hx))
theorem prod_take {rows : List (List Str)} (h : ∀ r ∈ rows, 1 ≤ r.length) (k : Nat) : (prodG (rows.take k)).length ≤ (prodG rows).length := by
  have e := prod_app_len (rows.take k) (rows.drop k)
  rw [List.take_append_drop] at e
  have := prod_pos (rows := rows.drop k) fun x hx => h x (List.mem_of_mem_drop hx)
  rw [e]
  exact Nat.le_mul_of_pos_right _ this
theorem prod_empty {rows : List (List Str)} (h0 : 0 < rows.length) (h : ∀ r ∈ rows, r = []) : prodG rows = [] := by
  match rows, h0, h with
  | r :: rows, _, h =>
    have : r = [] := h r List.mem_cons_self
    subst this; simp [prodG]
theorem rot_perm {α : Type} (l : List α) (h : Nat) (hl : 0 < l.length) (f : Nat → α) (hf : ∀ t, t < l.length → l[(t + h) % l.length]? = some (f t)) : ((List.range l.length).map f).Perm l := by
  have hk : h % l.length < l.length := Nat.mod_lt _ hl
  have e : (List.range l.length).map f = l.drop (h % l.length) ++ l.take (h % l.length) := by
    apply List.ext_getElem
    · simp; omega
    · intro t h1 h2
      simp at h1
      have ht := hf t h1
      have em : (t + h) % l.length = (t + h % l.length) % l.length := by rw [Nat.add_mod, Nat.mod_eq_of_lt h1]
      rw [em] at ht
      have : some ((List.map f (List.range l.length))[t]'(by simpa using h1)) = some ((l.drop (h % l.length) ++ l.take (h % l.length))[t]'h2) := by
        rw [← List.getElem?_eq_getElem (l := l.drop (h % l.length) ++ l.take (h % l.length)) h2]
        simp only [List.getElem_map, List.getElem_range]
        rw [← ht]
        rcases Nat.lt_or_ge (t + h % l.length) l.length with c | c
        · rw [Nat.mod_eq_of_lt c, List.getElem?_append_left (by rw [List.length_drop]; omega), List.getElem?_drop, Nat.add_comm]
        · have e3 : (t + h % l.length) % l.length = t + h % l.length - l.length := by
            rw [Nat.mod_eq_sub_mod c, Nat.mod_eq_of_lt (by omega)]
          rw [e3, List.getElem?_append_right (by rw [List.length_drop]; omega), List.getElem?_take, if_pos (by rw [List.length_drop]; omega), List.length_drop]
          congr 1; omega
      injection this
  rw [e]
  refine List.perm_append_comm.trans ?_
  rw [List.take_append_drop]
section
variable {parts : Int} {P : List PcL} {days : List (List Ev)} {ns : List Str} {root : Str → Str} {turn : Str → Int}
def rfL (root : Str → Str) (q : PcL) : Str := match q.1.flatten with | x :: _ => root x | [] => ⟨#[]⟩
theorem filter_pw {l : List Str} (h : l.Pairwise leS) (p : Str → Bool) : (l.filter p).Pairwise leS := List.Pairwise.filter p h
/-- the program's rows of a piece are the law's, turned -/
theorem DaysL.rows (h : DaysL parts P days) (w : WSp parts (toldT days) ns root turn) {q : PcL} (hq : q ∈ P) {r : Str} (hr : r ∈ q.1.flatten) (hrt : ∀ x ∈ q.1.flatten, root x = r) (htn : ∀ x ∈ q.1.flatten, 0 ≤ turn x ∧ turn x < parts ∧ parts ∣ (hidR q.1 r : Int) + turn x - (hidR q.1 x : Int)) :
    (rowsW parts ns root turn (some r)).Perm q.1 := by
  have hl := h.ok.rl q hq
  have p0 := h.ok.p0
  have hlp : 0 < q.1.length := by omega
  have nd := ndL h.ok.nd hq
  unfold rowsW
  rw [← hl]
  refine rot_perm q.1 (hidR q.1 r) hlp _ fun t ht => ?_
  have hm : (t + hidR q.1 r) % q.1.length < q.1.length := Nat.mod_lt _ hlp
  rw [List.getElem?_eq_getElem hm]
  congr 1
  have hrow : q.1[(t + hidR q.1 r) % q.1.length] ∈ q.1 := List.getElem_mem hm
  have hidlt : ∀ x ∈ q.1.flatten, hidR q.1 x < q.1.length := fun x hx => by
    obtain ⟨s, hs, _⟩ := hidR_mem hx
    exact (List.getElem?_eq_some_iff.mp hs).1
  have turneq : ∀ x ∈ q.1.flatten, (turn x = (t : Int) ↔ hidR q.1 x = (t + hidR q.1 r) % q.1.length) := fun x hx => by
    obtain ⟨t0, t1, dv⟩ := htn x hx
    have hx1 := hidlt x hx
    have e1 : ((q.1.length : Nat) : Int) = parts := by omega
    obtain ⟨z, hz⟩ := dv
    constructor
    · intro e
      rw [e] at hz
      have : ((t + hidR q.1 r : Nat) : Int) = (hidR q.1 x : Int) + (q.1.length : Int) * z := by rw [e1]; omega
      have h2 : ((t + hidR q.1 r : Nat) : Int) % (q.1.length : Int) = (hidR q.1 x : Int) % (q.1.length : Int) := by rw [this, Int.add_mul_emod_self_left]
      rw [← Int.natCast_emod, ← Int.natCast_emod, Nat.mod_eq_of_lt hx1] at h2
      omega
    · intro e
      have h3 : ((t + hidR q.1 r : Nat) : Int) % (q.1.length : Int) = (hidR q.1 x : Int) := by rw [← Int.natCast_emod, ← e]
      have h4 : turn x % (q.1.length : Int) = (t : Int) % (q.1.length : Int) := by
        have a1 : turn x = (hidR q.1 x : Int) - (hidR q.1 r : Int) + (q.1.length : Int) * z := by rw [e1]; omega
        have a2 : (t : Int) = ((t + hidR q.1 r : Nat) : Int) - (hidR q.1 r : Int) := by omega
        rw [a1, Int.add_mul_emod_self_left, a2, Int.sub_emod, h3.symm, Int.sub_emod ((t + hidR q.1 r : Nat) : Int), Int.emod_emod_of_dvd _ (Int.dvd_refl _)]
      rw [Int.emod_eq_of_lt t0 (by omega), Int.emod_eq_of_lt (by omega) (by omega)] at h4
      exact h4
  have inn : ∀ x, x ∈ q.1.flatten → x ∈ ns := fun x hx => (w.mem x).mpr ((h.names x).mpr (memL hq hx))
  have inP : ∀ x, x ∈ ns → root x = r → x ∈ q.1.flatten := fun x hx e => by
    obtain ⟨q', hq', hx'⟩ := List.mem_flatMap.mp ((h.names x).mp ((w.mem x).mp hx))
    obtain ⟨r', hr', hrt', _⟩ := h.root w hq'
    rw [hrt' x hx'] at e
    have : q' = q := oneL h.ok.nd hq' hq hr' (by rw [e]; exact hr)
    rw [← this]; exact hx'
  refine sorted_perm_eq (h.ok.so q hq _ hrow) (filter_pw (filter_pw (sortedS_pw w.so) _) _) ?_
  refine (List.perm_ext_iff_of_nodup (nd.sublist (List.sublist_flatten_of_mem hrow)) ((w.nd.filter _).filter _)).mpr fun x => ?_
  rw [List.mem_filter, List.mem_filter]
  constructor
  · intro hx
    have hxf : x ∈ q.1.flatten := List.mem_flatten.mpr ⟨_, hrow, hx⟩
    refine ⟨⟨inn x hxf, by simp [hrt x hxf]⟩, ?_⟩
    simp only [decide_eq_true_eq]
    exact (turneq x hxf).mpr (hidR_eq nd (List.getElem?_eq_getElem hm) hx)
  · rintro ⟨⟨h1, h2⟩, h3⟩
    simp at h2 h3
    have hxf := inP x h1 h2
    have e := (turneq x hxf).mp h3
    obtain ⟨s, hs, hxs⟩ := hidR_mem hxf
    rw [e, List.getElem?_eq_getElem hm] at hs
    cases hs; exact hxs
theorem DaysL.main (h : DaysL parts P days) (w : WSp parts (toldT days) ns root turn) :
    (∀ rows ∈ tabsW parts ns root turn, RowsOk rows) ∧ ((tabsW parts ns root turn).flatMap teamsR).Perm (P.flatMap fun q => teamsR q.1) := by
  have p0 := h.ok.p0
  have p1 := h.ok.p1
  have hn : 0 < parts.toNat := by omega
  -- no root
  have e0 : ∀ r ∈ rowsW parts ns root turn none, r = [] := fun r hr => by
    obtain ⟨t, _, rfl⟩ := List.mem_map.mp hr
    simp
  have l0 : (rowsW parts ns root turn none).length = parts.toNat := by simp [rowsW]
  obtain ⟨rf, hrf⟩ : ∃ rf : PcL → Str, ∀ q ∈ P, rf q ∈ q.1.flatten ∧ (∀ x ∈ q.1.flatten, root x = rf q) ∧ ∀ x ∈ q.1.flatten, 0 ≤ turn x ∧ turn x < parts ∧ parts ∣ (hidR q.1 (rf q) : Int) + turn x - (hidR q.1 x : Int) := by
    refine ⟨rfL root, fun q hq => ?_⟩
    obtain ⟨r, h1, h2, h3⟩ := h.root w hq
    have : rfL root q = r := by
      unfold rfL
      cases e : q.1.flatten with
      | nil => rw [e] at h1; cases h1
      | cons x l => exact h2 x (by rw [e]; exact List.mem_cons_self)
    rw [this]; exact ⟨h1, h2, h3⟩
  have inn : ∀ q ∈ P, ∀ x ∈ q.1.flatten, x ∈ ns := fun q hq x hx => (w.mem x).mpr ((h.names x).mpr (memL hq hx))
  have hpm : (piecesOf ns root).Perm (P.map rf) := by
    refine (List.perm_ext_iff_of_nodup (w.nd.filter _) ?_).mpr fun y => ?_
    · have : ∀ R : List PcL, (∀ q ∈ R, rf q ∈ q.1.flatten) → (nmsL R).Nodup → (R.map rf).Nodup := fun R => by
        induction R with
        | nil => intro _ _; exact List.nodup_nil
        | cons q R ih =>
          intro hR hnd
          have h2 : (q.1.flatten ++ nmsL R).Nodup := hnd
          rw [List.nodup_append] at h2
          rw [List.map_cons, List.nodup_cons]
          refine ⟨fun z => ?_, ih (fun x hx => hR x (List.mem_cons_of_mem _ hx)) h2.2.1⟩
          obtain ⟨q', hq', e⟩ := List.mem_map.mp z
          exact h2.2.2 _ (hR q List.mem_cons_self) _ (memL hq' (hR q' (List.mem_cons_of_mem _ hq'))) e.symm
      exact this P (fun q hq => (hrf q hq).1) h.ok.nd
    · rw [List.mem_filter]
      constructor
      · rintro ⟨hy, e⟩
        simp at e
        obtain ⟨q, hq, hy'⟩ := List.mem_flatMap.mp ((h.names y).mp ((w.mem y).mp hy))
        exact List.mem_map.mpr ⟨q, hq, by rw [← (hrf q hq).2.1 y hy']; exact e⟩
      · intro hy
        obtain ⟨q, hq, rfl⟩ := List.mem_map.mp hy
        exact ⟨inn q hq _ (hrf q hq).1, by simp [(hrf q hq).2.1 _ (hrf q hq).1]⟩
  have hrw : ∀ q ∈ P, (rowsW parts ns root turn (some (rf q))).Perm q.1 := fun q hq => h.rows w hq (hrf q hq).1 (hrf q hq).2.1 (hrf q hq).2.2
  constructor
  · intro rows hrows
    unfold tabsW at hrows
    obtain ⟨o, ho, rfl⟩ := List.mem_map.mp hrows
    rcases List.mem_cons.mp ho with rfl | ho
    · refine ⟨by omega, by omega, fun r hr => by rw [e0 r hr]; simp, fun k => ?_⟩
      cases k with
      | zero => simp [prodG]
      | succ k =>
        rw [prod_empty (by rw [List.length_take]; omega) fun r hr => e0 r (List.mem_of_mem_take hr)]; simp
    · obtain ⟨r, hr, rfl⟩ := List.mem_map.mp ho
      obtain ⟨q, hq, rfl⟩ := List.mem_map.mp (hpm.mem_iff.mp hr)
      have hp := hrw q hq
      have hlq := h.ok.rl q hq
      have hone : ∀ r ∈ rowsW parts ns root turn (some (rf q)), 1 ≤ r.length := fun r hr => h.ok.rne q hq r (hp.mem_iff.mp hr)
      have hnl := w.len
      refine ⟨by rw [hp.length_eq]; omega, by rw [hp.length_eq]; omega, fun r hr => ?_, fun k => Nat.le_trans (prod_take hone k) ?_⟩
      · obtain ⟨t, _, rfl⟩ := List.mem_map.mp hr
        exact Nat.le_trans (List.length_filter_le ..) (Nat.le_trans (List.length_filter_le ..) hnl)
      · have := (teamsR_perm hp).length_eq
        simp only [teamsR, List.length_map] at this
        rw [this]; exact h.ok.bd q hq
  · have et : teamsR (rowsW parts ns root turn none) = [] := by
      unfold teamsR
      rw [prod_empty (by omega) e0]; rfl
    unfold tabsW
    rw [List.map_cons, List.flatMap_cons, et, List.nil_append, List.map_map, List.flatMap_map]
    refine ((hpm.flatMap_right _).trans ?_)
    rw [List.flatMap_map]
    exact fm_congr fun q hq => teamsR_perm (hrw q hq)
end
end HD

set_option Elab.async false
set_option linter.all false
set_option maxRecDepth 100000
set_option maxHeartbeats 1000000
namespace HD
open PySem PySem.Spec PyProof.Rows L2 L2.DL He LamX
def L_law_0 (Y : Wd) (P : Addr) (E' : DX) : DS := (dAsg (dCall (sp__law_hand Y.K) [] DX0 (dCons (dVar 0) dNil)) (dgName 1))
def L_law_1 (Y : Wd) (P : Addr) (E' : DX) : DS := (dAsg (dLst (dCons (dLst (dCons (dTup (dCons (dC (.int 10)) (dCons (dC (.int 10)) (dCons (dC (.int 10)) dNil)))) dNil)) (dCons (dLst (dCons (dTup (dCons (dC (.int 5)) (dCons (dC (.int 5)) (dCons (dC (.int 5)) (dCons (dC (.int 8)) dNil))))) dNil)) (dCons (dLst (dCons (dTup (dCons (dC (.int 2)) (dCons (dC (.int 2)) (dCons (dC (.int 2)) (dCons (dC (.int 5)) (dCons (dC (.int 5)) (dCons (dC (.int 5)) dNil))))))) dNil)) (dCons (dLst (dCons (dTup (dCons (dC (.int 9)) (dCons (dC (.int 10)) (dCons (dC (.int 12)) dNil)))) dNil)) (dCons (dLst (dCons (dTup (dCons (dC (.int 3)) (dCons (dC (.int 7)) (dCons (dC (.int 6)) (dCons (dC (.int 8)) dNil))))) dNil)) (dCons (dLst (dCons (dTup (dCons (dC (.int 20)) (dCons (dC (.int 40)) dNil))) dNil)) dNil))))))) (dgName 2))
def L_law_2 (Y : Wd) (P : Addr) (E' : DX) : DS := (dAsg (dOp rAdd (dVar 2) (dLst (dCons (dLst (dCons (dTup (dCons (dC (.int 30)) (dCons (dC (.int 16)) dNil))) (dCons (dTup (dCons (dC (.int 1)) (dCons (dC (.int 1)) dNil))) dNil))) (dCons (dLst (dCons (dTup (dCons (dC (.int 8)) (dCons (dC (.int 8)) (dCons (dC (.int 8)) dNil)))) (dCons (dTup (dCons (dC (.int 4)) (dCons (dC (.int 11)) (dCons (dC (.int 11)) dNil)))) dNil))) (dCons (dLst (dCons (dTup (dCons (dC (.int 11)) (dCons (dC (.int 7)) (dCons (dC (.int 13)) dNil)))) dNil)) (dCons (dLst (dCons (dTup (dCons (dC (.int 25)) (dCons (dC (.int 20)) dNil))) (dCons (dTup (dCons (dC (.int 4)) (dCons (dC (.int 3)) dNil))) dNil))) dNil)))))) (dgName 2))
def L_law_3 (Y : Wd) (P : Addr) (E' : DX) : DS := (dAsg (dCall sp__law_any [] DX0 (dCons (dVar 1) (dCons (dVar 2) dNil))) (dgName 3))
def L_law_4 (Y : Wd) (P : Addr) (E' : DX) : DS := (dAsg (dCall sp__law_mixed [] DX0 (dCons (dVar 1) (dCons (dC1 (fun _ => .lst []) [5] (dRng1 (dCons (dC (.int 60)) dNil)) (dgName 5) dYes (dmL (dOp rAdd (dOp rGetS (dC (.str "abcdefgh")) (dOp rDivD (dVar 5) (dC (.int 8)))) (dOp rGetS (dC (.str "abcdefgh")) (dOp rModD (dCB rToInt (dCons (dVar 5) dNil)) (dC (.int 8))))))) dNil))) (dgName 4))
def L_law_5 (Y : Wd) (P : Addr) (E' : DX) : DS := (dPar 6 7 (dCons (dLst dNil) (dCons (dLst dNil) dNil)))
def L_law_6 (Y : Wd) (P : Addr) (E' : DX) : DS := (dFor (dSeqI (dVar 3)) (dgName 8) (dSeq (dAsg (dCall sp__law_piece [] DX0 (dCons (dVar 1) (dCons (dSlice rSlice (dVar 4) dONone (dOSome (dCB rSumT (dCons (dVar 8) dNil)))) (dCons (dVar 8) dNil)))) (dgTup 2 (dgCons (dgName 9) (dgCons (dgName 10) dgNil)))) (dSeq (dPar 6 4 (dCons (dOp rAdd (dVar 6) (dVar 9)) (dCons (dSlice rSlice (dVar 4) (dOSome (dCB rSumT (dCons (dVar 8) dNil))) dONone) dNil))) (dAsg (dOp rAdd (dVar 7) (dCall sp__law_teams [] DX0 (dCons (dVar 10) dNil))) (dgName 7)))))
def L_law_7 (Y : Wd) (P : Addr) (E' : DX) : DS := (dAsg (dTup (dCons (dCall sp__law_days_of [] DX0 (dCons (dVar 1) (dCons (dVar 6) dNil))) (dCons (dCB (rSorted Y) (dCons (dVar 7) dNil)) dNil))) (dgTup 2 (dgCons (dgName 11) (dgCons (dgName 7) dgNil))))
def L_law_8 (Y : Wd) (P : Addr) (E' : DX) : DS := (dAsg (dTup (dCons (dMake (ga Y.K "Log") (sp_Log_init Y.K) [] DX0 (dCons (dCB rLen (dCons (dOp rGetS (dVar 3) (dC (.int 0))) dNil)) (dCons (dVar 11) dNil))) (dCons (dCB rLen (dCons (dVar 7) dNil)) dNil))) (dgTup 2 (dgCons (dgName 12) (dgCons (dgName 13) dgNil))))
def L_law_9 (Y : Wd) (P : Addr) (E' : DX) : DS := (dAsg (dLess (dLam P qL (saidOf N__law_said qL (t__law_said Y.K qL)) (fun E' => dCall (sp_sure_teams Y.K) [.int 1000] E' (dCons (dVar 12) (dCons (dC (.int 0)) (dCons (dCB rLen (dCons (dVar 11) dNil)) dNil)))))) (dgName 14))
def L_law_10 (Y : Wd) (P : Addr) (E' : DX) : DS := (dIfS (dNot (dTru (dCall (sp_sameR 3) [] DX0 (dCons (dVar 14) (dCons (dIf (dTest (dOp rLeD (dVar 13) (dC (.int 1000)))) (dTup (dCons (dC (.str "told")) (dCons (dVar 7) dNil))) (dTup (dCons (dC (.str "many")) (dCons (dC (.int 1000)) dNil)))) dNil))))) (dRet (dC (.bl false))) dNext)
def L_law_11 (Y : Wd) (P : Addr) (E' : DX) : DS := (dAsg (dCallK 3 1 (sp_sure_teams Y.K) DX0 (dCons (dVar 12) (dCons (dC (.int 0)) (dCons (dCB rLen (dCons (dVar 11) dNil)) dNil))) (dCons (dCall sp__law_any [] DX0 (dCons (dVar 1) (dCons (dLst (dCons (dVar 13) (dCons (dOp rPowD (dC (.int 10)) (dC (.int 5))) (dCons (dOp rAdd (dVar 13) (dC (.int 1))) dNil)))) dNil))) dNil)) (dgName 15))
def L_law_12 (Y : Wd) (P : Addr) (E' : DX) : DS := (dIfS (dNot (dTru (dCall (sp_sameR 3) [] DX0 (dCons (dVar 15) (dCons (dVar 7) dNil))))) (dRet (dC (.bl false))) dNext)
def L_law_13 (Y : Wd) (P : Addr) (E' : DX) : DS := (dDrop (dBM "list" rApp (dVar 15) (dCons (dC .non) dNil)))
def L_law_14 (Y : Wd) (P : Addr) (E' : DX) : DS := (dIfS (dNot (dTru (dCall (sp_sameR 3) [] DX0 (dCons (dCallK 3 1 (sp_sure_teams Y.K) DX0 (dCons (dVar 12) (dCons (dC (.int 0)) (dCons (dCB rLen (dCons (dVar 11) dNil)) dNil))) (dCons (dVar 13) dNil)) (dCons (dVar 7) dNil))))) (dRet (dC (.bl false))) dNext)
def L_law_15 (Y : Wd) (P : Addr) (E' : DX) : DS := (dRet (dCall (sp_sameR 3) [] DX0 (dCons (dLess (dLam P qL (saidOf N__law_said qL (t__law_said Y.K qL)) (fun E' => dCallK 3 1 (sp_sure_teams Y.K) E' (dCons (dVar 12) (dCons (dC (.int 0)) (dCons (dCB rLen (dCons (dVar 11) dNil)) dNil))) (dCons (dOp rSubD (dVar 13) (dC (.int 1))) dNil)))) (dCons (dTup (dCons (dC (.str "many")) (dCons (dOp rSubD (dVar 13) (dC (.int 1))) dNil))) dNil))))
def R_law_15 (Y : Wd) (P : Addr) (E' : DX) : DS := L_law_15 Y P E'
def R_law_14 (Y : Wd) (P : Addr) (E' : DX) : DS := dSeq (L_law_14 Y P E') (R_law_15 Y P E')
def R_law_13 (Y : Wd) (P : Addr) (E' : DX) : DS := dSeq (L_law_13 Y P E') (R_law_14 Y P E')
def R_law_12 (Y : Wd) (P : Addr) (E' : DX) : DS := dSeq (L_law_12 Y P E') (R_law_13 Y P E')
def R_law_11 (Y : Wd) (P : Addr) (E' : DX) : DS := dSeq (L_law_11 Y P E') (R_law_12 Y P E')
def R_law_10 (Y : Wd) (P : Addr) (E' : DX) : DS := dSeq (L_law_10 Y P E') (R_law_11 Y P E')
def R_law_9 (Y : Wd) (P : Addr) (E' : DX) : DS := dSeq (L_law_9 Y P E') (R_law_10 Y P E')
def R_law_8 (Y : Wd) (P : Addr) (E' : DX) : DS := dSeq (L_law_8 Y P E') (R_law_9 Y P E')
def R_law_7 (Y : Wd) (P : Addr) (E' : DX) : DS := dSeq (L_law_7 Y P E') (R_law_8 Y P E')
def R_law_6 (Y : Wd) (P : Addr) (E' : DX) : DS := dSeq (L_law_6 Y P E') (R_law_7 Y P E')
def R_law_5 (Y : Wd) (P : Addr) (E' : DX) : DS := dSeq (L_law_5 Y P E') (R_law_6 Y P E')
def R_law_4 (Y : Wd) (P : Addr) (E' : DX) : DS := dSeq (L_law_4 Y P E') (R_law_5 Y P E')
def R_law_3 (Y : Wd) (P : Addr) (E' : DX) : DS := dSeq (L_law_3 Y P E') (R_law_4 Y P E')
def R_law_2 (Y : Wd) (P : Addr) (E' : DX) : DS := dSeq (L_law_2 Y P E') (R_law_3 Y P E')
def R_law_1 (Y : Wd) (P : Addr) (E' : DX) : DS := dSeq (L_law_1 Y P E') (R_law_2 Y P E')
def R_law_0 (Y : Wd) (P : Addr) (E' : DX) : DS := dSeq (L_law_0 Y P E') (R_law_1 Y P E')
theorem t_law_R (Y : Wd) (P : Addr) (E' : DX) : t_law Y (sp_Log_init Y.K) sp__law_any sp__law_days_of (sp__law_hand Y.K) sp__law_mixed sp__law_piece (sp_sameR 3) sp__law_teams (sp_sure_teams Y.K) P E' = R_law_0 Y P E' := rfl
def isM : DO → Prop
  | .lst _ => True
  | .ins _ _ => True
  | .dic _ => True
  | _ => False
/-- lists, dicts, instances stay -/
def KeepM (G G' : DH) : Prop := ∀ b o, G b = some o → isM o → G' b = some o
theorem KeepM.lst {G G' : DH} (k : KeepM G G') {b : Addr} {xs : List D} (h : G b = some (.lst xs)) : G' b = some (.lst xs) := k b _ h trivial
theorem KeepM.ins {G G' : DH} (k : KeepM G G') {b C : Addr} {fs : List (Str × D)} (h : G b = some (.ins C fs)) : G' b = some (.ins C fs) := k b _ h trivial
theorem KeepM.of {G G' : DH} (l : DLe G G') : KeepM G G' := fun b o h _ => l b o h
theorem KeepM.trans {G G1 G2 : DH} (a : KeepM G G1) (b : KeepM G1 G2) : KeepM G G2 := fun c o h m => b c o (a c o h m) m
theorem KeepM.hand {G G' : DH} {h ca : Addr} (k : KeepM G G') (hh : HandA G h ca) : HandA G' h ca := by
  obtain ⟨cs, pos, left, mix, cnt, h1, h2, h3⟩ := hh
  exact ⟨cs, pos, left, mix, cnt, k.lst h1, k.lst h2, h3⟩
open Classical in
/-- what stays where knowledge is dropped -/
noncomputable def keepA (P : Addr) (G : DH) : DH := fun b => match G b with
  | some (.rol _) => none
  | some (.raw o) => if b ≠ P ∧ ∃ ps, o = .tbl ps then none else some (.raw o)
  | x => x
theorem keepA_le (P : Addr) (G : DH) : DLe (keepA P G) G := fun b o e => by
  unfold keepA at e
  split at e
  · cases e
  · rename_i h
    split at e
    · cases e
    · cases e; exact h
  · exact e
theorem keepA_M (P : Addr) (G : DH) : KeepM G (keepA P G) := fun b o h m => by
  unfold keepA
  rw [h]
  cases o with
  | rol _ => exact m.elim
  | raw _ => exact m.elim
  | _ => rfl
theorem keepA_raw {P : Addr} {G : DH} {b : Addr} {o : HO} (h : G b = some (.raw o)) (n : b = P ∨ ∀ ps, o ≠ .tbl ps) : keepA P G b = some (.raw o) := by
  unfold keepA; rw [h]
  have : ¬ (b ≠ P ∧ ∃ ps, o = .tbl ps) := by
    rintro ⟨h1, ps, h2⟩
    rcases n with n | n
    · exact h1 n
    · exact n ps h2
  simp only [if_neg this]
theorem keepA_tbl {P : Addr} {G : DH} {b : Addr} {ps : Array Value} (h : b ≠ P) : keepA P G b ≠ some (.raw (.tbl ps)) := fun e => by
  unfold keepA at e
  split at e
  · cases e
  · split at e
    · cases e
    · rename_i n
      cases e
      exact n ⟨h, ps, rfl⟩
  · rename_i n1 n2; exact n2 _ e
theorem keepA_noRol (P : Addr) (G : DH) : noRol (keepA P G) := fun b xs e => by
  unfold keepA at e
  split at e
  · cases e
  · split at e <;> cases e
  · rename_i n1 n2; exact n1 _ e
theorem code_tbl {c : Addr} {q : Str} {ps : Array Value} : CodeO c q ≠ .tbl ps := fun z => by unfold CodeO at z; cases z
theorem tab_keep {P : Addr} {q : Str} {G : DH} (h : TabD P q G) : TabD P q (keepA P G) := by
  obtain ⟨ps, h1, h2, h3⟩ := h
  refine ⟨ps, keepA_raw h1 (.inl rfl), h2, fun pos cv hc => ?_⟩
  obtain ⟨c, e1, e2⟩ := h3 pos cv hc
  exact ⟨c, e1, keepA_raw e2 (.inr fun ps => code_tbl)⟩
theorem TabD.le {P : Addr} {q : Str} {G G' : DH} (h : TabD P q G) (l : ∀ b o, G b = some (.raw o) → (o = CodeO b q ∨ ∃ ps, o = .tbl ps) → G' b = some (.raw o)) : TabD P q G' := by
  obtain ⟨ps, h1, h2, h3⟩ := h
  refine ⟨ps, l _ _ h1 (.inr ⟨ps, rfl⟩), h2, fun pos cv hc => ?_⟩
  obtain ⟨c, e1, e2⟩ := h3 pos cv hc
  exact ⟨c, e1, l _ _ e2 (.inl rfl)⟩
theorem tab_dle {G G' : DH} {q : Str} {P : Addr} (h : TabD P q G) (l : DLe G G') : TabD P q G' := TabD.le h fun b o e _ => l _ _ e
theorem tab_hand {G G' : DH} {q : Str} {h ca P : Addr} (t : TabD P q G) (hh : HandA G h ca) (fr : Fr [h] G G') : TabD P q G' := TabD.le t fun b o e _ => fr b _ (by
  have : b ≠ h := fun z => by
    obtain ⟨_, _, _, _, _, w, _⟩ := hh
    rw [z, w] at e; cases e
  simpa using this) e
/-- x(lambda: ..), whether what is called tells or raises TooMany(m) -/
theorem said {Y : Wd} {P : Addr} {tb : DX → DE} {τ : DSt} {G : DH} {Q : DVK} {m : Int} {Res : D → DH → Prop} {rs : Prop} (hT : TabD P qL G)
    (htb : ∀ (E' : DX) (Ga : DH) (Q1 : DVK), KeepM G Ga → TabD P qL Ga → (∀ d G2, KeepM G G2 → TabD P qL G2 → Res d G2 → Q1 d G2) → (rs → E' (ga Y.K "TooMany") [("most", .int m)] Ga) → tb E' τ Ga Q1)
    (h1 : ∀ d G', KeepM G G' → TabD P qL G' → Res d G' → Q (.tup [.str "told", d]) G') (h2 : rs → ∀ G', KeepM G G' → TabD P qL G' → Q (.tup [.str "many", .int m]) G') :
    dLess (dLam P qL (saidOf N__law_said qL (t__law_said Y.K qL)) tb) τ G Q := by
  refine ⟨keepA P G, keepA_le P G, tab_keep hT, fun b ps hb => keepA_tbl hb, fun G1 k1 T1 f c' Gc k2 k3 k4 => ?_⟩
  have hnP : ∀ b o, keepA P G b = some o → isM o → b ≠ P := fun b o e m z => by
    obtain ⟨ps, h1, _⟩ := hT
    have := keepA_le P G _ _ e
    rw [z, h1] at this
    cases this; exact m
  have m1 : KeepM G G1 := fun b o h m => by
    have e := keepA_M P G b o h m
    exact k1 _ _ (hnP b o e m) e
  have m2 : KeepM G Gc := fun b o h m => by
    have e := m1 b o h m
    have n : b ≠ c' := fun z => by
      rw [z] at e
      rw [k4 _ e] at m; exact m
    rw [k2 _ n]; exact e
  have Tc : TabD P qL Gc := TabD.le T1 fun b o e hb => by
    by_cases z : b = c'
    · subst z
      have := k4 _ e
      rw [k3, ← this]
    · rw [k2 _ z]; exact e
  unfold t__law_said
  refine ⟨keepA P Gc, keepA_le P Gc, keepA_noRol P Gc, fun Ga la lb => ?_⟩
  have m3 : KeepM G Ga := fun b o h m => la _ _ (keepA_M P Gc b o (m2 b o h m) m)
  have c3 : Ga c' = some (.raw (CodeO c' qL)) := la _ _ (keepA_raw k3 (.inr fun ps => code_tbl))
  have T3 : TabD P qL Ga := TabD.le (tab_keep Tc) fun b o e _ => la _ _ e
  simp only [dRet, dTup, dCons, dC, dNil, dAct, dstart, N__law_said]
  refine ⟨by simp, c3, htb _ Ga _ m3 T3 (fun d G2 k t r => ⟨by simp, h1 d G2 k t r⟩) fun c => ⟨DLe.refl _, by simp [exmS], fun a od G4 hx => ⟨rfl, ?_⟩⟩⟩
  rcases hx with ⟨_, e, _⟩ | ⟨dd, rfl, rfl, n1, n2, n3, n4⟩
  · cases e
  · have m4 : KeepM G (dup Ga dd (.xds [("most", .int m)])) := fun b o h mm => by
      have e := m3 b o h mm
      have nb : b ≠ dd := fun z => by
        rw [z] at e
        cases o with
        | lst xs => exact n3 _ e
        | ins C fs => exact n1 _ _ e
        | dic kv => exact n4 _ e
        | rol _ => exact mm
        | raw _ => exact mm
        | xds _ => exact mm
      rw [dup_ne nb]; exact e
    have T4 : TabD P qL (dup Ga dd (.xds [("most", .int m)])) := TabD.le T3 fun b o e hb => by
      rw [dup_ne fun z => ?_]; exact e
      rw [z] at e hb
      obtain ⟨vs, e2⟩ := n2 _ e
      rcases hb with hb | ⟨ps, hb⟩
      · rw [e2] at hb; unfold CodeO at hb; cases hb
      · rw [e2] at hb; cases hb
    simp [t_suite, dSeq, dIfS, dAnd, dTru, dIsE, dVar, dup_same, askC, askV, tru, dRet, dTup, dCons, dC, dNil, dXf, List.lookup]
    exact h2 c _ m4 T4
end HD

set_option Elab.async false
set_option linter.all false
set_option maxRecDepth 100000
set_option maxHeartbeats 1000000
namespace HD
open PySem PySem.Spec PyProof.Rows L2 L2.DL He LamX
def dueL (P : List PcL) : List (List Str) := sortT (P.flatMap fun q => teamsR q.1)
theorem dueL_perm (P : List PcL) : (dueL P).Perm (P.flatMap fun q => teamsR q.1) := List.mergeSort_perm _ leT
structure LawL (parts : Int) (P : List PcL) (days : List (List Ev)) : Prop where
  dl : DaysL parts P days
  dk : daysOk parts days
  m0 : 2 ≤ (dueL P).length
  m1 : (dueL P).length ≤ 2000
theorem LawL.tm {parts : Int} {P : List PcL} {days : List (List Ev)} (l : LawL parts P days) : ∀ t ∈ dueL P, t.length ≤ 12 := fun t ht => by
  obtain ⟨q, hq, hx⟩ := List.mem_flatMap.mp ((dueL_perm P).mem_iff.mp ht)
  obtain ⟨u, hu, rfl⟩ := List.mem_map.mp hx
  have := (prod_mem hu).1
  rw [(sortStr_perm u).length_eq]
  have := l.dl.ok.rl q hq
  have := l.dl.ok.p1
  omega
theorem same_atomR {G : DH} {d : D} (h : Atom d) : ∀ n, SameR G n d d
  | 0 => ⟨rfl, h⟩
  | n + 1 => .inl ⟨rfl, h⟩
theorem same_tup {G : DH} {t : List Str} (h : t.length ≤ 12) (n : Nat) : SameR G (n + 1) (tupT t) (tupT t) :=
  .inr (.inl ⟨_, _, rfl, rfl, rfl, by rw [List.length_map]; omega, fun i x y q1 q2 => by
    rw [q1] at q2
    cases q2
    obtain ⟨z, _, rfl⟩ := get_map q1
    exact same_atomR (.inr ⟨z, rfl⟩) n⟩)
theorem same_list {G : DH} {a b : Addr} {l : List (List Str)} (ha : G a = some (.lst (l.map tupT))) (hb : G b = some (.lst (l.map tupT))) (hl : l.length ≤ 2000) (ht : ∀ t ∈ l, t.length ≤ 12) (n : Nat) : SameR G (n + 2) (.ref a) (.ref b) :=
  .inr (.inr ⟨a, b, _, _, rfl, rfl, ha, hb, rfl, by rw [List.length_map]; omega, fun i x y q1 q2 => by
    rw [q1] at q2
    cases q2
    obtain ⟨t, et, rfl⟩ := get_map q1
    exact same_tup (ht t (List.mem_of_getElem? et)) n⟩)
theorem same_pair {G : DH} {x : Str} {d e : D} {n : Nat} (h : SameR G n d e) : SameR G (n + 1) (.tup [.str x, d]) (.tup [.str x, e]) :=
  .inr (.inl ⟨_, _, rfl, rfl, rfl, by simp, fun i a b q1 q2 => by
    match i, q1, q2 with
    | 0, q1, q2 => simp at q1 q2; subst q1; subst q2; exact same_atomR (.inr ⟨x, rfl⟩) n
    | 1, q1, q2 => simp at q1 q2; subst q1; subst q2; exact h
    | i + 2, q1, q2 => simp at q1⟩)
section
variable {Y : Wd} {P : Addr} {parts : Int} {P0 : List PcL} {days : List (List Ev)} {lg du : Addr} {E' : DX} {G : DH} {Q : DVK} {nx : DSt → DH → Prop} {o0 o1 o2 o3 o4 o5 o6 o7 o8 o9 o10 o11 o12 o13 o14 o15 : Option D}
theorem sure_ok (l : LawL parts P0 days) {E : DX} {most : Int} (hl : G lg = some (logO Y.K parts days)) (m1 : 1 ≤ most) (m2 : most ≤ 100000) (hE : most < ((dueL P0).length : Nat) → E (ga Y.K "TooMany") [("most", .int most)] G)
    (hQ : (((dueL P0).length : Nat) : Int) ≤ most → ∀ r G', G r = none → G' r = some (.lst ((dueL P0).map tupT)) → DLe G G' → Q (.ref r) G') : sp_sure_teams Y.K [.ref lg, .int 0, .int (days.length : Nat), .int most] G Q E := by
  have p0 := l.dl.ok.p0
  refine ⟨lg, parts, days, most, rfl, hl, l.dk, by omega, l.dl.ok.p1, m1, m2, ⟨_, l.dl.pot⟩, fun ns root turn w => ?_⟩
  obtain ⟨a1, a2⟩ := l.dl.main w
  have e1 : manyT (tabsW parts ns root turn) = (dueL P0).length := by rw [← teams_len, a2.length_eq, (dueL_perm P0).length_eq]
  have e2 : sortT ((tabsW parts ns root turn).flatMap teamsR) = dueL P0 := sortT_inv a2
  rw [e1, e2]
  exact ⟨a1, hE, hQ⟩
theorem r15 (l : LawL parts P0 days) (hl : G lg = some (logO Y.K parts days)) (hT : TabD P qL G) (hQ : ∀ G', Q (.bl true) G') :
    R_law_15 Y P E' { nx := nx, rt := Q } [o0, o1, o2, o3, o4, o5, o6, o7, o8, o9, o10, some (daysD days), some (.ref lg), some (.int ((dueL P0).length : Nat)), o14, o15] G := by
  have m0 := l.m0
  have m1 := l.m1
  unfold R_law_15 L_law_15
  simp only [dRet, dCall, dCons, dNil]
  refine said (m := ((dueL P0).length : Nat) - 1) (Res := fun _ _ => False) (rs := True) hT (fun E2 Ga Q1 k t hr hE => ?_) (fun d G' _ _ z => z.elim) fun _ G' k t => ?_
  · simp [dCallK, dCons, dNil, dVar, dC, dCB, DL.rLen, dOp, rInt]
    have := sure_ok (Y := Y) (E := E2) (Q := Q1) (most := ((dueL P0).length : Nat) - 1) l (k.ins hl) (by omega) (by omega) (fun _ => hE trivial) (fun c => by omega)
    simpa using this
  · simp [dTup, dCons, dNil, dC, dOp, dVar, rInt]
    exact ⟨_, _, rfl, same_pair (same_atomR (.inl ⟨_, rfl⟩) 2), hQ G'⟩
theorem r14 (l : LawL parts P0 days) (hl : G lg = some (logO Y.K parts days)) (hT : TabD P qL G) (hd : G du = some (.lst ((dueL P0).map tupT))) (hQ : ∀ G', Q (.bl true) G') :
    R_law_14 Y P E' { nx := nx, rt := Q } [o0, o1, o2, o3, o4, o5, o6, some (.ref du), o8, o9, o10, some (daysD days), some (.ref lg), some (.int ((dueL P0).length : Nat)), o14, o15] G := by
  have m0 := l.m0
  have m1 := l.m1
  unfold R_law_14 L_law_14
  simp [dSeq, dIfS, dNot, dTru, dCall, dCallK, dCons, dNil, dVar, dC, dCB, DL.rLen]
  refine sure_ok l hl (by omega) (by omega) (fun c => by omega) fun _ r G' hr g dle => ?_
  refine ⟨_, _, rfl, same_list g (dle _ _ hd) m1 l.tm 1, ?_⟩
  simp [tru, dNext]
  exact r15 l (dle _ _ hl) (tab_dle hT dle) hQ
theorem r13 {fo : Addr} (l : LawL parts P0 days) (hl : G lg = some (logO Y.K parts days)) (hT : TabD P qL G) (hd : G du = some (.lst ((dueL P0).map tupT))) (hf : G fo = some (.lst ((dueL P0).map tupT))) (n : fo ≠ du) (hQ : ∀ G', Q (.bl true) G') :
    R_law_13 Y P E' { nx := nx, rt := Q } [o0, o1, o2, o3, o4, o5, o6, some (.ref du), o8, o9, o10, some (daysD days), some (.ref lg), some (.int ((dueL P0).length : Nat)), o14, some (.ref fo)] G := by
  have m1 := l.m1
  have nlf : lg ≠ fo := fun z => by rw [z, hf] at hl; cases hl
  unfold R_law_13 L_law_13
  simp [dSeq, dDrop, dBM, dVar, isTy, hf, dCons, dNil, dC, rApp, withL]
  refine ⟨by omega, r14 l (by rw [dup_ne nlf]; exact hl) (TabD.le hT fun b o e _ => ?_) (by rw [dup_ne (Ne.symm n)]; exact hd) hQ⟩
  rw [dup_ne fun z => by rw [z, hf] at e; cases e]; exact e
theorem r12 {fo : Addr} (l : LawL parts P0 days) (hl : G lg = some (logO Y.K parts days)) (hT : TabD P qL G) (hd : G du = some (.lst ((dueL P0).map tupT))) (hf : G fo = some (.lst ((dueL P0).map tupT))) (n : fo ≠ du) (hQ : ∀ G', Q (.bl true) G') :
    R_law_12 Y P E' { nx := nx, rt := Q } [o0, o1, o2, o3, o4, o5, o6, some (.ref du), o8, o9, o10, some (daysD days), some (.ref lg), some (.int ((dueL P0).length : Nat)), o14, some (.ref fo)] G := by
  unfold R_law_12 L_law_12
  simp only [dSeq, dIfS, dNot, dTru, dCall, dCons, dNil, dVar, List.getElem?_cons_zero, List.getElem?_cons_succ]
  refine ⟨_, _, rfl, same_list hf hd l.m1 l.tm 1, ?_⟩
  simp [tru, dNext]
  exact r13 l hl hT hd hf n hQ
theorem r11 {h ca : Addr} (l : LawL parts P0 days) (hh : HandA G h ca) (hl : G lg = some (logO Y.K parts days)) (hT : TabD P qL G) (hd : G du = some (.lst ((dueL P0).map tupT))) (ndh : du ≠ h) (hQ : ∀ G', Q (.bl true) G') :
    R_law_11 Y P E' { nx := nx, rt := Q } [o0, some (.ref h), o2, o3, o4, o5, o6, some (.ref du), o8, o9, o10, some (daysD days), some (.ref lg), some (.int ((dueL P0).length : Nat)), o14, o15] G := by
  have m0 := l.m0
  have m1 := l.m1
  have nlh : lg ≠ h := fun z => by
    obtain ⟨_, _, _, _, _, w, _⟩ := hh
    rw [z, w] at hl; cases hl
  unfold R_law_11 L_law_11
  simp [dSeq, dAsg, dCallK, dCall, dCons, dNil, dVar, dLst, dC, dCB, DL.rLen, dOp, rInt, CPow, DL.rAdd, dgName]
  intro s hs
  obtain ⟨nsh, nsc⟩ := hh.fresh hs
  refine ⟨h, ca, s, _, rfl, hh.upd _ nsh nsc, dup_same, nsh, by simp, by simp, fun i hi G' hh' fr => ?_⟩
  have frG : Fr [h] G G' := fun a o n q => fr a o n (by rw [dup_ne fun z => by rw [z, hs] at q; cases q]; exact q)
  have hl' := frG _ _ (by simpa using nlh) hl
  have hd' := frG _ _ (by simpa using ndh) hd
  have hT' := tab_hand hT hh frG
  have fin : ∀ lim : Int, ((dueL P0).length : Nat) ≤ lim → lim ≤ 100000 → sp_sure_teams Y.K [.ref lg, .int 0, .int (days.length : Nat), .int lim] G' (fun d G1 => R_law_12 Y P E' { nx := nx, rt := Q } [o0, some (.ref h), o2, o3, o4, o5, o6, some (.ref du), o8, o9, o10, some (daysD days), some (.ref lg), some (.int ((dueL P0).length : Nat)), o14, some d] G1) DX0 := fun lim a1 a2 =>
    sure_ok l hl' (by omega) a2 (fun c => by omega) fun _ r G2 hr g dle => r12 l (dle _ _ hl') (tab_dle hT' dle) (dle _ _ hd') g (fun z => by rw [z, hd'] at hr; cases hr) hQ
  match i, hi with
  | 0, _ => simpa using fin _ (Int.le_refl _) (by omega)
  | 1, _ => simpa using fin 100000 (by omega) (by omega)
  | 2, _ => simpa using fin (((dueL P0).length : Nat) + 1) (by omega) (by omega)
theorem r10 {h ca : Addr} {d : D} (l : LawL parts P0 days) (hh : HandA G h ca) (hl : G lg = some (logO Y.K parts days)) (hT : TabD P qL G) (hd : G du = some (.lst ((dueL P0).map tupT))) (ndh : du ≠ h)
    (hsd : (∃ r, ((dueL P0).length : Nat) ≤ (1000 : Int) ∧ d = .tup [.str "told", .ref r] ∧ G r = some (.lst ((dueL P0).map tupT))) ∨ ((1000 : Int) < ((dueL P0).length : Nat) ∧ d = .tup [.str "many", .int 1000])) (hQ : ∀ G', Q (.bl true) G') :
    R_law_10 Y P E' { nx := nx, rt := Q } [o0, some (.ref h), o2, o3, o4, o5, o6, some (.ref du), o8, o9, o10, some (daysD days), some (.ref lg), some (.int ((dueL P0).length : Nat)), some d, o15] G := by
  unfold R_law_10 L_law_10
  rcases hsd with ⟨r, c, rfl, hr⟩ | ⟨c, rfl⟩
  · have c' : decide ((((dueL P0).length : Nat) : Int) ≤ 1000) = true := decide_eq_true c
    simp [dSeq, dIfS, dNot, dTru, dCall, dCons, dNil, dVar, dIf, dTest, dOp, dC, rInt, dTup]
    simp only [c']
    refine ⟨_, _, rfl, same_pair (same_list hr hd l.m1 l.tm 0), ?_⟩
    simp [tru, dNext]
    exact r11 l hh hl hT hd ndh hQ
  · have c' : decide ((((dueL P0).length : Nat) : Int) ≤ 1000) = false := decide_eq_false (by omega)
    simp [dSeq, dIfS, dNot, dTru, dCall, dCons, dNil, dVar, dIf, dTest, dOp, dC, rInt, dTup]
    simp only [c']
    refine ⟨_, _, rfl, same_pair (same_atomR (.inl ⟨_, rfl⟩) 2), ?_⟩
    simp [tru, dNext]
    exact r11 l hh hl hT hd ndh hQ
theorem r9 {h ca : Addr} (l : LawL parts P0 days) (hh : HandA G h ca) (hl : G lg = some (logO Y.K parts days)) (hT : TabD P qL G) (hd : G du = some (.lst ((dueL P0).map tupT))) (ndh : du ≠ h) (hQ : ∀ G', Q (.bl true) G') :
    R_law_9 Y P E' { nx := nx, rt := Q } [o0, some (.ref h), o2, o3, o4, o5, o6, some (.ref du), o8, o9, o10, some (daysD days), some (.ref lg), some (.int ((dueL P0).length : Nat)), o14, o15] G := by
  have m0 := l.m0
  have m1 := l.m1
  unfold R_law_9 L_law_9
  simp only [dSeq, dAsg]
  refine said (m := 1000) (Res := fun d G' => ((dueL P0).length : Nat) ≤ (1000 : Int) ∧ ∃ r, d = .ref r ∧ G' r = some (.lst ((dueL P0).map tupT))) (rs := (1000 : Int) < ((dueL P0).length : Nat)) hT (fun E2 Ga Q1 k t hr hE => ?_) (fun d G' k t ⟨c, r, e, g⟩ => ?_) fun c G' k t => ?_
  · simp [dCall, dCons, dNil, dVar, dC, dCB, DL.rLen]
    have := sure_ok (Y := Y) (E := E2) (Q := Q1) (most := 1000) l (k.ins hl) (by omega) (by omega) hE fun c r G' _ g dle => hr _ _ (k.trans (KeepM.of dle)) (tab_dle t dle) ⟨c, r, rfl, g⟩
    simpa using this
  · subst e
    simp only [dgName, List.set]
    exact r10 l (k.hand hh) (k.ins hl) t (k.lst hd) ndh (.inl ⟨r, c, rfl, g⟩) hQ
  · simp only [dgName, List.set]
    exact r10 l (k.hand hh) (k.ins hl) t (k.lst hd) ndh (.inr ⟨c, rfl⟩) hQ
end
end HD

set_option Elab.async false
set_option linter.all false
set_option maxRecDepth 100000
set_option maxHeartbeats 1000000
namespace HD
open PySem PySem.Spec PyProof.Rows L2 L2.DL He LamX
theorem paired_right {α β : Type} {F : α → β → Prop} : ∀ {l : List α} {m : List β}, Paired F l m → ∀ b ∈ m, ∃ a ∈ l, F a b
  | _, _, .cons f fs, b, h => by
    rcases List.mem_cons.mp h with rfl | h
    · exact ⟨_, List.mem_cons_self, f⟩
    · obtain ⟨a, ha, q⟩ := paired_right fs b h
      exact ⟨a, List.mem_cons_of_mem _ ha, q⟩
def prodN (ss : List Nat) : Nat := ss.foldr (· * ·) 1
/-- a choice of the law: sizes of rows -/
def choB (n : Nat) (c : List (List Nat)) : Bool := decide (2 ≤ n) && decide (n ≤ 12) && decide (1 ≤ c.length) && (c.all fun ss => decide (ss.length = n) && (ss.all fun s => decide (1 ≤ s)) && decide (prodN ss ≤ 2000)) && decide ((c.map List.sum).sum ≤ 60) && decide (2 ≤ (c.map prodN).sum) && decide ((c.map prodN).sum ≤ 2000)
structure ChoC (n : Nat) (c : List (List Nat)) : Prop where
  n0 : 2 ≤ n
  n1 : n ≤ 12
  c0 : 1 ≤ c.length
  ln : ∀ ss ∈ c, ss.length = n
  ge : ∀ ss ∈ c, ∀ s ∈ ss, 1 ≤ s
  pr : ∀ ss ∈ c, prodN ss ≤ 2000
  su : (c.map List.sum).sum ≤ 60
  m0 : 2 ≤ (c.map prodN).sum
  m1 : (c.map prodN).sum ≤ 2000
theorem choC_of {n : Nat} {c : List (List Nat)} (h : choB n c = true) : ChoC n c := by
  unfold choB at h
  simp only [Bool.and_eq_true, decide_eq_true_eq, List.all_eq_true] at h
  obtain ⟨⟨⟨⟨⟨⟨h1, h2⟩, h3⟩, h4⟩, h5⟩, h6⟩, h7⟩ := h
  exact ⟨h1, h2, h3, fun ss hs => (h4 ss hs).1.1, fun ss hs => (h4 ss hs).1.2, fun ss hs => (h4 ss hs).2, h5, h6, h7⟩
theorem prod_N (rows : List (List Str)) : (prodG rows).length = prodN (rows.map List.length) := by
  rw [prod_len]
  induction rows with
  | nil => rfl
  | cons r rows ih => simp only [List.foldr_cons, List.map_cons, prodN, ih]
theorem sum_ge : ∀ {ss : List Nat}, (∀ s ∈ ss, 1 ≤ s) → ss.length ≤ ss.sum
  | [], _ => by simp
  | s :: ss, h => by
    have := sum_ge (ss := ss) fun x hx => h x (List.mem_cons_of_mem _ hx)
    have := h s List.mem_cons_self
    simp; omega
theorem flat_sum (rows : List (List Str)) : rows.flatten.length = (rows.map List.length).sum := List.length_flatten
/-- a piece of such sizes -/
structure PcOf (ss : List Nat) (q : PcL) : Prop where
  ln : q.1.map List.length = ss
  so : ∀ r ∈ q.1, r.Pairwise leS
  ev : EvJ (ss.length : Nat) q.1.flatten (hidR q.1) q.2
  el : q.2.length + 1 = ss.sum
theorem EvJ.perm {parts : Int} {ys zs : List Str} {hid : Str → Nat} {es : List Ev} (h : EvJ parts ys hid es) (p : ys.Perm zs) : EvJ parts zs hid es :=
  ⟨fun e he => by
    obtain ⟨h1, h2, h3⟩ := h.ev e he
    exact ⟨p.mem_iff.mp h1, p.mem_iff.mp h2, h3⟩, fun C c hc x hx y hy => h.con C c hc x (p.mem_iff.mpr hx) y (p.mem_iff.mpr hy)⟩
theorem pcOf_rowsC {xs : List Str} {ss : List Nat} {es : List Ev} (hs : xs.length = ss.sum) (h : EvJ (ss.length : Nat) xs (hidR (rowsC xs ss)) es) (hl : es.length + 1 = xs.length) : PcOf ss (rowsC xs ss, es) := by
  have hf := flat_sort (chunk xs ss)
  rw [chunk_flat (by omega)] at hf
  refine ⟨?_, fun r hr => ?_, h.perm hf.symm, by show es.length + 1 = ss.sum; omega⟩
  · show ((chunk xs ss).map sortStr).map List.length = ss
    rw [List.map_map]
    have : (List.length ∘ sortStr) = (List.length : List Str → Nat) := by
      funext r; exact (sortStr_perm r).length_eq
    rw [this, chunk_lens (by omega)]
  · obtain ⟨c, _, rfl⟩ := List.mem_map.mp hr
    exact sortStr_pw c
theorem rowsC_flat {xs : List Str} {ss : List Nat} (hs : xs.length = ss.sum) : (rowsC xs ss).flatten.Perm xs := by
  have hf := flat_sort (chunk xs ss)
  rw [chunk_flat (by omega)] at hf; exact hf
theorem PcOf.ok {n : Nat} {c : List (List Nat)} (hc : ChoC n c) {ss : List Nat} (hs : ss ∈ c) {q : PcL} (h : PcOf ss q) : RowsOk q.1 := by
  have hl := hc.ln ss hs
  have el : q.1.length = n := by rw [← hl, ← h.ln, List.length_map]
  have n0 := hc.n0
  have n1 := hc.n1
  have hsum : ss.sum ≤ 60 := by
    have : ∀ d : List (List Nat), ss ∈ d → ss.sum ≤ (d.map List.sum).sum := fun d => by
      induction d with
      | nil => intro h; cases h
      | cons t d ih =>
        intro h
        rcases List.mem_cons.mp h with rfl | h
        · simp
        · have := ih h; simp; omega
    have := this c hs
    have := hc.su
    omega
  have hone : ∀ r ∈ q.1, 1 ≤ r.length := fun r hr => hc.ge ss hs _ (by rw [← h.ln]; exact List.mem_map.mpr ⟨r, hr, rfl⟩)
  refine ⟨by omega, by omega, fun r hr => ?_, fun k => Nat.le_trans (prod_take hone k) (by rw [prod_N, h.ln]; exact hc.pr ss hs)⟩
  have : r.length ≤ q.1.flatten.length := (List.sublist_flatten_of_mem hr).length_le
  rw [flat_sum, h.ln] at this
  omega
theorem sums {c : List (List Nat)} {P : List PcL} (h : Paired PcOf c P) : (nmsL P).length = (c.map List.sum).sum ∧ (P.flatMap fun q => teamsR q.1).length = (c.map prodN).sum ∧ (P.flatMap (·.2)).length ≤ (nmsL P).length := by
  induction h with
  | nil => exact ⟨rfl, rfl, Nat.le_refl _⟩
  | cons f fs ih =>
    rename_i ss q c P
    obtain ⟨i1, i2, i3⟩ := ih
    have e1 : q.1.flatten.length = ss.sum := by rw [flat_sum, f.ln]
    have e2 : (teamsR q.1).length = prodN ss := by rw [← f.ln, ← prod_N]; simp [teamsR]
    have e3 := f.el
    simp only [nmsL, List.flatMap_cons, List.length_append, List.map_cons, List.sum_cons] at i1 i2 i3 ⊢
    exact ⟨by omega, by omega, by omega⟩
theorem pcLs_of {n : Nat} {c : List (List Nat)} (hc : ChoC n c) {P : List PcL} {left : List Str} (h : Paired PcOf c P) (hp : (nmsL P ++ left).Perm names60) : PcLs (n : Nat) P := by
  have n0 := hc.n0
  have n1 := hc.n1
  have nd := (hp.nodup_iff.mpr names60_nd)
  rw [List.nodup_append] at nd
  have R := paired_right h
  refine ⟨by omega, by omega, fun q hq => ?_, fun q hq => ?_, fun q hq => ?_, fun q hq => ?_, fun q hq => ?_, nd.1, fun x hx => hp.mem_iff.mp (List.mem_append_left _ hx), fun q hq => ?_⟩
  all_goals obtain ⟨ss, hs, f⟩ := R q hq
  · have := hc.ln ss hs
    have e : q.1.length = ss.length := by rw [← f.ln, List.length_map]
    omega
  · exact f.so
  · rw [flat_sum, f.ln]
    have := sum_ge (hc.ge ss hs)
    have := hc.ln ss hs
    omega
  · intro r hr
    exact hc.ge ss hs _ (by rw [← f.ln]; exact List.mem_map.mpr ⟨r, hr, rfl⟩)
  · rw [prod_N, f.ln]; exact hc.pr ss hs
  · have := f.ev
    rw [hc.ln ss hs] at this; exact this
theorem daysOk_of {n : Nat} {P : List PcL} {days : List (List Ev)} (ok : PcLs (n : Nat) P) (hP : 1 ≤ P.length) (he : (P.flatMap (·.2)).length ≤ 60) (hp : days.flatten.Perm (P.flatMap (·.2))) (hd : ∀ d ∈ days, 1 ≤ d.length ∧ d.length ≤ 12) : daysOk (n : Nat) days := by
  have hl := hp.length_eq
  have hdays : days.length ≤ days.flatten.length := by
    have : ∀ dd : List (List Ev), (∀ d ∈ dd, 1 ≤ d.length ∧ d.length ≤ 12) → dd.length ≤ dd.flatten.length := fun dd => by
      induction dd with
      | nil => simp
      | cons d dd ih =>
        intro hd
        have h1 := (hd d List.mem_cons_self).1
        have h2 := ih fun x hx => hd x (List.mem_cons_of_mem _ hx)
        simp only [List.length_cons, List.flatten_cons, List.length_append]; omega
    exact this days hd
  have mem : ∀ e ∈ days.flatten, ∃ q ∈ P, e ∈ q.2 := fun e he => List.mem_flatMap.mp (hp.mem_iff.mp he)
  refine ⟨?_, by omega, fun d h => (hd d h).2, fun d h e h2 => ?_, ?_⟩
  · match P, hP with
    | q :: P, _ =>
      have h2 := ok.ne q List.mem_cons_self
      obtain ⟨x, hx⟩ : ∃ x, x ∈ q.1.flatten := by
        match q.1.flatten, h2 with
        | a :: _, _ => exact ⟨a, by simp⟩
      obtain ⟨e, he, _⟩ := ok.cov List.mem_cons_self hx
      have : e ∈ days.flatten := hp.mem_iff.mpr (List.mem_flatMap.mpr ⟨q, List.mem_cons_self, he⟩)
      match days, this with
      | d :: _, _ => simp
  · obtain ⟨q, hq, he2⟩ := mem e (List.mem_flatten.mpr ⟨d, h, h2⟩)
    obtain ⟨m1, m2, m3, m4⟩ := (ok.ev q hq).ev e he2
    have p0 := ok.p0
    refine ⟨names60_ok _ (ok.nm _ (memL hq m1)), names60_ok _ (ok.nm _ (memL hq m2)), m3, ?_, ?_⟩
    · rw [m4]; exact Int.emod_nonneg _ (by omega)
    · rw [m4]; exact Int.emod_lt_of_pos _ (by omega)
  · have e60 : names60.length = 60 := by simp [names60]
    have := WB.nd_le (l := namesA days.flatten) (m := names60) (fold_nd List.nodup_nil) fun x hx => by
      rcases fold_in hx with hx | ⟨e, he, q⟩
      · cases hx
      · obtain ⟨p, hp2, he3⟩ := mem e he
        obtain ⟨m1, m2, _⟩ := (ok.ev p hp2).ev e he3
        rcases q with rfl | rfl
        · exact ok.nm _ (memL hp2 m1)
        · exact ok.nm _ (memL hp2 m2)
    omega
theorem lawL_of {n : Nat} {c : List (List Nat)} (hc : ChoC n c) {P : List PcL} {left : List Str} (h : Paired PcOf c P) (hp : (nmsL P ++ left).Perm names60) {days : List (List Ev)} (hpd : days.flatten.Perm (P.flatMap (·.2))) (hd : ∀ d ∈ days, 1 ≤ d.length ∧ d.length ≤ 12) : LawL (n : Nat) P days := by
  obtain ⟨s1, s2, s3⟩ := sums h
  have ok := pcLs_of hc h hp
  have hP : 1 ≤ P.length := by rw [← paired_len h]; exact hc.c0
  have su := hc.su
  refine ⟨⟨ok, hpd⟩, daysOk_of ok hP (by omega) hpd hd, ?_, ?_⟩
  · rw [(dueL_perm P).length_eq, s2]; exact hc.m0
  · rw [(dueL_perm P).length_eq, s2]; exact hc.m1
end HD

set_option Elab.async false
set_option linter.all false
set_option maxRecDepth 100000
set_option maxHeartbeats 1000000
namespace HD
open PySem PySem.Spec PyProof.Rows L2 L2.DL He LamX
/-! lists of tuples of numbers -/
def litI : List Nat → DA
  | [] => dNil
  | s :: ss => dCons (dC (.int (s : Nat))) (litI ss)
def litT : List (List Nat) → DA
  | [] => dNil
  | ss :: c => dCons (dTup (litI ss)) (litT c)
def litA : List (List (List Nat)) → DA
  | [] => dNil
  | c :: cs => dCons (dLst (litT c)) (litA cs)
theorem litI_ev : ∀ {ss : List Nat} {τ : DSt} {G : DH} {Q : List D → DH → Prop}, Q (ss.map fun s => .int (s : Nat)) G → litI ss τ G Q
  | [], _, _, _, h => h
  | s :: ss, τ, G, Q, h => by
    simp only [litI, dCons, dC]
    exact litI_ev h
theorem litT_ev : ∀ {c : List (List Nat)} {τ : DSt} {G : DH} {Q : List D → DH → Prop}, (∀ ss ∈ c, ss.length ≤ 1000) → Q (c.map sizD) G → litT c τ G Q
  | [], _, _, _, _, h => h
  | ss :: c, τ, G, Q, hl, h => by
    simp only [litT, dCons, dTup]
    refine litI_ev ⟨?_, litT_ev (fun x hx => hl x (List.mem_cons_of_mem _ hx)) h⟩
    have := hl ss List.mem_cons_self
    rw [List.length_map]; omega
theorem litA_ev : ∀ {cs : List (List (List Nat))} {τ : DSt} {G : DH} {Q : List D → DH → Prop}, (∀ c ∈ cs, c.length ≤ 1000 ∧ ∀ ss ∈ c, ss.length ≤ 1000) →
    (∀ as G', Paired (fun a c => G' a = some (.lst (c.map sizD)) ∧ G a = none) as cs → DLe G G' → Q (as.map .ref) G') → litA cs τ G Q
  | [], _, G, _, _, h => h [] G .nil (DLe.refl G)
  | c :: cs, τ, G, Q, hl, h => by
    obtain ⟨h1, h2⟩ := hl c List.mem_cons_self
    simp only [litA, dCons, dLst]
    refine litT_ev h2 ⟨by rw [List.length_map]; omega, fun p hp => ?_⟩
    refine litA_ev (fun x hx => hl x (List.mem_cons_of_mem _ hx)) fun as G' hpa dle => ?_
    have hp0 : DLe G (dup G p (.lst (c.map sizD))) := DLe.new hp
    exact h (p :: as) G' (.cons ⟨dle _ _ dup_same, hp⟩ (Paired.mapP hpa fun a c z => ⟨z.1, none_of hp0 z.2⟩)) (hp0.trans dle)
def csA : List (List (List Nat)) := [[[10, 10, 10]], [[5, 5, 5, 8]], [[2, 2, 2, 5, 5, 5]], [[9, 10, 12]], [[3, 7, 6, 8]], [[20, 40]]]
def csB : List (List (List Nat)) := [[[30, 16], [1, 1]], [[8, 8, 8], [4, 11, 11]], [[11, 7, 13]], [[25, 20], [4, 3]]]
theorem cs_ok : ∀ c ∈ csA ++ csB, ∃ n, ChoC n c := by
  have : ∀ c ∈ csA ++ csB, choB (c.head?.getD []).length c = true := by decide +kernel
  exact fun c hc => ⟨_, choC_of (this c hc)⟩
theorem csA_sm : ∀ c ∈ csA, c.length ≤ 1000 ∧ ∀ ss ∈ c, ss.length ≤ 1000 := by decide +kernel
theorem csB_sm : ∀ c ∈ csB, c.length ≤ 1000 ∧ ∀ ss ∈ c, ss.length ≤ 1000 := by decide +kernel
theorem sum_cast : ∀ ss : List Nat, (ss.map fun s => ((s : Nat) : Int)).sum = ((ss.sum : Nat) : Int)
  | [] => rfl
  | s :: ss => by rw [List.map_cons, List.sum_cons, sum_cast ss, List.sum_cons, Int.natCast_add]
theorem ints_siz (ss : List Nat) : intsOf (ss.map fun s => D.int (s : Nat)) = some (ss.map fun s => ((s : Nat) : Int)) := by
  have := intsOf_of (ss.map fun s => ((s : Nat) : Int))
  rw [List.map_map] at this; exact this
section
variable {Y : Wd} {P : Addr} {E' : DX} {G : DH} {Q : DVK} {nx : DSt → DH → Prop} {o0 o1 o2 o3 o4 o5 o6 o7 o8 o9 o10 o11 o12 o13 o14 o15 : Option D} {h ca : Addr}
theorem r8 {n : Nat} {P0 : List PcL} {days : List (List Ev)} {sz du : Addr} {c : List (List Nat)} (hc : ChoC n c) (l : LawL (n : Nat) P0 days) (hh : HandA G h ca) (hT : TabD P qL G) (hs : G sz = some (.lst (c.map sizD))) (hd : G du = some (.lst ((dueL P0).map tupT))) (ndh : du ≠ h) (hQ : ∀ G', Q (.bl true) G') :
    R_law_8 Y P E' { nx := nx, rt := Q } [o0, some (.ref h), o2, some (.ref sz), o4, o5, o6, some (.ref du), o8, o9, o10, some (daysD days), o12, o13, o14, o15] G := by
  obtain ⟨ss, c', rfl⟩ : ∃ ss c', c = ss :: c' := by
    match c, hc.c0 with
    | ss :: c', _ => exact ⟨ss, c', rfl⟩
  have hl := hc.ln ss List.mem_cons_self
  have n0 := hc.n0
  have n1 := hc.n1
  unfold R_law_8 L_law_8
  simp [dSeq, dAsg, dTup, dCons, dNil, dMake, dCB, dOp, dVar, dC, rGetS, hs, atI, ixN, sizD, DL.rLen, hl]
  intro p hp
  have ndp : du ≠ p := fun z => by rw [z, hp] at hd; cases hd
  refine ⟨p, (n : Nat), days, rfl, by omega, by omega, l.dk, dup_same, rfl, ?_⟩
  rw [dup_dup]
  simp [dup_ne ndp, hd, dgTup, dgCons, dgNil, dgName]
  have d1 : DLe G (dup G p (logO Y.K (n : Nat) days)) := DLe.new hp
  exact r9 l (hh.le d1) dup_same (tab_dle hT d1) (d1 _ _ hd) ndh hQ
theorem r7 {n : Nat} {P0 : List PcL} {left : List Str} {sz du ev : Addr} {c : List (List Nat)} (hc : ChoC n c) (hP : Paired PcOf c P0) (hp : (nmsL P0 ++ left).Perm names60) (hh : HandA G h ca) (hT : TabD P qL G) (hs : G sz = some (.lst (c.map sizD))) (nsh : sz ≠ h)
    (hd : G du = some (.lst ((P0.flatMap fun q => teamsR q.1).map tupT))) (ndh : du ≠ h) (he : G ev = some (.lst ((P0.flatMap (·.2)).map evv))) (neh : ev ≠ h) (hQ : ∀ G', Q (.bl true) G') :
    R_law_7 Y P E' { nx := nx, rt := Q } [o0, some (.ref h), o2, some (.ref sz), o4, o5, some (.ref ev), some (.ref du), o8, o9, o10, o11, o12, o13, o14, o15] G := by
  obtain ⟨s1, s2, s3⟩ := sums hP
  have su := hc.su
  have hok : ∀ rows ∈ P0.map (·.1), RowsOk rows := fun rows hr => by
    obtain ⟨q, hq, rfl⟩ := List.mem_map.mp hr
    obtain ⟨ss, hs, f⟩ := paired_right hP q hq
    exact f.ok hc hs
  have hto : ∀ t ∈ P0.flatMap fun q => teamsR q.1, 0 < t.length ∧ t.length ≤ 12 := fun t ht => by
    obtain ⟨q, hq, ht⟩ := List.mem_flatMap.mp ht
    exact teams_ok hok t (List.mem_flatMap.mpr ⟨q.1, List.mem_map.mpr ⟨q, hq, rfl⟩, ht⟩)
  unfold R_law_7 L_law_7
  simp only [dSeq, dAsg, dTup, dCons, dNil, dCall, dVar, dCB, List.getElem?_cons_zero, List.getElem?_cons_succ]
  refine ⟨h, ca, ev, _, rfl, hh, he, neh, by omega, fun days G1 hpd hdl hh1 fr => ?_⟩
  have hd1 := fr du _ (by simpa using ndh) hd
  have hs1 := fr sz _ (by simpa using nsh) hs
  refine .inr (.inl ?_)
  simp only [rSortD, withL, hd1]
  refine ⟨13, bsT (P0.flatMap fun q => teamsR q.1), by simp [bsT], pyOk_T G1 hto, fun p hp1 => ?_⟩
  rw [sortDP_T]
  simp only [dgTup, dgCons, dgNil, dgName, List.set, List.length_cons, List.length_nil]
  refine ⟨by omega, trivial, ?_⟩
  have l := lawL_of hc hP hp hpd hdl
  have d1 : DLe G1 (dup G1 p (.lst ((sortT (P0.flatMap fun q => teamsR q.1)).map tupT))) := DLe.new hp1
  exact r8 hc l (hh1.le d1) (tab_dle (tab_hand hT hh fr) d1) (d1 _ _ hs1) dup_same (hh1.fresh hp1).1 hQ
theorem r6 {n : Nat} {sz du ev nm : Addr} {c : List (List Nat)} {xs : List Str} (hc : ChoC n c) (hh : HandA G h ca) (hT : TabD P qL G) (hs : G sz = some (.lst (c.map sizD))) (nsh : sz ≠ h) (hd : G du = some (.lst [])) (ndh : du ≠ h) (he : G ev = some (.lst [])) (neh : ev ≠ h)
    (hn : G nm = some (.lst (xs.map .str))) (nnh : nm ≠ h) (hx : xs.Perm names60) (hQ : ∀ G', Q (.bl true) G') :
    R_law_6 Y P E' { nx := nx, rt := Q } [o0, some (.ref h), o2, some (.ref sz), some (.ref nm), o5, some (.ref ev), some (.ref du), o8, o9, o10, o11, o12, o13, o14, o15] G := by
  unfold R_law_6 L_law_6
  simp only [dSeq, dFor, dSeqI, dVar, List.getElem?_cons_zero, List.getElem?_cons_succ, hs]
  refine ⟨fun i τ G' => ∃ ev nm du x8 x9 x10 P0 left, τ = [o0, some (.ref h), o2, some (.ref sz), some (.ref nm), o5, some (.ref ev), some (.ref du), x8, x9, x10, o11, o12, o13, o14, o15] ∧ Paired PcOf (c.take i) P0 ∧ (nmsL P0 ++ left).Perm names60 ∧
      HandA G' h ca ∧ TabD P qL G' ∧ G' sz = some (.lst (c.map sizD)) ∧ G' du = some (.lst ((P0.flatMap fun q => teamsR q.1).map tupT)) ∧ du ≠ h ∧ G' ev = some (.lst ((P0.flatMap (·.2)).map evv)) ∧ ev ≠ h ∧ G' nm = some (.lst (left.map .str)) ∧ nm ≠ h,
    ⟨ev, nm, du, _, _, _, [], xs, rfl, .nil, by simpa [nmsL] using hx, hh, hT, hs, by simpa using hd, ndh, by simpa using he, neh, hn, nnh⟩, ?_, ?_, ?_⟩
  · rintro i τ G' ⟨_, _, _, _, _, _, _, _, rfl, _, _, _, _, g, _⟩
    exact g
  · rintro i x τ G1 qx ⟨ev, nm, du, x8, x9, x10, P0, left, rfl, hP, hp, hh1, hT1, hs1, hd1, ndh, he1, neh, hn1, nnh⟩
    obtain ⟨ss, es, rfl⟩ := get_map (f := sizD) qx
    obtain ⟨hi, es2⟩ := List.getElem?_eq_some_iff.mp es
    have hmem : ss ∈ c := by rw [← es2]; exact List.getElem_mem hi
    have et : c.take (i + 1) = c.take i ++ [ss] := by rw [List.take_succ_eq_append_getElem hi, es2]
    obtain ⟨s1, s2, s3⟩ := sums hP
    have su := hc.su
    have hpl := hp.length_eq
    have e60 : names60.length = 60 := by simp [names60]
    rw [List.length_append, s1, e60] at hpl
    have sumle : ((c.take (i + 1)).map List.sum).sum ≤ (c.map List.sum).sum ∧ ((c.take (i + 1)).map prodN).sum ≤ (c.map prodN).sum := by
      have e1 := congrArg (fun d : List (List Nat) => (d.map List.sum).sum) (List.take_append_drop (i + 1) c)
      have e2 := congrArg (fun d : List (List Nat) => (d.map prodN).sum) (List.take_append_drop (i + 1) c)
      simp only [List.map_append, List.sum_append] at e1 e2
      exact ⟨by omega, by omega⟩
    have pm1 := hc.m1
    rw [et, List.map_append, List.sum_append, List.map_append, List.sum_append] at sumle
    simp only [List.map_cons, List.map_nil, List.sum_cons, List.sum_nil] at sumle
    obtain ⟨su1, su2⟩ := sumle
    have hl := hc.ln ss hmem
    have n0 := hc.n0
    have n1 := hc.n1
    have hge := sum_ge (hc.ge ss hmem)
    have hnd := hp.nodup_iff.mpr names60_nd
    rw [List.nodup_append] at hnd
    simp only [dgName, List.set, dSeq, dAsg, dCall, dCons, dNil, dVar, dSlice, dONone, dOSome, dCB, List.getElem?_cons_zero, List.getElem?_cons_succ, rSumT, sizD, ints_siz, sum_cast, rSlice, hn1, cut_takeA, List.length_cons, List.length_nil]
    intro p hp1
    have d1 : DLe G1 (dup G1 p (.lst ((left.map D.str).take ss.sum))) := DLe.new hp1
    have hxl : (left.take ss.sum).length = ss.sum := by rw [List.length_take]; omega
    refine ⟨h, ca, p, ss, left.take ss.sum, rfl, hh1.le d1, by rw [dup_same, List.map_take], (hh1.fresh hp1).1, by omega, ?_, hnd.2.1.sublist (List.take_sublist _ _), by omega, by omega, hxl, fun e1 r1 es1 G2 h1 h2 hj hjl g1 hR hh2 fr => ?_⟩
    · rw [hxl]; omega
    have frA : Fr [h] G1 G2 := fun a o n q => fr a o n (d1 _ _ q)
    have sz2 := frA sz _ (by simpa using nsh) hs1
    have du2 := frA du _ (by simpa using ndh) hd1
    have ev2 := frA ev _ (by simpa using neh) he1
    have nm2 := frA nm _ (by simpa using nnh) hn1
    have T2 := tab_hand hT1 hh1 frA
    have pc := pcOf_rowsC hxl hj hjl
    have rok := pc.ok hc hmem
    have hrl : RowsL G2 r1 (rowsC (left.take ss.sum) ss) := by
      obtain ⟨ps, a1, a2⟩ := hR
      exact ⟨ps, a1, Paired.mapP a2 fun _ _ z => z.2⟩
    have etl : (teamsR (rowsC (left.take ss.sum) ss)).length ≤ 2000 := by
      have := hc.pr ss hmem
      rw [← pc.ln, ← prod_N] at this
      simpa [teamsR] using this
    have hfp := rowsC_flat (xs := left.take ss.sum) (ss := ss) hxl
    generalize rowsC (left.take ss.sum) ss = rows at *
    simp only [dgTup, dgCons, dgNil, dgName, dSeq, dPar, dAsg, dCons, dNil, dOp, dVar, List.set, List.length_cons, List.length_nil, List.getElem?_cons_zero, List.getElem?_cons_succ, DL.rAdd, ev2, g1]
    refine ⟨trivial, by rw [List.length_map, List.length_map]; omega, fun p2 hp2 => ?_⟩
    have d2 : DLe G2 (dup G2 p2 (.lst (List.map evv (P0.flatMap (·.2)) ++ List.map evv es1))) := DLe.new hp2
    have nm3 := d2 _ _ nm2
    simp only [dSlice, dVar, dOSome, dONone, dCB, dCons, dNil, List.getElem?_cons_zero, List.getElem?_cons_succ, rSumT, sizD, ints_siz, sum_cast, rSlice, nm3, cut_dropA]
    intro p3 hp3
    have d3 := d2.trans (DLe.new (G := dup G2 p2 (.lst (List.map evv (P0.flatMap (·.2)) ++ List.map evv es1))) (o := .lst ((left.map D.str).drop ss.sum)) hp3)
    have g2 : dup (dup G2 p2 (.lst (List.map evv (P0.flatMap (·.2)) ++ List.map evv es1))) p3 (.lst ((left.map D.str).drop ss.sum)) p2 = some (.lst (List.map evv (P0.flatMap (·.2)) ++ List.map evv es1)) := by
      rw [dup_ne fun z => ?_, dup_same]
      rw [← z, dup_same] at hp3; cases hp3
    have g3 : dup (dup G2 p2 (.lst (List.map evv (P0.flatMap (·.2)) ++ List.map evv es1))) p3 (.lst ((left.map D.str).drop ss.sum)) p3 = some (.lst ((left.map D.str).drop ss.sum)) := dup_same
    have hp3h : p3 ≠ h := ((hh2.le d2).fresh hp3).1
    have hp2h : p2 ≠ h := (hh2.fresh hp2).1
    generalize dup (dup G2 p2 (.lst (List.map evv (P0.flatMap (·.2)) ++ List.map evv es1))) p3 (.lst ((left.map D.str).drop ss.sum)) = G3 at d3 g2 g3 ⊢
    simp only [List.set, List.getElem?_cons_zero, List.getElem?_cons_succ, dCall, dCons, dNil, dVar]
    refine ⟨r1, rows, rfl, hrl.le d3, rok, fun r4 G4 hr4 g4 d4 => ?_⟩
    have du4 := d4 _ _ (d3 _ _ du2)
    simp only [du4, g4]
    refine ⟨by rw [List.length_map, List.length_map]; omega, fun p5 hp5 => ?_⟩
    have d5 := (d3.trans d4).trans (DLe.new (G := G4) (o := .lst (List.map tupT (P0.flatMap fun q => teamsR q.1) ++ List.map tupT (teamsR rows))) hp5)
    have d45 := d4.trans (DLe.new (G := G4) (o := .lst (List.map tupT (P0.flatMap fun q => teamsR q.1) ++ List.map tupT (teamsR rows))) hp5)
    refine ⟨p2, p3, p5, _, _, _, P0 ++ [(rows, es1)], left.drop ss.sum, rfl, ?_, ?_, hh2.le d5, tab_dle T2 d5, d5 _ _ sz2, by rw [dup_same]; simp, (((hh2.le d3).le d4).fresh hp5).1, ?_, hp2h, ?_, hp3h⟩
    · rw [et]; exact paired_snoc hP pc
    · refine List.Perm.trans ?_ hp
      unfold nmsL
      rw [List.flatMap_append, List.append_assoc]
      refine List.Perm.append_left _ ?_
      have : (List.flatMap (fun q : PcL => q.1.flatten) [(rows, es1)] ++ left.drop ss.sum).Perm (left.take ss.sum ++ left.drop ss.sum) := by
        simp only [List.flatMap_cons, List.flatMap_nil, List.append_nil]
        exact hfp.append_right _
      rw [List.take_append_drop] at this; exact this
    · rw [d45 _ _ g2]; simp
    · rw [d45 _ _ g3, List.map_drop]
  · rintro τ G1 ⟨ev, nm, du, x8, x9, x10, P0, left, rfl, hP, hp, hh1, hT1, hs1, hd1, ndh, he1, neh, hn1, nnh⟩
    rw [List.length_map, List.take_length] at hP
    exact r7 hc hP hp hh1 hT1 hs1 nsh hd1 ndh he1 neh hQ
end
end HD

set_option Elab.async false
set_option linter.all false
set_option maxRecDepth 100000
set_option maxHeartbeats 1000000
namespace HD
open PySem PySem.Spec PyProof.Rows L2 L2.DL He LamX
section
variable {Y : Wd} {P : Addr} {E' : DX} {G : DH} {Q : DVK} {nx : DSt → DH → Prop} {o0 o1 o2 o3 o4 o5 o6 o7 o8 o9 o10 o11 o12 o13 o14 o15 : Option D} {h ca : Addr}
theorem r5 {n : Nat} {sz nm : Addr} {c : List (List Nat)} {xs : List Str} (hc : ChoC n c) (hh : HandA G h ca) (hT : TabD P qL G) (hs : G sz = some (.lst (c.map sizD))) (nsh : sz ≠ h) (hn : G nm = some (.lst (xs.map .str))) (nnh : nm ≠ h) (hx : xs.Perm names60) (hQ : ∀ G', Q (.bl true) G') :
    R_law_5 Y P E' { nx := nx, rt := Q } [o0, some (.ref h), o2, some (.ref sz), some (.ref nm), o5, o6, o7, o8, o9, o10, o11, o12, o13, o14, o15] G := by
  unfold R_law_5 L_law_5
  simp only [dSeq, dPar, dCons, dNil, dLst]
  refine ⟨by simp, fun ev hev => ⟨by simp, fun du hdu => ?_⟩⟩
  obtain ⟨nde, hdu'⟩ := dup_none.mp hdu
  have d1 : DLe G (dup (dup G ev (.lst [])) du (.lst [])) := (DLe.new hev).trans (DLe.new hdu)
  simp only [List.set]
  exact r6 hc (hh.le d1) (tab_dle hT d1) (d1 _ _ hs) nsh dup_same (hh.fresh hdu').1 (by rw [dup_ne (Ne.symm nde), dup_same]) (hh.fresh hev).1 (d1 _ _ hn) nnh hx hQ
theorem r4 {n : Nat} {sz : Addr} {c : List (List Nat)} (hc : ChoC n c) (hh : HandA G h ca) (hT : TabD P qL G) (hs : G sz = some (.lst (c.map sizD))) (nsh : sz ≠ h) (hQ : ∀ G', Q (.bl true) G') :
    R_law_4 Y P E' { nx := nx, rt := Q } [o0, some (.ref h), o2, some (.ref sz), o4, o5, o6, o7, o8, o9, o10, o11, o12, o13, o14, o15] G := by
  unfold R_law_4 L_law_4
  simp only [dSeq, dAsg, dCall, dCons, dNil, dVar, List.getElem?_cons_zero, List.getElem?_cons_succ]
  simp [dC1, dRng1, dCons, dNil, dC]
  intro p hp
  obtain ⟨np1, np2⟩ := hh.fresh hp
  refine ⟨fun i G' => G' = dup G p (.lst ((names60.take i).map .str)), by simp, ?_, ?_⟩
  · intro i x G1 hx hg
    subst hg
    obtain ⟨hi, rfl⟩ := rng_get hx
    have hi : i < 60 := hi
    have key : ∀ k < 8, atI (("abcdefgh" : Str)).cps.toList ((k : Nat) : Int) = some (97 + k) := by decide +kernel
    have l8 : ("abcdefgh" : Str).length = 8 := by decide +kernel
    have e1 : ((0 : Int) + (i : Nat) * 1) / 8 = ((i / 8 : Nat) : Int) := by omega
    have e2 : ((0 : Int) + (i : Nat) * 1) % 8 = ((i % 8 : Nat) : Int) := by omega
    have hl : i < names60.length := by simp [names60]; omega
    have en : names60[i] = ⟨#[97 + i / 8, 97 + i % 8]⟩ := by simp [names60]
    simp only [dgName, dwipe, dYes, dmL, dOp, dVar, dC, dCB, dCons, dNil, rToInt]
    simp [rInt, CDiv, rGetS, l8]
    have q1 := key (i / 8) (by omega)
    have q2 := key (i % 8) (by omega)
    have f1 : ((i : Nat) : Int) / 8 = ((i / 8 : Nat) : Int) := by omega
    have f2 : ((i : Nat) : Int) % 8 = ((i % 8 : Nat) : Int) := by omega
    rw [f1, f2, q1, q2]
    have ap : (⟨#[97 + i / 8]⟩ : Str) ++ ⟨#[97 + i % 8]⟩ = ⟨#[97 + i / 8, 97 + i % 8]⟩ := rfl
    have ln : ∀ c, (⟨#[c]⟩ : Str).length = 1 := fun c => rfl
    have l60 : names60.length = 60 := by simp [names60]
    simp only [DL.rAdd, ap, ln, withL, dup_same, dup_dup]
    refine ⟨by omega, by rw [List.length_take]; omega, ?_⟩
    have hl2 : i < (names60.map D.str).length := by rw [List.length_map]; exact hl
    rw [List.take_succ_eq_append_getElem hl2, List.getElem_map, en]
  · rintro G1 rfl
    have l60 : names60.length = 60 := by simp [names60]
    have et : (names60.take (rngD 0 1 60).length) = names60 := List.take_of_length_le (by simp [rngD, l60])
    rw [et]
    have d1 : DLe G (dup G p (.lst (names60.map D.str))) := DLe.new hp
    refine ⟨h, ca, p, names60.map .str, rfl, hh.upd _ np1 np2, dup_same, np1, by simp [l60], fun a3 ys G2 pm ha3 g3 hh2 fr2 => ?_⟩
    obtain ⟨rem, rfl, prm⟩ := perm_strs pm
    simp only [dgName, List.set]
    have hs2 := fr2 sz _ (by simpa using nsh) (d1 _ _ hs)
    exact r5 hc hh2 (tab_hand (tab_dle hT d1) (hh.le d1) fr2) hs2 nsh g3 ((hh.le d1).fresh ha3).1 prm hQ
theorem r3 {s : Addr} {as : List Addr} {cs : List (List (List Nat))} (hcs : ∀ c ∈ cs, ∃ n, ChoC n c) (c0 : 0 < cs.length) (c1 : cs.length < 1000) (hh : HandA G h ca) (hT : TabD P qL G) (hs : G s = some (.lst (as.map .ref))) (nsh : s ≠ h) (hp : Paired (fun a c => G a = some (.lst (c.map sizD)) ∧ a ≠ h) as cs) (hQ : ∀ G', Q (.bl true) G') :
    R_law_3 Y P E' { nx := nx, rt := Q } [o0, some (.ref h), some (.ref s), o3, o4, o5, o6, o7, o8, o9, o10, o11, o12, o13, o14, o15] G := by
  have pl := paired_len hp
  unfold R_law_3 L_law_3
  simp only [dSeq, dAsg, dCall, dCons, dNil, dVar, List.getElem?_cons_zero, List.getElem?_cons_succ]
  refine ⟨h, ca, s, _, rfl, hh, hs, nsh, by rw [List.length_map]; omega, by rw [List.length_map]; omega, fun i hi G' hh' fr => ?_⟩
  have hi' : i < as.length := by rw [List.length_map] at hi; exact hi
  obtain ⟨c, ec, hb, hbn⟩ := paired_get hp (List.getElem?_eq_getElem hi')
  obtain ⟨n, hc⟩ := hcs c (List.mem_of_getElem? ec)
  simp only [List.getElem_map, dgName, List.set]
  exact r4 hc hh' (tab_hand hT hh fr) (fr _ _ (by simpa using hbn) hb) hbn hQ
theorem paired_app {α β : Type} {F : α → β → Prop} : ∀ {l l' : List α} {m m' : List β}, Paired F l m → Paired F l' m' → Paired F (l ++ l') (m ++ m')
  | _, _, _, _, .nil, h => h
  | _, _, _, _, .cons f fs, h => .cons f (paired_app fs h)
theorem r2 {s : Addr} {as : List Addr} (hh : HandA G h ca) (hT : TabD P qL G) (hs : G s = some (.lst (as.map .ref))) (nsh : s ≠ h) (hp : Paired (fun a c => G a = some (.lst (c.map sizD)) ∧ a ≠ h) as csA) (hQ : ∀ G', Q (.bl true) G') :
    R_law_2 Y P E' { nx := nx, rt := Q } [o0, some (.ref h), some (.ref s), o3, o4, o5, o6, o7, o8, o9, o10, o11, o12, o13, o14, o15] G := by
  have pl := paired_len hp
  have e : R_law_2 Y P E' = dSeq (dAsg (dOp rAdd (dVar 2) (dLst (litA csB))) (dgName 2)) (R_law_3 Y P E') := rfl
  rw [e]
  simp only [dSeq, dAsg, dOp, dVar, dLst, List.getElem?_cons_zero, List.getElem?_cons_succ]
  refine litA_ev csB_sm fun bs G1 hbs d1 => ⟨?_, fun p hp1 => ?_⟩
  · have := paired_len hbs
    rw [List.length_map, this]; decide
  have d2 : DLe G (dup G1 p (.lst (bs.map .ref))) := d1.trans (DLe.new hp1)
  have hs2 := d2 _ _ hs
  have bl := paired_len hbs
  simp only [DL.rAdd, hs2, dup_same]
  refine ⟨by rw [List.length_map, List.length_map, pl, bl]; decide, fun q hq => ?_⟩
  have d3 : DLe G (dup (dup G1 p (.lst (bs.map .ref))) q (.lst (as.map .ref ++ bs.map .ref))) := d2.trans (DLe.new hq)
  have d13 : DLe G1 (dup (dup G1 p (.lst (bs.map .ref))) q (.lst (as.map .ref ++ bs.map .ref))) := (DLe.new hp1).trans (DLe.new hq)
  simp only [dgName, List.set]
  refine r3 (as := as ++ bs) cs_ok (by decide) (by decide) (hh.le d3) (tab_dle hT d3) (by rw [dup_same]; simp) ((hh.le d2).fresh hq).1 (paired_app (Paired.mapP hp fun a c z => ⟨d3 _ _ z.1, z.2⟩) (Paired.mapP hbs fun a c z => ⟨d13 _ _ z.1, (hh.fresh z.2).1⟩)) hQ
theorem r1 (hh : HandA G h ca) (hT : TabD P qL G) (hQ : ∀ G', Q (.bl true) G') :
    R_law_1 Y P E' { nx := nx, rt := Q } [o0, some (.ref h), o2, o3, o4, o5, o6, o7, o8, o9, o10, o11, o12, o13, o14, o15] G := by
  have e : R_law_1 Y P E' = dSeq (dAsg (dLst (litA csA)) (dgName 2)) (R_law_2 Y P E') := rfl
  rw [e]
  simp only [dSeq, dAsg, dLst]
  refine litA_ev csA_sm fun as G1 has d1 => ⟨?_, fun p hp1 => ?_⟩
  · have := paired_len has
    rw [List.length_map, this]; decide
  have d2 : DLe G (dup G1 p (.lst (as.map .ref))) := d1.trans (DLe.new hp1)
  simp only [dgName, List.set]
  exact r2 (hh.le d2) (tab_dle hT d2) dup_same ((hh.le d1).fresh hp1).1 (Paired.mapP has fun a c z => ⟨(DLe.new hp1) _ _ z.1, (hh.fresh z.2).1⟩) hQ
def sp_law (K : PySem.W.Frag) (P : Addr) : DSp := fun ds G Q _ => ∃ (a : Addr) (ns : List Int), ds = [.ref a] ∧ ScrG K G a (ns.map V.int) ∧ TabD P qL G ∧ ∀ G', Q (.bl true) G'
theorem v_law (ds G Q E) (k : sp_law Y.K P ds G Q E) : t_law Y (sp_Log_init Y.K) sp__law_any sp__law_days_of (sp__law_hand Y.K) sp__law_mixed sp__law_piece (sp_sameR 3) sp__law_teams (sp_sure_teams Y.K) P (downX E) { nx := fun _ G' => down Q .non G', rt := down Q } (dstart N_law ds) G := by
  obtain ⟨a, ns, rfl, sc, hT, hQ⟩ := k
  rw [t_law_R]
  unfold R_law_0 L_law_0
  simp only [dSeq, dAsg, dCall, dCons, dNil, dVar, dstart, N_law]
  refine ⟨a, ns, rfl, sc, fun h ca G' hh hca hh' dle => ?_⟩
  exact r1 hh' (tab_dle hT dle) fun G'' => down.of (hQ G'')
end
end HD

set_option Elab.async false
set_option linter.all false
set_option maxRecDepth 100000
set_option maxHeartbeats 4000000
namespace HD
open PySem PySem.Spec PyProof.Rows L2 L2.DL He LamX
theorem ex_ok {K : PySem.W.Frag} (m : ex K = true) {x : Fx} (h : x ∈ fx) : x.ok K = true := List.all_eq_true.mp m x h
theorem fs_of {K : PySem.W.Frag} {h : Heap} {mg : Str → Option Value} (X : K.In h) (G : h.Ns mainGlobals mg) (c : He.SaysD fa fn K) : Fs K mg where
  b_sum := He.free_ok X G (c.fact 35 (f := .free "sum") rfl)
  b_len := He.free_ok X G (c.fact 37 (f := .free "len") rfl)
  b_isinstance := He.free_ok X G (c.fact 38 (f := .free "isinstance") rfl)
  b_all := He.free_ok X G (c.fact 39 (f := .free "all") rfl)
  b_sorted := He.free_ok X G (c.fact 40 (f := .free "sorted") rfl)
  b_range := He.free_ok X G (c.fact 41 (f := .free "range") rfl)
  b_enumerate := He.free_ok X G (c.fact 42 (f := .free "enumerate") rfl)
  b_list := He.free_ok X G (c.fact 43 (f := .free "list") rfl)
  b_tuple := He.free_ok X G (c.fact 44 (f := .free "tuple") rfl)
  b_dict := He.free_ok X G (c.fact 45 (f := .free "dict") rfl)
  b_zip := He.free_ok X G (c.fact 46 (f := .free "zip") rfl)
  b_abs := He.free_ok X G (c.fact 47 (f := .free "abs") rfl)
  b_int := He.free_ok X G (c.fact 48 (f := .free "int") rfl)
  b_str := He.free_ok X G (c.fact 49 (f := .free "str") rfl)
  b_bool := He.free_ok X G (c.fact 50 (f := .free "bool") rfl)
  c_LETTERS := He.str_ok X G (c.fact 52 (f := .str "LETTERS" "abcdefghijklmnopqrstuvwxyz") rfl)
  c_MOST_NAME := He.int_ok X G (c.fact 53 (f := .int "MOST_NAME" 8) rfl)
  c_MOST_EVENTS := He.int_ok X G (c.fact 54 (f := .int "MOST_EVENTS" 12) rfl)
  c_MOST_DAYS := He.int_ok X G (c.fact 55 (f := .int "MOST_DAYS" 200) rfl)
  c_PAIR := He.str_ok X G (c.fact 56 (f := .str "PAIR" "pair") rfl)
  c_SEEN := He.str_ok X G (c.fact 57 (f := .str "SEEN" "seen") rfl)
  c_LEAST_PARTS := He.int_ok X G (c.fact 58 (f := .int "LEAST_PARTS" 2) rfl)
  c_MOST_PARTS := He.int_ok X G (c.fact 59 (f := .int "MOST_PARTS" 12) rfl)
  c_MOST_OFFICERS := He.int_ok X G (c.fact 60 (f := .int "MOST_OFFICERS" 60) rfl)
  c_PARTS := He.str_ok X G (c.fact 61 (f := .str "PARTS" "parts") rfl)
  c_DAYS := He.str_ok X G (c.fact 62 (f := .str "DAYS" "days") rfl)
  c_MOST_LIST := He.int_ok X G (c.fact 63 (f := .int "MOST_LIST" 100000) rfl)
  g_Log := He.glo_ok X G (c.fact 33 (f := .glo "Log") rfl)
  g_Web := He.glo_ok X G (c.fact 34 (f := .glo "Web") rfl)
theorem logF_of {K : PySem.W.Frag} (c : He.SaysD fa fn K) (m : ex K = true) : LogF K where
  p := ⟨He.cls_ok (c.fact 64 (f := .cls "Log") rfl), He.noat_ok (c.fact 67 (f := .noat "Log" "parts") rfl)⟩
  d := ⟨He.cls_ok (c.fact 64 (f := .cls "Log") rfl), He.noat_ok (c.fact 68 (f := .noat "Log" "days") rfl)⟩
  o := Fx.own_ok (He.cls_ok (c.fact 64 (f := .cls "Log") rfl)) (ex_ok m (x := .own "Log") (by simp [fx]))
theorem webF_of {K : PySem.W.Frag} (c : He.SaysD fa fn K) : WebF K where
  a := fun f hf => ⟨He.cls_ok (c.fact 69 (f := .cls "Web") rfl), by
    simp only [List.mem_cons, List.not_mem_nil, or_false] at hf
    rcases hf with rfl | rfl | rfl | rfl | rfl | rfl | rfl
    · exact He.noat_ok (c.fact 72 (f := .noat "Web" "parts") rfl)
    · exact He.noat_ok (c.fact 73 (f := .noat "Web" "told") rfl)
    · exact He.noat_ok (c.fact 74 (f := .noat "Web" "names") rfl)
    · exact He.noat_ok (c.fact 75 (f := .noat "Web" "roots") rfl)
    · exact He.noat_ok (c.fact 76 (f := .noat "Web" "turns") rfl)
    · exact He.noat_ok (c.fact 77 (f := .noat "Web" "parents") rfl)
    · exact He.noat_ok (c.fact 78 (f := .noat "Web" "misfit") rfl)⟩
theorem fsx_of {K : PySem.W.Frag} {h : Heap} {mg : Str → Option Value} (X : K.In h) (G : h.Ns mainGlobals mg) (c : He.SaysD fa fn K) (m : ex K = true) : FsX K mg where
  b_isinstance := He.free_ok X G (c.fact 38 (f := .free "isinstance") rfl)
  b_ValueError := He.free_ok X G (c.fact 51 (f := .free "ValueError") rfl)
  m_Vault := He.glo_ok X G (c.fact 26 (f := .glo "VaultError") rfl)
  m_Many := He.glo_ok X G (c.fact 32 (f := .glo "TooMany") rfl)
  hC := Fx.exc_ok (ex_ok m (x := .exc "TooMany") (by simp [fx]))
  hx := Fx.xf_ok (ex_ok m (x := .exc "TooMany") (by simp [fx]))
  no := Fx.noat_ok (ex_ok m (x := .noat "TooMany" "most") (by simp [fx]))
  exm := Fx.exm_ok (ex_ok m (x := .exm "TooMany" "VaultError" true) (by simp [fx]))
  kitV := Fx.kitT_ok (ex_ok m (x := .kitT "TooMany" "ValueError" true) (by simp [fx]))
theorem cx_none {P : Program} {w : World} {H : Hp} {s : Shared} {e : Value} {s2 : Shared} (z : L2.CX P w [] H s (fun _ _ _ => False) e s2) : False := by
  obtain ⟨_, _, _, _, _, _, _, _, _, _, _, _, f⟩ := z
  exact f
section
variable {Y : Wd} {mg : Str → Option Value} {base : Heap}
theorem gfn {x qual : Str} {params : Arguments} {body : List Stmt} {scope : Scope} {kws : List (Str × V)} {f : Addr} {fd : FuncData} {ps : List Str} {k : Nat} {sp : DSp} (F : FnD Y mg base k f fd ps sp) (D : FunD Y.K x qual params body scope [] kws f fd) (hm : mg x = some (.ref f)) (hb : L2.Binds Y.K fd ps []) : GFn Y mg base x k ps [] sp := ⟨f, fd, [], [], F, hm, D.kp, hb, .nil, fun _ => RpL.nil⟩
theorem mfn {f C : Addr} {m : Str} {fd : FuncData} {ps : List Str} {k : Nat} {sp : DSp} (F : FnD Y mg base k f fd ps sp) (cl : Cls Y.K C) (hm : Meth Y.K C m f) (hb : L2.Binds Y.K fd ps []) : MFn Y mg base C m k ps [] sp := ⟨cl, f, fd, [], [], F, hm, hb, .nil, fun _ => RpL.nil⟩
theorem cfn {x : Str} {f C : Addr} {fd : FuncData} {ps : List Str} {k : Nat} {sp : DSp} (F : FnD Y mg base k f fd ps sp) (hm : mg x = some (.ref C)) (M : Mk Y.K C f) (hb : L2.Binds Y.K fd ps []) : CFn Y mg base x C k ps [] sp := ⟨hm, f, fd, [], [], F, M, hb, .nil, fun _ => RpL.nil⟩
theorem b_is_integer {f : Addr} {fd : FuncData} (D : FunD Y.K "is_integer" "is_integer" (defArgs s_is_integer) (defBody s_is_integer) (defScope s_is_integer) [] [] f fd) : L2.Binds Y.K fd ["thing"] [] := D.bindsN fun _ _ _ _ _ _ us hl => match us, hl with | [_], _ => rfl
theorem n_is_integer (F : Fs Y.K mg) {f : Addr} {fd : FuncData} (D : FunD Y.K "is_integer" "is_integer" (defArgs s_is_integer) (defBody s_is_integer) (defScope s_is_integer) [] [] f fd) : FnD Y mg base 1 f fd ["thing"] sp_is_integer :=
  fnD D S_is_integer (fun ds G Q E h => by obtain ⟨_, rfl, _⟩ := h; rfl) (w_is_integer F f) v_is_integer
theorem b_is_within {f : Addr} {fd : FuncData} (D : FunD Y.K "is_within" "is_within" (defArgs s_is_within) (defBody s_is_within) (defScope s_is_within) [] [] f fd) : L2.Binds Y.K fd ["thing", "low", "high"] [] := D.bindsN fun _ _ _ _ _ _ us hl => match us, hl with | [_, _, _], _ => rfl
theorem n_is_within (F : Fs Y.K mg) (g_is_integer : GFn Y mg base "is_integer" 1 ["thing"] [] sp_is_integer) {f : Addr} {fd : FuncData} (D : FunD Y.K "is_within" "is_within" (defArgs s_is_within) (defBody s_is_within) (defScope s_is_within) [] [] f fd) : FnD Y mg base 2 f fd ["thing", "low", "high"] sp_is_within :=
  fnD D S_is_within (fun ds G Q E h => by obtain ⟨_, _, _, rfl, _⟩ := h; rfl) (w_is_within F g_is_integer f) v_is_within
theorem b_is_name {f : Addr} {fd : FuncData} (D : FunD Y.K "is_name" "is_name" (defArgs s_is_name) (defBody s_is_name) (defScope s_is_name) [] [] f fd) : L2.Binds Y.K fd ["thing"] [] := D.bindsN fun _ _ _ _ _ _ us hl => match us, hl with | [_], _ => rfl
theorem n_is_name (F : Fs Y.K mg) {f : Addr} {fd : FuncData} (D : FunD Y.K "is_name" "is_name" (defArgs s_is_name) (defBody s_is_name) (defScope s_is_name) [] [] f fd) : FnD Y mg base 1 f fd ["thing"] sp_is_name :=
  fnD D S_is_name (fun ds G Q E h => by obtain ⟨_, rfl, _⟩ := h; rfl) (w_is_name F f) v_is_name
theorem b_is_event {f : Addr} {fd : FuncData} (D : FunD Y.K "is_event" "is_event" (defArgs s_is_event) (defBody s_is_event) (defScope s_is_event) [] [] f fd) : L2.Binds Y.K fd ["parts", "thing"] [] := D.bindsN fun _ _ _ _ _ _ us hl => match us, hl with | [_, _], _ => rfl
theorem n_is_event (F : Fs Y.K mg) (g_is_name : GFn Y mg base "is_name" 1 ["thing"] [] sp_is_name) (g_is_within : GFn Y mg base "is_within" 2 ["thing", "low", "high"] [] sp_is_within) {f : Addr} {fd : FuncData} (D : FunD Y.K "is_event" "is_event" (defArgs s_is_event) (defBody s_is_event) (defScope s_is_event) [] [] f fd) : FnD Y mg base 3 f fd ["parts", "thing"] sp_is_event :=
  fnD D S_is_event (fun ds G Q E h => by obtain ⟨_, _, _, _, rfl, _⟩ := h; rfl) (w_is_event F g_is_name g_is_within f) v_is_event
theorem b_names_in {f : Addr} {fd : FuncData} (D : FunD Y.K "names_in" "names_in" (defArgs s_names_in) (defBody s_names_in) (defScope s_names_in) [] [] f fd) : L2.Binds Y.K fd ["event"] [] := D.bindsN fun _ _ _ _ _ _ us hl => match us, hl with | [_], _ => rfl
theorem n_names_in (F : Fs Y.K mg) {f : Addr} {fd : FuncData} (D : FunD Y.K "names_in" "names_in" (defArgs s_names_in) (defBody s_names_in) (defScope s_names_in) [] [] f fd) : FnD Y mg base 1 f fd ["event"] sp_names_in :=
  fnD D S_names_in (fun ds G Q E h => by obtain ⟨_, _, _, rfl, _⟩ := h; rfl) (w_names_in F f) v_names_in
theorem n_names_inG (F : Fs Y.K mg) {f : Addr} {fd : FuncData} (D : FunD Y.K "names_in" "names_in" (defArgs s_names_in) (defBody s_names_in) (defScope s_names_in) [] [] f fd) : FnD Y mg base 1 f fd ["event"] sp_names_inG :=
  fnD D S_names_in (fun ds G Q E h => by obtain ⟨_, rfl, _⟩ := h; rfl) (w_names_in F f) v_names_inG
theorem b_take_names {f : Addr} {fd : FuncData} (D : FunD Y.K "take_names" "take_names" (defArgs s_take_names) (defBody s_take_names) (defScope s_take_names) [] [] f fd) : L2.Binds Y.K fd ["names", "event"] [] := D.bindsN fun _ _ _ _ _ _ us hl => match us, hl with | [_, _], _ => rfl
theorem n_take_names (F : Fs Y.K mg) (g_names_in : GFn Y mg base "names_in" 1 ["event"] [] sp_names_in) {f : Addr} {fd : FuncData} (D : FunD Y.K "take_names" "take_names" (defArgs s_take_names) (defBody s_take_names) (defScope s_take_names) [] [] f fd) : FnD Y mg base 2 f fd ["names", "event"] sp_take_names2 :=
  fnD D S_take_names (fun ds G Q E h => by obtain ⟨_, _, _, _, _, rfl, _⟩ := h; rfl) (w_take_names F g_names_in f) v_take_names
theorem b_check_days {f : Addr} {fd : FuncData} (D : FunD Y.K "check_days" "check_days" (defArgs s_check_days) (defBody s_check_days) (defScope s_check_days) [] [] f fd) : L2.Binds Y.K fd ["parts", "days"] [] := D.bindsN fun _ _ _ _ _ _ us hl => match us, hl with | [_, _], _ => rfl
theorem n_check_days (F : Fs Y.K mg) (g_is_event : GFn Y mg base "is_event" 3 ["parts", "thing"] [] sp_is_event) (g_take_names : GFn Y mg base "take_names" 2 ["names", "event"] [] sp_take_names2) {f : Addr} {fd : FuncData} (D : FunD Y.K "check_days" "check_days" (defArgs s_check_days) (defBody s_check_days) (defScope s_check_days) [] [] f fd) : FnD Y mg base 4 f fd ["parts", "days"] sp_check_days :=
  fnD D S_check_days (fun ds G Q E h => by obtain ⟨_, _, rfl, _⟩ := h; rfl) (w_check_days F g_is_event g_take_names f) v_check_days
theorem b_Log_init {f : Addr} {fd : FuncData} (D : FunD Y.K "__init__" "Log.__init__" (defArgs s_Log_init) (defBody s_Log_init) (defScope s_Log_init) [] [] f fd) : L2.Binds Y.K fd ["self", "parts", "days"] [] := D.bindsN fun _ _ _ _ _ _ us hl => match us, hl with | [_, _, _], _ => rfl
theorem n_Log_init (F : Fs Y.K mg) (LF : LogF Y.K) (g_check_days : GFn Y mg base "check_days" 4 ["parts", "days"] [] sp_check_days) (g_is_within : GFn Y mg base "is_within" 2 ["thing", "low", "high"] [] sp_is_within) {f : Addr} {fd : FuncData} (D : FunD Y.K "__init__" "Log.__init__" (defArgs s_Log_init) (defBody s_Log_init) (defScope s_Log_init) [] [] f fd) : FnD Y mg base 5 f fd ["self", "parts", "days"] (sp_Log_init Y.K) :=
  fnD D S_Log_init (fun ds G Q E h => by obtain ⟨_, _, _, rfl, _⟩ := h; rfl) (w_Log_init F g_check_days g_is_within f) (v_Log_init LF)
theorem b_check_log {f : Addr} {fd : FuncData} (D : FunD Y.K "check_log" "check_log" (defArgs s_check_log) (defBody s_check_log) (defScope s_check_log) [] [] f fd) : L2.Binds Y.K fd ["log"] [] := D.bindsN fun _ _ _ _ _ _ us hl => match us, hl with | [_], _ => rfl
theorem n_check_log (F : Fs Y.K mg) (LF : LogF Y.K) {f : Addr} {fd : FuncData} (D : FunD Y.K "check_log" "check_log" (defArgs s_check_log) (defBody s_check_log) (defScope s_check_log) [] [] f fd) : FnD Y mg base 1 f fd ["log"] (sp_check_log Y.K) :=
  fnD D S_check_log (fun ds G Q E h => by obtain ⟨_, _, rfl, _⟩ := h; rfl) (w_check_log F f) (v_check_log LF)
theorem b_check_stretch {f : Addr} {fd : FuncData} (D : FunD Y.K "check_stretch" "check_stretch" (defArgs s_check_stretch) (defBody s_check_stretch) (defScope s_check_stretch) [] [] f fd) : L2.Binds Y.K fd ["log", "first", "end"] [] := D.bindsN fun _ _ _ _ _ _ us hl => match us, hl with | [_, _, _], _ => rfl
theorem n_check_stretch (F : Fs Y.K mg) (LF : LogF Y.K) (g_check_log : GFn Y mg base "check_log" 1 ["log"] [] (sp_check_log Y.K)) (g_is_within : GFn Y mg base "is_within" 2 ["thing", "low", "high"] [] sp_is_within) {f : Addr} {fd : FuncData} (D : FunD Y.K "check_stretch" "check_stretch" (defArgs s_check_stretch) (defBody s_check_stretch) (defScope s_check_stretch) [] [] f fd) : FnD Y mg base 3 f fd ["log", "first", "end"] (sp_check_stretch Y.K) :=
  fnD D S_check_stretch (fun ds G Q E h => by obtain ⟨_, _, _, _, _, rfl, _⟩ := h; rfl) (w_check_stretch F g_check_log g_is_within f) (v_check_stretch LF)
theorem b_told_events {f : Addr} {fd : FuncData} (D : FunD Y.K "told_events" "told_events" (defArgs s_told_events) (defBody s_told_events) (defScope s_told_events) [] [] f fd) : L2.Binds Y.K fd ["log", "first", "end"] [] := D.bindsN fun _ _ _ _ _ _ us hl => match us, hl with | [_, _, _], _ => rfl
theorem n_told_events (F : Fs Y.K mg) (LF : LogF Y.K) {f : Addr} {fd : FuncData} (D : FunD Y.K "told_events" "told_events" (defArgs s_told_events) (defBody s_told_events) (defScope s_told_events) [] [] f fd) : FnD Y mg base 1 f fd ["log", "first", "end"] (sp_told_events Y.K) :=
  fnD D S_told_events (fun ds G Q E h => by obtain ⟨_, _, _, rfl, _⟩ := h; rfl) (w_told_events F f) (v_told_events LF)
theorem b_names_of {f : Addr} {fd : FuncData} (D : FunD Y.K "names_of" "names_of" (defArgs s_names_of) (defBody s_names_of) (defScope s_names_of) [] [] f fd) : L2.Binds Y.K fd ["told"] [] := D.bindsN fun _ _ _ _ _ _ us hl => match us, hl with | [_], _ => rfl
theorem n_names_of (F : Fs Y.K mg) (g_names_in : GFn Y mg base "names_in" 1 ["event"] [] sp_names_inG) {f : Addr} {fd : FuncData} (D : FunD Y.K "names_of" "names_of" (defArgs s_names_of) (defBody s_names_of) (defScope s_names_of) [] [] f fd) : FnD Y mg base 2 f fd ["told"] sp_names_of :=
  fnD D S_names_of (fun ds G Q E h => by obtain ⟨_, _, rfl, _⟩ := h; rfl) (w_names_of F g_names_in f) v_names_of
theorem b_Web_ties {f : Addr} {fd : FuncData} (D : FunD Y.K "ties" "Web.ties" (defArgs s_Web_ties) (defBody s_Web_ties) (defScope s_Web_ties) [] [] f fd) : L2.Binds Y.K fd ["self"] [] := D.bindsN fun _ _ _ _ _ _ us hl => match us, hl with | [_], _ => rfl
theorem n_Web_ties (F : Fs Y.K mg) (WF : WebF Y.K) {f : Addr} {fd : FuncData} (D : FunD Y.K "ties" "Web.ties" (defArgs s_Web_ties) (defBody s_Web_ties) (defScope s_Web_ties) [] [] f fd) : FnD Y mg base 1 f fd ["self"] (sp_Web_ties Y.K) :=
  fnD D S_Web_ties (fun ds G Q E h => by obtain ⟨_, _, _, _, _, _, _, _, _, _, rfl, _⟩ := h; rfl) (w_Web_ties F f) (v_Web_ties WF)
theorem b_Web_grow {f : Addr} {fd : FuncData} (D : FunD Y.K "grow" "Web.grow" (defArgs s_Web_grow) (defBody s_Web_grow) (defScope s_Web_grow) [] [] f fd) : L2.Binds Y.K fd ["self"] [] := D.bindsN fun _ _ _ _ _ _ us hl => match us, hl with | [_], _ => rfl
theorem n_Web_grow (F : Fs Y.K mg) (WF : WebF Y.K) (g_Web_ties : MFn Y mg base (ga Y.K "Web") "ties" 1 ["self"] [] (sp_Web_ties Y.K)) {f : Addr} {fd : FuncData} (D : FunD Y.K "grow" "Web.grow" (defArgs s_Web_grow) (defBody s_Web_grow) (defScope s_Web_grow) [] [] f fd) : FnD Y mg base 2 f fd ["self"] (sp_Web_grow Y.K) :=
  fnD D S_Web_grow (fun ds G Q E h => by obtain ⟨_, _, _, _, _, _, _, _, _, rfl, _⟩ := h; rfl) (w_Web_grow F g_Web_ties f) (v_Web_grow WF)
theorem b_Web_init {f : Addr} {fd : FuncData} (D : FunD Y.K "__init__" "Web.__init__" (defArgs s_Web_init) (defBody s_Web_init) (defScope s_Web_init) [] [] f fd) : L2.Binds Y.K fd ["self", "parts", "told"] [] := D.bindsN fun _ _ _ _ _ _ us hl => match us, hl with | [_, _, _], _ => rfl
theorem n_Web_init (F : Fs Y.K mg) (WF : WebF Y.K) (g_Web_grow : MFn Y mg base (ga Y.K "Web") "grow" 2 ["self"] [] (sp_Web_grow Y.K)) (g_names_of : GFn Y mg base "names_of" 2 ["told"] [] sp_names_of) {f : Addr} {fd : FuncData} (D : FunD Y.K "__init__" "Web.__init__" (defArgs s_Web_init) (defBody s_Web_init) (defScope s_Web_init) [] [] f fd) : FnD Y mg base 4 f fd ["self", "parts", "told"] (sp_Web_init Y.K) :=
  fnD D S_Web_init (fun ds G Q E h => by obtain ⟨_, _, _, _, rfl, _⟩ := h; rfl) (w_Web_init F g_Web_grow g_names_of f) (v_Web_init WF)
theorem b_web_of {f : Addr} {fd : FuncData} (D : FunD Y.K "web_of" "web_of" (defArgs s_web_of) (defBody s_web_of) (defScope s_web_of) [] [] f fd) : L2.Binds Y.K fd ["log", "first", "end"] [] := D.bindsN fun _ _ _ _ _ _ us hl => match us, hl with | [_, _, _], _ => rfl
theorem n_web_of (F : Fs Y.K mg) (WF : WebF Y.K) (LF : LogF Y.K) (g_Web_init : CFn Y mg base "Web" (ga Y.K "Web") 4 ["self", "parts", "told"] [] (sp_Web_init Y.K)) (g_told_events : GFn Y mg base "told_events" 1 ["log", "first", "end"] [] (sp_told_events Y.K)) {f : Addr} {fd : FuncData} (D : FunD Y.K "web_of" "web_of" (defArgs s_web_of) (defBody s_web_of) (defScope s_web_of) [] [] f fd) : FnD Y mg base 6 f fd ["log", "first", "end"] (sp_web_of Y.K) :=
  fnD D S_web_of (fun ds G Q E h => by obtain ⟨_, _, _, rfl, _⟩ := h; rfl) (w_web_of F g_Web_init g_told_events f) (v_web_of WF LF)
theorem b_Web_pieces {f : Addr} {fd : FuncData} (D : FunD Y.K "pieces" "Web.pieces" (defArgs s_Web_pieces) (defBody s_Web_pieces) (defScope s_Web_pieces) [] [] f fd) : L2.Binds Y.K fd ["self"] [] := D.bindsN fun _ _ _ _ _ _ us hl => match us, hl with | [_], _ => rfl
theorem n_Web_pieces (F : Fs Y.K mg) (WF : WebF Y.K) {f : Addr} {fd : FuncData} (D : FunD Y.K "pieces" "Web.pieces" (defArgs s_Web_pieces) (defBody s_Web_pieces) (defScope s_Web_pieces) [] [] f fd) : FnD Y mg base 1 f fd ["self"] (sp_Web_pieces Y.K) :=
  fnD D S_Web_pieces (fun ds G Q E h => by obtain ⟨_, _, _, _, _, rfl, _⟩ := h; rfl) (w_Web_pieces F f) (v_Web_pieces WF)
theorem b_Web_members {f : Addr} {fd : FuncData} (D : FunD Y.K "members" "Web.members" (defArgs s_Web_members) (defBody s_Web_members) (defScope s_Web_members) [] [] f fd) : L2.Binds Y.K fd ["self", "root"] [] := D.bindsN fun _ _ _ _ _ _ us hl => match us, hl with | [_, _], _ => rfl
theorem n_Web_members (F : Fs Y.K mg) (WF : WebF Y.K) {f : Addr} {fd : FuncData} (D : FunD Y.K "members" "Web.members" (defArgs s_Web_members) (defBody s_Web_members) (defScope s_Web_members) [] [] f fd) : FnD Y mg base 1 f fd ["self", "root"] (sp_Web_members Y.K) :=
  fnD D S_Web_members (fun ds G Q E h => by obtain ⟨_, _, _, _, _, _, rfl, _⟩ := h; rfl) (w_Web_members F f) (v_Web_members WF)
theorem b_check_most {f : Addr} {fd : FuncData} (D : FunD Y.K "check_most" "check_most" (defArgs s_check_most) (defBody s_check_most) (defScope s_check_most) [] [] f fd) : L2.Binds Y.K fd ["most"] [] := D.bindsN fun _ _ _ _ _ _ us hl => match us, hl with | [_], _ => rfl
theorem n_check_most (F : Fs Y.K mg) (g_is_within : GFn Y mg base "is_within" 2 ["thing", "low", "high"] [] sp_is_within) {f : Addr} {fd : FuncData} (D : FunD Y.K "check_most" "check_most" (defArgs s_check_most) (defBody s_check_most) (defScope s_check_most) [] [] f fd) : FnD Y mg base 3 f fd ["most"] sp_check_most :=
  fnD D S_check_most (fun ds G Q E h => by obtain ⟨_, rfl, _⟩ := h; rfl) (w_check_most F g_is_within f) v_check_most
theorem b_balanced_web {f : Addr} {fd : FuncData} (D : FunD Y.K "balanced_web" "balanced_web" (defArgs s_balanced_web) (defBody s_balanced_web) (defScope s_balanced_web) [] [] f fd) : L2.Binds Y.K fd ["log", "first", "end"] [] := D.bindsN fun _ _ _ _ _ _ us hl => match us, hl with | [_, _, _], _ => rfl
theorem n_balanced_web (F : Fs Y.K mg) (WF : WebF Y.K) (g_web_of : GFn Y mg base "web_of" 6 ["log", "first", "end"] [] (sp_web_of Y.K)) {f : Addr} {fd : FuncData} (D : FunD Y.K "balanced_web" "balanced_web" (defArgs s_balanced_web) (defBody s_balanced_web) (defScope s_balanced_web) [] [] f fd) : FnD Y mg base 7 f fd ["log", "first", "end"] (sp_balanced_web Y.K) :=
  fnD D S_balanced_web (fun ds G Q E h => by obtain ⟨_, _, _, rfl, _⟩ := h; rfl) (w_balanced_web F g_web_of f) (v_balanced_web WF)
theorem b_piece_rows {f : Addr} {fd : FuncData} (D : FunD Y.K "piece_rows" "piece_rows" (defArgs s_piece_rows) (defBody s_piece_rows) (defScope s_piece_rows) [] [] f fd) : L2.Binds Y.K fd ["web", "root"] [] := D.bindsN fun _ _ _ _ _ _ us hl => match us, hl with | [_, _], _ => rfl
theorem n_piece_rows (F : Fs Y.K mg) (WF : WebF Y.K) (g_Web_members : MFn Y mg base (ga Y.K "Web") "members" 1 ["self", "root"] [] (sp_Web_members Y.K)) {f : Addr} {fd : FuncData} (D : FunD Y.K "piece_rows" "piece_rows" (defArgs s_piece_rows) (defBody s_piece_rows) (defScope s_piece_rows) [] [] f fd) : FnD Y mg base 2 f fd ["web", "root"] (sp_piece_rows Y.K) :=
  fnD D S_piece_rows (fun ds G Q E h => by obtain ⟨_, _, _, _, _, _, rfl, _⟩ := h; rfl) (w_piece_rows F g_Web_members f) (v_piece_rows WF)
theorem n_sure_teams (F : Fs Y.K mg) (WF : WebF Y.K) (LF : LogF Y.K) (g_Web_pieces : MFn Y mg base (ga Y.K "Web") "pieces" 1 ["self"] [] (sp_Web_pieces Y.K)) (g_balanced_web : GFn Y mg base "balanced_web" 7 ["log", "first", "end"] [] (sp_balanced_web Y.K)) (g_check_most : GFn Y mg base "check_most" 3 ["most"] [] sp_check_most) (g_check_stretch : GFn Y mg base "check_stretch" 3 ["log", "first", "end"] [] (sp_check_stretch Y.K)) (g_piece_rows : GFn Y mg base "piece_rows" 2 ["web", "root"] [] (sp_piece_rows Y.K)) (gx : ∀ X : Cx, X.prog = Y.P → X.w = Y.w → X.K = Y.K → X.mg = mg → X.base = base → ExMk X "TooMany" (ga Y.K "TooMany") 1 ["most"]) {f : Addr} {fd : FuncData} (D : FunD Y.K "sure_teams" "sure_teams" (defArgs s_sure_teams) (defBody s_sure_teams) (defScope s_sure_teams) [] [("most", .int 1000)] f fd) : FnD Y mg base 8 f fd ["log", "first", "end", "most"] (sp_sure_teams Y.K) :=
  fnD D S_sure_teams (fun ds G Q E h => by obtain ⟨_, _, _, _, rfl, _⟩ := h; rfl) (w_sure_teams F g_Web_pieces g_balanced_web g_check_most g_check_stretch g_piece_rows gx f) (v_sure_teams WF LF)
theorem b__law_hand {f : Addr} {fd : FuncData} (D : FunD Y.K "_law_hand" "_law_hand" (defArgs s__law_hand) (defBody s__law_hand) (defScope s__law_hand) [] [] f fd) : L2.Binds Y.K fd ["script"] [] := D.bindsN fun _ _ _ _ _ _ us hl => match us, hl with | [_], _ => rfl
theorem n__law_hand (F : Fs Y.K mg) {f : Addr} {fd : FuncData} (D : FunD Y.K "_law_hand" "_law_hand" (defArgs s__law_hand) (defBody s__law_hand) (defScope s__law_hand) [] [] f fd) : FnD Y mg base 1 f fd ["script"] (sp__law_hand Y.K) :=
  fnD D S__law_hand (fun ds G Q E h => by obtain ⟨_, _, rfl, _⟩ := h; rfl) (w__law_hand F f) v__law_hand
theorem b__law_draw {f : Addr} {fd : FuncData} (D : FunD Y.K "_law_draw" "_law_draw" (defArgs s__law_draw) (defBody s__law_draw) (defScope s__law_draw) [] [] f fd) : L2.Binds Y.K fd ["hand", "many"] [] := D.bindsN fun _ _ _ _ _ _ us hl => match us, hl with | [_, _], _ => rfl
theorem n__law_draw (F : Fs Y.K mg) {f : Addr} {fd : FuncData} (D : FunD Y.K "_law_draw" "_law_draw" (defArgs s__law_draw) (defBody s__law_draw) (defScope s__law_draw) [] [] f fd) : FnD Y mg base 1 f fd ["hand", "many"] sp__law_draw :=
  fnD D S__law_draw (fun ds G Q E h => by obtain ⟨_, _, _, rfl, _⟩ := h; rfl) (w__law_draw F f) v__law_draw
theorem b__law_any {f : Addr} {fd : FuncData} (D : FunD Y.K "_law_any" "_law_any" (defArgs s__law_any) (defBody s__law_any) (defScope s__law_any) [] [] f fd) : L2.Binds Y.K fd ["hand", "some"] [] := D.bindsN fun _ _ _ _ _ _ us hl => match us, hl with | [_, _], _ => rfl
theorem n__law_any (F : Fs Y.K mg) (g__law_draw : GFn Y mg base "_law_draw" 1 ["hand", "many"] [] sp__law_draw) {f : Addr} {fd : FuncData} (D : FunD Y.K "_law_any" "_law_any" (defArgs s__law_any) (defBody s__law_any) (defScope s__law_any) [] [] f fd) : FnD Y mg base 2 f fd ["hand", "some"] sp__law_any :=
  fnD D S__law_any (fun ds G Q E h => by obtain ⟨_, _, _, _, rfl, _⟩ := h; rfl) (w__law_any F g__law_draw f) v__law_any
theorem b__law_mixed {f : Addr} {fd : FuncData} (D : FunD Y.K "_law_mixed" "_law_mixed" (defArgs s__law_mixed) (defBody s__law_mixed) (defScope s__law_mixed) [] [] f fd) : L2.Binds Y.K fd ["hand", "some"] [] := D.bindsN fun _ _ _ _ _ _ us hl => match us, hl with | [_, _], _ => rfl
theorem n__law_mixed (F : Fs Y.K mg) (g__law_draw : GFn Y mg base "_law_draw" 1 ["hand", "many"] [] sp__law_draw) {f : Addr} {fd : FuncData} (D : FunD Y.K "_law_mixed" "_law_mixed" (defArgs s__law_mixed) (defBody s__law_mixed) (defScope s__law_mixed) [] [] f fd) : FnD Y mg base 2 f fd ["hand", "some"] sp__law_mixed :=
  fnD D S__law_mixed (fun ds G Q E h => by obtain ⟨_, _, _, _, rfl, _⟩ := h; rfl) (w__law_mixed F g__law_draw f) v__law_mixed
theorem b__law_piece {f : Addr} {fd : FuncData} (D : FunD Y.K "_law_piece" "_law_piece" (defArgs s__law_piece) (defBody s__law_piece) (defScope s__law_piece) [] [] f fd) : L2.Binds Y.K fd ["hand", "names", "sizes"] [] := D.bindsN fun _ _ _ _ _ _ us hl => match us, hl with | [_, _, _], _ => rfl
theorem n__law_piece (F : Fs Y.K mg) (g__law_draw : GFn Y mg base "_law_draw" 1 ["hand", "many"] [] sp__law_draw) (g__law_mixed : GFn Y mg base "_law_mixed" 2 ["hand", "some"] [] sp__law_mixed) {f : Addr} {fd : FuncData} (D : FunD Y.K "_law_piece" "_law_piece" (defArgs s__law_piece) (defBody s__law_piece) (defScope s__law_piece) [] [] f fd) : FnD Y mg base 3 f fd ["hand", "names", "sizes"] sp__law_piece :=
  fnD D S__law_piece (fun ds G Q E h => by obtain ⟨_, _, _, _, _, rfl, _⟩ := h; rfl) (w__law_piece F g__law_draw g__law_mixed f) v__law_piece
theorem b__law_teams {f : Addr} {fd : FuncData} (D : FunD Y.K "_law_teams" "_law_teams" (defArgs s__law_teams) (defBody s__law_teams) (defScope s__law_teams) [] [] f fd) : L2.Binds Y.K fd ["rows"] [] := D.bindsN fun _ _ _ _ _ _ us hl => match us, hl with | [_], _ => rfl
theorem n__law_teams (F : Fs Y.K mg) {f : Addr} {fd : FuncData} (D : FunD Y.K "_law_teams" "_law_teams" (defArgs s__law_teams) (defBody s__law_teams) (defScope s__law_teams) [] [] f fd) : FnD Y mg base 1 f fd ["rows"] sp__law_teams :=
  fnD D S__law_teams (fun ds G Q E h => by obtain ⟨_, _, rfl, _⟩ := h; rfl) (w__law_teams F f) v__law_teams
theorem b__law_days_of {f : Addr} {fd : FuncData} (D : FunD Y.K "_law_days_of" "_law_days_of" (defArgs s__law_days_of) (defBody s__law_days_of) (defScope s__law_days_of) [] [] f fd) : L2.Binds Y.K fd ["hand", "events"] [] := D.bindsN fun _ _ _ _ _ _ us hl => match us, hl with | [_, _], _ => rfl
theorem n__law_days_of (F : Fs Y.K mg) (g__law_draw : GFn Y mg base "_law_draw" 1 ["hand", "many"] [] sp__law_draw) (g__law_mixed : GFn Y mg base "_law_mixed" 2 ["hand", "some"] [] sp__law_mixed) {f : Addr} {fd : FuncData} (D : FunD Y.K "_law_days_of" "_law_days_of" (defArgs s__law_days_of) (defBody s__law_days_of) (defScope s__law_days_of) [] [] f fd) : FnD Y mg base 3 f fd ["hand", "events"] sp__law_days_of :=
  fnD D S__law_days_of (fun ds G Q E h => by obtain ⟨_, _, _, _, rfl, _⟩ := h; rfl) (w__law_days_of F g__law_draw g__law_mixed f) v__law_days_of
theorem b__law_same {f : Addr} {fd : FuncData} (D : FunD Y.K "_law_same" "_law_same" (defArgs s__law_same) (defBody s__law_same) (defScope s__law_same) [] [] f fd) : L2.Binds Y.K fd ["one", "due"] [] := D.bindsN fun _ _ _ _ _ _ us hl => match us, hl with | [_, _], _ => rfl
theorem n__law_same0 (F : Fs Y.K mg) (g__law_same : GFn Y mg base "_law_same" 1 ["one", "due"] [] sp_no) {f : Addr} {fd : FuncData} (D : FunD Y.K "_law_same" "_law_same" (defArgs s__law_same) (defBody s__law_same) (defScope s__law_same) [] [] f fd) : FnD Y mg base 2 f fd ["one", "due"] (sp_sameR 0) :=
  fnD D S__law_same (fun ds G Q E h => by obtain ⟨_, _, rfl, _⟩ := h; rfl) (w__law_same F g__law_same f) v__law_same0
theorem n__law_same1 (F : Fs Y.K mg) (g__law_same : GFn Y mg base "_law_same" 2 ["one", "due"] [] (sp_sameR 0)) {f : Addr} {fd : FuncData} (D : FunD Y.K "_law_same" "_law_same" (defArgs s__law_same) (defBody s__law_same) (defScope s__law_same) [] [] f fd) : FnD Y mg base 3 f fd ["one", "due"] (sp_sameR 1) :=
  fnD D S__law_same (fun ds G Q E h => by obtain ⟨_, _, rfl, _⟩ := h; rfl) (w__law_same F g__law_same f) (v__law_sameS 0)
theorem n__law_same2 (F : Fs Y.K mg) (g__law_same : GFn Y mg base "_law_same" 3 ["one", "due"] [] (sp_sameR 1)) {f : Addr} {fd : FuncData} (D : FunD Y.K "_law_same" "_law_same" (defArgs s__law_same) (defBody s__law_same) (defScope s__law_same) [] [] f fd) : FnD Y mg base 4 f fd ["one", "due"] (sp_sameR 2) :=
  fnD D S__law_same (fun ds G Q E h => by obtain ⟨_, _, rfl, _⟩ := h; rfl) (w__law_same F g__law_same f) (v__law_sameS 1)
theorem n__law_same3 (F : Fs Y.K mg) (g__law_same : GFn Y mg base "_law_same" 4 ["one", "due"] [] (sp_sameR 2)) {f : Addr} {fd : FuncData} (D : FunD Y.K "_law_same" "_law_same" (defArgs s__law_same) (defBody s__law_same) (defScope s__law_same) [] [] f fd) : FnD Y mg base 5 f fd ["one", "due"] (sp_sameR 3) :=
  fnD D S__law_same (fun ds G Q E h => by obtain ⟨_, _, rfl, _⟩ := h; rfl) (w__law_same F g__law_same f) (v__law_sameS 2)
theorem n__law_sameN {f : Addr} {fd : FuncData} (D : FunD Y.K "_law_same" "_law_same" (defArgs s__law_same) (defBody s__law_same) (defScope s__law_same) [] [] f fd) : FnD Y mg base 1 f fd ["one", "due"] sp_no :=
  fnD (t := fun _ => dNever) D S__law_same (fun _ _ _ _ h => h.elim) (fun _ _ _ _ _ _ _ _ _ => Ss_never) (fun _ _ _ _ h => h.elim)
theorem bd_sure_teams {f : Addr} {fd : FuncData} (D : FunD Y.K "sure_teams" "sure_teams" (defArgs s_sure_teams) (defBody s_sure_teams) (defScope s_sure_teams) [] [("most", .int 1000)] f fd) : ∃ ds, Vals [V.int 1000] ds ∧ L2.Binds Y.K fd ["log", "first", "end", "most"] ds :=
  D.binds0 3 (by simp) rfl fun _ _ _ _ _ _ us ks hl hk => match us, hl, ks, hk with | [_, _, _], _, [_], _ => ⟨_, _, _, _, _, _, rfl, rfl, rfl⟩
theorem bk_sure_teams {f : Addr} {fd : FuncData} (D : FunD Y.K "sure_teams" "sure_teams" (defArgs s_sure_teams) (defBody s_sure_teams) (defScope s_sure_teams) [] [("most", .int 1000)] f fd) : KBn Y.K fd ["log", "first", "end", "most"] 3 ["most"] (fun us ws => us ++ ws) (fun vs zs => vs ++ zs) := by
  obtain ⟨oc, od, dV, kV, doc, pm, an, cdv, ct, osl, rfl, lk, hcd, hd, hk⟩ := D.ex
  rcases hd with ⟨_, rfl⟩ | ⟨n, _⟩
  · refine ⟨fun s us ws _ hl hw => ?_, kb_rel⟩
    match us, hl, ws, hw with
    | [a, b, c], _, [e], _ => exact fun M A E Q q => wpAny_pure q
  · exact (n rfl).elim
theorem nI_TooMany {f : Addr} {fd : FuncData} (D : FunD Y.K "__init__" "TooMany.__init__" (defArgs s_TooMany_init) (defBody s_TooMany_init) (defScope s_TooMany_init) [] [] f fd) : FnOk Y.P Y.w Y.K mg base (L2.CX Y.P Y.w) 1 f fd ["self", "most"] (spI Y.K ["most"]) :=
  initD (N := ["self", "most"]) D ⟨rfl, rfl, rfl, by decide +kernel, rfl, by decide +kernel, by decide +kernel⟩ rfl fun cdv A outer s H E => pss_cons (ps_ost (pv 0) (pv 1)) pss_nil
theorem bI_TooMany {f : Addr} {fd : FuncData} (D : FunD Y.K "__init__" "TooMany.__init__" (defArgs s_TooMany_init) (defBody s_TooMany_init) (defScope s_TooMany_init) [] [] f fd) : L2.Binds Y.K fd ["self", "most"] [] := D.bindsN fun _ _ _ _ _ _ us hl => match us, hl with | [_, _], _ => rfl
end
theorem chain {Y : Wd} {mg : Str → Option Value} {base h : Heap} (X : Y.K.In h) (G : h.Ns mainGlobals mg) (c : He.SaysD fa fn Y.K) (m : ex Y.K = true) (TB : LamX.TabB base mg (He.cT Y.K ("law", none)).1 (He.cT Y.K ("law", none)).2) {fd_law : FuncData} (D_law : FunD Y.K "law" "law" (defArgs s_law) (defBody s_law) (defScope s_law) [] [] (ga Y.K "law") fd_law) :
    FnD Y mg base 13 (ga Y.K "law") fd_law ["script"] (sp_law Y.K (He.cT Y.K ("law", none)).2) := by
  have F := fs_of X G c
  have LF := logF_of c m
  have WF := webF_of c
  have FX := fsx_of X G c m
  obtain ⟨fd_TooMany_init, E_TooMany_init⟩ := c.def_ 7 (d := d_TooMany_init) rfl
  have D_TooMany_init : FunD Y.K "__init__" "TooMany.__init__" (defArgs s_TooMany_init) (defBody s_TooMany_init) (defScope s_TooMany_init) [] [] (ma Y.K (ga Y.K "TooMany") "__init__") fd_TooMany_init := E_TooMany_init
  have hOex := Fx.oex_ok (ex_ok m (x := .oex "TooMany") (by simp [fx]))
  obtain ⟨hi1, hi2⟩ := Fx.init_ok (ex_ok m (x := .init "TooMany") (by simp [fx]))
  have gx : ∀ Z : Cx, Z.prog = Y.P → Z.w = Y.w → Z.K = Y.K → Z.mg = mg → Z.base = base → ExMk Z "TooMany" (ga Y.K "TooMany") 1 ["most"] := fun Z e1 e2 e3 e4 e5 =>
    ⟨by rw [e3]; exact hOex, by rw [e4]; exact FX.m_Many, fun f hf => by rw [e3, List.mem_singleton.mp hf]; exact FX.no, ⟨by decide, by decide⟩, _, _, _, by rw [e3]; exact hi1, by rw [e3]; exact hi2, by rw [e1, e2, e3, e4, e5]; exact nI_TooMany D_TooMany_init, by rw [e3]; exact bI_TooMany D_TooMany_init⟩
  obtain ⟨fd__law_same, E__law_same⟩ := c.def_ 35 (d := d__law_same) rfl
  have D__law_same : FunD Y.K "_law_same" "_law_same" (defArgs s__law_same) (defBody s__law_same) (defScope s__law_same) [] [] (ga Y.K "_law_same") fd__law_same := E__law_same
  have k__law_sameN := n__law_sameN (mg := mg) (base := base) D__law_same
  have g__law_sameN := gfn k__law_sameN D__law_same (He.glo_ok X G (c.fact 20 (f := .glo "_law_same") rfl)) (b__law_same D__law_same)
  obtain ⟨fd_is_integer, E_is_integer⟩ := c.def_ 0 (d := d_is_integer) rfl
  have D_is_integer : FunD Y.K "is_integer" "is_integer" (defArgs s_is_integer) (defBody s_is_integer) (defScope s_is_integer) [] [] (ga Y.K "is_integer") fd_is_integer := E_is_integer
  have k_is_integer := n_is_integer (mg := mg) (base := base) F D_is_integer
  have g_is_integer := gfn k_is_integer D_is_integer (He.glo_ok X G (c.fact 0 (f := .glo "is_integer") rfl)) (b_is_integer D_is_integer)
  obtain ⟨fd_is_within, E_is_within⟩ := c.def_ 1 (d := d_is_within) rfl
  have D_is_within : FunD Y.K "is_within" "is_within" (defArgs s_is_within) (defBody s_is_within) (defScope s_is_within) [] [] (ga Y.K "is_within") fd_is_within := E_is_within
  have k_is_within := n_is_within (mg := mg) (base := base) F g_is_integer D_is_within
  have g_is_within := gfn k_is_within D_is_within (He.glo_ok X G (c.fact 1 (f := .glo "is_within") rfl)) (b_is_within D_is_within)
  obtain ⟨fd_is_name, E_is_name⟩ := c.def_ 2 (d := d_is_name) rfl
  have D_is_name : FunD Y.K "is_name" "is_name" (defArgs s_is_name) (defBody s_is_name) (defScope s_is_name) [] [] (ga Y.K "is_name") fd_is_name := E_is_name
  have k_is_name := n_is_name (mg := mg) (base := base) F D_is_name
  have g_is_name := gfn k_is_name D_is_name (He.glo_ok X G (c.fact 2 (f := .glo "is_name") rfl)) (b_is_name D_is_name)
  obtain ⟨fd_is_event, E_is_event⟩ := c.def_ 3 (d := d_is_event) rfl
  have D_is_event : FunD Y.K "is_event" "is_event" (defArgs s_is_event) (defBody s_is_event) (defScope s_is_event) [] [] (ga Y.K "is_event") fd_is_event := E_is_event
  have k_is_event := n_is_event (mg := mg) (base := base) F g_is_name g_is_within D_is_event
  have g_is_event := gfn k_is_event D_is_event (He.glo_ok X G (c.fact 3 (f := .glo "is_event") rfl)) (b_is_event D_is_event)
  obtain ⟨fd_names_in, E_names_in⟩ := c.def_ 4 (d := d_names_in) rfl
  have D_names_in : FunD Y.K "names_in" "names_in" (defArgs s_names_in) (defBody s_names_in) (defScope s_names_in) [] [] (ga Y.K "names_in") fd_names_in := E_names_in
  have k_names_in := n_names_in (mg := mg) (base := base) F D_names_in
  have g_names_in := gfn k_names_in D_names_in (He.glo_ok X G (c.fact 4 (f := .glo "names_in") rfl)) (b_names_in D_names_in)
  have k_names_inG := n_names_inG (mg := mg) (base := base) F D_names_in
  have g_names_inG := gfn k_names_inG D_names_in (He.glo_ok X G (c.fact 4 (f := .glo "names_in") rfl)) (b_names_in D_names_in)
  obtain ⟨fd_take_names, E_take_names⟩ := c.def_ 8 (d := d_take_names) rfl
  have D_take_names : FunD Y.K "take_names" "take_names" (defArgs s_take_names) (defBody s_take_names) (defScope s_take_names) [] [] (ga Y.K "take_names") fd_take_names := E_take_names
  have k_take_names := n_take_names (mg := mg) (base := base) F g_names_in D_take_names
  have g_take_names := gfn k_take_names D_take_names (He.glo_ok X G (c.fact 5 (f := .glo "take_names") rfl)) (b_take_names D_take_names)
  obtain ⟨fd_check_days, E_check_days⟩ := c.def_ 9 (d := d_check_days) rfl
  have D_check_days : FunD Y.K "check_days" "check_days" (defArgs s_check_days) (defBody s_check_days) (defScope s_check_days) [] [] (ga Y.K "check_days") fd_check_days := E_check_days
  have k_check_days := n_check_days (mg := mg) (base := base) F g_is_event g_take_names D_check_days
  have g_check_days := gfn k_check_days D_check_days (He.glo_ok X G (c.fact 6 (f := .glo "check_days") rfl)) (b_check_days D_check_days)
  obtain ⟨fd_Log_init, E_Log_init⟩ := c.def_ 10 (d := d_Log_init) rfl
  have D_Log_init : FunD Y.K "__init__" "Log.__init__" (defArgs s_Log_init) (defBody s_Log_init) (defScope s_Log_init) [] [] (ma Y.K (ga Y.K "Log") "__init__") fd_Log_init := E_Log_init
  have k_Log_init := n_Log_init (mg := mg) (base := base) F LF g_check_days g_is_within D_Log_init
  have g_Log_init := cfn k_Log_init (He.glo_ok X G (c.fact 33 (f := .glo "Log") rfl)) (He.mkr_ok (c.fact 65 (f := .mkr "Log") rfl)) (b_Log_init D_Log_init)
  obtain ⟨fd_check_log, E_check_log⟩ := c.def_ 13 (d := d_check_log) rfl
  have D_check_log : FunD Y.K "check_log" "check_log" (defArgs s_check_log) (defBody s_check_log) (defScope s_check_log) [] [] (ga Y.K "check_log") fd_check_log := E_check_log
  have k_check_log := n_check_log (mg := mg) (base := base) F LF D_check_log
  have g_check_log := gfn k_check_log D_check_log (He.glo_ok X G (c.fact 7 (f := .glo "check_log") rfl)) (b_check_log D_check_log)
  obtain ⟨fd_check_stretch, E_check_stretch⟩ := c.def_ 14 (d := d_check_stretch) rfl
  have D_check_stretch : FunD Y.K "check_stretch" "check_stretch" (defArgs s_check_stretch) (defBody s_check_stretch) (defScope s_check_stretch) [] [] (ga Y.K "check_stretch") fd_check_stretch := E_check_stretch
  have k_check_stretch := n_check_stretch (mg := mg) (base := base) F LF g_check_log g_is_within D_check_stretch
  have g_check_stretch := gfn k_check_stretch D_check_stretch (He.glo_ok X G (c.fact 8 (f := .glo "check_stretch") rfl)) (b_check_stretch D_check_stretch)
  obtain ⟨fd_told_events, E_told_events⟩ := c.def_ 15 (d := d_told_events) rfl
  have D_told_events : FunD Y.K "told_events" "told_events" (defArgs s_told_events) (defBody s_told_events) (defScope s_told_events) [] [] (ga Y.K "told_events") fd_told_events := E_told_events
  have k_told_events := n_told_events (mg := mg) (base := base) F LF D_told_events
  have g_told_events := gfn k_told_events D_told_events (He.glo_ok X G (c.fact 9 (f := .glo "told_events") rfl)) (b_told_events D_told_events)
  obtain ⟨fd_names_of, E_names_of⟩ := c.def_ 16 (d := d_names_of) rfl
  have D_names_of : FunD Y.K "names_of" "names_of" (defArgs s_names_of) (defBody s_names_of) (defScope s_names_of) [] [] (ga Y.K "names_of") fd_names_of := E_names_of
  have k_names_of := n_names_of (mg := mg) (base := base) F g_names_inG D_names_of
  have g_names_of := gfn k_names_of D_names_of (He.glo_ok X G (c.fact 10 (f := .glo "names_of") rfl)) (b_names_of D_names_of)
  obtain ⟨fd_Web_ties, E_Web_ties⟩ := c.def_ 18 (d := d_Web_ties) rfl
  have D_Web_ties : FunD Y.K "ties" "Web.ties" (defArgs s_Web_ties) (defBody s_Web_ties) (defScope s_Web_ties) [] [] (ma Y.K (ga Y.K "Web") "ties") fd_Web_ties := E_Web_ties
  have k_Web_ties := n_Web_ties (mg := mg) (base := base) F WF D_Web_ties
  have g_Web_ties := mfn k_Web_ties (He.cls_ok (c.fact 69 (f := .cls "Web") rfl)) (He.meth_ok (c.fact 79 (f := .meth "Web" "ties") rfl)) (b_Web_ties D_Web_ties)
  obtain ⟨fd_Web_grow, E_Web_grow⟩ := c.def_ 19 (d := d_Web_grow) rfl
  have D_Web_grow : FunD Y.K "grow" "Web.grow" (defArgs s_Web_grow) (defBody s_Web_grow) (defScope s_Web_grow) [] [] (ma Y.K (ga Y.K "Web") "grow") fd_Web_grow := E_Web_grow
  have k_Web_grow := n_Web_grow (mg := mg) (base := base) F WF g_Web_ties D_Web_grow
  have g_Web_grow := mfn k_Web_grow (He.cls_ok (c.fact 69 (f := .cls "Web") rfl)) (He.meth_ok (c.fact 80 (f := .meth "Web" "grow") rfl)) (b_Web_grow D_Web_grow)
  obtain ⟨fd_Web_init, E_Web_init⟩ := c.def_ 17 (d := d_Web_init) rfl
  have D_Web_init : FunD Y.K "__init__" "Web.__init__" (defArgs s_Web_init) (defBody s_Web_init) (defScope s_Web_init) [] [] (ma Y.K (ga Y.K "Web") "__init__") fd_Web_init := E_Web_init
  have k_Web_init := n_Web_init (mg := mg) (base := base) F WF g_Web_grow g_names_of D_Web_init
  have g_Web_init := cfn k_Web_init (He.glo_ok X G (c.fact 34 (f := .glo "Web") rfl)) (He.mkr_ok (c.fact 70 (f := .mkr "Web") rfl)) (b_Web_init D_Web_init)
  obtain ⟨fd_web_of, E_web_of⟩ := c.def_ 26 (d := d_web_of) rfl
  have D_web_of : FunD Y.K "web_of" "web_of" (defArgs s_web_of) (defBody s_web_of) (defScope s_web_of) [] [] (ga Y.K "web_of") fd_web_of := E_web_of
  have k_web_of := n_web_of (mg := mg) (base := base) F WF LF g_Web_init g_told_events D_web_of
  have g_web_of := gfn k_web_of D_web_of (He.glo_ok X G (c.fact 11 (f := .glo "web_of") rfl)) (b_web_of D_web_of)
  obtain ⟨fd_Web_pieces, E_Web_pieces⟩ := c.def_ 24 (d := d_Web_pieces) rfl
  have D_Web_pieces : FunD Y.K "pieces" "Web.pieces" (defArgs s_Web_pieces) (defBody s_Web_pieces) (defScope s_Web_pieces) [] [] (ma Y.K (ga Y.K "Web") "pieces") fd_Web_pieces := E_Web_pieces
  have k_Web_pieces := n_Web_pieces (mg := mg) (base := base) F WF D_Web_pieces
  have g_Web_pieces := mfn k_Web_pieces (He.cls_ok (c.fact 69 (f := .cls "Web") rfl)) (He.meth_ok (c.fact 85 (f := .meth "Web" "pieces") rfl)) (b_Web_pieces D_Web_pieces)
  obtain ⟨fd_Web_members, E_Web_members⟩ := c.def_ 25 (d := d_Web_members) rfl
  have D_Web_members : FunD Y.K "members" "Web.members" (defArgs s_Web_members) (defBody s_Web_members) (defScope s_Web_members) [] [] (ma Y.K (ga Y.K "Web") "members") fd_Web_members := E_Web_members
  have k_Web_members := n_Web_members (mg := mg) (base := base) F WF D_Web_members
  have g_Web_members := mfn k_Web_members (He.cls_ok (c.fact 69 (f := .cls "Web") rfl)) (He.meth_ok (c.fact 86 (f := .meth "Web" "members") rfl)) (b_Web_members D_Web_members)
  obtain ⟨fd_check_most, E_check_most⟩ := c.def_ 27 (d := d_check_most) rfl
  have D_check_most : FunD Y.K "check_most" "check_most" (defArgs s_check_most) (defBody s_check_most) (defScope s_check_most) [] [] (ga Y.K "check_most") fd_check_most := E_check_most
  have k_check_most := n_check_most (mg := mg) (base := base) F g_is_within D_check_most
  have g_check_most := gfn k_check_most D_check_most (He.glo_ok X G (c.fact 12 (f := .glo "check_most") rfl)) (b_check_most D_check_most)
  obtain ⟨fd_balanced_web, E_balanced_web⟩ := c.def_ 28 (d := d_balanced_web) rfl
  have D_balanced_web : FunD Y.K "balanced_web" "balanced_web" (defArgs s_balanced_web) (defBody s_balanced_web) (defScope s_balanced_web) [] [] (ga Y.K "balanced_web") fd_balanced_web := E_balanced_web
  have k_balanced_web := n_balanced_web (mg := mg) (base := base) F WF g_web_of D_balanced_web
  have g_balanced_web := gfn k_balanced_web D_balanced_web (He.glo_ok X G (c.fact 13 (f := .glo "balanced_web") rfl)) (b_balanced_web D_balanced_web)
  obtain ⟨fd_piece_rows, E_piece_rows⟩ := c.def_ 29 (d := d_piece_rows) rfl
  have D_piece_rows : FunD Y.K "piece_rows" "piece_rows" (defArgs s_piece_rows) (defBody s_piece_rows) (defScope s_piece_rows) [] [] (ga Y.K "piece_rows") fd_piece_rows := E_piece_rows
  have k_piece_rows := n_piece_rows (mg := mg) (base := base) F WF g_Web_members D_piece_rows
  have g_piece_rows := gfn k_piece_rows D_piece_rows (He.glo_ok X G (c.fact 14 (f := .glo "piece_rows") rfl)) (b_piece_rows D_piece_rows)
  obtain ⟨fd_sure_teams, E_sure_teams⟩ := c.def_ 30 (d := d_sure_teams) rfl
  have D_sure_teams : FunD Y.K "sure_teams" "sure_teams" (defArgs s_sure_teams) (defBody s_sure_teams) (defScope s_sure_teams) [] [("most", .int 1000)] (ga Y.K "sure_teams") fd_sure_teams := E_sure_teams
  have k_sure_teams := n_sure_teams (mg := mg) (base := base) F WF LF g_Web_pieces g_balanced_web g_check_most g_check_stretch g_piece_rows gx D_sure_teams
  obtain ⟨fd__law_hand, E__law_hand⟩ := c.def_ 31 (d := d__law_hand) rfl
  have D__law_hand : FunD Y.K "_law_hand" "_law_hand" (defArgs s__law_hand) (defBody s__law_hand) (defScope s__law_hand) [] [] (ga Y.K "_law_hand") fd__law_hand := E__law_hand
  have k__law_hand := n__law_hand (mg := mg) (base := base) F D__law_hand
  have g__law_hand := gfn k__law_hand D__law_hand (He.glo_ok X G (c.fact 16 (f := .glo "_law_hand") rfl)) (b__law_hand D__law_hand)
  obtain ⟨fd__law_draw, E__law_draw⟩ := c.def_ 32 (d := d__law_draw) rfl
  have D__law_draw : FunD Y.K "_law_draw" "_law_draw" (defArgs s__law_draw) (defBody s__law_draw) (defScope s__law_draw) [] [] (ga Y.K "_law_draw") fd__law_draw := E__law_draw
  have k__law_draw := n__law_draw (mg := mg) (base := base) F D__law_draw
  have g__law_draw := gfn k__law_draw D__law_draw (He.glo_ok X G (c.fact 17 (f := .glo "_law_draw") rfl)) (b__law_draw D__law_draw)
  obtain ⟨fd__law_any, E__law_any⟩ := c.def_ 33 (d := d__law_any) rfl
  have D__law_any : FunD Y.K "_law_any" "_law_any" (defArgs s__law_any) (defBody s__law_any) (defScope s__law_any) [] [] (ga Y.K "_law_any") fd__law_any := E__law_any
  have k__law_any := n__law_any (mg := mg) (base := base) F g__law_draw D__law_any
  have g__law_any := gfn k__law_any D__law_any (He.glo_ok X G (c.fact 18 (f := .glo "_law_any") rfl)) (b__law_any D__law_any)
  obtain ⟨fd__law_mixed, E__law_mixed⟩ := c.def_ 34 (d := d__law_mixed) rfl
  have D__law_mixed : FunD Y.K "_law_mixed" "_law_mixed" (defArgs s__law_mixed) (defBody s__law_mixed) (defScope s__law_mixed) [] [] (ga Y.K "_law_mixed") fd__law_mixed := E__law_mixed
  have k__law_mixed := n__law_mixed (mg := mg) (base := base) F g__law_draw D__law_mixed
  have g__law_mixed := gfn k__law_mixed D__law_mixed (He.glo_ok X G (c.fact 19 (f := .glo "_law_mixed") rfl)) (b__law_mixed D__law_mixed)
  obtain ⟨fd__law_piece, E__law_piece⟩ := c.def_ 36 (d := d__law_piece) rfl
  have D__law_piece : FunD Y.K "_law_piece" "_law_piece" (defArgs s__law_piece) (defBody s__law_piece) (defScope s__law_piece) [] [] (ga Y.K "_law_piece") fd__law_piece := E__law_piece
  have k__law_piece := n__law_piece (mg := mg) (base := base) F g__law_draw g__law_mixed D__law_piece
  have g__law_piece := gfn k__law_piece D__law_piece (He.glo_ok X G (c.fact 21 (f := .glo "_law_piece") rfl)) (b__law_piece D__law_piece)
  obtain ⟨fd__law_teams, E__law_teams⟩ := c.def_ 37 (d := d__law_teams) rfl
  have D__law_teams : FunD Y.K "_law_teams" "_law_teams" (defArgs s__law_teams) (defBody s__law_teams) (defScope s__law_teams) [] [] (ga Y.K "_law_teams") fd__law_teams := E__law_teams
  have k__law_teams := n__law_teams (mg := mg) (base := base) F D__law_teams
  have g__law_teams := gfn k__law_teams D__law_teams (He.glo_ok X G (c.fact 22 (f := .glo "_law_teams") rfl)) (b__law_teams D__law_teams)
  obtain ⟨fd__law_days_of, E__law_days_of⟩ := c.def_ 38 (d := d__law_days_of) rfl
  have D__law_days_of : FunD Y.K "_law_days_of" "_law_days_of" (defArgs s__law_days_of) (defBody s__law_days_of) (defScope s__law_days_of) [] [] (ga Y.K "_law_days_of") fd__law_days_of := E__law_days_of
  have k__law_days_of := n__law_days_of (mg := mg) (base := base) F g__law_draw g__law_mixed D__law_days_of
  have g__law_days_of := gfn k__law_days_of D__law_days_of (He.glo_ok X G (c.fact 23 (f := .glo "_law_days_of") rfl)) (b__law_days_of D__law_days_of)
  have k__law_same0 := n__law_same0 (mg := mg) (base := base) F g__law_sameN D__law_same
  have g__law_same0 := gfn k__law_same0 D__law_same (He.glo_ok X G (c.fact 20 (f := .glo "_law_same") rfl)) (b__law_same D__law_same)
  have k__law_same1 := n__law_same1 (mg := mg) (base := base) F g__law_same0 D__law_same
  have g__law_same1 := gfn k__law_same1 D__law_same (He.glo_ok X G (c.fact 20 (f := .glo "_law_same") rfl)) (b__law_same D__law_same)
  have k__law_same2 := n__law_same2 (mg := mg) (base := base) F g__law_same1 D__law_same
  have g__law_same2 := gfn k__law_same2 D__law_same (He.glo_ok X G (c.fact 20 (f := .glo "_law_same") rfl)) (b__law_same D__law_same)
  have k__law_same3 := n__law_same3 (mg := mg) (base := base) F g__law_same2 D__law_same
  have g__law_same3 := gfn k__law_same3 D__law_same (He.glo_ok X G (c.fact 20 (f := .glo "_law_same") rfl)) (b__law_same D__law_same)
  obtain ⟨fd__law_said, E__law_said⟩ := c.def_ 39 (d := d__law_said) rfl
  have D__law_said : FunD Y.K "_law_said" "_law_said" (defArgs s__law_said) (defBody s__law_said) (defScope s__law_said) [] [] (ga Y.K "_law_said") fd__law_said := E__law_said
  obtain ⟨dsA, vA, bA⟩ := bd_sure_teams D_sure_teams
  have gd_sure_teams : GFn Y mg base "sure_teams" 8 ["log", "first", "end", "most"] [.int 1000] (sp_sure_teams Y.K) := ⟨_, _, [V.int 1000], dsA, k_sure_teams, He.glo_ok X G (c.fact 15 (f := .glo "sure_teams") rfl), D_sure_teams.kp, bA, vA, fun _ => RpL.cons rfl RpL.nil⟩
  have gk_sure_teams : GFnK Y mg base "sure_teams" 8 ["log", "first", "end", "most"] ["most"] (sp_sure_teams Y.K) := ⟨_, _, k_sure_teams, He.glo_ok X G (c.fact 15 (f := .glo "sure_teams") rfl), D_sure_teams.kp, bk_sure_teams D_sure_teams⟩
  have bS := D__law_said.bindsN (ps := ["call"]) fun _ _ _ _ _ _ us hl => match us, hl with | [_], _ => rfl
  obtain ⟨oc, od, dV, kV, doc, pm, an, cdg, ct, osl, rfl, lkS, hcS, _, _⟩ := D__law_said.ex
  exact fnDc (p := ("law", none)) D_law rfl S_law (fun ds G Q E h => by obtain ⟨_, _, rfl, _⟩ := h; rfl) (w_law F g_Log_init g__law_any g__law_days_of g__law_hand g__law_mixed g__law_piece g__law_same3 g__law_teams gk_sure_teams gd_sure_teams FX (He.glo_ok X G (c.fact 24 (f := .glo "_law_said") rfl)) D__law_said.kp lkS hcS bS TB _) v_law
theorem law_at {w : World} {K : PySem.W.Frag} {h : Heap} {mg : Str → Option Value} {f : Addr} (X : K.In h) (G : h.Ns mainGlobals mg) (hfa : mg ("law" : Str) = some (.ref f)) (c : He.SaysX fa fn [] [("law", none)] ex w h K) :
    LamX.LawAtS PySem.Challenge.rw_partkeys_k58_sure_teams_at_a_thousand w K (L2.CX (PySem.Challenge.rw_partkeys_k58_sure_teams_at_a_thousand).prog w) 13 63 "script" mg f h := by
  have cd := c.t.d
  have e := hfa.symm.trans (He.glo_ok X G (cd.fact 25 (f := .glo "law") rfl))
  cases e
  let Y : Wd := ⟨(PySem.Challenge.rw_partkeys_k58_sure_teams_at_a_thousand).prog, w, K⟩
  obtain ⟨fd, E⟩ := cd.def_ 40 (d := d_law) rfl
  have D : FunD K "law" "law" (defArgs s_law) (defBody s_law) (defScope s_law) [] [] (ga K "law") fd := E
  have hb : ∀ (s : Shared) (v : Value), BindsTo s fd ⟨[v], []⟩ [("script", v)] := fun s v => (D.bindsA (ps := ["script"]) fun _ _ _ _ _ _ us hl => match us, hl with | [_], _ => rfl) s [v] rfl
  refine ⟨fd, [He.cT K ("law", none)], lSp Y (sp_law K (He.cT K ("law", none)).2), fun p hp => ?_, fun p hp => ?_, fun p hp => ?_, hb, fun H a ns hl hz ht hS => ?_, fun base _ _ hT => chain (Y := Y) X G cd c.more (hT _ (List.mem_singleton.mpr rfl)) D⟩
  · rw [List.mem_singleton.mp hp]; exact c.empty _ (List.mem_singleton.mpr rfl)
  · rw [List.mem_singleton.mp hp]; exact c.out _ (List.mem_singleton.mpr rfl)
  · rw [List.mem_singleton.mp hp]; exact PySem.W.codeHd_of_K X (c.hd _ (List.mem_singleton.mpr rfl))
  · have ht1 : ∀ t ∈ [(He.cT K ("law", none)).2], H t = some (.tbl #[]) := fun t q => by rw [List.mem_singleton.mp q]; exact ht _ (List.mem_singleton.mpr rfl)
    have nk : ∀ t ∈ [(He.cT K ("law", none)).2], K.lookup t = none := fun t q => by rw [List.mem_singleton.mp q]; exact c.out _ (List.mem_singleton.mpr rfl)
    exact ⟨[.ref a], lawG H a [(He.cT K ("law", none)).2], fun d _ => d = .bl true, DX0, RpL.cons rfl RpL.nil, lawG_rep ht1, ⟨a, ns, rfl, lawG_scr hS, lawG_tab hS ht1 nk (List.mem_singleton.mpr rfl), fun _ => rfl⟩, fun d G v H2 q x r p => by subst q; exact p, KX.zero⟩
end HD
open PySem PySem.W PySem.Calls PyProof.Rows
theorem PySem.Challenge.cw_partkeys_k58_sure_teams_at_a_thousand_holds : PySem.Challenge.rw_partkeys_k58_sure_teams_at_a_thousand.Holds := by
  w_on; o_law
  refine HandSHeadRun.head_any (r := OpenLaw.row PySem.Challenge.rw_partkeys_k58_sure_teams_at_a_thousand) (q := view (OpenLaw.row PySem.Challenge.rw_partkeys_k58_sure_teams_at_a_thousand).prog [56]) (H := HD.hk) (ob := HD.ob) (M := 6000) (loose := HD.loose) (d := HandSHeadRun.topDef (OpenLaw.row PySem.Challenge.rw_partkeys_k58_sure_teams_at_a_thousand).prog 56) (kwd := []) HD.ob_eq
    (by kernel_rfl) (fun s => by kernel_rfl) HD.run (by kernel_rfl) (by kernel_rfl) (by kernel_rfl) (by rfl) (by first | assumption | decide +kernel) (by decide +kernel) ⟨rfl, rfl, rfl, rfl, rfl, by decide +kernel⟩ ?hw ?hc
  case hw => w_witness2
  case hc =>
    refine LamX.walk_ofTsE (l := PySem.Challenge.rw_partkeys_k58_sure_teams_at_a_thousand) (n := 63) (k := 13) (x := "script") (CX := fun w => L2.CX (PySem.Challenge.rw_partkeys_k58_sure_teams_at_a_thousand).prog w) rfl (by decide) (by kernel_rfl) ⟨by decide, by decide, by decide⟩ ?F (fun w H s e s2 z => HD.cx_none z)
    intro w mg fa h Y G hmg0
    obtain ⟨K, KX, c⟩ := Y
    have hmg : mg ("law" : PySem.Str) = some (.ref fa) := by
      have e : (HandSHeadRun.topDef (OpenLaw.row PySem.Challenge.rw_partkeys_k58_sure_teams_at_a_thousand).prog 56).name = ("law" : PySem.Str) := by kernel_rfl
      rw [← e]
      exact hmg0
    exact ⟨K, KX, HD.law_at KX G hmg c⟩

